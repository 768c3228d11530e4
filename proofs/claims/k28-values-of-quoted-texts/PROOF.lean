import PyProof.Rows.All
import Wide.All
import OpenK.AllK
import Wide.FinOn
import HandS.ForMost
import HandS.IsInst
import HandS.StrMore
import HandS.More
import HandS.Codes
import HandS.Flow
import HandS.Style
import HandS.Walk
import HandS.RaiseMore
import HandS.Defaults
import HandS.Evl
import HandS.ReplaceLit
import HandS.ReplaceList
import HandS.ReplaceDef
import HandS.ForExc
import HandS.CallSlots
import HandS.TupAny
import HandS.Lambda
import HandS.Wide
import HandS.ExcInit
import HandS.ExcField
import HandS.ExcIs
import KE.GoesMore
import KE.KIntText
import PyProof.Rows.StrOr
import PyProof.Rows.Digits
import HandS.Replace
import HandS.Property
import HandS.Zip
import HandS.TupLe
import PyProof.DefCall
import HandS.ClsMeth
import HandS.EndTab
import HandS.HeadWalk
import HandS.Head0
import HandS.Head1
import HandS.Head2
import HandS.HeadEnd
import HandS.HeadHook1
import HandS.HeadHook2
import HandS.HeadHook3
import HandS.HeadHook4
import Wide.Once
import HandS.NoneIn
import HandS.Small
import HandS.Flt
import HandS.Iter
import HandS.ExcOwn
import HandS.SortRule
import HandS.SortInts
import HandS.DictTup
import HandS.TryMany
import PySem.Challenge.RW_anchorpages_k28_whole_values_of_quoted_t
set_option Elab.async false
set_option linter.all false
set_option maxRecDepth 100000
set_option maxHeartbeats 4000000
namespace Ap
open PySem PySem.Spec PyProof.Rows L2 SX
theorem Jz {H : Hp} {p : Addr} {o : HO} (h : H p = none) : Same H (upd H p o) := fun b x e => by
  rw [upd_ne (ne_of_none e h)]
  exact e
theorem fin {Q : VK} {H H' : Hp} {b b' : Bool} (q : ∀ H', Same H H' → Q (.bl b) H') (sm : Same H H') (e : b' = b) : Q (.bl b') H' := by
  rw [e]; exact q H' sm
def cutL {α : Type} (l : List α) (lo hi : Option Int) : List α := (l.drop (HT.sIx l.length 0 lo)).take (HT.sIx l.length l.length hi - HT.sIx l.length 0 lo)
theorem Ziy (l : List Nat) (lo hi : Option Int) : cutS (S l) lo hi = S (cutL l lo hi) := rfl
theorem Ziz {α : Type} (l : List α) (n : Nat) : cutL l none (some (n : Int)) = l.take n := by
  unfold cutL
  rw [HT.sIx_nat,HT.sIx_none,Nat.sub_zero,List.drop_zero]
  by_cases h : n ≤ l.length
  · rw [Nat.min_eq_left h]
  · rw [Nat.min_eq_right (by omega),List.take_of_length_le (Nat.le_refl _),List.take_of_length_le (by omega)]
theorem Zbp {α : Type} (l : List α) (m n : Nat) : cutL l (some (m : Int)) (some (n : Int)) = (l.take n).drop m := by
  unfold cutL
  rw [HT.sIx_nat,HT.sIx_nat,List.drop_take]
  by_cases h : m ≤ l.length
  · rw [Nat.min_eq_left h]
    by_cases h2 : n ≤ l.length
    · rw [Nat.min_eq_left h2]
    · rw [Nat.min_eq_right (by omega),List.take_of_length_le (by rw [List.length_drop]; exact Nat.le_refl _),List.take_of_length_le (by rw [List.length_drop]; omega)]
  · rw [Nat.min_eq_right (show l.length ≤ m by omega),List.drop_of_length_le (Nat.le_refl _),List.drop_of_length_le (show l.length ≤ m by omega),List.take_nil,List.take_nil]
theorem szS {l : List Nat} (h : l.length ≤ 100000) : (S l).length ≤ sizeLine := by
  rw [S_len]; exact Nat.le_trans h (by decide)
theorem eqV_S (a b : List Nat) : eqV (.str (S a)) (.str (S b)) = decide (b = a) := by
  show (S a == S b) = _
  rw [S_beq_eq]
  by_cases h : a = b
  · rw [decide_eq_true h,decide_eq_true h.symm]
  · rw [decide_eq_false h,decide_eq_false (Ne.symm h)]
theorem Z6p : ∀ zs : List Str,(∀ z ∈ zs,PyData.strOk z = true) → PyData.canLayAll0 (zs.map PyData.str) = true
  | [],_ => by simp [PyData.canLayAll0]
  | z :: r,h => by
    simp only [List.map_cons,PyData.canLayAll0,PyData.canLay0,Bool.and_eq_true]
    exact ⟨h z List.mem_cons_self,Z6p r fun y hy => h y (List.mem_cons_of_mem _ hy)⟩
theorem Z45 : ∀ zs : List Str,PyData.depthAll (zs.map PyData.str) ≤ 1
  | [] => by simp [PyData.depthAll]
  | z :: r => by
    have := Z45 r
    simp only [List.map_cons,PyData.depthAll,PyData.depth]
    omega
theorem Z3j {zs : List Str} (h : ∀ z ∈ zs,PyData.strOk z = true) : SeqAt.shaped (.list (zs.map PyData.str)) = true := by
  have h1 := Z45 zs
  have h2 : PyData.depth (.list (zs.map PyData.str)) ≤ 64 := by simp only [PyData.depth]; omega
  show (PyData.canLay0 (.list (zs.map PyData.str)) && decide (PyData.depth (.list (zs.map PyData.str)) ≤ 64)) = true
  rw [Bool.and_eq_true]
  exact ⟨by simp only [PyData.canLay0]; exact Z6p zs h,decide_eq_true h2⟩
def SameX (a : Addr) (H H' : Hp) : Prop := ∀ b o, b ≠ a → H b = some o → H' b = some o
theorem SameX.refl (a : Addr) (H : Hp) : SameX a H H := fun _ _ _ h => h
theorem SameX.of {a : Addr} {H H' : Hp} (s : Same H H') : SameX a H H' := fun b o _ h => s b o h
theorem SameX.trans {a : Addr} {H H1 H2 : Hp} (s : SameX a H H1) (t : SameX a H1 H2) : SameX a H H2 := fun b o n h => t b o n (s b o n h)
theorem SameX.upd {a : Addr} {H H' : Hp} {o : HO} (s : SameX a H H') : SameX a H (L2.upd H' a o) := fun b u n h => by
  rw [upd_ne n]; exact s b u n h
theorem SameX.thn {a : Addr} {H H1 H2 : Hp} (s : SameX a H H1) (t : Same H1 H2) : SameX a H H2 := s.trans (.of t)
theorem SameX.seqL {K : PySem.W.Frag} {a b : Addr} {H H' : Hp} {xs : List V} (s : SameX a H H') (hn : b ≠ a) (h : SqL K H b xs) : SqL K H' b xs := by
  rcases h with (h | ⟨o,h⟩) | h
  · exact .inl (.inl (s _ _ hn h))
  · exact .inl (.inr ⟨o,s _ _ hn h⟩)
  · exact .inr h
def StOk (ns : List Int) : Prop := ns.length = 1 ∨ ns.length = 3
def DrAt (a : Addr) (H : Hp) : Prop := ∃ ns : List Int,H a = some (.lst (ns.map V.int)) ∧ StOk ns
theorem DrAt.same {a : Addr} {H H' : Hp} (d : DrAt a H) (s : Same H H') : DrAt a H' := let ⟨ns, h, k⟩ := d; ⟨ns, s _ _ h, k⟩
theorem DrAt.ne {a p : Addr} {H : Hp} (d : DrAt a H) (h : H p = none) : p ≠ a := fun e => by
  obtain ⟨ns,ha,_⟩ := d
  rw [e,ha] at h; cases h
theorem DrAt.upd {a p : Addr} {H : Hp} {o : HO} (d : DrAt a H) (h : p ≠ a) : DrAt a (upd H p o) := by
  obtain ⟨ns,ha,k⟩ := d
  exact ⟨ns,by rw [upd_ne (Ne.symm h)]; exact ha,k⟩
theorem SameX.new {a p : Addr} {H H' : Hp} {o : HO} (s : SameX a H H') (h : H' p = none) : SameX a H (L2.upd H' p o) := s.thn (Jz h)
theorem SameX.mut {a p : Addr} {H H' : Hp} {o : HO} (s : SameX a H H') (h : H p = none) : SameX a H (L2.upd H' p o) := fun b u n e => by
  rw [upd_ne (ne_of_none e h)]; exact s b u n e
end Ap
set_option maxHeartbeats 4000000
namespace Ap
open PySem PySem.Spec PyProof.Rows L2 SX
structure GOk (P : Program) (w : World) (K : PySem.W.Frag) (mg : Str → Option Value) (base : Heap) (C : CXT) (k : Nat)
    (f : Addr) (fd : FuncData) (ps : List Str) (sp : Sp) : Prop where
  len : ∀ vs H Q E,sp vs H Q E → vs.length = ps.length
  run : ∀ (A : Around) (outer : List Env) (s : Shared) (H : Hp) (as : Args) (us : List Value) (vs : List V) (Q : VK) (E : XK),
    Room k A → A.guards = some [] → Env0 P w K mg base A outer s H → BindsTo s fd as (ps.zip us) → Vals vs us →
    sp vs H Q E → codeAny (model P w) A (.call (.ref f) as) (CR C outer P w H s Q E) s
theorem GOk.of {P : Program} {w : World} {K : PySem.W.Frag} {mg : Str → Option Value} {base : Heap} {C : CXT} {k : Nat}
    {f : Addr} {fd : FuncData} {ps : List Str} {sp : Sp} (F : FnOk P w K mg base C k f fd ps sp) : GOk P w K mg base C k f fd ps sp :=
  ⟨F.len,fun A outer s H as us vs Q E r _ => F.run A outer s H as us vs Q E r⟩
end Ap
set_option maxHeartbeats 4000000
namespace Ap
open PySem PySem.Spec PyProof.Rows L2 SX
def repL (n : Nat) (l : List Nat) : List Nat := (List.replicate n l).flatten
theorem Zcg (a : Array Nat) : ∀ (n : Nat) (b : Array Nat),((List.replicate n a).foldl (· ++ ·) b).toList = b.toList ++ repL n a.toList
  | 0,b => by simp [repL]
  | n + 1,b => by
    rw [List.replicate_succ,List.foldl_cons,Zcg a n]
    unfold repL
    rw [List.replicate_succ,List.flatten_cons,Array.toList_append,List.append_assoc]
theorem Zfz (n : Nat) : repL n [] = [] := by
  induction n with
  | zero => rfl
  | succ n ih => unfold repL at *; rw [List.replicate_succ,List.flatten_cons,ih]; rfl
theorem Zg0 (c n : Nat) : repL n [c] = List.replicate n c := by
  induction n with
  | zero => rfl
  | succ n ih => unfold repL at *; rw [List.replicate_succ,List.flatten_cons,ih]; rfl
theorem Zg1 (n : Nat) (l : List Nat) : (repL n l).length = n * l.length := by
  induction n with
  | zero => simp [repL]
  | succ n ih => unfold repL at *; rw [List.replicate_succ,List.flatten_cons,List.length_append,ih,Nat.succ_mul,Nat.add_comm]
def rMulS : R2 := fun x y H Q => ∃ (l : List Nat) (k : Int),x = .str (S l) ∧ y = .int k ∧ -100000 ≤ k ∧ k ≤ 100000 ∧ l.length * k.toNat ≤ 100000 ∧ Q (.str (S (repL k.toNat l))) H
theorem Zd9 {X : Cx} : OpR X (binaryOp .Mult) rMulS := by
  intro pins s σ H x y v u Q I rx ry h
  obtain ⟨l,k,rfl,rfl,k0,k1,hz,q⟩ := h
  obtain ⟨t,rfl⟩ := rx
  obtain ⟨t2,rfl⟩ := ry
  have hl : (S l).length = l.length := S_len l
  refine PySem.P.mul_str ?_ (fun h1 h2 => ?_) (fun h1 h2 => ?_) ?_
  · rw [decide_eq_false (by omega),decide_eq_false (by omega)]; rfl
  · rw [hl]
    obtain ⟨m,rfl⟩ : ∃ m : Nat,k = (m : Int) := ⟨k.toNat,by omega⟩
    have hm : 0 < m := by omega
    have : l.length ≤ 100000 := by
      have : l.length * 1 ≤ l.length * m := Nat.mul_le_mul_left _ hm
      simp only [Int.toNat_natCast] at hz
      omega
    have h3 : (100000 : Int) ≤ (2 ^ 63 - 1) / (m : Int) := by
      rw [Int.le_ediv_iff_mul_le (by omega)]
      have : (m : Int) ≤ 100000 := k1
      omega
    omega
  · rw [hl]
    unfold Builtin.Str.tooLong
    exact decide_eq_false (by have := sizeLine_eq; omega)
  · by_cases h1 : k < 1
    · rw [if_pos h1]
      have e : k.toNat = 0 := by omega
      rw [e] at q
      exact ⟨by decide,⟨.str (S []),H,I.tok _,⟨_,rfl⟩,q⟩⟩
    · rw [if_neg h1]
      by_cases h2 : (k == 1 || (S l).length == 0) = true
      · rw [if_pos h2]
        have e : repL k.toNat l = l := by
          rw [hl,Bool.or_eq_true,beq_iff_eq,beq_iff_eq] at h2
          rcases h2 with rfl | h2
          · show repL 1 l = l
            simp [repL]
          · rw [List.length_eq_zero_iff.mp h2]; exact Zfz _
        rw [e] at q
        exact ⟨.str (S l),H,I,⟨t,rfl⟩,q⟩
      · rw [if_neg h2]
        have e : (⟨(List.replicate k.toNat (S l).cps).foldl (· ++ ·) #[]⟩ : Str) = S (repL k.toNat l) := by
          have := Zcg (S l).cps k.toNat #[]
          rw [show (S l).cps.toList = l from rfl] at this
          show Str.mk _ = Str.mk _
          congr 1
          apply Array.ext'
          rw [this]; rfl
        rw [e]
        refine ⟨?_,⟨.str _,H,I.tok _,⟨_,rfl⟩,q⟩⟩
        rw [S_len,Zg1,Nat.mul_comm]
        have := sizeLine_eq
        omega
def IteS (x : Str) : It :=
  ⟨fun i _ => i < x.cps.size, fun i H v H' => ∃ T c, v = .ref T ∧ H T = none ∧ H' = upd H T (.tup [.int (i : Nat), .str ⟨#[c]⟩]) ∧ x.cps[i]? = some c, fun i _ => i = x.cps.size⟩
theorem Zaj {P : Program} {w : World} {A : Around} (hh : A.handled = none) (it : Addr) (x : Str) (t : Tok) :
    Draws P w A it [it] x.cps.size (fun i v => ∃ c u,x.cps[i]? = some c ∧ v = .str ⟨#[c]⟩ u) (fun i h => h.IsStrIter it (strIterType x) x t i) := by
  unfold strIterType
  split
  · exact Draws.strAscii hh it x t
  · exact Draws.strWide hh it x t
theorem Zda {P : Program} {w : World} {K : PySem.W.Frag} {elts : List Expr} {kk : Nat} {tpos : Pos} (x : Str) (t : Tok) (e it : Addr) :
    Turn P w K (.Tuple elts kk tpos) (IteS x) [e,it] e (fun i h => (∃ old,IsEnum h e it ((i : Nat) : Int) old) ∧ h.IsStrIter it (strIterType x) x t i ∧ e ≠ it) where
  mem := List.mem_cons_self
  obj := by
    intro i h ⟨⟨old,he⟩,⟨o,ho,hc,hd⟩,_⟩ b hb
    rcases List.mem_cons.mp hb with rfl | hb
    · exact ⟨_,he,fun v q => nomatch q⟩
    · cases List.mem_singleton.mp hb
      exact ⟨o,ho,fun v q => by rw [hd] at q; cases q⟩
  keep := by
    intro i h h' ⟨⟨old, he⟩, ⟨o, ho, r⟩, hne⟩ k
    exact ⟨⟨old,k e List.mem_cons_self _ he⟩,⟨o,k it (List.mem_cons_of_mem _ List.mem_cons_self) o ho,r⟩,hne⟩
  item := by
    intro X hP hw hK hc i pins s σ H E I hf ⟨⟨old,he⟩,hit,hne⟩ hg
    cases hP; cases hw; cases hK
    have le : e < s.heap.objs.size := Heap.lt_size he
    have li : it < s.heap.objs.size := Heap.lt_size hit.choose_spec.1
    refine wpAny_pyNext_enum_itemD (Zaj (A := X.A.in1) (I.ok.hd hc) it x t) he hit hg hne (by simpa using hne) ?_
    rintro v h' tk ⟨c, u, hx, rfl⟩ ho st hT hsz hk
    refine ⟨_, rfl, wpAny_letOwnedTupleGo_enum (s := { s with heap := h', toks := tk + 1 }) ho ?_⟩
    intro h'' he' sb
    have hT2 := (sb.2 s.heap.objs.size (Nat.ne_of_gt le)).trans hT
    have new : ObjOk X.prog X.w (upd H s.heap.objs.size (.tup [.int (i : Nat), .str ⟨#[c]⟩])) h'' s.heap.objs.size (.tup [.int (i : Nat), .str ⟨#[c]⟩]) :=
      ⟨by show 2 ≤ sizeLine; decide,[.int i tk,.str ⟨#[c]⟩ u],.cons ⟨_,rfl⟩ (.cons ⟨_,rfl⟩ .nil),⟨_,hT2,rfl,_,rfl⟩⟩
    have I1 := I.turnedNew (t' := tk + 1) (ch := [e, it]) (fun b ob hb q => (sb.2 b (fun z => hb (by simp [z]))).trans (hk b ob (fun z => hb (by simp [z])) (fun z => hb (by simp [z])) q)) hf (Nat.le_refl _) new
    refine ⟨.ref s.heap.objs.size,_,I1,rfl,⟨_,c,rfl,I.hok.fresh (Nat.le_refl _),rfl,hx⟩,⟨⟨.str ⟨#[c]⟩ u,?_⟩,?_,hne⟩,?_⟩
    · rw [show ((i + 1 : Nat) : Int) = (i : Int) + 1 by omega]; exact he'
    · obtain ⟨o,o1,o2⟩ := st
      exact ⟨o,(sb.2 it (Ne.symm hne)).trans o1,o2⟩
    · intro b hb
      have : b < s.heap.objs.size := by
        rcases List.mem_cons.mp hb with rfl | hb
        · exact le
        · cases List.mem_singleton.mp hb; exact li
      rw [upd_ne (Nat.ne_of_lt this)]
      exact (hf b hb).1
  done := by
    intro X hP hw hK hc i pins s σ H E I hf ⟨⟨old,he⟩,hit,hne⟩ hg
    cases hP; cases hw; cases hK
    cases (show i = x.cps.size from hg)
    obtain ⟨f0,f1,f2,f3,f4,f5⟩ := hf it (List.mem_cons_of_mem _ List.mem_cons_self)
    refine wpAny_pyNext_enum_endD (Zaj (A := X.A.in1) (I.ok.hd hc) it x t) he hit ?_
    intro h' eb
    exact ⟨rfl, I.turned (t' := s.toks) (fun b o hb q => eb b o hb q) f0 f1 f3 f4 f5⟩
  self := by
    intro A i s Q E ⟨⟨_,he⟩,_⟩ h
    exact wpAny_pyIter_enum he h
def iEnumS (ta : TA) : TI := fun σ H R => ta σ H fun vs H1 => ∃ x : Str,vs = [.str x] ∧ R (IteS x) H1
theorem Zg2 {X : Cx} {e : Expr} {ta : TA} {p pos tpos : Pos} {elts : List Expr} {kk : Nat} (hg : Gl X "enumerate") (hm : X.mg "enumerate" = none)
    (ha : PA X [e] ta) (hs : starEach [e] X.env = [(false,eval e X.env)] := by rfl) :
    PI X (.Tuple elts kk tpos) (.Call (.Name "enumerate" p) [e] [] pos) (iEnumS ta) := by
  constructor
  intro pins s σ H R I h
  refine Call_ (ld_blt I hg hm boot_enumerate (PyProof.Rows.callWith_type1 ?_ hs rfl))
  refine thn (ha.run pos pins s σ H _ I h) ?_
  rintro us s1 ⟨vs,H1,I1,r1,x,rfl,q⟩
  obtain ⟨u,rfl,t,rfl⟩ := vals1 r1
  refine call_enumerate_str ?_
  intro h' he hit hsz hk
  refine wpAny_pyIter_enum he ?_
  have I2 : Inv X pins σ H1 { s1 with heap := h' } := I1.kept (t' := s1.toks) hk
  refine ⟨s1.heap.objs.size + 1,[s1.heap.objs.size + 1,s1.heap.objs.size],_,_,H1,rfl,I2,Zda x t _ _,⟨⟨.none,he⟩,hit,Nat.succ_ne_self _⟩,?_,q⟩
  intro b hb
  have hle : s1.heap.objs.size ≤ b := by
    rcases List.mem_cons.mp hb with rfl | hb
    · exact Nat.le_add_right _ _
    · cases List.mem_singleton.mp hb; exact Nat.le_refl _
  exact I1.fpOk hle (I1.hok.fresh hle)
end Ap
set_option maxHeartbeats 4000000
namespace Ap
open PySem PySem.Spec PyProof.Rows L2 SX
end Ap
set_option maxHeartbeats 4000000
namespace Ap
open PySem PySem.Spec PyProof.Rows L2 SX
def lst (c : Nat) (l : List Nat) : List Nat := l.drop (l.takeWhile (· == c)).length
def dec (i : Int) : List Nat := (toString i : Str).cps.toList
theorem Zj0 (i : Int) : (toString i : Str) = S (dec i) := (S_tl _).symm
theorem Zj1 {P : Program} {w : World} {K : PySem.W.Frag} {mg : Str → Option Value} {base : Heap} {x qual : Str} {params : Arguments} {body : List Stmt} {scope : Scope} {dvs : List V} {kws : List (Str × V)} {f : Addr} {fd : FuncData}
    {N ps : List Str} {k : Nat} {sp : Sp} (F : FunD K x qual params body scope dvs kws f fd) (S : FnScope N ps scope) (len : ∀ vs H Q E,sp vs H Q E → vs.length = ps.length)
    (hbody : ∀ (cdv : Value) (A : Around) (outer : List Env) (s : Shared) (H : Hp) (vs : List V) (Q : VK) (E : XK),Room k (A.deeper (envOfC qual scope s.heap.objs.size f cdv)) → sp vs H Q E →
      ∃ t, PSs (cxOf CX0 P w K mg base N qual scope f cdv A outer s H E).nox body t ∧ t { nx := fun _ H' => Q .non H', rt := Q } (start N vs) H) : FnOk P w K mg base CX0 (k + 1) f fd ps sp :=
  F.ok S len fun cdv A outer s H vs Q E hr h => let ⟨t,p,q⟩ := hbody cdv A outer s H vs Q E hr h; ⟨t,p.nox,q⟩
def LsAll (H : Hp) : List Addr → List (List V) → Prop
  | [],[] => True
  | q :: qs,y :: ys => H q = some (.lst y) ∧ LsAll H qs ys
  | _,_ => False
theorem LsAll.to {H H' : Hp} : ∀ {qs : List Addr} {yss : List (List V)}, LsAll H qs yss → (∀ q y, q ∈ qs → H q = some (.lst y) → H' q = some (.lst y)) → LsAll H' qs yss
  | [],[],_,_ => trivial
  | q :: qs, y :: ys, h, k => ⟨k q y List.mem_cons_self h.1, h.2.to fun q' y' hq => k q' y' (List.mem_cons_of_mem _ hq)⟩
  | [],_ :: _,h,_ => h
  | _ :: _,[],h,_ => h
theorem LsAll.same {H H' : Hp} {qs : List Addr} {yss : List (List V)} (h : LsAll H qs yss) (s : Same H H') : LsAll H' qs yss := h.to fun q y _ e => s q _ e
theorem LsAll.ne {H : Hp} {p : Addr} (hp : H p = none) : ∀ {qs : List Addr} {yss : List (List V)},LsAll H qs yss → ∀ q ∈ qs,q ≠ p
  | q :: qs,y :: ys,h,x,hx => by
    rcases List.mem_cons.mp hx with rfl | hx
    · intro e
      have h1 := h.1
      rw [e,hp] at h1
      cases h1
    · exact h.2.ne hp x hx
  | [],_,_,_,hx => nomatch hx
  | _ :: _,[],h,_,_ => h.elim
theorem LsAll.len {H : Hp} : ∀ {qs : List Addr} {yss : List (List V)},LsAll H qs yss → qs.length = yss.length
  | [],[],_ => rfl
  | _ :: _,_ :: _,h => by rw [List.length_cons,List.length_cons,h.2.len]
  | [],_ :: _,h => h.elim
  | _ :: _,[],h => h.elim
theorem LsAll.get {H : Hp} : ∀ {qs : List Addr} {yss : List (List V)} {i : Nat} {x : V},LsAll H qs yss → (qs.map V.ref)[i]? = some x → ∃ q y,x = .ref q ∧ yss[i]? = some y ∧ H q = some (.lst y)
  | q :: qs,y :: ys,0,x,h,e => ⟨q,y,(Option.some.inj e).symm,rfl,h.1⟩
  | q :: qs,y :: ys,i + 1,x,h,e => by
    obtain ⟨q', y', e1, e2, e3⟩ := LsAll.get (i := i) h.2 (by simpa using e)
    exact ⟨q', y', e1, by simpa using e2, e3⟩
  | [],[],i,x,h,e => by simp at e
  | [],_ :: _,_,_,h,_ => h.elim
  | _ :: _,[],_,_,h,_ => h.elim
def cont (H : Hp) : V → List V
  | .ref q => match H q with
    | some (.lst y) => y
    | _ => []
  | _ => []
theorem LsAll.cont {H : Hp} {α : Type} (f : List V → α) : ∀ {qs : List Addr} {yss : List (List V)},LsAll H qs yss → (qs.map V.ref).map (fun x => f (cont H x)) = yss.map f
  | [],[],_ => rfl
  | q :: qs,y :: ys,h => by
    rw [List.map_cons,List.map_cons,List.map_cons,h.2.cont f]
    have e : Ap.cont H (.ref q) = y := by
      show (match H q with
        | some (.lst y) => y
        | _ => []) = y
      rw [h.1]
    rw [e]
  | [],_ :: _,h => h.elim
  | _ :: _,[],h => h.elim
def EvLL (te : TE) (σ : L2.St) (H : Hp) (yss : List (List V)) : Prop :=
  ∀ H1,Same H H1 → ∀ Q : VK,(∀ p qs H2,H1 p = none → Same H1 H2 → H2 p = some (.lst (qs.map V.ref)) → LsAll H2 qs yss → Q (.ref p) H2) → te σ H1 Q
theorem EvLL.is {te : TE} {σ : L2.St} {H : Hp} {a b : List (List V)} (h : EvLL te σ H a) (e : a = b) : EvLL te σ H b := e ▸ h
end Ap
set_option maxHeartbeats 4000000
namespace Ap
open PySem PySem.Spec PyProof.Rows L2 SX
def rOr (r1 r2 : R2) : R2 := fun x y H Q => r1 x y H Q ∨ r2 x y H Q
def rOrC (r1 r2 : List V → Hp → VK → Prop) : List V → Hp → VK → Prop := fun xs H Q => r1 xs H Q ∨ r2 xs H Q
theorem Zbq {X : Cx} {f : Value} {r1 r2 : List V → Hp → VK → Prop} (h1 : CallR X f r1) (h2 : CallR X f r2) : CallR X f (rOrC r1 r2) := fun pins s σ H xs us Q I rs h =>
  h.elim (h1 pins s σ H xs us Q I rs) (h2 pins s σ H xs us Q I rs)
open PySem.Builtin PySem.Builtin.Str in
theorem Zho (x : Str) (t : Tok) (a : Addr) : ∃ other : Sem Fin,«str.startswith» ⟨[.str x t,.ref a],[]⟩ = (do
    if let some p ← asStr? (.ref a) then return ← ret (.bool (0 + p.length ≤ min x.length x.length && subAt x p 0))
    if ← isInstance (.ref a) (.type "tuple") then
      rule s!"str.startswith.tuple"
      let some items ← seqItems? (.ref a) | unsupported s!"internal:str.startswith"
      for y in items do
        match ← asStr? y with
        | some p => if 0 + p.length ≤ min x.length x.length && subAt x p 0 then return ← ret (.bool true)
        | none =>
          rule s!"str.startswith.tuple-item-not-str"
          raiseError "TypeError" s!"tuple for startswith must only contain str, not {← typeNameOf y}"
      return ← ret (.bool false)
    other) := ⟨_,rfl⟩
open PySem.Builtin PySem.Builtin.Str in
theorem Zg3 (x : Str) (t : Tok) (a : Addr) (l : List (Str × Tok)) :
    Meets («str.startswith» ⟨[.str x t, .ref a], []⟩) (fun _ R s => (∃ o n, s.heap.get? a = some o ∧ o.cls = .type "tuple" ∧ o.data = .seq (strValues l).toArray n) ∧ R (.ok (.ret (.bool (l.any fun p => Txt.startswith x p.1)))) s) := by
  obtain ⟨other,htree⟩ := Zho x t a
  intro prog w A R s ⟨⟨o,n,ho,hc,hdata⟩,hpost⟩
  rw [htree]
  refine wpAny_bind ?_
  unfold asStr?
  refine wpAny_bind (wpAny_load ho ?_)
  rw [hdata]
  refine wpAny_pure ?_
  refine wpAny_bind (wpAny_isInstance (T := "tuple") ⟨o, ho, hc⟩ isSubtype_tuple_tuple ?_)
  refine wpAny_bind (wpAny_rule ?_)
  refine wpAny_bind (wpAny_seqItems ho hdata ?_)
  refine wpAny_bind ?_
  rw [← Array.forIn_toList,List.toList_toArray]
  refine wpAny_forIn_list _ (fun rest r s' => r.1 = none ∧ s' = s ∧ ∃ m : List (Str × Tok), rest = strValues m ∧ (l.any fun p => Txt.startswith x p.1) = (m.any fun p => Txt.startswith x p.1)) _ ?_ ?_ _ _ ⟨rfl, rfl, l, rfl, rfl⟩
  · rintro v rest r s' ⟨hr, rfl, m, hm, e⟩
    match m,hm with
    | (y,u) :: m,hm =>
      cases hm
      refine wpAny_bind (wpAny_pure ?_)
      cases hb : Txt.startswith x y
      · have hb' := hb
        unfold Txt.startswith at hb'
        simp only [Nat.min_self, hb']
        refine wpAny_pure ⟨rfl,rfl,m,rfl,?_⟩
        rw [e,List.any_cons,hb,Bool.false_or]
      · have hb' := hb
        unfold Txt.startswith at hb'
        simp only [Nat.min_self, hb']
        rw [if_pos trivial]
        refine wpAny_bind (wpAny_pure (wpAny_pure (wpAny_pure ?_)))
        rw [e,List.any_cons,hb,Bool.true_or] at hpost
        exact hpost
  · rintro ⟨r1, r2⟩ s' ⟨hr, rfl, m, hm, e⟩
    simp only at hr
    subst hr
    match m,hm with
    | [],_ =>
      rw [e] at hpost
      exact wpAny_pure hpost
abbrev rSwT (K : PySem.W.Frag) : V → List V → Hp → VK → Prop := fun x xs H Q => ∃ (a : Str) (p : Addr) (ys : List Str),x = .str a ∧ xs = [.ref p] ∧ SqT K H p (ys.map V.str) ∧ Q (.bl (ys.any fun y => Txt.startswith a y)) H
theorem Z7p {X : Cx} : MtR X "str.startswith" (rSwT X.K) := by
  intro pins s σ H x xs v us Q I rx rs h
  obtain ⟨a,p,ys,rfl,rfl,hp,q⟩ := h
  obtain ⟨t,rfl⟩ := rx
  cases rs with
  | cons r1 rs =>
    cases rs
    cases r1
    obtain ⟨its,r,ht,_⟩ := I.tuple hp
    obtain ⟨l,hv,hy⟩ := strsAre_values (strs_of_vals r)
    obtain ⟨o,ho,hc,n,hd⟩ := ht
    refine call_meets F.slot_str_startswith (typeIs_str _ _ _) F.entry_str_startswith (F.args_str_startswith_2 _ _) (Zg3 a t p l) ⟨⟨o,n,ho,hc,by rw [hd,hv]⟩,.bl (ys.any fun y => Txt.startswith a y),H,I,?_,q⟩
    rw [← hy,List.any_map]
    rfl
end Ap
set_option maxHeartbeats 4000000
namespace Fx
class Tb where
  T : List (PySem.Addr × PySem.Str)
instance (priority := low) tb0 : Tb := ⟨[]⟩
open PySem PySem.Spec PyProof.Rows L2 SX Ap
variable [Tb]
inductive T where
  | non | bl (b : Bool) | int (i : Int) | str (l : List Nat) | tup (ts : List T) | loc (i : Nat) | frl (ts : List T) | ref (a : Addr) | ty (n : String) | lam (f c : Addr) (q : PySem.Str) (J : List Addr → Hp → Prop) | ktp (ts : List T)
inductive O where
  | lst (ts : List T) | dk (kvs : List (Key × T)) | dt (kvs : List (List Key × T)) | ins (C : String) (fs : List (String × T))
abbrev Sto := List O
structure Ex where
  cls : PySem.Str
  fs : List (PySem.Str × T)
inductive R (α : Type) where
  | ok (a : α) (S : Sto) | exc (x : Ex) (S : Sto) | stuck
def R.bind {α β : Type} : R α → (α → Sto → R β) → R β
  | .ok a S,k => k a S
  | .exc x S,_ => .exc x S
  | .stuck,_ => .stuck
def lift {α : Type} : Option (α × Sto) → R α
  | some (a,S) => .ok a S
  | none => .stuck
@[simp] theorem Xq {α β : Type} (a : α) (S : Sto) (k : α → Sto → R β) : (R.ok a S).bind k = k a S := (rfl)
@[simp] theorem bind_exc {α β : Type} (x : Ex) (S : Sto) (k : α → Sto → R β) : (R.exc x S).bind k = .exc x S := (rfl)
@[simp] theorem Zix {α β : Type} (k : α → Sto → R β) : (R.stuck (α := α)).bind k = .stuck := (rfl)
@[simp] theorem Zj2 {α : Type} (a : α) (S : Sto) : lift (some (a,S)) = .ok a S := (rfl)
@[simp] theorem Zj3 {α : Type} : lift (none : Option (α × Sto)) = .stuck := (rfl)
def FrL (K : PySem.W.Frag) (H : Hp) (a : Addr) (xs : List V) : Prop :=
  (∃ o,H a = some (.frz o (.lst xs))) ∨
    ∃ (o : Obj) (its : Array Value) (n : Nat), K.lookup a = some o ∧ o.cls = .type "list" ∧ o.dict = none ∧ o.data = .seq its n ∧ its.size ≤ sizeLine ∧ Vals xs its.toList
theorem FrL.sq {K : PySem.W.Frag} {H : Hp} {a : Addr} {xs : List V} (h : FrL K H a xs) : SqL K H a xs := h.elim (fun ⟨o,e⟩ => .inl (.inr ⟨o,e⟩)) .inr
def HMut : HO → Prop
  | .lst _ => True | .dK _ => True | .dT _ => True | .ins _ _ _ => True | _ => False
structure Gr (ι ι' : List Addr) (H H' : Hp) : Prop where
  pre : ∀ (i : Nat) a, ι[i]? = some a → ι'[i]? = some a
  tup : ∀ a xs, H a = some (.tup xs) → H' a = some (.tup xs)
  frz : ∀ a o u, H a = some (.frz o u) → H' a = some (.frz o u)
  xd : ∀ a fs, H a = some (.xd fs) → H' a = some (.xd fs)
  ext : ∀ a φ, H a = some (.ext φ) → H' a = some (.ext φ)
  tab : LamX.Tabs Tb.T H → LamX.Tabs Tb.T H'
  fre : ∀ a u, a ∈ ι' → H a = some u → HMut u → a ∈ ι
  out : ∀ a u, H a = some u → HMut u → a ∉ ι → H' a = some u
theorem Gr.refl {ι : List Addr} {H : Hp} : Gr ι ι H H := ⟨fun _ _ h => h,fun _ _ h => h,fun _ _ _ h => h,fun _ _ h => h,fun _ _ h => h,fun h => h,fun _ _ h _ _ => h,fun _ _ h _ _ => h⟩
theorem Gr.trans {ι ι1 ι2 : List Addr} {H H1 H2 : Hp} (a : Gr ι ι1 H H1) (b : Gr ι1 ι2 H1 H2) : Gr ι ι2 H H2 :=
  ⟨fun i x h => b.pre i x (a.pre i x h),fun x xs h => b.tup x xs (a.tup x xs h),fun x o u h => b.frz x o u (a.frz x o u h),fun x fs h => b.xd x fs (a.xd x fs h),fun x φ h => b.ext x φ (a.ext x φ h),fun h => b.tab (a.tab h),fun x u hx h m => Classical.byContradiction fun n => n (a.fre x u (b.fre x u hx (a.out x u h m n) m) h m),fun x u h m n => b.out x u (a.out x u h m n) m fun hx => n (a.fre x u hx h m)⟩
theorem Gr.same {ι : List Addr} {H H' : Hp} (s : Same H H') : Gr ι ι H H' := ⟨fun _ _ h => h, fun _ _ h => s _ _ h, fun _ _ _ h => s _ _ h, fun _ _ h => s _ _ h, fun _ _ h => s _ _ h, fun h => h.ext s, fun _ _ h _ _ => h, fun _ _ h _ _ => s _ _ h⟩
mutual
inductive Rep (K : PySem.W.Frag) (ι : List Addr) (H : Hp) : V → T → Prop
  | non : Rep K ι H .non .non
  | bl (b : Bool) : Rep K ι H (.bl b) (.bl b)
  | int (i : Int) : Rep K ι H (.int i) (.int i)
  | str (l : List Nat) : Rep K ι H (.str (S l)) (.str l)
  | tup {a : Addr} {vs : List V} {ts : List T} : SqT K H a vs → Reps K ι H vs ts → Rep K ι H (.ref a) (.tup ts)
  | loc {i : Nat} {a : Addr} : ι[i]? = some a → Rep K ι H (.ref a) (.loc i)
  | frl {a : Addr} {vs : List V} {ts : List T} : FrL K H a vs → Reps K ι H vs ts → Rep K ι H (.ref a) (.frl ts)
  | ref (a : Addr) : Rep K ι H (.ref a) (.ref a)
  | ty (n : String) : Rep K ι H (.ty n) (.ty n)
  | lam {f c : Addr} {q : PySem.Str} {J : List Addr → Hp → Prop} : H c = some (LamX.CodeO c q) → (∀ ι' H', Gr ι ι' H H' → J ι' H') → Rep K ι H (.ref f) (.lam f c q J)
  | ktp {a : Addr} {vs : List V} {ts : List T} : H a = some (.tup vs) → Reps K ι H vs ts → Rep K ι H (.ref a) (.ktp ts)
inductive Reps (K : PySem.W.Frag) (ι : List Addr) (H : Hp) : List V → List T → Prop
  | nil : Reps K ι H [] []
  | cons {v : V} {vs : List V} {t : T} {ts : List T} : Rep K ι H v t → Reps K ι H vs ts → Reps K ι H (v :: vs) (t :: ts)
end
theorem SqT.gr {K : PySem.W.Frag} {ι ι' : List Addr} {H H' : Hp} {a : Addr} {xs : List V} (g : Gr ι ι' H H') (h : SqT K H a xs) : SqT K H' a xs := by
  rcases h with (h | ⟨o,h⟩) | h
  · exact .inl (.inl (g.tup _ _ h))
  · exact .inl (.inr ⟨o,g.frz _ _ _ h⟩)
  · exact .inr h
theorem FrL.gr {K : PySem.W.Frag} {ι ι' : List Addr} {H H' : Hp} {a : Addr} {xs : List V} (g : Gr ι ι' H H') (h : FrL K H a xs) : FrL K H' a xs := by
  rcases h with ⟨o,h⟩ | h
  · exact .inl ⟨o,g.frz _ _ _ h⟩
  · exact .inr h
mutual
theorem Rep.gr {K : PySem.W.Frag} {ι ι' : List Addr} {H H' : Hp} (g : Gr ι ι' H H') : ∀ {v : V} {t : T}, Rep K ι H v t → Rep K ι' H' v t
  | _,_,.non => .non
  | _,_,.bl b => .bl b
  | _,_,.int i => .int i
  | _,_,.str l => .str l
  | _,_,.tup h r => .tup (SqT.gr g h) (Reps.gr g r)
  | _,_,.loc h => .loc (g.pre _ _ h)
  | _,_,.frl h r => .frl (h.gr g) (Reps.gr g r)
  | _,_,.ref a => .ref a
  | _,_,.ty n => .ty n
  | _, _, .lam h j => .lam (g.ext _ _ h) fun ι' H' g' => j ι' H' (g.trans g')
  | _,_,.ktp h r => .ktp (g.tup _ _ h) (Reps.gr g r)
theorem Reps.gr {K : PySem.W.Frag} {ι ι' : List Addr} {H H' : Hp} (g : Gr ι ι' H H') : ∀ {vs : List V} {ts : List T}, Reps K ι H vs ts → Reps K ι' H' vs ts
  | _,_,.nil => .nil
  | _,_,.cons h r => .cons (Rep.gr g h) (Reps.gr g r)
end
section
variable {K : PySem.W.Frag} {ι : List Addr} {H : Hp}
theorem Reps.length : ∀ {vs : List V} {ts : List T},Reps K ι H vs ts → vs.length = ts.length
  | _,_,.nil => rfl
  | _,_,.cons _ r => congrArg (· + 1) r.length
theorem Reps.get : ∀ {vs : List V} {ts : List T} {i : Nat} {t : T},Reps K ι H vs ts → ts[i]? = some t → ∃ v,vs[i]? = some v ∧ Rep K ι H v t
  | _,_,_,_,.nil,e => by simp at e
  | _,_,0,_,.cons r _,e => by simp at e; subst e; exact ⟨_,rfl,r⟩
  | _,_,i + 1,t,.cons _ q,e => by
    obtain ⟨v,h1,h2⟩ := Reps.get (i := i) (t := t) q (by simpa using e)
    exact ⟨v,by simpa using h1,h2⟩
theorem Reps.append : ∀ {vs ws : List V} {ts us : List T},Reps K ι H vs ts → Reps K ι H ws us → Reps K ι H (vs ++ ws) (ts ++ us)
  | _,_,_,_,.nil,s => s
  | _,_,_,_,.cons r t,s => .cons r (Reps.append t s)
theorem Reps.take : ∀ {vs : List V} {ts : List T} (n : Nat),Reps K ι H vs ts → Reps K ι H (vs.take n) (ts.take n)
  | _,_,0,_ => by simpa using Reps.nil
  | _,_,_ + 1,.nil => by simpa using Reps.nil
  | _,_,n + 1,.cons r t => .cons r (Reps.take n t)
theorem Reps.drop : ∀ {vs : List V} {ts : List T} (n : Nat),Reps K ι H vs ts → Reps K ι H (vs.drop n) (ts.drop n)
  | _,_,0,r => r
  | _,_,_ + 1,.nil => .nil
  | _,_,n + 1,.cons _ t => Reps.drop n t
theorem Reps.set {v : V} {t : T} (r : Rep K ι H v t) : ∀ {vs : List V} {ts : List T} (i : Nat),Reps K ι H vs ts → Reps K ι H (vs.set i v) (ts.set i t)
  | _,_,_,.nil => .nil
  | _,_,0,.cons _ q => .cons r q
  | _,_,i + 1,.cons p q => .cons p (Reps.set r i q)
end
inductive RepP {κ : Type} (K : PySem.W.Frag) (ι : List Addr) (H : Hp) : List (κ × V) → List (κ × T) → Prop
  | nil : RepP K ι H [] []
  | cons {k : κ} {v : V} {vs : List (κ × V)} {t : T} {ts : List (κ × T)} : Rep K ι H v t → RepP K ι H vs ts → RepP K ι H ((k,v) :: vs) ((k,t) :: ts)
theorem RepP.gr {κ : Type} {K : PySem.W.Frag} {ι ι' : List Addr} {H H' : Hp} (g : Gr ι ι' H H') : ∀ {vs : List (κ × V)} {ts : List (κ × T)}, RepP K ι H vs ts → RepP K ι' H' vs ts
  | _,_,.nil => .nil
  | _,_,.cons h r => .cons (Rep.gr g h) (RepP.gr g r)
theorem RepP.length {κ : Type} {K : PySem.W.Frag} {ι : List Addr} {H : Hp} : ∀ {vs : List (κ × V)} {ts : List (κ × T)},RepP K ι H vs ts → vs.length = ts.length
  | _,_,.nil => rfl
  | _,_,.cons _ r => congrArg (· + 1) r.length
inductive RepF (K : PySem.W.Frag) (ι : List Addr) (H : Hp) : List (PySem.Str × V) → List (String × T) → Prop
  | nil : RepF K ι H [] []
  | cons {k : String} {v : V} {vs : List (PySem.Str × V)} {t : T} {ts : List (String × T)} : Rep K ι H v t → RepF K ι H vs ts → RepF K ι H ((PySem.Str.ofString k,v) :: vs) ((k,t) :: ts)
theorem RepF.gr {K : PySem.W.Frag} {ι ι' : List Addr} {H H' : Hp} (g : Gr ι ι' H H') : ∀ {vs : List (PySem.Str × V)} {ts : List (String × T)}, RepF K ι H vs ts → RepF K ι' H' vs ts
  | _,_,.nil => .nil
  | _,_,.cons h r => .cons (Rep.gr g h) (RepF.gr g r)
def ObR (K : PySem.W.Frag) (ι : List Addr) (H : Hp) (a : Addr) : O → Prop
  | .lst ts => ∃ vs,H a = some (.lst vs) ∧ Reps K ι H vs ts
  | .dk kvs => ∃ vs,H a = some (.dK vs) ∧ RepP K ι H vs kvs
  | .dt kvs => ∃ vs,H a = some (.dT vs) ∧ RepP K ι H vs kvs
  | .ins C fs => ∃ Ca dx vs,PySem.W.nsIn K mainGlobals (PySem.Str.ofString C) = some (some (.ref Ca)) ∧ H a = some (.ins Ca dx vs) ∧ RepF K ι H vs fs
structure Sim (K : PySem.W.Frag) (ι : List Addr) (S : Sto) (H : Hp) : Prop where
  len : ι.length = S.length
  nd : ι.Nodup
  ob : ∀ (i : Nat) a o,ι[i]? = some a → S[i]? = some o → ObR K ι H a o
  tab : LamX.Tabs Tb.T H
theorem ObR.gr {K : PySem.W.Frag} {ι ι' : List Addr} {H H' : Hp} {a : Addr} {o : O} (g : Gr ι ι' H H') (e : H' a = H a) (h : ObR K ι H a o) : ObR K ι' H' a o := by
  cases o with
  | lst ts => obtain ⟨vs,h,r⟩ := h; exact ⟨vs,e.trans h,r.gr g⟩
  | dk ts => obtain ⟨vs,h,r⟩ := h; exact ⟨vs,e.trans h,r.gr g⟩
  | dt ts => obtain ⟨vs,h,r⟩ := h; exact ⟨vs,e.trans h,r.gr g⟩
  | ins C ts => obtain ⟨Ca,dx,vs,hn,h,r⟩ := h; exact ⟨Ca,dx,vs,hn,e.trans h,r.gr g⟩
theorem ObR.has {K : PySem.W.Frag} {ι : List Addr} {H : Hp} {a : Addr} {o : O} (h : ObR K ι H a o) : ∃ u,H a = some u := by
  cases o with
  | lst ts => obtain ⟨vs,h,r⟩ := h; exact ⟨_,h⟩
  | dk ts => obtain ⟨vs,h,r⟩ := h; exact ⟨_,h⟩
  | dt ts => obtain ⟨vs,h,r⟩ := h; exact ⟨_,h⟩
  | ins C ts => obtain ⟨Ca,dx,vs,hn,h,r⟩ := h; exact ⟨_,h⟩
theorem ObR.mut {K : PySem.W.Frag} {ι : List Addr} {H : Hp} {a : Addr} {o : O} (h : ObR K ι H a o) : ∃ u,H a = some u ∧ HMut u := by
  cases o with
  | lst ts => obtain ⟨vs,h,r⟩ := h; exact ⟨_,h,trivial⟩
  | dk ts => obtain ⟨vs,h,r⟩ := h; exact ⟨_,h,trivial⟩
  | dt ts => obtain ⟨vs,h,r⟩ := h; exact ⟨_,h,trivial⟩
  | ins C ts => obtain ⟨Ca,dx,vs,hn,h,r⟩ := h; exact ⟨_,h,trivial⟩
section
variable {K : PySem.W.Frag} {ι : List Addr} {H H' : Hp} {Z : Sto}
theorem Sim.same (s : Sim K ι Z H) (m : Same H H') : Sim K ι Z H' := ⟨s.len, s.nd, fun i a o e1 e2 => by
  have h := s.ob i a o e1 e2
  obtain ⟨u,hu⟩ := h.has
  exact h.gr (Gr.same m) ((m _ _ hu).trans hu.symm),s.tab.ext m⟩
theorem Sim.at (s : Sim K ι Z H) {i : Nat} {o : O} (e : Z[i]? = some o) : ∃ a,ι[i]? = some a ∧ ObR K ι H a o := by
  have h1 : i < Z.length := (List.getElem?_eq_some_iff.mp e).1
  have h2 : i < ι.length := by rw [s.len]; exact h1
  exact ⟨ι[i],List.getElem?_eq_getElem h2,s.ob i _ o (List.getElem?_eq_getElem h2) e⟩
theorem Gr.new {p : Addr} {o : HO} (n : H p = none) : Gr ι (ι ++ [p]) H (upd H p o) :=
  ⟨fun i a h => by rw [List.getElem?_append_left (List.getElem?_eq_some_iff.mp h).1]; exact h,fun a xs h => by rw [upd_ne (ne_of_none h n)]; exact h,fun a o u h => by rw [upd_ne (ne_of_none h n)]; exact h,fun a fs h => by rw [upd_ne (ne_of_none h n)]; exact h,fun a φ h => by rw [upd_ne (ne_of_none h n)]; exact h,fun h => h.ext fun b o e => by rw [upd_ne (ne_of_none e n)]; exact e,fun a u h e m => (List.mem_append.mp h).elim id fun k => absurd e (by rw [List.mem_singleton.mp k,n]; intro z; cases z),fun a u h _ _ => by rw [upd_ne (ne_of_none h n)]; exact h⟩
theorem Gr.new0 {p : Addr} {o : HO} (n : H p = none) : Gr ι ι H (upd H p o) := Gr.same (Jz n)
theorem Sim.new (s : Sim K ι Z H) {p : Addr} {o : HO} {ob : O} (n : H p = none) (r : ObR K (ι ++ [p]) (upd H p o) p ob) : Sim K (ι ++ [p]) (Z ++ [ob]) (upd H p o) := by
  refine ⟨by rw [List.length_append,List.length_append,s.len]; rfl,?_,fun i a x e1 e2 => ?_,(Gr.new (ι := ι) n).tab s.tab⟩
  · rw [List.nodup_append]
    refine ⟨s.nd,by simp,fun a ha b hb => ?_⟩
    rw [List.mem_singleton.mp hb]
    intro e
    obtain ⟨i,h1,h2⟩ := List.mem_iff_getElem.mp ha
    have h3 : i < Z.length := by rw [← s.len]; exact h1
    obtain ⟨u,hu⟩ := (s.ob i a _ (by rw [← h2]; exact List.getElem?_eq_getElem h1) (List.getElem?_eq_getElem h3)).has
    rw [e,n] at hu
    cases hu
  · by_cases hi : i < Z.length
    · rw [List.getElem?_append_left hi] at e2
      rw [List.getElem?_append_left (by rw [s.len]; exact hi)] at e1
      have h := s.ob i a x e1 e2
      obtain ⟨u,hu⟩ := h.has
      exact h.gr (Gr.new n) (by rw [upd_ne (ne_of_none hu n)])
    · have hi' : Z.length ≤ i := Nat.le_of_not_lt hi
      rw [List.getElem?_append_right hi'] at e2
      rw [List.getElem?_append_right (by rw [s.len]; exact hi'), s.len] at e1
      obtain ⟨h1,h2⟩ := List.getElem?_eq_some_iff.mp e2
      have h0 : i - Z.length = 0 := by simpa using h1
      rw [h0] at e1 e2
      simp at e1 e2
      subst e1 e2
      exact r
theorem Gr.mut {a : Addr} {u o : HO} (h : H a = some u) (m : HMut u) (hi : a ∈ ι) : Gr ι ι H (upd H a o) := by
  have ne : ∀ b x,H b = some x → ¬ HMut x → b ≠ a := fun b x e nm z => by subst z; rw [h] at e; cases e; exact nm m
  exact ⟨fun _ _ h => h,fun b xs e => by rw [upd_ne (ne b _ e fun z => z)]; exact e,fun b o u e => by rw [upd_ne (ne b _ e fun z => z)]; exact e,fun b fs e => by rw [upd_ne (ne b _ e fun z => z)]; exact e,fun b φ e => by rw [upd_ne (ne b _ e fun z => z)]; exact e,fun t p hp => by
    obtain ⟨ps,h1,h2,h3⟩ := t p hp
    refine ⟨ps,by rw [upd_ne (ne _ _ h1 fun z => z)]; exact h1,h2,fun pos cv hc => ?_⟩
    obtain ⟨c,e1,e2⟩ := h3 pos cv hc
    exact ⟨c, e1, by rw [upd_ne (ne c _ e2 fun z => z)]; exact e2⟩, fun _ _ k _ _ => k, fun b u' e _ nb => by
    have hb : b ≠ a := fun z => nb (by rw [z]; exact hi)
    rw [upd_ne hb]; exact e⟩
theorem Sim.set (s : Sim K ι Z H) {i : Nat} {a : Addr} {o : HO} {ob : O} (hi : ι[i]? = some a) (r : ObR K ι (upd H a o) a ob) : Sim K ι (Z.set i ob) (upd H a o) := by
  have h1 : i < ι.length := (List.getElem?_eq_some_iff.mp hi).1
  have h2 : i < Z.length := by rw [← s.len]; exact h1
  obtain ⟨u,hu,mu⟩ := (s.ob i a _ hi (List.getElem?_eq_getElem h2)).mut
  refine ⟨by rw [List.length_set]; exact s.len,s.nd,fun j b x e1 e2 => ?_,(Gr.mut (ι := ι) hu mu (List.mem_of_getElem? hi)).tab s.tab⟩
  by_cases hj : j = i
  · subst hj
    rw [hi] at e1; cases e1
    rw [List.getElem?_set_self h2] at e2
    cases e2
    exact r
  · rw [List.getElem?_set_ne (Ne.symm hj)] at e2
    have hb : b ≠ a := fun z => by
      subst z
      obtain ⟨k1,k2⟩ := List.getElem?_eq_some_iff.mp e1
      obtain ⟨k3,k4⟩ := List.getElem?_eq_some_iff.mp hi
      exact hj ((List.getElem_inj s.nd).mp (k2.trans k4.symm))
    exact (s.ob j b x e1 e2).gr (Gr.mut hu mu (List.mem_of_getElem? hi)) (upd_ne hb)
end
abbrev Env := List (Option T)
def Envs (K : PySem.W.Frag) (ι : List Addr) (H : Hp) (σ : L2.St) (ρ : Env) : Prop := ∀ (i : Nat) t,ρ[i]? = some (some t) → ∃ v,σ[i]? = some (some v) ∧ Rep K ι H v t
theorem Envs.gr {K : PySem.W.Frag} {ι ι' : List Addr} {H H' : Hp} {σ : L2.St} {ρ : Env} (e : Envs K ι H σ ρ) (g : Gr ι ι' H H') : Envs K ι' H' σ ρ := fun i t h => by
  obtain ⟨v,h1,h2⟩ := e i t h
  exact ⟨v,h1,h2.gr g⟩
theorem Envs.set {K : PySem.W.Frag} {ι : List Addr} {H : Hp} {σ : L2.St} {ρ : Env} (e : Envs K ι H σ ρ) {v : V} {t : T} (r : Rep K ι H v t) (i : Nat) (hl : σ.length = ρ.length) : Envs K ι H (σ.set i (some v)) (ρ.set i (some t)) := fun j u h => by
  by_cases hj : j = i
  · subst hj
    by_cases hlt : j < ρ.length
    · rw [List.getElem?_set_self hlt] at h
      cases h
      exact ⟨v,List.getElem?_set_self (by rw [hl]; exact hlt),r⟩
    · rw [List.getElem?_eq_none (by rw [List.length_set]; omega)] at h
      cases h
  · rw [List.getElem?_set_ne (Ne.symm hj)] at h
    obtain ⟨w,h1,h2⟩ := e j u h
    exact ⟨w,by rw [List.getElem?_set_ne (Ne.symm hj)]; exact h1,h2⟩
def RepX (K : PySem.W.Frag) (ι : List Addr) (H : Hp) (cls : Value) (d : Option Addr) (x : Ex) : Prop :=
  (∃ c,cls = .ref c ∧ PySem.W.nsIn K mainGlobals x.cls = some (some (.ref c))) ∧ (match x.fs with
    | [] => d = none
    | fs => ∃ dd vs,d = some dd ∧ H dd = some (.xd vs) ∧ RepP K ι H vs fs)
section
variable {α β γ δ : Type}
def Post (rep : List Addr → Hp → β → α → Prop) (K : PySem.W.Frag) (W : WX) (σ : L2.St) (ι : List Addr) (H : Hp) (Q : β → Hp → Prop) : R α → Prop
  | .ok a S' => ∀ ι' H' b, Gr ι ι' H H' → Sim K ι' S' H' → rep ι' H' b a → Q b H'
  | .exc x S' => ∀ ι' H' cls d, Gr ι ι' H H' → Sim K ι' S' H' → RepX K ι' H' cls d x → W cls d σ H'
  | .stuck => False
def PostO (rep : List Addr → Hp → β → α → Prop) (K : PySem.W.Frag) (ι : List Addr) (H : Hp) (Q : β → Hp → Prop) : Option (α × Sto) → Prop
  | some (a, S') => ∀ ι' H' b, Gr ι ι' H H' → Sim K ι' S' H' → rep ι' H' b a → Q b H'
  | none => False
variable {rep : List Addr → Hp → β → α → Prop} {rep' : List Addr → Hp → δ → γ → Prop} {K : PySem.W.Frag} {W : WX} {σ : L2.St} {ι ι1 : List Addr} {H H1 : Hp} {Q : β → Hp → Prop} {Q' : δ → Hp → Prop}
theorem Post.shift {r : R α} (h : Post rep K W σ ι H Q r) (g : Gr ι ι1 H H1) : Post rep K W σ ι1 H1 Q r := by
  cases r with
  | ok a S => exact fun ι' H' b g' => h ι' H' b (g.trans g')
  | exc x S => exact fun ι' H' c d g' => h ι' H' c d (g.trans g')
  | stuck => exact h
theorem PostO.shift {r : Option (α × Sto)} (h : PostO rep K ι H Q r) (g : Gr ι ι1 H H1) : PostO rep K ι1 H1 Q r := by
  cases r with
  | some a => exact fun ι' H' b g' => h ι' H' b (g.trans g')
  | none => exact h
theorem Vw {r : Option (α × Sto)} (h : Post rep K W σ ι H Q (lift r)) : PostO rep K ι H Q r := by
  cases r with
  | some a => exact h
  | none => exact h
theorem Zi {r : R α} {k : α → Sto → R γ} (h : Post rep' K W σ ι H Q' (r.bind k)) :
    Post rep K W σ ι H (fun b H1 => ∃ ι1 S1 a, Gr ι ι1 H H1 ∧ Sim K ι1 S1 H1 ∧ rep ι1 H1 b a ∧ Post rep' K W σ ι1 H1 Q' (k a S1)) r := by
  cases r with
  | ok a S => exact fun ι1 H1 b g s r => ⟨ι1,S,a,g,s,r,h.shift g⟩
  | exc x S => exact h
  | stuck => exact h
theorem Post.imp {r : R α} {Q2 : β → Hp → Prop} (h : Post rep K W σ ι H Q r) (i : ∀ b H,Q b H → Q2 b H) : Post rep K W σ ι H Q2 r := by
  cases r with
  | ok a S => exact fun ι1 H1 b g s r => i _ _ (h ι1 H1 b g s r)
  | exc x S => exact h
  | stuck => exact h
end
abbrev FE := Env → Sto → R T
abbrev FT := Env → Sto → R Bool
abbrev FA := Env → Sto → R (List T)
def bEq (_ : List Addr) (_ : Hp) (b c : Bool) : Prop := b = c
structure Wc where
  w : WX
  j : L2.St → List Addr → Hp → Prop
  st : ∀ σ ι ι' H H', Gr ι ι' H H' → j σ ι H → j σ ι' H'
def Wt (W : WX) : Wc := ⟨W,fun _ _ _ => True,fun _ _ _ _ _ _ _ => trivial⟩
structure Ie (K : PySem.W.Frag) (W : Wc) (ι : List Addr) (H : Hp) (σ : L2.St) (ρ : Env) (Z : Sto) : Prop where
  len : σ.length = ρ.length
  env : Envs K ι H σ ρ
  sim : Sim K ι Z H
  jj : W.j σ ι H
theorem Ie.gr {K : PySem.W.Frag} {W : Wc} {ι ι' : List Addr} {H H' : Hp} {σ : L2.St} {ρ : Env} {Z Z' : Sto} (h : Ie K W ι H σ ρ Z) (g : Gr ι ι' H H') (s : Sim K ι' Z' H') : Ie K W ι' H' σ ρ Z' := ⟨h.len, h.env.gr g, s, W.st _ _ _ _ _ g h.jj⟩
def tF (K : PySem.W.Frag) (W : Wc) (f : FE) : TE := fun σ H Q => ∃ ι ρ Z,Ie K W ι H σ ρ Z ∧ Post (Rep K) K W.w σ ι H Q (f ρ Z)
def tFT (K : PySem.W.Frag) (W : Wc) (f : FT) : TT := fun σ H Q => ∃ ι ρ Z,Ie K W ι H σ ρ Z ∧ Post bEq K W.w σ ι H Q (f ρ Z)
def tFA (K : PySem.W.Frag) (W : Wc) (f : FA) : TA := fun σ H Q => ∃ ι ρ Z,Ie K W ι H σ ρ Z ∧ Post (Reps K) K W.w σ ι H Q (f ρ Z)
abbrev FJ (X : Cx) (K : PySem.W.Frag) (W : Wc) (e : Expr) (f : FE) : Prop := PE X e (tF K W f)
abbrev FTJ (X : Cx) (K : PySem.W.Frag) (W : Wc) (e : Expr) (f : FT) : Prop := PT X e (tFT K W f)
abbrev FWJ (X : Cx) (K : PySem.W.Frag) (W : Wc) (e : Expr) (f : FT) : Prop := PW X e (tFT K W f)
abbrev FAJ (X : Cx) (K : PySem.W.Frag) (W : Wc) (es : List Expr) (f : FA) : Prop := PA X es (tFA K W f)
theorem Vt {X : Cx} {e : Expr} {t t' : TE} (h : PE X e t) (i : ∀ σ H Q, t' σ H Q → t σ H Q) : PE X e t' := ⟨fun pins s σ H Q I q => h.run pins s σ H Q I (i _ _ _ q)⟩
theorem Z8l {X : Cx} {e : Expr} {t t' : TT} (h : PT X e t) (i : ∀ σ H Q, t' σ H Q → t σ H Q) : PT X e t' := ⟨fun pins s σ H Q I q => h.run pins s σ H Q I (i _ _ _ q)⟩
theorem Zh3 {X : Cx} {e : Expr} {t t' : TT} (h : PW X e t) (i : ∀ σ H Q, t' σ H Q → t σ H Q) : PW X e t' := ⟨fun w pins s σ H Q I q => h.run w pins s σ H Q I (i _ _ _ q)⟩
theorem Zh4 {X : Cx} {es : List Expr} {t t' : TA} (h : PA X es t) (i : ∀ σ H Q, t' σ H Q → t σ H Q) : PA X es t' := ⟨fun p pins s σ H Q I q => h.run p pins s σ H Q I (i _ _ _ q)⟩
theorem Jb {X : Cx} {st : Stmt} {t t' : TS} (h : PS X st t) (i : ∀ D σ H, t' D σ H → t D σ H) : PS X st t' := ⟨fun pins s σ H D I q => h.run pins s σ H D I (i _ _ _ q)⟩
theorem Ze0 {X : Cx} {st : List Stmt} {t t' : TS} (h : PSs X st t) (i : ∀ D σ H, t' D σ H → t D σ H) : PSs X st t' := ⟨fun pins s σ H D I q => h.run pins s σ H D I (i _ _ _ q)⟩
def eVar (i : Nat) : FE := fun ρ Z => match ρ[i]? with
  | some (some t) => .ok t Z
  | _ => .stuck
def eC (t : T) : FE := fun _ Z => .ok t Z
def eBin (g : T → T → Sto → Option (T × Sto)) (a b : FE) : FE := fun ρ Z => (a ρ Z).bind fun x Z1 => (b ρ Z1).bind fun y Z2 => lift (g x y Z2)
def eUn (g : T → Sto → Option (T × Sto)) (a : FE) : FE := fun ρ Z => (a ρ Z).bind fun x Z1 => lift (g x Z1)
def eIf (c : FT) (a b : FE) : FE := fun ρ Z => (c ρ Z).bind fun x Z1 => if x = true then a ρ Z1 else b ρ Z1
def aNil : FA := fun _ Z => .ok [] Z
def aCons (a : FE) (r : FA) : FA := fun ρ Z => (a ρ Z).bind fun x Z1 => (r ρ Z1).bind fun xs Z2 => .ok (x :: xs) Z2
section
variable {X : Cx} {K : PySem.W.Frag} {W : Wc} {a b c : Expr} {fa fb fc : FE} {pos : Pos}
theorem Z8 {i : Nat} {x : PySem.Str} (h : PE X (.Name x pos) (tVar i)) : FJ X K W (.Name x pos) (eVar i) := Vt h fun σ H Q q => by
  obtain ⟨ι,ρ,Z,is,p⟩ := q
  unfold eVar at p
  split at p
  · rename_i t e
    obtain ⟨v,h1,h2⟩ := is.env i t e
    exact ⟨v,h1,p ι H v Gr.refl is.sim h2⟩
  · exact p.elim
theorem f_c {v : V} {t : T} (h : PE X a (tC v)) (r : ∀ ι H,Rep K ι H v t) : FJ X K W a (eC t) := Vt h fun σ H Q q => by
  obtain ⟨ι,ρ,Z,is,p⟩ := q
  exact p ι H v Gr.refl is.sim (r ι H)
theorem f_int {i j} : FJ X K W (.Constant (.int i) j pos) (eC (.int i)) := f_c pe_int fun _ _ => .int i
theorem f_bl {i j} : FJ X K W (.Constant (.bool i) j pos) (eC (.bl i)) := f_c pe_bl fun _ _ => .bl i
theorem Q9 {j} : FJ X K W (.Constant .none j pos) (eC .non) := f_c pe_non fun _ _ => .non
theorem Zg {x j} (l : List Nat) (e : x = S l := by rfl) : FJ X K W (.Constant (.str x) j pos) (eC (.str l)) := f_c pe_str fun _ _ => by rw [e]; exact .str l
def rF2 (K : PySem.W.Frag) (g : T → T → Sto → Option (T × Sto)) : R2 := fun x y H Q => ∃ ι Z tx ty,Sim K ι Z H ∧ Rep K ι H x tx ∧ Rep K ι H y ty ∧ PostO (Rep K) K ι H Q (g tx ty Z)
def rFC (K : PySem.W.Frag) (g : List T → Sto → Option (T × Sto)) : List V → Hp → VK → Prop := fun xs H Q => ∃ ι Z ts,Sim K ι Z H ∧ Reps K ι H xs ts ∧ PostO (Rep K) K ι H Q (g ts Z)
theorem Zg4 {r : R2} {g : T → T → Sto → Option (T × Sto)} (hr : ∀ x y H Q,rF2 K g x y H Q → r x y H Q) {σ : L2.St} {H : Hp} {Q : VK} (h : tF K W (eBin g fa fb) σ H Q) : tOp r (tF K W fa) (tF K W fb) σ H Q := by
  obtain ⟨ι,ρ,Z,is,p⟩ := h
  refine ⟨ι,ρ,Z,is,(Zi p).imp fun x H1 q => ?_⟩
  obtain ⟨ι1,Z1,tx,g1,s1,r1,p1⟩ := q
  refine ⟨ι1,ρ,Z1,is.gr g1 s1,(Zi p1).imp fun y H2 q2 => ?_⟩
  obtain ⟨ι2,Z2,ty,g2,s2,r2,p2⟩ := q2
  exact hr _ _ _ _ ⟨ι2,Z2,tx,ty,s2,r1.gr g2,r2,Vw p2⟩
def OpF (X : Cx) (K : PySem.W.Frag) (f : Value → Value → Sem Value) (g : T → T → Sto → Option (T × Sto)) : Prop := OpR X f (rF2 K g)
theorem W3 {f : Value → Value → Sem Value} {r r' : R2} (h : OpR X f r) (i : ∀ x y H Q, r' x y H Q → r x y H Q) : OpR X f r' := fun pins s σ H x y v u Q I rx ry q => h pins s σ H x y v u Q I rx ry (i _ _ _ _ q)
theorem Jc {f : Value} {r r' : List V → Hp → VK → Prop} (h : CallR X f r) (i : ∀ xs H Q, r' xs H Q → r xs H Q) : CallR X f r' := fun pins s σ H xs us Q I rs q => h pins s σ H xs us Q I rs (i _ _ _ q)
theorem Q4 {f : Value → Value → Sem Value} {r r' : R2} (h : OpR X f r) (h' : OpR X f r') : OpR X f (rOr r r') := fun pins s σ H x y v u Q I rx ry q => q.elim (h pins s σ H x y v u Q I rx ry) (h' pins s σ H x y v u Q I rx ry)
theorem f_op {op : Operator} {g : T → T → Sto → Option (T × Sto)} (ho : OpF X K (binaryOp op) g) (ha : FJ X K W a fa) (hb : FJ X K W b fb) : FJ X K W (.BinOp a op b pos) (eBin g fa fb) :=
  Vt (pe_op ho ha hb) fun _ _ _ h => Zg4 (fun _ _ _ _ h => h) h
theorem Z0y {op : CmpOp} {g : T → T → Sto → Option (T × Sto)} (ho : OpF X K (compareOp op) g) (ha : FJ X K W a fa) (hb : FJ X K W b fb) (hm : behindInMarks op b = false) : FJ X K W (.Compare a [op] [b] pos) (eBin g fa fb) :=
  Vt (pe_cmpR ho ha hb hm) fun _ _ _ h => Zg4 (fun _ _ _ _ h => h) h
theorem f_ix {g : T → T → Sto → Option (T × Sto)} (hr : IxR X (rF2 K g)) (ha : FJ X K W a fa) (hb : FJ X K W b fb) (hs : PlainIx b) : FJ X K W (.Subscript a b pos) (eBin g fa fb) :=
  Vt (pe_ix hr ha hb hs) fun _ _ _ h => Zg4 (fun _ _ _ _ h => h) h
theorem f_if {t : FT} (hc : FTJ X K W c t) (ha : FJ X K W a fa) (hb : FJ X K W b fb) : FJ X K W (.IfExp c a b pos) (eIf t fa fb) := Vt (pe_ifExp hc ha hb) fun σ H Q h => by
  obtain ⟨ι,ρ,Z,is,p⟩ := h
  refine ⟨ι,ρ,Z,is,(Zi p).imp fun x H1 q => ?_⟩
  obtain ⟨ι1,Z1,tx,g1,s1,r1,p1⟩ := q
  cases (show x = tx from r1)
  cases x with
  | true => exact ⟨ι1,ρ,Z1,is.gr g1 s1,p1⟩
  | false => exact ⟨ι1,ρ,Z1,is.gr g1 s1,p1⟩
theorem Ze : FAJ X K W [] aNil := Zh4 pa_nil fun σ H Q h => by
  obtain ⟨ι,ρ,Z,is,p⟩ := h
  exact p ι H [] Gr.refl is.sim .nil
theorem Z6 {es : List Expr} {fr : FA} (ha : FJ X K W a fa) (hr : FAJ X K W es fr) (hs : starEach (a :: es) X.env = (false,eval a X.env) :: starEach es X.env := by rfl) : FAJ X K W (a :: es) (aCons fa fr) := Zh4 (pa_cons ha hr hs) fun σ H Q h => by
  obtain ⟨ι,ρ,Z,is,p⟩ := h
  refine ⟨ι,ρ,Z,is,(Zi p).imp fun x H1 q => ?_⟩
  obtain ⟨ι1,Z1,tx,g1,s1,r1,p1⟩ := q
  refine ⟨ι1,ρ,Z1,is.gr g1 s1,(Zi p1).imp fun y H2 q2 => ?_⟩
  obtain ⟨ι2,Z2,ty,g2,s2,r2,p2⟩ := q2
  exact p2 ι2 H2 _ Gr.refl s2 (.cons (r1.gr g2) r2)
end
def Lim : Nat := 1000000
theorem Zak : Lim ≤ sizeLine := by decide
@[irreducible] def Fuel : Nat := Lim + 2
theorem Z59 : Fuel = Lim + 2 := by unfold Fuel; rfl
theorem Z1p {n : Nat} (h : n ≤ Lim) : n ≤ sizeLine := Nat.le_trans h Zak
def asList : T → Sto → Option (List T)
  | .loc i,Z => match Z[i]? with
    | some (.lst ts) => some ts
    | _ => none
  | .frl ts,_ => some ts
  | _,_ => none
theorem Z0i {K : PySem.W.Frag} {ι : List Addr} {H : Hp} {Z : Sto} {v : V} {t : T} {ts : List T} (s : Sim K ι Z H) (r : Rep K ι H v t) (e : asList t Z = some ts) : ∃ a vs,v = .ref a ∧ SqL K H a vs ∧ Reps K ι H vs ts := by
  cases r with
  | loc h =>
    simp only [asList] at e
    split at e
    · rename_i ts' hz
      obtain ⟨a', h1, h2⟩ := s.at hz
      rw [h] at h1
      cases h1
      cases e
      obtain ⟨vs,h3,h4⟩ := h2
      exact ⟨_,vs,rfl,SqL.of h3,h4⟩
    · cases e
  | frl h r => cases e; exact ⟨_,_,rfl,h.sq,r⟩
  | _ => cases e
def truth : T → Sto → Option Bool
  | .bl b,_ => some b
  | .int i,_ => some (i != 0)
  | .non,_ => some false
  | .str l,_ => if l.length ≤ Lim then some (!l.isEmpty) else none
  | .tup ts,_ => some (!ts.isEmpty)
  | .loc i,Z => match Z[i]? with
    | some (.lst ts) => some (!ts.isEmpty)
    | some (.dk ts) => some (!ts.isEmpty)
    | _ => none
  | .frl ts,_ => some (!ts.isEmpty)
  | _,_ => none
theorem Z0z {α β : Type} {a : List α} {b : List β} (h : a.length = b.length) : a.isEmpty = b.isEmpty := by
  cases a <;> cases b <;> first | rfl | (simp at h)
theorem Z2i {K : PySem.W.Frag} {ι : List Addr} {H : Hp} {Z : Sto} {v : V} {t : T} {k : Bool} (s : Sim K ι Z H) (r : Rep K ι H v t) (e : truth t Z = some k) : TruV K v H k := by
  cases r with
  | non => cases e; rfl
  | bl b => cases e; rfl
  | int i => cases e; rfl
  | str l =>
    simp only [truth] at e
    split at e
    · rename_i h
      cases e
      refine ⟨by rw [S_len]; exact Z1p h,?_⟩
      rw [S_len]
      cases l with
      | nil => rfl
      | cons c l => simp; omega
    · cases e
  | tup h r => cases e; exact .inr (.inl ⟨_,h,by rw [Z0z r.length]⟩)
  | loc h =>
    simp only [truth] at e
    split at e
    · rename_i ts' hz
      obtain ⟨a', h1, h2⟩ := s.at hz
      rw [h] at h1
      cases h1
      cases e
      obtain ⟨vs,h3,h4⟩ := h2
      exact .inl ⟨vs,SqL.of h3,by rw [Z0z h4.length]⟩
    · rename_i ts' hz
      obtain ⟨a', h1, h2⟩ := s.at hz
      rw [h] at h1
      cases h1
      cases e
      obtain ⟨vs,h3,h4⟩ := h2
      exact .inr (.inr ⟨vs,h3,by rw [Z0z h4.length]⟩)
    · cases e
  | frl h r => cases e; exact .inl ⟨_,h.sq,by rw [Z0z r.length]⟩
  | ref a => cases e
  | ty n => cases e
  | lam h j => cases e
  | ktp h r => cases e
def eTru (f : FE) : FT := fun ρ Z => (f ρ Z).bind fun x Z1 => match truth x Z1 with
  | some b => .ok b Z1
  | none => .stuck
def tAnd (a b : FT) : FT := fun ρ Z => (a ρ Z).bind fun x Z1 => if x = true then b ρ Z1 else .ok false Z1
def tOr (a b : FT) : FT := fun ρ Z => (a ρ Z).bind fun x Z1 => if x = true then .ok true Z1 else b ρ Z1
def tNot (a : FT) : FT := fun ρ Z => (a ρ Z).bind fun x Z1 => .ok (!x) Z1
def eAnd (a b : FE) : FE := fun ρ Z => (a ρ Z).bind fun x Z1 => match truth x Z1 with
  | some true => b ρ Z1
  | some false => .ok x Z1
  | none => .stuck
def eOr (a b : FE) : FE := fun ρ Z => (a ρ Z).bind fun x Z1 => match truth x Z1 with
  | some true => .ok x Z1
  | some false => b ρ Z1
  | none => .stuck
def eNot (a : FE) : FE := fun ρ Z => (a ρ Z).bind fun x Z1 => match truth x Z1 with
  | some b => .ok (.bl (!b)) Z1
  | none => .stuck
section
variable {X : Cx} {K : PySem.W.Frag} {W : Wc} {a b c : Expr} {fa fb fc : FE} {ta tb : FT} {pos : Pos} {rest : List Expr}
theorem Ys (hK : X.K = K) (ha : FJ X K W a fa) (he : ∀ whole,isTrue a X.env whole = (do let v ← whole; standAt a.pos; holding [v] (truthy v)) := by intro _; rfl) : FTJ X K W a (eTru fa) := by
  subst hK
  refine Z8l (pt_truth ha he) fun σ H Q h => ?_
  obtain ⟨ι,ρ,Z,is,p⟩ := h
  refine ⟨ι,ρ,Z,is,(Zi p).imp fun x H1 q => ?_⟩
  obtain ⟨ι1,Z1,tx,g1,s1,r1,p1⟩ := q
  split at p1
  · rename_i k e
    exact ⟨k,Z2i s1 r1 e,p1 ι1 H1 k Gr.refl s1 rfl⟩
  · exact p1.elim
def eBl (f : FE) : FT := fun ρ Z => (f ρ Z).bind fun x Z1 => match x with
  | .bl b => .ok b Z1
  | _ => .stuck
theorem Zk {op : CmpOp} {g : T → T → Sto → Option (T × Sto)} (ho : OpF X K (compareOp op) g) (ha : FJ X K W a fa) (hb : FJ X K W b fb) (hm : behindInMarks op b = false) : FTJ X K W (.Compare a [op] [b] pos) (eBl (eBin g fa fb)) := by
  refine Z8l (pt_cmpR ho ha hb hm) fun σ H Q h => ?_
  obtain ⟨ι,ρ,Z,is,p⟩ := h
  refine Zg4 (fun _ _ _ _ h => h) ⟨ι,ρ,Z,is,(Zi p).imp fun x H1 q => ?_⟩
  obtain ⟨ι1,Z1,tx,g1,s1,r1,p1⟩ := q
  cases r1 with
  | bl b => exact ⟨b,rfl,p1 ι1 H1 b Gr.refl s1 rfl⟩
  | _ => exact p1.elim
theorem V1 (ha : FTJ X K W a ta) : FWJ X K W (.BoolOp .And [a] pos) ta := pw_and1 ha
theorem N5 (ha : FTJ X K W a ta) : FWJ X K W (.BoolOp .Or [a] pos) ta := pw_or1 ha
theorem Vx (ha : FTJ X K W a ta) (hb : FWJ X K W (.BoolOp .And (b :: rest) pos) tb) : FWJ X K W (.BoolOp .And (a :: b :: rest) pos) (tAnd ta tb) := Zh3 (pw_and ha hb) fun σ H Q h => by
  obtain ⟨ι,ρ,Z,is,p⟩ := h
  refine ⟨ι,ρ,Z,is,(Zi p).imp fun x H1 q => ?_⟩
  obtain ⟨ι1,Z1,tx,g1,s1,r1,p1⟩ := q
  cases (show x = tx from r1)
  cases x with
  | true => exact ⟨ι1,ρ,Z1,is.gr g1 s1,p1⟩
  | false => exact p1 ι1 H1 _ Gr.refl s1 rfl
theorem Z46 (ha : FTJ X K W a ta) (hb : FWJ X K W (.BoolOp .Or (b :: rest) pos) tb) : FWJ X K W (.BoolOp .Or (a :: b :: rest) pos) (tOr ta tb) := Zh3 (pw_or ha hb) fun σ H Q h => by
  obtain ⟨ι,ρ,Z,is,p⟩ := h
  refine ⟨ι,ρ,Z,is,(Zi p).imp fun x H1 q => ?_⟩
  obtain ⟨ι1,Z1,tx,g1,s1,r1,p1⟩ := q
  cases (show x = tx from r1)
  cases x with
  | true => exact p1 ι1 H1 _ Gr.refl s1 rfl
  | false => exact ⟨ι1,ρ,Z1,is.gr g1 s1,p1⟩
theorem Vy (ha : FTJ X K W a ta) : FTJ X K W (.UnaryOp .Not a pos) (tNot ta) := Z8l (pt_not ha) fun σ H Q h => by
  obtain ⟨ι,ρ,Z,is,p⟩ := h
  refine ⟨ι,ρ,Z,is,(Zi p).imp fun x H1 q => ?_⟩
  obtain ⟨ι1,Z1,tx,g1,s1,r1,p1⟩ := q
  cases (show x = tx from r1)
  exact p1 ι1 H1 _ Gr.refl s1 rfl
theorem Z69 {op} (h : FJ X K W a fa) : FJ X K W (.BoolOp op [a] pos) fa := pe_one h
theorem Z7q (hK : X.K = K) (ha : FJ X K W a fa) (hb : FJ X K W (.BoolOp .And (b :: rest) pos) fb) : FJ X K W (.BoolOp .And (a :: b :: rest) pos) (eAnd fa fb) := by
  subst hK
  refine Vt (pe_andT ha hb) fun σ H Q h => ?_
  obtain ⟨ι,ρ,Z,is,p⟩ := h
  refine ⟨ι,ρ,Z,is,(Zi p).imp fun x H1 q => ?_⟩
  obtain ⟨ι1,Z1,tx,g1,s1,r1,p1⟩ := q
  split at p1
  · rename_i e; exact ⟨true,Z2i s1 r1 e,ι1,ρ,Z1,is.gr g1 s1,p1⟩
  · rename_i e; exact ⟨false,Z2i s1 r1 e,p1 ι1 H1 _ Gr.refl s1 r1⟩
  · exact p1.elim
theorem f_or (hK : X.K = K) (ha : FJ X K W a fa) (hb : FJ X K W (.BoolOp .Or (b :: rest) pos) fb) : FJ X K W (.BoolOp .Or (a :: b :: rest) pos) (eOr fa fb) := by
  subst hK
  refine Vt (pe_orT ha hb) fun σ H Q h => ?_
  obtain ⟨ι,ρ,Z,is,p⟩ := h
  refine ⟨ι,ρ,Z,is,(Zi p).imp fun x H1 q => ?_⟩
  obtain ⟨ι1,Z1,tx,g1,s1,r1,p1⟩ := q
  split at p1
  · rename_i e; exact ⟨true,Z2i s1 r1 e,p1 ι1 H1 _ Gr.refl s1 r1⟩
  · rename_i e; exact ⟨false,Z2i s1 r1 e,ι1,ρ,Z1,is.gr g1 s1,p1⟩
  · exact p1.elim
theorem Zj4 (hK : X.K = K) (ha : FJ X K W a fa) : FJ X K W (.UnaryOp .Not a pos) (eNot fa) := by
  subst hK
  refine Vt (pe_notT ha) fun σ H Q h => ?_
  obtain ⟨ι,ρ,Z,is,p⟩ := h
  refine ⟨ι,ρ,Z,is,(Zi p).imp fun x H1 q => ?_⟩
  obtain ⟨ι1,Z1,tx,g1,s1,r1,p1⟩ := q
  split at p1
  · rename_i k e; exact ⟨k,Z2i s1 r1 e,p1 ι1 H1 _ Gr.refl s1 (.bl _)⟩
  · exact p1.elim
end
end Fx
set_option maxHeartbeats 4000000
namespace Fx
open PySem PySem.Spec PyProof.Rows L2 SX Ap
variable [Tb]
section
variable {K : PySem.W.Frag} {ι : List Addr} {H : Hp} {Q : VK} {Z : Sto} {t : T} {ts : List T} {v : V} {vs : List V}
theorem Y6 (p : PostO (Rep K) K ι H Q (some (t,Z))) (s : Sim K ι Z H) (r : Rep K ι H v t) : Q v H := p ι H v Gr.refl s r
theorem Sim.newL (s : Sim K ι Z H) (r : Reps K ι H vs ts) {p : Addr} (n : H p = none) : Sim K (ι ++ [p]) (Z ++ [.lst ts]) (upd H p (.lst vs)) := s.new n ⟨vs,upd_same,r.gr (Gr.new n)⟩
theorem Zch (s : Sim K ι Z H) {p : Addr} {H' : Hp} : Rep K (ι ++ [p]) H' (.ref p) (.loc Z.length) := .loc (by rw [← s.len]; simp)
theorem Zbr (q : PostO (Rep K) K ι H Q (some (.loc Z.length,Z ++ [.lst ts]))) (s : Sim K ι Z H) (r : Reps K ι H vs ts) : ∀ p,H p = none → Q (.ref p) (upd H p (.lst vs)) := fun p n =>
  q (ι ++ [p]) _ _ (Gr.new n) (s.newL r n) (Zch s)
theorem Ze1 (q : PostO (Rep K) K ι H Q (some (.tup ts,Z))) (s : Sim K ι Z H) (r : Reps K ι H vs ts) : ∀ p,H p = none → Q (.ref p) (upd H p (.tup vs)) := fun p n =>
  q ι _ _ (Gr.new0 n) (s.same (Jz n)) (.tup (SqT.of upd_same) (r.gr (Gr.new0 n)))
theorem Rep.tupE (r : Rep K ι H v (.tup ts)) : ∃ a vs,v = .ref a ∧ SqT K H a vs ∧ Reps K ι H vs ts := by
  cases r with
  | tup h r => exact ⟨_,_,rfl,h,r⟩
theorem Jd {i : Nat} {ts : List T} (s : Sim K ι Z H) (e : Z[i]? = some (.lst ts)) (r : Rep K ι H v (.loc i)) : ∃ a vs,v = .ref a ∧ ι[i]? = some a ∧ H a = some (.lst vs) ∧ Reps K ι H vs ts := by
  cases r with
  | loc h =>
    obtain ⟨a,h1,vs,h2,h3⟩ := s.at e
    rw [h] at h1; cases h1
    exact ⟨_,vs,rfl,h,h2,h3⟩
end
def getL (Z : Sto) (i : Nat) : Option (List T) := match Z[i]? with
  | some (.lst ts) => some ts
  | _ => none
theorem Ve {Z : Sto} {i : Nat} {ts : List T} (h : getL Z i = some ts) : Z[i]? = some (.lst ts) := by
  unfold getL at h
  split at h
  · rename_i ts' e; cases h; exact e
  · cases h
def gAdd : T → T → Sto → Option (T × Sto)
  | .int i,.int j,Z => some (.int (i + j),Z)
  | .str a,.str b,Z => if a.length + b.length ≤ Lim then some (.str (a ++ b),Z) else none
  | .tup a,.tup b,Z => if a.length + b.length ≤ Lim then some (.tup (a ++ b),Z) else none
  | .loc i,.loc j,Z => match getL Z i,getL Z j with
    | some a,some b => if a.length + b.length ≤ Lim then some (.loc Z.length,Z ++ [.lst (a ++ b)]) else none
    | _,_ => none
  | _,_,_ => none
def gSub : T → T → Sto → Option (T × Sto)
  | .int i,.int j,Z => some (.int (i - j),Z)
  | _,_,_ => none
def mulOk (i j : Int) : Bool := (decide (-(2 ^ 64) < i) && decide (i < 2 ^ 64)) || (decide (-(2 ^ 64) < j) && decide (j < 2 ^ 64))
def gMul : T → T → Sto → Option (T × Sto)
  | .int i,.int j,Z => if mulOk i j = true then some (.int (i * j),Z) else none
  | .str l,.int k,Z => if -100000 ≤ k ∧ k ≤ 100000 ∧ l.length * k.toNat ≤ 100000 then some (.str (repL k.toNat l),Z) else none
  | .loc i,.int k,Z => match getL Z i with
    | some a => if -100000 ≤ k ∧ k ≤ 100000 ∧ a.length * k.toNat ≤ Lim then some (.loc Z.length,Z ++ [.lst (List.replicate k.toNat a).flatten]) else none
    | _ => none
  | _,_,_ => none
def gDiv : T → T → Sto → Option (T × Sto)
  | .int i,.int j,Z => if 0 < j ∧ j < 2 ^ 200 then some (.int (i / j),Z) else none
  | _,_,_ => none
def gMod : T → T → Sto → Option (T × Sto)
  | .int i,.int j,Z => if 0 < j then some (.int (i % j),Z) else none
  | _,_,_ => none
def gPow : T → T → Sto → Option (T × Sto)
  | .int i,.int j,Z => if 0 ≤ j ∧ j ≤ 1000000 ∧ i.natAbs < 2 ^ 64 then some (.int (i ^ j.toNat),Z) else none
  | _,_,_ => none
theorem Reps.replicate {K : PySem.W.Frag} {ι : List Addr} {H : Hp} {vs : List V} {ts : List T} (r : Reps K ι H vs ts) : ∀ n : Nat,Reps K ι H (List.replicate n vs).flatten (List.replicate n ts).flatten
  | 0 => .nil
  | n + 1 => by
    rw [List.replicate_succ,List.replicate_succ,List.flatten_cons,List.flatten_cons]
    exact r.append (r.replicate n)
theorem Zj5 (a b : List Nat) : S a ++ S b = S (a ++ b) := by
  show (⟨a.toArray ++ b.toArray⟩ : PySem.Str) = ⟨(a ++ b).toArray⟩
  simp
section
variable {X : Cx} {K : PySem.W.Frag}
theorem Z6a : OpF X K (binaryOp .Sub) gSub := W3 op_sub fun x y H Q h => by
  obtain ⟨ι,Z,tx,ty,s,rx,ry,p⟩ := h
  unfold gSub at p
  split at p
  · cases rx; cases ry; exact ⟨_,_,rfl,rfl,Y6 p s (.int _)⟩
  · exact p.elim
theorem Zdb : OpF X K (binaryOp .Mod) gMod := W3 op_mod fun x y H Q h => by
  obtain ⟨ι,Z,tx,ty,s,rx,ry,p⟩ := h
  unfold gMod at p
  split at p
  · split at p
    · cases rx; cases ry; exact ⟨_,_,rfl,rfl,by assumption,Y6 p s (.int _)⟩
    · exact p.elim
  · exact p.elim
theorem Zhp : OpF X K (binaryOp .FloorDiv) gDiv := W3 op_fdivW fun x y H Q h => by
  obtain ⟨ι,Z,tx,ty,s,rx,ry,p⟩ := h
  unfold gDiv at p
  split at p
  · split at p
    · rename_i hj
      cases rx; cases ry; exact ⟨_,_,rfl,rfl,wide_div (b := 200) hj.1 (by have := hj.1; have := hj.2; omega) (by decide) (by decide),Y6 p s (.int _)⟩
    · exact p.elim
  · exact p.elim
theorem o_pow : OpF X K (binaryOp .Pow) gPow := W3 op_pow fun x y H Q h => by
  obtain ⟨ι,Z,tx,ty,s,rx,ry,p⟩ := h
  unfold gPow at p
  split at p
  · split at p
    · cases rx; cases ry; exact ⟨_,_,rfl,rfl,by assumption,Y6 p s (.int _)⟩
    · exact p.elim
  · exact p.elim
theorem Zw (hK : X.K = K) : OpF X K (binaryOp .Add) gAdd := by
  subst hK
  refine W3 (Q4 (Q4 op_add op_add_str) (Q4 op_catA op_cat)) fun x y H Q h => ?_
  obtain ⟨ι,Z,tx,ty,s,rx,ry,p⟩ := h
  unfold gAdd at p
  split at p
  · cases rx; cases ry; exact .inl (.inl ⟨_,_,rfl,rfl,Y6 p s (.int _)⟩)
  · split at p
    · rename_i hz
      cases rx; cases ry
      exact .inl (.inr ⟨_,_,rfl,rfl,by rw [S_len,S_len]; exact Z1p hz,by rw [Zj5]; exact Y6 p s (.str _)⟩)
    · exact p.elim
  · split at p
    · rename_i hz
      obtain ⟨a,xs,rfl,ha,ra⟩ := rx.tupE
      obtain ⟨b,ys,rfl,hb,rb⟩ := ry.tupE
      refine .inr (.inl ⟨a,b,xs,ys,rfl,rfl,ha,hb,by rw [ra.length,rb.length]; exact Z1p hz,fun e => ?_,fun _ e => ?_,fun _ _ => Ze1 p s (ra.append rb)⟩)
      · subst e; cases ra; exact Y6 p s (by rw [List.nil_append]; exact ry)
      · subst e; cases rb; exact Y6 p s (by rw [List.append_nil]; exact rx)
    · exact p.elim
  · split at p
    · rename_i a b e1 e2
      split at p
      · rename_i hz
        obtain ⟨x,xs,rfl,_,hx,r1⟩ := Jd s (Ve e1) rx
        obtain ⟨y,ys,rfl,_,hy,r2⟩ := Jd s (Ve e2) ry
        exact .inr (.inr ⟨x,y,xs,ys,rfl,rfl,hx,hy,by rw [r1.length,r2.length]; exact Z1p hz,Zbr p s (r1.append r2)⟩)
      · exact p.elim
    · exact p.elim
  · exact p.elim
theorem Zhq {i j : Int} (h : mulOk i j = true) : CMul i j := by
  unfold mulOk at h
  rw [Bool.or_eq_true,Bool.and_eq_true,Bool.and_eq_true] at h
  rcases h with ⟨a,b⟩ | ⟨a,b⟩
  · exact .inl ⟨of_decide_eq_true a,of_decide_eq_true b⟩
  · exact .inr ⟨of_decide_eq_true a,of_decide_eq_true b⟩
theorem Z1m : OpF X K (binaryOp .Mult) gMul := by
  refine W3 (Q4 op_mul (Q4 Zd9 op_rep)) fun x y H Q h => ?_
  obtain ⟨ι,Z,tx,ty,s,rx,ry,p⟩ := h
  unfold gMul at p
  split at p
  · split at p
    · rename_i hc
      cases rx; cases ry; exact .inl ⟨_,_,rfl,rfl,Zhq hc,Y6 p s (.int _)⟩
    · exact p.elim
  · split at p
    · rename_i hz
      cases rx; cases ry
      exact .inr (.inl ⟨_,_,rfl,rfl,hz.1,hz.2.1,hz.2.2,Y6 p s (.str _)⟩)
    · exact p.elim
  · split at p
    · rename_i a e1
      split at p
      · rename_i hz
        obtain ⟨x,xs,rfl,_,hx,r1⟩ := Jd s (Ve e1) rx
        cases ry
        refine .inr (.inr ⟨x,_,xs,rfl,rfl,hx,by omega,by omega,by rw [r1.length]; exact Z1p hz.2.2,Zbr p s (r1.replicate _)⟩)
      · exact p.elim
    · exact p.elim
  · exact p.elim
end
def eqS : T → T → Option Bool
  | .non,.non => some true | .non,.int _ => some false | .int _,.non => some false | .non,.bl _ => some false | .bl _,.non => some false | .non,.str _ => some false | .str _,.non => some false
  | .int a,.int b => some (decide (a = b)) | .bl a,.bl b => some (decide (a = b)) | .str a,.str b => some (decide (a = b))
  | .int _,.str _ => some false | .str _,.int _ => some false | .bl _,.str _ => some false | .str _,.bl _ => some false
  | _,_ => none
def toD : Nat → Sto → T → Option PyData
  | _,_,.non => some .none
  | _,_,.bl b => some (.bool b)
  | _,_,.int i => some (.int i)
  | _,_,.str l => some (.str (S l))
  | 0,_,_ => none
  | n + 1,Z,.tup ts => (ts.mapM (toD n Z)).map .tuple
  | n + 1,Z,.frl ts => (ts.mapM (toD n Z)).map .list
  | n + 1,Z,.loc i => (getL Z i).bind fun ts => (ts.mapM (toD n Z)).map .list
  | _ + 1,_,_ => none
theorem Z2j {α β : Type} {f : α → Option β} : ∀ {l : List α} {m : List β},l.mapM f = some m → Paired (fun a b => f a = some b) l m
  | [],m,h => by
    have : m = [] := by simpa using h.symm
    subst this; exact .nil
  | a :: l,m,h => by
    rw [List.mapM_cons] at h
    cases h1 : f a with
    | none => rw [h1] at h; cases h
    | some b =>
      rw [h1] at h
      cases h2 : l.mapM f with
      | none => rw [h2] at h; cases h
      | some m' =>
        rw [h2] at h
        have : m = b :: m' := (Option.some.inj h).symm
        subst this
        exact .cons h1 (Z2j h2)
section
variable {K : PySem.W.Frag} {ι : List Addr} {H : Hp} {Z : Sto}
theorem Ze2 (s : Sim K ι Z H) : ∀ (n : Nat) {v : V} {t : T} {d : PyData},Rep K ι H v t → toD n Z t = some d → Dp K H v d
  | n,v,t,d,r,e => by
    have all : ∀ m,n = m + 1 → ∀ {vs : List V} {ts : List T} {ds : List PyData},Reps K ι H vs ts → Paired (fun a b => toD m Z a = some b) ts ds → DpAll K H vs ds := by
      intro m hm vs ts ds r p
      induction p generalizing vs with
      | nil => cases r; exact .nil
      | cons h _ ih =>
        cases r with
        | cons r1 r2 => exact .cons (Ze2 s m r1 h) (ih r2)
    cases r with
    | non => simp only [toD,Option.some.injEq] at e; subst e; exact .non
    | bl b => simp only [toD,Option.some.injEq] at e; subst e; exact .bl b
    | int i => simp only [toD,Option.some.injEq] at e; subst e; exact .int i
    | str l => simp only [toD,Option.some.injEq] at e; subst e; exact .str _
    | tup h r =>
      cases n with
      | zero => simp [toD] at e
      | succ n =>
        simp only [toD] at e
        obtain ⟨ds,h1,rfl⟩ := Option.map_eq_some_iff.mp e
        exact .tup h (all n rfl r (Z2j h1))
    | frl h r =>
      cases n with
      | zero => simp [toD] at e
      | succ n =>
        simp only [toD] at e
        obtain ⟨ds,h1,rfl⟩ := Option.map_eq_some_iff.mp e
        exact .lst h.sq (all n rfl r (Z2j h1))
    | loc h =>
      cases n with
      | zero => simp [toD] at e
      | succ n =>
        simp only [toD] at e
        obtain ⟨ts,h0,e⟩ := Option.bind_eq_some_iff.mp e
        obtain ⟨ds,h1,rfl⟩ := Option.map_eq_some_iff.mp e
        obtain ⟨a,vs,hv,_,h2,r⟩ := Jd s (Ve h0) (.loc h)
        cases hv
        exact .lst (SqL.of h2) (all n rfl r (Z2j h1))
    | ref a => cases n <;> simp [toD] at e
    | ty n' => cases n <;> simp [toD] at e
    | lam h j => cases n <;> simp [toD] at e
    | ktp h r => cases n <;> simp [toD] at e
  termination_by n => n
end
def gEqD (x y : T) (Z : Sto) : Option Bool := match toD 16 Z x,toD 16 Z y with
  | some d,some e => if SeqAt.shaped d = true ∧ SeqAt.shaped e = true then some (PyData.eqv d e) else none
  | _,_ => none
def gEqB (x y : T) (Z : Sto) : Option Bool := match eqS x y with
  | some b => some b
  | none => gEqD x y Z
def gEq (x y : T) (Z : Sto) : Option (T × Sto) := (gEqB x y Z).map fun b => (.bl b,Z)
def gNe (x y : T) (Z : Sto) : Option (T × Sto) := (gEqB x y Z).map fun b => (.bl (!b),Z)
section
variable {X : Cx} {K : PySem.W.Frag} {ι : List Addr} {H : Hp}
theorem Zj0 {a b : List Nat} : decide (V.str (S a) = V.str (S b)) = decide (a = b) := by
  by_cases h : a = b
  · rw [h]; simp
  · rw [decide_eq_false h,decide_eq_false]
    intro e
    exact h (S_inj (V.str.inj e))
theorem Zh5 {x y : V} {tx ty : T} {b : Bool} (rx : Rep K ι H x tx) (ry : Rep K ι H y ty) (e : eqS tx ty = some b) : scal x y = true ∧ decide (x = y) = b := by
  cases rx <;> cases ry <;> simp only [eqS,Option.some.injEq] at e <;> first | (subst e; refine ⟨rfl,?_⟩; first | exact Zj0 | simp) | (cases e)
theorem Zh6 {x y : V} {tx ty : T} {Z : Sto} {b : Bool} (s : Sim K ι Z H) (rx : Rep K ι H x tx) (ry : Rep K ι H y ty) (e : gEqD tx ty Z = some b) : ∃ d e', Dp K H x d ∧ Dp K H y e' ∧ SeqAt.shaped d = true ∧ SeqAt.shaped e' = true ∧ PyData.eqv d e' = b := by
  unfold gEqD at e
  split at e
  · rename_i d d' h1 h2
    split at e
    · rename_i h
      cases e
      exact ⟨d, d', Ze2 s 16 rx h1, Ze2 s 16 ry h2, h.1, h.2, rfl⟩
    · cases e
  · cases e
theorem o_eq (hu : X.A.units + 64 < cLine) (hK : X.K = K) : OpF X K (compareOp .Eq) gEq := by
  subst hK
  refine W3 (Q4 op_eq (op_eqD hu)) fun x y H Q h => ?_
  obtain ⟨ι,Z,tx,ty,s,rx,ry,p⟩ := h
  cases e : gEqB tx ty Z with
  | none => simp only [gEq,e] at p; exact p.elim
  | some b =>
    simp only [gEq,e,Option.map_some] at p
    unfold gEqB at e
    split at e
    · rename_i b' e'
      cases e
      obtain ⟨h1, h2⟩ := Zh5 rx ry e'
      exact .inl ⟨h1,by rw [h2]; exact Y6 p s (.bl _)⟩
    · obtain ⟨d, d', h1, h2, h3, h4, h5⟩ := Zh6 s rx ry e
      exact .inr ⟨d, d', h1, h2, h3, h4, by rw [h5]; exact Y6 p s (.bl _)⟩
theorem o_ne (hu : X.A.units + 64 < cLine) (hK : X.K = K) : OpF X K (compareOp .NotEq) gNe := by
  subst hK
  refine W3 (Q4 op_ne (op_neD hu)) fun x y H Q h => ?_
  obtain ⟨ι,Z,tx,ty,s,rx,ry,p⟩ := h
  cases e : gEqB tx ty Z with
  | none => simp only [gNe,e] at p; exact p.elim
  | some b =>
    simp only [gNe,e,Option.map_some] at p
    unfold gEqB at e
    split at e
    · rename_i b' e'
      cases e
      obtain ⟨h1, h2⟩ := Zh5 rx ry e'
      exact .inl ⟨h1,by rw [h2]; exact Y6 p s (.bl _)⟩
    · obtain ⟨d, d', h1, h2, h3, h4, h5⟩ := Zh6 s rx ry e
      exact .inr ⟨d, d', h1, h2, h3, h4, by rw [h5]; exact Y6 p s (.bl _)⟩
end
def gLt : T → T → Sto → Option (T × Sto)
  | .int i,.int j,Z => some (.bl (decide (i < j)),Z)
  | .str a,.str b,Z => some (.bl (decide (a < b)),Z)
  | _,_,_ => none
def gLe : T → T → Sto → Option (T × Sto)
  | .int i,.int j,Z => some (.bl (decide (i ≤ j)),Z)
  | _,_,_ => none
def gGt : T → T → Sto → Option (T × Sto)
  | .int i,.int j,Z => some (.bl (decide (j < i)),Z)
  | _,_,_ => none
def gGe : T → T → Sto → Option (T × Sto)
  | .int i,.int j,Z => some (.bl (decide (j ≤ i)),Z)
  | _,_,_ => none
def isNon : T → Bool
  | .non => true
  | _ => false
def gIs : T → T → Sto → Option (T × Sto)
  | x,.non,Z => some (.bl (isNon x),Z)
  | _,_,_ => none
def gIsNot : T → T → Sto → Option (T × Sto)
  | x,.non,Z => some (.bl (!isNon x),Z)
  | _,_,_ => none
def flatT : T → Bool
  | .non => true | .bl _ => true | .int _ => true | .str _ => true | _ => false
def eqT : T → T → Bool
  | .non,.non => true
  | .bl a,.bl b => a == b
  | .bl a,.int b => (if a then 1 else 0) == b
  | .int a,.bl b => a == (if b then 1 else 0)
  | .int a,.int b => a == b
  | .str a,.str b => decide (b = a)
  | _,_ => false
def inT (x : T) (ts : List T) : Bool := ts.any fun y => eqT y x
def asSeq : T → Sto → Option (List T)
  | .tup ts,_ => some ts
  | t,Z => asList t Z
def gInB : T → T → Sto → Option Bool
  | .str [c],.str l,_ => some (decide (c ∈ l))
  | x,y,Z => match asSeq y Z with
    | some ts => if flatT x = true ∧ ts.all flatT = true then some (inT x ts) else none
    | none => none
def gIn (x y : T) (Z : Sto) : Option (T × Sto) := (gInB x y Z).map fun b => (.bl b,Z)
def gNotIn (x y : T) (Z : Sto) : Option (T × Sto) := (gInB x y Z).map fun b => (.bl (!b),Z)
section
variable {K : PySem.W.Frag} {ι : List Addr} {H : Hp} {Z : Sto}
theorem Z6q {v : V} {t : T} {ts : List T} (s : Sim K ι Z H) (r : Rep K ι H v t) (e : asSeq t Z = some ts) : ∃ a vs,v = .ref a ∧ (SqL K H a vs ∨ SqT K H a vs) ∧ Reps K ι H vs ts := by
  cases t with
  | tup us =>
    cases e
    obtain ⟨a,vs,rfl,h,r⟩ := r.tupE
    exact ⟨a,vs,rfl,.inr h,r⟩
  | _ =>
    obtain ⟨a,vs,rfl,h,r⟩ := Z0i s r (by simpa [asSeq] using e)
    exact ⟨a,vs,rfl,.inl h,r⟩
theorem Ze3 {v : V} {t : T} (r : Rep K ι H v t) : flatV v = flatT t := by cases r <;> rfl
theorem Zj6 {v w : V} {t u : T} (r : Rep K ι H v t) (q : Rep K ι H w u) (h : flatT t = true) (h2 : flatT u = true) : eqV v w = eqT t u := by
  cases r <;> cases q <;> first | rfl | (exact eqV_S _ _) | (exact absurd h Bool.false_ne_true) | (exact absurd h2 Bool.false_ne_true)
theorem Zci : ∀ {vs : List V} {ts : List T},Reps K ι H vs ts → vs.all flatV = ts.all flatT
  | _,_,.nil => rfl
  | _,_,.cons r q => by rw [List.all_cons,List.all_cons,Ze3 r,Zci q]
theorem Zh7 {x : V} {t : T} (r : Rep K ι H x t) (h : flatT t = true) : ∀ {vs : List V} {ts : List T},Reps K ι H vs ts → ts.all flatT = true → inV x vs = inT t ts
  | _,_,.nil,_ => rfl
  | _, _, .cons r' q, hh => by
    rw [List.all_cons,Bool.and_eq_true] at hh
    show (eqV _ x || inV x _) = (eqT _ t || inT t _)
    rw [Zj6 r' r hh.1 h, Zh7 r h q hh.2]
theorem Zh8 {x y : V} {tx ty : T} {b : Bool} (s : Sim K ι Z H) (rx : Rep K ι H x tx) (ry : Rep K ι H y ty) (e : gInB tx ty Z = some b) :
    (∃ (c : Nat) (z : PySem.Str),x = .str ⟨#[c]⟩ ∧ y = .str z ∧ decide (c ∈ z.cps.toList) = b) ∨ ∃ p xs,y = .ref p ∧ (SqL K H p xs ∨ SqT K H p xs) ∧ flatV x = true ∧ xs.all flatV = true ∧ inV x xs = b := by
  unfold gInB at e
  split at e
  · cases e; cases rx; cases ry
    exact .inl ⟨_,_,rfl,rfl,by simp [S]⟩
  · split at e
    · rename_i ts h
      split at e
      · rename_i hf
        cases e
        obtain ⟨a,vs,rfl,hq,r⟩ := Z6q s ry h
        exact .inr ⟨a,vs,rfl,hq,(Ze3 rx).trans hf.1,(Zci r).trans hf.2,Zh7 rx hf.1 r hf.2⟩
      · cases e
    · cases e
end
section
variable {X : Cx} {K : PySem.W.Frag}
theorem o_lt : OpF X K (compareOp .Lt) gLt := by
  refine W3 (Q4 op_lt op_lt_str) fun x y H Q h => ?_
  obtain ⟨ι,Z,tx,ty,s,rx,ry,p⟩ := h
  unfold gLt at p
  split at p
  · cases rx; cases ry; exact .inl ⟨_,_,rfl,rfl,Y6 p s (.bl _)⟩
  · cases rx; cases ry; exact .inr ⟨_,_,rfl,rfl,Y6 p s (.bl _)⟩
  · exact p.elim
theorem Zcj {ι : List Addr} {H : Hp} {v : V} {t : T} (r : Rep K ι H v t) : decide (v = .non) = isNon t := by cases r <;> rfl
theorem o_is : OpF X K (compareOp .Is) gIs := W3 op_isN fun x y H Q h => by
  obtain ⟨ι,Z,tx,ty,s,rx,ry,p⟩ := h
  unfold gIs at p
  split at p
  · cases ry; exact ⟨rfl,by rw [Zcj rx]; exact Y6 p s (.bl _)⟩
  · exact p.elim
theorem Zbs : OpF X K (compareOp .IsNot) gIsNot := W3 op_notN fun x y H Q h => by
  obtain ⟨ι,Z,tx,ty,s,rx,ry,p⟩ := h
  unfold gIsNot at p
  split at p
  · cases ry; exact ⟨rfl,by rw [Zcj rx]; exact Y6 p s (.bl _)⟩
  · exact p.elim
theorem o_in (hK : X.K = K) : OpF X K (compareOp .In) gIn := by
  subst hK
  refine W3 (Q4 op_in_sign op_in_seq) fun x y H Q h => ?_
  obtain ⟨ι,Z,tx,ty,s,rx,ry,p⟩ := h
  cases e : gInB tx ty Z with
  | none => simp only [gIn,e] at p; exact p.elim
  | some b =>
    simp only [gIn,e,Option.map_some] at p
    have q := Y6 p s (.bl b)
    rcases Zh8 s rx ry e with ⟨c,z,rfl,rfl,hb⟩ | ⟨a,xs,rfl,h1,h2,h3,hb⟩
    · exact .inl ⟨c,z,rfl,rfl,by rw [hb]; exact q⟩
    · exact .inr ⟨a,xs,rfl,h1,h2,h3,by rw [hb]; exact q⟩
theorem Zhr (hK : X.K = K) : OpF X K (compareOp .NotIn) gNotIn := by
  subst hK
  refine W3 (Q4 op_notIn_sign op_notIn_seq) fun x y H Q h => ?_
  obtain ⟨ι,Z,tx,ty,s,rx,ry,p⟩ := h
  cases e : gInB tx ty Z with
  | none => simp only [gNotIn,e] at p; exact p.elim
  | some b =>
    simp only [gNotIn,e,Option.map_some] at p
    have q := Y6 p s (.bl (!b))
    rcases Zh8 s rx ry e with ⟨c,z,rfl,rfl,hb⟩ | ⟨a,xs,rfl,h1,h2,h3,hb⟩
    · exact .inl ⟨c,z,rfl,rfl,by rw [hb]; exact q⟩
    · exact .inr ⟨a,xs,rfl,h1,h2,h3,by rw [hb]; exact q⟩
end
def eChain (g g' : T → T → Sto → Option (T × Sto)) (a b c : FE) : FE := fun ρ Z => (a ρ Z).bind fun x Z1 => (b ρ Z1).bind fun y Z2 => (lift (g x y Z2)).bind fun z Z3 => match z with
  | .bl true => (c ρ Z3).bind fun w Z4 => lift (g' y w Z4)
  | .bl false => .ok (.bl false) Z3
  | _ => .stuck
section
variable {X : Cx} {K : PySem.W.Frag} {W : Wc} {a b c : Expr} {fa fb fc : FE} {pos : Pos} {op op' : CmpOp} {g g' : T → T → Sto → Option (T × Sto)}
theorem Zck {σ : L2.St} {H : Hp} {Q : VK} (h : tF K W (eChain g g' fa fb fc) σ H Q) : tChain (rF2 K g) (rF2 K g') (tF K W fa) (tF K W fb) (tF K W fc) σ H Q := by
  obtain ⟨ι,ρ,Z,is,p⟩ := h
  refine ⟨ι,ρ,Z,is,(Zi p).imp fun x H1 q => ?_⟩
  obtain ⟨ι1,Z1,tx,g1,s1,r1,p1⟩ := q
  refine ⟨ι1,ρ,Z1,is.gr g1 s1,(Zi p1).imp fun y H2 q2 => ?_⟩
  obtain ⟨ι2,Z2,ty,g2,s2,r2,p2⟩ := q2
  refine ⟨ι2,Z2,tx,ty,s2,r1.gr g2,r2,Vw (W := W.w) (σ := σ) ((Zi p2).imp fun z H3 q3 => ?_)⟩
  obtain ⟨ι3,Z3,tz,g3,s3,r3,p3⟩ := q3
  split at p3
  · cases r3
    refine ⟨true,rfl,?_⟩
    rw [if_pos rfl]
    refine ⟨ι3,ρ,Z3,is.gr ((g1.trans g2).trans g3) s3,(Zi p3).imp fun w H4 q4 => ?_⟩
    obtain ⟨ι4,Z4,tw,g4,s4,r4,p4⟩ := q4
    exact ⟨ι4,Z4,ty,tw,s4,(r2.gr g3).gr g4,r4,Vw p4⟩
  · cases r3
    refine ⟨false,rfl,?_⟩
    rw [if_neg Bool.false_ne_true]
    exact p3 ι3 H3 _ Gr.refl s3 (.bl false)
  · exact p3.elim
theorem Zbt (ho : OpF X K (compareOp op) g) (ho' : OpF X K (compareOp op') g') (ha : FJ X K W a fa) (hb : FJ X K W b fb) (hc : FJ X K W c fc) (hm : lastMarks [op, op'] [b, c] = false := by with_unfolding_all rfl) :
    FJ X K W (.Compare a [op, op'] [b, c] pos) (eChain g g' fa fb fc) := Vt (pe_chain ho ho' ha hb hc hm) fun _ _ _ h => Zck h
theorem Zg5 (ho : OpF X K (compareOp op) g) (ho' : OpF X K (compareOp op') g') (ha : FJ X K W a fa) (hb : FJ X K W b fb) (hc : FJ X K W c fc) (hm : lastMarks [op, op'] [b, c] = false := by with_unfolding_all rfl) :
    FTJ X K W (.Compare a [op, op'] [b, c] pos) (eBl (eChain g g' fa fb fc)) := by
  refine Z8l (pt_chain ho ho' ha hb hc hm) fun σ H Q h => ?_
  obtain ⟨ι,ρ,Z,is,p⟩ := h
  refine Zck ⟨ι,ρ,Z,is,(Zi p).imp fun x H1 q => ?_⟩
  obtain ⟨ι1,Z1,tx,g1,s1,r1,p1⟩ := q
  cases r1 with
  | bl b => exact ⟨b,rfl,p1 ι1 H1 b Gr.refl s1 rfl⟩
  | _ => exact p1.elim
end
def gIx : T → T → Sto → Option (T × Sto)
  | .str l,.int i,Z => if l.length ≤ Lim then (atI l i).map fun c => (.str [c],Z) else none
  | x,.int i,Z => match asSeq x Z with
    | some ts => (atI ts i).map fun t => (t,Z)
    | none => none
  | _,_,_ => none
def gSl : T → Option Int → Option Int → Sto → Option (T × Sto)
  | .str l,lo,hi,Z => if l.length ≤ Lim then some (.str (cutL l lo hi),Z) else none
  | .tup ts,lo,hi,Z => some (.tup (cutL ts lo hi),Z)
  | x,lo,hi,Z => match asList x Z with
    | some ts => some (.loc Z.length,Z ++ [.lst (cutL ts lo hi)])
    | none => none
abbrev FO := Env → Sto → R (Option Int)
def oNone : FO := fun _ Z => .ok none Z
def oSome (f : FE) : FO := fun ρ Z => (f ρ Z).bind fun x Z1 => match x with
  | .int i => .ok (some i) Z1
  | _ => .stuck
def eSl (f : FE) (lo hi : FO) : FE := fun ρ Z => (f ρ Z).bind fun x Z1 => (lo ρ Z1).bind fun l Z2 => (hi ρ Z2).bind fun h Z3 => lift (gSl x l h Z3)
def oEq (_ : List Addr) (_ : Hp) (b c : Option Int) : Prop := b = c
def tFO (K : PySem.W.Frag) (W : Wc) (f : FO) : TO := fun σ H Q => ∃ ι ρ Z,Ie K W ι H σ ρ Z ∧ Post oEq K W.w σ ι H Q (f ρ Z)
theorem Reps.cut {K : PySem.W.Frag} {ι : List Addr} {H : Hp} {vs : List V} {ts : List T} (r : Reps K ι H vs ts) (lo hi : Option Int) : Reps K ι H (cutV vs lo hi) (cutL ts lo hi) := by
  unfold cutV cutL
  rw [r.length]
  exact (r.drop _).take _
theorem Zj7 {K : PySem.W.Frag} {ι : List Addr} {H : Hp} {vs : List V} {ts : List T} {i : Int} {t : T} (r : Reps K ι H vs ts) (e : atI ts i = some t) : ∃ v,atI vs i = some v ∧ Rep K ι H v t := by
  unfold atI at e ⊢
  rw [r.length]
  obtain ⟨j,h1,h2⟩ := Option.bind_eq_some_iff.mp e
  rw [h1]
  exact r.get h2
section
variable {X : Cx} {K : PySem.W.Frag} {W : Wc} {a : Expr} {fa : FE} {pos p2 : Pos} {lo hi : Option Expr} {fl fh : FO}
theorem Ze4 {r r' : R2} (h : IxR X r) (i : ∀ x y H Q, r' x y H Q → r x y H Q) : IxR X r' := fun value slice pins s σ H x y v u Q I rx ry q => h value slice pins s σ H x y v u Q I rx ry (i _ _ _ _ q)
theorem i_ix (hK : X.K = K) : IxR X (rF2 K gIx) := by
  subst hK
  refine Ze4 ix_seq fun x y H Q h => ?_
  obtain ⟨ι,Z,tx,ty,s,rx,ry,p⟩ := h
  unfold gIx at p
  split at p
  · split at p
    · rename_i hz
      cases rx; cases ry
      cases e : atI _ _ with
      | none => rw [e] at p; exact p.elim
      | some c =>
        rw [e] at p
        exact .inr (.inr ⟨_,_,c,rfl,rfl,by rw [S_len]; exact Z1p hz,e,Y6 p s (.str [c])⟩)
    · exact p.elim
  · cases ry
    split at p
    · rename_i ts hs
      obtain ⟨a,vs,rfl,hq,r⟩ := Z6q s rx hs
      cases e : atI ts _ with
      | none => rw [e] at p; exact p.elim
      | some t =>
        rw [e] at p
        obtain ⟨v,h1,h2⟩ := Zj7 r e
        rcases hq with hq | hq
        · exact .inl ⟨a,vs,_,v,rfl,rfl,hq,h1,Y6 p s h2⟩
        · exact .inr (.inl ⟨a,vs,_,v,rfl,rfl,hq,h1,Y6 p s h2⟩)
    · exact p.elim
  · exact p.elim
theorem Zbu : PO X none (tFO K W oNone) := ⟨fun pins s σ H Q I h => by
  obtain ⟨ι,ρ,Z,is,p⟩ := h
  exact po_none.run pins s σ H Q I (p ι H none Gr.refl is.sim rfl)⟩
theorem Vj (h : FJ X K W a fa) : PO X (some a) (tFO K W (oSome fa)) := ⟨fun pins s σ H Q I q => by
  obtain ⟨ι,ρ,Z,is,p⟩ := q
  refine (po_some h).run pins s σ H Q I ⟨ι,ρ,Z,is,(Zi p).imp fun x H1 q => ?_⟩
  obtain ⟨ι1,Z1,tx,g1,s1,r1,p1⟩ := q
  cases r1 with
  | int i => exact ⟨i,rfl,p1 ι1 H1 (some i) Gr.refl s1 rfl⟩
  | _ => exact p1.elim⟩
theorem f_sl (hK : X.K = K) (ha : FJ X K W a fa) (hl : PO X lo (tFO K W fl)) (hh : PO X hi (tFO K W fh)) : FJ X K W (.Subscript a (.Slice lo hi none p2) pos) (eSl fa fl fh) := by
  subst hK
  refine Vt (pe_slice ((sl_list (X := X)).or ((sl_tupA (X := X)).or sl_str)) ha hl hh) fun σ H Q h => ?_
  obtain ⟨ι,ρ,Z,is,p⟩ := h
  refine ⟨ι,ρ,Z,is,(Zi p).imp fun x H1 q => ?_⟩
  obtain ⟨ι1,Z1,tx,g1,s1,r1,p1⟩ := q
  refine ⟨ι1,ρ,Z1,is.gr g1 s1,(Zi p1).imp fun l H2 q2 => ?_⟩
  obtain ⟨ι2, Z2, l', g2, s2, r2, p2⟩ := q2
  cases (show l = l' from r2)
  refine ⟨ι2,ρ,Z2,is.gr (g1.trans g2) s2,(Zi p2).imp fun u H3 q3 => ?_⟩
  obtain ⟨ι3, Z3, u', g3, s3, r3, p3⟩ := q3
  cases (show u = u' from r3)
  have rx := (r1.gr g2).gr g3
  have p4 := Vw p3
  unfold gSl at p4
  split at p4
  · split at p4
    · rename_i hz
      cases rx
      exact .inr (.inr ⟨_,rfl,by rw [S_len]; exact Z1p hz,by rw [Ziy]; exact Y6 p4 s3 (.str _)⟩)
    · exact p4.elim
  · obtain ⟨a,vs,rfl,hq,r⟩ := rx.tupE
    refine .inr (.inl ⟨a,vs,rfl,hq,fun e => ?_,fun _ => Ze1 p4 s3 (r.cut _ _)⟩)
    refine Y6 p4 s3 ?_
    have h := r.cut l u
    have e3 : cutV vs l u = vs := by
      unfold cutV
      rw [e.1,e.2,List.drop_zero,Nat.sub_zero]
      exact List.take_of_length_le (Nat.le_refl _)
    rw [e3] at h
    exact .tup hq h
  · split at p4
    · rename_i ts hs
      obtain ⟨a,vs,rfl,hq,r⟩ := Z0i s3 rx hs
      exact .inl ⟨a,vs,rfl,hq,Zbr p4 s3 (r.cut _ _)⟩
    · exact p4.elim
end
def eTup (f : FA) : FE := fun ρ Z => (f ρ Z).bind fun xs Z1 => .ok (.tup xs) Z1
def eLst (f : FA) : FE := fun ρ Z => (f ρ Z).bind fun xs Z1 => .ok (.loc Z1.length) (Z1 ++ [.lst xs])
section
variable {X : Cx} {K : PySem.W.Frag} {W : Wc} {es : List Expr} {f : FA} {pos : Pos}
def ofLen (es : List Expr) (f : FA) : Prop := ∀ ρ Z xs Z1,f ρ Z = .ok xs Z1 → xs.length = es.length
theorem Z7 : ofLen [] aNil := fun ρ Z xs Z1 h => by
  unfold aNil at h
  injection h with h1 h2
  subst h1; rfl
theorem Z0 {a : Expr} {fa : FE} (h : ofLen es f) : ofLen (a :: es) (aCons fa f) := fun ρ Z xs Z1 e => by
  unfold aCons at e
  cases e1 : fa ρ Z with
  | ok x Z2 =>
    rw [e1,Xq] at e
    cases e2 : f ρ Z2 with
    | ok ys Z3 =>
      rw [e2,Xq] at e
      injection e with h1 h2
      subst h1
      rw [List.length_cons,List.length_cons,h _ _ _ _ e2]
    | exc _ _ => rw [e2] at e; cases e
    | stuck => rw [e2] at e; cases e
  | exc _ _ => rw [e1] at e; cases e
  | stuck => rw [e1] at e; cases e
theorem f_tup {k} (ha : FAJ X K W es f) (hn : ofLen es f) (hz : es.length ≤ 1000 := by decide) : FJ X K W (.Tuple es k pos) (eTup f) := by
  refine Vt (pe_tup ha) fun σ H Q h => ?_
  obtain ⟨ι,ρ,Z,is,p⟩ := h
  refine ⟨ι,ρ,Z,is,?_⟩
  unfold eTup at p
  cases e : f ρ Z with
  | ok ts Z1 =>
    rw [e,Xq] at p
    intro ι1 H1 vs g1 s1 r1
    refine ⟨?_,fun q n => ?_⟩
    · rw [r1.length,hn _ _ _ _ e]; exact Z1p (by unfold Lim; omega)
    · exact p ι1 _ _ (g1.trans (Gr.new0 n)) (s1.same (Jz n)) (.tup (SqT.of upd_same) (r1.gr (Gr.new0 n)))
  | exc x Z1 => rw [e] at p; exact p
  | stuck => rw [e] at p; exact p
theorem Qu (ha : FAJ X K W es f) (hn : ofLen es f) (hz : es.length ≤ 1000 := by decide) : FJ X K W (.List es pos) (eLst f) := by
  refine Vt (pe_lst ha) fun σ H Q h => ?_
  obtain ⟨ι,ρ,Z,is,p⟩ := h
  refine ⟨ι,ρ,Z,is,?_⟩
  unfold eLst at p
  cases e : f ρ Z with
  | ok ts Z1 =>
    rw [e,Xq] at p
    intro ι1 H1 vs g1 s1 r1
    refine ⟨?_,fun q n => ?_⟩
    · rw [r1.length,hn _ _ _ _ e]; exact Z1p (by unfold Lim; omega)
    · exact p (ι1 ++ [q]) _ _ (g1.trans (Gr.new n)) (s1.newL r1 n) (Zch s1)
  | exc x Z1 => rw [e] at p; exact p
  | stuck => rw [e] at p; exact p
end
end Fx
set_option maxHeartbeats 4000000
namespace Fx
open PySem PySem.Spec PyProof.Rows L2 SX Ap
variable [Tb]
inductive RS where
  | nx (ρ : Env) (Z : Sto) | rt (t : T) (Z : Sto) | bk (ρ : Env) (Z : Sto) | ct (ρ : Env) (Z : Sto) | exc (x : Ex) (ρ : Env) (Z : Sto) | stuck
abbrev FS := Env → Sto → RS
def bS {α : Type} (ρ : Env) : R α → (α → Sto → RS) → RS
  | .ok a Z,k => k a Z
  | .exc x Z,_ => .exc x ρ Z
  | .stuck,_ => .stuck
def seqS : RS → (Env → Sto → RS) → RS
  | .nx ρ Z,k => k ρ Z
  | r,_ => r
def seqL : RS → (Env → Sto → RS) → RS
  | .nx ρ Z,k => k ρ Z
  | .ct ρ Z,k => k ρ Z
  | .bk ρ Z,_ => .nx ρ Z
  | r,_ => r
@[simp] theorem Zbv {α : Type} (ρ : Env) (a : α) (Z : Sto) (k : α → Sto → RS) : bS ρ (.ok a Z) k = k a Z := (rfl)
@[simp] theorem bS_exc {α : Type} (ρ : Env) (x : Ex) (Z : Sto) (k : α → Sto → RS) : bS ρ (.exc x Z) k = .exc x ρ Z := (rfl)
@[simp] theorem bS_stuck {α : Type} (ρ : Env) (k : α → Sto → RS) : bS ρ (.stuck : R α) k = .stuck := (rfl)
@[simp] theorem seqS_nx (ρ : Env) (Z : Sto) (k : Env → Sto → RS) : seqS (.nx ρ Z) k = k ρ Z := (rfl)
@[simp] theorem seqS_rt (t : T) (Z : Sto) (k : Env → Sto → RS) : seqS (.rt t Z) k = .rt t Z := (rfl)
@[simp] theorem seqS_bk (ρ : Env) (Z : Sto) (k : Env → Sto → RS) : seqS (.bk ρ Z) k = .bk ρ Z := (rfl)
@[simp] theorem seqS_ct (ρ : Env) (Z : Sto) (k : Env → Sto → RS) : seqS (.ct ρ Z) k = .ct ρ Z := (rfl)
@[simp] theorem seqS_exc (x : Ex) (ρ : Env) (Z : Sto) (k : Env → Sto → RS) : seqS (.exc x ρ Z) k = .exc x ρ Z := (rfl)
@[simp] theorem Zbw (ρ : Env) (Z : Sto) (k : Env → Sto → RS) : seqL (.nx ρ Z) k = k ρ Z := (rfl)
@[simp] theorem Ze5 (ρ : Env) (Z : Sto) (k : Env → Sto → RS) : seqL (.ct ρ Z) k = k ρ Z := (rfl)
@[simp] theorem seqL_bk (ρ : Env) (Z : Sto) (k : Env → Sto → RS) : seqL (.bk ρ Z) k = .nx ρ Z := (rfl)
@[simp] theorem Zhs (t : T) (Z : Sto) (k : Env → Sto → RS) : seqL (.rt t Z) k = .rt t Z := (rfl)
@[simp] theorem seqL_exc (x : Ex) (ρ : Env) (Z : Sto) (k : Env → Sto → RS) : seqL (.exc x ρ Z) k = .exc x ρ Z := (rfl)
structure Is (K : PySem.W.Frag) (ι : List Addr) (H : Hp) (σ : L2.St) (ρ : Env) (Z : Sto) : Prop where
  len : σ.length = ρ.length
  env : Envs K ι H σ ρ
  sim : Sim K ι Z H
theorem Is.ie {K : PySem.W.Frag} {W : WX} {ι : List Addr} {H : Hp} {σ : L2.St} {ρ : Env} {Z : Sto} (h : Is K ι H σ ρ Z) : Ie K (Wt W) ι H σ ρ Z := ⟨h.len,h.env,h.sim,trivial⟩
theorem Is.gr {K : PySem.W.Frag} {ι ι' : List Addr} {H H' : Hp} {σ : L2.St} {ρ : Env} {Z Z' : Sto} (h : Is K ι H σ ρ Z) (g : Gr ι ι' H H') (s : Sim K ι' Z' H') : Is K ι' H' σ ρ Z' := ⟨h.len, h.env.gr g, s⟩
def PostS (K : PySem.W.Frag) (W : WX) (ι : List Addr) (H : Hp) (D : Ends) : RS → Prop
  | .nx ρ' Z' => ∀ ι' H' σ', Gr ι ι' H H' → Is K ι' H' σ' ρ' Z' → D.nx σ' H'
  | .rt t Z' => ∀ ι' H' v, Gr ι ι' H H' → Sim K ι' Z' H' → Rep K ι' H' v t → D.rt v H'
  | .bk ρ' Z' => ∀ ι' H' σ', Gr ι ι' H H' → Is K ι' H' σ' ρ' Z' → D.bk σ' H'
  | .ct ρ' Z' => ∀ ι' H' σ', Gr ι ι' H H' → Is K ι' H' σ' ρ' Z' → D.ct σ' H'
  | .exc x ρ' Z' => ∀ ι' H' σ' cls d, Gr ι ι' H H' → Is K ι' H' σ' ρ' Z' → RepX K ι' H' cls d x → W cls d σ' H'
  | .stuck => False
def tS (K : PySem.W.Frag) (W : WX) (g : FS) : TS := fun D σ H => ∃ ι ρ Z,Is K ι H σ ρ Z ∧ PostS K W ι H D (g ρ Z)
abbrev FSJ (X : Cx) (K : PySem.W.Frag) (W : WX) (st : Stmt) (g : FS) : Prop := PS X st (tS K W g)
abbrev FBJ (X : Cx) (K : PySem.W.Frag) (W : WX) (st : List Stmt) (g : FS) : Prop := PSs X st (tS K W g)
section
variable {α β : Type} {K : PySem.W.Frag} {W : WX} {ι ι1 : List Addr} {H H1 : Hp} {σ : L2.St} {ρ : Env} {Z : Sto} {D : Ends}
theorem PostS.shift {r : RS} (h : PostS K W ι H D r) (g : Gr ι ι1 H H1) : PostS K W ι1 H1 D r := by
  cases r with
  | nx => exact fun ι' H' σ' g' => h ι' H' σ' (g.trans g')
  | rt => exact fun ι' H' σ' g' => h ι' H' σ' (g.trans g')
  | bk => exact fun ι' H' σ' g' => h ι' H' σ' (g.trans g')
  | ct => exact fun ι' H' σ' g' => h ι' H' σ' (g.trans g')
  | exc => exact fun ι' H' σ' c d g' => h ι' H' σ' c d (g.trans g')
  | stuck => exact h
theorem Z3k {rep : List Addr → Hp → β → α → Prop} {r : R α} {k : α → Sto → RS} (is : Is K ι H σ ρ Z) (h : PostS K W ι H D (bS ρ r k)) :
    Post rep K W σ ι H (fun b H1 => ∃ ι1 Z1 a,Gr ι ι1 H H1 ∧ Sim K ι1 Z1 H1 ∧ rep ι1 H1 b a ∧ PostS K W ι1 H1 D (k a Z1)) r := by
  cases r with
  | ok a S => exact fun ι1 H1 b g s r => ⟨ι1,S,a,g,s,r,PostS.shift h g⟩
  | exc x S => exact fun ι' H' cls d g s rx => h ι' H' σ cls d g (is.gr g s) rx
  | stuck => exact h
theorem Zg6 {r : RS} {k : Env → Sto → RS} (h : PostS K W ι H D (seqS r k)) :
    PostS K W ι H { D with nx := fun σ' H' => ∃ ι' ρ' Z', Gr ι ι' H H' ∧ Is K ι' H' σ' ρ' Z' ∧ PostS K W ι' H' D (k ρ' Z') } r := by
  cases r with
  | nx ρ' Z' => exact fun ι' H' σ' g i => ⟨ι', ρ', Z', g, i, PostS.shift h g⟩
  | rt => exact h
  | bk => exact h
  | ct => exact h
  | exc => exact h
  | stuck => exact h
theorem Zal {r : RS} {k : Env → Sto → RS} (h : PostS K W ι H D (seqL r k)) :
    PostS K W ι H { D with nx := fun σ' H' => ∃ ι' ρ' Z', Gr ι ι' H H' ∧ Is K ι' H' σ' ρ' Z' ∧ PostS K W ι' H' D (k ρ' Z'), ct := fun σ' H' => ∃ ι' ρ' Z', Gr ι ι' H H' ∧ Is K ι' H' σ' ρ' Z' ∧ PostS K W ι' H' D (k ρ' Z'), bk := D.nx } r := by
  cases r with
  | nx ρ' Z' => exact fun ι' H' σ' g i => ⟨ι', ρ', Z', g, i, PostS.shift h g⟩
  | rt => exact h
  | bk => exact h
  | ct ρ' Z' => exact fun ι' H' σ' g i => ⟨ι', ρ', Z', g, i, PostS.shift h g⟩
  | exc => exact h
  | stuck => exact h
theorem PostS.imp {r : RS} {D2 : Ends} (h : PostS K W ι H D r) (h1 : ∀ σ H,D.nx σ H → D2.nx σ H) (h2 : ∀ σ H,D.rt σ H → D2.rt σ H) (h3 : ∀ σ H,D.bk σ H → D2.bk σ H) (h4 : ∀ σ H,D.ct σ H → D2.ct σ H) : PostS K W ι H D2 r := by
  cases r with
  | nx => exact fun ι' H' σ' g i => h1 _ _ (h ι' H' σ' g i)
  | rt => exact fun ι' H' σ' g i r => h2 _ _ (h ι' H' σ' g i r)
  | bk => exact fun ι' H' σ' g i => h3 _ _ (h ι' H' σ' g i)
  | ct => exact fun ι' H' σ' g i => h4 _ _ (h ι' H' σ' g i)
  | exc => exact h
  | stuck => exact h
end
def sSet (i : Nat) (f : FE) : FS := fun ρ Z => bS ρ (f ρ Z) fun x Z1 => .nx (ρ.set i (some x)) Z1
def sRet (f : FE) : FS := fun ρ Z => bS ρ (f ρ Z) fun x Z1 => .rt x Z1
def sRetN : FS := fun _ Z => .rt .non Z
def sDrop (f : FE) : FS := fun ρ Z => bS ρ (f ρ Z) fun _ Z1 => .nx ρ Z1
def sPass : FS := fun ρ Z => .nx ρ Z
def sBrk : FS := fun ρ Z => .bk ρ Z
def sCnt : FS := fun ρ Z => .ct ρ Z
def sIf (c : FT) (a b : FS) : FS := fun ρ Z => bS ρ (c ρ Z) fun x Z1 => if x = true then a ρ Z1 else b ρ Z1
def bCons (a b : FS) : FS := fun ρ Z => seqS (a ρ Z) b
section
variable {X : Cx} {K : PySem.W.Frag} {W : WX} {e c : Expr} {fe : FE} {ft : FT} {st : Stmt} {sts a b : List Stmt} {g g' : FS} {pos : Pos} {i : Nat} {x : PySem.Str}
theorem Z7r {k : T → Sto → RS} {σ : L2.St} {ρ : Env} {ι : List Addr} {H : Hp} {Z : Sto} {D : Ends} {Q : VK} (is : Is K ι H σ ρ Z) (h : PostS K W ι H D (bS ρ (fe ρ Z) k)) (hq : ∀ v H1 ι1 Z1 t,Gr ι ι1 H H1 → Is K ι1 H1 σ ρ Z1 → Rep K ι1 H1 v t → PostS K W ι1 H1 D (k t Z1) → Q v H1) : tF K (Wt W) fe σ H Q :=
  ⟨ι,ρ,Z,is.ie,(Z3k (rep := Rep K) is h).imp fun v H1 ⟨ι1,Z1,t,g1,s1,r1,p1⟩ => hq v H1 ι1 Z1 t g1 (is.gr g1 s1) r1 p1⟩
theorem Zh9 {k : Bool → Sto → RS} {σ : L2.St} {ρ : Env} {ι : List Addr} {H : Hp} {Z : Sto} {D : Ends} {Q : Bool → Hp → Prop} (is : Is K ι H σ ρ Z) (h : PostS K W ι H D (bS ρ (ft ρ Z) k)) (hq : ∀ v H1 ι1 Z1,Gr ι ι1 H H1 → Is K ι1 H1 σ ρ Z1 → PostS K W ι1 H1 D (k v Z1) → Q v H1) : tFT K (Wt W) ft σ H Q :=
  ⟨ι,ρ,Z,is.ie,(Z3k (rep := bEq) is h).imp fun v H1 ⟨ι1,Z1,t,g1,s1,r1,p1⟩ => hq v H1 ι1 Z1 g1 (is.gr g1 s1) (by cases (show v = t from r1); exact p1)⟩
theorem Is.set {ι : List Addr} {H : Hp} {σ : L2.St} {ρ : Env} {Z : Sto} {v : V} {t : T} (h : Is K ι H σ ρ Z) (r : Rep K ι H v t) (i : Nat) : Is K ι H (σ.set i (some v)) (ρ.set i (some t)) Z :=
  ⟨by rw [List.length_set,List.length_set]; exact h.len,h.env.set r i h.len,h.sim⟩
theorem Zr {pos' : Pos} (hN : X.N.Nodup) (hi : X.N[i]? = some x) (hx : Loc X.env.scope x) (he : FJ X K (Wt W) e fe) (hs : swapsWith e (some (.Name x pos')) pos.line X.env = pure false := by rfl) (hf : X.fn x = true ∨ X.env.scope.names.lookup x = some .local := by first | exact .inl rfl | exact .inr rfl | assumption) :
    FSJ X K W (.Assign [.Name x pos'] e pos) (sSet i fe) := Jb (ps_set hN hi hx he hs hf) fun D σ H h => by
  obtain ⟨ι,ρ,Z,is,p⟩ := h
  exact Z7r is p fun v H1 ι1 Z1 t g1 i1 r1 p1 => p1 ι1 H1 _ Gr.refl (i1.set r1 i)
theorem Zo (he : FJ X K (Wt W) e fe) : FSJ X K W (.Return (some e) pos) (sRet fe) := Jb (ps_ret he) fun D σ H h => by
  obtain ⟨ι,ρ,Z,is,p⟩ := h
  exact Z7r is p fun v H1 ι1 Z1 t g1 i1 r1 p1 => p1 ι1 H1 v Gr.refl i1.sim r1
theorem Vz (he : FJ X K (Wt W) e fe) (hs : swapsWith e none pos.line X.env = pure false := by rfl) : FSJ X K W (.Expr e pos) (sDrop fe) := Jb (ps_expr he hs) fun D σ H h => by
  obtain ⟨ι,ρ,Z,is,p⟩ := h
  exact Z7r is p fun v H1 ι1 Z1 t g1 i1 r1 p1 => p1 ι1 H1 σ Gr.refl i1
theorem Zha : FSJ X K W (.Break pos) sBrk := Jb ps_break fun D σ H h => by
  obtain ⟨ι,ρ,Z,is,p⟩ := h
  exact p ι H σ Gr.refl is
theorem Ym (hc : FTJ X K (Wt W) c ft) (ha : FBJ X K W a g) (hb : FBJ X K W b g') : FSJ X K W (.If c a b pos) (sIf ft g g') := Jb (ps_if hc ha hb) fun D σ H h => by
  obtain ⟨ι,ρ,Z,is,p⟩ := h
  refine Zh9 is p fun v H1 ι1 Z1 g1 i1 p1 => ?_
  cases v with
  | true => exact ⟨ι1,ρ,Z1,i1,p1⟩
  | false => exact ⟨ι1,ρ,Z1,i1,p1⟩
theorem Y5 : FBJ X K W [] sPass := Ze0 pss_nil fun D σ H h => by
  obtain ⟨ι,ρ,Z,is,p⟩ := h
  exact p ι H σ Gr.refl is
theorem Zf (h : FSJ X K W st g) : FBJ X K W [st] g := pss_one h
theorem Z9 (h : FSJ X K W st g) (h2 : FBJ X K W sts g') : FBJ X K W (st :: sts) (bCons g g') := Ze0 (pss_cons h h2) fun D σ H h => by
  obtain ⟨ι,ρ,Z,is,p⟩ := h
  refine ⟨ι, ρ, Z, is, (Zg6 p).imp (fun σ' H' q => ?_) (fun _ _ q => q) (fun _ _ q => q) (fun _ _ q => q)⟩
  obtain ⟨ι', ρ', Z', _, i', p'⟩ := q
  exact ⟨ι', ρ', Z', i', p'⟩
end
def sPar (ix : List Nat) (f : FA) : FS := fun ρ Z => bS ρ (f ρ Z) fun xs Z1 => .nx ((ix.zip xs).foldl (fun r p => r.set p.1 (some p.2)) ρ) Z1
section
variable {X : Cx} {K : PySem.W.Frag} {W : WX} {fa : FA}
theorem Ze6 {k : List T → Sto → RS} {σ : L2.St} {ρ : Env} {ι : List Addr} {H : Hp} {Z : Sto} {D : Ends} {Q : List V → Hp → Prop} (is : Is K ι H σ ρ Z) (h : PostS K W ι H D (bS ρ (fa ρ Z) k)) (hq : ∀ v H1 ι1 Z1 t,fa ρ Z = .ok t Z1 → Gr ι ι1 H H1 → Is K ι1 H1 σ ρ Z1 → Reps K ι1 H1 v t → PostS K W ι1 H1 D (k t Z1) → Q v H1) : tFA K (Wt W) fa σ H Q := by
  refine ⟨ι,ρ,Z,is.ie,?_⟩
  cases e : fa ρ Z with
  | ok a S =>
    rw [e] at h
    exact fun ι1 H1 b g s r => hq b H1 ι1 S a e g (is.gr g s) r (PostS.shift h g)
  | exc x S =>
    rw [e] at h
    exact fun ι' H' cls d g s rx => h ι' H' σ cls d g (is.gr g s) rx
  | stuck => rw [e] at h; exact h
theorem Z6r {i j : Nat} {x y : PySem.Str} {a b : Expr} {px py pt pos : Pos} {kt k2 pt2} (hc : X.calm = true) (hN : X.N.Nodup) (hi : X.N[i]? = some x) (hj : X.N[j]? = some y) (hij : i ≠ j)
    (hx : X.env.scope.names.lookup x = some .local) (hy : X.env.scope.names.lookup y = some .local) (ha : FAJ X K (Wt W) [a,b] fa) (hn : ofLen [a,b] fa)
    (hw : swappedStores [.Tuple [.Name x px,.Name y py] kt pt] (.Tuple [a,b] k2 pt2) X.env = pure (some [x,y]))
    (hs : swapsWithSole [.Tuple [.Name x px,.Name y py] kt pt] (.Tuple [a,b] k2 pt2) pos.line X.env = pure false := by rfl) :
    FSJ X K W (.Assign [.Tuple [.Name x px,.Name y py] kt pt] (.Tuple [a,b] k2 pt2) pos) (sPar [i,j] fa) := Jb (ps_par hc hN hi hj hij hx hy ha hw hs) fun D σ H h => by
  obtain ⟨ι,ρ,Z,is,p⟩ := h
  refine Ze6 is p fun v H1 ι1 Z1 t e g1 i1 r1 p1 => ?_
  have hl := hn _ _ _ _ e
  match t,r1,hl with
  | [t1,t2],.cons r1 (.cons r2 .nil),_ => exact ⟨_,_,rfl,p1 ι1 H1 _ Gr.refl ((i1.set r1 i).set r2 j)⟩
theorem Zht {i j l : Nat} {x y z : PySem.Str} {a b c : Expr} {px py pz pt pos : Pos} {kt k2 pt2} (hc : X.calm = true) (hN : X.N.Nodup) (hi : X.N[i]? = some x) (hj : X.N[j]? = some y) (hl : X.N[l]? = some z) (hij : i ≠ j) (hil : i ≠ l) (hjl : j ≠ l)
    (hx : X.env.scope.names.lookup x = some .local) (hy : X.env.scope.names.lookup y = some .local) (hz : X.env.scope.names.lookup z = some .local) (ha : FAJ X K (Wt W) [a,b,c] fa) (hn : ofLen [a,b,c] fa)
    (hw : swappedStores [.Tuple [.Name x px,.Name y py,.Name z pz] kt pt] (.Tuple [a,b,c] k2 pt2) X.env = pure (some [x,y,z]))
    (hs : swapsWithSole [.Tuple [.Name x px,.Name y py,.Name z pz] kt pt] (.Tuple [a,b,c] k2 pt2) pos.line X.env = pure false := by rfl) :
    FSJ X K W (.Assign [.Tuple [.Name x px,.Name y py,.Name z pz] kt pt] (.Tuple [a,b,c] k2 pt2) pos) (sPar [i,j,l] fa) := Jb (ps_par3 hc hN hi hj hl hij hil hjl hx hy hz ha hw hs) fun D σ H h => by
  obtain ⟨ι,ρ,Z,is,p⟩ := h
  refine Ze6 is p fun v H1 ι1 Z1 t e g1 i1 r1 p1 => ?_
  have hl := hn _ _ _ _ e
  match t,r1,hl with
  | [t1,t2,t3],.cons r1 (.cons r2 (.cons r3 .nil)),_ => exact ⟨_,_,_,rfl,p1 ι1 H1 _ Gr.refl (((i1.set r1 i).set r2 j).set r3 _)⟩
end
abbrev FG := T → Env → Sto → R Env
abbrev FGs := List T → Env → Sto → R Env
def rEnv (K : PySem.W.Frag) (ι : List Addr) (H : Hp) (σ : L2.St) (ρ : Env) : Prop := σ.length = ρ.length ∧ Envs K ι H σ ρ
def tG (K : PySem.W.Frag) (W : WX) (g : FG) : TG := fun v σ H Q => ∃ ι ρ Z t,Is K ι H σ ρ Z ∧ Rep K ι H v t ∧ Post (rEnv K) K W σ ι H Q (g t ρ Z)
def tGs (K : PySem.W.Frag) (W : WX) (g : FGs) : TGs := fun v σ H Q => ∃ ι ρ Z t,Is K ι H σ ρ Z ∧ Reps K ι H v t ∧ Post (rEnv K) K W σ ι H Q (g t ρ Z)
def gNm (i : Nat) : FG := fun t ρ Z => .ok (ρ.set i (some t)) Z
def gsNil : FGs := fun ts ρ Z => match ts with
  | [] => .ok ρ Z
  | _ => .stuck
def noX {α : Type} : R α → R α
  | .exc _ _ => .stuck
  | r => r
def gsCons (g : FG) (r : FGs) : FGs := fun ts ρ Z => match ts with
  | t :: ts => (noX (g t ρ Z)).bind fun ρ1 Z1 => noX (r ts ρ1 Z1)
  | _ => .stuck
def gTp (n : Nat) (r : FGs) : FG := fun t ρ Z => match t with
  | .tup ts => if ts.length = n then r ts ρ Z else .stuck
  | _ => .stuck
theorem Z6h {α β : Type} {rep : List Addr → Hp → β → α → Prop} {K : PySem.W.Frag} {W W' : WX} {σ σ' : L2.St} {ι : List Addr} {H : Hp} {Q : β → Hp → Prop} {r : R α} (h : Post rep K W σ ι H Q (noX r)) : Post rep K W' σ' ι H Q r := by
  cases r with
  | ok => exact h
  | exc => exact h.elim
  | stuck => exact h
section
variable {X : Cx} {K : PySem.W.Frag} {W : WX} {pos : Pos} {e : Expr} {es : List Expr}
theorem Zcl {tg : Expr} {t t' : TG} (h : PG X tg t) (i : ∀ v σ H Q, t' v σ H Q → t v σ H Q) : PG X tg t' := ⟨fun pins s σ H v u Q I r q => h.run pins s σ H v u Q I r (i _ _ _ _ q)⟩
theorem Ze7 {tg : List Expr} {t t' : TGs} (h : PGs X tg t) (i : ∀ v σ H Q, t' v σ H Q → t v σ H Q) : PGs X tg t' := ⟨fun pins s σ H v u Q I r q => h.run pins s σ H v u Q I r (i _ _ _ _ q)⟩
theorem Xj {i : Nat} {x : PySem.Str} (hN : X.N.Nodup) (hi : X.N[i]? = some x) (hx : Loc X.env.scope x) (hf : X.fn x = true ∨ X.env.scope.names.lookup x = some .local := by first | exact .inl rfl | exact .inr rfl | assumption) : PG X (.Name x pos) (tG K W (gNm i)) :=
  Zcl (pg_name hN hi hx hf) fun v σ H Q h => by
    obtain ⟨ι,ρ,Z,t,is,r,p⟩ := h
    have i2 := is.set r i
    exact p ι H _ Gr.refl is.sim ⟨i2.len,i2.env⟩
theorem Z1q : PGs X [] (tGs K W gsNil) := Ze7 pgs_nil fun v σ H Q h => by
  obtain ⟨ι,ρ,Z,t,is,r,p⟩ := h
  cases r with
  | nil => exact ⟨rfl,p ι H _ Gr.refl is.sim ⟨is.len,is.env⟩⟩
  | cons _ _ => exact p.elim
theorem Xc {g : FG} {gs : FGs} (h1 : PG X e (tG K W g)) (h2 : PGs X es (tGs K W gs)) (hs : (assignEach (e :: es) X.env).map (·.2) = assign e X.env :: (assignEach es X.env).map (·.2) := by rfl) : PGs X (e :: es) (tGs K W (gsCons g gs)) := Ze7 (pgs_cons h1 h2 hs) fun v σ H Q h => by
  obtain ⟨ι,ρ,Z,t,is,r,p⟩ := h
  cases r with
  | nil => exact p.elim
  | cons r1 r2 =>
    refine ⟨_,_,rfl,ι,ρ,Z,_,is,r1,Z6h (W := W) (σ := σ) ((Zi (rep := rEnv K) p).imp fun σ1 H1 q => ?_)⟩
    obtain ⟨ι1,Z1,ρ1,g1,s1,⟨hl,he⟩,p1⟩ := q
    exact ⟨ι1,ρ1,Z1,_,⟨hl,he,s1⟩,r2.gr g1,Z6h p1⟩
theorem Z5u {k : Nat} {gs : FGs} {n : Nat} (hK : X.K = K) (hc : X.calm = true) (h : PGs X es (tGs K W gs)) (hn : (assignEach es X.env).length = n := by rfl) (hst : (assignEach es X.env).findIdx? (·.1) = none := by rfl) : PG X (.Tuple es k pos) (tG K W (gTp n gs)) := by
  subst hK
  refine Zcl (pg_tup hc h hn hst) fun v σ H Q h => ?_
  obtain ⟨ι,ρ,Z,t,is,r,p⟩ := h
  cases t with
  | tup ts =>
    obtain ⟨a,vs,rfl,hq,r⟩ := r.tupE
    simp only [gTp] at p
    split at p
    · rename_i hl
      exact ⟨a,vs,rfl,hq,by rw [r.length]; exact hl,ι,ρ,Z,ts,is,r,p⟩
    · exact p.elim
  | _ => exact p.elim
def sAsg (f : FE) (g : FG) : FS := fun ρ Z => bS ρ (f ρ Z) fun x Z1 => bS ρ (g x ρ Z1) fun ρ2 Z2 => .nx ρ2 Z2
theorem Z47 {tg : Expr} {fe : FE} {g : FG} (he : FJ X K (Wt W) e fe) (hg : PG X tg (tG K W g)) (hs : swapsWithSole [tg] e pos.line X.env = pure false := by rfl) (hw : swappedStores [tg] e X.env = pure none := by rfl)
    (h1 : (assignEach [tg] X.env).map (·.2) = [assign tg X.env] := by rfl) : FSJ X K W (.Assign [tg] e pos) (sAsg fe g) := Jb (ps_asg he hg hs hw h1) fun D σ H h => by
  obtain ⟨ι,ρ,Z,is,p⟩ := h
  refine Z7r is p fun v H1 ι1 Z1 t g1 i1 r1 p1 => ?_
  refine ⟨ι1,ρ,Z1,t,i1,r1,(Z3k (rep := rEnv K) i1 p1).imp fun σ2 H2 q => ?_⟩
  obtain ⟨ι2,Z2,ρ2,g2,s2,⟨hl,he⟩,p2⟩ := q
  exact p2 ι2 H2 σ2 Gr.refl ⟨hl,he,s2⟩
end
def gSetL : T → T → T → Sto → Option Sto
  | .loc j,.int k,t,Z => match getL Z j with
    | some ts => (ixN ts.length k).map fun n => Z.set j (.lst (ts.set n t))
    | none => none
  | _,_,_,_ => none
def gSubs (fo fi : FE) : FG := fun t ρ Z => (fo ρ Z).bind fun o Z1 => (fi ρ Z1).bind fun i Z2 => match gSetL o i t Z2 with
  | some Z3 => .ok ρ Z3
  | none => .stuck
def sAug (i : Nat) (f : FE) (g : T → T → Sto → Option (T × Sto)) : FS := fun ρ Z => match ρ[i]? with
  | some (some x) => bS ρ (f ρ Z) fun y Z1 => bS ρ (lift (g x y Z1)) fun z Z2 => .nx (ρ.set i (some z)) Z2
  | _ => .stuck
section
variable {X : Cx} {K : PySem.W.Frag} {W : WX} {pos : Pos} {o e : Expr} {fo fi fe : FE}
theorem Ze8 {ι : List Addr} {H : Hp} {Z Z3 : Sto} {x y v : V} {tx ty t : T} {Q : Hp → Prop} (s : Sim K ι Z H) (rx : Rep K ι H x tx) (ry : Rep K ι H y ty) (r : Rep K ι H v t) (e : gSetL tx ty t Z = some Z3) (q : ∀ H', Gr ι ι H H' → Sim K ι Z3 H' → Q H') : rSetL x y v H Q := by
  unfold gSetL at e
  split at e
  · split at e
    · rename_i ts h
      obtain ⟨n,h1,rfl⟩ := Option.map_eq_some_iff.mp e
      obtain ⟨a,vs,rfl,ha,hl,rl⟩ := Jd s (Ve h) rx
      cases ry
      refine ⟨a,vs,_,n,rfl,rfl,hl,by rw [rl.length]; exact h1,?_⟩
      have g := Gr.mut (ι := ι) (o := .lst (vs.set n v)) hl trivial (List.mem_of_getElem? ha)
      exact q _ g (s.set ha ⟨_,upd_same,(rl.gr g).set (r.gr g) n⟩)
    · cases e
  · cases e
theorem Z1r {i : Nat} {x : PySem.Str} {op : Operator} {g : T → T → Sto → Option (T × Sto)} {pos' : Pos} (hN : X.N.Nodup) (hi : X.N[i]? = some x) (hx : Loc X.env.scope x) (he : FJ X K (Wt W) e fe) (ho : PIp X op (rF2 K g)) (hf : X.fn x = true ∨ X.env.scope.names.lookup x = some .local := by first | exact .inl rfl | exact .inr rfl | assumption) :
    FSJ X K W (.AugAssign (.Name x pos') op e pos) (sAug i fe g) := Jb (ps_aug hN hi hx he ho hf) fun D σ H h => by
  obtain ⟨ι,ρ,Z,is,p⟩ := h
  unfold sAug at p
  split at p
  · rename_i t et
    obtain ⟨v,h1,h2⟩ := is.env i t et
    refine ⟨v,h1,Z7r is p fun y H1 ι1 Z1 ty g1 i1 r1 p1 => ⟨ι1,Z1,t,ty,i1.sim,h2.gr g1,r1,?_⟩⟩
    refine Vw (W := W) (σ := σ) ((Z3k (rep := Rep K) i1 p1).imp fun z H2 q => ?_)
    obtain ⟨ι2,Z2,tz,g2,s2,r2,p2⟩ := q
    exact p2 ι2 H2 _ Gr.refl ((i1.gr g2 s2).set r2 i)
  · exact p.elim
def gIAdd : T → T → Sto → Option (T × Sto)
  | .int i,.int j,Z => some (.int (i + j),Z)
  | .str a,.str b,Z => if a.length + b.length ≤ Lim then some (.str (a ++ b),Z) else none
  | _,_,_ => none
theorem N6 : PIp X .Add (rF2 K gIAdd) := by
  intro pins s σ H x y v u Q I rx ry q
  obtain ⟨ι,Z,tx,ty,sm,hx,hy,p⟩ := q
  unfold gIAdd at p
  split at p
  · cases hx; cases hy
    exact ip_add pins s σ H _ _ v u Q I rx ry ⟨_,_,rfl,rfl,Y6 p sm (.int _)⟩
  · split at p
    · rename_i hz
      cases hx; cases hy
      exact iop_add_str pins s σ H _ _ v u Q I rx ry ⟨_,_,rfl,rfl,by rw [S_len,S_len]; exact Z1p hz,by rw [Zj5]; exact Y6 p sm (.str _)⟩
    · exact p.elim
  · exact p.elim
end
abbrev ItF := Nat → Sto → Option (Option T)
abbrev FI := Env → Sto → R ItF
def loopN (it : ItF) (body : T → FS) : Nat → Nat → Env → Sto → RS
  | 0,_,_,_ => .stuck
  | n + 1,k,ρ,Z => match it k Z with
    | none => .stuck
    | some none => .nx ρ Z
    | some (some t) => seqL (body t ρ Z) fun ρ' Z' => loopN it body n (k + 1) ρ' Z'
def sFor (it : FI) (g : FG) (b : FS) : FS := fun ρ Z => bS ρ (it ρ Z) fun j Z1 => loopN j (fun t ρ' Z' => bS ρ' (g t ρ' Z') b) Fuel 0 ρ Z1
def loopW (c : FT) (b : FS) : Nat → Env → Sto → RS
  | 0,_,_ => .stuck
  | n + 1, ρ, Z => bS ρ (c ρ Z) fun x Z1 => if x = true then seqL (b ρ Z1) fun ρ' Z' => loopW c b n ρ' Z' else .nx ρ Z1
def sWhile (fuel : Nat) (c : FT) (b : FS) : FS := fun ρ Z => loopW c b fuel ρ Z
def ItR (K : PySem.W.Frag) (ι : List Addr) (H : Hp) (J : It) (it : ItF) : Prop := ∀ k ι' H' Z', Gr ι ι' H H' → Sim K ι' Z' H' → match it k Z' with
  | none => True
  | some none => J.stop k H'
  | some (some t) => J.go k H' ∧ ∀ x H'', J.yld k H' x H'' → Gr ι' ι' H' H'' ∧ Sim K ι' Z' H'' ∧ Rep K ι' H'' x t
def tI (K : PySem.W.Frag) (W : WX) (f : FI) : TI := fun σ H Q => ∃ ι ρ Z,Is K ι H σ ρ Z ∧ Post (ItR K) K W σ ι H Q (f ρ Z)
section
variable {X : Cx} {K : PySem.W.Frag} {W : WX} {pos : Pos} {tg iter c : Expr} {body : List Stmt} {fi : FI} {g : FG} {b : FS} {ft : FT}
theorem Z1s (hp : PassesOwn (model X.prog X.w) X.A X.env X.xe) (hc : X.calm = true) (hi : PI X tg iter (tI K W fi)) (hg : PG X tg (tG K W g)) (hb : FBJ X K W body b) (hs : ∀ x,foldedSetIterable iter X.env x = pure x := by intro _; rfl) :
    FSJ X K W (.For tg iter body [] pos) (sFor fi g b) := Jb (ps_for hp hc hi hg hb hs) fun D σ H h => by
  obtain ⟨ι,ρ,Z,is,p⟩ := h
  refine ⟨ι,ρ,Z,is,(Z3k (rep := ItR K) is p).imp fun J H1 q => ?_⟩
  obtain ⟨ι1,Z1,it,g1,s1,rJ,p1⟩ := q
  refine ⟨fun k m σ' H' => ∃ ι' ρ' Z', Gr ι1 ι' H1 H' ∧ Is K ι' H' σ' ρ' Z' ∧ PostS K W ι' H' D (loopN it (fun t ρ' Z' => bS ρ' (g t ρ' Z') b) m k ρ' Z'), ⟨Fuel, ι1, ρ, Z1, Gr.refl, is.gr g1 s1, p1⟩, ?_⟩
  rintro k m σ' H' ⟨ι', ρ', Z', g', i', p'⟩
  cases m with
  | zero => exact p'.elim
  | succ m =>
    have hj := rJ k ι' H' Z' g' i'.sim
    unfold loopN at p'
    cases e : it k Z' with
    | none => rw [e] at p'; exact p'.elim
    | some o =>
      rw [e] at hj p'
      cases o with
      | none => exact .inl ⟨hj, p' ι' H' σ' Gr.refl i'⟩
      | some t =>
        refine .inr ⟨hj.1, _, fun σ2 H2 n => ⟨m, Nat.lt_succ_self m, n⟩, fun x H'' y => ?_⟩
        obtain ⟨g2, s2, r2⟩ := hj.2 x H'' y
        have i2 := i'.gr g2 s2
        have p2 := Zal (PostS.shift p' g2)
        refine ⟨ι', ρ', Z', t, i2, r2, (Z3k (rep := rEnv K) i2 p2).imp fun σ3 H3 q => ?_⟩
        obtain ⟨ι3,Z3,ρ3,g3,s3,⟨hl,he⟩,p3⟩ := q
        have hN : ∀ σ4 H4, (∃ ι4 ρ4 Z4, Gr ι' ι4 H'' H4 ∧ Is K ι4 H4 σ4 ρ4 Z4 ∧ PostS K W ι4 H4 D (loopN it (fun t ρ' Z' => bS ρ' (g t ρ' Z') b) m (k + 1) ρ4 Z4)) → ∃ ι4 ρ4 Z4, Gr ι1 ι4 H1 H4 ∧ Is K ι4 H4 σ4 ρ4 Z4 ∧ PostS K W ι4 H4 D (loopN it (fun t ρ' Z' => bS ρ' (g t ρ' Z') b) m (k + 1) ρ4 Z4) :=
          fun σ4 H4 ⟨ι4, ρ4, Z4, g4, i4, p4⟩ => ⟨ι4, ρ4, Z4, (g'.trans g2).trans g4, i4, p4⟩
        exact ⟨ι3,ρ3,Z3,⟨hl,he,s3⟩,p3.imp hN (fun _ _ q => q) (fun _ _ q => q) hN⟩
theorem Qv {fuel : Nat} (hp : PassesOwn (model X.prog X.w) X.A X.env X.xe) (hc : FTJ X K (Wt W) c ft) (hb : FBJ X K W body b) : FSJ X K W (.While c body [] pos) (sWhile fuel ft b) := Jb (ps_while hp hc hb) fun D σ H h => by
  obtain ⟨ι,ρ,Z,is,p⟩ := h
  refine ⟨fun m σ' H' => ∃ ι' ρ' Z', Gr ι ι' H H' ∧ Is K ι' H' σ' ρ' Z' ∧ PostS K W ι' H' D (loopW ft b m ρ' Z'), ⟨fuel, ι, ρ, Z, Gr.refl, is, p⟩, ?_⟩
  rintro m σ' H' ⟨ι', ρ', Z', g', i', p'⟩
  cases m with
  | zero => exact p'.elim
  | succ m =>
    unfold loopW at p'
    refine Zh9 i' p' fun v H1 ι1 Z1 g1 i1 p1 => ?_
    cases v with
    | false => exact p1 ι1 H1 σ' Gr.refl i1
    | true =>
      rw [if_pos rfl] at p1 ⊢
      have hN : ∀ σ4 H4,(∃ ι4 ρ4 Z4,Gr ι1 ι4 H1 H4 ∧ Is K ι4 H4 σ4 ρ4 Z4 ∧ PostS K W ι4 H4 D (loopW ft b m ρ4 Z4)) → ∃ ι4 ρ4 Z4,Gr ι ι4 H H4 ∧ Is K ι4 H4 σ4 ρ4 Z4 ∧ PostS K W ι4 H4 D (loopW ft b m ρ4 Z4) :=
        fun σ4 H4 ⟨ι4, ρ4, Z4, g4, i4, p4⟩ => ⟨ι4, ρ4, Z4, (g'.trans g1).trans g4, i4, p4⟩
      exact ⟨_, fun σ2 H2 n => ⟨m, Nat.lt_succ_self m, n⟩, ι1, ρ', Z1, i1, (Zal p1).imp hN (fun _ _ q => q) (fun _ _ q => q) hN⟩
end
def itSeq (ts : List T) : ItF := fun k _ => some ts[k]?
def itLoc (i : Nat) : ItF := fun k Z => (getL Z i).map fun ts => ts[k]?
def itEnum (it : ItF) : ItF := fun k Z => (it k Z).map fun o => o.map fun t => .tup [.int (k : Int),t]
def itRng (lo : Int) (n : Nat) : ItF := fun k _ => some (if k < n then some (.int (lo + k)) else none)
def itStr (l : List Nat) : ItF := fun k _ => some (l[k]?.map fun c => .str [c])
def iSeqT (f : FE) : FI := fun ρ Z => (f ρ Z).bind fun x Z1 => match x with
  | .tup ts => .ok (itSeq ts) Z1
  | _ => .stuck
def iSeqL (f : FE) : FI := fun ρ Z => (f ρ Z).bind fun x Z1 => match x with
  | .frl ts => .ok (itSeq ts) Z1
  | .loc i => match getL Z1 i with
    | some _ => .ok (itLoc i) Z1
    | none => .stuck
  | _ => .stuck
def iStr (f : FE) : FI := fun ρ Z => (f ρ Z).bind fun x Z1 => match x with
  | .str l => .ok (itStr l) Z1
  | _ => .stuck
def iRng (f : FA) : FI := fun ρ Z => (f ρ Z).bind fun xs Z1 => match xs with
  | [.int j] => if -(2 ^ 62) ≤ j ∧ j < 2 ^ 62 then .ok (itRng 0 j.toNat) Z1 else .stuck
  | [.int i,.int j] => if -(2 ^ 62) ≤ i ∧ i < 2 ^ 62 ∧ -(2 ^ 62) ≤ j ∧ j < 2 ^ 62 then .ok (itRng i (j - i).toNat) Z1 else .stuck
  | _ => .stuck
section
variable {X : Cx} {K : PySem.W.Frag} {W : WX} {pos p : Pos} {tg l a b : Expr} {fl : FE} {fa : FA}
theorem Z6s {t t' : TI} (h : PI X tg l t) (i : ∀ σ H Q, t' σ H Q → t σ H Q) : PI X tg l t' := ⟨fun pins s σ H R I q => h.run pins s σ H R I (i _ _ _ q)⟩
theorem Zcm {ι : List Addr} {H : Hp} {Z : Sto} {v : V} {t : T} {it : ItF} (s : Sim K ι Z H) (r : Rep K ι H v t) (e : (match t with
  | .frl ts => some (itSeq ts)
  | .loc i => match getL Z i with
    | some _ => some (itLoc i)
    | none => none
  | _ => none) = some it) : ∃ a,v = .ref a ∧ (∃ xs,SqL K H a xs) ∧ ItR K ι H (Itl K a) it := by
  cases t with
  | frl ts =>
    cases e
    cases r with
    | frl hq rs =>
      refine ⟨_, rfl, ⟨_, hq.sq⟩, fun k ι' H' Z' g' s' => ?_⟩
      have hq' := (hq.gr g').sq
      show match (itSeq ts k Z') with | none => True | some none => _ | some (some t) => _
      simp only [itSeq]
      cases e : ts[k]? with
      | none => exact ⟨_, hq', by rw [rs.length]; exact List.getElem?_eq_none_iff.mp e⟩
      | some u =>
        obtain ⟨x,h1,h2⟩ := rs.get e
        refine ⟨⟨_, x, hq', h1⟩, fun y H'' hy => ?_⟩
        obtain ⟨rfl,hy⟩ := hy
        have := hy _ hq'
        rw [h1] at this; cases this
        exact ⟨Gr.refl, s', h2.gr g'⟩
  | loc i =>
    simp only at e
    split at e
    · rename_i ts hl
      cases e
      obtain ⟨a,vs,rfl,ha,h1,h2⟩ := Jd s (Ve hl) r
      refine ⟨a, rfl, ⟨vs, SqL.of h1⟩, fun k ι' H' Z' g' s' => ?_⟩
      simp only [itLoc]
      cases e : getL Z' i with
      | none => exact trivial
      | some ts' =>
        obtain ⟨a', vs', ea, ha', h1', h2'⟩ := Jd s' (Ve e) (.loc (g'.pre _ _ ha))
        cases ea
        simp only [Option.map_some]
        cases e2 : ts'[k]? with
        | none => exact ⟨_, SqL.of h1', by rw [h2'.length]; exact List.getElem?_eq_none_iff.mp e2⟩
        | some u =>
          obtain ⟨x, h3, h4⟩ := h2'.get e2
          refine ⟨⟨_, x, SqL.of h1', h3⟩, fun y H'' hy => ?_⟩
          obtain ⟨rfl,hy⟩ := hy
          have := hy _ (SqL.of h1')
          rw [h3] at this; cases this
          exact ⟨Gr.refl, s', h4⟩
    · cases e
  | _ => cases e
theorem Zhu (hK : X.K = K) (hl : FJ X K (Wt W) l fl) : PI X tg l (tI K W (iSeqL fl)) := by
  subst hK
  refine Z6s (pi_list hl) fun σ H Q h => ?_
  obtain ⟨ι,ρ,Z,is,p⟩ := h
  refine ⟨ι,ρ,Z,is.ie,(Zi (rep := Rep X.K) p).imp fun v H1 q => ?_⟩
  obtain ⟨ι1,Z1,t,g1,s1,r1,p1⟩ := q
  cases t with
  | frl ts =>
    obtain ⟨a,rfl,hx,hI⟩ := Zcm (it := itSeq ts) s1 r1 rfl
    exact ⟨a,rfl,hx,p1 ι1 H1 _ Gr.refl s1 hI⟩
  | loc i =>
    simp only at p1
    split at p1
    · rename_i ts e
      obtain ⟨a,rfl,hx,hI⟩ := Zcm (it := itLoc i) s1 r1 (by simp only [e])
      exact ⟨a,rfl,hx,p1 ι1 H1 _ Gr.refl s1 hI⟩
    · exact p1.elim
  | _ => exact p1.elim
theorem Zj8 (hK : X.K = K) (hl : FJ X K (Wt W) l fl) : PI X tg l (tI K W (iSeqT fl)) := by
  subst hK
  refine Z6s (pi_tup hl) fun σ H Q h => ?_
  obtain ⟨ι,ρ,Z,is,p⟩ := h
  refine ⟨ι,ρ,Z,is.ie,(Zi (rep := Rep X.K) p).imp fun v H1 q => ?_⟩
  obtain ⟨ι1,Z1,t,g1,s1,r1,p1⟩ := q
  cases t with
  | tup ts =>
    obtain ⟨a,vs,rfl,hq,rs⟩ := r1.tupE
    refine ⟨a, rfl, ⟨_, hq⟩, p1 ι1 H1 _ Gr.refl s1 fun k ι' H' Z' g' s' => ?_⟩
    have hq' := SqT.gr g' hq
    show match (itSeq ts k Z') with | none => True | some none => _ | some (some t) => _
    simp only [itSeq]
    cases e : ts[k]? with
    | none => exact ⟨_, hq', by rw [rs.length]; exact List.getElem?_eq_none_iff.mp e⟩
    | some u =>
      obtain ⟨x,h1,h2⟩ := rs.get e
      refine ⟨⟨_, x, hq', h1⟩, fun y H'' hy => ?_⟩
      obtain ⟨rfl,hy⟩ := hy
      have := hy _ hq'
      rw [h1] at this; cases this
      exact ⟨Gr.refl, s', h2.gr g'⟩
  | _ => exact p1.elim
theorem Zj9 (hl : FJ X K (Wt W) l fl) : PI X tg l (tI K W (iStr fl)) := by
  refine Z6s (pi_str hl) fun σ H Q h => ?_
  obtain ⟨ι,ρ,Z,is,p⟩ := h
  refine ⟨ι,ρ,Z,is.ie,(Zi (rep := Rep K) p).imp fun v H1 q => ?_⟩
  obtain ⟨ι1,Z1,t,g1,s1,r1,p1⟩ := q
  cases t with
  | str u =>
    cases r1
    refine ⟨_, rfl, p1 ι1 H1 _ Gr.refl s1 fun k ι' H' Z' g' s' => ?_⟩
    simp only [itStr]
    cases e : u[k]? with
    | none => exact show (S u).cps.size ≤ k by simpa [S] using e
    | some c =>
      have hk : k < u.length := (List.getElem?_eq_some_iff.mp e).1
      refine ⟨show k < (S u).cps.size by simpa [S] using hk, fun y H'' hy => ?_⟩
      obtain ⟨rfl, c', hc', rfl⟩ := hy
      have : c' = c := by
        have h2 : u[k]? = some c' := by simpa [S] using hc'
        rw [e] at h2; exact (Option.some.inj h2).symm
      subst this
      exact ⟨Gr.refl, s', .str [c']⟩
  | _ => exact p1.elim
theorem Zja {ι : List Addr} {H : Hp} (lo : Int) (n : Nat) : ItR K ι H (Itr lo n) (itRng lo n) := fun k ι' H' Z' g' s' => by
  simp only [itRng]
  by_cases h : k < n
  · rw [if_pos h]
    refine ⟨h, fun y H'' hy => ?_⟩
    obtain ⟨rfl,rfl⟩ := hy
    exact ⟨Gr.refl, s', .int _⟩
  · rw [if_neg h]
    exact Nat.le_of_not_lt h
theorem Z1t (hg : Gl X "range") (hm : X.mg "range" = none) (ha : FAJ X K (Wt W) [a] fa) (hn : ofLen [a] fa) (hs : starEach [a] X.env = [(false, eval a X.env)] := by rfl) : PI X tg (.Call (.Name "range" p) [a] [] pos) (tI K W (iRng fa)) := by
  refine Z6s (pi_range1 hg hm ha hs) fun σ H Q h => ?_
  obtain ⟨ι,ρ,Z,is,p⟩ := h
  refine ⟨ι,ρ,Z,is.ie,?_⟩
  unfold iRng at p
  cases e : fa ρ Z with
  | ok ts Z1 =>
    rw [e,Xq] at p
    have hl := hn _ _ _ _ e
    intro ι1 H1 vs g1 s1 r1
    match ts,r1,hl with
    | [t],.cons r .nil,_ =>
      cases t with
      | int j =>
        simp only at p
        split at p
        · rename_i hb
          cases r
          exact ⟨j,rfl,hb.1,hb.2,p ι1 H1 _ g1 s1 (Zja _ _)⟩
        · exact p.elim
      | _ => exact p.elim
  | exc x Z1 => rw [e] at p; exact p
  | stuck => rw [e] at p; exact p
def iEnm (f : FA) : FI := fun ρ Z => (f ρ Z).bind fun xs Z1 => match xs with
  | [.frl ts] => .ok (itEnum (itSeq ts)) Z1
  | [.loc i] => match getL Z1 i with
    | some _ => .ok (itEnum (itLoc i)) Z1
    | none => .stuck
  | _ => .stuck
theorem Zhb {ι : List Addr} {H : Hp} {a : Addr} {it : ItF} (h : ItR K ι H (Itl K a) it) : ItR K ι H (Ite K a) (itEnum it) := fun k ι' H' Z' g' s' => by
  have h' := h k ι' H' Z' g' s'
  simp only [itEnum]
  cases e : it k Z' with
  | none => exact trivial
  | some o =>
    rw [e] at h'
    cases o with
    | none => exact h'
    | some t =>
      refine ⟨h'.1, fun x H'' y => ?_⟩
      obtain ⟨p,v,rfl,np,rfl,hv⟩ := y
      obtain ⟨_, _, r⟩ := h'.2 v H' ⟨rfl, hv⟩
      exact ⟨Gr.new0 np, s'.same (Jz np), .tup (SqT.of upd_same) (.cons (.int _) (.cons (r.gr (Gr.new0 np)) .nil))⟩
theorem Zhv {tpos : Pos} {elts : List Expr} {kk : Nat} (hK : X.K = K) (hg : Gl X "enumerate") (hm : X.mg "enumerate" = none) (ha : FAJ X K (Wt W) [a] fa) (hn : ofLen [a] fa) (hs : starEach [a] X.env = [(false, eval a X.env)] := by rfl) : PI X (.Tuple elts kk tpos) (.Call (.Name "enumerate" p) [a] [] pos) (tI K W (iEnm fa)) := by
  subst hK
  refine Z6s (pi_enum hg hm ha hs) fun σ H Q h => ?_
  obtain ⟨ι,ρ,Z,is,p⟩ := h
  refine ⟨ι,ρ,Z,is.ie,?_⟩
  unfold iEnm at p
  cases e : fa ρ Z with
  | ok ts Z1 =>
    rw [e,Xq] at p
    have hl := hn _ _ _ _ e
    intro ι1 H1 vs g1 s1 r1
    match ts,r1,hl with
    | [t],.cons r .nil,_ =>
      cases t with
      | frl us =>
        obtain ⟨b,rfl,⟨xs,hx⟩,hI⟩ := Zcm (it := itSeq us) s1 r rfl
        exact ⟨b,xs,rfl,hx,p ι1 H1 _ g1 s1 (Zhb hI)⟩
      | loc i =>
        simp only at p
        split at p
        · rename_i us e
          obtain ⟨b,rfl,⟨xs,hx⟩,hI⟩ := Zcm (it := itLoc i) s1 r (by simp only [e])
          exact ⟨b,xs,rfl,hx,p ι1 H1 _ g1 s1 (Zhb hI)⟩
        · exact p.elim
      | _ => exact p.elim
  | exc x Z1 => rw [e] at p; exact p
  | stuck => rw [e] at p; exact p
end
end Fx
set_option maxHeartbeats 4000000
namespace Fx
open PySem PySem.Spec PyProof.Rows L2 SX Ap
variable [Tb]
abbrev FF := List T → Sto → R T
def spF (K : PySem.W.Frag) (n : Nat) (F : FF) : Sp := fun vs H Q E => vs.length = n ∧ ∃ ι Z ts,Sim K ι Z H ∧ Reps K ι H vs ts ∧ Post (Rep K) K (fun cls d _ H => E cls d H) [] ι H Q (F ts Z)
def runF (n : Nat) (b : FS) : FF := fun ts Z => match b (ts.map some ++ List.replicate (n - ts.length) none) Z with
  | .nx _ Z' => .ok .non Z'
  | .rt t Z' => .ok t Z'
  | .exc x _ Z' => .exc x Z'
  | _ => .stuck
theorem Zdc {K : PySem.W.Frag} {ι : List Addr} {H : Hp} {vs : List V} {ts : List T} (r : Reps K ι H vs ts) (m : Nat) : Envs K ι H (vs.map some ++ List.replicate m none) (ts.map some ++ List.replicate m none) := fun i t h => by
  by_cases hi : i < ts.length
  · rw [List.getElem?_append_left (by rw [List.length_map]; exact hi),List.getElem?_map] at h
    cases e : ts[i]? with
    | none => rw [e] at h; cases h
    | some u =>
      rw [e] at h
      cases h
      obtain ⟨v,h1,h2⟩ := r.get e
      exact ⟨v,by rw [List.getElem?_append_left (by rw [List.length_map,r.length]; exact hi),List.getElem?_map,h1]; rfl,h2⟩
  · rw [List.getElem?_append_right (by rw [List.length_map]; omega)] at h
    rw [List.getElem?_replicate] at h
    split at h <;> cases h
abbrev FnG (P : Program) (w : World) (K : PySem.W.Frag) (mg : PySem.Str → Option Value) (base : Heap) (k : Nat) (f : Addr) (fd : FuncData) (ps : List PySem.Str) (sp : Sp) : Prop := GOk P w K mg base (L2.CX P w) k f fd ps sp
section
variable {P : Program} {w : World} {K : PySem.W.Frag} {mg : PySem.Str → Option Value} {base : Heap}
theorem fn_GX {k : Nat} {f : Addr} {name qual : PySem.Str} {params : Arguments} {body : List Stmt} {scope : Scope} {dV kV doc pm cdv ct oc : Value} {an od : Option Addr}
    {osl : Array (Option Value)} {N ps : List PySem.Str} {sp : Sp} (lk : K.lookup f = some ⟨oc,od,.func (PySem.W.fnOf name qual params body scope dV kV doc pm an cdv ct),osl⟩) (hcd : PySem.W.codeIn K cdv qual = true) (S : FnScope N ps scope)
    (len : ∀ vs H Q E,sp vs H Q E → vs.length = ps.length)
    (hbody : ∀ (A : Around) (outer : List PySem.Env) (s : Shared) (H : Hp) (vs : List V) (Q : VK) (E : XK),Room k (A.deeper (envOfC qual scope s.heap.objs.size f cdv)) → A.guards = some [] → sp vs H Q E →
      ∃ t, PSs (cxOf (L2.CX P w) P w K mg base N qual scope f cdv A outer s H E) body t ∧ t { nx := fun _ H' => Q .non H', rt := Q } (L2.start N vs) H) :
    FnG P w K mg base (k + 1) f (PySem.W.fnOf name qual params body scope dV kV doc pm an cdv ct) ps sp := by
  refine ⟨len,fun A outer s H args us vs Q E hr hG e0 hb r hsp => ?_⟩
  have hl := len _ _ _ _ hsp
  have KX : K.In s.heap := e0.mod.kin.keeps fun b o e => (e0.bs b o e).1
  have lim : s.heap.NoLimit := e0.mod.nolimit.keeps fun b o e => (e0.bs b o e).1
  have hkind : ∀ y ∈ ps.zip us,scope.names.lookup y.1 = some .local ∨ (scope.names.lookup y.1 = some .cell ∧ ((cellsFrom (s.heap.objs.size + 1) scope.names []).lookup y.1).isSome = true) := fun ⟨n,v⟩ hy => by
    rcases S.par n (List.of_mem_zip hy).1 with q | q
    · exact .inl q
    · exact .inr ⟨q,PySem.W.cellsFrom_some _ _ _ (.inl q)⟩
  refine codeAny_call_function hr.depth (KX _ _ lk) rfl S.co S.gen rfl (PySem.W.codeRec_of KX hcd) (hb _ _ _ _ ?_)
  refine wpAny_newFunctionEnv_cells S.kind hkind fun env he s1 x => ?_
  subst he
  refine ⟨lim.keeps x.toInCall.keep,codeAny_func ?_⟩
  obtain ⟨t,ht,hq⟩ := hbody A outer s H vs Q E (hr.deeper _) hG hsp
  have I : Inv (cxOf (L2.CX P w) P w K mg base N qual scope f cdv A outer s H E) [] (L2.start N vs) H s1 := inv_start S hr.hd e0 hl r x
  refine wpAny_mono (ht.run [] s1 (L2.start N vs) H _ I hq) (fun fl s' hs => ?_) fun e s' hs => hs
  have fin : ∀ {σ' : L2.St} {H' : Hp} {v : V} {u : Value}, Inv (cxOf (L2.CX P w) P w K mg base N qual scope f cdv A outer s H E) [] σ' H' s' → RelV v u → Q v H' → CE outer P w H s Q u s' :=
    fun {σ' H' v u} J rv q => ⟨v, H', J.os, J.bare, J.base, J.hok, rv, q⟩
  cases fl with
  | ret u =>
    obtain ⟨v, σ', H', J, rv, q⟩ := hs
    exact fin J rv q
  | next =>
    obtain ⟨σ', H', J, q⟩ := hs
    exact fin (v := V.non) (u := Value.none) J rfl q
  | brk =>
    obtain ⟨_,_,_,q⟩ := hs
    exact False.elim q
  | cont =>
    obtain ⟨_,_,_,q⟩ := hs
    exact False.elim q
def BodyJ (P : Program) (w : World) (K : PySem.W.Frag) (mg : PySem.Str → Option Value) (base : Heap) (k : Nat) (f : Addr) (N : List PySem.Str) (qual : PySem.Str) (scope : Scope) (body : List Stmt) (b : FS) : Prop :=
  ∀ (cdv : Value) (A : Around) (outer : List PySem.Env) (s : Shared) (H : Hp) (E : XK),Room k (A.deeper (envOfC qual scope s.heap.objs.size f cdv)) → A.guards = some [] →
    FBJ (cxOf (L2.CX P w) P w K mg base N qual scope f cdv A outer s H E) K (fun cls d _ H => E cls d H) body b
theorem Zjb {k : Nat} {f : Addr} {N : List PySem.Str} {qual : PySem.Str} {scope : Scope} {body : List Stmt} {b : FS} {n : Nat} (hb : BodyJ P w K mg base k f N qual scope body b) (cdv : Value) (A : Around) (outer : List PySem.Env) (s : Shared) (H : Hp) (vs : List V) (Q : VK) (E : XK) (hr : Room k (A.deeper (envOfC qual scope s.heap.objs.size f cdv))) (hG : A.guards = some []) (h : spF K n (runF N.length b) vs H Q E) :
      ∃ t, PSs (cxOf (L2.CX P w) P w K mg base N qual scope f cdv A outer s H E) body t ∧ t { nx := fun _ H' => Q .non H', rt := Q } (L2.start N vs) H := by
  refine ⟨_,hb cdv A outer s H E hr hG,?_⟩
  obtain ⟨hl,ι,Z,ts,sim,r,p⟩ := h
  have hl2 := r.length
  refine ⟨ι,ts.map some ++ List.replicate (N.length - ts.length) none,Z,⟨by simp only [L2.start,List.length_append,List.length_map,List.length_replicate]; omega,?_,sim⟩,?_⟩
  · have := Zdc r (N.length - ts.length)
    unfold L2.start
    rw [hl2]
    exact this
  · unfold runF at p
    split at p
    · rename_i e; rw [e]; exact fun ι' H' σ' g is => p ι' H' _ g is.sim .non
    · rename_i e; rw [e]; exact p
    · rename_i e; rw [e]; exact fun ι' H' σ' cls d g is rx => p ι' H' cls d g is.sim rx
    · exact p.elim
theorem fnFD {x qual : PySem.Str} {params : Arguments} {body : List Stmt} {scope : Scope} {dvs : List V} {kws : List (PySem.Str × V)} {f : Addr} {fd : FuncData} {N ps : List PySem.Str} {k : Nat} {b : FS} (F : FunD K x qual params body scope dvs kws f fd) (S : FnScope N ps scope) (hb : BodyJ P w K mg base k f N qual scope body b) :
    FnG P w K mg base (k + 1) f fd ps (spF K ps.length (runF N.length b)) := by
  obtain ⟨oc,od,dV,kV,doc,pm,an,cdv,ct,osl,rfl,lk,hcd,_,_⟩ := F.ex
  exact fn_GX lk hcd S (fun vs H Q E h => h.1) fun A outer s H vs Q E hr hG h => Zjb hb cdv A outer s H vs Q E hr hG h
end
def eCall (F : FF) (ds : List T) (fa : FA) : FE := fun ρ Z => (fa ρ Z).bind fun ts Z1 => F (ts ++ ds) Z1
def eCallB (g : List T → Sto → Option (T × Sto)) (fa : FA) : FE := fun ρ Z => (fa ρ Z).bind fun xs Z1 => lift (g xs Z1)
def Dfl (K : PySem.W.Frag) (vs : List V) (ts : List T) : Prop := ∀ ι H,Reps K ι H vs ts
theorem Dfl.nil {K : PySem.W.Frag} : Dfl K [] [] := fun _ _ => .nil
section
variable {X : Cx} {K : PySem.W.Frag} {W : Wc} {x : PySem.Str} {p pos : Pos} {e : Expr} {es : List Expr} {fa : FA} {k n : Nat} {f : Addr} {fd : FuncData} {ps : List PySem.Str} {F : FF} {dvs : List V} {ds : List Value} {dts : List T}
theorem Zhw {pins : List (Addr × Obj)} {σ : L2.St} {H : Hp} {s : Shared} {Q : VK} {us : List Value} {vs : List V} {sp : Sp} (G : FnG X.prog X.w X.K X.mg X.base k f fd ps sp) (hr : Room k X.A) (hG : X.A.guards = some []) (hb : Binds X.K fd ps ds) (hd : Vals dvs ds) (tk : Takes X W.w)
    (I : Inv X pins σ H s) (r : Vals vs us) (h : sp (vs ++ dvs) H Q (WE W.w σ)) : wpAny (model X.prog X.w) X.A (call (.ref f) us) (EP X pins σ Q) X.xe s := by
  have r2 : Vals (vs ++ dvs) (us ++ ds) := r.append hd
  have hl : (us ++ ds).length = ps.length := by rw [← r2.length]; exact G.len _ _ _ _ h
  refine wpAny_call (codeAny_mono (G.run X.A X.stack s H ⟨us, []⟩ (us ++ ds) (vs ++ dvs) Q (WE W.w σ) hr hG I.env0 (hb s us I.kIn hl) r2 h) fun r s' hq => ?_)
  cases r with
  | error e => exact passAt tk σ pins H s e s' I hq
  | ok fl =>
    cases fl with
    | ret u => exact I.after hq
    | next => exact False.elim hq
    | brk => exact False.elim hq
    | cont => exact False.elim hq
theorem Post.wx {α β : Type} {rep : List Addr → Hp → β → α → Prop} {W W' : WX} {σ σ' : L2.St} {ι : List Addr} {H : Hp} {Q : β → Hp → Prop} {r : R α} (h : Post rep K W σ ι H Q r) (i : ∀ cls d H, W cls d σ H → W' cls d σ' H) : Post rep K W' σ' ι H Q r := by
  cases r with
  | ok => exact h
  | exc => exact fun ι' H' cls d g s rx => i _ _ _ (h ι' H' cls d g s rx)
  | stuck => exact h
theorem Yc (hK : X.K = K) (G : FnG X.prog X.w X.K X.mg X.base k f fd ps (spF X.K n F)) (hr : Room k X.A) (hG : X.A.guards = some []) (hg : Gl X x) (hm : X.mg x = some (.ref f)) (hk : PySem.W.keepIn X.K (.ref f) = true) (hb : Binds X.K fd ps ds) (hd : Vals dvs ds) (hdf : Dfl K dvs dts) (tk : Takes X W.w)
    (ha : FAJ X K W (e :: es) fa) (hn : ofLen (e :: es) fa) (hln : (e :: es).length + dts.length = n := by rfl) (hdb : (x == ("__debug__" : PySem.Str)) = false := by decide) (he : starEach (e :: es) X.env = (false, eval e X.env) :: starEach es X.env := by rfl) (hpl : (backTo pos (starEach es X.env)).any (·.1) = false := by rfl) :
    FJ X K W (.Call (.Name x p) (e :: es) [] pos) (eCall F dts fa) := by
  subst hK
  refine ⟨fun pins s σ H Q I h => ?_⟩
  refine wpAny_Call_Name_kw (ld_glob I hg hm ?_ hdb)
  obtain ⟨ι,ρ,Z,is,p⟩ := h
  have t : tFA X.K W fa σ H (fun vs H1 => spF X.K n F (vs ++ dvs) H1 Q (WE W.w σ)) := by
    refine ⟨ι,ρ,Z,is,?_⟩
    unfold eCall at p
    cases e : fa ρ Z with
    | ok ts Z1 =>
      rw [e,Xq] at p
      refine fun ι1 H1 vs g1 s1 r1 => ?_
      have r2 := r1.append (hdf ι1 H1)
      refine ⟨?_,ι1,Z1,_,s1,r2,(p.shift g1).wx fun _ _ _ h => h⟩
      rw [r2.length,List.length_append,hn _ _ _ _ e]
      exact hln
    | exc y Z1 => rw [e] at p; exact p
    | stuck => rw [e] at p; exact p
  refine PySem.W.callWith_K (h₀ := X.base) I.ok.mod.kin hk (thn (ha.run pos pins s σ H _ I t) fun us s1 ⟨vs,H1,I1,r,q⟩ => ⟨I1.kIn,?_⟩) he hpl
  exact Zhw G hr hG hb hd tk I1 r q
theorem Zcn {r : List V → Hp → VK → Prop} {g : List T → Sto → Option (T × Sto)} (hr : ∀ xs H Q,rFC K g xs H Q → r xs H Q) {σ : L2.St} {H : Hp} {Q : VK} (h : tF K W (eCallB g fa) σ H Q) : tCB r (tFA K W fa) σ H Q := by
  obtain ⟨ι,ρ,Z,is,p⟩ := h
  refine ⟨ι,ρ,Z,is,(Zi (rep := Reps K) p).imp fun xs H1 q => ?_⟩
  obtain ⟨ι1,Z1,ts,g1,s1,r1,p1⟩ := q
  exact hr _ _ _ ⟨ι1,Z1,ts,s1,r1,Vw p1⟩
theorem Ww {id : String} {g : List T → Sto → Option (T × Sto)} (hc : CallR X (.builtin id) (rFC K g)) (hg : Gl X x) (hm : X.mg x = none) (hv : bootBuiltins x = some (.builtin id)) (ha : FAJ X K W (e :: es) fa) (hn : x ≠ "__name__" := by decide) (hdb : (x == ("__debug__" : PySem.Str)) = false := by decide)
    (he : starEach (e :: es) X.env = (false,eval e X.env) :: starEach es X.env := by rfl) (hpl : (backTo pos (starEach es X.env)).any (·.1) = false := by rfl) : FJ X K W (.Call (.Name x p) (e :: es) [] pos) (eCallB g fa) :=
  Vt (pe_callB hc hg hm hv ha hn hdb he hpl) fun _ _ _ h => Zcn (fun _ _ _ h => h) h
theorem Vb {id : String} {g : List T → Sto → Option (T × Sto)} (hc : CallR X (.type id) (rFC K g)) (hg : Gl X x) (hm : X.mg x = none) (hv : bootBuiltins x = some (.type id)) (ha : FAJ X K W (e :: es) fa) (hn : x ≠ "__name__" := by decide) (hdb : (x == ("__debug__" : PySem.Str)) = false := by decide)
    (he : starEach (e :: es) X.env = (false,eval e X.env) :: starEach es X.env := by rfl) (hpl : (backTo pos (starEach es X.env)).any (·.1) = false := by rfl) : FJ X K W (.Call (.Name x p) (e :: es) [] pos) (eCallB g fa) :=
  Vt (pe_callTy hc hg hm hv ha hn hdb he hpl) fun _ _ _ h => Zcn (fun _ _ _ h => h) h
end
def gLen : List T → Sto → Option (T × Sto)
  | [.str l],Z => if l.length ≤ Lim then some (.int l.length,Z) else none
  | [t],Z => (asSeq t Z).map fun ts => (.int ts.length,Z)
  | _,_ => none
def gMax : List T → Sto → Option (T × Sto)
  | [.int i,.int j],Z => some (.int (if j > i then j else i),Z)
  | _,_ => none
def gMin : List T → Sto → Option (T × Sto)
  | [.int i,.int j],Z => some (.int (if j < i then j else i),Z)
  | _,_ => none
def gAbs : List T → Sto → Option (T × Sto)
  | [.int i],Z => some (.int (if i < 0 then -i else i),Z)
  | _,_ => none
def gInt : List T → Sto → Option (T × Sto)
  | [.int i],Z => some (.int i,Z)
  | [.bl b],Z => some (.int (if b then 1 else 0),Z)
  | _,_ => none
def gTuple : List T → Sto → Option (T × Sto)
  | [.tup ts],Z => some (.tup ts,Z)
  | [t],Z => (asList t Z).map fun ts => (.tup ts,Z)
  | _,_ => none
def tyT : T → Sto → Option String
  | .non, _ => some "NoneType" | .bl _, _ => some "bool" | .int _, _ => some "int" | .str _, _ => some "str" | .tup _, _ => some "tuple" | .frl _, _ => some "list"
  | .loc i,Z => match Z[i]? with
    | some (.lst _) => some "list"
    | some (.dk _) => some "dict"
    | some (.dt _) => some "dict"
    | _ => none
  | _,_ => none
def clsT : T → Option String
  | .ty n => some n
  | _ => none
def gIsiB (t : T) (c : T) (Z : Sto) : Option Bool := match tyT t Z,clsT c with
  | some a,some b => kitB a b
  | _,_ => none
def gIsi : List T → Sto → Option (T × Sto)
  | [t,.ty n],Z => (gIsiB t (.ty n) Z).map fun b => (.bl b,Z)
  | [t,.tup cs],Z => if (tyT t Z).isSome = true then ((cs.mapM fun c => gIsiB t c Z).map fun bs => (.bl (bs.any id),Z)) else none
  | _,_ => none
section
variable {X : Cx} {K : PySem.W.Frag}
theorem Reps.one {ι : List Addr} {H : Hp} {vs : List V} {t : T} (r : Reps K ι H vs [t]) : ∃ v,vs = [v] ∧ Rep K ι H v t := by
  cases r with
  | cons r q => cases q; exact ⟨_,rfl,r⟩
theorem Reps.two {ι : List Addr} {H : Hp} {vs : List V} {t u : T} (r : Reps K ι H vs [t,u]) : ∃ v w,vs = [v,w] ∧ Rep K ι H v t ∧ Rep K ι H w u := by
  cases r with
  | cons r q =>
    obtain ⟨w,rfl,r2⟩ := q.one
    exact ⟨_,_,rfl,r,r2⟩
theorem Zg7 (hK : X.K = K) : CallR X (.builtin "len") (rFC K gLen) := by
  subst hK
  refine Jc (Zbq call_len_str call_len_seq) fun xs H Q h => ?_
  obtain ⟨ι,Z,ts,s,r,p⟩ := h
  match ts,r,p with
  | [],_,p => exact p.elim
  | _ :: _ :: _,_,p => simp only [gLen] at p; exact p.elim
  | [t],r,p =>
    obtain ⟨v,rfl,rr⟩ := r.one
    by_cases hs : ∃ l,t = .str l
    · obtain ⟨l,rfl⟩ := hs
      simp only [gLen] at p
      split at p
      · rename_i hz
        cases rr
        exact .inl ⟨_,rfl,by rw [S_len]; exact Z1p hz,by rw [S_len]; exact Y6 p s (.int _)⟩
      · exact p.elim
    · have e0 : gLen [t] Z = (asSeq t Z).map fun ts => (.int ts.length,Z) := by
        cases t <;> first | rfl | exact absurd ⟨_,rfl⟩ hs
      rw [e0] at p
      cases e : asSeq t Z with
      | none => rw [e] at p; exact p.elim
      | some us =>
        rw [e] at p
        obtain ⟨a,vs,rfl,hq,rs⟩ := Z6q s rr e
        exact .inr ⟨a,vs,rfl,hq,by rw [rs.length]; exact Y6 p s (.int _)⟩
theorem Zdd (hc : X.calm = true) : CallR X (.builtin "max") (rFC K gMax) := Jc (call_max2 hc) fun xs H Q h => by
  obtain ⟨ι,Z,ts,s,r,p⟩ := h
  unfold gMax at p
  split at p
  · obtain ⟨v,w,rfl,r1,r2⟩ := r.two
    cases r1; cases r2
    exact ⟨_,_,rfl,Y6 p s (.int _)⟩
  · exact p.elim
theorem c_min (hc : X.calm = true) : CallR X (.builtin "min") (rFC K gMin) := Jc (call_min2 hc) fun xs H Q h => by
  obtain ⟨ι,Z,ts,s,r,p⟩ := h
  unfold gMin at p
  split at p
  · obtain ⟨v,w,rfl,r1,r2⟩ := r.two
    cases r1; cases r2
    exact ⟨_,_,rfl,Y6 p s (.int _)⟩
  · exact p.elim
theorem Zhc {ι : List Addr} {H : Hp} {Z : Sto} {v : V} {t : T} {n : String} (s : Sim K ι Z H) (r : Rep K ι H v t) (e : tyT t Z = some n) : TyX K H v (.type n) := by
  cases r with
  | non => cases e; exact .base .non
  | bl b => cases e; exact .base (.bl b)
  | int i => cases e; exact .base (.int i)
  | str l => cases e; exact .base (.str _)
  | tup h r =>
    cases e
    rcases h with (h | ⟨o,h⟩) | ⟨o,its,n,h,hc,_⟩
    · exact .base (.tup h)
    · exact .fTuple h
    · exact .kTuple h hc
  | loc h =>
    simp only [tyT] at e
    split at e
    · rename_i hz
      obtain ⟨a', h1, vs, h2, _⟩ := s.at hz
      rw [h] at h1; cases h1; cases e
      exact .base (.lst h2)
    · rename_i hz
      obtain ⟨a', h1, vs, h2, _⟩ := s.at hz
      rw [h] at h1; cases h1; cases e
      exact .base (.dK h2)
    · rename_i hz
      obtain ⟨a', h1, vs, h2, _⟩ := s.at hz
      rw [h] at h1; cases h1; cases e
      exact .base (.dT h2)
    · cases e
  | frl h r =>
    cases e
    rcases h with ⟨o,h⟩ | ⟨o,its,n,h,hc,_⟩
    · exact .base (.frz h)
    · exact .kList h hc
  | ref a => cases e
  | ty m => cases e
  | lam h j => cases e
  | ktp h r => cases e
def rIsiU (K : PySem.W.Frag) : List V → Hp → VK → Prop := fun xs H Q => ∃ (x : V) (tp : Addr) (cs : List V) (t : Value) (us : List Value) (b : Bool),xs = [x,.ref tp] ∧ SqT K H tp cs ∧ Paired ClsV cs us ∧ TyX K H x t ∧ PySem.W.kitAny K t us = some b ∧ Q (.bl b) H
theorem Ze9 : CallR X (.builtin "isinstance") (rIsiU X.K) := by
  intro pins s σ H xs us Q I r h
  obtain ⟨x,tp,cs,t,ws,b,rfl,hT,k,ty,e,q⟩ := h
  obtain ⟨u1,u2,rfl,r1,r2⟩ := vals2 r
  cases (show u2 = Value.ref tp from r2)
  obtain ⟨P,Z,p,hx⟩ := kit_of I r1 ty
  obtain ⟨its,rv,⟨o,h1,h2,n,h3⟩,_⟩ := I.tuple hT
  have e3 := ClsV.all k rv
  subst e3
  obtain ⟨oc,od,dt,sl⟩ := o
  simp only at h2 h3
  subst h2 h3
  exact PySem.W.kia_tup Z I.kIn p h1 e hx fun tk => ⟨.bl b,H,I.tok tk,rfl,q⟩
theorem isiAll {ι : List Addr} {H : Hp} {Z : Sto} {t : T} {n : String} (e : tyT t Z = some n) : ∀ {cs : List T} {vs : List V} {bs : List Bool},Reps K ι H vs cs → Paired (fun c b => gIsiB t c Z = some b) cs bs → ∃ us,Paired ClsV vs us ∧ PySem.W.kitAny K (.type n) us = some (bs.any id)
  | _,_,_,.nil,.nil => ⟨[],.nil,rfl⟩
  | _,_,_,.cons r q,.cons h p => by
    obtain ⟨us,h1,h2⟩ := isiAll e q p
    unfold gIsiB at h
    rw [e] at h
    rename_i v vs c cs b bs
    cases c with
    | ty m =>
      cases r
      refine ⟨.type m :: us,.cons (.ty m) h1,?_⟩
      refine kitAny_cons (kit_ty (show kitB n m = some b from h)) (fun hb => ?_) (fun hb => ?_)
      · rw [h2,List.any_cons,hb]; rfl
      · rw [List.any_cons,hb]; rfl
    | _ => cases h
theorem Zea (hK : X.K = K) : CallR X (.builtin "isinstance") (rFC K gIsi) := by
  subst hK
  refine Jc (Zbq call_isi Ze9) fun xs H Q h => ?_
  obtain ⟨ι,Z,ts,s,r,p⟩ := h
  unfold gIsi at p
  split at p
  · obtain ⟨v,w,rfl,r1,r2⟩ := r.two
    cases r2
    rename_i t n
    cases e : gIsiB t (.ty n) Z with
    | none => rw [e] at p; exact p.elim
    | some b =>
      rw [e] at p
      unfold gIsiB at e
      split at e
      · rename_i a b' e1 e2
        cases e2
        exact .inl ⟨v,_,_,_,b,rfl,.ty _,Zhc s r1 e1,kit_ty e,Y6 p s (.bl _)⟩
      · cases e
  · obtain ⟨v,w,rfl,r1,r2⟩ := r.two
    rename_i t cs
    obtain ⟨a,vs,rfl,hq,rs⟩ := r2.tupE
    split at p
    case isFalse => exact p.elim
    rename_i hty
    cases e : cs.mapM fun c => gIsiB t c Z with
    | none => rw [e] at p; exact p.elim
    | some bs =>
      rw [e] at p
      have pa := Z2j e
      cases et : tyT t Z with
      | none => rw [et] at hty; cases hty
      | some n =>
        obtain ⟨us,h1,h2⟩ := isiAll et rs pa
        exact .inr ⟨v,a,vs,_,us,_,rfl,hq,h1,Zhc s r1 et,h2,Y6 p s (.bl _)⟩
  · exact p.elim
end
end Fx
set_option maxHeartbeats 4000000
namespace Ap
open PySem PySem.Spec PyProof.Rows L2 SX
structure BaseC (K : PySem.W.Frag) (C0 : Addr) : Prop where
  ga : PySem.W.specialIn K (.ref C0) "__getattribute__" = some (some (.builtin "type.__getattribute__"))
  rd : PySem.W.readsIn K C0 (.type "type") = true
  iv : PySem.W.findCls K (.ref C0) (.type "type") "__init__" = some (.val (.builtin "ValueError.__init__"))
section
variable {X : Cx} {e : Expr} {es : List Expr} {ta : TA} {p1 p2 pos : Pos} {x : PySem.Str} {C0 : Addr}
theorem Zeb {pl : Sem Bool} (hg : Gl X x) (hm : X.mg x = some (.ref C0)) (B : BaseC X.K C0) (hd : (x == ("__debug__" : PySem.Str)) = false) (ha : PA X (e :: es) ta)
    (hc : eval (.Call (.Attribute (.Name x p1) "__init__" p2) (e :: es) [] pos) X.env = (do
      let ov ← eval (.Name x p1) X.env
      standAt p2.atName
      let (f, first) ← holding [ov] (getMethod ov "__init__" pl)
      callWith pos f first (backTo pos (starEach (e :: es) X.env)) (backToKw pos (keywordEach [] X.env))) := by rfl)
    (he : starEach (e :: es) X.env = (false,eval e X.env) :: starEach es X.env := by rfl) (hpl : (backTo pos (starEach es X.env)).any (·.1) = false := by rfl) :
    PE X (.Call (.Attribute (.Name x p1) "__init__" p2) (e :: es) [] pos) (tVeI X.K ta) := by
  refine ⟨fun pins s σ H Q I h => ?_⟩
  refine PySem.W.methodCall_KW (ld_glob I hg hm ?_ hd) hc
  refine PySem.W.method_cls I.kIn B.ga (PySem.W.cls_value I.kIn B.rd B.iv (by decide +kernel) ?_)
  show wpAny _ _ (callWith pos (Value.builtin "ValueError.__init__") [] (backTo pos (starEach (e :: es) X.env)) []) _ _ _
  refine PyProof.Rows.callWith_method1 (thn (ha.run pos pins _ σ H _ (I.tok _) h) fun us s1 ⟨vs,H1,I1,r1,a,C,ws,ev,hl,T,ea,q⟩ => ?_) he hpl
  subst ev
  cases r1 with
  | @cons _ u0 _ ur ra rw' =>
    obtain rfl : u0 = Value.ref a := ra
    have hlen : ur.length ≤ sizeLine := by
      rw [← Paired.length rw', sizeLine_eq]
      omega
    exact oinit_ok T I1 ea hlen fun s' J => ⟨.non, H1, J, rfl, q⟩
end
end Ap
set_option maxHeartbeats 4000000
namespace Ap
open PySem PySem.Spec PySem.Calls PyProof.Rows PySem.W
end Ap
set_option maxHeartbeats 4000000
namespace Ap
open PySem PySem.Spec PyProof.Rows L2 SX
theorem Z5v (a b : List Nat) : Txt.startswith (S a) (S b) = b.isPrefixOf a := by
  have e : (S a).cps.toList = a := rfl
  have e2 : (S b).cps.toList = b := rfl
  unfold Txt.startswith
  rw [S_len,S_len,Nat.zero_add]
  by_cases h : b.length ≤ a.length
  · rw [decide_eq_true h,Bool.true_and]
    have : PySem.Builtin.Str.subAt (S a) (S b) 0 = true ↔ (a.drop 0).take b.length = b := by
      constructor
      · intro k
        have := PySem.StrLaws.at_take (x := S a) (y := S b) (k := 0) ⟨by rw [S_len,S_len]; omega,k⟩
        exact this
      · intro k
        by_cases hb : b = []
        · subst hb; unfold PySem.Builtin.Str.subAt; simp [S,Str.length]
        · exact (PySem.StrLaws.take_at (x := S a) (y := S b) (k := 0) (by rw [S_len]; exact List.length_pos_iff.mpr hb) k).2
    rw [Bool.eq_iff_iff,this,List.drop_zero,List.isPrefixOf_iff_prefix]
    constructor
    · intro k; have q := List.take_append_drop b.length a; rw [k] at q; exact ⟨_,q⟩
    · rintro ⟨r,rfl⟩; rw [List.take_append_of_le_length (Nat.le_refl _),List.take_of_length_le (Nat.le_refl _)]
  · rw [decide_eq_false h,Bool.false_and]
    cases hp : b.isPrefixOf a
    · rfl
    · exact absurd (List.isPrefixOf_iff_prefix.mp hp).length_le h
end Ap
set_option maxHeartbeats 4000000
namespace Fx
open PySem PySem.Spec PyProof.Rows L2 SX Ap
variable [Tb]
def isTy (n : String) : T → Sto → Bool
  | .str _, _ => n == "str"
  | .frl _, _ => n == "list"
  | .loc i,Z => match Z[i]? with
    | some (.lst _) => n == "list"
    | some (.dk _) => n == "dict"
    | some (.dt _) => n == "dict"
    | _ => false
  | _,_ => false
theorem Zhx {K : PySem.W.Frag} {ι : List Addr} {H : Hp} {Z : Sto} {v : V} {t : T} {n : String} (s : Sim K ι Z H) (r : Rep K ι H v t) (e : isTy n t Z = true) : tyV K n v H := by
  cases r with
  | str l => exact beq_iff_eq.mp e
  | frl h r => exact .inl ⟨beq_iff_eq.mp e,_,h.sq⟩
  | loc h =>
    simp only [isTy] at e
    split at e
    · rename_i hz
      obtain ⟨a', h1, vs, h2, _⟩ := s.at hz
      rw [h] at h1; cases h1
      exact .inl ⟨beq_iff_eq.mp e,_,SqL.of h2⟩
    · rename_i hz
      obtain ⟨a', h1, vs, h2, _⟩ := s.at hz
      rw [h] at h1; cases h1
      exact .inr (.inr (.inl ⟨beq_iff_eq.mp e,.inl ⟨_,h2⟩⟩))
    · rename_i hz
      obtain ⟨a', h1, vs, h2, _⟩ := s.at hz
      rw [h] at h1; cases h1
      exact .inr (.inr (.inl ⟨beq_iff_eq.mp e,.inr ⟨_,h2⟩⟩))
    · cases e
  | _ => cases e
def eBM (n : String) (g : T → List T → Sto → Option (T × Sto)) (fo : FE) (fa : FA) : FE := fun ρ Z => (fo ρ Z).bind fun x Z1 => if isTy n x Z1 = true then (fa ρ Z1).bind fun xs Z2 => lift (g x xs Z2) else .stuck
def rFM (K : PySem.W.Frag) (g : T → List T → Sto → Option (T × Sto)) : V → List V → Hp → VK → Prop := fun x xs H Q => ∃ ι Z tx ts,Sim K ι Z H ∧ Rep K ι H x tx ∧ Reps K ι H xs ts ∧ PostO (Rep K) K ι H Q (g tx ts Z)
section
variable {X : Cx} {K : PySem.W.Frag} {W : Wc} {o e : Expr} {es : List Expr} {fo : FE} {fa : FA} {name : PySem.Str} {apos cpos : Pos} {n id : String} {g : T → List T → Sto → Option (T × Sto)}
theorem Z9d {r r' : V → List V → Hp → VK → Prop} (h : MtR X id r) (i : ∀ x xs H Q, r' x xs H Q → r x xs H Q) : MtR X id r' := fun pins s σ H x xs v us Q I rx rs q => h pins s σ H x xs v us Q I rx rs (i _ _ _ _ q)
theorem f_bm (hK : X.K = K) (pa : PlainAttrs n) (slot : Slot n name id) (hty : typeOf (.builtin id) = pure (.type "method_descriptor")) (hm : MtR X id (rFM K g)) (ho : FJ X K W o fo) (ha : FAJ X K W (e :: es) fa)
    (hbase : attributeBase o name X.env (eval o X.env) = eval o X.env := by rfl)
    (hfew : ((backTo cpos (starEach (e :: es) X.env)).all (fun x => !x.1) && (backToKw cpos (keywordEach [] X.env)).all (fun x => x.1.isSome)
      && decide ((e :: es).length + ([] : List Keyword).length + (if ([] : List Keyword).isEmpty then 0 else 1) < 30)) = true := by rfl)
    (hline : (apos.endLine == cpos.line) = true := by rfl) (hs : starEach (e :: es) X.env = (false,eval e X.env) :: starEach es X.env := by rfl) (hplain : (backTo cpos (starEach es X.env)).any (·.1) = false := by rfl) :
    FJ X K W (.Call (.Attribute o name apos) (e :: es) [] cpos) (eBM n g fo fa) := by
  subst hK
  refine Vt (pe_bm pa slot hty hm ho ha hbase hfew hline hs hplain) fun σ H Q h => ?_
  obtain ⟨ι,ρ,Z,is,p⟩ := h
  refine ⟨ι,ρ,Z,is,(Zi p).imp fun x H1 q => ?_⟩
  obtain ⟨ι1,Z1,tx,g1,s1,r1,p1⟩ := q
  split at p1
  · rename_i ht
    refine ⟨Zhx s1 r1 ht,ι1,ρ,Z1,is.gr g1 s1,(Zi (rep := Reps X.K) p1).imp fun xs H2 q => ?_⟩
    obtain ⟨ι2,Z2,ts,g2,s2,r2,p2⟩ := q
    exact ⟨ι2,Z2,tx,ts,s2,r1.gr g2,r2,Vw p2⟩
  · exact p1.elim
end
def gAppend : T → List T → Sto → Option (T × Sto)
  | .loc i,[t],Z => match getL Z i with
    | some ts => if ts.length < Lim then some (.non,Z.set i (.lst (ts ++ [t]))) else none
    | none => none
  | _,_,_ => none
def asStr : T → Option (List Nat)
  | .str l => some l
  | _ => none
def gStarts : T → List T → Sto → Option (T × Sto)
  | .str a,[.str b],Z => some (.bl (b.isPrefixOf a),Z)
  | .str a,[.tup ts],Z => (ts.mapM asStr).map fun ys => (.bl (ys.any fun y => y.isPrefixOf a),Z)
  | _,_,_ => none
section
variable {X : Cx} {K : PySem.W.Frag}
theorem m_append : MtR X "list.append" (rFM K gAppend) := Z9d mt_append fun x xs H Q h => by
  obtain ⟨ι,Z,tx,ts,s,rx,rs,p⟩ := h
  unfold gAppend at p
  split at p
  · obtain ⟨y,rfl,ry⟩ := rs.one
    split at p
    · rename_i us e
      split at p
      · rename_i hl
        obtain ⟨a,vs,rfl,ha,h1,r⟩ := Jd s (Ve e) rx
        refine ⟨a,vs,y,rfl,rfl,h1,by rw [r.length]; exact Nat.lt_of_lt_of_le hl Zak,?_⟩
        have g := Gr.mut (ι := ι) (o := .lst (vs ++ [y])) h1 trivial (List.mem_of_getElem? ha)
        exact p ι _ _ g (s.set ha ⟨_,upd_same,(r.gr g).append (.cons (ry.gr g) .nil)⟩) .non
      · exact p.elim
    · exact p.elim
  · exact p.elim
theorem Zec {ι : List Addr} {H : Hp} : ∀ {vs : List V} {ts : List T} {ys : List (List Nat)},Reps K ι H vs ts → Paired (fun t y => asStr t = some y) ts ys → vs = (ys.map S).map V.str
  | _,_,_,.nil,.nil => rfl
  | _,_,_,.cons r q,.cons h p => by
    rename_i v vs t ts y ys
    cases t with
    | str l =>
      cases h
      cases r
      rw [Zec q p]; rfl
    | _ => cases h
theorem Zg8 (hK : X.K = K) : MtR X "str.startswith" (rFM K gStarts) := by
  subst hK
  refine Z9d (mt_startswith.or Z7p) fun x xs H Q h => ?_
  obtain ⟨ι,Z,tx,ts,s,rx,rs,p⟩ := h
  unfold gStarts at p
  split at p
  · obtain ⟨y,rfl,ry⟩ := rs.one
    cases rx; cases ry
    exact .inl ⟨_,_,rfl,rfl,by rw [Z5v]; exact Y6 p s (.bl _)⟩
  · obtain ⟨y,rfl,ry⟩ := rs.one
    cases rx
    rename_i l0 us
    obtain ⟨a,vs,rfl,hq,r⟩ := ry.tupE
    cases e : us.mapM asStr with
    | none => rw [e] at p; exact p.elim
    | some ys =>
      rw [e] at p
      have ev := Zec r (Z2j e)
      subst ev
      refine .inr ⟨_,a,ys.map S,rfl,rfl,hq,?_⟩
      have e2 : ((ys.map S).any fun y => Txt.startswith (S l0) y) = ys.any fun y => y.isPrefixOf l0 := by
        rw [List.any_map]
        congr 1
        funext y
        exact Z5v _ _
      rw [e2]
      exact Y6 p s (.bl _)
  · exact p.elim
end
end Fx
set_option maxHeartbeats 4000000
namespace Fx
open PySem PySem.Spec PyProof.Rows L2 SX Ap
variable [Tb]
def wipeR (ρ : Env) : List Nat → Env
  | [] => ρ
  | v :: vs => (wipeR ρ vs).set v none
def putN : List Nat → T → Env → Option Env
  | [j],t,ρ => some (ρ.set j (some t))
  | js,.tup ts,ρ => if ts.length = js.length then some ((js.zip ts).foldl (fun r p => r.set p.1 (some p.2)) ρ) else none
  | _,_,_ => none
def loopC (it : ItF) (D : Nat) (put : T → Option Env) (c : FT) (e : FE) : Nat → Nat → Sto → R T
  | 0,_,_ => .stuck
  | n + 1,k,Z => match it k Z with
    | none => .stuck
    | some none => .ok (.loc D) Z
    | some (some t) => match put t with
      | none => .stuck
      | some ρ => (noX (c ρ Z)).bind fun b Z1 => if b = true then (noX (e ρ Z1)).bind fun y Z2 => (match getL Z2 D with
          | some acc => if acc.length < Lim then loopC it D put c e n (k + 1) (Z2.set D (.lst (acc ++ [y]))) else .stuck
          | none => .stuck) else loopC it D put c e n (k + 1) Z1
def eLc (vs js : List Nat) (it : FI) (c : FT) (e : FE) : FE := fun ρ Z => (it ρ Z).bind fun j Z1 => loopC j Z1.length (fun t => putN js t (wipeR ρ vs)) c e Fuel 0 (Z1 ++ [.lst []])
def eYes : FT := fun _ Z => .ok true Z
section
variable {X : Cx} {K : PySem.W.Frag} {W : Wc}
theorem Z5w (ρ : Env) : ∀ vs : List Nat,(wipeR ρ vs).length = ρ.length
  | [] => rfl
  | v :: vs => by show ((wipeR ρ vs).set v none).length = _; rw [List.length_set,Z5w ρ vs]
theorem Zam {ι : List Addr} {H : Hp} {σ : L2.St} {ρ : Env} (e : Envs K ι H σ ρ) (hl : σ.length = ρ.length) : ∀ vs : List Nat,Envs K ι H (wipe σ vs) (wipeR ρ vs)
  | [] => e
  | v :: vs => fun i t h => by
    have h' : ((wipeR ρ vs).set v none)[i]? = some (some t) := h
    show ∃ w,((wipe σ vs).set v none)[i]? = some (some w) ∧ _
    by_cases hi : i = v
    · subst hi
      by_cases hlt : i < (wipeR ρ vs).length
      · rw [List.getElem?_set_self hlt] at h'; cases h'
      · rw [List.getElem?_eq_none (by rw [List.length_set]; omega)] at h'; cases h'
    · rw [List.getElem?_set_ne (Ne.symm hi)] at h'
      rw [List.getElem?_set_ne (Ne.symm hi)]
      exact Zam e hl vs i t h'
theorem Z48 (σ : L2.St) : ∀ (vs : List Nat) (i : Nat),i < σ.length → i ∈ vs → (wipe σ vs)[i]? = some none
  | v :: vs,i,hl,hm => by
    show ((wipe σ vs).set v none)[i]? = some none
    by_cases hi : i = v
    · subst hi
      rw [List.getElem?_set_self (by rw [wipe_length]; exact hl)]
    · rw [List.getElem?_set_ne (Ne.symm hi)]
      exact Z48 σ vs i hl ((List.mem_cons.mp hm).resolve_left hi)
theorem Zg9 (σ : L2.St) (vs : List Nat) (x : Option V) {j : Nat} (hj : j ∈ vs) : wipe (σ.set j x) vs = wipe σ vs := by
  apply List.ext_getElem?
  intro i
  by_cases hi : i ∈ vs
  · by_cases hlt : i < σ.length
    · rw [Z48 _ vs i (by rw [List.length_set]; exact hlt) hi,Z48 σ vs i hlt hi]
    · rw [List.getElem?_eq_none (by rw [wipe_length,List.length_set]; omega),List.getElem?_eq_none (by rw [wipe_length]; omega)]
  · rw [wipe_out hi,wipe_out hi,List.getElem?_set_ne (fun e => hi (by rw [← e]; exact hj))]
theorem Zed (σ : L2.St) (vs : List Nat) : wipe (wipe σ vs) vs = wipe σ vs := by
  apply List.ext_getElem?
  intro i
  by_cases hi : i ∈ vs
  · by_cases hlt : i < σ.length
    · rw [Z48 _ vs i (by rw [wipe_length]; exact hlt) hi,Z48 σ vs i hlt hi]
    · rw [List.getElem?_eq_none (by rw [wipe_length,wipe_length]; omega),List.getElem?_eq_none (by rw [wipe_length]; omega)]
  · rw [wipe_out hi]
abbrev W0 : Wc := Wt (fun _ _ _ _ => False)
def TgOk (K : PySem.W.Frag) (js : List Nat) (g : TG) : Prop := ∀ (x : V) (σ : L2.St) (H : Hp) (Q : L2.St → Hp → Prop) ι ρ ρ' t, σ.length = ρ.length → Envs K ι H σ ρ → Rep K ι H x t → putN js t ρ = some ρ' →
  (∀ σ', σ'.length = ρ'.length → Envs K ι H σ' ρ' → (∀ vs, (∀ j ∈ js, j ∈ vs) → wipe σ' vs = wipe σ vs) → Q σ' H) → g x σ H Q
theorem Z9e (j : Nat) (t : T) (ρ : Env) : putN [j] t ρ = some (ρ.set j (some t)) := by cases t <;> rfl
theorem Zee (j : Nat) : TgOk K [j] (gName j) := fun x σ H Q ι ρ ρ' t hl env r e q => by
  rw [Z9e] at e
  have e' := Option.some.inj e
  subst e'
  exact q _ (by rw [List.length_set,List.length_set]; exact hl) (env.set r j hl) fun vs h => Zg9 σ vs _ (h j List.mem_cons_self)
theorem Zjc {fi : FI} {g : TG} {ft : FT} {fe : FE} {vs js : List Nat} (hg : TgOk K js g) (hjs : ∀ j ∈ js,j ∈ vs) {σ : L2.St} {H : Hp} {Q : VK} (hi : ∀ R,(∃ ι ρ Z,Ie K W ι H σ ρ Z ∧ Post (ItR K) K W.w σ ι H R (fi ρ Z)) → tI K W.w fi σ H R) (h : tF K W (eLc vs js fi ft fe) σ H Q) : tLc (tI K W.w fi) g (tFT K W0 ft) (tF K W0 fe) vs σ H Q := by
  obtain ⟨ι,ρ,Z,is,p⟩ := h
  refine hi _ ⟨ι,ρ,Z,is,(Zi (rep := ItR K) p).imp fun J H1 q => ?_⟩
  obtain ⟨ι1,Z1,it,g1,s1,rJ,p1⟩ := q
  intro D hD
  have is1 := is.gr g1 s1
  have sD : Sim K (ι1 ++ [D]) (Z1 ++ [.lst []]) (upd H1 D (.lst [])) := s1.newL .nil hD
  have gD : Gr ι1 (ι1 ++ [D]) H1 (upd H1 D (.lst [])) := Gr.new hD
  have hDi : (ι1 ++ [D])[Z1.length]? = some D := by rw [← s1.len]; simp
  refine ⟨fun k m H' => ∃ ι' Z', Gr (ι1 ++ [D]) ι' (upd H1 D (.lst [])) H' ∧ Sim K ι' Z' H' ∧ Post (Rep K) K W.w σ ι' H' Q (loopC it Z1.length (fun t => putN js t (wipeR ρ vs)) ft fe m k Z'), ⟨Fuel, ι1 ++ [D], _, Gr.refl, sD, p1.shift gD⟩, ?_⟩
  rintro k m H' ⟨ι', Z', g', s', p'⟩
  cases m with
  | zero => exact p'.elim
  | succ m =>
    have hj := rJ k ι' H' Z' (gD.trans g') s'
    unfold loopC at p'
    cases e : it k Z' with
    | none => rw [e] at p'; exact p'.elim
    | some o =>
      rw [e] at hj p'
      cases o with
      | none => exact .inl ⟨hj, p' ι' H' _ Gr.refl s' (.loc (g'.pre _ _ hDi))⟩
      | some t =>
        refine .inr ⟨hj.1, _, fun H2 n => ⟨m, Nat.lt_succ_self m, n⟩, fun x H'' y => ?_⟩
        obtain ⟨g2, s2, r2⟩ := hj.2 x H'' y
        simp only at p'
        cases e3 : putN js t (wipeR ρ vs) with
        | none => rw [e3] at p'; exact p'.elim
        | some ρ' =>
          rw [e3] at p'
          have env2 : Envs K ι' H'' (wipe σ vs) (wipeR ρ vs) := Zam ((is1.env.gr (gD.trans g')).gr g2) is1.len vs
          refine hg x (wipe σ vs) H'' _ ι' _ ρ' t (by rw [wipe_length, Z5w]; exact is1.len) env2 r2 e3 fun σ' hl' env' hw => ?_
          refine ⟨by rw [hw vs hjs, Zed], ι', ρ', Z', ⟨hl', env', s2, trivial⟩, Z6h (W := W.w) (σ := σ) ((Zi (rep := bEq) (p'.shift g2)).imp fun b H3 q => ?_)⟩
          obtain ⟨ι3, Z3, b', g3, s3, rb, p3⟩ := q
          cases (show b = b' from rb)
          cases b with
          | false =>
            rw [if_neg Bool.false_ne_true] at p3 ⊢
            exact ⟨ι3, Z3, (g'.trans g2).trans g3, s3, p3⟩
          | true =>
            rw [if_pos rfl] at p3 ⊢
            refine ⟨ι3, ρ', Z3, ⟨hl', env'.gr g3, s3, trivial⟩, Z6h (W := W.w) (σ := σ) ((Zi (rep := Rep K) p3).imp fun y H4 q => ?_)⟩
            obtain ⟨ι4,Z4,ty,g4,s4,ry,p4⟩ := q
            split at p4
            · rename_i acc ea
              split at p4
              · rename_i hz
                have hD4 : ι4[Z1.length]? = some D := g4.pre _ _ (g3.pre _ _ (g'.pre _ _ hDi))
                obtain ⟨a, ws, ea', _, h1, rw1⟩ := Jd s4 (Ve ea) (.loc hD4)
                cases ea'
                have g5 := Gr.mut (ι := ι4) (o := .lst (ws ++ [y])) h1 trivial (List.mem_of_getElem? hD4)
                refine ⟨ws, h1, by rw [rw1.length]; exact Nat.lt_of_lt_of_le hz Zak, ι4, _, (((g'.trans g2).trans g3).trans g4).trans g5, s4.set (ob := .lst (acc ++ [ty])) hD4 ⟨_, upd_same, (rw1.gr g5).append (.cons (ry.gr g5) .nil)⟩, p4.shift g5⟩
              · exact p4.elim
            · exact p4.elim
theorem Zhd {fi : FI} {σ : L2.St} {H : Hp} {R : It → Hp → Prop} (h : ∃ ι ρ Z,Ie K W ι H σ ρ Z ∧ Post (ItR K) K W.w σ ι H R (fi ρ Z)) : tI K W.w fi σ H R := by
  obtain ⟨ι,ρ,Z,is,p⟩ := h
  exact ⟨ι,ρ,Z,⟨is.len,is.env,is.sim⟩,p⟩
theorem Zef : PTs X [] (tFT K W0 eYes) := ⟨fun pins s σ H Q I h => by
  obtain ⟨ι,ρ,Z,is,p⟩ := h
  exact pts_nil.run pins s σ H Q I (p ι H true Gr.refl is.sim rfl)⟩
theorem f_lc {elt tg iter : Expr} {ifs : List Expr} {scope : Scope} {own : List (PySem.Str × Nat)} {pos : Pos} {fi : FI} {g : TG} {ft : FT} {fe : FE} {js : List Nat} (hg0 : TgOk K js g) (hjs : ∀ j ∈ js,j ∈ own.map (·.2)) (hc : X.calm = true) (hN : X.N.Nodup) (hi : PI X tg iter (tI K W.w fi)) (ok : BlkOk X.N X.env.scope scope own)
    (hg : ∀ (s : Shared) (H : Hp) (C : Addr) (cl : List (PySem.Str × Addr)) (fp : List Addr),PG (X.blk s H scope (compEnvC scope cl C X.env) fp) tg g) (ht : ∀ (s : Shared) (H : Hp) (C : Addr) (cl : List (PySem.Str × Addr)) (fp : List Addr),PTs (X.blk s H scope (compEnvC scope cl C X.env) fp) ifs (tFT K W0 ft))
    (he : ∀ (s : Shared) (H : Hp) (C : Addr) (cl : List (PySem.Str × Addr)) (fp : List Addr),FJ (X.blk s H scope (compEnvC scope cl C X.env) fp) K W0 elt fe) (hs : ∀ x,foldedSetIterable iter X.env x = pure x := by intro _; rfl) :
    FJ X K W (.ListComp elt [⟨tg,iter,ifs,0⟩] scope pos) (eLc (own.map (·.2)) js fi ft fe) := Vt (pe_lc hc hN hi ok hg ht he hs) fun σ H Q h => Zjc hg0 hjs (fun R q => Zhd q) h
theorem Zga {W : WX} {i : Nat} {y : PySem.Str} {py : Pos} {elt tg iter : Expr} {ifs : List Expr} {scope : Scope} {own : List (PySem.Str × Nat)} {pos spos : Pos} {fi : FI} {g : TG} {ft : FT} {fe : FE} {js : List Nat} (hg0 : TgOk K js g) (hjs : ∀ j ∈ js,j ∈ own.map (·.2)) (hc : X.calm = true) (hN : X.N.Nodup) (hy : X.N[i]? = some y) (hyl : X.env.scope.names.lookup y = some .local)
    (hsw : swapsWith (.ListComp elt [⟨tg,iter,ifs,0⟩] scope pos) (some (.Name y py)) spos.line X.env = pure true) (hi : PI X tg iter (tI K W fi)) (ok : BlkOk X.N X.env.scope scope own)
    (hg : ∀ (s : Shared) (H : Hp) (C : Addr) (cl : List (PySem.Str × Addr)) (fp : List Addr),PG (X.blk s H scope (compEnvC scope cl C X.env) fp) tg g) (ht : ∀ (s : Shared) (H : Hp) (C : Addr) (cl : List (PySem.Str × Addr)) (fp : List Addr),PTs (X.blk s H scope (compEnvC scope cl C X.env) fp) ifs (tFT K W0 ft))
    (he : ∀ (s : Shared) (H : Hp) (C : Addr) (cl : List (PySem.Str × Addr)) (fp : List Addr),FJ (X.blk s H scope (compEnvC scope cl C X.env) fp) K W0 elt fe) (hs : ∀ x,foldedSetIterable iter X.env x = pure x := by intro _; rfl) :
    FSJ X K W (.Assign [.Name y py] (.ListComp elt [⟨tg,iter,ifs,0⟩] scope pos) spos) (sSet i (eLc (own.map (·.2)) js fi ft fe)) := Jb (ps_setLc hc hN hy hyl hsw hi ok hg ht he hs) fun D σ H h => by
  obtain ⟨ι,ρ,Z,is,p⟩ := h
  refine Zjc (W := Wt W) hg0 hjs (fun R q => Zhd q) (Z7r is p fun v H1 ι1 Z1 t g1 i1 r1 p1 => ?_)
  exact p1 ι1 H1 _ Gr.refl (i1.set r1 i)
theorem Zgb {X : Cx} : Takes X W0.w := takes0
end
end Fx
set_option maxHeartbeats 4000000
namespace Fx
open PySem PySem.Spec PyProof.Rows L2 SX Ap
variable [Tb]
def spI (C : Addr) (f : PySem.Str) : Sp := fun vs H Q _ => ∃ (a : Addr) (v : V),vs = [.ref a,v] ∧ H a = some (exo a C none) ∧ ∀ dx,H dx = none → dx ≠ a → Q .non (upd (upd H dx (exd dx [(f,v)])) a (exo a C (some dx)))
def sRaise (nm f : PySem.Str) (ds : List T) (fa : FA) : FS := fun ρ Z => bS ρ (fa ρ Z) fun ts Z1 => match ts ++ ds with
  | [t] => .exc ⟨nm,[(f,t)]⟩ ρ Z1
  | _ => .stuck
section
variable {X : Cx} {K : PySem.W.Frag} {W : WX} {x : PySem.Str} {p pos rpos : Pos} {e : Expr} {es : List Expr} {fa : FA} {k : Nat} {C fI : Addr} {fd : FuncData} {ps : List PySem.Str} {f : PySem.Str} {dvs : List V} {ds : List Value} {dts : List T}
theorem Z49 (hK : X.K = K) (hc : X.calm = true) (tk : Takes X W) (T : OexC X.K C) (iC : PySem.W.findIn X.K (.ref C) "__init__" = some (some (.ref fI))) (tI : PySem.W.typeIn X.K (.ref fI) = some (.type "function"))
    (F1 : FnOk X.prog X.w X.K X.mg X.base CX0 k fI fd ps (spI C f)) (hr : Room (k + 1) X.A) (hb : Binds X.K fd ps ds) (hd : Vals dvs ds) (hdf : Dfl K dvs dts) (hg : Gl X x) (hm : X.mg x = some (.ref C)) (ha : FAJ X K (Wt W) (e :: es) fa) (hn : ofLen (e :: es) fa) (hns : PySem.W.nsIn X.K mainGlobals x = some (some (.ref C))) (hln : (e :: es).length + dts.length = 1 := by rfl)
    (hdb : (x == ("__debug__" : PySem.Str)) = false := by decide) (he : starEach (e :: es) X.env = (false, eval e X.env) :: starEach es X.env := by rfl) (hpl : (backTo pos (starEach es X.env)).any (·.1) = false := by rfl) :
    FSJ X K W (.Raise (some (.Call (.Name x p) (e :: es) [] pos)) none rpos) (sRaise x f dts fa) := by
  subst hK
  refine Jb (ps_raise hc tk (pmk_oex T iC tI F1 hr hb hd pass0 hg hm ha hdb he hpl)) fun D σ H h => ?_
  obtain ⟨ι,ρ,Z,is,q⟩ := h
  refine Ze6 is q fun vs H1 ι1 Z1 ts e1 g1 i1 r1 p1 => ?_
  have r2 := r1.append (hdf ι1 H1)
  have hl := r2.length
  have hl2 : (ts ++ dts).length = 1 := by rw [List.length_append,hn _ _ _ _ e1]; exact hln
  refine ⟨?_,fun a na => ?_⟩
  · rw [List.length_append,r1.length] at *; omega
  match hts : ts ++ dts,r2,hl2 with
  | [t],r2,_ =>
    obtain ⟨v,ev,rv⟩ := r2.one
    rw [hts] at p1
    rw [ev]
    refine ⟨a,v,rfl,upd_same,fun dx nd ne => ⟨rfl,dx,[(f,v)],?_,?_,?_,?_⟩⟩
    · exact upd_same
    · rw [upd_ne ne,upd_same]
    · rw [upd_ne ne] at nd; exact nd
    · have hd1 : H1 dx = none := by rw [upd_ne ne] at nd; exact nd
      have eH : ∀ b,b ≠ dx → upd (del (upd (upd (upd H1 a (exo a C none)) dx (exd dx [(f,v)])) a (exo a C (some dx))) a) dx (.xd [(f,v)]) b = H1 b := fun b hb => by
        rw [upd_ne hb]
        by_cases hba : b = a
        · subst hba; rw [del_same,na]
        · rw [del_ne hba,upd_ne hba,upd_ne hb,upd_ne hba]
      have sm : Same H1 (upd (del (upd (upd (upd H1 a (exo a C none)) dx (exd dx [(f,v)])) a (exo a C (some dx))) a) dx (.xd [(f,v)])) := fun b o ho => by
        rw [eH b (ne_of_none ho hd1)]; exact ho
      refine p1 ι1 _ σ (.ref C) (some dx) (Gr.same sm) (i1.gr (Gr.same sm) (i1.sim.same sm)) ⟨⟨C,rfl,hns⟩,dx,[(f,v)],rfl,upd_same,.cons (rv.gr (Gr.same sm)) .nil⟩
end
theorem RepX.gr {K : PySem.W.Frag} {ι ι' : List Addr} {H H' : Hp} {cls : Value} {d : Option Addr} {x : Ex} (g : Gr ι ι' H H') (h : RepX K ι H cls d x) : RepX K ι' H' cls d x := by
  obtain ⟨h1,h2⟩ := h
  refine ⟨h1,?_⟩
  split at h2
  · rename_i e; exact h2
  · obtain ⟨dd,vs,e,h,r⟩ := h2
    exact ⟨dd,vs,e,g.xd _ _ h,r.gr g⟩
def eXf (x : Ex) (f : PySem.Str) : FE := fun _ Z => match x.fs.lookup f with
  | some t => .ok t Z
  | none => .stuck
theorem RepP.lookup {K : PySem.W.Frag} {ι : List Addr} {H : Hp} {f : PySem.Str} {t : T} : ∀ {vs : List (PySem.Str × V)} {fs : List (PySem.Str × T)},RepP K ι H vs fs → fs.lookup f = some t → ∃ v,vs.lookup f = some v ∧ Rep K ι H v t
  | _,_,.nil,e => by cases e
  | _,_,.cons r q,e => by
    rename_i k v vs t' ts
    rw [List.lookup_cons] at e ⊢
    cases h : f == k with
    | true => rw [h] at e; cases e; exact ⟨v,rfl,r⟩
    | false => rw [h] at e; exact RepP.lookup q e
section
variable {X : Cx} {K : PySem.W.Frag} {W : WX} {x : PySem.Str} {n : PySem.Str} {C : Addr} {i : Nat} {body : List Stmt} {e : Expr} {np pos pos' rpos : Pos} {b : FS} {fe : Ex → FE}
theorem PostS.wx {K : PySem.W.Frag} {W W' : WX} {ι : List Addr} {H : Hp} {D : Ends} {r : RS} (h : PostS K W ι H D r) (i : ∀ x ρ Z, r ≠ .exc x ρ Z) : PostS K W' ι H D r := by
  cases r with
  | nx => exact h
  | rt => exact h
  | bk => exact h
  | ct => exact h
  | exc x ρ Z => exact absurd rfl (i x ρ Z)
  | stuck => exact h
end
end Fx
set_option maxHeartbeats 4000000
namespace PySem
set_option maxHeartbeats 1000000 in
theorem Z2q (l : Addr) (items : Array Value) (n : Nat) (dct : Option Addr) (sl : Array (Option Value)) :
    Meets (Builtin.«enumerate.__new__» ⟨[.type "enumerate", .ref l], []⟩) (fun _ R s =>
      s.heap.get? l = some { cls := .type "tuple", dict := dct, data := .seq items n, slots := sl } ∧
      R (.ok (.ret (.ref (s.heap.push { cls := .type "tuple_iterator", data := .fields #[.ref l, .int 0 0] }).objs.size)))
        { s with heap := (s.heap.push { cls := .type "tuple_iterator", data := .fields #[.ref l, .int 0 0] }).push { cls := .type "enumerate", data := .fields #[.none, .bool false, .ref s.heap.objs.size, rawInt 0, .none, .none] } }) :=
  .of_wp fun prog w A R s h => by
    obtain ⟨hl,h⟩ := h
    obtain ⟨hp,g,d,tk,os⟩ := s
    have hL : hp.IsTuple l items := ⟨_,hl,rfl,n,rfl⟩
    have hsub := sub_enumerate
    wp_walk using wpAny_loadPart' hl
    refine wpAny_stack_any fun st => wpAny_pure ?_
    split
    · rename_i c _ _ _ _ _
      cases (c == Value.type "enumerate")
      · wp_walk using wpAny_loadPart' hl, wpAny_pyIter_tuple hL
        exact ⟨_,rfl,h⟩
      · wp_walk using wpAny_loadPart' hl, wpAny_pyIter_tuple hL
        exact ⟨_,rfl,h⟩
    · wp_walk using wpAny_loadPart' hl, wpAny_pyIter_tuple hL
      exact ⟨_,rfl,h⟩
end PySem
namespace PySem
section
variable {prog : Program} {w : World} {A : Around} {E : Value → Shared → Prop} {s : Shared}
theorem Z4a {l : Addr} {items : Array Value} {Q : Value → Shared → Prop} (hL : s.heap.IsTuple l items)
    (k : ∀ h', IsEnum h' (s.heap.objs.size + 1) s.heap.objs.size 0 .none → h'.IsTupleIter s.heap.objs.size l 0 → (∀ b o, s.heap.get? b = some o → h'.get? b = some o) → Q (.ref (s.heap.objs.size + 1)) { s with heap := h' }) :
    wpAny (model prog w) A (call (.type "enumerate") [.ref l]) Q E s := by
  obtain ⟨⟨c,dct,dt,sl⟩,hl,hc,n,hd⟩ := hL
  obtain rfl : c = .type "tuple" := hc
  obtain rfl : dt = .seq items n := hd
  refine callType_new F.called_enumerate (by decide) (F.typeCall_enumerate_1 _) (F.newCall_enumerate_1 _) (fun obj => F.args_object_init_2 obj _) F.entry_enumerate_new (Z2q l items n dct sl) ⟨hl,?_⟩
  have hz : (s.heap.push { cls := .type "tuple_iterator", data := .fields #[.ref l, .int 0 0] }).objs.size = s.heap.objs.size + 1 := Heap.size_push ..
  show _ ∧ _
  rw [hz]
  have he : IsEnum ((s.heap.push { cls := .type "tuple_iterator", data := .fields #[.ref l, .int 0 0] }).push
      { cls := .type "enumerate", data := .fields #[.none, .bool false, .ref s.heap.objs.size, rawInt 0, .none, .none] }) (s.heap.objs.size + 1) s.heap.objs.size 0 .none := by
    have q := Heap.get?_push_size (s.heap.push { cls := .type "tuple_iterator", data := .fields #[.ref l, .int 0 0] })
      (o := { cls := .type "enumerate", data := .fields #[.none, .bool false, .ref s.heap.objs.size, rawInt 0, .none, .none] }) rfl
    rw [hz] at q; exact q
  exact ⟨⟨_,he,rfl⟩,k _ he ⟨_,Heap.get?_push_of_some _ (Heap.get?_push_size _ rfl),rfl,rfl⟩ fun b o x => Heap.get?_push_of_some _ (Heap.get?_push_of_some _ x)⟩
end
end PySem
namespace Fx
open PySem PySem.Spec PyProof.Rows L2 SX Ap
variable [Tb]
def IteT (K : PySem.W.Frag) (a : Addr) : It :=
  ⟨fun i H => ∃ (xs : List V) (x : V), SqT K H a xs ∧ xs[i]? = some x, fun i H v H' => ∃ T x, v = .ref T ∧ H T = none ∧ H' = upd H T (.tup [.int (i : Nat), x]) ∧ ∀ xs, SqT K H a xs → xs[i]? = some x, fun i H => ∃ xs : List V, SqT K H a xs ∧ xs.length = i⟩
theorem Zde {P : Program} {w : World} {K : PySem.W.Frag} {elts : List Expr} {kk : Nat} {tpos : Pos} (a e it : Addr) :
    Turn P w K (.Tuple elts kk tpos) (IteT K a) [e,it] e (fun i h => (∃ old,IsEnum h e it ((i : Nat) : Int) old) ∧ h.IsTupleIter it a i ∧ e ≠ it ∧ a ≠ it) where
  mem := List.mem_cons_self
  obj := by
    intro i h ⟨⟨old,he⟩,⟨o,ho,hc,hd⟩,_⟩ b hb
    rcases List.mem_cons.mp hb with rfl | hb
    · exact ⟨_,he,fun v q => nomatch q⟩
    · cases List.mem_singleton.mp hb
      exact ⟨o,ho,fun v q => by rw [hd] at q; cases q⟩
  keep := by
    intro i h h' ⟨⟨old, he⟩, ⟨o, ho, r⟩, hne⟩ k
    exact ⟨⟨old,k e List.mem_cons_self _ he⟩,⟨o,k it (List.mem_cons_of_mem _ List.mem_cons_self) o ho,r⟩,hne⟩
  item := by
    intro X hP hw hK hc i pins s σ H E I hf ⟨⟨old,he⟩,hit,hne,hai⟩ hg
    cases hP; cases hw; cases hK
    have le : e < s.heap.objs.size := Heap.lt_size he
    have li : it < s.heap.objs.size := Heap.lt_size hit.choose_spec.1
    obtain ⟨xs,x,hq,hx⟩ := hg
    obtain ⟨its,rv,pt,hz⟩ := I.tuple hq
    obtain ⟨u,hu,ru⟩ := rv.get hx
    have hil : i < its.toArray.size := by
      have := (List.getElem?_eq_some_iff.mp hu).1
      simpa using this
    have hae : a ≠ e := fun z => by
      obtain ⟨o,h1,h2,_⟩ := pt
      rw [z] at h1
      have h3 := he.symm.trans h1
      cases h3
      exact absurd (Value.type.inj h2) (by decide)
    refine wpAny_pyNext_enum_itemD (Draws.tuple (A := X.A.in1) (I.ok.hd hc) it a hai its.toArray) he ⟨hit,pt⟩ hil hne (by simp [hne,Ne.symm hae]) ?_
    rintro v h' tk hv ho ⟨st, _⟩ hT hsz hk
    have hv' : v = u := by
      have h0 : its.toArray[i]? = some v := hv
      have : its[i]? = some v := by simpa using h0
      rw [hu] at this; exact (Option.some.inj this).symm
    subst hv'
    refine ⟨_, rfl, wpAny_letOwnedTupleGo_enum (s := { s with heap := h', toks := tk + 1 }) ho ?_⟩
    intro h'' he' sb
    have hT2 := (sb.2 s.heap.objs.size (Nat.ne_of_gt le)).trans hT
    have new : ObjOk X.prog X.w (upd H s.heap.objs.size (.tup [.int (i : Nat), x])) h'' s.heap.objs.size (.tup [.int (i : Nat), x]) :=
      ⟨by show 2 ≤ sizeLine; decide,[.int i tk,v],.cons ⟨_,rfl⟩ (.cons ru .nil),⟨_,hT2,rfl,_,rfl⟩⟩
    have I1 := I.turnedNew (t' := tk + 1) (ch := [e, it]) (fun b ob hb q => (sb.2 b (fun z => hb (by simp [z]))).trans (hk b ob (fun z => hb (by simp [z])) (fun z => hb (by simp [z])) q)) hf (Nat.le_refl _) new
    refine ⟨.ref s.heap.objs.size,_,I1,rfl,⟨_,x,rfl,I.hok.fresh (Nat.le_refl _),rfl,fun ys hy => by rw [I.tuple_inj hy hq]; exact hx⟩,⟨⟨v,?_⟩,?_,hne,hai⟩,?_⟩
    · rw [show ((i + 1 : Nat) : Int) = (i : Int) + 1 by omega]; exact he'
    · obtain ⟨o,o1,o2⟩ := st
      exact ⟨o,(sb.2 it (Ne.symm hne)).trans o1,o2⟩
    · intro b hb
      have : b < s.heap.objs.size := by
        rcases List.mem_cons.mp hb with rfl | hb
        · exact le
        · cases List.mem_singleton.mp hb; exact li
      rw [upd_ne (Nat.ne_of_lt this)]
      exact (hf b hb).1
  done := by
    intro X hP hw hK hc i pins s σ H E I hf ⟨⟨old,he⟩,hit,hne,hai⟩ hg
    cases hP; cases hw; cases hK
    obtain ⟨xs,hq,rfl⟩ := hg
    obtain ⟨its,rv,pt,hz⟩ := I.tuple hq
    obtain ⟨f0,f1,f2,f3,f4,f5⟩ := hf it (List.mem_cons_of_mem _ List.mem_cons_self)
    have hsz : its.toArray.size = xs.length := by rw [List.size_toArray,rv.length]
    refine wpAny_pyNext_enum_endD (Draws.tuple (A := X.A.in1) (I.ok.hd hc) it a hai its.toArray) he (by rw [hsz]; exact ⟨hit,pt⟩) ?_
    intro h' eb
    exact ⟨rfl, I.turned (t' := s.toks) (fun b o hb q => eb b o hb q) f0 f1 f3 f4 f5⟩
  self := by
    intro A i s Q E ⟨⟨_,he⟩,_⟩ h
    exact wpAny_pyIter_enum he h
def iEnumT (K : PySem.W.Frag) (ta : TA) : TI := fun σ H R => ta σ H fun vs H1 => ∃ a xs,vs = [.ref a] ∧ SqT K H1 a xs ∧ R (IteT K a) H1
theorem Zgc {X : Cx} {e : Expr} {ta : TA} {p pos tpos : Pos} {elts : List Expr} {kk : Nat} (hg : Gl X "enumerate") (hm : X.mg "enumerate" = none)
    (ha : PA X [e] ta) (hs : starEach [e] X.env = [(false,eval e X.env)] := by rfl) :
    PI X (.Tuple elts kk tpos) (.Call (.Name "enumerate" p) [e] [] pos) (iEnumT X.K ta) := by
  constructor
  intro pins s σ H R I h
  refine Call_ (ld_blt I hg hm boot_enumerate (PyProof.Rows.callWith_type1 ?_ hs rfl))
  refine thn (ha.run pos pins s σ H _ I h) ?_
  rintro us s1 ⟨vs,H1,I1,r1,a,xs,rfl,hq,q⟩
  obtain ⟨u,rfl,ru⟩ := vals1 r1
  cases (show u = Value.ref a from ru)
  obtain ⟨its,rv,pt,hz⟩ := I1.tuple hq
  refine Z4a (show s1.heap.IsTuple a its.toArray from pt) ?_
  intro h' he hit hk
  refine wpAny_pyIter_enum he ?_
  have I2 : Inv X pins σ H1 { s1 with heap := h' } := I1.kept (t' := s1.toks) hk
  have la : a < s1.heap.objs.size := by obtain ⟨o,h1,_⟩ := pt; exact Heap.lt_size h1
  refine ⟨s1.heap.objs.size + 1,[s1.heap.objs.size + 1,s1.heap.objs.size],_,_,H1,rfl,I2,Zde a _ _,⟨⟨.none,he⟩,hit,Nat.succ_ne_self _,Nat.ne_of_lt la⟩,?_,q⟩
  intro b hb
  have hle : s1.heap.objs.size ≤ b := by
    rcases List.mem_cons.mp hb with rfl | hb
    · exact Nat.le_add_right _ _
    · cases List.mem_singleton.mp hb; exact Nat.le_refl _
  exact I1.fpOk hle (I1.hok.fresh hle)
def itSeqX (ts : List T) : ItF := fun k _ => if k ≤ ts.length then some ts[k]? else none
def itStrX (l : List Nat) : ItF := fun k _ => if k ≤ l.length then some (l[k]?.map fun c => .str [c]) else none
def iAny (f : FE) : FI := fun ρ Z => (f ρ Z).bind fun x Z1 => match x with
  | .frl ts => .ok (itSeq ts) Z1
  | .loc i => match getL Z1 i with
    | some _ => .ok (itLoc i) Z1
    | none => .stuck
  | .tup ts => .ok (itSeq ts) Z1
  | .str l => .ok (itStr l) Z1
  | _ => .stuck
def iEnmA (f : FA) : FI := fun ρ Z => (f ρ Z).bind fun xs Z1 => match xs with
  | [.frl ts] => .ok (itEnum (itSeq ts)) Z1
  | [.loc i] => match getL Z1 i with
    | some _ => .ok (itEnum (itLoc i)) Z1
    | none => .stuck
  | [.tup ts] => .ok (itEnum (itSeqX ts)) Z1
  | [.str l] => .ok (itEnum (itStrX l)) Z1
  | _ => .stuck
section
variable {X : Cx} {K : PySem.W.Frag} {W : WX} {pos p : Pos} {tg l a : Expr} {fl : FE} {fa : FA}
theorem Zgd {t1 t2 : TI} (h1 : PI X tg l t1) (h2 : PI X tg l t2) : PI X tg l (fun σ H R => t1 σ H R ∨ t2 σ H R) := ⟨fun pins s σ H R I q => q.elim (h1.run pins s σ H R I) (h2.run pins s σ H R I)⟩
theorem Z8m (hK : X.K = K) (hl : FJ X K (Wt W) l fl) : PI X tg l (tI K W (iAny fl)) := by
  refine Z6s (Zgd (Zhu hK hl) (Zgd (Zj8 hK hl) (Zj9 hl))) fun σ H Q h => ?_
  obtain ⟨ι,ρ,Z,is,p⟩ := h
  cases e : fl ρ Z with
  | ok t Z1 =>
    unfold iAny at p
    rw [e,Xq] at p
    cases t with
    | tup ts => exact .inr (.inl ⟨ι,ρ,Z,is,by unfold iSeqT; rw [e,Xq]; exact p⟩)
    | str u => exact .inr (.inr ⟨ι,ρ,Z,is,by unfold iStr; rw [e,Xq]; exact p⟩)
    | frl ts => exact .inl ⟨ι,ρ,Z,is,by unfold iSeqL; rw [e,Xq]; exact p⟩
    | loc i => exact .inl ⟨ι,ρ,Z,is,by unfold iSeqL; rw [e,Xq]; exact p⟩
    | _ => exact p.elim
  | exc x Z1 =>
    unfold iAny at p
    rw [e] at p
    exact .inl ⟨ι,ρ,Z,is,by unfold iSeqL; rw [e]; exact p⟩
  | stuck => unfold iAny at p; rw [e] at p; exact p.elim
theorem Zco {tpos : Pos} {elts : List Expr} {kk : Nat} (hK : X.K = K) (hg : Gl X "enumerate") (hm : X.mg "enumerate" = none) (ha : FAJ X K (Wt W) [a] fa) (hn : ofLen [a] fa) (hs : starEach [a] X.env = [(false, eval a X.env)] := by rfl) : PI X (.Tuple elts kk tpos) (.Call (.Name "enumerate" p) [a] [] pos) (tI K W (iEnmA fa)) := by
  subst hK
  refine Z6s (Zgd (Zhv rfl hg hm ha hn hs) (Zgd (Zgc hg hm ha hs) (Zg2 hg hm ha hs))) fun σ H Q h => ?_
  obtain ⟨ι,ρ,Z,is,p⟩ := h
  unfold iEnmA at p
  cases e : fa ρ Z with
  | ok ts Z1 =>
    rw [e,Xq] at p
    have hl := hn _ _ _ _ e
    match ts,hl,p with
    | [t],_,p =>
      cases t with
      | frl us => exact .inl ⟨ι,ρ,Z,is,by unfold iEnm; rw [e,Xq]; exact p⟩
      | loc i => exact .inl ⟨ι,ρ,Z,is,by unfold iEnm; rw [e,Xq]; exact p⟩
      | tup us =>
        refine .inr (.inl ⟨ι,ρ,Z,is.ie,?_⟩)
        rw [e]
        intro ι1 H1 vs g1 s1 r1
        obtain ⟨v,rfl,r⟩ := r1.one
        obtain ⟨b,xs,rfl,hq,rs⟩ := r.tupE
        refine ⟨b, xs, rfl, hq, p ι1 H1 _ g1 s1 fun k ι' H' Z' g' s' => ?_⟩
        simp only [itEnum,itSeqX]
        by_cases hk : k ≤ us.length
        · rw [if_pos hk]
          simp only [Option.map_some]
          cases eu : us[k]? with
          | none => exact ⟨xs, SqT.gr g' hq, by rw [rs.length]; have := List.getElem?_eq_none_iff.mp eu; omega⟩
          | some u =>
            obtain ⟨x,h1,h2⟩ := rs.get eu
            refine ⟨⟨xs, x, SqT.gr g' hq, h1⟩, fun y H'' hy => ?_⟩
            obtain ⟨q, x', rfl, nq, rfl, hx'⟩ := hy
            have := hx' xs (SqT.gr g' hq)
            rw [h1] at this; cases this
            exact ⟨Gr.new0 nq, s'.same (Jz nq), .tup (SqT.of upd_same) (.cons (.int _) (.cons ((h2.gr g').gr (Gr.new0 nq)) .nil))⟩
        · rw [if_neg hk]; exact trivial
      | str u =>
        refine .inr (.inr ⟨ι,ρ,Z,is.ie,?_⟩)
        rw [e]
        intro ι1 H1 vs g1 s1 r1
        obtain ⟨v,rfl,r⟩ := r1.one
        cases r
        refine ⟨S u, rfl, p ι1 H1 _ g1 s1 fun k ι' H' Z' g' s' => ?_⟩
        have hsz : (S u).cps.size = u.length := by simp [S]
        simp only [itEnum,itStrX]
        by_cases hk : k ≤ u.length
        · rw [if_pos hk]
          simp only [Option.map_some]
          cases eu : u[k]? with
          | none => exact show k = (S u).cps.size by rw [hsz]; have := List.getElem?_eq_none_iff.mp eu; omega
          | some c =>
            have hlt : k < u.length := (List.getElem?_eq_some_iff.mp eu).1
            refine ⟨show k < (S u).cps.size by rw [hsz]; exact hlt, fun y H'' hy => ?_⟩
            obtain ⟨q, c', rfl, nq, rfl, hc'⟩ := hy
            have : c' = c := by
              have h2 : u[k]? = some c' := by simpa [S] using hc'
              rw [eu] at h2; exact (Option.some.inj h2).symm
            subst this
            exact ⟨Gr.new0 nq, s'.same (Jz nq), .tup (SqT.of upd_same) (.cons (.int _) (.cons (.str [c']) .nil))⟩
        · rw [if_neg hk]; exact trivial
      | _ => exact p.elim
  | exc x Z1 => rw [e] at p; exact .inl ⟨ι,ρ,Z,is,by unfold iEnm; rw [e]; exact p⟩
  | stuck => rw [e] at p; exact p.elim
end
end Fx
set_option maxHeartbeats 4000000
namespace Ap
open PySem PySem.Spec PyProof.Rows L2 SX
end Ap
namespace Fx
open PySem PySem.Spec PyProof.Rows L2 SX Ap
variable [Tb]
theorem Zhy {K : PySem.W.Frag} {H : Hp} {a : Addr} {ns : List Int} (h : FrL K H a (ns.map V.int)) : Rep K [] H (.ref a) (.frl (ns.map .int)) := by
  refine .frl h ?_
  clear h
  induction ns with
  | nil => exact .nil
  | cons n ns ih => exact .cons (.int n) ih
theorem fnG_0 {P : Program} {w : World} {K : PySem.W.Frag} {mg : PySem.Str → Option Value} {base : Heap} {k : Nat} {f : Addr} {fd : FuncData} {ps : List PySem.Str} {n : Nat} {F : FF} (G : FnG P w K mg base k f fd ps (spF K n F)) : GOk P w K mg base CX0 k f fd ps (fun vs H Q _ => spF K n F vs H Q (fun _ _ _ => False)) :=
  ⟨fun vs H Q E h => G.len vs H Q _ h, fun A outer s H as us vs Q E hr hG e0 hb rv h => codeAny_mono (G.run A outer s H as us vs Q _ hr hG e0 hb rv h) fun r s' z => by
    cases r with
    | error e =>
      obtain ⟨_,_,_,_,_,_,_,_,_,_,_,_,q⟩ := z
      exact q.elim
    | ok fl => cases fl <;> exact z⟩
theorem Zhz (z : PySem.Str) : S z.cps.toList = z := by
  show (⟨z.cps.toList.toArray⟩ : PySem.Str) = z
  rw [Array.toArray_toList]
def eDict0 : FE := fun _ Z => .ok (.loc Z.length) (Z ++ [.dk []])
def gNeg : T → Sto → Option (T × Sto)
  | .int i,Z => some (.int (-i),Z)
  | _,_ => none
theorem f_neg {X : Cx} {K : PySem.W.Frag} {W : Wc} {a : Expr} {fa : FE} {pos : Pos} (ha : FJ X K W a fa) : FJ X K W (.UnaryOp .USub a pos) (eUn gNeg fa) := Vt (pe_un un_neg ha) fun σ H Q h => by
  obtain ⟨ι,ρ,Z,is,p⟩ := h
  refine ⟨ι,ρ,Z,is,(Zi p).imp fun x H1 q => ?_⟩
  obtain ⟨ι1,Z1,tx,g1,s1,r1,p1⟩ := q
  have p2 := Vw p1
  unfold gNeg at p2
  split at p2
  · cases r1; exact ⟨_,rfl,Y6 p2 s1 (.int _)⟩
  · exact p2.elim
end Fx
set_option maxHeartbeats 4000000
namespace Ap
open PySem PySem.Spec PyProof.Rows L2 SX
def NoDig (K : PySem.W.Frag) : Prop := PySem.W.nsIn K cStatics "sys.int_max_str_digits" = some none
theorem Zi0 {K : PySem.W.Frag} {h : Heap} {a : Addr} {mg : Str → Option Value} {n : Str} (X : K.In h) (G : h.Ns a mg) (e : PySem.W.nsIn K a n = some none) : mg n = none := by
  obtain ⟨o,es,ep,ho,hd,_,hf⟩ := G
  unfold PySem.W.nsIn at e
  split at e
  · rename_i c d es' n' sl q
    have := X _ _ q
    rw [ho] at this
    cases this
    cases hd
    split at e
    · cases e
    · rename_i he
      rw [← hf]
      unfold nsFind findBy
      rw [← Array.find?_toList,he]
      rfl
  · cases e
open PySem.NumText in
theorem wp_textB {M : Model} {A : Around} {E : Value → Shared → Prop} {s : Shared} {Q : Value → Shared → Prop} {v : Value} {text : List Nat} {n : Int} (hn : s.heap.NoDigits)
    (hs : ¬ (text.takeWhile (· != 0)).length ≤ 640) (hr : (int_private% "readNumeral") 4300 10 (text.takeWhile (· != 0)) = (int_private% "Numeral.value") n)
    (ha : ((text.takeWhile (· != 0)).length == text.length) = true) (h : Q (.int n s.toks) { s with toks := s.toks + 1 }) :
    wpAny M A ((int_private% "intFromText") v text 10) Q E s := by
  obtain ⟨mc,hns,hnone⟩ := hn
  obtain ⟨hp,g,d,tk,os⟩ := s
  wp_step
  wp_step
  unfold Builtin.intMaxStrDigits
  refine wpAny_bind (wpAny_bind (wpAny_nsGet hns ?_))
  rw [hnone]
  refine wpAny_pure ?_
  dsimp only
  rw [hr]
  dsimp only
  rw [if_pos ha]
  exact wpAny_mkInt h
open PySem.NumText PySem.W PySem.W.KIN in
theorem Zbx {x : PySem.Str} {u : Tok} {n : Int} (hs : ¬ (numSeenOf x).length ≤ 640) (hr : (int_private% "readNumeral") 4300 10 (numSeenOf x) = (int_private% "Numeral.value") n) (ha : ((numSeenOf x).length == (numTextOf x).length) = true) :
    Meets (Builtin.«int.__new__» ⟨[.type "int", .str x u], []⟩) (fun _ R s => s.heap.NoDigits ∧ R (.ok (.ret (.int n s.toks))) { s with toks := s.toks + 1 }) :=
  .of_wp fun prog w A R s hh => by
    obtain ⟨hp,g,d,tk,os⟩ := s
    have hN : hp.NoDigits := hh.1
    have h := hh.2
    clear hh
    have f1 := F.conv_sub_int
    have f2 := F.madeHere_int
    have f3 := str_int
    have f4 := str_idx
    have f5 := str_trunc
    have f6 : typeOf (.str x u) = pure (.type "str") := rfl
    have hk := Hid.mk (And.intro hs (And.intro hr (And.intro ha hN)))
    clear hs hr ha hN
    repeat (any_goals (first
      | assumption
      | ((with_reducible show wpAny _ _ ((int_private% "intFromText") _ _ _) _ _ _); refine wp_textB hk.out.2.2.2 hk.out.1 hk.out.2.1 hk.out.2.2.1 ?_)
      | wp_step))
    all_goals first | exact ⟨_,rfl,h⟩ | skip
open PySem.NumText in
theorem Zdf {prog : Program} {w : World} {A : Around} {E : Value → Shared → Prop} {s : Shared} {Q : Value → Shared → Prop} {x : PySem.Str} {t : Tok} {n : Int} (hd : s.heap.NoDigits) (hA : x.cps.all (· < 128) = true) (hn : PySem.intText? x = some n) (hl : x.length ≤ sizeLine)
    (h : Q (.int n s.toks) { s with toks := s.toks + 1 }) : wpAny (model prog w) A (call (.type "int") [.str x t]) Q E s := by
  by_cases hs : (numSeenOf x).length ≤ 640
  · by_cases hl2 : x.length ≤ 640
    · exact PySem.W.KIN.call_text hn hl2 h
    · exfalso
      have e1 : numTextOf x = x.cps.toList := if_pos hA
      by_cases k : ((numSeenOf x).length == (numTextOf x).length) = true
      · have k' := beq_iff_eq.mp k
        have e2 : (numTextOf x).length = x.length := by rw [e1]; exact Array.length_toList
        rw [e2] at k'
        omega
      · unfold intText? at hn
        rw [if_neg k] at hn
        cases hn
  · rcases read4300 x hl with ⟨m,h1,h2,h3⟩ | ⟨h1,_⟩
    · rw [hn] at h1
      cases h1
      exact call_int_1 (Zbx hs h3 h2) ⟨hd,typeIs_int _ _ _,h⟩
    · rw [hn] at h1
      cases h1
section
variable {X : Cx}
theorem noDig {pins : List (Addr × Obj)} {σ : L2.St} {H : Hp} {s : Shared} (I : Inv X pins σ H s) (h : NoDig X.K) : s.heap.NoDigits := by
  obtain ⟨mc,a,_⟩ := I.nolimit
  exact ⟨mc,a,Zi0 I.kIn a h⟩
abbrev rIntStrB : List V → Hp → VK → Prop := fun xs H Q => ∃ (l : List Nat) (n : Int),xs = [.str (S l)] ∧ l.all (· < 128) = true ∧ PySem.intText? (S l) = some n ∧ l.length ≤ 100000 ∧ Q (.int n) H
theorem Z9f (hD : NoDig X.K) : CallR X (.type "int") rIntStrB := by
  intro pins s σ H xs us Q I rs h
  obtain ⟨l,n,rfl,hA,hn,hl,h⟩ := h
  cases rs with
  | cons r1 rs =>
    cases rs
    obtain ⟨t,rfl⟩ := r1
    exact Zdf (noDig I hD) (by simpa [S] using hA) hn (szS hl) ⟨.int n,H,I.tok _,⟨_,rfl⟩,h⟩
end
end Ap
set_option maxHeartbeats 4000000
namespace Fx
open PySem PySem.Spec PyProof.Rows L2 SX Ap
variable [Tb]
def bools : List T → Option (List Bool)
  | [] => some []
  | .bl b :: ts => (bools ts).map (b :: ·)
  | _ :: _ => none
def gAll : List T → Sto → Option (T × Sto)
  | [t],Z => (asList t Z).bind fun ts => (bools ts).map fun bs => (.bl (bs.all id),Z)
  | _,_ => none
def gAny : List T → Sto → Option (T × Sto)
  | [t],Z => (asList t Z).bind fun ts => (bools ts).map fun bs => (.bl (bs.any id),Z)
  | _,_ => none
theorem Zan {K : PySem.W.Frag} {ι : List Addr} {H : Hp} : ∀ {vs : List V} {ts : List T} {bs : List Bool},Reps K ι H vs ts → bools ts = some bs → vs = bs.map V.bl
  | _,[],bs,r,h => by
    cases r
    have : bs = [] := (Option.some.inj h).symm
    subst this; rfl
  | _,t :: ts,bs,r,h => by
    cases r with
    | cons r1 rs =>
      cases t with
      | bl b =>
        simp only [bools] at h
        cases e : bools ts with
        | none => rw [e] at h; cases h
        | some cs =>
          rw [e] at h
          have : bs = b :: cs := (Option.some.inj h).symm
          subst this
          cases r1
          rw [Zan rs e]; rfl
      | _ => simp [bools] at h
theorem c_all {X : Cx} {K : PySem.W.Frag} (hK : X.K = K) (hc : X.calm = true) : CallR X (.builtin "all") (rFC K gAll) := by
  subst hK
  refine Jc (cr_all hc) fun xs H Q h => ?_
  obtain ⟨ι,Z,ts,s,r,p⟩ := h
  match ts,r,p with
  | [],_,p => exact p.elim
  | _ :: _ :: _,_,p => simp only [gAll] at p; exact p.elim
  | [t],r,p =>
    obtain ⟨v,rfl,rr⟩ := r.one
    simp only [gAll] at p
    cases e : asList t Z with
    | none => rw [e] at p; exact p.elim
    | some us =>
      rw [e] at p
      obtain ⟨a,vs,rfl,hq,rs⟩ := Z0i s rr e
      cases eb : bools us with
      | none => simp only [Option.bind_some,eb] at p; exact p.elim
      | some bs =>
        simp only [Option.bind_some,eb,Option.map_some] at p
        have := Zan rs eb
        subst this
        exact ⟨a,bs,rfl,hq,Y6 p s (.bl _)⟩
def gStr : List T → Sto → Option (T × Sto)
  | [.int i],Z => if i.natAbs < 10 ^ 4300 then some (.str (dec i),Z) else none
  | _,_ => none
def gIntT : List T → Sto → Option (T × Sto)
  | [.int i],Z => some (.int i,Z)
  | [.bl b],Z => some (.int (if b then 1 else 0),Z)
  | [.str l],Z => if l.all (· < 128) = true ∧ l.length ≤ 100000 then (PySem.intText? (S l)).map fun n => (.int n,Z) else none
  | _,_ => none
theorem Z0j {X : Cx} {K : PySem.W.Frag} (hD : NoDig X.K) : CallR X (.type "int") (rFC K gIntT) := Jc (Zbq call_int1 (Z9f hD)) fun xs H Q h => by
  obtain ⟨ι,Z,ts,s,r,p⟩ := h
  unfold gIntT at p
  split at p
  · obtain ⟨v,rfl,rr⟩ := r.one
    cases rr
    exact .inl (.inl ⟨_,rfl,Y6 p s (.int _)⟩)
  · obtain ⟨v,rfl,rr⟩ := r.one
    cases rr
    exact .inl (.inr ⟨_,rfl,Y6 p s (.int _)⟩)
  · obtain ⟨v,rfl,rr⟩ := r.one
    cases rr
    split at p
    · rename_i hz
      cases e : PySem.intText? (S _) with
      | none => rw [e] at p; exact p.elim
      | some n =>
        rw [e] at p
        exact .inr ⟨_,n,rfl,hz.1,e,hz.2,Y6 p s (.int _)⟩
    · exact p.elim
  · exact p.elim
end Fx
set_option maxHeartbeats 4000000
namespace Fx
open PySem PySem.Spec PyProof.Rows L2 SX Ap
variable [Tb]
def eCallK (F : FF) (g : List T → List T) (fa : FA) : FE := fun ρ Z => (fa ρ Z).bind fun ts Z1 => F (g ts) Z1
end Fx
set_option maxHeartbeats 4000000
namespace Fx
open PySem PySem.Spec PyProof.Rows L2 SX
variable [Tb]
end Fx
set_option maxHeartbeats 4000000
namespace Fx
open PySem PySem.Spec PyProof.Rows L2 SX Ap
variable [Tb]
theorem Z5x {a b : String} (h : PySem.Str.ofString a = PySem.Str.ofString b) : a = b := by
  have e : a.toList.map Char.toNat = b.toList.map Char.toNat := by rw [← signs_ofString,← signs_ofString,h]
  have key : ∀ (l m : List Char),l.map Char.toNat = m.map Char.toNat → l = m := by
    intro l
    induction l with
    | nil => intro m h; cases m with
      | nil => rfl
      | cons c m => cases h
    | cons c l ih => intro m h; cases m with
      | nil => cases h
      | cons d m =>
        rw [List.map_cons,List.map_cons] at h
        have h1 := (List.cons.inj h).1
        have h2 := ih m (List.cons.inj h).2
        have : c = d := by
          apply Char.ext
          apply UInt32.toNat_inj.mp
          exact h1
        rw [this,h2]
  exact String.toList_inj.mp (key _ _ e)
theorem Zi1 {a b : String} : (PySem.Str.ofString a == PySem.Str.ofString b) = (a == b) := by
  by_cases h : a = b
  · subst h; rw [beq_self_eq_true,beq_self_eq_true]
  · rw [beq_eq_false_iff_ne.mpr h,beq_eq_false_iff_ne.mpr fun e => h (Z5x e)]
theorem RepF.lookup {K : PySem.W.Frag} {ι : List Addr} {H : Hp} {f : String} : ∀ {vs : List (PySem.Str × V)} {fs : List (String × T)},RepF K ι H vs fs →
    (∀ t,fs.lookup f = some t → ∃ v,vs.lookup (PySem.Str.ofString f) = some v ∧ Rep K ι H v t) ∧ (fs.lookup f = none → vs.lookup (PySem.Str.ofString f) = none)
  | _,_,.nil => ⟨fun t e => (nomatch e),fun _ => rfl⟩
  | _,_,.cons r q => by
    rename_i k v vs t ts
    obtain ⟨h1,h2⟩ := RepF.lookup (f := f) q
    rw [List.lookup_cons,List.lookup_cons,Zi1]
    cases h : f == k with
    | true => exact ⟨fun u e => by cases e; exact ⟨v,rfl,r⟩,fun e => nomatch e⟩
    | false => exact ⟨h1,h2⟩
theorem RepF.length {K : PySem.W.Frag} {ι : List Addr} {H : Hp} : ∀ {vs : List (PySem.Str × V)} {fs : List (String × T)},RepF K ι H vs fs → vs.length = fs.length
  | _,_,.nil => rfl
  | _,_,.cons _ r => congrArg (· + 1) r.length
def putS (f : String) (t : T) : List (String × T) → List (String × T)
  | [] => [(f,t)]
  | (g,x) :: r => if g = f then (g,t) :: r else (g,x) :: putS f t r
theorem RepF.put {K : PySem.W.Frag} {ι : List Addr} {H : Hp} {f : String} {v : V} {t : T} (rv : Rep K ι H v t) : ∀ {vs : List (PySem.Str × V)} {fs : List (String × T)},RepF K ι H vs fs → RepF K ι H (putF (PySem.Str.ofString f) v vs) (putS f t fs)
  | _,_,.nil => .cons rv .nil
  | _,_,.cons r q => by
    rename_i k x vs u ts
    unfold putF putS
    by_cases h : k = f
    · rw [if_pos h,if_pos (by rw [h])]; exact .cons rv q
    · rw [if_neg h,if_neg fun e => h (Z5x e)]; exact .cons r (RepF.put rv q)
def getI (Z : Sto) (i : Nat) : Option (String × List (String × T)) := match Z[i]? with
  | some (.ins C fs) => some (C,fs)
  | _ => none
theorem Z9g {Z : Sto} {i : Nat} {C : String} {fs : List (String × T)} (h : getI Z i = some (C,fs)) : Z[i]? = some (.ins C fs) := by
  unfold getI at h
  split at h
  · rename_i e; cases h; exact e
  · cases h
structure CF (K : PySem.W.Frag) (C : String) (Ca : Addr) : Prop where
  ns : PySem.W.nsIn K mainGlobals (PySem.Str.ofString C) = some (some (.ref Ca))
  cls : Cls K Ca
def FldOk (K : PySem.W.Frag) (cs : List String) (f : String) : Prop := ∀ C ∈ cs,∃ Ca,CF K C Ca ∧ NoAttr K Ca (PySem.Str.ofString f)
theorem FldOk.nil {K : PySem.W.Frag} {f : String} : FldOk K [] f := fun _ h => nomatch h
theorem FldOk.cons {K : PySem.W.Frag} {C : String} {Ca : Addr} {cs : List String} {f : String} (c : CF K C Ca) (n : NoAttr K Ca (PySem.Str.ofString f)) (h : FldOk K cs f) : FldOk K (C :: cs) f := fun D hD => by
  rcases List.mem_cons.mp hD with rfl | k
  · exact ⟨Ca,c,n⟩
  · exact h D k
theorem Zeg {K : PySem.W.Frag} {ι : List Addr} {H : Hp} {Z : Sto} {v : V} {i : Nat} {C : String} {fs : List (String × T)} (s : Sim K ι Z H) (r : Rep K ι H v (.loc i)) (e : getI Z i = some (C,fs)) :
    ∃ a Ca dx vs,v = .ref a ∧ ι[i]? = some a ∧ PySem.W.nsIn K mainGlobals (PySem.Str.ofString C) = some (some (.ref Ca)) ∧ H a = some (.ins Ca dx vs) ∧ RepF K ι H vs fs := by
  cases r with
  | loc h =>
    obtain ⟨a,h1,Ca,dx,vs,hn,h2,h3⟩ := s.at (Z9g e)
    rw [h] at h1; cases h1
    exact ⟨_,Ca,dx,vs,rfl,h,hn,h2,h3⟩
def fldT (cs : List String) (f : String) (x : T) (Z : Sto) : Option T := match x with
  | .loc i => match getI Z i with
    | some (C,fs) => if C ∈ cs then fs.lookup f else none
    | none => none
  | _ => none
def eFld (cs : List String) (f : String) (fe : FE) : FE := fun ρ Z => (fe ρ Z).bind fun x Z1 => match fldT cs f x Z1 with
  | some t => .ok t Z1
  | none => .stuck
def setF (cs : List String) (f : String) (x y : T) (Z : Sto) : Option Sto := match x with
  | .loc i => match getI Z i with
    | some (C,fs) => if C ∈ cs ∧ fs.length < 1000 then some (Z.set i (.ins C (putS f y fs))) else none
    | none => none
  | _ => none
def sFldS (cs : List String) (f : String) (fo fv : FE) : FS := fun ρ Z => bS ρ (fv ρ Z) fun y Z1 => bS ρ (fo ρ Z1) fun x Z2 => match setF cs f x y Z2 with
  | some Z3 => .nx ρ Z3
  | none => .stuck
def gFld (cs : List String) (f : String) (fo : FE) : FG := fun y ρ Z => (fo ρ Z).bind fun x Z1 => match setF cs f x y Z1 with
  | some Z2 => .ok ρ Z2
  | none => .stuck
def insC (x : T) (Z : Sto) : Option String := match x with
  | .loc i => (getI Z i).map (·.1)
  | _ => none
def sFldA (cs : List String) (f : String) (fo fv : FE) (g : T → T → Sto → Option (T × Sto)) : FS := fun ρ Z => bS ρ (fo ρ Z) fun x Z1 => match fldT cs f x Z1 with
  | some t => bS ρ (fv ρ Z1) fun y Z2 => bS ρ (lift (g t y Z2)) fun z Z3 => if insC x Z3 = insC x Z1 then (match setF cs f x z Z3 with
    | some Z4 => .nx ρ Z4
    | none => .stuck) else .stuck
  | none => .stuck
section
variable {X : Cx} {K : PySem.W.Frag} {cs : List String} {f : String} {o e value : Expr} {pos pos' tpos : Pos} {fo fv fe : FE}
theorem Zhe {ι : List Addr} {H : Hp} {Z : Sto} {x : V} {tx t : T} (hc : FldOk K cs f) (s : Sim K ι Z H) (r : Rep K ι H x tx) (h : fldT cs f tx Z = some t) :
    ∃ a Ca dx vs v,x = .ref a ∧ H a = some (.ins Ca dx vs) ∧ Cls K Ca ∧ NoAttr K Ca (PySem.Str.ofString f) ∧ vs.lookup (PySem.Str.ofString f) = some v ∧ Rep K ι H v t ∧ ∃ C,insC tx Z = some C ∧ PySem.W.nsIn K mainGlobals (PySem.Str.ofString C) = some (some (.ref Ca)) := by
  unfold fldT at h
  split at h
  · split at h
    · rename_i C fs eg
      split at h
      · rename_i hC
        obtain ⟨a,Ca,dx,vs,rfl,hi,hn,ha,hf⟩ := Zeg s r eg
        obtain ⟨Cb,cf,na⟩ := hc C hC
        have e2 := hn.symm.trans cf.ns
        cases e2
        obtain ⟨v,hv,rv⟩ := hf.lookup.1 t h
        exact ⟨a,_,dx,vs,v,rfl,ha,cf.cls,na,hv,rv,C,by simp only [insC,eg,Option.map_some],hn⟩
      · cases h
    · cases h
  · cases h
theorem Zby {ι : List Addr} {H : Hp} {Z Z' : Sto} {x y : V} {tx ty : T} (hc : FldOk K cs f) (s : Sim K ι Z H) (r : Rep K ι H x tx) (ry : Rep K ι H y ty) (h : setF cs f tx ty Z = some Z') :
    ∃ a Ca dx vs,x = .ref a ∧ H a = some (.ins Ca dx vs) ∧ Cls K Ca ∧ NoAttr K Ca (PySem.Str.ofString f) ∧ vs.length < 1000 ∧
      Gr ι ι H (upd H a (.ins Ca dx (putF (PySem.Str.ofString f) y vs))) ∧ Sim K ι Z' (upd H a (.ins Ca dx (putF (PySem.Str.ofString f) y vs))) ∧ ∃ C, insC tx Z = some C ∧ PySem.W.nsIn K mainGlobals (PySem.Str.ofString C) = some (some (.ref Ca)) := by
  unfold setF at h
  split at h
  · split at h
    · rename_i C fs eg
      split at h
      · rename_i hC
        cases h
        obtain ⟨a,Ca,dx,vs,rfl,hi,hn,ha,hf⟩ := Zeg s r eg
        obtain ⟨Cb,cf,na⟩ := hc C hC.1
        have e2 := hn.symm.trans cf.ns
        cases e2
        have g := Gr.mut (ι := ι) (o := .ins Ca dx (putF (PySem.Str.ofString f) y vs)) ha trivial (List.mem_of_getElem? hi)
        exact ⟨a,_,dx,vs,rfl,ha,cf.cls,na,by rw [hf.length]; exact hC.2,g,s.set hi ⟨Ca,dx,_,hn,upd_same,(hf.gr g).put (ry.gr g)⟩,C,by simp only [insC,eg,Option.map_some],hn⟩
      · cases h
    · cases h
  · cases h
theorem Xu {W : Wc} (hK : X.K = K) (hc : FldOk K cs f) (he : FJ X K W e fe) (hb : attributeBase e (PySem.Str.ofString f) X.env (eval e X.env) = eval e X.env := by rfl) : FJ X K W (.Attribute e (PySem.Str.ofString f) pos) (eFld cs f fe) := by
  subst hK
  refine Vt (pe_fld he hb) fun σ H Q h => ?_
  obtain ⟨ι,ρ,Z,is,p⟩ := h
  refine ⟨ι,ρ,Z,is,(Zi p).imp fun x H1 q => ?_⟩
  obtain ⟨ι1,Z1,tx,g1,s1,r1,p1⟩ := q
  split at p1
  · rename_i t et
    obtain ⟨a,Ca,dx,vs,v,rfl,ha,hcl,na,hv,rv,_⟩ := Zhe hc s1 r1 et
    exact ⟨a,Ca,dx,vs,v,rfl,ha,hcl,na,hv,p1 ι1 H1 _ Gr.refl s1 rv⟩
  · exact p1.elim
variable {W : WX}
theorem Z1u (hK : X.K = K) (hc : FldOk K cs f) (ho : FJ X K (Wt W) o fo) (hv : FJ X K (Wt W) value fv) (hs : swapsWith value (some (.Attribute o (PySem.Str.ofString f) pos')) pos.line X.env = pure false := by rfl) :
    FSJ X K W (.Assign [.Attribute o (PySem.Str.ofString f) pos'] value pos) (sFldS cs f fo fv) := by
  subst hK
  refine Jb (ps_fld ho hv hs) fun D σ H h => ?_
  obtain ⟨ι,ρ,Z,is,p⟩ := h
  refine Z7r is p fun y H1 ι1 Z1 ty g1 i1 r1 p1 => Z7r i1 p1 fun x H2 ι2 Z2 tx g2 i2 r2 p2 => ?_
  split at p2
  · rename_i Z3 e3
    obtain ⟨a,Ca,dx,vs,rfl,ha,hcl,na,hl,g3,s3,_⟩ := Zby hc i2.sim r2 (r1.gr g2) e3
    exact ⟨a,Ca,dx,vs,rfl,ha,hcl,na,hl,p2 ι2 _ _ g3 (i2.gr g3 s3)⟩
  · exact p2.elim
theorem Zbz {op : Operator} {g : T → T → Sto → Option (T × Sto)} (hK : X.K = K) (hc : FldOk K cs f) (ho : FJ X K (Wt W) o fo) (hv : FJ X K (Wt W) value fv) (hop : PIp X op (rF2 K g)) :
    FSJ X K W (.AugAssign (.Attribute o (PySem.Str.ofString f) tpos) op value pos) (sFldA cs f fo fv g) := by
  subst hK
  refine Jb (ps_fldaug (rd := rF2 X.K g) ho hv hop) fun D σ H h => ?_
  obtain ⟨ι,ρ,Z,is,p⟩ := h
  refine Z7r is p fun x H1 ι1 Z1 tx g1 i1 r1 p1 => ?_
  split at p1
  · rename_i t et
    obtain ⟨a,Ca,dx,vs,v,rfl,ha,hcl,na,hv,rv,C1,ic1,nc1⟩ := Zhe hc i1.sim r1 et
    refine ⟨a,Ca,dx,vs,v,rfl,ha,hcl,na,hv,?_⟩
    refine Z7r i1 p1 fun y H2 ι2 Z2 ty g2 i2 r2 p2 => ⟨ι2,Z2,t,ty,i2.sim,rv.gr g2,r2,?_⟩
    refine Vw (W := W) (σ := σ) ((Z3k (rep := Rep X.K) i2 p2).imp fun z H3 q => ?_)
    obtain ⟨ι3,Z3,tz,g3,s3,r3,p3⟩ := q
    split at p3
    · rename_i hic
      split at p3
      · rename_i Z4 e4
        obtain ⟨a', Ca', dx', vs', ea, ha', hcl', na', hl', g4, s4, C2, ic2, nc2⟩ := Zby hc s3 (r1.gr (g2.trans g3)) r3 e4
        cases ea
        rw [hic,ic1] at ic2
        cases ic2
        have e5 := nc1.symm.trans nc2
        cases e5
        exact ⟨dx', vs', ha', hl', p3 ι3 _ _ g4 ((i2.gr g3 s3).gr g4 s4)⟩
      · exact p3.elim
    · exact p3.elim
  · exact p1.elim
end
def methK (C m : String) (x : T) (Z : Sto) (r : Nat → R T) : R T := match x with
  | .loc i => match getI Z i with
    | some (C', fs) => if C' = C ∧ fs.lookup m = none then r i else .stuck
    | none => .stuck
  | _ => .stuck
def eMeth (C m : String) (F : FF) (ds : List T) (fo : FE) (fa : FA) : FE := fun ρ Z => (fo ρ Z).bind fun x Z1 => methK C m x Z1 fun i => (fa ρ Z1).bind fun ts Z2 => F (.loc i :: (ts ++ ds)) Z2
def eMake (C : String) (F : FF) (ds : List T) (fa : FA) : FE := fun ρ Z => (fa ρ Z).bind fun ts Z1 => (F (.loc Z1.length :: (ts ++ ds)) (Z1 ++ [.ins C []])).bind fun r Z2 => match r with
  | .non => .ok (.loc Z1.length) Z2
  | _ => .stuck
section
variable {X : Cx} {K : PySem.W.Frag} {W : Wc} {x : PySem.Str} {m C : String} {p pos apos : Pos} {o e : Expr} {es : List Expr} {fo : FE} {fa : FA} {k n : Nat} {Ca f : Addr} {fd : FuncData} {ps : List PySem.Str} {F : FF} {dvs : List V} {ds : List Value} {dts : List T}
theorem Zeh {ι : List Addr} {H : Hp} {Z : Sto} {v : V} {tx : T} {r : Nat → R T} {P : R T → Prop} (cf : CF K C Ca) (s : Sim K ι Z H) (rv : Rep K ι H v tx)
    (p : P (methK C m tx Z r)) (hP : ¬ P .stuck) : ∃ a dx vs i,v = .ref a ∧ tx = .loc i ∧ H a = some (.ins Ca dx vs) ∧ vs.lookup (PySem.Str.ofString m) = none ∧ P (r i) := by
  unfold methK at p
  cases tx with
  | loc i =>
    simp only at p
    split at p
    · rename_i C' fs eg
      split at p
      · rename_i hC
        obtain ⟨rfl,hm⟩ := hC
        obtain ⟨a,Cb,dx,vs,rfl,hi,hn,ha,hf⟩ := Zeg s rv eg
        have e2 := hn.symm.trans cf.ns
        cases e2
        exact ⟨a,dx,vs,i,rfl,rfl,ha,hf.lookup.2 hm,p⟩
      · exact (hP p).elim
    · exact (hP p).elim
  | _ => exact (hP p).elim
theorem Zt (hK : X.K = K) (cf : CF X.K C Ca) (hm : Meth X.K Ca (PySem.Str.ofString m) f) (G : FnG X.prog X.w X.K X.mg X.base k f fd ps (spF X.K n F)) (hr : Room k X.A) (hG : X.A.guards = some []) (hb : Binds X.K fd ps ds) (hd : Vals dvs ds) (hdf : Dfl K dvs dts) (tk : Takes X W.w)
    (ho : FJ X K W o fo) (ha : FAJ X K W (e :: es) fa) (hn : ofLen (e :: es) fa) (hln : (e :: es).length + dts.length + 1 = n := by rfl) {pl : Sem Bool}
    (hst : starEach (e :: es) X.env = (false,eval e X.env) :: starEach es X.env := by rfl) (hpl : (backTo pos (starEach es X.env)).any (·.1) = false := by rfl)
    (ht : eval (.Call (.Attribute o (PySem.Str.ofString m) apos) (e :: es) [] pos) X.env = (do
      let ov ← eval o X.env
      standAt apos.atName
      let (f,first) ← holding [ov] (getMethod ov (PySem.Str.ofString m) pl)
      callWith pos f first (backTo pos (starEach (e :: es) X.env)) (backToKw pos (keywordEach [] X.env))) := by rfl) :
    FJ X K W (.Call (.Attribute o (PySem.Str.ofString m) apos) (e :: es) [] pos) (eMeth C m F dts fo fa) := by
  subst hK
  refine ⟨fun pins s σ H Q I h => ?_⟩
  obtain ⟨ι,ρ,Z,is,p0⟩ := h
  have t0 : tF X.K W fo σ H (fun v H1 => ∃ ι1 Z1 tx,Gr ι ι1 H H1 ∧ Sim X.K ι1 Z1 H1 ∧ Rep X.K ι1 H1 v tx ∧ Post (Rep X.K) X.K W.w σ ι1 H1 Q (methK C m tx Z1 fun i => (fa ρ Z1).bind fun ts Z2 => F (.loc i :: (ts ++ dts)) Z2)) := ⟨ι,ρ,Z,is,Zi p0⟩
  refine PySem.W.methodCall_KW (pl := pl) (thn (ho.run pins s σ H _ I t0) fun u s1 ⟨v,H1,I1,rx,q⟩ => ?_) ht
  obtain ⟨ι1, Z1, tx, g1, s1', r1, p1⟩ := q
  obtain ⟨a, dx, vs, i, rfl, rfl, ea, l, p2⟩ := Zeh (K := X.K) (P := Post (Rep X.K) X.K W.w σ ι1 H1 Q) cf s1' r1 p1 (fun z => z)
  obtain rfl : u = Value.ref a := rx
  refine getmeth_ok I1 ea cf.cls hm l ?_
  have t : tFA X.K W fa σ H1 (fun ws H2 => spF X.K n F (.ref a :: (ws ++ dvs)) H2 Q (WE W.w σ)) := by
    refine ⟨ι1, ρ, Z1, is.gr g1 s1', ?_⟩
    cases e : fa ρ Z1 with
    | ok ts Z2 =>
      rw [e,Xq] at p2
      refine fun ι2 H2 ws g2 s2 r2 => ?_
      have r3 := r2.append (hdf ι2 H2)
      have rr : Reps X.K ι2 H2 (V.ref a :: (ws ++ dvs)) (.loc i :: (ts ++ dts)) := .cons (r1.gr g2) r3
      refine ⟨?_,ι2,Z2,_,s2,rr,(p2.shift g2).wx fun _ _ _ h => h⟩
      rw [rr.length,List.length_cons,List.length_append,hn _ _ _ _ e]
      exact hln
    | exc y Z2 => rw [e] at p2; exact p2
    | stuck => rw [e] at p2; exact p2
  refine PySem.W.callWith_K (first := [.ref a]) (h₀ := X.base) I1.ok.mod.kin hm.kp (thn (ha.run pos pins s1 σ H1 _ I1 t) fun us s2 ⟨ws,H2,I2,r,q2⟩ => ⟨I2.kIn,?_⟩) hst hpl
  exact Zhw (us := .ref a :: us) (vs := .ref a :: ws) G hr hG hb hd tk I2 (.cons rfl r) q2
theorem Zei (hK : X.K = K) (cf : CF X.K C Ca) (hm : Meth X.K Ca (PySem.Str.ofString m) f) (G : FnG X.prog X.w X.K X.mg X.base k f fd ps (spF X.K n F)) (hr : Room k X.A) (hG : X.A.guards = some []) (hb : Binds X.K fd ps ds) (hd : Vals dvs ds) (hdf : Dfl K dvs dts) (tk : Takes X W.w)
    (ho : FJ X K W o fo) (hln : dts.length + 1 = n := by rfl) {pl : Sem Bool}
    (ht : eval (.Call (.Attribute o (PySem.Str.ofString m) apos) [] [] pos) X.env = (do
      let ov ← eval o X.env
      standAt apos.atName
      let (f,first) ← holding [ov] (getMethod ov (PySem.Str.ofString m) pl)
      callWith pos f first (backTo pos (starEach [] X.env)) (backToKw pos (keywordEach [] X.env))) := by rfl) :
    FJ X K W (.Call (.Attribute o (PySem.Str.ofString m) apos) [] [] pos) (eMeth C m F dts fo aNil) := by
  subst hK
  refine ⟨fun pins s σ H Q I h => ?_⟩
  obtain ⟨ι,ρ,Z,is,p0⟩ := h
  have t0 : tF X.K W fo σ H (fun v H1 => ∃ ι1 Z1 tx,Gr ι ι1 H H1 ∧ Sim X.K ι1 Z1 H1 ∧ Rep X.K ι1 H1 v tx ∧ Post (Rep X.K) X.K W.w σ ι1 H1 Q (methK C m tx Z1 fun i => (aNil ρ Z1).bind fun ts Z2 => F (.loc i :: (ts ++ dts)) Z2)) := ⟨ι,ρ,Z,is,Zi p0⟩
  refine PySem.W.methodCall_KW (pl := pl) (thn (ho.run pins s σ H _ I t0) fun u s1 ⟨v,H1,I1,rx,q⟩ => ?_) ht
  obtain ⟨ι1, Z1, tx, g1, s1', r1, p1⟩ := q
  obtain ⟨a, dx, vs, i, rfl, rfl, ea, l, p2⟩ := Zeh (K := X.K) (P := Post (Rep X.K) X.K W.w σ ι1 H1 Q) cf s1' r1 p1 (fun z => z)
  obtain rfl : u = Value.ref a := rx
  refine getmeth_ok I1 ea cf.cls hm l ?_
  have p3 : Post (Rep X.K) X.K W.w σ ι1 H1 Q (F (.loc i :: ([] ++ dts)) Z1) := p2
  rw [List.nil_append] at p3
  have rr : Reps X.K ι1 H1 (V.ref a :: dvs) (.loc i :: dts) := .cons r1 (hdf ι1 H1)
  exact PySem.W.callWith_K0 (first := [.ref a]) I1.kIn hm.kp (Zhw (us := [.ref a]) (vs := [.ref a]) G hr hG hb hd tk I1 (.cons rfl .nil) ⟨by rw [show [V.ref a] ++ dvs = V.ref a :: dvs from rfl, rr.length, List.length_cons]; exact hln, ι1, Z1, _, s1', rr, p3.wx fun _ _ _ h => h⟩)
theorem Zjd {pins : List (Addr × Obj)} {σ : L2.St} {H : Hp} {s : Shared} {Q : VK} {us : List Value} {vs : List V} {sp : Sp} (M : Mk X.K Ca f) (G : FnG X.prog X.w X.K X.mg X.base k f fd ps sp) (hr : Room (k + 1) X.A) (hG : X.A.guards = some []) (hb : Binds X.K fd ps ds) (hd : Vals dvs ds) (tk : Takes X W.w)
    (I : Inv X pins σ H s) (r : Vals vs us)
    (h : ∀ a dx,H a = none → H dx = none → dx ≠ a → sp (.ref a :: (vs ++ dvs)) (upd (upd H dx (.own a)) a (.ins Ca dx [])) (fun v H2 => v = .non ∧ Q (.ref a) H2) (WE W.w σ)) :
    wpAny (model X.prog X.w) X.A (call (.ref Ca) us) (EP X pins σ Q) X.xe s := by
  have n1 := I.hok.fresh (Nat.le_succ s.heap.objs.size)
  have n0 := I.hok.fresh (Nat.le_refl s.heap.objs.size)
  have q0 := h _ _ n1 n0 (Nat.ne_of_lt (Nat.lt_succ_self _))
  have J := Inv.made (C := Ca) I
  have rr : Vals (V.ref (s.heap.objs.size + 1) :: (vs ++ dvs)) (Value.ref (s.heap.objs.size + 1) :: (us ++ ds)) := .cons rfl (r.append hd)
  have hl : (Value.ref (s.heap.objs.size + 1) :: us ++ ds).length = ps.length := (rr.length.symm.trans (G.len _ _ _ _ q0))
  have body := G.run (X.A.under (.builtin "type.__call__" ⟨.ref Ca :: us, []⟩)) X.stack _ _ ⟨Value.ref (s.heap.objs.size + 1) :: us, []⟩ _ _ _ _
    (hr.make Ca us []) hG (J.env0.make Ca us []) (hb _ (Value.ref (s.heap.objs.size + 1) :: us) J.kIn hl) rr q0
  refine wpAny_call (make_map (f := f) I.kIn M.makes M.init (beq_iff_eq.mp M.fn) (codeAny_mono body fun z s' hz => ?_))
  cases z with
  | error e => exact passAt tk σ pins _ _ e s' J hz
  | ok fl =>
    cases fl with
    | ret u =>
      obtain ⟨v, H', I3, rv, ev, q3⟩ := J.after hz
      subst ev
      exact ⟨rv, V.ref (s.heap.objs.size + 1), H', I3, rfl, q3⟩
    | next => exact hz.elim
    | brk => exact hz.elim
    | cont => exact hz.elim
theorem Zge {ι : List Addr} {H : Hp} {Z : Sto} {a dx : Addr} (cf : CF K C Ca) (s : Sim K ι Z H) (na : H a = none) (nd : H dx = none) (ne : dx ≠ a) :
    Gr ι (ι ++ [a]) H (upd (upd H dx (.own a)) a (.ins Ca dx [])) ∧ Sim K (ι ++ [a]) (Z ++ [.ins C []]) (upd (upd H dx (.own a)) a (.ins Ca dx [])) := by
  have g1 : Gr ι ι H (upd H dx (.own a)) := Gr.new0 nd
  have s1 := s.same (Jz (o := .own a) nd)
  have na2 : upd H dx (.own a) a = none := by rw [upd_ne (Ne.symm ne)]; exact na
  exact ⟨g1.trans (Gr.new na2),s1.new na2 ⟨Ca,dx,[],cf.ns,upd_same,.nil⟩⟩
theorem made_post {ι : List Addr} {H : Hp} {Z : Sto} {Q : VK} {σ : L2.St} {a : Addr} {ts : List T} (s : Sim K ι Z H) {H2 : Hp} (g2 : Gr ι (ι ++ [a]) H H2)
    (p : Post (Rep K) K W.w σ ι H Q ((F ts (Z ++ [.ins C []])).bind fun r Z2 => match r with | .non => .ok (.loc Z.length) Z2 | _ => .stuck)) : Post (Rep K) K W.w σ (ι ++ [a]) H2 (fun v H3 => v = .non ∧ Q (.ref a) H3) (F ts (Z ++ [.ins C []])) := by
  cases e : F ts (Z ++ [.ins C []]) with
  | ok t Z2 =>
    rw [e,Xq] at p
    intro ι3 H3 v g3 s3 r3
    cases t with
    | non =>
      cases r3
      have hi : (ι ++ [a])[Z.length]? = some a := by rw [← s.len]; simp
      exact ⟨rfl,p ι3 H3 (.ref a) (g2.trans g3) s3 (.loc (g3.pre _ _ hi))⟩
    | _ => exact p.elim
  | exc x Z2 => rw [e] at p; exact fun ι3 H3 cls d g3 s3 rx => p ι3 H3 cls d (g2.trans g3) s3 rx
  | stuck => rw [e] at p; exact p
theorem Zej (hK : X.K = K) (cf : CF X.K C Ca) (M : Mk X.K Ca f) (G : FnG X.prog X.w X.K X.mg X.base k f fd ps (spF X.K n F)) (hr : Room (k + 1) X.A) (hG : X.A.guards = some []) (hg : Gl X x) (hm : X.mg x = some (.ref Ca)) (hb : Binds X.K fd ps ds) (hd : Vals dvs ds) (hdf : Dfl K dvs dts) (tk : Takes X W.w)
    (ha : FAJ X K W (e :: es) fa) (hn : ofLen (e :: es) fa) (hln : (e :: es).length + dts.length + 1 = n := by rfl) (hdb : (x == ("__debug__" : PySem.Str)) = false := by decide) (he : starEach (e :: es) X.env = (false, eval e X.env) :: starEach es X.env := by rfl) (hpl : (backTo pos (starEach es X.env)).any (·.1) = false := by rfl) :
    FJ X K W (.Call (.Name x p) (e :: es) [] pos) (eMake C F dts fa) := by
  subst hK
  refine ⟨fun pins s σ H Q I h => ?_⟩
  refine wpAny_Call_Name_kw (ld_glob I hg hm ?_ hdb)
  obtain ⟨ι,ρ,Z,is,p⟩ := h
  have t : tFA X.K W fa σ H (fun vs H1 => ∀ a dx,H1 a = none → H1 dx = none → dx ≠ a → spF X.K n F (.ref a :: (vs ++ dvs)) (upd (upd H1 dx (.own a)) a (.ins Ca dx [])) (fun v H2 => v = .non ∧ Q (.ref a) H2) (WE W.w σ)) := by
    refine ⟨ι,ρ,Z,is,?_⟩
    unfold eMake at p
    cases e : fa ρ Z with
    | ok ts Z1 =>
      rw [e,Xq] at p
      refine fun ι1 H1 vs g1 s1 r1 a dx na nd ne => ?_
      obtain ⟨g2,s2⟩ := Zge cf s1 na nd ne
      have hi : (ι1 ++ [a])[Z1.length]? = some a := by rw [← s1.len]; simp
      have r2 : Reps X.K (ι1 ++ [a]) (upd (upd H1 dx (.own a)) a (.ins Ca dx [])) (V.ref a :: (vs ++ dvs)) (.loc Z1.length :: (ts ++ dts)) := .cons (.loc hi) ((r1.gr g2).append (hdf _ _))
      refine ⟨?_,_,_,_,s2,r2,(made_post s1 g2 (p.shift g1)).wx fun _ _ _ h => h⟩
      rw [r2.length,List.length_cons,List.length_append,hn _ _ _ _ e]
      exact hln
    | exc y Z1 => rw [e] at p; exact p
    | stuck => rw [e] at p; exact p
  refine PySem.W.callWith_K (h₀ := X.base) I.ok.mod.kin M.kp (thn (ha.run pos pins s σ H _ I t) fun us s1 ⟨vs,H1,I1,r,q⟩ => ⟨I1.kIn,?_⟩) he hpl
  exact Zjd M G hr hG hb hd tk I1 r q
end
end Fx
set_option maxHeartbeats 4000000
namespace Fx
open PySem PySem.Spec PyProof.Rows L2 SX Ap
variable [Tb]
section
variable {X : Cx} {K : PySem.W.Frag} {W : WX} {cs : List String} {f : String} {o : Expr} {pos : Pos} {fo : FE}
def gFldV (K : PySem.W.Frag) (ta : TE) (f : PySem.Str) : TG := fun y σ H Q => ta σ H fun x H2 => ∃ a C dx fs,x = .ref a ∧ H2 a = some (.ins C dx fs) ∧ Cls K C ∧ NoAttr K C f ∧ fs.length < 1000 ∧ Q σ (upd H2 a (.ins C dx (putF f y fs)))
theorem Zje {f : PySem.Str} {ta : TE} (ha : PE X o ta) (he : ∀ v,assign (.Attribute o f pos) X.env v = (do
    let ov ← holding [v] (eval o X.env)
    standAt pos.atName
    holding [v,ov] (setAttr ov f v)
    release [v,ov] []) := by intro _; rfl) : PG X (.Attribute o f pos) (gFldV X.K ta f) := by
  refine ⟨fun pins s σ H v u Q I r h => ?_⟩
  rw [he]
  refine wpAny_bind (wpAny_holding (thn (ha.run pins s σ H _ I h) fun ov s2 ⟨x,H2,I2,rx,a,C,dx,fs,ex,ea,c,n,l,q2⟩ => ?_))
  subst ex
  obtain rfl : ov = Value.ref a := rx
  refine wpAny_bind (wpAny_standAt (wpAny_bind (wpAny_holding (setattr_ok I2 ea c n l r fun s3 I3 => ?_))))
  exact wpAny_release ⟨σ,_,I3,q2⟩
theorem Zao (hK : X.K = K) (hc : FldOk K cs f) (ho : FJ X K (Wt W) o fo) (he : ∀ v,assign (.Attribute o (PySem.Str.ofString f) pos) X.env v = (do
    let ov ← holding [v] (eval o X.env)
    standAt pos.atName
    holding [v,ov] (setAttr ov (PySem.Str.ofString f) v)
    release [v,ov] []) := by intro _; rfl) : PG X (.Attribute o (PySem.Str.ofString f) pos) (tG K W (gFld cs f fo)) := by
  subst hK
  refine Zcl (Zje ho he) fun v σ H Q h => ?_
  obtain ⟨ι,ρ,Z,t,is,r,p⟩ := h
  refine ⟨ι,ρ,Z,is.ie,(Zi (rep := Rep X.K) p).imp fun x H1 q => ?_⟩
  obtain ⟨ι1,Z1,tx,g1,s1,r1,p1⟩ := q
  split at p1
  · rename_i Z2 e2
    obtain ⟨a,Ca,dx,vs,ex,ea,c,n,l,g2,s2,_⟩ := Zby hc s1 r1 (r.gr g1) e2
    refine ⟨a,Ca,dx,vs,ex,ea,c,n,l,?_⟩
    have i2 := (is.gr g1 s1).gr g2 s2
    exact p1 ι1 _ _ g2 s2 ⟨i2.len,i2.env⟩
  · exact p1.elim
end
end Fx
set_option maxHeartbeats 4000000
namespace Fx
open PySem PySem.Spec PyProof.Rows L2 SX Ap
variable [Tb]
end Fx
set_option maxHeartbeats 4000000
namespace Fx
open PySem PySem.Spec PyProof.Rows L2 SX Ap
variable [Tb]
end Fx
set_option maxHeartbeats 4000000
namespace Fx
open PySem PySem.Spec PyProof.Rows L2 SX Ap
variable [Tb]
structure LamP (sc scope : Scope) (N : List PySem.Str) (dn : Option (PySem.Str × Int)) : Prop where
  kind : scope.kind = .function
  co : scope.isCoroutine = false
  gen : scope.isGenerator = false
  own : ∀ y ∈ scope.names,y.2 ≠ .cell
  loc : ∀ y ∈ scope.names,y.2 = .local → y.1 ∉ N
  free : ∀ y ∈ scope.names,y.2 = .free → sc.names.lookup y.1 = some .cell ∨ sc.names.lookup y.1 = some .free
  par : ∀ y i,dn = some (y,i) → scope.names.lookup y = some .local
theorem LamP.has {X : Cx} {scope : Scope} {N : List PySem.Str} {dn : Option (PySem.Str × Int)} (L : LamP X.env.scope scope N dn) (ok : X.Ok) : ∀ y ∈ scope.names,y.2 = .free → ∃ c,X.env.cells.lookup y.1 = some c := fun y hy e => by
  rcases L.free y hy e with k | k
  · exact ok.has _ (.inl k)
  · exact ok.has _ (.inr k)
open Classical in
noncomputable def eAsk (fl : Sto → R T) (lv : T) (i : Nat) : FE := fun ρ Z => if ρ[i]? = some (some lv) then fl Z else .stuck
def eLam (F : (Sto → R T) → T → FF) (fb : FE) (fa : FA) : FE := fun ρ Z => (fa ρ Z).bind fun ts Z1 => F (fun Z' => fb ρ Z') .non (.non :: ts) Z1
end Fx
set_option maxHeartbeats 4000000
namespace Ap
open PySem PySem.Spec PyProof.Rows L2 SX
end Ap
set_option maxHeartbeats 4000000
namespace Fx
open PySem PySem.Spec PyProof.Rows L2 SX Ap
variable [Tb]
def kdGet (l : List (List Nat × List Nat)) : T → Option (List Nat)
  | .str k => l.lookup k
  | _ => none
def eKdIx (l : List (List Nat × List Nat)) (fe : FE) : FE := fun ρ Z => (fe ρ Z).bind fun x Z1 => match kdGet l x with
  | some v => .ok (.str v) Z1
  | none => .stuck
def iKdItems (l : List (List Nat × List Nat)) : FI := fun _ Z => .ok (itSeq (l.map fun x => .tup [.str x.1,.str x.2])) Z
def eCallN (F : FF) (g : List T → List T → List T) (fa fk : FA) : FE := fun ρ Z => (fa ρ Z).bind fun ts Z1 => (fk ρ Z1).bind fun us Z2 => F (g ts us) Z2
def pick {α : Type} (ix : List Nat) (l : List α) : List α := ix.filterMap fun i => l[i]?
end Fx
set_option maxHeartbeats 4000000
namespace Fx
open PySem PySem.Spec PyProof.Rows L2 SX Ap
variable [Tb]
theorem Zi2 {P : Program} {w : World} {K : PySem.W.Frag} {mg mb : PySem.Str → Option Value} {k : Nat} {fa a : Addr} {cs : List (Addr × Addr)}
    {fd : FuncData} {x : PySem.Str} {sp : Sp} {s₁ : Shared} {vs : List Value} {ns : List Int}
    (KX : K.In s₁.heap) (hns : s₁.heap.Ns mainGlobals mg) (hb : s₁.heap.Ns builtinsNs mb)
    (hbb : ∀ x : PySem.Str, x ≠ "__name__" → mb x = bootBuiltins x) (hlim : s₁.heap.NoLimit) (hg : s₁.gens = #[])
    (hT : ∀ p ∈ cs,s₁.heap.get? p.2 = some { cls := .none,data := .fields #[] }) (nT : ∀ p ∈ cs,K.lookup p.2 = none) (C : ∀ p ∈ cs,PySem.W.CodeHd s₁.heap p.1 p.2)
    (hbm : ∃ (bm : Addr) (ob : Obj), mg "__builtins__" = some (.ref bm) ∧ bm ≠ builtinsNs ∧ s₁.heap.get? bm = some ob ∧ ob.cls = .type "module" ∧ ob.dict = some builtinsNs ∧ ob.data = .plain)
    (ha : s₁.heap.get? a = some { cls := .type "list", data := .seq vs.toArray }) (hi : IntsAre vs ns) (hl : ns.length ≤ sizeLine)
    (hr : Room k callerA)
    (F : ∀ base : Heap,K.In base → base.Ns mainGlobals mg → (∀ p ∈ cs,LamX.TabB base mg p.1 p.2) → GOk P w K mg base CX0 k fa fd [x] sp)
    (hbind : ∀ (s : Shared) (u : Value),BindsTo s fd ⟨[u],[]⟩ [(x,u)])
    (hsp : ∀ H : Hp,(∀ p ∈ cs,H p.2 = some (.tbl #[])) → Fx.FrL K H a (ns.map V.int) → sp [.ref a] H (fun v _ => v = .bl true) fun _ _ _ => False) :
    codeAny (model P w) callerA (.call (.ref fa) ⟨[.ref a],[]⟩)
      (fun r s' => r = .ok (.ret (.bool true)) ∧ OldK s₁.heap s'.heap ∧ s'.os = s₁.os ∧ AllBare s'.gens) s₁ := by
  have rv := vals_ints hi
  have lenV := hi.length
  have tabAt : ∀ {b : Addr},b ∈ cs.map (·.2) → s₁.heap.get? b = some { cls := .none,data := .fields #[] } := fun {b} hb => by
    obtain ⟨p,hp,rfl⟩ := List.mem_map.mp hb
    exact hT p hp
  have aNo : a ∉ cs.map (·.2) := fun z => by
    have q := tabAt z
    rw [ha] at q
    have := congrArg Obj.data (Option.some.inj q)
    cases this
  have inT : ∀ p ∈ cs,p.2 ∈ cs.map (·.2) := fun p hp => List.mem_map.mpr ⟨p,hp,rfl⟩
  suffices core : ∀ H : Hp,(∀ p ∈ cs,H p.2 = some (.tbl #[])) → Fx.FrL K H a (ns.map V.int) → HOk P w H s₁.heap →
      (∀ b u,H b = some u → (b = a ∧ K.lookup a = none ∧ ∃ o xs,u = .frz o (.lst xs)) ∨ (b ∈ cs.map (·.2) ∧ u = .tbl #[])) →
      codeAny (model P w) callerA (.call (.ref fa) ⟨[.ref a],[]⟩)
        (fun r s' => r = .ok (.ret (.bool true)) ∧ OldK s₁.heap s'.heap ∧ s'.os = s₁.os ∧ AllBare s'.gens) s₁ by
    cases hk : K.lookup a with
    | some o =>
      have e := KX a o hk
      rw [ha] at e
      cases e
      have at0 : ∀ b u,(fun b => if b ∈ cs.map (·.2) then some (.tbl #[]) else none : Hp) b = some u → b ∈ cs.map (·.2) ∧ u = .tbl #[] := by
        intro b u z
        dsimp only at z
        split at z
        · cases z; exact ⟨by assumption,rfl⟩
        · cases z
      refine core (fun b => if b ∈ cs.map (·.2) then some (.tbl #[]) else none) (fun p hp => if_pos (inT p hp)) (.inr ⟨_,vs.toArray,_,hk,rfl,rfl,rfl,?_,?_⟩) ?_ ?_
      · rw [List.size_toArray,lenV]; exact hl
      · simpa using rv
      · intro b u z
        obtain ⟨h1,rfl⟩ := at0 b u z
        exact tabAt h1
      · intro b u z
        exact .inr (at0 b u z)
    | none =>
      let o0 : HO := .frz { cls := .type "list", data := .seq vs.toArray } (.lst (ns.map V.int))
      have at0 : ∀ b u,(fun b => if b = a then some o0 else if b ∈ cs.map (·.2) then some (.tbl #[]) else none : Hp) b = some u → (b = a ∧ u = o0) ∨ (b ∈ cs.map (·.2) ∧ u = .tbl #[]) := by
        intro b u z
        dsimp only at z
        split at z
        · cases z; exact .inl ⟨by assumption,rfl⟩
        · split at z
          · cases z; exact .inr ⟨by assumption,rfl⟩
          · cases z
      refine core (fun b => if b = a then some o0 else if b ∈ cs.map (·.2) then some (.tbl #[]) else none) (fun p hp => ?_) (.inl ⟨{ cls := .type "list", data := .seq vs.toArray }, if_pos rfl⟩) ?_ ?_
      · show (if p.2 = a then some o0 else if p.2 ∈ cs.map (·.2) then some (HO.tbl #[]) else none) = _
        rw [if_neg (fun z => aNo (by rw [← z]; exact inT p hp)),if_pos (inT p hp)]
      · intro b u z
        rcases at0 b u z with ⟨rfl,rfl⟩ | ⟨h1,rfl⟩
        · exact ⟨ha,by rw [List.length_map]; exact hl,vs,_,rv,ha⟩
        · exact tabAt h1
      · intro b u z
        rcases at0 b u z with ⟨rfl,rfl⟩ | h1
        · exact .inl ⟨rfl,hk,_,_,rfl⟩
        · exact .inr h1
  intro H hH hS hok hA
  have free : ∀ {b : Addr},(∀ u,H b ≠ some u) → H b = none := fun {b} z => by
    cases q : H b with
    | none => rfl
    | some u => exact absurd q (z u)
  have noD : ∀ {b : Addr} {o : Obj},s₁.heap.get? b = some o → (∀ vs n,o.data ≠ .seq vs n) → o.data ≠ .fields #[] → H b = none := fun {b o} e h1 h2 => by
    apply free
    intro u q
    rcases hA b u q with ⟨rfl,_⟩ | ⟨h3,_⟩
    · rw [ha] at e
      cases e
      exact h1 _ _ rfl
    · rw [tabAt h3] at e
      cases e
      exact h2 rfl
  have dictFree : ∀ {b : Addr} {o : Obj} {es : Array DictEntry} {ep : Nat},s₁.heap.get? b = some o → o.data = .dict es ep → H b = none := fun e d =>
    noD e (fun vs n z => by rw [d] at z; cases z) (fun z => by rw [d] at z; cases z)
  have nsOf : ∀ {b : Addr} {m : PySem.Str → Option Value},s₁.heap.Ns b m → (hidT s₁.heap H).Ns b m := by
    intro b m ⟨o,es,ep,e,d,r⟩
    exact ⟨o,es,ep,hidT_get e (dictFree e d),d,r⟩
  have inB : K.In (hidT s₁.heap H) := by
    intro b o e
    refine hidT_get (KX b o e) (free ?_)
    intro u q
    rcases hA b u q with ⟨rfl,n,_⟩ | ⟨h3,_⟩
    · rw [n] at e
      cases e
    · obtain ⟨p,hp,rfl⟩ := List.mem_map.mp h3
      rw [nT p hp] at e
      cases e
  obtain ⟨mc,c1,c2⟩ := hlim
  have M : Mod K mg (hidT s₁.heap H) := ⟨inB,nsOf hns,⟨mb,nsOf hb,hbb⟩,⟨mc,nsOf c1,c2⟩⟩
  have e0 : Env0 P w K mg (hidT s₁.heap H) callerA [] s₁ H :=
    ⟨rfl,M,fun _ _ e => of_hidT e,Nat.le_of_eq (hidT_size _ _),trivial,fun b z => absurd (show b ∈ ([] : List Addr) from z) (by simp),hok,.of_eq hg⟩
  have TB : ∀ p ∈ cs,LamX.TabB (hidT s₁.heap H) mg p.1 p.2 := fun p hp => by
    have hTp := hT p hp
    refine ⟨?_,?_,fun z => ?_⟩
    · obtain ⟨o,us,file,tf,flags,tg,inF,text,tt,e1,r1,r2,r3,r⟩ := C p hp
      refine ⟨o,us,file,tf,flags,tg,inF,text,tt,hidT_get e1 (noD e1 (fun vs n z => ?_) fun z => ?_),r1,r2,r3,r⟩
      · rw [r2] at z; cases z
      · rw [r2] at z; cases z; simp at r3
    · obtain ⟨bm,ob,b1,b2,b3,b4,b5,b6⟩ := hbm
      have nG : bm ≠ mainGlobals := fun q => by
        obtain ⟨o,es,ep,e,hd,_⟩ := hns
        rw [q,e] at b3; cases b3; rw [hd] at b6; cases b6
      have nP : bm ≠ p.2 := fun q => by
        rw [q,hTp] at b3; cases b3; cases b6
      exact ⟨bm,ob,b1,b2,nG,nP,hidT_get b3 (noD b3 (fun vs n z => by rw [b6] at z; cases z) fun z => by rw [b6] at z; cases z),b4,b5,b6⟩
    · obtain ⟨o,es,ep,e,hd,_⟩ := hns
      rw [z,hTp] at e; cases e; cases hd
  have run := (F _ inB (nsOf hns) TB).run callerA [] s₁ H ⟨[.ref a],[]⟩ [.ref a] [.ref a] _ _ hr rfl e0 (hbind s₁ (.ref a)) (.cons rfl .nil) (hsp H hH hS)
  refine codeAny_mono run ?_
  intro r s' h
  match r,h with
  | .error e,h => exact False.elim h
  | .ok .next,h => exact False.elim h
  | .ok .brk,h => exact False.elim h
  | .ok .cont,h => exact False.elim h
  | .ok (.ret u), ⟨v, H', os, bare, un, hok', r', q⟩ =>
    cases (show v = .bl true from q)
    cases (show u = Value.bool true from r')
    have key : ∀ b o, b ∉ cs.map (·.2) → s₁.heap.get? b = some o → s'.heap.get? b = some o := fun b o nb e => by
      cases q : H b with
      | none => exact un.keep b o e q (fun z => absurd (show b ∈ ([] : List Addr) from z) (by simp)) (by simp)
      | some u =>
        rcases hA b u q with ⟨rfl,_,ob,xs,rfl⟩ | ⟨h3,_⟩
        · obtain ⟨e1,_⟩ := hok _ _ q
          obtain ⟨e2, _⟩ := hok' _ _ (un.frzs _ ob _ q)
          rw [e] at e1
          cases e1
          exact e2
        · exact absurd h3 nb
    have grown : ∀ p ∈ cs, ∃ more : Array Value, s'.heap.get? p.2 = some { cls := .none, data := .fields more } := fun p hp => by
      obtain ⟨more,z⟩ := un.tbls p.2 #[] (hH p hp)
      exact ⟨_, hok' p.2 _ z⟩
    refine ⟨rfl,⟨fun b o e => ?_,fun b o e => ?_⟩,os,bare⟩
    · by_cases hb : b ∈ cs.map (·.2)
      · obtain ⟨p,hp,rfl⟩ := List.mem_map.mp hb
        obtain ⟨more,hm⟩ := grown p hp
        rw [hT p hp] at e
        cases e
        exact .inr (.inl ⟨((C p hp).tab (hT p hp)).isCodeTable,rfl,#[],more,rfl,by rw [Array.empty_append]; exact hm⟩)
      · exact .inl (key b o hb e)
    · by_cases hb : b ∈ cs.map (·.2)
      · obtain ⟨p,hp,rfl⟩ := List.mem_map.mp hb
        obtain ⟨more,hm⟩ := grown p hp
        exact ⟨_,hm⟩
      · exact ⟨o,key b o hb e⟩
end Fx
namespace Fx
open PySem PySem.Spec PyProof.Rows L2 SX Ap
end Fx
set_option maxHeartbeats 4000000
namespace Fx
open PySem PySem.Spec PyProof.Rows L2 SX Ap
structure DefY where
  at_ : PySem.W.Frag → Addr
  name : PySem.Str
  qual : PySem.Str
  params : Arguments
  body : List Stmt
  scope : Scope
  dfl : List He.Dv := []
  kwd : List (PySem.Str × He.Dv) := []
def fnY (K : PySem.W.Frag) (a : Addr) : He.FnW := match K.lookup a with
  | some ⟨_,_,.func fd,_⟩ => some (fd.name,fd.qualname,fd.params,fd.body,fd.scope,fd.globals,fd.closure,fd.builtins)
  | _ => none
def fdOf (K : PySem.W.Frag) (a : Addr) : FuncData := match K.lookup a with
  | some ⟨_,_,.func fd,_⟩ => fd
  | _ => default
def DefY.val (d : DefY) : He.FnW := some (d.name,d.qual,d.params,.stmts d.body,d.scope,mainGlobals,[],builtinsNs)
def DefY.dvs (K : PySem.W.Frag) (d : DefY) : List V := d.dfl.map (He.Dv.v K)
def DefY.kws (K : PySem.W.Frag) (d : DefY) : List (PySem.Str × V) := d.kwd.map fun q => (q.1,q.2.v K)
def DefY.ok (K : PySem.W.Frag) (d : DefY) : Bool := PySem.W.keepIn K (.ref (d.at_ K)) && (match K.lookup (d.at_ K) with
  | some ⟨_,_,.func fd,_⟩ => PySem.W.codeIn K fd.code d.qual && (He.dflB K fd.defaults (d.dvs K) && He.kwdB K fd.kwdefaults (d.kws K))
  | _ => false)
theorem DefY.funD {K : PySem.W.Frag} {d : DefY} (e : fnY K (d.at_ K) = d.val) (c : d.ok K = true) : FunD K d.name d.qual d.params d.body d.scope (d.dvs K) (d.kws K) (d.at_ K) (fdOf K (d.at_ K)) := by
  obtain ⟨kp,c2⟩ := He.ba c
  unfold fnY at e
  unfold fdOf
  cases q : K.lookup (d.at_ K) with
  | none => rw [q] at c2; cases c2
  | some o =>
    obtain ⟨oc,od,dt,osl⟩ := o
    rw [q] at c2 e
    cases dt with
    | func fd =>
      obtain ⟨n1,n2,n3,n4,n5,n6,n7,n8,n9,n10,n11,n12,n13,n14,n15⟩ := fd
      have e2 : (some (n1,n2,n3,n4,n5,n6,n7,n15) : He.FnW) = some (d.name,d.qual,d.params,.stmts d.body,d.scope,mainGlobals,[],builtinsNs) := e
      simp only [Option.some.injEq,Prod.mk.injEq] at e2
      obtain ⟨h1,h2,h3,h4,h5,h6,h7,h8⟩ := e2
      subst h1 h2 h3 h4 h5 h6 h7 h8
      have c3 : (PySem.W.codeIn K n13 d.qual && (He.dflB K n8 (d.dvs K) && He.kwdB K n9 (d.kws K))) = true := c2
      obtain ⟨k1,k2⟩ := He.ba c3
      obtain ⟨k3,k4⟩ := He.ba k2
      exact ⟨⟨oc,od,n8,n9,n10,n11,n12,n13,n14,osl,rfl,q,k1,He.dflB_ok k3,He.kwdB_ok k4⟩,kp⟩
    | _ => cases c2
def asY (g : Addr → Option Obj) : Nat → List Addr
  | 0 => [mainGlobals,cStatics]
  | n + 1 => He.growD g (asY g n)
abbrev Exs : Type := List (PySem.W.Frag → Bool)
structure Says (fn : List DefY) (ts : List He.Tab) (ex : Exs) (w : World) (K : PySem.W.Frag) : Prop where
  df : fn.map (fun d => fnY K (d.at_ K)) = fn.map DefY.val
  dk : ts.map (fun t => He.dicW K (t.1 K)) = ts.map fun t => some (He.keysIn w.params t.2)
  ok : ((fn.all fun d => d.ok K) && ex.all fun e => e K) = true
abbrev AlY : Type := List He.FnW × List (Option (List (Option (PySem.Str × Int)))) × Bool
def obsK (fn : List DefY) (ts : List He.Tab) (ex : Exs) (K : PySem.W.Frag) : AlY := (fn.map (fun d => fnY K (d.at_ K)),ts.map (fun t => He.dicW K (t.1 K)),(fn.all fun d => d.ok K) && ex.all fun e => e K)
def valY (fn : List DefY) (ts : List He.Tab) (w : World) : AlY := (fn.map DefY.val,ts.map fun t => some (He.keysIn w.params t.2),true)
def obsY (n : Nat) (fn : List DefY) (ts : List He.Tab) (ex : Exs) (g : Addr → Option Obj) : AlY := obsK fn ts ex (He.frG g (asY g n))
def hookY (n : Nat) (fn : List DefY) (ts : List He.Tab) (ex : Exs) : PySem.W.Hook where
  α := AlY
  obs := fun s => obsY n fn ts ex s.heap.get?
  val := fun w => valY fn ts w
  says := fun w h => ∃ K : PySem.W.Frag,K.In h ∧ Says fn ts ex w K
  of := fun _ _ e => ⟨_,He.frG_in,⟨congrArg (fun z : AlY => z.1) e,congrArg (fun z : AlY => z.2.1) e,congrArg (fun z : AlY => z.2.2) e⟩⟩
  keeps := fun _ _ _ ⟨K,hK,c⟩ k => ⟨K,PySem.W.Frag.In.keeps hK k,c⟩
section
variable {fn : List DefY} {ts : List He.Tab} {ex : Exs} {w : World} {K : PySem.W.Frag}
theorem Says.fact (c : Says fn ts ex w K) (i : Nat) {e : PySem.W.Frag → Bool} (h : ex[i]? = some e := by rfl) : e K = true := by
  have := (He.ba c.ok).2
  exact List.all_eq_true.mp this e (List.mem_of_getElem? h)
theorem Says.def_ (c : Says fn ts ex w K) (i : Nat) {d : DefY} (h : fn[i]? = some d := by rfl) : FunD K d.name d.qual d.params d.body d.scope (d.dvs K) (d.kws K) (d.at_ K) (fdOf K (d.at_ K)) := by
  have h1 := List.all_eq_true.mp (He.ba c.ok).1 d (List.mem_of_getElem? h)
  refine DefY.funD ?_ h1
  have h2 := congrArg (fun l => l[i]?) c.df
  simp only [List.getElem?_map,h,Option.map_some] at h2
  exact Option.some.inj h2
theorem Says.tab (c : Says fn ts ex w K) (i : Nat) {t : He.Tab} (h : ts[i]? = some t := by rfl) : ∃ es n,KDict K w (t.1 K) es n := by
  have h2 := congrArg (fun l => l[i]?) c.dk
  simp only [List.getElem?_map,h,Option.map_some] at h2
  exact He.dicW_ok (Option.some.inj h2)
end
structure Cx5 (fn : List DefY) (ts : List He.Tab) (ex : Exs) (w : World) (K : PySem.W.Frag) (mg : PySem.Str → Option Value) : Prop where
  c : Says fn ts ex w K
  kx : ∃ h : Heap,K.In h ∧ h.Ns mainGlobals mg
section
variable {fn : List DefY} {ts : List He.Tab} {ex : Exs} {w : World} {K : PySem.W.Frag} {mg : PySem.Str → Option Value}
theorem Cx5.glo (C : Cx5 fn ts ex w K mg) (i : Nat) {x : PySem.Str} (h : ex[i]? = some (fun K => (He.Fa.glo x).ok K) := by rfl) : mg x = some (.ref (He.ga K x)) := by
  obtain ⟨h', X, G⟩ := C.kx
  exact He.glo_ok X G (C.c.fact i h)
theorem Cx5.free (C : Cx5 fn ts ex w K mg) (i : Nat) {x : PySem.Str} (h : ex[i]? = some (fun K => (He.Fa.free x).ok K) := by rfl) : mg x = none := by
  obtain ⟨h', X, G⟩ := C.kx
  exact He.free_ok X G (C.c.fact i h)
theorem Cx5.str (C : Cx5 fn ts ex w K mg) (i : Nat) {x z : PySem.Str} (h : ex[i]? = some (fun K => (He.Fa.str x z).ok K) := by rfl) : ∃ t,mg x = some (.str z t) := by
  obtain ⟨h', X, G⟩ := C.kx
  exact He.str_ok X G (C.c.fact i h)
theorem Cx5.int (C : Cx5 fn ts ex w K mg) (i : Nat) {x : PySem.Str} {z : Int} (h : ex[i]? = some (fun K => (He.Fa.int x z).ok K) := by rfl) : ∃ t,mg x = some (.int z t) := by
  obtain ⟨h', X, G⟩ := C.kx
  exact He.int_ok X G (C.c.fact i h)
theorem Cx5.ns (C : Cx5 fn ts ex w K mg) (i : Nat) {x : PySem.Str} (h : ex[i]? = some (fun K => (He.Fa.glo x).ok K) := by rfl) : PySem.W.nsIn K mainGlobals x = some (some (.ref (He.ga K x))) := He.eqO_ok (C.c.fact i h)
end
def tupAt (p : PySem.W.Frag → Addr) (vs : List He.Dv) (K : PySem.W.Frag) : Bool := match K.lookup (p K) with
  | some ⟨.type c, _, .seq its _, _⟩ => decide (c = "tuple") && (decide (its.size ≤ sizeLine) && He.relAll (vs.map (He.Dv.v K)) its.toList)
  | _ => false
theorem Z4b {K : PySem.W.Frag} {p : PySem.W.Frag → Addr} {vs : List He.Dv} (h : tupAt p vs K = true) (H : Hp) : SqT K H (p K) (vs.map (He.Dv.v K)) := by
  unfold tupAt at h
  cases q : K.lookup (p K) with
  | none => rw [q] at h; cases h
  | some o =>
    obtain ⟨oc,od,dt,osl⟩ := o
    rw [q] at h
    cases oc with
    | type c =>
      cases dt with
      | seq its n =>
        obtain ⟨h1, h2⟩ := He.ba (show (decide (c = "tuple") && (decide (its.size ≤ sizeLine) && He.relAll (vs.map (He.Dv.v K)) its.toList)) = true from h)
        obtain ⟨h3,h4⟩ := He.ba h2
        exact .inr ⟨_,its,n,q,congrArg Value.type (of_decide_eq_true h1),rfl,of_decide_eq_true h3,He.relAll_ok h4⟩
      | _ => cases h
    | _ => cases dt <;> cases h
def dflY (f : PySem.W.Frag → Addr) (i : Nat) (K : PySem.W.Frag) : Addr := match K.lookup (f K) with
  | some ⟨_,_,.func fd,_⟩ => (match fd.defaults with
    | .ref T => (match K.lookup T with
      | some ⟨_,_,.seq its _,_⟩ => (match its.toList[i]? with
        | some (.ref a) => a
        | _ => 0)
      | _ => 0)
    | _ => 0)
  | _ => 0
def gY (x : PySem.Str) (K : PySem.W.Frag) : Addr := He.ga K x
def mY (c m : PySem.Str) (K : PySem.W.Frag) : Addr := He.ma K (He.ga K c) m
def oexB (x : PySem.Str) (K : PySem.W.Frag) : Bool := (match K.lookup (He.ga K x) with
  | some ⟨.type t, _, .cls ⟨_, _, .ref C :: bm, _, _, hd, _, _, _, _, hdel⟩, ⟨[_, _, _, _, some (.builtin n), _]⟩⟩ => decide (t = "type") && (decide (C = He.ga K x) && (hd && (!hdel && (decide (n = "ValueError.__new__") && PySem.HandSPX.refsVE bm))))
  | _ => false) && (He.eqO (PySem.W.findIn K (.ref (He.ga K x)) "__setattr__") (some (some (.builtin "object.__setattr__"))) && (decide (PySem.W.subIn K (.ref (He.ga K x)) (.type "BaseException") = some true) && (decide (PySem.W.typeIn K (.ref (He.ga K x)) = some (.type "type")) && PySem.W.keepIn K (.ref (He.ga K x)))))
theorem Zi3 {x : PySem.Str} {K : PySem.W.Frag} (h : oexB x K = true) : OexC K (He.ga K x) := by
  obtain ⟨h0,h⟩ := He.ba h
  obtain ⟨h1,h⟩ := He.ba h
  obtain ⟨h2,h⟩ := He.ba h
  obtain ⟨h3,h4⟩ := He.ba h
  refine ⟨?_,He.eqO_ok h1,of_decide_eq_true h2,of_decide_eq_true h3,h4⟩
  split at h0
  · rename_i t dd nm bs C bm ns qn hd sn sub ab col hdel k0 k1 k2 k3 n k5 e
    obtain ⟨a1,h0⟩ := He.ba h0
    obtain ⟨a2,h0⟩ := He.ba h0
    obtain ⟨a3,h0⟩ := He.ba h0
    obtain ⟨a4,h0⟩ := He.ba h0
    obtain ⟨a5,a6⟩ := He.ba h0
    have b1 := of_decide_eq_true a1
    have b2 := of_decide_eq_true a2
    have b5 := of_decide_eq_true a5
    have b4 : hdel = false := by cases hdel <;> simp_all
    subst b1 b4 b5
    refine ⟨nm,qn,ns,bs,bm,sn,sub,ab,col,dd,k0,k1,k2,k3,k5,?_,a6⟩
    rw [e,b2,a3]
  · cases h0
def exCB (x : PySem.Str) (K : PySem.W.Frag) : Bool := xfB K (He.ga K x) && (He.eqO (PySem.W.findIn K (.ref (He.ga K x)) "__class__") (some (some (.builtin "object.__class__"))) && (He.eqO (PySem.W.specialIn K (.builtin "object.__class__") "__get__") (some (some (.builtin "getset_descriptor.__get__"))) && (decide (PySem.W.takesIn K (.builtin "object.__class__") = some true) && decide (PySem.W.mroIn K (He.ga K x) (.type "object") = some true))))
def baseB (x : PySem.Str) (K : PySem.W.Frag) : Bool := He.eqO (PySem.W.specialIn K (.ref (He.ga K x)) "__getattribute__") (some (some (.builtin "type.__getattribute__"))) && (PySem.W.readsIn K (He.ga K x) (.type "type") && (match PySem.W.findCls K (.ref (He.ga K x)) (.type "type") "__init__" with
  | some (.val (.builtin n)) => decide (n = "ValueError.__init__")
  | _ => false))
theorem Zgf {x : PySem.Str} {K : PySem.W.Frag} (h : baseB x K = true) : BaseC K (He.ga K x) := by
  obtain ⟨h1,h⟩ := He.ba h
  obtain ⟨h2,h3⟩ := He.ba h
  refine ⟨He.eqO_ok h1,h2,?_⟩
  split at h3
  · rename_i n e; rw [e,of_decide_eq_true h3]
  · cases h3
def kitB2 (x : PySem.Str) (v : PySem.W.Frag → Value) (K : PySem.W.Frag) : Bool := decide (PySem.W.kitOne K (.ref (He.ga K x)) (v K) = some true)
def initB (x : PySem.Str) (K : PySem.W.Frag) : Bool := He.eqO (PySem.W.findIn K (.ref (He.ga K x)) "__init__") (some (some (.ref (mY x "__init__" K)))) && decide (PySem.W.typeIn K (.ref (mY x "__init__" K)) = some (.type "function"))
theorem Zgg {x : PySem.Str} {K : PySem.W.Frag} (h : initB x K = true) : PySem.W.findIn K (.ref (He.ga K x)) "__init__" = some (some (.ref (mY x "__init__" K))) ∧ PySem.W.typeIn K (.ref (mY x "__init__" K)) = some (.type "function") := by
  obtain ⟨h1,h2⟩ := He.ba h
  exact ⟨He.eqO_ok h1,of_decide_eq_true h2⟩
def noDigB (K : PySem.W.Frag) : Bool := He.eqO (PySem.W.nsIn K cStatics "sys.int_max_str_digits") (some none)
theorem Zek {K : PySem.W.Frag} (h : noDigB K = true) : NoDig K := He.eqO_ok h
theorem Zi4 (hTb : ∀ T : Tb,T = tb0 → True) {l : PySem.W.OpenLaw} {n k m : Nat} {q : Program} {loose : List PySem.Str} {XP : (PySem.Str → Option Value) → Heap → Prop} {fn : List DefY} {ts : List He.Tab} {ex : Exs} {d : DefRec} {F : FF} {x : PySem.Str}
    (hn : l.most = some n) (hn2 : n ≤ sizeLine) (hdf : d.params.defaults = []) (hr : Room k callerA)
    (hG : ∀ (w : World) (mg : PySem.Str → Option Value) (K : PySem.W.Frag),Cx5 fn ts ex w K mg → ∃ fd : FuncData,mg d.name = some (.ref (He.ga K d.name)) ∧ (∀ (s : Shared) (u : Value),BindsTo s fd ⟨[u],[]⟩ [(x,u)]) ∧
        ∀ base : Heap,FnG l.prog w K mg base k (He.ga K d.name) fd [x] (@spF tb0 K 1 F))
    (hF : ∀ ns : List Int,ns.length ≤ n → ∃ Z,F [.frl (ns.map .int)] [] = .ok (.bl true) Z) :
    PySem.W.WalkO q loose XP (hookY m fn ts ex).says l.row.toRowW d [] (fun f vs => PySem.call f vs) := by
  apply Att.attach_call hn hdf
  intro w s₀ s₁ mg mb fa o pm cd doc a vs ns G Y ho hd hcd hmg hobj hints hlen hg
  obtain ⟨K,KX,c⟩ := Y
  obtain ⟨fd,h0,hb,hf⟩ := hG w mg K ⟨c,_,KX,G.T.g⟩
  have e := hmg.symm.trans h0
  cases e
  letI tb : Tb := tb0
  refine Zi2 (cs := []) (sp := fun vs H Q _ => spF K 1 F vs H Q (fun _ _ _ => False)) KX G.T.g G.T.b G.T.builtins G.T.nolimit hg (fun p hp => by cases hp) (fun p hp => by cases hp) (fun p hp => by cases hp) G.T.bmain hobj hints (Nat.le_trans hlen hn2) hr (fun base b1 b2 b3 => ?_) hb (fun H hH hS => ?_)
  · exact fnG_0 (hf base)
  · obtain ⟨Z,e⟩ := hF ns hlen
    refine ⟨rfl,[],[],[.frl (ns.map .int)],⟨rfl,List.nodup_nil,fun i a o h => by simp at h,fun p hp => by cases hp⟩,.cons (Zhy hS) .nil,?_⟩
    rw [e]
    intro ι' H' b g s r
    cases r
    rfl
end Fx
set_option maxHeartbeats 4000000
set_option maxHeartbeats 0
section
open PySem PySem.W PySem.Calls PyProof.Rows
theorem Ap.pre_law : (OpenLaw.row PySem.Challenge.rw_anchorpages_k28_whole_values_of_quoted_t).Holds → PySem.Challenge.rw_anchorpages_k28_whole_values_of_quoted_t.Holds := by
  intro h
  w_on; o_law
  exact h
end
set_option maxHeartbeats 4000000
namespace Fx
open PySem PySem.Spec PyProof.Rows L2 SX Ap
variable [Tb]
mutual
def T.mv (f : Nat → Option Nat) : T → Option T
  | .non => some .non
  | .bl b => some (.bl b)
  | .int i => some (.int i)
  | .str l => some (.str l)
  | .tup ts => (T.mvs f ts).map .tup
  | .loc i => (f i).map .loc
  | .frl ts => (T.mvs f ts).map .frl
  | .ref a => some (.ref a)
  | .ty n => some (.ty n)
  | .lam _ _ _ _ => none
  | .ktp ts => (T.mvs f ts).map .ktp
def T.mvs (f : Nat → Option Nat) : List T → Option (List T)
  | [] => some []
  | t :: ts => match T.mv f t,T.mvs f ts with
    | some u,some us => some (u :: us)
    | _,_ => none
end
def mvP {κ : Type} (f : Nat → Option Nat) : List (κ × T) → Option (List (κ × T))
  | [] => some []
  | (k,t) :: ts => match T.mv f t,mvP f ts with
    | some u,some us => some ((k,u) :: us)
    | _,_ => none
def O.mv (f : Nat → Option Nat) : O → Option O
  | .lst ts => (T.mvs f ts).map .lst
  | .dk ts => (mvP f ts).map .dk
  | .dt ts => (mvP f ts).map .dt
  | .ins C ts => (mvP f ts).map (.ins C)
section
variable {K : PySem.W.Frag} {ι ι' : List Addr} {H : Hp} {f : Nat → Option Nat}
mutual
theorem Rep.mv (hf : ∀ i j a, f i = some j → ι[i]? = some a → ι'[j]? = some a) : ∀ {v : V} {t t' : T}, Rep K ι H v t → T.mv f t = some t' → Rep K ι' H v t'
  | _,_,_,.non,e => by cases e; exact .non
  | _,_,_,.bl b,e => by cases e; exact .bl b
  | _,_,_,.int i,e => by cases e; exact .int i
  | _,_,_,.str l,e => by cases e; exact .str l
  | _,_,_,.tup h r,e => by
    simp only [T.mv] at e
    obtain ⟨us,e1,rfl⟩ := Option.map_eq_some_iff.mp e
    exact .tup h (Reps.mv hf r e1)
  | _,_,_,.loc h,e => by
    simp only [T.mv] at e
    obtain ⟨j,e1,rfl⟩ := Option.map_eq_some_iff.mp e
    exact .loc (hf _ _ _ e1 h)
  | _,_,_,.frl h r,e => by
    simp only [T.mv] at e
    obtain ⟨us,e1,rfl⟩ := Option.map_eq_some_iff.mp e
    exact .frl h (Reps.mv hf r e1)
  | _,_,_,.ref a,e => by cases e; exact .ref a
  | _,_,_,.ty n,e => by cases e; exact .ty n
  | _,_,_,.lam _ _,e => by cases e
  | _,_,_,.ktp h r,e => by
    simp only [T.mv] at e
    obtain ⟨us,e1,rfl⟩ := Option.map_eq_some_iff.mp e
    exact .ktp h (Reps.mv hf r e1)
theorem Reps.mv (hf : ∀ i j a, f i = some j → ι[i]? = some a → ι'[j]? = some a) : ∀ {vs : List V} {ts ts' : List T}, Reps K ι H vs ts → T.mvs f ts = some ts' → Reps K ι' H vs ts'
  | _,_,_,.nil,e => by cases e; exact .nil
  | _,_,_,.cons r q,e => by
    simp only [T.mvs] at e
    split at e
    · rename_i u us e1 e2
      cases e
      exact .cons (Rep.mv hf r e1) (Reps.mv hf q e2)
    · cases e
end
theorem RepP.mv {κ : Type} (hf : ∀ i j a, f i = some j → ι[i]? = some a → ι'[j]? = some a) : ∀ {vs : List (κ × V)} {ts ts' : List (κ × T)}, RepP K ι H vs ts → mvP f ts = some ts' → RepP K ι' H vs ts'
  | _,_,_,.nil,e => by cases e; exact .nil
  | _,_,_,.cons r q,e => by
    simp only [mvP] at e
    split at e
    · rename_i u us e1 e2
      cases e
      exact .cons (Rep.mv hf r e1) (RepP.mv hf q e2)
    · cases e
theorem RepF.mv (hf : ∀ i j a, f i = some j → ι[i]? = some a → ι'[j]? = some a) : ∀ {vs : List (PySem.Str × V)} {ts ts' : List (String × T)}, RepF K ι H vs ts → mvP f ts = some ts' → RepF K ι' H vs ts'
  | _,_,_,.nil,e => by cases e; exact .nil
  | _,_,_,.cons r q,e => by
    simp only [mvP] at e
    split at e
    · rename_i u us e1 e2
      cases e
      exact .cons (Rep.mv hf r e1) (RepF.mv hf q e2)
    · cases e
theorem ObR.mv (hf : ∀ i j a, f i = some j → ι[i]? = some a → ι'[j]? = some a) {a : Addr} {o o' : O} (h : ObR K ι H a o) (e : O.mv f o = some o') : ObR K ι' H a o' := by
  cases o with
  | lst ts =>
    obtain ⟨us,e1,rfl⟩ := Option.map_eq_some_iff.mp e
    obtain ⟨vs,h,r⟩ := h
    exact ⟨vs,h,r.mv hf e1⟩
  | dk ts =>
    obtain ⟨us,e1,rfl⟩ := Option.map_eq_some_iff.mp e
    obtain ⟨vs,h,r⟩ := h
    exact ⟨vs,h,r.mv hf e1⟩
  | dt ts =>
    obtain ⟨us,e1,rfl⟩ := Option.map_eq_some_iff.mp e
    obtain ⟨vs,h,r⟩ := h
    exact ⟨vs,h,r.mv hf e1⟩
  | ins C ts =>
    obtain ⟨us,e1,rfl⟩ := Option.map_eq_some_iff.mp e
    obtain ⟨Ca,dx,vs,hn,h,r⟩ := h
    exact ⟨Ca,dx,vs,hn,h,r.mv hf e1⟩
end
section
variable {K : PySem.W.Frag} {n : Nat} {F : FF}
theorem Zel {ι ι1 : List Addr} {H H1 : Hp} {Y Y' : Sto} (g : Gr ι ι1 H H1) (s : Sim K ι Y H) (s1 : Sim K ι1 Y' H1) : Y.length ≤ Y'.length := by
  rw [← s.len,← s1.len]
  cases h : ι.length with
  | zero => omega
  | succ m =>
    have hm : m < ι.length := by omega
    have := g.pre m _ (List.getElem?_eq_getElem hm)
    have := (List.getElem?_eq_some_iff.mp this).1
    omega
end
end Fx
set_option maxHeartbeats 4000000
namespace Fx
open PySem PySem.Spec PyProof.Rows L2 SX Ap
variable [Tb]
def gLeW : T → T → Sto → Option (T × Sto)
  | .int i,.int j,Z => some (.bl (decide (i ≤ j)),Z)
  | .str a,.str b,Z => some (.bl (!decide (b < a)),Z)
  | _,_,_ => none
def gGtW : T → T → Sto → Option (T × Sto)
  | .int i,.int j,Z => some (.bl (decide (j < i)),Z)
  | .str a,.str b,Z => some (.bl (decide (b < a)),Z)
  | _,_,_ => none
def gGeW : T → T → Sto → Option (T × Sto)
  | .int i,.int j,Z => some (.bl (decide (j ≤ i)),Z)
  | .str a,.str b,Z => some (.bl (!decide (a < b)),Z)
  | _,_,_ => none
section
variable {X : Cx} {K : PySem.W.Frag}
theorem Z6t : OpF X K (compareOp .LtE) gLeW := by
  refine W3 (Q4 op_le op_le_str) fun x y H Q h => ?_
  obtain ⟨ι,Z,tx,ty,s,rx,ry,p⟩ := h
  unfold gLeW at p
  split at p
  · cases rx; cases ry; exact .inl ⟨_,_,rfl,rfl,Y6 p s (.bl _)⟩
  · cases rx; cases ry; exact .inr ⟨_,_,rfl,rfl,Y6 p s (.bl _)⟩
  · exact p.elim
theorem Zgh : OpF X K (compareOp .Gt) gGtW := by
  refine W3 (Q4 op_gt op_gt_str) fun x y H Q h => ?_
  obtain ⟨ι,Z,tx,ty,s,rx,ry,p⟩ := h
  unfold gGtW at p
  split at p
  · cases rx; cases ry; exact .inl ⟨_,_,rfl,rfl,Y6 p s (.bl _)⟩
  · cases rx; cases ry; exact .inr ⟨_,_,rfl,rfl,Y6 p s (.bl _)⟩
  · exact p.elim
theorem Zjf : OpF X K (compareOp .GtE) gGeW := by
  refine W3 (Q4 op_ge op_ge_str) fun x y H Q h => ?_
  obtain ⟨ι,Z,tx,ty,s,rx,ry,p⟩ := h
  unfold gGeW at p
  split at p
  · cases rx; cases ry; exact .inl ⟨_,_,rfl,rfl,Y6 p s (.bl _)⟩
  · cases rx; cases ry; exact .inr ⟨_,_,rfl,rfl,Y6 p s (.bl _)⟩
  · exact p.elim
end
def gExtend : T → List T → Sto → Option (T × Sto)
  | .loc n,[.loc m],Z => match getL Z n,getL Z m with
    | some ts,some us => if ts.length + us.length ≤ Lim then some (.non,Z.set n (.lst (ts ++ us))) else none
    | _,_ => none
  | _,_,_ => none
def gFind2 : T → List T → Sto → Option (T × Sto)
  | .str a,[.str b],Z => some (.int (Txt.find (S a) (S b)),Z)
  | .str a,[.str b,.int i],Z => some (.int (Txt.find3 (S a) (S b) i),Z)
  | _,_,_ => none
theorem MtM.r {X : Cx} {id : String} {r : V → List V → Hp → VK → Prop} (h : MtM X id r) : MtR X id r := h
section
variable {X : Cx} {K : PySem.W.Frag}
theorem m_extend : MtR X "list.extend" (rFM K gExtend) := Z9d (MtM.r mt_extend) fun x xs H Q h => by
  obtain ⟨ι,Z,tx,ts,s,rx,rs,p⟩ := h
  unfold gExtend at p
  split at p
  · obtain ⟨y,rfl,ry⟩ := rs.one
    split at p
    · rename_i us ws e1 e2
      split at p
      · rename_i hl
        obtain ⟨a,vs,rfl,ha,h1,r⟩ := Jd s (Ve e1) rx
        obtain ⟨b,zs,rfl,hb,h2,r2⟩ := Jd s (Ve e2) ry
        refine ⟨a,b,vs,zs,rfl,rfl,h1,h2,by rw [r.length,r2.length]; exact Nat.le_trans hl Zak,?_⟩
        have g := Gr.mut (ι := ι) (o := .lst (vs ++ zs)) h1 trivial (List.mem_of_getElem? ha)
        exact p ι _ _ g (s.set ha ⟨_,upd_same,(r.gr g).append (r2.gr g)⟩) .non
      · exact p.elim
    · exact p.elim
  · exact p.elim
theorem Zi5 : MtR X "str.find" (rFM K gFind2) := by
  have h2 : MtR X "str.find" (fun x xs H Q => (∃ a b, x = .str a ∧ xs = [.str b] ∧ Q (.int (Txt.find a b)) H) ∨ ∃ (a b : Str) (i : Int), x = .str a ∧ xs = [.str b, .int i] ∧ Q (.int (Txt.find3 a b i)) H) := by
    intro pins s σ H x xs v us Q I rx rs h
    rcases h with h | h
    · exact mt_find pins s σ H x xs v us Q I rx rs h
    · exact mt_find3 pins s σ H x xs v us Q I rx rs h
  refine Z9d h2 fun x xs H Q h => ?_
  obtain ⟨ι,Z,tx,ts,s,rx,rs,p⟩ := h
  unfold gFind2 at p
  split at p
  · obtain ⟨y,rfl,ry⟩ := rs.one
    cases rx; cases ry
    exact .inl ⟨_,_,rfl,rfl,Y6 p s (.int _)⟩
  · obtain ⟨y,z,rfl,ry,rz⟩ := rs.two
    cases rx; cases ry; cases rz
    exact .inr ⟨_,_,_,rfl,rfl,Y6 p s (.int _)⟩
  · exact p.elim
end
def keyT : T → Option Key
  | .int i => some (.inl i)
  | .str l => some (.inr (S l))
  | _ => none
def keyEq : Key → Key → Bool
  | .inl i,.inl j => i == j
  | .inr a,.inr b => a.cps.toList == b.cps.toList
  | _,_ => false
theorem Z10 (a b : Key) : keyEq a b = decide (a = b) := by
  cases a with
  | inl i => cases b with
    | inl j => by_cases h : i = j <;> simp [keyEq,h]
    | inr y => simp [keyEq]
  | inr x => cases b with
    | inl j => simp [keyEq]
    | inr y =>
      have : (x = y) ↔ x.cps.toList = y.cps.toList := ⟨fun h => by rw [h],fun h => by
        rw [← Zhz x,← Zhz y,h]⟩
      by_cases h : x.cps.toList = y.cps.toList
      · simp [keyEq,h,this.mpr h]
      · have h2 : ¬ x = y := fun z => h (this.mp z)
        have e1 : (x.cps.toList == y.cps.toList) = false := by simpa using h
        show (x.cps.toList == y.cps.toList) = _
        rw [e1,decide_eq_false (fun z => h2 (Sum.inr.inj z))]
def getK : List (Key × T) → Key → Option T
  | [],_ => none
  | (k,t) :: r,x => if keyEq k x = true then some t else getK r x
def hasK (kvs : List (Key × T)) (x : Key) : Bool := kvs.any fun p => keyEq p.1 x
def putKT (kvs : List (Key × T)) (x : Key) (y : T) : List (Key × T) := if hasK kvs x = true then kvs.map (fun p => if keyEq p.1 x = true then (p.1,y) else p) else kvs ++ [(x,y)]
def getDK (Z : Sto) (i : Nat) : Option (List (Key × T)) := match Z[i]? with
  | some (.dk kvs) => some kvs
  | _ => none
theorem Zgi {Z : Sto} {i : Nat} {kvs : List (Key × T)} (h : getDK Z i = some kvs) : Z[i]? = some (.dk kvs) := by
  unfold getDK at h
  split at h
  · rename_i e; cases h; exact e
  · cases h
section
variable {K : PySem.W.Frag} {ι : List Addr} {H : Hp} {Z : Sto}
theorem Zcp {v : V} {t : T} {k : Key} (r : Rep K ι H v t) (e : keyT t = some k) : v = kV k := by
  cases r <;> first | (cases e; rfl) | (cases e)
theorem Zem : ∀ {vs : List (Key × V)} {ts : List (Key × T)} {k : Key},RepP K ι H vs ts → match getK ts k with
    | some t => ∃ v,valV vs k = some v ∧ Rep K ι H v t
    | none => valV vs k = none
  | _,_,k,.nil => rfl
  | _,_,k,.cons (k := k0) (v := v) (vs := vs) (t := t) (ts := ts) r q => by
    by_cases h : k0 = k
    · have e : keyEq k0 k = true := by rw [Z10]; exact decide_eq_true h
      simp only [getK,e,if_true]
      exact ⟨v,valV_pos (p := (k0,v)) h,r⟩
    · have e : keyEq k0 k = false := by rw [Z10]; exact decide_eq_false h
      have e2 : valV ((k0,v) :: vs) k = valV vs k := valV_neg (p := (k0,v)) h
      simp only [getK,e,Bool.false_eq_true,if_false,e2]
      exact Zem q
theorem Zhf : ∀ {vs : List (Key × V)} {ts : List (Key × T)} {k : Key},RepP K ι H vs ts → (vs.any fun kv => decide (kv.1 = k)) = hasK ts k
  | _,_,k,.nil => rfl
  | _,_,k,.cons r q => by
    simp only [hasK,List.any_cons,Z10]
    congr 1
    have := Zhf (k := k) q
    simpa only [hasK,Z10] using this
theorem Zen {k : Key} {y : V} {t : T} (ry : Rep K ι H y t) : ∀ {vs : List (Key × V)} {ts : List (Key × T)},RepP K ι H vs ts → RepP K ι H (vs.map fun kv => if kv.1 = k then (kv.1,y) else kv) (ts.map fun p => if keyEq p.1 k = true then (p.1,t) else p)
  | _,_,.nil => .nil
  | _,_,.cons (k := k0) r q => by
    simp only [List.map_cons,Z10]
    by_cases h : k0 = k
    · simp only [h,if_true,decide_true]
      have := Zen ry q (k := k)
      simp only [Z10] at this
      exact .cons ry this
    · simp only [h,if_false,decide_false,Bool.false_eq_true]
      have := Zen ry q (k := k)
      simp only [Z10] at this
      exact .cons r this
theorem app_ok {k : Key} {y : V} {t : T} (ry : Rep K ι H y t) : ∀ {vs : List (Key × V)} {ts : List (Key × T)},RepP K ι H vs ts → RepP K ι H (vs ++ [(k,y)]) (ts ++ [(k,t)])
  | _,_,.nil => .cons ry .nil
  | _,_,.cons r q => .cons r (app_ok ry q)
theorem Zjg {vs : List (Key × V)} {ts : List (Key × T)} {k : Key} {y : V} {t : T} (r : RepP K ι H vs ts) (ry : Rep K ι H y t) : RepP K ι H (putK vs k y) (putKT ts k t) := by
  unfold putK putKT
  rw [Zhf r]
  split
  · exact Zen ry r
  · exact app_ok ry r
theorem Z6i {i : Nat} {v : V} {kvs : List (Key × T)} (s : Sim K ι Z H) (r : Rep K ι H v (.loc i)) (e : getDK Z i = some kvs) : ∃ a vs,v = .ref a ∧ ι[i]? = some a ∧ H a = some (.dK vs) ∧ RepP K ι H vs kvs := by
  cases r with
  | loc h =>
    obtain ⟨a', h1, vs, h2, h3⟩ := s.at (Zgi e)
    rw [h] at h1; cases h1
    exact ⟨_,vs,rfl,h,h2,h3⟩
end
def gInW (x y : T) (Z : Sto) : Option (T × Sto) := match y with
  | .loc i => (match getDK Z i with
    | some kvs => (keyT x).map fun k => (.bl (getK kvs k).isSome,Z)
    | none => gIn x y Z)
  | _ => gIn x y Z
def gNotInW (x y : T) (Z : Sto) : Option (T × Sto) := match y with
  | .loc i => (match getDK Z i with
    | some kvs => (keyT x).map fun k => (.bl (!(getK kvs k).isSome),Z)
    | none => gNotIn x y Z)
  | _ => gNotIn x y Z
def gIxW (x y : T) (Z : Sto) : Option (T × Sto) := match x with
  | .loc i => (match getDK Z i with
    | some kvs => (match keyT y with
      | some k => (getK kvs k).map fun t => (t,Z)
      | none => none)
    | none => gIx x y Z)
  | _ => gIx x y Z
section
variable {X : Cx} {K : PySem.W.Frag}
theorem Zcq {ι : List Addr} {H : Hp} {vs : List (Key × V)} {ts : List (Key × T)} {k : Key} (r : RepP K ι H vs ts) : (valV vs k).isSome = (getK ts k).isSome := by
  have := Zem (k := k) r
  cases e : getK ts k with
  | none => rw [e] at this; rw [this]; rfl
  | some t => rw [e] at this; obtain ⟨v,h,_⟩ := this; rw [h]; rfl
theorem Zjh (hu : X.A.units + 1 < cLine) : OpR X (compareOp .In) (fun x y H Q => ∃ a o,y = .ref a ∧ DGet H a x o ∧ Q (.bl o.isSome) H) := by
  intro pins s σ H x y v u Q I rx ry h
  obtain ⟨a,o,rfl,g,q⟩ := h
  cases ry
  exact d_in hu I g rx fun s3 I3 => ⟨.bl o.isSome,H,I3,rfl,q⟩
theorem Zeo (hu : X.A.units + 1 < cLine) : OpR X (compareOp .NotIn) (fun x y H Q => ∃ a o,y = .ref a ∧ DGet H a x o ∧ Q (.bl (!o.isSome)) H) := by
  intro pins s σ H x y v u Q I rx ry h
  obtain ⟨a,o,rfl,g,q⟩ := h
  cases ry
  exact d_notIn hu I g rx fun s3 I3 => ⟨.bl (!o.isSome),H,I3,rfl,q⟩
theorem Z6b (hu : X.A.units + 64 < cLine) (hK : X.K = K) : OpF X K (compareOp .In) gInW := by
  have h0 := o_in hK
  subst hK
  refine W3 (Q4 h0 (Zjh (by omega))) fun x y H Q h => ?_
  obtain ⟨ι,Z,tx,ty,s,rx,ry,p⟩ := h
  unfold gInW at p
  split at p
  · split at p
    · rename_i i kvs e
      cases ek : keyT tx with
      | none => rw [ek] at p; exact p.elim
      | some k =>
        rw [ek,Option.map_some] at p
        obtain ⟨a,vs,rfl,_,h1,r⟩ := Z6i s ry e
        have := Zcp rx ek
        subst this
        exact .inr ⟨a,valV vs k,rfl,DGet.k h1,by rw [Zcq r]; exact Y6 p s (.bl _)⟩
    · exact .inl ⟨ι,Z,tx,_,s,rx,ry,p⟩
  · exact .inl ⟨ι,Z,tx,ty,s,rx,ry,p⟩
theorem Z6j (hu : X.A.units + 64 < cLine) (hK : X.K = K) : OpF X K (compareOp .NotIn) gNotInW := by
  have h0 := Zhr hK
  subst hK
  refine W3 (Q4 h0 (Zeo (by omega))) fun x y H Q h => ?_
  obtain ⟨ι,Z,tx,ty,s,rx,ry,p⟩ := h
  unfold gNotInW at p
  split at p
  · split at p
    · rename_i i kvs e
      cases ek : keyT tx with
      | none => rw [ek] at p; exact p.elim
      | some k =>
        rw [ek,Option.map_some] at p
        obtain ⟨a,vs,rfl,_,h1,r⟩ := Z6i s ry e
        have := Zcp rx ek
        subst this
        exact .inr ⟨a,valV vs k,rfl,DGet.k h1,by rw [Zcq r]; exact Y6 p s (.bl _)⟩
    · exact .inl ⟨ι,Z,tx,_,s,rx,ry,p⟩
  · exact .inl ⟨ι,Z,tx,ty,s,rx,ry,p⟩
theorem Zi6 (hu : X.A.units + 1 < cLine) : IxR X (fun x y H Q => ∃ a v,x = .ref a ∧ DGet H a y (some v) ∧ Q v H) := by
  intro value slice pins s σ H x y v u Q I rx ry h hs
  obtain ⟨a,r,rfl,g,q⟩ := h
  cases rx
  exact tail_any (dict_typeIs I g) slot_dict_getitem.lookup (d_getItem hu I g ry fun w' s3 I3 rw' => ⟨r, H, I3, rw', q⟩) hs
theorem Vk (hu : X.A.units + 64 < cLine) (hK : X.K = K) : IxR X (rF2 K gIxW) := by
  have h0 := i_ix hK
  subst hK
  refine Ze4 (IxR.or h0 (Zi6 (by omega))) fun x y H Q h => ?_
  obtain ⟨ι,Z,tx,ty,s,rx,ry,p⟩ := h
  unfold gIxW at p
  split at p
  · split at p
    · rename_i i kvs e
      cases ek : keyT ty with
      | none => rw [ek] at p; exact p.elim
      | some k =>
        rw [ek] at p
        cases eg : getK kvs k with
        | none => simp only [eg] at p; exact p.elim
        | some t =>
          simp only [eg,Option.map_some] at p
          obtain ⟨a,vs,rfl,_,h1,r⟩ := Z6i s rx e
          have := Zcp ry ek
          subst this
          have hv := Zem (k := k) r
          rw [eg] at hv
          obtain ⟨v,hv,rv⟩ := hv
          exact .inr ⟨a,v,rfl,hv ▸ DGet.k h1,Y6 p s rv⟩
    · exact .inl ⟨ι,Z,_,ty,s,rx,ry,p⟩
  · exact .inl ⟨ι,Z,tx,ty,s,rx,ry,p⟩
end
def gSetW (x y t : T) (Z : Sto) : Option Sto := match x with
  | .loc i => (match getDK Z i with
    | some kvs => (match keyT y with
      | some k => if kvs.length < Lim then some (Z.set i (.dk (putKT kvs k t))) else none
      | none => none)
    | none => gSetL x y t Z)
  | _ => gSetL x y t Z
def gSubsW (fo fi : FE) : FG := fun t ρ Z => (fo ρ Z).bind fun x Z1 => (fi ρ Z1).bind fun y Z2 => match gSetW x y t Z2 with
  | some Z3 => .ok ρ Z3
  | none => .stuck
section
variable {X : Cx} {K : PySem.W.Frag} {W : WX} {o e : Expr} {pos : Pos} {fo fi : FE}
theorem Zji {t t' : TSet} (h : PSet X t) (h' : PSet X t') : PSet X (fun o i v H Q => t o i v H Q ∨ t' o i v H Q) := fun pins s σ H o i v ov iv u Q I ro ri rv q => q.elim (h pins s σ H o i v ov iv u Q I ro ri rv) (h' pins s σ H o i v ov iv u Q I ro ri rv)
theorem Zi7 {ι : List Addr} {H : Hp} {Z Z3 : Sto} {x y v : V} {tx ty t : T} {Q : Hp → Prop} (s : Sim K ι Z H) (rx : Rep K ι H x tx) (ry : Rep K ι H y ty) (r : Rep K ι H v t) (e : gSetW tx ty t Z = some Z3) (q : ∀ H', Gr ι ι H H' → Sim K ι Z3 H' → Q H') : rSetL x y v H Q ∨ rSetD x y v H Q := by
  unfold gSetW at e
  split at e
  · split at e
    · rename_i i kvs eg
      split at e
      · rename_i k ek
        split at e
        · rename_i hz
          cases e
          obtain ⟨a,vs,rfl,hi,h1,rk⟩ := Z6i s rx eg
          have := Zcp ry ek
          subst this
          have g := Gr.mut (ι := ι) (o := .dK (putK vs k v)) h1 trivial (List.mem_of_getElem? hi)
          refine .inr ⟨a,_,rfl,DPut.k h1 (by rw [rk.length]; exact Nat.lt_of_lt_of_le hz Zak),q _ g (s.set hi ⟨_,upd_same,Zjg (rk.gr g) (r.gr g)⟩)⟩
        · cases e
      · cases e
    · exact .inl (Ze8 s rx ry r e q)
  · exact .inl (Ze8 s rx ry r e q)
theorem Zc0 (hu : X.A.units + 64 < cLine) (ho : FJ X K (Wt W) o fo) (hi : FJ X K (Wt W) e fi)
    (ha : ∀ v,assign (.Subscript o e pos) X.env v = (do
      let ov ← holding [v] (eval o X.env)
      let iv ← holding [v,ov] (eval e X.env)
      standAt pos
      holding [v,ov,iv] (setItem ov iv v)
      release [v,ov,iv] []) := by intro _; rfl) : PG X (.Subscript o e pos) (tG K W (gSubsW fo fi)) := Zcl (pg_sub ho hi (Zji set_list (set_dict (by omega))) ha) fun v σ H Q h => by
  obtain ⟨ι,ρ,Z,t,is,r,p⟩ := h
  refine ⟨ι,ρ,Z,is.ie,(Zi (rep := Rep K) p).imp fun x H1 q => ?_⟩
  obtain ⟨ι1,Z1,tx,g1,s1,r1,p1⟩ := q
  refine ⟨ι1,ρ,Z1,(is.gr g1 s1).ie,(Zi (rep := Rep K) p1).imp fun y H2 q2 => ?_⟩
  obtain ⟨ι2,Z2,ty,g2,s2,r2,p2⟩ := q2
  split at p2
  · rename_i Z3 e3
    exact Zi7 s2 (r1.gr g2) r2 ((r.gr g1).gr g2) e3 fun H3 g3 s3 => p2 ι2 H3 σ g3 s3 ⟨is.len,((is.env.gr g1).gr g2).gr g3⟩
  · exact p2.elim
end
inductive RepQ (K : PySem.W.Frag) (ι : List Addr) (H : Hp) : List (V × V) → List (T × T) → Prop
  | nil : RepQ K ι H [] []
  | cons {v w : V} {vs : List (V × V)} {t u : T} {ts : List (T × T)} : Rep K ι H v t → Rep K ι H w u → RepQ K ι H vs ts → RepQ K ι H ((v,w) :: vs) ((t,u) :: ts)
theorem RepQ.gr {K : PySem.W.Frag} {ι ι' : List Addr} {H H' : Hp} (g : Gr ι ι' H H') : ∀ {vs : List (V × V)} {ts : List (T × T)}, RepQ K ι H vs ts → RepQ K ι' H' vs ts
  | _,_,.nil => .nil
  | _,_,.cons a b r => .cons (a.gr g) (b.gr g) (r.gr g)
end Fx
set_option maxHeartbeats 4000000
namespace Fx
open PySem PySem.Spec PyProof.Rows L2 SX Ap
variable [Tb]
theorem Reps.pick {K : PySem.W.Frag} {ι : List Addr} {H : Hp} {vs : List V} {ts : List T} (r : Reps K ι H vs ts) : ∀ js : List Nat,Reps K ι H (js.filterMap (vs[·]?)) (js.filterMap (ts[·]?))
  | [] => .nil
  | j :: js => by
    cases e : ts[j]? with
    | none =>
      have e2 : vs[j]? = none := by rw [List.getElem?_eq_none_iff] at e ⊢; rw [r.length]; exact e
      rw [List.filterMap_cons,List.filterMap_cons,e,e2]
      exact Reps.pick r js
    | some t =>
      obtain ⟨v,e2,rv⟩ := r.get e
      rw [List.filterMap_cons,List.filterMap_cons,e,e2]
      exact .cons rv (Reps.pick r js)
def dvT : He.Dv → Option T
  | .non => some .non
  | .bl b => some (.bl b)
  | .int i => some (.int i)
  | .str x => some (.str x.cps.toList)
  | _ => none
def GDk (K : PySem.W.Frag) (w : World) (mg : PySem.Str → Option Value) (x : PySem.Str) (l : List (List Nat × T)) : Prop :=
  ∃ a es n,mg x = some (.ref a) ∧ KDict K w a es n ∧ (∀ q ∈ l,∃ u v,PySem.W.nsIn K a (S q.1) = some (some u) ∧ RelV v u ∧ ∀ ι H,Rep K ι H v q.2) ∧ ∀ z,z ∉ l.map (·.1) → PySem.W.nsIn K a (S z) = some none
def dkB (x : PySem.Str) (l : List (List Nat × He.Dv)) (K : PySem.W.Frag) : Bool := (He.Fa.glo x).ok K && (He.valsB K (He.ga K x) (l.map fun q => (S q.1,q.2)) && decide (He.dicW K (He.ga K x) ≠ none) && (match K.lookup (He.ga K x) with
  | some ⟨_,_,.dict es _,_⟩ => es.toList.all fun e => match e.key with | .str y _ => (l.map (·.1)).any fun z => decide (y = S z) | _ => false
  | _ => false))
theorem Zjj {K : PySem.W.Frag} {d : He.Dv} {t : T} (e : dvT d = some t) (ι : List Addr) (H : Hp) : Rep K ι H (d.v K) t := by
  cases d <;> first | (cases e; done) | skip
  · cases e; exact .non
  · cases e; exact .bl _
  · cases e; exact .int _
  · rename_i x
    cases e
    show Rep K ι H (.str x) (.str x.cps.toList)
    have : V.str x = V.str (S x.cps.toList) := by rw [Zhz]
    rw [this]
    exact .str _
theorem Zep {fn : List DefY} {ts : List He.Tab} {ex : Exs} {w : World} {K : PySem.W.Frag} {mg : PySem.Str → Option Value} (C : Cx5 fn ts ex w K mg) {x : PySem.Str} {l : List (List Nat × He.Dv)} {lt : List (List Nat × T)} (i j : Nat) (h : ex[i]? = some (dkB x l) := by rfl)
    {ks : List PySem.Str} (ht : ts[j]? = some (fun K => He.ga K x,ks) := by rfl) (hl : l.map (fun q => (dvT q.2).map fun t => (q.1,t)) = lt.map some := by rfl) : GDk K w mg x lt := by
  have h1 := C.c.fact i h
  obtain ⟨a1,a2⟩ := He.ba h1
  obtain ⟨a2,a3⟩ := He.ba a2
  obtain ⟨a2,_⟩ := He.ba a2
  obtain ⟨es,n,D⟩ := C.c.tab j ht
  obtain ⟨h', X, G⟩ := C.kx
  refine ⟨He.ga K x,es,n,He.glo_ok X G a1,D,fun q hq => ?_,fun z hz => ?_⟩
  · obtain ⟨k,hk⟩ := List.mem_iff_getElem?.mp hq
    have e1 := congrArg (fun m => m[k]?) hl
    simp only [List.getElem?_map,hk,Option.map_some] at e1
    cases e2 : l[k]? with
    | none => rw [e2] at e1; cases e1
    | some r =>
      rw [e2] at e1
      have e3 := Option.some.inj e1
      obtain ⟨t,e4,e5⟩ := Option.map_eq_some_iff.mp e3
      have hm : (S r.1,r.2) ∈ l.map fun q => (S q.1,q.2) := List.mem_map.mpr ⟨r,List.mem_of_getElem? e2,rfl⟩
      obtain ⟨u,e6,e7⟩ := He.valsB_ok a2 hm
      refine ⟨u,r.2.v K,?_,e7,fun ι H => ?_⟩
      · rw [← e5]; exact e6
      · rw [← e5]; exact Zjj e4 ι H
  · have hlk : l.map (·.1) = lt.map (·.1) := by
      have : ∀ (l : List (List Nat × He.Dv)) (lt : List (List Nat × T)),l.map (fun q => (dvT q.2).map fun t => (q.1,t)) = lt.map some → l.map (·.1) = lt.map (·.1) := by
        intro l
        induction l with
        | nil => intro lt h; cases lt with
          | nil => rfl
          | cons _ _ => cases h
        | cons q l ih =>
          intro lt h
          cases lt with
          | nil => cases h
          | cons p lt =>
            rw [List.map_cons,List.map_cons,List.cons.injEq] at h
            obtain ⟨t,e1,e2⟩ := Option.map_eq_some_iff.mp h.1
            rw [List.map_cons,List.map_cons,ih lt h.2,← e2]
      exact this l lt hl
    rw [D.at_] at a3
    simp only at a3
    have key : ∀ e ∈ es.toList,e.key.isStr (S z) = false := fun e he => by
      have := List.all_eq_true.mp a3 e he
      split at this
      · rename_i y t ey
        obtain ⟨z', hz', ez⟩ := List.any_eq_true.mp this
        have ey' := of_decide_eq_true ez
        rw [ey]
        show (y == S z) = false
        rw [ey', S_beq_eq]
        refine decide_eq_false fun e => hz ?_
        rw [← hlk, ← e]; exact hz'
      · cases this
    have noref : es.toList.any (·.refKey) = false := by
      rw [List.any_eq_false]
      intro e he hr
      have := List.all_eq_true.mp a3 e he
      split at this
      · rename_i y t ey
        unfold DictEntry.refKey at hr
        rw [ey] at hr
        simp at hr
      · cases this
    unfold PySem.W.nsIn
    rw [D.at_]
    simp only
    have : es.toList.find? (fun e => e.key.isStr (S z)) = none := by
      rw [List.find?_eq_none]
      intro e he
      simp [key e he]
    rw [this]
    simp only [noref,Bool.false_eq_true,if_false]
def kdT (l : List (List Nat × T)) : T → Option T
  | .str z => (l.find? fun q => q.1 == z).map (·.2)
  | _ => none
def kdHas (l : List (List Nat × T)) : T → Option Bool
  | .str z => some (l.any fun q => q.1 == z)
  | _ => none
def eKdI (l : List (List Nat × T)) (fe : FE) : FE := fun ρ Z => (fe ρ Z).bind fun x Z1 => match kdT l x with
  | some t => .ok t Z1
  | none => .stuck
section
variable {X : Cx} {K : PySem.W.Frag} {W : Wc} {x : PySem.Str} {b : Expr} {fb : FE} {pos p : Pos} {l : List (List Nat × T)}
theorem Zjk {a : Addr} {es : Array DictEntry} {n : Nat} {w : World} {ι : List Addr} {H : Hp} {v : V} {t t' : T} (D : KDict K w a es n) (hv : ∀ q ∈ l, ∃ u v, PySem.W.nsIn K a (S q.1) = some (some u) ∧ RelV v u ∧ ∀ ι H, Rep K ι H v q.2) (r : Rep K ι H v t) (e : kdT l t = some t') :
    ∃ z v', v = .str z ∧ KDct K w a z v' ∧ ∀ ι H, Rep K ι H v' t' := by
  cases r with
  | str z =>
    obtain ⟨q,hq,rfl⟩ := Option.map_eq_some_iff.mp e
    have hm := List.mem_of_find?_eq_some hq
    have hz := List.find?_some hq
    have hz' : q.1 = z := by simpa using hz
    obtain ⟨u, v', e1, e2, e3⟩ := hv q hm
    exact ⟨S z, v', rfl, ⟨es, n, u, D.at_, D.lit, by rw [← hz']; exact e1, e2⟩, e3⟩
  | _ => cases e
theorem Zeq (hK : X.K = K) (hg : Gl X x) (hm : GDk X.K X.w X.mg x l) (hb : FJ X K W b fb) (hs : PlainIx b) (hdb : (x == ("__debug__" : PySem.Str)) = false := by decide) : FJ X K W (.Subscript (.Name x p) b pos) (eKdI l fb) := by
  subst hK
  obtain ⟨a,es,n,hx,D,hv,_⟩ := hm
  refine Vt (pe_ix ix_kdict (pe_glob (v := .ref a) hg hx rfl hdb) hb hs) fun σ H Q h => ?_
  obtain ⟨ι,ρ,Z,is,q⟩ := h
  show tF X.K W fb σ H _
  refine ⟨ι,ρ,Z,is,(Zi q).imp fun y H1 q1 => ?_⟩
  obtain ⟨ι1,Z1,ty,g1,s1,r1,p1⟩ := q1
  split at p1
  · rename_i t e
    obtain ⟨z, v', rfl, hd, hr⟩ := Zjk D hv r1 e
    exact ⟨a, z, v', rfl, rfl, hd, p1 ι1 H1 v' Gr.refl s1 (hr _ _)⟩
  · exact p1.elim
theorem kd_in {a : Addr} {ι : List Addr} {H : Hp} {v : V} {t : T} {c : Bool} (hv : ∀ q ∈ l,∃ u v,PySem.W.nsIn K a (S q.1) = some (some u) ∧ RelV v u ∧ ∀ ι H,Rep K ι H v q.2) (hn : ∀ z,z ∉ l.map (·.1) → PySem.W.nsIn K a (S z) = some none) (r : Rep K ι H v t) (e : kdHas l t = some c) :
    ∃ z o,v = .str z ∧ PySem.W.nsIn K a z = some o ∧ o.isSome = c := by
  cases r with
  | str z =>
    have e' := Option.some.inj e
    cases c with
    | true =>
      obtain ⟨q, hq, hz⟩ := List.any_eq_true.mp e'
      have hz' : q.1 = z := by simpa using hz
      obtain ⟨u, v', e1, _, _⟩ := hv q hq
      exact ⟨S z, some u, rfl, by rw [← hz']; exact e1, rfl⟩
    | false =>
      refine ⟨S z,none,rfl,hn z fun hm => ?_,rfl⟩
      obtain ⟨q,hq,hz⟩ := List.mem_map.mp hm
      have := List.any_eq_false.mp e' q hq
      simp [hz] at this
  | _ => cases e
end
end Fx
set_option maxHeartbeats 4000000
namespace Ap
open PySem PySem.Spec PyProof.Rows L2 SX Fx
def topS (i : Nat) : Stmt := PySem.Challenge.pw_anchorpages_k28_whole_values_of_quoted_t.main.body.getD i (.Pass ⟨0,0,0,0⟩)
def clsS (s : Stmt) (j : Nat) : Stmt := match s with
  | .ClassDef _ _ _ b _ _ _ _ _ _ _ => b.getD j (.Pass ⟨0,0,0,0⟩)
  | _ => .Pass ⟨0,0,0,0⟩
abbrev V2 : Stmt := topS 41
abbrev Zap : List Str := ["_law_state", "_law_base", "_law_found", "_law_mixed"]
abbrev Z1v : List Str := ["_law_state", "_law_base"]
theorem Qw : FnScope Zap Z1v (defScope V2) := ⟨rfl,rfl,rfl,by decide +kernel,rfl,by decide +kernel,by decide +kernel⟩
def Z4c : DefY := { at_ := (gY "_law_digit"), name := "_law_digit", qual := "_law_digit", params := defArgs V2, body := defBody V2, scope := defScope V2, dfl := [], kwd := [] }
abbrev Ul : Stmt := topS 42
abbrev Zdg : List Str := ["_law_state", "_law_some"]
abbrev Z5a : List Str := ["_law_state", "_law_some"]
theorem Zc1 : FnScope Zdg Z5a (defScope Ul) := ⟨rfl,rfl,rfl,by decide +kernel,rfl,by decide +kernel,by decide +kernel⟩
def Z6u : DefY := { at_ := (gY "_law_one"), name := "_law_one", qual := "_law_one", params := defArgs Ul, body := defBody Ul, scope := defScope Ul, dfl := [], kwd := [] }
abbrev Xw : Stmt := clsS (topS 3) 0
abbrev Z7s : List Str := ["self", "part"]
abbrev Uv : List Str := ["self", "part"]
theorem Z6v : FnScope Z7s Uv (defScope Xw) := ⟨rfl,rfl,rfl,by decide +kernel,rfl,by decide +kernel,by decide +kernel⟩
def Z1w : DefY := { at_ := (mY "NoStyle" "__init__"), name := "__init__", qual := "NoStyle.__init__", params := defArgs Xw, body := defBody Xw, scope := defScope Xw, dfl := [.non], kwd := [] }
abbrev W7 : Stmt := topS 35
abbrev Z9h : List Str := ["style", "context"]
abbrev Z11 : List Str := ["style", "context"]
theorem Z7t : FnScope Z9h Z11 (defScope W7) := ⟨rfl,rfl,rfl,by decide +kernel,rfl,by decide +kernel,by decide +kernel⟩
def Z2y : DefY := { at_ := (gY "check_place"), name := "check_place", qual := "check_place", params := defArgs W7, body := defBody W7, scope := defScope W7, dfl := [], kwd := [] }
abbrev V3 : Stmt := topS 34
abbrev Zaq : List Str := ["thing", "low", "high"]
abbrev Z1x : List Str := ["thing", "low", "high"]
theorem Z9i : FnScope Zaq Z1x (defScope V3) := ⟨rfl,rfl,rfl,by decide +kernel,rfl,by decide +kernel,by decide +kernel⟩
def Z4d : DefY := { at_ := (gY "is_from_to"), name := "is_from_to", qual := "is_from_to", params := defArgs V3, body := defBody V3, scope := defScope V3, dfl := [], kwd := [] }
abbrev Xm : Stmt := topS 36
abbrev Z6w : List Str := ["indent", "width", "deep"]
abbrev Je : List Str := ["indent", "width", "deep"]
theorem Z6c : FnScope Z6w Je (defScope Xm) := ⟨rfl,rfl,rfl,by decide +kernel,rfl,by decide +kernel,by decide +kernel⟩
def Z1k : DefY := { at_ := (gY "check_numbers"), name := "check_numbers", qual := "check_numbers", params := defArgs Xm, body := defBody Xm, scope := defScope Xm, dfl := [], kwd := [] }
abbrev W8 : Stmt := clsS (topS 11) 0
abbrev Z9j : List Str := ["self", "text"]
abbrev Z12 : List Str := ["self", "text"]
theorem Z7u : FnScope Z9j Z12 (defScope W8) := ⟨rfl,rfl,rfl,by decide +kernel,rfl,by decide +kernel,by decide +kernel⟩
def Z2z : DefY := { at_ := (mY "Source" "__init__"), name := "__init__", qual := "Source.__init__", params := defArgs W8, body := defBody W8, scope := defScope W8, dfl := [], kwd := [] }
abbrev Vl : Stmt := clsS (topS 11) 1
abbrev Zc2 : List Str := ["self", "i"]
abbrev Z3l : List Str := ["self", "i"]
theorem Zar : FnScope Zc2 Z3l (defScope Vl) := ⟨rfl,rfl,rfl,by decide +kernel,rfl,by decide +kernel,by decide +kernel⟩
def Z5y : DefY := { at_ := (mY "Source" "at"), name := "at", qual := "Source.at", params := defArgs Vl, body := defBody Vl, scope := defScope Vl, dfl := [], kwd := [] }
abbrev Yh : Stmt := clsS (topS 11) 5
abbrev Z2r : List Str := ["self", "i"]
abbrev Vf : List Str := ["self", "i"]
theorem Q5 : FnScope Z2r Vf (defScope Yh) := ⟨rfl,rfl,rfl,by decide +kernel,rfl,by decide +kernel,by decide +kernel⟩
def Q6 : DefY := { at_ := (mY "Source" "past_blanks"), name := "past_blanks", qual := "Source.past_blanks", params := defArgs Yh, body := defBody Yh, scope := defScope Yh, dfl := [], kwd := [] }
abbrev Yw : Stmt := clsS (topS 11) 3
abbrev Z5b : List Str := ["self", "i"]
abbrev Um : List Str := ["self", "i"]
theorem Z4e : FnScope Z5b Um (defScope Yw) := ⟨rfl,rfl,rfl,by decide +kernel,rfl,by decide +kernel,by decide +kernel⟩
def N7 : DefY := { at_ := (mY "Source" "is_begin"), name := "is_begin", qual := "Source.is_begin", params := defArgs Yw, body := defBody Yw, scope := defScope Yw, dfl := [], kwd := [] }
abbrev Xd : Stmt := clsS (topS 11) 7
abbrev Z6d : List Str := ["self", "i", "words"]
abbrev Vi : List Str := ["self", "i", "words"]
theorem Z5c : FnScope Z6d Vi (defScope Xd) := ⟨rfl,rfl,rfl,by decide +kernel,rfl,by decide +kernel,by decide +kernel⟩
def Z0k : DefY := { at_ := (mY "Source" "is_mark"), name := "is_mark", qual := "Source.is_mark", params := defArgs Xd, body := defBody Xd, scope := defScope Xd, dfl := [(.adr (dflY (mY "Source" "is_mark") 0))], kwd := [] }
abbrev W9 : Stmt := clsS (topS 11) 2
abbrev Z9k : List Str := ["self", "i"]
abbrev Z13 : List Str := ["self", "i"]
theorem Z7v : FnScope Z9k Z13 (defScope W9) := ⟨rfl,rfl,rfl,by decide +kernel,rfl,by decide +kernel,by decide +kernel⟩
def Z30 : DefY := { at_ := (mY "Source" "miss"), name := "miss", qual := "Source.miss", params := defArgs W9, body := defBody W9, scope := defScope W9, dfl := [], kwd := [] }
abbrev Yt : Stmt := clsS (topS 11) 8
abbrev Z4f : List Str := ["self", "i"]
abbrev U0 : List Str := ["self", "i"]
theorem Z3m : FnScope Z4f U0 (defScope Yt) := ⟨rfl,rfl,rfl,by decide +kernel,rfl,by decide +kernel,by decide +kernel⟩
def Jf : DefY := { at_ := (mY "Source" "is_barred"), name := "is_barred", qual := "Source.is_barred", params := defArgs Yt, body := defBody Yt, scope := defScope Yt, dfl := [], kwd := [] }
abbrev Jg : Stmt := topS 10
abbrev Zer : List Str := ["sign", "c"]
abbrev Z6x : List Str := ["sign", "c"]
theorem Zdh : FnScope Zer Z6x (defScope Jg) := ⟨rfl,rfl,rfl,by decide +kernel,rfl,by decide +kernel,by decide +kernel⟩
def Z8n : DefY := { at_ := (gY "is_safe"), name := "is_safe", qual := "is_safe", params := defArgs Jg, body := defBody Jg, scope := defScope Jg, dfl := [], kwd := [] }
abbrev Jh : Stmt := topS 17
abbrev Zes : List Str := ["source", "i", "c", "is_behind", "sign"]
abbrev Z6y : List Str := ["source", "i", "c", "is_behind"]
theorem Z8o : FnScope Zes Z6y (defScope Jh) := ⟨rfl,rfl,rfl,by decide +kernel,rfl,by decide +kernel,by decide +kernel⟩
def Z8p : DefY := { at_ := (gY "is_next"), name := "is_next", qual := "is_next", params := defArgs Jh, body := defBody Jh, scope := defScope Jh, dfl := [], kwd := [] }
abbrev Ji : Stmt := topS 18
abbrev Zet : List Str := ["source", "i", "c", "j"]
abbrev Z6z : List Str := ["source", "i", "c"]
theorem Z5d : FnScope Zet Z6z (defScope Ji) := ⟨rfl,rfl,rfl,by decide +kernel,rfl,by decide +kernel,by decide +kernel⟩
def Z8q : DefY := { at_ := (gY "row_end"), name := "row_end", qual := "row_end", params := defArgs Ji, body := defBody Ji, scope := defScope Ji, dfl := [], kwd := [] }
abbrev Uo : Stmt := topS 16
abbrev Zdi : List Str := ["source", "i", "c", "sign"]
abbrev Z5e : List Str := ["source", "i", "c"]
theorem Z70 : FnScope Zdi Z5e (defScope Uo) := ⟨rfl,rfl,rfl,by decide +kernel,rfl,by decide +kernel,by decide +kernel⟩
def Z71 : DefY := { at_ := (gY "is_first"), name := "is_first", qual := "is_first", params := defArgs Uo, body := defBody Uo, scope := defScope Uo, dfl := [], kwd := [] }
abbrev Yx : Stmt := clsS (topS 11) 10
abbrev Z5f : List Str := ["self", "i", "n", "k"]
abbrev Uq : List Str := ["self", "i", "n"]
theorem N8 : FnScope Z5f Uq (defScope Yx) := ⟨rfl,rfl,rfl,by decide +kernel,rfl,by decide +kernel,by decide +kernel⟩
def Nb : DefY := { at_ := (mY "Source" "indented"), name := "indented", qual := "Source.indented", params := defArgs Yx, body := defBody Yx, scope := defScope Yx, dfl := [], kwd := [] }
abbrev V4 : Stmt := topS 19
abbrev Zas : List Str := ["source", "i", "n", "j", "count", "k"]
abbrev Z1y : List Str := ["source", "i", "n"]
theorem Wb : FnScope Zas Z1y (defScope V4) := ⟨rfl,rfl,rfl,by decide +kernel,rfl,by decide +kernel,by decide +kernel⟩
def Z4g : DefY := { at_ := (gY "plain_fold"), name := "plain_fold", qual := "plain_fold", params := defArgs V4, body := defBody V4, scope := defScope V4, dfl := [], kwd := [] }
abbrev Z3n : Stmt := topS 20
abbrev Zi8 : List Str := ["source", "i", "n", "c", "end", "value", "found"]
abbrev Zc3 : List Str := ["source", "i", "n", "c"]
theorem Z2k : FnScope Zi8 Zc3 (defScope Z3n) := ⟨rfl,rfl,rfl,by decide +kernel,rfl,by decide +kernel,by decide +kernel⟩
def Zcr : DefY := { at_ := (gY "plain"), name := "plain", qual := "plain", params := defArgs Z3n, body := defBody Z3n, scope := defScope Z3n, dfl := [], kwd := [] }
abbrev Yo : Stmt := clsS (topS 11) 6
abbrev Z3o : List Str := ["self", "i"]
abbrev Vm : List Str := ["self", "i"]
theorem Qg : FnScope Z3o Vm (defScope Yo) := ⟨rfl,rfl,rfl,by decide +kernel,rfl,by decide +kernel,by decide +kernel⟩
def Qh : DefY := { at_ := (mY "Source" "past_white"), name := "past_white", qual := "Source.past_white", params := defArgs Yo, body := defBody Yo, scope := defScope Yo, dfl := [], kwd := [] }
abbrev V5 : Stmt := topS 21
abbrev Zat : List Str := ["source", "i", "n", "count", "j"]
abbrev Z1z : List Str := ["source", "i", "n"]
theorem Vc : FnScope Zat Z1z (defScope V5) := ⟨rfl,rfl,rfl,by decide +kernel,rfl,by decide +kernel,by decide +kernel⟩
def Z4h : DefY := { at_ := (gY "quote_fold"), name := "quote_fold", qual := "quote_fold", params := defArgs V5, body := defBody V5, scope := defScope V5, dfl := [], kwd := [] }
abbrev We : Stmt := topS 23
abbrev Z9l : List Str := ["source", "i", "n", "c", "found"]
abbrev Z14 : List Str := ["source", "i", "n", "c"]
theorem Z31 : FnScope Z9l Z14 (defScope We) := ⟨rfl,rfl,rfl,by decide +kernel,rfl,by decide +kernel,by decide +kernel⟩
def Z32 : DefY := { at_ := (gY "folded_part"), name := "folded_part", qual := "folded_part", params := defArgs We, body := defBody We, scope := defScope We, dfl := [], kwd := [] }
abbrev Jj : Stmt := topS 22
abbrev Zeu : List Str := ["source", "i", "n", "c", "sign", "found"]
abbrev Z72 : List Str := ["source", "i", "n", "c"]
theorem Z5g : FnScope Zeu Z72 (defScope Jj) := ⟨rfl,rfl,rfl,by decide +kernel,rfl,by decide +kernel,by decide +kernel⟩
def Z8r : DefY := { at_ := (gY "escaped"), name := "escaped", qual := "escaped", params := defArgs Jj, body := defBody Jj, scope := defScope Jj, dfl := [], kwd := [] }
abbrev Z15 : Stmt := topS 24
abbrev Zgj : List Str := ["source", "i", "n", "c", "quote", "value", "sign", "j", "part"]
abbrev Z9m : List Str := ["source", "i", "n", "c"]
theorem Wn : FnScope Zgj Z9m (defScope Z15) := ⟨rfl,rfl,rfl,by decide +kernel,rfl,by decide +kernel,by decide +kernel⟩
def Zau : DefY := { at_ := (gY "quoted"), name := "quoted", qual := "quoted", params := defArgs Z15, body := defBody Z15, scope := defScope Z15, dfl := [], kwd := [] }
abbrev Q7 : Stmt := topS 33
abbrev Zav : List Str := ["thing", "sign"]
abbrev Z73 : List Str := ["thing"]
theorem Z5h : FnScope Zav Z73 (defScope Q7) := ⟨rfl,rfl,rfl,by decide +kernel,rfl,by decide +kernel,by decide +kernel⟩
def Z8s : DefY := { at_ := (gY "is_text"), name := "is_text", qual := "is_text", params := defArgs Q7, body := defBody Q7, scope := defScope Q7, dfl := [], kwd := [] }
abbrev V6 : Stmt := clsS (topS 5) 0
abbrev Zaw : List Str := ["self", "source", "start", "n"]
abbrev Z20 : List Str := ["self", "source", "start", "n"]
theorem Z9n : FnScope Zaw Z20 (defScope V6) := ⟨rfl,rfl,rfl,by decide +kernel,rfl,by decide +kernel,by decide +kernel⟩
def Z4i : DefY := { at_ := (mY "Piece" "__init__"), name := "__init__", qual := "Piece.__init__", params := defArgs V6, body := defBody V6, scope := defScope V6, dfl := [], kwd := [] }
abbrev Yy : Stmt := clsS (topS 11) 4
abbrev Z5i : List Str := ["self", "i", "found"]
abbrev Ur : List Str := ["self", "i"]
theorem Nf : FnScope Z5i Ur (defScope Yy) := ⟨rfl,rfl,rfl,by decide +kernel,rfl,by decide +kernel,by decide +kernel⟩
def Nh : DefY := { at_ := (mY "Source" "line_end"), name := "line_end", qual := "Source.line_end", params := defArgs Yy, body := defBody Yy, scope := defScope Yy, dfl := [], kwd := [] }
abbrev Xx : Stmt := clsS (topS 11) 11
abbrev Z7w : List Str := ["self", "i", "j"]
abbrev Z0a : List Str := ["self", "i"]
theorem Jk : FnScope Z7w Z0a (defScope Xx) := ⟨rfl,rfl,rfl,by decide +kernel,rfl,by decide +kernel,by decide +kernel⟩
def Z21 : DefY := { at_ := (mY "Source" "close"), name := "close", qual := "Source.close", params := defArgs Xx, body := defBody Xx, scope := defScope Xx, dfl := [], kwd := [] }
abbrev Yp : Stmt := clsS (topS 5) 1
abbrev Z3p : List Str := ["self", "is_told", "turn", "sign"]
abbrev Vn : List Str := ["self"]
theorem Xg : FnScope Z3p Vn (defScope Yp) := ⟨rfl,rfl,rfl,by decide +kernel,rfl,by decide +kernel,by decide +kernel⟩
def Qi : DefY := { at_ := (mY "Piece" "read_header"), name := "read_header", qual := "Piece.read_header", params := defArgs Yp, body := defBody Yp, scope := defScope Yp, dfl := [], kwd := [] }
abbrev Yu : Stmt := clsS (topS 5) 4
abbrev Z4j : List Str := ["self", "own"]
abbrev U3 : List Str := ["self"]
theorem Jl : FnScope Z4j U3 (defScope Yu) := ⟨rfl,rfl,rfl,by decide +kernel,rfl,by decide +kernel,by decide +kernel⟩
def Jm : DefY := { at_ := (mY "Piece" "last_feeds"), name := "last_feeds", qual := "Piece.last_feeds", params := defArgs Yu, body := defBody Yu, scope := defScope Yu, dfl := [], kwd := [] }
abbrev Wf : Stmt := clsS (topS 5) 5
abbrev Z9o : List Str := ["self", "is_folded", "found", "is_white", "k", "row", "empties", "line", "has_feed", "is_now_white"]
abbrev Z16 : List Str := ["self", "is_folded"]
theorem Y7 : FnScope Z9o Z16 (defScope Wf) := ⟨rfl,rfl,rfl,by decide +kernel,rfl,by decide +kernel,by decide +kernel⟩
def Z33 : DefY := { at_ := (mY "Piece" "value"), name := "value", qual := "Piece.value", params := defArgs Wf, body := defBody Wf, scope := defScope Wf, dfl := [], kwd := [] }
abbrev Y9 : Stmt := clsS (topS 11) 9
abbrev Z1n : List Str := ["self", "i", "word", "k", "sign"]
abbrev Wx : List Str := ["self", "i", "word"]
theorem Wg : FnScope Z1n Wx (defScope Y9) := ⟨rfl,rfl,rfl,by decide +kernel,rfl,by decide +kernel,by decide +kernel⟩
def U4 : DefY := { at_ := (mY "Source" "expected_mark"), name := "expected_mark", qual := "Source.expected_mark", params := defArgs Y9, body := defBody Y9, scope := defScope Y9, dfl := [], kwd := [] }
abbrev Yq : Stmt := clsS (topS 5) 2
abbrev Z3q : List Str := ["self", "i", "longest", "j"]
abbrev Vo : List Str := ["self", "i"]
theorem Xh : FnScope Z3q Vo (defScope Yq) := ⟨rfl,rfl,rfl,by decide +kernel,rfl,by decide +kernel,by decide +kernel⟩
def Ql : DefY := { at_ := (mY "Piece" "indentation"), name := "indentation", qual := "Piece.indentation", params := defArgs Yq, body := defBody Yq, scope := defScope Yq, dfl := [], kwd := [] }
abbrev V7 : Stmt := clsS (topS 5) 3
abbrev Zax : List Str := ["self", "i", "width", "source", "j", "end", "has_feed"]
abbrev Z22 : List Str := ["self", "i", "width"]
theorem U5 : FnScope Zax Z22 (defScope V7) := ⟨rfl,rfl,rfl,by decide +kernel,rfl,by decide +kernel,by decide +kernel⟩
def Z4k : DefY := { at_ := (mY "Piece" "take"), name := "take", qual := "Piece.take", params := defArgs V7, body := defBody V7, scope := defScope V7, dfl := [], kwd := [] }
abbrev Wh : Stmt := topS 37
abbrev Z9p : List Str := ["text", "style", "n", "source", "piece", "i", "width"]
abbrev Z17 : List Str := ["text", "style", "n"]
theorem Vh : FnScope Z9p Z17 (defScope Wh) := ⟨rfl,rfl,rfl,by decide +kernel,rfl,by decide +kernel,by decide +kernel⟩
def Z34 : DefY := { at_ := (gY "block_value"), name := "block_value", qual := "block_value", params := defArgs Wh, body := defBody Wh, scope := defScope Wh, dfl := [], kwd := [] }
abbrev Wi : Stmt := topS 38
abbrev Z9q : List Str := ["text", "style", "context", "indent", "deep", "source", "letter", "found"]
abbrev Qx : List Str := ["text", "style", "context", "indent", "deep"]
theorem Z0b : FnScope Z9q Qx (defScope Wi) := ⟨rfl,rfl,rfl,by decide +kernel,rfl,by decide +kernel,by decide +kernel⟩
def Z35 : DefY := { at_ := (gY "read_scalar"), name := "read_scalar", qual := "read_scalar", params := defArgs Wi, body := defBody Wi, scope := defScope Wi, dfl := [(.int 1)], kwd := [] }
abbrev Vp : Stmt := topS 43
abbrev Zc4 : List Str := ["_law_state", "_law_mark", "_law_some"]
abbrev Z3r : List Str := ["_law_state", "_law_mark"]
theorem Z23 : FnScope Zc4 Z3r (defScope Vp) := ⟨rfl,rfl,rfl,by decide +kernel,rfl,by decide +kernel,by decide +kernel⟩
def Z5z : DefY := { at_ := (gY "_law_word"), name := "_law_word", qual := "_law_word", params := defArgs Vp, body := defBody Vp, scope := defScope Vp, dfl := [], kwd := [] }
abbrev Yi : Stmt := topS 47
abbrev Nk : List Str := ["_law_state", "_law_odd", "_law_ahead", "_law_behind", "_law_sign", "_law_good"]
abbrev U6 : List Str := ["_law_state"]
theorem Yz : FnScope Nk U6 (defScope Yi) := ⟨rfl,rfl,rfl,by decide +kernel,rfl,by decide +kernel,by decide +kernel⟩
def Jo : DefY := { at_ := (gY "_law_signs_right"), name := "_law_signs_right", qual := "_law_signs_right", params := defArgs Yi, body := defBody Yi, scope := defScope Yi, dfl := [], kwd := [] }
abbrev V8 : Stmt := topS 44
abbrev Zay : List Str := ["_law_state", "_law_indent", "_law_is_escaped", "_law_many", "_law_text", "_law_turn", "_law_blanks", "_law_value"]
abbrev Z24 : List Str := ["_law_state", "_law_indent", "_law_is_escaped"]
theorem Wj : FnScope Zay Z24 (defScope V8) := ⟨rfl,rfl,rfl,by decide +kernel,rfl,by decide +kernel,by decide +kernel⟩
def Z4l : DefY := { at_ := (gY "_law_break"), name := "_law_break", qual := "_law_break", params := defArgs V8, body := defBody V8, scope := defScope V8, dfl := [], kwd := [] }
abbrev V9 : Stmt := topS 45
abbrev Zaz : List Str := ["_law_state", "_law_mark", "_law_indent", "_law_text", "_law_value", "_law_has_break", "_law_last", "_law_turn", "_law_way", "_law_is_escaped", "_law_more"]
abbrev Z25 : List Str := ["_law_state", "_law_mark", "_law_indent"]
theorem Yn : FnScope Zaz Z25 (defScope V9) := ⟨rfl,rfl,rfl,by decide +kernel,rfl,by decide +kernel,by decide +kernel⟩
def Z4m : DefY := { at_ := (gY "_law_parts"), name := "_law_parts", qual := "_law_parts", params := defArgs V9, body := defBody V9, scope := defScope V9, dfl := [], kwd := [] }
abbrev Wk : Stmt := topS 46
abbrev Z9r : List Str := ["_law_mark", "_law_indent", "_law_found", "_law_few"]
abbrev Z18 : List Str := ["_law_mark", "_law_indent"]
theorem Uw : FnScope Z9r Z18 (defScope Wk) := ⟨rfl,rfl,rfl,by decide +kernel,rfl,by decide +kernel,by decide +kernel⟩
def Z36 : DefY := { at_ := (gY "_law_wrongs"), name := "_law_wrongs", qual := "_law_wrongs", params := defArgs Wk, body := defBody Wk, scope := defScope Wk, dfl := [], kwd := [] }
abbrev Zc5 : Stmt := topS 48
abbrev n_law : List Str := ["_law_script", "_law_cell", "_law_state", "_law_turn", "_law_style", "_law_indent", "_law_mark", "_law_text", "_law_value", "_law_has_break", "_law_context", "_law_due", "_law_wrong", "_law_odd"]
abbrev Zi9 : List Str := ["_law_script"]
theorem Z0l : FnScope n_law Zi9 (defScope Zc5) := ⟨rfl,rfl,rfl,by decide +kernel,rfl,by decide +kernel,by decide +kernel⟩
def Zhg : DefY := { at_ := (gY "law"), name := "law", qual := "law", params := defArgs Zc5, body := defBody Zc5, scope := defScope Zc5, dfl := [], kwd := [] }
def fns : List DefY := [Z4c,Z6u,Z1w,Z2y,Z4d,Z1k,Z2z,Z5y,Q6,N7,Z0k,Z30,Jf,Z8n,Z8p,Z8q,Z71,Nb,Z4g,Zcr,Qh,Z4h,Z32,Z8r,Zau,Z8s,Z4i,Nh,Z21,Qi,Jm,Z33,U4,Ql,Z4k,Z34,Z35,Z5z,Jo,Z4l,Z4m,Z36,Zhg]
def tabs : List He.Tab := [(fun K => He.ga K "LETTERS", [(S [98,108,111,99,107]), (S [107,101,121]), (S [102,108,111,119]), (S [112,97,105,114])]), (fun K => He.ga K "ESCAPES", [(S [34]), (S [92]), (S [47]), (S [110]), (S [116]), (S [32]), (S [9])]), (fun K => He.ga K "HEADS", [(S [108,105,116,101,114,97,108]), (S [102,111,108,100,101,100])]), (fun K => He.ga K "QUOTES", [(S [112,108,97,105,110]), (S [115,105,110,103,108,101]), (S [100,111,117,98,108,101])]), (fun K => He.ga K "BEHIND", [(S [98,108,111,99,107]), (S [107,101,121]), (S [102,108,111,119]), (S [112,97,105,114])])]
def exs : Exs := [
  tupAt (dflY (mY "Source" "is_mark") 0) [(.str (S [45,45,45])), (.str (S [46,46,46]))],
  tupAt (gY "STYLES") [(.str (S [112,108,97,105,110])), (.str (S [115,105,110,103,108,101])), (.str (S [100,111,117,98,108,101])), (.str (S [108,105,116,101,114,97,108])), (.str (S [102,111,108,100,101,100]))],
  dkB "LETTERS" [([98,108,111,99,107], (.str (S [79]))), ([107,101,121], (.str (S [75]))), ([102,108,111,119], (.str (S [73]))), ([112,97,105,114], (.str (S [80])))],
  fun K => (He.Fa.int "MOST_INDENT" (100)).ok K,
  fun K => (He.Fa.int "MOST_WIDTH" (200)).ok K,
  fun K => (He.Fa.str "BRACKETS" (S [44,91,93,123,125])).ok K,
  tupAt (gY "IN_BRACKETS") [(.str (S [73])), (.str (S [80]))],
  fun K => (He.Fa.str "MAYBE_FIRST" (S [45,63,58])).ok K,
  fun K => (He.Fa.str "NOT_FIRST" (S [44,91,93,123,125,35,38,42,33,124,62,39,34,64,96])).ok K,
  tupAt (gY "ON_A_LINE") [(.str (S [75])), (.str (S [80]))],
  dkB "ESCAPES" [([34], (.str (S [34]))), ([92], (.str (S [92]))), ([47], (.str (S [47]))), ([110], (.str (S [10]))), ([116], (.str (S [9]))), ([32], (.str (S [32]))), ([9], (.str (S [9])))],
  dkB "HEADS" [([108,105,116,101,114,97,108], (.str (S [124]))), ([102,111,108,100,101,100], (.str (S [62])))],
  dkB "QUOTES" [([112,108,97,105,110], (.str (S []))), ([115,105,110,103,108,101], (.str (S [39]))), ([100,111,117,98,108,101], (.str (S [34])))],
  dkB "BEHIND" [([98,108,111,99,107], (.str (S [10]))), ([107,101,121], (.str (S [58,32]))), ([102,108,111,119], (.str (S [93]))), ([112,97,105,114], (.str (S [58,32])))],
  fun K => (He.Fa.glo "Piece").ok K,
  fun K => (He.Fa.cls "Piece").ok K,
  fun K => (He.Fa.mkr "Piece").ok K,
  fun K => (He.Fa.meth "Piece" "read_header").ok K,
  fun K => (He.Fa.meth "Piece" "last_feeds").ok K,
  fun K => (He.Fa.meth "Piece" "value").ok K,
  fun K => (He.Fa.meth "Piece" "indentation").ok K,
  fun K => (He.Fa.meth "Piece" "take").ok K,
  fun K => (He.Fa.noat "Piece" "source").ok K,
  fun K => (He.Fa.noat "Piece" "rows").ok K,
  fun K => (He.Fa.noat "Piece" "empties").ok K,
  fun K => (He.Fa.noat "Piece" "end").ok K,
  fun K => (He.Fa.noat "Piece" "start").ok K,
  fun K => (He.Fa.noat "Piece" "n").ok K,
  fun K => (He.Fa.noat "Piece" "digit").ok K,
  fun K => (He.Fa.noat "Piece" "chomp").ok K,
  fun K => (He.Fa.glo "Source").ok K,
  fun K => (He.Fa.cls "Source").ok K,
  fun K => (He.Fa.mkr "Source").ok K,
  fun K => (He.Fa.meth "Source" "at").ok K,
  fun K => (He.Fa.meth "Source" "past_blanks").ok K,
  fun K => (He.Fa.meth "Source" "is_begin").ok K,
  fun K => (He.Fa.meth "Source" "is_mark").ok K,
  fun K => (He.Fa.meth "Source" "miss").ok K,
  fun K => (He.Fa.meth "Source" "is_barred").ok K,
  fun K => (He.Fa.meth "Source" "indented").ok K,
  fun K => (He.Fa.meth "Source" "past_white").ok K,
  fun K => (He.Fa.meth "Source" "line_end").ok K,
  fun K => (He.Fa.meth "Source" "close").ok K,
  fun K => (He.Fa.meth "Source" "expected_mark").ok K,
  fun K => (He.Fa.noat "Source" "text").ok K,
  fun K => (He.Fa.noat "Source" "length").ok K,
  fun K => (He.Fa.noat "Source" "far").ok K,
  fun K => (He.Fa.glo "NoStyle").ok K,
  oexB "NoStyle",
  exCB "NoStyle",
  fun K => (He.Fa.noat "NoStyle" "part").ok K,
  initB "NoStyle",
  fun K => (He.Fa.exm "NoStyle" "NoStyle" true).ok K,
  kitB2 "NoStyle" (fun K => .ref (He.ga K "PageError")),
  kitB2 "NoStyle" (fun _ => .type "ValueError"),
  baseB "PageError",
  noDigB,
  fun K => (He.Fa.glo "_law_digit").ok K,
  fun K => (He.Fa.glo "is_from_to").ok K,
  fun K => (He.Fa.glo "is_safe").ok K,
  fun K => (He.Fa.glo "is_next").ok K,
  fun K => (He.Fa.glo "is_first").ok K,
  fun K => (He.Fa.glo "row_end").ok K,
  fun K => (He.Fa.glo "plain_fold").ok K,
  fun K => (He.Fa.glo "quote_fold").ok K,
  fun K => (He.Fa.glo "folded_part").ok K,
  fun K => (He.Fa.glo "escaped").ok K,
  fun K => (He.Fa.glo "check_place").ok K,
  fun K => (He.Fa.glo "check_numbers").ok K,
  fun K => (He.Fa.glo "is_text").ok K,
  fun K => (He.Fa.glo "block_value").ok K,
  fun K => (He.Fa.glo "plain").ok K,
  fun K => (He.Fa.glo "quoted").ok K,
  fun K => (He.Fa.glo "_law_one").ok K,
  fun K => (He.Fa.glo "_law_word").ok K,
  fun K => (He.Fa.glo "read_scalar").ok K,
  fun K => (He.Fa.glo "_law_break").ok K,
  fun K => (He.Fa.glo "_law_signs_right").ok K,
  fun K => (He.Fa.glo "_law_parts").ok K,
  fun K => (He.Fa.glo "_law_wrongs").ok K,
  fun K => (He.Fa.glo "PageError").ok K,
  fun K => (He.Fa.glo "STYLES").ok K,
  fun K => (He.Fa.glo "IN_BRACKETS").ok K,
  fun K => (He.Fa.glo "ON_A_LINE").ok K,
  fun K => (He.Fa.glo "law").ok K,
  fun K => (He.Fa.free "len").ok K,
  fun K => (He.Fa.free "int").ok K,
  fun K => (He.Fa.free "str").ok K,
  fun K => (He.Fa.free "isinstance").ok K,
  fun K => (He.Fa.free "bool").ok K,
  fun K => (He.Fa.free "min").ok K,
  fun K => (He.Fa.free "max").ok K,
  fun K => (He.Fa.free "range").ok K,
  fun K => (He.Fa.free "all").ok K,
  fun K => (He.Fa.free "enumerate").ok K]
abbrev GT (P : Program) (w : World) (K : PySem.W.Frag) (mg : PySem.Str → Option Value) (base : Heap) (lv : Nat) (a : PySem.W.Frag → PySem.Addr) (p : List PySem.Str) (n : Nat) (F : FF) := FnG P w K mg base lv (a K) (fdOf K (a K)) p (spF K n F)
theorem tk {P : Program} {w : World} {K : PySem.W.Frag} {mg : PySem.Str → Option Value} {base : Heap} {n : List PySem.Str} {q : PySem.Str} {sc : Scope} {a : PySem.Addr} {cdv : Value} {A : Around} {outer : List PySem.Env} {s : Shared} {H : Hp} {E : XK} : Takes (cxOf (L2.CX P w) P w K mg base n q sc a cdv A outer s H E) (fun cls d _ H => E cls d H) := takes_of rfl rfl rfl rfl
end Ap
set_option maxHeartbeats 4000000
namespace Fx
open PySem PySem.Spec PyProof.Rows L2 SX Ap
def obsR (as : List Addr) (fn : List DefY) (ts : List He.Tab) (ex : Exs) (g : Addr → Option Obj) : AlY := obsK fn ts ex (He.frG g as)
def hookR (as : List Addr) (fn : List DefY) (ts : List He.Tab) (ex : Exs) : PySem.W.Hook where
  α := AlY
  obs := fun s => obsR as fn ts ex s.heap.get?
  val := fun w => valY fn ts w
  says := fun w h => ∃ K : PySem.W.Frag,K.In h ∧ Says fn ts ex w K
  of := fun _ _ e => ⟨_,He.frG_in,⟨congrArg (fun z : AlY => z.1) e,congrArg (fun z : AlY => z.2.1) e,congrArg (fun z : AlY => z.2.2) e⟩⟩
  keeps := fun _ _ _ ⟨K,hK,c⟩ k => ⟨K,PySem.W.Frag.In.keeps hK k,c⟩
theorem Zia {as : List Addr} {fn : List DefY} {ts : List He.Tab} {ex : Exs} {g : Addr → Option Obj} {s : Shared} (h : ∀ a,g a = s.heap.get? a) : obsR as fn ts ex g = (hookR as fn ts ex).obs s := by
  have e : g = s.heap.get? := funext h
  rw [e] <;> rfl
section
open HandSHeadRun PySem.W
end
end Fx
set_option maxHeartbeats 4000000
namespace Ap
open PySem PySem.W PySem.Calls PyProof.Rows
def nm0 : List PySem.Str := [PySem.Str.ofString "_wall", PySem.Str.ofString "PageError", PySem.Str.ofString "NoStyle", PySem.Str.ofString "Piece", PySem.Str.ofString "IN_BRACKETS", PySem.Str.ofString "ON_A_LINE", PySem.Str.ofString "BRACKETS", PySem.Str.ofString "is_safe", PySem.Str.ofString "Source", PySem.Str.ofString "NOT_FIRST", PySem.Str.ofString "MAYBE_FIRST", PySem.Str.ofString "ESCAPES", PySem.Str.ofString "is_first", PySem.Str.ofString "is_next", PySem.Str.ofString "row_end", PySem.Str.ofString "plain_fold", PySem.Str.ofString "plain", PySem.Str.ofString "quote_fold", PySem.Str.ofString "escaped", PySem.Str.ofString "folded_part", PySem.Str.ofString "quoted", PySem.Str.ofString "STYLES", PySem.Str.ofString "LETTERS", PySem.Str.ofString "BEHIND", PySem.Str.ofString "QUOTES", PySem.Str.ofString "HEADS", PySem.Str.ofString "MOST_INDENT", PySem.Str.ofString "MOST_WIDTH", PySem.Str.ofString "is_text", PySem.Str.ofString "is_from_to", PySem.Str.ofString "check_place", PySem.Str.ofString "check_numbers", PySem.Str.ofString "block_value", PySem.Str.ofString "read_scalar", PySem.Str.ofString "_law_cell_at"]
def nm1 : List PySem.Str := [PySem.Str.ofString "_law_digit", PySem.Str.ofString "_law_one", PySem.Str.ofString "_law_word", PySem.Str.ofString "_law_break", PySem.Str.ofString "_law_parts", PySem.Str.ofString "_law_wrongs", PySem.Str.ofString "_law_signs_right"]
def nms : List PySem.Str := nm0 ++ nm1
abbrev R5 : OpenRow := OpenLaw.row PySem.Challenge.rw_anchorpages_k28_whole_values_of_quoted_t
def ads : List PySem.Addr := [3,1399,1398,1397,1396,1395,1394,1393,1392,1391,1390,1389,1388,1387,1386,1385,1384,1383,1382,1381,1380,1379,1378,1377,1376,1375,1374,1373,1372,1371,1370,1369,1368,1367,1366,1365,1364,1363,1362,1361,1360,1359,1358,1357,1356,1355,1354,1353,1352,1351,1350,1349,1348,1347,1346,1345,1344,1343,1342,1341,1340,1339,1338,1337,1336,1335,1334,1333,1332,1331,1330,1329,1328,1327,1326,1325,1324,1323,1322,1321,1320,1319,1318,1317,1316,1315,1314,1313,1312,1311,1310,1309,1308,1307,1306,1305,1304,1303,1302,1301,1300,1299,1298,1297,1296,1295,1294,1293,1292,1291,1290,1289,1288,1287,1286,1285,1284,1283,1282,1281,1280,1279,1278,1277,1276,1275,1274,1273,1272,1271,1270,1269,1268,1267,1266,1265,1264,1263,1262,1261,1260,1259,1258,1257,1256,1255,1254,1253,1252,1251,1250,1249,1248,1247,1246,1245,1244,1243,1242,1241,1240,1239,1238,1237,1236,1235,1234,1233,1232,1231,1230,1229,1228,1227,1226,1225,1224,1223,1222,1221,1220,1219,1218,1217,1216,1215,1214,1213,1212,1211,1210,1209,1208,1207,1206,1205,1204,1203,1202,1201,1200,1199,1198,1197,1196,1195,1194,1193,1192,1191,1190,1189,1188,1187,1186,1185,1184,1183,1182,1181,1180,1179,1178,1177,1176,1175,1174,1173,1172,1171,1170,1169,1168,1167,1166,1165,1164,1163,1162,1161,1160,1159,1158,1157,1156,1155,1154,1153,1152,1151,1150,1149,1148,1147,1146,1145,1144,1143,1142,1141,1140,1139,1138,1137,1136,1135,1134,1133,1132,1131,1130,1129,1128,1127,1126,1125,1124,1123,1122,1121,1120,1119,1118,1117,1116,1115,1114,1113,1112,1111,1110,1109,1108,1107,1106,1105,1104,1103,1102,1101,1100,1099,1098,1097,1096,1095,1094,1093,1092,1091,1090,1089,1088,1087,1086,1085,1084,1083,1082,1081,1080,1079,1078,1077,1076,1075,1074,1073,1072,1071,1070,1069,1068,1067,1066,1065,1064,1063,1062,1061,1060,1059,1058,1057,1056,1055,1054,1053,1052,1051,1050,1049,1048,1047,1046,1045,1044,1043,1042,1041,1040,1039,1038,1037,1036,1035,1034,1033,1032,1031,1030,1029,1028,1027,1026,1025,1024,1023,1022,1021,1020,1019,1018,1017,1016,1015,1014,1013,1012,1011,1010,1009,1008,1007,1006,1005,1004,1003,1002,1001,1000,999,998,997,996,995,994,993,992,991,990,989,988,987,986,985,984,983,982,981,980,979,978,977,976,975,974,973,972,971,970,969,968,967,966,965,964,963,962,961,960,959,958,957,956,955,954,953,952,951,950,949,948,947,946,945,944,943,942,941,940,939,938,937,936,935,934,933,932,931,930,929,928,927,926,925,924,923,922,921,920,919,918,917,916,915,914,913,912,911,910,909,908,907,906,905,904,903,902,901,900,899,898,897,896,895,894,893,892,891,890,889,888,887,886,885,884,883,882,881,880,879,878,877,876,875,874,873,872,871,870,869,868,867,866,865,864,863,862,861,860,859,858,857,856,855,854,853,852,851,850,849,848,847,846,845,844,843,842,841,840,839,838,837,836,835,834,833,832,831,830,829,828,827,826,825,824,823,822,821,820,819,818,817,816,815,814,813,812,811,810,809,808,807,806,805,804,803,802,801,800,799,798,797,796,795,794,793,792,791,790,789,788,787,786,785,784,783,782,781,780,779,778,777,776,775,774,773,772,771,770,769,768,767,766,765,764,763,762,761,760,759,758,757,756,755,754,753,752,751,750,749,748,747,746,745,744,743,742,741,740,739,738,737,736,735,734,733,732,731,730,729,728,727,726,725,724,723,722,721,720,719,718,717,716,715,714,713,712,711,710,709,708,707,706,705,704,703,702,701,700,699,698,697,696,695,694,693,692,691,690,689,688,687,686,685,684,683,682,681,680,679,678,677,676,675,674,673,672,671,670,669,668,667,666,665,664,663,662,661,660,659,658,657,656,655,654,653,652,651,650,649,648,647,646,645,644,643,642,641,640,639,638,637,636,635,634,633,632,631,630,629,628,627,626,625,624,623,622,621,620,619,618,617,616,615,614,613,612,611,610,609,608,607,606,605,604,603,602,601,600,599,598,597,596,595,594,593,592,591,590,589,588,587,586,585,584,583,582,581,580,579,578,577,576,575,574,573,572,571,570,569,568,567,566,565,564,563,562,561,560,559,558,557,556,555,554,553,552,551,550,549,548,547,546,545,544,543,542,541,540,539,538,537,536,535,534,533,532,531,530,529,528,527,526,525,524,523,522,521,520,519,518,517,516,515,514,513,512,511,510,509,508,507,506,505,504,503,502,501,500,499,498,497,496,495,494,493,492,491,490,489,488,487,486,485,484,483,482,481,480,479,478,477,476,475,474,473,472,471,470,469,468,467,466,465,464,463,462,461,460,459,458,457,456,455,454,453,452,451,450,449,448,447,446,445,444,443,442,441,440,439,438,437,436,435,434,433,432,431,430,429,428,427,426,425,424,423,422,421,420,419,418,417,416,415,414,413,412,411,410,409,408,407,406,405,404,403,402,401,400,399,398,397,396,395,394,393,392,391,390,389,388,387,386,385,384,383,382,381,380,379,378,377,376,375,374,373,372,371,370,369,368,367,366,365,364,363,362,361,360,359,358,357,356,355,354,353,352,351,350,349,348,347,346,345,344,343,342,341,340,339,338,337,336,335,334,333,332,331,330,329,328,327,326,325,324,323,322,321,320,319,318,317,316,315,314,313,312,311,310,309,308,307,306,305,304,303,302,301,300,299,298,297,296,295,294,293,292,291,290,289,288,287,286,285,284,283,282,281,280,279,278,277,276,275,274,273,272,271,270,269,268,267,266,265,264,263,262,261,260,259,258,257,256,255,254,253,252,251,250,249,248,247,246,245,244,243,242,241,240,239,238,237,236,235,234,233,232,231,230,229,228,227,226,225,224,223,222,221,220,219,218,217,216,215,214,213,212,211,210,209,208,207,206,205,204,203,202,201,200,199,198,197,196,195,194,193,192,191,190,189,188,187,186,185,184,183,182,181,180,179,178,177,176,175,174,173,172,171,170,169,168,167,166,165,164,163,162,161,160,159,158,157,156,155,154,153,152,151,150,149,148,147,146,145,144,143,142,141,140,139,138,137,136,135,134,133,132,131,130,129,128,127,126,125,124,123,122,121,120,119,118,117,116,115,114,113,112,111,110,109,108,107,106,105,104,103,102,101,100,99,98,97,96,95,94,93,92,91,90,89,88,87,86,85,84,83,82,81,80,79,78,77,76,75,74,73,72,71,70,69,68,67,66,65,64,63,62,61,60,59,58,57,56,55,54,53,52,51,50,49,48,47,46,45,44,43,42,41,40,39,38,37,36,35,34,33,32,31,30,29,28,27,26,25,24,23,22,21,20,19,18,17,16,15,14,13,12,11,10,9,8,7,6,5,4,2,1,0]
abbrev hk5 : PySem.W.Hook := Fx.hookR ads fns tabs exs
def ob5 (s : PySem.W.SharedT) : Fx.AlY := Fx.obsR ads fns tabs exs (HandSHeadRun.getT s)
theorem Zjl (s : PySem.W.SharedT) : ob5 s = hk5.obs s.abs := Fx.Zia (HandSHeadRun.getT_eq s)
theorem run0 (w : World) : HandSHeadRun.RunEq R5 (view R5.prog [48]) hk5 ob5 6940 nms (w.withFollow "special-get-raises" false) := by
  intro os
  kernel_rfl
theorem run1 (w : World) : HandSHeadRun.RunEq R5 (view R5.prog [48]) hk5 ob5 6940 nms (w.withFollow "special-get-raises" true) := by
  intro os
  kernel_rfl
theorem run5 (w : World) : HandSHeadRun.RunEq R5 (view R5.prog [48]) hk5 ob5 6940 nms w := byRow2 "special-get-raises" (P := fun w => HandSHeadRun.RunEq R5 (view R5.prog [48]) hk5 ob5 6940 nms w) run0 run1 w
end Ap
set_option maxHeartbeats 4000000
namespace Fx
open PySem PySem.Spec PyProof.Rows L2 SX
variable [Tb]
def gMax3 : List T → Sto → Option (T × Sto)
  | [.int a,.int b,.int c],Z => some (.int (max (max a b) c),Z)
  | _,_ => none
theorem Zjm (a b c : Int) : nuMax3 (.int a) (.int b) (.int c) = some (.int (max (max a b) c)) := by
  have e : ∀ i j : Int,nuMax2 (.int i) (.int j) = some (.int (max i j)) := fun i j => by
    show (nuLt (.int i) (.int j)).map _ = _
    have : nuLt (.int i) (.int j) = some (decide (i < j)) := rfl
    rw [this]
    by_cases h : i < j
    · rw [decide_eq_true h]
      show some (V.int j) = _
      rw [Int.max_eq_right (by omega)]
    · rw [decide_eq_false h]
      show some (V.int i) = _
      rw [Int.max_eq_left (by omega)]
  show (nuMax2 (.int a) (.int b)).bind _ = _
  rw [e]
  exact e _ _
theorem Zjn {X : Cx} {K : PySem.W.Frag} (hK : X.K = K) (hc : X.calm = true) : CallR X (.builtin "max") (rFC K gMax3) := by
  subst hK
  refine Jc (call_max3Nu hc) fun xs H Q h => ?_
  obtain ⟨ι,Z,ts,s,r,p⟩ := h
  unfold gMax3 at p
  split at p
  · cases r with
    | cons r1 rr =>
      obtain ⟨v,w,rfl,r2,r3⟩ := rr.two
      cases r1
      cases r2
      cases r3
      exact ⟨_,_,_,_,rfl,Zjm _ _ _,Y6 p s (.int _)⟩
  · exact p.elim
@[simp] theorem max3_i (a b c : Int) (Z : Sto) : gMax3 [.int a,.int b,.int c] Z = some (.int (max (max a b) c),Z) := (rfl)
end Fx
set_option maxHeartbeats 4000000
namespace Fx
open PySem PySem.Spec PyProof.Rows L2 SX Ap
variable [Tb]
def tKdIn (l : List (List Nat × T)) (neg : Bool) (fb : FE) : FT := fun ρ Z => (fb ρ Z).bind fun y Z1 => match kdHas l y with
  | some c => .ok (c != neg) Z1
  | none => .stuck
section
variable {X : Cx} {K : PySem.W.Frag} {W : Wc} {b : Expr} {fb : FE} {pos p : Pos} {x : PySem.Str} {l : List (List Nat × T)}
theorem Zib (hK : X.K = K) (hg : Gl X x) (hm : GDk X.K X.w X.mg x l) (hb : FJ X K W b fb) (hm2 : behindInMarks .In (.Name x p) = false := by rfl) (hdb : (x == ("__debug__" : PySem.Str)) = false := by decide) : FTJ X K W (.Compare b [.In] [.Name x p] pos) (tKdIn l false fb) := by
  subst hK
  obtain ⟨a,es,n,hx,D,hv,hn⟩ := hm
  refine Z8l (pt_cmpR (op_in_kd D) hb (pe_glob (v := .ref a) hg hx rfl hdb) hm2) fun σ H Q h => ?_
  obtain ⟨ι,ρ,Z,is,q⟩ := h
  refine ⟨ι,ρ,Z,is,(Zi q).imp fun y H1 q1 => ?_⟩
  obtain ⟨ι1,Z1,ty,g1,s1,r1,p1⟩ := q1
  split at p1
  · rename_i c e
    obtain ⟨z,o,rfl,ho,hc⟩ := kd_in hv hn r1 e
    refine ⟨z,o,rfl,rfl,ho,?_⟩
    rw [hc]
    exact ⟨_,rfl,by have := p1 ι1 H1 (c != false) Gr.refl s1 rfl; simpa using this⟩
  · exact p1.elim
theorem Z8t (hK : X.K = K) (hg : Gl X x) (hm : GDk X.K X.w X.mg x l) (hb : FJ X K W b fb) (hm2 : behindInMarks .NotIn (.Name x p) = false := by rfl) (hdb : (x == ("__debug__" : PySem.Str)) = false := by decide) : FTJ X K W (.Compare b [.NotIn] [.Name x p] pos) (tKdIn l true fb) := by
  subst hK
  obtain ⟨a,es,n,hx,D,hv,hn⟩ := hm
  refine Z8l (pt_cmpR (op_notIn_kd D) hb (pe_glob (v := .ref a) hg hx rfl hdb) hm2) fun σ H Q h => ?_
  obtain ⟨ι,ρ,Z,is,q⟩ := h
  refine ⟨ι,ρ,Z,is,(Zi q).imp fun y H1 q1 => ?_⟩
  obtain ⟨ι1,Z1,ty,g1,s1,r1,p1⟩ := q1
  split at p1
  · rename_i c e
    obtain ⟨z,o,rfl,ho,hc⟩ := kd_in hv hn r1 e
    refine ⟨z,o,rfl,rfl,ho,?_⟩
    rw [hc]
    exact ⟨_,rfl,by have := p1 ι1 H1 (c != true) Gr.refl s1 rfl; simpa using this⟩
  · exact p1.elim
end
end Fx
set_option maxHeartbeats 4000000
namespace Fx
open PySem PySem.Spec PyProof.Rows L2 SX Ap
def rngOf (xs : List T) (Z1 : Sto) : R ItF := match xs with
  | [.int j] => if -(2 ^ 62) ≤ j ∧ j < 2 ^ 62 then .ok (itRng 0 j.toNat) Z1 else .stuck
  | [.int i,.int j] => if -(2 ^ 62) ≤ i ∧ i < 2 ^ 62 ∧ -(2 ^ 62) ≤ j ∧ j < 2 ^ 62 then .ok (itRng i (j - i).toNat) Z1 else .stuck
  | _ => .stuck
theorem rng1 {j : Int} {Z : Sto} (h1 : -1000000 ≤ j) (h2 : j ≤ 1000000) : rngOf [.int j] Z = .ok (itRng 0 j.toNat) Z := if_pos ⟨by omega,by omega⟩
theorem rngN {n : Nat} {Z : Sto} (h : n ≤ Lim) : rngOf [.int (n : Int)] Z = .ok (itRng 0 n) Z := by
  have h' : n ≤ 1000000 := h
  rw [rng1 (by omega) (by omega)]; rfl
section
variable (ρ : Env) (Z : Sto)
@[simp] theorem q_eC (t : T) : eC t ρ Z = .ok t Z := (rfl)
@[simp] theorem q_var0 (t : T) : eVar 0 (some t :: ρ) Z = .ok t Z := (rfl)
@[simp] theorem q_varS (i : Nat) (o : Option T) : eVar (i + 1) (o :: ρ) Z = eVar i ρ Z := (rfl)
@[simp] theorem q_var1 (o : Option T) : eVar 1 (o :: ρ) Z = eVar 0 ρ Z := (rfl)
@[simp] theorem q_var2 (o : Option T) : eVar 2 (o :: ρ) Z = eVar 1 ρ Z := (rfl)
@[simp] theorem q_var3 (o : Option T) : eVar 3 (o :: ρ) Z = eVar 2 ρ Z := (rfl)
@[simp] theorem q_var4 (o : Option T) : eVar 4 (o :: ρ) Z = eVar 3 ρ Z := (rfl)
@[simp] theorem q_var5 (o : Option T) : eVar 5 (o :: ρ) Z = eVar 4 ρ Z := (rfl)
@[simp] theorem q_var6 (o : Option T) : eVar 6 (o :: ρ) Z = eVar 5 ρ Z := (rfl)
@[simp] theorem q_var7 (o : Option T) : eVar 7 (o :: ρ) Z = eVar 6 ρ Z := (rfl)
@[simp] theorem q_var8 (o : Option T) : eVar 8 (o :: ρ) Z = eVar 7 ρ Z := (rfl)
@[simp] theorem q_var9 (o : Option T) : eVar 9 (o :: ρ) Z = eVar 8 ρ Z := (rfl)
@[simp] theorem q_var10 (o : Option T) : eVar 10 (o :: ρ) Z = eVar 9 ρ Z := (rfl)
@[simp] theorem q_var11 (o : Option T) : eVar 11 (o :: ρ) Z = eVar 10 ρ Z := (rfl)
@[simp] theorem q_var12 (o : Option T) : eVar 12 (o :: ρ) Z = eVar 11 ρ Z := (rfl)
@[simp] theorem q_var13 (o : Option T) : eVar 13 (o :: ρ) Z = eVar 12 ρ Z := (rfl)
@[simp] theorem q_var14 (o : Option T) : eVar 14 (o :: ρ) Z = eVar 13 ρ Z := (rfl)
@[simp] theorem q_bin (g : T → T → Sto → Option (T × Sto)) (a b : FE) : eBin g a b ρ Z = (a ρ Z).bind fun x Z1 => (b ρ Z1).bind fun y Z2 => lift (g x y Z2) := (rfl)
@[simp] theorem q_un (g : T → Sto → Option (T × Sto)) (a : FE) : eUn g a ρ Z = (a ρ Z).bind fun x Z1 => lift (g x Z1) := (rfl)
@[simp] theorem q_if (c : FT) (a b : FE) : eIf c a b ρ Z = (c ρ Z).bind fun x Z1 => if x = true then a ρ Z1 else b ρ Z1 := (rfl)
@[simp] theorem Zjo : aNil ρ Z = .ok [] Z := (rfl)
@[simp] theorem q_cons (a : FE) (r : FA) : aCons a r ρ Z = (a ρ Z).bind fun x Z1 => (r ρ Z1).bind fun xs Z2 => .ok (x :: xs) Z2 := (rfl)
@[simp] theorem q_tru (f : FE) : eTru f ρ Z = (f ρ Z).bind fun x Z1 => match truth x Z1 with | some b => .ok b Z1 | none => .stuck := (rfl)
@[simp] theorem q_tAnd (a b : FT) : Fx.tAnd a b ρ Z = (a ρ Z).bind fun x Z1 => if x = true then b ρ Z1 else .ok false Z1 := (rfl)
@[simp] theorem q_tOr (a b : FT) : Fx.tOr a b ρ Z = (a ρ Z).bind fun x Z1 => if x = true then .ok true Z1 else b ρ Z1 := (rfl)
@[simp] theorem q_tNot (a : FT) : Fx.tNot a ρ Z = (a ρ Z).bind fun x Z1 => .ok (!x) Z1 := (rfl)
@[simp] theorem q_and (a b : FE) : eAnd a b ρ Z = (a ρ Z).bind fun x Z1 => match truth x Z1 with | some true => b ρ Z1 | some false => .ok x Z1 | none => .stuck := (rfl)
@[simp] theorem q_or (a b : FE) : eOr a b ρ Z = (a ρ Z).bind fun x Z1 => match truth x Z1 with | some true => .ok x Z1 | some false => b ρ Z1 | none => .stuck := (rfl)
@[simp] theorem q_not (a : FE) : eNot a ρ Z = (a ρ Z).bind fun x Z1 => match truth x Z1 with | some b => .ok (.bl (!b)) Z1 | none => .stuck := (rfl)
@[simp] theorem q_bl (f : FE) : eBl f ρ Z = (f ρ Z).bind fun x Z1 => match x with | .bl b => .ok b Z1 | _ => .stuck := (rfl)
@[simp] theorem q_chain (g g' : T → T → Sto → Option (T × Sto)) (a b c : FE) : eChain g g' a b c ρ Z = (a ρ Z).bind fun x Z1 => (b ρ Z1).bind fun y Z2 => (lift (g x y Z2)).bind fun z Z3 => match z with | .bl true => (c ρ Z3).bind fun w Z4 => lift (g' y w Z4) | .bl false => .ok (.bl false) Z3 | _ => .stuck := (rfl)
@[simp] theorem q_oNone : oNone ρ Z = .ok none Z := (rfl)
@[simp] theorem q_oSome (f : FE) : oSome f ρ Z = (f ρ Z).bind fun x Z1 => match x with | .int i => .ok (some i) Z1 | _ => .stuck := (rfl)
@[simp] theorem q_sl (f : FE) (lo hi : FO) : eSl f lo hi ρ Z = (f ρ Z).bind fun x Z1 => (lo ρ Z1).bind fun l Z2 => (hi ρ Z2).bind fun h Z3 => lift (gSl x l h Z3) := (rfl)
@[simp] theorem q_tup (f : FA) : eTup f ρ Z = (f ρ Z).bind fun xs Z1 => .ok (.tup xs) Z1 := (rfl)
@[simp] theorem q_lst (f : FA) : eLst f ρ Z = (f ρ Z).bind fun xs Z1 => .ok (.loc Z1.length) (Z1 ++ [.lst xs]) := (rfl)
@[simp] theorem q_call (F : FF) (ds : List T) (fa : FA) : eCall F ds fa ρ Z = (fa ρ Z).bind fun ts Z1 => F (ts ++ ds) Z1 := (rfl)
@[simp] theorem q_callB (g : List T → Sto → Option (T × Sto)) (fa : FA) : eCallB g fa ρ Z = (fa ρ Z).bind fun xs Z1 => lift (g xs Z1) := (rfl)
@[simp] theorem q_bm (n : String) (g : T → List T → Sto → Option (T × Sto)) (fo : FE) (fa : FA) : eBM n g fo fa ρ Z = (fo ρ Z).bind fun x Z1 => if isTy n x Z1 = true then (fa ρ Z1).bind fun xs Z2 => lift (g x xs Z2) else .stuck := (rfl)
@[simp] theorem q_dict0 : eDict0 ρ Z = .ok (.loc Z.length) (Z ++ [.dk []]) := (rfl)
@[simp] theorem q_yes : eYes ρ Z = .ok true Z := (rfl)
@[simp] theorem q_set (i : Nat) (f : FE) : sSet i f ρ Z = bS ρ (f ρ Z) fun x Z1 => .nx (ρ.set i (some x)) Z1 := (rfl)
@[simp] theorem q_ret (f : FE) : sRet f ρ Z = bS ρ (f ρ Z) fun x Z1 => .rt x Z1 := (rfl)
@[simp] theorem q_retN : sRetN ρ Z = .rt .non Z := (rfl)
@[simp] theorem q_drop (f : FE) : sDrop f ρ Z = bS ρ (f ρ Z) fun _ Z1 => .nx ρ Z1 := (rfl)
@[simp] theorem q_pass : sPass ρ Z = .nx ρ Z := (rfl)
@[simp] theorem q_brk : sBrk ρ Z = .bk ρ Z := (rfl)
@[simp] theorem q_cnt : sCnt ρ Z = .ct ρ Z := (rfl)
@[simp] theorem q_sIf (c : FT) (a b : FS) : sIf c a b ρ Z = bS ρ (c ρ Z) fun x Z1 => if x = true then a ρ Z1 else b ρ Z1 := (rfl)
@[simp] theorem q_bCons (a b : FS) : bCons a b ρ Z = seqS (a ρ Z) b := (rfl)
@[simp] theorem q_par (ix : List Nat) (f : FA) : sPar ix f ρ Z = bS ρ (f ρ Z) fun xs Z1 => .nx ((ix.zip xs).foldl (fun r p => r.set p.1 (some p.2)) ρ) Z1 := (rfl)
@[simp] theorem q_asg (f : FE) (g : FG) : sAsg f g ρ Z = bS ρ (f ρ Z) fun x Z1 => bS ρ (g x ρ Z1) fun ρ2 Z2 => .nx ρ2 Z2 := (rfl)
@[simp] theorem Zdj (i : Nat) (t : T) : gNm i t ρ Z = .ok (ρ.set i (some t)) Z := (rfl)
@[simp] theorem q_gsNil : gsNil [] ρ Z = .ok ρ Z := (rfl)
@[simp] theorem q_gsCons (g : FG) (r : FGs) (t : T) (ts : List T) : gsCons g r (t :: ts) ρ Z = (noX (g t ρ Z)).bind fun ρ1 Z1 => noX (r ts ρ1 Z1) := (rfl)
@[simp] theorem q_gTp (n : Nat) (r : FGs) (ts : List T) : gTp n r (.tup ts) ρ Z = if ts.length = n then r ts ρ Z else .stuck := (rfl)
@[simp] theorem q_gSubs (fo fi : FE) (t : T) : gSubs fo fi t ρ Z = (fo ρ Z).bind fun o Z1 => (fi ρ Z1).bind fun i Z2 => match gSetL o i t Z2 with | some Z3 => .ok ρ Z3 | none => .stuck := (rfl)
@[simp] theorem q_for (it : FI) (g : FG) (b : FS) : sFor it g b ρ Z = bS ρ (it ρ Z) fun j Z1 => loopN j (fun t ρ' Z' => bS ρ' (g t ρ' Z') b) Fuel 0 ρ Z1 := (rfl)
@[simp] theorem q_raise (nm f : PySem.Str) (ds : List T) (fa : FA) : sRaise nm f ds fa ρ Z = bS ρ (fa ρ Z) fun ts Z1 => match ts ++ ds with | [t] => .exc ⟨nm,[(f,t)]⟩ ρ Z1 | _ => .stuck := (rfl)
@[simp] theorem q_iAny (f : FE) : iAny f ρ Z = (f ρ Z).bind fun x Z1 => match x with | .frl ts => .ok (itSeq ts) Z1 | .loc i => (match getL Z1 i with | some _ => .ok (itLoc i) Z1 | none => .stuck) | .tup ts => .ok (itSeq ts) Z1 | .str l => .ok (itStr l) Z1 | _ => .stuck := (rfl)
@[simp] theorem q_iEnmA (f : FA) : iEnmA f ρ Z = (f ρ Z).bind fun xs Z1 => match xs with | [.frl ts] => .ok (itEnum (itSeq ts)) Z1 | [.loc i] => (match getL Z1 i with | some _ => .ok (itEnum (itLoc i)) Z1 | none => .stuck) | [.tup ts] => .ok (itEnum (itSeqX ts)) Z1 | [.str l] => .ok (itEnum (itStrX l)) Z1 | _ => .stuck := (rfl)
@[simp] theorem q_iRng (f : FA) : iRng f ρ Z = (f ρ Z).bind fun xs Z1 => rngOf xs Z1 := (rfl)
@[simp] theorem q_lc (vs js : List Nat) (it : FI) (c : FT) (e : FE) : eLc vs js it c e ρ Z = (it ρ Z).bind fun j Z1 => loopC j Z1.length (fun t => putN js t (wipeR ρ vs)) c e Fuel 0 (Z1 ++ [.lst []]) := (rfl)
@[simp] theorem q_xf (y : Ex) (f : PySem.Str) : eXf y f ρ Z = match y.fs.lookup f with | some t => .ok t Z | none => .stuck := (rfl)
end
@[simp] theorem Zcs {α : Type} (a : α) (Z : Sto) : noX (.ok a Z) = .ok a Z := (rfl)
@[simp] theorem t_bl (b : Bool) (Z : Sto) : truth (.bl b) Z = some b := (rfl)
@[simp] theorem t_int (i : Int) (Z : Sto) : truth (.int i) Z = some (i != 0) := (rfl)
@[simp] theorem t_non (Z : Sto) : truth .non Z = some false := (rfl)
@[simp] theorem t_tup (ts : List T) (Z : Sto) : truth (.tup ts) Z = some (!ts.isEmpty) := (rfl)
@[simp] theorem add_ii (i j : Int) (Z : Sto) : gAdd (.int i) (.int j) Z = some (.int (i + j),Z) := (rfl)
@[simp] theorem Nm (a b : List Nat) (Z : Sto) : gAdd (.str a) (.str b) Z = if a.length + b.length ≤ Lim then some (.str (a ++ b),Z) else none := (rfl)
@[simp] theorem add_tt (a b : List T) (Z : Sto) : gAdd (.tup a) (.tup b) Z = if a.length + b.length ≤ Lim then some (.tup (a ++ b),Z) else none := (rfl)
@[simp] theorem Z74 (i j : Nat) (Z : Sto) : gAdd (.loc i) (.loc j) Z = match getL Z i,getL Z j with | some a,some b => if a.length + b.length ≤ Lim then some (.loc Z.length,Z ++ [.lst (a ++ b)]) else none | _,_ => none := (rfl)
@[simp] theorem iadd_ii (i j : Int) (Z : Sto) : gIAdd (.int i) (.int j) Z = some (.int (i + j),Z) := (rfl)
@[simp] theorem Zic (a b : List Nat) (Z : Sto) : gIAdd (.str a) (.str b) Z = if a.length + b.length ≤ Lim then some (.str (a ++ b),Z) else none := (rfl)
@[simp] theorem sub_ii (i j : Int) (Z : Sto) : gSub (.int i) (.int j) Z = some (.int (i - j),Z) := (rfl)
@[simp] theorem mul_ii (i j : Int) (Z : Sto) : gMul (.int i) (.int j) Z = if mulOk i j = true then some (.int (i * j),Z) else none := (rfl)
@[simp] theorem Z37 (l : List Nat) (k : Int) (Z : Sto) : gMul (.str l) (.int k) Z = if -100000 ≤ k ∧ k ≤ 100000 ∧ l.length * k.toNat ≤ 100000 then some (.str (repL k.toNat l),Z) else none := (rfl)
@[simp] theorem mul_li (i : Nat) (k : Int) (Z : Sto) : gMul (.loc i) (.int k) Z = match getL Z i with | some a => if -100000 ≤ k ∧ k ≤ 100000 ∧ a.length * k.toNat ≤ Lim then some (.loc Z.length,Z ++ [.lst (List.replicate k.toNat a).flatten]) else none | _ => none := (rfl)
@[simp] theorem div_ii (i j : Int) (Z : Sto) : gDiv (.int i) (.int j) Z = if 0 < j ∧ j < 2 ^ 200 then some (.int (i / j),Z) else none := (rfl)
@[simp] theorem mod_ii (i j : Int) (Z : Sto) : gMod (.int i) (.int j) Z = if 0 < j then some (.int (i % j),Z) else none := (rfl)
@[simp] theorem pow_ii (i j : Int) (Z : Sto) : gPow (.int i) (.int j) Z = if 0 ≤ j ∧ j ≤ 1000000 ∧ i.natAbs < 2 ^ 64 then some (.int (i ^ j.toNat),Z) else none := (rfl)
@[simp] theorem neg_i (i : Int) (Z : Sto) : gNeg (.int i) Z = some (.int (-i),Z) := (rfl)
@[simp] theorem eq_ii (i j : Int) (Z : Sto) : gEq (.int i) (.int j) Z = some (.bl (decide (i = j)),Z) := (rfl)
@[simp] theorem eq_ss (i j : List Nat) (Z : Sto) : gEq (.str i) (.str j) Z = some (.bl (decide (i = j)),Z) := (rfl)
@[simp] theorem eq_bb (i j : Bool) (Z : Sto) : gEq (.bl i) (.bl j) Z = some (.bl (decide (i = j)),Z) := (rfl)
@[simp] theorem ne_ii (i j : Int) (Z : Sto) : gNe (.int i) (.int j) Z = some (.bl (!decide (i = j)),Z) := (rfl)
@[simp] theorem ne_ss (i j : List Nat) (Z : Sto) : gNe (.str i) (.str j) Z = some (.bl (!decide (i = j)),Z) := (rfl)
@[simp] theorem ne_bb (i j : Bool) (Z : Sto) : gNe (.bl i) (.bl j) Z = some (.bl (!decide (i = j)),Z) := (rfl)
@[simp] theorem lt_ii (i j : Int) (Z : Sto) : gLt (.int i) (.int j) Z = some (.bl (decide (i < j)),Z) := (rfl)
@[simp] theorem lt_ss (i j : List Nat) (Z : Sto) : gLt (.str i) (.str j) Z = some (.bl (decide (i < j)),Z) := (rfl)
@[simp] theorem le_ii (i j : Int) (Z : Sto) : gLe (.int i) (.int j) Z = some (.bl (decide (i ≤ j)),Z) := (rfl)
@[simp] theorem gt_ii (i j : Int) (Z : Sto) : gGt (.int i) (.int j) Z = some (.bl (decide (j < i)),Z) := (rfl)
@[simp] theorem ge_ii (i j : Int) (Z : Sto) : gGe (.int i) (.int j) Z = some (.bl (decide (j ≤ i)),Z) := (rfl)
@[simp] theorem is_n (x : T) (Z : Sto) : gIs x .non Z = some (.bl (isNon x),Z) := by cases x <;> rfl
@[simp] theorem isNot_n (x : T) (Z : Sto) : gIsNot x .non Z = some (.bl (!isNon x),Z) := by cases x <;> rfl
@[simp] theorem ix_tup (ts : List T) (i : Int) (Z : Sto) : gIx (.tup ts) (.int i) Z = (atI ts i).map fun t => (t,Z) := (rfl)
@[simp] theorem ix_frl (ts : List T) (i : Int) (Z : Sto) : gIx (.frl ts) (.int i) Z = (atI ts i).map fun t => (t,Z) := (rfl)
@[simp] theorem Zjp (n : Nat) (i : Int) (Z : Sto) : gIx (.loc n) (.int i) Z = match getL Z n with | some ts => (atI ts i).map fun t => (t,Z) | none => none := by
  simp only [gIx,asSeq,asList,getL]
  all_goals (cases Z[n]? with
    | none => rfl
    | some o => cases o <;> rfl)
@[simp] theorem ix_str (l : List Nat) (i : Int) (Z : Sto) : gIx (.str l) (.int i) Z = if l.length ≤ Lim then (atI l i).map fun c => (.str [c],Z) else none := (rfl)
@[simp] theorem sl_s (l : List Nat) (lo hi : Option Int) (Z : Sto) : gSl (.str l) lo hi Z = if l.length ≤ Lim then some (.str (cutL l lo hi),Z) else none := (rfl)
@[simp] theorem sl_t (l : List T) (lo hi : Option Int) (Z : Sto) : gSl (.tup l) lo hi Z = some (.tup (cutL l lo hi),Z) := (rfl)
@[simp] theorem sl_f (l : List T) (lo hi : Option Int) (Z : Sto) : gSl (.frl l) lo hi Z = some (.loc Z.length,Z ++ [.lst (cutL l lo hi)]) := (rfl)
@[simp] theorem sl_l (n : Nat) (lo hi : Option Int) (Z : Sto) : gSl (.loc n) lo hi Z = match getL Z n with | some ts => some (.loc Z.length,Z ++ [.lst (cutL ts lo hi)]) | none => none := by
  simp only [gSl,asList,getL]
  all_goals (cases Z[n]? with
    | none => rfl
    | some o => cases o <;> rfl)
@[simp] theorem len_s (l : List Nat) (Z : Sto) : gLen [.str l] Z = if l.length ≤ Lim then some (.int l.length,Z) else none := (rfl)
@[simp] theorem len_t (l : List T) (Z : Sto) : gLen [.tup l] Z = some (.int l.length,Z) := (rfl)
@[simp] theorem len_f (l : List T) (Z : Sto) : gLen [.frl l] Z = some (.int l.length,Z) := (rfl)
@[simp] theorem len_l (n : Nat) (Z : Sto) : gLen [.loc n] Z = match getL Z n with | some ts => some (.int ts.length,Z) | none => none := by
  simp only [gLen,asSeq,asList,getL]
  cases Z[n]? with
  | none => rfl
  | some o => cases o <;> rfl
@[simp] theorem max_ii (i j : Int) (Z : Sto) : gMax [.int i,.int j] Z = some (.int (if j > i then j else i),Z) := (rfl)
@[simp] theorem min_ii (i j : Int) (Z : Sto) : gMin [.int i,.int j] Z = some (.int (if j < i then j else i),Z) := (rfl)
@[simp] theorem int_i (i : Int) (Z : Sto) : gInt [.int i] Z = some (.int i,Z) := (rfl)
@[simp] theorem int_b (b : Bool) (Z : Sto) : gInt [.bl b] Z = some (.int (if b then 1 else 0),Z) := (rfl)
@[simp] theorem tuple_l (n : Nat) (Z : Sto) : gTuple [.loc n] Z = match getL Z n with | some ts => some (.tup ts,Z) | none => none := by
  simp only [gTuple,asList,getL]
  cases Z[n]? with
  | none => rfl
  | some o => cases o <;> rfl
@[simp] theorem app_l (n : Nat) (t : T) (Z : Sto) : gAppend (.loc n) [t] Z = match getL Z n with | some ts => if ts.length < Lim then some (.non,Z.set n (.lst (ts ++ [t]))) else none | none => none := (rfl)
@[simp] theorem set_l (n : Nat) (i : Int) (t : T) (Z : Sto) : gSetL (.loc n) (.int i) t Z = match getL Z n with | some ts => (ixN ts.length i).map fun m => Z.set n (.lst (ts.set m t)) | none => none := (rfl)
theorem Z2l {Z : Sto} {i : Nat} {ts : List T} : getL Z i = some ts ↔ Z[i]? = some (.lst ts) := ⟨Ve,fun h => by unfold getL; rw [h]⟩
@[simp] theorem Yv (Z : Sto) (ts : List T) : getL (Z ++ [.lst ts]) Z.length = some ts := by simp [getL]
theorem Np {Z Y : Sto} {i : Nat} {ts : List T} (h : getL Z i = some ts) : getL (Z ++ Y) i = some ts := by
  rw [Z2l] at h ⊢
  rw [List.getElem?_append_left (List.getElem?_eq_some_iff.mp h).1]; exact h
theorem Z19 {Z : Sto} {i : Nat} {ts us : List T} (h : getL Z i = some ts) : getL (Z.set i (.lst us)) i = some us := by
  rw [Z2l] at h ⊢
  rw [List.getElem?_set_self (List.getElem?_eq_some_iff.mp h).1]
theorem Zc6 {Z : Sto} {i j : Nat} {o : O} (h : i ≠ j) : getL (Z.set i o) j = getL Z j := by unfold getL; rw [List.getElem?_set_ne h]
theorem Z75 {Z : Sto} {i : Nat} {ts : List T} (h : getL Z i = some ts) : i < Z.length := (List.getElem?_eq_some_iff.mp (Ve h)).1
@[simp] theorem isTy_s (l : List Nat) (Z : Sto) : isTy "str" (.str l) Z = true := (rfl)
@[simp] theorem atI_0 {α : Type} (a : α) (l : List α) : atI (a :: l) 0 = some a := by simp [atI,ixN]
@[simp] theorem atI_1 {α : Type} (a b : α) (l : List α) : atI (a :: b :: l) 1 = some b := by
  have h : (1 : Int) < ((a :: b :: l).length : Int) := by simp; omega
  simp only [atI,ixN]
  rw [if_pos (by decide),if_pos h]; rfl
@[simp] theorem atI_2 {α : Type} (a b c : α) (l : List α) : atI (a :: b :: c :: l) 2 = some c := by
  have h : (2 : Int) < ((a :: b :: c :: l).length : Int) := by simp; omega
  simp only [atI,ixN]
  rw [if_pos (by decide),if_pos h]; rfl
@[simp] theorem atI_3 {α : Type} (a b c d : α) (l : List α) : atI (a :: b :: c :: d :: l) 3 = some d := by
  have h : (3 : Int) < ((a :: b :: c :: d :: l).length : Int) := by simp; omega
  simp only [atI,ixN]
  rw [if_pos (by decide),if_pos h]; rfl
theorem atI_nat {α : Type} {l : List α} {k : Nat} {a : α} (h : l[k]? = some a) : atI l (k : Int) = some a := by
  have hk := (List.getElem?_eq_some_iff.mp h).1
  simp only [atI,ixN]
  rw [if_pos (Int.natCast_nonneg k),if_pos (by omega)]
  exact h
section
theorem kk (n : String) : True := trivial
@[simp] theorem kit_1 : kitB "int" "int" = some true := by decide +kernel
@[simp] theorem kit_2 : kitB "bool" "int" = some true := by decide +kernel
@[simp] theorem kit_3 : kitB "str" "int" = some false := by decide +kernel
@[simp] theorem kit_4 : kitB "NoneType" "int" = some false := by decide +kernel
@[simp] theorem kit_5 : kitB "tuple" "int" = some false := by decide +kernel
@[simp] theorem kit_6 : kitB "list" "int" = some false := by decide +kernel
@[simp] theorem kit_7 : kitB "dict" "int" = some false := by decide +kernel
@[simp] theorem kit_11 : kitB "int" "bool" = some false := by decide +kernel
@[simp] theorem kit_12 : kitB "bool" "bool" = some true := by decide +kernel
@[simp] theorem kit_13 : kitB "str" "bool" = some false := by decide +kernel
@[simp] theorem kit_14 : kitB "NoneType" "bool" = some false := by decide +kernel
@[simp] theorem kit_15 : kitB "tuple" "bool" = some false := by decide +kernel
@[simp] theorem kit_16 : kitB "list" "bool" = some false := by decide +kernel
@[simp] theorem kit_17 : kitB "dict" "bool" = some false := by decide +kernel
@[simp] theorem kit_21 : kitB "int" "str" = some false := by decide +kernel
@[simp] theorem kit_22 : kitB "bool" "str" = some false := by decide +kernel
@[simp] theorem kit_23 : kitB "str" "str" = some true := by decide +kernel
@[simp] theorem kit_24 : kitB "NoneType" "str" = some false := by decide +kernel
@[simp] theorem kit_25 : kitB "tuple" "str" = some false := by decide +kernel
@[simp] theorem kit_26 : kitB "list" "str" = some false := by decide +kernel
@[simp] theorem kit_27 : kitB "dict" "str" = some false := by decide +kernel
@[simp] theorem kit_31 : kitB "int" "tuple" = some false := by decide +kernel
@[simp] theorem kit_32 : kitB "bool" "tuple" = some false := by decide +kernel
@[simp] theorem kit_33 : kitB "str" "tuple" = some false := by decide +kernel
@[simp] theorem kit_34 : kitB "NoneType" "tuple" = some false := by decide +kernel
@[simp] theorem kit_35 : kitB "tuple" "tuple" = some true := by decide +kernel
@[simp] theorem kit_36 : kitB "list" "tuple" = some false := by decide +kernel
@[simp] theorem kit_37 : kitB "dict" "tuple" = some false := by decide +kernel
@[simp] theorem kit_41 : kitB "int" "list" = some false := by decide +kernel
@[simp] theorem kit_42 : kitB "bool" "list" = some false := by decide +kernel
@[simp] theorem kit_43 : kitB "str" "list" = some false := by decide +kernel
@[simp] theorem kit_44 : kitB "NoneType" "list" = some false := by decide +kernel
@[simp] theorem kit_45 : kitB "tuple" "list" = some false := by decide +kernel
@[simp] theorem kit_46 : kitB "list" "list" = some true := by decide +kernel
@[simp] theorem kit_47 : kitB "dict" "list" = some false := by decide +kernel
@[simp] theorem kit_51 : kitB "int" "dict" = some false := by decide +kernel
@[simp] theorem kit_52 : kitB "bool" "dict" = some false := by decide +kernel
@[simp] theorem kit_53 : kitB "str" "dict" = some false := by decide +kernel
@[simp] theorem kit_54 : kitB "NoneType" "dict" = some false := by decide +kernel
@[simp] theorem kit_55 : kitB "tuple" "dict" = some false := by decide +kernel
@[simp] theorem kit_56 : kitB "list" "dict" = some false := by decide +kernel
@[simp] theorem kit_57 : kitB "dict" "dict" = some true := by decide +kernel
end
@[simp] theorem ty_non (Z : Sto) : tyT .non Z = some "NoneType" := (rfl)
@[simp] theorem ty_bl (b : Bool) (Z : Sto) : tyT (.bl b) Z = some "bool" := (rfl)
@[simp] theorem ty_int (b : Int) (Z : Sto) : tyT (.int b) Z = some "int" := (rfl)
@[simp] theorem ty_str (b : List Nat) (Z : Sto) : tyT (.str b) Z = some "str" := (rfl)
@[simp] theorem ty_tup (b : List T) (Z : Sto) : tyT (.tup b) Z = some "tuple" := (rfl)
@[simp] theorem ty_frl (b : List T) (Z : Sto) : tyT (.frl b) Z = some "list" := (rfl)
@[simp] theorem isiB (t : T) (n : String) (Z : Sto) : gIsiB t (.ty n) Z = (tyT t Z).bind fun a => kitB a n := by
  simp only [gIsiB,clsT]
  cases tyT t Z <;> rfl
@[simp] theorem isi_1 (t : T) (n : String) (Z : Sto) : gIsi [t,.ty n] Z = ((tyT t Z).bind fun a => kitB a n).map fun b => (.bl b,Z) := by
  simp only [gIsi,isiB]
@[simp] theorem isi_2 (t : T) (n m : String) (Z : Sto) : gIsi [t,.tup [.ty n,.ty m]] Z = if (tyT t Z).isSome = true then (((tyT t Z).bind fun a => kitB a n).bind fun b => ((tyT t Z).bind fun a => kitB a m).map fun c => (.bl (b || c),Z)) else none := by
  simp only [gIsi,List.mapM_cons,List.mapM_nil,isiB]
  cases tyT t Z with
  | none => rfl
  | some a =>
    simp only [Option.bind_some,Option.isSome_some,if_true]
    cases kitB a n <;> cases kitB a m <;> simp
def loopF (body : T → FS) : List T → Env → Sto → RS
  | [],ρ,Z => .nx ρ Z
  | t :: ts, ρ, Z => seqL (body t ρ Z) fun ρ' Z' => loopF body ts ρ' Z'
theorem Zb0 (ts : List T) (body : T → FS) : ∀ (n k : Nat) (ρ : Env) (Z : Sto),ts.length < n + k → k ≤ ts.length → loopN (itSeq ts) body n k ρ Z = loopF body (ts.drop k) ρ Z
  | 0,k,ρ,Z,h,_ => by omega
  | n + 1,k,ρ,Z,h,_ => by
    unfold loopN
    simp only [itSeq]
    cases e : ts[k]? with
    | none =>
      rw [List.drop_of_length_le (List.getElem?_eq_none_iff.mp e)]; rfl
    | some t =>
      have hk := (List.getElem?_eq_some_iff.mp e).1
      rw [List.drop_eq_getElem_cons hk]
      have e2 : ts[k] = t := (List.getElem?_eq_some_iff.mp e).2
      rw [e2]
      simp only [loopF]
      congr 1
      funext ρ' Z'
      exact Zb0 ts body n (k + 1) ρ' Z' (by omega) hk
theorem Zb1 (lo : Int) (m : Nat) (body : T → FS) : ∀ (n k : Nat) (ρ : Env) (Z : Sto), m < n + k → k ≤ m → loopN (itRng lo m) body n k ρ Z = loopF body ((List.range' k (m - k)).map fun (i : Nat) => T.int (lo + (i : Int))) ρ Z
  | 0,k,ρ,Z,h,_ => by omega
  | n + 1,k,ρ,Z,h,_ => by
    unfold loopN
    simp only [itRng]
    by_cases hk : k < m
    · rw [if_pos hk]
      have e : m - k = (m - (k + 1)) + 1 := by omega
      rw [e, List.range'_succ, List.map_cons]
      simp only [loopF]
      congr 1
      funext ρ' Z'
      exact Zb1 lo m body n (k + 1) ρ' Z' (by omega) hk
    · rw [if_neg hk]
      have : m - k = 0 := by omega
      rw [this]; rfl
theorem Z76 {body : T → FS} {ts : List T} (I : List T → Env → Sto → Prop) (Rt : T → Sto → Prop) : ∀ {pre : List T} {post : List T} {ρ : Env} {Z : Sto},ts = pre ++ post → I pre ρ Z →
    (∀ pre x post ρ Z, ts = pre ++ x :: post → I pre ρ Z → (∃ ρ' Z', (body x ρ Z = .nx ρ' Z' ∨ body x ρ Z = .ct ρ' Z') ∧ I (pre ++ [x]) ρ' Z') ∨ (∃ t Z', body x ρ Z = .rt t Z' ∧ Rt t Z')) →
    (∃ ρ' Z', loopF body post ρ Z = .nx ρ' Z' ∧ I ts ρ' Z') ∨ (∃ t Z', loopF body post ρ Z = .rt t Z' ∧ Rt t Z') := by
  intro pre post
  induction post generalizing pre with
  | nil =>
    intro ρ Z e i _
    rw [List.append_nil] at e
    exact .inl ⟨ρ,Z,rfl,by rw [e]; exact i⟩
  | cons x post ih =>
    intro ρ Z e i h
    rcases h pre x post ρ Z e i with ⟨ρ', Z', hb, i'⟩ | ⟨t, Z', hb, hr⟩
    · have e2 : loopF body (x :: post) ρ Z = loopF body post ρ' Z' := by
        rcases hb with hb | hb <;> simp only [loopF,hb,Zbw,Ze5]
      rw [e2]
      exact ih (by rw [e, List.append_assoc]; rfl) i' h
    · refine .inr ⟨t, Z', ?_, hr⟩
      simp only [loopF,hb,Zhs]
theorem Zev {body : T → FS} {ts : List T} (I : List T → Env → Sto → Prop) {ρ : Env} {Z : Sto} (h0 : I [] ρ Z) (h : ∀ pre x post ρ Z, ts = pre ++ x :: post → I pre ρ Z → ∃ ρ' Z', (body x ρ Z = .nx ρ' Z' ∨ body x ρ Z = .ct ρ' Z') ∧ I (pre ++ [x]) ρ' Z') :
    ∃ ρ' Z', loopF body ts ρ Z = .nx ρ' Z' ∧ I ts ρ' Z' := by
  rcases Z76 I (fun _ _ => False) (pre := []) (post := ts) rfl h0 (fun pre x post ρ Z e i => .inl (h pre x post ρ Z e i)) with h | ⟨_,_,_,h⟩
  · exact h
  · exact h.elim
@[simp] theorem mulOk_r (i j : Int) (h1 : -(2 ^ 64) < j) (h2 : j < 2 ^ 64) : mulOk i j = true := by simp only [mulOk,decide_eq_true h1,decide_eq_true h2,Bool.and_true,Bool.or_true]
@[simp] theorem Zid (i j : Int) (h1 : -(2 ^ 64) < i) (h2 : i < 2 ^ 64) : mulOk i j = true := by simp only [mulOk,decide_eq_true h1,decide_eq_true h2,Bool.and_true,Bool.true_or]
@[simp] theorem Z8u (x y m : Int) (h1 : 0 < m) (h2 : m ≤ 2 ^ 64) : mulOk (x % m) y = true := Zid _ _ (by have := Int.emod_nonneg x (Int.ne_of_gt h1); omega) (by have := Int.emod_lt_of_pos x h1; omega)
@[simp] theorem ixN3_0 : ixN 3 0 = some 0 := (rfl)
@[simp] theorem ixN3_1 : ixN 3 1 = some 1 := (rfl)
@[simp] theorem ixN3_2 : ixN 3 2 = some 2 := (rfl)
theorem modN (x : Int) {n : Nat} (h : 0 < n) : ∃ r : Nat,r < n ∧ x % (n : Int) = (r : Int) :=
  ⟨(x % n).toNat,by have := Int.emod_lt_of_pos x (by omega : (0 : Int) < n); have := Int.emod_nonneg x (by omega : (n : Int) ≠ 0); omega,by have := Int.emod_nonneg x (by omega : (n : Int) ≠ 0); omega⟩
def StayL (i : Nat) (us : List T) (body : T → FS) : List T → Env → Sto → Prop
  | [],_,Z => getL Z i = some us
  | t :: r,ρ,Z => getL Z i = some us ∧ match body t ρ Z with
    | .nx ρ' Z' => StayL i us body r ρ' Z'
    | .ct ρ' Z' => StayL i us body r ρ' Z'
    | _ => True
theorem Z5j {i : Nat} {ts : List T} {body : T → FS} : ∀ (n k : Nat) (ρ : Env) (Z : Sto),ts.length < n + k → k ≤ ts.length → StayL i ts body (ts.drop k) ρ Z → loopN (itLoc i) body n k ρ Z = loopF body (ts.drop k) ρ Z
  | 0,k,ρ,Z,h,_,_ => by omega
  | n + 1,k,ρ,Z,h,_,hs => by
    unfold loopN
    cases e : ts[k]? with
    | none =>
      rw [List.drop_of_length_le (List.getElem?_eq_none_iff.mp e)] at hs ⊢
      simp only [itLoc,show getL Z i = some ts from hs,Option.map_some,e]; rfl
    | some t =>
      have hk := (List.getElem?_eq_some_iff.mp e).1
      have e2 : ts[k] = t := (List.getElem?_eq_some_iff.mp e).2
      rw [List.drop_eq_getElem_cons hk,e2] at hs ⊢
      obtain ⟨h1,h2⟩ := hs
      simp only [itLoc,h1,Option.map_some,e,loopF]
      cases eb : body t ρ Z with
      | nx ρ' Z' => rw [eb] at h2; simp only [Zbw]; exact Z5j n (k + 1) ρ' Z' (by omega) hk h2
      | ct ρ' Z' => rw [eb] at h2; simp only [Ze5]; exact Z5j n (k + 1) ρ' Z' (by omega) hk h2
      | _ => rfl
theorem Zdk {i : Nat} {ts : List T} {body : T → FS} {ρ : Env} {Z : Sto} (h : ts.length ≤ Lim) (hs : StayL i ts body ts ρ Z) : loopN (itLoc i) body Fuel 0 ρ Z = loopF body ts ρ Z := by
  rw [Z59]; exact Z5j (ts := ts) (Lim + 2) 0 ρ Z (by omega) (Nat.zero_le _) hs
theorem Zdl {ts : List T} {body : T → FS} {ρ : Env} {Z : Sto} (h : ts.length ≤ Lim) : loopN (itSeq ts) body Fuel 0 ρ Z = loopF body ts ρ Z := by
  rw [Z59]; exact Zb0 ts body (Lim + 2) 0 ρ Z (by omega) (Nat.zero_le _)
theorem Zdm {lo : Int} {m : Nat} {body : T → FS} {ρ : Env} {Z : Sto} (h : m ≤ Lim) : loopN (itRng lo m) body Fuel 0 ρ Z = loopF body ((List.range m).map fun (i : Nat) => T.int (lo + (i : Int))) ρ Z := by
  rw [Z59, Zb1 lo m body (Lim + 2) 0 ρ Z (by omega) (Nat.zero_le _), Nat.sub_zero, List.range_eq_range']
end Fx
set_option maxHeartbeats 4000000
namespace Fx
open PySem PySem.Spec PyProof.Rows L2 SX Ap
def Wel (Z : Sto) (w : Nat) : Prop := ∃ a b c : Int,getL Z w = some [.int a,.int b,.int c]
structure Kp (w : Nat) (Z Z' : Sto) : Prop where
  wel : Wel Z' w
  len : Z.length ≤ Z'.length
  keep : ∀ i, i < Z.length → i ≠ w → Z'[i]? = Z[i]?
theorem Wel.lt {Z : Sto} {w : Nat} (h : Wel Z w) : w < Z.length := by obtain ⟨_,_,_,h⟩ := h; exact Z75 h
theorem Kp.refl {w : Nat} {Z : Sto} (h : Wel Z w) : Kp w Z Z := ⟨h,Nat.le_refl _,fun _ _ _ => rfl⟩
theorem Kp.trans {w : Nat} {Z Z1 Z2 : Sto} (a : Kp w Z Z1) (b : Kp w Z1 Z2) : Kp w Z Z2 :=
  ⟨b.wel,Nat.le_trans a.len b.len,fun i hi hn => (b.keep i (Nat.lt_of_lt_of_le hi a.len) hn).trans (a.keep i hi hn)⟩
theorem Kp.new {w : Nat} {Z Y : Sto} (h : Wel Z w) : Kp w Z (Z ++ Y) := by
  refine ⟨?_,by rw [List.length_append]; omega,fun i hi _ => List.getElem?_append_left hi⟩
  obtain ⟨a,b,c,e⟩ := h
  exact ⟨a,b,c,Np e⟩
theorem Kp.turn {w : Nat} {Z : Sto} {a b c : Int} (h : Wel Z w) : Kp w Z (Z.set w (.lst [.int a,.int b,.int c])) := by
  obtain ⟨x,y,z,e⟩ := h
  exact ⟨⟨a,b,c,Z19 e⟩,by rw [List.length_set]; omega,fun i _ hn => List.getElem?_set_ne (Ne.symm hn)⟩
theorem Kp.set {w i : Nat} {Z : Sto} {o : O} (h : Wel Z w) (hi : i ≠ w) : Wel (Z.set i o) w := by
  obtain ⟨x,y,z,e⟩ := h
  exact ⟨x,y,z,by rw [Zc6 hi]; exact e⟩
theorem Kp.getL {w i : Nat} {Z Z' : Sto} {ts : List T} (k : Kp w Z Z') (hn : i ≠ w) (h : getL Z i = some ts) : getL Z' i = some ts := by
  rw [Z2l] at h ⊢
  rw [k.keep i (List.getElem?_eq_some_iff.mp h).1 hn]; exact h
@[simp] theorem Zgk (Z Y : Sto) (k : Nat) : getL (Z ++ Y) (Z.length + k) = getL Y k := by
  unfold getL
  rw [List.getElem?_append_right (by omega),Nat.add_sub_cancel_left]
@[simp] theorem Zjq (Z Y : Sto) : getL (Z ++ Y) Z.length = getL Y 0 := Zgk Z Y 0
@[simp] theorem getL_c0 (ts : List T) (Y : Sto) : getL (.lst ts :: Y) 0 = some ts := (rfl)
@[simp] theorem getL_cS (o : O) (Y : Sto) (k : Nat) : getL (o :: Y) (k + 1) = getL Y k := (rfl)
@[simp] theorem getL_c1 (o : O) (Y : Sto) : getL (o :: Y) 1 = getL Y 0 := (rfl)
@[simp] theorem getL_c2 (o : O) (Y : Sto) : getL (o :: Y) 2 = getL Y 1 := (rfl)
@[simp] theorem getL_c3 (o : O) (Y : Sto) : getL (o :: Y) 3 = getL Y 2 := (rfl)
@[simp] theorem getL_c4 (o : O) (Y : Sto) : getL (o :: Y) 4 = getL Y 3 := (rfl)
@[simp] theorem getL_c5 (o : O) (Y : Sto) : getL (o :: Y) 5 = getL Y 4 := (rfl)
@[simp] theorem getL_c6 (o : O) (Y : Sto) : getL (o :: Y) 6 = getL Y 5 := (rfl)
@[simp] theorem getL_c7 (o : O) (Y : Sto) : getL (o :: Y) 7 = getL Y 6 := (rfl)
@[simp] theorem getL_c8 (o : O) (Y : Sto) : getL (o :: Y) 8 = getL Y 7 := (rfl)
@[simp] theorem getL_c9 (o : O) (Y : Sto) : getL (o :: Y) 9 = getL Y 8 := (rfl)
@[simp] theorem getL_c10 (o : O) (Y : Sto) : getL (o :: Y) 10 = getL Y 9 := (rfl)
@[simp] theorem getL_c11 (o : O) (Y : Sto) : getL (o :: Y) 11 = getL Y 10 := (rfl)
@[simp] theorem getL_c12 (o : O) (Y : Sto) : getL (o :: Y) 12 = getL Y 11 := (rfl)
@[simp] theorem Zie (Z Y : Sto) (k : Nat) (o : O) : (Z ++ Y).set (Z.length + k) o = Z ++ Y.set k o := by
  rw [List.set_append_right _ _ (by omega),Nat.add_sub_cancel_left]
@[simp] theorem set_add0 (Z Y : Sto) (o : O) : (Z ++ Y).set Z.length o = Z ++ Y.set 0 o := Zie Z Y 0 o
@[simp] theorem Zgl (n : String) (Z Y : Sto) (k : Nat) : isTy n (.loc (Z.length + k)) (Z ++ Y) = isTy n (.loc k) Y := by
  simp only [isTy]
  rw [List.getElem?_append_right (by omega),Nat.add_sub_cancel_left]
@[simp] theorem Zjr (n : String) (Z Y : Sto) : isTy n (.loc Z.length) (Z ++ Y) = isTy n (.loc 0) Y := Zgl n Z Y 0
@[simp] theorem Zif (Z Y : Sto) (k : Nat) : tyT (.loc (Z.length + k)) (Z ++ Y) = tyT (.loc k) Y := by
  simp only [tyT]
  rw [List.getElem?_append_right (by omega),Nat.add_sub_cancel_left]
@[simp] theorem tyT_add0 (Z Y : Sto) : tyT (.loc Z.length) (Z ++ Y) = tyT (.loc 0) Y := Zif Z Y 0
def OkW (r : R T) (P : T → Sto → Prop) : Prop := match r with
  | .ok t Z => P t Z
  | _ => False
@[simp] theorem okW_ok (t : T) (Z : Sto) (P : T → Sto → Prop) : OkW (.ok t Z) P = P t Z := (rfl)
theorem OkW.out {r : R T} {P : T → Sto → Prop} (h : OkW r P) : ∃ t Z,r = .ok t Z ∧ P t Z := by
  cases r with
  | ok t Z => exact ⟨t,Z,rfl,h⟩
  | _ => exact h.elim
@[simp] theorem lim_0 : (0 ≤ Lim) := by decide
@[simp] theorem limlt_0 : (0 < Lim) := by decide
@[simp] theorem lim_1 : (1 ≤ Lim) := by decide
@[simp] theorem limlt_1 : (1 < Lim) := by decide
@[simp] theorem lim_2 : (2 ≤ Lim) := by decide
@[simp] theorem limlt_2 : (2 < Lim) := by decide
@[simp] theorem lim_3 : (3 ≤ Lim) := by decide
@[simp] theorem limlt_3 : (3 < Lim) := by decide
@[simp] theorem lim_4 : (4 ≤ Lim) := by decide
@[simp] theorem limlt_4 : (4 < Lim) := by decide
@[simp] theorem lim_5 : (5 ≤ Lim) := by decide
@[simp] theorem limlt_5 : (5 < Lim) := by decide
@[simp] theorem lim_6 : (6 ≤ Lim) := by decide
@[simp] theorem limlt_6 : (6 < Lim) := by decide
@[simp] theorem lim_7 : (7 ≤ Lim) := by decide
@[simp] theorem limlt_7 : (7 < Lim) := by decide
@[simp] theorem lim_8 : (8 ≤ Lim) := by decide
@[simp] theorem limlt_8 : (8 < Lim) := by decide
@[simp] theorem lim_9 : (9 ≤ Lim) := by decide
@[simp] theorem limlt_9 : (9 < Lim) := by decide
@[simp] theorem lim_10 : (10 ≤ Lim) := by decide
@[simp] theorem limlt_10 : (10 < Lim) := by decide
@[simp] theorem lim_11 : (11 ≤ Lim) := by decide
@[simp] theorem limlt_11 : (11 < Lim) := by decide
@[simp] theorem lim_12 : (12 ≤ Lim) := by decide
@[simp] theorem limlt_12 : (12 < Lim) := by decide
@[simp] theorem lim_13 : (13 ≤ Lim) := by decide
@[simp] theorem limlt_13 : (13 < Lim) := by decide
@[simp] theorem lim_14 : (14 ≤ Lim) := by decide
@[simp] theorem limlt_14 : (14 < Lim) := by decide
@[simp] theorem lim_15 : (15 ≤ Lim) := by decide
@[simp] theorem limlt_15 : (15 < Lim) := by decide
@[simp] theorem lim_16 : (16 ≤ Lim) := by decide
@[simp] theorem limlt_16 : (16 < Lim) := by decide
@[simp] theorem lim_17 : (17 ≤ Lim) := by decide
@[simp] theorem limlt_17 : (17 < Lim) := by decide
@[simp] theorem lim_18 : (18 ≤ Lim) := by decide
@[simp] theorem limlt_18 : (18 < Lim) := by decide
@[simp] theorem lim_19 : (19 ≤ Lim) := by decide
@[simp] theorem limlt_19 : (19 < Lim) := by decide
@[simp] theorem lim_20 : (20 ≤ Lim) := by decide
@[simp] theorem limlt_20 : (20 < Lim) := by decide
@[simp] theorem lim_21 : (21 ≤ Lim) := by decide
@[simp] theorem limlt_21 : (21 < Lim) := by decide
@[simp] theorem lim_22 : (22 ≤ Lim) := by decide
@[simp] theorem limlt_22 : (22 < Lim) := by decide
@[simp] theorem lim_23 : (23 ≤ Lim) := by decide
@[simp] theorem limlt_23 : (23 < Lim) := by decide
@[simp] theorem lim_24 : (24 ≤ Lim) := by decide
@[simp] theorem limlt_24 : (24 < Lim) := by decide
@[simp] theorem lim_25 : (25 ≤ Lim) := by decide
@[simp] theorem limlt_25 : (25 < Lim) := by decide
@[simp] theorem lim_26 : (26 ≤ Lim) := by decide
@[simp] theorem limlt_26 : (26 < Lim) := by decide
@[simp] theorem lim_27 : (27 ≤ Lim) := by decide
@[simp] theorem limlt_27 : (27 < Lim) := by decide
@[simp] theorem lim_28 : (28 ≤ Lim) := by decide
@[simp] theorem limlt_28 : (28 < Lim) := by decide
@[simp] theorem lim_29 : (29 ≤ Lim) := by decide
@[simp] theorem limlt_29 : (29 < Lim) := by decide
@[simp] theorem lim_30 : (30 ≤ Lim) := by decide
@[simp] theorem limlt_30 : (30 < Lim) := by decide
@[simp] theorem lim_31 : (31 ≤ Lim) := by decide
@[simp] theorem limlt_31 : (31 < Lim) := by decide
@[simp] theorem lim_32 : (32 ≤ Lim) := by decide
@[simp] theorem limlt_32 : (32 < Lim) := by decide
@[simp] theorem lim_33 : (33 ≤ Lim) := by decide
@[simp] theorem limlt_33 : (33 < Lim) := by decide
@[simp] theorem lim_34 : (34 ≤ Lim) := by decide
@[simp] theorem limlt_34 : (34 < Lim) := by decide
@[simp] theorem lim_35 : (35 ≤ Lim) := by decide
@[simp] theorem limlt_35 : (35 < Lim) := by decide
@[simp] theorem lim_36 : (36 ≤ Lim) := by decide
@[simp] theorem limlt_36 : (36 < Lim) := by decide
@[simp] theorem lim_37 : (37 ≤ Lim) := by decide
@[simp] theorem limlt_37 : (37 < Lim) := by decide
@[simp] theorem lim_38 : (38 ≤ Lim) := by decide
@[simp] theorem limlt_38 : (38 < Lim) := by decide
@[simp] theorem lim_39 : (39 ≤ Lim) := by decide
@[simp] theorem limlt_39 : (39 < Lim) := by decide
@[simp] theorem lim_40 : (40 ≤ Lim) := by decide
@[simp] theorem limlt_40 : (40 < Lim) := by decide
@[simp] theorem lim_41 : (41 ≤ Lim) := by decide
@[simp] theorem limlt_41 : (41 < Lim) := by decide
@[simp] theorem lim_42 : (42 ≤ Lim) := by decide
@[simp] theorem limlt_42 : (42 < Lim) := by decide
@[simp] theorem lim_43 : (43 ≤ Lim) := by decide
@[simp] theorem limlt_43 : (43 < Lim) := by decide
@[simp] theorem lim_44 : (44 ≤ Lim) := by decide
@[simp] theorem limlt_44 : (44 < Lim) := by decide
@[simp] theorem lim_45 : (45 ≤ Lim) := by decide
@[simp] theorem limlt_45 : (45 < Lim) := by decide
@[simp] theorem lim_46 : (46 ≤ Lim) := by decide
@[simp] theorem limlt_46 : (46 < Lim) := by decide
@[simp] theorem lim_47 : (47 ≤ Lim) := by decide
@[simp] theorem limlt_47 : (47 < Lim) := by decide
@[simp] theorem lim_48 : (48 ≤ Lim) := by decide
@[simp] theorem limlt_48 : (48 < Lim) := by decide
@[simp] theorem isTy_c1 (n : String) (o : O) (Y : Sto) : isTy n (.loc 1) (o :: Y) = isTy n (.loc 0) Y := (rfl)
@[simp] theorem isTy_c2 (n : String) (o : O) (Y : Sto) : isTy n (.loc 2) (o :: Y) = isTy n (.loc 1) Y := (rfl)
@[simp] theorem isTy_c3 (n : String) (o : O) (Y : Sto) : isTy n (.loc 3) (o :: Y) = isTy n (.loc 2) Y := (rfl)
@[simp] theorem isTy_c4 (n : String) (o : O) (Y : Sto) : isTy n (.loc 4) (o :: Y) = isTy n (.loc 3) Y := (rfl)
@[simp] theorem isTy_c5 (n : String) (o : O) (Y : Sto) : isTy n (.loc 5) (o :: Y) = isTy n (.loc 4) Y := (rfl)
@[simp] theorem isTy_c6 (n : String) (o : O) (Y : Sto) : isTy n (.loc 6) (o :: Y) = isTy n (.loc 5) Y := (rfl)
@[simp] theorem isTy_c7 (n : String) (o : O) (Y : Sto) : isTy n (.loc 7) (o :: Y) = isTy n (.loc 6) Y := (rfl)
@[simp] theorem isTy_c8 (n : String) (o : O) (Y : Sto) : isTy n (.loc 8) (o :: Y) = isTy n (.loc 7) Y := (rfl)
@[simp] theorem isTy_c9 (n : String) (o : O) (Y : Sto) : isTy n (.loc 9) (o :: Y) = isTy n (.loc 8) Y := (rfl)
@[simp] theorem isTy_c10 (n : String) (o : O) (Y : Sto) : isTy n (.loc 10) (o :: Y) = isTy n (.loc 9) Y := (rfl)
@[simp] theorem isTy_c11 (n : String) (o : O) (Y : Sto) : isTy n (.loc 11) (o :: Y) = isTy n (.loc 10) Y := (rfl)
@[simp] theorem isTy_c12 (n : String) (o : O) (Y : Sto) : isTy n (.loc 12) (o :: Y) = isTy n (.loc 11) Y := (rfl)
@[simp] theorem tyT_c1 (o : O) (Y : Sto) : tyT (.loc 1) (o :: Y) = tyT (.loc 0) Y := (rfl)
@[simp] theorem tyT_c2 (o : O) (Y : Sto) : tyT (.loc 2) (o :: Y) = tyT (.loc 1) Y := (rfl)
@[simp] theorem tyT_c3 (o : O) (Y : Sto) : tyT (.loc 3) (o :: Y) = tyT (.loc 2) Y := (rfl)
@[simp] theorem tyT_c4 (o : O) (Y : Sto) : tyT (.loc 4) (o :: Y) = tyT (.loc 3) Y := (rfl)
@[simp] theorem tyT_c5 (o : O) (Y : Sto) : tyT (.loc 5) (o :: Y) = tyT (.loc 4) Y := (rfl)
@[simp] theorem tyT_c6 (o : O) (Y : Sto) : tyT (.loc 6) (o :: Y) = tyT (.loc 5) Y := (rfl)
@[simp] theorem tyT_c7 (o : O) (Y : Sto) : tyT (.loc 7) (o :: Y) = tyT (.loc 6) Y := (rfl)
@[simp] theorem tyT_c8 (o : O) (Y : Sto) : tyT (.loc 8) (o :: Y) = tyT (.loc 7) Y := (rfl)
@[simp] theorem tyT_c9 (o : O) (Y : Sto) : tyT (.loc 9) (o :: Y) = tyT (.loc 8) Y := (rfl)
@[simp] theorem tyT_c10 (o : O) (Y : Sto) : tyT (.loc 10) (o :: Y) = tyT (.loc 9) Y := (rfl)
@[simp] theorem tyT_c11 (o : O) (Y : Sto) : tyT (.loc 11) (o :: Y) = tyT (.loc 10) Y := (rfl)
@[simp] theorem tyT_c12 (o : O) (Y : Sto) : tyT (.loc 12) (o :: Y) = tyT (.loc 11) Y := (rfl)
@[simp] theorem isTy_c0 (ts : List T) (Y : Sto) : isTy "list" (.loc 0) (.lst ts :: Y) = true := (rfl)
@[simp] theorem tyT_c0 (ts : List T) (Y : Sto) : tyT (.loc 0) (.lst ts :: Y) = some "list" := (rfl)
@[simp] theorem tyT_c0k (ts : List (Key × T)) (Y : Sto) : tyT (.loc 0) (.dk ts :: Y) = some "dict" := (rfl)
abbrev StepI (body : T → FS) (ts : List T) (I : List T → Env → Sto → Prop) (Rt : T → Sto → Prop) : Prop :=
  ∀ pre x post ρ Z, ts = pre ++ x :: post → I pre ρ Z → (∃ ρ' Z', (body x ρ Z = .nx ρ' Z' ∨ body x ρ Z = .ct ρ' Z') ∧ I (pre ++ [x]) ρ' Z') ∨ (∃ t Z', body x ρ Z = .rt t Z' ∧ Rt t Z')
theorem Zct {i : Nat} {ts : List T} {body : T → FS} {I : List T → Env → Sto → Prop} {Rt : T → Sto → Prop} (hI : ∀ pre ρ Z,I pre ρ Z → getL Z i = some ts) (h : StepI body ts I Rt) : ∀ (post : List T) {pre : List T} {ρ : Env} {Z : Sto},ts = pre ++ post → I pre ρ Z → StayL i ts body post ρ Z
  | [],pre,ρ,Z,e,k => hI _ _ _ k
  | x :: post,pre,ρ,Z,e,k => by
    refine ⟨hI _ _ _ k,?_⟩
    rcases h pre x post ρ Z e k with ⟨ρ', Z', hb, k'⟩ | ⟨t, Z', hb, _⟩
    · have := Zct hI h post (by rw [e, List.append_assoc]; rfl) k'
      rcases hb with hb | hb <;> rw [hb] <;> exact this
    · rw [hb]; trivial
theorem Zew {i : Nat} {ts : List T} {body : T → FS} {ρ : Env} {Z : Sto} (I : List T → Env → Sto → Prop) (Rt : T → Sto → Prop) (hl : ts.length ≤ Lim) (hI : ∀ pre ρ Z,I pre ρ Z → getL Z i = some ts) (h0 : I [] ρ Z) (h : StepI body ts I Rt) :
    (∃ ρ' Z', loopN (itLoc i) body Fuel 0 ρ Z = .nx ρ' Z' ∧ I ts ρ' Z') ∨ (∃ t Z', loopN (itLoc i) body Fuel 0 ρ Z = .rt t Z' ∧ Rt t Z') := by
  rw [Zdk hl (Zct hI h ts rfl h0)]
  exact Z76 I Rt (pre := []) rfl h0 h
theorem Zex {ts : List T} {body : T → FS} {ρ : Env} {Z : Sto} (I : List T → Env → Sto → Prop) (Rt : T → Sto → Prop) (hl : ts.length ≤ Lim) (h0 : I [] ρ Z) (h : StepI body ts I Rt) :
    (∃ ρ' Z', loopN (itSeq ts) body Fuel 0 ρ Z = .nx ρ' Z' ∧ I ts ρ' Z') ∨ (∃ t Z', loopN (itSeq ts) body Fuel 0 ρ Z = .rt t Z' ∧ Rt t Z') := by
  rw [Zdl hl]
  exact Z76 I Rt (pre := []) rfl h0 h
theorem Zey {i : Nat} {ts : List T} {body : T → FS} {ρ : Env} {Z : Sto} (I : Env → Sto → Prop) (hl : ts.length ≤ Lim) (hI : ∀ ρ Z, I ρ Z → getL Z i = some ts) (h0 : I ρ Z) (h : ∀ x ∈ ts, ∀ ρ Z, I ρ Z → ∃ ρ' Z', body x ρ Z = .nx ρ' Z' ∧ I ρ' Z') :
    ∃ ρ' Z', loopN (itLoc i) body Fuel 0 ρ Z = .nx ρ' Z' ∧ I ρ' Z' := by
  rcases Zew (ts := ts) (fun _ => I) (fun _ _ => False) hl (fun _ => hI) h0 (fun pre x post ρ Z e k => by
    obtain ⟨ρ', Z', hb, k'⟩ := h x (by rw [e]; simp) ρ Z k
    exact .inl ⟨ρ', Z', .inl hb, k'⟩) with r | ⟨_, _, _, r⟩
  · exact r
  · exact r.elim
theorem Zb2 {ts : List T} {body : T → FS} {ρ : Env} {Z : Sto} (I : Env → Sto → Prop) (hl : ts.length ≤ Lim) (h0 : I ρ Z) (h : ∀ x ∈ ts, ∀ ρ Z, I ρ Z → ∃ ρ' Z', body x ρ Z = .nx ρ' Z' ∧ I ρ' Z') :
    ∃ ρ' Z', loopN (itSeq ts) body Fuel 0 ρ Z = .nx ρ' Z' ∧ I ρ' Z' := by
  rcases Zex (ts := ts) (fun _ => I) (fun _ _ => False) hl h0 (fun pre x post ρ Z e k => by
    obtain ⟨ρ', Z', hb, k'⟩ := h x (by rw [e]; simp) ρ Z k
    exact .inl ⟨ρ', Z', .inl hb, k'⟩) with r | ⟨_, _, _, r⟩
  · exact r
  · exact r.elim
theorem Zez {m : Nat} {body : T → FS} {ρ : Env} {Z : Sto} (I : Env → Sto → Prop) (hl : m ≤ Lim) (h0 : I ρ Z) (h : ∀ k < m, ∀ ρ Z, I ρ Z → ∃ ρ' Z', body (.int (k : Int)) ρ Z = .nx ρ' Z' ∧ I ρ' Z') :
    ∃ ρ' Z', loopN (itRng 0 m) body Fuel 0 ρ Z = .nx ρ' Z' ∧ I ρ' Z' := by
  rw [Zdm hl]
  refine Zev (fun _ => I) h0 fun pre x post ρ Z e k => ?_
  have hx : x ∈ (List.range m).map fun (i : Nat) => T.int ((0 : Int) + (i : Int)) := by rw [e]; simp
  obtain ⟨j,hj,rfl⟩ := List.mem_map.mp hx
  obtain ⟨ρ', Z', hb, k'⟩ := h j (List.mem_range.mp hj) ρ Z k
  refine ⟨ρ', Z', .inl ?_, k'⟩
  rw [Int.zero_add]; exact hb
end Fx
set_option maxHeartbeats 4000000
namespace Fx
open PySem PySem.Spec PyProof.Rows L2 SX Ap
theorem Z5k {it : ItF} {D : Nat} {put : T → Option Env} {c : FT} {e : FE} {ts : List T} (I : List T → List T → Sto → Prop) (hit : ∀ pre acc Z,pre.length ≤ ts.length → I pre acc Z → it pre.length Z = some ts[pre.length]?) (hI : ∀ pre acc Z,I pre acc Z → getL Z D = some acc)
    (h : ∀ pre x post acc Z,ts = pre ++ x :: post → I pre acc Z → ∃ ρ,put x = some ρ ∧ ((∃ Z1,c ρ Z = .ok false Z1 ∧ I (pre ++ [x]) acc Z1) ∨ ∃ Z1 y Z2,c ρ Z = .ok true Z1 ∧ e ρ Z1 = .ok y Z2 ∧ getL Z2 D = some acc ∧ I (pre ++ [x]) (acc ++ [y]) (Z2.set D (.lst (acc ++ [y]))))) :
    ∀ (post pre acc : List T) (Z : Sto) (n : Nat), ts = pre ++ post → ts.length < n + pre.length → acc.length + post.length ≤ Lim → I pre acc Z → ∃ acc' Z', loopC it D put c e n pre.length Z = .ok (.loc D) Z' ∧ I ts acc' Z'
  | [],pre,acc,Z,n,et,hn,hl,hi => by
    rw [List.append_nil] at et
    subst et
    cases n with
    | zero => omega
    | succ n =>
      refine ⟨acc,Z,?_,hi⟩
      unfold loopC
      rw [hit _ _ _ (Nat.le_refl _) hi,List.getElem?_eq_none (Nat.le_refl _)]
  | x :: post,pre,acc,Z,n,et,hn,hl,hi => by
    cases n with
    | zero =>
      have : ts.length = pre.length + (post.length + 1) := by rw [et,List.length_append,List.length_cons]
      omega
    | succ n =>
      have hlen : ts.length = pre.length + (post.length + 1) := by rw [et,List.length_append,List.length_cons]
      have hx : ts[pre.length]? = some x := by rw [et,List.getElem?_append_right (Nat.le_refl _),Nat.sub_self]; rfl
      obtain ⟨ρ,hp,hh⟩ := h pre x post acc Z et hi
      have et2 : ts = (pre ++ [x]) ++ post := by rw [et,List.append_assoc]; rfl
      have hl2 : (pre ++ [x]).length = pre.length + 1 := by rw [List.length_append]; rfl
      unfold loopC
      rw [hit _ _ _ (by omega) hi,hx]
      simp only [hp]
      rcases hh with ⟨Z1,hc,i1⟩ | ⟨Z1,y,Z2,hc,he,hg,i1⟩
      · rw [hc]
        simp only [Zcs,Xq,Bool.false_eq_true,if_false]
        rw [List.length_cons] at hl
        have := Z5k I hit hI h post (pre ++ [x]) acc Z1 n et2 (by omega) (by omega) i1
        rw [hl2] at this
        exact this
      · rw [hc]
        rw [List.length_cons] at hl
        simp only [Zcs,Xq,if_true,he,hg]
        rw [if_pos (by omega)]
        have := Z5k I hit hI h post (pre ++ [x]) (acc ++ [y]) _ n et2 (by omega) (by rw [List.length_append,List.length_singleton]; omega) i1
        rw [hl2] at this
        exact this
theorem Zf0 {it : ItF} {D : Nat} {put : T → Option Env} {c : FT} {e : FE} {ts : List T} (hit : ∀ k Z,k ≤ ts.length → it k Z = some ts[k]?) (I : List T → List T → Sto → Prop) (hI : ∀ pre acc Z,I pre acc Z → getL Z D = some acc)
    (h : ∀ pre x post acc Z, ts = pre ++ x :: post → I pre acc Z → ∃ ρ, put x = some ρ ∧ ((∃ Z1, c ρ Z = .ok false Z1 ∧ I (pre ++ [x]) acc Z1) ∨ ∃ Z1 y Z2, c ρ Z = .ok true Z1 ∧ e ρ Z1 = .ok y Z2 ∧ getL Z2 D = some acc ∧ I (pre ++ [x]) (acc ++ [y]) (Z2.set D (.lst (acc ++ [y]))))) (post pre acc : List T) (Z : Sto) (n : Nat) (e1 : ts = pre ++ post) (e2 : ts.length < n + pre.length) (e3 : acc.length + post.length ≤ Lim) (e4 : I pre acc Z) : ∃ acc' Z', loopC it D put c e n pre.length Z = .ok (.loc D) Z' ∧ I ts acc' Z' :=
  Z5k I (fun pre acc Z hl _ => hit _ _ hl) hI h post pre acc Z n e1 e2 e3 e4
theorem Zdn {it : ItF} {put : T → Option Env} {c : FT} {e : FE} {ts : List T} {Z1 : Sto} (hit : ∀ k Z,k ≤ ts.length → it k Z = some ts[k]?) (hl : ts.length ≤ Lim) (p : T → Bool) (f : T → T)
    (h : ∀ x ∈ ts,∃ ρ,put x = some ρ ∧ ∀ acc,c ρ (Z1 ++ [.lst acc]) = .ok (p x) (Z1 ++ [.lst acc]) ∧ (p x = true → e ρ (Z1 ++ [.lst acc]) = .ok (f x) (Z1 ++ [.lst acc]))) :
    loopC it Z1.length put c e Fuel 0 (Z1 ++ [.lst []]) = .ok (.loc Z1.length) (Z1 ++ [.lst ((ts.filter p).map f)]) := by
  obtain ⟨acc, Z', e1, rfl, rfl⟩ := Zf0 hit (D := Z1.length) (put := put) (c := c) (e := e) (fun pre acc Z => acc = (pre.filter p).map f ∧ Z = Z1 ++ [.lst acc]) (fun pre acc Z h => by obtain ⟨_, rfl⟩ := h; exact Yv _ _) (fun pre x post acc Z et hi => by
    obtain ⟨rfl,rfl⟩ := hi
    obtain ⟨ρ,hp,hc⟩ := h x (by rw [et]; simp)
    refine ⟨ρ,hp,?_⟩
    cases hx : p x with
    | false => exact .inl ⟨_,by rw [(hc _).1,hx],by simp [List.filter_append,hx]⟩
    | true => exact .inr ⟨_,f x,_,by rw [(hc _).1,hx],(hc _).2 hx,Yv _ _,by simp [List.filter_append,hx]⟩) ts [] [] (Z1 ++ [.lst []]) Fuel rfl (by rw [Z59]; simp; omega) (by simpa using hl) ⟨rfl,rfl⟩
  exact e1
theorem Z8v (i : Nat) (Z : Sto) : asList (.loc i) Z = getL Z i := by
  simp only [asList,getL]
  all_goals (cases Z[i]? with
    | none => rfl
    | some o => cases o <;> rfl)
@[simp] theorem all_l (n : Nat) (Z : Sto) : gAll [.loc n] Z = (getL Z n).bind fun ts => (bools ts).map fun bs => (.bl (bs.all id),Z) := by
  simp only [gAll,Z8v]
@[simp] theorem any_l (n : Nat) (Z : Sto) : gAny [.loc n] Z = (getL Z n).bind fun ts => (bools ts).map fun bs => (.bl (bs.any id),Z) := by
  simp only [gAny,Z8v]
theorem Zb3 {α : Type} (f : α → Bool) : ∀ l : List α,bools (l.map fun x => .bl (f x)) = some (l.map f)
  | [] => rfl
  | x :: l => by simp [bools,Zb3 f l]
@[simp] theorem str_i (i : Int) (Z : Sto) : gStr [.int i] Z = if i.natAbs < 10 ^ 4300 then some (.str (dec i),Z) else none := (rfl)
@[simp] theorem abs_i (i : Int) (Z : Sto) : gAbs [.int i] Z = some (.int (if i < 0 then -i else i),Z) := (rfl)
@[simp] theorem intT_i (i : Int) (Z : Sto) : gIntT [.int i] Z = some (.int i,Z) := (rfl)
@[simp] theorem intT_b (b : Bool) (Z : Sto) : gIntT [.bl b] Z = some (.int (if b then 1 else 0),Z) := (rfl)
@[simp] theorem intT_s (l : List Nat) (Z : Sto) : gIntT [.str l] Z = if l.all (· < 128) = true ∧ l.length ≤ 100000 then (PySem.intText? (S l)).map fun n => (.int n,Z) else none := (rfl)
@[simp] theorem sw_s (a b : List Nat) (Z : Sto) : gStarts (.str a) [.str b] Z = some (.bl (b.isPrefixOf a),Z) := (rfl)
@[simp] theorem in_cs (c : Nat) (l : List Nat) (Z : Sto) : gIn (.str [c]) (.str l) Z = some (.bl (decide (c ∈ l)),Z) := (rfl)
@[simp] theorem nin_cs (c : Nat) (l : List Nat) (Z : Sto) : gNotIn (.str [c]) (.str l) Z = some (.bl (!decide (c ∈ l)),Z) := (rfl)
@[simp] theorem q_callK (F : FF) (g : List T → List T) (fa : FA) (ρ : Env) (Z : Sto) : eCallK F g fa ρ Z = (fa ρ Z).bind fun ts Z1 => F (g ts) Z1 := (rfl)
theorem Zf1 (x : T) (ts : List T) (Z : Sto) : gInB x (.tup ts) Z = if flatT x = true ∧ ts.all flatT = true then some (inT x ts) else none := by
  cases x with
  | str l => match l with
    | [] => rfl
    | [_] => rfl
    | _ :: _ :: _ => rfl
  | _ => rfl
@[simp] theorem in_tup (x : T) (ts : List T) (Z : Sto) : gIn x (.tup ts) Z = if flatT x = true ∧ ts.all flatT = true then some (.bl (inT x ts),Z) else none := by
  simp only [gIn,Zf1]
  split <;> rfl
@[simp] theorem nin_tup (x : T) (ts : List T) (Z : Sto) : gNotIn x (.tup ts) Z = if flatT x = true ∧ ts.all flatT = true then some (.bl (!inT x ts),Z) else none := by
  simp only [gNotIn,Zf1]
  split <;> rfl
def strsD (ys : List (List Nat)) : List PyData := ys.map fun l => PyData.str (S l)
theorem Z9s (n : Nat) (Z : Sto) : ∀ ys : List (List Nat),(ys.map T.str).mapM (toD (n + 1) Z) = some (strsD ys)
  | [] => rfl
  | y :: ys => by
    rw [List.map_cons,List.mapM_cons,Z9s n Z ys]
    rfl
theorem Zcu : ∀ xs ys : List (List Nat),PyData.eqvAll (strsD xs) (strsD ys) = decide (xs = ys)
  | [],[] => rfl
  | [],_ :: _ => rfl
  | _ :: _,[] => rfl
  | x :: xs,y :: ys => by
    show (PyData.eqv (.str (S x)) (.str (S y)) && PyData.eqvAll (strsD xs) (strsD ys)) = _
    rw [Zcu xs ys]
    have : PyData.eqv (.str (S x)) (.str (S y)) = decide (x = y) := by
      simp only [PyData.eqv]
      rw [S_beq_eq]
    rw [this]
    by_cases h : x = y <;> by_cases h2 : xs = ys <;> simp [h,h2]
def okS (l : List Nat) : Bool := l.all (· < 0x110000)
theorem okS_S {l : List Nat} (h : okS l = true) : PyData.strOk (S l) = true := by
  unfold PyData.strOk
  rw [← Array.all_toList]
  exact h
theorem Zcv : ∀ {ys : List (List Nat)},ys.all okS = true → PyData.canLayAll0 (strsD ys) = true ∧ PyData.depthAll (strsD ys) ≤ 1
  | [],_ => ⟨rfl,by decide⟩
  | y :: ys,h => by
    rw [List.all_cons,Bool.and_eq_true] at h
    obtain ⟨h1,h2⟩ := Zcv h.2
    refine ⟨?_,?_⟩
    · show (PyData.strOk (S y) && PyData.canLayAll0 (strsD ys)) = true
      rw [okS_S h.1,h1]; rfl
    · show max (PyData.depth (.str (S y))) (PyData.depthAll (strsD ys)) ≤ 1
      have : PyData.depth (.str (S y)) ≤ 1 := by simp [PyData.depth]
      omega
theorem Z3j {ys : List (List Nat)} (h : ys.all okS = true) : SeqAt.shaped (.list (strsD ys)) = true := by
  obtain ⟨h1,h2⟩ := Zcv h
  unfold SeqAt.shaped
  rw [show (PyData.list (strsD ys)).canLay0 = PyData.canLayAll0 (strsD ys) from rfl,h1,Bool.true_and]
  have : (PyData.list (strsD ys)).depth ≤ 64 := by simp only [PyData.depth]; omega
  exact decide_eq_true this
theorem Zgm {i j : Nat} {xs ys : List (List Nat)} {Z : Sto} (h1 : getL Z i = some (xs.map .str)) (h2 : getL Z j = some (ys.map .str)) (k1 : xs.all okS = true) (k2 : ys.all okS = true) : gEqB (.loc i) (.loc j) Z = some (decide (xs = ys)) := by
  have e1 : toD 16 Z (.loc i) = some (.list (strsD xs)) := by
    show ((getL Z i).bind fun ts => (ts.mapM (toD 15 Z)).map PyData.list) = _
    rw [h1,Option.bind_some,Z9s 14 Z xs]; rfl
  have e2 : toD 16 Z (.loc j) = some (.list (strsD ys)) := by
    show ((getL Z j).bind fun ts => (ts.mapM (toD 15 Z)).map PyData.list) = _
    rw [h2,Option.bind_some,Z9s 14 Z ys]; rfl
  show gEqD _ _ _ = _
  simp only [gEqD,e1,e2,Z3j k1,Z3j k2,and_self,if_true]
  rw [show PyData.eqv (.list (strsD xs)) (.list (strsD ys)) = PyData.eqvAll (strsD xs) (strsD ys) from by simp only [PyData.eqv],Zcu]
theorem Zig {i j : Nat} {xs ys : List (List Nat)} {Z : Sto} (h1 : getL Z i = some (xs.map .str)) (h2 : getL Z j = some (ys.map .str)) (k1 : xs.all okS = true) (k2 : ys.all okS = true) : gEq (.loc i) (.loc j) Z = some (.bl (decide (xs = ys)),Z) := by
  simp only [gEq,Zgm h1 h2 k1 k2,Option.map_some]
theorem Kp.put {w D : Nat} {Z Z' : Sto} {o : O} (k : Kp w Z Z') (hD : Z.length ≤ D) (hw : w < Z.length) : Kp w Z (Z'.set D o) :=
  ⟨Kp.set k.wel (by omega),by rw [List.length_set]; exact k.len,fun i hi hn => by rw [List.getElem?_set_ne (by omega)]; exact k.keep i hi hn⟩
theorem Yd (a b : List Nat) (Z : Sto) (h : a.length + b.length ≤ Lim) : gAdd (.str a) (.str b) Z = some (.str (a ++ b),Z) := if_pos h
theorem Z5l (i j : Nat) (Z : Sto) {a b : List T} (h1 : getL Z i = some a) (h2 : getL Z j = some b) (h : a.length + b.length ≤ Lim) : gAdd (.loc i) (.loc j) Z = some (.loc Z.length,Z ++ [.lst (a ++ b)]) := by rw [Z74,h1,h2]; exact if_pos h
theorem Zgn (l : List Nat) (lo hi : Option Int) (Z : Sto) (h : l.length ≤ Lim) : gSl (.str l) lo hi Z = some (.str (cutL l lo hi),Z) := if_pos h
theorem Zih (c : Nat) (k : Int) (Z : Sto) (h : -100000 ≤ k ∧ k ≤ 100000) : gMul (.str [c]) (.int k) Z = some (.str (List.replicate k.toNat c),Z) := by
  rw [Z37,if_pos ⟨h.1,h.2,by simp only [List.length_singleton]; omega⟩,Zg0]
end Fx
set_option maxHeartbeats 4000000
namespace Fx
open PySem PySem.Spec PyProof.Rows L2 SX
section
variable (ρ : Env) (Z : Sto)
@[simp] theorem q_callN (F : FF) (g : List T → List T → List T) (fa fk : FA) : eCallN F g fa fk ρ Z = (fa ρ Z).bind fun ts Z1 => (fk ρ Z1).bind fun us Z2 => F (g ts us) Z2 := (rfl)
@[simp] theorem q_lam (F : (Sto → R T) → T → FF) (fb : FE) (fa : FA) : eLam F fb fa ρ Z = (fa ρ Z).bind fun ts Z1 => F (fun Z' => fb ρ Z') .non (.non :: ts) Z1 := (rfl)
@[simp] theorem q_ask0 (fl : Sto → R T) (lv : T) : eAsk fl lv 0 (some lv :: ρ) Z = fl Z := by
  unfold eAsk
  exact if_pos rfl
@[simp] theorem q_kdIx (l : List (List Nat × List Nat)) (fe : FE) : eKdIx l fe ρ Z = (fe ρ Z).bind fun x Z1 => match kdGet l x with | some v => .ok (.str v) Z1 | none => .stuck := (rfl)
@[simp] theorem Zjs (l : List (List Nat × List Nat)) : iKdItems l ρ Z = .ok (itSeq (l.map fun x => .tup [.str x.1,.str x.2])) Z := (rfl)
end
@[simp] theorem pick_nil {α : Type} (l : List α) : pick [] l = [] := (rfl)
@[simp] theorem pick_c0 {α : Type} (ix : List Nat) (a : α) (l : List α) : pick (0 :: ix) (a :: l) = a :: pick ix (a :: l) := (rfl)
@[simp] theorem ne_nn (Z : Sto) : gNe .non .non Z = some (.bl false,Z) := (rfl)
@[simp] theorem eq_nn (Z : Sto) : gEq .non .non Z = some (.bl true,Z) := (rfl)
@[simp] theorem eq_ns (l : List Nat) (Z : Sto) : gEq .non (.str l) Z = some (.bl false,Z) := (rfl)
@[simp] theorem eq_sn (l : List Nat) (Z : Sto) : gEq (.str l) .non Z = some (.bl false,Z) := (rfl)
@[simp] theorem ne_ns (l : List Nat) (Z : Sto) : gNe .non (.str l) Z = some (.bl true,Z) := (rfl)
@[simp] theorem ne_sn (l : List Nat) (Z : Sto) : gNe (.str l) .non Z = some (.bl true,Z) := (rfl)
end Fx
set_option maxHeartbeats 4000000
namespace Fx
open PySem PySem.Spec PyProof.Rows L2 SX Ap
theorem Zf2 {Z : Sto} {i : Nat} {ts : List T} (h : getL Z i = some ts) : getDK Z i = none := by
  unfold getDK
  rw [Z2l.mp h]
@[simp] theorem ixW_s (l : List Nat) (y : T) (Z : Sto) : gIxW (.str l) y Z = gIx (.str l) y Z := (rfl)
@[simp] theorem Zb4 (l : List T) (y : T) (Z : Sto) : gIxW (.tup l) y Z = gIx (.tup l) y Z := (rfl)
@[simp] theorem ixW_f (l : List T) (y : T) (Z : Sto) : gIxW (.frl l) y Z = gIx (.frl l) y Z := (rfl)
theorem ixW_l {Z : Sto} {i : Nat} {ts : List T} (y : T) (h : getL Z i = some ts) : gIxW (.loc i) y Z = gIx (.loc i) y Z := by
  simp only [gIxW,Zf2 h]
theorem Z0m {Z : Sto} {i : Nat} {ts : List T} (k : Int) (h : getL Z i = some ts) : gIxW (.loc i) (.int k) Z = (atI ts k).map fun t => (t,Z) := by
  rw [ixW_l _ h,Zjp,h]
theorem Zjt {Z : Sto} {i : Nat} {ts : List T} (y t : T) (h : getL Z i = some ts) : gSetW (.loc i) y t Z = gSetL (.loc i) y t Z := by
  simp only [gSetW,Zf2 h]
@[simp] theorem Z5m (x : T) (ts : List T) (Z : Sto) : gInW x (.tup ts) Z = gIn x (.tup ts) Z := (rfl)
@[simp] theorem Zgo (x : T) (l : List Nat) (Z : Sto) : gInW x (.str l) Z = gIn x (.str l) Z := (rfl)
@[simp] theorem Qy (x : T) (ts : List T) (Z : Sto) : gNotInW x (.tup ts) Z = gNotIn x (.tup ts) Z := (rfl)
@[simp] theorem notInW_s (x : T) (l : List Nat) (Z : Sto) : gNotInW x (.str l) Z = gNotIn x (.str l) Z := (rfl)
@[simp] theorem leW_ii (i j : Int) (Z : Sto) : gLeW (.int i) (.int j) Z = some (.bl (decide (i ≤ j)),Z) := (rfl)
@[simp] theorem gtW_ii (i j : Int) (Z : Sto) : gGtW (.int i) (.int j) Z = some (.bl (decide (j < i)),Z) := (rfl)
@[simp] theorem geW_ii (i j : Int) (Z : Sto) : gGeW (.int i) (.int j) Z = some (.bl (decide (j ≤ i)),Z) := (rfl)
section
variable (ρ : Env) (Z : Sto)
@[simp] theorem q_gSubsW (fo fi : FE) (t : T) : gSubsW fo fi t ρ Z = (fo ρ Z).bind fun x Z1 => (fi ρ Z1).bind fun y Z2 => match gSetW x y t Z2 with | some Z3 => .ok ρ Z3 | none => .stuck := (rfl)
end
theorem Zju {Z : Sto} {i : Nat} {ts : List T} (k : Int) (t : T) (h : getL Z i = some ts) : gSetL (.loc i) (.int k) t Z = (ixN ts.length k).map fun n => Z.set i (.lst (ts.set n t)) := by
  show (match getL Z i with | some ts => _ | none => none) = _
  rw [h]
theorem Zcw {Z : Sto} {i : Nat} {ts : List T} (k : Int) (t : T) (h : getL Z i = some ts) : gSetW (.loc i) (.int k) t Z = (ixN ts.length k).map fun n => Z.set i (.lst (ts.set n t)) := by
  rw [Zjt _ _ h,Zju k t h]
end Fx
set_option maxHeartbeats 4000000
namespace Fx
open PySem PySem.Spec PyProof.Rows L2 SX Ap
variable [Tb]
end Fx
set_option maxHeartbeats 4000000
namespace Fx
open PySem PySem.Spec PyProof.Rows L2 SX Ap
variable [Tb]
end Fx
set_option maxHeartbeats 4000000
namespace Fx
open PySem PySem.Spec PyProof.Rows L2 SX Ap
variable [Tb]
def ltIx (n i : Nat) : Option Nat := if i < n then some i else none
mutual
def lcT (n : Nat) : T → Bool
  | .tup ts => lcTs n ts
  | .loc i => Nat.ble (i + 1) n
  | .frl ts => lcTs n ts
  | .lam _ _ _ _ => false
  | .ktp ts => lcTs n ts
  | .non => true
  | .bl _ => true
  | .int _ => true
  | .str _ => true
  | .ref _ => true
  | .ty _ => true
def lcTs (n : Nat) : List T → Bool
  | [] => true
  | t :: ts => lcT n t && lcTs n ts
end
mutual
theorem Zf3 {n : Nat} : ∀ {t : T},lcT n t = true → T.mv (ltIx n) t = some t
  | .non,_ => rfl
  | .bl _,_ => rfl
  | .int _,_ => rfl
  | .str _,_ => rfl
  | .tup ts,h => by
    have h : lcTs n ts = true := h
    show (T.mvs (ltIx n) ts).map T.tup = _
    rw [Z77 h]; rfl
  | .loc i,h => by
    have h : i + 1 ≤ n := Nat.le_of_ble_eq_true h
    show (ltIx n i).map T.loc = _
    unfold ltIx
    rw [if_pos (show i < n from h)]; rfl
  | .frl ts,h => by
    have h : lcTs n ts = true := h
    show (T.mvs (ltIx n) ts).map T.frl = _
    rw [Z77 h]; rfl
  | .ref _,_ => rfl
  | .ty _,_ => rfl
  | .lam _ _ _ _,h => by cases h
  | .ktp ts,h => by
    have h : lcTs n ts = true := h
    show (T.mvs (ltIx n) ts).map T.ktp = _
    rw [Z77 h]; rfl
theorem Z77 {n : Nat} : ∀ {ts : List T},lcTs n ts = true → T.mvs (ltIx n) ts = some ts
  | [],_ => rfl
  | t :: ts,h => by
    have h : (lcT n t && lcTs n ts) = true := h
    rw [Bool.and_eq_true] at h
    simp only [T.mvs,Zf3 h.1,Z77 h.2]
end
def lcP {κ : Type} (n : Nat) : List (κ × T) → Bool
  | [] => true
  | p :: r => lcT n p.2 && lcP n r
theorem Zcx {κ : Type} {n : Nat} : ∀ {l : List (κ × T)},lcP n l = true → mvP (ltIx n) l = some l
  | [],_ => rfl
  | (k,t) :: r,h => by
    have h : (lcT n t && lcP n r) = true := h
    rw [Bool.and_eq_true] at h
    simp only [mvP,Zf3 h.1,Zcx h.2]
def lcO (n : Nat) : O → Bool
  | .lst ts => lcTs n ts
  | .dk l => lcP n l
  | .dt l => lcP n l
  | .ins _ l => lcP n l
theorem Zf4 {n : Nat} {o : O} (h : lcO n o = true) : O.mv (ltIx n) o = some o := by
  cases o with
  | lst ts => show (T.mvs (ltIx n) ts).map O.lst = _; rw [Z77 h]; rfl
  | dk l => show (mvP (ltIx n) l).map O.dk = _; rw [Zcx h]; rfl
  | dt l => show (mvP (ltIx n) l).map O.dt = _; rw [Zcx h]; rfl
  | ins C l => show (mvP (ltIx n) l).map (O.ins C) = _; rw [Zcx h]; rfl
def selE : List Nat → Env → Nat → Env
  | _,[],_ => []
  | ks,o :: ρ,i => (if i ∈ ks then o else none) :: selE ks ρ (i + 1)
theorem Zcy (ks : List Nat) : ∀ (ρ : Env) (i : Nat),(selE ks ρ i).length = ρ.length
  | [],_ => rfl
  | _ :: ρ,i => congrArg (· + 1) (Zcy ks ρ (i + 1))
theorem Zcz {ks : List Nat} : ∀ {ρ : Env} {i k : Nat} {t : T},(selE ks ρ i)[k]? = some (some t) → ρ[k]? = some (some t)
  | [],_,_,_,h => by simp [selE] at h
  | o :: ρ,i,0,t,h => by
    simp only [selE,List.getElem?_cons_zero,Option.some.injEq] at h
    split at h
    · subst h; rfl
    · cases h
  | o :: ρ,i,k + 1,t,h => by
    simp only [selE,List.getElem?_cons_succ] at h
    simpa using Zcz h
def scE (n : Nat) : Env → Bool
  | [] => true
  | none :: ρ => scE n ρ
  | some t :: ρ => lcT n t && scE n ρ
theorem Zc7 {n : Nat} : ∀ {ρ : Env} {k : Nat} {t : T},scE n ρ = true → ρ[k]? = some (some t) → lcT n t = true
  | [],_,_,_,h => by simp at h
  | none :: ρ,0,t,_,h => by simp at h
  | some u :: ρ,0,t,h0,h => by
    simp only [scE,Bool.and_eq_true] at h0
    simp at h; subst h; exact h0.1
  | none :: ρ,k + 1,t,h0,h => Zc7 (ρ := ρ) (k := k) h0 (by simpa using h)
  | some u :: ρ,k + 1,t,h0,h => by
    simp only [scE,Bool.and_eq_true] at h0
    exact Zc7 (ρ := ρ) (k := k) h0.2 (by simpa using h)
section
variable {X : Cx} {K : PySem.W.Frag} {W : WX} {ι ι1 : List Addr} {H H1 : Hp} {σ σ1 : L2.St} {ρ ρ1 : Env} {Z Y : Sto}
theorem Gr.drop (g : Gr ι ι1 H H1) : Gr ι ι H H1 := ⟨fun _ _ h => h,g.tup,g.frz,g.xd,g.ext,g.tab,fun _ _ h _ _ => h,g.out⟩
theorem drop_at (s : Sim K ι Z H) (g : Gr ι ι1 H H1) : ∀ i j a,ltIx Z.length i = some j → ι1[i]? = some a → ι[j]? = some a := fun i j a e h => by
  unfold ltIx at e
  split at e
  · rename_i hi
    cases e
    have hi : i < ι.length := by rw [s.len]; exact hi
    have h2 := g.pre i _ (List.getElem?_eq_getElem hi)
    rw [h] at h2; cases h2
    exact List.getElem?_eq_getElem hi
  · cases e
theorem Sim.drop (s : Sim K ι Z H) (g : Gr ι ι1 H H1) (s1 : Sim K ι1 Y H1) (h : (Y.take Z.length).all (lcO Z.length) = true) : Sim K ι (Y.take Z.length) H1 := by
  have hl := Zel g s s1
  refine ⟨by rw [List.length_take,s.len]; omega,s.nd,fun i a o ha ho => ?_,s1.tab⟩
  have h1 := g.pre i a ha
  have h2 : Y[i]? = some o := by
    rw [List.getElem?_take] at ho
    split at ho
    · exact ho
    · cases ho
  have h3 : lcO Z.length o = true := by
    rw [List.all_eq_true] at h
    exact h o (List.mem_of_getElem? ho)
  exact (s1.ob i a o h1 h2).mv (drop_at s g) (Zf4 h3)
theorem Is.drop {ks : List Nat} (s : Sim K ι Z H) (g : Gr ι ι1 H H1) (is : Is K ι1 H1 σ1 ρ1 Y) (h : (Y.take Z.length).all (lcO Z.length) = true) (he : scE Z.length (selE ks ρ1 0) = true) : Is K ι H1 σ1 (selE ks ρ1 0) (Y.take Z.length) :=
  ⟨by rw [Zcy]; exact is.len,fun i t ht => by
    obtain ⟨v,h1,h2⟩ := is.env i t (Zcz ht)
    exact ⟨v,h1,h2.mv (drop_at s g) (Zf3 (Zc7 he ht))⟩,s.drop g is.sim h⟩
end
section
variable {K : PySem.W.Frag} {n : Nat} {F : FF}
theorem Gr.keep {ι ι1 : List Addr} {H H1 : Hp} {j : Nat} {a : Addr} (g : Gr ι ι1 H H1) (h : ι1[j]? = some a) : Gr ι (ι ++ [a]) H H1 :=
  ⟨fun i b hb => by rw [List.getElem?_append_left (List.getElem?_eq_some_iff.mp hb).1]; exact hb,g.tup,g.frz,g.xd,g.ext,g.tab,fun b u hb e m => (List.mem_append.mp hb).elim id fun k => g.fre b u (by rw [List.mem_singleton.mp k]; exact List.mem_of_getElem? h) e m,g.out⟩
theorem Sim.keep {ι ι1 : List Addr} {H H1 : Hp} {Z Y : Sto} {j : Nat} {a : Addr} {us : List T} (s : Sim K ι Z H) (g : Gr ι ι1 H H1) (s1 : Sim K ι1 Y H1) (h : (Y.take Z.length).all (lcO Z.length) = true) (ha : ι1[j]? = some a) (hj : Z.length ≤ j) (hy : Y[j]? = some (.lst us)) (hu : lcTs Z.length us = true) : Sim K (ι ++ [a]) (Y.take Z.length ++ [.lst us]) H1 := by
  have hl := Zel g s s1
  have hat := drop_at s g
  have hf : ∀ i k x,ltIx Z.length i = some k → ι1[i]? = some x → (ι ++ [a])[k]? = some x := fun i k x e hx => by
    have h2 := hat i k x e hx
    rw [List.getElem?_append_left (List.getElem?_eq_some_iff.mp h2).1]; exact h2
  have hlt : (Y.take Z.length).length = Z.length := by rw [List.length_take]; omega
  refine ⟨by rw [List.length_append,List.length_append,hlt,s.len]; rfl,?_,fun i b o hb ho => ?_,s1.tab⟩
  · rw [List.nodup_append]
    refine ⟨s.nd,by simp,fun b hb c hc e => ?_⟩
    rw [List.mem_singleton] at hc
    subst e; subst hc
    obtain ⟨i,hi⟩ := List.mem_iff_getElem?.mp hb
    have h1 := g.pre i _ hi
    obtain ⟨k1,x1⟩ := List.getElem?_eq_some_iff.mp h1
    obtain ⟨k2,x2⟩ := List.getElem?_eq_some_iff.mp ha
    have h3 := (List.getElem_inj s1.nd).mp (x1.trans x2.symm)
    have h4 := (List.getElem?_eq_some_iff.mp hi).1
    rw [s.len] at h4
    omega
  · by_cases hi : i < Z.length
    · rw [List.getElem?_append_left (by rw [s.len]; exact hi)] at hb
      rw [List.getElem?_append_left (by rw [hlt]; exact hi)] at ho
      have h2 : Y[i]? = some o := by
        have ho2 := ho
        rw [List.getElem?_take,if_pos hi] at ho2
        exact ho2
      have h3 : lcO Z.length o = true := by
        rw [List.all_eq_true] at h
        exact h o (List.mem_of_getElem? ho)
      exact (s1.ob i b o (g.pre i b hb) h2).mv hf (Zf4 h3)
    · have hi' : Z.length ≤ i := Nat.le_of_not_lt hi
      rw [List.getElem?_append_right (by rw [s.len]; exact hi'), s.len] at hb
      rw [List.getElem?_append_right (by rw [hlt]; exact hi'), hlt] at ho
      have h0 : i - Z.length = 0 := by simpa using (List.getElem?_eq_some_iff.mp hb).1
      rw [h0] at hb ho
      simp at hb ho
      subst hb ho
      exact (s1.ob j a _ ha hy).mv hf (Zf4 hu)
end
end Fx
set_option maxHeartbeats 4000000
namespace Fx
open PySem PySem.Spec PyProof.Rows L2 SX Ap
variable [Tb]
def lenDiff : T → T → Sto → Bool
  | .loc i,.loc j,Z => (match getL Z i,getL Z j with
    | some a,some b => !(a.length == b.length)
    | _,_ => false)
  | _,_,_ => false
def gEqL (x y : T) (Z : Sto) : Option (T × Sto) := if lenDiff x y Z = true then some (.bl false,Z) else gEq x y Z
def gNeL (x y : T) (Z : Sto) : Option (T × Sto) := if lenDiff x y Z = true then some (.bl true,Z) else gNe x y Z
section
variable {X : Cx} {K : PySem.W.Frag}
def rLen (K : PySem.W.Frag) (r : Bool) : R2 := fun x y H Q => ∃ a b xs ys,x = .ref a ∧ y = .ref b ∧ SqL K H a xs ∧ SqL K H b ys ∧ xs.length ≠ ys.length ∧ Q (.bl r) H
theorem Zgp (hu : X.A.units + 64 < cLine) : OpR X (compareOp .Eq) (rLen X.K false) := by
  intro pins s σ H x y v u Q I rx ry h
  obtain ⟨a,b,xs,ys,rfl,rfl,ha,hb,hn,q⟩ := h
  cases (show v = Value.ref a from rx)
  cases (show u = Value.ref b from ry)
  obtain ⟨us,r1,p1,_⟩ := I.list ha
  obtain ⟨ws,r2,p2,_⟩ := I.list hb
  exact PySem.SeqAt.RcAt.lists_lengths p1.isList p2.isList (by rw [List.size_toArray,List.size_toArray,← r1.length,← r2.length]; simpa using hn) (by omega) X.prog X.w _ _ ⟨.bl false,H,I,rfl,q⟩
theorem Zgq (hu : X.A.units + 64 < cLine) : OpR X (compareOp .NotEq) (rLen X.K true) := by
  intro pins s σ H x y v u Q I rx ry h
  obtain ⟨a,b,xs,ys,rfl,rfl,ha,hb,hn,q⟩ := h
  cases (show v = Value.ref a from rx)
  cases (show u = Value.ref b from ry)
  obtain ⟨us,r1,p1,_⟩ := I.list ha
  obtain ⟨ws,r2,p2,_⟩ := I.list hb
  exact PySem.SeqAt.RcNeAt.lists_lengths p1.isList p2.isList (by rw [List.size_toArray,List.size_toArray,← r1.length,← r2.length]; simpa using hn) (by omega) X.prog X.w _ _ ⟨.bl true,H,I,rfl,q⟩
theorem Zhh {ι : List Addr} {H : Hp} {Z : Sto} {x y : V} {tx ty : T} (s : Sim K ι Z H) (rx : Rep K ι H x tx) (ry : Rep K ι H y ty) (e : lenDiff tx ty Z = true) : ∃ a b xs ys,x = .ref a ∧ y = .ref b ∧ SqL K H a xs ∧ SqL K H b ys ∧ xs.length ≠ ys.length := by
  unfold lenDiff at e
  split at e
  · split at e
    case h_2 => cases e
    rename_i ts us h1 h2
    obtain ⟨a,xs,rfl,h3,r1⟩ := Z0i s rx (show asList (.loc _) Z = some ts by simp only [asList,Ve h1])
    obtain ⟨b,ys,rfl,h4,r2⟩ := Z0i s ry (show asList (.loc _) Z = some us by simp only [asList,Ve h2])
    refine ⟨a,b,xs,ys,rfl,rfl,h3,h4,?_⟩
    rw [r1.length,r2.length]
    simpa using e
  · cases e
theorem Zjv (hu : X.A.units + 64 < cLine) (hK : X.K = K) : OpF X K (compareOp .Eq) gEqL := by
  subst hK
  refine W3 (Q4 (Zgp hu) (o_eq hu rfl)) fun x y H Q h => ?_
  obtain ⟨ι,Z,tx,ty,s,rx,ry,p⟩ := h
  unfold gEqL at p
  split at p
  · rename_i e
    obtain ⟨a,b,xs,ys,h1,h2,h3,h4,h5⟩ := Zhh s rx ry e
    exact .inl ⟨a,b,xs,ys,h1,h2,h3,h4,h5,Y6 p s (.bl _)⟩
  · exact .inr ⟨ι,Z,tx,ty,s,rx,ry,p⟩
theorem o_neL (hu : X.A.units + 64 < cLine) (hK : X.K = K) : OpF X K (compareOp .NotEq) gNeL := by
  subst hK
  refine W3 (Q4 (Zgq hu) (o_ne hu rfl)) fun x y H Q h => ?_
  obtain ⟨ι,Z,tx,ty,s,rx,ry,p⟩ := h
  unfold gNeL at p
  split at p
  · rename_i e
    obtain ⟨a,b,xs,ys,h1,h2,h3,h4,h5⟩ := Zhh s rx ry e
    exact .inl ⟨a,b,xs,ys,h1,h2,h3,h4,h5,Y6 p s (.bl _)⟩
  · exact .inr ⟨ι,Z,tx,ty,s,rx,ry,p⟩
end
end Fx
set_option maxHeartbeats 4000000
namespace Fx
open PySem PySem.Spec PyProof.Rows L2 SX Ap
variable [Tb]
end Fx
set_option maxHeartbeats 4000000
namespace Fx
open PySem PySem.Spec PyProof.Rows L2 SX Ap
variable [Tb]
end Fx
set_option maxHeartbeats 4000000
namespace Fx
open PySem PySem.Spec PyProof.Rows L2 SX Ap
variable [Tb]
end Fx
set_option maxHeartbeats 4000000
namespace SrtO
open PySem PyProof.Rows Srt
def IsFst (h : Heap) (v : Value) (x : Int) : Prop := ∃ (a : Addr) (o : Obj) (t : Tok) (r : List Value) (n : Nat), v = .ref a ∧ h.get? a = some o ∧ o.cls = .type "tuple" ∧ o.data = .seq (Value.int x t :: r).toArray n
theorem IsFst.keeps {h h' : Heap} {v : Value} {x : Int} (p : IsFst h v x) (k : ∀ b o, h.get? b = some o → o.cls = .type "tuple" → h'.get? b = some o) : IsFst h' v x := by
  obtain ⟨a,o,t,r,n,e,ho,hc,hd⟩ := p
  exact ⟨a,o,t,r,n,e,k _ _ ho hc,hc,hd⟩
end SrtO
namespace Fx
open PySem PySem.Spec PyProof.Rows L2 SX Ap
end Fx
set_option maxHeartbeats 4000000
namespace Fx
open PySem PySem.Spec PyProof.Rows L2 SX Ap L2.DX
end Fx
set_option maxHeartbeats 4000000
namespace Fx
open PySem PySem.Spec PyProof.Rows L2 SX Ap
end Fx
set_option maxHeartbeats 4000000
namespace Fx
open PySem PySem.Spec PyProof.Rows L2 SX Ap L2.DX
variable [Tb]
end Fx
set_option maxHeartbeats 4000000
namespace Fx
open PySem PySem.Spec PyProof.Rows L2 SX Ap
variable [Tb]
end Fx
set_option maxHeartbeats 4000000
namespace Fx
open PySem PySem.Spec PyProof.Rows L2 SX Ap
variable [Tb]
end Fx
set_option maxHeartbeats 4000000
namespace Ap
open PySem PySem.Spec PyProof.Rows L2 SX Fx
noncomputable section
def Z9t : List Fx.T := [(.str [112,108,97,105,110]),(.str [115,105,110,103,108,101]),(.str [100,111,117,98,108,101]),(.str [108,105,116,101,114,97,108]),(.str [102,111,108,100,101,100])]
def Z26 : List (List Nat × Fx.T) := [([98,108,111,99,107],(.str [79])),([107,101,121],(.str [75])),([102,108,111,119],(.str [73])),([112,97,105,114],(.str [80]))]
def Z5n : List Nat := [44,91,93,123,125]
def Z4n : List Fx.T := [(.str [73]),(.str [80])]
def Z1a : List Nat := [45,63,58]
def Z3s : List Nat := [44,91,93,123,125,35,38,42,33,124,62,39,34,64,96]
def Vq : List Fx.T := [(.str [75]),(.str [80])]
def U7 : List (List Nat × Fx.T) := [([34],(.str [34])),([92],(.str [92])),([47],(.str [47])),([110],(.str [10])),([116],(.str [9])),([32],(.str [32])),([9],(.str [9]))]
def Z78 : List (List Nat × Fx.T) := [([108,105,116,101,114,97,108],(.str [124])),([102,111,108,100,101,100],(.str [62]))]
def Z6k : List (List Nat × Fx.T) := [([112,108,97,105,110],(.str [])),([115,105,110,103,108,101],(.str [39])),([100,111,117,98,108,101],(.str [34]))]
def Z6l : List (List Nat × Fx.T) := [([98,108,111,99,107],(.str [10])),([107,101,121],(.str [58,32])),([102,108,111,119],(.str [93])),([112,97,105,114],(.str [58,32]))]
def Z38 : FS :=
  (sRet (eBin gMod (eCallB gIntT (aCons (eBin gMod (eCallB gIntT (aCons (eBin gMul (eVar 3) (eBin gAdd (eBin gDiv (eVar 3) (eC (.int 2003))) (eC (.int 40692)))) aNil)) (eC (.int 2147483399))) aNil)) (eVar 1)))
def Z39 : FS :=
  (bCons (sSet 3 (eBin gMod (eCallB gIntT (aCons (eBin gMul (eVar 3) (eBin gAdd (eBin gDiv (eVar 3) (eC (.int 1009))) (eC (.int 69621)))) aNil)) (eC (.int 2147483647))))
    Z38)
def Z3a : FS :=
  (bCons (sSet 3 (eBin gMod (eCallB gIntT (aCons (eBin gMul (eBin gAdd (eBin gAdd (eBin gIxW (eVar 0) (eC (.int 1))) (eBin gMul (eC (.int 7919)) (eBin gIxW (eVar 0) (eC (.int 2))))) (eC (.int 1))) (eC (.int 48271))) aNil)) (eC (.int 2147483647))))
    Z39)
def Z3b : FS :=
  (bCons (sAsg (eBin gAdd (eBin gIxW (eVar 0) (eC (.int 2))) (eC (.int 1))) (gSubsW (eVar 0) (eC (.int 2))))
    Z3a)
def Ux : FS :=
  (bCons (sIf (eBl (eBin gGtW (eBin gIxW (eVar 0) (eC (.int 0))) (eC (.int 0))))
      (bCons (sSet 2 (eBin gMod (eCallB gIntT (aCons (eBin gIxW (eVar 0) (eC (.int 0))) aNil)) (eVar 1)))
      (bCons (sAsg (eBin gDiv (eBin gIxW (eVar 0) (eC (.int 0))) (eVar 1)) (gSubsW (eVar 0) (eC (.int 0))))
      (sRet (eVar 2))))
      sPass)
    Z3b)
def Nq : FS :=
  (bCons (sIf (eBl (eBin gEq (eCallB gLen (aCons (eVar 0) aNil)) (eC (.int 1))))
      (bCons (sDrop (eBM "list" gExtend (eVar 0) (aCons (eLst (aCons (eBin gMod (eCallB gIntT (aCons (eBin gIxW (eVar 0) (eC (.int 0))) aNil)) (eC (.int 2147483647))) (aCons (eC (.int 0)) aNil))) aNil)))
      (sAsg (eBin gIxW (eLst (aCons (eC (.int 0)) (aCons (eBin gIxW (eVar 0) (eC (.int 0))) aNil))) (eCallB gIntT (aCons (eBin gGeW (eBin gIxW (eVar 0) (eC (.int 0))) (eBin gPow (eC (.int 10)) (eC (.int 18)))) aNil))) (gSubsW (eVar 0) (eC (.int 0)))))
      sPass)
    Ux)
def Ye : FF := runF 4 Nq
def Z8w : FS :=
  (sRet (eBin gIxW (eVar 1) (eCall Ye [] (aCons (eVar 0) (aCons (eCallB gLen (aCons (eVar 1) aNil)) aNil)))))
def Yl : FF := runF 2 Z8w
def Z4o : FS :=
  (bCons (sIf (Fx.tOr (Fx.tNot (eTru (eCallB gIsi (aCons (eVar 0) (aCons (eC (.ty "str")) aNil))))) (eBl (eBin gNotInW (eVar 0) (eC (.tup Z9t)))))
      (sRaise "NoStyle" "part" [] (aCons (eC (.str [115,116,121,108,101])) aNil))
      sPass)
    (sIf (Fx.tOr (Fx.tNot (eTru (eCallB gIsi (aCons (eVar 1) (aCons (eC (.ty "str")) aNil))))) (tKdIn Z26 true (eVar 1)))
      (sRaise "NoStyle" "part" [] (aCons (eC (.str [99,111,110,116,101,120,116])) aNil))
      sPass))
def Qz : FF := runF 2 Z4o
def Z60 : FS :=
  (sRet (eAnd (eCallB gIsi (aCons (eVar 0) (aCons (eC (.ty "int")) aNil))) (eAnd (eNot (eCallB gIsi (aCons (eVar 0) (aCons (eC (.ty "bool")) aNil)))) (eChain gLeW gLeW (eVar 1) (eVar 0) (eVar 2)))))
def Vu : FF := runF 3 Z60
def Z27 : FS :=
  (bCons (sIf (Fx.tNot (eTru (eCall Vu [] (aCons (eVar 0) (aCons (eC (.int 0)) (aCons (eC (.int (100))) aNil))))))
      (sRaise "NoStyle" "part" [] (aCons (eC (.str [105,110,100,101,110,116])) aNil))
      sPass)
    (bCons (sIf (Fx.tNot (eTru (eCall Vu [] (aCons (eVar 1) (aCons (eC (.int 0)) (aCons (eC (.int (200))) aNil))))))
      (sRaise "NoStyle" "part" [] (aCons (eC (.str [119,105,100,116,104])) aNil))
      sPass)
    (sIf (Fx.tNot (eTru (eCall Vu [] (aCons (eVar 2) (aCons (eC (.int 1)) (aCons (eCallB gMin (aCons (eC (.int 9)) (aCons (eBin gAdd (eVar 0) (eC (.int 1))) aNil))) aNil))))))
      (sRaise "NoStyle" "part" [] (aCons (eC (.str [100,101,101,112])) aNil))
      sPass)))
def U8 : FF := runF 3 Z27
def Z4p : FS :=
  (bCons (sFldS ["Source"] "text" (eVar 0) (eVar 1))
    (bCons (sFldS ["Source"] "length" (eVar 0) (eCallB gLen (aCons (eVar 1) aNil)))
    (sFldS ["Source"] "far" (eVar 0) (eC (.int 0)))))
def Xk : FF := runF 2 Z4p
def Z79 : FS :=
  (sRet (eSl (eFld ["Source"] "text" (eVar 0)) (oSome (eVar 1)) (oSome (eBin gAdd (eVar 1) (eC (.int 1))))))
def Zh : FF := runF 2 Z79
def Wy : FS :=
  (sAug 1 (eC (.int 1)) gIAdd)
def Qm : FS :=
  (bCons (sWhile Lim (eBl (eBin gEq (eMeth "Source" "at" Zh [] (eVar 0) (aCons (eVar 1) aNil)) (eC (.str [32])))) Wy)
    (sRet (eVar 1)))
def Zm : FF := runF 2 Qm
def Us : FS :=
  (sRet (eOr (eBin gEq (eVar 1) (eC (.int 0))) (eBin gEq (eBin gIxW (eFld ["Source"] "text" (eVar 0)) (eBin gSub (eVar 1) (eC (.int 1)))) (eC (.str [10])))))
def Xl : FF := runF 2 Us
def Qa : FS :=
  (sRet (eAnd (eMeth "Source" "is_begin" Xl [] (eVar 0) (aCons (eVar 1) aNil)) (eAnd (eBin gInW (eSl (eFld ["Source"] "text" (eVar 0)) (oSome (eVar 1)) (oSome (eBin gAdd (eVar 1) (eC (.int 3))))) (eVar 2)) (eBin gInW (eMeth "Source" "at" Zh [] (eVar 0) (aCons (eBin gAdd (eVar 1) (eC (.int 3))) aNil)) (eTup (aCons (eC (.str [])) (aCons (eC (.str [32])) (aCons (eC (.str [10])) aNil))))))))
def Xr : FF := runF 3 Qa
def Z4q : FS :=
  (sFldS ["Source"] "far" (eVar 0) (eCallB gMax (aCons (eFld ["Source"] "far" (eVar 0)) (aCons (eVar 1) aNil))))
def Zq : FF := runF 2 Z4q
def U9 : FS :=
  (bCons (sIf (eTru (eMeth "Source" "is_mark" Xr [(.tup [(.str [45,45,45]), (.str [46,46,46])])] (eVar 0) (aCons (eVar 1) aNil)))
      (bCons (sDrop (eMeth "Source" "miss" Zq [] (eVar 0) (aCons (eBin gAdd (eVar 1) (eC (.int 3))) aNil)))
      (sRet (eC (.bl true))))
      sPass)
    (sRet (eC (.bl false))))
def Yb : FF := runF 2 U9
def Zf5 : FS :=
  (sRet (eAnd (eChain gLeW gLeW (eC (.str [33])) (eVar 0) (eC (.str [126]))) (eNot (eAnd (eBin gInW (eVar 1) (eC (.tup Z4n))) (eBin gInW (eVar 0) (eC (.str Z5n)))))))
def Z28 : FF := runF 2 Zf5
def Zf6 : FS :=
  (bCons (sIf (eTru (eMeth "Source" "is_barred" Yb [] (eVar 0) (aCons (eVar 1) aNil)))
      (sRet (eC (.bl false)))
      sPass)
    (bCons (sSet 4 (eMeth "Source" "at" Zh [] (eVar 0) (aCons (eVar 1) aNil)))
    (bCons (sIf (eBl (eBin gEq (eVar 4) (eC (.str [58]))))
      (bCons (sIf (Fx.tNot (eTru (eCall Z28 [] (aCons (eMeth "Source" "at" Zh [] (eVar 0) (aCons (eBin gAdd (eVar 1) (eC (.int 1))) aNil)) (aCons (eVar 2) aNil)))))
        (bCons (sDrop (eMeth "Source" "miss" Zq [] (eVar 0) (aCons (eBin gAdd (eVar 1) (eC (.int 1))) aNil)))
        (sRet (eC (.bl false))))
        sPass)
      (sRet (eC (.bl true))))
      sPass)
    (bCons (sIf (Fx.tOr (Fx.tNot (eTru (eCall Z28 [] (aCons (eVar 4) (aCons (eVar 2) aNil))))) (Fx.tAnd (eBl (eBin gEq (eVar 4) (eC (.str [35])))) (Fx.tNot (eTru (eVar 3)))))
      (bCons (sDrop (eMeth "Source" "miss" Zq [] (eVar 0) (aCons (eVar 1) aNil)))
      (sRet (eC (.bl false))))
      sPass)
    (sRet (eC (.bl true)))))))
def Z7a : FF := runF 5 Zf6
def Zc8 : FS :=
  (bCons (sSet 3 (eMeth "Source" "past_blanks" Zm [] (eVar 0) (aCons (eVar 1) aNil)))
      (bCons (sIf (Fx.tNot (eTru (eCall Z7a [] (aCons (eVar 0) (aCons (eVar 3) (aCons (eVar 2) (aCons (eBin gEq (eVar 1) (eVar 3)) aNil)))))))
        (sRet (eVar 1))
        sPass)
      (sSet 1 (eBin gAdd (eVar 3) (eC (.int 1))))))
def Zf7 : FS :=
  (sWhile Lim (eTru (eC (.bl true))) Zc8)
def Z7b : FF := runF 4 Zf7
def Zdo : FS :=
  (bCons (sIf (eTru (eMeth "Source" "is_barred" Yb [] (eVar 0) (aCons (eVar 1) aNil)))
      (sRet (eC (.bl false)))
      sPass)
    (bCons (sSet 3 (eMeth "Source" "at" Zh [] (eVar 0) (aCons (eVar 1) aNil)))
    (bCons (sIf (Fx.tAnd (eBl (eBin gNe (eVar 3) (eC (.str [])))) (eBl (eBin gInW (eVar 3) (eC (.str Z1a)))))
      (bCons (sIf (Fx.tNot (eTru (eCall Z28 [] (aCons (eMeth "Source" "at" Zh [] (eVar 0) (aCons (eBin gAdd (eVar 1) (eC (.int 1))) aNil)) (aCons (eVar 2) aNil)))))
        (bCons (sDrop (eMeth "Source" "miss" Zq [] (eVar 0) (aCons (eBin gAdd (eVar 1) (eC (.int 1))) aNil)))
        (sRet (eC (.bl false))))
        sPass)
      (sRet (eC (.bl true))))
      sPass)
    (bCons (sIf (Fx.tOr (Fx.tNot (eTru (eCall Z28 [] (aCons (eVar 3) (aCons (eVar 2) aNil))))) (eBl (eBin gInW (eVar 3) (eC (.str Z3s)))))
      (bCons (sDrop (eMeth "Source" "miss" Zq [] (eVar 0) (aCons (eVar 1) aNil)))
      (sRet (eC (.bl false))))
      sPass)
    (sRet (eC (.bl true)))))))
def Z8x : FF := runF 4 Zdo
def Z3t : FS :=
  (sIf (eBl (eBin gNe (eMeth "Source" "at" Zh [] (eVar 0) (aCons (eBin gAdd (eVar 1) (eVar 3)) aNil)) (eC (.str [32]))))
        (sRet (eMeth "Source" "miss" Zq [] (eVar 0) (aCons (eBin gAdd (eVar 1) (eVar 3)) aNil)))
        sPass)
def Z5o : FS :=
  (bCons (sFor (iRng (aCons (eVar 2) aNil)) (gNm 3) Z3t)
    (sRet (eBin gAdd (eVar 1) (eCallB gMax (aCons (eC (.int 0)) (aCons (eVar 2) aNil))))))
def Z0n : FF := runF 4 Z5o
def Z7x : FS :=
  (bCons (sSet 3 (eBin gAdd (eMeth "Source" "past_blanks" Zm [] (eVar 0) (aCons (eVar 3) aNil)) (eC (.int 1))))
      (sAug 4 (eC (.int 1)) gIAdd))
def Zb5 : FS :=
  (bCons (sSet 3 (eMeth "Source" "past_blanks" Zm [] (eVar 0) (aCons (eVar 1) aNil)))
    (bCons (sIf (eBl (eBin gNe (eMeth "Source" "at" Zh [] (eVar 0) (aCons (eVar 3) aNil)) (eC (.str [10]))))
      (sRet (eMeth "Source" "miss" Zq [] (eVar 0) (aCons (eVar 3) aNil)))
      sPass)
    (bCons (sAug 3 (eC (.int 1)) gIAdd)
    (bCons (sSet 4 (eC (.int 0)))
    (bCons (sWhile Lim (eBl (eBin gEq (eMeth "Source" "at" Zh [] (eVar 0) (aCons (eMeth "Source" "past_blanks" Zm [] (eVar 0) (aCons (eVar 3) aNil)) aNil)) (eC (.str [10])))) Z7x)
    (bCons (sSet 5 (eMeth "Source" "indented" Z0n [] (eVar 0) (aCons (eVar 3) (aCons (eVar 2) aNil))))
    (bCons (sIf (eBl (eBin gIs (eVar 5) (eC .non)))
      (sRet (eC .non))
      sPass)
    (sRet (eTup (aCons (eMeth "Source" "past_blanks" Zm [] (eVar 0) (aCons (eVar 5) aNil)) (aCons (eIf (eTru (eVar 4)) (eBin gMul (eC (.str [10])) (eVar 4)) (eC (.str [32]))) aNil)))))))))))
def Z61 : FF := runF 6 Zb5
def Zf8 : FS :=
  (bCons (sSet 6 (eCall Z61 [] (aCons (eVar 0) (aCons (eVar 4) (aCons (eVar 2) aNil)))))
      (bCons (sIf (Fx.tOr (eBl (eBin gIs (eVar 6) (eC .non))) (Fx.tNot (eTru (eCall Z7a [] (aCons (eVar 0) (aCons (eBin gIxW (eVar 6) (eC (.int 0))) (aCons (eVar 3) (aCons (eC (.bl false)) aNil))))))))
        sBrk
        sPass)
      (bCons (sSet 4 (eCall Z7b [] (aCons (eVar 0) (aCons (eBin gAdd (eBin gIxW (eVar 6) (eC (.int 0))) (eC (.int 1))) (aCons (eVar 3) aNil)))))
      (sAug 5 (eBin gAdd (eBin gIxW (eVar 6) (eC (.int 1))) (eSl (eFld ["Source"] "text" (eVar 0)) (oSome (eBin gIxW (eVar 6) (eC (.int 0)))) (oSome (eVar 4)))) gIAdd))))
def Zii : FS :=
  (bCons (sIf (Fx.tNot (eTru (eCall Z8x [] (aCons (eVar 0) (aCons (eVar 1) (aCons (eVar 3) aNil))))))
      (sRet (eC .non))
      sPass)
    (bCons (sSet 4 (eCall Z7b [] (aCons (eVar 0) (aCons (eBin gAdd (eVar 1) (eC (.int 1))) (aCons (eVar 3) aNil)))))
    (bCons (sSet 5 (eSl (eFld ["Source"] "text" (eVar 0)) (oSome (eVar 1)) (oSome (eVar 4))))
    (bCons (sWhile Lim (eBl (eBin gNotInW (eVar 3) (eC (.tup Vq)))) Zf8)
    (sRet (eTup (aCons (eVar 4) (aCons (eVar 5) aNil))))))))
def Zf9 : FF := runF 7 Zii
def Va : FS :=
  (sAug 1 (eC (.int 1)) gIAdd)
def Jp : FS :=
  (bCons (sWhile Lim (eBl (eBin gInW (eMeth "Source" "at" Zh [] (eVar 0) (aCons (eVar 1) aNil)) (eTup (aCons (eC (.str [32])) (aCons (eC (.str [9])) aNil))))) Va)
    (sRet (eVar 1)))
def Xa : FF := runF 2 Jp
def Wr : FS :=
  (bCons (sSet 4 (eMeth "Source" "past_blanks" Zm [] (eVar 0) (aCons (eVar 1) aNil)))
      (bCons (sIf (Fx.tAnd (eBl (eBin gLt (eBin gSub (eVar 4) (eVar 1)) (eVar 2))) (eBl (eBin gNe (eMeth "Source" "at" Zh [] (eVar 0) (aCons (eVar 4) aNil)) (eC (.str [10])))))
        (sRet (eMeth "Source" "miss" Zq [] (eVar 0) (aCons (eVar 4) aNil)))
        sPass)
      (bCons (sIf (eBl (eBin gGeW (eBin gSub (eVar 4) (eVar 1)) (eVar 2)))
        (sSet 4 (eMeth "Source" "past_white" Xa [] (eVar 0) (aCons (eBin gAdd (eVar 1) (eVar 2)) aNil)))
        sPass)
      (bCons (sIf (eBl (eBin gNe (eMeth "Source" "at" Zh [] (eVar 0) (aCons (eVar 4) aNil)) (eC (.str [10]))))
        (sRet (eIf (eTru (eMeth "Source" "is_barred" Yb [] (eVar 0) (aCons (eVar 1) aNil))) (eC .non) (eTup (aCons (eVar 4) (aCons (eVar 3) aNil)))))
        sPass)
      (bCons (sAug 3 (eC (.int 1)) gIAdd)
      (sSet 1 (eBin gAdd (eVar 4) (eC (.int 1)))))))))
def Zb6 : FS :=
  (bCons (sSet 3 (eC (.int 0)))
    (sWhile Lim (eTru (eC (.bl true))) Wr))
def Nr : FF := runF 5 Zb6
def Ua : FS :=
  (bCons (sSet 4 (eIf (eBl (eBin gInW (eVar 3) (eC (.tup Vq)))) (eC .non) (eCall Nr [] (aCons (eVar 0) (aCons (eBin gAdd (eVar 1) (eC (.int 1))) (aCons (eVar 2) aNil))))))
    (bCons (sIf (eBl (eBin gIs (eVar 4) (eC .non)))
      (sRet (eMeth "Source" "miss" Zq [] (eVar 0) (aCons (eVar 1) aNil)))
      sPass)
    (sRet (eTup (aCons (eBin gIxW (eVar 4) (eC (.int 0))) (aCons (eIf (eTru (eBin gIxW (eVar 4) (eC (.int 1)))) (eBin gMul (eC (.str [10])) (eBin gIxW (eVar 4) (eC (.int 1)))) (eC (.str [32]))) aNil))))))
def Xv : FF := runF 5 Ua
def Jq : FS :=
  (bCons (sSet 4 (eMeth "Source" "at" Zh [] (eVar 0) (aCons (eBin gAdd (eVar 1) (eC (.int 1))) aNil)))
    (bCons (sIf (Fx.tAnd (eBl (eBin gEq (eVar 4) (eC (.str [10])))) (eBl (eBin gNotInW (eVar 3) (eC (.tup Vq)))))
      (bCons (sSet 5 (eCall Nr [] (aCons (eVar 0) (aCons (eBin gAdd (eVar 1) (eC (.int 2))) (aCons (eVar 2) aNil)))))
      (sRet (eIf (eBl (eBin gIs (eVar 5) (eC .non))) (eC .non) (eTup (aCons (eBin gIxW (eVar 5) (eC (.int 0))) (aCons (eBin gMul (eC (.str [10])) (eBin gIxW (eVar 5) (eC (.int 1)))) aNil))))))
      sPass)
    (bCons (sIf (tKdIn U7 true (eVar 4))
      (sRet (eMeth "Source" "miss" Zq [] (eVar 0) (aCons (eBin gAdd (eVar 1) (eC (.int 1))) aNil)))
      sPass)
    (sRet (eTup (aCons (eBin gAdd (eVar 1) (eC (.int 2))) (aCons (eKdI U7 (eVar 4)) aNil)))))))
def W6 : FF := runF 6 Jq
def Ut : FS :=
  (bCons (sSet 6 (eMeth "Source" "at" Zh [] (eVar 0) (aCons (eVar 1) aNil)))
      (bCons (sIf (Fx.tAnd (eBl (eBin gEq (eVar 6) (eVar 4))) (Fx.tOr (eBl (eBin gEq (eVar 4) (eC (.str [34])))) (eBl (eBin gNe (eMeth "Source" "at" Zh [] (eVar 0) (aCons (eBin gAdd (eVar 1) (eC (.int 1))) aNil)) (eVar 4)))))
        (sRet (eTup (aCons (eBin gAdd (eVar 1) (eC (.int 1))) (aCons (eVar 5) aNil))))
        sPass)
      (bCons (sIf (eBl (eBin gEq (eVar 6) (eC (.str []))))
        (sRet (eMeth "Source" "miss" Zq [] (eVar 0) (aCons (eVar 1) aNil)))
        sPass)
      (bCons (sSet 7 (eMeth "Source" "past_white" Xa [] (eVar 0) (aCons (eVar 1) aNil)))
      (bCons (sSet 8 (eTup (aCons (eCallB gMax (aCons (eVar 7) (aCons (eBin gAdd (eVar 1) (eC (.int 1))) aNil))) (aCons (eSl (eFld ["Source"] "text" (eVar 0)) (oSome (eVar 1)) (oSome (eCallB gMax (aCons (eVar 7) (aCons (eBin gAdd (eVar 1) (eC (.int 1))) aNil))))) aNil))))
      (bCons (sIf (eBl (eBin gEq (eMeth "Source" "at" Zh [] (eVar 0) (aCons (eVar 7) aNil)) (eC (.str [10]))))
        (sSet 8 (eCall Xv [] (aCons (eVar 0) (aCons (eVar 7) (aCons (eVar 2) (aCons (eVar 3) aNil))))))
        (sIf (eBl (eBin gEq (eVar 6) (eVar 4)))
          (sSet 8 (eTup (aCons (eBin gAdd (eVar 1) (eC (.int 2))) (aCons (eVar 6) aNil))))
          (sIf (Fx.tAnd (eBl (eBin gEq (eVar 6) (eC (.str [92])))) (eBl (eBin gEq (eVar 4) (eC (.str [34])))))
            (sSet 8 (eCall W6 [] (aCons (eVar 0) (aCons (eVar 1) (aCons (eVar 2) (aCons (eVar 3) aNil))))))
            sPass)))
      (bCons (sIf (eBl (eBin gIs (eVar 8) (eC .non)))
        (sRet (eC .non))
        sPass)
      (bCons (sAug 5 (eBin gIxW (eVar 8) (eC (.int 1))) gIAdd)
      (sSet 1 (eBin gIxW (eVar 8) (eC (.int 0))))))))))))
def Zgr : FS :=
  (bCons (sSet 4 (eMeth "Source" "at" Zh [] (eVar 0) (aCons (eVar 1) aNil)))
    (bCons (sSet 5 (eC (.str [])))
    (bCons (sAug 1 (eC (.int 1)) gIAdd)
    (sWhile Lim (eTru (eC (.bl true))) Ut))))
def Z9u : FF := runF 9 Zgr
def Jr : FE :=
  (eOr (eChain gLeW gLeW (eC (.str [32])) (eVar 1) (eC (.str [126]))) (eBin gInW (eVar 1) (eC (.str [9,10]))))
def Zb7 : FS :=
  (sRet (eAnd (eCallB gIsi (aCons (eVar 0) (aCons (eC (.ty "str")) aNil))) (eCallB gAll (aCons (eLc [1] [1] (iAny (eVar 0)) eYes Jr) aNil))))
def Z4r : FF := runF 2 Zb7
def Zb8 : FS :=
  (bCons (sFldS ["Piece"] "source" (eVar 0) (eVar 1))
    (bCons (sAsg (eTup (aCons (eVar 2) (aCons (eVar 3) aNil))) (gTp 2 (gsCons (gFld ["Piece"] "start" (eVar 0)) (gsCons (gFld ["Piece"] "n" (eVar 0)) gsNil))))
    (bCons (sFldS ["Piece"] "rows" (eVar 0) (eLst aNil))
    (bCons (sFldS ["Piece"] "empties" (eVar 0) (eC (.int 0)))
    (bCons (sAsg (eTup (aCons (eC (.int 0)) (aCons (eC (.str [])) aNil))) (gTp 2 (gsCons (gFld ["Piece"] "digit" (eVar 0)) (gsCons (gFld ["Piece"] "chomp" (eVar 0)) gsNil))))
    (sFldS ["Piece"] "end" (eVar 0) (eBin gAdd (eVar 2) (eC (.int 1)))))))))
def Z62 : FF := runF 4 Zb8
def Z5p : FS :=
  (bCons (sSet 2 (eBM "str" gFind2 (eFld ["Source"] "text" (eVar 0)) (aCons (eC (.str [10])) (aCons (eVar 1) aNil))))
    (sRet (eIf (eBl (eBin gLt (eVar 2) (eC (.int 0)))) (eFld ["Source"] "length" (eVar 0)) (eVar 2))))
def Uu : FF := runF 3 Z5p
def Z7y : FS :=
  (bCons (sSet 2 (eMeth "Source" "past_blanks" Zm [] (eVar 0) (aCons (eVar 1) aNil)))
    (bCons (sIf (Fx.tAnd (eBl (eBin gEq (eMeth "Source" "at" Zh [] (eVar 0) (aCons (eVar 2) aNil)) (eC (.str [35])))) (Fx.tOr (eBl (eBin gGtW (eVar 2) (eVar 1))) (eTru (eMeth "Source" "is_begin" Xl [] (eVar 0) (aCons (eVar 1) aNil)))))
      (sSet 2 (eMeth "Source" "line_end" Uu [] (eVar 0) (aCons (eVar 2) aNil)))
      sPass)
    (bCons (sIf (eBl (eBin gEq (eVar 2) (eFld ["Source"] "length" (eVar 0))))
      (sRet (eVar 2))
      sPass)
    (sRet (eIf (eBl (eBin gEq (eMeth "Source" "at" Zh [] (eVar 0) (aCons (eVar 2) aNil)) (eC (.str [10])))) (eBin gAdd (eVar 2) (eC (.int 1))) (eMeth "Source" "miss" Zq [] (eVar 0) (aCons (eVar 2) aNil)))))))
def Z3c : FF := runF 3 Z7y
def Z29 : FS :=
  (bCons (sSet 3 (eMeth "Source" "at" Zh [] (eFld ["Piece"] "source" (eVar 0)) (aCons (eFld ["Piece"] "end" (eVar 0)) aNil)))
      (sIf (Fx.tAnd (eBl (eChain gLeW gLeW (eC (.str [49])) (eVar 3) (eC (.str [57])))) (Fx.tNot (eTru (eVar 1))))
        (bCons (sAsg (eTup (aCons (eCallB gIntT (aCons (eVar 3) aNil)) (aCons (eC (.bl true)) aNil))) (gTp 2 (gsCons (gFld ["Piece"] "digit" (eVar 0)) (gsCons (gNm 1) gsNil))))
        (sFldA ["Piece"] "end" (eVar 0) (eC (.int 1)) gIAdd))
        (sIf (Fx.tAnd (eBl (eBin gNe (eVar 3) (eC (.str [])))) (Fx.tAnd (eBl (eBin gInW (eVar 3) (eC (.str [43,45])))) (eBl (eBin gEq (eFld ["Piece"] "chomp" (eVar 0)) (eC (.str []))))))
          (bCons (sFldS ["Piece"] "chomp" (eVar 0) (eVar 3))
          (sFldA ["Piece"] "end" (eVar 0) (eC (.int 1)) gIAdd))
          sPass)))
def Z3u : FS :=
  (bCons (sSet 1 (eC (.bl false)))
    (bCons (sFor (iRng (aCons (eC (.int 2)) aNil)) (gNm 2) Z29)
    (sRet (eMeth "Source" "close" Z3c [] (eFld ["Piece"] "source" (eVar 0)) (aCons (eFld ["Piece"] "end" (eVar 0)) aNil)))))
def Jt : FF := runF 4 Z3u
def Z4s : FS :=
  (bCons (sIf (Fx.tOr (eBl (eBin gEq (eFld ["Piece"] "chomp" (eVar 0)) (eC (.str [45])))) (Fx.tAnd (eBl (eBin gEqL (eFld ["Piece"] "rows" (eVar 0)) (eLst aNil))) (eBl (eBin gEq (eFld ["Piece"] "chomp" (eVar 0)) (eC (.str []))))))
      (sRet (eC (.str [])))
      sPass)
    (bCons (sSet 1 (eCallB gIntT (aCons (eAnd (eBin gNeL (eFld ["Piece"] "rows" (eVar 0)) (eLst aNil)) (eBin gIxW (eBin gIxW (eFld ["Piece"] "rows" (eVar 0)) (eUn gNeg (eC (.int 1)))) (eC (.int 2)))) aNil)))
    (sRet (eBin gMul (eC (.str [10])) (eBin gAdd (eVar 1) (eBin gMul (eFld ["Piece"] "empties" (eVar 0)) (eCallB gIntT (aCons (eBin gEq (eFld ["Piece"] "chomp" (eVar 0)) (eC (.str [43]))) aNil))))))))
def Nt : FF := runF 2 Z4s
def Z7c : FS :=
  (bCons (sAsg (eVar 5) (gTp 3 (gsCons (gNm 6) (gsCons (gNm 7) (gsCons (gNm 8) gsNil)))))
      (bCons (sSet 9 (eBin gInW (eSl (eVar 7) oNone (oSome (eC (.int 1)))) (eTup (aCons (eC (.str [32])) (aCons (eC (.str [9])) aNil)))))
      (bCons (sIf (eBl (eBin gEq (eVar 4) (eC (.int 0))))
        (sSet 2 (eBin gMul (eC (.str [10])) (eVar 6)))
        (sIf (Fx.tAnd (eTru (eVar 1)) (Fx.tAnd (Fx.tNot (eTru (eVar 3))) (Fx.tNot (eTru (eVar 9)))))
          (sAug 2 (eIf (eTru (eVar 6)) (eBin gMul (eC (.str [10])) (eVar 6)) (eC (.str [32]))) gIAdd)
          (sAug 2 (eBin gMul (eC (.str [10])) (eBin gAdd (eVar 6) (eC (.int 1)))) gIAdd)))
      (bCons (sAug 2 (eVar 7) gIAdd)
      (sSet 3 (eVar 9))))))
def Z9v : FS :=
  (bCons (sSet 2 (eC (.str [])))
    (bCons (sSet 3 (eC (.bl true)))
    (bCons (sFor (iEnmA (aCons (eFld ["Piece"] "rows" (eVar 0)) aNil)) (gTp 2 (gsCons (gNm 4) (gsCons (gNm 5) gsNil))) Z7c)
    (sRet (eBin gAdd (eVar 2) (eMeth "Piece" "last_feeds" Nt [] (eVar 0) aNil))))))
def Z4t : FF := runF 10 Z9v
def Z0o : FS :=
  (sIf (eBl (eBin gNe (eMeth "Source" "at" Zh [] (eVar 0) (aCons (eBin gAdd (eVar 1) (eVar 3)) aNil)) (eVar 4)))
        (sRet (eMeth "Source" "miss" Zq [] (eVar 0) (aCons (eBin gAdd (eVar 1) (eVar 3)) aNil)))
        sPass)
def Z1o : FS :=
  (bCons (sFor (iEnmA (aCons (eVar 2) aNil)) (gTp 2 (gsCons (gNm 3) (gsCons (gNm 4) gsNil))) Z0o)
    (sRet (eIf (eTru (eMeth "Source" "is_mark" Xr [(.tup [(.str [45,45,45]), (.str [46,46,46])])] (eVar 0) (aCons (eVar 1) aNil))) (eBin gAdd (eVar 1) (eC (.int 3))) (eMeth "Source" "miss" Zq [] (eVar 0) (aCons (eBin gAdd (eVar 1) (eC (.int 3))) aNil)))))
def Wz : FF := runF 5 Z1o
def Z2a : FS :=
  (bCons (sSet 3 (eMeth "Source" "past_blanks" Zm [] (eFld ["Piece"] "source" (eVar 0)) (aCons (eVar 1) aNil)))
      (bCons (sIf (eBl (eBin gNe (eMeth "Source" "at" Zh [] (eFld ["Piece"] "source" (eVar 0)) (aCons (eVar 3) aNil)) (eC (.str [10]))))
        sBrk
        sPass)
      (bCons (sSet 2 (eCallB gMax (aCons (eVar 2) (aCons (eBin gSub (eVar 3) (eVar 1)) aNil))))
      (sSet 1 (eBin gAdd (eVar 3) (eC (.int 1)))))))
def Z3v : FS :=
  (bCons (sIf (eBl (eBin gGtW (eFld ["Piece"] "digit" (eVar 0)) (eC (.int 0))))
      (sRet (eBin gAdd (eFld ["Piece"] "n" (eVar 0)) (eFld ["Piece"] "digit" (eVar 0))))
      sPass)
    (bCons (sSet 2 (eC (.int 0)))
    (bCons (sWhile Lim (eTru (eC (.bl true))) Z2a)
    (bCons (sDrop (eMeth "Source" "miss" Zq [] (eFld ["Piece"] "source" (eVar 0)) (aCons (eVar 3) aNil)))
    (bCons (sIf (eBl (eBin gEq (eVar 3) (eFld ["Source"] "length" (eFld ["Piece"] "source" (eVar 0)))))
      (sRet (eCallB gMax3 (aCons (eBin gAdd (eFld ["Piece"] "n" (eVar 0)) (eC (.int 1))) (aCons (eVar 2) (aCons (eBin gSub (eVar 3) (eVar 1)) aNil)))))
      sPass)
    (bCons (sIf (Fx.tOr (eBl (eBin gLeW (eBin gSub (eVar 3) (eVar 1)) (eFld ["Piece"] "n" (eVar 0)))) (eTru (eMeth "Source" "is_barred" Yb [] (eFld ["Piece"] "source" (eVar 0)) (aCons (eVar 1) aNil))))
      (sRet (eCallB gMax (aCons (eBin gAdd (eFld ["Piece"] "n" (eVar 0)) (eC (.int 1))) (aCons (eVar 2) aNil))))
      sPass)
    (bCons (sIf (eBl (eBin gLeW (eVar 2) (eBin gSub (eVar 3) (eVar 1))))
      (sRet (eBin gSub (eVar 3) (eVar 1)))
      sPass)
    (bCons (sIf (eBl (eBin gEq (eVar 3) (eVar 1)))
      (bCons (sDrop (eMeth "Source" "expected_mark" Wz [] (eFld ["Piece"] "source" (eVar 0)) (aCons (eVar 1) (aCons (eC (.str [45,45,45])) aNil))))
      (sDrop (eMeth "Source" "expected_mark" Wz [] (eFld ["Piece"] "source" (eVar 0)) (aCons (eVar 1) (aCons (eC (.str [46,46,46])) aNil)))))
      sPass)
    (sRet (eC .non))))))))))
def Ju : FF := runF 4 Z3v
def Z7z : FS :=
  (bCons (sPar [4,5] (aCons (eMeth "Source" "past_blanks" Zm [] (eVar 3) (aCons (eVar 1) aNil)) (aCons (eMeth "Source" "line_end" Uu [] (eVar 3) (aCons (eVar 1) aNil)) aNil)))
      (bCons (sSet 6 (eBin gLt (eVar 5) (eFld ["Source"] "length" (eVar 3))))
      (bCons (sIf (Fx.tAnd (eBl (eBin gEq (eVar 4) (eVar 5))) (eBl (eBin gLeW (eBin gSub (eVar 4) (eVar 1)) (eVar 2))))
        (sFldA ["Piece"] "empties" (eVar 0) (eCallB gIntT (aCons (eVar 6) aNil)) gIAdd)
        (sIf (Fx.tOr (eBl (eBin gLt (eBin gSub (eVar 4) (eVar 1)) (eVar 2))) (Fx.tAnd (eBl (eBin gEq (eVar 2) (eC (.int 0)))) (eTru (eMeth "Source" "is_barred" Yb [] (eVar 3) (aCons (eVar 1) aNil)))))
          (bCons (sDrop (eMeth "Source" "miss" Zq [] (eVar 3) (aCons (eVar 4) aNil)))
          (sRet (eVar 1)))
          (bCons (sDrop (eBM "list" gAppend (eFld ["Piece"] "rows" (eVar 0)) (aCons (eTup (aCons (eFld ["Piece"] "empties" (eVar 0)) (aCons (eSl (eFld ["Source"] "text" (eVar 3)) (oSome (eBin gAdd (eVar 1) (eVar 2))) (oSome (eVar 5))) (aCons (eVar 6) aNil)))) aNil)))
          (bCons (sFldS ["Piece"] "empties" (eVar 0) (eC (.int 0)))
          (sFldS ["Piece"] "end" (eVar 0) (eVar 5))))))
      (sSet 1 (eBin gAdd (eVar 5) (eCallB gIntT (aCons (eVar 6) aNil)))))))
def Zb9 : FS :=
  (bCons (sSet 3 (eFld ["Piece"] "source" (eVar 0)))
    (bCons (sWhile Lim (eBl (eBin gLt (eVar 1) (eFld ["Source"] "length" (eVar 3)))) Z7z)
    (bCons (sDrop (eMeth "Source" "miss" Zq [] (eVar 3) (aCons (eVar 1) aNil)))
    (sRet (eVar 1)))))
def Z63 : FF := runF 7 Zb9
def Z9w : FS :=
  (bCons (sIf (eBl (eBin gNe (eSl (eVar 0) oNone (oSome (eC (.int 1)))) (eKdI Z78 (eVar 1))))
      (sRet (eC .non))
      sPass)
    (bCons (sSet 3 (eMake "Source" Xk [] (aCons (eBin gAdd (eBin gAdd (eC (.str [32])) (eVar 0)) (eC (.str [10]))) aNil)))
    (bCons (sSet 4 (eMake "Piece" Z62 [] (aCons (eVar 3) (aCons (eC (.int 1)) (aCons (eVar 2) aNil)))))
    (bCons (sSet 5 (eMeth "Piece" "read_header" Jt [] (eVar 4) aNil))
    (bCons (sSet 6 (eIf (eBl (eBin gIs (eVar 5) (eC .non))) (eC .non) (eMeth "Piece" "indentation" Ju [] (eVar 4) (aCons (eVar 5) aNil))))
    (bCons (sIf (Fx.tOr (eBl (eBin gIs (eVar 6) (eC .non))) (eBl (eBin gNe (eMeth "Piece" "take" Z63 [] (eVar 4) (aCons (eVar 5) (aCons (eVar 6) aNil))) (eFld ["Source"] "length" (eVar 3)))))
      (sRet (eC .non))
      sPass)
    (sRet (eMeth "Piece" "value" Z4t [] (eVar 4) (aCons (eBin gEq (eVar 1) (eC (.str [102,111,108,100,101,100]))) aNil)))))))))
def Z4u : FF := runF 7 Z9w
def Ub : FS :=
  (bCons (sDrop (eCall Qz [] (aCons (eVar 1) (aCons (eVar 2) aNil))))
    (bCons (sDrop (eCall U8 [] (aCons (eVar 3) (aCons (eC (.int 0)) (aCons (eVar 4) aNil)))))
    (bCons (sIf (Fx.tOr (Fx.tNot (eTru (eCall Z4r [] (aCons (eVar 0) aNil)))) (eBl (eBin gEq (eVar 0) (eC (.str [])))))
      (sRet (eC .non))
      sPass)
    (bCons (sIf (tKdIn Z78 false (eVar 1))
      (sRet (eIf (eBl (eBin gEq (eVar 2) (eC (.str [98,108,111,99,107])))) (eCall Z4u [] (aCons (eVar 0) (aCons (eVar 1) (aCons (eBin gSub (eVar 3) (eVar 4)) aNil)))) (eC .non)))
      sPass)
    (bCons (sIf (Fx.tNot (eTru (eBM "str" gStarts (eVar 0) (aCons (eKdI Z6k (eVar 1)) aNil))))
      (sRet (eC .non))
      sPass)
    (bCons (sPar [5,6] (aCons (eMake "Source" Xk [] (aCons (eBin gAdd (eBin gAdd (eC (.str [32])) (eVar 0)) (eKdI Z6l (eVar 2))) aNil)) (aCons (eKdI Z26 (eVar 2)) aNil)))
    (bCons (sSet 7 (eIf (eBl (eBin gEq (eVar 1) (eC (.str [112,108,97,105,110])))) (eCall Zf9 [] (aCons (eVar 5) (aCons (eC (.int 1)) (aCons (eVar 3) (aCons (eVar 6) aNil))))) (eCall Z9u [] (aCons (eVar 5) (aCons (eC (.int 1)) (aCons (eVar 3) (aCons (eVar 6) aNil)))))))
    (sRet (eIf (Fx.tAnd (eBl (eBin gIsNot (eVar 7) (eC .non))) (eBl (eBin gEq (eBin gIxW (eVar 7) (eC (.int 0))) (eBin gAdd (eCallB gLen (aCons (eVar 0) aNil)) (eC (.int 1)))))) (eBin gIxW (eVar 7) (eC (.int 1))) (eC .non))))))))))
def Y4 : FF := runF 8 Ub
def Z3w : FS :=
  (bCons (sSet 2 (eLst (aCons (eTup (aCons (eC (.str [97])) (aCons (eC (.str [97])) aNil))) (aCons (eTup (aCons (eC (.str [98,99])) (aCons (eC (.str [98,99])) aNil))) (aCons (eTup (aCons (eC (.str [100,32,101])) (aCons (eC (.str [100,32,101])) aNil))) (aCons (eTup (aCons (eC (.str [35])) (aCons (eC (.str [35])) aNil))) (aCons (eTup (aCons (eC (.str [58])) (aCons (eC (.str [58])) aNil))) (aCons (eTup (aCons (eC (.str [45,45,45,120])) (aCons (eC (.str [45,45,45,120])) aNil))) (aCons (eTup (aCons (eC (.str [123,44])) (aCons (eC (.str [123,44])) aNil))) aNil)))))))))
    (bCons (sIf (eBl (eBin gEq (eVar 1) (eC (.str [39]))))
      (sRet (eCall Yl [] (aCons (eVar 0) (aCons (eBin gAdd (eVar 2) (eLst (aCons (eTup (aCons (eC (.str [39,39])) (aCons (eC (.str [39])) aNil))) (aCons (eTup (aCons (eC (.str [34])) (aCons (eC (.str [34])) aNil))) (aCons (eTup (aCons (eC (.str [92,110])) (aCons (eC (.str [92,110])) aNil))) (aCons (eTup (aCons (eC (.str [39,39,39,39])) (aCons (eC (.str [39,39])) aNil))) aNil)))))) aNil))))
      sPass)
    (bCons (sSet 2 (eBin gAdd (eVar 2) (eLst (aCons (eTup (aCons (eC (.str [92,34])) (aCons (eC (.str [34])) aNil))) (aCons (eTup (aCons (eC (.str [92,92])) (aCons (eC (.str [92])) aNil))) (aCons (eTup (aCons (eC (.str [92,110])) (aCons (eC (.str [10])) aNil))) (aCons (eTup (aCons (eC (.str [92,116])) (aCons (eC (.str [9])) aNil))) (aCons (eTup (aCons (eC (.str [92,32])) (aCons (eC (.str [32])) aNil))) aNil))))))))
    (sRet (eCall Yl [] (aCons (eVar 0) (aCons (eBin gAdd (eVar 2) (eLst (aCons (eTup (aCons (eC (.str [39])) (aCons (eC (.str [39])) aNil))) (aCons (eTup (aCons (eC (.str [92,47])) (aCons (eC (.str [47])) aNil))) (aCons (eTup (aCons (eC (.str [92,9])) (aCons (eC (.str [9])) aNil))) aNil))))) aNil)))))))
def Wl : FF := runF 3 Z3w
def Vg : FS :=
  (sIf (eBl (eBin gIsNot (eCall Y4 [(.int (1))] (aCons (eBin gAdd (eBin gAdd (eBin gAdd (eBin gAdd (eBin gAdd (eC (.str [34])) (eVar 2)) (eC (.str [92]))) (eVar 4)) (eVar 3)) (eC (.str [34]))) (aCons (eC (.str [100,111,117,98,108,101])) (aCons (eC (.str [98,108,111,99,107])) (aCons (eC (.int 1)) aNil))))) (eC .non)))
        (sRet (eC (.bl false)))
        sPass)
def Xi : FE :=
  (eCall Y4 [(.int (1))] (aCons (eBin gAdd (eBin gAdd (eC (.str [34,92])) (eVar 4)) (eC (.str [34]))) (aCons (eC (.str [100,111,117,98,108,101])) (aCons (eC (.str [102,108,111,119])) (aCons (eC (.int 3)) aNil)))))
def Z4v : FS :=
  (bCons (sSet 1 (eC (.str [33,35,36,38,39,40,41,42,43,44,45,46,48,49,50,51,52,53,54,55,56,57,58,59,60,61,62,63,64,65,66,67,68,69,70,71,72,73,74,75,76,77,78,79,80,81,82,83,84,85,86,87,88,89,90,91,93,94,95,96,97,98,99,100,101,102,103,104,105,106,107,108,109,111,112,113,114,115,117,118,119,120,121,122,123,124,125,126])))
    (bCons (sPar [2,3] (aCons (eBin gIxW (eCall Wl [] (aCons (eVar 0) (aCons (eC (.str [34])) aNil))) (eC (.int 0))) (aCons (eCall Yl [] (aCons (eVar 0) (aCons (eLst (aCons (eC (.str [])) (aCons (eC (.str [52,49])) (aCons (eC (.str [32,97])) (aCons (eC (.str [48,48,52,49])) (aCons (eC (.str [10,32,122])) aNil)))))) aNil))) aNil)))
    (bCons (sFor (iAny (eVar 1)) (gNm 4) Vg)
    (bCons (sSet 5 (eLc [4] [4] (iAny (eC (.str [110,116,47,32,34,92,9]))) eYes Xi))
    (sRet (eBin gEqL (eVar 5) (eLst (aCons (eC (.str [10])) (aCons (eC (.str [9])) (aCons (eC (.str [47])) (aCons (eC (.str [32])) (aCons (eC (.str [34])) (aCons (eC (.str [92])) (aCons (eC (.str [9])) aNil))))))))))))))
def Uc : FF := runF 6 Z4v
def Z0c : FS :=
  (bCons (sSet 6 (eBin gMul (eC (.str [32])) (eCall Ye [] (aCons (eVar 0) (aCons (eBin gAdd (eVar 1) (eC (.int 3))) aNil)))))
      (sSet 4 (eBin gAdd (eBin gAdd (eVar 4) (eCall Yl [] (aCons (eVar 0) (aCons (eLst (aCons (eC (.str [])) (aCons (eVar 6) (aCons (eBin gAdd (eBin gMul (eC (.str [32])) (eVar 1)) (eC (.str [9]))) (aCons (eBin gAdd (eBin gMul (eC (.str [32])) (eVar 1)) (eC (.str [32,9,32]))) aNil))))) aNil)))) (eC (.str [10])))))
def Zba : FS :=
  (bCons (sSet 3 (eCall Yl [] (aCons (eVar 0) (aCons (eLst (aCons (eC (.int 0)) (aCons (eC (.int 0)) (aCons (eC (.int 1)) (aCons (eC (.int 2)) (aCons (eC (.int 3)) aNil)))))) aNil))))
    (bCons (sSet 4 (eIf (eTru (eVar 2)) (eC (.str [92,10])) (eBin gAdd (eCall Yl [] (aCons (eVar 0) (aCons (eLst (aCons (eC (.str [])) (aCons (eC (.str [])) (aCons (eC (.str [32])) (aCons (eC (.str [9])) (aCons (eC (.str [32,9,32])) aNil)))))) aNil))) (eC (.str [10])))))
    (bCons (sFor (iRng (aCons (eVar 3) aNil)) (gNm 5) Z0c)
    (bCons (sSet 7 (eIf (Fx.tOr (eBl (eBin gGtW (eVar 3) (eC (.int 0)))) (eTru (eVar 2))) (eBin gMul (eC (.str [10])) (eVar 3)) (eC (.str [32]))))
    (sRet (eTup (aCons (eBin gAdd (eBin gAdd (eVar 4) (eBin gMul (eC (.str [32])) (eVar 1))) (eCall Yl [] (aCons (eVar 0) (aCons (eLst (aCons (eC (.str [])) (aCons (eC (.str [])) (aCons (eC (.str [32])) (aCons (eC (.str [9])) aNil))))) aNil)))) (aCons (eVar 7) aNil))))))))
def Nu : FF := runF 8 Zba
def Uy : FS :=
  (bCons (sSet 8 (eCall Ye [] (aCons (eVar 0) (aCons (eC (.int 6)) aNil))))
      (bCons (sSet 9 (eAnd (eBin gEq (eVar 8) (eC (.int 5))) (eAnd (eBin gEq (eVar 1) (eC (.str [34]))) (eBin gNe (eVar 6) (eC (.str [98,114,101,97,107]))))))
      (bCons (sIf (Fx.tOr (eTru (eVar 9)) (Fx.tAnd (eBl (eBin gEq (eVar 8) (eC (.int 4)))) (eBl (eBin gNotInW (eVar 6) (eTup (aCons (eC (.str [119,104,105,116,101])) (aCons (eC (.str [98,114,101,97,107])) aNil)))))))
        (sPar [10,6,5] (aCons (eCall Nu [] (aCons (eVar 0) (aCons (eVar 2) (aCons (eVar 9) aNil)))) (aCons (eC (.str [98,114,101,97,107])) (aCons (eC (.bl true)) aNil))))
        (sIf (Fx.tAnd (eBl (eBin gEq (eVar 8) (eC (.int 3)))) (eBl (eBin gNe (eVar 6) (eC (.str [98,114,101,97,107])))))
          (sPar [10,6] (aCons (eCall Yl [] (aCons (eVar 0) (aCons (eLst (aCons (eTup (aCons (eC (.str [32])) (aCons (eC (.str [32])) aNil))) (aCons (eTup (aCons (eC (.str [32,32])) (aCons (eC (.str [32,32])) aNil))) (aCons (eTup (aCons (eC (.str [9])) (aCons (eC (.str [9])) aNil))) aNil)))) aNil))) (aCons (eC (.str [119,104,105,116,101])) aNil)))
          (sPar [10,6] (aCons (eCall Wl [] (aCons (eVar 0) (aCons (eVar 1) aNil))) (aCons (eC (.str [119,111,114,100])) aNil)))))
      (sPar [3,4] (aCons (eBin gAdd (eVar 3) (eBin gIxW (eVar 10) (eC (.int 0)))) (aCons (eBin gAdd (eVar 4) (eBin gIxW (eVar 10) (eC (.int 1)))) aNil))))))
def Zbb : FS :=
  (bCons (sAsg (eTup (aCons (eC (.str [])) (aCons (eC (.str [])) (aCons (eC (.bl false)) (aCons (eC (.str [])) aNil))))) (gTp 4 (gsCons (gNm 3) (gsCons (gNm 4) (gsCons (gNm 5) (gsCons (gNm 6) gsNil))))))
    (bCons (sFor (iRng (aCons (eCall Ye [] (aCons (eVar 0) (aCons (eC (.int 10)) aNil))) aNil)) (gNm 7) Uy)
    (sRet (eTup (aCons (eVar 3) (aCons (eVar 4) (aCons (eVar 5) aNil)))))))
def Nv : FF := runF 11 Zbb
def Z4w : FS :=
  (bCons (sSet 2 (eLst (aCons (eBin gAdd (eVar 0) (eC (.str [119]))) aNil)))
    (bCons (sIf (eBl (eBin gEq (eVar 0) (eC (.str [34]))))
      (sSet 2 (eBin gAdd (eVar 2) (eLst (aCons (eC (.str [92,120,52,49])) (aCons (eC (.str [92,48])) (aCons (eC (.str [92,97])) (aCons (eC (.str [92,78])) aNil)))))))
      sPass)
    (bCons (sIf (eBl (eBin gEq (eVar 1) (eC (.int 0))))
      (sRet (eBin gAdd (eVar 2) (eLst (aCons (eC (.str [10,45,45,45,32,119])) (aCons (eC (.str [32,10,10,46,46,46,10])) (aCons (eC (.str [10,45,45,45,10,32,119])) aNil))))))
      sPass)
    (bCons (sSet 3 (eBin gMul (eC (.str [32])) (eBin gSub (eVar 1) (eC (.int 1)))))
    (sRet (eBin gAdd (eVar 2) (eLst (aCons (eBin gAdd (eBin gAdd (eC (.str [10])) (eVar 3)) (eC (.str [119]))) (aCons (eBin gAdd (eBin gAdd (eBin gAdd (eBin gAdd (eC (.str [32,10])) (eVar 3)) (eC (.str [9,10]))) (eVar 3)) (eC (.str [32,119]))) (aCons (eBin gAdd (eBin gAdd (eC (.str [10,10])) (eVar 3)) (eC (.str [9,119]))) aNil))))))))))
def J5 : FF := runF 4 Z4w
def Z7d : FS :=
  (sIf (eBl (eBin gIsNot (eCall Y4 [(.int (1))] (aCons (eVar 13) (aCons (eVar 4) (aCons (eVar 10) (aCons (eVar 5) aNil))))) (eC .non)))
              (sRet (eC (.bl false)))
              sPass)
def Z7e : FS :=
  (bCons (sSet 11 (eIf (Fx.tAnd (eTru (eVar 9)) (eBl (eBin gInW (eVar 10) (eTup (aCons (eC (.str [107,101,121])) (aCons (eC (.str [112,97,105,114])) aNil)))))) (eC .non) (eVar 8)))
          (bCons (sIf (eBl (eBin gNe (eCall Y4 [(.int (1))] (aCons (eBin gAdd (eBin gAdd (eVar 6) (eVar 7)) (eVar 6)) (aCons (eVar 4) (aCons (eVar 10) (aCons (eVar 5) aNil))))) (eVar 11)))
            (sRet (eC (.bl false)))
            sPass)
          (bCons (sSet 12 (eCall Yl [] (aCons (eVar 2) (aCons (eCall J5 [] (aCons (eVar 6) (aCons (eVar 5) aNil))) aNil))))
          (sFor (iAny (eTup (aCons (eBin gAdd (eBin gAdd (eBin gAdd (eBin gAdd (eVar 6) (eVar 7)) (eC (.str [107]))) (eVar 12)) (eVar 6)) (aCons (eBin gAdd (eBin gAdd (eVar 6) (eVar 7)) (eC (.str [107]))) (aCons (eBin gAdd (eBin gAdd (eVar 7) (eVar 6)) (eC (.str [32]))) (aCons (eBin gAdd (eC (.str [32])) (eVar 6)) aNil)))))) (gNm 13) Z7d))))
def Z9x : FS :=
  (bCons (sPar [4,5] (aCons (eCall Yl [] (aCons (eVar 2) (aCons (eLst (aCons (eC (.str [115,105,110,103,108,101])) (aCons (eC (.str [100,111,117,98,108,101])) aNil))) aNil))) (aCons (eCall Ye [] (aCons (eVar 2) (aCons (eC (.int 6)) aNil))) aNil)))
        (bCons (sSet 6 (eBin gIxW (eLst (aCons (eC (.str [39])) (aCons (eC (.str [34])) aNil))) (eCallB gIntT (aCons (eBin gEq (eVar 4) (eC (.str [100,111,117,98,108,101]))) aNil))))
        (bCons (sAsg (eCall Nv [] (aCons (eVar 2) (aCons (eVar 6) (aCons (eVar 5) aNil)))) (gTp 3 (gsCons (gNm 7) (gsCons (gNm 8) (gsCons (gNm 9) gsNil)))))
        (sFor (iAny (eTup (aCons (eC (.str [98,108,111,99,107])) (aCons (eC (.str [107,101,121])) (aCons (eC (.str [102,108,111,119])) (aCons (eC (.str [112,97,105,114])) aNil)))))) (gNm 10) Z7e))))
def Z7f : FS :=
  (bCons (sSet 2 (eLst (aCons (eVar 1) aNil)))
      (bCons (sIf (Fx.tNot (eTru (eCall Uc [] (aCons (eVar 2) aNil))))
        (sRet (eC (.bl false)))
        sPass)
      (sFor (iRng (aCons (eC (.int 10)) aNil)) (gNm 3) Z9x)))
def Zjw : FS :=
  (bCons (sFor (iAny (eBin gAdd (eSl (eVar 0) oNone (oSome (eC (.int 6)))) (eLst (aCons (eC (.int 0)) aNil)))) (gNm 1) Z7f)
    (sRet (eC (.bl true))))
def Zij : FF := runF 14 Zjw
end
end Ap
set_option maxHeartbeats 4000000
namespace Ap
open PySem PySem.Spec PyProof.Rows L2 SX Fx
theorem Zfa {K : PySem.W.Frag} {ι : List Addr} {H : Hp} : Reps K ι H [(.str (S [112,108,97,105,110])),(.str (S [115,105,110,103,108,101])),(.str (S [100,111,117,98,108,101])),(.str (S [108,105,116,101,114,97,108])),(.str (S [102,111,108,100,101,100]))] Z9t := (.cons (.str _) (.cons (.str _) (.cons (.str _) (.cons (.str _) (.cons (.str _) .nil)))))
theorem Z80 {K : PySem.W.Frag} {ι : List Addr} {H : Hp} : Reps K ι H [(.str (S [73])),(.str (S [80]))] Z4n := (.cons (.str _) (.cons (.str _) .nil))
theorem Z2b {K : PySem.W.Frag} {ι : List Addr} {H : Hp} : Reps K ι H [(.str (S [75])),(.str (S [80]))] Vq := (.cons (.str _) (.cons (.str _) .nil))
section
variable {w : World} {K : PySem.W.Frag} {mg : PySem.Str → Option Value} (C : Cx5 fns tabs exs w K mg)
include C
theorem Wm  : FunD K "_law_digit" "_law_digit" (defArgs V2) (defBody V2) (defScope V2) [] [] ((gY "_law_digit") K) (fdOf K ((gY "_law_digit") K)) := C.c.def_ 0 (d := Z4c)
theorem Ud  : Binds K (fdOf K ((gY "_law_digit") K)) Z1v [] := FunD.bindsN (Wm C) fun _ _ _ _ _ _ us hl => match us, hl with | [_, _], _ => rfl
theorem Xe  : FunD K "_law_one" "_law_one" (defArgs Ul) (defBody Ul) (defScope Ul) [] [] ((gY "_law_one") K) (fdOf K ((gY "_law_one") K)) := C.c.def_ 1 (d := Z6u)
theorem Xy  : Binds K (fdOf K ((gY "_law_one") K)) Z5a [] := FunD.bindsN (Xe C) fun _ _ _ _ _ _ us hl => match us, hl with | [_, _], _ => rfl
theorem Z2c  : FunD K "__init__" "NoStyle.__init__" (defArgs Xw) (defBody Xw) (defScope Xw) [.non] [] ((mY "NoStyle" "__init__") K) (fdOf K ((mY "NoStyle" "__init__") K)) := C.c.def_ 2 (d := Z1w)
theorem Z0p  : ∃ ds, Vals (List.drop 1 [.non]) ds ∧ Binds K (fdOf K ((mY "NoStyle" "__init__") K)) Uv ds := FunD.binds1 (Z2c C) (ps := Uv) 2 1 (by simp) rfl fun _ _ _ _ _ _ _ us its hu hi => match us, its, hu, hi with | [_, _], [_], _, _ => ⟨_, rfl, rfl⟩
theorem Z0d  : FunD K "check_place" "check_place" (defArgs W7) (defBody W7) (defScope W7) [] [] ((gY "check_place") K) (fdOf K ((gY "check_place") K)) := C.c.def_ 3 (d := Z2y)
theorem Z81  : Binds K (fdOf K ((gY "check_place") K)) Z11 [] := FunD.bindsN (Z0d C) fun _ _ _ _ _ _ us hl => match us, hl with | [_, _], _ => rfl
theorem Ue  : FunD K "is_from_to" "is_from_to" (defArgs V3) (defBody V3) (defScope V3) [] [] ((gY "is_from_to") K) (fdOf K ((gY "is_from_to") K)) := C.c.def_ 4 (d := Z4d)
theorem Z1b  : Binds K (fdOf K ((gY "is_from_to") K)) Z1x [] := FunD.bindsN (Ue C) fun _ _ _ _ _ _ us hl => match us, hl with | [_, _, _], _ => rfl
theorem Qc  : FunD K "check_numbers" "check_numbers" (defArgs Xm) (defBody Xm) (defScope Xm) [] [] ((gY "check_numbers") K) (fdOf K ((gY "check_numbers") K)) := C.c.def_ 5 (d := Z1k)
theorem Z6e  : Binds K (fdOf K ((gY "check_numbers") K)) Je [] := FunD.bindsN (Qc C) fun _ _ _ _ _ _ us hl => match us, hl with | [_, _, _], _ => rfl
theorem Z3d  : FunD K "__init__" "Source.__init__" (defArgs W8) (defBody W8) (defScope W8) [] [] ((mY "Source" "__init__") K) (fdOf K ((mY "Source" "__init__") K)) := C.c.def_ 6 (d := Z2z)
theorem Z3e  : Binds K (fdOf K ((mY "Source" "__init__") K)) Z12 [] := FunD.bindsN (Z3d C) fun _ _ _ _ _ _ us hl => match us, hl with | [_, _], _ => rfl
theorem Z64  : FunD K "at" "Source.at" (defArgs Vl) (defBody Vl) (defScope Vl) [] [] ((mY "Source" "at") K) (fdOf K ((mY "Source" "at") K)) := C.c.def_ 7 (d := Z5y)
theorem Zu  : Binds K (fdOf K ((mY "Source" "at") K)) Z3l [] := FunD.bindsN (Z64 C) fun _ _ _ _ _ _ us hl => match us, hl with | [_, _], _ => rfl
theorem Q8  : FunD K "past_blanks" "Source.past_blanks" (defArgs Yh) (defBody Yh) (defScope Yh) [] [] ((mY "Source" "past_blanks") K) (fdOf K ((mY "Source" "past_blanks") K)) := C.c.def_ 8 (d := Q6)
theorem Zz  : Binds K (fdOf K ((mY "Source" "past_blanks") K)) Vf [] := FunD.bindsN (Q8 C) fun _ _ _ _ _ _ us hl => match us, hl with | [_, _], _ => rfl
theorem Ny  : FunD K "is_begin" "Source.is_begin" (defArgs Yw) (defBody Yw) (defScope Yw) [] [] ((mY "Source" "is_begin") K) (fdOf K ((mY "Source" "is_begin") K)) := C.c.def_ 9 (d := N7)
theorem Nz  : Binds K (fdOf K ((mY "Source" "is_begin") K)) Um [] := FunD.bindsN (Ny C) fun _ _ _ _ _ _ us hl => match us, hl with | [_, _], _ => rfl
theorem Z0q  : FunD K "is_mark" "Source.is_mark" (defArgs Xd) (defBody Xd) (defScope Xd) [(.ref (dflY (mY "Source" "is_mark") 0 K))] [] ((mY "Source" "is_mark") K) (fdOf K ((mY "Source" "is_mark") K)) := C.c.def_ 10 (d := Z0k)
theorem Jv  : ∃ ds, Vals (List.drop 0 [(.ref (dflY (mY "Source" "is_mark") 0 K))]) ds ∧ Binds K (fdOf K ((mY "Source" "is_mark") K)) Vi ds := FunD.binds1 (Z0q C) (ps := Vi) 2 0 (by simp) rfl fun _ _ _ _ _ _ _ us its hu hi => match us, its, hu, hi with | [_, _], [_], _, _ => ⟨_, rfl, rfl⟩
theorem Z3f  : FunD K "miss" "Source.miss" (defArgs W9) (defBody W9) (defScope W9) [] [] ((mY "Source" "miss") K) (fdOf K ((mY "Source" "miss") K)) := C.c.def_ 11 (d := Z30)
theorem Zx  : Binds K (fdOf K ((mY "Source" "miss") K)) Z13 [] := FunD.bindsN (Z3f C) fun _ _ _ _ _ _ us hl => match us, hl with | [_, _], _ => rfl
theorem Jw  : FunD K "is_barred" "Source.is_barred" (defArgs Yt) (defBody Yt) (defScope Yt) [] [] ((mY "Source" "is_barred") K) (fdOf K ((mY "Source" "is_barred") K)) := C.c.def_ 12 (d := Jf)
theorem Xn  : Binds K (fdOf K ((mY "Source" "is_barred") K)) U0 [] := FunD.bindsN (Jw C) fun _ _ _ _ _ _ us hl => match us, hl with | [_, _], _ => rfl
theorem Ja  : FunD K "is_safe" "is_safe" (defArgs Jg) (defBody Jg) (defScope Jg) [] [] ((gY "is_safe") K) (fdOf K ((gY "is_safe") K)) := C.c.def_ 13 (d := Z8n)
theorem Z2m  : Binds K (fdOf K ((gY "is_safe") K)) Z6x [] := FunD.bindsN (Ja C) fun _ _ _ _ _ _ us hl => match us, hl with | [_, _], _ => rfl
theorem Z2n  : FunD K "is_next" "is_next" (defArgs Jh) (defBody Jh) (defScope Jh) [] [] ((gY "is_next") K) (fdOf K ((gY "is_next") K)) := C.c.def_ 14 (d := Z8p)
theorem Z8y  : Binds K (fdOf K ((gY "is_next") K)) Z6y [] := FunD.bindsN (Z2n C) fun _ _ _ _ _ _ us hl => match us, hl with | [_, _, _, _], _ => rfl
theorem Z2o  : FunD K "row_end" "row_end" (defArgs Ji) (defBody Ji) (defScope Ji) [] [] ((gY "row_end") K) (fdOf K ((gY "row_end") K)) := C.c.def_ 15 (d := Z8q)
theorem Z8z  : Binds K (fdOf K ((gY "row_end") K)) Z6z [] := FunD.bindsN (Z2o C) fun _ _ _ _ _ _ us hl => match us, hl with | [_, _, _], _ => rfl
theorem Z3x  : FunD K "is_first" "is_first" (defArgs Uo) (defBody Uo) (defScope Uo) [] [] ((gY "is_first") K) (fdOf K ((gY "is_first") K)) := C.c.def_ 16 (d := Z71)
theorem Zc9  : Binds K (fdOf K ((gY "is_first") K)) Z5e [] := FunD.bindsN (Z3x C) fun _ _ _ _ _ _ us hl => match us, hl with | [_, _, _], _ => rfl
theorem Z00  : FunD K "indented" "Source.indented" (defArgs Yx) (defBody Yx) (defScope Yx) [] [] ((mY "Source" "indented") K) (fdOf K ((mY "Source" "indented") K)) := C.c.def_ 17 (d := Nb)
theorem Z4x  : Binds K (fdOf K ((mY "Source" "indented") K)) Uq [] := FunD.bindsN (Z00 C) fun _ _ _ _ _ _ us hl => match us, hl with | [_, _, _], _ => rfl
theorem Z1c  : FunD K "plain_fold" "plain_fold" (defArgs V4) (defBody V4) (defScope V4) [] [] ((gY "plain_fold") K) (fdOf K ((gY "plain_fold") K)) := C.c.def_ 18 (d := Z4g)
theorem Z9y  : Binds K (fdOf K ((gY "plain_fold") K)) Z1y [] := FunD.bindsN (Z1c C) fun _ _ _ _ _ _ us hl => match us, hl with | [_, _, _], _ => rfl
theorem fd_plain  : FunD K "plain" "plain" (defArgs Z3n) (defBody Z3n) (defScope Z3n) [] [] ((gY "plain") K) (fdOf K ((gY "plain") K)) := C.c.def_ 19 (d := Zcr)
theorem Zgs  : Binds K (fdOf K ((gY "plain") K)) Zc3 [] := FunD.bindsN (fd_plain C) fun _ _ _ _ _ _ us hl => match us, hl with | [_, _, _, _], _ => rfl
theorem Qn  : FunD K "past_white" "Source.past_white" (defArgs Yo) (defBody Yo) (defScope Yo) [] [] ((mY "Source" "past_white") K) (fdOf K ((mY "Source" "past_white") K)) := C.c.def_ 20 (d := Qh)
theorem Qo  : Binds K (fdOf K ((mY "Source" "past_white") K)) Vm [] := FunD.bindsN (Qn C) fun _ _ _ _ _ _ us hl => match us, hl with | [_, _], _ => rfl
theorem J8  : FunD K "quote_fold" "quote_fold" (defArgs V5) (defBody V5) (defScope V5) [] [] ((gY "quote_fold") K) (fdOf K ((gY "quote_fold") K)) := C.c.def_ 21 (d := Z4h)
theorem Z4y  : Binds K (fdOf K ((gY "quote_fold") K)) Z1z [] := FunD.bindsN (J8 C) fun _ _ _ _ _ _ us hl => match us, hl with | [_, _, _], _ => rfl
theorem Z0e  : FunD K "folded_part" "folded_part" (defArgs We) (defBody We) (defScope We) [] [] ((gY "folded_part") K) (fdOf K ((gY "folded_part") K)) := C.c.def_ 22 (d := Z32)
theorem Z82  : Binds K (fdOf K ((gY "folded_part") K)) Z14 [] := FunD.bindsN (Z0e C) fun _ _ _ _ _ _ us hl => match us, hl with | [_, _, _, _], _ => rfl
theorem Z5q  : FunD K "escaped" "escaped" (defArgs Jj) (defBody Jj) (defScope Jj) [] [] ((gY "escaped") K) (fdOf K ((gY "escaped") K)) := C.c.def_ 23 (d := Z8r)
theorem Zdp  : Binds K (fdOf K ((gY "escaped") K)) Z72 [] := FunD.bindsN (Z5q C) fun _ _ _ _ _ _ us hl => match us, hl with | [_, _, _, _], _ => rfl
theorem Z7g  : FunD K "quoted" "quoted" (defArgs Z15) (defBody Z15) (defScope Z15) [] [] ((gY "quoted") K) (fdOf K ((gY "quoted") K)) := C.c.def_ 24 (d := Zau)
theorem Zfb  : Binds K (fdOf K ((gY "quoted") K)) Z9m [] := FunD.bindsN (Z7g C) fun _ _ _ _ _ _ us hl => match us, hl with | [_, _, _, _], _ => rfl
theorem Z5r  : FunD K "is_text" "is_text" (defArgs Q7) (defBody Q7) (defScope Q7) [] [] ((gY "is_text") K) (fdOf K ((gY "is_text") K)) := C.c.def_ 25 (d := Z8s)
theorem Zdq  : Binds K (fdOf K ((gY "is_text") K)) Z73 [] := FunD.bindsN (Z5r C) fun _ _ _ _ _ _ us hl => match us, hl with | [_], _ => rfl
theorem Z4z  : FunD K "__init__" "Piece.__init__" (defArgs V6) (defBody V6) (defScope V6) [] [] ((mY "Piece" "__init__") K) (fdOf K ((mY "Piece" "__init__") K)) := C.c.def_ 26 (d := Z4i)
theorem Z9z  : Binds K (fdOf K ((mY "Piece" "__init__") K)) Z20 [] := FunD.bindsN (Z4z C) fun _ _ _ _ _ _ us hl => match us, hl with | [_, _, _, _], _ => rfl
theorem Z01  : FunD K "line_end" "Source.line_end" (defArgs Yy) (defBody Yy) (defScope Yy) [] [] ((mY "Source" "line_end") K) (fdOf K ((mY "Source" "line_end") K)) := C.c.def_ 27 (d := Nh)
theorem Z02  : Binds K (fdOf K ((mY "Source" "line_end") K)) Ur [] := FunD.bindsN (Z01 C) fun _ _ _ _ _ _ us hl => match us, hl with | [_, _], _ => rfl
theorem Z2d  : FunD K "close" "Source.close" (defArgs Xx) (defBody Xx) (defScope Xx) [] [] ((mY "Source" "close") K) (fdOf K ((mY "Source" "close") K)) := C.c.def_ 28 (d := Z21)
theorem Z7h  : Binds K (fdOf K ((mY "Source" "close") K)) Z0a [] := FunD.bindsN (Z2d C) fun _ _ _ _ _ _ us hl => match us, hl with | [_, _], _ => rfl
theorem Qp  : FunD K "read_header" "Piece.read_header" (defArgs Yp) (defBody Yp) (defScope Yp) [] [] ((mY "Piece" "read_header") K) (fdOf K ((mY "Piece" "read_header") K)) := C.c.def_ 29 (d := Qi)
theorem Z2s  : Binds K (fdOf K ((mY "Piece" "read_header") K)) Vn [] := FunD.bindsN (Qp C) fun _ _ _ _ _ _ us hl => match us, hl with | [_], _ => rfl
theorem Jx  : FunD K "last_feeds" "Piece.last_feeds" (defArgs Yu) (defBody Yu) (defScope Yu) [] [] ((mY "Piece" "last_feeds") K) (fdOf K ((mY "Piece" "last_feeds") K)) := C.c.def_ 30 (d := Jm)
theorem Z3y  : Binds K (fdOf K ((mY "Piece" "last_feeds") K)) U3 [] := FunD.bindsN (Jx C) fun _ _ _ _ _ _ us hl => match us, hl with | [_], _ => rfl
theorem Z3g  : FunD K "value" "Piece.value" (defArgs Wf) (defBody Wf) (defScope Wf) [] [] ((mY "Piece" "value") K) (fdOf K ((mY "Piece" "value") K)) := C.c.def_ 31 (d := Z33)
theorem Z83  : Binds K (fdOf K ((mY "Piece" "value") K)) Z16 [] := FunD.bindsN (Z3g C) fun _ _ _ _ _ _ us hl => match us, hl with | [_, _], _ => rfl
theorem Ug  : FunD K "expected_mark" "Source.expected_mark" (defArgs Y9) (defBody Y9) (defScope Y9) [] [] ((mY "Source" "expected_mark") K) (fdOf K ((mY "Source" "expected_mark") K)) := C.c.def_ 32 (d := U4)
theorem Uh  : Binds K (fdOf K ((mY "Source" "expected_mark") K)) Wx [] := FunD.bindsN (Ug C) fun _ _ _ _ _ _ us hl => match us, hl with | [_, _, _], _ => rfl
theorem Qq  : FunD K "indentation" "Piece.indentation" (defArgs Yq) (defBody Yq) (defScope Yq) [] [] ((mY "Piece" "indentation") K) (fdOf K ((mY "Piece" "indentation") K)) := C.c.def_ 33 (d := Ql)
theorem Z2t  : Binds K (fdOf K ((mY "Piece" "indentation") K)) Vo [] := FunD.bindsN (Qq C) fun _ _ _ _ _ _ us hl => match us, hl with | [_, _], _ => rfl
theorem Z50  : FunD K "take" "Piece.take" (defArgs V7) (defBody V7) (defScope V7) [] [] ((mY "Piece" "take") K) (fdOf K ((mY "Piece" "take") K)) := C.c.def_ 34 (d := Z4k)
theorem Za0  : Binds K (fdOf K ((mY "Piece" "take") K)) Z22 [] := FunD.bindsN (Z50 C) fun _ _ _ _ _ _ us hl => match us, hl with | [_, _, _], _ => rfl
theorem Z0f  : FunD K "block_value" "block_value" (defArgs Wh) (defBody Wh) (defScope Wh) [] [] ((gY "block_value") K) (fdOf K ((gY "block_value") K)) := C.c.def_ 35 (d := Z34)
theorem Z84  : Binds K (fdOf K ((gY "block_value") K)) Z17 [] := FunD.bindsN (Z0f C) fun _ _ _ _ _ _ us hl => match us, hl with | [_, _, _], _ => rfl
theorem Ws  : FunD K "read_scalar" "read_scalar" (defArgs Wi) (defBody Wi) (defScope Wi) [(.int 1)] [] ((gY "read_scalar") K) (fdOf K ((gY "read_scalar") K)) := C.c.def_ 36 (d := Z35)
theorem Z1l  : ∃ ds, Vals (List.drop 0 [(.int 1)]) ds ∧ Binds K (fdOf K ((gY "read_scalar") K)) Qx ds := FunD.binds1 (Ws C) (ps := Qx) 4 0 (by simp) rfl fun _ _ _ _ _ _ _ us its hu hi => match us, its, hu, hi with | [_, _, _, _], [_], _, _ => ⟨_, rfl, rfl⟩
theorem Z03  : FunD K "_law_word" "_law_word" (defArgs Vp) (defBody Vp) (defScope Vp) [] [] ((gY "_law_word") K) (fdOf K ((gY "_law_word") K)) := C.c.def_ 37 (d := Z5z)
theorem Z65  : Binds K (fdOf K ((gY "_law_word") K)) Z3r [] := FunD.bindsN (Z03 C) fun _ _ _ _ _ _ us hl => match us, hl with | [_, _], _ => rfl
theorem Vr  : FunD K "_law_signs_right" "_law_signs_right" (defArgs Yi) (defBody Yi) (defScope Yi) [] [] ((gY "_law_signs_right") K) (fdOf K ((gY "_law_signs_right") K)) := C.c.def_ 38 (d := Jo)
theorem Z3z  : Binds K (fdOf K ((gY "_law_signs_right") K)) U6 [] := FunD.bindsN (Vr C) fun _ _ _ _ _ _ us hl => match us, hl with | [_], _ => rfl
theorem Z1d  : FunD K "_law_break" "_law_break" (defArgs V8) (defBody V8) (defScope V8) [] [] ((gY "_law_break") K) (fdOf K ((gY "_law_break") K)) := C.c.def_ 39 (d := Z4l)
theorem Za1  : Binds K (fdOf K ((gY "_law_break") K)) Z24 [] := FunD.bindsN (Z1d C) fun _ _ _ _ _ _ us hl => match us, hl with | [_, _, _], _ => rfl
theorem Z1e  : FunD K "_law_parts" "_law_parts" (defArgs V9) (defBody V9) (defScope V9) [] [] ((gY "_law_parts") K) (fdOf K ((gY "_law_parts") K)) := C.c.def_ 40 (d := Z4m)
theorem Za2  : Binds K (fdOf K ((gY "_law_parts") K)) Z25 [] := FunD.bindsN (Z1e C) fun _ _ _ _ _ _ us hl => match us, hl with | [_, _, _], _ => rfl
theorem Z0g  : FunD K "_law_wrongs" "_law_wrongs" (defArgs Wk) (defBody Wk) (defScope Wk) [] [] ((gY "_law_wrongs") K) (fdOf K ((gY "_law_wrongs") K)) := C.c.def_ 41 (d := Z36)
theorem Z85  : Binds K (fdOf K ((gY "_law_wrongs") K)) Z18 [] := FunD.bindsN (Z0g C) fun _ _ _ _ _ _ us hl => match us, hl with | [_, _], _ => rfl
theorem Zhi  : FunD K "law" "law" (defArgs Zc5) (defBody Zc5) (defScope Zc5) [] [] ((gY "law") K) (fdOf K ((gY "law") K)) := C.c.def_ 42 (d := Zhg)
theorem Zfc  (H : Hp) : SqT K H (He.ga K "STYLES") [(.str (S [112,108,97,105,110])), (.str (S [115,105,110,103,108,101])), (.str (S [100,111,117,98,108,101])), (.str (S [108,105,116,101,114,97,108])), (.str (S [102,111,108,100,101,100]))] := Z4b (C.c.fact 1) H
theorem Z90  : GDk K w mg "LETTERS" Z26 := Zep C 2 0
theorem Z86  : ∃ t, mg "MOST_INDENT" = some (.int (100) t) := C.int 3
theorem Za3  : ∃ t, mg "MOST_WIDTH" = some (.int (200) t) := C.int 4
theorem Zca  : ∃ t, mg "BRACKETS" = some (.str (S Z5n) t) := C.str 5
theorem Z87  (H : Hp) : SqT K H (He.ga K "IN_BRACKETS") [(.str (S [73])), (.str (S [80]))] := Z4b (C.c.fact 6) H
theorem Z88  : ∃ t, mg "MAYBE_FIRST" = some (.str (S Z1a) t) := C.str 7
theorem Zbc  : ∃ t, mg "NOT_FIRST" = some (.str (S Z3s) t) := C.str 8
theorem Z2e  (H : Hp) : SqT K H (He.ga K "ON_A_LINE") [(.str (S [75])), (.str (S [80]))] := Z4b (C.c.fact 9) H
theorem Zdr  : GDk K w mg "ESCAPES" U7 := Zep C 10 1
theorem Zd0  : GDk K w mg "HEADS" Z78 := Zep C 11 2
theorem Zfd  : GDk K w mg "QUOTES" Z6k := Zep C 12 3
theorem Zfe  : GDk K w mg "BEHIND" Z6l := Zep C 13 4
theorem Zj  : CF K "Piece" (He.ga K "Piece") := ⟨C.ns 14, He.cls_ok (C.c.fact 15)⟩
theorem Zgt  : Mk K (He.ga K "Piece") (mY "Piece" "__init__" K) := He.mkr_ok (C.c.fact 16)
theorem Z2u  : Meth K (He.ga K "Piece") "read_header" (mY "Piece" "read_header" K) := He.meth_ok (C.c.fact 17)
theorem Z40  : Meth K (He.ga K "Piece") "last_feeds" (mY "Piece" "last_feeds" K) := He.meth_ok (C.c.fact 18)
theorem Z89  : Meth K (He.ga K "Piece") "value" (mY "Piece" "value" K) := He.meth_ok (C.c.fact 19)
theorem Z2v  : Meth K (He.ga K "Piece") "indentation" (mY "Piece" "indentation" K) := He.meth_ok (C.c.fact 20)
theorem Za4  : Meth K (He.ga K "Piece") "take" (mY "Piece" "take" K) := He.meth_ok (C.c.fact 21)
theorem Yg  : NoAttr K (He.ga K "Piece") "source" := He.noat_ok (C.c.fact 22)
theorem Vd  : NoAttr K (He.ga K "Piece") "rows" := He.noat_ok (C.c.fact 23)
theorem Wo  : NoAttr K (He.ga K "Piece") "empties" := He.noat_ok (C.c.fact 24)
theorem Vv  : NoAttr K (He.ga K "Piece") "end" := He.noat_ok (C.c.fact 25)
theorem Z8a  : NoAttr K (He.ga K "Piece") "start" := He.noat_ok (C.c.fact 26)
theorem Z0r  : NoAttr K (He.ga K "Piece") "n" := He.noat_ok (C.c.fact 27)
theorem Uz  : NoAttr K (He.ga K "Piece") "digit" := He.noat_ok (C.c.fact 28)
theorem Wu  : NoAttr K (He.ga K "Piece") "chomp" := He.noat_ok (C.c.fact 29)
theorem Zd  : CF K "Source" (He.ga K "Source") := ⟨C.ns 30, He.cls_ok (C.c.fact 31)⟩
theorem Zbd  : Mk K (He.ga K "Source") (mY "Source" "__init__" K) := He.mkr_ok (C.c.fact 32)
theorem Zv  : Meth K (He.ga K "Source") "at" (mY "Source" "at" K) := He.meth_ok (C.c.fact 33)
theorem Y0  : Meth K (He.ga K "Source") "past_blanks" (mY "Source" "past_blanks" K) := He.meth_ok (C.c.fact 34)
theorem Z04  : Meth K (He.ga K "Source") "is_begin" (mY "Source" "is_begin" K) := He.meth_ok (C.c.fact 35)
theorem Z0s  : Meth K (He.ga K "Source") "is_mark" (mY "Source" "is_mark" K) := He.meth_ok (C.c.fact 36)
theorem Zy  : Meth K (He.ga K "Source") "miss" (mY "Source" "miss" K) := He.meth_ok (C.c.fact 37)
theorem Xo  : Meth K (He.ga K "Source") "is_barred" (mY "Source" "is_barred" K) := He.meth_ok (C.c.fact 38)
theorem Z51  : Meth K (He.ga K "Source") "indented" (mY "Source" "indented" K) := He.meth_ok (C.c.fact 39)
theorem Qs  : Meth K (He.ga K "Source") "past_white" (mY "Source" "past_white" K) := He.meth_ok (C.c.fact 40)
theorem Z05  : Meth K (He.ga K "Source") "line_end" (mY "Source" "line_end" K) := He.meth_ok (C.c.fact 41)
theorem Z7i  : Meth K (He.ga K "Source") "close" (mY "Source" "close" K) := He.meth_ok (C.c.fact 42)
theorem Ui  : Meth K (He.ga K "Source") "expected_mark" (mY "Source" "expected_mark" K) := He.meth_ok (C.c.fact 43)
theorem Xb  : NoAttr K (He.ga K "Source") "text" := He.noat_ok (C.c.fact 44)
theorem Xf  : NoAttr K (He.ga K "Source") "length" := He.noat_ok (C.c.fact 45)
theorem Z1f  : NoAttr K (He.ga K "Source") "far" := He.noat_ok (C.c.fact 46)
theorem Z0t  : PySem.W.nsIn K mainGlobals "NoStyle" = some (some (.ref (He.ga K "NoStyle"))) := C.ns 47
theorem Vs  : OexC K (He.ga K "NoStyle") := Zi3 (C.c.fact 48)
theorem Zds  : PySem.W.findIn K (.ref (He.ga K "NoStyle")) "part" = some none := He.noat_ok (C.c.fact 50)
theorem Wv  : PySem.W.findIn K (.ref (He.ga K "NoStyle")) "__init__" = some (some (.ref (mY "NoStyle" "__init__" K))) ∧ PySem.W.typeIn K (.ref (mY "NoStyle" "__init__" K)) = some (.type "function") := Zgg (C.c.fact 51)
theorem bs_  : BaseC K (He.ga K "PageError") := Zgf (C.c.fact 55)
theorem nd_  : NoDig K := Zek (C.c.fact 56)
theorem Uj  : mg "_law_digit" = some (.ref (He.ga K "_law_digit")) := C.glo 57
theorem Z0u  : mg "NoStyle" = some (.ref (He.ga K "NoStyle")) := C.glo 47
theorem Z1g  : mg "is_from_to" = some (.ref (He.ga K "is_from_to")) := C.glo 58
theorem Z2p  : mg "is_safe" = some (.ref (He.ga K "is_safe")) := C.glo 59
theorem Z91  : mg "is_next" = some (.ref (He.ga K "is_next")) := C.glo 60
theorem Zcb  : mg "is_first" = some (.ref (He.ga K "is_first")) := C.glo 61
theorem Z92  : mg "row_end" = some (.ref (He.ga K "row_end")) := C.glo 62
theorem Za5  : mg "plain_fold" = some (.ref (He.ga K "plain_fold")) := C.glo 63
theorem Z52  : mg "quote_fold" = some (.ref (He.ga K "quote_fold")) := C.glo 64
theorem Z8b  : mg "folded_part" = some (.ref (He.ga K "folded_part")) := C.glo 65
theorem Zdt  : mg "escaped" = some (.ref (He.ga K "escaped")) := C.glo 66
theorem Zbe  : mg "Source" = some (.ref (He.ga K "Source")) := C.glo 30
theorem Zgu  : mg "Piece" = some (.ref (He.ga K "Piece")) := C.glo 14
theorem Z8c  : mg "check_place" = some (.ref (He.ga K "check_place")) := C.glo 67
theorem Z6f  : mg "check_numbers" = some (.ref (He.ga K "check_numbers")) := C.glo 68
theorem Zdu  : mg "is_text" = some (.ref (He.ga K "is_text")) := C.glo 69
theorem Z8d  : mg "block_value" = some (.ref (He.ga K "block_value")) := C.glo 70
theorem Zgv  : mg "plain" = some (.ref (He.ga K "plain")) := C.glo 71
theorem Zff  : mg "quoted" = some (.ref (He.ga K "quoted")) := C.glo 72
theorem Xz  : mg "_law_one" = some (.ref (He.ga K "_law_one")) := C.glo 73
theorem Z66  : mg "_law_word" = some (.ref (He.ga K "_law_word")) := C.glo 74
theorem Q3  : mg "read_scalar" = some (.ref (He.ga K "read_scalar")) := C.glo 75
theorem Za6  : mg "_law_break" = some (.ref (He.ga K "_law_break")) := C.glo 76
theorem Z41  : mg "_law_signs_right" = some (.ref (He.ga K "_law_signs_right")) := C.glo 77
theorem Za7  : mg "_law_parts" = some (.ref (He.ga K "_law_parts")) := C.glo 78
theorem Z8e  : mg "_law_wrongs" = some (.ref (He.ga K "_law_wrongs")) := C.glo 79
theorem Zbf  : mg "PageError" = some (.ref (He.ga K "PageError")) := C.glo 80
theorem Zfg  : mg "STYLES" = some (.ref (He.ga K "STYLES")) := C.glo 81
theorem Z8f  : mg "IN_BRACKETS" = some (.ref (He.ga K "IN_BRACKETS")) := C.glo 82
theorem Z2f  : mg "ON_A_LINE" = some (.ref (He.ga K "ON_A_LINE")) := C.glo 83
theorem Zjx  : mg "law" = some (.ref (He.ga K "law")) := C.glo 84
theorem Zd1  : mg "len" = none := C.free 85
theorem Z06  : mg "int" = none := C.free 86
theorem Zfh  : mg "str" = none := C.free 87
theorem Uk  : mg "isinstance" = none := C.free 88
theorem Zik  : mg "bool" = none := C.free 89
theorem Zjy  : mg "min" = none := C.free 90
theorem Z7j  : mg "max" = none := C.free 91
theorem Z53  : mg "range" = none := C.free 92
theorem fr_all  : mg "all" = none := C.free 93
theorem Z67  : mg "enumerate" = none := C.free 94
end
section
variable {P : Program} {base : Heap}
variable {w : World} {K : PySem.W.Frag} {mg : PySem.Str → Option Value} (C : Cx5 fns tabs exs w K mg)
include C
theorem J9 : GT P w K mg base 1 (gY "_law_digit") Z1v 2 Ye := by
  refine fnFD (Wm C) Qw fun cdv A outer s H E hr hG => ?_
  exact (Z9 (Ym (Zk (o_eq hr.units rfl) (Ww (Zg7 rfl) (by rfl) (Zd1 C) (by decide +kernel) (Z6 (Z8 (pv 0)) Ze)) f_int (nomark _))
      (Z9 (Vz (f_bm rfl PySem.F.plainAttrs_list PySem.F.slot_list_extend PySem.F.type_list_extend m_extend (Z8 (pv 0)) (Z6 (Qu (Z6 (f_op Zdb (Vb (Z0j (nd_ C)) (by rfl) (Z06 C) (by decide +kernel) (Z6 (f_ix (Vk hr.units rfl) (Z8 (pv 0)) f_int (fun _ _ => rfl)) Ze)) f_int) (Z6 f_int Ze)) (Z0 (Z0 Z7))) Ze)))
      (Zf (Z47 (f_ix (Vk hr.units rfl) (Qu (Z6 f_int (Z6 (f_ix (Vk hr.units rfl) (Z8 (pv 0)) f_int (fun _ _ => rfl)) Ze)) (Z0 (Z0 Z7))) (Vb (Z0j (nd_ C)) (by rfl) (Z06 C) (by decide +kernel) (Z6 (Z0y Zjf (f_ix (Vk hr.units rfl) (Z8 (pv 0)) f_int (fun _ _ => rfl)) (f_op o_pow f_int f_int) (nomark _)) Ze)) (fun _ _ => rfl)) (Zc0 hr.units (Z8 (pv 0)) f_int))))
      Y5)
    (Z9 (Ym (Zk Zgh (f_ix (Vk hr.units rfl) (Z8 (pv 0)) f_int (fun _ _ => rfl)) f_int (nomark _))
      (Z9 (Zr (i := 2) Qw.nd rfl (Or.inl rfl) (f_op Zdb (Vb (Z0j (nd_ C)) (by rfl) (Z06 C) (by decide +kernel) (Z6 (f_ix (Vk hr.units rfl) (Z8 (pv 0)) f_int (fun _ _ => rfl)) Ze)) (Z8 (pv 1))))
      (Z9 (Z47 (f_op Zhp (f_ix (Vk hr.units rfl) (Z8 (pv 0)) f_int (fun _ _ => rfl)) (Z8 (pv 1))) (Zc0 hr.units (Z8 (pv 0)) f_int))
      (Zf (Zo (Z8 (pv 2))))))
      Y5)
    (Z9 (Z47 (f_op (Zw rfl) (f_ix (Vk hr.units rfl) (Z8 (pv 0)) f_int (fun _ _ => rfl)) f_int) (Zc0 hr.units (Z8 (pv 0)) f_int))
    (Z9 (Zr (i := 3) Qw.nd rfl (Or.inl rfl) (f_op Zdb (Vb (Z0j (nd_ C)) (by rfl) (Z06 C) (by decide +kernel) (Z6 (f_op Z1m (f_op (Zw rfl) (f_op (Zw rfl) (f_ix (Vk hr.units rfl) (Z8 (pv 0)) f_int (fun _ _ => rfl)) (f_op Z1m f_int (f_ix (Vk hr.units rfl) (Z8 (pv 0)) f_int (fun _ _ => rfl)))) f_int) f_int) Ze)) f_int))
    (Z9 (Zr (i := 3) Qw.nd rfl (Or.inl rfl) (f_op Zdb (Vb (Z0j (nd_ C)) (by rfl) (Z06 C) (by decide +kernel) (Z6 (f_op Z1m (Z8 (pv 3)) (f_op (Zw rfl) (f_op Zhp (Z8 (pv 3)) f_int) f_int)) Ze)) f_int))
    (Zf (Zo (f_op Zdb (Vb (Z0j (nd_ C)) (by rfl) (Z06 C) (by decide +kernel) (Z6 (f_op Zdb (Vb (Z0j (nd_ C)) (by rfl) (Z06 C) (by decide +kernel) (Z6 (f_op Z1m (Z8 (pv 3)) (f_op (Zw rfl) (f_op Zhp (Z8 (pv 3)) f_int) f_int)) Ze)) f_int) Ze)) (Z8 (pv 1))))))))))
theorem Jy : GT P w K mg base 2 (gY "_law_one") Z5a 2 Yl := by
  have G__law_digit := @J9 P base w K mg C
  refine fnFD (Xe C) Zc1 fun cdv A outer s H E hr hG => ?_
  exact (Zf (Zo (f_ix (Vk hr.units rfl) (Z8 (pv 1)) (Yc rfl G__law_digit (hr.mono (by omega)) hG (by rfl) (Uj C) (Wm C).kp (Ud C) .nil Dfl.nil tk (Z6 (Z8 (pv 0)) (Z6 (Ww (Zg7 rfl) (by rfl) (Zd1 C) (by decide +kernel) (Z6 (Z8 (pv 1)) Ze)) Ze)) (Z0 (Z0 Z7))) (fun _ _ => rfl))))
theorem Z2g : FnOk P w K mg base CX0 1 ((mY "NoStyle" "__init__") K) (fdOf K ((mY "NoStyle" "__init__") K)) Uv (spI (He.ga K "NoStyle") "part") := by
  refine Zj1 (Z2c C) Z6v (fun vs H Q E h => ?_) (fun cdv A outer s H vs Q E hr h => ?_)
  · obtain ⟨a,v,rfl,_⟩ := h; rfl
  · obtain ⟨a,v,rfl,ha,hq⟩ := h
    exact ⟨_, (pss_cons (ps_expr (Zeb (by rfl) (Zbf C) (bs_ C) (by decide) (pa_cons (pv 0) (pa_cons pe_str pa_nil)))) (pss_one (ps_ost (pv 0) (pv 1)))), ⟨_, rfl, ⟨a, He.ga K "NoStyle", _, rfl, by decide, Vs C, ha, ⟨v, rfl, _, rfl, a, He.ga K "NoStyle", rfl, Vs C, Zds C, .inl ⟨ha, fun dx nd ne => hq dx nd ne⟩⟩⟩⟩⟩
theorem Z8g : GT P w K mg base 3 (gY "check_place") Z11 2 Qz := by
  have I_NoStyle_init := @Z2g P base w K mg C
  obtain ⟨ds_NoStyle_init_1,dv_NoStyle_init_1,db_NoStyle_init_1⟩ := Z0p C
  have g_STYLES := Zfg C
  have q_STYLES := Zfc C
  have g_LETTERS := Z90 C
  refine fnFD (Z0d C) Z7t fun cdv A outer s H E hr hG => ?_
  exact (Z9 (Ym (PW.pt (Z46 (Vy (Ys rfl (Ww (Zea rfl) (by rfl) (Uk C) (by decide +kernel) (Z6 (Z8 (pv 0)) (Z6 (f_c (pe_bltn (v := .ty "str") (by rfl) (Zfh C) (by decide +kernel) rfl) (fun _ _ => .ty _)) Ze))))) (N5 (Zk (Z6j hr.units rfl) (Z8 (pv 0)) (f_c (pe_glob (v := .ref (He.ga _ "STYLES")) rfl g_STYLES rfl) (fun _ H => .tup (q_STYLES H) Zfa)) rfl))))
      (Zf (Z49 rfl rfl tk (Vs C) (Wv C).1 (Wv C).2 I_NoStyle_init (hr.mono (by omega)) db_NoStyle_init_1 dv_NoStyle_init_1 (fun _ _ => .nil) (by rfl) (Z0u C) (Z6 (Zg [115,116,121,108,101]) Ze) (Z0 Z7) (Z0t C)))
      Y5)
    (Zf (Ym (PW.pt (Z46 (Vy (Ys rfl (Ww (Zea rfl) (by rfl) (Uk C) (by decide +kernel) (Z6 (Z8 (pv 1)) (Z6 (f_c (pe_bltn (v := .ty "str") (by rfl) (Zfh C) (by decide +kernel) rfl) (fun _ _ => .ty _)) Ze))))) (N5 (Z8t rfl (by rfl) g_LETTERS (Z8 (pv 1))))))
      (Zf (Z49 rfl rfl tk (Vs C) (Wv C).1 (Wv C).2 I_NoStyle_init (hr.mono (by omega)) db_NoStyle_init_1 dv_NoStyle_init_1 (fun _ _ => .nil) (by rfl) (Z0u C) (Z6 (Zg [99,111,110,116,101,120,116]) Ze) (Z0 Z7) (Z0t C)))
      Y5)))
theorem Za8 : GT P w K mg base 1 (gY "is_from_to") Z1x 3 Vu := by
  refine fnFD (Ue C) Z9i fun cdv A outer s H E hr hG => ?_
  exact (Zf (Zo (Z7q rfl (Ww (Zea rfl) (by rfl) (Uk C) (by decide +kernel) (Z6 (Z8 (pv 0)) (Z6 (f_c (pe_bltn (v := .ty "int") (by rfl) (Z06 C) (by decide +kernel) rfl) (fun _ _ => .ty _)) Ze))) (Z7q rfl (Zj4 rfl (Ww (Zea rfl) (by rfl) (Uk C) (by decide +kernel) (Z6 (Z8 (pv 0)) (Z6 (f_c (pe_bltn (v := .ty "bool") (by rfl) (Zik C) (by decide +kernel) rfl) (fun _ _ => .ty _)) Ze)))) (Z69 (Zbt Z6t Z6t (Z8 (pv 1)) (Z8 (pv 0)) (Z8 (pv 2))))))))
theorem Z6g : GT P w K mg base 3 (gY "check_numbers") Je 3 U8 := by
  have G_is_from_to := @Za8 P base w K mg C
  have I_NoStyle_init := @Z2g P base w K mg C
  obtain ⟨ds_NoStyle_init_1,dv_NoStyle_init_1,db_NoStyle_init_1⟩ := Z0p C
  obtain ⟨t_MOST_INDENT,g_MOST_INDENT⟩ := Z86 C
  obtain ⟨t_MOST_WIDTH,g_MOST_WIDTH⟩ := Za3 C
  refine fnFD (Qc C) Z6c fun cdv A outer s H E hr hG => ?_
  exact (Z9 (Ym (Vy (Ys rfl (Yc rfl G_is_from_to (hr.mono (by omega)) hG (by rfl) (Z1g C) (Ue C).kp (Z1b C) .nil Dfl.nil tk (Z6 (Z8 (pv 0)) (Z6 f_int (Z6 (f_c (pe_glob (v := .int (100)) rfl g_MOST_INDENT ⟨_,rfl⟩) (fun _ _ => .int _)) Ze))) (Z0 (Z0 (Z0 Z7))))))
      (Zf (Z49 rfl rfl tk (Vs C) (Wv C).1 (Wv C).2 I_NoStyle_init (hr.mono (by omega)) db_NoStyle_init_1 dv_NoStyle_init_1 (fun _ _ => .nil) (by rfl) (Z0u C) (Z6 (Zg [105,110,100,101,110,116]) Ze) (Z0 Z7) (Z0t C)))
      Y5)
    (Z9 (Ym (Vy (Ys rfl (Yc rfl G_is_from_to (hr.mono (by omega)) hG (by rfl) (Z1g C) (Ue C).kp (Z1b C) .nil Dfl.nil tk (Z6 (Z8 (pv 1)) (Z6 f_int (Z6 (f_c (pe_glob (v := .int (200)) rfl g_MOST_WIDTH ⟨_,rfl⟩) (fun _ _ => .int _)) Ze))) (Z0 (Z0 (Z0 Z7))))))
      (Zf (Z49 rfl rfl tk (Vs C) (Wv C).1 (Wv C).2 I_NoStyle_init (hr.mono (by omega)) db_NoStyle_init_1 dv_NoStyle_init_1 (fun _ _ => .nil) (by rfl) (Z0u C) (Z6 (Zg [119,105,100,116,104]) Ze) (Z0 Z7) (Z0t C)))
      Y5)
    (Zf (Ym (Vy (Ys rfl (Yc rfl G_is_from_to (hr.mono (by omega)) hG (by rfl) (Z1g C) (Ue C).kp (Z1b C) .nil Dfl.nil tk (Z6 (Z8 (pv 2)) (Z6 f_int (Z6 (Ww (c_min rfl) (by rfl) (Zjy C) (by decide +kernel) (Z6 f_int (Z6 (f_op (Zw rfl) (Z8 (pv 0)) f_int) Ze))) Ze))) (Z0 (Z0 (Z0 Z7))))))
      (Zf (Z49 rfl rfl tk (Vs C) (Wv C).1 (Wv C).2 I_NoStyle_init (hr.mono (by omega)) db_NoStyle_init_1 dv_NoStyle_init_1 (fun _ _ => .nil) (by rfl) (Z0u C) (Z6 (Zg [100,101,101,112]) Ze) (Z0 Z7) (Z0t C)))
      Y5))))
theorem Z3h : GT P w K mg base 1 (mY "Source" "__init__") Z12 2 Xk := by
  refine fnFD (Z3d C) Z7u fun cdv A outer s H E hr hG => ?_
  exact (Z9 (Z1u rfl (Fx.FldOk.cons (Zd C) (Xb C) .nil) (Z8 (pv 0)) (Z8 (pv 1)))
    (Z9 (Z1u rfl (Fx.FldOk.cons (Zd C) (Xf C) .nil) (Z8 (pv 0)) (Ww (Zg7 rfl) (by rfl) (Zd1 C) (by decide +kernel) (Z6 (Z8 (pv 1)) Ze)))
    (Zf (Z1u rfl (Fx.FldOk.cons (Zd C) (Z1f C) .nil) (Z8 (pv 0)) f_int))))
theorem Yj : GT P w K mg base 1 (mY "Source" "at") Z3l 2 Zh := by
  refine fnFD (Z64 C) Zar fun cdv A outer s H E hr hG => ?_
  exact (Zf (Zo (f_sl rfl (Xu rfl (Fx.FldOk.cons (Zd C) (Xb C) .nil) (Z8 (pv 0))) (Vj (Z8 (pv 1))) (Vj (f_op (Zw rfl) (Z8 (pv 1)) f_int)))))
theorem Yr : GT P w K mg base 2 (mY "Source" "past_blanks") Vf 2 Zm := by
  have G_Source_at := @Yj P base w K mg C
  refine fnFD (Q8 C) Q5 fun cdv A outer s H E hr hG => ?_
  exact (Z9 (Qv (passes_of rfl) (Zk (o_eq hr.units rfl) (Zt rfl (Zd C) (Zv C) G_Source_at (hr.mono (by omega)) hG (Zu C) .nil Dfl.nil tk (Z8 (pv 0)) (Z6 (Z8 (pv 1)) Ze) (Z0 Z7)) (Zg [32]) (nomark _))
      (Zf (Z1r (i := 1) Q5.nd rfl (Or.inl rfl) f_int N6)))
    (Zf (Zo (Z8 (pv 1)))))
theorem Z07 : GT P w K mg base 1 (mY "Source" "is_begin") Um 2 Xl := by
  refine fnFD (Ny C) Z4e fun cdv A outer s H E hr hG => ?_
  exact (Zf (Zo (f_or rfl (Z0y (o_eq hr.units rfl) (Z8 (pv 1)) f_int (nomark _)) (Z69 (Z0y (o_eq hr.units rfl) (f_ix (Vk hr.units rfl) (Xu rfl (Fx.FldOk.cons (Zd C) (Xb C) .nil) (Z8 (pv 0))) (f_op Z6a (Z8 (pv 1)) f_int) (fun _ _ => rfl)) (Zg [10]) (nomark _))))))
theorem Z0v : GT P w K mg base 2 (mY "Source" "is_mark") Vi 3 Xr := by
  have G_Source_is_begin := @Z07 P base w K mg C
  have G_Source_at := @Yj P base w K mg C
  refine fnFD (Z0q C) Z5c fun cdv A outer s H E hr hG => ?_
  exact (Zf (Zo (Z7q rfl (Zt rfl (Zd C) (Z04 C) G_Source_is_begin (hr.mono (by omega)) hG (Nz C) .nil Dfl.nil tk (Z8 (pv 0)) (Z6 (Z8 (pv 1)) Ze) (Z0 Z7)) (Z7q rfl (Z0y (Z6b hr.units rfl) (f_sl rfl (Xu rfl (Fx.FldOk.cons (Zd C) (Xb C) .nil) (Z8 (pv 0))) (Vj (Z8 (pv 1))) (Vj (f_op (Zw rfl) (Z8 (pv 1)) f_int))) (Z8 (pv 2)) rfl) (Z69 (Z0y (Z6b hr.units rfl) (Zt rfl (Zd C) (Zv C) G_Source_at (hr.mono (by omega)) hG (Zu C) .nil Dfl.nil tk (Z8 (pv 0)) (Z6 (f_op (Zw rfl) (Z8 (pv 1)) f_int) Ze) (Z0 Z7)) (f_tup (Z6 (Zg []) (Z6 (Zg [32]) (Z6 (Zg [10]) Ze))) (Z0 (Z0 (Z0 Z7)))) rfl))))))
theorem Y8 : GT P w K mg base 1 (mY "Source" "miss") Z13 2 Zq := by
  refine fnFD (Z3f C) Z7v fun cdv A outer s H E hr hG => ?_
  exact (Zf (Z1u rfl (Fx.FldOk.cons (Zd C) (Z1f C) .nil) (Z8 (pv 0)) (Ww (Zdd rfl) (by rfl) (Z7j C) (by decide +kernel) (Z6 (Xu rfl (Fx.FldOk.cons (Zd C) (Z1f C) .nil) (Z8 (pv 0))) (Z6 (Z8 (pv 1)) Ze)))))
theorem Xp : GT P w K mg base 3 (mY "Source" "is_barred") U0 2 Yb := by
  have G_Source_is_mark := @Z0v P base w K mg C
  obtain ⟨ds_Source_is_mark_0,dv_Source_is_mark_0,db_Source_is_mark_0⟩ := Jv C
  have G_Source_miss := @Y8 P base w K mg C
  refine fnFD (Jw C) Z3m fun cdv A outer s H E hr hG => ?_
  exact (Z9 (Ym (Ys rfl (Zt rfl (Zd C) (Z0s C) G_Source_is_mark (hr.mono (by omega)) hG db_Source_is_mark_0 dv_Source_is_mark_0 (fun _ _ => (.cons (.tup (Z4b (C.c.fact 0) _) (.cons (.str _) (.cons (.str _) .nil))) .nil)) tk (Z8 (pv 0)) (Z6 (Z8 (pv 1)) Ze) (Z0 Z7)))
      (Z9 (Vz (Zt rfl (Zd C) (Zy C) G_Source_miss (hr.mono (by omega)) hG (Zx C) .nil Dfl.nil tk (Z8 (pv 0)) (Z6 (f_op (Zw rfl) (Z8 (pv 1)) f_int) Ze) (Z0 Z7)))
      (Zf (Zo f_bl)))
      Y5)
    (Zf (Zo f_bl)))
theorem Z93 : GT P w K mg base 1 (gY "is_safe") Z6x 2 Z28 := by
  have g_IN_BRACKETS := Z8f C
  have q_IN_BRACKETS := Z87 C
  obtain ⟨t_BRACKETS,g_BRACKETS⟩ := Zca C
  refine fnFD (Ja C) Zdh fun cdv A outer s H E hr hG => ?_
  exact (Zf (Zo (Z7q rfl (Zbt Z6t Z6t (Zg [33]) (Z8 (pv 0)) (Zg [126])) (Z69 (Zj4 rfl (Z7q rfl (Z0y (Z6b hr.units rfl) (Z8 (pv 1)) (f_c (pe_glob (v := .ref (He.ga _ "IN_BRACKETS")) rfl g_IN_BRACKETS rfl) (fun _ H => .tup (q_IN_BRACKETS H) Z80)) rfl) (Z69 (Z0y (Z6b hr.units rfl) (Z8 (pv 0)) (f_c (pe_glob (v := .str (S Z5n)) rfl g_BRACKETS ⟨_, rfl⟩) (fun _ _ => .str _)) rfl))))))))
theorem Z94 : GT P w K mg base 4 (gY "is_next") Z6y 4 Z7a := by
  have G_Source_is_barred := @Xp P base w K mg C
  have G_Source_at := @Yj P base w K mg C
  have G_Source_miss := @Y8 P base w K mg C
  have G_is_safe := @Z93 P base w K mg C
  refine fnFD (Z2n C) Z8o fun cdv A outer s H E hr hG => ?_
  exact (Z9 (Ym (Ys rfl (Zt rfl (Zd C) (Xo C) G_Source_is_barred (hr.mono (by omega)) hG (Xn C) .nil Dfl.nil tk (Z8 (pv 0)) (Z6 (Z8 (pv 1)) Ze) (Z0 Z7)))
      (Zf (Zo f_bl))
      Y5)
    (Z9 (Zr (i := 4) Z8o.nd rfl (Or.inl rfl) (Zt rfl (Zd C) (Zv C) G_Source_at (hr.mono (by omega)) hG (Zu C) .nil Dfl.nil tk (Z8 (pv 0)) (Z6 (Z8 (pv 1)) Ze) (Z0 Z7)))
    (Z9 (Ym (Zk (o_eq hr.units rfl) (Z8 (pv 4)) (Zg [58]) (nomark _))
      (Z9 (Ym (Vy (Ys rfl (Yc rfl G_is_safe (hr.mono (by omega)) hG (by rfl) (Z2p C) (Ja C).kp (Z2m C) .nil Dfl.nil tk (Z6 (Zt rfl (Zd C) (Zv C) G_Source_at (hr.mono (by omega)) hG (Zu C) .nil Dfl.nil tk (Z8 (pv 0)) (Z6 (f_op (Zw rfl) (Z8 (pv 1)) f_int) Ze) (Z0 Z7)) (Z6 (Z8 (pv 2)) Ze)) (Z0 (Z0 Z7)))))
        (Z9 (Vz (Zt rfl (Zd C) (Zy C) G_Source_miss (hr.mono (by omega)) hG (Zx C) .nil Dfl.nil tk (Z8 (pv 0)) (Z6 (f_op (Zw rfl) (Z8 (pv 1)) f_int) Ze) (Z0 Z7)))
        (Zf (Zo f_bl)))
        Y5)
      (Zf (Zo f_bl)))
      Y5)
    (Z9 (Ym (PW.pt (Z46 (Vy (Ys rfl (Yc rfl G_is_safe (hr.mono (by omega)) hG (by rfl) (Z2p C) (Ja C).kp (Z2m C) .nil Dfl.nil tk (Z6 (Z8 (pv 4)) (Z6 (Z8 (pv 2)) Ze)) (Z0 (Z0 Z7))))) (N5 (PW.pt (Vx (Zk (o_eq hr.units rfl) (Z8 (pv 4)) (Zg [35]) (nomark _)) (V1 (Vy (Ys rfl (Z8 (pv 3))))))))))
      (Z9 (Vz (Zt rfl (Zd C) (Zy C) G_Source_miss (hr.mono (by omega)) hG (Zx C) .nil Dfl.nil tk (Z8 (pv 0)) (Z6 (Z8 (pv 1)) Ze) (Z0 Z7)))
      (Zf (Zo f_bl)))
      Y5)
    (Zf (Zo f_bl))))))
theorem Zdv : GT P w K mg base 5 (gY "row_end") Z6z 3 Z7b := by
  have G_Source_past_blanks := @Yr P base w K mg C
  have G_is_next := @Z94 P base w K mg C
  refine fnFD (Z2o C) Z5d fun cdv A outer s H E hr hG => ?_
  exact (Zf (Qv (passes_of rfl) (Ys rfl f_bl)
      (Z9 (Zr (i := 3) Z5d.nd rfl (Or.inl rfl) (Zt rfl (Zd C) (Y0 C) G_Source_past_blanks (hr.mono (by omega)) hG (Zz C) .nil Dfl.nil tk (Z8 (pv 0)) (Z6 (Z8 (pv 1)) Ze) (Z0 Z7)))
      (Z9 (Ym (Vy (Ys rfl (Yc rfl G_is_next (hr.mono (by omega)) hG (by rfl) (Z91 C) (Z2n C).kp (Z8y C) .nil Dfl.nil tk (Z6 (Z8 (pv 0)) (Z6 (Z8 (pv 3)) (Z6 (Z8 (pv 2)) (Z6 (Z0y (o_eq hr.units rfl) (Z8 (pv 1)) (Z8 (pv 3)) (nomark _)) Ze)))) (Z0 (Z0 (Z0 (Z0 Z7)))))))
        (Zf (Zo (Z8 (pv 1))))
        Y5)
      (Zf (Zr (i := 1) Z5d.nd rfl (Or.inl rfl) (f_op (Zw rfl) (Z8 (pv 3)) f_int)))))))
theorem Zcc : GT P w K mg base 4 (gY "is_first") Z5e 3 Z8x := by
  have G_Source_is_barred := @Xp P base w K mg C
  have G_Source_at := @Yj P base w K mg C
  have G_Source_miss := @Y8 P base w K mg C
  have G_is_safe := @Z93 P base w K mg C
  obtain ⟨t_MAYBE_FIRST,g_MAYBE_FIRST⟩ := Z88 C
  obtain ⟨t_NOT_FIRST,g_NOT_FIRST⟩ := Zbc C
  refine fnFD (Z3x C) Z70 fun cdv A outer s H E hr hG => ?_
  exact (Z9 (Ym (Ys rfl (Zt rfl (Zd C) (Xo C) G_Source_is_barred (hr.mono (by omega)) hG (Xn C) .nil Dfl.nil tk (Z8 (pv 0)) (Z6 (Z8 (pv 1)) Ze) (Z0 Z7)))
      (Zf (Zo f_bl))
      Y5)
    (Z9 (Zr (i := 3) Z70.nd rfl (Or.inl rfl) (Zt rfl (Zd C) (Zv C) G_Source_at (hr.mono (by omega)) hG (Zu C) .nil Dfl.nil tk (Z8 (pv 0)) (Z6 (Z8 (pv 1)) Ze) (Z0 Z7)))
    (Z9 (Ym (PW.pt (Vx (Zk (o_ne hr.units rfl) (Z8 (pv 3)) (Zg []) (nomark _)) (V1 (Zk (Z6b hr.units rfl) (Z8 (pv 3)) (f_c (pe_glob (v := .str (S Z1a)) rfl g_MAYBE_FIRST ⟨_,rfl⟩) (fun _ _ => .str _)) rfl))))
      (Z9 (Ym (Vy (Ys rfl (Yc rfl G_is_safe (hr.mono (by omega)) hG (by rfl) (Z2p C) (Ja C).kp (Z2m C) .nil Dfl.nil tk (Z6 (Zt rfl (Zd C) (Zv C) G_Source_at (hr.mono (by omega)) hG (Zu C) .nil Dfl.nil tk (Z8 (pv 0)) (Z6 (f_op (Zw rfl) (Z8 (pv 1)) f_int) Ze) (Z0 Z7)) (Z6 (Z8 (pv 2)) Ze)) (Z0 (Z0 Z7)))))
        (Z9 (Vz (Zt rfl (Zd C) (Zy C) G_Source_miss (hr.mono (by omega)) hG (Zx C) .nil Dfl.nil tk (Z8 (pv 0)) (Z6 (f_op (Zw rfl) (Z8 (pv 1)) f_int) Ze) (Z0 Z7)))
        (Zf (Zo f_bl)))
        Y5)
      (Zf (Zo f_bl)))
      Y5)
    (Z9 (Ym (PW.pt (Z46 (Vy (Ys rfl (Yc rfl G_is_safe (hr.mono (by omega)) hG (by rfl) (Z2p C) (Ja C).kp (Z2m C) .nil Dfl.nil tk (Z6 (Z8 (pv 3)) (Z6 (Z8 (pv 2)) Ze)) (Z0 (Z0 Z7))))) (N5 (Zk (Z6b hr.units rfl) (Z8 (pv 3)) (f_c (pe_glob (v := .str (S Z3s)) rfl g_NOT_FIRST ⟨_,rfl⟩) (fun _ _ => .str _)) rfl))))
      (Z9 (Vz (Zt rfl (Zd C) (Zy C) G_Source_miss (hr.mono (by omega)) hG (Zx C) .nil Dfl.nil tk (Z8 (pv 0)) (Z6 (Z8 (pv 1)) Ze) (Z0 Z7)))
      (Zf (Zo f_bl)))
      Y5)
    (Zf (Zo f_bl))))))
theorem Z54 : GT P w K mg base 2 (mY "Source" "indented") Uq 3 Z0n := by
  have G_Source_at := @Yj P base w K mg C
  have G_Source_miss := @Y8 P base w K mg C
  refine fnFD (Z00 C) N8 fun cdv A outer s H E hr hG => ?_
  exact (Z9 (Z1s (passes_of rfl) rfl (Z1t (by rfl) (Z53 C) (Z6 (Z8 (pv 2)) Ze) (Z0 Z7)) (Xj (i := 3) N8.nd rfl (Or.inl rfl))
      (Zf (Ym (Zk (o_ne hr.units rfl) (Zt rfl (Zd C) (Zv C) G_Source_at (hr.mono (by omega)) hG (Zu C) .nil Dfl.nil tk (Z8 (pv 0)) (Z6 (f_op (Zw rfl) (Z8 (pv 1)) (Z8 (pv 3))) Ze) (Z0 Z7)) (Zg [32]) (nomark _))
        (Zf (Zo (Zt rfl (Zd C) (Zy C) G_Source_miss (hr.mono (by omega)) hG (Zx C) .nil Dfl.nil tk (Z8 (pv 0)) (Z6 (f_op (Zw rfl) (Z8 (pv 1)) (Z8 (pv 3))) Ze) (Z0 Z7))))
        Y5)))
    (Zf (Zo (f_op (Zw rfl) (Z8 (pv 1)) (Ww (Zdd rfl) (by rfl) (Z7j C) (by decide +kernel) (Z6 f_int (Z6 (Z8 (pv 2)) Ze)))))))
theorem Za9 : GT P w K mg base 3 (gY "plain_fold") Z1y 3 Z61 := by
  have G_Source_past_blanks := @Yr P base w K mg C
  have G_Source_indented := @Z54 P base w K mg C
  have G_Source_at := @Yj P base w K mg C
  have G_Source_miss := @Y8 P base w K mg C
  refine fnFD (Z1c C) Wb fun cdv A outer s H E hr hG => ?_
  exact (Z9 (Zr (i := 3) Wb.nd rfl (Or.inl rfl) (Zt rfl (Zd C) (Y0 C) G_Source_past_blanks (hr.mono (by omega)) hG (Zz C) .nil Dfl.nil tk (Z8 (pv 0)) (Z6 (Z8 (pv 1)) Ze) (Z0 Z7)))
    (Z9 (Ym (Zk (o_ne hr.units rfl) (Zt rfl (Zd C) (Zv C) G_Source_at (hr.mono (by omega)) hG (Zu C) .nil Dfl.nil tk (Z8 (pv 0)) (Z6 (Z8 (pv 3)) Ze) (Z0 Z7)) (Zg [10]) (nomark _))
      (Zf (Zo (Zt rfl (Zd C) (Zy C) G_Source_miss (hr.mono (by omega)) hG (Zx C) .nil Dfl.nil tk (Z8 (pv 0)) (Z6 (Z8 (pv 3)) Ze) (Z0 Z7))))
      Y5)
    (Z9 (Z1r (i := 3) Wb.nd rfl (Or.inl rfl) f_int N6)
    (Z9 (Zr (i := 4) Wb.nd rfl (Or.inl rfl) f_int)
    (Z9 (Qv (passes_of rfl) (Zk (o_eq hr.units rfl) (Zt rfl (Zd C) (Zv C) G_Source_at (hr.mono (by omega)) hG (Zu C) .nil Dfl.nil tk (Z8 (pv 0)) (Z6 (Zt rfl (Zd C) (Y0 C) G_Source_past_blanks (hr.mono (by omega)) hG (Zz C) .nil Dfl.nil tk (Z8 (pv 0)) (Z6 (Z8 (pv 3)) Ze) (Z0 Z7)) Ze) (Z0 Z7)) (Zg [10]) (nomark _))
      (Z9 (Zr (i := 3) Wb.nd rfl (Or.inl rfl) (f_op (Zw rfl) (Zt rfl (Zd C) (Y0 C) G_Source_past_blanks (hr.mono (by omega)) hG (Zz C) .nil Dfl.nil tk (Z8 (pv 0)) (Z6 (Z8 (pv 3)) Ze) (Z0 Z7)) f_int))
      (Zf (Z1r (i := 4) Wb.nd rfl (Or.inl rfl) f_int N6))))
    (Z9 (Zr (i := 5) Wb.nd rfl (Or.inl rfl) (Zt rfl (Zd C) (Z51 C) G_Source_indented (hr.mono (by omega)) hG (Z4x C) .nil Dfl.nil tk (Z8 (pv 0)) (Z6 (Z8 (pv 3)) (Z6 (Z8 (pv 2)) Ze)) (Z0 (Z0 Z7))))
    (Z9 (Ym (Zk o_is (Z8 (pv 5)) Q9 (nomark _))
      (Zf (Zo Q9))
      Y5)
    (Zf (Zo (f_tup (Z6 (Zt rfl (Zd C) (Y0 C) G_Source_past_blanks (hr.mono (by omega)) hG (Zz C) .nil Dfl.nil tk (Z8 (pv 0)) (Z6 (Z8 (pv 5)) Ze) (Z0 Z7)) (Z6 (f_if (Ys rfl (Z8 (pv 4))) (f_op Z1m (Zg [10]) (Z8 (pv 4))) (Zg [32])) Ze)) (Z0 (Z0 Z7))))))))))))
theorem Zgw : GT P w K mg base 6 (gY "plain") Zc3 4 Zf9 := by
  have G_row_end := @Zdv P base w K mg C
  have G_is_first := @Zcc P base w K mg C
  have G_plain_fold := @Za9 P base w K mg C
  have G_is_next := @Z94 P base w K mg C
  have g_ON_A_LINE := Z2f C
  have q_ON_A_LINE := Z2e C
  refine fnFD (fd_plain C) Z2k fun cdv A outer s H E hr hG => ?_
  exact (Z9 (Ym (Vy (Ys rfl (Yc rfl G_is_first (hr.mono (by omega)) hG (by rfl) (Zcb C) (Z3x C).kp (Zc9 C) .nil Dfl.nil tk (Z6 (Z8 (pv 0)) (Z6 (Z8 (pv 1)) (Z6 (Z8 (pv 3)) Ze))) (Z0 (Z0 (Z0 Z7))))))
      (Zf (Zo Q9))
      Y5)
    (Z9 (Zr (i := 4) Z2k.nd rfl (Or.inl rfl) (Yc rfl G_row_end (hr.mono (by omega)) hG (by rfl) (Z92 C) (Z2o C).kp (Z8z C) .nil Dfl.nil tk (Z6 (Z8 (pv 0)) (Z6 (f_op (Zw rfl) (Z8 (pv 1)) f_int) (Z6 (Z8 (pv 3)) Ze))) (Z0 (Z0 (Z0 Z7)))))
    (Z9 (Zr (i := 5) Z2k.nd rfl (Or.inl rfl) (f_sl rfl (Xu rfl (Fx.FldOk.cons (Zd C) (Xb C) .nil) (Z8 (pv 0))) (Vj (Z8 (pv 1))) (Vj (Z8 (pv 4)))))
    (Z9 (Qv (passes_of rfl) (Zk (Z6j hr.units rfl) (Z8 (pv 3)) (f_c (pe_glob (v := .ref (He.ga _ "ON_A_LINE")) rfl g_ON_A_LINE rfl) (fun _ H => .tup (q_ON_A_LINE H) Z2b)) rfl)
      (Z9 (Zr (i := 6) Z2k.nd rfl (Or.inl rfl) (Yc rfl G_plain_fold (hr.mono (by omega)) hG (by rfl) (Za5 C) (Z1c C).kp (Z9y C) .nil Dfl.nil tk (Z6 (Z8 (pv 0)) (Z6 (Z8 (pv 4)) (Z6 (Z8 (pv 2)) Ze))) (Z0 (Z0 (Z0 Z7)))))
      (Z9 (Ym (PW.pt (Z46 (Zk o_is (Z8 (pv 6)) Q9 (nomark _)) (N5 (Vy (Ys rfl (Yc rfl G_is_next (hr.mono (by omega)) hG (by rfl) (Z91 C) (Z2n C).kp (Z8y C) .nil Dfl.nil tk (Z6 (Z8 (pv 0)) (Z6 (f_ix (Vk hr.units rfl) (Z8 (pv 6)) f_int (fun _ _ => rfl)) (Z6 (Z8 (pv 3)) (Z6 f_bl Ze)))) (Z0 (Z0 (Z0 (Z0 Z7))))))))))
        (Zf Zha)
        Y5)
      (Z9 (Zr (i := 4) Z2k.nd rfl (Or.inl rfl) (Yc rfl G_row_end (hr.mono (by omega)) hG (by rfl) (Z92 C) (Z2o C).kp (Z8z C) .nil Dfl.nil tk (Z6 (Z8 (pv 0)) (Z6 (f_op (Zw rfl) (f_ix (Vk hr.units rfl) (Z8 (pv 6)) f_int (fun _ _ => rfl)) f_int) (Z6 (Z8 (pv 3)) Ze))) (Z0 (Z0 (Z0 Z7)))))
      (Zf (Z1r (i := 5) Z2k.nd rfl (Or.inl rfl) (f_op (Zw rfl) (f_ix (Vk hr.units rfl) (Z8 (pv 6)) f_int (fun _ _ => rfl)) (f_sl rfl (Xu rfl (Fx.FldOk.cons (Zd C) (Xb C) .nil) (Z8 (pv 0))) (Vj (f_ix (Vk hr.units rfl) (Z8 (pv 6)) f_int (fun _ _ => rfl))) (Vj (Z8 (pv 4))))) N6))))))
    (Zf (Zo (f_tup (Z6 (Z8 (pv 4)) (Z6 (Z8 (pv 5)) Ze)) (Z0 (Z0 Z7)))))))))
theorem Qt : GT P w K mg base 2 (mY "Source" "past_white") Vm 2 Xa := by
  have G_Source_at := @Yj P base w K mg C
  refine fnFD (Qn C) Qg fun cdv A outer s H E hr hG => ?_
  exact (Z9 (Qv (passes_of rfl) (Zk (Z6b hr.units rfl) (Zt rfl (Zd C) (Zv C) G_Source_at (hr.mono (by omega)) hG (Zu C) .nil Dfl.nil tk (Z8 (pv 0)) (Z6 (Z8 (pv 1)) Ze) (Z0 Z7)) (f_tup (Z6 (Zg [32]) (Z6 (Zg [9]) Ze)) (Z0 (Z0 Z7))) rfl)
      (Zf (Z1r (i := 1) Qg.nd rfl (Or.inl rfl) f_int N6)))
    (Zf (Zo (Z8 (pv 1)))))
theorem Z55 : GT P w K mg base 4 (gY "quote_fold") Z1z 3 Nr := by
  have G_Source_past_blanks := @Yr P base w K mg C
  have G_Source_miss := @Y8 P base w K mg C
  have G_Source_past_white := @Qt P base w K mg C
  have G_Source_at := @Yj P base w K mg C
  have G_Source_is_barred := @Xp P base w K mg C
  refine fnFD (J8 C) Vc fun cdv A outer s H E hr hG => ?_
  exact (Z9 (Zr (i := 3) Vc.nd rfl (Or.inl rfl) f_int)
    (Zf (Qv (passes_of rfl) (Ys rfl f_bl)
      (Z9 (Zr (i := 4) Vc.nd rfl (Or.inl rfl) (Zt rfl (Zd C) (Y0 C) G_Source_past_blanks (hr.mono (by omega)) hG (Zz C) .nil Dfl.nil tk (Z8 (pv 0)) (Z6 (Z8 (pv 1)) Ze) (Z0 Z7)))
      (Z9 (Ym (PW.pt (Vx (Zk o_lt (f_op Z6a (Z8 (pv 4)) (Z8 (pv 1))) (Z8 (pv 2)) (nomark _)) (V1 (Zk (o_ne hr.units rfl) (Zt rfl (Zd C) (Zv C) G_Source_at (hr.mono (by omega)) hG (Zu C) .nil Dfl.nil tk (Z8 (pv 0)) (Z6 (Z8 (pv 4)) Ze) (Z0 Z7)) (Zg [10]) (nomark _)))))
        (Zf (Zo (Zt rfl (Zd C) (Zy C) G_Source_miss (hr.mono (by omega)) hG (Zx C) .nil Dfl.nil tk (Z8 (pv 0)) (Z6 (Z8 (pv 4)) Ze) (Z0 Z7))))
        Y5)
      (Z9 (Ym (Zk Zjf (f_op Z6a (Z8 (pv 4)) (Z8 (pv 1))) (Z8 (pv 2)) (nomark _))
        (Zf (Zr (i := 4) Vc.nd rfl (Or.inl rfl) (Zt rfl (Zd C) (Qs C) G_Source_past_white (hr.mono (by omega)) hG (Qo C) .nil Dfl.nil tk (Z8 (pv 0)) (Z6 (f_op (Zw rfl) (Z8 (pv 1)) (Z8 (pv 2))) Ze) (Z0 Z7))))
        Y5)
      (Z9 (Ym (Zk (o_ne hr.units rfl) (Zt rfl (Zd C) (Zv C) G_Source_at (hr.mono (by omega)) hG (Zu C) .nil Dfl.nil tk (Z8 (pv 0)) (Z6 (Z8 (pv 4)) Ze) (Z0 Z7)) (Zg [10]) (nomark _))
        (Zf (Zo (f_if (Ys rfl (Zt rfl (Zd C) (Xo C) G_Source_is_barred (hr.mono (by omega)) hG (Xn C) .nil Dfl.nil tk (Z8 (pv 0)) (Z6 (Z8 (pv 1)) Ze) (Z0 Z7))) Q9 (f_tup (Z6 (Z8 (pv 4)) (Z6 (Z8 (pv 3)) Ze)) (Z0 (Z0 Z7))))))
        Y5)
      (Z9 (Z1r (i := 3) Vc.nd rfl (Or.inl rfl) f_int N6)
      (Zf (Zr (i := 1) Vc.nd rfl (Or.inl rfl) (f_op (Zw rfl) (Z8 (pv 4)) f_int)))))))))))
theorem Z8h : GT P w K mg base 5 (gY "folded_part") Z14 4 Xv := by
  have G_quote_fold := @Z55 P base w K mg C
  have G_Source_miss := @Y8 P base w K mg C
  have g_ON_A_LINE := Z2f C
  have q_ON_A_LINE := Z2e C
  refine fnFD (Z0e C) Z31 fun cdv A outer s H E hr hG => ?_
  exact (Z9 (Zr (i := 4) Z31.nd rfl (Or.inl rfl) (f_if (Zk (Z6b hr.units rfl) (Z8 (pv 3)) (f_c (pe_glob (v := .ref (He.ga _ "ON_A_LINE")) rfl g_ON_A_LINE rfl) (fun _ H => .tup (q_ON_A_LINE H) Z2b)) rfl) Q9 (Yc rfl G_quote_fold (hr.mono (by omega)) hG (by rfl) (Z52 C) (J8 C).kp (Z4y C) .nil Dfl.nil tk (Z6 (Z8 (pv 0)) (Z6 (f_op (Zw rfl) (Z8 (pv 1)) f_int) (Z6 (Z8 (pv 2)) Ze))) (Z0 (Z0 (Z0 Z7))))))
    (Z9 (Ym (Zk o_is (Z8 (pv 4)) Q9 (nomark _))
      (Zf (Zo (Zt rfl (Zd C) (Zy C) G_Source_miss (hr.mono (by omega)) hG (Zx C) .nil Dfl.nil tk (Z8 (pv 0)) (Z6 (Z8 (pv 1)) Ze) (Z0 Z7))))
      Y5)
    (Zf (Zo (f_tup (Z6 (f_ix (Vk hr.units rfl) (Z8 (pv 4)) f_int (fun _ _ => rfl)) (Z6 (f_if (Ys rfl (f_ix (Vk hr.units rfl) (Z8 (pv 4)) f_int (fun _ _ => rfl))) (f_op Z1m (Zg [10]) (f_ix (Vk hr.units rfl) (Z8 (pv 4)) f_int (fun _ _ => rfl))) (Zg [32])) Ze)) (Z0 (Z0 Z7)))))))
theorem Zdw : GT P w K mg base 5 (gY "escaped") Z72 4 W6 := by
  have G_Source_at := @Yj P base w K mg C
  have G_quote_fold := @Z55 P base w K mg C
  have G_Source_miss := @Y8 P base w K mg C
  have g_ESCAPES := Zdr C
  have g_ON_A_LINE := Z2f C
  have q_ON_A_LINE := Z2e C
  refine fnFD (Z5q C) Z5g fun cdv A outer s H E hr hG => ?_
  exact (Z9 (Zr (i := 4) Z5g.nd rfl (Or.inl rfl) (Zt rfl (Zd C) (Zv C) G_Source_at (hr.mono (by omega)) hG (Zu C) .nil Dfl.nil tk (Z8 (pv 0)) (Z6 (f_op (Zw rfl) (Z8 (pv 1)) f_int) Ze) (Z0 Z7)))
    (Z9 (Ym (PW.pt (Vx (Zk (o_eq hr.units rfl) (Z8 (pv 4)) (Zg [10]) (nomark _)) (V1 (Zk (Z6j hr.units rfl) (Z8 (pv 3)) (f_c (pe_glob (v := .ref (He.ga _ "ON_A_LINE")) rfl g_ON_A_LINE rfl) (fun _ H => .tup (q_ON_A_LINE H) Z2b)) rfl))))
      (Z9 (Zr (i := 5) Z5g.nd rfl (Or.inl rfl) (Yc rfl G_quote_fold (hr.mono (by omega)) hG (by rfl) (Z52 C) (J8 C).kp (Z4y C) .nil Dfl.nil tk (Z6 (Z8 (pv 0)) (Z6 (f_op (Zw rfl) (Z8 (pv 1)) f_int) (Z6 (Z8 (pv 2)) Ze))) (Z0 (Z0 (Z0 Z7)))))
      (Zf (Zo (f_if (Zk o_is (Z8 (pv 5)) Q9 (nomark _)) Q9 (f_tup (Z6 (f_ix (Vk hr.units rfl) (Z8 (pv 5)) f_int (fun _ _ => rfl)) (Z6 (f_op Z1m (Zg [10]) (f_ix (Vk hr.units rfl) (Z8 (pv 5)) f_int (fun _ _ => rfl))) Ze)) (Z0 (Z0 Z7)))))))
      Y5)
    (Z9 (Ym (Z8t rfl (by rfl) g_ESCAPES (Z8 (pv 4)))
      (Zf (Zo (Zt rfl (Zd C) (Zy C) G_Source_miss (hr.mono (by omega)) hG (Zx C) .nil Dfl.nil tk (Z8 (pv 0)) (Z6 (f_op (Zw rfl) (Z8 (pv 1)) f_int) Ze) (Z0 Z7))))
      Y5)
    (Zf (Zo (f_tup (Z6 (f_op (Zw rfl) (Z8 (pv 1)) f_int) (Z6 (Zeq rfl (by rfl) g_ESCAPES (Z8 (pv 4)) (fun _ _ => rfl)) Ze)) (Z0 (Z0 Z7))))))))
theorem Zfi : GT P w K mg base 6 (gY "quoted") Z9m 4 Z9u := by
  have G_Source_at := @Yj P base w K mg C
  have G_Source_past_white := @Qt P base w K mg C
  have G_Source_miss := @Y8 P base w K mg C
  have G_folded_part := @Z8h P base w K mg C
  have G_escaped := @Zdw P base w K mg C
  refine fnFD (Z7g C) Wn fun cdv A outer s H E hr hG => ?_
  exact (Z9 (Zr (i := 4) Wn.nd rfl (Or.inl rfl) (Zt rfl (Zd C) (Zv C) G_Source_at (hr.mono (by omega)) hG (Zu C) .nil Dfl.nil tk (Z8 (pv 0)) (Z6 (Z8 (pv 1)) Ze) (Z0 Z7)))
    (Z9 (Zr (i := 5) Wn.nd rfl (Or.inl rfl) (Zg []))
    (Z9 (Z1r (i := 1) Wn.nd rfl (Or.inl rfl) f_int N6)
    (Zf (Qv (passes_of rfl) (Ys rfl f_bl)
      (Z9 (Zr (i := 6) Wn.nd rfl (Or.inl rfl) (Zt rfl (Zd C) (Zv C) G_Source_at (hr.mono (by omega)) hG (Zu C) .nil Dfl.nil tk (Z8 (pv 0)) (Z6 (Z8 (pv 1)) Ze) (Z0 Z7)))
      (Z9 (Ym (PW.pt (Vx (Zk (o_eq hr.units rfl) (Z8 (pv 6)) (Z8 (pv 4)) (nomark _)) (V1 (PW.pt (Z46 (Zk (o_eq hr.units rfl) (Z8 (pv 4)) (Zg [34]) (nomark _)) (N5 (Zk (o_ne hr.units rfl) (Zt rfl (Zd C) (Zv C) G_Source_at (hr.mono (by omega)) hG (Zu C) .nil Dfl.nil tk (Z8 (pv 0)) (Z6 (f_op (Zw rfl) (Z8 (pv 1)) f_int) Ze) (Z0 Z7)) (Z8 (pv 4)) (nomark _))))))))
        (Zf (Zo (f_tup (Z6 (f_op (Zw rfl) (Z8 (pv 1)) f_int) (Z6 (Z8 (pv 5)) Ze)) (Z0 (Z0 Z7)))))
        Y5)
      (Z9 (Ym (Zk (o_eq hr.units rfl) (Z8 (pv 6)) (Zg []) (nomark _))
        (Zf (Zo (Zt rfl (Zd C) (Zy C) G_Source_miss (hr.mono (by omega)) hG (Zx C) .nil Dfl.nil tk (Z8 (pv 0)) (Z6 (Z8 (pv 1)) Ze) (Z0 Z7))))
        Y5)
      (Z9 (Zr (i := 7) Wn.nd rfl (Or.inl rfl) (Zt rfl (Zd C) (Qs C) G_Source_past_white (hr.mono (by omega)) hG (Qo C) .nil Dfl.nil tk (Z8 (pv 0)) (Z6 (Z8 (pv 1)) Ze) (Z0 Z7)))
      (Z9 (Zr (i := 8) Wn.nd rfl (Or.inl rfl) (f_tup (Z6 (Ww (Zdd rfl) (by rfl) (Z7j C) (by decide +kernel) (Z6 (Z8 (pv 7)) (Z6 (f_op (Zw rfl) (Z8 (pv 1)) f_int) Ze))) (Z6 (f_sl rfl (Xu rfl (Fx.FldOk.cons (Zd C) (Xb C) .nil) (Z8 (pv 0))) (Vj (Z8 (pv 1))) (Vj (Ww (Zdd rfl) (by rfl) (Z7j C) (by decide +kernel) (Z6 (Z8 (pv 7)) (Z6 (f_op (Zw rfl) (Z8 (pv 1)) f_int) Ze))))) Ze)) (Z0 (Z0 Z7))))
      (Z9 (Ym (Zk (o_eq hr.units rfl) (Zt rfl (Zd C) (Zv C) G_Source_at (hr.mono (by omega)) hG (Zu C) .nil Dfl.nil tk (Z8 (pv 0)) (Z6 (Z8 (pv 7)) Ze) (Z0 Z7)) (Zg [10]) (nomark _))
        (Zf (Zr (i := 8) Wn.nd rfl (Or.inl rfl) (Yc rfl G_folded_part (hr.mono (by omega)) hG (by rfl) (Z8b C) (Z0e C).kp (Z82 C) .nil Dfl.nil tk (Z6 (Z8 (pv 0)) (Z6 (Z8 (pv 7)) (Z6 (Z8 (pv 2)) (Z6 (Z8 (pv 3)) Ze)))) (Z0 (Z0 (Z0 (Z0 Z7)))))))
        (Zf (Ym (Zk (o_eq hr.units rfl) (Z8 (pv 6)) (Z8 (pv 4)) (nomark _))
          (Zf (Zr (i := 8) Wn.nd rfl (Or.inl rfl) (f_tup (Z6 (f_op (Zw rfl) (Z8 (pv 1)) f_int) (Z6 (Z8 (pv 6)) Ze)) (Z0 (Z0 Z7)))))
          (Zf (Ym (PW.pt (Vx (Zk (o_eq hr.units rfl) (Z8 (pv 6)) (Zg [92]) (nomark _)) (V1 (Zk (o_eq hr.units rfl) (Z8 (pv 4)) (Zg [34]) (nomark _)))))
            (Zf (Zr (i := 8) Wn.nd rfl (Or.inl rfl) (Yc rfl G_escaped (hr.mono (by omega)) hG (by rfl) (Zdt C) (Z5q C).kp (Zdp C) .nil Dfl.nil tk (Z6 (Z8 (pv 0)) (Z6 (Z8 (pv 1)) (Z6 (Z8 (pv 2)) (Z6 (Z8 (pv 3)) Ze)))) (Z0 (Z0 (Z0 (Z0 Z7)))))))
            Y5)))))
      (Z9 (Ym (Zk o_is (Z8 (pv 8)) Q9 (nomark _))
        (Zf (Zo Q9))
        Y5)
      (Z9 (Z1r (i := 5) Wn.nd rfl (Or.inl rfl) (f_ix (Vk hr.units rfl) (Z8 (pv 8)) f_int (fun _ _ => rfl)) N6)
      (Zf (Zr (i := 1) Wn.nd rfl (Or.inl rfl) (f_ix (Vk hr.units rfl) (Z8 (pv 8)) f_int (fun _ _ => rfl)))))))))))))))))
theorem Zdx : GT P w K mg base 1 (gY "is_text") Z73 1 Z4r := by
  refine fnFD (Z5r C) Z5h fun cdv A outer s H E hr hG => ?_
  exact (Zf (Zo (Z7q rfl (Ww (Zea rfl) (by rfl) (Uk C) (by decide +kernel) (Z6 (Z8 (pv 0)) (Z6 (f_c (pe_bltn (v := .ty "str") (by rfl) (Zfh C) (by decide +kernel) rfl) (fun _ _ => .ty _)) Ze))) (Z69 (Ww (c_all rfl rfl) (by rfl) (fr_all C) (by decide +kernel) (Z6 (f_lc (own := [("sign", 1)]) (Zee 1) (by decide) rfl Z5h.nd (Z8m rfl (Z8 (pv 0))) (blkOk_by (N := Zav) (sc := defScope Q7) (by decide +kernel)) (fun _ _ _ _ _ => (pg_name (i := 1) Z5h.nd rfl (Or.inl rfl))) (fun _ _ _ _ _ => Zef) (fun _ _ _ _ _ => (f_or rfl (Zbt Z6t Z6t (Zg [32]) (Z8 (pv 1)) (Zg [126])) (Z69 (Z0y (Z6b hr.units rfl) (Z8 (pv 1)) (Zg [9,10]) rfl))))) Ze))))))
theorem Zaa : GT P w K mg base 1 (mY "Piece" "__init__") Z20 4 Z62 := by
  refine fnFD (Z4z C) Z9n fun cdv A outer s H E hr hG => ?_
  exact (Z9 (Z1u rfl (Fx.FldOk.cons (Zj C) (Yg C) .nil) (Z8 (pv 0)) (Z8 (pv 1)))
    (Z9 (Z47 (f_tup (Z6 (Z8 (pv 2)) (Z6 (Z8 (pv 3)) Ze)) (Z0 (Z0 Z7))) (Z5u rfl rfl (Xc (Zao rfl (Fx.FldOk.cons (Zj C) (Z8a C) .nil) (Z8 (pv 0))) (Xc (Zao rfl (Fx.FldOk.cons (Zj C) (Z0r C) .nil) (Z8 (pv 0))) Z1q))))
    (Z9 (Z1u rfl (Fx.FldOk.cons (Zj C) (Vd C) .nil) (Z8 (pv 0)) (Qu Ze Z7))
    (Z9 (Z1u rfl (Fx.FldOk.cons (Zj C) (Wo C) .nil) (Z8 (pv 0)) f_int)
    (Z9 (Z47 (f_tup (Z6 f_int (Z6 (Zg []) Ze)) (Z0 (Z0 Z7))) (Z5u rfl rfl (Xc (Zao rfl (Fx.FldOk.cons (Zj C) (Uz C) .nil) (Z8 (pv 0))) (Xc (Zao rfl (Fx.FldOk.cons (Zj C) (Wu C) .nil) (Z8 (pv 0))) Z1q))))
    (Zf (Z1u rfl (Fx.FldOk.cons (Zj C) (Vv C) .nil) (Z8 (pv 0)) (f_op (Zw rfl) (Z8 (pv 2)) f_int))))))))
theorem Z08 : GT P w K mg base 1 (mY "Source" "line_end") Ur 2 Uu := by
  refine fnFD (Z01 C) Nf fun cdv A outer s H E hr hG => ?_
  exact (Z9 (Zr (i := 2) Nf.nd rfl (Or.inl rfl) (f_bm rfl PySem.F.plainAttrs_str PySem.F.slot_str_find PySem.F.type_str_find Zi5 (Xu rfl (Fx.FldOk.cons (Zd C) (Xb C) .nil) (Z8 (pv 0))) (Z6 (Zg [10]) (Z6 (Z8 (pv 1)) Ze))))
    (Zf (Zo (f_if (Zk o_lt (Z8 (pv 2)) f_int (nomark _)) (Xu rfl (Fx.FldOk.cons (Zd C) (Xf C) .nil) (Z8 (pv 0))) (Z8 (pv 2))))))
theorem Z7k : GT P w K mg base 3 (mY "Source" "close") Z0a 2 Z3c := by
  have G_Source_past_blanks := @Yr P base w K mg C
  have G_Source_line_end := @Z08 P base w K mg C
  have G_Source_miss := @Y8 P base w K mg C
  have G_Source_at := @Yj P base w K mg C
  have G_Source_is_begin := @Z07 P base w K mg C
  refine fnFD (Z2d C) Jk fun cdv A outer s H E hr hG => ?_
  exact (Z9 (Zr (i := 2) Jk.nd rfl (Or.inl rfl) (Zt rfl (Zd C) (Y0 C) G_Source_past_blanks (hr.mono (by omega)) hG (Zz C) .nil Dfl.nil tk (Z8 (pv 0)) (Z6 (Z8 (pv 1)) Ze) (Z0 Z7)))
    (Z9 (Ym (PW.pt (Vx (Zk (o_eq hr.units rfl) (Zt rfl (Zd C) (Zv C) G_Source_at (hr.mono (by omega)) hG (Zu C) .nil Dfl.nil tk (Z8 (pv 0)) (Z6 (Z8 (pv 2)) Ze) (Z0 Z7)) (Zg [35]) (nomark _)) (V1 (PW.pt (Z46 (Zk Zgh (Z8 (pv 2)) (Z8 (pv 1)) (nomark _)) (N5 (Ys rfl (Zt rfl (Zd C) (Z04 C) G_Source_is_begin (hr.mono (by omega)) hG (Nz C) .nil Dfl.nil tk (Z8 (pv 0)) (Z6 (Z8 (pv 1)) Ze) (Z0 Z7)))))))))
      (Zf (Zr (i := 2) Jk.nd rfl (Or.inl rfl) (Zt rfl (Zd C) (Z05 C) G_Source_line_end (hr.mono (by omega)) hG (Z02 C) .nil Dfl.nil tk (Z8 (pv 0)) (Z6 (Z8 (pv 2)) Ze) (Z0 Z7))))
      Y5)
    (Z9 (Ym (Zk (o_eq hr.units rfl) (Z8 (pv 2)) (Xu rfl (Fx.FldOk.cons (Zd C) (Xf C) .nil) (Z8 (pv 0))) (nomark _))
      (Zf (Zo (Z8 (pv 2))))
      Y5)
    (Zf (Zo (f_if (Zk (o_eq hr.units rfl) (Zt rfl (Zd C) (Zv C) G_Source_at (hr.mono (by omega)) hG (Zu C) .nil Dfl.nil tk (Z8 (pv 0)) (Z6 (Z8 (pv 2)) Ze) (Z0 Z7)) (Zg [10]) (nomark _)) (f_op (Zw rfl) (Z8 (pv 2)) f_int) (Zt rfl (Zd C) (Zy C) G_Source_miss (hr.mono (by omega)) hG (Zx C) .nil Dfl.nil tk (Z8 (pv 0)) (Z6 (Z8 (pv 2)) Ze) (Z0 Z7))))))))
theorem Z2w : GT P w K mg base 4 (mY "Piece" "read_header") Vn 1 Jt := by
  have G_Source_close := @Z7k P base w K mg C
  have G_Source_at := @Yj P base w K mg C
  refine fnFD (Qp C) Xg fun cdv A outer s H E hr hG => ?_
  exact (Z9 (Zr (i := 1) Xg.nd rfl (Or.inl rfl) f_bl)
    (Z9 (Z1s (passes_of rfl) rfl (Z1t (by rfl) (Z53 C) (Z6 f_int Ze) (Z0 Z7)) (Xj (i := 2) Xg.nd rfl (Or.inl rfl))
      (Z9 (Zr (i := 3) Xg.nd rfl (Or.inl rfl) (Zt rfl (Zd C) (Zv C) G_Source_at (hr.mono (by omega)) hG (Zu C) .nil Dfl.nil tk (Xu rfl (Fx.FldOk.cons (Zj C) (Yg C) .nil) (Z8 (pv 0))) (Z6 (Xu rfl (Fx.FldOk.cons (Zj C) (Vv C) .nil) (Z8 (pv 0))) Ze) (Z0 Z7)))
      (Zf (Ym (PW.pt (Vx (Zg5 Z6t Z6t (Zg [49]) (Z8 (pv 3)) (Zg [57])) (V1 (Vy (Ys rfl (Z8 (pv 1)))))))
        (Z9 (Z47 (f_tup (Z6 (Vb (Z0j (nd_ C)) (by rfl) (Z06 C) (by decide +kernel) (Z6 (Z8 (pv 3)) Ze)) (Z6 f_bl Ze)) (Z0 (Z0 Z7))) (Z5u rfl rfl (Xc (Zao rfl (Fx.FldOk.cons (Zj C) (Uz C) .nil) (Z8 (pv 0))) (Xc (Xj (i := 1) Xg.nd rfl (Or.inl rfl)) Z1q))))
        (Zf (Zbz rfl (Fx.FldOk.cons (Zj C) (Vv C) .nil) (Z8 (pv 0)) f_int N6)))
        (Zf (Ym (PW.pt (Vx (Zk (o_ne hr.units rfl) (Z8 (pv 3)) (Zg []) (nomark _)) (Vx (Zk (Z6b hr.units rfl) (Z8 (pv 3)) (Zg [43,45]) rfl) (V1 (Zk (o_eq hr.units rfl) (Xu rfl (Fx.FldOk.cons (Zj C) (Wu C) .nil) (Z8 (pv 0))) (Zg []) (nomark _))))))
          (Z9 (Z1u rfl (Fx.FldOk.cons (Zj C) (Wu C) .nil) (Z8 (pv 0)) (Z8 (pv 3)))
          (Zf (Zbz rfl (Fx.FldOk.cons (Zj C) (Vv C) .nil) (Z8 (pv 0)) f_int N6)))
          Y5))))))
    (Zf (Zo (Zt rfl (Zd C) (Z7i C) G_Source_close (hr.mono (by omega)) hG (Z7h C) .nil Dfl.nil tk (Xu rfl (Fx.FldOk.cons (Zj C) (Yg C) .nil) (Z8 (pv 0))) (Z6 (Xu rfl (Fx.FldOk.cons (Zj C) (Vv C) .nil) (Z8 (pv 0))) Ze) (Z0 Z7))))))
theorem Z42 : GT P w K mg base 1 (mY "Piece" "last_feeds") U3 1 Nt := by
  refine fnFD (Jx C) Jl fun cdv A outer s H E hr hG => ?_
  exact (Z9 (Ym (PW.pt (Z46 (Zk (o_eq hr.units rfl) (Xu rfl (Fx.FldOk.cons (Zj C) (Wu C) .nil) (Z8 (pv 0))) (Zg [45]) (nomark _)) (N5 (PW.pt (Vx (Zk (Zjv hr.units rfl) (Xu rfl (Fx.FldOk.cons (Zj C) (Vd C) .nil) (Z8 (pv 0))) (Qu Ze Z7) (nomark _)) (V1 (Zk (o_eq hr.units rfl) (Xu rfl (Fx.FldOk.cons (Zj C) (Wu C) .nil) (Z8 (pv 0))) (Zg []) (nomark _))))))))
      (Zf (Zo (Zg [])))
      Y5)
    (Z9 (Zr (i := 1) Jl.nd rfl (Or.inl rfl) (Vb (Z0j (nd_ C)) (by rfl) (Z06 C) (by decide +kernel) (Z6 (Z7q rfl (Z0y (o_neL hr.units rfl) (Xu rfl (Fx.FldOk.cons (Zj C) (Vd C) .nil) (Z8 (pv 0))) (Qu Ze Z7) (nomark _)) (Z69 (f_ix (Vk hr.units rfl) (f_ix (Vk hr.units rfl) (Xu rfl (Fx.FldOk.cons (Zj C) (Vd C) .nil) (Z8 (pv 0))) (f_neg f_int) (fun _ _ => rfl)) f_int (fun _ _ => rfl)))) Ze)))
    (Zf (Zo (f_op Z1m (Zg [10]) (f_op (Zw rfl) (Z8 (pv 1)) (f_op Z1m (Xu rfl (Fx.FldOk.cons (Zj C) (Wo C) .nil) (Z8 (pv 0))) (Vb (Z0j (nd_ C)) (by rfl) (Z06 C) (by decide +kernel) (Z6 (Z0y (o_eq hr.units rfl) (Xu rfl (Fx.FldOk.cons (Zj C) (Wu C) .nil) (Z8 (pv 0))) (Zg [43]) (nomark _)) Ze)))))))))
theorem Z8i : GT P w K mg base 2 (mY "Piece" "value") Z16 2 Z4t := by
  have G_Piece_last_feeds := @Z42 P base w K mg C
  refine fnFD (Z3g C) Y7 fun cdv A outer s H E hr hG => ?_
  exact (Z9 (Zr (i := 2) Y7.nd rfl (Or.inl rfl) (Zg []))
    (Z9 (Zr (i := 3) Y7.nd rfl (Or.inl rfl) f_bl)
    (Z9 (Z1s (passes_of rfl) rfl (Zco rfl (by rfl) (Z67 C) (Z6 (Xu rfl (Fx.FldOk.cons (Zj C) (Vd C) .nil) (Z8 (pv 0))) Ze) (Z0 Z7)) (Z5u rfl rfl (Xc (Xj (i := 4) Y7.nd rfl (Or.inl rfl)) (Xc (Xj (i := 5) Y7.nd rfl (Or.inl rfl)) Z1q)))
      (Z9 (Z47 (Z8 (pv 5)) (Z5u rfl rfl (Xc (Xj (i := 6) Y7.nd rfl (Or.inl rfl)) (Xc (Xj (i := 7) Y7.nd rfl (Or.inl rfl)) (Xc (Xj (i := 8) Y7.nd rfl (Or.inl rfl)) Z1q)))))
      (Z9 (Zr (i := 9) Y7.nd rfl (Or.inl rfl) (Z0y (Z6b hr.units rfl) (f_sl rfl (Z8 (pv 7)) Zbu (Vj f_int)) (f_tup (Z6 (Zg [32]) (Z6 (Zg [9]) Ze)) (Z0 (Z0 Z7))) rfl))
      (Z9 (Ym (Zk (o_eq hr.units rfl) (Z8 (pv 4)) f_int (nomark _))
        (Zf (Zr (i := 2) Y7.nd rfl (Or.inl rfl) (f_op Z1m (Zg [10]) (Z8 (pv 6)))))
        (Zf (Ym (PW.pt (Vx (Ys rfl (Z8 (pv 1))) (Vx (Vy (Ys rfl (Z8 (pv 3)))) (V1 (Vy (Ys rfl (Z8 (pv 9))))))))
          (Zf (Z1r (i := 2) Y7.nd rfl (Or.inl rfl) (f_if (Ys rfl (Z8 (pv 6))) (f_op Z1m (Zg [10]) (Z8 (pv 6))) (Zg [32])) N6))
          (Zf (Z1r (i := 2) Y7.nd rfl (Or.inl rfl) (f_op Z1m (Zg [10]) (f_op (Zw rfl) (Z8 (pv 6)) f_int)) N6)))))
      (Z9 (Z1r (i := 2) Y7.nd rfl (Or.inl rfl) (Z8 (pv 7)) N6)
      (Zf (Zr (i := 3) Y7.nd rfl (Or.inl rfl) (Z8 (pv 9)))))))))
    (Zf (Zo (f_op (Zw rfl) (Z8 (pv 2)) (Zei rfl (Zj C) (Z40 C) G_Piece_last_feeds (hr.mono (by omega)) hG (Z3y C) .nil Dfl.nil tk (Z8 (pv 0)))))))))
theorem Z1h : GT P w K mg base 3 (mY "Source" "expected_mark") Wx 3 Wz := by
  have G_Source_is_mark := @Z0v P base w K mg C
  obtain ⟨ds_Source_is_mark_0,dv_Source_is_mark_0,db_Source_is_mark_0⟩ := Jv C
  have G_Source_miss := @Y8 P base w K mg C
  have G_Source_at := @Yj P base w K mg C
  refine fnFD (Ug C) Wg fun cdv A outer s H E hr hG => ?_
  exact (Z9 (Z1s (passes_of rfl) rfl (Zco rfl (by rfl) (Z67 C) (Z6 (Z8 (pv 2)) Ze) (Z0 Z7)) (Z5u rfl rfl (Xc (Xj (i := 3) Wg.nd rfl (Or.inl rfl)) (Xc (Xj (i := 4) Wg.nd rfl (Or.inl rfl)) Z1q)))
      (Zf (Ym (Zk (o_ne hr.units rfl) (Zt rfl (Zd C) (Zv C) G_Source_at (hr.mono (by omega)) hG (Zu C) .nil Dfl.nil tk (Z8 (pv 0)) (Z6 (f_op (Zw rfl) (Z8 (pv 1)) (Z8 (pv 3))) Ze) (Z0 Z7)) (Z8 (pv 4)) (nomark _))
        (Zf (Zo (Zt rfl (Zd C) (Zy C) G_Source_miss (hr.mono (by omega)) hG (Zx C) .nil Dfl.nil tk (Z8 (pv 0)) (Z6 (f_op (Zw rfl) (Z8 (pv 1)) (Z8 (pv 3))) Ze) (Z0 Z7))))
        Y5)))
    (Zf (Zo (f_if (Ys rfl (Zt rfl (Zd C) (Z0s C) G_Source_is_mark (hr.mono (by omega)) hG db_Source_is_mark_0 dv_Source_is_mark_0 (fun _ _ => (.cons (.tup (Z4b (C.c.fact 0) _) (.cons (.str _) (.cons (.str _) .nil))) .nil)) tk (Z8 (pv 0)) (Z6 (Z8 (pv 1)) Ze) (Z0 Z7))) (f_op (Zw rfl) (Z8 (pv 1)) f_int) (Zt rfl (Zd C) (Zy C) G_Source_miss (hr.mono (by omega)) hG (Zx C) .nil Dfl.nil tk (Z8 (pv 0)) (Z6 (f_op (Zw rfl) (Z8 (pv 1)) f_int) Ze) (Z0 Z7))))))
theorem Z2x : GT P w K mg base 4 (mY "Piece" "indentation") Vo 2 Ju := by
  have G_Source_miss := @Y8 P base w K mg C
  have G_Source_past_blanks := @Yr P base w K mg C
  have G_Source_is_barred := @Xp P base w K mg C
  have G_Source_expected_mark := @Z1h P base w K mg C
  have G_Source_at := @Yj P base w K mg C
  refine fnFD (Qq C) Xh fun cdv A outer s H E hr hG => ?_
  exact (Z9 (Ym (Zk Zgh (Xu rfl (Fx.FldOk.cons (Zj C) (Uz C) .nil) (Z8 (pv 0))) f_int (nomark _))
      (Zf (Zo (f_op (Zw rfl) (Xu rfl (Fx.FldOk.cons (Zj C) (Z0r C) .nil) (Z8 (pv 0))) (Xu rfl (Fx.FldOk.cons (Zj C) (Uz C) .nil) (Z8 (pv 0))))))
      Y5)
    (Z9 (Zr (i := 2) Xh.nd rfl (Or.inl rfl) f_int)
    (Z9 (Qv (passes_of rfl) (Ys rfl f_bl)
      (Z9 (Zr (i := 3) Xh.nd rfl (Or.inl rfl) (Zt rfl (Zd C) (Y0 C) G_Source_past_blanks (hr.mono (by omega)) hG (Zz C) .nil Dfl.nil tk (Xu rfl (Fx.FldOk.cons (Zj C) (Yg C) .nil) (Z8 (pv 0))) (Z6 (Z8 (pv 1)) Ze) (Z0 Z7)))
      (Z9 (Ym (Zk (o_ne hr.units rfl) (Zt rfl (Zd C) (Zv C) G_Source_at (hr.mono (by omega)) hG (Zu C) .nil Dfl.nil tk (Xu rfl (Fx.FldOk.cons (Zj C) (Yg C) .nil) (Z8 (pv 0))) (Z6 (Z8 (pv 3)) Ze) (Z0 Z7)) (Zg [10]) (nomark _))
        (Zf Zha)
        Y5)
      (Z9 (Zr (i := 2) Xh.nd rfl (Or.inl rfl) (Ww (Zdd rfl) (by rfl) (Z7j C) (by decide +kernel) (Z6 (Z8 (pv 2)) (Z6 (f_op Z6a (Z8 (pv 3)) (Z8 (pv 1))) Ze))))
      (Zf (Zr (i := 1) Xh.nd rfl (Or.inl rfl) (f_op (Zw rfl) (Z8 (pv 3)) f_int)))))))
    (Z9 (Vz (Zt rfl (Zd C) (Zy C) G_Source_miss (hr.mono (by omega)) hG (Zx C) .nil Dfl.nil tk (Xu rfl (Fx.FldOk.cons (Zj C) (Yg C) .nil) (Z8 (pv 0))) (Z6 (Z8 (pv 3)) Ze) (Z0 Z7)))
    (Z9 (Ym (Zk (o_eq hr.units rfl) (Z8 (pv 3)) (Xu rfl (Fx.FldOk.cons (Zd C) (Xf C) .nil) (Xu rfl (Fx.FldOk.cons (Zj C) (Yg C) .nil) (Z8 (pv 0)))) (nomark _))
      (Zf (Zo (Ww (Zjn rfl rfl) (by rfl) (Z7j C) (by decide +kernel) (Z6 (f_op (Zw rfl) (Xu rfl (Fx.FldOk.cons (Zj C) (Z0r C) .nil) (Z8 (pv 0))) f_int) (Z6 (Z8 (pv 2)) (Z6 (f_op Z6a (Z8 (pv 3)) (Z8 (pv 1))) Ze))))))
      Y5)
    (Z9 (Ym (PW.pt (Z46 (Zk Z6t (f_op Z6a (Z8 (pv 3)) (Z8 (pv 1))) (Xu rfl (Fx.FldOk.cons (Zj C) (Z0r C) .nil) (Z8 (pv 0))) (nomark _)) (N5 (Ys rfl (Zt rfl (Zd C) (Xo C) G_Source_is_barred (hr.mono (by omega)) hG (Xn C) .nil Dfl.nil tk (Xu rfl (Fx.FldOk.cons (Zj C) (Yg C) .nil) (Z8 (pv 0))) (Z6 (Z8 (pv 1)) Ze) (Z0 Z7))))))
      (Zf (Zo (Ww (Zdd rfl) (by rfl) (Z7j C) (by decide +kernel) (Z6 (f_op (Zw rfl) (Xu rfl (Fx.FldOk.cons (Zj C) (Z0r C) .nil) (Z8 (pv 0))) f_int) (Z6 (Z8 (pv 2)) Ze)))))
      Y5)
    (Z9 (Ym (Zk Z6t (Z8 (pv 2)) (f_op Z6a (Z8 (pv 3)) (Z8 (pv 1))) (nomark _))
      (Zf (Zo (f_op Z6a (Z8 (pv 3)) (Z8 (pv 1)))))
      Y5)
    (Z9 (Ym (Zk (o_eq hr.units rfl) (Z8 (pv 3)) (Z8 (pv 1)) (nomark _))
      (Z9 (Vz (Zt rfl (Zd C) (Ui C) G_Source_expected_mark (hr.mono (by omega)) hG (Uh C) .nil Dfl.nil tk (Xu rfl (Fx.FldOk.cons (Zj C) (Yg C) .nil) (Z8 (pv 0))) (Z6 (Z8 (pv 1)) (Z6 (Zg [45,45,45]) Ze)) (Z0 (Z0 Z7))))
      (Zf (Vz (Zt rfl (Zd C) (Ui C) G_Source_expected_mark (hr.mono (by omega)) hG (Uh C) .nil Dfl.nil tk (Xu rfl (Fx.FldOk.cons (Zj C) (Yg C) .nil) (Z8 (pv 0))) (Z6 (Z8 (pv 1)) (Z6 (Zg [46,46,46]) Ze)) (Z0 (Z0 Z7))))))
      Y5)
    (Zf (Zo Q9))))))))))
theorem Zab : GT P w K mg base 4 (mY "Piece" "take") Z22 3 Z63 := by
  have G_Source_miss := @Y8 P base w K mg C
  have G_Source_past_blanks := @Yr P base w K mg C
  have G_Source_line_end := @Z08 P base w K mg C
  have G_Source_is_barred := @Xp P base w K mg C
  refine fnFD (Z50 C) U5 fun cdv A outer s H E hr hG => ?_
  exact (Z9 (Zr (i := 3) U5.nd rfl (Or.inl rfl) (Xu rfl (Fx.FldOk.cons (Zj C) (Yg C) .nil) (Z8 (pv 0))))
    (Z9 (Qv (passes_of rfl) (Zk o_lt (Z8 (pv 1)) (Xu rfl (Fx.FldOk.cons (Zd C) (Xf C) .nil) (Z8 (pv 3))) (nomark _))
      (Z9 (Z6r (i := 4) (j := 5) rfl U5.nd rfl rfl (by decide) rfl rfl (Z6 (Zt rfl (Zd C) (Y0 C) G_Source_past_blanks (hr.mono (by omega)) hG (Zz C) .nil Dfl.nil tk (Z8 (pv 3)) (Z6 (Z8 (pv 1)) Ze) (Z0 Z7)) (Z6 (Zt rfl (Zd C) (Z05 C) G_Source_line_end (hr.mono (by omega)) hG (Z02 C) .nil Dfl.nil tk (Z8 (pv 3)) (Z6 (Z8 (pv 1)) Ze) (Z0 Z7)) Ze)) (Z0 (Z0 Z7)) (by rfl))
      (Z9 (Zr (i := 6) U5.nd rfl (Or.inl rfl) (Z0y o_lt (Z8 (pv 5)) (Xu rfl (Fx.FldOk.cons (Zd C) (Xf C) .nil) (Z8 (pv 3))) (nomark _)))
      (Z9 (Ym (PW.pt (Vx (Zk (o_eq hr.units rfl) (Z8 (pv 4)) (Z8 (pv 5)) (nomark _)) (V1 (Zk Z6t (f_op Z6a (Z8 (pv 4)) (Z8 (pv 1))) (Z8 (pv 2)) (nomark _)))))
        (Zf (Zbz rfl (Fx.FldOk.cons (Zj C) (Wo C) .nil) (Z8 (pv 0)) (Vb (Z0j (nd_ C)) (by rfl) (Z06 C) (by decide +kernel) (Z6 (Z8 (pv 6)) Ze)) N6))
        (Zf (Ym (PW.pt (Z46 (Zk o_lt (f_op Z6a (Z8 (pv 4)) (Z8 (pv 1))) (Z8 (pv 2)) (nomark _)) (N5 (PW.pt (Vx (Zk (o_eq hr.units rfl) (Z8 (pv 2)) f_int (nomark _)) (V1 (Ys rfl (Zt rfl (Zd C) (Xo C) G_Source_is_barred (hr.mono (by omega)) hG (Xn C) .nil Dfl.nil tk (Z8 (pv 3)) (Z6 (Z8 (pv 1)) Ze) (Z0 Z7)))))))))
          (Z9 (Vz (Zt rfl (Zd C) (Zy C) G_Source_miss (hr.mono (by omega)) hG (Zx C) .nil Dfl.nil tk (Z8 (pv 3)) (Z6 (Z8 (pv 4)) Ze) (Z0 Z7)))
          (Zf (Zo (Z8 (pv 1)))))
          (Z9 (Vz (f_bm rfl PySem.F.plainAttrs_list PySem.F.slot_list_append PySem.F.type_list_append m_append (Xu rfl (Fx.FldOk.cons (Zj C) (Vd C) .nil) (Z8 (pv 0))) (Z6 (f_tup (Z6 (Xu rfl (Fx.FldOk.cons (Zj C) (Wo C) .nil) (Z8 (pv 0))) (Z6 (f_sl rfl (Xu rfl (Fx.FldOk.cons (Zd C) (Xb C) .nil) (Z8 (pv 3))) (Vj (f_op (Zw rfl) (Z8 (pv 1)) (Z8 (pv 2)))) (Vj (Z8 (pv 5)))) (Z6 (Z8 (pv 6)) Ze))) (Z0 (Z0 (Z0 Z7)))) Ze)))
          (Z9 (Z1u rfl (Fx.FldOk.cons (Zj C) (Wo C) .nil) (Z8 (pv 0)) f_int)
          (Zf (Z1u rfl (Fx.FldOk.cons (Zj C) (Vv C) .nil) (Z8 (pv 0)) (Z8 (pv 5)))))))))
      (Zf (Zr (i := 1) U5.nd rfl (Or.inl rfl) (f_op (Zw rfl) (Z8 (pv 5)) (Vb (Z0j (nd_ C)) (by rfl) (Z06 C) (by decide +kernel) (Z6 (Z8 (pv 6)) Ze)))))))))
    (Z9 (Vz (Zt rfl (Zd C) (Zy C) G_Source_miss (hr.mono (by omega)) hG (Zx C) .nil Dfl.nil tk (Z8 (pv 3)) (Z6 (Z8 (pv 1)) Ze) (Z0 Z7)))
    (Zf (Zo (Z8 (pv 1)))))))
theorem Z8j : GT P w K mg base 5 (gY "block_value") Z17 3 Z4u := by
  have G_Source_init := @Z3h P base w K mg C
  have G_Piece_init := @Zaa P base w K mg C
  have G_Piece_read_header := @Z2w P base w K mg C
  have G_Piece_value := @Z8i P base w K mg C
  have G_Piece_indentation := @Z2x P base w K mg C
  have G_Piece_take := @Zab P base w K mg C
  have g_HEADS := Zd0 C
  refine fnFD (Z0f C) Vh fun cdv A outer s H E hr hG => ?_
  exact (Z9 (Ym (Zk (o_ne hr.units rfl) (f_sl rfl (Z8 (pv 0)) Zbu (Vj f_int)) (Zeq rfl (by rfl) g_HEADS (Z8 (pv 1)) (fun _ _ => rfl)) (nomark _))
      (Zf (Zo Q9))
      Y5)
    (Z9 (Zr (i := 3) Vh.nd rfl (Or.inl rfl) (Zej rfl (Zd C) (Zbd C) G_Source_init (hr.mono (by omega)) hG (by rfl) (Zbe C) (Z3e C) .nil Dfl.nil tk (Z6 (f_op (Zw rfl) (f_op (Zw rfl) (Zg [32]) (Z8 (pv 0))) (Zg [10])) Ze) (Z0 Z7)))
    (Z9 (Zr (i := 4) Vh.nd rfl (Or.inl rfl) (Zej rfl (Zj C) (Zgt C) G_Piece_init (hr.mono (by omega)) hG (by rfl) (Zgu C) (Z9z C) .nil Dfl.nil tk (Z6 (Z8 (pv 3)) (Z6 f_int (Z6 (Z8 (pv 2)) Ze))) (Z0 (Z0 (Z0 Z7)))))
    (Z9 (Zr (i := 5) Vh.nd rfl (Or.inl rfl) (Zei rfl (Zj C) (Z2u C) G_Piece_read_header (hr.mono (by omega)) hG (Z2s C) .nil Dfl.nil tk (Z8 (pv 4))))
    (Z9 (Zr (i := 6) Vh.nd rfl (Or.inl rfl) (f_if (Zk o_is (Z8 (pv 5)) Q9 (nomark _)) Q9 (Zt rfl (Zj C) (Z2v C) G_Piece_indentation (hr.mono (by omega)) hG (Z2t C) .nil Dfl.nil tk (Z8 (pv 4)) (Z6 (Z8 (pv 5)) Ze) (Z0 Z7))))
    (Z9 (Ym (PW.pt (Z46 (Zk o_is (Z8 (pv 6)) Q9 (nomark _)) (N5 (Zk (o_ne hr.units rfl) (Zt rfl (Zj C) (Za4 C) G_Piece_take (hr.mono (by omega)) hG (Za0 C) .nil Dfl.nil tk (Z8 (pv 4)) (Z6 (Z8 (pv 5)) (Z6 (Z8 (pv 6)) Ze)) (Z0 (Z0 Z7))) (Xu rfl (Fx.FldOk.cons (Zd C) (Xf C) .nil) (Z8 (pv 3))) (nomark _)))))
      (Zf (Zo Q9))
      Y5)
    (Zf (Zo (Zt rfl (Zj C) (Z89 C) G_Piece_value (hr.mono (by omega)) hG (Z83 C) .nil Dfl.nil tk (Z8 (pv 4)) (Z6 (Z0y (o_eq hr.units rfl) (Z8 (pv 1)) (Zg [102,111,108,100,101,100]) (nomark _)) Ze) (Z0 Z7))))))))))
theorem Z3i : GT P w K mg base 7 (gY "read_scalar") Qx 5 Y4 := by
  have G_check_place := @Z8g P base w K mg C
  have G_check_numbers := @Z6g P base w K mg C
  have G_Source_init := @Z3h P base w K mg C
  have G_plain := @Zgw P base w K mg C
  have G_quoted := @Zfi P base w K mg C
  have G_is_text := @Zdx P base w K mg C
  have G_block_value := @Z8j P base w K mg C
  have g_HEADS := Zd0 C
  have g_LETTERS := Z90 C
  have g_QUOTES := Zfd C
  have g_BEHIND := Zfe C
  refine fnFD (Ws C) Z0b fun cdv A outer s H E hr hG => ?_
  exact (Z9 (Vz (Yc rfl G_check_place (hr.mono (by omega)) hG (by rfl) (Z8c C) (Z0d C).kp (Z81 C) .nil Dfl.nil tk (Z6 (Z8 (pv 1)) (Z6 (Z8 (pv 2)) Ze)) (Z0 (Z0 Z7))))
    (Z9 (Vz (Yc rfl G_check_numbers (hr.mono (by omega)) hG (by rfl) (Z6f C) (Qc C).kp (Z6e C) .nil Dfl.nil tk (Z6 (Z8 (pv 3)) (Z6 f_int (Z6 (Z8 (pv 4)) Ze))) (Z0 (Z0 (Z0 Z7)))))
    (Z9 (Ym (PW.pt (Z46 (Vy (Ys rfl (Yc rfl G_is_text (hr.mono (by omega)) hG (by rfl) (Zdu C) (Z5r C).kp (Zdq C) .nil Dfl.nil tk (Z6 (Z8 (pv 0)) Ze) (Z0 Z7)))) (N5 (Zk (o_eq hr.units rfl) (Z8 (pv 0)) (Zg []) (nomark _)))))
      (Zf (Zo Q9))
      Y5)
    (Z9 (Ym (Zib rfl (by rfl) g_HEADS (Z8 (pv 1)))
      (Zf (Zo (f_if (Zk (o_eq hr.units rfl) (Z8 (pv 2)) (Zg [98,108,111,99,107]) (nomark _)) (Yc rfl G_block_value (hr.mono (by omega)) hG (by rfl) (Z8d C) (Z0f C).kp (Z84 C) .nil Dfl.nil tk (Z6 (Z8 (pv 0)) (Z6 (Z8 (pv 1)) (Z6 (f_op Z6a (Z8 (pv 3)) (Z8 (pv 4))) Ze))) (Z0 (Z0 (Z0 Z7)))) Q9)))
      Y5)
    (Z9 (Ym (Vy (Ys rfl (f_bm rfl PySem.F.plainAttrs_str PySem.F.slot_str_startswith PySem.F.type_str_startswith (Zg8 rfl) (Z8 (pv 0)) (Z6 (Zeq rfl (by rfl) g_QUOTES (Z8 (pv 1)) (fun _ _ => rfl)) Ze))))
      (Zf (Zo Q9))
      Y5)
    (Z9 (Z6r (i := 5) (j := 6) rfl Z0b.nd rfl rfl (by decide) rfl rfl (Z6 (Zej rfl (Zd C) (Zbd C) G_Source_init (hr.mono (by omega)) hG (by rfl) (Zbe C) (Z3e C) .nil Dfl.nil tk (Z6 (f_op (Zw rfl) (f_op (Zw rfl) (Zg [32]) (Z8 (pv 0))) (Zeq rfl (by rfl) g_BEHIND (Z8 (pv 2)) (fun _ _ => rfl))) Ze) (Z0 Z7)) (Z6 (Zeq rfl (by rfl) g_LETTERS (Z8 (pv 2)) (fun _ _ => rfl)) Ze)) (Z0 (Z0 Z7)) (by rfl))
    (Z9 (Zr (i := 7) Z0b.nd rfl (Or.inl rfl) (f_if (Zk (o_eq hr.units rfl) (Z8 (pv 1)) (Zg [112,108,97,105,110]) (nomark _)) (Yc rfl G_plain (hr.mono (by omega)) hG (by rfl) (Zgv C) (fd_plain C).kp (Zgs C) .nil Dfl.nil tk (Z6 (Z8 (pv 5)) (Z6 f_int (Z6 (Z8 (pv 3)) (Z6 (Z8 (pv 6)) Ze)))) (Z0 (Z0 (Z0 (Z0 Z7))))) (Yc rfl G_quoted (hr.mono (by omega)) hG (by rfl) (Zff C) (Z7g C).kp (Zfb C) .nil Dfl.nil tk (Z6 (Z8 (pv 5)) (Z6 f_int (Z6 (Z8 (pv 3)) (Z6 (Z8 (pv 6)) Ze)))) (Z0 (Z0 (Z0 (Z0 Z7)))))))
    (Zf (Zo (f_if (PW.pt (Vx (Zk Zbs (Z8 (pv 7)) Q9 (nomark _)) (V1 (Zk (o_eq hr.units rfl) (f_ix (Vk hr.units rfl) (Z8 (pv 7)) f_int (fun _ _ => rfl)) (f_op (Zw rfl) (Ww (Zg7 rfl) (by rfl) (Zd1 C) (by decide +kernel) (Z6 (Z8 (pv 0)) Ze)) f_int) (nomark _))))) (f_ix (Vk hr.units rfl) (Z8 (pv 7)) f_int (fun _ _ => rfl)) Q9))))))))))
theorem Z68 : GT P w K mg base 3 (gY "_law_word") Z3r 2 Wl := by
  have G__law_one := @Jy P base w K mg C
  refine fnFD (Z03 C) Z23 fun cdv A outer s H E hr hG => ?_
  exact (Z9 (Zr (i := 2) Z23.nd rfl (Or.inl rfl) (Qu (Z6 (f_tup (Z6 (Zg [97]) (Z6 (Zg [97]) Ze)) (Z0 (Z0 Z7))) (Z6 (f_tup (Z6 (Zg [98,99]) (Z6 (Zg [98,99]) Ze)) (Z0 (Z0 Z7))) (Z6 (f_tup (Z6 (Zg [100,32,101]) (Z6 (Zg [100,32,101]) Ze)) (Z0 (Z0 Z7))) (Z6 (f_tup (Z6 (Zg [35]) (Z6 (Zg [35]) Ze)) (Z0 (Z0 Z7))) (Z6 (f_tup (Z6 (Zg [58]) (Z6 (Zg [58]) Ze)) (Z0 (Z0 Z7))) (Z6 (f_tup (Z6 (Zg [45,45,45,120]) (Z6 (Zg [45,45,45,120]) Ze)) (Z0 (Z0 Z7))) (Z6 (f_tup (Z6 (Zg [123,44]) (Z6 (Zg [123,44]) Ze)) (Z0 (Z0 Z7))) Ze))))))) (Z0 (Z0 (Z0 (Z0 (Z0 (Z0 (Z0 Z7)))))))))
    (Z9 (Ym (Zk (o_eq hr.units rfl) (Z8 (pv 1)) (Zg [39]) (nomark _))
      (Zf (Zo (Yc rfl G__law_one (hr.mono (by omega)) hG (by rfl) (Xz C) (Xe C).kp (Xy C) .nil Dfl.nil tk (Z6 (Z8 (pv 0)) (Z6 (f_op (Zw rfl) (Z8 (pv 2)) (Qu (Z6 (f_tup (Z6 (Zg [39,39]) (Z6 (Zg [39]) Ze)) (Z0 (Z0 Z7))) (Z6 (f_tup (Z6 (Zg [34]) (Z6 (Zg [34]) Ze)) (Z0 (Z0 Z7))) (Z6 (f_tup (Z6 (Zg [92,110]) (Z6 (Zg [92,110]) Ze)) (Z0 (Z0 Z7))) (Z6 (f_tup (Z6 (Zg [39,39,39,39]) (Z6 (Zg [39,39]) Ze)) (Z0 (Z0 Z7))) Ze)))) (Z0 (Z0 (Z0 (Z0 Z7)))))) Ze)) (Z0 (Z0 Z7)))))
      Y5)
    (Z9 (Zr (i := 2) Z23.nd rfl (Or.inl rfl) (f_op (Zw rfl) (Z8 (pv 2)) (Qu (Z6 (f_tup (Z6 (Zg [92,34]) (Z6 (Zg [34]) Ze)) (Z0 (Z0 Z7))) (Z6 (f_tup (Z6 (Zg [92,92]) (Z6 (Zg [92]) Ze)) (Z0 (Z0 Z7))) (Z6 (f_tup (Z6 (Zg [92,110]) (Z6 (Zg [10]) Ze)) (Z0 (Z0 Z7))) (Z6 (f_tup (Z6 (Zg [92,116]) (Z6 (Zg [9]) Ze)) (Z0 (Z0 Z7))) (Z6 (f_tup (Z6 (Zg [92,32]) (Z6 (Zg [32]) Ze)) (Z0 (Z0 Z7))) Ze))))) (Z0 (Z0 (Z0 (Z0 (Z0 Z7))))))))
    (Zf (Zo (Yc rfl G__law_one (hr.mono (by omega)) hG (by rfl) (Xz C) (Xe C).kp (Xy C) .nil Dfl.nil tk (Z6 (Z8 (pv 0)) (Z6 (f_op (Zw rfl) (Z8 (pv 2)) (Qu (Z6 (f_tup (Z6 (Zg [39]) (Z6 (Zg [39]) Ze)) (Z0 (Z0 Z7))) (Z6 (f_tup (Z6 (Zg [92,47]) (Z6 (Zg [47]) Ze)) (Z0 (Z0 Z7))) (Z6 (f_tup (Z6 (Zg [92,9]) (Z6 (Zg [9]) Ze)) (Z0 (Z0 Z7))) Ze))) (Z0 (Z0 (Z0 Z7))))) Ze)) (Z0 (Z0 Z7))))))))
theorem Z43 : GT P w K mg base 8 (gY "_law_signs_right") U6 1 Uc := by
  have G__law_one := @Jy P base w K mg C
  have G_read_scalar := @Z3i P base w K mg C
  obtain ⟨ds_read_scalar_0,dv_read_scalar_0,db_read_scalar_0⟩ := Z1l C
  have G__law_word := @Z68 P base w K mg C
  refine fnFD (Vr C) Yz fun cdv A outer s H E hr hG => ?_
  exact (Z9 (Zr (i := 1) Yz.nd rfl (Or.inl rfl) (Zg [33,35,36,38,39,40,41,42,43,44,45,46,48,49,50,51,52,53,54,55,56,57,58,59,60,61,62,63,64,65,66,67,68,69,70,71,72,73,74,75,76,77,78,79,80,81,82,83,84,85,86,87,88,89,90,91,93,94,95,96,97,98,99,100,101,102,103,104,105,106,107,108,109,111,112,113,114,115,117,118,119,120,121,122,123,124,125,126]))
    (Z9 (Z6r (i := 2) (j := 3) rfl Yz.nd rfl rfl (by decide) rfl rfl (Z6 (f_ix (Vk hr.units rfl) (Yc rfl G__law_word (hr.mono (by omega)) hG (by rfl) (Z66 C) (Z03 C).kp (Z65 C) .nil Dfl.nil tk (Z6 (Z8 (pv 0)) (Z6 (Zg [34]) Ze)) (Z0 (Z0 Z7))) f_int (fun _ _ => rfl)) (Z6 (Yc rfl G__law_one (hr.mono (by omega)) hG (by rfl) (Xz C) (Xe C).kp (Xy C) .nil Dfl.nil tk (Z6 (Z8 (pv 0)) (Z6 (Qu (Z6 (Zg []) (Z6 (Zg [52,49]) (Z6 (Zg [32,97]) (Z6 (Zg [48,48,52,49]) (Z6 (Zg [10,32,122]) Ze))))) (Z0 (Z0 (Z0 (Z0 (Z0 Z7)))))) Ze)) (Z0 (Z0 Z7))) Ze)) (Z0 (Z0 Z7)) (by rfl))
    (Z9 (Z1s (passes_of rfl) rfl (Z8m rfl (Z8 (pv 1))) (Xj (i := 4) Yz.nd rfl (Or.inl rfl))
      (Zf (Ym (Zk Zbs (Yc rfl G_read_scalar (hr.mono (by omega)) hG (by rfl) (Q3 C) (Ws C).kp db_read_scalar_0 dv_read_scalar_0 (fun _ _ => (.cons (.int _) .nil)) tk (Z6 (f_op (Zw rfl) (f_op (Zw rfl) (f_op (Zw rfl) (f_op (Zw rfl) (f_op (Zw rfl) (Zg [34]) (Z8 (pv 2))) (Zg [92])) (Z8 (pv 4))) (Z8 (pv 3))) (Zg [34])) (Z6 (Zg [100,111,117,98,108,101]) (Z6 (Zg [98,108,111,99,107]) (Z6 f_int Ze)))) (Z0 (Z0 (Z0 (Z0 Z7))))) Q9 (nomark _))
        (Zf (Zo f_bl))
        Y5)))
    (Z9 (Zga (i := 5) (own := [("_law_sign", 4)]) (Zee 4) (by decide) rfl Yz.nd rfl rfl (sw_true rfl rfl rfl (by decide +kernel)) (Z8m rfl (Zg [110,116,47,32,34,92,9])) (blkOk_by (N := Nk) (sc := defScope Yi) (by decide +kernel)) (fun _ _ _ _ _ => (pg_name (i := 4) Yz.nd rfl (Or.inl rfl))) (fun _ _ _ _ _ => Zef) (fun _ _ _ _ _ => (Yc rfl G_read_scalar (hr.mono (by omega)) hG (by rfl) (Q3 C) (Ws C).kp db_read_scalar_0 dv_read_scalar_0 (fun _ _ => (.cons (.int _) .nil)) Zgb (Z6 (f_op (Zw rfl) (f_op (Zw rfl) (Zg [34,92]) (Z8 (pv 4))) (Zg [34])) (Z6 (Zg [100,111,117,98,108,101]) (Z6 (Zg [102,108,111,119]) (Z6 f_int Ze)))) (Z0 (Z0 (Z0 (Z0 Z7)))))))
    (Zf (Zo (Z0y (Zjv hr.units rfl) (Z8 (pv 5)) (Qu (Z6 (Zg [10]) (Z6 (Zg [9]) (Z6 (Zg [47]) (Z6 (Zg [32]) (Z6 (Zg [34]) (Z6 (Zg [92]) (Z6 (Zg [9]) Ze))))))) (Z0 (Z0 (Z0 (Z0 (Z0 (Z0 (Z0 Z7)))))))) (nomark _))))))))
theorem Zac : GT P w K mg base 3 (gY "_law_break") Z24 3 Nu := by
  have G__law_one := @Jy P base w K mg C
  have G__law_digit := @J9 P base w K mg C
  refine fnFD (Z1d C) Wj fun cdv A outer s H E hr hG => ?_
  exact (Z9 (Zr (i := 3) Wj.nd rfl (Or.inl rfl) (Yc rfl G__law_one (hr.mono (by omega)) hG (by rfl) (Xz C) (Xe C).kp (Xy C) .nil Dfl.nil tk (Z6 (Z8 (pv 0)) (Z6 (Qu (Z6 f_int (Z6 f_int (Z6 f_int (Z6 f_int (Z6 f_int Ze))))) (Z0 (Z0 (Z0 (Z0 (Z0 Z7)))))) Ze)) (Z0 (Z0 Z7))))
    (Z9 (Zr (i := 4) Wj.nd rfl (Or.inl rfl) (f_if (Ys rfl (Z8 (pv 2))) (Zg [92,10]) (f_op (Zw rfl) (Yc rfl G__law_one (hr.mono (by omega)) hG (by rfl) (Xz C) (Xe C).kp (Xy C) .nil Dfl.nil tk (Z6 (Z8 (pv 0)) (Z6 (Qu (Z6 (Zg []) (Z6 (Zg []) (Z6 (Zg [32]) (Z6 (Zg [9]) (Z6 (Zg [32,9,32]) Ze))))) (Z0 (Z0 (Z0 (Z0 (Z0 Z7)))))) Ze)) (Z0 (Z0 Z7))) (Zg [10]))))
    (Z9 (Z1s (passes_of rfl) rfl (Z1t (by rfl) (Z53 C) (Z6 (Z8 (pv 3)) Ze) (Z0 Z7)) (Xj (i := 5) Wj.nd rfl (Or.inl rfl))
      (Z9 (Zr (i := 6) Wj.nd rfl (Or.inl rfl) (f_op Z1m (Zg [32]) (Yc rfl G__law_digit (hr.mono (by omega)) hG (by rfl) (Uj C) (Wm C).kp (Ud C) .nil Dfl.nil tk (Z6 (Z8 (pv 0)) (Z6 (f_op (Zw rfl) (Z8 (pv 1)) f_int) Ze)) (Z0 (Z0 Z7)))))
      (Zf (Zr (i := 4) Wj.nd rfl (Or.inl rfl) (f_op (Zw rfl) (f_op (Zw rfl) (Z8 (pv 4)) (Yc rfl G__law_one (hr.mono (by omega)) hG (by rfl) (Xz C) (Xe C).kp (Xy C) .nil Dfl.nil tk (Z6 (Z8 (pv 0)) (Z6 (Qu (Z6 (Zg []) (Z6 (Z8 (pv 6)) (Z6 (f_op (Zw rfl) (f_op Z1m (Zg [32]) (Z8 (pv 1))) (Zg [9])) (Z6 (f_op (Zw rfl) (f_op Z1m (Zg [32]) (Z8 (pv 1))) (Zg [32,9,32])) Ze)))) (Z0 (Z0 (Z0 (Z0 Z7))))) Ze)) (Z0 (Z0 Z7)))) (Zg [10]))))))
    (Z9 (Zr (i := 7) Wj.nd rfl (Or.inl rfl) (f_if (PW.pt (Z46 (Zk Zgh (Z8 (pv 3)) f_int (nomark _)) (N5 (Ys rfl (Z8 (pv 2)))))) (f_op Z1m (Zg [10]) (Z8 (pv 3))) (Zg [32])))
    (Zf (Zo (f_tup (Z6 (f_op (Zw rfl) (f_op (Zw rfl) (Z8 (pv 4)) (f_op Z1m (Zg [32]) (Z8 (pv 1)))) (Yc rfl G__law_one (hr.mono (by omega)) hG (by rfl) (Xz C) (Xe C).kp (Xy C) .nil Dfl.nil tk (Z6 (Z8 (pv 0)) (Z6 (Qu (Z6 (Zg []) (Z6 (Zg []) (Z6 (Zg [32]) (Z6 (Zg [9]) Ze)))) (Z0 (Z0 (Z0 (Z0 Z7))))) Ze)) (Z0 (Z0 Z7)))) (Z6 (Z8 (pv 7)) Ze)) (Z0 (Z0 Z7)))))))))
theorem Zad : GT P w K mg base 4 (gY "_law_parts") Z25 3 Nv := by
  have G__law_digit := @J9 P base w K mg C
  have G__law_break := @Zac P base w K mg C
  have G__law_one := @Jy P base w K mg C
  have G__law_word := @Z68 P base w K mg C
  refine fnFD (Z1e C) Yn fun cdv A outer s H E hr hG => ?_
  exact (Z9 (Z47 (f_tup (Z6 (Zg []) (Z6 (Zg []) (Z6 f_bl (Z6 (Zg []) Ze)))) (Z0 (Z0 (Z0 (Z0 Z7))))) (Z5u rfl rfl (Xc (Xj (i := 3) Yn.nd rfl (Or.inl rfl)) (Xc (Xj (i := 4) Yn.nd rfl (Or.inl rfl)) (Xc (Xj (i := 5) Yn.nd rfl (Or.inl rfl)) (Xc (Xj (i := 6) Yn.nd rfl (Or.inl rfl)) Z1q))))))
    (Z9 (Z1s (passes_of rfl) rfl (Z1t (by rfl) (Z53 C) (Z6 (Yc rfl G__law_digit (hr.mono (by omega)) hG (by rfl) (Uj C) (Wm C).kp (Ud C) .nil Dfl.nil tk (Z6 (Z8 (pv 0)) (Z6 f_int Ze)) (Z0 (Z0 Z7))) Ze) (Z0 Z7)) (Xj (i := 7) Yn.nd rfl (Or.inl rfl))
      (Z9 (Zr (i := 8) Yn.nd rfl (Or.inl rfl) (Yc rfl G__law_digit (hr.mono (by omega)) hG (by rfl) (Uj C) (Wm C).kp (Ud C) .nil Dfl.nil tk (Z6 (Z8 (pv 0)) (Z6 f_int Ze)) (Z0 (Z0 Z7))))
      (Z9 (Zr (i := 9) Yn.nd rfl (Or.inl rfl) (Z7q rfl (Z0y (o_eq hr.units rfl) (Z8 (pv 8)) f_int (nomark _)) (Z7q rfl (Z0y (o_eq hr.units rfl) (Z8 (pv 1)) (Zg [34]) (nomark _)) (Z69 (Z0y (o_ne hr.units rfl) (Z8 (pv 6)) (Zg [98,114,101,97,107]) (nomark _))))))
      (Z9 (Ym (PW.pt (Z46 (Ys rfl (Z8 (pv 9))) (N5 (PW.pt (Vx (Zk (o_eq hr.units rfl) (Z8 (pv 8)) f_int (nomark _)) (V1 (Zk (Z6j hr.units rfl) (Z8 (pv 6)) (f_tup (Z6 (Zg [119,104,105,116,101]) (Z6 (Zg [98,114,101,97,107]) Ze)) (Z0 (Z0 Z7))) rfl)))))))
        (Zf (Zht (i := 10) (j := 6) (l := 5) rfl Yn.nd rfl rfl rfl (by decide) (by decide) (by decide) rfl rfl rfl (Z6 (Yc rfl G__law_break (hr.mono (by omega)) hG (by rfl) (Za6 C) (Z1d C).kp (Za1 C) .nil Dfl.nil tk (Z6 (Z8 (pv 0)) (Z6 (Z8 (pv 2)) (Z6 (Z8 (pv 9)) Ze))) (Z0 (Z0 (Z0 Z7)))) (Z6 (Zg [98,114,101,97,107]) (Z6 f_bl Ze))) (Z0 (Z0 (Z0 Z7))) (by rfl)))
        (Zf (Ym (PW.pt (Vx (Zk (o_eq hr.units rfl) (Z8 (pv 8)) f_int (nomark _)) (V1 (Zk (o_ne hr.units rfl) (Z8 (pv 6)) (Zg [98,114,101,97,107]) (nomark _)))))
          (Zf (Z6r (i := 10) (j := 6) rfl Yn.nd rfl rfl (by decide) rfl rfl (Z6 (Yc rfl G__law_one (hr.mono (by omega)) hG (by rfl) (Xz C) (Xe C).kp (Xy C) .nil Dfl.nil tk (Z6 (Z8 (pv 0)) (Z6 (Qu (Z6 (f_tup (Z6 (Zg [32]) (Z6 (Zg [32]) Ze)) (Z0 (Z0 Z7))) (Z6 (f_tup (Z6 (Zg [32,32]) (Z6 (Zg [32,32]) Ze)) (Z0 (Z0 Z7))) (Z6 (f_tup (Z6 (Zg [9]) (Z6 (Zg [9]) Ze)) (Z0 (Z0 Z7))) Ze))) (Z0 (Z0 (Z0 Z7)))) Ze)) (Z0 (Z0 Z7))) (Z6 (Zg [119,104,105,116,101]) Ze)) (Z0 (Z0 Z7)) (by rfl)))
          (Zf (Z6r (i := 10) (j := 6) rfl Yn.nd rfl rfl (by decide) rfl rfl (Z6 (Yc rfl G__law_word (hr.mono (by omega)) hG (by rfl) (Z66 C) (Z03 C).kp (Z65 C) .nil Dfl.nil tk (Z6 (Z8 (pv 0)) (Z6 (Z8 (pv 1)) Ze)) (Z0 (Z0 Z7))) (Z6 (Zg [119,111,114,100]) Ze)) (Z0 (Z0 Z7)) (by rfl))))))
      (Zf (Z6r (i := 3) (j := 4) rfl Yn.nd rfl rfl (by decide) rfl rfl (Z6 (f_op (Zw rfl) (Z8 (pv 3)) (f_ix (Vk hr.units rfl) (Z8 (pv 10)) f_int (fun _ _ => rfl))) (Z6 (f_op (Zw rfl) (Z8 (pv 4)) (f_ix (Vk hr.units rfl) (Z8 (pv 10)) f_int (fun _ _ => rfl))) Ze)) (Z0 (Z0 Z7)) (by rfl)))))))
    (Zf (Zo (f_tup (Z6 (Z8 (pv 3)) (Z6 (Z8 (pv 4)) (Z6 (Z8 (pv 5)) Ze))) (Z0 (Z0 (Z0 Z7))))))))
theorem Z8k : GT P w K mg base 1 (gY "_law_wrongs") Z18 2 J5 := by
  refine fnFD (Z0g C) Uw fun cdv A outer s H E hr hG => ?_
  exact (Z9 (Zr (i := 2) Uw.nd rfl (Or.inl rfl) (Qu (Z6 (f_op (Zw rfl) (Z8 (pv 0)) (Zg [119])) Ze) (Z0 Z7)))
    (Z9 (Ym (Zk (o_eq hr.units rfl) (Z8 (pv 0)) (Zg [34]) (nomark _))
      (Zf (Zr (i := 2) Uw.nd rfl (Or.inl rfl) (f_op (Zw rfl) (Z8 (pv 2)) (Qu (Z6 (Zg [92,120,52,49]) (Z6 (Zg [92,48]) (Z6 (Zg [92,97]) (Z6 (Zg [92,78]) Ze)))) (Z0 (Z0 (Z0 (Z0 Z7))))))))
      Y5)
    (Z9 (Ym (Zk (o_eq hr.units rfl) (Z8 (pv 1)) f_int (nomark _))
      (Zf (Zo (f_op (Zw rfl) (Z8 (pv 2)) (Qu (Z6 (Zg [10,45,45,45,32,119]) (Z6 (Zg [32,10,10,46,46,46,10]) (Z6 (Zg [10,45,45,45,10,32,119]) Ze))) (Z0 (Z0 (Z0 Z7)))))))
      Y5)
    (Z9 (Zr (i := 3) Uw.nd rfl (Or.inl rfl) (f_op Z1m (Zg [32]) (f_op Z6a (Z8 (pv 1)) f_int)))
    (Zf (Zo (f_op (Zw rfl) (Z8 (pv 2)) (Qu (Z6 (f_op (Zw rfl) (f_op (Zw rfl) (Zg [10]) (Z8 (pv 3))) (Zg [119])) (Z6 (f_op (Zw rfl) (f_op (Zw rfl) (f_op (Zw rfl) (f_op (Zw rfl) (Zg [32,10]) (Z8 (pv 3))) (Zg [9,10])) (Z8 (pv 3))) (Zg [32,119])) (Z6 (f_op (Zw rfl) (f_op (Zw rfl) (Zg [10,10]) (Z8 (pv 3))) (Zg [9,119])) Ze))) (Z0 (Z0 (Z0 Z7)))))))))))
theorem Zjz : GT P w K mg base 9 (gY "law") Zi9 1 Zij := by
  have G__law_signs_right := @Z43 P base w K mg C
  have G__law_parts := @Zad P base w K mg C
  have G__law_one := @Jy P base w K mg C
  have G__law_digit := @J9 P base w K mg C
  have G_read_scalar := @Z3i P base w K mg C
  obtain ⟨ds_read_scalar_0,dv_read_scalar_0,db_read_scalar_0⟩ := Z1l C
  have G__law_wrongs := @Z8k P base w K mg C
  refine fnFD (Zhi C) Z0l fun cdv A outer s H E hr hG => ?_
  exact (Z9 (Z1s (passes_of rfl) rfl (Z8m rfl (f_op (Zw rfl) (f_sl rfl (Z8 (pv 0)) Zbu (Vj f_int)) (Qu (Z6 f_int Ze) (Z0 Z7)))) (Xj (i := 1) Z0l.nd rfl (Or.inl rfl))
      (Z9 (Zr (i := 2) Z0l.nd rfl (Or.inl rfl) (Qu (Z6 (Z8 (pv 1)) Ze) (Z0 Z7)))
      (Z9 (Ym (Vy (Ys rfl (Yc rfl G__law_signs_right (hr.mono (by omega)) hG (by rfl) (Z41 C) (Vr C).kp (Z3z C) .nil Dfl.nil tk (Z6 (Z8 (pv 2)) Ze) (Z0 Z7))))
        (Zf (Zo f_bl))
        Y5)
      (Zf (Z1s (passes_of rfl) rfl (Z1t (by rfl) (Z53 C) (Z6 f_int Ze) (Z0 Z7)) (Xj (i := 3) Z0l.nd rfl (Or.inl rfl))
        (Z9 (Z6r (i := 4) (j := 5) rfl Z0l.nd rfl rfl (by decide) rfl rfl (Z6 (Yc rfl G__law_one (hr.mono (by omega)) hG (by rfl) (Xz C) (Xe C).kp (Xy C) .nil Dfl.nil tk (Z6 (Z8 (pv 2)) (Z6 (Qu (Z6 (Zg [115,105,110,103,108,101]) (Z6 (Zg [100,111,117,98,108,101]) Ze)) (Z0 (Z0 Z7))) Ze)) (Z0 (Z0 Z7))) (Z6 (Yc rfl G__law_digit (hr.mono (by omega)) hG (by rfl) (Uj C) (Wm C).kp (Ud C) .nil Dfl.nil tk (Z6 (Z8 (pv 2)) (Z6 f_int Ze)) (Z0 (Z0 Z7))) Ze)) (Z0 (Z0 Z7)) (by rfl))
        (Z9 (Zr (i := 6) Z0l.nd rfl (Or.inl rfl) (f_ix (Vk hr.units rfl) (Qu (Z6 (Zg [39]) (Z6 (Zg [34]) Ze)) (Z0 (Z0 Z7))) (Vb (Z0j (nd_ C)) (by rfl) (Z06 C) (by decide +kernel) (Z6 (Z0y (o_eq hr.units rfl) (Z8 (pv 4)) (Zg [100,111,117,98,108,101]) (nomark _)) Ze)) (fun _ _ => rfl)))
        (Z9 (Z47 (Yc rfl G__law_parts (hr.mono (by omega)) hG (by rfl) (Za7 C) (Z1e C).kp (Za2 C) .nil Dfl.nil tk (Z6 (Z8 (pv 2)) (Z6 (Z8 (pv 6)) (Z6 (Z8 (pv 5)) Ze))) (Z0 (Z0 (Z0 Z7)))) (Z5u rfl rfl (Xc (Xj (i := 7) Z0l.nd rfl (Or.inl rfl)) (Xc (Xj (i := 8) Z0l.nd rfl (Or.inl rfl)) (Xc (Xj (i := 9) Z0l.nd rfl (Or.inl rfl)) Z1q)))))
        (Zf (Z1s (passes_of rfl) rfl (Z8m rfl (f_tup (Z6 (Zg [98,108,111,99,107]) (Z6 (Zg [107,101,121]) (Z6 (Zg [102,108,111,119]) (Z6 (Zg [112,97,105,114]) Ze)))) (Z0 (Z0 (Z0 (Z0 Z7)))))) (Xj (i := 10) Z0l.nd rfl (Or.inl rfl))
          (Z9 (Zr (i := 11) Z0l.nd rfl (Or.inl rfl) (f_if (PW.pt (Vx (Ys rfl (Z8 (pv 9))) (V1 (Zk (Z6b hr.units rfl) (Z8 (pv 10)) (f_tup (Z6 (Zg [107,101,121]) (Z6 (Zg [112,97,105,114]) Ze)) (Z0 (Z0 Z7))) rfl)))) Q9 (Z8 (pv 8))))
          (Z9 (Ym (Zk (o_ne hr.units rfl) (Yc rfl G_read_scalar (hr.mono (by omega)) hG (by rfl) (Q3 C) (Ws C).kp db_read_scalar_0 dv_read_scalar_0 (fun _ _ => (.cons (.int _) .nil)) tk (Z6 (f_op (Zw rfl) (f_op (Zw rfl) (Z8 (pv 6)) (Z8 (pv 7))) (Z8 (pv 6))) (Z6 (Z8 (pv 4)) (Z6 (Z8 (pv 10)) (Z6 (Z8 (pv 5)) Ze)))) (Z0 (Z0 (Z0 (Z0 Z7))))) (Z8 (pv 11)) (nomark _))
            (Zf (Zo f_bl))
            Y5)
          (Z9 (Zr (i := 12) Z0l.nd rfl (Or.inl rfl) (Yc rfl G__law_one (hr.mono (by omega)) hG (by rfl) (Xz C) (Xe C).kp (Xy C) .nil Dfl.nil tk (Z6 (Z8 (pv 2)) (Z6 (Yc rfl G__law_wrongs (hr.mono (by omega)) hG (by rfl) (Z8e C) (Z0g C).kp (Z85 C) .nil Dfl.nil tk (Z6 (Z8 (pv 6)) (Z6 (Z8 (pv 5)) Ze)) (Z0 (Z0 Z7))) Ze)) (Z0 (Z0 Z7))))
          (Zf (Z1s (passes_of rfl) rfl (Z8m rfl (f_tup (Z6 (f_op (Zw rfl) (f_op (Zw rfl) (f_op (Zw rfl) (f_op (Zw rfl) (Z8 (pv 6)) (Z8 (pv 7))) (Zg [107])) (Z8 (pv 12))) (Z8 (pv 6))) (Z6 (f_op (Zw rfl) (f_op (Zw rfl) (Z8 (pv 6)) (Z8 (pv 7))) (Zg [107])) (Z6 (f_op (Zw rfl) (f_op (Zw rfl) (Z8 (pv 7)) (Z8 (pv 6))) (Zg [32])) (Z6 (f_op (Zw rfl) (Zg [32]) (Z8 (pv 6))) Ze)))) (Z0 (Z0 (Z0 (Z0 Z7)))))) (Xj (i := 13) Z0l.nd rfl (Or.inl rfl))
            (Zf (Ym (Zk Zbs (Yc rfl G_read_scalar (hr.mono (by omega)) hG (by rfl) (Q3 C) (Ws C).kp db_read_scalar_0 dv_read_scalar_0 (fun _ _ => (.cons (.int _) .nil)) tk (Z6 (Z8 (pv 13)) (Z6 (Z8 (pv 4)) (Z6 (Z8 (pv 10)) (Z6 (Z8 (pv 5)) Ze)))) (Z0 (Z0 (Z0 (Z0 Z7))))) Q9 (nomark _))
              (Zf (Zo f_bl))
              Y5)))))))))))))))))
    (Zf (Zo f_bl)))
end
end Ap
set_option maxHeartbeats 4000000
namespace Ap
open PySem PySem.Spec PyProof.Rows L2 SX
end Ap
set_option maxHeartbeats 4000000
namespace Ap
open PySem PySem.Spec PyProof.Rows L2 SX
def zs (k : Nat) : List Nat := List.replicate k 48
end Ap
set_option maxHeartbeats 4000000
namespace Ap
open PySem PySem.Spec PyProof.Rows L2 SX
end Ap
set_option maxHeartbeats 4000000
namespace Ap
open PySem PySem.Spec PyProof.Rows L2 SX Fx
end Ap
set_option maxHeartbeats 8000000
namespace Ap
open PySem PySem.Spec PyProof.Rows L2 SX Fx
theorem Yk {a b : FS} {ρ ρ' : Fx.Env} {Z Z' : Sto} {r : RS} (h : a ρ Z = .nx ρ' Z') (h2 : b ρ' Z' = r) : bCons a b ρ Z = r := by
  show seqS (a ρ Z) b = r
  rw [h]; exact h2
theorem b_rt {a b : FS} {ρ : Fx.Env} {Z Z' : Sto} {t : Fx.T} (h : a ρ Z = .rt t Z') : bCons a b ρ Z = .rt t Z' := by
  show seqS (a ρ Z) b = _
  rw [h]; rfl
theorem Z2h {n : Nat} {B : FS} {as : List Fx.T} {Z Z' : Sto} {t : Fx.T} (h : B (as.map some ++ List.replicate (n - as.length) none) Z = .rt t Z') : runF n B as Z = .ok t Z' := by
  unfold runF
  rw [h]
def bl : List Nat → Nat
  | [] => 0
  | c :: l => if c = 32 then bl l + 1 else 0
theorem Zfj : ∀ l : List Nat,bl l ≤ l.length
  | [] => Nat.le_refl _
  | c :: l => by
    have := Zfj l
    unfold bl
    split <;> simp <;> omega
def srF (s : List Nat) (f : Int) : List (String × Fx.T) := [("text", .str s), ("length", .int (s.length : Int)), ("far", .int f)]
def Src (Z : Sto) (si : Nat) (s : List Nat) : Prop := ∃ f : Int, getI Z si = some ("Source", srF s f)
def SK (si : Nat) (s : List Nat) (Z Z' : Sto) : Prop := ∃ f : Int, Z' = Z.set si (.ins "Source" (srF s f))
section
variable {Z Z' Z1 : Sto} {si : Nat} {s : List Nat}
theorem Src.lt (h : Src Z si s) : si < Z.length := by
  obtain ⟨f,h⟩ := h
  have := Z9g h
  exact (List.getElem?_eq_some_iff.mp this).1
theorem SK.refl (h : Src Z si s) : SK si s Z Z := by
  obtain ⟨f,h⟩ := h
  refine ⟨f,?_⟩
  have h1 := Z9g h
  obtain ⟨h2,h3⟩ := List.getElem?_eq_some_iff.mp h1
  apply List.ext_getElem?
  intro j
  by_cases hj : j = si
  · subst hj; rw [List.getElem?_set_self h2,h1]
  · rw [List.getElem?_set_ne (Ne.symm hj)]
theorem SK.trans (h : SK si s Z Z1) (h2 : SK si s Z1 Z') : SK si s Z Z' := by
  obtain ⟨f,rfl⟩ := h
  obtain ⟨g,rfl⟩ := h2
  exact ⟨g,by rw [List.set_set]⟩
theorem SK.src (h : Src Z si s) (k : SK si s Z Z') : Src Z' si s := by
  obtain ⟨f,rfl⟩ := k
  refine ⟨f,?_⟩
  unfold getI
  rw [List.getElem?_set_self h.lt]
theorem SK.len (k : SK si s Z Z') : Z'.length = Z.length := by
  obtain ⟨f,rfl⟩ := k
  exact List.length_set
theorem SK.at (k : SK si s Z Z') {j : Nat} (hj : j ≠ si) : Z'[j]? = Z[j]? := by
  obtain ⟨f,rfl⟩ := k
  exact List.getElem?_set_ne (Ne.symm hj)
theorem Zae (h : Src Z si s) : fldT ["Source"] "text" (.loc si) Z = some (.str s) := by
  obtain ⟨f,h⟩ := h
  simp [fldT,h,srF]
theorem Wq (h : Src Z si s) {m : String} (hm : m ≠ "text" ∧ m ≠ "length" ∧ m ≠ "far") (r : Nat → Fx.R Fx.T) : methK "Source" m (.loc si) Z r = r si := by
  obtain ⟨f,h⟩ := h
  obtain ⟨h1,h2,h3⟩ := hm
  have k1 : (m == "text") = false := beq_eq_false_iff_ne.mpr h1
  have k2 : (m == "length") = false := beq_eq_false_iff_ne.mpr h2
  have k3 : (m == "far") = false := beq_eq_false_iff_ne.mpr h3
  have : (srF s f).lookup m = none := by simp [srF,List.lookup_cons,k1,k2,k3]
  simp [methK,h,this]
theorem f_at (h : Src Z si s) (hl : s.length ≤ Lim) (i : Nat) : Zh [.loc si,.int (i : Int)] Z = .ok (.str ((s.drop i).take 1)) Z := by
  have e := Zae h
  have c := Zbp s i (i + 1)
  rw [List.drop_take,show i + 1 - i = 1 by omega] at c
  have hc : ((i + 1 : Nat) : Int) = (i : Int) + 1 := by omega
  rw [hc] at c
  simp [Zh,runF,Z79,eFld,e,Zgn _ _ _ _ hl,c,oSome]
theorem Z95 (h : Src Z si s) (i : Int) : ∃ Z', Zq [.loc si, .int i] Z = .ok .non Z' ∧ SK si s Z Z' := by
  obtain ⟨f,h⟩ := h
  refine ⟨Z.set si (.ins "Source" (srF s (if f < i then i else f))), ?_, _, rfl⟩
  have e : fldT ["Source"] "far" (.loc si) Z = some (.int f) := by simp [fldT, h, srF, List.lookup_cons]
  have p : putS "far" (.int (if f < i then i else f)) (srF s f) = srF s (if f < i then i else f) := by simp [putS, srF]
  have l : (srF s f).length < 1000 := by simp [srF]
  simp [Zq,runF,Z4q,eFld,e,sFldS,setF,h,p,l]
theorem Zfk (h : Src Z si s) (hl : s.length ≤ Lim) : ∀ (u : List Nat) (i n : Nat), s.drop i = u → u.length < n → loopW (eBl (eBin gEq (eMeth "Source" "at" Zh [] (eVar 0) (aCons (eVar 1) aNil)) (eC (.str [32])))) Wy n [some (.loc si), some (.int (i : Int))] Z = .nx [some (.loc si), some (.int ((i + bl u : Nat) : Int))] Z
  | u,i,n + 1,hu,hn => by
    have e := f_at h hl i
    rw [hu] at e
    have m := Wq h (m := "at") (by decide)
    unfold loopW
    cases u with
    | nil => simp [eMeth,m,e,bl]
    | cons c u =>
      by_cases hc : c = 32
      · subst hc
        have hu2 : s.drop (i + 1) = u := by rw [← List.drop_drop,hu]; rfl
        have ih := Zfk h hl u (i + 1) n hu2 (by simp at hn; omega)
        have hci : ((i + 1 : Nat) : Int) = (i : Int) + 1 := by omega
        have hb : bl (32 :: u) = bl u + 1 := by simp [bl]
        rw [hb,show i + (bl u + 1) = i + 1 + bl u by omega,← ih,hci]
        simp [eMeth,m,e,Wy,sAug]
      · simp [eMeth,m,e,bl,hc]
theorem f_pb (h : Src Z si s) (hl : s.length < Lim) (i : Nat) : Zm [.loc si,.int (i : Int)] Z = .ok (.int ((i + bl (s.drop i) : Nat) : Int)) Z := by
  have e := Zfk h (by omega) (s.drop i) i Lim rfl (by rw [List.length_drop]; omega)
  simp [Zm,runF,Qm,sWhile,e]
theorem Z96 (A a b : List Nat) (Z : Sto) : gInW (.str A) (.tup [.str a,.str b]) Z = some (.bl (decide (A = a) || decide (A = b)),Z) := by
  by_cases h1 : A = a <;> by_cases h2 : A = b <;> simp [gInW,gIn,gInB,asSeq,flatT,inT,Fx.eqT,h1,h2,eq_comm]
theorem Zgx (A a b c : List Nat) (Z : Sto) : gInW (.str A) (.tup [.str a,.str b,.str c]) Z = some (.bl (decide (A = a) || (decide (A = b) || decide (A = c))),Z) := by
  by_cases h1 : A = a <;> by_cases h2 : A = b <;> by_cases h3 : A = c <;> simp [gInW,gIn,gInB,asSeq,flatT,inT,Fx.eqT,h1,h2,h3,eq_comm]
def Beg (s : List Nat) (i : Nat) : Bool := decide (i = 0) || decide (s[i - 1]? = some 10)
theorem Zil (h : Src Z si s) (hl : s.length ≤ Lim) {i : Nat} (hi : i ≤ s.length) : Xl [.loc si,.int (i : Int)] Z = .ok (.bl (Beg s i)) Z := by
  have e := Zae h
  unfold Beg
  by_cases h0 : i = 0
  · subst h0
    simp [Xl,runF,Us]
  · have h1 : i - 1 < s.length := by omega
    have hx : s[i - 1]? = some s[i - 1] := List.getElem?_eq_getElem h1
    have hc : (i : Int) - 1 = ((i - 1 : Nat) : Int) := by omega
    have a : atI s ((i : Int) - 1) = some s[i - 1] := by rw [hc]; exact Fx.atI_nat hx
    have h0' : ¬ (i : Int) = 0 := by omega
    rw [hx]
    simp [Xl, runF, Us, h0, h0', eFld, e, hl, a]
end
end Ap
set_option maxHeartbeats 8000000
namespace Ap
open PySem PySem.Spec PyProof.Rows L2 SX Fx
def Pos (s : List Nat) (i : Nat) (u : List Nat) : Prop := s.drop i = u ∧ i + u.length = s.length
theorem Pos.drop {s u : List Nat} {i : Nat} (p : Pos s i u) {k : Nat} (hk : k ≤ u.length) : Pos s (i + k) (u.drop k) := by
  refine ⟨by rw [← List.drop_drop,p.1],?_⟩
  have := p.2
  rw [List.length_drop]; omega
theorem Pos.cons {s r : List Nat} {x i : Nat} (p : Pos s i (x :: r)) : Pos s (i + 1) r := p.drop (k := 1) (by simp)
theorem Pos.le {s u : List Nat} {i : Nat} (p : Pos s i u) : i ≤ s.length := by have := p.2; omega
theorem Pos.beg {s r : List Nat} {i : Nat} (p : Pos s i (10 :: r)) : Beg s (i + 1) = true := by
  unfold Beg
  have h : (s.drop i)[0]? = some 10 := by rw [p.1]; rfl
  rw [List.getElem?_drop] at h
  rw [show i + 1 - 1 = i + 0 by omega,h]
  simp
theorem Z7l {u : List Nat} {x : Nat} (h : u.head? = some x) : u = x :: u.drop 1 := by
  cases u with
  | nil => cases h
  | cons a u => cases h; rfl
theorem drop_cons {u r : List Nat} {x k : Nat} (h : u.drop k = x :: r) : k < u.length ∧ u.drop (k + 1) = r := by
  constructor
  · apply Nat.lt_of_not_le
    intro hle
    rw [List.drop_eq_nil_of_le hle] at h
    cases h
  · rw [← List.drop_drop,h]; rfl
def isW (c : Nat) : Bool := decide (c = 32) || decide (c = 9)
def wl : List Nat → Nat
  | [] => 0
  | c :: l => if isW c = true then wl l + 1 else 0
theorem Zfl : ∀ l : List Nat,wl l ≤ l.length
  | [] => Nat.le_refl _
  | c :: l => by
    have := Zfl l
    unfold wl
    split <;> simp <;> omega
theorem Zfm : ∀ (l : List Nat) (x : Nat),(l.drop (wl l)).head? = some x → isW x = false
  | [],x,h => by simp [wl] at h
  | c :: l,x,h => by
    unfold wl at h
    split at h
    · rw [List.drop_succ_cons] at h; exact Zfm l x h
    · rename_i hc
      simp at h
      subst h
      simpa using hc
def isMk (u : List Nat) : Bool := (decide (u.take 3 = [45,45,45]) || decide (u.take 3 = [46,46,46])) && (decide ((u.drop 3).take 1 = []) || (decide ((u.drop 3).take 1 = [32]) || decide ((u.drop 3).take 1 = [10])))
section
variable {Z Z' Z1 : Sto} {si : Nat} {s : List Nat}
theorem p_at (h : Src Z si s) (hl : s.length ≤ Lim) {i : Nat} {u : List Nat} (p : Pos s i u) : Zh [.loc si,.int (i : Int)] Z = .ok (.str (u.take 1)) Z := by
  have e := f_at h hl i
  rw [p.1] at e
  exact e
theorem Zfn (h : Src Z si s) (hl : s.length ≤ Lim) : ∀ (u : List Nat) (i n : Nat), Pos s i u → u.length < n → loopW (eBl (eBin gInW (eMeth "Source" "at" Zh [] (eVar 0) (aCons (eVar 1) aNil)) (eTup (aCons (eC (.str [32])) (aCons (eC (.str [9])) aNil))))) Va n [some (.loc si), some (.int (i : Int))] Z = .nx [some (.loc si), some (.int ((i + wl u : Nat) : Int))] Z
  | u,i,n + 1,hu,hn => by
    have e := p_at h hl hu
    have m := Wq h (m := "at") (by decide)
    unfold loopW
    cases u with
    | nil =>
      have i2 := Z96 [] [32] [9] Z
      simp [-Z5m,eMeth,m,e,wl,i2]
    | cons c u =>
      have i2 := Z96 [c] [32] [9] Z
      have hd : (decide (([c] : List Nat) = [32]) || decide (([c] : List Nat) = [9])) = isW c := by simp [isW]
      rw [hd] at i2
      have e' : Zh [.loc si, .int (i : Int)] Z = .ok (.str [c]) Z := e
      cases hw : isW c with
      | true =>
        rw [hw] at i2
        have ih := Zfn h hl u (i + 1) n hu.cons (by simp at hn; omega)
        have hci : ((i + 1 : Nat) : Int) = (i : Int) + 1 := by omega
        have hb : wl (c :: u) = wl u + 1 := by simp [wl,hw]
        rw [hb,show i + (wl u + 1) = i + 1 + wl u by omega,← ih,hci]
        simp [-Z5m, eMeth, m, e', i2, Va, sAug]
      | false =>
        rw [hw] at i2
        have hb : wl (c :: u) = 0 := by simp [wl,hw]
        rw [hb]
        simp [-Z5m, eMeth, m, e', i2]
theorem f_pw (h : Src Z si s) (hl : s.length < Lim) {i : Nat} {u : List Nat} (p : Pos s i u) : Xa [.loc si,.int (i : Int)] Z = .ok (.int ((i + wl u : Nat) : Int)) Z := by
  have e := Zfn h (by omega) u i Lim p (by have := p.2; omega)
  simp [Xa,runF,Jp,sWhile,e]
theorem p_pb (h : Src Z si s) (hl : s.length < Lim) {i : Nat} {u : List Nat} (p : Pos s i u) : Zm [.loc si,.int (i : Int)] Z = .ok (.int ((i + bl u : Nat) : Int)) Z := by
  have e := f_pb h hl i
  rw [p.1] at e
  exact e
theorem Zk0 (h : Src Z si s) (hl : s.length ≤ Lim) {u : List Nat} {i : Nat} (p : Pos s i u) (hb : Beg s i = true) : Xr [.loc si,.int (i : Int),.tup [.str [45,45,45],.str [46,46,46]]] Z = .ok (.bl (isMk u)) Z := by
  have e := Zae h
  have e1 := Zil h hl p.le
  rw [hb] at e1
  have e2 := f_at h hl (i + 3)
  have hd3 : s.drop (i + 3) = u.drop 3 := by rw [← List.drop_drop,p.1]
  rw [hd3] at e2
  have m1 := Wq h (m := "is_begin") (by decide)
  have m2 := Wq h (m := "at") (by decide)
  have c := Zbp s i (i + 3)
  rw [List.drop_take,show i + 3 - i = 3 by omega,p.1] at c
  have hc : ((i + 3 : Nat) : Int) = (i : Int) + 3 := by omega
  rw [hc] at c e2
  unfold isMk
  have gA := Z96 (u.take 3) [45,45,45] [46,46,46] Z
  have gB := Zgx ((u.drop 3).take 1) [] [32] [10] Z
  generalize u.take 3 = A at *
  generalize (u.drop 3).take 1 = B at *
  cases hA : (decide (A = [45,45,45]) || decide (A = [46,46,46])) with
  | false =>
    rw [hA] at gA
    simp [-Z5m,Xr,runF,Qa,eMeth,m1,e1,eFld,e,Zgn _ _ _ _ hl,c,oSome,gA]
  | true =>
    rw [hA] at gA
    simp only [Bool.true_and]
    generalize (decide (B = []) || (decide (B = [32]) || decide (B = [10]))) = bb at *
    simp [-Z5m,Xr,runF,Qa,eMeth,m1,m2,e1,e2,eFld,e,Zgn _ _ _ _ hl,c,oSome,gA,gB]
theorem p_bar (hs : Src Z si s) (hl : s.length ≤ Lim) {u : List Nat} {i : Nat} (p : Pos s i u) (hb : Beg s i = true) : ∃ Z', Yb [.loc si, .int (i : Int)] Z = .ok (.bl (isMk u)) Z' ∧ SK si s Z Z' := by
  have e := Zk0 hs hl p hb
  have m1 := Wq hs (m := "is_mark") (by decide)
  have m2 := Wq hs (m := "miss") (by decide)
  obtain ⟨Z', e2, k⟩ := Z95 hs ((i : Int) + 3)
  cases hm : isMk u with
  | false =>
    rw [hm] at e
    exact ⟨Z,by simp [Yb,runF,U9,eMeth,m1,e],SK.refl hs⟩
  | true =>
    rw [hm] at e
    exact ⟨Z', by simp [Yb, runF, U9, eMeth, m1, m2, e, e2], k⟩
end
theorem Z44 (c k : Nat) (Z : Sto) (h : k ≤ 100000) : gMul (.str [c]) (.int (k : Int)) Z = some (.str (List.replicate k c),Z) := by
  have := Zih c (k : Int) Z ⟨by omega,by omega⟩
  rw [this,show ((k : Int)).toNat = k by omega]
def upC (x : Option (List Nat × Nat)) : Option (List Nat × Nat) := x.map fun p => (p.1,p.2 + 1)
inductive QF (n : Nat) : List Nat → Option (List Nat × Nat) → Prop
  | few (u : List Nat) : bl u < n → (u.drop (bl u)).head? ≠ some 10 → QF n u none
  | stop (u : List Nat) : n ≤ bl u → (u.drop (n + wl (u.drop n))).head? ≠ some 10 → QF n u (if isMk u = true then none else some (u.drop (n + wl (u.drop n)),0))
  | empW (u r : List Nat) (res : Option (List Nat × Nat)) : n ≤ bl u → u.drop (n + wl (u.drop n)) = 10 :: r → QF n r res → QF n u (upC res)
  | empB (u r : List Nat) (res : Option (List Nat × Nat)) : bl u < n → u.drop (bl u) = 10 :: r → QF n r res → QF n u (upC res)
def qfR (s : List Nat) (c : Nat) (res : Option (List Nat × Nat)) (t : Fx.T) : Prop := match res with
  | none => t = .non
  | some (r,k) => ∃ j : Nat,Pos s j r ∧ t = .tup [.int (j : Int),.int ((c + k : Nat) : Int)]
section
variable {si : Nat} {s : List Nat}
def fE (si i n : Nat) (c : Int) (o4 : Option Fx.T) : Fx.Env := [some (.loc si),some (.int (i : Int)),some (.int (n : Int)),some (.int c),o4]
theorem Zbg {u : List Nat} : (u.head? = some 10) ↔ u.take 1 = [10] := by
  cases u <;> simp
theorem Zim (hl : s.length < Lim) {n : Nat} {u : List Nat} {res : Option (List Nat × Nat)} (q : QF n u res) : ∀ (i m c : Nat) (o4 : Option Fx.T) (Z : Sto),Src Z si s → Pos s i u → Beg s i = true → u.length < m →
    ∃ t Z', loopW (eTru (eC (.bl true))) Wr m (fE si i n c o4) Z = .rt t Z' ∧ SK si s Z Z' ∧ qfR s c res t := by
  induction q with
  | few u h1 h2 =>
    intro i m c o4 Z hs p hb hm
    obtain ⟨m, rfl⟩ : ∃ m', m = m' + 1 := ⟨m - 1, by omega⟩
    have e1 := p_pb hs hl p
    have hbl := Zfj u
    have e2 := p_at hs (by omega) (p.drop hbl)
    obtain ⟨Z', e3, k3⟩ := Z95 hs ((i + bl u : Nat) : Int)
    have mm := fun (m : String) hm => Wq hs (m := m) hm
    have m1 := mm "past_blanks" (by decide)
    have m2 := mm "at" (by decide)
    have m3 := mm "miss" (by decide)
    rw [ne_eq,Zbg] at h2
    have hlt : ((i + bl u : Nat) : Int) - (i : Int) < (n : Int) := by omega
    refine ⟨.non, Z', ?_, k3, rfl⟩
    generalize ((i + bl u : Nat) : Int) = J at *
    generalize (u.drop (bl u)).take 1 = A at *
    unfold loopW
    simp [fE,Wr,eMeth,m1,m2,m3,e1,e2,e3,h2,hlt]
  | stop u h1 h2 =>
    intro i m c o4 Z hs p hb hm
    obtain ⟨m, rfl⟩ : ∃ m', m = m' + 1 := ⟨m - 1, by omega⟩
    have e1 := p_pb hs hl p
    have hbl := Zfj u
    have pn := p.drop (k := n) (by omega)
    have e2 := f_pw hs hl pn
    have hwl := Zfl (u.drop n)
    rw [List.length_drop] at hwl
    have pj := p.drop (k := n + wl (u.drop n)) (by omega)
    have e4 := p_at hs (by omega) pj
    obtain ⟨Z', e3, k3⟩ := p_bar hs (by omega) p hb
    have mm := fun (m : String) hm => Wq hs (m := m) hm
    have m1 := mm "past_blanks" (by decide)
    have m2 := mm "at" (by decide)
    have m3 := mm "past_white" (by decide)
    have m4 := mm "is_barred" (by decide)
    rw [ne_eq,Zbg] at h2
    have hge : (n : Int) ≤ ((i + bl u : Nat) : Int) - (i : Int) := by omega
    have hlt : ¬ ((i + bl u : Nat) : Int) - (i : Int) < (n : Int) := by omega
    have hcn : ((i + n : Nat) : Int) = (i : Int) + (n : Int) := by omega
    rw [hcn,show i + n + wl (u.drop n) = i + (n + wl (u.drop n)) by omega] at e2
    refine ⟨if isMk u = true then .non else .tup [.int ((i + (n + wl (u.drop n)) : Nat) : Int), .int (c : Int)], Z', ?_, k3, ?_⟩
    · generalize ((i + bl u : Nat) : Int) = J at *
      generalize ((i + (n + wl (u.drop n)) : Nat) : Int) = J2 at *
      generalize (u.drop (n + wl (u.drop n))).take 1 = A at *
      unfold loopW
      cases hk : isMk u <;> (rw [hk] at e3; simp [fE,Wr,eMeth,m1,m2,m3,m4,e1,e2,e3,e4,h2,hge,hlt])
    · by_cases hk : isMk u = true
      · rw [if_pos hk,if_pos hk]; rfl
      · rw [if_neg hk,if_neg hk]; exact ⟨_,pj,by simp⟩
  | empW u r res h1 h2 _ ih =>
    intro i m c o4 Z hs p hb hm
    obtain ⟨m, rfl⟩ : ∃ m', m = m' + 1 := ⟨m - 1, by omega⟩
    have e1 := p_pb hs hl p
    have hbl := Zfj u
    have pn := p.drop (k := n) (by omega)
    have e2 := f_pw hs hl pn
    have hwl := Zfl (u.drop n)
    rw [List.length_drop] at hwl
    have pj := p.drop (k := n + wl (u.drop n)) (by omega)
    have e4 := p_at hs (by omega) pj
    have mm := fun (m : String) hm => Wq hs (m := m) hm
    have m1 := mm "past_blanks" (by decide)
    have m2 := mm "at" (by decide)
    have m3 := mm "past_white" (by decide)
    obtain ⟨hlt2,hr⟩ := drop_cons h2
    rw [h2] at e4 pj
    have hge : (n : Int) ≤ ((i + bl u : Nat) : Int) - (i : Int) := by omega
    have hlt : ¬ ((i + bl u : Nat) : Int) - (i : Int) < (n : Int) := by omega
    have hcn : ((i + n : Nat) : Int) = (i : Int) + (n : Int) := by omega
    rw [hcn,show i + n + wl (u.drop n) = i + (n + wl (u.drop n)) by omega] at e2
    have hrl : r.length < m := by
      have := congrArg List.length hr
      rw [List.length_drop] at this
      omega
    obtain ⟨t, Z', e5, k5, h5⟩ := ih (i + (n + wl (u.drop n)) + 1) m (c + 1) (some (.int ((i + (n + wl (u.drop n)) : Nat) : Int))) Z hs pj.cons pj.beg hrl
    refine ⟨t, Z', ?_, k5, ?_⟩
    · rw [← e5]
      have hc1 : ((i + (n + wl (u.drop n)) + 1 : Nat) : Int) = ((i + (n + wl (u.drop n)) : Nat) : Int) + 1 := by omega
      have hc2 : ((c + 1 : Nat) : Int) = (c : Int) + 1 := by omega
      simp only [fE,hc1,hc2]
      generalize ((i + bl u : Nat) : Int) = J at *
      generalize ((i + (n + wl (u.drop n)) : Nat) : Int) = J2 at *
      have e4' : Zh [.loc si, .int J2] Z = .ok (.str [10]) Z := e4
      conv => lhs; unfold loopW
      simp [Wr, eMeth, m1, m2, m3, e1, e2, e4', hge, hlt, sAug]
    · cases res with
      | none => exact h5
      | some q =>
        obtain ⟨j,h6,h7⟩ := h5
        refine ⟨j,h6,?_⟩
        show t = .tup [.int (j : Int),.int ((c + (q.2 + 1) : Nat) : Int)]
        rw [h7,show c + 1 + q.2 = c + (q.2 + 1) by omega]
  | empB u r res h1 h2 _ ih =>
    intro i m c o4 Z hs p hb hm
    obtain ⟨m, rfl⟩ : ∃ m', m = m' + 1 := ⟨m - 1, by omega⟩
    have e1 := p_pb hs hl p
    have hbl := Zfj u
    have pj := p.drop (k := bl u) hbl
    have e4 := p_at hs (by omega) pj
    have mm := fun (m : String) hm => Wq hs (m := m) hm
    have m1 := mm "past_blanks" (by decide)
    have m2 := mm "at" (by decide)
    obtain ⟨hlt2,hr⟩ := drop_cons h2
    rw [h2] at e4 pj
    have hlt : ((i + bl u : Nat) : Int) - (i : Int) < (n : Int) := by omega
    have hge : ¬ (n : Int) ≤ ((i + bl u : Nat) : Int) - (i : Int) := by omega
    have hrl : r.length < m := by
      have := congrArg List.length hr
      rw [List.length_drop] at this
      omega
    obtain ⟨t, Z', e5, k5, h5⟩ := ih (i + bl u + 1) m (c + 1) (some (.int ((i + bl u : Nat) : Int))) Z hs pj.cons pj.beg hrl
    refine ⟨t, Z', ?_, k5, ?_⟩
    · rw [← e5]
      have hc1 : ((i + bl u + 1 : Nat) : Int) = ((i + bl u : Nat) : Int) + 1 := by omega
      have hc2 : ((c + 1 : Nat) : Int) = (c : Int) + 1 := by omega
      simp only [fE,hc1,hc2]
      generalize ((i + bl u : Nat) : Int) = J at *
      have e4' : Zh [.loc si, .int J] Z = .ok (.str [10]) Z := e4
      conv => lhs; unfold loopW
      simp [Wr, eMeth, m1, m2, e1, e4', hge, hlt, sAug]
    · cases res with
      | none => exact h5
      | some q =>
        obtain ⟨j,h6,h7⟩ := h5
        refine ⟨j,h6,?_⟩
        show t = .tup [.int (j : Int),.int ((c + (q.2 + 1) : Nat) : Int)]
        rw [h7,show c + 1 + q.2 = c + (q.2 + 1) by omega]
theorem f_qf (hl : s.length < Lim) {n : Nat} {u : List Nat} {res : Option (List Nat × Nat)} (q : QF n u res) {i : Nat} {Z : Sto} (hs : Src Z si s) (p : Pos s i u) (hb : Beg s i = true) :
    ∃ t Z', Nr [.loc si, .int (i : Int), .int (n : Int)] Z = .ok t Z' ∧ SK si s Z Z' ∧ qfR s 0 res t := by
  obtain ⟨t, Z', e, k, h⟩ := Zim hl q i Lim 0 none Z hs p hb (by have := p.2; omega)
  refine ⟨t, Z', Z2h (n := 5) (as := [.loc si, .int (i : Int), .int (n : Int)]) ?_, k, h⟩
  refine Yk (ρ' := fE si i n ((0 : Nat) : Int) none) (Z' := Z) (by simp [fE]) ?_
  exact e
end
end Ap
set_option maxHeartbeats 8000000
namespace Ap
open PySem PySem.Spec PyProof.Rows L2 SX Fx
def escT (e : Nat) : Option Nat := if e = 34 then some 34 else if e = 92 then some 92 else if e = 47 then some 47 else if e = 110 then some 10 else if e = 116 then some 9 else if e = 32 then some 32 else if e = 9 then some 9 else none
theorem Zhj (e : Nat) : kdHas U7 (.str [e]) = some (escT e).isSome ∧ (∀ v,escT e = some v → kdT U7 (.str [e]) = some (.str [v])) := by
  by_cases h1 : e = 34
  · subst h1; exact ⟨rfl,fun v h => by cases h; rfl⟩
  by_cases h2 : e = 92
  · subst h2; exact ⟨rfl,fun v h => by cases h; rfl⟩
  by_cases h3 : e = 47
  · subst h3; exact ⟨rfl,fun v h => by cases h; rfl⟩
  by_cases h4 : e = 110
  · subst h4; exact ⟨rfl,fun v h => by cases h; rfl⟩
  by_cases h5 : e = 116
  · subst h5; exact ⟨rfl,fun v h => by cases h; rfl⟩
  by_cases h6 : e = 32
  · subst h6; exact ⟨rfl,fun v h => by cases h; rfl⟩
  by_cases h7 : e = 9
  · subst h7; exact ⟨rfl,fun v h => by cases h; rfl⟩
  have : escT e = none := by simp [escT,h1,h2,h3,h4,h5,h6,h7]
  refine ⟨?_,fun v h => by rw [this] at h; cases h⟩
  rw [this]
  simp [kdHas,U7,Ne.symm h1,Ne.symm h2,Ne.symm h3,Ne.symm h4,Ne.symm h5,Ne.symm h6,Ne.symm h7]
def pre (v : List Nat) (res : Option (List Nat × List Nat)) : Option (List Nat × List Nat) := res.map fun p => (v ++ p.1,p.2)
def sep (c : Nat) : List Nat := if c = 0 then [32] else List.replicate c 10
inductive QR (q n : Nat) (line : Bool) : List Nat → Option (List Nat × List Nat) → Prop
  | nil : QR q n line [] none
  | close (r : List Nat) : (q = 34 ∨ r.take 1 ≠ [q]) → QR q n line (q :: r) (some ([],r))
  | two (r : List Nat) (res : Option (List Nat × List Nat)) : q ≠ 34 → QR q n line r res → QR q n line (q :: q :: r) (pre [q] res)
  | feedL (u r : List Nat) : u.drop (wl u) = 10 :: r → line = true → QR q n line u none
  | feedN (u r : List Nat) : u.drop (wl u) = 10 :: r → line = false → QF n r none → QR q n line u none
  | feed (u r r' : List Nat) (c : Nat) (res : Option (List Nat × List Nat)) : u.drop (wl u) = 10 :: r → line = false → QF n r (some (r', c)) → QR q n line r' res → QR q n line u (pre (sep c) res)
  | white (w r : List Nat) (res : Option (List Nat × List Nat)) : w ≠ [] → (∀ c ∈ w,isW c = true) → (∀ x,r.head? = some x → isW x = false ∧ x ≠ 10) → QR q n line r res → QR q n line (w ++ r) (pre w res)
  | esc (e v : Nat) (r : List Nat) (res : Option (List Nat × List Nat)) : q = 34 → escT e = some v → QR q n line r res → QR q n line (92 :: e :: r) (pre [v] res)
  | escF (r r' : List Nat) (c : Nat) (res : Option (List Nat × List Nat)) : q = 34 → line = false → QF n r (some (r', c)) → QR q n line r' res → QR q n line (92 :: 10 :: r) (pre (List.replicate c 10) res)
  | escFN (r : List Nat) : q = 34 → line = false → QF n r none → QR q n line (92 :: 10 :: r) none
  | escN (r : List Nat) : q = 34 → (∀ e,r.head? = some e → escT e = none ∧ (e = 10 → line = true)) → QR q n line (92 :: r) none
  | sign (x : Nat) (r : List Nat) (res : Option (List Nat × List Nat)) : x ≠ q → (x = 92 → q ≠ 34) → isW x = false → x ≠ 10 → QR q n line r res → QR q n line (x :: r) (pre [x] res)
theorem QF.len {n : Nat} {u : List Nat} {res : Option (List Nat × Nat)} (h : QF n u res) : ∀ r c,res = some (r,c) → r.length + c ≤ u.length := by
  induction h with
  | few u _ _ => intro r c h; cases h
  | stop u h1 h2 =>
    intro r c h
    split at h
    · cases h
    · cases h
      rw [List.length_drop]; omega
  | empW u r res h1 h2 _ ih =>
    intro r' c h
    cases res with
    | none => cases h
    | some p =>
      cases h
      have a := ih p.1 p.2 rfl
      obtain ⟨h3,h4⟩ := drop_cons h2
      have := congrArg List.length h4
      rw [List.length_drop] at this
      omega
  | empB u r res h1 h2 _ ih =>
    intro r' c h
    cases res with
    | none => cases h
    | some p =>
      cases h
      have a := ih p.1 p.2 rfl
      obtain ⟨h3,h4⟩ := drop_cons h2
      have := congrArg List.length h4
      rw [List.length_drop] at this
      omega
def lineL (lc : Nat) : Bool := decide (lc = 75) || decide (lc = 80)
theorem Zbh (a b : Fx.T) (Z : Sto) : gIxW (.tup [a,b]) (.int 0) Z = some (a,Z) := rfl
theorem Zcd (a b : Fx.T) (Z : Sto) : gIxW (.tup [a,b]) (.int 1) Z = some (b,Z) := rfl
theorem Zfo (lc : Nat) (Z : Sto) : gInW (.str [lc]) (.tup Vq) Z = some (.bl (lineL lc),Z) := by
  have := Z96 [lc] [75] [80] Z
  have hd : (decide (([lc] : List Nat) = [75]) || decide (([lc] : List Nat) = [80])) = lineL lc := by simp [lineL]
  rw [hd] at this
  exact this
theorem Z97 (lc : Nat) (Z : Sto) : gNotInW (.str [lc]) (.tup Vq) Z = some (.bl (!lineL lc),Z) := by
  have h1 := Zfo lc Z
  rw [Z5m] at h1
  rw [Qy]
  unfold gIn at h1
  unfold gNotIn
  cases hb : gInB (.str [lc]) (.tup Vq) Z with
  | none => rw [hb] at h1; cases h1
  | some b => rw [hb] at h1; cases h1; rfl
section
variable {si : Nat} {s : List Nat} {n lc : Nat}
theorem p_cut {i : Nat} {u : List Nat} (p : Pos s i u) (hl : s.length ≤ Lim) (k : Nat) (Z : Sto) : gSl (.str s) (some (i : Int)) (some ((i + k : Nat) : Int)) Z = some (.str (u.take k),Z) := by
  have c := Zbp s i (i + k)
  rw [List.drop_take,show i + k - i = k by omega,p.1] at c
  rw [Zgn _ _ _ _ hl,c]
theorem Zk1 (hl : s.length ≤ 20000) {j : Nat} {r : List Nat} {Z : Sto} (hs : Src Z si s) (p : Pos s j (10 :: r)) {o : Option (List Nat × Nat)} (hq : lineL lc = false → QF n r o) :
    ∃ t Z', Xv [.loc si, .int (j : Int), .int (n : Int), .str [lc]] Z = .ok t Z' ∧ SK si s Z Z' ∧ (match (if lineL lc = true then none else o) with
      | none => t = .non
      | some (r', c) => ∃ k : Nat, Pos s k r' ∧ t = .tup [.int (k : Int), .str (sep c)]) := by
  have i1 := Zfo lc Z
  have mm := fun (m : String) hm Z (hs : Src Z si s) => Wq hs (m := m) hm
  cases hline : lineL lc with
  | true =>
    rw [hline] at i1
    obtain ⟨Z', e, k⟩ := Z95 hs (j : Int)
    have m1 := mm "miss" (by decide) Z hs
    refine ⟨.non, Z', ?_, k, rfl⟩
    simp [-Z5m,Xv,runF,Ua,i1,eMeth,m1,e,Fx.isNon]
  | false =>
    rw [hline] at i1
    obtain ⟨t,Z1,e,k,h⟩ := f_qf (by unfold Lim; omega) (hq hline) hs p.cons p.beg
    have hc : ((j + 1 : Nat) : Int) = (j : Int) + 1 := by omega
    rw [hc] at e
    have hs1 := SK.src hs k
    cases o with
    | none =>
      cases h
      obtain ⟨Z', e2, k2⟩ := Z95 hs1 (j : Int)
      have m1 := mm "miss" (by decide) Z1 hs1
      refine ⟨.non, Z', ?_, k.trans k2, rfl⟩
      simp [-Z5m,Xv,runF,Ua,i1,e,eMeth,m1,e2,Fx.isNon]
    | some q =>
      obtain ⟨a,pa,rfl⟩ := h
      have hlen := (hq hline).len q.1 q.2 rfl
      have hq2 : q.2 ≤ 20000 := by have := p.2; simp at this; omega
      have mu := Z44 10 q.2 Z1 (by omega)
      refine ⟨.tup [.int (a : Int),.str (sep q.2)],Z1,?_,k,a,pa,rfl⟩
      have hz : ((0 + q.2 : Nat) : Int) = (q.2 : Int) := by omega
      rw [hz] at e
      by_cases h0 : q.2 = 0
      · have h0' : (q.2 : Int) = 0 := by omega
        rw [h0'] at e
        rw [h0]
        simp [-Z5m,-Z37,-Zb4,Zbh,Zcd,Xv,runF,Ua,i1,e,Fx.isNon,sep]
      · have h0' : ¬ (q.2 : Int) = 0 := by omega
        have hsep : sep q.2 = List.replicate q.2 10 := if_neg h0
        rw [hsep]
        generalize List.replicate q.2 10 = RR at *
        generalize (q.2 : Int) = q2 at *
        simp [-Z5m, -Z37, -Zb4, Zbh, Zcd, Xv, runF, Ua, i1, e, Fx.isNon, h0', mu]
end
end Ap
set_option maxHeartbeats 8000000
namespace Ap
open PySem PySem.Spec PyProof.Rows L2 SX Fx
def rR (s : List Nat) (v : List Nat) (res : Option (List Nat × List Nat)) (t : Fx.T) : Prop := match res with
  | none => t = .non
  | some (v', r) => ∃ j : Nat, Pos s j r ∧ t = .tup [.int (j : Int), .str (v ++ v')]
theorem Z98 {s v w : List Nat} {res : Option (List Nat × List Nat)} {t : Fx.T} (h : rR s (v ++ w) res t) : rR s v (pre w res) t := by
  cases res with
  | none => exact h
  | some p =>
    obtain ⟨j,h1,h2⟩ := h
    exact ⟨j,h1,by rw [h2,List.append_assoc]⟩
def qE (si i n lc q : Nat) (v : List Nat) (o6 o7 o8 : Option Fx.T) : Fx.Env := [some (.loc si),some (.int (i : Int)),some (.int (n : Int)),some (.str [lc]),some (.str [q]),some (.str v),o6,o7,o8]
def Q_1 : FS := (sSet 6 (eMeth "Source" "at" Zh [] (eVar 0) (aCons (eVar 1) aNil)))
def Q_2 : FS := (sIf (Fx.tAnd (eBl (eBin gEq (eVar 6) (eVar 4))) (Fx.tOr (eBl (eBin gEq (eVar 4) (eC (.str [34])))) (eBl (eBin gNe (eMeth "Source" "at" Zh [] (eVar 0) (aCons (eBin gAdd (eVar 1) (eC (.int 1))) aNil)) (eVar 4))))) (sRet (eTup (aCons (eBin gAdd (eVar 1) (eC (.int 1))) (aCons (eVar 5) aNil)))) sPass)
def Q_3 : FS := (sIf (eBl (eBin gEq (eVar 6) (eC (.str [])))) (sRet (eMeth "Source" "miss" Zq [] (eVar 0) (aCons (eVar 1) aNil))) sPass)
def Q_4 : FS := (sSet 7 (eMeth "Source" "past_white" Xa [] (eVar 0) (aCons (eVar 1) aNil)))
def Q_5 : FS := (sSet 8 (eTup (aCons (eCallB gMax (aCons (eVar 7) (aCons (eBin gAdd (eVar 1) (eC (.int 1))) aNil))) (aCons (eSl (eFld ["Source"] "text" (eVar 0)) (oSome (eVar 1)) (oSome (eCallB gMax (aCons (eVar 7) (aCons (eBin gAdd (eVar 1) (eC (.int 1))) aNil))))) aNil))))
def Q_6 : FS := (sIf (eBl (eBin gEq (eMeth "Source" "at" Zh [] (eVar 0) (aCons (eVar 7) aNil)) (eC (.str [10])))) (sSet 8 (eCall Xv [] (aCons (eVar 0) (aCons (eVar 7) (aCons (eVar 2) (aCons (eVar 3) aNil)))))) (sIf (eBl (eBin gEq (eVar 6) (eVar 4))) (sSet 8 (eTup (aCons (eBin gAdd (eVar 1) (eC (.int 2))) (aCons (eVar 6) aNil)))) (sIf (Fx.tAnd (eBl (eBin gEq (eVar 6) (eC (.str [92])))) (eBl (eBin gEq (eVar 4) (eC (.str [34]))))) (sSet 8 (eCall W6 [] (aCons (eVar 0) (aCons (eVar 1) (aCons (eVar 2) (aCons (eVar 3) aNil)))))) sPass)))
def Q_7 : FS := (sIf (eBl (eBin gIs (eVar 8) (eC .non))) (sRet (eC .non)) sPass)
def Q_8 : FS := (sAug 5 (eBin gIxW (eVar 8) (eC (.int 1))) gIAdd)
def Q_9 : FS := (sSet 1 (eBin gIxW (eVar 8) (eC (.int 0))))
theorem Q_eq : Ut = bCons Q_1 (bCons Q_2 (bCons Q_3 (bCons Q_4 (bCons Q_5 (bCons Q_6 (bCons Q_7 (bCons Q_8 (Q_9)))))))) := rfl
section
variable {si : Nat} {s : List Nat} {n lc : Nat}
theorem f_esc (hl : s.length ≤ 20000) {i e : Nat} {r : List Nat} {Z : Sto} (hs : Src Z si s) (p : Pos s i (92 :: e :: r)) {v : Nat} (hv : escT e = some v) :
    W6 [.loc si,.int (i : Int),.int (n : Int),.str [lc]] Z = .ok (.tup [.int ((i + 2 : Nat) : Int),.str [v]]) Z := by
  have e1 := p_at hs (by unfold Lim; omega) p.cons
  have hc : ((i + 1 : Nat) : Int) = (i : Int) + 1 := by omega
  have hc2 : ((i + 2 : Nat) : Int) = (i : Int) + 2 := by omega
  rw [hc] at e1
  replace e1 : Zh [.loc si,.int ((i : Int) + 1)] Z = .ok (.str [e]) Z := e1
  have m1 := Wq hs (m := "at") (by decide)
  have h10 : e ≠ 10 := fun h => by subst h; cases hv
  obtain ⟨k1,k2⟩ := Zhj e
  rw [hv] at k1
  have k2' := k2 v hv
  replace k1 : kdHas U7 (.str [e]) = some true := k1
  rw [hc2]
  simp [W6, runF, Jq, eMeth, m1, e1, h10, tKdIn, eKdI, k1, k2']
theorem Zk2 (hl : s.length ≤ 20000) {i : Nat} {r : List Nat} {Z : Sto} (hs : Src Z si s) (p : Pos s i (92 :: r)) (hv : ∀ e,r.head? = some e → escT e = none ∧ (e = 10 → lineL lc = true)) :
    ∃ Z', W6 [.loc si, .int (i : Int), .int (n : Int), .str [lc]] Z = .ok .non Z' ∧ SK si s Z Z' := by
  have e1 := p_at hs (by unfold Lim; omega) p.cons
  have hc : ((i + 1 : Nat) : Int) = (i : Int) + 1 := by omega
  rw [hc] at e1
  have m1 := Wq hs (m := "at") (by decide)
  have m2 := Wq hs (m := "miss") (by decide)
  obtain ⟨Z', e2, k2⟩ := Z95 hs ((i : Int) + 1)
  have nl := Z97 lc Z
  cases r with
  | nil =>
    replace e1 : Zh [.loc si,.int ((i : Int) + 1)] Z = .ok (.str []) Z := e1
    have k1 : kdHas U7 (.str []) = some false := rfl
    exact ⟨Z', by simp [W6, runF, Jq, eMeth, m1, m2, e1, e2, tKdIn, eKdI, k1], k2⟩
  | cons e r =>
    replace e1 : Zh [.loc si,.int ((i : Int) + 1)] Z = .ok (.str [e]) Z := e1
    obtain ⟨h1,h2⟩ := hv e rfl
    obtain ⟨k1,_⟩ := Zhj e
    rw [h1] at k1
    replace k1 : kdHas U7 (.str [e]) = some false := k1
    refine ⟨Z', ?_, k2⟩
    by_cases h10 : e = 10
    · rw [h2 h10] at nl
      subst h10
      simp [-Qy,W6,runF,Jq,eMeth,m1,m2,e1,e2,tKdIn,eKdI,k1,nl]
    · simp [-Qy,W6,runF,Jq,eMeth,m1,m2,e1,e2,tKdIn,eKdI,k1,h10]
theorem Zhk (hl : s.length ≤ 20000) {i : Nat} {r : List Nat} {Z : Sto} (hs : Src Z si s) (p : Pos s i (92 :: 10 :: r)) (hline : lineL lc = false) {o : Option (List Nat × Nat)} (hq : QF n r o) :
    ∃ t Z', W6 [.loc si, .int (i : Int), .int (n : Int), .str [lc]] Z = .ok t Z' ∧ SK si s Z Z' ∧ (match o with
      | none => t = .non
      | some (r', c) => ∃ k : Nat, Pos s k r' ∧ t = .tup [.int (k : Int), .str (List.replicate c 10)]) := by
  have e1 := p_at hs (by unfold Lim; omega) p.cons
  have hc : ((i + 1 : Nat) : Int) = (i : Int) + 1 := by omega
  have hc2 : ((i + 1 + 1 : Nat) : Int) = (i : Int) + 2 := by omega
  rw [hc] at e1
  replace e1 : Zh [.loc si,.int ((i : Int) + 1)] Z = .ok (.str [10]) Z := e1
  have m1 := Wq hs (m := "at") (by decide)
  have nl := Z97 lc Z
  rw [hline] at nl
  obtain ⟨t,Z1,e,k,h⟩ := f_qf (by unfold Lim; omega) hq hs p.cons.cons p.cons.beg
  rw [hc2] at e
  cases o with
  | none =>
    cases h
    exact ⟨.non,Z1,by simp [-Qy,W6,runF,Jq,eMeth,m1,e1,nl,e,Fx.isNon],k,rfl⟩
  | some q =>
    obtain ⟨a,pa,rfl⟩ := h
    have hlen := hq.len q.1 q.2 rfl
    have hq2 : q.2 ≤ 20000 := by have := p.2; simp at this; omega
    have mu := Z44 10 q.2 Z1 (by omega)
    have hz : ((0 + q.2 : Nat) : Int) = (q.2 : Int) := by omega
    rw [hz] at e
    refine ⟨.tup [.int (a : Int),.str (List.replicate q.2 10)],Z1,?_,k,a,pa,rfl⟩
    generalize List.replicate q.2 10 = RR at *
    generalize (q.2 : Int) = q2 at *
    simp [-Qy,-Z37,-Zb4,Zbh,Zcd,W6,runF,Jq,eMeth,m1,e1,nl,e,Fx.isNon,mu]
theorem Zbi : ∀ (w r : List Nat),(∀ c ∈ w,isW c = true) → (∀ x,r.head? = some x → isW x = false) → wl (w ++ r) = w.length
  | [],[],_,_ => rfl
  | [],x :: r,_,h => by
    have := h x rfl
    simp [wl,this]
  | c :: w,r,h1,h2 => by
    have := h1 c (by simp)
    have ih := Zbi w r (fun x hx => h1 x (by simp [hx])) h2
    simp [wl,this,ih]
theorem Qe {x : Nat} {r : List Nat} (h : isW x = false) : wl (x :: r) = 0 := by simp [wl,h]
theorem Zfp (hl : s.length ≤ 20000) {q i : Nat} {v : List Nat} {o6 o7 o8 : Option Fx.T} {Z : Sto} {u : List Nat} {x : Nat} (hs : Src Z si s) (p : Pos s i (x :: u)) (hx : ¬ (x = q ∧ (q = 34 ∨ u.take 1 ≠ [q]))) {r : RS} {rest : FS}
    (h : rest (qE si i n lc q v (some (.str [x])) (some (.int ((i + wl (x :: u) : Nat) : Int))) (some (.tup [.int ((i + max (wl (x :: u)) 1 : Nat) : Int),.str ((x :: u).take (max (wl (x :: u)) 1))]))) Z = r) :
    bCons Q_1 (bCons Q_2 (bCons Q_3 (bCons Q_4 (bCons Q_5 rest)))) (qE si i n lc q v o6 o7 o8) Z = r := by
  have hlim : s.length ≤ Lim := by unfold Lim; omega
  have e1 := p_at hs hlim p
  replace e1 : Zh [.loc si,.int (i : Int)] Z = .ok (.str [x]) Z := e1
  have e2 := p_at hs hlim p.cons
  have hc : ((i + 1 : Nat) : Int) = (i : Int) + 1 := by omega
  rw [hc] at e2
  have e3 := f_pw hs (by unfold Lim; omega) p
  have m1 := Wq hs (m := "at") (by decide)
  have m2 := Wq hs (m := "past_white") (by decide)
  have tx := Zae hs
  refine Yk (ρ' := qE si i n lc q v (some (.str [x])) o7 o8) (Z' := Z) (by simp [Q_1, qE, eMeth, m1, e1]) (Yk (ρ' := qE si i n lc q v (some (.str [x])) o7 o8) (Z' := Z) ?_ (Yk (ρ' := qE si i n lc q v (some (.str [x])) o7 o8) (Z' := Z) (by simp [Q_3, qE]) (Yk (ρ' := qE si i n lc q v (some (.str [x])) (some (.int ((i + wl (x :: u) : Nat) : Int))) o8) (Z' := Z) (by simp [Q_4, qE, eMeth, m2, e3]) (Yk ?_ h))))
  · by_cases h1 : x = q
    · have h2 : ¬ q = 34 := fun e => hx ⟨h1,.inl e⟩
      have h3 : u.take 1 = [q] := Classical.byContradiction fun e => hx ⟨h1,.inr e⟩
      rw [h3] at e2
      subst h1
      simp [Q_2,qE,eMeth,m1,e2,h2]
    · simp [Q_2,qE,h1]
  · have hm : (if ((i + wl (x :: u) : Nat) : Int) < (i : Int) + 1 then (i : Int) + 1 else ((i + wl (x :: u) : Nat) : Int)) = ((i + max (wl (x :: u)) 1 : Nat) : Int) := by
      split <;> omega
    have cu := p_cut p hlim (max (wl (x :: u)) 1) Z
    generalize (x :: u).take (max (wl (x :: u)) 1) = TT at *
    generalize ((i + max (wl (x :: u)) 1 : Nat) : Int) = J2 at *
    generalize ((i + wl (x :: u) : Nat) : Int) = J at *
    simp [Q_5,qE,hm,eFld,tx,cu,oSome]
theorem Z99 (hl : s.length ≤ 20000) {q i a : Nat} {v v' : List Nat} {o6 o7 o8 : Option Fx.T} {Z Z1 : Sto} {u : List Nat} {x : Nat} (hs : Src Z si s) (p : Pos s i (x :: u)) (hv : v.length + v'.length ≤ Lim)
    (hx : ¬ (x = q ∧ (q = 34 ∨ u.take 1 ≠ [q]))) (hpart : Q_6 (qE si i n lc q v (some (.str [x])) (some (.int ((i + wl (x :: u) : Nat) : Int))) (some (.tup [.int ((i + max (wl (x :: u)) 1 : Nat) : Int), .str ((x :: u).take (max (wl (x :: u)) 1))]))) Z = .nx (qE si i n lc q v (some (.str [x])) (some (.int ((i + wl (x :: u) : Nat) : Int))) (some (.tup [.int (a : Int), .str v']))) Z1) :
    Ut (qE si i n lc q v o6 o7 o8) Z = .nx (qE si a n lc q (v ++ v') (some (.str [x])) (some (.int ((i + wl (x :: u) : Nat) : Int))) (some (.tup [.int (a : Int), .str v']))) Z1 := by
  rw [Q_eq]
  refine Zfp hl hs p hx (Yk hpart ?_)
  generalize ((i + wl (x :: u) : Nat) : Int) = J at *
  have ia : gIAdd (.str v) (.str v') Z1 = some (.str (v ++ v'), Z1) := by simp [hv]
  generalize v ++ v' = VV at *
  simp [-Zic,-Zb4,Zbh,Zcd,Q_7,Q_8,Q_9,qE,sAug,ia,Fx.isNon]
theorem Zd2 (hl : s.length ≤ 20000) {q i : Nat} {v : List Nat} {o6 o7 o8 : Option Fx.T} {Z Z1 : Sto} {u : List Nat} {x : Nat} (hs : Src Z si s) (p : Pos s i (x :: u))
    (hx : ¬ (x = q ∧ (q = 34 ∨ u.take 1 ≠ [q]))) (hpart : Q_6 (qE si i n lc q v (some (.str [x])) (some (.int ((i + wl (x :: u) : Nat) : Int))) (some (.tup [.int ((i + max (wl (x :: u)) 1 : Nat) : Int),.str ((x :: u).take (max (wl (x :: u)) 1))]))) Z = .nx (qE si i n lc q v (some (.str [x])) (some (.int ((i + wl (x :: u) : Nat) : Int))) (some .non)) Z1) :
    Ut (qE si i n lc q v o6 o7 o8) Z = .rt .non Z1 := by
  rw [Q_eq]
  refine Zfp hl hs p hx (Yk hpart ?_)
  simp [Q_7,qE,Fx.isNon]
theorem Zin (hl : s.length ≤ 20000) {q i : Nat} {v : List Nat} {o6 o7 o8 : Option Fx.T} {Z : Sto} {u : List Nat} (hs : Src Z si s) (p : Pos s i (q :: u)) (hx : q = 34 ∨ u.take 1 ≠ [q]) :
    Ut (qE si i n lc q v o6 o7 o8) Z = .rt (.tup [.int ((i + 1 : Nat) : Int),.str v]) Z := by
  have hlim : s.length ≤ Lim := by unfold Lim; omega
  have e1 := p_at hs hlim p
  replace e1 : Zh [.loc si,.int (i : Int)] Z = .ok (.str [q]) Z := e1
  have e2 := p_at hs hlim p.cons
  have hc : ((i + 1 : Nat) : Int) = (i : Int) + 1 := by omega
  rw [hc] at e2 ⊢
  have m1 := Wq hs (m := "at") (by decide)
  rw [Q_eq]
  refine Yk (ρ' := qE si i n lc q v (some (.str [q])) o7 o8) (Z' := Z) (by simp [Q_1, qE, eMeth, m1, e1]) (b_rt ?_)
  by_cases h : q = 34
  · simp [Q_2,qE,h]
  · have hx2 : ¬ u.take 1 = [q] := hx.resolve_left h
    generalize u.take 1 = U at *
    simp [Q_2,qE,h,eMeth,m1,e2,hx2]
theorem Zjo (hl : s.length ≤ 20000) {q i : Nat} {v : List Nat} {o6 o7 o8 : Option Fx.T} {Z : Sto} (hs : Src Z si s) (p : Pos s i []) : ∃ Z', Ut (qE si i n lc q v o6 o7 o8) Z = .rt .non Z' ∧ SK si s Z Z' := by
  have hlim : s.length ≤ Lim := by unfold Lim; omega
  have e1 := p_at hs hlim p
  replace e1 : Zh [.loc si,.int (i : Int)] Z = .ok (.str []) Z := e1
  have m1 := Wq hs (m := "at") (by decide)
  have m2 := Wq hs (m := "miss") (by decide)
  obtain ⟨Z', e2, k2⟩ := Z95 hs (i : Int)
  refine ⟨Z', ?_, k2⟩
  rw [Q_eq]
  refine Yk (ρ' := qE si i n lc q v (some (.str [])) o7 o8) (Z' := Z) (by simp [Q_1, qE, eMeth, m1, e1]) (Yk (ρ' := qE si i n lc q v (some (.str [])) o7 o8) (Z' := Z) (by simp [Q_2, qE]) (b_rt ?_))
  simp [Q_3,qE,eMeth,m2,e2]
end
end Ap
set_option maxHeartbeats 8000000
namespace Ap
open PySem PySem.Spec PyProof.Rows L2 SX Fx
section
variable {si : Nat} {s : List Nat} {n lc : Nat}
theorem Z7m (hl : s.length ≤ 20000) {q i : Nat} {v : List Nat} {o6 o8 : Option Fx.T} {Z : Sto} {u r : List Nat} (hs : Src Z si s) (p : Pos s i u) (hr : u.drop (wl u) = 10 :: r) {o : Option (List Nat × Nat)} (hq : lineL lc = false → QF n r o) :
    ∃ t Z', Q_6 (qE si i n lc q v o6 (some (.int ((i + wl u : Nat) : Int))) o8) Z = .nx (qE si i n lc q v o6 (some (.int ((i + wl u : Nat) : Int))) (some t)) Z' ∧ SK si s Z Z' ∧ (match (if lineL lc = true then none else o) with
      | none => t = .non
      | some (r', c) => ∃ k : Nat, Pos s k r' ∧ t = .tup [.int (k : Int), .str (sep c)]) := by
  have hlim : s.length ≤ Lim := by unfold Lim; omega
  have pj := p.drop (Zfl u)
  rw [hr] at pj
  have e1 := p_at hs hlim pj
  obtain ⟨t, Z', e2, k, h⟩ := Zk1 (n := n) (lc := lc) hl hs pj hq
  have m1 := Wq hs (m := "at") (by decide)
  refine ⟨t, Z', ?_, k, h⟩
  generalize ((i + wl u : Nat) : Int) = J at *
  replace e1 : Zh [.loc si,.int J] Z = .ok (.str [10]) Z := e1
  simp [Q_6,qE,eMeth,m1,e1,e2]
theorem Zgy (hl : s.length ≤ 20000) {i x : Nat} {v : List Nat} {o8 : Option Fx.T} {Z : Sto} {u : List Nat} (hs : Src Z si s) (p : Pos s i (x :: u)) (hw : isW x = false) (h10 : x ≠ 10) :
    Q_6 (qE si i n lc x v (some (.str [x])) (some (.int ((i + wl (x :: u) : Nat) : Int))) o8) Z = .nx (qE si i n lc x v (some (.str [x])) (some (.int ((i + wl (x :: u) : Nat) : Int))) (some (.tup [.int ((i + 2 : Nat) : Int),.str [x]]))) Z := by
  have hlim : s.length ≤ Lim := by unfold Lim; omega
  have e1 := p_at hs hlim p
  replace e1 : Zh [.loc si,.int (i : Int)] Z = .ok (.str [x]) Z := e1
  have m1 := Wq hs (m := "at") (by decide)
  rw [Qe hw,Nat.add_zero]
  have hc2 : ((i + 2 : Nat) : Int) = (i : Int) + 2 := by omega
  rw [hc2]
  simp [Q_6,qE,eMeth,m1,e1,h10]
theorem Z6m (hl : s.length ≤ 20000) {i : Nat} {v : List Nat} {o8 : Option Fx.T} {Z Z' : Sto} {t : Fx.T} {u : List Nat} (hs : Src Z si s) (p : Pos s i (92 :: u)) (he : W6 [.loc si, .int (i : Int), .int (n : Int), .str [lc]] Z = .ok t Z') :
    Q_6 (qE si i n lc 34 v (some (.str [92])) (some (.int ((i + wl (92 :: u) : Nat) : Int))) o8) Z = .nx (qE si i n lc 34 v (some (.str [92])) (some (.int ((i + wl (92 :: u) : Nat) : Int))) (some t)) Z' := by
  have hlim : s.length ≤ Lim := by unfold Lim; omega
  have e1 := p_at hs hlim p
  replace e1 : Zh [.loc si,.int (i : Int)] Z = .ok (.str [92]) Z := e1
  have m1 := Wq hs (m := "at") (by decide)
  rw [Qe (by decide),Nat.add_zero]
  simp [Q_6,qE,eMeth,m1,e1,he]
theorem Z9a (hl : s.length ≤ 20000) {q i x : Nat} {v : List Nat} {o8 : Option Fx.T} {Z : Sto} {u : List Nat} (hs : Src Z si s) (p : Pos s i (x :: u)) (hx : x ≠ q) (hx2 : x = 92 → q ≠ 34) (hd : ((x :: u).drop (wl (x :: u))).take 1 ≠ [10]) :
    Q_6 (qE si i n lc q v (some (.str [x])) (some (.int ((i + wl (x :: u) : Nat) : Int))) o8) Z = .nx (qE si i n lc q v (some (.str [x])) (some (.int ((i + wl (x :: u) : Nat) : Int))) o8) Z := by
  have hlim : s.length ≤ Lim := by unfold Lim; omega
  have e1 := p_at hs hlim (p.drop (Zfl (x :: u)))
  have m1 := Wq hs (m := "at") (by decide)
  generalize ((i + wl (x :: u) : Nat) : Int) = J at *
  generalize ((x :: u).drop (wl (x :: u))).take 1 = D at *
  by_cases h92 : x = 92
  · have := hx2 h92
    simp [Q_6,qE,eMeth,m1,e1,hd,hx,this]
  · simp [Q_6,qE,eMeth,m1,e1,hd,hx,h92]
theorem Zhl {c m : Nat} (h : c + 1 ≤ m) : (sep c).length ≤ m := by
  unfold sep
  split
  · simp; omega
  · rw [List.length_replicate]; omega
theorem Z5s {m : Nat} {ρ : Fx.Env} {Z Z' : Sto} {t : Fx.T} {b : FS} (h : b ρ Z = .rt t Z') : loopW (eTru (eC (.bl true))) b (m + 1) ρ Z = .rt t Z' := by
  conv => lhs; unfold loopW
  simp [h]
theorem Z5t {m : Nat} {ρ ρ' : Fx.Env} {Z Z' : Sto} {b : FS} (h : b ρ Z = .nx ρ' Z') : loopW (eTru (eC (.bl true))) b (m + 1) ρ Z = loopW (eTru (eC (.bl true))) b m ρ' Z' := by
  conv => lhs; unfold loopW
  simp [h]
theorem qnw {q : Nat} (hq : q = 34 ∨ q = 39) : isW q = false ∧ q ≠ 10 := by
  rcases hq with rfl | rfl <;> exact ⟨rfl,by decide⟩
theorem Zk3 (hl : s.length ≤ 20000) {q : Nat} (hq : q = 34 ∨ q = 39) {u : List Nat} {res : Option (List Nat × List Nat)} (h : QR q n (lineL lc) u res) : ∀ (i m : Nat) (v : List Nat) (o6 o7 o8 : Option Fx.T) (Z : Sto),Src Z si s → Pos s i u → u.length < m → v.length + u.length ≤ 20000 →
    ∃ t Z', loopW (eTru (eC (.bl true))) Ut m (qE si i n lc q v o6 o7 o8) Z = .rt t Z' ∧ SK si s Z Z' ∧ rR s v res t := by
  induction h with
  | nil =>
    intro i m v o6 o7 o8 Z hs p hm hv
    obtain ⟨m, rfl⟩ : ∃ m', m = m' + 1 := ⟨m - 1, by omega⟩
    obtain ⟨Z', e, k⟩ := Zjo (n := n) (lc := lc) (q := q) (v := v) (o6 := o6) (o7 := o7) (o8 := o8) hl hs p
    exact ⟨.non, Z', Z5s e, k, rfl⟩
  | close r hc =>
    intro i m v o6 o7 o8 Z hs p hm hv
    obtain ⟨m, rfl⟩ : ∃ m', m = m' + 1 := ⟨m - 1, by omega⟩
    refine ⟨_,Z,Z5s (Zin hl hs p hc),SK.refl hs,i + 1,p.cons,by rw [List.append_nil]⟩
  | two r res h34 _ ih =>
    intro i m v o6 o7 o8 Z hs p hm hv
    obtain ⟨m, rfl⟩ : ∃ m', m = m' + 1 := ⟨m - 1, by omega⟩
    obtain ⟨hw,h10⟩ := qnw hq
    have e := Z99 (o6 := o6) (o7 := o7) (o8 := o8) hl hs p (v := v) (by simp at hv ⊢; unfold Lim; omega) (fun ⟨_,h⟩ => h.elim h34 (fun h => h rfl)) (Zgy (n := n) (lc := lc) hl hs p hw h10)
    simp only [List.length_cons] at hm hv
    obtain ⟨t, Z', e2, k, h⟩ := ih (i + 2) m (v ++ [q]) _ _ _ Z hs p.cons.cons (by omega) (by rw [List.length_append]; simp; omega)
    exact ⟨t, Z', (Z5t e).trans e2, k, Z98 h⟩
  | feedL u r hd hline =>
    intro i m v o6 o7 o8 Z hs p hm hv
    obtain ⟨m, rfl⟩ : ∃ m', m = m' + 1 := ⟨m - 1, by omega⟩
    cases u with
    | nil => simp [wl] at hd
    | cons x u =>
      have hxq : ¬ (x = q ∧ (q = 34 ∨ u.take 1 ≠ [q])) := fun ⟨h1,_⟩ => by
        obtain ⟨hw,h10⟩ := qnw hq
        subst h1
        rw [Qe hw] at hd
        exact h10 (List.cons.inj hd).1
      obtain ⟨t, Z', e, k, h⟩ := Z7m (n := n) (lc := lc) (q := q) (v := v) (o6 := some (.str [x])) (o8 := some (.tup [.int ((i + max (wl (x :: u)) 1 : Nat) : Int), .str ((x :: u).take (max (wl (x :: u)) 1))])) hl hs p hd (o := none) (fun h => by rw [hline] at h; cases h)
      rw [if_pos hline] at h
      replace h : t = .non := h
      subst h
      exact ⟨.non, Z', Z5s (Zd2 hl hs p hxq e), k, rfl⟩
  | feedN u r hd hline hf =>
    intro i m v o6 o7 o8 Z hs p hm hv
    obtain ⟨m, rfl⟩ : ∃ m', m = m' + 1 := ⟨m - 1, by omega⟩
    cases u with
    | nil => simp [wl] at hd
    | cons x u =>
      have hxq : ¬ (x = q ∧ (q = 34 ∨ u.take 1 ≠ [q])) := fun ⟨h1,_⟩ => by
        obtain ⟨hw,h10⟩ := qnw hq
        subst h1
        rw [Qe hw] at hd
        exact h10 (List.cons.inj hd).1
      obtain ⟨t, Z', e, k, h⟩ := Z7m (n := n) (lc := lc) (q := q) (v := v) (o6 := some (.str [x])) (o8 := some (.tup [.int ((i + max (wl (x :: u)) 1 : Nat) : Int), .str ((x :: u).take (max (wl (x :: u)) 1))])) hl hs p hd (o := none) (fun _ => hf)
      rw [hline] at h
      replace h : t = .non := h
      subst h
      exact ⟨.non, Z', Z5s (Zd2 hl hs p hxq e), k, rfl⟩
  | feed u r r' c res hd hline hf _ ih =>
    intro i m v o6 o7 o8 Z hs p hm hv
    obtain ⟨m, rfl⟩ : ∃ m', m = m' + 1 := ⟨m - 1, by omega⟩
    obtain ⟨hd1,hd2⟩ := drop_cons hd
    have hlen := hf.len r' c rfl
    have hr := congrArg List.length hd2
    rw [List.length_drop] at hr
    cases u with
    | nil => simp [wl] at hd
    | cons x u =>
      have hxq : ¬ (x = q ∧ (q = 34 ∨ u.take 1 ≠ [q])) := fun ⟨h1,_⟩ => by
        obtain ⟨hw,h10⟩ := qnw hq
        subst h1
        rw [Qe hw] at hd
        exact h10 (List.cons.inj hd).1
      obtain ⟨t, Z', e, k, h⟩ := Z7m (n := n) (lc := lc) (q := q) (v := v) (o6 := some (.str [x])) (o8 := some (.tup [.int ((i + max (wl (x :: u)) 1 : Nat) : Int), .str ((x :: u).take (max (wl (x :: u)) 1))])) hl hs p hd (fun _ => hf)
      rw [hline] at h
      obtain ⟨a,pa,rfl⟩ := h
      have hsl := Zhl (c := c) (m := (x :: u).length - r'.length) (by omega)
      have e2 := Z99 (o6 := o6) (o7 := o7) (o8 := o8) hl hs p (v := v) (by unfold Lim; omega) hxq e
      obtain ⟨t, Z2, e3, k3, h3⟩ := ih a m (v ++ sep c) _ _ _ Z' (SK.src hs k) pa (by omega) (by rw [List.length_append]; omega)
      exact ⟨t,Z2,(Z5t e2).trans e3,k.trans k3,Z98 h3⟩
  | white w r res h0 h1 h2 _ ih =>
    intro i m v o6 o7 o8 Z hs p hm hv
    obtain ⟨m, rfl⟩ : ∃ m', m = m' + 1 := ⟨m - 1, by omega⟩
    have hwl := Zbi w r h1 fun x hx => (h2 x hx).1
    have pr := p.drop (k := w.length) (by rw [List.length_append]; omega)
    rw [List.drop_left] at pr
    cases w with
    | nil => exact absurd rfl h0
    | cons x w =>
      replace p : Pos s i (x :: (w ++ r)) := p
      have hx := h1 x (by simp)
      obtain ⟨hqw,hq10⟩ := qnw hq
      have hxq : x ≠ q := fun e => by rw [e,hqw] at hx; cases hx
      have hx92 : x ≠ 92 := fun e => by rw [e] at hx; cases hx
      have e1 := Z9a (n := n) (lc := lc) (v := v) (o8 := some (.tup [.int ((i + max (wl (x :: (w ++ r))) 1 : Nat) : Int),.str ((x :: (w ++ r)).take (max (wl (x :: (w ++ r))) 1))])) hl hs p hxq (fun e => absurd e hx92) (by
        show List.take 1 (List.drop (wl (x :: w ++ r)) (x :: w ++ r)) ≠ [10]
        rw [hwl,List.drop_left]
        cases r with
        | nil => simp
        | cons y r => have := (h2 y rfl).2; simp [this])
      have hmx : max (wl (x :: (w ++ r))) 1 = (x :: w).length := by
        show max (wl (x :: w ++ r)) 1 = _
        rw [hwl,List.length_cons]; omega
      have htk : (x :: (w ++ r)).take (x :: w).length = x :: w := by
        show List.take (x :: w).length ((x :: w) ++ r) = _
        rw [List.take_left]
      have e2 := Z99 (n := n) (lc := lc) (o6 := o6) (o7 := o7) (o8 := o8) (v' := x :: w) (a := i + (x :: w).length) hl hs p (v := v) (by rw [List.length_append] at hv; unfold Lim; omega) (fun ⟨a, _⟩ => hxq a) (by rw [hmx, htk] at e1 ⊢; exact e1)
      rw [List.length_append,List.length_cons] at hm hv
      obtain ⟨t,Z2,e3,k3,h3⟩ := ih (i + (x :: w).length) m (v ++ (x :: w)) _ _ _ Z hs pr (by omega) (by rw [List.length_append,List.length_cons]; omega)
      exact ⟨t,Z2,(Z5t e2).trans e3,k3,Z98 h3⟩
  | esc e v' r res h34 hv' _ ih =>
    intro i m v o6 o7 o8 Z hs p hm hv
    obtain ⟨m, rfl⟩ : ∃ m', m = m' + 1 := ⟨m - 1, by omega⟩
    subst h34
    have e1 := Z6m (v := v) (o8 := some (.tup [.int ((i + max (wl (92 :: e :: r)) 1 : Nat) : Int), .str ((92 :: e :: r).take (max (wl (92 :: e :: r)) 1))])) hl hs p (f_esc (n := n) (lc := lc) hl hs p hv')
    simp only [List.length_cons] at hm hv
    have e2 := Z99 (o6 := o6) (o7 := o7) (o8 := o8) hl hs p (v := v) (by simp; unfold Lim; omega) (fun ⟨a,_⟩ => by cases a) e1
    obtain ⟨t, Z2, e3, k3, h3⟩ := ih (i + 2) m (v ++ [v']) _ _ _ Z hs p.cons.cons (by omega) (by rw [List.length_append]; simp; omega)
    exact ⟨t,Z2,(Z5t e2).trans e3,k3,Z98 h3⟩
  | escF r r' c res h34 hline hf _ ih =>
    intro i m v o6 o7 o8 Z hs p hm hv
    obtain ⟨m, rfl⟩ : ∃ m', m = m' + 1 := ⟨m - 1, by omega⟩
    subst h34
    have hlen := hf.len r' c rfl
    obtain ⟨t,Z1,e0,k0,a,pa,rfl⟩ := Zhk (n := n) (lc := lc) hl hs p hline hf
    have e1 := Z6m (v := v) (o8 := some (.tup [.int ((i + max (wl (92 :: 10 :: r)) 1 : Nat) : Int),.str ((92 :: 10 :: r).take (max (wl (92 :: 10 :: r)) 1))])) hl hs p e0
    simp only [List.length_cons] at hm hv
    have e2 := Z99 (o6 := o6) (o7 := o7) (o8 := o8) hl hs p (v := v) (by rw [List.length_replicate]; unfold Lim; omega) (fun ⟨a,_⟩ => by cases a) e1
    obtain ⟨t,Z2,e3,k3,h3⟩ := ih a m (v ++ List.replicate c 10) _ _ _ Z1 (SK.src hs k0) pa (by omega) (by rw [List.length_append,List.length_replicate]; omega)
    exact ⟨t,Z2,(Z5t e2).trans e3,k0.trans k3,Z98 h3⟩
  | escFN r h34 hline hf =>
    intro i m v o6 o7 o8 Z hs p hm hv
    obtain ⟨m, rfl⟩ : ∃ m', m = m' + 1 := ⟨m - 1, by omega⟩
    subst h34
    obtain ⟨t,Z1,e0,k0,h⟩ := Zhk (n := n) (lc := lc) hl hs p hline hf
    replace h : t = .non := h
    subst h
    have e1 := Z6m (v := v) (o8 := some (.tup [.int ((i + max (wl (92 :: 10 :: r)) 1 : Nat) : Int),.str ((92 :: 10 :: r).take (max (wl (92 :: 10 :: r)) 1))])) hl hs p e0
    exact ⟨.non,Z1,Z5s (Zd2 hl hs p (fun ⟨a,_⟩ => by cases a) e1),k0,rfl⟩
  | escN r h34 hn =>
    intro i m v o6 o7 o8 Z hs p hm hv
    obtain ⟨m, rfl⟩ : ∃ m', m = m' + 1 := ⟨m - 1, by omega⟩
    subst h34
    obtain ⟨Z1,e0,k0⟩ := Zk2 (n := n) (lc := lc) hl hs p hn
    have e1 := Z6m (v := v) (o8 := some (.tup [.int ((i + max (wl (92 :: r)) 1 : Nat) : Int),.str ((92 :: r).take (max (wl (92 :: r)) 1))])) hl hs p e0
    exact ⟨.non,Z1,Z5s (Zd2 hl hs p (fun ⟨a,_⟩ => by cases a) e1),k0,rfl⟩
  | sign x r res hxq hx92 hw h10 _ ih =>
    intro i m v o6 o7 o8 Z hs p hm hv
    obtain ⟨m, rfl⟩ : ∃ m', m = m' + 1 := ⟨m - 1, by omega⟩
    have h0 := Qe (r := r) hw
    have e1 := Z9a (n := n) (lc := lc) (v := v) (o8 := some (.tup [.int ((i + max (wl (x :: r)) 1 : Nat) : Int),.str ((x :: r).take (max (wl (x :: r)) 1))])) hl hs p hxq hx92 (by rw [h0]; simp [h10])
    have hmx : max (wl (x :: r)) 1 = 1 := by rw [h0]; rfl
    have e2 := Z99 (n := n) (lc := lc) (o6 := o6) (o7 := o7) (o8 := o8) (v' := [x]) (a := i + 1) hl hs p (v := v) (by simp at hv ⊢; unfold Lim; omega) (fun ⟨a, _⟩ => hxq a) (by rw [hmx] at e1 ⊢; exact e1)
    simp only [List.length_cons] at hm hv
    obtain ⟨t,Z2,e3,k3,h3⟩ := ih (i + 1) m (v ++ [x]) _ _ _ Z hs p.cons (by omega) (by rw [List.length_append]; simp; omega)
    exact ⟨t,Z2,(Z5t e2).trans e3,k3,Z98 h3⟩
theorem Zgz (hl : s.length ≤ 20000) {q : Nat} (hq : q = 34 ∨ q = 39) {u : List Nat} {res : Option (List Nat × List Nat)} (h : QR q n (lineL lc) u res) {Z : Sto} (hs : Src Z si s) (p : Pos s 1 (q :: u)) :
    ∃ t Z', Z9u [.loc si, .int 1, .int (n : Int), .str [lc]] Z = .ok t Z' ∧ SK si s Z Z' ∧ rR s [] res t := by
  have hlen := p.2
  simp at hlen
  obtain ⟨t, Z', e, k, hr⟩ := Zk3 hl hq h 2 Lim [] none none none Z hs p.cons (by unfold Lim; omega) (by simp; omega)
  have e1 := p_at hs (by unfold Lim; omega) p
  replace e1 : Zh [.loc si,.int 1] Z = .ok (.str [q]) Z := e1
  have m1 := Wq hs (m := "at") (by decide)
  refine ⟨t, Z', Z2h (n := 9) (as := [.loc si, .int 1, .int (n : Int), .str [lc]]) ?_, k, hr⟩
  refine Yk (ρ' := [some (.loc si), some (.int 1), some (.int (n : Int)), some (.str [lc]), some (.str [q]), none, none, none, none]) (Z' := Z) (by simp [eMeth, m1, e1]) (Yk (ρ' := [some (.loc si), some (.int 1), some (.int (n : Int)), some (.str [lc]), some (.str [q]), some (.str []), none, none, none]) (Z' := Z) (by simp) (Yk (ρ' := qE si 2 n lc q [] none none none) (Z' := Z) (by simp [sAug, qE]) ?_))
  exact e
end
end Ap
set_option maxHeartbeats 8000000
namespace Ap
open PySem PySem.Spec PyProof.Rows L2 SX Fx
theorem Z6n (n : Nat) : ∀ (m : Nat) (u : List Nat),u.length < m → ∃ res,QF n u res
  | m + 1,u,hm => by
    by_cases h1 : bl u < n
    · by_cases h2 : (u.drop (bl u)).head? = some 10
      · have h3 := Z7l h2
        obtain ⟨h4,h5⟩ := drop_cons h3
        obtain ⟨res,hr⟩ := Z6n n m ((u.drop (bl u)).drop 1) (by rw [List.length_drop,List.length_drop]; omega)
        exact ⟨_,.empB u _ res h1 h3 hr⟩
      · exact ⟨_,.few u h1 h2⟩
    · by_cases h2 : (u.drop (n + wl (u.drop n))).head? = some 10
      · have h3 := Z7l h2
        obtain ⟨h4,h5⟩ := drop_cons h3
        obtain ⟨res,hr⟩ := Z6n n m ((u.drop (n + wl (u.drop n))).drop 1) (by rw [List.length_drop,List.length_drop]; omega)
        exact ⟨_,.empW u _ res (by omega) h3 hr⟩
      · exact ⟨_,.stop u (by omega) h2⟩
theorem Z9b : ∀ (r : List Nat) (c : Nat),c ∈ r.take (wl r) → isW c = true
  | [],c,h => by simp [wl] at h
  | x :: r,c,h => by
    by_cases hx : isW x = true
    · have hw : wl (x :: r) = wl r + 1 := by simp [wl,hx]
      rw [hw,List.take_succ_cons] at h
      rcases List.mem_cons.mp h with rfl | h
      · exact hx
      · exact Z9b r c h
    · have hw : wl (x :: r) = 0 := Qe (by simpa using hx)
      rw [hw] at h
      cases h
theorem Z09 {q n : Nat} {line : Bool} (hq : q = 34 ∨ q = 39) : ∀ (m : Nat) (u : List Nat),u.length < m → ∃ res,QR q n line u res
  | m + 1,[],_ => ⟨_,.nil⟩
  | m + 1,x :: r,hm => by
    rw [List.length_cons] at hm
    by_cases h1 : ((x :: r).drop (wl (x :: r))).head? = some 10
    · have h2 := Z7l h1
      obtain ⟨h3,h4⟩ := drop_cons h2
      cases hline : line with
      | true => exact ⟨_,.feedL _ _ h2 rfl⟩
      | false =>
        obtain ⟨o,ho⟩ := Z6n n _ (((x :: r).drop (wl (x :: r))).drop 1) (Nat.lt_succ_self _)
        cases o with
        | none => exact ⟨_,.feedN _ _ h2 rfl ho⟩
        | some p =>
          have hl := ho.len p.1 p.2 rfl
          rw [List.length_drop,List.length_drop,List.length_cons] at hl
          obtain ⟨res,hr⟩ := Z09 (line := line) hq m p.1 (by omega)
          rw [hline] at hr
          exact ⟨_,.feed _ _ _ _ _ h2 rfl ho hr⟩
    by_cases h2 : x = q
    · subst h2
      by_cases h3 : x = 34 ∨ r.take 1 ≠ [x]
      · exact ⟨_,.close r h3⟩
      · have h34 : x ≠ 34 := fun e => h3 (.inl e)
        have hr : r.take 1 = [x] := Classical.byContradiction fun e => h3 (.inr e)
        cases r with
        | nil => cases hr
        | cons y r =>
          have : y = x := by simpa using hr
          subst this
          obtain ⟨res,h⟩ := Z09 (n := n) (line := line) hq m r (by rw [List.length_cons] at hm; omega)
          exact ⟨_,.two r res h34 h⟩
    by_cases h3 : isW x = true
    · have hw : wl (x :: r) = wl r + 1 := by simp [wl,h3]
      obtain ⟨res,h⟩ := Z09 (n := n) (line := line) hq m (r.drop (wl r)) (by rw [List.length_drop]; omega)
      have hsp : x :: r = (x :: r.take (wl r)) ++ r.drop (wl r) := by rw [List.cons_append,List.take_append_drop]
      rw [hsp]
      refine ⟨_,.white _ _ _ (by simp) (fun c hc => ?_) (fun y hy => ⟨Zfm _ _ hy,?_⟩) h⟩
      · rcases List.mem_cons.mp hc with rfl | hc
        · exact h3
        · exact Z9b r c hc
      · rw [hw,List.drop_succ_cons] at h1
        intro e
        subst e
        exact h1 hy
    by_cases h4 : x = 92 ∧ q = 34
    · obtain ⟨rfl,rfl⟩ := h4
      cases r with
      | nil => exact ⟨_,.escN [] rfl (fun e h => by cases h)⟩
      | cons e r =>
        rw [List.length_cons] at hm
        cases hv : escT e with
        | some v =>
          obtain ⟨res,h⟩ := Z09 (n := n) (line := line) hq m r (by omega)
          exact ⟨_,.esc e v r res rfl hv h⟩
        | none =>
          by_cases h5 : e = 10 ∧ line = false
          · obtain ⟨rfl,rfl⟩ := h5
            obtain ⟨o,ho⟩ := Z6n n _ r (Nat.lt_succ_self _)
            cases o with
            | none => exact ⟨_,.escFN r rfl rfl ho⟩
            | some p =>
              have hl := ho.len p.1 p.2 rfl
              obtain ⟨res,h⟩ := Z09 (n := n) (line := false) hq m p.1 (by omega)
              exact ⟨_,.escF r _ _ res rfl rfl ho h⟩
          · refine ⟨_,.escN (e :: r) rfl (fun y hy => ?_)⟩
            cases hy
            refine ⟨hv,fun e10 => ?_⟩
            cases hl : line with
            | true => rfl
            | false => exact absurd ⟨e10,hl⟩ h5
    · obtain ⟨res,h⟩ := Z09 (n := n) (line := line) hq m r (by omega)
      have hw0 : wl (x :: r) = 0 := Qe (by simpa using h3)
      rw [hw0] at h1
      exact ⟨_,.sign x r res h2 (fun e e2 => h4 ⟨e,e2⟩) (by simpa using h3) (fun e => h1 (by rw [e]; rfl)) h⟩
theorem QF.suf {n : Nat} {u : List Nat} {res : Option (List Nat × Nat)} (h : QF n u res) : ∀ r c,res = some (r,c) → ∃ a,u = a ++ r := by
  induction h with
  | few u _ _ => intro r c h; cases h
  | stop u h1 h2 =>
    intro r c h
    split at h
    · cases h
    · cases h
      exact ⟨_,(List.take_append_drop _ u).symm⟩
  | empW u r res h1 h2 _ ih =>
    intro r' c h
    cases res with
    | none => cases h
    | some p =>
      cases h
      obtain ⟨a,ha⟩ := ih p.1 p.2 rfl
      refine ⟨u.take (n + wl (u.drop n)) ++ 10 :: a,?_⟩
      rw [List.append_assoc,List.cons_append,← ha,← h2,List.take_append_drop]
  | empB u r res h1 h2 _ ih =>
    intro r' c h
    cases res with
    | none => cases h
    | some p =>
      cases h
      obtain ⟨a,ha⟩ := ih p.1 p.2 rfl
      refine ⟨u.take (bl u) ++ 10 :: a,?_⟩
      rw [List.append_assoc,List.cons_append,← ha,← h2,List.take_append_drop]
theorem Z1i {w v r : List Nat} {res : Option (List Nat × List Nat)} (h : pre w res = some (v, r)) : ∃ v', res = some (v', r) := by
  cases res with
  | none => cases h
  | some p => cases h; exact ⟨_,rfl⟩
theorem QR.suf {q n : Nat} {line : Bool} {u : List Nat} {res : Option (List Nat × List Nat)} (h : QR q n line u res) : ∀ v r,res = some (v,r) → ∃ a,u = a ++ q :: r := by
  induction h with
  | nil => intro v r h; cases h
  | close r0 _ => intro v r h; cases h; exact ⟨[],rfl⟩
  | two r0 res _ _ ih =>
    intro v r h
    obtain ⟨v', h⟩ := Z1i h
    obtain ⟨a,rfl⟩ := ih _ _ h
    exact ⟨q :: q :: a,rfl⟩
  | feedL => intro v r h; cases h
  | feedN => intro v r h; cases h
  | feed u r0 r' c res hd _ hf _ ih =>
    intro v r h
    obtain ⟨v', h⟩ := Z1i h
    obtain ⟨a,rfl⟩ := ih _ _ h
    obtain ⟨b,rfl⟩ := hf.suf _ _ rfl
    refine ⟨u.take (wl u) ++ 10 :: (b ++ a),?_⟩
    have := (List.take_append_drop (wl u) u).symm
    rw [hd] at this
    exact this.trans (by simp)
  | white w r0 res _ _ _ _ ih =>
    intro v r h
    obtain ⟨v', h⟩ := Z1i h
    obtain ⟨a,rfl⟩ := ih _ _ h
    exact ⟨w ++ a,by rw [List.append_assoc]⟩
  | esc e v0 r0 res _ _ _ ih =>
    intro v r h
    obtain ⟨v', h⟩ := Z1i h
    obtain ⟨a,rfl⟩ := ih _ _ h
    exact ⟨92 :: e :: a,rfl⟩
  | escF r0 r' c res _ _ hf _ ih =>
    intro v r h
    obtain ⟨v', h⟩ := Z1i h
    obtain ⟨a,rfl⟩ := ih _ _ h
    obtain ⟨b,rfl⟩ := hf.suf _ _ rfl
    exact ⟨92 :: 10 :: (b ++ a),by simp⟩
  | escFN => intro v r h; cases h
  | escN => intro v r h; cases h
  | sign x r0 res _ _ _ _ _ ih =>
    intro v r h
    obtain ⟨v', h⟩ := Z1i h
    obtain ⟨a,rfl⟩ := ih _ _ h
    exact ⟨x :: a,rfl⟩
end Ap
set_option maxHeartbeats 8000000
namespace Ap
open PySem PySem.Spec PyProof.Rows L2 SX Fx
def Ext (Z Z' : Sto) : Prop := ∃ Y, Z' = Z ++ Y
theorem Ext.refl (Z : Sto) : Ext Z Z := ⟨[],(List.append_nil _).symm⟩
theorem Ext.app {Z Z' : Sto} (h : Ext Z Z') (Y : Sto) : Ext Z (Z' ++ Y) := by
  obtain ⟨X,rfl⟩ := h
  exact ⟨X ++ Y,List.append_assoc _ _ _⟩
theorem Ext.trans {Z Z1 Z2 : Sto} (h : Ext Z Z1) (h2 : Ext Z1 Z2) : Ext Z Z2 := by
  obtain ⟨X,rfl⟩ := h2
  exact h.app X
theorem Ext.set {Z Z' : Sto} (h : Ext Z Z') {i : Nat} {o : O} (hi : Z.length ≤ i) : Ext Z (Z'.set i o) := by
  obtain ⟨X,rfl⟩ := h
  exact ⟨X.set (i - Z.length) o,List.set_append_right _ _ hi⟩
theorem Ext.len {Z Z' : Sto} (h : Ext Z Z') : Z.length ≤ Z'.length := by
  obtain ⟨X,rfl⟩ := h
  rw [List.length_append]; omega
theorem Ext.getL {Z Z' : Sto} (h : Ext Z Z') {i : Nat} {ts : List Fx.T} (e : Fx.getL Z i = some ts) : Fx.getL Z' i = some ts := by
  obtain ⟨X,rfl⟩ := h
  exact Np e
theorem Zd3 {Z : Sto} {i : Nat} {C : String} {fs : List (String × Fx.T)} : getI Z i = some (C,fs) ↔ Z[i]? = some (.ins C fs) := by
  constructor
  · exact Z9g
  · intro h; unfold getI; rw [h]
theorem lt1 (x y : Nat) : (([x] : List Nat) < [y]) ↔ x < y := by simp [List.cons_lt_cons_iff]
def okC (c : Nat) : Bool := (decide (32 ≤ c) && decide (c ≤ 126)) || decide (c = 9) || decide (c = 10)
theorem hit_s (l : List Nat) : ∀ k Z,k ≤ (l.map fun c => Fx.T.str [c]).length → itStr l k Z = some (l.map fun c => Fx.T.str [c])[k]? := fun k Z _ => by
  simp [itStr]
theorem Zbj {t : List Nat} (hl : t.length ≤ Lim) (h : t.all okC = true) (Z : Sto) : ∃ Y,Z4r [.str t] Z = .ok (.bl true) (Z ++ Y) := by
  have e := Zdn (Z1 := Z) (it := itStr t) (ts := t.map fun c => Fx.T.str [c]) (put := fun x => putN [1] x (wipeR [some (.str t),none] [1])) (c := eYes) (e := Jr) (hit_s t) (by rw [List.length_map]; exact hl) (fun _ => true) (fun _ => .bl true) (fun x hx => by
    obtain ⟨c,hc,rfl⟩ := List.mem_map.mp hx
    refine ⟨[some (.str t),some (.str [c])],by rw [Z9e]; rfl,fun acc => ⟨rfl,fun _ => ?_⟩⟩
    have hok := List.all_eq_true.mp h c hc
    have k1 : ∀ Z,gLeW (.str [32]) (.str [c]) Z = some (.bl (decide (32 ≤ c)),Z) := fun Z => by
      show some (Fx.T.bl (!decide (([c] : List Nat) < [32])),Z) = _
      by_cases h1 : c < 32
      · rw [decide_eq_true ((lt1 _ _).mpr h1),decide_eq_false (by omega)]; rfl
      · rw [decide_eq_false (fun hh => h1 ((lt1 _ _).mp hh)),decide_eq_true (by omega)]; rfl
    have k2 : ∀ Z,gLeW (.str [c]) (.str [126]) Z = some (.bl (decide (c ≤ 126)),Z) := fun Z => by
      show some (Fx.T.bl (!decide (([126] : List Nat) < [c])),Z) = _
      by_cases h1 : 126 < c
      · rw [decide_eq_true ((lt1 _ _).mpr h1),decide_eq_false (by omega)]; rfl
      · rw [decide_eq_false (fun hh => h1 ((lt1 _ _).mp hh)),decide_eq_true (by omega)]; rfl
    have k3 : ∀ Z,gInW (.str [c]) (.str [9,10]) Z = some (.bl (decide (c = 9) || decide (c = 10)),Z) := fun Z => by
      have : gInB (.str [c]) (.str [9,10]) Z = some (decide (c = 9) || decide (c = 10)) := by simp [gInB]
      rw [Zgo]
      unfold gIn
      rw [this]; rfl
    unfold okC at hok
    cases h1 : decide (32 ≤ c) with
    | false =>
      have h3 : (decide (c = 9) || decide (c = 10)) = true := by simpa [h1] using hok
      rw [h3] at k3
      generalize Z ++ [O.lst acc] = ZZ
      simp [-Zgo,Jr,k1,h1,k3]
    | true =>
      cases h2 : decide (c ≤ 126) with
      | true =>
        generalize Z ++ [O.lst acc] = ZZ
        simp [-Zgo,Jr,k1,h1,k2,h2]
      | false =>
        have h3 : (decide (c = 9) || decide (c = 10)) = true := by simpa [h1,h2] using hok
        rw [h3] at k3
        generalize Z ++ [O.lst acc] = ZZ
        simp [-Zgo,Jr,k1,h1,k2,h2,k3])
  have em : ((t.map fun c => Fx.T.str [c]).filter (fun _ => true)).map (fun _ => Fx.T.bl true) = t.map fun c => Fx.T.bl ((fun _ => true) c) := by
    rw [List.filter_eq_self.mpr (fun _ _ => rfl),List.map_map]; rfl
  rw [em] at e
  have hb := Zb3 (fun _ : Nat => true) t
  refine ⟨[.lst (t.map fun c => Fx.T.bl ((fun _ => true) c))],?_⟩
  have hall : (t.map fun _ : Nat => true).all id = true := by
    rw [List.all_eq_true]
    intro b hb
    obtain ⟨_,_,rfl⟩ := List.mem_map.mp hb
    rfl
  generalize (t.map fun c => Fx.T.bl ((fun _ => true) c)) = BL at *
  generalize (t.map fun _ : Nat => true) = BB at *
  have gi : ∀ Z, gIsi [.str t, .ty "str"] Z = some (.bl true, Z) := fun Z => rfl
  simp [Z4r,runF,Zb7,gi,e,hb,hall]
theorem Zaf {a b c : Int} (h1 : b ≤ a) (h2 : a ≤ c) (Z : Sto) : Vu [.int a,.int b,.int c] Z = .ok (.bl true) Z := by
  have g1 : ∀ Z, gIsi [.int a, .ty "int"] Z = some (.bl true, Z) := fun Z => rfl
  have g2 : ∀ Z, gIsi [.int a, .ty "bool"] Z = some (.bl false, Z) := fun Z => rfl
  simp [Vu,runF,Z60,g1,g2,h1,h2]
theorem Zbk {i d : Int} (h0 : 0 ≤ i) (h1 : i ≤ 100) (h2 : 1 ≤ d) (h3 : d ≤ 9) (h4 : d ≤ i + 1) (Z : Sto) : U8 [.int i,.int 0,.int d] Z = .ok .non Z := by
  have a := Zaf h0 h1 Z
  have b := Zaf (a := 0) (b := 0) (c := 200) (by omega) (by omega) Z
  have c := Zaf (a := d) (b := 1) (c := (if i + 1 < 9 then i + 1 else 9)) h2 (by split <;> omega) Z
  simp [U8,runF,Z27,a,b,c]
theorem Zag {Z Y : Sto} {C f : String} {y : Fx.T} {fs : List (String × Fx.T)} (hf : fs.length < 1000) : setF [C] f (.loc Z.length) y (Z ++ .ins C fs :: Y) = some (Z ++ .ins C (putS f y fs) :: Y) := by
  have g : getI (Z ++ .ins C fs :: Y) Z.length = some (C,fs) := by
    rw [Zd3]; simp
  simp [setF,g,hf]
theorem Zk4 {fa : FA} {ρ : Fx.Env} {Z : Sto} {s : List Nat} (ha : fa ρ Z = .ok [.str s] Z) (hl : s.length ≤ Lim) : eMake "Source" Xk [] fa ρ Z = .ok (.loc Z.length) (Z ++ [.ins "Source" (srF s 0)]) := by
  have s1 := Zag (Z := Z) (Y := []) (C := "Source") (f := "text") (y := .str s) (fs := []) (by simp)
  have s2 := Zag (Z := Z) (Y := []) (C := "Source") (f := "length") (y := .int (s.length : Int)) (fs := [("text", .str s)]) (by simp)
  have s3 := Zag (Z := Z) (Y := []) (C := "Source") (f := "far") (y := .int 0) (fs := [("text", .str s), ("length", .int (s.length : Int))]) (by simp)
  have p1 : putS "text" (.str s) [] = [("text", Fx.T.str s)] := rfl
  have p2 : putS "length" (.int (s.length : Int)) [("text", .str s)] = [("text", Fx.T.str s), ("length", .int (s.length : Int))] := by simp [putS]
  have p3 : putS "far" (.int 0) [("text", .str s), ("length", .int (s.length : Int))] = srF s 0 := by simp [putS, srF]
  rw [p1] at s1
  rw [p2] at s2
  rw [p3] at s3
  have e : Xk [.loc Z.length, .str s] (Z ++ [.ins "Source" []]) = .ok .non (Z ++ [.ins "Source" (srF s 0)]) := by
    simp [Xk,runF,Z4p,sFldS,s1,s2,s3,hl]
  unfold eMake
  rw [ha]
  show (Xk [.loc Z.length, .str s] (Z ++ [.ins "Source" []])).bind _ = _
  rw [e]; rfl
theorem Ext.sk {Z Z' : Sto} {s : List Nat} {X : Sto} {si : Nat} (hi : Z.length ≤ si) (k : SK si s (Z ++ X) Z') : Ext Z Z' := by
  obtain ⟨f,rfl⟩ := k
  exact Ext.set ⟨X,rfl⟩ hi
def qch (dq : Bool) : Nat := if dq = true then 34 else 39
def qst (dq : Bool) : List Nat := if dq = true then [100,111,117,98,108,101] else [115,105,110,103,108,101]
def cts : List (List Nat × Nat × List Nat) := [([98,108,111,99,107],79,[10]),([107,101,121],75,[58,32]),([102,108,111,119],73,[93]),([112,97,105,114],80,[58,32])]
theorem Z7n (dq : Bool) : qch dq = 34 ∨ qch dq = 39 := by cases dq <;> simp [qch]
theorem Zfq (dq : Bool) {ct : List Nat × Nat × List Nat} (hct : ct ∈ cts) (Z : Sto) : Qz [.str (qst dq),.str ct.1] Z = .ok .non Z := by
  have g1 : ∀ Z, gIsi [.str (qst dq), .ty "str"] Z = some (.bl true, Z) := fun Z => rfl
  have g2 : ∀ Z, gIsi [.str ct.1, .ty "str"] Z = some (.bl true, Z) := fun Z => rfl
  have n1 : ∀ Z,gNotInW (.str (qst dq)) (.tup Z9t) Z = some (.bl false,Z) := fun Z => by cases dq <;> rfl
  have n2 : kdHas Z26 (.str ct.1) = some true := by
    simp only [cts,List.mem_cons,List.not_mem_nil,or_false] at hct
    rcases hct with rfl | rfl | rfl | rfl <;> rfl
  generalize qst dq = ss at *
  generalize ct.1 = cc at *
  simp [-Qy,Qz,runF,Z4o,g1,g2,n1,tKdIn,n2]
theorem Zk5 {ct : List Nat × Nat × List Nat} (hct : ct ∈ cts) : kdT Z26 (.str ct.1) = some (.str [ct.2.1]) ∧ kdT Z6l (.str ct.1) = some (.str ct.2.2) ∧ ct.2.2.length ≤ 2 := by
  simp only [cts,List.mem_cons,List.not_mem_nil,or_false] at hct
  rcases hct with rfl | rfl | rfl | rfl <;> exact ⟨rfl,rfl,by decide⟩
def resT (k : Nat) : Option (List Nat × List Nat) → Fx.T
  | none => .non
  | some (v,r) => if r.length = k then .str v else .non
section
variable {dq : Bool} {ct : List Nat × Nat × List Nat} {n : Nat} {Z : Sto}
theorem Zfr (hct : ct ∈ cts) {u : List Nat} {res : Option (List Nat × List Nat)} (hn : n ≤ 100) (hok : (qch dq :: u).all okC = true) (hl : u.length ≤ 19000) (h : QR (qch dq) n (lineL ct.2.1) (u ++ ct.2.2) res) :
    ∃ Z', Y4 [.str (qch dq :: u), .str (qst dq), .str ct.1, .int (n : Int), .int 1] Z = .ok (resT ct.2.2.length res) Z' ∧ Ext Z Z' := by
  obtain ⟨ck1,ck2,ck3⟩ := Zk5 hct
  obtain ⟨Y,et⟩ := Zbj (t := qch dq :: u) (by rw [List.length_cons]; unfold Lim; omega) hok Z
  obtain ⟨Z1,hZ1⟩ : ∃ Z1,Z1 = Z ++ Y := ⟨_,rfl⟩
  rw [← hZ1] at et
  have x1 : Ext Z Z1 := by rw [hZ1]; exact (Ext.refl Z).app _
  obtain ⟨s,hs⟩ : ∃ s,s = 32 :: qch dq :: (u ++ ct.2.2) := ⟨_,rfl⟩
  obtain ⟨Z2, hZ2⟩ : ∃ Z2, Z2 = Z1 ++ [O.ins "Source" (srF s 0)] := ⟨_, rfl⟩
  have hsl : s.length = u.length + ct.2.2.length + 2 := by rw [hs]; simp
  have hsrc : Src Z2 Z1.length s := ⟨0,by rw [Zd3,hZ2]; simp⟩
  have hp : Pos s 1 (qch dq :: (u ++ ct.2.2)) := ⟨by rw [hs]; rfl,by rw [hsl]; simp; omega⟩
  obtain ⟨t,Z3,e3,k3,r3⟩ := Zgz (n := n) (lc := ct.2.1) (by omega) (Z7n dq) h hsrc hp
  have x3 : Ext Z Z3 := by
    rw [hZ2] at k3
    exact x1.trans (Ext.sk (Nat.le_refl _) k3)
  have en := Zbk (i := (n : Int)) (d := 1) (by omega) (by omega) (by omega) (by omega) (by omega) Z
  have hh : kdHas Z78 (.str (qst dq)) = some false := by cases dq <;> rfl
  have hqd : kdT Z6k (.str (qst dq)) = some (.str [qch dq]) := by cases dq <;> rfl
  have hst : gStarts (.str (qch dq :: u)) [.str [qch dq]] Z1 = some (.bl true,Z1) := by simp [gStarts]
  have hpl : ¬ qst dq = [112,108,97,105,110] := by cases dq <;> decide
  have pB := Zfq dq hct Z
  have hlen : ((qch dq :: u).length : Int) + 1 = ((u.length + 2 : Nat) : Int) := by simp; omega
  have hmk : ∀ {fa : FA} {ρ : Fx.Env}, fa ρ Z1 = .ok [.str s] Z1 → eMake "Source" Xk [] fa ρ Z1 = .ok (.loc Z1.length) Z2 := fun ha => by
    rw [hZ2]; exact Zk4 ha (by unfold Lim; omega)
  have a1 := Yd [32] (qch dq :: u) Z1 (by simp; unfold Lim; omega)
  have a2 := Yd ([32] ++ (qch dq :: u)) ct.2.2 Z1 (by simp; unfold Lim; omega)
  have hcat : [32] ++ (qch dq :: u) ++ ct.2.2 = s := by rw [hs]; simp
  rw [hcat] at a2
  have hT : (qch dq :: u) ≠ [] := by simp
  have hmk2 : eMake "Source" Xk [] (aCons (eBin gAdd (eBin gAdd (eC (.str [32])) (eVar 0)) (eKdI Z6l (eVar 2))) aNil) [some (.str (qch dq :: u)), some (.str (qst dq)), some (.str ct.1), some (.int (n : Int)), some (.int 1), none, none, none] Z1 = .ok (.loc Z1.length) Z2 := by
    refine hmk ?_
    generalize qch dq :: u = T at *
    generalize [32] ++ T = T2 at *
    simp [-Nm,a1,eKdI,ck2,a2]
  have hlenT : ∀ Z,gLen [.str (qch dq :: u)] Z = some (.int ((qch dq :: u).length : Int),Z) := fun Z => by
    have : (qch dq :: u).length ≤ Lim := by rw [List.length_cons]; unfold Lim; omega
    rw [len_s,if_pos this]
  refine ⟨Z3,?_,x3⟩
  cases res with
  | none =>
    replace r3 : t = .non := r3
    subst r3
    show _ = R.ok Fx.T.non Z3
    generalize qch dq :: u = T at *
    generalize qst dq = SS at *
    generalize ct.1 = CC at *
    simp [-Nm,Y4,runF,Ub,pB,en,et,hT,tKdIn,hh,eKdI,hqd,hst,hpl,hmk2,ck1,e3,Fx.isNon]
  | some p =>
    obtain ⟨j,pj,rfl⟩ := r3
    have hj := pj.2
    show _ = R.ok (if p.2.length = ct.2.2.length then Fx.T.str p.1 else Fx.T.non) Z3
    have hjc : ((j : Int) = ((qch dq :: u).length : Int) + 1) = (p.2.length = ct.2.2.length) := by
      rw [hlen,eq_iff_iff]; omega
    rw [List.nil_append] at e3
    generalize qch dq :: u = T at *
    generalize qst dq = SS at *
    generalize ct.1 = CC at *
    generalize (T.length : Int) = TL at *
    by_cases hc : p.2.length = ct.2.2.length
    · have hjc2 : (j : Int) = TL + 1 := by rw [hjc]; exact hc
      rw [if_pos hc]
      simp [-Nm,-Zb4,Zbh,Zcd,Y4,runF,Ub,pB,en,et,hT,tKdIn,hh,eKdI,hqd,hst,hpl,hmk2,ck1,e3,Fx.isNon,hlenT,← hjc2]
    · have hjc2 : ¬ (j : Int) = TL + 1 := by rw [hjc]; exact hc
      rw [if_neg hc]
      simp [-Nm,-Zb4,Zbh,Zcd,Y4,runF,Ub,pB,en,et,hT,tKdIn,hh,eKdI,hqd,hst,hpl,hmk2,ck1,e3,Fx.isNon,hlenT,hjc2]
theorem Zbl (hct : ct ∈ cts) {x : Nat} {u : List Nat} (hn : n ≤ 100) (hok : (x :: u).all okC = true) (hl : u.length ≤ 19000) (hx : x ≠ qch dq) :
    ∃ Z', Y4 [.str (x :: u), .str (qst dq), .str ct.1, .int (n : Int), .int 1] Z = .ok .non Z' ∧ Ext Z Z' := by
  obtain ⟨Y,et⟩ := Zbj (t := x :: u) (by rw [List.length_cons]; unfold Lim; omega) hok Z
  obtain ⟨Z1,hZ1⟩ : ∃ Z1,Z1 = Z ++ Y := ⟨_,rfl⟩
  rw [← hZ1] at et
  have x1 : Ext Z Z1 := by rw [hZ1]; exact (Ext.refl Z).app _
  have en := Zbk (i := (n : Int)) (d := 1) (by omega) (by omega) (by omega) (by omega) (by omega) Z
  have hh : kdHas Z78 (.str (qst dq)) = some false := by cases dq <;> rfl
  have hqd : kdT Z6k (.str (qst dq)) = some (.str [qch dq]) := by cases dq <;> rfl
  have hpf : [qch dq].isPrefixOf (x :: u) = false := by
    show (qch dq == x && ([] : List Nat).isPrefixOf u) = false
    rw [beq_eq_false_iff_ne.mpr (Ne.symm hx)]; rfl
  have hst : gStarts (.str (x :: u)) [.str [qch dq]] Z1 = some (.bl false,Z1) := by simp [gStarts,hpf]
  have pB := Zfq dq hct Z
  have hT : (x :: u) ≠ [] := by simp
  refine ⟨Z1,?_,x1⟩
  generalize x :: u = T at *
  generalize qst dq = SS at *
  generalize ct.1 = CC at *
  simp [Y4,runF,Ub,pB,en,et,hT,tKdIn,hh,eKdI,hqd,hst]
end
end Ap
set_option maxHeartbeats 8000000
namespace Ap
open PySem PySem.Spec PyProof.Rows L2 SX Fx
theorem pre_app (a b : List Nat) (res : Option (List Nat × List Nat)) : pre (a ++ b) res = pre a (pre b res) := by
  cases res <;> simp [pre]
theorem pre_nil (res : Option (List Nat × List Nat)) : pre [] res = res := by
  cases res <;> simp [pre]
def T1 (q n : Nat) (line : Bool) (t v : List Nat) : Prop := ∀ rest res,QR q n line rest res → QR q n line (t ++ rest) (pre v res)
section
variable {q n : Nat} {line : Bool}
theorem T1.nil : T1 q n line [] [] := fun rest res h => by rw [pre_nil]; exact h
theorem T1.app {a b c d : List Nat} (h1 : T1 q n line a b) (h2 : T1 q n line c d) : T1 q n line (a ++ c) (b ++ d) := fun rest res h => by
  rw [List.append_assoc,pre_app]
  exact h1 _ _ (h2 _ _ h)
theorem T1.sign {x : Nat} (h1 : x ≠ q) (h2 : x = 92 → q ≠ 34) (h3 : isW x = false) (h4 : x ≠ 10) {t v : List Nat} (h : T1 q n line t v) : T1 q n line (x :: t) (x :: v) := fun rest res hr => by
  have := QR.sign x (t ++ rest) (pre v res) h1 h2 h3 h4 (h rest res hr)
  rw [← pre_app] at this
  exact this
theorem T1.two (h1 : q ≠ 34) {t v : List Nat} (h : T1 q n line t v) : T1 q n line (q :: q :: t) (q :: v) := fun rest res hr => by
  have := QR.two (t ++ rest) (pre v res) h1 (h rest res hr)
  rw [← pre_app] at this
  exact this
theorem T1.esc {e x : Nat} (h1 : q = 34) (h2 : escT e = some x) {t v : List Nat} (h : T1 q n line t v) : T1 q n line (92 :: e :: t) (x :: v) := fun rest res hr => by
  have := QR.esc e x (t ++ rest) (pre v res) h1 h2 (h rest res hr)
  rw [← pre_app] at this
  exact this
theorem white1 (hq : q = 34 ∨ q = 39) {x : Nat} {r : List Nat} {res : Option (List Nat × List Nat)} (hx : isW x = true) (hd : (r.drop (wl r)).head? ≠ some 10) (h : QR q n line r res) : QR q n line (x :: r) (pre [x] res) := by
  cases r with
  | nil => exact .white [x] [] res (by simp) (fun c hc => by rw [List.mem_singleton.mp hc]; exact hx) (fun y hy => by cases hy) h
  | cons y r =>
    by_cases hy : isW y = true
    · have hqw := qnw hq
      generalize hu : y :: r = u at h
      cases h with
      | nil => cases hu
      | close r0 _ => cases hu; rw [hqw.1] at hy; cases hy
      | two r0 res _ _ => cases hu; rw [hqw.1] at hy; cases hy
      | feedL u r0 h1 _ => subst hu; rw [h1] at hd; exact absurd rfl hd
      | feedN u r0 h1 _ _ => subst hu; rw [h1] at hd; exact absurd rfl hd
      | feed u r0 r' c res h1 _ _ _ => subst hu; rw [h1] at hd; exact absurd rfl hd
      | white w r0 res0 h1 h2 h3 h4 =>
        rw [← pre_app]
        exact .white (x :: w) r0 res0 (by simp) (fun c hc => by
          rcases List.mem_cons.mp hc with rfl | hc
          · exact hx
          · exact h2 c hc) h3 h4
      | esc e v r0 res _ _ _ => cases hu; cases hy
      | escF r0 r' c res _ _ _ _ => cases hu; cases hy
      | escFN r0 _ _ _ => cases hu; cases hy
      | escN r0 _ _ => cases hu; cases hy
      | sign x0 r0 res _ _ h3 _ _ => cases hu; rw [h3] at hy; cases hy
    · have hy' : isW y = false := by simpa using hy
      refine .white [x] (y :: r) res (by simp) (fun c hc => by rw [List.mem_singleton.mp hc]; exact hx) (fun z hz => ?_) h
      cases hz
      refine ⟨hy', fun e => ?_⟩
      rw [Qe hy'] at hd
      exact hd (by rw [e]; rfl)
theorem Zce (hq : q = 34 ∨ q = 39) : ∀ {w r : List Nat} {res : Option (List Nat × List Nat)},(∀ c ∈ w,isW c = true) → (r.drop (wl r)).head? ≠ some 10 → QR q n line r res → QR q n line (w ++ r) (pre w res)
  | [],r,res,_,_,h => by rw [pre_nil]; exact h
  | x :: w,r,res,hw,hd,h => by
    have ih := Zce hq (w := w) (fun c hc => hw c (by simp [hc])) hd h
    have := white1 hq (hw x (by simp)) (r := w ++ r) (wl_skip w r (fun c hc => hw c (by simp [hc])) hd) ih
    rw [← pre_app] at this
    exact this
where
  wl_skip : ∀ (w r : List Nat),(∀ c ∈ w,isW c = true) → (r.drop (wl r)).head? ≠ some 10 → ((w ++ r).drop (wl (w ++ r))).head? ≠ some 10
    | [],r,_,h => h
    | x :: w,r,hw,h => by
      have : wl (x :: w ++ r) = wl (w ++ r) + 1 := by simp [wl,hw x (by simp)]
      rw [this]
      exact wl_skip w r (fun c hc => hw c (by simp [hc])) h
end
def wordsC : List (List Nat × List Nat) := [([97],[97]),([98,99],[98,99]),([100,32,101],[100,32,101]),([35],[35]),([58],[58]),([45,45,45,120],[45,45,45,120]),([123,44],[123,44])]
def words1 : List (List Nat × List Nat) := wordsC ++ [([39,39],[39]),([34],[34]),([92,110],[92,110]),([39,39,39,39],[39,39])]
def words2 : List (List Nat × List Nat) := wordsC ++ [([92,34],[34]),([92,92],[92]),([92,110],[10]),([92,116],[9]),([92,32],[32])] ++ [([39],[39]),([92,47],[47]),([92,9],[9])]
def words (dq : Bool) : List (List Nat × List Nat) := if dq = true then words2 else words1
theorem sg {q n : Nat} {line : Bool} (x : Nat) {t v : List Nat} (h1 : (decide (x ≠ q) && !isW x && decide (x ≠ 10) && (decide (x ≠ 92) || decide (q ≠ 34))) = true) (h : T1 q n line t v) : T1 q n line (x :: t) (x :: v) := by
  simp only [Bool.and_eq_true, Bool.or_eq_true, decide_eq_true_eq, Bool.not_eq_true', ne_eq] at h1
  obtain ⟨⟨⟨a,b⟩,c⟩,d⟩ := h1
  exact h.sign a (fun e => d.resolve_left fun f => f e) b c
theorem Zio {q n : Nat} {line : Bool} (hq : q = 34 ∨ q = 39) : T1 q n line [100,32,101] [100,32,101] := by
  have h1 : T1 q n line [101] [101] := by rcases hq with rfl | rfl <;> exact sg 101 (by decide) .nil
  have h2 : T1 q n line [32,101] [32,101] := fun rest res hr => by
    have := white1 hq (x := 32) (r := [101] ++ rest) rfl (by rw [List.singleton_append,Qe (by decide)]; simp) (h1 rest res hr)
    rw [← pre_app] at this
    exact this
  rcases hq with rfl | rfl <;> exact sg 100 (by decide) h2
theorem Zfs (dq : Bool) {n : Nat} {line : Bool} : ∀ w ∈ words dq,T1 (qch dq) n line w.1 w.2 := by
  intro w hw
  have de := Zio (n := n) (line := line) (Z7n dq)
  cases dq with
  | false =>
    simp only [words,words1,wordsC,List.cons_append,List.nil_append,List.mem_cons,List.not_mem_nil,or_false,if_false,Bool.false_eq_true] at hw
    rcases hw with rfl | rfl | rfl | rfl | rfl | rfl | rfl | rfl | rfl | rfl | rfl
    · exact sg _ (by decide) .nil
    · exact sg _ (by decide) (sg _ (by decide) .nil)
    · exact de
    · exact sg _ (by decide) .nil
    · exact sg _ (by decide) .nil
    · exact sg _ (by decide) (sg _ (by decide) (sg _ (by decide) (sg _ (by decide) .nil)))
    · exact sg _ (by decide) (sg _ (by decide) .nil)
    · exact T1.two (q := 39) (by decide) .nil
    · exact sg _ (by decide) .nil
    · exact sg _ (by decide) (sg _ (by decide) .nil)
    · exact T1.two (q := 39) (by decide) (T1.two (q := 39) (by decide) .nil)
  | true =>
    simp only [words,words2,wordsC,List.cons_append,List.nil_append,List.mem_cons,List.not_mem_nil,or_false,if_true] at hw
    rcases hw with rfl | rfl | rfl | rfl | rfl | rfl | rfl | rfl | rfl | rfl | rfl | rfl | rfl | rfl | rfl
    · exact sg _ (by decide) .nil
    · exact sg _ (by decide) (sg _ (by decide) .nil)
    · exact de
    · exact sg _ (by decide) .nil
    · exact sg _ (by decide) .nil
    · exact sg _ (by decide) (sg _ (by decide) (sg _ (by decide) (sg _ (by decide) .nil)))
    · exact sg _ (by decide) (sg _ (by decide) .nil)
    · exact T1.esc rfl rfl .nil
    · exact T1.esc rfl rfl .nil
    · exact T1.esc rfl rfl .nil
    · exact T1.esc rfl rfl .nil
    · exact T1.esc rfl rfl .nil
    · exact sg _ (by decide) .nil
    · exact T1.esc rfl rfl .nil
    · exact T1.esc rfl rfl .nil
theorem Zcf {x : Nat} (r : List Nat) (h1 : x ≠ 45) (h2 : x ≠ 46) : isMk (x :: r) = false := by simp [isMk,h1,h2]
def firstOk (u : List Nat) : Prop := ∃ x r,u = x :: r ∧ isW x = false ∧ x ≠ 10 ∧ isMk u = false
theorem Z0w {x : Nat} (r : List Nat) (h : (decide (x ≠ 45) && decide (x ≠ 46) && !isW x && decide (x ≠ 10)) = true) : firstOk (x :: r) := by
  simp only [Bool.and_eq_true, decide_eq_true_eq, Bool.not_eq_true', ne_eq] at h
  obtain ⟨⟨⟨a,b⟩,c⟩,d⟩ := h
  exact ⟨x,r,rfl,c,d,Zcf r a b⟩
theorem Zdy (dq : Bool) : ∀ w ∈ words dq,∀ rest,firstOk (w.1 ++ rest) := by
  intro w hw rest
  have hd : firstOk ([45,45,45,120] ++ rest) := ⟨45,_,rfl,rfl,by decide,by simp [isMk]⟩
  cases dq with
  | false =>
    simp only [words,words1,wordsC,List.cons_append,List.nil_append,List.mem_cons,List.not_mem_nil,or_false,if_false,Bool.false_eq_true] at hw
    rcases hw with rfl | rfl | rfl | rfl | rfl | rfl | rfl | rfl | rfl | rfl | rfl <;> first | exact hd | exact Z0w _ (by decide)
  | true =>
    simp only [words,words2,wordsC,List.cons_append,List.nil_append,List.mem_cons,List.not_mem_nil,or_false,if_true] at hw
    rcases hw with rfl | rfl | rfl | rfl | rfl | rfl | rfl | rfl | rfl | rfl | rfl | rfl | rfl | rfl | rfl <;> first | exact hd | exact Z0w _ (by decide)
def LineOk (n : Nat) (x : List Nat) : Prop := (∃ k,k < n ∧ x = List.replicate k 32) ∨ ∃ w,(∀ c ∈ w,isW c = true) ∧ x = List.replicate n 32 ++ w
theorem Zbm : ∀ (k : Nat) (r : List Nat),bl (List.replicate k 32 ++ r) = k + bl r
  | 0,r => by simp
  | k + 1,r => by
    rw [List.replicate_succ,List.cons_append]
    show (if 32 = 32 then bl (List.replicate k 32 ++ r) + 1 else 0) = _
    rw [if_pos rfl,Zbm k r]; omega
theorem Z6o (k : Nat) (r : List Nat) : (List.replicate k 32 ++ r).drop k = r := by
  have := List.drop_left (l₁ := List.replicate k 32) (l₂ := r)
  rwa [List.length_replicate] at this
theorem Zft {n : Nat} {x r : List Nat} {res : Option (List Nat × Nat)} (h : LineOk n x) (hr : QF n r res) : QF n (x ++ 10 :: r) (upC res) := by
  rcases h with ⟨k,hk,rfl⟩ | ⟨w,hw,rfl⟩
  · have hb : bl (List.replicate k 32 ++ 10 :: r) = k := by rw [Zbm]; rfl
    exact .empB _ r res (by rw [hb]; exact hk) (by rw [hb,Z6o]) hr
  · rw [List.append_assoc]
    have hd := Z6o n (w ++ 10 :: r)
    have hw2 := Zbi w (10 :: r) hw (fun x hx => by cases hx; rfl)
    refine .empW _ r res (by rw [Zbm]; omega) ?_ hr
    rw [hd,hw2,← List.drop_drop,hd,List.drop_left]
theorem Zh0 {n : Nat} {tail rest : List Nat} (ht : ∀ c ∈ tail,isW c = true) (hf : firstOk rest) : QF n (List.replicate n 32 ++ (tail ++ rest)) (some (rest,0)) := by
  obtain ⟨x,r,hx,h1,h2,h3⟩ := hf
  have hd := Z6o n (tail ++ rest)
  have hw := Zbi tail rest ht (fun y hy => by rw [hx] at hy; cases hy; exact h1)
  have hdd : (List.replicate n 32 ++ (tail ++ rest)).drop (n + wl ((List.replicate n 32 ++ (tail ++ rest)).drop n)) = rest := by
    rw [hd,hw,← List.drop_drop,hd,List.drop_left]
  have hm : isMk (List.replicate n 32 ++ (tail ++ rest)) = false := by
    cases n with
    | succ n => rw [List.replicate_succ]; exact Zcf _ (by decide) (by decide)
    | zero =>
      rw [List.replicate_zero,List.nil_append]
      cases tail with
      | nil => exact h3
      | cons c t =>
        have hc := ht c (by simp)
        refine Zcf _ (fun e => ?_) (fun e => ?_) <;> (rw [e] at hc; cases hc)
  have := QF.stop (n := n) (List.replicate n 32 ++ (tail ++ rest)) (by rw [Zbm]; omega) (by rw [hdd,hx]; simpa using h2)
  rw [hm,hdd] at this
  exact this
theorem fold_all {n : Nat} {tail rest : List Nat} (ht : ∀ c ∈ tail,isW c = true) (hf : firstOk rest) : ∀ xs : List (List Nat),(∀ x ∈ xs,LineOk n x) → QF n (xs.flatMap (fun x => x ++ [10]) ++ (List.replicate n 32 ++ (tail ++ rest))) (some (rest,xs.length))
  | [],_ => Zh0 ht hf
  | x :: xs,h => by
    have ih := fold_all ht hf xs fun y hy => h y (by simp [hy])
    have := Zft (h x (by simp)) ih
    rw [List.flatMap_cons,List.append_assoc,List.append_assoc]
    exact this
section
variable {q n : Nat} {line : Bool}
theorem Zk6 (hq : q = 34 ∨ q = 39) {ws tail rest : List Nat} {xs : List (List Nat)} {res : Option (List Nat × List Nat)} (hw : ∀ c ∈ ws,isW c = true) (ht : ∀ c ∈ tail,isW c = true) (hf : firstOk rest) (hx : ∀ x ∈ xs,LineOk n x) (h : QR q n line rest res) :
    QR q n line (ws ++ 10 :: (xs.flatMap (fun x => x ++ [10]) ++ (List.replicate n 32 ++ (tail ++ rest)))) (if line = true then none else pre (sep xs.length) res) := by
  have fa := fold_all ht hf xs hx
  have hd := Zbi ws (10 :: (xs.flatMap (fun x => x ++ [10]) ++ (List.replicate n 32 ++ (tail ++ rest)))) hw (fun y hy => by cases hy; rfl)
  generalize xs.flatMap (fun x => x ++ [10]) ++ (List.replicate n 32 ++ (tail ++ rest)) = B at *
  have hd2 : (ws ++ 10 :: B).drop (wl (ws ++ 10 :: B)) = 10 :: B := by rw [hd,List.drop_left]
  cases hl : line with
  | true => exact .feedL _ _ hd2 rfl
  | false => rw [hl] at h; exact .feed _ _ _ _ _ hd2 rfl fa h
theorem Ziq {tail rest : List Nat} {xs : List (List Nat)} {res : Option (List Nat × List Nat)} (ht : ∀ c ∈ tail,isW c = true) (hf : firstOk rest) (hx : ∀ x ∈ xs,LineOk n x) (h : QR 34 n line rest res) :
    QR 34 n line (92 :: 10 :: (xs.flatMap (fun x => x ++ [10]) ++ (List.replicate n 32 ++ (tail ++ rest)))) (if line = true then none else pre (List.replicate xs.length 10) res) := by
  have fa := fold_all ht hf xs hx
  generalize xs.flatMap (fun x => x ++ [10]) ++ (List.replicate n 32 ++ (tail ++ rest)) = B at *
  cases hl : line with
  | true => exact .escN _ rfl (fun e he => by cases he; exact ⟨rfl,fun _ => rfl⟩)
  | false => rw [hl] at h; exact .escF _ _ _ _ rfl rfl fa h
end
end Ap
set_option maxHeartbeats 4000000
namespace Ap
open PySem PySem.Spec PyProof.Rows L2 SX Fx
def Wd (Z : Sto) (w : Nat) : Prop := (∃ a : Int,getL Z w = some [.int a]) ∨ ∃ a b c : Int,getL Z w = some [.int a,.int b,.int c]
structure Kd (w : Nat) (Z Z' : Sto) : Prop where
  wel : Wd Z' w
  len : Z.length ≤ Z'.length
  keep : ∀ i, i < Z.length → i ≠ w → Z'[i]? = Z[i]?
theorem Kd.trans {w : Nat} {Z Z1 Z2 : Sto} (a : Kd w Z Z1) (b : Kd w Z1 Z2) : Kd w Z Z2 :=
  ⟨b.wel,Nat.le_trans a.len b.len,fun i hi hn => (b.keep i (Nat.lt_of_lt_of_le hi a.len) hn).trans (a.keep i hi hn)⟩
theorem Kd.new {w : Nat} {Z Y : Sto} (h : Wd Z w) : Kd w Z (Z ++ Y) := by
  refine ⟨?_,by rw [List.length_append]; omega,fun i hi _ => List.getElem?_append_left hi⟩
  rcases h with ⟨a,e⟩ | ⟨a,b,c,e⟩
  · exact .inl ⟨a,Np e⟩
  · exact .inr ⟨a,b,c,Np e⟩
theorem Kd.getL {w i : Nat} {Z Z' : Sto} {ts : List Fx.T} (k : Kd w Z Z') (hn : i ≠ w) (h : getL Z i = some ts) : getL Z' i = some ts := by
  rw [Z2l] at h ⊢
  rw [k.keep i (List.getElem?_eq_some_iff.mp h).1 hn]; exact h
theorem Kd.getDK {w i : Nat} {Z Z' : Sto} {ts : List (Key × Fx.T)} (k : Kd w Z Z') (hn : i ≠ w) (h : getDK Z i = some ts) : getDK Z' i = some ts := by
  unfold Fx.getDK at h ⊢
  cases e : Z[i]? with
  | none => rw [e] at h; cases h
  | some o => rw [k.keep i (List.getElem?_eq_some_iff.mp e).1 hn,e]; rw [e] at h; exact h
theorem Zd4 {Z : Sto} {w : Nat} {a b c : Int} (hw : getL Z w = some [.int a,.int b,.int c]) (n : Nat) (h0 : 0 < n) (h1 : n < 2 ^ 200) (o2 o3 : Option Fx.T) :
    ∃ (r : Nat) (a' b' c' : Int), r < n ∧ Ux [some (.loc w), some (.int n), o2, o3] Z = .rt (.int r) (Z.set w (.lst [.int a', .int b', .int c'])) := by
  have hn : (0 : Int) < (n : Int) := by omega
  have hn2 : ((n : Int) < 1606938044258990275541962092341162602522202993782792835301376) := by omega
  by_cases ha : (0 : Int) < a
  · obtain ⟨r,hr,e⟩ := modN a h0
    refine ⟨r,a / n,b,c,hr,?_⟩
    simp [Ux,Z0m _ hw,Zcw _ _ hw,hw,ha,h0,h1,hn2,e,ixN]
  · have e1 := Z19 (us := [.int a,.int b,.int (c + 1)]) hw
    generalize hx : ((b + 7919 * (c + 1) + 1) * 48271 : Int) % 2147483647 = x
    generalize hy : (x * (x / 1009 + 69621) : Int) % 2147483647 = y
    have mx : ∀ z,mulOk x z = true := fun z => hx ▸ Z8u _ _ _ (by decide) (by decide)
    have my : ∀ z,mulOk y z = true := fun z => hy ▸ Z8u _ _ _ (by decide) (by decide)
    obtain ⟨r,hr,e⟩ := modN (y * (y / 2003 + 40692) % 2147483399) h0
    refine ⟨r,a,b,c + 1,hr,?_⟩
    simp [Ux,Z3b,Z3a,Z39,Z38,Z0m _ hw,Zcw _ _ hw,Z0m _ e1,hw,ha,h0,h1,hn2,e,e1,hx,hy,mx,my,ixN]
theorem Z7o {Z : Sto} {w : Nat} (hw : Wd Z w) (n : Nat) (h0 : 0 < n) (h1 : n < 2 ^ 200) :
    ∃ (r : Nat) (Z' : Sto), r < n ∧ Ye [.loc w, .int n] Z = .ok (.int r) Z' ∧ Kd w Z Z' := by
  rcases hw with ⟨a,hw⟩ | ⟨a,b,c,hw⟩
  · have hlt := Z75 hw
    have hne : Z.length ≠ w := by omega
    have e0 : getL (Z ++ [.lst [.int (a % 2147483647),.int 0]]) w = some [.int a] := Np hw
    have e00 : getL (Z ++ [.lst [.int (a % 2147483647),.int 0]]) Z.length = some [.int (a % 2147483647),.int 0] := by simp
    generalize hZ1 : Z ++ [O.lst [.int (a % 2147483647),.int 0]] = Z1 at e0 e00
    have e1 : getL (Z1.set w (.lst [.int a,.int (a % 2147483647),.int 0])) w = some [.int a,.int (a % 2147483647),.int 0] := Z19 e0
    generalize hZ2 : Z1.set w (.lst [.int a,.int (a % 2147483647),.int 0]) = Z2 at e1
    have e2 : getL (Z2 ++ [.lst [.int 0,.int a]]) w = some [.int a,.int (a % 2147483647),.int 0] := Np e1
    have e3 : ∃ q : Int,(if (1000000000000000000 : Int) ≤ a then a else 0) = q := ⟨_,rfl⟩
    obtain ⟨q,hq⟩ := e3
    have e4 := Z19 (us := [.int q,.int (a % 2147483647),.int 0]) e2
    obtain ⟨r, a', b', c', hr, ed⟩ := Zd4 e4 n h0 h1 none none
    have e22 : getL (Z2 ++ [O.lst [.int 0,.int a]]) Z2.length = some [.int 0,.int a] := by simp
    refine ⟨r, ((Z2 ++ [O.lst [.int 0, .int a]]).set w (.lst [.int q, .int (a % 2147483647), .int 0])).set w (.lst [.int a', .int b', .int c']), hr, ?_, ?_⟩
    · have e5 : isTy "list" (.loc w) Z = true := by
        have := Ve hw
        simp [isTy,this]
      by_cases hb : (1000000000000000000 : Int) ≤ a
      · rw [if_pos hb] at hq; subst hq
        simp [Ye,runF,Nq,hw,Z0m _ hw,e5,hZ1,e0,e00,hZ2,Z0m _ e1,e1,hb,Zcw _ _ e2,ixN,gExtend,ed,Z0m _ e2,Z0m _ e22]
      · rw [if_neg hb] at hq; subst hq
        simp [Ye,runF,Nq,hw,Z0m _ hw,e5,hZ1,e0,e00,hZ2,Z0m _ e1,e1,hb,Zcw _ _ e2,ixN,gExtend,ed,Z0m _ e2,Z0m _ e22]
    · refine ⟨.inr ⟨a', b', c', Z19 e4⟩, by subst hZ2 hZ1; simp; omega, fun i hi hn => ?_⟩
      subst hZ2 hZ1
      rw [List.getElem?_set_ne (Ne.symm hn),List.getElem?_set_ne (Ne.symm hn),List.getElem?_append_left (by simp; omega),List.getElem?_set_ne (Ne.symm hn),List.getElem?_append_left hi]
  · obtain ⟨r, a', b', c', hr, ed⟩ := Zd4 hw n h0 h1 none none
    refine ⟨r, _, hr, ?_, ⟨.inr ⟨a', b', c', Z19 hw⟩, by rw [List.length_set]; omega, fun i _ hn => List.getElem?_set_ne (Ne.symm hn)⟩⟩
    simp [Ye,runF,Nq,hw,ed]
theorem Z69 {Z : Sto} {w l : Nat} {ts : List Fx.T} (hw : Wd Z w) (hl : getL Z l = some ts) (hn : l ≠ w) (h0 : 0 < ts.length) (h1 : ts.length ≤ Lim) :
    ∃ (t : Fx.T) (Z' : Sto), t ∈ ts ∧ Yl [.loc w, .loc l] Z = .ok t Z' ∧ Kd w Z Z' := by
  obtain ⟨r, Z', hr, e, k⟩ := Z7o hw ts.length h0 (Nat.lt_of_le_of_lt h1 (by decide))
  have hl' := k.getL hn hl
  refine ⟨ts[r], Z', List.getElem_mem hr, ?_, k⟩
  have e2 := Fx.atI_nat (l := ts) (k := r) (a := ts[r]) (List.getElem?_eq_getElem hr)
  simp [Yl, runF, Z8w, hl, e, Z0m _ hl', e2]
end Ap
set_option maxHeartbeats 8000000
namespace Ap
open PySem PySem.Spec PyProof.Rows L2 SX Fx
theorem Zd5 {it : ItF} {m : Nat} {u : Nat → Fx.T} {body : Fx.T → FS} {ρ : Fx.Env} {Z : Sto} (I : Nat → Fx.Env → Sto → Prop) (hl : m ≤ Lim) (hit : ∀ k ρ Z, I k ρ Z → k ≤ m → it k Z = some (if k < m then some (u k) else none)) (h0 : I 0 ρ Z) (h : ∀ k < m, ∀ ρ Z, I k ρ Z → ∃ ρ' Z', body (u k) ρ Z = .nx ρ' Z' ∧ I (k + 1) ρ' Z') :
    ∃ ρ' Z', loopN it body Fuel 0 ρ Z = .nx ρ' Z' ∧ I m ρ' Z' := by
  have key : ∀ n k ρ Z, I k ρ Z → k ≤ m → m < n + k → ∃ ρ' Z', loopN it body n k ρ Z = .nx ρ' Z' ∧ I m ρ' Z' := by
    intro n
    induction n with
    | zero => intro k ρ Z _ h1 h2; omega
    | succ n ih =>
      intro k ρ Z hi h1 h2
      by_cases hk : k < m
      · obtain ⟨ρ', Z', e, hi'⟩ := h k hk ρ Z hi
        obtain ⟨ρ2, Z2, e2, hi2⟩ := ih (k + 1) ρ' Z' hi' (by omega) (by omega)
        refine ⟨ρ2,Z2,?_,hi2⟩
        rw [← e2]
        conv => lhs; unfold loopN
        rw [hit k ρ Z hi h1,if_pos hk]
        simp only [e,Zbw]
      · have : k = m := by omega
        subst this
        refine ⟨ρ,Z,?_,hi⟩
        unfold loopN
        rw [hit k ρ Z hi h1,if_neg hk]
  exact key Fuel 0 ρ Z h0 (Nat.zero_le _) (by rw [Z59]; omega)
theorem Zbn {m : Nat} {body : Fx.T → FS} {ρ : Fx.Env} {Z : Sto} (I : Nat → Fx.Env → Sto → Prop) (hl : m ≤ Lim) (h0 : I 0 ρ Z) (h : ∀ k < m, ∀ ρ Z, I k ρ Z → ∃ ρ' Z', body (.int (k : Int)) ρ Z = .nx ρ' Z' ∧ I (k + 1) ρ' Z') :
    ∃ ρ' Z', loopN (itRng 0 m) body Fuel 0 ρ Z = .nx ρ' Z' ∧ I m ρ' Z' :=
  Zd5 (u := fun k => .int (k : Int)) I hl (fun k ρ Z _ hk => by
    simp only [itRng]
    by_cases h : k < m
    · rw [if_pos h,if_pos h,Int.zero_add]
    · rw [if_neg h,if_neg h]) h0 h
theorem Wd.lt {Z : Sto} {w : Nat} (h : Wd Z w) : w < Z.length := by
  rcases h with ⟨_,h⟩ | ⟨_,_,_,h⟩ <;> exact Z75 h
theorem Z56 {w : Nat} {Z Z1 Z2 : Sto} (k : Kd w Z Z1) (x : Ext Z1 Z2) : Kd w Z Z2 := by
  obtain ⟨Y,rfl⟩ := x
  exact k.trans (Kd.new k.wel)
theorem Z0h {w : Nat} {Z : Sto} (h : Wd Z w) : Kd w Z Z := ⟨h,Nat.le_refl _,fun _ _ _ => rfl⟩
theorem Z1j {Z : Sto} {w : Nat} (hw : Wd Z w) (ts : List Fx.T) (h0 : 0 < ts.length) (h1 : ts.length ≤ Lim) : ∃ t Z', t ∈ ts ∧ Yl [.loc w, .loc Z.length] (Z ++ [.lst ts]) = .ok t Z' ∧ Kd w Z Z' := by
  have hlt := hw.lt
  have k0 := Z56 (Z0h hw) ((Ext.refl Z).app [.lst ts])
  obtain ⟨t, Z', ht, e, k⟩ := Z69 (l := Z.length) k0.wel (Yv _ _) (by omega) h0 h1
  exact ⟨t, Z', ht, e, k0.trans k⟩
def wt (w : List Nat × List Nat) : Fx.T := .tup [.str w.1,.str w.2]
theorem Zhm {Z : Sto} {w : Nat} (hw : Wd Z w) (dq : Bool) : ∃ x Z', x ∈ words dq ∧ Wl [.loc w, .str [qch dq]] Z = .ok (wt x) Z' ∧ Kd w Z Z' := by
  have hlt := hw.lt
  obtain ⟨Z1,hZ1⟩ : ∃ Z1,Z1 = Z ++ [O.lst (wordsC.map wt)] := ⟨_,rfl⟩
  have x1 : Ext Z Z1 := by rw [hZ1]; exact (Ext.refl _).app _
  have l1 : Z1.length = Z.length + 1 := by rw [hZ1]; simp
  have g1 : getL Z1 Z.length = some (wordsC.map wt) := by rw [hZ1]; exact Yv _ _
  cases dq with
  | false =>
    obtain ⟨S4,hS4⟩ : ∃ S4,S4 = [wt ([39,39],[39]),wt ([34],[34]),wt ([92,110],[92,110]),wt ([39,39,39,39],[39,39])] := ⟨_,rfl⟩
    obtain ⟨Z2,hZ2⟩ : ∃ Z2,Z2 = Z1 ++ [O.lst S4] := ⟨_,rfl⟩
    have x2 : Ext Z1 Z2 := by rw [hZ2]; exact (Ext.refl _).app _
    have ad := Z5l Z.length Z1.length Z2 (x2.getL g1) (by rw [hZ2]; exact Yv _ _) (by rw [hS4]; simp [wordsC,Lim])
    obtain ⟨t,Z3,ht,e3,k3⟩ := Z1j (Z56 (Z0h hw) (x1.trans x2)).wel (wordsC.map wt ++ S4) (by rw [hS4]; simp [wordsC]) (by rw [hS4]; simp [wordsC,Lim])
    have hwm : wordsC.map wt ++ S4 = (words false).map wt := by rw [hS4]; rfl
    rw [hwm] at ht
    obtain ⟨x,hx,rfl⟩ := List.mem_map.mp ht
    refine ⟨x,Z3,hx,?_,(Z56 (Z0h hw) (x1.trans x2)).trans k3⟩
    simp only [hS4,wt] at hZ2
    simp only [wordsC,List.map_cons,List.map_nil,wt] at hZ1
    generalize wordsC.map wt ++ S4 = WS at *
    generalize wt x = X at *
    simp [-Z74,Wl,runF,Z3w,qch,← hZ1,← hZ2,ad,e3]
  | true =>
    obtain ⟨S5,hS5⟩ : ∃ S5,S5 = [wt ([92,34],[34]),wt ([92,92],[92]),wt ([92,110],[10]),wt ([92,116],[9]),wt ([92,32],[32])] := ⟨_,rfl⟩
    obtain ⟨Z2,hZ2⟩ : ∃ Z2,Z2 = Z1 ++ [O.lst S5] := ⟨_,rfl⟩
    have x2 : Ext Z1 Z2 := by rw [hZ2]; exact (Ext.refl _).app _
    have ad := Z5l Z.length Z1.length Z2 (x2.getL g1) (by rw [hZ2]; exact Yv _ _) (by rw [hS5]; simp [wordsC,Lim])
    obtain ⟨W5,hW5⟩ : ∃ W5,W5 = wordsC.map wt ++ S5 := ⟨_,rfl⟩
    rw [← hW5] at ad
    obtain ⟨Z3,hZ3⟩ : ∃ Z3,Z3 = Z2 ++ [O.lst W5] := ⟨_,rfl⟩
    rw [← hZ3] at ad
    have x3 : Ext Z2 Z3 := by rw [hZ3]; exact (Ext.refl _).app _
    obtain ⟨S3,hS3⟩ : ∃ S3,S3 = [wt ([39],[39]),wt ([92,47],[47]),wt ([92,9],[9])] := ⟨_,rfl⟩
    obtain ⟨Z4,hZ4⟩ : ∃ Z4,Z4 = Z3 ++ [O.lst S3] := ⟨_,rfl⟩
    have x4 : Ext Z3 Z4 := by rw [hZ4]; exact (Ext.refl _).app _
    have ad2 := Z5l Z2.length Z3.length Z4 (x4.getL (by rw [hZ3]; exact Yv _ _)) (by rw [hZ4]; exact Yv _ _) (by rw [hS3,hW5,hS5]; simp [wordsC,Lim])
    have k4 := Z56 (Z0h hw) (x1.trans (x2.trans (x3.trans x4)))
    obtain ⟨t,Z5,ht,e5,k5⟩ := Z1j k4.wel (W5 ++ S3) (by rw [hS3]; simp) (by rw [hS3,hW5,hS5]; simp [wordsC,Lim])
    have hwm : W5 ++ S3 = (words true).map wt := by rw [hS3,hW5,hS5]; rfl
    rw [hwm] at ht
    obtain ⟨x,hx,rfl⟩ := List.mem_map.mp ht
    refine ⟨x,Z5,hx,?_,k4.trans k5⟩
    simp only [hS5,wt] at hZ2
    simp only [hS3,wt] at hZ4
    simp only [wordsC,List.map_cons,List.map_nil,wt] at hZ1
    generalize W5 ++ S3 = WS at *
    generalize wt x = X at *
    simp [-Z74,Wl,runF,Z3w,qch,← hZ1,← hZ2,ad,← hZ4,ad2,e5]
theorem Z57 (dq : Bool) : ∀ x ∈ words dq,x.1.length ≤ 4 ∧ x.2.length ≤ 4 ∧ x.1.all okC = true := by cases dq <;> decide
theorem Zah (k : Nat) : (List.replicate k 32).all okC = true := by
  rw [List.all_eq_true]
  intro c hc
  rw [(List.mem_replicate.mp hc).2]; rfl
theorem Zfu (k : Nat) : ∀ c ∈ List.replicate k 32,isW c = true := fun c hc => by rw [(List.mem_replicate.mp hc).2]; rfl
structure Ln (n : Nat) (x : List Nat) : Prop where
  ok : LineOk n x
  ch : x.all okC = true
  len : x.length ≤ n + 3
theorem Zhn {n k : Nat} (h : k ≤ n + 3) : Ln n (List.replicate k 32) := by
  refine ⟨?_,Zah k,by rw [List.length_replicate]; exact h⟩
  by_cases hk : k < n
  · exact .inl ⟨k,hk,rfl⟩
  · refine .inr ⟨List.replicate (k - n) 32,Zfu _,?_⟩
    rw [List.replicate_append_replicate,show n + (k - n) = k by omega]
theorem Zd6 {n : Nat} {w : List Nat} (h : ∀ c ∈ w,isW c = true) (h2 : w.all okC = true) (h3 : w.length ≤ 3) : Ln n (List.replicate n 32 ++ w) :=
  ⟨.inr ⟨w,h,rfl⟩,by rw [List.all_append,Zah,h2]; rfl,by rw [List.length_append,List.length_replicate]; omega⟩
theorem Zai {n : Nat} : ∀ xs : List (List Nat),(∀ x ∈ xs,Ln n x) → (xs.flatMap (fun x => x ++ [10])).all okC = true ∧ (xs.flatMap (fun x => x ++ [10])).length ≤ xs.length * (n + 4)
  | [],_ => ⟨rfl,Nat.zero_le _⟩
  | x :: xs,h => by
    obtain ⟨a,b⟩ := Zai xs fun y hy => h y (by simp [hy])
    have c := h x (by simp)
    refine ⟨?_,?_⟩
    · rw [List.flatMap_cons,List.all_append,a,List.all_append,c.ch]; rfl
    · have h2 : (x :: xs).length * (n + 4) = xs.length * (n + 4) + (n + 4) := by rw [List.length_cons,Nat.succ_mul]
      have := c.len
      rw [h2,List.flatMap_cons,List.length_append,List.length_append,List.length_singleton]
      omega
structure Brk (n : Nat) (esc : Bool) (t v : List Nat) : Prop where
  ex : ∃ (ws tail : List Nat) (xs : List (List Nat)),(∀ c ∈ ws,isW c = true) ∧ (∀ c ∈ tail,isW c = true) ∧ (∀ x ∈ xs,LineOk n x) ∧ t = (if esc = true then [92,10] else ws ++ [10]) ++ (xs.flatMap (fun x => x ++ [10]) ++ (List.replicate n 32 ++ tail)) ∧ v = if esc = true then List.replicate xs.length 10 else sep xs.length
  ch : t.all okC = true
  len : t.length ≤ 60
  vlen : v.length ≤ 4
def wsL : List (List Nat) := [[],[],[32],[9],[32,9,32]]
def tlL : List (List Nat) := [[],[],[32],[9]]
theorem Zfv : ∀ x ∈ wsL,(∀ c ∈ x,isW c = true) ∧ x.all okC = true ∧ x.length ≤ 3 := by decide
theorem Zk7 : ∀ x ∈ tlL,(∀ c ∈ x,isW c = true) ∧ x.all okC = true ∧ x.length ≤ 1 := by decide
theorem Zir {Z : Sto} {w n : Nat} (hw : Wd Z w) (hn : n ≤ 5) (esc : Bool) : ∃ t v Z', Brk n esc t v ∧ Nu [.loc w, .int (n : Int), .bl esc] Z = .ok (.tup [.str t, .str v]) Z' ∧ Kd w Z Z' := by
  obtain ⟨t1,Z1,ht1,e1,k1⟩ := Z1j hw [.int 0,.int 0,.int 1,.int 2,.int 3] (by decide) (by decide)
  have hm : ∃ m : Nat,m ≤ 3 ∧ t1 = .int (m : Int) := by
    simp at ht1
    rcases ht1 with rfl | rfl | rfl | rfl
    · exact ⟨0,by decide,rfl⟩
    · exact ⟨1,by decide,rfl⟩
    · exact ⟨2,by decide,rfl⟩
    · exact ⟨3,by decide,rfl⟩
  obtain ⟨m,hm,rfl⟩ := hm
  obtain ⟨ws,b,Z2,hws,hb,e2,k2⟩ : ∃ (ws b : List Nat) (Z2 : Sto),ws ∈ wsL ∧ b = (if esc = true then [92,10] else ws ++ [10]) ∧ sSet 4 (eIf (eTru (eVar 2)) (eC (.str [92,10])) (eBin gAdd (eCall Yl [] (aCons (eVar 0) (aCons (eLst (aCons (eC (.str [])) (aCons (eC (.str [])) (aCons (eC (.str [32])) (aCons (eC (.str [9])) (aCons (eC (.str [32,9,32])) aNil)))))) aNil))) (eC (.str [10])))) [some (.loc w),some (.int (n : Int)),some (.bl esc),some (.int (m : Int)),none,none,none,none] Z1 = .nx [some (.loc w),some (.int (n : Int)),some (.bl esc),some (.int (m : Int)),some (.str b),none,none,none] Z2 ∧ Kd w Z1 Z2 := by
    cases esc with
    | true => exact ⟨[],[92,10],Z1,by simp [wsL],rfl,by simp,Z0h k1.wel⟩
    | false =>
      obtain ⟨t2,Z2,ht2,e2,k2⟩ := Z1j k1.wel (wsL.map .str) (by decide) (by decide)
      obtain ⟨ws,hws,rfl⟩ := List.mem_map.mp ht2
      have := (Zfv ws hws).2.2
      have ad := Yd ws [10] Z2 (by simp; unfold Lim; omega)
      refine ⟨ws,ws ++ [10],Z2,hws,rfl,?_,k2⟩
      simp only [wsL,List.map_cons,List.map_nil] at e2
      generalize ws ++ [10] = WT at *
      simp [-Nm,e2,ad]
  have hb3 : b.length ≤ 4 := by
    rw [hb]
    have := (Zfv ws hws).2.2
    split
    · simp
    · simp; omega
  obtain ⟨ρ3, Z3, e3, o5, o6, xs, rfl, k3, hxl, hxs⟩ := Zbn (m := m) (body := fun t ρ' Z' => bS ρ' (gNm 5 t ρ' Z') Z0c) (ρ := [some (.loc w), some (.int (n : Int)), some (.bl esc), some (.int (m : Int)), some (.str b), none, none, none]) (Z := Z2)
    (fun k ρ Z' => ∃ (o5 o6 : Option Fx.T) (xs : List (List Nat)), ρ = [some (.loc w), some (.int (n : Int)), some (.bl esc), some (.int (m : Int)), some (.str (b ++ xs.flatMap (fun x => x ++ [10]))), o5, o6, none] ∧ Kd w Z2 Z' ∧ xs.length = k ∧ ∀ x ∈ xs, Ln n x) (by unfold Lim; omega)
    ⟨none,none,[],by rw [List.flatMap_nil,List.append_nil],Z0h k2.wel,rfl,fun x hx => by cases hx⟩
    (fun k hk ρ Z' hI => by
      obtain ⟨o5,o6,xs,rfl,kc,hxl,hxs⟩ := hI
      obtain ⟨r,Za,hr,ea,ka⟩ := Z7o kc.wel (n + 3) (by omega) (by
        have : (9 : Nat) < 2 ^ 200 := by decide
        omega)
      have hc3 : ((n + 3 : Nat) : Int) = (n : Int) + 3 := by omega
      rw [hc3] at ea
      have mr := Z44 32 r Za (by omega)
      have mn := fun Z => Z44 32 n Z (by omega)
      have an := fun Z => Yd (List.replicate n 32) [9] Z (by simp; unfold Lim; omega)
      have an2 := fun Z => Yd (List.replicate n 32) [32,9,32] Z (by simp; unfold Lim; omega)
      obtain ⟨t,Zb,ht,eb,kb⟩ := Z1j ka.wel [.str [],.str (List.replicate r 32),.str (List.replicate n 32 ++ [9]),.str (List.replicate n 32 ++ [32,9,32])] (by simp) (by simp [Lim])
      have hx : ∃ x,t = .str x ∧ Ln n x := by
        simp only [List.mem_cons,List.not_mem_nil,or_false] at ht
        rcases ht with rfl | rfl | rfl | rfl
        · exact ⟨_,rfl,Zhn (k := 0) (by omega)⟩
        · exact ⟨_,rfl,Zhn (by omega)⟩
        · exact ⟨_,rfl,Zd6 (by decide) (by decide) (by decide)⟩
        · exact ⟨_,rfl,Zd6 (by decide) (by decide) (by decide)⟩
      obtain ⟨x,rfl,hx⟩ := hx
      obtain ⟨_,fl⟩ := Zai xs hxs
      have fl2 : xs.length * (n + 4) ≤ 3 * 9 := Nat.mul_le_mul (by omega) (by omega)
      have hxlen := hx.len
      have a1 := Yd (b ++ xs.flatMap (fun x => x ++ [10])) x Zb (by rw [List.length_append]; unfold Lim; omega)
      have a2 := Yd (b ++ xs.flatMap (fun x => x ++ [10]) ++ x) [10] Zb (by rw [List.length_append,List.length_append,List.length_singleton]; unfold Lim; omega)
      have hcat : b ++ (xs ++ [x]).flatMap (fun x => x ++ [10]) = b ++ xs.flatMap (fun x => x ++ [10]) ++ x ++ [10] := by simp
      refine ⟨[some (.loc w),some (.int (n : Int)),some (.bl esc),some (.int (m : Int)),some (.str (b ++ (xs ++ [x]).flatMap (fun x => x ++ [10]))),some (.int (k : Int)),some (.str (List.replicate r 32)),none],Zb,?_,some (.int (k : Int)),some (.str (List.replicate r 32)),xs ++ [x],rfl,kc.trans (ka.trans kb),by simp [hxl],fun y hy => ?_⟩
      · rw [hcat]
        generalize b ++ xs.flatMap (fun x => x ++ [10]) = BX at *
        generalize hRn9 : List.replicate n 32 ++ [9] = Rn9 at *
        generalize hRn3 : List.replicate n 32 ++ [32,9,32] = Rn3 at *
        generalize List.replicate n 32 = Rn at *
        generalize List.replicate r 32 = Rr at *
        generalize BX ++ x ++ [10] = FIN at *
        generalize BX ++ x = FI at *
        simp [-Nm,-Z37,Z0c,ea,mr,mn,an,an2,eb,a1,a2]
      · rcases List.mem_append.mp hy with h | h
        · exact hxs y h
        · rw [List.mem_singleton.mp h]; exact hx)
  simp only [Zdj,Zbv] at e3
  obtain ⟨t4,Z4,ht4,e4,k4⟩ := Z1j k3.wel (tlL.map .str) (by decide) (by decide)
  obtain ⟨tail,htl,rfl⟩ := List.mem_map.mp ht4
  obtain ⟨tw,tok,tlen⟩ := Zk7 tail htl
  obtain ⟨ww,wok,wlen⟩ := Zfv ws hws
  obtain ⟨fok,fl⟩ := Zai xs hxs
  have fl2 : xs.length * (n + 4) ≤ 3 * 9 := Nat.mul_le_mul (by omega) (by omega)
  obtain ⟨v,hv⟩ : ∃ v,v = if esc = true then List.replicate xs.length 10 else sep xs.length := ⟨_,rfl⟩
  have hvl : v.length ≤ 4 := by
    rw [hv]
    split
    · rw [List.length_replicate]; omega
    · exact Zhl (by omega)
  have hcat : b ++ xs.flatMap (fun x => x ++ [10]) ++ List.replicate n 32 ++ tail = (if esc = true then [92,10] else ws ++ [10]) ++ (xs.flatMap (fun x => x ++ [10]) ++ (List.replicate n 32 ++ tail)) := by rw [hb]; simp only [List.append_assoc]
  refine ⟨b ++ xs.flatMap (fun x => x ++ [10]) ++ List.replicate n 32 ++ tail,v,Z4,⟨⟨ws,tail,xs,ww,tw,fun x hx => (hxs x hx).ok,hcat,hv⟩,?_,?_,hvl⟩,Z2h (n := 8) (as := [.loc w,.int (n : Int),.bl esc]) ?_,k1.trans (k2.trans (k3.trans k4))⟩
  · rw [List.all_append,List.all_append,List.all_append,fok,Zah,tok,hb]
    split
    · rfl
    · rw [List.all_append,wok]; rfl
  · rw [List.length_append,List.length_append,List.length_append,List.length_replicate]; omega
  · have r3 : ∀ Z,rngOf [.int (m : Int)] Z = .ok (itRng 0 m) Z := fun Z => rngN (n := m) (by unfold Lim; omega)
    refine Yk (ρ' := [some (.loc w), some (.int (n : Int)), some (.bl esc), some (.int (m : Int)), none, none, none, none]) (Z' := Z1) (by simp [e1]) (Yk e2 (Yk (ρ' := [some (.loc w), some (.int (n : Int)), some (.bl esc), some (.int (m : Int)), some (.str (b ++ xs.flatMap (fun x => x ++ [10]))), o5, o6, none]) (Z' := Z3) (by simp [r3, e3]) (Yk (ρ' := [some (.loc w), some (.int (n : Int)), some (.bl esc), some (.int (m : Int)), some (.str (b ++ xs.flatMap (fun x => x ++ [10]))), o5, o6, some (.str v)]) (Z' := Z3) ?_ ?_)))
    · have mu := Z44 10 m Z3 (by omega)
      rw [hxl] at hv
      by_cases h0 : 0 < m
      · have hvr : v = List.replicate m 10 := by
          rw [hv]
          split
          · rfl
          · unfold sep; rw [if_neg (by omega)]
        rw [hvr]
        generalize List.replicate m 10 = MR at *
        simp [-Z37,h0,mu]
      · cases esc with
        | true =>
          rw [if_pos rfl] at hv
          rw [hv]
          generalize List.replicate m 10 = MR at *
          simp [-Z37,h0,mu]
        | false =>
          have hvr : v = [32] := by
            rw [hv]
            unfold sep
            rw [if_neg (by decide),if_pos (by omega)]
          rw [hvr]
          simp [-Z37,h0]
    · have mn := fun Z => Z44 32 n Z (by omega)
      have a1 := Yd (b ++ xs.flatMap (fun x => x ++ [10])) (List.replicate n 32) Z3 (by rw [List.length_append,List.length_replicate]; unfold Lim; omega)
      have a2 := Yd (b ++ xs.flatMap (fun x => x ++ [10]) ++ List.replicate n 32) tail Z4 (by rw [List.length_append,List.length_append,List.length_replicate]; unfold Lim; omega)
      simp only [tlL,List.map_cons,List.map_nil] at e4
      generalize b ++ xs.flatMap (fun x => x ++ [10]) = BX at *
      generalize List.replicate n 32 = Rn at *
      generalize BX ++ Rn ++ tail = FIN at *
      generalize BX ++ Rn = FI at *
      simp [-Nm,-Z37,mn,a1,e4,a2]
end Ap
set_option maxHeartbeats 8000000
namespace Ap
open PySem PySem.Spec PyProof.Rows L2 SX Fx
def A_1 : FS := (sSet 8 (eCall Ye [] (aCons (eVar 0) (aCons (eC (.int 6)) aNil))))
def A_2 : FS := (sSet 9 (eAnd (eBin gEq (eVar 8) (eC (.int 5))) (eAnd (eBin gEq (eVar 1) (eC (.str [34]))) (eBin gNe (eVar 6) (eC (.str [98,114,101,97,107]))))))
def A_3 : FS := (sIf (Fx.tOr (eTru (eVar 9)) (Fx.tAnd (eBl (eBin gEq (eVar 8) (eC (.int 4)))) (eBl (eBin gNotInW (eVar 6) (eTup (aCons (eC (.str [119,104,105,116,101])) (aCons (eC (.str [98,114,101,97,107])) aNil))))))) (sPar [10,6,5] (aCons (eCall Nu [] (aCons (eVar 0) (aCons (eVar 2) (aCons (eVar 9) aNil)))) (aCons (eC (.str [98,114,101,97,107])) (aCons (eC (.bl true)) aNil)))) (sIf (Fx.tAnd (eBl (eBin gEq (eVar 8) (eC (.int 3)))) (eBl (eBin gNe (eVar 6) (eC (.str [98,114,101,97,107]))))) (sPar [10,6] (aCons (eCall Yl [] (aCons (eVar 0) (aCons (eLst (aCons (eTup (aCons (eC (.str [32])) (aCons (eC (.str [32])) aNil))) (aCons (eTup (aCons (eC (.str [32,32])) (aCons (eC (.str [32,32])) aNil))) (aCons (eTup (aCons (eC (.str [9])) (aCons (eC (.str [9])) aNil))) aNil)))) aNil))) (aCons (eC (.str [119,104,105,116,101])) aNil))) (sPar [10,6] (aCons (eCall Wl [] (aCons (eVar 0) (aCons (eVar 1) aNil))) (aCons (eC (.str [119,111,114,100])) aNil)))))
def A_4 : FS := (sPar [3,4] (aCons (eBin gAdd (eVar 3) (eBin gIxW (eVar 10) (eC (.int 0)))) (aCons (eBin gAdd (eVar 4) (eBin gIxW (eVar 10) (eC (.int 1)))) aNil)))
theorem A_eq : Uy = bCons A_1 (bCons A_2 (bCons A_3 (A_4))) := rfl
def sWhite : List Nat := [119,104,105,116,101]
def sBreak : List Nat := [98,114,101,97,107]
def sWord : List Nat := [119,111,114,100]
def OKr (ls rest : List Nat) : Prop := (ls = sWhite → (rest.drop (wl rest)).head? ≠ some 10) ∧ (ls = sBreak → firstOk rest)
theorem Z58 {ls rest : List Nat} (h : firstOk rest) : OKr ls rest := by
  refine ⟨fun _ => ?_,fun _ => h⟩
  obtain ⟨x,r,rfl,h1,h2,_⟩ := h
  rw [Qe h1]
  simpa using h2
structure PI (dq : Bool) (n k : Nat) (ls t v : List Nat) (hb : Bool) : Prop where
  qr : ∀ line rest res,OKr ls rest → QR (qch dq) n line rest res → QR (qch dq) n line (t ++ rest) (if (line && hb) = true then none else pre v res)
  ch : t.all okC = true
  len : t.length ≤ 60 * k
  vlen : v.length ≤ 60 * k
theorem PI.zero (dq : Bool) (n : Nat) : PI dq n 0 [] [] [] false := by
  refine ⟨fun line rest res _ h => ?_,rfl,Nat.zero_le _,Nat.zero_le _⟩
  rw [Bool.and_false,if_neg (by decide),pre_nil]
  exact h
section
variable {dq : Bool} {n k : Nat} {ls t v : List Nat} {hb : Bool}
theorem PI.word (h : PI dq n k ls t v hb) {x : List Nat × List Nat} (hx : x ∈ words dq) : PI dq n (k + 1) sWord (t ++ x.1) (v ++ x.2) hb := by
  obtain ⟨l1,l2,l3⟩ := Z57 dq x hx
  refine ⟨fun line rest res _ hr => ?_,by rw [List.all_append,h.ch,l3]; rfl,by have := h.len; rw [List.length_append]; omega,by have := h.vlen; rw [List.length_append]; omega⟩
  rw [List.append_assoc,pre_app]
  exact h.qr line _ _ (Z58 (Zdy dq x hx rest)) (Zfs dq x hx rest res hr)
theorem PI.white (h : PI dq n k ls t v hb) (hls : ls ≠ sBreak) {x : List Nat} (hx : ∀ c ∈ x,isW c = true) (hl : x.length ≤ 2) (hch : x.all okC = true) : PI dq n (k + 1) sWhite (t ++ x) (v ++ x) hb := by
  refine ⟨fun line rest res ho hr => ?_,by rw [List.all_append,h.ch,hch]; rfl,by have := h.len; rw [List.length_append]; omega,by have := h.vlen; rw [List.length_append]; omega⟩
  rw [List.append_assoc,pre_app]
  have hd := ho.1 rfl
  exact h.qr line _ _ ⟨fun _ => Zce.wl_skip x rest hx hd,fun e => absurd e hls⟩ (Zce (Z7n dq) hx hd hr)
theorem PI.brk (h : PI dq n k ls t v hb) {esc : Bool} (he : esc = true → dq = true ∧ ls ≠ sBreak) (hne : esc = false → ls ≠ sWhite ∧ ls ≠ sBreak) {bt bv : List Nat} (b : Brk n esc bt bv) : PI dq n (k + 1) sBreak (t ++ bt) (v ++ bv) true := by
  refine ⟨fun line rest res ho hr => ?_,by rw [List.all_append,h.ch,b.ch]; rfl,by have := h.len; have := b.len; rw [List.length_append]; omega,by have := h.vlen; have := b.vlen; rw [List.length_append]; omega⟩
  obtain ⟨ws,tail,xs,hw,ht,hx,rfl,rfl⟩ := b.ex
  have hf := ho.2 rfl
  rw [List.append_assoc,pre_app,Bool.and_true]
  have key : OKr ls (((if esc = true then [92,10] else ws ++ [10]) ++ (xs.flatMap (fun x => x ++ [10]) ++ (List.replicate n 32 ++ tail))) ++ rest) ∧ QR (qch dq) n line (((if esc = true then [92,10] else ws ++ [10]) ++ (xs.flatMap (fun x => x ++ [10]) ++ (List.replicate n 32 ++ tail))) ++ rest) (if line = true then none else pre (if esc = true then List.replicate xs.length 10 else sep xs.length) res) := by
    cases esc with
    | true =>
      obtain ⟨rfl,hls⟩ := he rfl
      have := Ziq (line := line) ht hf hx hr
      simp only [if_true,List.append_assoc,List.cons_append,List.nil_append] at this ⊢
      refine ⟨⟨fun _ => ?_,fun e => absurd e hls⟩,this⟩
      rw [Qe (by decide)]; simp
    | false =>
      obtain ⟨h1,h2⟩ := hne rfl
      have := Zk6 (line := line) (Z7n dq) hw ht hf hx hr
      simp only [if_false,Bool.false_eq_true,List.append_assoc,List.cons_append,List.nil_append] at this ⊢
      exact ⟨⟨fun e => absurd e h1,fun e => absurd e h2⟩,this⟩
  have := h.qr line _ _ key.1 key.2
  cases line with
  | true =>
    rw [if_pos rfl] at this ⊢
    have e : (if (true && hb) = true then none else pre v none) = (none : Option (List Nat × List Nat)) := by split <;> rfl
    rw [e] at this
    exact this
  | false => exact this
end
theorem Zfw {ft : FT} {b g : FS} {ρ : Fx.Env} {Z Z1 : Sto} {r : RS} (h : ft ρ Z = .ok false Z1) (h2 : g ρ Z1 = r) : sIf ft b g ρ Z = r := by simp [h,h2]
theorem Zbo (A a b : List Nat) (Z : Sto) : gNotInW (.str A) (.tup [.str a,.str b]) Z = some (.bl (!(decide (A = a) || decide (A = b))),Z) := by
  have h1 := Z96 A a b Z
  rw [Z5m] at h1
  rw [Qy]
  unfold gIn at h1
  unfold gNotIn
  cases hb : gInB (.str A) (.tup [.str a,.str b]) Z with
  | none => rw [hb] at h1; cases h1
  | some b => rw [hb] at h1; cases h1; rfl
def paE (w n : Nat) (q : Nat) (t v : List Nat) (hb : Bool) (ls : List Nat) (o7 o8 o9 o10 : Option Fx.T) : Fx.Env := [some (.loc w),some (.str [q]),some (.int (n : Int)),some (.str t),some (.str v),some (.bl hb),some (.str ls),o7,o8,o9,o10]
theorem Zk8 : ∀ x ∈ ([[32],[32,32],[9]] : List (List Nat)),(∀ c ∈ x,isW c = true) ∧ x.length ≤ 2 ∧ x.all okC = true := by decide
theorem Zk9 {Z : Sto} {w n k : Nat} {dq hb : Bool} {ls t v : List Nat} {o7 o8 o9 o10 : Option Fx.T} (hw : Wd Z w) (hn : n ≤ 5) (hk : k ≤ 20) (h : PI dq n k ls t v hb) :
    ∃ ls' t' v' hb' o8' o9' o10' Z', PI dq n (k + 1) ls' t' v' hb' ∧ Kd w Z Z' ∧ Uy (paE w n (qch dq) t v hb ls o7 o8 o9 o10) Z = .nx (paE w n (qch dq) t' v' hb' ls' o7 o8' o9' o10') Z' := by
  obtain ⟨r,Z1,hr,e1,k1⟩ := Z7o hw 6 (by decide) (by decide)
  replace e1 : Ye [.loc w,.int 6] Z = .ok (.int r) Z1 := e1
  have ht := h.len
  have hv := h.vlen
  rw [A_eq]
  obtain ⟨esc,hesc⟩ : ∃ esc : Bool,esc = (decide (r = 5) && (dq && !decide (ls = sBreak))) := ⟨_,rfl⟩
  have s1 : A_1 (paE w n (qch dq) t v hb ls o7 o8 o9 o10) Z = .nx (paE w n (qch dq) t v hb ls o7 (some (.int r)) o9 o10) Z1 := by simp [A_1,paE,e1]
  have s2 : A_2 (paE w n (qch dq) t v hb ls o7 (some (.int r)) o9 o10) Z1 = .nx (paE w n (qch dq) t v hb ls o7 (some (.int r)) (some (.bl esc)) o10) Z1 := by
    have hb5 : (ls = [98,114,101,97,107]) = (ls = sBreak) := rfl
    rw [hesc]
    by_cases h5 : r = 5
    · subst h5
      cases dq with
      | false => simp [A_2,paE,qch]
      | true => simp [A_2,paE,qch,hb5]
    · have h5' : ¬ (r : Int) = 5 := by omega
      simp [A_2, paE, h5, h5']
  have fin : ∀ {a b : List Nat} {hb2 : Bool} {ls2 : List Nat} {Z2 : Sto}, a.length ≤ 60 → b.length ≤ 60 → A_4 (paE w n (qch dq) t v hb2 ls2 o7 (some (.int r)) (some (.bl esc)) (some (.tup [.str a, .str b]))) Z2 = .nx (paE w n (qch dq) (t ++ a) (v ++ b) hb2 ls2 o7 (some (.int r)) (some (.bl esc)) (some (.tup [.str a, .str b]))) Z2 := fun {a b hb2 ls2 Z2} ha hb' => by
    have a1 := Yd t a Z2 (by unfold Lim; omega)
    have a2 := Yd v b Z2 (by unfold Lim; omega)
    simp [-Nm,-Zb4,Zbh,Zcd,A_4,paE,a1,a2]
  by_cases hbr : esc = true ∨ (r = 4 ∧ ¬ (ls = sWhite ∨ ls = sBreak))
  · obtain ⟨a,b,Z2,hB,e2,k2⟩ := Zir k1.wel hn esc
    have s3 : A_3 (paE w n (qch dq) t v hb ls o7 (some (.int r)) (some (.bl esc)) o10) Z1 = .nx (paE w n (qch dq) t v true sBreak o7 (some (.int r)) (some (.bl esc)) (some (.tup [.str a,.str b]))) Z2 := by
      cases he : esc with
      | true =>
        rw [he] at e2
        simp [A_3,paE,e2,sBreak]
      | false =>
        rw [he] at hbr e2
        obtain ⟨h4,hls⟩ := hbr.resolve_left (by decide)
        have ni := Zbo ls sWhite sBreak Z1
        have hls2 : (decide (ls = sWhite) || decide (ls = sBreak)) = false := by
          simp only [Bool.or_eq_false_iff,decide_eq_false_iff_not]
          exact ⟨fun e => hls (.inl e),fun e => hls (.inr e)⟩
        rw [hls2] at ni
        simp only [sWhite,sBreak,Bool.not_false] at ni
        simp [-Qy,A_3,paE,h4,ni,e2,sBreak]
    refine ⟨sBreak,t ++ a,v ++ b,true,_,_,_,Z2,h.brk (fun e => ?_) (fun e => ?_) hB,k1.trans k2,Yk s1 (Yk s2 (Yk s3 (fin hB.len (by have := hB.vlen; omega))))⟩
    · rw [e] at hesc
      have := hesc.symm
      simp only [Bool.and_eq_true, decide_eq_true_eq, Bool.not_eq_true', decide_eq_false_iff_not] at this
      exact this.2
    · obtain ⟨_,h4⟩ := hbr.resolve_left (by rw [e]; decide)
      exact ⟨fun e => h4 (.inl e),fun e => h4 (.inr e)⟩
  · have he : esc = false := by
      cases he : esc with
      | false => rfl
      | true => exact absurd (.inl he) hbr
    have n4 : ¬ (r = 4 ∧ ¬ (ls = sWhite ∨ ls = sBreak)) := fun e => hbr (.inr e)
    have ni := Zbo ls sWhite sBreak Z1
    have f3 : eAnd (eBin gEq (eVar 8) (eC (.int 4))) (eBin gNotInW (eVar 6) (eTup (aCons (eC (.str sWhite)) (aCons (eC (.str sBreak)) aNil)))) = eAnd (eBin gEq (eVar 8) (eC (.int 4))) (eBin gNotInW (eVar 6) (eTup (aCons (eC (.str sWhite)) (aCons (eC (.str sBreak)) aNil)))) := rfl
    have t3 : Fx.tOr (eTru (eVar 9)) (Fx.tAnd (eBl (eBin gEq (eVar 8) (eC (.int 4)))) (eBl (eBin gNotInW (eVar 6) (eTup (aCons (eC (.str [119,104,105,116,101])) (aCons (eC (.str [98,114,101,97,107])) aNil)))))) (paE w n (qch dq) t v hb ls o7 (some (.int r)) (some (.bl false)) o10) Z1 = .ok false Z1 := by
      by_cases h4 : r = 4
      · have hls : (decide (ls = sWhite) || decide (ls = sBreak)) = true := by
          have : ls = sWhite ∨ ls = sBreak := Classical.byContradiction fun e => n4 ⟨h4,e⟩
          simpa using this
        rw [hls] at ni
        simp only [sWhite,sBreak,Bool.not_true] at ni
        simp [-Qy,paE,h4,ni]
      · have h4' : ¬ (r : Int) = 4 := by omega
        simp [paE, h4']
    rw [he] at s2 fin
    by_cases h3 : r = 3 ∧ ls ≠ sBreak
    · obtain ⟨h3,hls⟩ := h3
      obtain ⟨x0,Z2,hx,e2,k2⟩ := Z1j k1.wel ([[32],[32,32],[9]].map fun x => .tup [.str x,.str x]) (by decide) (by decide)
      obtain ⟨x, hx', rfl⟩ := List.mem_map.mp hx
      obtain ⟨x1, x2, x3⟩ := Zk8 x hx'
      simp only [List.map_cons,List.map_nil] at e2
      have hlb : ¬ ls = [98,114,101,97,107] := hls
      have s3 : A_3 (paE w n (qch dq) t v hb ls o7 (some (.int r)) (some (.bl false)) o10) Z1 = .nx (paE w n (qch dq) t v hb sWhite o7 (some (.int r)) (some (.bl false)) (some (.tup [.str x,.str x]))) Z2 := by
        unfold A_3
        refine Zfw t3 ?_
        simp [paE,h3,hlb,e2,sWhite]
      exact ⟨sWhite,t ++ x,v ++ x,hb,_,_,_,Z2,h.white hls x1 x2 x3,k1.trans k2,Yk s1 (Yk s2 (Yk s3 (fin (by omega) (by omega))))⟩
    · obtain ⟨x,Z2,hx,e2,k2⟩ := Zhm k1.wel dq
      obtain ⟨l1,l2,l3⟩ := Z57 dq x hx
      have s3 : A_3 (paE w n (qch dq) t v hb ls o7 (some (.int r)) (some (.bl false)) o10) Z1 = .nx (paE w n (qch dq) t v hb sWord o7 (some (.int r)) (some (.bl false)) (some (.tup [.str x.1,.str x.2]))) Z2 := by
        unfold A_3
        refine Zfw t3 ?_
        replace e2 : Wl [.loc w,.str [qch dq]] Z1 = .ok (.tup [.str x.1,.str x.2]) Z2 := e2
        by_cases h33 : r = 3
        · have hls : ls = [98,114,101,97,107] := Classical.byContradiction fun e => h3 ⟨h33,e⟩
          simp [paE,h33,hls,e2,sWord]
        · have h33' : ¬ (r : Int) = 3 := by omega
          simp [paE, h33', e2, sWord]
      exact ⟨sWord,t ++ x.1,v ++ x.2,hb,_,_,_,Z2,h.word hx,k1.trans k2,Yk s1 (Yk s2 (Yk s3 (fin (by omega) (by omega))))⟩
theorem Zis {Z : Sto} {w n : Nat} (hw : Wd Z w) (hn : n ≤ 5) (dq : Bool) : ∃ (k : Nat) (ls t v : List Nat) (hb : Bool) (Z' : Sto), k ≤ 10 ∧ PI dq n k ls t v hb ∧ Nv [.loc w, .str [qch dq], .int (n : Int)] Z = .ok (.tup [.str t, .str v, .bl hb]) Z' ∧ Kd w Z Z' := by
  obtain ⟨r,Z1,hr,e1,k1⟩ := Z7o hw 10 (by decide) (by decide)
  replace e1 : Ye [.loc w,.int 10] Z = .ok (.int r) Z1 := e1
  obtain ⟨ρ3, Z3, e3, ls, t, v, hb, o7, o8, o9, o10, rfl, k3, hp⟩ := Zbn (m := r) (body := fun t ρ' Z' => bS ρ' (gNm 7 t ρ' Z') Uy) (ρ := paE w n (qch dq) [] [] false [] none none none none) (Z := Z1)
    (fun k ρ Z' => ∃ (ls t v : List Nat) (hb : Bool) (o7 o8 o9 o10 : Option Fx.T), ρ = paE w n (qch dq) t v hb ls o7 o8 o9 o10 ∧ Kd w Z1 Z' ∧ PI dq n k ls t v hb) (by unfold Lim; omega)
    ⟨[],[],[],false,none,none,none,none,rfl,Z0h k1.wel,PI.zero dq n⟩
    (fun k hk ρ Z' hI => by
      obtain ⟨ls,t,v,hb,o7,o8,o9,o10,rfl,kc,hp⟩ := hI
      obtain ⟨ls', t', v', hb', o8', o9', o10', Z'', hp', k', e'⟩ := Zk9 (o7 := some (.int (k : Int))) (o8 := o8) (o9 := o9) (o10 := o10) kc.wel hn (by omega) hp
      exact ⟨paE w n (qch dq) t' v' hb' ls' (some (.int (k : Int))) o8' o9' o10', Z'', e', ls', t', v', hb', some (.int (k : Int)), o8', o9', o10', rfl, kc.trans k', hp'⟩)
  simp only [Zdj,Zbv] at e3
  refine ⟨r,ls,t,v,hb,Z3,by omega,hp,Z2h (n := 11) (as := [.loc w,.str [qch dq],.int (n : Int)]) ?_,k1.trans k3⟩
  have r3 : ∀ Z,rngOf [.int (r : Int)] Z = .ok (itRng 0 r) Z := fun Z => rngN (n := r) (by unfold Lim; omega)
  refine Yk (ρ' := paE w n (qch dq) [] [] false [] none none none none) (Z' := Z) (by simp [paE]) (Yk (ρ' := paE w n (qch dq) t v hb ls o7 o8 o9 o10) (Z' := Z3) ?_ (by simp [paE]))
  simp only [paE] at e3 ⊢
  simp [e1,r3,e3]
end Ap
set_option maxHeartbeats 8000000
namespace Ap
open PySem PySem.Spec PyProof.Rows L2 SX Fx
def wr3 (n : Nat) : List (List Nat) := if n = 0 then [[10,45,45,45,32,119],[32,10,10,46,46,46,10],[10,45,45,45,10,32,119]] else [[10] ++ List.replicate (n - 1) 32 ++ [119],[32,10] ++ List.replicate (n - 1) 32 ++ [9,10] ++ List.replicate (n - 1) 32 ++ [32,119],[10,10] ++ List.replicate (n - 1) 32 ++ [9,119]]
def wr2 (dq : Bool) : List (List Nat) := if dq = true then [[qch dq,119]] ++ [[92,120,52,49],[92,48],[92,97],[92,78]] else [[qch dq,119]]
def wrL (dq : Bool) (n : Nat) : List (List Nat) := wr2 dq ++ wr3 n
theorem Zh1 {Z : Sto} {n : Nat} (hn : n ≤ 5) (dq : Bool) : ∃ l Z', J5 [.str [qch dq], .int (n : Int)] Z = .ok (.loc l) Z' ∧ getL Z' l = some ((wrL dq n).map .str) ∧ Ext Z Z' ∧ Z.length ≤ l := by
  obtain ⟨L2,Z2,e2,g2,x2⟩ : ∃ (L2 : Nat) (Z2 : Sto),bCons (sSet 2 (eLst (aCons (eBin gAdd (eVar 0) (eC (.str [119]))) aNil))) (sIf (eBl (eBin gEq (eVar 0) (eC (.str [34]))))
      (sSet 2 (eBin gAdd (eVar 2) (eLst (aCons (eC (.str [92,120,52,49])) (aCons (eC (.str [92,48])) (aCons (eC (.str [92,97])) (aCons (eC (.str [92,78])) aNil)))))))
      sPass) [some (.str [qch dq]),some (.int (n : Int)),none,none] Z = .nx [some (.str [qch dq]),some (.int (n : Int)),some (.loc L2),none] Z2 ∧ getL Z2 L2 = some ((wr2 dq).map .str) ∧ Ext Z Z2 := by
    obtain ⟨Z1,hZ1⟩ : ∃ Z1,Z1 = Z ++ [O.lst [.str [qch dq,119]]] := ⟨_,rfl⟩
    have x1 : Ext Z Z1 := by rw [hZ1]; exact (Ext.refl _).app _
    have g1 : getL Z1 Z.length = some [.str [qch dq,119]] := by rw [hZ1]; exact Yv _ _
    have a1 := Yd [qch dq] [119] Z (by simp [Lim])
    have s1 : sSet 2 (eLst (aCons (eBin gAdd (eVar 0) (eC (.str [119]))) aNil)) [some (.str [qch dq]),some (.int (n : Int)),none,none] Z = .nx [some (.str [qch dq]),some (.int (n : Int)),some (.loc Z.length),none] Z1 := by
      rw [hZ1]
      simp only [List.cons_append,List.nil_append] at a1
      simp [-Nm,a1]
    cases dq with
    | false => exact ⟨Z.length,Z1,Yk s1 (by simp [qch]),g1,x1⟩
    | true =>
      obtain ⟨W4,hW4⟩ : ∃ W4 : List Fx.T,W4 = [.str [92,120,52,49],.str [92,48],.str [92,97],.str [92,78]] := ⟨_,rfl⟩
      obtain ⟨Z2,hZ2⟩ : ∃ Z2,Z2 = Z1 ++ [O.lst W4] := ⟨_,rfl⟩
      have x2 : Ext Z1 Z2 := by rw [hZ2]; exact (Ext.refl _).app _
      have ad := Z5l Z.length Z1.length Z2 (x2.getL g1) (by rw [hZ2]; exact Yv _ _) (by rw [hW4]; simp [Lim])
      refine ⟨Z2.length,Z2 ++ [O.lst ([.str [qch true,119]] ++ W4)],Yk s1 ?_,?_,(x1.trans x2).app _⟩
      · generalize [Fx.T.str [qch true,119]] ++ W4 = WW at *
        rw [hW4] at hZ2
        simp [-Z74,qch,← hZ2,ad]
      · rw [Yv,hW4]; rfl
  have fin : ∀ (Z3 : Sto) (W : List Fx.T), getL Z3 L2 = some ((wr2 dq).map .str) → W = (wr3 n).map .str → Ext Z Z3 → ∃ Z', gAdd (.loc L2) (.loc Z3.length) (Z3 ++ [O.lst W]) = some (.loc (Z3.length + 1), Z') ∧ getL Z' (Z3.length + 1) = some ((wrL dq n).map .str) ∧ Ext Z Z' := by
    intro Z3 W g hW x
    have hl : (wr2 dq).length ≤ 5 := by cases dq <;> decide
    have hl3 : (wr3 n).length = 3 := by unfold wr3; split <;> rfl
    have ad := Z5l L2 Z3.length (Z3 ++ [O.lst W]) (Np g) (Yv _ _) (by rw [hW,List.length_map,List.length_map]; unfold Lim; omega)
    have hlen : (Z3 ++ [O.lst W]).length = Z3.length + 1 := by simp
    rw [hlen] at ad
    refine ⟨_,ad,?_,(x.app _).app _⟩
    rw [← hlen,Yv,hW,wrL,List.map_append]
  have hB : Z4w = fun ρ Z => bCons (sSet 2 (eLst (aCons (eBin gAdd (eVar 0) (eC (.str [119]))) aNil))) (bCons (sIf (eBl (eBin gEq (eVar 0) (eC (.str [34]))))
      (sSet 2 (eBin gAdd (eVar 2) (eLst (aCons (eC (.str [92,120,52,49])) (aCons (eC (.str [92,48])) (aCons (eC (.str [92,97])) (aCons (eC (.str [92,78])) aNil)))))))
      sPass)
    (bCons (sIf (eBl (eBin gEq (eVar 1) (eC (.int 0))))
      (sRet (eBin gAdd (eVar 2) (eLst (aCons (eC (.str [10,45,45,45,32,119])) (aCons (eC (.str [32,10,10,46,46,46,10])) (aCons (eC (.str [10,45,45,45,10,32,119])) aNil))))))
      sPass)
    (bCons (sSet 3 (eBin gMul (eC (.str [32])) (eBin gSub (eVar 1) (eC (.int 1)))))
    (sRet (eBin gAdd (eVar 2) (eLst (aCons (eBin gAdd (eBin gAdd (eC (.str [10])) (eVar 3)) (eC (.str [119]))) (aCons (eBin gAdd (eBin gAdd (eBin gAdd (eBin gAdd (eC (.str [32,10])) (eVar 3)) (eC (.str [9,10]))) (eVar 3)) (eC (.str [32,119]))) (aCons (eBin gAdd (eBin gAdd (eC (.str [10,10])) (eVar 3)) (eC (.str [9,119]))) aNil)))))))))  ρ Z := rfl
  have assoc : ∀ {a b c : FS} {ρ ρ' : Fx.Env} {Z Z' : Sto}, bCons a b ρ Z = .nx ρ' Z' → bCons a (bCons b c) ρ Z = c ρ' Z' := by
    intro a b c ρ ρ' Z Z' h
    show seqS (a ρ Z) (fun ρ Z => seqS (b ρ Z) c) = _
    have h' : seqS (a ρ Z) b = .nx ρ' Z' := h
    cases ha : a ρ Z <;> rw [ha] at h' <;> first | (cases h'; done) | skip
    all_goals first | (simp only [seqS] at h' ⊢; rw [h']) | (simp [seqS] at h')
  by_cases h0 : n = 0
  · obtain ⟨Z', ad, g, x⟩ := fin Z2 [.str [10,45,45,45,32,119], .str [32,10,10,46,46,46,10], .str [10,45,45,45,10,32,119]] g2 (by rw [wr3, if_pos h0]; rfl) x2
    refine ⟨Z2.length + 1, Z', Z2h (n := 4) (as := [.str [qch dq], .int (n : Int)]) ?_, g, x, by have := x2.len; omega⟩
    rw [hB]
    refine (assoc e2).trans (b_rt ?_)
    subst h0
    simp [-Z74,ad]
  · have hc1 : (n : Int) - 1 = ((n - 1 : Nat) : Int) := by omega
    have mu := Z44 32 (n - 1) Z2 (by omega)
    have h0' : ¬ (n : Int) = 0 := by omega
    have w3 : wr3 n = [[10] ++ List.replicate (n - 1) 32 ++ [119],[32,10] ++ List.replicate (n - 1) 32 ++ [9,10] ++ List.replicate (n - 1) 32 ++ [32,119],[10,10] ++ List.replicate (n - 1) 32 ++ [9,119]] := if_neg h0
    have rl : (List.replicate (n - 1) 32).length = n - 1 := List.length_replicate ..
    generalize List.replicate (n - 1) 32 = RR at *
    have a1 := fun Z => Yd [10] RR Z (by simp; unfold Lim; omega)
    have a2 := fun Z => Yd ([10] ++ RR) [119] Z (by simp; unfold Lim; omega)
    have a3 := fun Z => Yd [32,10] RR Z (by simp; unfold Lim; omega)
    have a4 := fun Z => Yd ([32,10] ++ RR) [9,10] Z (by simp; unfold Lim; omega)
    have a5 := fun Z => Yd ([32,10] ++ RR ++ [9,10]) RR Z (by simp; unfold Lim; omega)
    have a6 := fun Z => Yd ([32,10] ++ RR ++ [9,10] ++ RR) [32,119] Z (by simp; unfold Lim; omega)
    have a7 := fun Z => Yd [10,10] RR Z (by simp; unfold Lim; omega)
    have a8 := fun Z => Yd ([10,10] ++ RR) [9,119] Z (by simp; unfold Lim; omega)
    obtain ⟨Z', ad, g, x⟩ := fin Z2 [.str ([10] ++ RR ++ [119]), .str ([32,10] ++ RR ++ [9,10] ++ RR ++ [32,119]), .str ([10,10] ++ RR ++ [9,119])] g2 (by rw [w3]; rfl) x2
    refine ⟨Z2.length + 1, Z', Z2h (n := 4) (as := [.str [qch dq], .int (n : Int)]) ?_, g, x, by have := x2.len; omega⟩
    rw [hB]
    refine (assoc e2).trans (Yk (ρ' := [some (.str [qch dq]), some (.int (n : Int)), some (.loc L2), none]) (Z' := Z2) (by simp [h0, h0']) (Yk (ρ' := [some (.str [qch dq]), some (.int (n : Int)), some (.loc L2), some (.str RR)]) (Z' := Z2) ?_ ?_))
    · simp [-Z37,hc1,mu]
    · generalize [32,10] ++ RR ++ [9,10] ++ RR ++ [32,119] = X6 at *
      generalize [32,10] ++ RR ++ [9,10] ++ RR = X5 at *
      generalize [32,10] ++ RR ++ [9,10] = X4 at *
      generalize [32,10] ++ RR = X3 at *
      generalize [10,10] ++ RR ++ [9,119] = X8 at *
      generalize [10,10] ++ RR = X7 at *
      generalize [10] ++ RR ++ [119] = X2 at *
      generalize [10] ++ RR = X1 at *
      simp [-Nm,-Z74,a1,a2,a3,a4,a5,a6,a7,a8,ad]
def Bad (k : Nat) (res : Option (List Nat × List Nat)) : Prop := ∀ v r,res = some (v,r) → r.length ≠ k
theorem Bad.none (k : Nat) : Bad k none := fun v r h => by cases h
theorem Bad.pre {k : Nat} {res : Option (List Nat × List Nat)} (w : List Nat) (h : Bad k res) : Bad k (pre w res) := fun v r e => by
  obtain ⟨v', e⟩ := Z1i e
  exact h v' r e
theorem Bad.ite {k : Nat} {res : Option (List Nat × List Nat)} (h : Bad k res) (b : Bool) : Bad k (if b = true then Option.none else res) := by
  cases b with
  | true => exact Bad.none k
  | false => exact h
theorem Bad.resT {k : Nat} {res : Option (List Nat × List Nat)} (h : Bad k res) : resT k res = .non := by
  cases res with
  | none => rfl
  | some p => exact if_neg (h p.1 p.2 rfl)
section
variable {q n : Nat} {line : Bool}
theorem Z0x {u r : List Nat} (hd : u.drop (wl u) = 10 :: r) (h : QF n r none) : QR q n line u none := by
  cases hl : line with
  | true => exact .feedL _ _ hd rfl
  | false => exact .feedN _ _ hd rfl h
theorem Zfx {r : List Nat} (h0 : n = 0) (hw : wl r = 0) (h10 : r.head? ≠ some 10) (hm : isMk r = true) : QF n r none := by
  subst h0
  have := QF.stop (n := 0) r (Nat.zero_le _) (by rw [List.drop_zero,Nat.zero_add,hw]; exact h10)
  rw [if_pos hm] at this
  exact this
theorem Zfy {x : Nat} {r : List Nat} (h0 : n ≠ 0) (hx : x ≠ 32) (h10 : x ≠ 10) : QF n (List.replicate (n - 1) 32 ++ x :: r) none := by
  have hb : bl (List.replicate (n - 1) 32 ++ x :: r) = n - 1 := by
    rw [Zbm]
    simp [bl,hx]
  exact .few _ (by rw [hb]; omega) (by rw [hb,Z6o]; simpa using h10)
theorem Zka (hq : q = 34 ∨ q = 39) {dq : Bool} (hqd : q = qch dq) {beh : List Nat} : ∀ x ∈ wrL dq n,∃ res,QR q n line (x ++ q :: beh) res ∧ Bad beh.length res := by
  intro x hx
  rcases List.mem_append.mp hx with hx | hx
  · have hcl : QR q n line ([q,119] ++ q :: beh) (some ([],119 :: q :: beh)) := by
      refine .close _ (.inr ?_)
      rcases hq with rfl | rfl <;> simp
    have hb : Bad beh.length (some (([] : List Nat),119 :: q :: beh)) := fun v r e => by cases e; simp; omega
    cases dq with
    | false =>
      have : x = [q,119] := by rw [hqd]; exact List.mem_singleton.mp hx
      rw [this]; exact ⟨_,hcl,hb⟩
    | true =>
      have hq34 : q = 34 := hqd
      have esc : ∀ (e : Nat) (r : List Nat),escT e = none → e ≠ 10 → QR q n line (92 :: e :: r) none := fun e r h1 h2 => .escN _ hq34 (fun y hy => by cases hy; exact ⟨h1,fun e => absurd e h2⟩)
      simp only [wr2,if_true,List.mem_append,List.mem_cons,List.not_mem_nil,or_false] at hx
      rcases hx with rfl | rfl | rfl | rfl | rfl
      · have : [qch true,119] = [q,119] := by rw [hqd]
        rw [this]; exact ⟨_,hcl,hb⟩
      · exact ⟨_,esc _ _ rfl (by decide),Bad.none _⟩
      · exact ⟨_,esc _ _ rfl (by decide),Bad.none _⟩
      · exact ⟨_,esc _ _ rfl (by decide),Bad.none _⟩
      · exact ⟨_,esc _ _ rfl (by decide),Bad.none _⟩
  · refine ⟨none,?_,Bad.none _⟩
    unfold wr3 at hx
    split at hx
    · rename_i h0
      simp only [List.mem_cons,List.not_mem_nil,or_false] at hx
      rcases hx with rfl | rfl | rfl
      · exact Z0x (r := [45,45,45,32,119] ++ q :: beh) rfl (Zfx h0 rfl (by simp) (by simp [isMk]))
      · refine Z0x (r := [10,46,46,46,10] ++ q :: beh) rfl ?_
        subst h0
        exact .empW _ ([46,46,46,10] ++ q :: beh) none (Nat.zero_le _) rfl (Zfx rfl rfl (by simp) (by simp [isMk]))
      · exact Z0x (r := [45,45,45,10,32,119] ++ q :: beh) rfl (Zfx h0 rfl (by simp) (by simp [isMk]))
    · rename_i h0
      simp only [List.mem_cons,List.not_mem_nil,or_false] at hx
      rcases hx with rfl | rfl | rfl
      · refine Z0x (r := List.replicate (n - 1) 32 ++ 119 :: q :: beh) (by simp [wl,isW]) (Zfy h0 (by decide) (by decide))
      · refine Z0x (r := List.replicate (n - 1) 32 ++ 9 :: 10 :: (List.replicate (n - 1) 32 ++ 32 :: 119 :: q :: beh)) (by simp [wl,isW]) (Zfy h0 (by decide) (by decide))
      · refine Z0x (r := 10 :: (List.replicate (n - 1) 32 ++ 9 :: 119 :: q :: beh)) (by simp [wl,isW]) ?_
        exact .empB _ (List.replicate (n - 1) 32 ++ 9 :: 119 :: q :: beh) none (by simp [bl]; omega) (by simp [bl]) (Zfy h0 (by decide) (by decide))
end
theorem Zkb : ∀ dq,∀ x ∈ wr2 dq,x.all okC = true ∧ x.length ≤ 20 := by decide
theorem Zkc : ∀ x ∈ ([[10,45,45,45,32,119],[32,10,10,46,46,46,10],[10,45,45,45,10,32,119]] : List (List Nat)),x.all okC = true ∧ x.length ≤ 20 := by decide
theorem Zkd {dq : Bool} {n : Nat} (hn : n ≤ 5) : ∀ x ∈ wrL dq n,x.all okC = true ∧ x.length ≤ 20 := by
  intro x hx
  rcases List.mem_append.mp hx with hx | hx
  · exact Zkb dq x hx
  · unfold wr3 at hx
    split at hx
    · exact Zkc x hx
    · simp only [List.mem_cons,List.not_mem_nil,or_false] at hx
      have hr := Zah (n - 1)
      have hl : (List.replicate (n - 1) 32).length = n - 1 := List.length_replicate ..
      rcases hx with rfl | rfl | rfl <;> (refine ⟨by simp only [List.all_append,hr]; rfl,?_⟩; simp only [List.length_append,hl,List.length_cons,List.length_nil]; omega)
end Ap
set_option maxHeartbeats 8000000
namespace Ap
open PySem PySem.Spec PyProof.Rows L2 SX Fx
theorem Zdz {α : Type} {it : ItF} {put : Fx.T → Option Fx.Env} {c : FT} {e : FE} {l : List α} {u : α → Fx.T} {p : α → Bool} {fv : α → Fx.T} {Z1 : Sto} (hl : l.length ≤ Lim) (hit : ∀ k Z,Ext Z1 Z → k ≤ l.length → it k Z = some ((l[k]?).map u))
    (h : ∀ x ∈ l,∀ Z,Ext Z1 Z → ∃ ρ Z2,put (u x) = some ρ ∧ c ρ Z = .ok (p x) Z2 ∧ Ext Z Z2 ∧ (p x = true → ∃ Z3,e ρ Z2 = .ok (fv x) Z3 ∧ Ext Z2 Z3)) :
    ∃ Z', loopC it Z1.length put c e Fuel 0 (Z1 ++ [.lst []]) = .ok (.loc Z1.length) Z' ∧ Ext Z1 Z' ∧ getL Z' Z1.length = some ((l.filter p).map fv) := by
  have key : ∀ (post pre : List α) (n : Nat) (acc : List Fx.T) (Z : Sto), l = pre ++ post → post.length < n → Ext Z1 Z → getL Z Z1.length = some acc → acc.length ≤ pre.length → ∃ Z', loopC it Z1.length put c e n pre.length Z = .ok (.loc Z1.length) Z' ∧ Ext Z1 Z' ∧ getL Z' Z1.length = some (acc ++ (post.filter p).map fv) := by
    intro post
    induction post with
    | nil =>
      intro pre n acc Z hp hn hx hg ha
      obtain ⟨n, rfl⟩ : ∃ n', n = n' + 1 := ⟨n - 1, by omega⟩
      refine ⟨Z,?_,hx,by rw [hg]; simp⟩
      unfold loopC
      rw [hit _ Z hx (by rw [hp]; simp),hp]
      simp
    | cons x post ih =>
      intro pre n acc Z hp hn hx hg ha
      obtain ⟨n, rfl⟩ : ∃ n', n = n' + 1 := ⟨n - 1, by omega⟩
      rw [List.length_cons] at hn
      obtain ⟨ρ,Z2,h1,h2,h3,h4⟩ := h x (by rw [hp]; simp) Z hx
      have hx2 := hx.trans h3
      have hg2 := h3.getL hg
      have hpl : pre.length < l.length := by rw [hp]; simp
      have e0 : it pre.length Z = some (some (u x)) := by
        rw [hit _ Z hx (by omega),hp]; simp
      have hp2 : l = (pre ++ [x]) ++ post := by rw [hp]; simp
      unfold loopC
      simp only [e0,h1,h2,Zcs,Xq]
      cases hpx : p x with
      | false =>
        rw [if_neg Bool.false_ne_true]
        obtain ⟨Z', e1, x1, g1⟩ := ih (pre ++ [x]) n acc Z2 hp2 (by omega) hx2 hg2 (by rw [List.length_append]; omega)
        rw [List.length_append] at e1
        exact ⟨Z', e1, x1, by rw [g1, List.filter_cons_of_neg (by rw [hpx]; exact Bool.false_ne_true)]⟩
      | true =>
        rw [if_pos rfl]
        obtain ⟨Z3,h5,h6⟩ := h4 hpx
        have hx3 := hx2.trans h6
        have hg3 := h6.getL hg2
        obtain ⟨Z', e1, x1, g1⟩ := ih (pre ++ [x]) n (acc ++ [fv x]) (Z3.set Z1.length (.lst (acc ++ [fv x]))) hp2 (by omega) (hx3.set (Nat.le_refl _)) (Z19 hg3) (by rw [List.length_append, List.length_append, List.length_singleton, List.length_singleton]; omega)
        rw [List.length_append] at e1
        refine ⟨Z', ?_, x1, by rw [g1, List.filter_cons_of_pos hpx]; simp⟩
        simp only [h5,Zcs,Xq,hg3]
        rw [if_pos (by omega)]
        exact e1
  obtain ⟨Z', e1, x1, g1⟩ := key l [] Fuel [] (Z1 ++ [.lst []]) rfl (by rw [Z59]; omega) ((Ext.refl Z1).app _) (Yv _ _) (Nat.le_refl _)
  exact ⟨Z', e1, x1, by rw [g1, List.nil_append]⟩
def RN (dq : Bool) (ct : List Nat × Nat × List Nat) (n : Nat) (t : List Nat) : Prop := ∀ Z, ∃ Z', Y4 [.str t, .str (qst dq), .str ct.1, .int (n : Int), .int 1] Z = .ok .non Z' ∧ Ext Z Z'
section
variable {dq : Bool} {ct : List Nat × Nat × List Nat} {n k : Nat} {ls t v : List Nat} {hb : Bool}
theorem Z9c (dq : Bool) : okC (qch dq) = true := by cases dq <;> rfl
theorem Zd7 (hct : ct ∈ cts) : (qch dq = 34 ∨ ct.2.2.take 1 ≠ [qch dq]) ∧ qch dq ∉ ct.2.2 ∧ qch dq ∉ 107 :: ct.2.2 ∧ 32 ≠ qch dq := by
  simp only [cts,List.mem_cons,List.not_mem_nil,or_false] at hct
  rcases hct with rfl | rfl | rfl | rfl <;> cases dq <;> decide
theorem ch107 : okC 107 = true := rfl
theorem ch32 : okC 32 = true := rfl
theorem Zd8 (hct : ct ∈ cts) (hn : n ≤ 100) {u : List Nat} (hok : u.all okC = true) (hl : u.length ≤ 19000) {res : Option (List Nat × List Nat)} (h : QR (qch dq) n (lineL ct.2.1) (u ++ ct.2.2) res) (hb : Bad ct.2.2.length res) : RN dq ct n (qch dq :: u) := fun Z => by
  obtain ⟨Z', e, x⟩ := Zfr (Z := Z) hct hn (by rw [List.all_cons, Z9c, hok]; rfl) hl h
  rw [hb.resT] at e
  exact ⟨Z', e, x⟩
theorem odd1 (hct : ct ∈ cts) (hn : n ≤ 5) (h : PI dq n k ls t v hb) (hk : k ≤ 20) {wr : List Nat} (hw : wr ∈ wrL dq n) : RN dq ct n (qch dq :: (t ++ [107] ++ wr ++ [qch dq])) := by
  obtain ⟨w1,w2⟩ := Zkd hn wr hw
  obtain ⟨res,hr,hbad⟩ := Zka (n := n) (line := lineL ct.2.1) (Z7n dq) rfl (beh := ct.2.2) wr hw
  have hs : QR (qch dq) n (lineL ct.2.1) (107 :: (wr ++ qch dq :: ct.2.2)) (pre [107] res) := .sign 107 _ res (by cases dq <;> decide) (fun e => by cases e) rfl (by decide) hr
  have hq := h.qr (lineL ct.2.1) _ _ (Z58 (Z0w _ (by decide))) hs
  have hl := h.len
  refine Zd8 hct (by omega) ?_ ?_ (res := if (lineL ct.2.1 && hb) = true then none else pre v (pre [107] res)) ?_ (((hbad.pre [107]).pre v).ite _)
  · rw [List.all_append,List.all_append,List.all_append,h.ch,w1]
    simp [Z9c,ch107,ch32]
  · simp only [List.length_append,List.length_cons,List.length_nil]; omega
  · have : t ++ [107] ++ wr ++ [qch dq] ++ ct.2.2 = t ++ (107 :: (wr ++ qch dq :: ct.2.2)) := by simp
    rw [this]; exact hq
theorem odd2 (hct : ct ∈ cts) (hn : n ≤ 5) (h : PI dq n k ls t v hb) (hk : k ≤ 20) : RN dq ct n (qch dq :: (t ++ [107])) := by
  obtain ⟨res,hr⟩ := Z09 (n := n) (line := lineL ct.2.1) (Z7n dq) _ (107 :: ct.2.2) (Nat.lt_succ_self _)
  have hres : res = none := by
    cases res with
    | none => rfl
    | some p =>
      obtain ⟨a,ha⟩ := hr.suf p.1 p.2 rfl
      exact absurd (by rw [ha]; simp) (Zd7 (dq := dq) hct).2.2.1
  subst hres
  have hq := h.qr (lineL ct.2.1) _ _ (Z58 (Z0w _ (by decide))) hr
  have hl := h.len
  refine Zd8 hct (by omega) ?_ ?_ (res := if (lineL ct.2.1 && hb) = true then none else pre v none) ?_ (((Bad.none _).pre v).ite _)
  · rw [List.all_append,h.ch]; rfl
  · simp only [List.length_append,List.length_cons,List.length_nil]; omega
  · rw [List.append_assoc]; exact hq
theorem odd3 (hct : ct ∈ cts) (hn : n ≤ 5) (h : PI dq n k ls t v hb) (hk : k ≤ 20) : RN dq ct n (t ++ [qch dq] ++ [32]) := by
  have hl := h.len
  have key : ∀ y : List Nat,y.all okC = true → y.length ≤ 1300 → RN dq ct n (qch dq :: (y ++ [32])) := fun y h1 h2 => by
    obtain ⟨res,hr⟩ := Z09 (n := n) (line := lineL ct.2.1) (Z7n dq) _ (y ++ [32] ++ ct.2.2) (Nat.lt_succ_self _)
    refine Zd8 hct (by omega) (by rw [List.all_append,h1]; rfl) (by simp; omega) hr (fun v r e hlen => ?_)
    obtain ⟨a,ha⟩ := hr.suf v r e
    have h3 := List.append_inj' (s₁ := y ++ [32]) (t₁ := ct.2.2) (s₂ := a ++ [qch dq]) (t₂ := r) (by rw [ha]; simp) hlen.symm
    have h4 := (List.append_inj' h3.1 rfl).2
    exact (Zd7 (dq := dq) hct).2.2.2 (List.cons.inj h4).1
  rw [List.append_assoc]
  cases t with
  | nil => exact key [] rfl (by simp)
  | cons x t =>
    have hch := h.ch
    rw [List.all_cons,Bool.and_eq_true] at hch
    rw [List.length_cons] at hl
    by_cases hx : x = qch dq
    · subst hx
      have := key (t ++ [qch dq]) (by rw [List.all_append,hch.2]; simp [Z9c]) (by simp; omega)
      rw [List.append_assoc] at this
      exact this
    · intro Z
      refine Zbl hct (by omega) ?_ (by simp; omega) hx
      show (x :: t ++ ([qch dq] ++ [32])).all okC = true
      rw [List.all_append,h.ch]
      simp [Z9c,ch107,ch32]
theorem odd4 (hct : ct ∈ cts) (hn : n ≤ 5) : RN dq ct n ([32] ++ [qch dq]) := fun Z =>
  Zbl hct (by omega) (by simp [Z9c,ch107,ch32]) (by simp) (Zd7 (dq := dq) hct).2.2.2
theorem good (hct : ct ∈ cts) (hn : n ≤ 5) (h : PI dq n k ls t v hb) (hk : k ≤ 20) (Z : Sto) : ∃ Z', Y4 [.str ([qch dq] ++ t ++ [qch dq]), .str (qst dq), .str ct.1, .int (n : Int), .int 1] Z = .ok (if (lineL ct.2.1 && hb) = true then .non else .str v) Z' ∧ Ext Z Z' := by
  have hc : QR (qch dq) n (lineL ct.2.1) (qch dq :: ct.2.2) (some ([],ct.2.2)) := .close _ (Zd7 (dq := dq) hct).1
  have hf : firstOk (qch dq :: ct.2.2) := by cases dq <;> exact Z0w _ (by decide)
  have hq := h.qr (lineL ct.2.1) _ _ (Z58 hf) hc
  have hl := h.len
  have hcat : t ++ [qch dq] ++ ct.2.2 = t ++ (qch dq :: ct.2.2) := by simp
  rw [← hcat] at hq
  obtain ⟨Z', e, x⟩ := Zfr (Z := Z) hct (by omega) (u := t ++ [qch dq]) (by rw [List.all_cons, List.all_append, h.ch]; simp [Z9c]) (by simp; omega) hq
  refine ⟨Z', ?_, x⟩
  have hr : resT ct.2.2.length (if (lineL ct.2.1 && hb) = true then none else pre v (some ([],ct.2.2))) = if (lineL ct.2.1 && hb) = true then .non else .str v := by
    split
    · rfl
    · show (if ct.2.2.length = ct.2.2.length then Fx.T.str (v ++ []) else .non) = _
      rw [if_pos rfl,List.append_nil]
  rw [hr] at e
  exact e
end
def kE (o0 o1 : Option Fx.T) (w : Nat) (o3 : Option Fx.T) (dq : Bool) (n : Nat) (t v : List Nat) (hb : Bool) (o10 o11 o12 o13 : Option Fx.T) : Fx.Env := [o0,o1,some (.loc w),o3,some (.str (qst dq)),some (.int (n : Int)),some (.str [qch dq]),some (.str t),some (.str v),some (.bl hb),o10,o11,o12,o13]
def C_1 : FS := (sSet 11 (eIf (Fx.tAnd (eTru (eVar 9)) (eBl (eBin gInW (eVar 10) (eTup (aCons (eC (.str [107,101,121])) (aCons (eC (.str [112,97,105,114])) aNil)))))) (eC .non) (eVar 8)))
def C_2 : FS := (sIf (eBl (eBin gNe (eCall Y4 [(.int (1))] (aCons (eBin gAdd (eBin gAdd (eVar 6) (eVar 7)) (eVar 6)) (aCons (eVar 4) (aCons (eVar 10) (aCons (eVar 5) aNil))))) (eVar 11))) (sRet (eC (.bl false))) sPass)
def C_3 : FS := (sSet 12 (eCall Yl [] (aCons (eVar 2) (aCons (eCall J5 [] (aCons (eVar 6) (aCons (eVar 5) aNil))) aNil))))
def C_4 : FS := (sFor (iAny (eTup (aCons (eBin gAdd (eBin gAdd (eBin gAdd (eBin gAdd (eVar 6) (eVar 7)) (eC (.str [107]))) (eVar 12)) (eVar 6)) (aCons (eBin gAdd (eBin gAdd (eVar 6) (eVar 7)) (eC (.str [107]))) (aCons (eBin gAdd (eBin gAdd (eVar 7) (eVar 6)) (eC (.str [32]))) (aCons (eBin gAdd (eC (.str [32])) (eVar 6)) aNil)))))) (gNm 13) Z7d)
theorem C_eq : Z7e = bCons C_1 (bCons C_2 (bCons C_3 (C_4))) := rfl
theorem Zh2 {ct : List Nat × Nat × List Nat} (hct : ct ∈ cts) (Z : Sto) : gInW (.str ct.1) (.tup [.str [107,101,121],.str [112,97,105,114]]) Z = some (.bl (lineL ct.2.1),Z) := by
  rw [Z96]
  simp only [cts,List.mem_cons,List.not_mem_nil,or_false] at hct
  rcases hct with rfl | rfl | rfl | rfl <;> rfl
section
variable {o0 o1 o3 : Option Fx.T} {w n k : Nat} {dq hb : Bool} {ls t v : List Nat} {ct : List Nat × Nat × List Nat} {Z : Sto} {o11 o12 o13 : Option Fx.T}
theorem f_odd {o10 : Option Fx.T} (ho : o10 = some (.str ct.1)) {x : List Nat} (h : RN dq ct n x) : ∃ Z', Z7d (kE o0 o1 w o3 dq n t v hb o10 o11 o12 (some (.str x))) Z = .nx (kE o0 o1 w o3 dq n t v hb o10 o11 o12 (some (.str x))) Z' ∧ Ext Z Z' := by
  obtain ⟨Z', e, k⟩ := h Z
  refine ⟨Z', ?_, k⟩
  subst ho
  simp [Z7d,kE,e,Fx.isNon]
theorem f_ctx (hw : Wd Z w) (hct : ct ∈ cts) (hn : n ≤ 5) (h : PI dq n k ls t v hb) (hk : k ≤ 20) : ∃ p11 p12 p13 Z', Kd w Z Z' ∧ Z7e (kE o0 o1 w o3 dq n t v hb (some (.str ct.1)) o11 o12 o13) Z = .nx (kE o0 o1 w o3 dq n t v hb (some (.str ct.1)) p11 p12 p13) Z' := by
  obtain ⟨D,hD⟩ : ∃ D,D = if (lineL ct.2.1 && hb) = true then Fx.T.non else .str v := ⟨_,rfl⟩
  have hl := h.len
  have cl := Zh2 hct Z
  have s1 : C_1 (kE o0 o1 w o3 dq n t v hb (some (.str ct.1)) o11 o12 o13) Z = .nx (kE o0 o1 w o3 dq n t v hb (some (.str ct.1)) (some D) o12 o13) Z := by
    rw [hD]
    cases hb with
    | false => simp [C_1,kE]
    | true =>
      cases hline : lineL ct.2.1 with
      | true => rw [hline] at cl; simp [-Z5m,C_1,kE,cl]
      | false => rw [hline] at cl; simp [-Z5m,C_1,kE,cl]
  obtain ⟨Z2,e2,x2⟩ := good hct hn h hk Z
  rw [← hD] at e2
  have a1 := fun Z => Yd [qch dq] t Z (by simp; unfold Lim; omega)
  have a2 := fun Z => Yd ([qch dq] ++ t) [qch dq] Z (by simp; unfold Lim; omega)
  have nD : gNe D D Z2 = some (.bl false,Z2) := by rw [hD]; split <;> simp
  have s2 : C_2 (kE o0 o1 w o3 dq n t v hb (some (.str ct.1)) (some D) o12 o13) Z = .nx (kE o0 o1 w o3 dq n t v hb (some (.str ct.1)) (some D) o12 o13) Z2 := by
    generalize [qch dq] ++ t ++ [qch dq] = T2 at *
    generalize [qch dq] ++ t = T1 at *
    simp [-Nm,C_2,kE,a1,a2,e2,nD]
  have k2 := Z56 (Z0h hw) x2
  obtain ⟨l,Z3,e3,g3,x3,hl3⟩ := Zh1 (Z := Z2) hn dq
  have k3 := Z56 k2 x3
  have hwl : w < Z.length := hw.lt
  have := x2.len
  have wlen : (wrL dq n).length ≤ 8 ∧ 0 < (wrL dq n).length := by
    unfold wrL wr3
    cases dq <;> split <;> simp [wr2]
  obtain ⟨t4,Z4,ht4,e4,k4⟩ := Z69 k3.wel g3 (by omega) (by rw [List.length_map]; omega) (by rw [List.length_map]; unfold Lim; omega)
  obtain ⟨wr,hwr,rfl⟩ := List.mem_map.mp ht4
  have s3 : C_3 (kE o0 o1 w o3 dq n t v hb (some (.str ct.1)) (some D) o12 o13) Z2 = .nx (kE o0 o1 w o3 dq n t v hb (some (.str ct.1)) (some D) (some (.str wr)) o13) Z4 := by
    simp [C_3,kE,e3,e4]
  have wl20 := (Zkd hn wr hwr).2
  obtain ⟨OS,hOS⟩ : ∃ OS : List (List Nat),OS = [qch dq :: (t ++ [107] ++ wr ++ [qch dq]),qch dq :: (t ++ [107]),t ++ [qch dq] ++ [32],[32] ++ [qch dq]] := ⟨_,rfl⟩
  have hRN : ∀ x ∈ OS,RN dq ct n x := by
    intro x hx
    rw [hOS] at hx
    simp only [List.mem_cons,List.not_mem_nil,or_false] at hx
    rcases hx with rfl | rfl | rfl | rfl
    · exact odd1 hct hn h hk hwr
    · exact odd2 hct hn h hk
    · exact odd3 hct hn h hk
    · exact odd4 hct hn
  obtain ⟨ρ5, Z5, e5, o13', rfl, x5⟩ := Zb2 (ts := OS.map .str) (body := fun t ρ' Z' => bS ρ' (gNm 13 t ρ' Z') Z7d) (ρ := kE o0 o1 w o3 dq n t v hb (some (.str ct.1)) (some D) (some (.str wr)) o13) (Z := Z4)
    (fun ρ Z' => ∃ o13', ρ = kE o0 o1 w o3 dq n t v hb (some (.str ct.1)) (some D) (some (.str wr)) o13' ∧ Ext Z4 Z') (by rw [hOS]; simp [Lim]) ⟨o13, rfl, Ext.refl _⟩
    (fun x hx ρ Z' hI => by
      obtain ⟨o,rfl,xe⟩ := hI
      obtain ⟨y,hy,rfl⟩ := List.mem_map.mp hx
      obtain ⟨Z'', e, x'⟩ := f_odd (o0 := o0) (o1 := o1) (o3 := o3) (w := w) (t := t) (v := v) (hb := hb) (o11 := some D) (o12 := some (.str wr)) (Z := Z') (o10 := some (.str ct.1)) rfl (hRN y hy)
      exact ⟨_, Z'', e, some (.str y), rfl, xe.trans x'⟩)
  simp only [Zdj,Zbv] at e5
  refine ⟨some D, some (.str wr), o13', Z5, Z56 (k3.trans k4) x5, ?_⟩
  rw [C_eq]
  refine Yk s1 (Yk s2 (Yk s3 ?_))
  have b2 := fun Z => Yd ([qch dq] ++ t) [107] Z (by simp; unfold Lim; omega)
  have b3 := fun Z => Yd ([qch dq] ++ t ++ [107]) wr Z (by simp; unfold Lim; omega)
  have b4 := fun Z => Yd ([qch dq] ++ t ++ [107] ++ wr) [qch dq] Z (by simp; unfold Lim; omega)
  have b5 := fun Z => Yd t [qch dq] Z (by simp; unfold Lim; omega)
  have b6 := fun Z => Yd (t ++ [qch dq]) [32] Z (by simp; unfold Lim; omega)
  have b7 := fun Z => Yd [32] [qch dq] Z (by simp [Lim])
  have hOS2 : OS = [[qch dq] ++ t ++ [107] ++ wr ++ [qch dq],[qch dq] ++ t ++ [107],t ++ [qch dq] ++ [32],[32] ++ [qch dq]] := by rw [hOS]; simp
  rw [hOS2] at e5
  simp only [List.map_cons,List.map_nil] at e5
  generalize [qch dq] ++ t ++ [107] ++ wr ++ [qch dq] = A1 at *
  generalize [qch dq] ++ t ++ [107] ++ wr = A2 at *
  generalize [qch dq] ++ t ++ [107] = A3 at *
  generalize t ++ [qch dq] ++ [32] = A4 at *
  generalize t ++ [qch dq] = A5 at *
  generalize [qch dq] ++ t = A6 at *
  generalize [32] ++ [qch dq] = A7 at *
  simp only [kE] at e5 ⊢
  simp [-Nm,C_4,a1,b2,b3,b4,b5,b6,b7,e5]
end
end Ap
set_option maxHeartbeats 8000000
namespace Ap
open PySem PySem.Spec PyProof.Rows L2 SX Fx
def D_1 : FS := (sPar [4,5] (aCons (eCall Yl [] (aCons (eVar 2) (aCons (eLst (aCons (eC (.str [115,105,110,103,108,101])) (aCons (eC (.str [100,111,117,98,108,101])) aNil))) aNil))) (aCons (eCall Ye [] (aCons (eVar 2) (aCons (eC (.int 6)) aNil))) aNil)))
def D_2 : FS := (sSet 6 (eBin gIxW (eLst (aCons (eC (.str [39])) (aCons (eC (.str [34])) aNil))) (eCallB gIntT (aCons (eBin gEq (eVar 4) (eC (.str [100,111,117,98,108,101]))) aNil))))
def D_3 : FS := (sAsg (eCall Nv [] (aCons (eVar 2) (aCons (eVar 6) (aCons (eVar 5) aNil)))) (gTp 3 (gsCons (gNm 7) (gsCons (gNm 8) (gsCons (gNm 9) gsNil)))))
def D_4 : FS := (sFor (iAny (eTup (aCons (eC (.str [98,108,111,99,107])) (aCons (eC (.str [107,101,121])) (aCons (eC (.str [102,108,111,119])) (aCons (eC (.str [112,97,105,114])) aNil)))))) (gNm 10) Z7e)
theorem D_eq : Z9x = bCons D_1 (bCons D_2 (bCons D_3 (D_4))) := rfl
def oddL : List Nat := [33,35,36,38,39,40,41,42,43,44,45,46,48,49,50,51,52,53,54,55,56,57,58,59,60,61,62,63,64,65,66,67,68,69,70,71,72,73,74,75,76,77,78,79,80,81,82,83,84,85,86,87,88,89,90,91,93,94,95,96,97,98,99,100,101,102,103,104,105,106,107,108,109,111,112,113,114,115,117,118,119,120,121,122,123,124,125,126]
theorem Zke : ∀ x ∈ oddL,escT x = none ∧ x ≠ 10 ∧ okC x = true := by decide
def goodL : List Nat := [110,116,47,32,34,92,9]
def bhL : List (List Nat) := [[],[52,49],[32,97],[48,48,52,49],[10,32,122]]
theorem Zkf : ∀ x ∈ bhL,x.all okC = true ∧ x.length ≤ 4 := by decide
theorem Zit : ∀ x ∈ goodL,(∃ v,escT x = some v ∧ (escT x).getD 0 = v) ∧ okC x = true := by
  intro x hx
  simp only [goodL,List.mem_cons,List.not_mem_nil,or_false] at hx
  rcases hx with rfl | rfl | rfl | rfl | rfl | rfl | rfl <;> exact ⟨⟨_,rfl,rfl⟩,rfl⟩
theorem ct_b : (([98,108,111,99,107],79,[10]) : List Nat × Nat × List Nat) ∈ cts := by decide
theorem ct_f : (([102,108,111,119],73,[93]) : List Nat × Nat × List Nat) ∈ cts := by decide
theorem Ziu {a bh : List Nat} {x : Nat} {y : List Nat × List Nat} (hy : y ∈ words true) (ha : a = y.1) (hb : bh ∈ bhL) (hx : x ∈ oddL) : RN true ([98,108,111,99,107],79,[10]) 1 ([34] ++ a ++ [92] ++ [x] ++ bh ++ [34]) := by
  subst ha
  obtain ⟨o1,o2,o3⟩ := Zke x hx
  obtain ⟨b1,b2⟩ := Zkf bh hb
  obtain ⟨w1,_,w3⟩ := Z57 true y hy
  have h := Zfs true (n := 1) (line := lineL 79) y hy (92 :: x :: (bh ++ [34] ++ [10])) none (.escN _ rfl (fun e he => by cases he; exact ⟨o1,fun e => absurd e o2⟩))
  have hcat : [34] ++ y.1 ++ [92] ++ [x] ++ bh ++ [34] = qch true :: (y.1 ++ 92 :: x :: (bh ++ [34])) := by simp [qch]
  rw [hcat]
  refine Zd8 ct_b (by omega) ?_ ?_ (res := pre y.2 none) ?_ ((Bad.none _).pre _)
  · simp only [List.all_append,List.all_cons,w3,b1,o3]; rfl
  · simp only [List.length_append,List.length_cons,List.length_nil]; omega
  · have : y.1 ++ 92 :: x :: (bh ++ [34]) ++ [10] = y.1 ++ 92 :: x :: (bh ++ [34] ++ [10]) := by simp
    rw [this]; exact h
theorem Ziv {x : Nat} (hx : x ∈ goodL) (Z : Sto) : ∃ Z', Y4 [.str ([34,92] ++ [x] ++ [34]), .str [100,111,117,98,108,101], .str [102,108,111,119], .int 3, .int 1] Z = .ok (.str [(escT x).getD 0]) Z' ∧ Ext Z Z' := by
  obtain ⟨⟨v,h1,h2⟩,h3⟩ := Zit x hx
  rw [h2]
  have hq : QR (qch true) 3 (lineL 73) ([92,x,34] ++ [93]) (pre [v] (some ([],[93]))) := .esc x v _ _ rfl h1 (.close _ (.inl rfl))
  obtain ⟨Z', e, xx⟩ := Zfr (dq := true) (Z := Z) ct_f (n := 3) (by omega) (u := [92, x, 34]) (by simp only [List.all_cons, h3]; rfl) (by simp) hq
  exact ⟨Z', e, xx⟩
theorem Ziw {Z : Sto} {w : Nat} (hw : Wd Z w) : ∃ Z', Uc [.loc w] Z = .ok (.bl true) Z' ∧ Kd w Z Z' := by
  obtain ⟨y,Z1,hy,e1,k1⟩ := Zhm hw true
  obtain ⟨tb,Z2,htb,e2,k2⟩ := Z1j k1.wel (bhL.map .str) (by decide) (by decide)
  obtain ⟨bh,hbh,rfl⟩ := List.mem_map.mp htb
  simp only [bhL,List.map_cons,List.map_nil] at e2
  have hwl := hw.lt
  obtain ⟨_,b2⟩ := Zkf bh hbh
  obtain ⟨w1,_,_⟩ := Z57 true y hy
  have hlen : oddL.length = 88 := by decide
  obtain ⟨ρ3, Z3, e3, o4, rfl, x3⟩ := Zd5 (it := itStr oddL) (m := 88) (u := fun k => .str [oddL.getD k 0]) (body := fun t ρ' Z' => bS ρ' (gNm 4 t ρ' Z') Vg) (ρ := [some (.loc w), some (.str oddL), some (.str y.1), some (.str bh), none, none]) (Z := Z2)
    (fun k ρ Z' => ∃ o4, ρ = [some (.loc w), some (.str oddL), some (.str y.1), some (.str bh), o4, none] ∧ Ext Z2 Z') (by unfold Lim; omega)
    (fun k ρ Z hI hk => by
      unfold itStr
      by_cases h : k < 88
      · rw [if_pos h]
        have : oddL[k]? = some (oddL.getD k 0) := by
          rw [List.getD_eq_getElem?_getD,List.getElem?_eq_getElem (by omega)]; rfl
        rw [this]; rfl
      · rw [if_neg h,List.getElem?_eq_none (by omega)]; rfl)
    ⟨none,rfl,Ext.refl _⟩
    (fun k hk ρ Z' hI => by
      obtain ⟨o4,rfl,xe⟩ := hI
      have hmem : oddL.getD k 0 ∈ oddL := by
        rw [List.getD_eq_getElem?_getD,List.getElem?_eq_getElem (by omega)]
        exact List.getElem_mem _
      generalize oddL.getD k 0 = x at *
      obtain ⟨Z'', er, xr⟩ := Ziu hy rfl hbh hmem Z'
      refine ⟨[some (.loc w), some (.str oddL), some (.str y.1), some (.str bh), some (.str [x]), none], Z'', ?_, some (.str [x]), rfl, xe.trans xr⟩
      have a1 := fun Z => Yd [34] y.1 Z (by simp; unfold Lim; omega)
      have a2 := fun Z => Yd ([34] ++ y.1) [92] Z (by simp; unfold Lim; omega)
      have a3 := fun Z => Yd ([34] ++ y.1 ++ [92]) [x] Z (by simp; unfold Lim; omega)
      have a4 := fun Z => Yd ([34] ++ y.1 ++ [92] ++ [x]) bh Z (by simp; unfold Lim; omega)
      have a5 := fun Z => Yd ([34] ++ y.1 ++ [92] ++ [x] ++ bh) [34] Z (by simp; unfold Lim; omega)
      simp only [qst,if_true] at er
      generalize [34] ++ y.1 ++ [92] ++ [x] ++ bh ++ [34] = T5 at *
      generalize [34] ++ y.1 ++ [92] ++ [x] ++ bh = T4 at *
      generalize [34] ++ y.1 ++ [92] ++ [x] = T3 at *
      generalize [34] ++ y.1 ++ [92] = T2 at *
      generalize [34] ++ y.1 = T1 at *
      replace er : Y4 [.str T5, .str [100,111,117,98,108,101], .str [98,108,111,99,107], .int 1, .int 1] Z' = .ok .non Z'' := er
      simp [-Nm,Vg,a1,a2,a3,a4,a5,er,Fx.isNon])
  simp only [Zdj,Zbv] at e3
  obtain ⟨Z4,e4,x4,g4⟩ := Zdz (it := itStr goodL) (put := fun t => putN [4] t (wipeR [some (.loc w),some (.str oddL),some (.str y.1),some (.str bh),o4,none] [4])) (c := eYes) (e := Xi) (l := goodL) (u := fun c => .str [c]) (p := fun _ => true) (fv := fun c => .str [(escT c).getD 0]) (Z1 := Z3) (by decide) (fun k Z _ _ => rfl)
    (fun x hx Z xz => by
      obtain ⟨Z', er, xr⟩ := Ziv hx Z
      have a1 := fun Z => Yd [34,92] [x] Z (by simp [Lim])
      have a2 := fun Z => Yd ([34,92] ++ [x]) [34] Z (by simp [Lim])
      refine ⟨[some (.loc w), some (.str oddL), some (.str y.1), some (.str bh), some (.str [x]), none], Z, by rw [Z9e]; rfl, rfl, Ext.refl _, fun _ => ⟨Z', ?_, xr⟩⟩
      generalize [34,92] ++ [x] ++ [34] = T2 at *
      generalize [34,92] ++ [x] = T1 at *
      simp [-Nm,Xi,a1,a2,er])
  have hres : (goodL.filter (fun _ => true)).map (fun c => Fx.T.str [(escT c).getD 0]) = [[10],[9],[47],[32],[34],[92],[9]].map Fx.T.str := rfl
  rw [hres] at g4
  have gl := Z75 g4
  obtain ⟨Z5,hZ5⟩ : ∃ Z5,Z5 = Z4 ++ [O.lst ([[10],[9],[47],[32],[34],[92],[9]].map Fx.T.str)] := ⟨_,rfl⟩
  have g5 : getL Z5 Z3.length = some ([[10],[9],[47],[32],[34],[92],[9]].map .str) := by rw [hZ5]; exact Np g4
  have g6 : getL Z5 Z4.length = some ([[10],[9],[47],[32],[34],[92],[9]].map .str) := by rw [hZ5]; exact Yv _ _
  have eq : gEqL (.loc Z3.length) (.loc Z4.length) Z5 = some (.bl true,Z5) := by
    have h1 := Zig g5 g6 (by decide) (by decide)
    unfold gEqL
    have : lenDiff (.loc Z3.length) (.loc Z4.length) Z5 = false := by simp [lenDiff,g5,g6]
    rw [if_neg (by rw [this]; decide),h1]; simp
  have x5 : Ext Z4 Z5 := by rw [hZ5]; exact (Ext.refl _).app _
  refine ⟨Z5,Z2h (n := 6) (as := [.loc w]) ?_,k1.trans (Z56 k2 (x3.trans (x4.trans x5)))⟩
  simp only [List.map_cons,List.map_nil] at hZ5
  refine Yk (ρ' := [some (.loc w), some (.str oddL), none, none, none, none]) (Z' := Z) (by simp [oddL]) (Yk (ρ' := [some (.loc w), some (.str oddL), some (.str y.1), some (.str bh), none, none]) (Z' := Z2) ?_ (Yk (ρ' := [some (.loc w), some (.str oddL), some (.str y.1), some (.str bh), o4, none]) (Z' := Z3) ?_ (Yk (ρ' := [some (.loc w), some (.str oddL), some (.str y.1), some (.str bh), o4, some (.loc Z3.length)]) (Z' := Z4) ?_ ?_)))
  · replace e1 : Wl [.loc w,.str [34]] Z = .ok (.tup [.str y.1,.str y.2]) Z1 := e1
    simp [-Zb4,Zbh,e1,e2]
  · generalize oddL = OL at *
    simp [e3]
  · generalize oddL = OL at *
    show bS _ ((eLc [4] [4] (iAny (eC (.str goodL))) eYes Xi) _ Z3) _ = _
    have : eLc [4] [4] (iAny (eC (.str goodL))) eYes Xi [some (.loc w),some (.str OL),some (.str y.1),some (.str bh),o4,none] Z3 = .ok (.loc Z3.length) Z4 := e4
    rw [this]; rfl
  · generalize oddL = OL at *
    simp [← hZ5,eq]
section
variable {o0 o1 o3 o4 o5 o6 o7 o8 o9 o10 o11 o12 o13 : Option Fx.T} {w : Nat} {Z : Sto}
theorem Zkg (hw : Wd Z w) : ∃ p4 p5 p6 p7 p8 p9 p10 p11 p12 p13 Z', Kd w Z Z' ∧ Z9x [o0, o1, some (.loc w), o3, o4, o5, o6, o7, o8, o9, o10, o11, o12, o13] Z = .nx [o0, o1, some (.loc w), o3, p4, p5, p6, p7, p8, p9, p10, p11, p12, p13] Z' := by
  obtain ⟨ts,Z1,hts,e1,k1⟩ := Z1j hw [.str [115,105,110,103,108,101],.str [100,111,117,98,108,101]] (by decide) (by decide)
  obtain ⟨dq,rfl⟩ : ∃ dq : Bool,ts = .str (qst dq) := by
    simp at hts
    rcases hts with rfl | rfl
    · exact ⟨false,rfl⟩
    · exact ⟨true,rfl⟩
  obtain ⟨n,Z2,hn,e2,k2⟩ := Z7o k1.wel 6 (by decide) (by decide)
  replace e2 : Ye [.loc w,.int 6] Z1 = .ok (.int n) Z2 := e2
  obtain ⟨Z3,hZ3⟩ : ∃ Z3,Z3 = Z2 ++ [O.lst [.str [39],.str [34]]] := ⟨_,rfl⟩
  have x3 : Ext Z2 Z3 := by rw [hZ3]; exact (Ext.refl _).app _
  have k3 := Z56 (k1.trans k2) x3
  have qd : (qst dq = [100,111,117,98,108,101]) = (dq = true) := by cases dq <;> simp [qst]
  have ix : gIxW (.loc Z2.length) (.int (if dq = true then 1 else 0)) Z3 = some (.str [qch dq],Z3) := by
    have g : getL Z3 Z2.length = some [.str [39],.str [34]] := by rw [hZ3]; exact Yv _ _
    rw [Z0m _ g]
    cases dq <;> rfl
  obtain ⟨k,ls,t,v,hb,Z4,hk,hp,e4,k4⟩ := Zis k3.wel (by omega : n ≤ 5) dq
  obtain ⟨ρ5, Z5, e5, p10, p11, p12, p13, rfl, k5⟩ := Zb2 (ts := cts.map fun c => .str c.1) (body := fun t ρ' Z' => bS ρ' (gNm 10 t ρ' Z') Z7e) (ρ := kE o0 o1 w o3 dq n t v hb o10 o11 o12 o13) (Z := Z4)
    (fun ρ Z' => ∃ p10 p11 p12 p13, ρ = kE o0 o1 w o3 dq n t v hb p10 p11 p12 p13 ∧ Kd w Z4 Z') (by decide) ⟨_, _, _, _, rfl, Z0h k4.wel⟩
    (fun x hx ρ Z' hI => by
      obtain ⟨p10,p11,p12,p13,rfl,kc⟩ := hI
      obtain ⟨c,hc,rfl⟩ := List.mem_map.mp hx
      obtain ⟨q11, q12, q13, Z'', k', e⟩ := f_ctx (o0 := o0) (o1 := o1) (o3 := o3) (o11 := p11) (o12 := p12) (o13 := p13) kc.wel hc (by omega) hp (by omega)
      exact ⟨_, Z'', e, some (.str c.1), q11, q12, q13, rfl, kc.trans k'⟩)
  simp only [Zdj,Zbv] at e5
  refine ⟨some (.str (qst dq)),some (.int (n : Int)),some (.str [qch dq]),some (.str t),some (.str v),some (.bl hb),p10,p11,p12,p13,Z5,k3.trans (k4.trans k5),?_⟩
  rw [D_eq]
  refine Yk (ρ' := [o0, o1, some (.loc w), o3, some (.str (qst dq)), some (.int (n : Int)), o6, o7, o8, o9, o10, o11, o12, o13]) (Z' := Z2) ?_ (Yk (ρ' := [o0, o1, some (.loc w), o3, some (.str (qst dq)), some (.int (n : Int)), some (.str [qch dq]), o7, o8, o9, o10, o11, o12, o13]) (Z' := Z3) ?_ (Yk (ρ' := kE o0 o1 w o3 dq n t v hb o10 o11 o12 o13) (Z' := Z4) ?_ ?_))
  · generalize qst dq = SS at *
    simp [D_1,e1,e2]
  · generalize qst dq = SS at *
    simp [D_2,← hZ3,qd,ix]
  · generalize hS : qst dq = SS at *
    simp only [kE,hS]
    simp [D_3,e4]
  · simp only [cts,List.map_cons,List.map_nil] at e5
    simp only [kE] at e5 ⊢
    generalize qst dq = SS at *
    simp [D_4,e5]
end
theorem Zkh {Z : Sto} (c : Int) (o0 : Option Fx.T) (o2 o3 o4 o5 o6 o7 o8 o9 o10 o11 o12 o13 : Option Fx.T) : ∃ q2 q3 q4 q5 q6 q7 q8 q9 q10 q11 q12 q13 Z', (∀ j < Z.length, Z'[j]? = Z[j]?) ∧ Z7f [o0, some (.int c), o2, o3, o4, o5, o6, o7, o8, o9, o10, o11, o12, o13] Z = .nx [o0, some (.int c), q2, q3, q4, q5, q6, q7, q8, q9, q10, q11, q12, q13] Z' := by
  obtain ⟨Z1,hZ1⟩ : ∃ Z1,Z1 = Z ++ [O.lst [.int c]] := ⟨_,rfl⟩
  have hw : Wd Z1 Z.length := .inl ⟨c,by rw [hZ1]; exact Yv _ _⟩
  obtain ⟨Z2,e2,k2⟩ := Ziw hw
  obtain ⟨ρ3, Z3, e3, k3, r3, r4, r5, r6, r7, r8, r9, r10, r11, r12, r13, rfl⟩ := Zez (m := 10) (body := fun t ρ' Z' => bS ρ' (gNm 3 t ρ' Z') Z9x) (Z := Z2) (ρ := [o0, some (.int c), some (.loc Z.length), o3, o4, o5, o6, o7, o8, o9, o10, o11, o12, o13])
    (fun ρ Z' => Kd Z.length Z2 Z' ∧ ∃ r3 r4 r5 r6 r7 r8 r9 r10 r11 r12 r13, ρ = [o0, some (.int c), some (.loc Z.length), r3, r4, r5, r6, r7, r8, r9, r10, r11, r12, r13]) (by unfold Lim; omega) ⟨Z0h k2.wel, o3, o4, o5, o6, o7, o8, o9, o10, o11, o12, o13, rfl⟩
    (fun j hj ρ Z' h => by
      obtain ⟨x,r3,r4,r5,r6,r7,r8,r9,r10,r11,r12,r13,rfl⟩ := h
      obtain ⟨s4, s5, s6, s7, s8, s9, s10, s11, s12, s13, Z'', k', er⟩ := Zkg (o0 := o0) (o1 := some (.int c)) (o3 := some (.int (j : Int))) (o4 := r4) (o5 := r5) (o6 := r6) (o7 := r7) (o8 := r8) (o9 := r9) (o10 := r10) (o11 := r11) (o12 := r12) (o13 := r13) x.wel
      exact ⟨[o0, some (.int c), some (.loc Z.length), some (.int (j : Int)), s4, s5, s6, s7, s8, s9, s10, s11, s12, s13], Z'', by simp [er], x.trans k', some (.int (j : Int)), s4, s5, s6, s7, s8, s9, s10, s11, s12, s13, rfl⟩)
  simp only [Zdj,Zbv] at e3
  have kk := k2.trans k3
  refine ⟨some (.loc Z.length),r3,r4,r5,r6,r7,r8,r9,r10,r11,r12,r13,Z3,fun j hj => ?_,?_⟩
  · rw [kk.keep j (by rw [hZ1]; simp; omega) (by omega),hZ1,List.getElem?_append_left hj]
  · have r3' : ∀ Z, rngOf [.int 10] Z = .ok (itRng 0 10) Z := fun Z => rngN (n := 10) (by unfold Lim; omega)
    simp [Z7f, ← hZ1, e2, r3', e3]
section
variable {o1 o2 o3 o4 o5 o6 o7 o8 o9 o10 o11 o12 o13 : Option Fx.T}
theorem law_0 {Z : Sto} (ns : List Int) : ∃ Z', Zjw [some (.frl (ns.map .int)), o1, o2, o3, o4, o5, o6, o7, o8, o9, o10, o11, o12, o13] Z = .rt (.bl true) Z' := by
  obtain ⟨s,hs⟩ : ∃ s,s = some (Fx.T.frl (ns.map .int)) := ⟨_,rfl⟩
  have cu : cutL (ns.map Fx.T.int) none (some 6) = (ns.take 6).map .int := by
    have := Ziz (ns.map Fx.T.int) 6
    rw [List.map_take]
    exact this
  have ad := Z5l Z.length (Z.length + 1) (Z ++ [O.lst ((ns.take 6).map .int)] ++ [O.lst [.int 0]]) (a := (ns.take 6).map .int) (b := [.int 0]) (by simp [getL]) (by simp [getL]) (by simp [Lim]; omega)
  obtain ⟨Z1,hZ1⟩ : ∃ Z1,Z1 = Z ++ [O.lst ((ns.take 6).map .int)] ++ [O.lst [.int 0]] ++ [O.lst ((ns.take 6).map .int ++ [.int 0])] := ⟨_,rfl⟩
  have hl : (Z ++ [O.lst ((ns.take 6).map Fx.T.int)] ++ [O.lst [.int 0]]).length = Z.length + 2 := by simp
  have g1 : getL Z1 (Z.length + 2) = some ((ns.take 6).map .int ++ [.int 0]) := by
    rw [hZ1,← hl]; exact Yv _ _
  obtain ⟨ρ2, Z2, e2, p1, p2, p3, p4, p5, p6, p7, p8, p9, p10, p11, p12, p13, rfl, _⟩ := Zey (i := Z.length + 2) (ts := (ns.take 6).map .int ++ [.int 0]) (body := fun t ρ' Z' => bS ρ' (gNm 1 t ρ' Z') Z7f) (ρ := [s, o1, o2, o3, o4, o5, o6, o7, o8, o9, o10, o11, o12, o13]) (Z := Z1)
    (fun ρ Z' => ∃ p1 p2 p3 p4 p5 p6 p7 p8 p9 p10 p11 p12 p13, ρ = [s, p1, p2, p3, p4, p5, p6, p7, p8, p9, p10, p11, p12, p13] ∧ getL Z' (Z.length + 2) = some ((ns.take 6).map .int ++ [.int 0])) (by simp [Lim]; omega) (fun ρ Z' h => by obtain ⟨_, _, _, _, _, _, _, _, _, _, _, _, _, _, h⟩ := h; exact h) ⟨_, _, _, _, _, _, _, _, _, _, _, _, _, rfl, g1⟩
    (fun x hx ρ Z' h => by
      obtain ⟨p1,p2,p3,p4,p5,p6,p7,p8,p9,p10,p11,p12,p13,rfl,g⟩ := h
      obtain ⟨c,rfl⟩ : ∃ c,x = .int c := by
        rcases List.mem_append.mp hx with h | h
        · obtain ⟨c,_,rfl⟩ := List.mem_map.mp h
          exact ⟨c,rfl⟩
        · exact ⟨0,List.mem_singleton.mp h⟩
      obtain ⟨q2, q3, q4, q5, q6, q7, q8, q9, q10, q11, q12, q13, Z'', hk, e⟩ := Zkh (Z := Z') c s p2 p3 p4 p5 p6 p7 p8 p9 p10 p11 p12 p13
      refine ⟨[s, some (.int c), q2, q3, q4, q5, q6, q7, q8, q9, q10, q11, q12, q13], Z'', by simp [e], some (.int c), q2, q3, q4, q5, q6, q7, q8, q9, q10, q11, q12, q13, rfl, ?_⟩
      have hlt := Z75 g
      rw [Z2l] at g ⊢
      rw [hk _ hlt]; exact g)
  refine ⟨Z2,?_⟩
  have hf : sFor (iAny (eBin gAdd (eSl (eVar 0) oNone (oSome (eC (.int 6)))) (eLst (aCons (eC (.int 0)) aNil)))) (gNm 1) Z7f [s,o1,o2,o3,o4,o5,o6,o7,o8,o9,o10,o11,o12,o13] Z = .nx [s,p1,p2,p3,p4,p5,p6,p7,p8,p9,p10,p11,p12,p13] Z2 := by
    have hi : iAny (eBin gAdd (eSl (eVar 0) oNone (oSome (eC (.int 6)))) (eLst (aCons (eC (.int 0)) aNil))) [s,o1,o2,o3,o4,o5,o6,o7,o8,o9,o10,o11,o12,o13] Z = .ok (itLoc (Z.length + 2)) Z1 := by
      rw [hl] at ad
      rw [hZ1] at g1 ⊢
      generalize (ns.take 6).map Fx.T.int = M at *
      generalize ns.map Fx.T.int = N at *
      simp only [List.append_assoc,List.cons_append,List.nil_append] at ad g1 ⊢
      simp [-Z74,hs,cu,ad,g1]
    rw [q_for,hi,Zbv]
    exact e2
  rw [← hs]
  exact Yk hf rfl
end
theorem law_true (ns : List Int) (hn : ns.length ≤ 63) : ∃ Z,Zij [.frl (ns.map .int)] [] = .ok (.bl true) Z := by
  obtain ⟨Z1,e1⟩ := law_0 (o1 := none) (o2 := none) (o3 := none) (o4 := none) (o5 := none) (o6 := none) (o7 := none) (o8 := none) (o9 := none) (o10 := none) (o11 := none) (o12 := none) (o13 := none) (Z := []) ns
  exact ⟨Z1,Z2h (n := 14) (as := [.frl (ns.map .int)]) e1⟩
end Ap
set_option maxHeartbeats 4000000
open PySem PySem.W PySem.Calls PyProof.Rows
set_option maxHeartbeats 0 in
theorem PySem.Challenge.cw_anchorpages_k28_whole_values_of_quoted_t_holds : PySem.Challenge.rw_anchorpages_k28_whole_values_of_quoted_t.Holds := by
  refine Ap.pre_law ?_
  refine HandSHeadRun.head_any (r := OpenLaw.row PySem.Challenge.rw_anchorpages_k28_whole_values_of_quoted_t) (q := view (OpenLaw.row PySem.Challenge.rw_anchorpages_k28_whole_values_of_quoted_t).prog [48]) (H := Ap.hk5) (ob := Ap.ob5) (M := 6940) (loose := Ap.nms) (d := HandSHeadRun.topDef (OpenLaw.row PySem.Challenge.rw_anchorpages_k28_whole_values_of_quoted_t).prog 48) (kwd := []) Ap.Zjl
    (by kernel_rfl) (fun s => by kernel_rfl) Ap.run5 (by kernel_rfl) (by kernel_rfl) (by kernel_rfl) (by rfl) (by first | assumption | decide +kernel) (by decide +kernel) ⟨rfl,rfl,rfl,rfl,rfl,by decide +kernel⟩ ?hw ?hc
  case hw => w_witness2
  case hc =>
    refine Fx.Zi4 (m := 0) (l := PySem.Challenge.rw_anchorpages_k28_whole_values_of_quoted_t) (n := 63) (k := 9) (x := "_law_script") (F := Ap.Zij) (fun _ _ => trivial) rfl (by decide) (by kernel_rfl) ⟨rfl, by decide, by decide⟩ ?F Ap.law_true
    intro w mg K C
    have e : (HandSHeadRun.topDef (OpenLaw.row PySem.Challenge.rw_anchorpages_k28_whole_values_of_quoted_t).prog 48).name = ("law" : PySem.Str) := by kernel_rfl
    rw [e]
    exact ⟨_,Ap.Zjx C,fun s v => L2.FunD.bindsA (ps := Ap.Zi9) (Ap.Zhi C) (fun _ _ _ _ _ _ us hl => match us,hl with | [_],_ => rfl) s [v] rfl,fun base => Ap.Zjz C⟩
#print axioms PySem.Challenge.cw_anchorpages_k28_whole_values_of_quoted_t_holds

