import PyProof.Rows.All
import Wide.All
import OpenK.AllK
import Wide.FinOn
import HandS.ForMost
import HandS.IsInst
import HandS.StrMore
import HandS.More
import HandS.Codes
import HandS.Flow
import HandS.Style
import HandS.Walk
import HandS.RaiseMore
import HandS.Defaults
import HandS.Evl
import HandS.ReplaceLit
import HandS.ReplaceList
import HandS.ReplaceDef
import HandS.ForExc
import HandS.CallSlots
import HandS.TupAny
import HandS.Lambda
import HandS.Wide
import HandS.ExcInit
import HandS.ExcField
import HandS.ExcIs
import KE.GoesMore
import KE.KIntText
import PyProof.Rows.StrOr
import PyProof.Rows.Digits
import HandS.Replace
import HandS.Property
import HandS.Zip
import HandS.TupLe
import PyProof.DefCall
import HandS.ClsMeth
import HandS.EndTab
import HandS.HeadWalk
import HandS.Head0
import HandS.Head1
import HandS.Head2
import HandS.HeadEnd
import HandS.HeadHook1
import HandS.HeadHook2
import HandS.HeadHook3
import HandS.HeadHook4
import Wide.Once
import HandS.NoneIn
import HandS.Small
import PyProof.InstEq
import HandS.TupMul
import HandS.Star
import HandS.DictComp
import HandS.Conv
import HandS.Iter
import HandS.SortRule
import HandS.SortInts
import HandS.DictTup
import HandS.TryMany
import HandS.List
import KE.GoesEnum
import KE.KeyNested
import KE.KDictKeyed
import HandS.SetKeys
import HandS.TupLen
import KE.KDictWalk
import KE.KDictSum
import KE.SortData
import HandS.ExcOwn
import PySem.Challenge.RW_anchorpages_k42_whole_equal_just_if_unfo
set_option Elab.async false
set_option linter.all false
set_option maxRecDepth 100000
set_option maxHeartbeats 4000000
namespace Ap
open PySem PySem.Spec PyProof.Rows L2 SX
theorem Wd {H : Hp} {p : Addr} {o : HO} (h : H p = none) : Same H (upd H p o) := fun b x e => by
  rw [upd_ne (ne_of_none e h)]
  exact e
theorem fin {Q : VK} {H H' : Hp} {b b' : Bool} (q : ∀ H', Same H H' → Q (.bl b) H') (sm : Same H H') (e : b' = b) : Q (.bl b') H' := by
  rw [e]; exact q H' sm
def cutL {α : Type} (l : List α) (lo hi : Option Int) : List α := (l.drop (HT.sIx l.length 0 lo)).take (HT.sIx l.length l.length hi - HT.sIx l.length 0 lo)
theorem Zke (l : List Nat) (lo hi : Option Int) : cutS (S l) lo hi = S (cutL l lo hi) := rfl
theorem Zgm {α : Type} (l : List α) (n : Nat) : cutL l none (some (n : Int)) = l.take n := by
  unfold cutL
  rw [HT.sIx_nat,HT.sIx_none,Nat.sub_zero,List.drop_zero]
  by_cases h : n ≤ l.length
  · rw [Nat.min_eq_left h]
  · rw [Nat.min_eq_right (by omega),List.take_of_length_le (Nat.le_refl _),List.take_of_length_le (by omega)]
theorem Z9o {α : Type} (l : List α) (n : Nat) : cutL l (some (n : Int)) none = l.drop n := by
  unfold cutL
  rw [HT.sIx_nat,HT.sIx_none]
  by_cases h : n ≤ l.length
  · rw [Nat.min_eq_left h,List.take_of_length_le (by rw [List.length_drop]; exact Nat.le_refl _)]
  · rw [Nat.min_eq_right (by omega),List.drop_of_length_le (Nat.le_refl _),List.drop_of_length_le (by omega)]
    exact List.take_nil
theorem szS {l : List Nat} (h : l.length ≤ 100000) : (S l).length ≤ sizeLine := by
  rw [S_len]; exact Nat.le_trans h (by decide)
theorem eqV_S (a b : List Nat) : eqV (.str (S a)) (.str (S b)) = decide (b = a) := by
  show (S a == S b) = _
  rw [S_beq_eq]
  by_cases h : a = b
  · rw [decide_eq_true h,decide_eq_true h.symm]
  · rw [decide_eq_false h,decide_eq_false (Ne.symm h)]
def SameX (a : Addr) (H H' : Hp) : Prop := ∀ b o, b ≠ a → H b = some o → H' b = some o
theorem SameX.refl (a : Addr) (H : Hp) : SameX a H H := fun _ _ _ h => h
theorem SameX.of {a : Addr} {H H' : Hp} (s : Same H H') : SameX a H H' := fun b o _ h => s b o h
theorem SameX.trans {a : Addr} {H H1 H2 : Hp} (s : SameX a H H1) (t : SameX a H1 H2) : SameX a H H2 := fun b o n h => t b o n (s b o n h)
theorem SameX.upd {a : Addr} {H H' : Hp} {o : HO} (s : SameX a H H') : SameX a H (L2.upd H' a o) := fun b u n h => by
  rw [upd_ne n]; exact s b u n h
theorem SameX.thn {a : Addr} {H H1 H2 : Hp} (s : SameX a H H1) (t : Same H1 H2) : SameX a H H2 := s.trans (.of t)
theorem SameX.seqL {K : PySem.W.Frag} {a b : Addr} {H H' : Hp} {xs : List V} (s : SameX a H H') (hn : b ≠ a) (h : SqL K H b xs) : SqL K H' b xs := by
  rcases h with (h | ⟨o,h⟩) | h
  · exact .inl (.inl (s _ _ hn h))
  · exact .inl (.inr ⟨o,s _ _ hn h⟩)
  · exact .inr h
def StOk (ns : List Int) : Prop := ns.length = 1 ∨ ns.length = 3
def DrAt (a : Addr) (H : Hp) : Prop := ∃ ns : List Int,H a = some (.lst (ns.map V.int)) ∧ StOk ns
theorem DrAt.same {a : Addr} {H H' : Hp} (d : DrAt a H) (s : Same H H') : DrAt a H' := let ⟨ns, h, k⟩ := d; ⟨ns, s _ _ h, k⟩
theorem DrAt.ne {a p : Addr} {H : Hp} (d : DrAt a H) (h : H p = none) : p ≠ a := fun e => by
  obtain ⟨ns,ha,_⟩ := d
  rw [e,ha] at h; cases h
theorem DrAt.upd {a p : Addr} {H : Hp} {o : HO} (d : DrAt a H) (h : p ≠ a) : DrAt a (upd H p o) := by
  obtain ⟨ns,ha,k⟩ := d
  exact ⟨ns,by rw [upd_ne (Ne.symm h)]; exact ha,k⟩
theorem SameX.new {a p : Addr} {H H' : Hp} {o : HO} (s : SameX a H H') (h : H' p = none) : SameX a H (L2.upd H' p o) := s.thn (Wd h)
theorem SameX.mut {a p : Addr} {H H' : Hp} {o : HO} (s : SameX a H H') (h : H p = none) : SameX a H (L2.upd H' p o) := fun b u n e => by
  rw [upd_ne (ne_of_none e h)]; exact s b u n e
end Ap
set_option maxHeartbeats 4000000
namespace Ap
open PySem PySem.Spec PyProof.Rows L2 SX
structure GOk (P : Program) (w : World) (K : PySem.W.Frag) (mg : Str → Option Value) (base : Heap) (C : CXT) (k : Nat)
    (f : Addr) (fd : FuncData) (ps : List Str) (sp : Sp) : Prop where
  len : ∀ vs H Q E,sp vs H Q E → vs.length = ps.length
  run : ∀ (A : Around) (outer : List Env) (s : Shared) (H : Hp) (as : Args) (us : List Value) (vs : List V) (Q : VK) (E : XK),
    Room k A → A.guards = some [] → Env0 P w K mg base A outer s H → BindsTo s fd as (ps.zip us) → Vals vs us →
    sp vs H Q E → codeAny (model P w) A (.call (.ref f) as) (CR C outer P w H s Q E) s
theorem GOk.of {P : Program} {w : World} {K : PySem.W.Frag} {mg : Str → Option Value} {base : Heap} {C : CXT} {k : Nat}
    {f : Addr} {fd : FuncData} {ps : List Str} {sp : Sp} (F : FnOk P w K mg base C k f fd ps sp) : GOk P w K mg base C k f fd ps sp :=
  ⟨F.len,fun A outer s H as us vs Q E r _ => F.run A outer s H as us vs Q E r⟩
theorem Zbe {X : Cx} (hG : X.A.guards = some []) (hu : X.A.units + 64 < cLine) :
    CallR X (.builtin "repr") (fun xs H Q => ∃ (a : Addr) (d : PyData), xs = [.ref a] ∧ Dp X.K H (.ref a) d ∧ d.showable = true ∧
      d.hasDict = false ∧ d.depth ≤ 62 ∧ d.shown.length ≤ sizeLine ∧ Q (.str d.shown) H) := by
  intro pins s σ H xs us Q I r h
  obtain ⟨a,d,rfl,hd,hs,hn,hp,hz,q⟩ := h
  obtain ⟨u,rfl,ru⟩ := vals1 r
  cases (show u = Value.ref a from ru)
  obtain ⟨as,rd⟩ := Dp.reads I d _ _ hd rfl
  refine repr_of_reads' rd hs (fun z => absurd z (by rw [hn]; simp)) hG (by omega) (fun _ _ e => e) ?_ hz
  intro h' u tk hk
  exact ⟨.str _,H,I.kept hk,⟨_,rfl⟩,q⟩
end Ap
set_option maxHeartbeats 4000000
namespace Ap
open PySem PySem.Spec PyProof.Rows L2 SX
def repL (n : Nat) (l : List Nat) : List Nat := (List.replicate n l).flatten
theorem Z9p (a : Array Nat) : ∀ (n : Nat) (b : Array Nat),((List.replicate n a).foldl (· ++ ·) b).toList = b.toList ++ repL n a.toList
  | 0,b => by simp [repL]
  | n + 1,b => by
    rw [List.replicate_succ,List.foldl_cons,Z9p a n]
    unfold repL
    rw [List.replicate_succ,List.flatten_cons,Array.toList_append,List.append_assoc]
theorem Zez (n : Nat) : repL n [] = [] := by
  induction n with
  | zero => rfl
  | succ n ih => unfold repL at *; rw [List.replicate_succ,List.flatten_cons,ih]; rfl
theorem Zf0 (n : Nat) (l : List Nat) : (repL n l).length = n * l.length := by
  induction n with
  | zero => simp [repL]
  | succ n ih => unfold repL at *; rw [List.replicate_succ,List.flatten_cons,List.length_append,ih,Nat.succ_mul,Nat.add_comm]
def rMulS : R2 := fun x y H Q => ∃ (l : List Nat) (k : Int),x = .str (S l) ∧ y = .int k ∧ -100000 ≤ k ∧ k ≤ 100000 ∧ l.length * k.toNat ≤ 100000 ∧ Q (.str (S (repL k.toNat l))) H
theorem Zbf {X : Cx} : OpR X (binaryOp .Mult) rMulS := by
  intro pins s σ H x y v u Q I rx ry h
  obtain ⟨l,k,rfl,rfl,k0,k1,hz,q⟩ := h
  obtain ⟨t,rfl⟩ := rx
  obtain ⟨t2,rfl⟩ := ry
  have hl : (S l).length = l.length := S_len l
  refine PySem.P.mul_str ?_ (fun h1 h2 => ?_) (fun h1 h2 => ?_) ?_
  · rw [decide_eq_false (by omega),decide_eq_false (by omega)]; rfl
  · rw [hl]
    obtain ⟨m,rfl⟩ : ∃ m : Nat,k = (m : Int) := ⟨k.toNat,by omega⟩
    have hm : 0 < m := by omega
    have : l.length ≤ 100000 := by
      have : l.length * 1 ≤ l.length * m := Nat.mul_le_mul_left _ hm
      simp only [Int.toNat_natCast] at hz
      omega
    have h3 : (100000 : Int) ≤ (2 ^ 63 - 1) / (m : Int) := by
      rw [Int.le_ediv_iff_mul_le (by omega)]
      have : (m : Int) ≤ 100000 := k1
      omega
    omega
  · rw [hl]
    unfold Builtin.Str.tooLong
    exact decide_eq_false (by have := sizeLine_eq; omega)
  · by_cases h1 : k < 1
    · rw [if_pos h1]
      have e : k.toNat = 0 := by omega
      rw [e] at q
      exact ⟨by decide,⟨.str (S []),H,I.tok _,⟨_,rfl⟩,q⟩⟩
    · rw [if_neg h1]
      by_cases h2 : (k == 1 || (S l).length == 0) = true
      · rw [if_pos h2]
        have e : repL k.toNat l = l := by
          rw [hl,Bool.or_eq_true,beq_iff_eq,beq_iff_eq] at h2
          rcases h2 with rfl | h2
          · show repL 1 l = l
            simp [repL]
          · rw [List.length_eq_zero_iff.mp h2]; exact Zez _
        rw [e] at q
        exact ⟨.str (S l),H,I,⟨t,rfl⟩,q⟩
      · rw [if_neg h2]
        have e : (⟨(List.replicate k.toNat (S l).cps).foldl (· ++ ·) #[]⟩ : Str) = S (repL k.toNat l) := by
          have := Z9p (S l).cps k.toNat #[]
          rw [show (S l).cps.toList = l from rfl] at this
          show Str.mk _ = Str.mk _
          congr 1
          apply Array.ext'
          rw [this]; rfl
        rw [e]
        refine ⟨?_,⟨.str _,H,I.tok _,⟨_,rfl⟩,q⟩⟩
        rw [S_len,Zf0,Nat.mul_comm]
        have := sizeLine_eq
        omega
def IteS (x : Str) : It :=
  ⟨fun i _ => i < x.cps.size, fun i H v H' => ∃ T c, v = .ref T ∧ H T = none ∧ H' = upd H T (.tup [.int (i : Nat), .str ⟨#[c]⟩]) ∧ x.cps[i]? = some c, fun i _ => i = x.cps.size⟩
theorem Z6q {P : Program} {w : World} {A : Around} (hh : A.handled = none) (it : Addr) (x : Str) (t : Tok) :
    Draws P w A it [it] x.cps.size (fun i v => ∃ c u,x.cps[i]? = some c ∧ v = .str ⟨#[c]⟩ u) (fun i h => h.IsStrIter it (strIterType x) x t i) := by
  unfold strIterType
  split
  · exact Draws.strAscii hh it x t
  · exact Draws.strWide hh it x t
theorem Zbg {P : Program} {w : World} {K : PySem.W.Frag} {elts : List Expr} {kk : Nat} {tpos : Pos} (x : Str) (t : Tok) (e it : Addr) :
    Turn P w K (.Tuple elts kk tpos) (IteS x) [e,it] e (fun i h => (∃ old,IsEnum h e it ((i : Nat) : Int) old) ∧ h.IsStrIter it (strIterType x) x t i ∧ e ≠ it) where
  mem := List.mem_cons_self
  obj := by
    intro i h ⟨⟨old,he⟩,⟨o,ho,hc,hd⟩,_⟩ b hb
    rcases List.mem_cons.mp hb with rfl | hb
    · exact ⟨_,he,fun v q => nomatch q⟩
    · cases List.mem_singleton.mp hb
      exact ⟨o,ho,fun v q => by rw [hd] at q; cases q⟩
  keep := by
    intro i h h' ⟨⟨old, he⟩, ⟨o, ho, r⟩, hne⟩ k
    exact ⟨⟨old,k e List.mem_cons_self _ he⟩,⟨o,k it (List.mem_cons_of_mem _ List.mem_cons_self) o ho,r⟩,hne⟩
  item := by
    intro X hP hw hK hc i pins s σ H E I hf ⟨⟨old,he⟩,hit,hne⟩ hg
    cases hP; cases hw; cases hK
    have le : e < s.heap.objs.size := Heap.lt_size he
    have li : it < s.heap.objs.size := Heap.lt_size hit.choose_spec.1
    refine wpAny_pyNext_enum_itemD (Z6q (A := X.A.in1) (I.ok.hd hc) it x t) he hit hg hne (by simpa using hne) ?_
    rintro v h' tk ⟨c, u, hx, rfl⟩ ho st hT hsz hk
    refine ⟨_, rfl, wpAny_letOwnedTupleGo_enum (s := { s with heap := h', toks := tk + 1 }) ho ?_⟩
    intro h'' he' sb
    have hT2 := (sb.2 s.heap.objs.size (Nat.ne_of_gt le)).trans hT
    have new : ObjOk X.prog X.w (upd H s.heap.objs.size (.tup [.int (i : Nat), .str ⟨#[c]⟩])) h'' s.heap.objs.size (.tup [.int (i : Nat), .str ⟨#[c]⟩]) :=
      ⟨by show 2 ≤ sizeLine; decide,[.int i tk,.str ⟨#[c]⟩ u],.cons ⟨_,rfl⟩ (.cons ⟨_,rfl⟩ .nil),⟨_,hT2,rfl,_,rfl⟩⟩
    have I1 := I.turnedNew (t' := tk + 1) (ch := [e, it]) (fun b ob hb q => (sb.2 b (fun z => hb (by simp [z]))).trans (hk b ob (fun z => hb (by simp [z])) (fun z => hb (by simp [z])) q)) hf (Nat.le_refl _) new
    refine ⟨.ref s.heap.objs.size,_,I1,rfl,⟨_,c,rfl,I.hok.fresh (Nat.le_refl _),rfl,hx⟩,⟨⟨.str ⟨#[c]⟩ u,?_⟩,?_,hne⟩,?_⟩
    · rw [show ((i + 1 : Nat) : Int) = (i : Int) + 1 by omega]; exact he'
    · obtain ⟨o,o1,o2⟩ := st
      exact ⟨o,(sb.2 it (Ne.symm hne)).trans o1,o2⟩
    · intro b hb
      have : b < s.heap.objs.size := by
        rcases List.mem_cons.mp hb with rfl | hb
        · exact le
        · cases List.mem_singleton.mp hb; exact li
      rw [upd_ne (Nat.ne_of_lt this)]
      exact (hf b hb).1
  done := by
    intro X hP hw hK hc i pins s σ H E I hf ⟨⟨old,he⟩,hit,hne⟩ hg
    cases hP; cases hw; cases hK
    cases (show i = x.cps.size from hg)
    obtain ⟨f0,f1,f2,f3,f4,f5⟩ := hf it (List.mem_cons_of_mem _ List.mem_cons_self)
    refine wpAny_pyNext_enum_endD (Z6q (A := X.A.in1) (I.ok.hd hc) it x t) he hit ?_
    intro h' eb
    exact ⟨rfl, I.turned (t' := s.toks) (fun b o hb q => eb b o hb q) f0 f1 f3 f4 f5⟩
  self := by
    intro A i s Q E ⟨⟨_,he⟩,_⟩ h
    exact wpAny_pyIter_enum he h
def iEnumS (ta : TA) : TI := fun σ H R => ta σ H fun vs H1 => ∃ x : Str,vs = [.str x] ∧ R (IteS x) H1
theorem Zf1 {X : Cx} {e : Expr} {ta : TA} {p pos tpos : Pos} {elts : List Expr} {kk : Nat} (hg : Gl X "enumerate") (hm : X.mg "enumerate" = none)
    (ha : PA X [e] ta) (hs : starEach [e] X.env = [(false,eval e X.env)] := by rfl) :
    PI X (.Tuple elts kk tpos) (.Call (.Name "enumerate" p) [e] [] pos) (iEnumS ta) := by
  constructor
  intro pins s σ H R I h
  refine Call_ (ld_blt I hg hm boot_enumerate (PyProof.Rows.callWith_type1 ?_ hs rfl))
  refine thn (ha.run pos pins s σ H _ I h) ?_
  rintro us s1 ⟨vs,H1,I1,r1,x,rfl,q⟩
  obtain ⟨u,rfl,t,rfl⟩ := vals1 r1
  refine call_enumerate_str ?_
  intro h' he hit hsz hk
  refine wpAny_pyIter_enum he ?_
  have I2 : Inv X pins σ H1 { s1 with heap := h' } := I1.kept (t' := s1.toks) hk
  refine ⟨s1.heap.objs.size + 1,[s1.heap.objs.size + 1,s1.heap.objs.size],_,_,H1,rfl,I2,Zbg x t _ _,⟨⟨.none,he⟩,hit,Nat.succ_ne_self _⟩,?_,q⟩
  intro b hb
  have hle : s1.heap.objs.size ≤ b := by
    rcases List.mem_cons.mp hb with rfl | hb
    · exact Nat.le_add_right _ _
    · cases List.mem_singleton.mp hb; exact Nat.le_refl _
  exact I1.fpOk hle (I1.hok.fresh hle)
end Ap
set_option maxHeartbeats 4000000
namespace Ap
open PySem PySem.Spec PyProof.Rows L2 SX
section
variable {K : PySem.W.Frag} {σ : L2.St} {H : Hp} {ta tb te tl : TE} {tt : TT} {j : Nat} {vs : List Nat}
def sumL (ys : List (List Nat)) : Nat := (ys.map List.length).sum
theorem Zkf (ys : List (List Nat)) : ((ys.map S).map (·.length)).sum = sumL ys := by
  induction ys with
  | nil => rfl
  | cons y ys ih =>
    unfold sumL at *
    rw [List.map_cons,List.map_cons,List.sum_cons,ih,List.map_cons,List.sum_cons]
    show (S y).length + _ = _
    rw [S_len]
end
end Ap
set_option maxHeartbeats 4000000
namespace Ap
open PySem PySem.Spec PyProof.Rows L2 SX
def lst (c : Nat) (l : List Nat) : List Nat := l.drop (l.takeWhile (· == c)).length
def dec (i : Int) : List Nat := (toString i : Str).cps.toList
theorem Zf2 (i : Int) : (toString i : Str) = S (dec i) := (S_tl _).symm
theorem Zck {P : Program} {w : World} {K : PySem.W.Frag} {mg : Str → Option Value} {base : Heap} {x qual : Str} {params : Arguments} {body : List Stmt} {scope : Scope} {dvs : List V} {kws : List (Str × V)} {f : Addr} {fd : FuncData}
    {N ps : List Str} {k : Nat} {sp : Sp} (F : FunD K x qual params body scope dvs kws f fd) (S : FnScope N ps scope) (len : ∀ vs H Q E,sp vs H Q E → vs.length = ps.length)
    (hbody : ∀ (cdv : Value) (A : Around) (outer : List Env) (s : Shared) (H : Hp) (vs : List V) (Q : VK) (E : XK),Room k (A.deeper (envOfC qual scope s.heap.objs.size f cdv)) → sp vs H Q E →
      ∃ t, PSs (cxOf CX0 P w K mg base N qual scope f cdv A outer s H E).nox body t ∧ t { nx := fun _ H' => Q .non H', rt := Q } (start N vs) H) : FnOk P w K mg base CX0 (k + 1) f fd ps sp :=
  F.ok S len fun cdv A outer s H vs Q E hr h => let ⟨t,p,q⟩ := hbody cdv A outer s H vs Q E hr h; ⟨t,p.nox,q⟩
def LsAll (H : Hp) : List Addr → List (List V) → Prop
  | [],[] => True
  | q :: qs,y :: ys => H q = some (.lst y) ∧ LsAll H qs ys
  | _,_ => False
theorem LsAll.to {H H' : Hp} : ∀ {qs : List Addr} {yss : List (List V)}, LsAll H qs yss → (∀ q y, q ∈ qs → H q = some (.lst y) → H' q = some (.lst y)) → LsAll H' qs yss
  | [],[],_,_ => trivial
  | q :: qs, y :: ys, h, k => ⟨k q y List.mem_cons_self h.1, h.2.to fun q' y' hq => k q' y' (List.mem_cons_of_mem _ hq)⟩
  | [],_ :: _,h,_ => h
  | _ :: _,[],h,_ => h
theorem LsAll.same {H H' : Hp} {qs : List Addr} {yss : List (List V)} (h : LsAll H qs yss) (s : Same H H') : LsAll H' qs yss := h.to fun q y _ e => s q _ e
theorem LsAll.snoc {H : Hp} {q : Addr} {y : List V} : ∀ {qs : List Addr} {yss : List (List V)},LsAll H qs yss → H q = some (.lst y) → LsAll H (qs ++ [q]) (yss ++ [y])
  | [],[],_,k => ⟨k,trivial⟩
  | _ :: _,_ :: _,h,k => ⟨h.1,h.2.snoc k⟩
  | [],_ :: _,h,_ => h.elim
  | _ :: _,[],h,_ => h.elim
theorem LsAll.ne {H : Hp} {p : Addr} (hp : H p = none) : ∀ {qs : List Addr} {yss : List (List V)},LsAll H qs yss → ∀ q ∈ qs,q ≠ p
  | q :: qs,y :: ys,h,x,hx => by
    rcases List.mem_cons.mp hx with rfl | hx
    · intro e
      have h1 := h.1
      rw [e,hp] at h1
      cases h1
    · exact h.2.ne hp x hx
  | [],_,_,_,hx => nomatch hx
  | _ :: _,[],h,_,_ => h.elim
theorem LsAll.len {H : Hp} : ∀ {qs : List Addr} {yss : List (List V)},LsAll H qs yss → qs.length = yss.length
  | [],[],_ => rfl
  | _ :: _,_ :: _,h => by rw [List.length_cons,List.length_cons,h.2.len]
  | [],_ :: _,h => h.elim
  | _ :: _,[],h => h.elim
theorem LsAll.get {H : Hp} : ∀ {qs : List Addr} {yss : List (List V)} {i : Nat} {x : V},LsAll H qs yss → (qs.map V.ref)[i]? = some x → ∃ q y,x = .ref q ∧ yss[i]? = some y ∧ H q = some (.lst y)
  | q :: qs,y :: ys,0,x,h,e => ⟨q,y,(Option.some.inj e).symm,rfl,h.1⟩
  | q :: qs,y :: ys,i + 1,x,h,e => by
    obtain ⟨q', y', e1, e2, e3⟩ := LsAll.get (i := i) h.2 (by simpa using e)
    exact ⟨q', y', e1, by simpa using e2, e3⟩
  | [],[],i,x,h,e => by simp at e
  | [],_ :: _,_,_,h,_ => h.elim
  | _ :: _,[],_,_,h,_ => h.elim
def cont (H : Hp) : V → List V
  | .ref q => match H q with
    | some (.lst y) => y
    | _ => []
  | _ => []
theorem LsAll.cont {H : Hp} {α : Type} (f : List V → α) : ∀ {qs : List Addr} {yss : List (List V)},LsAll H qs yss → (qs.map V.ref).map (fun x => f (cont H x)) = yss.map f
  | [],[],_ => rfl
  | q :: qs,y :: ys,h => by
    rw [List.map_cons,List.map_cons,List.map_cons,h.2.cont f]
    have e : Ap.cont H (.ref q) = y := by
      show (match H q with
        | some (.lst y) => y
        | _ => []) = y
      rw [h.1]
    rw [e]
  | [],_ :: _,h => h.elim
  | _ :: _,[],h => h.elim
def EvLL (te : TE) (σ : L2.St) (H : Hp) (yss : List (List V)) : Prop :=
  ∀ H1,Same H H1 → ∀ Q : VK,(∀ p qs H2,H1 p = none → Same H1 H2 → H2 p = some (.lst (qs.map V.ref)) → LsAll H2 qs yss → Q (.ref p) H2) → te σ H1 Q
theorem EvLL.is {te : TE} {σ : L2.St} {H : Hp} {a b : List (List V)} (h : EvLL te σ H a) (e : a = b) : EvLL te σ H b := e ▸ h
end Ap
set_option maxHeartbeats 4000000
namespace Ap
open PySem PySem.Spec PyProof.Rows L2 SX
def rOr (r1 r2 : R2) : R2 := fun x y H Q => r1 x y H Q ∨ r2 x y H Q
def rOrC (r1 r2 : List V → Hp → VK → Prop) : List V → Hp → VK → Prop := fun xs H Q => r1 xs H Q ∨ r2 xs H Q
theorem Z1v {X : Cx} {f : Value} {r1 r2 : List V → Hp → VK → Prop} (h1 : CallR X f r1) (h2 : CallR X f r2) : CallR X f (rOrC r1 r2) := fun pins s σ H xs us Q I rs h =>
  h.elim (h1 pins s σ H xs us Q I rs) (h2 pins s σ H xs us Q I rs)
open PySem.Builtin PySem.Builtin.Str in
theorem Zhu (x : Str) (t : Tok) (a : Addr) : ∃ other : Sem Fin,«str.startswith» ⟨[.str x t,.ref a],[]⟩ = (do
    if let some p ← asStr? (.ref a) then return ← ret (.bool (0 + p.length ≤ min x.length x.length && subAt x p 0))
    if ← isInstance (.ref a) (.type "tuple") then
      rule s!"str.startswith.tuple"
      let some items ← seqItems? (.ref a) | unsupported s!"internal:str.startswith"
      for y in items do
        match ← asStr? y with
        | some p => if 0 + p.length ≤ min x.length x.length && subAt x p 0 then return ← ret (.bool true)
        | none =>
          rule s!"str.startswith.tuple-item-not-str"
          raiseError "TypeError" s!"tuple for startswith must only contain str, not {← typeNameOf y}"
      return ← ret (.bool false)
    other) := ⟨_,rfl⟩
open PySem.Builtin PySem.Builtin.Str in
theorem Zf3 (x : Str) (t : Tok) (a : Addr) (l : List (Str × Tok)) :
    Meets («str.startswith» ⟨[.str x t, .ref a], []⟩) (fun _ R s => (∃ o n, s.heap.get? a = some o ∧ o.cls = .type "tuple" ∧ o.data = .seq (strValues l).toArray n) ∧ R (.ok (.ret (.bool (l.any fun p => Txt.startswith x p.1)))) s) := by
  obtain ⟨other,htree⟩ := Zhu x t a
  intro prog w A R s ⟨⟨o,n,ho,hc,hdata⟩,hpost⟩
  rw [htree]
  refine wpAny_bind ?_
  unfold asStr?
  refine wpAny_bind (wpAny_load ho ?_)
  rw [hdata]
  refine wpAny_pure ?_
  refine wpAny_bind (wpAny_isInstance (T := "tuple") ⟨o, ho, hc⟩ isSubtype_tuple_tuple ?_)
  refine wpAny_bind (wpAny_rule ?_)
  refine wpAny_bind (wpAny_seqItems ho hdata ?_)
  refine wpAny_bind ?_
  rw [← Array.forIn_toList,List.toList_toArray]
  refine wpAny_forIn_list _ (fun rest r s' => r.1 = none ∧ s' = s ∧ ∃ m : List (Str × Tok), rest = strValues m ∧ (l.any fun p => Txt.startswith x p.1) = (m.any fun p => Txt.startswith x p.1)) _ ?_ ?_ _ _ ⟨rfl, rfl, l, rfl, rfl⟩
  · rintro v rest r s' ⟨hr, rfl, m, hm, e⟩
    match m,hm with
    | (y,u) :: m,hm =>
      cases hm
      refine wpAny_bind (wpAny_pure ?_)
      cases hb : Txt.startswith x y
      · have hb' := hb
        unfold Txt.startswith at hb'
        simp only [Nat.min_self, hb']
        refine wpAny_pure ⟨rfl,rfl,m,rfl,?_⟩
        rw [e,List.any_cons,hb,Bool.false_or]
      · have hb' := hb
        unfold Txt.startswith at hb'
        simp only [Nat.min_self, hb']
        rw [if_pos trivial]
        refine wpAny_bind (wpAny_pure (wpAny_pure (wpAny_pure ?_)))
        rw [e,List.any_cons,hb,Bool.true_or] at hpost
        exact hpost
  · rintro ⟨r1, r2⟩ s' ⟨hr, rfl, m, hm, e⟩
    simp only at hr
    subst hr
    match m,hm with
    | [],_ =>
      rw [e] at hpost
      exact wpAny_pure hpost
abbrev rSwT (K : PySem.W.Frag) : V → List V → Hp → VK → Prop := fun x xs H Q => ∃ (a : Str) (p : Addr) (ys : List Str),x = .str a ∧ xs = [.ref p] ∧ SqT K H p (ys.map V.str) ∧ Q (.bl (ys.any fun y => Txt.startswith a y)) H
theorem Z4z {X : Cx} : MtR X "str.startswith" (rSwT X.K) := by
  intro pins s σ H x xs v us Q I rx rs h
  obtain ⟨a,p,ys,rfl,rfl,hp,q⟩ := h
  obtain ⟨t,rfl⟩ := rx
  cases rs with
  | cons r1 rs =>
    cases rs
    cases r1
    obtain ⟨its,r,ht,_⟩ := I.tuple hp
    obtain ⟨l,hv,hy⟩ := strsAre_values (strs_of_vals r)
    obtain ⟨o,ho,hc,n,hd⟩ := ht
    refine call_meets F.slot_str_startswith (typeIs_str _ _ _) F.entry_str_startswith (F.args_str_startswith_2 _ _) (Zf3 a t p l) ⟨⟨o,n,ho,hc,by rw [hd,hv]⟩,.bl (ys.any fun y => Txt.startswith a y),H,I,?_,q⟩
    rw [← hy,List.any_map]
    rfl
end Ap
set_option maxHeartbeats 4000000
namespace Fx
class Tb where
  T : List (PySem.Addr × PySem.Str)
instance (priority := low) tb0 : Tb := ⟨[]⟩
open PySem PySem.Spec PyProof.Rows L2 SX Ap
variable [Tb]
inductive T where
  | non | bl (b : Bool) | int (i : Int) | str (l : List Nat) | tup (ts : List T) | loc (i : Nat) | frl (ts : List T) | ref (a : Addr) | ty (n : String) | lam (f c : Addr) (q : PySem.Str) (J : List Addr → Hp → Prop) | ktp (ts : List T)
inductive O where
  | lst (ts : List T) | dk (kvs : List (Key × T)) | dt (kvs : List (List Key × T)) | ins (C : String) (fs : List (String × T))
abbrev Sto := List O
structure Ex where
  cls : PySem.Str
  fs : List (PySem.Str × T)
inductive R (α : Type) where
  | ok (a : α) (S : Sto) | exc (x : Ex) (S : Sto) | stuck
def R.bind {α β : Type} : R α → (α → Sto → R β) → R β
  | .ok a S,k => k a S
  | .exc x S,_ => .exc x S
  | .stuck,_ => .stuck
def lift {α : Type} : Option (α × Sto) → R α
  | some (a,S) => .ok a S
  | none => .stuck
@[simp] theorem Zv {α β : Type} (a : α) (S : Sto) (k : α → Sto → R β) : (R.ok a S).bind k = k a S := (rfl)
@[simp] theorem bind_exc {α β : Type} (x : Ex) (S : Sto) (k : α → Sto → R β) : (R.exc x S).bind k = .exc x S := (rfl)
@[simp] theorem Zkd {α β : Type} (k : α → Sto → R β) : (R.stuck (α := α)).bind k = .stuck := (rfl)
@[simp] theorem Zcl {α : Type} (a : α) (S : Sto) : lift (some (a,S)) = .ok a S := (rfl)
@[simp] theorem Zkg {α : Type} : lift (none : Option (α × Sto)) = .stuck := (rfl)
def FrL (K : PySem.W.Frag) (H : Hp) (a : Addr) (xs : List V) : Prop :=
  (∃ o,H a = some (.frz o (.lst xs))) ∨
    ∃ (o : Obj) (its : Array Value) (n : Nat), K.lookup a = some o ∧ o.cls = .type "list" ∧ o.dict = none ∧ o.data = .seq its n ∧ its.size ≤ sizeLine ∧ Vals xs its.toList
theorem FrL.sq {K : PySem.W.Frag} {H : Hp} {a : Addr} {xs : List V} (h : FrL K H a xs) : SqL K H a xs := h.elim (fun ⟨o,e⟩ => .inl (.inr ⟨o,e⟩)) .inr
def HMut : HO → Prop
  | .lst _ => True | .dK _ => True | .dT _ => True | .ins _ _ _ => True | _ => False
structure Gr (ι ι' : List Addr) (H H' : Hp) : Prop where
  pre : ∀ (i : Nat) a, ι[i]? = some a → ι'[i]? = some a
  tup : ∀ a xs, H a = some (.tup xs) → H' a = some (.tup xs)
  frz : ∀ a o u, H a = some (.frz o u) → H' a = some (.frz o u)
  xd : ∀ a fs, H a = some (.xd fs) → H' a = some (.xd fs)
  ext : ∀ a φ, H a = some (.ext φ) → H' a = some (.ext φ)
  tab : LamX.Tabs Tb.T H → LamX.Tabs Tb.T H'
  fre : ∀ a u, a ∈ ι' → H a = some u → HMut u → a ∈ ι
  out : ∀ a u, H a = some u → HMut u → a ∉ ι → H' a = some u
theorem Gr.refl {ι : List Addr} {H : Hp} : Gr ι ι H H := ⟨fun _ _ h => h,fun _ _ h => h,fun _ _ _ h => h,fun _ _ h => h,fun _ _ h => h,fun h => h,fun _ _ h _ _ => h,fun _ _ h _ _ => h⟩
theorem Gr.trans {ι ι1 ι2 : List Addr} {H H1 H2 : Hp} (a : Gr ι ι1 H H1) (b : Gr ι1 ι2 H1 H2) : Gr ι ι2 H H2 :=
  ⟨fun i x h => b.pre i x (a.pre i x h),fun x xs h => b.tup x xs (a.tup x xs h),fun x o u h => b.frz x o u (a.frz x o u h),fun x fs h => b.xd x fs (a.xd x fs h),fun x φ h => b.ext x φ (a.ext x φ h),fun h => b.tab (a.tab h),fun x u hx h m => Classical.byContradiction fun n => n (a.fre x u (b.fre x u hx (a.out x u h m n) m) h m),fun x u h m n => b.out x u (a.out x u h m n) m fun hx => n (a.fre x u hx h m)⟩
theorem Gr.same {ι : List Addr} {H H' : Hp} (s : Same H H') : Gr ι ι H H' := ⟨fun _ _ h => h, fun _ _ h => s _ _ h, fun _ _ _ h => s _ _ h, fun _ _ h => s _ _ h, fun _ _ h => s _ _ h, fun h => h.ext s, fun _ _ h _ _ => h, fun _ _ h _ _ => s _ _ h⟩
mutual
inductive Rep (K : PySem.W.Frag) (ι : List Addr) (H : Hp) : V → T → Prop
  | non : Rep K ι H .non .non
  | bl (b : Bool) : Rep K ι H (.bl b) (.bl b)
  | int (i : Int) : Rep K ι H (.int i) (.int i)
  | str (l : List Nat) : Rep K ι H (.str (S l)) (.str l)
  | tup {a : Addr} {vs : List V} {ts : List T} : SqT K H a vs → Reps K ι H vs ts → Rep K ι H (.ref a) (.tup ts)
  | loc {i : Nat} {a : Addr} : ι[i]? = some a → Rep K ι H (.ref a) (.loc i)
  | frl {a : Addr} {vs : List V} {ts : List T} : FrL K H a vs → Reps K ι H vs ts → Rep K ι H (.ref a) (.frl ts)
  | ref (a : Addr) : Rep K ι H (.ref a) (.ref a)
  | ty (n : String) : Rep K ι H (.ty n) (.ty n)
  | lam {f c : Addr} {q : PySem.Str} {J : List Addr → Hp → Prop} : H c = some (LamX.CodeO c q) → (∀ ι' H', Gr ι ι' H H' → J ι' H') → Rep K ι H (.ref f) (.lam f c q J)
  | ktp {a : Addr} {vs : List V} {ts : List T} : H a = some (.tup vs) → Reps K ι H vs ts → Rep K ι H (.ref a) (.ktp ts)
inductive Reps (K : PySem.W.Frag) (ι : List Addr) (H : Hp) : List V → List T → Prop
  | nil : Reps K ι H [] []
  | cons {v : V} {vs : List V} {t : T} {ts : List T} : Rep K ι H v t → Reps K ι H vs ts → Reps K ι H (v :: vs) (t :: ts)
end
theorem SqT.gr {K : PySem.W.Frag} {ι ι' : List Addr} {H H' : Hp} {a : Addr} {xs : List V} (g : Gr ι ι' H H') (h : SqT K H a xs) : SqT K H' a xs := by
  rcases h with (h | ⟨o,h⟩) | h
  · exact .inl (.inl (g.tup _ _ h))
  · exact .inl (.inr ⟨o,g.frz _ _ _ h⟩)
  · exact .inr h
theorem FrL.gr {K : PySem.W.Frag} {ι ι' : List Addr} {H H' : Hp} {a : Addr} {xs : List V} (g : Gr ι ι' H H') (h : FrL K H a xs) : FrL K H' a xs := by
  rcases h with ⟨o,h⟩ | h
  · exact .inl ⟨o,g.frz _ _ _ h⟩
  · exact .inr h
mutual
theorem Rep.gr {K : PySem.W.Frag} {ι ι' : List Addr} {H H' : Hp} (g : Gr ι ι' H H') : ∀ {v : V} {t : T}, Rep K ι H v t → Rep K ι' H' v t
  | _,_,.non => .non
  | _,_,.bl b => .bl b
  | _,_,.int i => .int i
  | _,_,.str l => .str l
  | _,_,.tup h r => .tup (SqT.gr g h) (Reps.gr g r)
  | _,_,.loc h => .loc (g.pre _ _ h)
  | _,_,.frl h r => .frl (h.gr g) (Reps.gr g r)
  | _,_,.ref a => .ref a
  | _,_,.ty n => .ty n
  | _, _, .lam h j => .lam (g.ext _ _ h) fun ι' H' g' => j ι' H' (g.trans g')
  | _,_,.ktp h r => .ktp (g.tup _ _ h) (Reps.gr g r)
theorem Reps.gr {K : PySem.W.Frag} {ι ι' : List Addr} {H H' : Hp} (g : Gr ι ι' H H') : ∀ {vs : List V} {ts : List T}, Reps K ι H vs ts → Reps K ι' H' vs ts
  | _,_,.nil => .nil
  | _,_,.cons h r => .cons (Rep.gr g h) (Reps.gr g r)
end
section
variable {K : PySem.W.Frag} {ι : List Addr} {H : Hp}
theorem Reps.length : ∀ {vs : List V} {ts : List T},Reps K ι H vs ts → vs.length = ts.length
  | _,_,.nil => rfl
  | _,_,.cons _ r => congrArg (· + 1) r.length
theorem Reps.get : ∀ {vs : List V} {ts : List T} {i : Nat} {t : T},Reps K ι H vs ts → ts[i]? = some t → ∃ v,vs[i]? = some v ∧ Rep K ι H v t
  | _,_,_,_,.nil,e => by simp at e
  | _,_,0,_,.cons r _,e => by simp at e; subst e; exact ⟨_,rfl,r⟩
  | _,_,i + 1,t,.cons _ q,e => by
    obtain ⟨v,h1,h2⟩ := Reps.get (i := i) (t := t) q (by simpa using e)
    exact ⟨v,by simpa using h1,h2⟩
theorem Reps.append : ∀ {vs ws : List V} {ts us : List T},Reps K ι H vs ts → Reps K ι H ws us → Reps K ι H (vs ++ ws) (ts ++ us)
  | _,_,_,_,.nil,s => s
  | _,_,_,_,.cons r t,s => .cons r (Reps.append t s)
theorem Reps.take : ∀ {vs : List V} {ts : List T} (n : Nat),Reps K ι H vs ts → Reps K ι H (vs.take n) (ts.take n)
  | _,_,0,_ => by simpa using Reps.nil
  | _,_,_ + 1,.nil => by simpa using Reps.nil
  | _,_,n + 1,.cons r t => .cons r (Reps.take n t)
theorem Reps.drop : ∀ {vs : List V} {ts : List T} (n : Nat),Reps K ι H vs ts → Reps K ι H (vs.drop n) (ts.drop n)
  | _,_,0,r => r
  | _,_,_ + 1,.nil => .nil
  | _,_,n + 1,.cons _ t => Reps.drop n t
theorem Reps.set {v : V} {t : T} (r : Rep K ι H v t) : ∀ {vs : List V} {ts : List T} (i : Nat),Reps K ι H vs ts → Reps K ι H (vs.set i v) (ts.set i t)
  | _,_,_,.nil => .nil
  | _,_,0,.cons _ q => .cons r q
  | _,_,i + 1,.cons p q => .cons p (Reps.set r i q)
theorem Reps.reverse : ∀ {vs : List V} {ts : List T},Reps K ι H vs ts → Reps K ι H vs.reverse ts.reverse
  | _,_,.nil => .nil
  | _,_,.cons r t => by
    rw [List.reverse_cons,List.reverse_cons]
    exact (Reps.reverse t).append (.cons r .nil)
end
inductive RepP {κ : Type} (K : PySem.W.Frag) (ι : List Addr) (H : Hp) : List (κ × V) → List (κ × T) → Prop
  | nil : RepP K ι H [] []
  | cons {k : κ} {v : V} {vs : List (κ × V)} {t : T} {ts : List (κ × T)} : Rep K ι H v t → RepP K ι H vs ts → RepP K ι H ((k,v) :: vs) ((k,t) :: ts)
theorem RepP.gr {κ : Type} {K : PySem.W.Frag} {ι ι' : List Addr} {H H' : Hp} (g : Gr ι ι' H H') : ∀ {vs : List (κ × V)} {ts : List (κ × T)}, RepP K ι H vs ts → RepP K ι' H' vs ts
  | _,_,.nil => .nil
  | _,_,.cons h r => .cons (Rep.gr g h) (RepP.gr g r)
theorem RepP.length {κ : Type} {K : PySem.W.Frag} {ι : List Addr} {H : Hp} : ∀ {vs : List (κ × V)} {ts : List (κ × T)},RepP K ι H vs ts → vs.length = ts.length
  | _,_,.nil => rfl
  | _,_,.cons _ r => congrArg (· + 1) r.length
inductive RepF (K : PySem.W.Frag) (ι : List Addr) (H : Hp) : List (PySem.Str × V) → List (String × T) → Prop
  | nil : RepF K ι H [] []
  | cons {k : String} {v : V} {vs : List (PySem.Str × V)} {t : T} {ts : List (String × T)} : Rep K ι H v t → RepF K ι H vs ts → RepF K ι H ((PySem.Str.ofString k,v) :: vs) ((k,t) :: ts)
theorem RepF.gr {K : PySem.W.Frag} {ι ι' : List Addr} {H H' : Hp} (g : Gr ι ι' H H') : ∀ {vs : List (PySem.Str × V)} {ts : List (String × T)}, RepF K ι H vs ts → RepF K ι' H' vs ts
  | _,_,.nil => .nil
  | _,_,.cons h r => .cons (Rep.gr g h) (RepF.gr g r)
def ObR (K : PySem.W.Frag) (ι : List Addr) (H : Hp) (a : Addr) : O → Prop
  | .lst ts => ∃ vs,H a = some (.lst vs) ∧ Reps K ι H vs ts
  | .dk kvs => ∃ vs,H a = some (.dK vs) ∧ RepP K ι H vs kvs
  | .dt kvs => ∃ vs,H a = some (.dT vs) ∧ RepP K ι H vs kvs
  | .ins C fs => ∃ Ca dx vs,PySem.W.nsIn K mainGlobals (PySem.Str.ofString C) = some (some (.ref Ca)) ∧ H a = some (.ins Ca dx vs) ∧ RepF K ι H vs fs
structure Sim (K : PySem.W.Frag) (ι : List Addr) (S : Sto) (H : Hp) : Prop where
  len : ι.length = S.length
  nd : ι.Nodup
  ob : ∀ (i : Nat) a o,ι[i]? = some a → S[i]? = some o → ObR K ι H a o
  tab : LamX.Tabs Tb.T H
theorem ObR.gr {K : PySem.W.Frag} {ι ι' : List Addr} {H H' : Hp} {a : Addr} {o : O} (g : Gr ι ι' H H') (e : H' a = H a) (h : ObR K ι H a o) : ObR K ι' H' a o := by
  cases o with
  | lst ts => obtain ⟨vs,h,r⟩ := h; exact ⟨vs,e.trans h,r.gr g⟩
  | dk ts => obtain ⟨vs,h,r⟩ := h; exact ⟨vs,e.trans h,r.gr g⟩
  | dt ts => obtain ⟨vs,h,r⟩ := h; exact ⟨vs,e.trans h,r.gr g⟩
  | ins C ts => obtain ⟨Ca,dx,vs,hn,h,r⟩ := h; exact ⟨Ca,dx,vs,hn,e.trans h,r.gr g⟩
theorem ObR.has {K : PySem.W.Frag} {ι : List Addr} {H : Hp} {a : Addr} {o : O} (h : ObR K ι H a o) : ∃ u,H a = some u := by
  cases o with
  | lst ts => obtain ⟨vs,h,r⟩ := h; exact ⟨_,h⟩
  | dk ts => obtain ⟨vs,h,r⟩ := h; exact ⟨_,h⟩
  | dt ts => obtain ⟨vs,h,r⟩ := h; exact ⟨_,h⟩
  | ins C ts => obtain ⟨Ca,dx,vs,hn,h,r⟩ := h; exact ⟨_,h⟩
theorem ObR.mut {K : PySem.W.Frag} {ι : List Addr} {H : Hp} {a : Addr} {o : O} (h : ObR K ι H a o) : ∃ u,H a = some u ∧ HMut u := by
  cases o with
  | lst ts => obtain ⟨vs,h,r⟩ := h; exact ⟨_,h,trivial⟩
  | dk ts => obtain ⟨vs,h,r⟩ := h; exact ⟨_,h,trivial⟩
  | dt ts => obtain ⟨vs,h,r⟩ := h; exact ⟨_,h,trivial⟩
  | ins C ts => obtain ⟨Ca,dx,vs,hn,h,r⟩ := h; exact ⟨_,h,trivial⟩
section
variable {K : PySem.W.Frag} {ι : List Addr} {H H' : Hp} {Z : Sto}
theorem Sim.same (s : Sim K ι Z H) (m : Same H H') : Sim K ι Z H' := ⟨s.len, s.nd, fun i a o e1 e2 => by
  have h := s.ob i a o e1 e2
  obtain ⟨u,hu⟩ := h.has
  exact h.gr (Gr.same m) ((m _ _ hu).trans hu.symm),s.tab.ext m⟩
theorem Sim.at (s : Sim K ι Z H) {i : Nat} {o : O} (e : Z[i]? = some o) : ∃ a,ι[i]? = some a ∧ ObR K ι H a o := by
  have h1 : i < Z.length := (List.getElem?_eq_some_iff.mp e).1
  have h2 : i < ι.length := by rw [s.len]; exact h1
  exact ⟨ι[i],List.getElem?_eq_getElem h2,s.ob i _ o (List.getElem?_eq_getElem h2) e⟩
theorem Gr.new {p : Addr} {o : HO} (n : H p = none) : Gr ι (ι ++ [p]) H (upd H p o) :=
  ⟨fun i a h => by rw [List.getElem?_append_left (List.getElem?_eq_some_iff.mp h).1]; exact h,fun a xs h => by rw [upd_ne (ne_of_none h n)]; exact h,fun a o u h => by rw [upd_ne (ne_of_none h n)]; exact h,fun a fs h => by rw [upd_ne (ne_of_none h n)]; exact h,fun a φ h => by rw [upd_ne (ne_of_none h n)]; exact h,fun h => h.ext fun b o e => by rw [upd_ne (ne_of_none e n)]; exact e,fun a u h e m => (List.mem_append.mp h).elim id fun k => absurd e (by rw [List.mem_singleton.mp k,n]; intro z; cases z),fun a u h _ _ => by rw [upd_ne (ne_of_none h n)]; exact h⟩
theorem Gr.new0 {p : Addr} {o : HO} (n : H p = none) : Gr ι ι H (upd H p o) := Gr.same (Wd n)
theorem Sim.new (s : Sim K ι Z H) {p : Addr} {o : HO} {ob : O} (n : H p = none) (r : ObR K (ι ++ [p]) (upd H p o) p ob) : Sim K (ι ++ [p]) (Z ++ [ob]) (upd H p o) := by
  refine ⟨by rw [List.length_append,List.length_append,s.len]; rfl,?_,fun i a x e1 e2 => ?_,(Gr.new (ι := ι) n).tab s.tab⟩
  · rw [List.nodup_append]
    refine ⟨s.nd,by simp,fun a ha b hb => ?_⟩
    rw [List.mem_singleton.mp hb]
    intro e
    obtain ⟨i,h1,h2⟩ := List.mem_iff_getElem.mp ha
    have h3 : i < Z.length := by rw [← s.len]; exact h1
    obtain ⟨u,hu⟩ := (s.ob i a _ (by rw [← h2]; exact List.getElem?_eq_getElem h1) (List.getElem?_eq_getElem h3)).has
    rw [e,n] at hu
    cases hu
  · by_cases hi : i < Z.length
    · rw [List.getElem?_append_left hi] at e2
      rw [List.getElem?_append_left (by rw [s.len]; exact hi)] at e1
      have h := s.ob i a x e1 e2
      obtain ⟨u,hu⟩ := h.has
      exact h.gr (Gr.new n) (by rw [upd_ne (ne_of_none hu n)])
    · have hi' : Z.length ≤ i := Nat.le_of_not_lt hi
      rw [List.getElem?_append_right hi'] at e2
      rw [List.getElem?_append_right (by rw [s.len]; exact hi'), s.len] at e1
      obtain ⟨h1,h2⟩ := List.getElem?_eq_some_iff.mp e2
      have h0 : i - Z.length = 0 := by simpa using h1
      rw [h0] at e1 e2
      simp at e1 e2
      subst e1 e2
      exact r
theorem Gr.mut {a : Addr} {u o : HO} (h : H a = some u) (m : HMut u) (hi : a ∈ ι) : Gr ι ι H (upd H a o) := by
  have ne : ∀ b x,H b = some x → ¬ HMut x → b ≠ a := fun b x e nm z => by subst z; rw [h] at e; cases e; exact nm m
  exact ⟨fun _ _ h => h,fun b xs e => by rw [upd_ne (ne b _ e fun z => z)]; exact e,fun b o u e => by rw [upd_ne (ne b _ e fun z => z)]; exact e,fun b fs e => by rw [upd_ne (ne b _ e fun z => z)]; exact e,fun b φ e => by rw [upd_ne (ne b _ e fun z => z)]; exact e,fun t p hp => by
    obtain ⟨ps,h1,h2,h3⟩ := t p hp
    refine ⟨ps,by rw [upd_ne (ne _ _ h1 fun z => z)]; exact h1,h2,fun pos cv hc => ?_⟩
    obtain ⟨c,e1,e2⟩ := h3 pos cv hc
    exact ⟨c, e1, by rw [upd_ne (ne c _ e2 fun z => z)]; exact e2⟩, fun _ _ k _ _ => k, fun b u' e _ nb => by
    have hb : b ≠ a := fun z => nb (by rw [z]; exact hi)
    rw [upd_ne hb]; exact e⟩
theorem Sim.set (s : Sim K ι Z H) {i : Nat} {a : Addr} {o : HO} {ob : O} (hi : ι[i]? = some a) (r : ObR K ι (upd H a o) a ob) : Sim K ι (Z.set i ob) (upd H a o) := by
  have h1 : i < ι.length := (List.getElem?_eq_some_iff.mp hi).1
  have h2 : i < Z.length := by rw [← s.len]; exact h1
  obtain ⟨u,hu,mu⟩ := (s.ob i a _ hi (List.getElem?_eq_getElem h2)).mut
  refine ⟨by rw [List.length_set]; exact s.len,s.nd,fun j b x e1 e2 => ?_,(Gr.mut (ι := ι) hu mu (List.mem_of_getElem? hi)).tab s.tab⟩
  by_cases hj : j = i
  · subst hj
    rw [hi] at e1; cases e1
    rw [List.getElem?_set_self h2] at e2
    cases e2
    exact r
  · rw [List.getElem?_set_ne (Ne.symm hj)] at e2
    have hb : b ≠ a := fun z => by
      subst z
      obtain ⟨k1,k2⟩ := List.getElem?_eq_some_iff.mp e1
      obtain ⟨k3,k4⟩ := List.getElem?_eq_some_iff.mp hi
      exact hj ((List.getElem_inj s.nd).mp (k2.trans k4.symm))
    exact (s.ob j b x e1 e2).gr (Gr.mut hu mu (List.mem_of_getElem? hi)) (upd_ne hb)
end
abbrev Env := List (Option T)
def Envs (K : PySem.W.Frag) (ι : List Addr) (H : Hp) (σ : L2.St) (ρ : Env) : Prop := ∀ (i : Nat) t,ρ[i]? = some (some t) → ∃ v,σ[i]? = some (some v) ∧ Rep K ι H v t
theorem Envs.gr {K : PySem.W.Frag} {ι ι' : List Addr} {H H' : Hp} {σ : L2.St} {ρ : Env} (e : Envs K ι H σ ρ) (g : Gr ι ι' H H') : Envs K ι' H' σ ρ := fun i t h => by
  obtain ⟨v,h1,h2⟩ := e i t h
  exact ⟨v,h1,h2.gr g⟩
theorem Envs.set {K : PySem.W.Frag} {ι : List Addr} {H : Hp} {σ : L2.St} {ρ : Env} (e : Envs K ι H σ ρ) {v : V} {t : T} (r : Rep K ι H v t) (i : Nat) (hl : σ.length = ρ.length) : Envs K ι H (σ.set i (some v)) (ρ.set i (some t)) := fun j u h => by
  by_cases hj : j = i
  · subst hj
    by_cases hlt : j < ρ.length
    · rw [List.getElem?_set_self hlt] at h
      cases h
      exact ⟨v,List.getElem?_set_self (by rw [hl]; exact hlt),r⟩
    · rw [List.getElem?_eq_none (by rw [List.length_set]; omega)] at h
      cases h
  · rw [List.getElem?_set_ne (Ne.symm hj)] at h
    obtain ⟨w,h1,h2⟩ := e j u h
    exact ⟨w,by rw [List.getElem?_set_ne (Ne.symm hj)]; exact h1,h2⟩
def RepX (K : PySem.W.Frag) (ι : List Addr) (H : Hp) (cls : Value) (d : Option Addr) (x : Ex) : Prop :=
  (∃ c,cls = .ref c ∧ PySem.W.nsIn K mainGlobals x.cls = some (some (.ref c))) ∧ (match x.fs with
    | [] => d = none
    | fs => ∃ dd vs,d = some dd ∧ H dd = some (.xd vs) ∧ RepP K ι H vs fs)
section
variable {α β γ δ : Type}
def Post (rep : List Addr → Hp → β → α → Prop) (K : PySem.W.Frag) (W : WX) (σ : L2.St) (ι : List Addr) (H : Hp) (Q : β → Hp → Prop) : R α → Prop
  | .ok a S' => ∀ ι' H' b, Gr ι ι' H H' → Sim K ι' S' H' → rep ι' H' b a → Q b H'
  | .exc x S' => ∀ ι' H' cls d, Gr ι ι' H H' → Sim K ι' S' H' → RepX K ι' H' cls d x → W cls d σ H'
  | .stuck => False
def PostO (rep : List Addr → Hp → β → α → Prop) (K : PySem.W.Frag) (ι : List Addr) (H : Hp) (Q : β → Hp → Prop) : Option (α × Sto) → Prop
  | some (a, S') => ∀ ι' H' b, Gr ι ι' H H' → Sim K ι' S' H' → rep ι' H' b a → Q b H'
  | none => False
variable {rep : List Addr → Hp → β → α → Prop} {rep' : List Addr → Hp → δ → γ → Prop} {K : PySem.W.Frag} {W : WX} {σ : L2.St} {ι ι1 : List Addr} {H H1 : Hp} {Q : β → Hp → Prop} {Q' : δ → Hp → Prop}
theorem Post.shift {r : R α} (h : Post rep K W σ ι H Q r) (g : Gr ι ι1 H H1) : Post rep K W σ ι1 H1 Q r := by
  cases r with
  | ok a S => exact fun ι' H' b g' => h ι' H' b (g.trans g')
  | exc x S => exact fun ι' H' c d g' => h ι' H' c d (g.trans g')
  | stuck => exact h
theorem PostO.shift {r : Option (α × Sto)} (h : PostO rep K ι H Q r) (g : Gr ι ι1 H H1) : PostO rep K ι1 H1 Q r := by
  cases r with
  | some a => exact fun ι' H' b g' => h ι' H' b (g.trans g')
  | none => exact h
theorem W9 {r : Option (α × Sto)} (h : Post rep K W σ ι H Q (lift r)) : PostO rep K ι H Q r := by
  cases r with
  | some a => exact h
  | none => exact h
theorem Zi {r : R α} {k : α → Sto → R γ} (h : Post rep' K W σ ι H Q' (r.bind k)) :
    Post rep K W σ ι H (fun b H1 => ∃ ι1 S1 a, Gr ι ι1 H H1 ∧ Sim K ι1 S1 H1 ∧ rep ι1 H1 b a ∧ Post rep' K W σ ι1 H1 Q' (k a S1)) r := by
  cases r with
  | ok a S => exact fun ι1 H1 b g s r => ⟨ι1,S,a,g,s,r,h.shift g⟩
  | exc x S => exact h
  | stuck => exact h
theorem Post.imp {r : R α} {Q2 : β → Hp → Prop} (h : Post rep K W σ ι H Q r) (i : ∀ b H,Q b H → Q2 b H) : Post rep K W σ ι H Q2 r := by
  cases r with
  | ok a S => exact fun ι1 H1 b g s r => i _ _ (h ι1 H1 b g s r)
  | exc x S => exact h
  | stuck => exact h
end
abbrev FE := Env → Sto → R T
abbrev FT := Env → Sto → R Bool
abbrev FA := Env → Sto → R (List T)
def bEq (_ : List Addr) (_ : Hp) (b c : Bool) : Prop := b = c
structure Wc where
  w : WX
  j : L2.St → List Addr → Hp → Prop
  st : ∀ σ ι ι' H H', Gr ι ι' H H' → j σ ι H → j σ ι' H'
def Wt (W : WX) : Wc := ⟨W,fun _ _ _ => True,fun _ _ _ _ _ _ _ => trivial⟩
structure Ie (K : PySem.W.Frag) (W : Wc) (ι : List Addr) (H : Hp) (σ : L2.St) (ρ : Env) (Z : Sto) : Prop where
  len : σ.length = ρ.length
  env : Envs K ι H σ ρ
  sim : Sim K ι Z H
  jj : W.j σ ι H
theorem Ie.gr {K : PySem.W.Frag} {W : Wc} {ι ι' : List Addr} {H H' : Hp} {σ : L2.St} {ρ : Env} {Z Z' : Sto} (h : Ie K W ι H σ ρ Z) (g : Gr ι ι' H H') (s : Sim K ι' Z' H') : Ie K W ι' H' σ ρ Z' := ⟨h.len, h.env.gr g, s, W.st _ _ _ _ _ g h.jj⟩
def tF (K : PySem.W.Frag) (W : Wc) (f : FE) : TE := fun σ H Q => ∃ ι ρ Z,Ie K W ι H σ ρ Z ∧ Post (Rep K) K W.w σ ι H Q (f ρ Z)
def tFT (K : PySem.W.Frag) (W : Wc) (f : FT) : TT := fun σ H Q => ∃ ι ρ Z,Ie K W ι H σ ρ Z ∧ Post bEq K W.w σ ι H Q (f ρ Z)
def tFA (K : PySem.W.Frag) (W : Wc) (f : FA) : TA := fun σ H Q => ∃ ι ρ Z,Ie K W ι H σ ρ Z ∧ Post (Reps K) K W.w σ ι H Q (f ρ Z)
abbrev FJ (X : Cx) (K : PySem.W.Frag) (W : Wc) (e : Expr) (f : FE) : Prop := PE X e (tF K W f)
abbrev FTJ (X : Cx) (K : PySem.W.Frag) (W : Wc) (e : Expr) (f : FT) : Prop := PT X e (tFT K W f)
abbrev FWJ (X : Cx) (K : PySem.W.Frag) (W : Wc) (e : Expr) (f : FT) : Prop := PW X e (tFT K W f)
abbrev FAJ (X : Cx) (K : PySem.W.Frag) (W : Wc) (es : List Expr) (f : FA) : Prop := PA X es (tFA K W f)
theorem Xo {X : Cx} {e : Expr} {t t' : TE} (h : PE X e t) (i : ∀ σ H Q, t' σ H Q → t σ H Q) : PE X e t' := ⟨fun pins s σ H Q I q => h.run pins s σ H Q I (i _ _ _ q)⟩
theorem Z9q {X : Cx} {e : Expr} {t t' : TT} (h : PT X e t) (i : ∀ σ H Q, t' σ H Q → t σ H Q) : PT X e t' := ⟨fun pins s σ H Q I q => h.run pins s σ H Q I (i _ _ _ q)⟩
theorem Zgn {X : Cx} {e : Expr} {t t' : TT} (h : PW X e t) (i : ∀ σ H Q, t' σ H Q → t σ H Q) : PW X e t' := ⟨fun w pins s σ H Q I q => h.run w pins s σ H Q I (i _ _ _ q)⟩
theorem Zgo {X : Cx} {es : List Expr} {t t' : TA} (h : PA X es t) (i : ∀ σ H Q, t' σ H Q → t σ H Q) : PA X es t' := ⟨fun p pins s σ H Q I q => h.run p pins s σ H Q I (i _ _ _ q)⟩
theorem Jm {X : Cx} {st : Stmt} {t t' : TS} (h : PS X st t) (i : ∀ D σ H, t' D σ H → t D σ H) : PS X st t' := ⟨fun pins s σ H D I q => h.run pins s σ H D I (i _ _ _ q)⟩
theorem Z5o {X : Cx} {st : List Stmt} {t t' : TS} (h : PSs X st t) (i : ∀ D σ H, t' D σ H → t D σ H) : PSs X st t' := ⟨fun pins s σ H D I q => h.run pins s σ H D I (i _ _ _ q)⟩
def eVar (i : Nat) : FE := fun ρ Z => match ρ[i]? with
  | some (some t) => .ok t Z
  | _ => .stuck
def eC (t : T) : FE := fun _ Z => .ok t Z
def eBin (g : T → T → Sto → Option (T × Sto)) (a b : FE) : FE := fun ρ Z => (a ρ Z).bind fun x Z1 => (b ρ Z1).bind fun y Z2 => lift (g x y Z2)
def eUn (g : T → Sto → Option (T × Sto)) (a : FE) : FE := fun ρ Z => (a ρ Z).bind fun x Z1 => lift (g x Z1)
def eIf (c : FT) (a b : FE) : FE := fun ρ Z => (c ρ Z).bind fun x Z1 => if x = true then a ρ Z1 else b ρ Z1
def aNil : FA := fun _ Z => .ok [] Z
def aCons (a : FE) (r : FA) : FA := fun ρ Z => (a ρ Z).bind fun x Z1 => (r ρ Z1).bind fun xs Z2 => .ok (x :: xs) Z2
section
variable {X : Cx} {K : PySem.W.Frag} {W : Wc} {a b c : Expr} {fa fb fc : FE} {pos : Pos}
theorem Zg {i : Nat} {x : PySem.Str} (h : PE X (.Name x pos) (tVar i)) : FJ X K W (.Name x pos) (eVar i) := Xo h fun σ H Q q => by
  obtain ⟨ι,ρ,Z,is,p⟩ := q
  unfold eVar at p
  split at p
  · rename_i t e
    obtain ⟨v,h1,h2⟩ := is.env i t e
    exact ⟨v,h1,p ι H v Gr.refl is.sim h2⟩
  · exact p.elim
theorem f_c {v : V} {t : T} (h : PE X a (tC v)) (r : ∀ ι H,Rep K ι H v t) : FJ X K W a (eC t) := Xo h fun σ H Q q => by
  obtain ⟨ι,ρ,Z,is,p⟩ := q
  exact p ι H v Gr.refl is.sim (r ι H)
theorem f_int {i j} : FJ X K W (.Constant (.int i) j pos) (eC (.int i)) := f_c pe_int fun _ _ => .int i
theorem f_bl {i j} : FJ X K W (.Constant (.bool i) j pos) (eC (.bl i)) := f_c pe_bl fun _ _ => .bl i
theorem Z88 {j} : FJ X K W (.Constant .none j pos) (eC .non) := f_c pe_non fun _ _ => .non
theorem Xl {x j} (l : List Nat) (e : x = S l := by rfl) : FJ X K W (.Constant (.str x) j pos) (eC (.str l)) := f_c pe_str fun _ _ => by rw [e]; exact .str l
def rF2 (K : PySem.W.Frag) (g : T → T → Sto → Option (T × Sto)) : R2 := fun x y H Q => ∃ ι Z tx ty,Sim K ι Z H ∧ Rep K ι H x tx ∧ Rep K ι H y ty ∧ PostO (Rep K) K ι H Q (g tx ty Z)
def rFC (K : PySem.W.Frag) (g : List T → Sto → Option (T × Sto)) : List V → Hp → VK → Prop := fun xs H Q => ∃ ι Z ts,Sim K ι Z H ∧ Reps K ι H xs ts ∧ PostO (Rep K) K ι H Q (g ts Z)
theorem Zf4 {r : R2} {g : T → T → Sto → Option (T × Sto)} (hr : ∀ x y H Q,rF2 K g x y H Q → r x y H Q) {σ : L2.St} {H : Hp} {Q : VK} (h : tF K W (eBin g fa fb) σ H Q) : tOp r (tF K W fa) (tF K W fb) σ H Q := by
  obtain ⟨ι,ρ,Z,is,p⟩ := h
  refine ⟨ι,ρ,Z,is,(Zi p).imp fun x H1 q => ?_⟩
  obtain ⟨ι1,Z1,tx,g1,s1,r1,p1⟩ := q
  refine ⟨ι1,ρ,Z1,is.gr g1 s1,(Zi p1).imp fun y H2 q2 => ?_⟩
  obtain ⟨ι2,Z2,ty,g2,s2,r2,p2⟩ := q2
  exact hr _ _ _ _ ⟨ι2,Z2,tx,ty,s2,r1.gr g2,r2,W9 p2⟩
def OpF (X : Cx) (K : PySem.W.Frag) (f : Value → Value → Sem Value) (g : T → T → Sto → Option (T × Sto)) : Prop := OpR X f (rF2 K g)
theorem Xm {f : Value → Value → Sem Value} {r r' : R2} (h : OpR X f r) (i : ∀ x y H Q, r' x y H Q → r x y H Q) : OpR X f r' := fun pins s σ H x y v u Q I rx ry q => h pins s σ H x y v u Q I rx ry (i _ _ _ _ q)
theorem Yt {f : Value} {r r' : List V → Hp → VK → Prop} (h : CallR X f r) (i : ∀ xs H Q, r' xs H Q → r xs H Q) : CallR X f r' := fun pins s σ H xs us Q I rs q => h pins s σ H xs us Q I rs (i _ _ _ q)
theorem U0 {f : Value → Value → Sem Value} {r r' : R2} (h : OpR X f r) (h' : OpR X f r') : OpR X f (rOr r r') := fun pins s σ H x y v u Q I rx ry q => q.elim (h pins s σ H x y v u Q I rx ry) (h' pins s σ H x y v u Q I rx ry)
theorem f_op {op : Operator} {g : T → T → Sto → Option (T × Sto)} (ho : OpF X K (binaryOp op) g) (ha : FJ X K W a fa) (hb : FJ X K W b fb) : FJ X K W (.BinOp a op b pos) (eBin g fa fb) :=
  Xo (pe_op ho ha hb) fun _ _ _ h => Zf4 (fun _ _ _ _ h => h) h
theorem Z2s {op : CmpOp} {g : T → T → Sto → Option (T × Sto)} (ho : OpF X K (compareOp op) g) (ha : FJ X K W a fa) (hb : FJ X K W b fb) (hm : behindInMarks op b = false) : FJ X K W (.Compare a [op] [b] pos) (eBin g fa fb) :=
  Xo (pe_cmpR ho ha hb hm) fun _ _ _ h => Zf4 (fun _ _ _ _ h => h) h
theorem f_ix {g : T → T → Sto → Option (T × Sto)} (hr : IxR X (rF2 K g)) (ha : FJ X K W a fa) (hb : FJ X K W b fb) (hs : PlainIx b) : FJ X K W (.Subscript a b pos) (eBin g fa fb) :=
  Xo (pe_ix hr ha hb hs) fun _ _ _ h => Zf4 (fun _ _ _ _ h => h) h
theorem f_if {t : FT} (hc : FTJ X K W c t) (ha : FJ X K W a fa) (hb : FJ X K W b fb) : FJ X K W (.IfExp c a b pos) (eIf t fa fb) := Xo (pe_ifExp hc ha hb) fun σ H Q h => by
  obtain ⟨ι,ρ,Z,is,p⟩ := h
  refine ⟨ι,ρ,Z,is,(Zi p).imp fun x H1 q => ?_⟩
  obtain ⟨ι1,Z1,tx,g1,s1,r1,p1⟩ := q
  cases (show x = tx from r1)
  cases x with
  | true => exact ⟨ι1,ρ,Z1,is.gr g1 s1,p1⟩
  | false => exact ⟨ι1,ρ,Z1,is.gr g1 s1,p1⟩
theorem Zh : FAJ X K W [] aNil := Zgo pa_nil fun σ H Q h => by
  obtain ⟨ι,ρ,Z,is,p⟩ := h
  exact p ι H [] Gr.refl is.sim .nil
theorem Zb {es : List Expr} {fr : FA} (ha : FJ X K W a fa) (hr : FAJ X K W es fr) (hs : starEach (a :: es) X.env = (false,eval a X.env) :: starEach es X.env := by rfl) : FAJ X K W (a :: es) (aCons fa fr) := Zgo (pa_cons ha hr hs) fun σ H Q h => by
  obtain ⟨ι,ρ,Z,is,p⟩ := h
  refine ⟨ι,ρ,Z,is,(Zi p).imp fun x H1 q => ?_⟩
  obtain ⟨ι1,Z1,tx,g1,s1,r1,p1⟩ := q
  refine ⟨ι1,ρ,Z1,is.gr g1 s1,(Zi p1).imp fun y H2 q2 => ?_⟩
  obtain ⟨ι2,Z2,ty,g2,s2,r2,p2⟩ := q2
  exact p2 ι2 H2 _ Gr.refl s2 (.cons (r1.gr g2) r2)
end
def Lim : Nat := 1000000
theorem Z1d : Lim ≤ sizeLine := by decide
@[irreducible] def Fuel : Nat := Lim + 2
theorem Vw : Fuel = Lim + 2 := by unfold Fuel; rfl
theorem Z0g {n : Nat} (h : n ≤ Lim) : n ≤ sizeLine := Nat.le_trans h Z1d
def asList : T → Sto → Option (List T)
  | .loc i,Z => match Z[i]? with
    | some (.lst ts) => some ts
    | _ => none
  | .frl ts,_ => some ts
  | _,_ => none
theorem Wk {K : PySem.W.Frag} {ι : List Addr} {H : Hp} {Z : Sto} {v : V} {t : T} {ts : List T} (s : Sim K ι Z H) (r : Rep K ι H v t) (e : asList t Z = some ts) : ∃ a vs,v = .ref a ∧ SqL K H a vs ∧ Reps K ι H vs ts := by
  cases r with
  | loc h =>
    simp only [asList] at e
    split at e
    · rename_i ts' hz
      obtain ⟨a', h1, h2⟩ := s.at hz
      rw [h] at h1
      cases h1
      cases e
      obtain ⟨vs,h3,h4⟩ := h2
      exact ⟨_,vs,rfl,SqL.of h3,h4⟩
    · cases e
  | frl h r => cases e; exact ⟨_,_,rfl,h.sq,r⟩
  | _ => cases e
def truth : T → Sto → Option Bool
  | .bl b,_ => some b
  | .int i,_ => some (i != 0)
  | .non,_ => some false
  | .str l,_ => if l.length ≤ Lim then some (!l.isEmpty) else none
  | .tup ts,_ => some (!ts.isEmpty)
  | .loc i,Z => match Z[i]? with
    | some (.lst ts) => some (!ts.isEmpty)
    | some (.dk ts) => some (!ts.isEmpty)
    | _ => none
  | .frl ts,_ => some (!ts.isEmpty)
  | _,_ => none
theorem Qo {α β : Type} {a : List α} {b : List β} (h : a.length = b.length) : a.isEmpty = b.isEmpty := by
  cases a <;> cases b <;> first | rfl | (simp at h)
theorem Z34 {K : PySem.W.Frag} {ι : List Addr} {H : Hp} {Z : Sto} {v : V} {t : T} {k : Bool} (s : Sim K ι Z H) (r : Rep K ι H v t) (e : truth t Z = some k) : TruV K v H k := by
  cases r with
  | non => cases e; rfl
  | bl b => cases e; rfl
  | int i => cases e; rfl
  | str l =>
    simp only [truth] at e
    split at e
    · rename_i h
      cases e
      refine ⟨by rw [S_len]; exact Z0g h,?_⟩
      rw [S_len]
      cases l with
      | nil => rfl
      | cons c l => simp; omega
    · cases e
  | tup h r => cases e; exact .inr (.inl ⟨_,h,by rw [Qo r.length]⟩)
  | loc h =>
    simp only [truth] at e
    split at e
    · rename_i ts' hz
      obtain ⟨a', h1, h2⟩ := s.at hz
      rw [h] at h1
      cases h1
      cases e
      obtain ⟨vs,h3,h4⟩ := h2
      exact .inl ⟨vs,SqL.of h3,by rw [Qo h4.length]⟩
    · rename_i ts' hz
      obtain ⟨a', h1, h2⟩ := s.at hz
      rw [h] at h1
      cases h1
      cases e
      obtain ⟨vs,h3,h4⟩ := h2
      exact .inr (.inr ⟨vs,h3,by rw [Qo h4.length]⟩)
    · cases e
  | frl h r => cases e; exact .inl ⟨_,h.sq,by rw [Qo r.length]⟩
  | ref a => cases e
  | ty n => cases e
  | lam h j => cases e
  | ktp h r => cases e
def eTru (f : FE) : FT := fun ρ Z => (f ρ Z).bind fun x Z1 => match truth x Z1 with
  | some b => .ok b Z1
  | none => .stuck
def tAnd (a b : FT) : FT := fun ρ Z => (a ρ Z).bind fun x Z1 => if x = true then b ρ Z1 else .ok false Z1
def tOr (a b : FT) : FT := fun ρ Z => (a ρ Z).bind fun x Z1 => if x = true then .ok true Z1 else b ρ Z1
def tNot (a : FT) : FT := fun ρ Z => (a ρ Z).bind fun x Z1 => .ok (!x) Z1
def eAnd (a b : FE) : FE := fun ρ Z => (a ρ Z).bind fun x Z1 => match truth x Z1 with
  | some true => b ρ Z1
  | some false => .ok x Z1
  | none => .stuck
def eOr (a b : FE) : FE := fun ρ Z => (a ρ Z).bind fun x Z1 => match truth x Z1 with
  | some true => .ok x Z1
  | some false => b ρ Z1
  | none => .stuck
def eNot (a : FE) : FE := fun ρ Z => (a ρ Z).bind fun x Z1 => match truth x Z1 with
  | some b => .ok (.bl (!b)) Z1
  | none => .stuck
section
variable {X : Cx} {K : PySem.W.Frag} {W : Wc} {a b c : Expr} {fa fb fc : FE} {ta tb : FT} {pos : Pos} {rest : List Expr}
theorem U3 (hK : X.K = K) (ha : FJ X K W a fa) (he : ∀ whole,isTrue a X.env whole = (do let v ← whole; standAt a.pos; holding [v] (truthy v)) := by intro _; rfl) : FTJ X K W a (eTru fa) := by
  subst hK
  refine Z9q (pt_truth ha he) fun σ H Q h => ?_
  obtain ⟨ι,ρ,Z,is,p⟩ := h
  refine ⟨ι,ρ,Z,is,(Zi p).imp fun x H1 q => ?_⟩
  obtain ⟨ι1,Z1,tx,g1,s1,r1,p1⟩ := q
  split at p1
  · rename_i k e
    exact ⟨k,Z34 s1 r1 e,p1 ι1 H1 k Gr.refl s1 rfl⟩
  · exact p1.elim
def eBl (f : FE) : FT := fun ρ Z => (f ρ Z).bind fun x Z1 => match x with
  | .bl b => .ok b Z1
  | _ => .stuck
theorem Yk {op : CmpOp} {g : T → T → Sto → Option (T × Sto)} (ho : OpF X K (compareOp op) g) (ha : FJ X K W a fa) (hb : FJ X K W b fb) (hm : behindInMarks op b = false) : FTJ X K W (.Compare a [op] [b] pos) (eBl (eBin g fa fb)) := by
  refine Z9q (pt_cmpR ho ha hb hm) fun σ H Q h => ?_
  obtain ⟨ι,ρ,Z,is,p⟩ := h
  refine Zf4 (fun _ _ _ _ h => h) ⟨ι,ρ,Z,is,(Zi p).imp fun x H1 q => ?_⟩
  obtain ⟨ι1,Z1,tx,g1,s1,r1,p1⟩ := q
  cases r1 with
  | bl b => exact ⟨b,rfl,p1 ι1 H1 b Gr.refl s1 rfl⟩
  | _ => exact p1.elim
theorem Zcm (ha : FTJ X K W a ta) : FWJ X K W (.BoolOp .And [a] pos) ta := pw_and1 ha
theorem Z6r (ha : FTJ X K W a ta) : FWJ X K W (.BoolOp .Or [a] pos) ta := pw_or1 ha
theorem Zgp (ha : FTJ X K W a ta) (hb : FWJ X K W (.BoolOp .And (b :: rest) pos) tb) : FWJ X K W (.BoolOp .And (a :: b :: rest) pos) (tAnd ta tb) := Zgn (pw_and ha hb) fun σ H Q h => by
  obtain ⟨ι,ρ,Z,is,p⟩ := h
  refine ⟨ι,ρ,Z,is,(Zi p).imp fun x H1 q => ?_⟩
  obtain ⟨ι1,Z1,tx,g1,s1,r1,p1⟩ := q
  cases (show x = tx from r1)
  cases x with
  | true => exact ⟨ι1,ρ,Z1,is.gr g1 s1,p1⟩
  | false => exact p1 ι1 H1 _ Gr.refl s1 rfl
theorem Z89 (ha : FTJ X K W a ta) (hb : FWJ X K W (.BoolOp .Or (b :: rest) pos) tb) : FWJ X K W (.BoolOp .Or (a :: b :: rest) pos) (tOr ta tb) := Zgn (pw_or ha hb) fun σ H Q h => by
  obtain ⟨ι,ρ,Z,is,p⟩ := h
  refine ⟨ι,ρ,Z,is,(Zi p).imp fun x H1 q => ?_⟩
  obtain ⟨ι1,Z1,tx,g1,s1,r1,p1⟩ := q
  cases (show x = tx from r1)
  cases x with
  | true => exact p1 ι1 H1 _ Gr.refl s1 rfl
  | false => exact ⟨ι1,ρ,Z1,is.gr g1 s1,p1⟩
theorem Ua (ha : FTJ X K W a ta) : FTJ X K W (.UnaryOp .Not a pos) (tNot ta) := Z9q (pt_not ha) fun σ H Q h => by
  obtain ⟨ι,ρ,Z,is,p⟩ := h
  refine ⟨ι,ρ,Z,is,(Zi p).imp fun x H1 q => ?_⟩
  obtain ⟨ι1,Z1,tx,g1,s1,r1,p1⟩ := q
  cases (show x = tx from r1)
  exact p1 ι1 H1 _ Gr.refl s1 rfl
theorem Z5p {op} (h : FJ X K W a fa) : FJ X K W (.BoolOp op [a] pos) fa := pe_one h
theorem Z5q (hK : X.K = K) (ha : FJ X K W a fa) (hb : FJ X K W (.BoolOp .And (b :: rest) pos) fb) : FJ X K W (.BoolOp .And (a :: b :: rest) pos) (eAnd fa fb) := by
  subst hK
  refine Xo (pe_andT ha hb) fun σ H Q h => ?_
  obtain ⟨ι,ρ,Z,is,p⟩ := h
  refine ⟨ι,ρ,Z,is,(Zi p).imp fun x H1 q => ?_⟩
  obtain ⟨ι1,Z1,tx,g1,s1,r1,p1⟩ := q
  split at p1
  · rename_i e; exact ⟨true,Z34 s1 r1 e,ι1,ρ,Z1,is.gr g1 s1,p1⟩
  · rename_i e; exact ⟨false,Z34 s1 r1 e,p1 ι1 H1 _ Gr.refl s1 r1⟩
  · exact p1.elim
theorem f_not (hK : X.K = K) (ha : FJ X K W a fa) : FJ X K W (.UnaryOp .Not a pos) (eNot fa) := by
  subst hK
  refine Xo (pe_notT ha) fun σ H Q h => ?_
  obtain ⟨ι,ρ,Z,is,p⟩ := h
  refine ⟨ι,ρ,Z,is,(Zi p).imp fun x H1 q => ?_⟩
  obtain ⟨ι1,Z1,tx,g1,s1,r1,p1⟩ := q
  split at p1
  · rename_i k e; exact ⟨k,Z34 s1 r1 e,p1 ι1 H1 _ Gr.refl s1 (.bl _)⟩
  · exact p1.elim
end
end Fx
set_option maxHeartbeats 4000000
namespace Fx
open PySem PySem.Spec PyProof.Rows L2 SX Ap
variable [Tb]
section
variable {K : PySem.W.Frag} {ι : List Addr} {H : Hp} {Q : VK} {Z : Sto} {t : T} {ts : List T} {v : V} {vs : List V}
theorem Zq (p : PostO (Rep K) K ι H Q (some (t,Z))) (s : Sim K ι Z H) (r : Rep K ι H v t) : Q v H := p ι H v Gr.refl s r
theorem Sim.newL (s : Sim K ι Z H) (r : Reps K ι H vs ts) {p : Addr} (n : H p = none) : Sim K (ι ++ [p]) (Z ++ [.lst ts]) (upd H p (.lst vs)) := s.new n ⟨vs,upd_same,r.gr (Gr.new n)⟩
theorem Z5r (s : Sim K ι Z H) {p : Addr} {H' : Hp} : Rep K (ι ++ [p]) H' (.ref p) (.loc Z.length) := .loc (by rw [← s.len]; simp)
theorem Z1w (q : PostO (Rep K) K ι H Q (some (.loc Z.length,Z ++ [.lst ts]))) (s : Sim K ι Z H) (r : Reps K ι H vs ts) : ∀ p,H p = none → Q (.ref p) (upd H p (.lst vs)) := fun p n =>
  q (ι ++ [p]) _ _ (Gr.new n) (s.newL r n) (Z5r s)
theorem Z8a (q : PostO (Rep K) K ι H Q (some (.tup ts,Z))) (s : Sim K ι Z H) (r : Reps K ι H vs ts) : ∀ p,H p = none → Q (.ref p) (upd H p (.tup vs)) := fun p n =>
  q ι _ _ (Gr.new0 n) (s.same (Wd n)) (.tup (SqT.of upd_same) (r.gr (Gr.new0 n)))
theorem Rep.tupE (r : Rep K ι H v (.tup ts)) : ∃ a vs,v = .ref a ∧ SqT K H a vs ∧ Reps K ι H vs ts := by
  cases r with
  | tup h r => exact ⟨_,_,rfl,h,r⟩
theorem Xn {i : Nat} {ts : List T} (s : Sim K ι Z H) (e : Z[i]? = some (.lst ts)) (r : Rep K ι H v (.loc i)) : ∃ a vs,v = .ref a ∧ ι[i]? = some a ∧ H a = some (.lst vs) ∧ Reps K ι H vs ts := by
  cases r with
  | loc h =>
    obtain ⟨a,h1,vs,h2,h3⟩ := s.at e
    rw [h] at h1; cases h1
    exact ⟨_,vs,rfl,h,h2,h3⟩
end
def getL (Z : Sto) (i : Nat) : Option (List T) := match Z[i]? with
  | some (.lst ts) => some ts
  | _ => none
theorem Yg {Z : Sto} {i : Nat} {ts : List T} (h : getL Z i = some ts) : Z[i]? = some (.lst ts) := by
  unfold getL at h
  split at h
  · rename_i ts' e; cases h; exact e
  · cases h
def gAdd : T → T → Sto → Option (T × Sto)
  | .int i,.int j,Z => some (.int (i + j),Z)
  | .str a,.str b,Z => if a.length + b.length ≤ Lim then some (.str (a ++ b),Z) else none
  | .tup a,.tup b,Z => if a.length + b.length ≤ Lim then some (.tup (a ++ b),Z) else none
  | .loc i,.loc j,Z => match getL Z i,getL Z j with
    | some a,some b => if a.length + b.length ≤ Lim then some (.loc Z.length,Z ++ [.lst (a ++ b)]) else none
    | _,_ => none
  | _,_,_ => none
def gSub : T → T → Sto → Option (T × Sto)
  | .int i,.int j,Z => some (.int (i - j),Z)
  | _,_,_ => none
def mulOk (i j : Int) : Bool := (decide (-(2 ^ 64) < i) && decide (i < 2 ^ 64)) || (decide (-(2 ^ 64) < j) && decide (j < 2 ^ 64))
def gMul : T → T → Sto → Option (T × Sto)
  | .int i,.int j,Z => if mulOk i j = true then some (.int (i * j),Z) else none
  | .str l,.int k,Z => if -100000 ≤ k ∧ k ≤ 100000 ∧ l.length * k.toNat ≤ 100000 then some (.str (repL k.toNat l),Z) else none
  | .loc i,.int k,Z => match getL Z i with
    | some a => if -100000 ≤ k ∧ k ≤ 100000 ∧ a.length * k.toNat ≤ Lim then some (.loc Z.length,Z ++ [.lst (List.replicate k.toNat a).flatten]) else none
    | _ => none
  | _,_,_ => none
def gDiv : T → T → Sto → Option (T × Sto)
  | .int i,.int j,Z => if 0 < j ∧ j < 2 ^ 200 then some (.int (i / j),Z) else none
  | _,_,_ => none
def gMod : T → T → Sto → Option (T × Sto)
  | .int i,.int j,Z => if 0 < j then some (.int (i % j),Z) else none
  | _,_,_ => none
def gPow : T → T → Sto → Option (T × Sto)
  | .int i,.int j,Z => if 0 ≤ j ∧ j ≤ 1000000 ∧ i.natAbs < 2 ^ 64 then some (.int (i ^ j.toNat),Z) else none
  | _,_,_ => none
theorem Reps.replicate {K : PySem.W.Frag} {ι : List Addr} {H : Hp} {vs : List V} {ts : List T} (r : Reps K ι H vs ts) : ∀ n : Nat,Reps K ι H (List.replicate n vs).flatten (List.replicate n ts).flatten
  | 0 => .nil
  | n + 1 => by
    rw [List.replicate_succ,List.replicate_succ,List.flatten_cons,List.flatten_cons]
    exact r.append (r.replicate n)
theorem S_app (a b : List Nat) : S a ++ S b = S (a ++ b) := by
  show (⟨a.toArray ++ b.toArray⟩ : PySem.Str) = ⟨(a ++ b).toArray⟩
  simp
section
variable {X : Cx} {K : PySem.W.Frag}
theorem Z6s : OpF X K (binaryOp .Sub) gSub := Xm op_sub fun x y H Q h => by
  obtain ⟨ι,Z,tx,ty,s,rx,ry,p⟩ := h
  unfold gSub at p
  split at p
  · cases rx; cases ry; exact ⟨_,_,rfl,rfl,Zq p s (.int _)⟩
  · exact p.elim
theorem Zbh : OpF X K (binaryOp .Mod) gMod := Xm op_mod fun x y H Q h => by
  obtain ⟨ι,Z,tx,ty,s,rx,ry,p⟩ := h
  unfold gMod at p
  split at p
  · split at p
    · cases rx; cases ry; exact ⟨_,_,rfl,rfl,by assumption,Zq p s (.int _)⟩
    · exact p.elim
  · exact p.elim
theorem Z8b : OpF X K (binaryOp .FloorDiv) gDiv := Xm op_fdivW fun x y H Q h => by
  obtain ⟨ι,Z,tx,ty,s,rx,ry,p⟩ := h
  unfold gDiv at p
  split at p
  · split at p
    · rename_i hj
      cases rx; cases ry; exact ⟨_,_,rfl,rfl,wide_div (b := 200) hj.1 (by have := hj.1; have := hj.2; omega) (by decide) (by decide),Zq p s (.int _)⟩
    · exact p.elim
  · exact p.elim
theorem o_pow : OpF X K (binaryOp .Pow) gPow := Xm op_pow fun x y H Q h => by
  obtain ⟨ι,Z,tx,ty,s,rx,ry,p⟩ := h
  unfold gPow at p
  split at p
  · split at p
    · cases rx; cases ry; exact ⟨_,_,rfl,rfl,by assumption,Zq p s (.int _)⟩
    · exact p.elim
  · exact p.elim
theorem Ww (hK : X.K = K) : OpF X K (binaryOp .Add) gAdd := by
  subst hK
  refine Xm (U0 (U0 op_add op_add_str) (U0 op_catA op_cat)) fun x y H Q h => ?_
  obtain ⟨ι,Z,tx,ty,s,rx,ry,p⟩ := h
  unfold gAdd at p
  split at p
  · cases rx; cases ry; exact .inl (.inl ⟨_,_,rfl,rfl,Zq p s (.int _)⟩)
  · split at p
    · rename_i hz
      cases rx; cases ry
      exact .inl (.inr ⟨_,_,rfl,rfl,by rw [S_len,S_len]; exact Z0g hz,by rw [S_app]; exact Zq p s (.str _)⟩)
    · exact p.elim
  · split at p
    · rename_i hz
      obtain ⟨a,xs,rfl,ha,ra⟩ := rx.tupE
      obtain ⟨b,ys,rfl,hb,rb⟩ := ry.tupE
      refine .inr (.inl ⟨a,b,xs,ys,rfl,rfl,ha,hb,by rw [ra.length,rb.length]; exact Z0g hz,fun e => ?_,fun _ e => ?_,fun _ _ => Z8a p s (ra.append rb)⟩)
      · subst e; cases ra; exact Zq p s (by rw [List.nil_append]; exact ry)
      · subst e; cases rb; exact Zq p s (by rw [List.append_nil]; exact rx)
    · exact p.elim
  · split at p
    · rename_i a b e1 e2
      split at p
      · rename_i hz
        obtain ⟨x,xs,rfl,_,hx,r1⟩ := Xn s (Yg e1) rx
        obtain ⟨y,ys,rfl,_,hy,r2⟩ := Xn s (Yg e2) ry
        exact .inr (.inr ⟨x,y,xs,ys,rfl,rfl,hx,hy,by rw [r1.length,r2.length]; exact Z0g hz,Z1w p s (r1.append r2)⟩)
      · exact p.elim
    · exact p.elim
  · exact p.elim
theorem Zhv {i j : Int} (h : mulOk i j = true) : CMul i j := by
  unfold mulOk at h
  rw [Bool.or_eq_true,Bool.and_eq_true,Bool.and_eq_true] at h
  rcases h with ⟨a,b⟩ | ⟨a,b⟩
  · exact .inl ⟨of_decide_eq_true a,of_decide_eq_true b⟩
  · exact .inr ⟨of_decide_eq_true a,of_decide_eq_true b⟩
theorem Z6t : OpF X K (binaryOp .Mult) gMul := by
  refine Xm (U0 op_mul (U0 Zbf op_rep)) fun x y H Q h => ?_
  obtain ⟨ι,Z,tx,ty,s,rx,ry,p⟩ := h
  unfold gMul at p
  split at p
  · split at p
    · rename_i hc
      cases rx; cases ry; exact .inl ⟨_,_,rfl,rfl,Zhv hc,Zq p s (.int _)⟩
    · exact p.elim
  · split at p
    · rename_i hz
      cases rx; cases ry
      exact .inr (.inl ⟨_,_,rfl,rfl,hz.1,hz.2.1,hz.2.2,Zq p s (.str _)⟩)
    · exact p.elim
  · split at p
    · rename_i a e1
      split at p
      · rename_i hz
        obtain ⟨x,xs,rfl,_,hx,r1⟩ := Xn s (Yg e1) rx
        cases ry
        refine .inr (.inr ⟨x,_,xs,rfl,rfl,hx,by omega,by omega,by rw [r1.length]; exact Z0g hz.2.2,Z1w p s (r1.replicate _)⟩)
      · exact p.elim
    · exact p.elim
  · exact p.elim
end
def eqS : T → T → Option Bool
  | .non,.non => some true | .non,.int _ => some false | .int _,.non => some false | .non,.bl _ => some false | .bl _,.non => some false | .non,.str _ => some false | .str _,.non => some false
  | .int a,.int b => some (decide (a = b)) | .bl a,.bl b => some (decide (a = b)) | .str a,.str b => some (decide (a = b))
  | .int _,.str _ => some false | .str _,.int _ => some false | .bl _,.str _ => some false | .str _,.bl _ => some false
  | _,_ => none
def toD : Nat → Sto → T → Option PyData
  | _,_,.non => some .none
  | _,_,.bl b => some (.bool b)
  | _,_,.int i => some (.int i)
  | _,_,.str l => some (.str (S l))
  | 0,_,_ => none
  | n + 1,Z,.tup ts => (ts.mapM (toD n Z)).map .tuple
  | n + 1,Z,.frl ts => (ts.mapM (toD n Z)).map .list
  | n + 1,Z,.loc i => (getL Z i).bind fun ts => (ts.mapM (toD n Z)).map .list
  | _ + 1,_,_ => none
theorem Qp {α β : Type} {f : α → Option β} : ∀ {l : List α} {m : List β},l.mapM f = some m → Paired (fun a b => f a = some b) l m
  | [],m,h => by
    have : m = [] := by simpa using h.symm
    subst this; exact .nil
  | a :: l,m,h => by
    rw [List.mapM_cons] at h
    cases h1 : f a with
    | none => rw [h1] at h; cases h
    | some b =>
      rw [h1] at h
      cases h2 : l.mapM f with
      | none => rw [h2] at h; cases h
      | some m' =>
        rw [h2] at h
        have : m = b :: m' := (Option.some.inj h).symm
        subst this
        exact .cons h1 (Qp h2)
section
variable {K : PySem.W.Frag} {ι : List Addr} {H : Hp} {Z : Sto}
theorem Z9r (s : Sim K ι Z H) : ∀ (n : Nat) {v : V} {t : T} {d : PyData},Rep K ι H v t → toD n Z t = some d → Dp K H v d
  | n,v,t,d,r,e => by
    have all : ∀ m,n = m + 1 → ∀ {vs : List V} {ts : List T} {ds : List PyData},Reps K ι H vs ts → Paired (fun a b => toD m Z a = some b) ts ds → DpAll K H vs ds := by
      intro m hm vs ts ds r p
      induction p generalizing vs with
      | nil => cases r; exact .nil
      | cons h _ ih =>
        cases r with
        | cons r1 r2 => exact .cons (Z9r s m r1 h) (ih r2)
    cases r with
    | non => simp only [toD,Option.some.injEq] at e; subst e; exact .non
    | bl b => simp only [toD,Option.some.injEq] at e; subst e; exact .bl b
    | int i => simp only [toD,Option.some.injEq] at e; subst e; exact .int i
    | str l => simp only [toD,Option.some.injEq] at e; subst e; exact .str _
    | tup h r =>
      cases n with
      | zero => simp [toD] at e
      | succ n =>
        simp only [toD] at e
        obtain ⟨ds,h1,rfl⟩ := Option.map_eq_some_iff.mp e
        exact .tup h (all n rfl r (Qp h1))
    | frl h r =>
      cases n with
      | zero => simp [toD] at e
      | succ n =>
        simp only [toD] at e
        obtain ⟨ds,h1,rfl⟩ := Option.map_eq_some_iff.mp e
        exact .lst h.sq (all n rfl r (Qp h1))
    | loc h =>
      cases n with
      | zero => simp [toD] at e
      | succ n =>
        simp only [toD] at e
        obtain ⟨ts,h0,e⟩ := Option.bind_eq_some_iff.mp e
        obtain ⟨ds,h1,rfl⟩ := Option.map_eq_some_iff.mp e
        obtain ⟨a,vs,hv,_,h2,r⟩ := Xn s (Yg h0) (.loc h)
        cases hv
        exact .lst (SqL.of h2) (all n rfl r (Qp h1))
    | ref a => cases n <;> simp [toD] at e
    | ty n' => cases n <;> simp [toD] at e
    | lam h j => cases n <;> simp [toD] at e
    | ktp h r => cases n <;> simp [toD] at e
  termination_by n => n
end
def gEqD (x y : T) (Z : Sto) : Option Bool := match toD 16 Z x,toD 16 Z y with
  | some d,some e => if SeqAt.shaped d = true ∧ SeqAt.shaped e = true then some (PyData.eqv d e) else none
  | _,_ => none
def gEqB (x y : T) (Z : Sto) : Option Bool := match eqS x y with
  | some b => some b
  | none => gEqD x y Z
def gEq (x y : T) (Z : Sto) : Option (T × Sto) := (gEqB x y Z).map fun b => (.bl b,Z)
def gNe (x y : T) (Z : Sto) : Option (T × Sto) := (gEqB x y Z).map fun b => (.bl (!b),Z)
section
variable {X : Cx} {K : PySem.W.Frag} {ι : List Addr} {H : Hp}
theorem Zf2 {a b : List Nat} : decide (V.str (S a) = V.str (S b)) = decide (a = b) := by
  by_cases h : a = b
  · rw [h]; simp
  · rw [decide_eq_false h,decide_eq_false]
    intro e
    exact h (S_inj (V.str.inj e))
theorem Zgq {x y : V} {tx ty : T} {b : Bool} (rx : Rep K ι H x tx) (ry : Rep K ι H y ty) (e : eqS tx ty = some b) : scal x y = true ∧ decide (x = y) = b := by
  cases rx <;> cases ry <;> simp only [eqS,Option.some.injEq] at e <;> first | (subst e; refine ⟨rfl,?_⟩; first | exact Zf2 | simp) | (cases e)
theorem Zgr {x y : V} {tx ty : T} {Z : Sto} {b : Bool} (s : Sim K ι Z H) (rx : Rep K ι H x tx) (ry : Rep K ι H y ty) (e : gEqD tx ty Z = some b) : ∃ d e', Dp K H x d ∧ Dp K H y e' ∧ SeqAt.shaped d = true ∧ SeqAt.shaped e' = true ∧ PyData.eqv d e' = b := by
  unfold gEqD at e
  split at e
  · rename_i d d' h1 h2
    split at e
    · rename_i h
      cases e
      exact ⟨d, d', Z9r s 16 rx h1, Z9r s 16 ry h2, h.1, h.2, rfl⟩
    · cases e
  · cases e
theorem o_eq (hu : X.A.units + 64 < cLine) (hK : X.K = K) : OpF X K (compareOp .Eq) gEq := by
  subst hK
  refine Xm (U0 op_eq (op_eqD hu)) fun x y H Q h => ?_
  obtain ⟨ι,Z,tx,ty,s,rx,ry,p⟩ := h
  cases e : gEqB tx ty Z with
  | none => simp only [gEq,e] at p; exact p.elim
  | some b =>
    simp only [gEq,e,Option.map_some] at p
    unfold gEqB at e
    split at e
    · rename_i b' e'
      cases e
      obtain ⟨h1, h2⟩ := Zgq rx ry e'
      exact .inl ⟨h1,by rw [h2]; exact Zq p s (.bl _)⟩
    · obtain ⟨d, d', h1, h2, h3, h4, h5⟩ := Zgr s rx ry e
      exact .inr ⟨d, d', h1, h2, h3, h4, by rw [h5]; exact Zq p s (.bl _)⟩
theorem o_ne (hu : X.A.units + 64 < cLine) (hK : X.K = K) : OpF X K (compareOp .NotEq) gNe := by
  subst hK
  refine Xm (U0 op_ne (op_neD hu)) fun x y H Q h => ?_
  obtain ⟨ι,Z,tx,ty,s,rx,ry,p⟩ := h
  cases e : gEqB tx ty Z with
  | none => simp only [gNe,e] at p; exact p.elim
  | some b =>
    simp only [gNe,e,Option.map_some] at p
    unfold gEqB at e
    split at e
    · rename_i b' e'
      cases e
      obtain ⟨h1, h2⟩ := Zgq rx ry e'
      exact .inl ⟨h1,by rw [h2]; exact Zq p s (.bl _)⟩
    · obtain ⟨d, d', h1, h2, h3, h4, h5⟩ := Zgr s rx ry e
      exact .inr ⟨d, d', h1, h2, h3, h4, by rw [h5]; exact Zq p s (.bl _)⟩
end
def gLt : T → T → Sto → Option (T × Sto)
  | .int i,.int j,Z => some (.bl (decide (i < j)),Z)
  | .str a,.str b,Z => some (.bl (decide (a < b)),Z)
  | _,_,_ => none
def gLe : T → T → Sto → Option (T × Sto)
  | .int i,.int j,Z => some (.bl (decide (i ≤ j)),Z)
  | _,_,_ => none
def gGt : T → T → Sto → Option (T × Sto)
  | .int i,.int j,Z => some (.bl (decide (j < i)),Z)
  | _,_,_ => none
def gGe : T → T → Sto → Option (T × Sto)
  | .int i,.int j,Z => some (.bl (decide (j ≤ i)),Z)
  | _,_,_ => none
def isNon : T → Bool
  | .non => true
  | _ => false
def gIs : T → T → Sto → Option (T × Sto)
  | x,.non,Z => some (.bl (isNon x),Z)
  | _,_,_ => none
def gIsNot : T → T → Sto → Option (T × Sto)
  | x,.non,Z => some (.bl (!isNon x),Z)
  | _,_,_ => none
def flatT : T → Bool
  | .non => true | .bl _ => true | .int _ => true | .str _ => true | _ => false
def eqT : T → T → Bool
  | .non,.non => true
  | .bl a,.bl b => a == b
  | .bl a,.int b => (if a then 1 else 0) == b
  | .int a,.bl b => a == (if b then 1 else 0)
  | .int a,.int b => a == b
  | .str a,.str b => decide (b = a)
  | _,_ => false
def inT (x : T) (ts : List T) : Bool := ts.any fun y => eqT y x
def asSeq : T → Sto → Option (List T)
  | .tup ts,_ => some ts
  | t,Z => asList t Z
def gInB : T → T → Sto → Option Bool
  | .str [c],.str l,_ => some (decide (c ∈ l))
  | x,y,Z => match asSeq y Z with
    | some ts => if flatT x = true ∧ ts.all flatT = true then some (inT x ts) else none
    | none => none
def gIn (x y : T) (Z : Sto) : Option (T × Sto) := (gInB x y Z).map fun b => (.bl b,Z)
def gNotIn (x y : T) (Z : Sto) : Option (T × Sto) := (gInB x y Z).map fun b => (.bl (!b),Z)
section
variable {K : PySem.W.Frag} {ι : List Addr} {H : Hp} {Z : Sto}
theorem Jo {v : V} {t : T} {ts : List T} (s : Sim K ι Z H) (r : Rep K ι H v t) (e : asSeq t Z = some ts) : ∃ a vs,v = .ref a ∧ (SqL K H a vs ∨ SqT K H a vs) ∧ Reps K ι H vs ts := by
  cases t with
  | tup us =>
    cases e
    obtain ⟨a,vs,rfl,h,r⟩ := r.tupE
    exact ⟨a,vs,rfl,.inr h,r⟩
  | _ =>
    obtain ⟨a,vs,rfl,h,r⟩ := Wk s r (by simpa [asSeq] using e)
    exact ⟨a,vs,rfl,.inl h,r⟩
theorem Zcn {v : V} {t : T} (r : Rep K ι H v t) : flatV v = flatT t := by cases r <;> rfl
theorem Zkh {v w : V} {t u : T} (r : Rep K ι H v t) (q : Rep K ι H w u) (h : flatT t = true) (h2 : flatT u = true) : eqV v w = eqT t u := by
  cases r <;> cases q <;> first | rfl | (exact eqV_S _ _) | (exact absurd h Bool.false_ne_true) | (exact absurd h2 Bool.false_ne_true)
theorem Z9s : ∀ {vs : List V} {ts : List T},Reps K ι H vs ts → vs.all flatV = ts.all flatT
  | _,_,.nil => rfl
  | _,_,.cons r q => by rw [List.all_cons,List.all_cons,Zcn r,Z9s q]
theorem Zgs {x : V} {t : T} (r : Rep K ι H x t) (h : flatT t = true) : ∀ {vs : List V} {ts : List T},Reps K ι H vs ts → ts.all flatT = true → inV x vs = inT t ts
  | _,_,.nil,_ => rfl
  | _, _, .cons r' q, hh => by
    rw [List.all_cons,Bool.and_eq_true] at hh
    show (eqV _ x || inV x _) = (eqT _ t || inT t _)
    rw [Zkh r' r hh.1 h, Zgs r h q hh.2]
theorem Zgt {x y : V} {tx ty : T} {b : Bool} (s : Sim K ι Z H) (rx : Rep K ι H x tx) (ry : Rep K ι H y ty) (e : gInB tx ty Z = some b) :
    (∃ (c : Nat) (z : PySem.Str),x = .str ⟨#[c]⟩ ∧ y = .str z ∧ decide (c ∈ z.cps.toList) = b) ∨ ∃ p xs,y = .ref p ∧ (SqL K H p xs ∨ SqT K H p xs) ∧ flatV x = true ∧ xs.all flatV = true ∧ inV x xs = b := by
  unfold gInB at e
  split at e
  · cases e; cases rx; cases ry
    exact .inl ⟨_,_,rfl,rfl,by simp [S]⟩
  · split at e
    · rename_i ts h
      split at e
      · rename_i hf
        cases e
        obtain ⟨a,vs,rfl,hq,r⟩ := Jo s ry h
        exact .inr ⟨a,vs,rfl,hq,(Zcn rx).trans hf.1,(Z9s r).trans hf.2,Zgs rx hf.1 r hf.2⟩
      · cases e
    · cases e
end
section
variable {X : Cx} {K : PySem.W.Frag}
theorem o_lt : OpF X K (compareOp .Lt) gLt := by
  refine Xm (U0 op_lt op_lt_str) fun x y H Q h => ?_
  obtain ⟨ι,Z,tx,ty,s,rx,ry,p⟩ := h
  unfold gLt at p
  split at p
  · cases rx; cases ry; exact .inl ⟨_,_,rfl,rfl,Zq p s (.bl _)⟩
  · cases rx; cases ry; exact .inr ⟨_,_,rfl,rfl,Zq p s (.bl _)⟩
  · exact p.elim
theorem Zf5 {ι : List Addr} {H : Hp} {v : V} {t : T} (r : Rep K ι H v t) : decide (v = .non) = isNon t := by cases r <;> rfl
theorem o_is : OpF X K (compareOp .Is) gIs := Xm op_isN fun x y H Q h => by
  obtain ⟨ι,Z,tx,ty,s,rx,ry,p⟩ := h
  unfold gIs at p
  split at p
  · cases ry; exact ⟨rfl,by rw [Zf5 rx]; exact Zq p s (.bl _)⟩
  · exact p.elim
theorem o_in (hK : X.K = K) : OpF X K (compareOp .In) gIn := by
  subst hK
  refine Xm (U0 op_in_sign op_in_seq) fun x y H Q h => ?_
  obtain ⟨ι,Z,tx,ty,s,rx,ry,p⟩ := h
  cases e : gInB tx ty Z with
  | none => simp only [gIn,e] at p; exact p.elim
  | some b =>
    simp only [gIn,e,Option.map_some] at p
    have q := Zq p s (.bl b)
    rcases Zgt s rx ry e with ⟨c,z,rfl,rfl,hb⟩ | ⟨a,xs,rfl,h1,h2,h3,hb⟩
    · exact .inl ⟨c,z,rfl,rfl,by rw [hb]; exact q⟩
    · exact .inr ⟨a,xs,rfl,h1,h2,h3,by rw [hb]; exact q⟩
theorem Zhw (hK : X.K = K) : OpF X K (compareOp .NotIn) gNotIn := by
  subst hK
  refine Xm (U0 op_notIn_sign op_notIn_seq) fun x y H Q h => ?_
  obtain ⟨ι,Z,tx,ty,s,rx,ry,p⟩ := h
  cases e : gInB tx ty Z with
  | none => simp only [gNotIn,e] at p; exact p.elim
  | some b =>
    simp only [gNotIn,e,Option.map_some] at p
    have q := Zq p s (.bl (!b))
    rcases Zgt s rx ry e with ⟨c,z,rfl,rfl,hb⟩ | ⟨a,xs,rfl,h1,h2,h3,hb⟩
    · exact .inl ⟨c,z,rfl,rfl,by rw [hb]; exact q⟩
    · exact .inr ⟨a,xs,rfl,h1,h2,h3,by rw [hb]; exact q⟩
end
def eChain (g g' : T → T → Sto → Option (T × Sto)) (a b c : FE) : FE := fun ρ Z => (a ρ Z).bind fun x Z1 => (b ρ Z1).bind fun y Z2 => (lift (g x y Z2)).bind fun z Z3 => match z with
  | .bl true => (c ρ Z3).bind fun w Z4 => lift (g' y w Z4)
  | .bl false => .ok (.bl false) Z3
  | _ => .stuck
section
variable {X : Cx} {K : PySem.W.Frag} {W : Wc} {a b c : Expr} {fa fb fc : FE} {pos : Pos} {op op' : CmpOp} {g g' : T → T → Sto → Option (T × Sto)}
theorem Z9t {σ : L2.St} {H : Hp} {Q : VK} (h : tF K W (eChain g g' fa fb fc) σ H Q) : tChain (rF2 K g) (rF2 K g') (tF K W fa) (tF K W fb) (tF K W fc) σ H Q := by
  obtain ⟨ι,ρ,Z,is,p⟩ := h
  refine ⟨ι,ρ,Z,is,(Zi p).imp fun x H1 q => ?_⟩
  obtain ⟨ι1,Z1,tx,g1,s1,r1,p1⟩ := q
  refine ⟨ι1,ρ,Z1,is.gr g1 s1,(Zi p1).imp fun y H2 q2 => ?_⟩
  obtain ⟨ι2,Z2,ty,g2,s2,r2,p2⟩ := q2
  refine ⟨ι2,Z2,tx,ty,s2,r1.gr g2,r2,W9 (W := W.w) (σ := σ) ((Zi p2).imp fun z H3 q3 => ?_)⟩
  obtain ⟨ι3,Z3,tz,g3,s3,r3,p3⟩ := q3
  split at p3
  · cases r3
    refine ⟨true,rfl,?_⟩
    rw [if_pos rfl]
    refine ⟨ι3,ρ,Z3,is.gr ((g1.trans g2).trans g3) s3,(Zi p3).imp fun w H4 q4 => ?_⟩
    obtain ⟨ι4,Z4,tw,g4,s4,r4,p4⟩ := q4
    exact ⟨ι4,Z4,ty,tw,s4,(r2.gr g3).gr g4,r4,W9 p4⟩
  · cases r3
    refine ⟨false,rfl,?_⟩
    rw [if_neg Bool.false_ne_true]
    exact p3 ι3 H3 _ Gr.refl s3 (.bl false)
  · exact p3.elim
theorem Zhx (ho : OpF X K (compareOp op) g) (ho' : OpF X K (compareOp op') g') (ha : FJ X K W a fa) (hb : FJ X K W b fb) (hc : FJ X K W c fc) (hm : lastMarks [op, op'] [b, c] = false := by with_unfolding_all rfl) :
    FJ X K W (.Compare a [op, op'] [b, c] pos) (eChain g g' fa fb fc) := Xo (pe_chain ho ho' ha hb hc hm) fun _ _ _ h => Z9t h
theorem Zf6 (ho : OpF X K (compareOp op) g) (ho' : OpF X K (compareOp op') g') (ha : FJ X K W a fa) (hb : FJ X K W b fb) (hc : FJ X K W c fc) (hm : lastMarks [op, op'] [b, c] = false := by with_unfolding_all rfl) :
    FTJ X K W (.Compare a [op, op'] [b, c] pos) (eBl (eChain g g' fa fb fc)) := by
  refine Z9q (pt_chain ho ho' ha hb hc hm) fun σ H Q h => ?_
  obtain ⟨ι,ρ,Z,is,p⟩ := h
  refine Z9t ⟨ι,ρ,Z,is,(Zi p).imp fun x H1 q => ?_⟩
  obtain ⟨ι1,Z1,tx,g1,s1,r1,p1⟩ := q
  cases r1 with
  | bl b => exact ⟨b,rfl,p1 ι1 H1 b Gr.refl s1 rfl⟩
  | _ => exact p1.elim
end
def gIx : T → T → Sto → Option (T × Sto)
  | .str l,.int i,Z => if l.length ≤ Lim then (atI l i).map fun c => (.str [c],Z) else none
  | x,.int i,Z => match asSeq x Z with
    | some ts => (atI ts i).map fun t => (t,Z)
    | none => none
  | _,_,_ => none
def gSl : T → Option Int → Option Int → Sto → Option (T × Sto)
  | .str l,lo,hi,Z => if l.length ≤ Lim then some (.str (cutL l lo hi),Z) else none
  | .tup ts,lo,hi,Z => some (.tup (cutL ts lo hi),Z)
  | x,lo,hi,Z => match asList x Z with
    | some ts => some (.loc Z.length,Z ++ [.lst (cutL ts lo hi)])
    | none => none
abbrev FO := Env → Sto → R (Option Int)
def oNone : FO := fun _ Z => .ok none Z
def oSome (f : FE) : FO := fun ρ Z => (f ρ Z).bind fun x Z1 => match x with
  | .int i => .ok (some i) Z1
  | _ => .stuck
def eSl (f : FE) (lo hi : FO) : FE := fun ρ Z => (f ρ Z).bind fun x Z1 => (lo ρ Z1).bind fun l Z2 => (hi ρ Z2).bind fun h Z3 => lift (gSl x l h Z3)
def oEq (_ : List Addr) (_ : Hp) (b c : Option Int) : Prop := b = c
def tFO (K : PySem.W.Frag) (W : Wc) (f : FO) : TO := fun σ H Q => ∃ ι ρ Z,Ie K W ι H σ ρ Z ∧ Post oEq K W.w σ ι H Q (f ρ Z)
theorem Reps.cut {K : PySem.W.Frag} {ι : List Addr} {H : Hp} {vs : List V} {ts : List T} (r : Reps K ι H vs ts) (lo hi : Option Int) : Reps K ι H (cutV vs lo hi) (cutL ts lo hi) := by
  unfold cutV cutL
  rw [r.length]
  exact (r.drop _).take _
theorem Zki {K : PySem.W.Frag} {ι : List Addr} {H : Hp} {vs : List V} {ts : List T} {i : Int} {t : T} (r : Reps K ι H vs ts) (e : atI ts i = some t) : ∃ v,atI vs i = some v ∧ Rep K ι H v t := by
  unfold atI at e ⊢
  rw [r.length]
  obtain ⟨j,h1,h2⟩ := Option.bind_eq_some_iff.mp e
  rw [h1]
  exact r.get h2
section
variable {X : Cx} {K : PySem.W.Frag} {W : Wc} {a : Expr} {fa : FE} {pos p2 : Pos} {lo hi : Option Expr} {fl fh : FO}
theorem Zco {r r' : R2} (h : IxR X r) (i : ∀ x y H Q, r' x y H Q → r x y H Q) : IxR X r' := fun value slice pins s σ H x y v u Q I rx ry q => h value slice pins s σ H x y v u Q I rx ry (i _ _ _ _ q)
theorem i_ix (hK : X.K = K) : IxR X (rF2 K gIx) := by
  subst hK
  refine Zco ix_seq fun x y H Q h => ?_
  obtain ⟨ι,Z,tx,ty,s,rx,ry,p⟩ := h
  unfold gIx at p
  split at p
  · split at p
    · rename_i hz
      cases rx; cases ry
      cases e : atI _ _ with
      | none => rw [e] at p; exact p.elim
      | some c =>
        rw [e] at p
        exact .inr (.inr ⟨_,_,c,rfl,rfl,by rw [S_len]; exact Z0g hz,e,Zq p s (.str [c])⟩)
    · exact p.elim
  · cases ry
    split at p
    · rename_i ts hs
      obtain ⟨a,vs,rfl,hq,r⟩ := Jo s rx hs
      cases e : atI ts _ with
      | none => rw [e] at p; exact p.elim
      | some t =>
        rw [e] at p
        obtain ⟨v,h1,h2⟩ := Zki r e
        rcases hq with hq | hq
        · exact .inl ⟨a,vs,_,v,rfl,rfl,hq,h1,Zq p s h2⟩
        · exact .inr (.inl ⟨a,vs,_,v,rfl,rfl,hq,h1,Zq p s h2⟩)
    · exact p.elim
  · exact p.elim
theorem V5 : PO X none (tFO K W oNone) := ⟨fun pins s σ H Q I h => by
  obtain ⟨ι,ρ,Z,is,p⟩ := h
  exact po_none.run pins s σ H Q I (p ι H none Gr.refl is.sim rfl)⟩
theorem Jp (h : FJ X K W a fa) : PO X (some a) (tFO K W (oSome fa)) := ⟨fun pins s σ H Q I q => by
  obtain ⟨ι,ρ,Z,is,p⟩ := q
  refine (po_some h).run pins s σ H Q I ⟨ι,ρ,Z,is,(Zi p).imp fun x H1 q => ?_⟩
  obtain ⟨ι1,Z1,tx,g1,s1,r1,p1⟩ := q
  cases r1 with
  | int i => exact ⟨i,rfl,p1 ι1 H1 (some i) Gr.refl s1 rfl⟩
  | _ => exact p1.elim⟩
theorem f_sl (hK : X.K = K) (ha : FJ X K W a fa) (hl : PO X lo (tFO K W fl)) (hh : PO X hi (tFO K W fh)) : FJ X K W (.Subscript a (.Slice lo hi none p2) pos) (eSl fa fl fh) := by
  subst hK
  refine Xo (pe_slice ((sl_list (X := X)).or ((sl_tupA (X := X)).or sl_str)) ha hl hh) fun σ H Q h => ?_
  obtain ⟨ι,ρ,Z,is,p⟩ := h
  refine ⟨ι,ρ,Z,is,(Zi p).imp fun x H1 q => ?_⟩
  obtain ⟨ι1,Z1,tx,g1,s1,r1,p1⟩ := q
  refine ⟨ι1,ρ,Z1,is.gr g1 s1,(Zi p1).imp fun l H2 q2 => ?_⟩
  obtain ⟨ι2, Z2, l', g2, s2, r2, p2⟩ := q2
  cases (show l = l' from r2)
  refine ⟨ι2,ρ,Z2,is.gr (g1.trans g2) s2,(Zi p2).imp fun u H3 q3 => ?_⟩
  obtain ⟨ι3, Z3, u', g3, s3, r3, p3⟩ := q3
  cases (show u = u' from r3)
  have rx := (r1.gr g2).gr g3
  have p4 := W9 p3
  unfold gSl at p4
  split at p4
  · split at p4
    · rename_i hz
      cases rx
      exact .inr (.inr ⟨_,rfl,by rw [S_len]; exact Z0g hz,by rw [Zke]; exact Zq p4 s3 (.str _)⟩)
    · exact p4.elim
  · obtain ⟨a,vs,rfl,hq,r⟩ := rx.tupE
    refine .inr (.inl ⟨a,vs,rfl,hq,fun e => ?_,fun _ => Z8a p4 s3 (r.cut _ _)⟩)
    refine Zq p4 s3 ?_
    have h := r.cut l u
    have e3 : cutV vs l u = vs := by
      unfold cutV
      rw [e.1,e.2,List.drop_zero,Nat.sub_zero]
      exact List.take_of_length_le (Nat.le_refl _)
    rw [e3] at h
    exact .tup hq h
  · split at p4
    · rename_i ts hs
      obtain ⟨a,vs,rfl,hq,r⟩ := Wk s3 rx hs
      exact .inl ⟨a,vs,rfl,hq,Z1w p4 s3 (r.cut _ _)⟩
    · exact p4.elim
end
def eTup (f : FA) : FE := fun ρ Z => (f ρ Z).bind fun xs Z1 => .ok (.tup xs) Z1
def eLst (f : FA) : FE := fun ρ Z => (f ρ Z).bind fun xs Z1 => .ok (.loc Z1.length) (Z1 ++ [.lst xs])
section
variable {X : Cx} {K : PySem.W.Frag} {W : Wc} {es : List Expr} {f : FA} {pos : Pos}
def ofLen (es : List Expr) (f : FA) : Prop := ∀ ρ Z xs Z1,f ρ Z = .ok xs Z1 → xs.length = es.length
theorem Zf : ofLen [] aNil := fun ρ Z xs Z1 h => by
  unfold aNil at h
  injection h with h1 h2
  subst h1; rfl
theorem Za {a : Expr} {fa : FE} (h : ofLen es f) : ofLen (a :: es) (aCons fa f) := fun ρ Z xs Z1 e => by
  unfold aCons at e
  cases e1 : fa ρ Z with
  | ok x Z2 =>
    rw [e1,Zv] at e
    cases e2 : f ρ Z2 with
    | ok ys Z3 =>
      rw [e2,Zv] at e
      injection e with h1 h2
      subst h1
      rw [List.length_cons,List.length_cons,h _ _ _ _ e2]
    | exc _ _ => rw [e2] at e; cases e
    | stuck => rw [e2] at e; cases e
  | exc _ _ => rw [e1] at e; cases e
  | stuck => rw [e1] at e; cases e
theorem f_tup {k} (ha : FAJ X K W es f) (hn : ofLen es f) (hz : es.length ≤ 1000 := by decide) : FJ X K W (.Tuple es k pos) (eTup f) := by
  refine Xo (pe_tup ha) fun σ H Q h => ?_
  obtain ⟨ι,ρ,Z,is,p⟩ := h
  refine ⟨ι,ρ,Z,is,?_⟩
  unfold eTup at p
  cases e : f ρ Z with
  | ok ts Z1 =>
    rw [e,Zv] at p
    intro ι1 H1 vs g1 s1 r1
    refine ⟨?_,fun q n => ?_⟩
    · rw [r1.length,hn _ _ _ _ e]; exact Z0g (by unfold Lim; omega)
    · exact p ι1 _ _ (g1.trans (Gr.new0 n)) (s1.same (Wd n)) (.tup (SqT.of upd_same) (r1.gr (Gr.new0 n)))
  | exc x Z1 => rw [e] at p; exact p
  | stuck => rw [e] at p; exact p
theorem Z50 (ha : FAJ X K W es f) (hn : ofLen es f) (hz : es.length ≤ 1000 := by decide) : FJ X K W (.List es pos) (eLst f) := by
  refine Xo (pe_lst ha) fun σ H Q h => ?_
  obtain ⟨ι,ρ,Z,is,p⟩ := h
  refine ⟨ι,ρ,Z,is,?_⟩
  unfold eLst at p
  cases e : f ρ Z with
  | ok ts Z1 =>
    rw [e,Zv] at p
    intro ι1 H1 vs g1 s1 r1
    refine ⟨?_,fun q n => ?_⟩
    · rw [r1.length,hn _ _ _ _ e]; exact Z0g (by unfold Lim; omega)
    · exact p (ι1 ++ [q]) _ _ (g1.trans (Gr.new n)) (s1.newL r1 n) (Z5r s1)
  | exc x Z1 => rw [e] at p; exact p
  | stuck => rw [e] at p; exact p
end
end Fx
set_option maxHeartbeats 4000000
namespace Fx
open PySem PySem.Spec PyProof.Rows L2 SX Ap
variable [Tb]
inductive RS where
  | nx (ρ : Env) (Z : Sto) | rt (t : T) (Z : Sto) | bk (ρ : Env) (Z : Sto) | ct (ρ : Env) (Z : Sto) | exc (x : Ex) (ρ : Env) (Z : Sto) | stuck
abbrev FS := Env → Sto → RS
def bS {α : Type} (ρ : Env) : R α → (α → Sto → RS) → RS
  | .ok a Z,k => k a Z
  | .exc x Z,_ => .exc x ρ Z
  | .stuck,_ => .stuck
def seqS : RS → (Env → Sto → RS) → RS
  | .nx ρ Z,k => k ρ Z
  | r,_ => r
def seqL : RS → (Env → Sto → RS) → RS
  | .nx ρ Z,k => k ρ Z
  | .ct ρ Z,k => k ρ Z
  | .bk ρ Z,_ => .nx ρ Z
  | r,_ => r
@[simp] theorem Z0k {α : Type} (ρ : Env) (a : α) (Z : Sto) (k : α → Sto → RS) : bS ρ (.ok a Z) k = k a Z := (rfl)
@[simp] theorem bS_exc {α : Type} (ρ : Env) (x : Ex) (Z : Sto) (k : α → Sto → RS) : bS ρ (.exc x Z) k = .exc x ρ Z := (rfl)
@[simp] theorem bS_stuck {α : Type} (ρ : Env) (k : α → Sto → RS) : bS ρ (.stuck : R α) k = .stuck := (rfl)
@[simp] theorem seqS_nx (ρ : Env) (Z : Sto) (k : Env → Sto → RS) : seqS (.nx ρ Z) k = k ρ Z := (rfl)
@[simp] theorem seqS_rt (t : T) (Z : Sto) (k : Env → Sto → RS) : seqS (.rt t Z) k = .rt t Z := (rfl)
@[simp] theorem seqS_bk (ρ : Env) (Z : Sto) (k : Env → Sto → RS) : seqS (.bk ρ Z) k = .bk ρ Z := (rfl)
@[simp] theorem seqS_ct (ρ : Env) (Z : Sto) (k : Env → Sto → RS) : seqS (.ct ρ Z) k = .ct ρ Z := (rfl)
@[simp] theorem seqS_exc (x : Ex) (ρ : Env) (Z : Sto) (k : Env → Sto → RS) : seqS (.exc x ρ Z) k = .exc x ρ Z := (rfl)
@[simp] theorem Z3c (ρ : Env) (Z : Sto) (k : Env → Sto → RS) : seqL (.nx ρ Z) k = k ρ Z := (rfl)
@[simp] theorem Zcp (ρ : Env) (Z : Sto) (k : Env → Sto → RS) : seqL (.ct ρ Z) k = k ρ Z := (rfl)
@[simp] theorem seqL_bk (ρ : Env) (Z : Sto) (k : Env → Sto → RS) : seqL (.bk ρ Z) k = .nx ρ Z := (rfl)
@[simp] theorem Zcq (t : T) (Z : Sto) (k : Env → Sto → RS) : seqL (.rt t Z) k = .rt t Z := (rfl)
@[simp] theorem seqL_exc (x : Ex) (ρ : Env) (Z : Sto) (k : Env → Sto → RS) : seqL (.exc x ρ Z) k = .exc x ρ Z := (rfl)
structure Is (K : PySem.W.Frag) (ι : List Addr) (H : Hp) (σ : L2.St) (ρ : Env) (Z : Sto) : Prop where
  len : σ.length = ρ.length
  env : Envs K ι H σ ρ
  sim : Sim K ι Z H
theorem Is.ie {K : PySem.W.Frag} {W : WX} {ι : List Addr} {H : Hp} {σ : L2.St} {ρ : Env} {Z : Sto} (h : Is K ι H σ ρ Z) : Ie K (Wt W) ι H σ ρ Z := ⟨h.len,h.env,h.sim,trivial⟩
theorem Is.gr {K : PySem.W.Frag} {ι ι' : List Addr} {H H' : Hp} {σ : L2.St} {ρ : Env} {Z Z' : Sto} (h : Is K ι H σ ρ Z) (g : Gr ι ι' H H') (s : Sim K ι' Z' H') : Is K ι' H' σ ρ Z' := ⟨h.len, h.env.gr g, s⟩
def PostS (K : PySem.W.Frag) (W : WX) (ι : List Addr) (H : Hp) (D : Ends) : RS → Prop
  | .nx ρ' Z' => ∀ ι' H' σ', Gr ι ι' H H' → Is K ι' H' σ' ρ' Z' → D.nx σ' H'
  | .rt t Z' => ∀ ι' H' v, Gr ι ι' H H' → Sim K ι' Z' H' → Rep K ι' H' v t → D.rt v H'
  | .bk ρ' Z' => ∀ ι' H' σ', Gr ι ι' H H' → Is K ι' H' σ' ρ' Z' → D.bk σ' H'
  | .ct ρ' Z' => ∀ ι' H' σ', Gr ι ι' H H' → Is K ι' H' σ' ρ' Z' → D.ct σ' H'
  | .exc x ρ' Z' => ∀ ι' H' σ' cls d, Gr ι ι' H H' → Is K ι' H' σ' ρ' Z' → RepX K ι' H' cls d x → W cls d σ' H'
  | .stuck => False
def tS (K : PySem.W.Frag) (W : WX) (g : FS) : TS := fun D σ H => ∃ ι ρ Z,Is K ι H σ ρ Z ∧ PostS K W ι H D (g ρ Z)
abbrev FSJ (X : Cx) (K : PySem.W.Frag) (W : WX) (st : Stmt) (g : FS) : Prop := PS X st (tS K W g)
abbrev FBJ (X : Cx) (K : PySem.W.Frag) (W : WX) (st : List Stmt) (g : FS) : Prop := PSs X st (tS K W g)
section
variable {α β : Type} {K : PySem.W.Frag} {W : WX} {ι ι1 : List Addr} {H H1 : Hp} {σ : L2.St} {ρ : Env} {Z : Sto} {D : Ends}
theorem PostS.shift {r : RS} (h : PostS K W ι H D r) (g : Gr ι ι1 H H1) : PostS K W ι1 H1 D r := by
  cases r with
  | nx => exact fun ι' H' σ' g' => h ι' H' σ' (g.trans g')
  | rt => exact fun ι' H' σ' g' => h ι' H' σ' (g.trans g')
  | bk => exact fun ι' H' σ' g' => h ι' H' σ' (g.trans g')
  | ct => exact fun ι' H' σ' g' => h ι' H' σ' (g.trans g')
  | exc => exact fun ι' H' σ' c d g' => h ι' H' σ' c d (g.trans g')
  | stuck => exact h
theorem Z3d {rep : List Addr → Hp → β → α → Prop} {r : R α} {k : α → Sto → RS} (is : Is K ι H σ ρ Z) (h : PostS K W ι H D (bS ρ r k)) :
    Post rep K W σ ι H (fun b H1 => ∃ ι1 Z1 a,Gr ι ι1 H H1 ∧ Sim K ι1 Z1 H1 ∧ rep ι1 H1 b a ∧ PostS K W ι1 H1 D (k a Z1)) r := by
  cases r with
  | ok a S => exact fun ι1 H1 b g s r => ⟨ι1,S,a,g,s,r,PostS.shift h g⟩
  | exc x S => exact fun ι' H' cls d g s rx => h ι' H' σ cls d g (is.gr g s) rx
  | stuck => exact h
theorem Zf7 {r : RS} {k : Env → Sto → RS} (h : PostS K W ι H D (seqS r k)) :
    PostS K W ι H { D with nx := fun σ' H' => ∃ ι' ρ' Z', Gr ι ι' H H' ∧ Is K ι' H' σ' ρ' Z' ∧ PostS K W ι' H' D (k ρ' Z') } r := by
  cases r with
  | nx ρ' Z' => exact fun ι' H' σ' g i => ⟨ι', ρ', Z', g, i, PostS.shift h g⟩
  | rt => exact h
  | bk => exact h
  | ct => exact h
  | exc => exact h
  | stuck => exact h
theorem Z6u {r : RS} {k : Env → Sto → RS} (h : PostS K W ι H D (seqL r k)) :
    PostS K W ι H { D with nx := fun σ' H' => ∃ ι' ρ' Z', Gr ι ι' H H' ∧ Is K ι' H' σ' ρ' Z' ∧ PostS K W ι' H' D (k ρ' Z'), ct := fun σ' H' => ∃ ι' ρ' Z', Gr ι ι' H H' ∧ Is K ι' H' σ' ρ' Z' ∧ PostS K W ι' H' D (k ρ' Z'), bk := D.nx } r := by
  cases r with
  | nx ρ' Z' => exact fun ι' H' σ' g i => ⟨ι', ρ', Z', g, i, PostS.shift h g⟩
  | rt => exact h
  | bk => exact h
  | ct ρ' Z' => exact fun ι' H' σ' g i => ⟨ι', ρ', Z', g, i, PostS.shift h g⟩
  | exc => exact h
  | stuck => exact h
theorem PostS.imp {r : RS} {D2 : Ends} (h : PostS K W ι H D r) (h1 : ∀ σ H,D.nx σ H → D2.nx σ H) (h2 : ∀ σ H,D.rt σ H → D2.rt σ H) (h3 : ∀ σ H,D.bk σ H → D2.bk σ H) (h4 : ∀ σ H,D.ct σ H → D2.ct σ H) : PostS K W ι H D2 r := by
  cases r with
  | nx => exact fun ι' H' σ' g i => h1 _ _ (h ι' H' σ' g i)
  | rt => exact fun ι' H' σ' g i r => h2 _ _ (h ι' H' σ' g i r)
  | bk => exact fun ι' H' σ' g i => h3 _ _ (h ι' H' σ' g i)
  | ct => exact fun ι' H' σ' g i => h4 _ _ (h ι' H' σ' g i)
  | exc => exact h
  | stuck => exact h
end
def sSet (i : Nat) (f : FE) : FS := fun ρ Z => bS ρ (f ρ Z) fun x Z1 => .nx (ρ.set i (some x)) Z1
def sRet (f : FE) : FS := fun ρ Z => bS ρ (f ρ Z) fun x Z1 => .rt x Z1
def sRetN : FS := fun _ Z => .rt .non Z
def sDrop (f : FE) : FS := fun ρ Z => bS ρ (f ρ Z) fun _ Z1 => .nx ρ Z1
def sPass : FS := fun ρ Z => .nx ρ Z
def sBrk : FS := fun ρ Z => .bk ρ Z
def sCnt : FS := fun ρ Z => .ct ρ Z
def sIf (c : FT) (a b : FS) : FS := fun ρ Z => bS ρ (c ρ Z) fun x Z1 => if x = true then a ρ Z1 else b ρ Z1
def bCons (a b : FS) : FS := fun ρ Z => seqS (a ρ Z) b
section
variable {X : Cx} {K : PySem.W.Frag} {W : WX} {e c : Expr} {fe : FE} {ft : FT} {st : Stmt} {sts a b : List Stmt} {g g' : FS} {pos : Pos} {i : Nat} {x : PySem.Str}
theorem Zcr {k : T → Sto → RS} {σ : L2.St} {ρ : Env} {ι : List Addr} {H : Hp} {Z : Sto} {D : Ends} {Q : VK} (is : Is K ι H σ ρ Z) (h : PostS K W ι H D (bS ρ (fe ρ Z) k)) (hq : ∀ v H1 ι1 Z1 t,Gr ι ι1 H H1 → Is K ι1 H1 σ ρ Z1 → Rep K ι1 H1 v t → PostS K W ι1 H1 D (k t Z1) → Q v H1) : tF K (Wt W) fe σ H Q :=
  ⟨ι,ρ,Z,is.ie,(Z3d (rep := Rep K) is h).imp fun v H1 ⟨ι1,Z1,t,g1,s1,r1,p1⟩ => hq v H1 ι1 Z1 t g1 (is.gr g1 s1) r1 p1⟩
theorem Zgu {k : Bool → Sto → RS} {σ : L2.St} {ρ : Env} {ι : List Addr} {H : Hp} {Z : Sto} {D : Ends} {Q : Bool → Hp → Prop} (is : Is K ι H σ ρ Z) (h : PostS K W ι H D (bS ρ (ft ρ Z) k)) (hq : ∀ v H1 ι1 Z1,Gr ι ι1 H H1 → Is K ι1 H1 σ ρ Z1 → PostS K W ι1 H1 D (k v Z1) → Q v H1) : tFT K (Wt W) ft σ H Q :=
  ⟨ι,ρ,Z,is.ie,(Z3d (rep := bEq) is h).imp fun v H1 ⟨ι1,Z1,t,g1,s1,r1,p1⟩ => hq v H1 ι1 Z1 g1 (is.gr g1 s1) (by cases (show v = t from r1); exact p1)⟩
theorem Is.set {ι : List Addr} {H : Hp} {σ : L2.St} {ρ : Env} {Z : Sto} {v : V} {t : T} (h : Is K ι H σ ρ Z) (r : Rep K ι H v t) (i : Nat) : Is K ι H (σ.set i (some v)) (ρ.set i (some t)) Z :=
  ⟨by rw [List.length_set,List.length_set]; exact h.len,h.env.set r i h.len,h.sim⟩
theorem Wl {pos' : Pos} (hN : X.N.Nodup) (hi : X.N[i]? = some x) (hx : Loc X.env.scope x) (he : FJ X K (Wt W) e fe) (hs : swapsWith e (some (.Name x pos')) pos.line X.env = pure false := by rfl) (hf : X.fn x = true ∨ X.env.scope.names.lookup x = some .local := by first | exact .inl rfl | exact .inr rfl | assumption) :
    FSJ X K W (.Assign [.Name x pos'] e pos) (sSet i fe) := Jm (ps_set hN hi hx he hs hf) fun D σ H h => by
  obtain ⟨ι,ρ,Z,is,p⟩ := h
  exact Zcr is p fun v H1 ι1 Z1 t g1 i1 r1 p1 => p1 ι1 H1 _ Gr.refl (i1.set r1 i)
theorem Y4 (he : FJ X K (Wt W) e fe) : FSJ X K W (.Return (some e) pos) (sRet fe) := Jm (ps_ret he) fun D σ H h => by
  obtain ⟨ι,ρ,Z,is,p⟩ := h
  exact Zcr is p fun v H1 ι1 Z1 t g1 i1 r1 p1 => p1 ι1 H1 v Gr.refl i1.sim r1
theorem Z0l (he : FJ X K (Wt W) e fe) (hs : swapsWith e none pos.line X.env = pure false := by rfl) : FSJ X K W (.Expr e pos) (sDrop fe) := Jm (ps_expr he hs) fun D σ H h => by
  obtain ⟨ι,ρ,Z,is,p⟩ := h
  exact Zcr is p fun v H1 ι1 Z1 t g1 i1 r1 p1 => p1 ι1 H1 σ Gr.refl i1
theorem Xz (hc : FTJ X K (Wt W) c ft) (ha : FBJ X K W a g) (hb : FBJ X K W b g') : FSJ X K W (.If c a b pos) (sIf ft g g') := Jm (ps_if hc ha hb) fun D σ H h => by
  obtain ⟨ι,ρ,Z,is,p⟩ := h
  refine Zgu is p fun v H1 ι1 Z1 g1 i1 p1 => ?_
  cases v with
  | true => exact ⟨ι1,ρ,Z1,i1,p1⟩
  | false => exact ⟨ι1,ρ,Z1,i1,p1⟩
theorem Yi : FBJ X K W [] sPass := Z5o pss_nil fun D σ H h => by
  obtain ⟨ι,ρ,Z,is,p⟩ := h
  exact p ι H σ Gr.refl is
theorem Zm (h : FSJ X K W st g) : FBJ X K W [st] g := pss_one h
theorem Zj (h : FSJ X K W st g) (h2 : FBJ X K W sts g') : FBJ X K W (st :: sts) (bCons g g') := Z5o (pss_cons h h2) fun D σ H h => by
  obtain ⟨ι,ρ,Z,is,p⟩ := h
  refine ⟨ι, ρ, Z, is, (Zf7 p).imp (fun σ' H' q => ?_) (fun _ _ q => q) (fun _ _ q => q) (fun _ _ q => q)⟩
  obtain ⟨ι', ρ', Z', _, i', p'⟩ := q
  exact ⟨ι', ρ', Z', i', p'⟩
end
def sPar (ix : List Nat) (f : FA) : FS := fun ρ Z => bS ρ (f ρ Z) fun xs Z1 => .nx ((ix.zip xs).foldl (fun r p => r.set p.1 (some p.2)) ρ) Z1
section
variable {X : Cx} {K : PySem.W.Frag} {W : WX} {fa : FA}
theorem Zcs {k : List T → Sto → RS} {σ : L2.St} {ρ : Env} {ι : List Addr} {H : Hp} {Z : Sto} {D : Ends} {Q : List V → Hp → Prop} (is : Is K ι H σ ρ Z) (h : PostS K W ι H D (bS ρ (fa ρ Z) k)) (hq : ∀ v H1 ι1 Z1 t,fa ρ Z = .ok t Z1 → Gr ι ι1 H H1 → Is K ι1 H1 σ ρ Z1 → Reps K ι1 H1 v t → PostS K W ι1 H1 D (k t Z1) → Q v H1) : tFA K (Wt W) fa σ H Q := by
  refine ⟨ι,ρ,Z,is.ie,?_⟩
  cases e : fa ρ Z with
  | ok a S =>
    rw [e] at h
    exact fun ι1 H1 b g s r => hq b H1 ι1 S a e g (is.gr g s) r (PostS.shift h g)
  | exc x S =>
    rw [e] at h
    exact fun ι' H' cls d g s rx => h ι' H' σ cls d g (is.gr g s) rx
  | stuck => rw [e] at h; exact h
theorem Zct {i j : Nat} {x y : PySem.Str} {a b : Expr} {px py pt pos : Pos} {kt k2 pt2} (hc : X.calm = true) (hN : X.N.Nodup) (hi : X.N[i]? = some x) (hj : X.N[j]? = some y) (hij : i ≠ j)
    (hx : X.env.scope.names.lookup x = some .local) (hy : X.env.scope.names.lookup y = some .local) (ha : FAJ X K (Wt W) [a,b] fa) (hn : ofLen [a,b] fa)
    (hw : swappedStores [.Tuple [.Name x px,.Name y py] kt pt] (.Tuple [a,b] k2 pt2) X.env = pure (some [x,y]))
    (hs : swapsWithSole [.Tuple [.Name x px,.Name y py] kt pt] (.Tuple [a,b] k2 pt2) pos.line X.env = pure false := by rfl) :
    FSJ X K W (.Assign [.Tuple [.Name x px,.Name y py] kt pt] (.Tuple [a,b] k2 pt2) pos) (sPar [i,j] fa) := Jm (ps_par hc hN hi hj hij hx hy ha hw hs) fun D σ H h => by
  obtain ⟨ι,ρ,Z,is,p⟩ := h
  refine Zcs is p fun v H1 ι1 Z1 t e g1 i1 r1 p1 => ?_
  have hl := hn _ _ _ _ e
  match t,r1,hl with
  | [t1,t2],.cons r1 (.cons r2 .nil),_ => exact ⟨_,_,rfl,p1 ι1 H1 _ Gr.refl ((i1.set r1 i).set r2 j)⟩
theorem Zhy {i j l : Nat} {x y z : PySem.Str} {a b c : Expr} {px py pz pt pos : Pos} {kt k2 pt2} (hc : X.calm = true) (hN : X.N.Nodup) (hi : X.N[i]? = some x) (hj : X.N[j]? = some y) (hl : X.N[l]? = some z) (hij : i ≠ j) (hil : i ≠ l) (hjl : j ≠ l)
    (hx : X.env.scope.names.lookup x = some .local) (hy : X.env.scope.names.lookup y = some .local) (hz : X.env.scope.names.lookup z = some .local) (ha : FAJ X K (Wt W) [a,b,c] fa) (hn : ofLen [a,b,c] fa)
    (hw : swappedStores [.Tuple [.Name x px,.Name y py,.Name z pz] kt pt] (.Tuple [a,b,c] k2 pt2) X.env = pure (some [x,y,z]))
    (hs : swapsWithSole [.Tuple [.Name x px,.Name y py,.Name z pz] kt pt] (.Tuple [a,b,c] k2 pt2) pos.line X.env = pure false := by rfl) :
    FSJ X K W (.Assign [.Tuple [.Name x px,.Name y py,.Name z pz] kt pt] (.Tuple [a,b,c] k2 pt2) pos) (sPar [i,j,l] fa) := Jm (ps_par3 hc hN hi hj hl hij hil hjl hx hy hz ha hw hs) fun D σ H h => by
  obtain ⟨ι,ρ,Z,is,p⟩ := h
  refine Zcs is p fun v H1 ι1 Z1 t e g1 i1 r1 p1 => ?_
  have hl := hn _ _ _ _ e
  match t,r1,hl with
  | [t1,t2,t3],.cons r1 (.cons r2 (.cons r3 .nil)),_ => exact ⟨_,_,_,rfl,p1 ι1 H1 _ Gr.refl (((i1.set r1 i).set r2 j).set r3 _)⟩
end
abbrev FG := T → Env → Sto → R Env
abbrev FGs := List T → Env → Sto → R Env
def rEnv (K : PySem.W.Frag) (ι : List Addr) (H : Hp) (σ : L2.St) (ρ : Env) : Prop := σ.length = ρ.length ∧ Envs K ι H σ ρ
def tG (K : PySem.W.Frag) (W : WX) (g : FG) : TG := fun v σ H Q => ∃ ι ρ Z t,Is K ι H σ ρ Z ∧ Rep K ι H v t ∧ Post (rEnv K) K W σ ι H Q (g t ρ Z)
def tGs (K : PySem.W.Frag) (W : WX) (g : FGs) : TGs := fun v σ H Q => ∃ ι ρ Z t,Is K ι H σ ρ Z ∧ Reps K ι H v t ∧ Post (rEnv K) K W σ ι H Q (g t ρ Z)
def gNm (i : Nat) : FG := fun t ρ Z => .ok (ρ.set i (some t)) Z
def gsNil : FGs := fun ts ρ Z => match ts with
  | [] => .ok ρ Z
  | _ => .stuck
def noX {α : Type} : R α → R α
  | .exc _ _ => .stuck
  | r => r
def gsCons (g : FG) (r : FGs) : FGs := fun ts ρ Z => match ts with
  | t :: ts => (noX (g t ρ Z)).bind fun ρ1 Z1 => noX (r ts ρ1 Z1)
  | _ => .stuck
def gTp (n : Nat) (r : FGs) : FG := fun t ρ Z => match t with
  | .tup ts => if ts.length = n then r ts ρ Z else .stuck
  | _ => .stuck
theorem Ul {α β : Type} {rep : List Addr → Hp → β → α → Prop} {K : PySem.W.Frag} {W W' : WX} {σ σ' : L2.St} {ι : List Addr} {H : Hp} {Q : β → Hp → Prop} {r : R α} (h : Post rep K W σ ι H Q (noX r)) : Post rep K W' σ' ι H Q r := by
  cases r with
  | ok => exact h
  | exc => exact h.elim
  | stuck => exact h
section
variable {X : Cx} {K : PySem.W.Frag} {W : WX} {pos : Pos} {e : Expr} {es : List Expr}
theorem Z9u {tg : Expr} {t t' : TG} (h : PG X tg t) (i : ∀ v σ H Q, t' v σ H Q → t v σ H Q) : PG X tg t' := ⟨fun pins s σ H v u Q I r q => h.run pins s σ H v u Q I r (i _ _ _ _ q)⟩
theorem Zcu {tg : List Expr} {t t' : TGs} (h : PGs X tg t) (i : ∀ v σ H Q, t' v σ H Q → t v σ H Q) : PGs X tg t' := ⟨fun pins s σ H v u Q I r q => h.run pins s σ H v u Q I r (i _ _ _ _ q)⟩
theorem Y5 {i : Nat} {x : PySem.Str} (hN : X.N.Nodup) (hi : X.N[i]? = some x) (hx : Loc X.env.scope x) (hf : X.fn x = true ∨ X.env.scope.names.lookup x = some .local := by first | exact .inl rfl | exact .inr rfl | assumption) : PG X (.Name x pos) (tG K W (gNm i)) :=
  Z9u (pg_name hN hi hx hf) fun v σ H Q h => by
    obtain ⟨ι,ρ,Z,t,is,r,p⟩ := h
    have i2 := is.set r i
    exact p ι H _ Gr.refl is.sim ⟨i2.len,i2.env⟩
theorem V6 : PGs X [] (tGs K W gsNil) := Zcu pgs_nil fun v σ H Q h => by
  obtain ⟨ι,ρ,Z,t,is,r,p⟩ := h
  cases r with
  | nil => exact ⟨rfl,p ι H _ Gr.refl is.sim ⟨is.len,is.env⟩⟩
  | cons _ _ => exact p.elim
theorem Zu {g : FG} {gs : FGs} (h1 : PG X e (tG K W g)) (h2 : PGs X es (tGs K W gs)) (hs : (assignEach (e :: es) X.env).map (·.2) = assign e X.env :: (assignEach es X.env).map (·.2) := by rfl) : PGs X (e :: es) (tGs K W (gsCons g gs)) := Zcu (pgs_cons h1 h2 hs) fun v σ H Q h => by
  obtain ⟨ι,ρ,Z,t,is,r,p⟩ := h
  cases r with
  | nil => exact p.elim
  | cons r1 r2 =>
    refine ⟨_,_,rfl,ι,ρ,Z,_,is,r1,Ul (W := W) (σ := σ) ((Zi (rep := rEnv K) p).imp fun σ1 H1 q => ?_)⟩
    obtain ⟨ι1,Z1,ρ1,g1,s1,⟨hl,he⟩,p1⟩ := q
    exact ⟨ι1,ρ1,Z1,_,⟨hl,he,s1⟩,r2.gr g1,Ul p1⟩
theorem Q4 {k : Nat} {gs : FGs} {n : Nat} (hK : X.K = K) (hc : X.calm = true) (h : PGs X es (tGs K W gs)) (hn : (assignEach es X.env).length = n := by rfl) (hst : (assignEach es X.env).findIdx? (·.1) = none := by rfl) : PG X (.Tuple es k pos) (tG K W (gTp n gs)) := by
  subst hK
  refine Z9u (pg_tup hc h hn hst) fun v σ H Q h => ?_
  obtain ⟨ι,ρ,Z,t,is,r,p⟩ := h
  cases t with
  | tup ts =>
    obtain ⟨a,vs,rfl,hq,r⟩ := r.tupE
    simp only [gTp] at p
    split at p
    · rename_i hl
      exact ⟨a,vs,rfl,hq,by rw [r.length]; exact hl,ι,ρ,Z,ts,is,r,p⟩
    · exact p.elim
  | _ => exact p.elim
def sAsg (f : FE) (g : FG) : FS := fun ρ Z => bS ρ (f ρ Z) fun x Z1 => bS ρ (g x ρ Z1) fun ρ2 Z2 => .nx ρ2 Z2
theorem Ub {tg : Expr} {fe : FE} {g : FG} (he : FJ X K (Wt W) e fe) (hg : PG X tg (tG K W g)) (hs : swapsWithSole [tg] e pos.line X.env = pure false := by rfl) (hw : swappedStores [tg] e X.env = pure none := by rfl)
    (h1 : (assignEach [tg] X.env).map (·.2) = [assign tg X.env] := by rfl) : FSJ X K W (.Assign [tg] e pos) (sAsg fe g) := Jm (ps_asg he hg hs hw h1) fun D σ H h => by
  obtain ⟨ι,ρ,Z,is,p⟩ := h
  refine Zcr is p fun v H1 ι1 Z1 t g1 i1 r1 p1 => ?_
  refine ⟨ι1,ρ,Z1,t,i1,r1,(Z3d (rep := rEnv K) i1 p1).imp fun σ2 H2 q => ?_⟩
  obtain ⟨ι2,Z2,ρ2,g2,s2,⟨hl,he⟩,p2⟩ := q
  exact p2 ι2 H2 σ2 Gr.refl ⟨hl,he,s2⟩
end
def gSetL : T → T → T → Sto → Option Sto
  | .loc j,.int k,t,Z => match getL Z j with
    | some ts => (ixN ts.length k).map fun n => Z.set j (.lst (ts.set n t))
    | none => none
  | _,_,_,_ => none
def gSubs (fo fi : FE) : FG := fun t ρ Z => (fo ρ Z).bind fun o Z1 => (fi ρ Z1).bind fun i Z2 => match gSetL o i t Z2 with
  | some Z3 => .ok ρ Z3
  | none => .stuck
section
variable {X : Cx} {K : PySem.W.Frag} {W : WX} {pos : Pos} {o e : Expr} {fo fi fe : FE}
theorem Zcv {ι : List Addr} {H : Hp} {Z Z3 : Sto} {x y v : V} {tx ty t : T} {Q : Hp → Prop} (s : Sim K ι Z H) (rx : Rep K ι H x tx) (ry : Rep K ι H y ty) (r : Rep K ι H v t) (e : gSetL tx ty t Z = some Z3) (q : ∀ H', Gr ι ι H H' → Sim K ι Z3 H' → Q H') : rSetL x y v H Q := by
  unfold gSetL at e
  split at e
  · split at e
    · rename_i ts h
      obtain ⟨n,h1,rfl⟩ := Option.map_eq_some_iff.mp e
      obtain ⟨a,vs,rfl,ha,hl,rl⟩ := Xn s (Yg h) rx
      cases ry
      refine ⟨a,vs,_,n,rfl,rfl,hl,by rw [rl.length]; exact h1,?_⟩
      have g := Gr.mut (ι := ι) (o := .lst (vs.set n v)) hl trivial (List.mem_of_getElem? ha)
      exact q _ g (s.set ha ⟨_,upd_same,(rl.gr g).set (r.gr g) n⟩)
    · cases e
  · cases e
def gIAdd : T → T → Sto → Option (T × Sto)
  | .int i,.int j,Z => some (.int (i + j),Z)
  | .str a,.str b,Z => if a.length + b.length ≤ Lim then some (.str (a ++ b),Z) else none
  | _,_,_ => none
end
abbrev ItF := Nat → Sto → Option (Option T)
abbrev FI := Env → Sto → R ItF
def loopN (it : ItF) (body : T → FS) : Nat → Nat → Env → Sto → RS
  | 0,_,_,_ => .stuck
  | n + 1,k,ρ,Z => match it k Z with
    | none => .stuck
    | some none => .nx ρ Z
    | some (some t) => seqL (body t ρ Z) fun ρ' Z' => loopN it body n (k + 1) ρ' Z'
def sFor (it : FI) (g : FG) (b : FS) : FS := fun ρ Z => bS ρ (it ρ Z) fun j Z1 => loopN j (fun t ρ' Z' => bS ρ' (g t ρ' Z') b) Fuel 0 ρ Z1
def loopW (c : FT) (b : FS) : Nat → Env → Sto → RS
  | 0,_,_ => .stuck
  | n + 1, ρ, Z => bS ρ (c ρ Z) fun x Z1 => if x = true then seqL (b ρ Z1) fun ρ' Z' => loopW c b n ρ' Z' else .nx ρ Z1
def sWhile (fuel : Nat) (c : FT) (b : FS) : FS := fun ρ Z => loopW c b fuel ρ Z
def ItR (K : PySem.W.Frag) (ι : List Addr) (H : Hp) (J : It) (it : ItF) : Prop := ∀ k ι' H' Z', Gr ι ι' H H' → Sim K ι' Z' H' → match it k Z' with
  | none => True
  | some none => J.stop k H'
  | some (some t) => J.go k H' ∧ ∀ x H'', J.yld k H' x H'' → Gr ι' ι' H' H'' ∧ Sim K ι' Z' H'' ∧ Rep K ι' H'' x t
def tI (K : PySem.W.Frag) (W : WX) (f : FI) : TI := fun σ H Q => ∃ ι ρ Z,Is K ι H σ ρ Z ∧ Post (ItR K) K W σ ι H Q (f ρ Z)
section
variable {X : Cx} {K : PySem.W.Frag} {W : WX} {pos : Pos} {tg iter c : Expr} {body : List Stmt} {fi : FI} {g : FG} {b : FS} {ft : FT}
theorem Z3e (hp : PassesOwn (model X.prog X.w) X.A X.env X.xe) (hc : X.calm = true) (hi : PI X tg iter (tI K W fi)) (hg : PG X tg (tG K W g)) (hb : FBJ X K W body b) (hs : ∀ x,foldedSetIterable iter X.env x = pure x := by intro _; rfl) :
    FSJ X K W (.For tg iter body [] pos) (sFor fi g b) := Jm (ps_for hp hc hi hg hb hs) fun D σ H h => by
  obtain ⟨ι,ρ,Z,is,p⟩ := h
  refine ⟨ι,ρ,Z,is,(Z3d (rep := ItR K) is p).imp fun J H1 q => ?_⟩
  obtain ⟨ι1,Z1,it,g1,s1,rJ,p1⟩ := q
  refine ⟨fun k m σ' H' => ∃ ι' ρ' Z', Gr ι1 ι' H1 H' ∧ Is K ι' H' σ' ρ' Z' ∧ PostS K W ι' H' D (loopN it (fun t ρ' Z' => bS ρ' (g t ρ' Z') b) m k ρ' Z'), ⟨Fuel, ι1, ρ, Z1, Gr.refl, is.gr g1 s1, p1⟩, ?_⟩
  rintro k m σ' H' ⟨ι', ρ', Z', g', i', p'⟩
  cases m with
  | zero => exact p'.elim
  | succ m =>
    have hj := rJ k ι' H' Z' g' i'.sim
    unfold loopN at p'
    cases e : it k Z' with
    | none => rw [e] at p'; exact p'.elim
    | some o =>
      rw [e] at hj p'
      cases o with
      | none => exact .inl ⟨hj, p' ι' H' σ' Gr.refl i'⟩
      | some t =>
        refine .inr ⟨hj.1, _, fun σ2 H2 n => ⟨m, Nat.lt_succ_self m, n⟩, fun x H'' y => ?_⟩
        obtain ⟨g2, s2, r2⟩ := hj.2 x H'' y
        have i2 := i'.gr g2 s2
        have p2 := Z6u (PostS.shift p' g2)
        refine ⟨ι', ρ', Z', t, i2, r2, (Z3d (rep := rEnv K) i2 p2).imp fun σ3 H3 q => ?_⟩
        obtain ⟨ι3,Z3,ρ3,g3,s3,⟨hl,he⟩,p3⟩ := q
        have hN : ∀ σ4 H4, (∃ ι4 ρ4 Z4, Gr ι' ι4 H'' H4 ∧ Is K ι4 H4 σ4 ρ4 Z4 ∧ PostS K W ι4 H4 D (loopN it (fun t ρ' Z' => bS ρ' (g t ρ' Z') b) m (k + 1) ρ4 Z4)) → ∃ ι4 ρ4 Z4, Gr ι1 ι4 H1 H4 ∧ Is K ι4 H4 σ4 ρ4 Z4 ∧ PostS K W ι4 H4 D (loopN it (fun t ρ' Z' => bS ρ' (g t ρ' Z') b) m (k + 1) ρ4 Z4) :=
          fun σ4 H4 ⟨ι4, ρ4, Z4, g4, i4, p4⟩ => ⟨ι4, ρ4, Z4, (g'.trans g2).trans g4, i4, p4⟩
        exact ⟨ι3,ρ3,Z3,⟨hl,he,s3⟩,p3.imp hN (fun _ _ q => q) (fun _ _ q => q) hN⟩
theorem Z9v {fuel : Nat} (hp : PassesOwn (model X.prog X.w) X.A X.env X.xe) (hc : FTJ X K (Wt W) c ft) (hb : FBJ X K W body b) : FSJ X K W (.While c body [] pos) (sWhile fuel ft b) := Jm (ps_while hp hc hb) fun D σ H h => by
  obtain ⟨ι,ρ,Z,is,p⟩ := h
  refine ⟨fun m σ' H' => ∃ ι' ρ' Z', Gr ι ι' H H' ∧ Is K ι' H' σ' ρ' Z' ∧ PostS K W ι' H' D (loopW ft b m ρ' Z'), ⟨fuel, ι, ρ, Z, Gr.refl, is, p⟩, ?_⟩
  rintro m σ' H' ⟨ι', ρ', Z', g', i', p'⟩
  cases m with
  | zero => exact p'.elim
  | succ m =>
    unfold loopW at p'
    refine Zgu i' p' fun v H1 ι1 Z1 g1 i1 p1 => ?_
    cases v with
    | false => exact p1 ι1 H1 σ' Gr.refl i1
    | true =>
      rw [if_pos rfl] at p1 ⊢
      have hN : ∀ σ4 H4,(∃ ι4 ρ4 Z4,Gr ι1 ι4 H1 H4 ∧ Is K ι4 H4 σ4 ρ4 Z4 ∧ PostS K W ι4 H4 D (loopW ft b m ρ4 Z4)) → ∃ ι4 ρ4 Z4,Gr ι ι4 H H4 ∧ Is K ι4 H4 σ4 ρ4 Z4 ∧ PostS K W ι4 H4 D (loopW ft b m ρ4 Z4) :=
        fun σ4 H4 ⟨ι4, ρ4, Z4, g4, i4, p4⟩ => ⟨ι4, ρ4, Z4, (g'.trans g1).trans g4, i4, p4⟩
      exact ⟨_, fun σ2 H2 n => ⟨m, Nat.lt_succ_self m, n⟩, ι1, ρ', Z1, i1, (Z6u p1).imp hN (fun _ _ q => q) (fun _ _ q => q) hN⟩
end
def itSeq (ts : List T) : ItF := fun k _ => some ts[k]?
def itLoc (i : Nat) : ItF := fun k Z => (getL Z i).map fun ts => ts[k]?
def itEnum (it : ItF) : ItF := fun k Z => (it k Z).map fun o => o.map fun t => .tup [.int (k : Int),t]
def itRng (lo : Int) (n : Nat) : ItF := fun k _ => some (if k < n then some (.int (lo + k)) else none)
def itStr (l : List Nat) : ItF := fun k _ => some (l[k]?.map fun c => .str [c])
def iSeqT (f : FE) : FI := fun ρ Z => (f ρ Z).bind fun x Z1 => match x with
  | .tup ts => .ok (itSeq ts) Z1
  | _ => .stuck
def iSeqL (f : FE) : FI := fun ρ Z => (f ρ Z).bind fun x Z1 => match x with
  | .frl ts => .ok (itSeq ts) Z1
  | .loc i => match getL Z1 i with
    | some _ => .ok (itLoc i) Z1
    | none => .stuck
  | _ => .stuck
def iStr (f : FE) : FI := fun ρ Z => (f ρ Z).bind fun x Z1 => match x with
  | .str l => .ok (itStr l) Z1
  | _ => .stuck
def iRng (f : FA) : FI := fun ρ Z => (f ρ Z).bind fun xs Z1 => match xs with
  | [.int j] => if -(2 ^ 62) ≤ j ∧ j < 2 ^ 62 then .ok (itRng 0 j.toNat) Z1 else .stuck
  | [.int i,.int j] => if -(2 ^ 62) ≤ i ∧ i < 2 ^ 62 ∧ -(2 ^ 62) ≤ j ∧ j < 2 ^ 62 then .ok (itRng i (j - i).toNat) Z1 else .stuck
  | _ => .stuck
section
variable {X : Cx} {K : PySem.W.Frag} {W : WX} {pos p : Pos} {tg l a b : Expr} {fl : FE} {fa : FA}
theorem Z2d {t t' : TI} (h : PI X tg l t) (i : ∀ σ H Q, t' σ H Q → t σ H Q) : PI X tg l t' := ⟨fun pins s σ H R I q => h.run pins s σ H R I (i _ _ _ q)⟩
theorem Z9w {ι : List Addr} {H : Hp} {Z : Sto} {v : V} {t : T} {it : ItF} (s : Sim K ι Z H) (r : Rep K ι H v t) (e : (match t with
  | .frl ts => some (itSeq ts)
  | .loc i => match getL Z i with
    | some _ => some (itLoc i)
    | none => none
  | _ => none) = some it) : ∃ a,v = .ref a ∧ (∃ xs,SqL K H a xs) ∧ ItR K ι H (Itl K a) it := by
  cases t with
  | frl ts =>
    cases e
    cases r with
    | frl hq rs =>
      refine ⟨_, rfl, ⟨_, hq.sq⟩, fun k ι' H' Z' g' s' => ?_⟩
      have hq' := (hq.gr g').sq
      show match (itSeq ts k Z') with | none => True | some none => _ | some (some t) => _
      simp only [itSeq]
      cases e : ts[k]? with
      | none => exact ⟨_, hq', by rw [rs.length]; exact List.getElem?_eq_none_iff.mp e⟩
      | some u =>
        obtain ⟨x,h1,h2⟩ := rs.get e
        refine ⟨⟨_, x, hq', h1⟩, fun y H'' hy => ?_⟩
        obtain ⟨rfl,hy⟩ := hy
        have := hy _ hq'
        rw [h1] at this; cases this
        exact ⟨Gr.refl, s', h2.gr g'⟩
  | loc i =>
    simp only at e
    split at e
    · rename_i ts hl
      cases e
      obtain ⟨a,vs,rfl,ha,h1,h2⟩ := Xn s (Yg hl) r
      refine ⟨a, rfl, ⟨vs, SqL.of h1⟩, fun k ι' H' Z' g' s' => ?_⟩
      simp only [itLoc]
      cases e : getL Z' i with
      | none => exact trivial
      | some ts' =>
        obtain ⟨a', vs', ea, ha', h1', h2'⟩ := Xn s' (Yg e) (.loc (g'.pre _ _ ha))
        cases ea
        simp only [Option.map_some]
        cases e2 : ts'[k]? with
        | none => exact ⟨_, SqL.of h1', by rw [h2'.length]; exact List.getElem?_eq_none_iff.mp e2⟩
        | some u =>
          obtain ⟨x, h3, h4⟩ := h2'.get e2
          refine ⟨⟨_, x, SqL.of h1', h3⟩, fun y H'' hy => ?_⟩
          obtain ⟨rfl,hy⟩ := hy
          have := hy _ (SqL.of h1')
          rw [h3] at this; cases this
          exact ⟨Gr.refl, s', h4⟩
    · cases e
  | _ => cases e
theorem Zhz (hK : X.K = K) (hl : FJ X K (Wt W) l fl) : PI X tg l (tI K W (iSeqL fl)) := by
  subst hK
  refine Z2d (pi_list hl) fun σ H Q h => ?_
  obtain ⟨ι,ρ,Z,is,p⟩ := h
  refine ⟨ι,ρ,Z,is.ie,(Zi (rep := Rep X.K) p).imp fun v H1 q => ?_⟩
  obtain ⟨ι1,Z1,t,g1,s1,r1,p1⟩ := q
  cases t with
  | frl ts =>
    obtain ⟨a,rfl,hx,hI⟩ := Z9w (it := itSeq ts) s1 r1 rfl
    exact ⟨a,rfl,hx,p1 ι1 H1 _ Gr.refl s1 hI⟩
  | loc i =>
    simp only at p1
    split at p1
    · rename_i ts e
      obtain ⟨a,rfl,hx,hI⟩ := Z9w (it := itLoc i) s1 r1 (by simp only [e])
      exact ⟨a,rfl,hx,p1 ι1 H1 _ Gr.refl s1 hI⟩
    · exact p1.elim
  | _ => exact p1.elim
theorem Zkj (hK : X.K = K) (hl : FJ X K (Wt W) l fl) : PI X tg l (tI K W (iSeqT fl)) := by
  subst hK
  refine Z2d (pi_tup hl) fun σ H Q h => ?_
  obtain ⟨ι,ρ,Z,is,p⟩ := h
  refine ⟨ι,ρ,Z,is.ie,(Zi (rep := Rep X.K) p).imp fun v H1 q => ?_⟩
  obtain ⟨ι1,Z1,t,g1,s1,r1,p1⟩ := q
  cases t with
  | tup ts =>
    obtain ⟨a,vs,rfl,hq,rs⟩ := r1.tupE
    refine ⟨a, rfl, ⟨_, hq⟩, p1 ι1 H1 _ Gr.refl s1 fun k ι' H' Z' g' s' => ?_⟩
    have hq' := SqT.gr g' hq
    show match (itSeq ts k Z') with | none => True | some none => _ | some (some t) => _
    simp only [itSeq]
    cases e : ts[k]? with
    | none => exact ⟨_, hq', by rw [rs.length]; exact List.getElem?_eq_none_iff.mp e⟩
    | some u =>
      obtain ⟨x,h1,h2⟩ := rs.get e
      refine ⟨⟨_, x, hq', h1⟩, fun y H'' hy => ?_⟩
      obtain ⟨rfl,hy⟩ := hy
      have := hy _ hq'
      rw [h1] at this; cases this
      exact ⟨Gr.refl, s', h2.gr g'⟩
  | _ => exact p1.elim
theorem Zkk (hl : FJ X K (Wt W) l fl) : PI X tg l (tI K W (iStr fl)) := by
  refine Z2d (pi_str hl) fun σ H Q h => ?_
  obtain ⟨ι,ρ,Z,is,p⟩ := h
  refine ⟨ι,ρ,Z,is.ie,(Zi (rep := Rep K) p).imp fun v H1 q => ?_⟩
  obtain ⟨ι1,Z1,t,g1,s1,r1,p1⟩ := q
  cases t with
  | str u =>
    cases r1
    refine ⟨_, rfl, p1 ι1 H1 _ Gr.refl s1 fun k ι' H' Z' g' s' => ?_⟩
    simp only [itStr]
    cases e : u[k]? with
    | none => exact show (S u).cps.size ≤ k by simpa [S] using e
    | some c =>
      have hk : k < u.length := (List.getElem?_eq_some_iff.mp e).1
      refine ⟨show k < (S u).cps.size by simpa [S] using hk, fun y H'' hy => ?_⟩
      obtain ⟨rfl, c', hc', rfl⟩ := hy
      have : c' = c := by
        have h2 : u[k]? = some c' := by simpa [S] using hc'
        rw [e] at h2; exact (Option.some.inj h2).symm
      subst this
      exact ⟨Gr.refl, s', .str [c']⟩
  | _ => exact p1.elim
theorem Zkl {ι : List Addr} {H : Hp} (lo : Int) (n : Nat) : ItR K ι H (Itr lo n) (itRng lo n) := fun k ι' H' Z' g' s' => by
  simp only [itRng]
  by_cases h : k < n
  · rw [if_pos h]
    refine ⟨h, fun y H'' hy => ?_⟩
    obtain ⟨rfl,rfl⟩ := hy
    exact ⟨Gr.refl, s', .int _⟩
  · rw [if_neg h]
    exact Nat.le_of_not_lt h
theorem Q5 (hg : Gl X "range") (hm : X.mg "range" = none) (ha : FAJ X K (Wt W) [a] fa) (hn : ofLen [a] fa) (hs : starEach [a] X.env = [(false, eval a X.env)] := by rfl) : PI X tg (.Call (.Name "range" p) [a] [] pos) (tI K W (iRng fa)) := by
  refine Z2d (pi_range1 hg hm ha hs) fun σ H Q h => ?_
  obtain ⟨ι,ρ,Z,is,p⟩ := h
  refine ⟨ι,ρ,Z,is.ie,?_⟩
  unfold iRng at p
  cases e : fa ρ Z with
  | ok ts Z1 =>
    rw [e,Zv] at p
    have hl := hn _ _ _ _ e
    intro ι1 H1 vs g1 s1 r1
    match ts,r1,hl with
    | [t],.cons r .nil,_ =>
      cases t with
      | int j =>
        simp only at p
        split at p
        · rename_i hb
          cases r
          exact ⟨j,rfl,hb.1,hb.2,p ι1 H1 _ g1 s1 (Zkl _ _)⟩
        · exact p.elim
      | _ => exact p.elim
  | exc x Z1 => rw [e] at p; exact p
  | stuck => rw [e] at p; exact p
def iEnm (f : FA) : FI := fun ρ Z => (f ρ Z).bind fun xs Z1 => match xs with
  | [.frl ts] => .ok (itEnum (itSeq ts)) Z1
  | [.loc i] => match getL Z1 i with
    | some _ => .ok (itEnum (itLoc i)) Z1
    | none => .stuck
  | _ => .stuck
theorem Zgv {ι : List Addr} {H : Hp} {a : Addr} {it : ItF} (h : ItR K ι H (Itl K a) it) : ItR K ι H (Ite K a) (itEnum it) := fun k ι' H' Z' g' s' => by
  have h' := h k ι' H' Z' g' s'
  simp only [itEnum]
  cases e : it k Z' with
  | none => exact trivial
  | some o =>
    rw [e] at h'
    cases o with
    | none => exact h'
    | some t =>
      refine ⟨h'.1, fun x H'' y => ?_⟩
      obtain ⟨p,v,rfl,np,rfl,hv⟩ := y
      obtain ⟨_, _, r⟩ := h'.2 v H' ⟨rfl, hv⟩
      exact ⟨Gr.new0 np, s'.same (Wd np), .tup (SqT.of upd_same) (.cons (.int _) (.cons (r.gr (Gr.new0 np)) .nil))⟩
theorem Zi0 {tpos : Pos} {elts : List Expr} {kk : Nat} (hK : X.K = K) (hg : Gl X "enumerate") (hm : X.mg "enumerate" = none) (ha : FAJ X K (Wt W) [a] fa) (hn : ofLen [a] fa) (hs : starEach [a] X.env = [(false, eval a X.env)] := by rfl) : PI X (.Tuple elts kk tpos) (.Call (.Name "enumerate" p) [a] [] pos) (tI K W (iEnm fa)) := by
  subst hK
  refine Z2d (pi_enum hg hm ha hs) fun σ H Q h => ?_
  obtain ⟨ι,ρ,Z,is,p⟩ := h
  refine ⟨ι,ρ,Z,is.ie,?_⟩
  unfold iEnm at p
  cases e : fa ρ Z with
  | ok ts Z1 =>
    rw [e,Zv] at p
    have hl := hn _ _ _ _ e
    intro ι1 H1 vs g1 s1 r1
    match ts,r1,hl with
    | [t],.cons r .nil,_ =>
      cases t with
      | frl us =>
        obtain ⟨b,rfl,⟨xs,hx⟩,hI⟩ := Z9w (it := itSeq us) s1 r rfl
        exact ⟨b,xs,rfl,hx,p ι1 H1 _ g1 s1 (Zgv hI)⟩
      | loc i =>
        simp only at p
        split at p
        · rename_i us e
          obtain ⟨b,rfl,⟨xs,hx⟩,hI⟩ := Z9w (it := itLoc i) s1 r (by simp only [e])
          exact ⟨b,xs,rfl,hx,p ι1 H1 _ g1 s1 (Zgv hI)⟩
        · exact p.elim
      | _ => exact p.elim
  | exc x Z1 => rw [e] at p; exact p
  | stuck => rw [e] at p; exact p
end
end Fx
set_option maxHeartbeats 4000000
namespace Fx
open PySem PySem.Spec PyProof.Rows L2 SX Ap
variable [Tb]
abbrev FF := List T → Sto → R T
def spF (K : PySem.W.Frag) (n : Nat) (F : FF) : Sp := fun vs H Q E => vs.length = n ∧ ∃ ι Z ts,Sim K ι Z H ∧ Reps K ι H vs ts ∧ Post (Rep K) K (fun cls d _ H => E cls d H) [] ι H Q (F ts Z)
def runF (n : Nat) (b : FS) : FF := fun ts Z => match b (ts.map some ++ List.replicate (n - ts.length) none) Z with
  | .nx _ Z' => .ok .non Z'
  | .rt t Z' => .ok t Z'
  | .exc x _ Z' => .exc x Z'
  | _ => .stuck
theorem Zbi {K : PySem.W.Frag} {ι : List Addr} {H : Hp} {vs : List V} {ts : List T} (r : Reps K ι H vs ts) (m : Nat) : Envs K ι H (vs.map some ++ List.replicate m none) (ts.map some ++ List.replicate m none) := fun i t h => by
  by_cases hi : i < ts.length
  · rw [List.getElem?_append_left (by rw [List.length_map]; exact hi),List.getElem?_map] at h
    cases e : ts[i]? with
    | none => rw [e] at h; cases h
    | some u =>
      rw [e] at h
      cases h
      obtain ⟨v,h1,h2⟩ := r.get e
      exact ⟨v,by rw [List.getElem?_append_left (by rw [List.length_map,r.length]; exact hi),List.getElem?_map,h1]; rfl,h2⟩
  · rw [List.getElem?_append_right (by rw [List.length_map]; omega)] at h
    rw [List.getElem?_replicate] at h
    split at h <;> cases h
abbrev FnG (P : Program) (w : World) (K : PySem.W.Frag) (mg : PySem.Str → Option Value) (base : Heap) (k : Nat) (f : Addr) (fd : FuncData) (ps : List PySem.Str) (sp : Sp) : Prop := GOk P w K mg base (L2.CX P w) k f fd ps sp
section
variable {P : Program} {w : World} {K : PySem.W.Frag} {mg : PySem.Str → Option Value} {base : Heap}
theorem fn_GX {k : Nat} {f : Addr} {name qual : PySem.Str} {params : Arguments} {body : List Stmt} {scope : Scope} {dV kV doc pm cdv ct oc : Value} {an od : Option Addr}
    {osl : Array (Option Value)} {N ps : List PySem.Str} {sp : Sp} (lk : K.lookup f = some ⟨oc,od,.func (PySem.W.fnOf name qual params body scope dV kV doc pm an cdv ct),osl⟩) (hcd : PySem.W.codeIn K cdv qual = true) (S : FnScope N ps scope)
    (len : ∀ vs H Q E,sp vs H Q E → vs.length = ps.length)
    (hbody : ∀ (A : Around) (outer : List PySem.Env) (s : Shared) (H : Hp) (vs : List V) (Q : VK) (E : XK),Room k (A.deeper (envOfC qual scope s.heap.objs.size f cdv)) → A.guards = some [] → sp vs H Q E →
      ∃ t, PSs (cxOf (L2.CX P w) P w K mg base N qual scope f cdv A outer s H E) body t ∧ t { nx := fun _ H' => Q .non H', rt := Q } (L2.start N vs) H) :
    FnG P w K mg base (k + 1) f (PySem.W.fnOf name qual params body scope dV kV doc pm an cdv ct) ps sp := by
  refine ⟨len,fun A outer s H args us vs Q E hr hG e0 hb r hsp => ?_⟩
  have hl := len _ _ _ _ hsp
  have KX : K.In s.heap := e0.mod.kin.keeps fun b o e => (e0.bs b o e).1
  have lim : s.heap.NoLimit := e0.mod.nolimit.keeps fun b o e => (e0.bs b o e).1
  have hkind : ∀ y ∈ ps.zip us,scope.names.lookup y.1 = some .local ∨ (scope.names.lookup y.1 = some .cell ∧ ((cellsFrom (s.heap.objs.size + 1) scope.names []).lookup y.1).isSome = true) := fun ⟨n,v⟩ hy => by
    rcases S.par n (List.of_mem_zip hy).1 with q | q
    · exact .inl q
    · exact .inr ⟨q,PySem.W.cellsFrom_some _ _ _ (.inl q)⟩
  refine codeAny_call_function hr.depth (KX _ _ lk) rfl S.co S.gen rfl (PySem.W.codeRec_of KX hcd) (hb _ _ _ _ ?_)
  refine wpAny_newFunctionEnv_cells S.kind hkind fun env he s1 x => ?_
  subst he
  refine ⟨lim.keeps x.toInCall.keep,codeAny_func ?_⟩
  obtain ⟨t,ht,hq⟩ := hbody A outer s H vs Q E (hr.deeper _) hG hsp
  have I : Inv (cxOf (L2.CX P w) P w K mg base N qual scope f cdv A outer s H E) [] (L2.start N vs) H s1 := inv_start S hr.hd e0 hl r x
  refine wpAny_mono (ht.run [] s1 (L2.start N vs) H _ I hq) (fun fl s' hs => ?_) fun e s' hs => hs
  have fin : ∀ {σ' : L2.St} {H' : Hp} {v : V} {u : Value}, Inv (cxOf (L2.CX P w) P w K mg base N qual scope f cdv A outer s H E) [] σ' H' s' → RelV v u → Q v H' → CE outer P w H s Q u s' :=
    fun {σ' H' v u} J rv q => ⟨v, H', J.os, J.bare, J.base, J.hok, rv, q⟩
  cases fl with
  | ret u =>
    obtain ⟨v, σ', H', J, rv, q⟩ := hs
    exact fin J rv q
  | next =>
    obtain ⟨σ', H', J, q⟩ := hs
    exact fin (v := V.non) (u := Value.none) J rfl q
  | brk =>
    obtain ⟨_,_,_,q⟩ := hs
    exact False.elim q
  | cont =>
    obtain ⟨_,_,_,q⟩ := hs
    exact False.elim q
def BodyJ (P : Program) (w : World) (K : PySem.W.Frag) (mg : PySem.Str → Option Value) (base : Heap) (k : Nat) (f : Addr) (N : List PySem.Str) (qual : PySem.Str) (scope : Scope) (body : List Stmt) (b : FS) : Prop :=
  ∀ (cdv : Value) (A : Around) (outer : List PySem.Env) (s : Shared) (H : Hp) (E : XK),Room k (A.deeper (envOfC qual scope s.heap.objs.size f cdv)) → A.guards = some [] →
    FBJ (cxOf (L2.CX P w) P w K mg base N qual scope f cdv A outer s H E) K (fun cls d _ H => E cls d H) body b
theorem Zgw {k : Nat} {f : Addr} {N : List PySem.Str} {qual : PySem.Str} {scope : Scope} {body : List Stmt} {b : FS} {n : Nat} (hb : BodyJ P w K mg base k f N qual scope body b) (cdv : Value) (A : Around) (outer : List PySem.Env) (s : Shared) (H : Hp) (vs : List V) (Q : VK) (E : XK) (hr : Room k (A.deeper (envOfC qual scope s.heap.objs.size f cdv))) (hG : A.guards = some []) (h : spF K n (runF N.length b) vs H Q E) :
      ∃ t, PSs (cxOf (L2.CX P w) P w K mg base N qual scope f cdv A outer s H E) body t ∧ t { nx := fun _ H' => Q .non H', rt := Q } (L2.start N vs) H := by
  refine ⟨_,hb cdv A outer s H E hr hG,?_⟩
  obtain ⟨hl,ι,Z,ts,sim,r,p⟩ := h
  have hl2 := r.length
  refine ⟨ι,ts.map some ++ List.replicate (N.length - ts.length) none,Z,⟨by simp only [L2.start,List.length_append,List.length_map,List.length_replicate]; omega,?_,sim⟩,?_⟩
  · have := Zbi r (N.length - ts.length)
    unfold L2.start
    rw [hl2]
    exact this
  · unfold runF at p
    split at p
    · rename_i e; rw [e]; exact fun ι' H' σ' g is => p ι' H' _ g is.sim .non
    · rename_i e; rw [e]; exact p
    · rename_i e; rw [e]; exact fun ι' H' σ' cls d g is rx => p ι' H' cls d g is.sim rx
    · exact p.elim
theorem fnFD {x qual : PySem.Str} {params : Arguments} {body : List Stmt} {scope : Scope} {dvs : List V} {kws : List (PySem.Str × V)} {f : Addr} {fd : FuncData} {N ps : List PySem.Str} {k : Nat} {b : FS} (F : FunD K x qual params body scope dvs kws f fd) (S : FnScope N ps scope) (hb : BodyJ P w K mg base k f N qual scope body b) :
    FnG P w K mg base (k + 1) f fd ps (spF K ps.length (runF N.length b)) := by
  obtain ⟨oc,od,dV,kV,doc,pm,an,cdv,ct,osl,rfl,lk,hcd,_,_⟩ := F.ex
  exact fn_GX lk hcd S (fun vs H Q E h => h.1) fun A outer s H vs Q E hr hG h => Zgw hb cdv A outer s H vs Q E hr hG h
end
def eCall (F : FF) (ds : List T) (fa : FA) : FE := fun ρ Z => (fa ρ Z).bind fun ts Z1 => F (ts ++ ds) Z1
def eCallB (g : List T → Sto → Option (T × Sto)) (fa : FA) : FE := fun ρ Z => (fa ρ Z).bind fun xs Z1 => lift (g xs Z1)
def Dfl (K : PySem.W.Frag) (vs : List V) (ts : List T) : Prop := ∀ ι H,Reps K ι H vs ts
theorem Dfl.nil {K : PySem.W.Frag} : Dfl K [] [] := fun _ _ => .nil
section
variable {X : Cx} {K : PySem.W.Frag} {W : Wc} {x : PySem.Str} {p pos : Pos} {e : Expr} {es : List Expr} {fa : FA} {k n : Nat} {f : Addr} {fd : FuncData} {ps : List PySem.Str} {F : FF} {dvs : List V} {ds : List Value} {dts : List T}
theorem run_G {pins : List (Addr × Obj)} {σ : L2.St} {H : Hp} {s : Shared} {Q : VK} {us : List Value} {vs : List V} {sp : Sp} (G : FnG X.prog X.w X.K X.mg X.base k f fd ps sp) (hr : Room k X.A) (hG : X.A.guards = some []) (hb : Binds X.K fd ps ds) (hd : Vals dvs ds) (tk : Takes X W.w)
    (I : Inv X pins σ H s) (r : Vals vs us) (h : sp (vs ++ dvs) H Q (WE W.w σ)) : wpAny (model X.prog X.w) X.A (call (.ref f) us) (EP X pins σ Q) X.xe s := by
  have r2 : Vals (vs ++ dvs) (us ++ ds) := r.append hd
  have hl : (us ++ ds).length = ps.length := by rw [← r2.length]; exact G.len _ _ _ _ h
  refine wpAny_call (codeAny_mono (G.run X.A X.stack s H ⟨us, []⟩ (us ++ ds) (vs ++ dvs) Q (WE W.w σ) hr hG I.env0 (hb s us I.kIn hl) r2 h) fun r s' hq => ?_)
  cases r with
  | error e => exact passAt tk σ pins H s e s' I hq
  | ok fl =>
    cases fl with
    | ret u => exact I.after hq
    | next => exact False.elim hq
    | brk => exact False.elim hq
    | cont => exact False.elim hq
theorem Post.wx {α β : Type} {rep : List Addr → Hp → β → α → Prop} {W W' : WX} {σ σ' : L2.St} {ι : List Addr} {H : Hp} {Q : β → Hp → Prop} {r : R α} (h : Post rep K W σ ι H Q r) (i : ∀ cls d H, W cls d σ H → W' cls d σ' H) : Post rep K W' σ' ι H Q r := by
  cases r with
  | ok => exact h
  | exc => exact fun ι' H' cls d g s rx => i _ _ _ (h ι' H' cls d g s rx)
  | stuck => exact h
theorem Zr (hK : X.K = K) (G : FnG X.prog X.w X.K X.mg X.base k f fd ps (spF X.K n F)) (hr : Room k X.A) (hG : X.A.guards = some []) (hg : Gl X x) (hm : X.mg x = some (.ref f)) (hk : PySem.W.keepIn X.K (.ref f) = true) (hb : Binds X.K fd ps ds) (hd : Vals dvs ds) (hdf : Dfl K dvs dts) (tk : Takes X W.w)
    (ha : FAJ X K W (e :: es) fa) (hn : ofLen (e :: es) fa) (hln : (e :: es).length + dts.length = n := by rfl) (hdb : (x == ("__debug__" : PySem.Str)) = false := by decide) (he : starEach (e :: es) X.env = (false, eval e X.env) :: starEach es X.env := by rfl) (hpl : (backTo pos (starEach es X.env)).any (·.1) = false := by rfl) :
    FJ X K W (.Call (.Name x p) (e :: es) [] pos) (eCall F dts fa) := by
  subst hK
  refine ⟨fun pins s σ H Q I h => ?_⟩
  refine wpAny_Call_Name_kw (ld_glob I hg hm ?_ hdb)
  obtain ⟨ι,ρ,Z,is,p⟩ := h
  have t : tFA X.K W fa σ H (fun vs H1 => spF X.K n F (vs ++ dvs) H1 Q (WE W.w σ)) := by
    refine ⟨ι,ρ,Z,is,?_⟩
    unfold eCall at p
    cases e : fa ρ Z with
    | ok ts Z1 =>
      rw [e,Zv] at p
      refine fun ι1 H1 vs g1 s1 r1 => ?_
      have r2 := r1.append (hdf ι1 H1)
      refine ⟨?_,ι1,Z1,_,s1,r2,(p.shift g1).wx fun _ _ _ h => h⟩
      rw [r2.length,List.length_append,hn _ _ _ _ e]
      exact hln
    | exc y Z1 => rw [e] at p; exact p
    | stuck => rw [e] at p; exact p
  refine PySem.W.callWith_K (h₀ := X.base) I.ok.mod.kin hk (thn (ha.run pos pins s σ H _ I t) fun us s1 ⟨vs,H1,I1,r,q⟩ => ⟨I1.kIn,?_⟩) he hpl
  exact run_G G hr hG hb hd tk I1 r q
theorem Z9x {r : List V → Hp → VK → Prop} {g : List T → Sto → Option (T × Sto)} (hr : ∀ xs H Q,rFC K g xs H Q → r xs H Q) {σ : L2.St} {H : Hp} {Q : VK} (h : tF K W (eCallB g fa) σ H Q) : tCB r (tFA K W fa) σ H Q := by
  obtain ⟨ι,ρ,Z,is,p⟩ := h
  refine ⟨ι,ρ,Z,is,(Zi (rep := Reps K) p).imp fun xs H1 q => ?_⟩
  obtain ⟨ι1,Z1,ts,g1,s1,r1,p1⟩ := q
  exact hr _ _ _ ⟨ι1,Z1,ts,s1,r1,W9 p1⟩
theorem Zw {id : String} {g : List T → Sto → Option (T × Sto)} (hc : CallR X (.builtin id) (rFC K g)) (hg : Gl X x) (hm : X.mg x = none) (hv : bootBuiltins x = some (.builtin id)) (ha : FAJ X K W (e :: es) fa) (hn : x ≠ "__name__" := by decide) (hdb : (x == ("__debug__" : PySem.Str)) = false := by decide)
    (he : starEach (e :: es) X.env = (false,eval e X.env) :: starEach es X.env := by rfl) (hpl : (backTo pos (starEach es X.env)).any (·.1) = false := by rfl) : FJ X K W (.Call (.Name x p) (e :: es) [] pos) (eCallB g fa) :=
  Xo (pe_callB hc hg hm hv ha hn hdb he hpl) fun _ _ _ h => Z9x (fun _ _ _ h => h) h
theorem Yc {id : String} {g : List T → Sto → Option (T × Sto)} (hc : CallR X (.type id) (rFC K g)) (hg : Gl X x) (hm : X.mg x = none) (hv : bootBuiltins x = some (.type id)) (ha : FAJ X K W (e :: es) fa) (hn : x ≠ "__name__" := by decide) (hdb : (x == ("__debug__" : PySem.Str)) = false := by decide)
    (he : starEach (e :: es) X.env = (false,eval e X.env) :: starEach es X.env := by rfl) (hpl : (backTo pos (starEach es X.env)).any (·.1) = false := by rfl) : FJ X K W (.Call (.Name x p) (e :: es) [] pos) (eCallB g fa) :=
  Xo (pe_callTy hc hg hm hv ha hn hdb he hpl) fun _ _ _ h => Z9x (fun _ _ _ h => h) h
end
def gLen : List T → Sto → Option (T × Sto)
  | [.str l],Z => if l.length ≤ Lim then some (.int l.length,Z) else none
  | [t],Z => (asSeq t Z).map fun ts => (.int ts.length,Z)
  | _,_ => none
def gMax : List T → Sto → Option (T × Sto)
  | [.int i,.int j],Z => some (.int (if j > i then j else i),Z)
  | _,_ => none
def gMin : List T → Sto → Option (T × Sto)
  | [.int i,.int j],Z => some (.int (if j < i then j else i),Z)
  | _,_ => none
def gAbs : List T → Sto → Option (T × Sto)
  | [.int i],Z => some (.int (if i < 0 then -i else i),Z)
  | _,_ => none
def gInt : List T → Sto → Option (T × Sto)
  | [.int i],Z => some (.int i,Z)
  | [.bl b],Z => some (.int (if b then 1 else 0),Z)
  | _,_ => none
def gList : List T → Sto → Option (T × Sto)
  | [t],Z => (asSeq t Z).map fun ts => (.loc Z.length,Z ++ [.lst ts])
  | _,_ => none
def gTuple : List T → Sto → Option (T × Sto)
  | [.tup ts],Z => some (.tup ts,Z)
  | [t],Z => (asList t Z).map fun ts => (.tup ts,Z)
  | _,_ => none
def tyT : T → Sto → Option String
  | .non, _ => some "NoneType" | .bl _, _ => some "bool" | .int _, _ => some "int" | .str _, _ => some "str" | .tup _, _ => some "tuple" | .frl _, _ => some "list"
  | .loc i,Z => match Z[i]? with
    | some (.lst _) => some "list"
    | some (.dk _) => some "dict"
    | some (.dt _) => some "dict"
    | _ => none
  | _,_ => none
def clsT : T → Option String
  | .ty n => some n
  | _ => none
def gIsiB (t : T) (c : T) (Z : Sto) : Option Bool := match tyT t Z,clsT c with
  | some a,some b => kitB a b
  | _,_ => none
def gIsi : List T → Sto → Option (T × Sto)
  | [t,.ty n],Z => (gIsiB t (.ty n) Z).map fun b => (.bl b,Z)
  | [t,.tup cs],Z => if (tyT t Z).isSome = true then ((cs.mapM fun c => gIsiB t c Z).map fun bs => (.bl (bs.any id),Z)) else none
  | _,_ => none
section
variable {X : Cx} {K : PySem.W.Frag}
theorem Reps.one {ι : List Addr} {H : Hp} {vs : List V} {t : T} (r : Reps K ι H vs [t]) : ∃ v,vs = [v] ∧ Rep K ι H v t := by
  cases r with
  | cons r q => cases q; exact ⟨_,rfl,r⟩
theorem Reps.two {ι : List Addr} {H : Hp} {vs : List V} {t u : T} (r : Reps K ι H vs [t,u]) : ∃ v w,vs = [v,w] ∧ Rep K ι H v t ∧ Rep K ι H w u := by
  cases r with
  | cons r q =>
    obtain ⟨w,rfl,r2⟩ := q.one
    exact ⟨_,_,rfl,r,r2⟩
theorem Qq (hK : X.K = K) : CallR X (.builtin "len") (rFC K gLen) := by
  subst hK
  refine Yt (Z1v call_len_str call_len_seq) fun xs H Q h => ?_
  obtain ⟨ι,Z,ts,s,r,p⟩ := h
  match ts,r,p with
  | [],_,p => exact p.elim
  | _ :: _ :: _,_,p => simp only [gLen] at p; exact p.elim
  | [t],r,p =>
    obtain ⟨v,rfl,rr⟩ := r.one
    by_cases hs : ∃ l,t = .str l
    · obtain ⟨l,rfl⟩ := hs
      simp only [gLen] at p
      split at p
      · rename_i hz
        cases rr
        exact .inl ⟨_,rfl,by rw [S_len]; exact Z0g hz,by rw [S_len]; exact Zq p s (.int _)⟩
      · exact p.elim
    · have e0 : gLen [t] Z = (asSeq t Z).map fun ts => (.int ts.length,Z) := by
        cases t <;> first | rfl | exact absurd ⟨_,rfl⟩ hs
      rw [e0] at p
      cases e : asSeq t Z with
      | none => rw [e] at p; exact p.elim
      | some us =>
        rw [e] at p
        obtain ⟨a,vs,rfl,hq,rs⟩ := Jo s rr e
        exact .inr ⟨a,vs,rfl,hq,by rw [rs.length]; exact Zq p s (.int _)⟩
theorem Zkm (hc : X.calm = true) : CallR X (.builtin "min") (rFC K gMin) := Yt (call_min2 hc) fun xs H Q h => by
  obtain ⟨ι,Z,ts,s,r,p⟩ := h
  unfold gMin at p
  split at p
  · obtain ⟨v,w,rfl,r1,r2⟩ := r.two
    cases r1; cases r2
    exact ⟨_,_,rfl,Zq p s (.int _)⟩
  · exact p.elim
theorem Z9y (hK : X.K = K) : CallR X (.type "list") (rFC K gList) := by
  subst hK
  refine Yt call_list_of fun xs H Q h => ?_
  obtain ⟨ι,Z,ts,s,r,p⟩ := h
  unfold gList at p
  split at p
  · obtain ⟨v,rfl,rr⟩ := r.one
    rename_i t
    cases e : asSeq t Z with
    | none => rw [e] at p; exact p.elim
    | some us =>
      rw [e] at p
      obtain ⟨a,vs,rfl,hq,rs⟩ := Jo s rr e
      exact ⟨a,vs,rfl,hq,Z1w p s rs⟩
  · exact p.elim
theorem Jq (hK : X.K = K) : CallR X (.type "tuple") (rFC K gTuple) := by
  subst hK
  refine Yt call_tuple_of fun xs H Q h => ?_
  obtain ⟨ι,Z,ts,s,r,p⟩ := h
  match ts,r,p with
  | [],_,p => exact p.elim
  | _ :: _ :: _,_,p => simp only [gTuple] at p; exact p.elim
  | [t],r,p =>
    obtain ⟨v,rfl,rr⟩ := r.one
    by_cases hs : ∃ l,t = .tup l
    · obtain ⟨l,rfl⟩ := hs
      have r' := rr
      obtain ⟨a, vs, rfl, hq, rs⟩ := r'.tupE
      exact ⟨a,vs,rfl,.inr ⟨hq,Zq p s rr⟩⟩
    · have e0 : gTuple [t] Z = (asList t Z).map fun ts => (.tup ts,Z) := by
        cases t <;> first | rfl | exact absurd ⟨_,rfl⟩ hs
      rw [e0] at p
      cases e : asList t Z with
      | none => rw [e] at p; exact p.elim
      | some us =>
        rw [e] at p
        obtain ⟨a,vs,rfl,hq,rs⟩ := Wk s rr e
        exact ⟨a,vs,rfl,.inl ⟨hq,Z8a p s rs⟩⟩
theorem Zcw {ι : List Addr} {H : Hp} {Z : Sto} {v : V} {t : T} {n : String} (s : Sim K ι Z H) (r : Rep K ι H v t) (e : tyT t Z = some n) : TyX K H v (.type n) := by
  cases r with
  | non => cases e; exact .base .non
  | bl b => cases e; exact .base (.bl b)
  | int i => cases e; exact .base (.int i)
  | str l => cases e; exact .base (.str _)
  | tup h r =>
    cases e
    rcases h with (h | ⟨o,h⟩) | ⟨o,its,n,h,hc,_⟩
    · exact .base (.tup h)
    · exact .fTuple h
    · exact .kTuple h hc
  | loc h =>
    simp only [tyT] at e
    split at e
    · rename_i hz
      obtain ⟨a', h1, vs, h2, _⟩ := s.at hz
      rw [h] at h1; cases h1; cases e
      exact .base (.lst h2)
    · rename_i hz
      obtain ⟨a', h1, vs, h2, _⟩ := s.at hz
      rw [h] at h1; cases h1; cases e
      exact .base (.dK h2)
    · rename_i hz
      obtain ⟨a', h1, vs, h2, _⟩ := s.at hz
      rw [h] at h1; cases h1; cases e
      exact .base (.dT h2)
    · cases e
  | frl h r =>
    cases e
    rcases h with ⟨o,h⟩ | ⟨o,its,n,h,hc,_⟩
    · exact .base (.frz h)
    · exact .kList h hc
  | ref a => cases e
  | ty m => cases e
  | lam h j => cases e
  | ktp h r => cases e
def rIsiU (K : PySem.W.Frag) : List V → Hp → VK → Prop := fun xs H Q => ∃ (x : V) (tp : Addr) (cs : List V) (t : Value) (us : List Value) (b : Bool),xs = [x,.ref tp] ∧ SqT K H tp cs ∧ Paired ClsV cs us ∧ TyX K H x t ∧ PySem.W.kitAny K t us = some b ∧ Q (.bl b) H
theorem Z6v : CallR X (.builtin "isinstance") (rIsiU X.K) := by
  intro pins s σ H xs us Q I r h
  obtain ⟨x,tp,cs,t,ws,b,rfl,hT,k,ty,e,q⟩ := h
  obtain ⟨u1,u2,rfl,r1,r2⟩ := vals2 r
  cases (show u2 = Value.ref tp from r2)
  obtain ⟨P,Z,p,hx⟩ := kit_of I r1 ty
  obtain ⟨its,rv,⟨o,h1,h2,n,h3⟩,_⟩ := I.tuple hT
  have e3 := ClsV.all k rv
  subst e3
  obtain ⟨oc,od,dt,sl⟩ := o
  simp only at h2 h3
  subst h2 h3
  exact PySem.W.kia_tup Z I.kIn p h1 e hx fun tk => ⟨.bl b,H,I.tok tk,rfl,q⟩
theorem isiAll {ι : List Addr} {H : Hp} {Z : Sto} {t : T} {n : String} (e : tyT t Z = some n) : ∀ {cs : List T} {vs : List V} {bs : List Bool},Reps K ι H vs cs → Paired (fun c b => gIsiB t c Z = some b) cs bs → ∃ us,Paired ClsV vs us ∧ PySem.W.kitAny K (.type n) us = some (bs.any id)
  | _,_,_,.nil,.nil => ⟨[],.nil,rfl⟩
  | _,_,_,.cons r q,.cons h p => by
    obtain ⟨us,h1,h2⟩ := isiAll e q p
    unfold gIsiB at h
    rw [e] at h
    rename_i v vs c cs b bs
    cases c with
    | ty m =>
      cases r
      refine ⟨.type m :: us,.cons (.ty m) h1,?_⟩
      refine kitAny_cons (kit_ty (show kitB n m = some b from h)) (fun hb => ?_) (fun hb => ?_)
      · rw [h2,List.any_cons,hb]; rfl
      · rw [List.any_cons,hb]; rfl
    | _ => cases h
theorem Z51 (hK : X.K = K) : CallR X (.builtin "isinstance") (rFC K gIsi) := by
  subst hK
  refine Yt (Z1v call_isi Z6v) fun xs H Q h => ?_
  obtain ⟨ι,Z,ts,s,r,p⟩ := h
  unfold gIsi at p
  split at p
  · obtain ⟨v,w,rfl,r1,r2⟩ := r.two
    cases r2
    rename_i t n
    cases e : gIsiB t (.ty n) Z with
    | none => rw [e] at p; exact p.elim
    | some b =>
      rw [e] at p
      unfold gIsiB at e
      split at e
      · rename_i a b' e1 e2
        cases e2
        exact .inl ⟨v,_,_,_,b,rfl,.ty _,Zcw s r1 e1,kit_ty e,Zq p s (.bl _)⟩
      · cases e
  · obtain ⟨v,w,rfl,r1,r2⟩ := r.two
    rename_i t cs
    obtain ⟨a,vs,rfl,hq,rs⟩ := r2.tupE
    split at p
    case isFalse => exact p.elim
    rename_i hty
    cases e : cs.mapM fun c => gIsiB t c Z with
    | none => rw [e] at p; exact p.elim
    | some bs =>
      rw [e] at p
      have pa := Qp e
      cases et : tyT t Z with
      | none => rw [et] at hty; cases hty
      | some n =>
        obtain ⟨us,h1,h2⟩ := isiAll et rs pa
        exact .inr ⟨v,a,vs,_,us,_,rfl,hq,h1,Zcw s r1 et,h2,Zq p s (.bl _)⟩
  · exact p.elim
end
end Fx
set_option maxHeartbeats 4000000
namespace Ap
open PySem PySem.Spec PyProof.Rows L2 SX
structure BaseC (K : PySem.W.Frag) (C0 : Addr) : Prop where
  ga : PySem.W.specialIn K (.ref C0) "__getattribute__" = some (some (.builtin "type.__getattribute__"))
  rd : PySem.W.readsIn K C0 (.type "type") = true
  iv : PySem.W.findCls K (.ref C0) (.type "type") "__init__" = some (.val (.builtin "ValueError.__init__"))
section
variable {X : Cx} {e : Expr} {es : List Expr} {ta : TA} {p1 p2 pos : Pos} {x : PySem.Str} {C0 : Addr}
theorem Z3f {pl : Sem Bool} (hg : Gl X x) (hm : X.mg x = some (.ref C0)) (B : BaseC X.K C0) (hd : (x == ("__debug__" : PySem.Str)) = false) (ha : PA X (e :: es) ta)
    (hc : eval (.Call (.Attribute (.Name x p1) "__init__" p2) (e :: es) [] pos) X.env = (do
      let ov ← eval (.Name x p1) X.env
      standAt p2.atName
      let (f, first) ← holding [ov] (getMethod ov "__init__" pl)
      callWith pos f first (backTo pos (starEach (e :: es) X.env)) (backToKw pos (keywordEach [] X.env))) := by rfl)
    (he : starEach (e :: es) X.env = (false,eval e X.env) :: starEach es X.env := by rfl) (hpl : (backTo pos (starEach es X.env)).any (·.1) = false := by rfl) :
    PE X (.Call (.Attribute (.Name x p1) "__init__" p2) (e :: es) [] pos) (tVeI X.K ta) := by
  refine ⟨fun pins s σ H Q I h => ?_⟩
  refine PySem.W.methodCall_KW (ld_glob I hg hm ?_ hd) hc
  refine PySem.W.method_cls I.kIn B.ga (PySem.W.cls_value I.kIn B.rd B.iv (by decide +kernel) ?_)
  show wpAny _ _ (callWith pos (Value.builtin "ValueError.__init__") [] (backTo pos (starEach (e :: es) X.env)) []) _ _ _
  refine PyProof.Rows.callWith_method1 (thn (ha.run pos pins _ σ H _ (I.tok _) h) fun us s1 ⟨vs,H1,I1,r1,a,C,ws,ev,hl,T,ea,q⟩ => ?_) he hpl
  subst ev
  cases r1 with
  | @cons _ u0 _ ur ra rw' =>
    obtain rfl : u0 = Value.ref a := ra
    have hlen : ur.length ≤ sizeLine := by
      rw [← Paired.length rw', sizeLine_eq]
      omega
    exact oinit_ok T I1 ea hlen fun s' J => ⟨.non, H1, J, rfl, q⟩
end
end Ap
set_option maxHeartbeats 4000000
namespace Ap
open PySem PySem.Spec PySem.Calls PyProof.Rows PySem.W
end Ap
set_option maxHeartbeats 4000000
namespace Ap
open PySem PySem.Spec PyProof.Rows L2 SX
theorem Z2e (a b : List Nat) : Txt.startswith (S a) (S b) = b.isPrefixOf a := by
  have e : (S a).cps.toList = a := rfl
  have e2 : (S b).cps.toList = b := rfl
  unfold Txt.startswith
  rw [S_len,S_len,Nat.zero_add]
  by_cases h : b.length ≤ a.length
  · rw [decide_eq_true h,Bool.true_and]
    have : PySem.Builtin.Str.subAt (S a) (S b) 0 = true ↔ (a.drop 0).take b.length = b := by
      constructor
      · intro k
        have := PySem.StrLaws.at_take (x := S a) (y := S b) (k := 0) ⟨by rw [S_len,S_len]; omega,k⟩
        exact this
      · intro k
        by_cases hb : b = []
        · subst hb; unfold PySem.Builtin.Str.subAt; simp [S,Str.length]
        · exact (PySem.StrLaws.take_at (x := S a) (y := S b) (k := 0) (by rw [S_len]; exact List.length_pos_iff.mpr hb) k).2
    rw [Bool.eq_iff_iff,this,List.drop_zero,List.isPrefixOf_iff_prefix]
    constructor
    · intro k; have q := List.take_append_drop b.length a; rw [k] at q; exact ⟨_,q⟩
    · rintro ⟨r,rfl⟩; rw [List.take_append_of_le_length (Nat.le_refl _),List.take_of_length_le (Nat.le_refl _)]
  · rw [decide_eq_false h,Bool.false_and]
    cases hp : b.isPrefixOf a
    · rfl
    · exact absurd (List.isPrefixOf_iff_prefix.mp hp).length_le h
end Ap
set_option maxHeartbeats 4000000
namespace Fx
open PySem PySem.Spec PyProof.Rows L2 SX Ap
variable [Tb]
def isTy (n : String) : T → Sto → Bool
  | .str _, _ => n == "str"
  | .frl _, _ => n == "list"
  | .loc i,Z => match Z[i]? with
    | some (.lst _) => n == "list"
    | some (.dk _) => n == "dict"
    | some (.dt _) => n == "dict"
    | _ => false
  | _,_ => false
theorem Zcx {K : PySem.W.Frag} {ι : List Addr} {H : Hp} {Z : Sto} {v : V} {t : T} {n : String} (s : Sim K ι Z H) (r : Rep K ι H v t) (e : isTy n t Z = true) : tyV K n v H := by
  cases r with
  | str l => exact beq_iff_eq.mp e
  | frl h r => exact .inl ⟨beq_iff_eq.mp e,_,h.sq⟩
  | loc h =>
    simp only [isTy] at e
    split at e
    · rename_i hz
      obtain ⟨a', h1, vs, h2, _⟩ := s.at hz
      rw [h] at h1; cases h1
      exact .inl ⟨beq_iff_eq.mp e,_,SqL.of h2⟩
    · rename_i hz
      obtain ⟨a', h1, vs, h2, _⟩ := s.at hz
      rw [h] at h1; cases h1
      exact .inr (.inr (.inl ⟨beq_iff_eq.mp e,.inl ⟨_,h2⟩⟩))
    · rename_i hz
      obtain ⟨a', h1, vs, h2, _⟩ := s.at hz
      rw [h] at h1; cases h1
      exact .inr (.inr (.inl ⟨beq_iff_eq.mp e,.inr ⟨_,h2⟩⟩))
    · cases e
  | _ => cases e
def eBM (n : String) (g : T → List T → Sto → Option (T × Sto)) (fo : FE) (fa : FA) : FE := fun ρ Z => (fo ρ Z).bind fun x Z1 => if isTy n x Z1 = true then (fa ρ Z1).bind fun xs Z2 => lift (g x xs Z2) else .stuck
def rFM (K : PySem.W.Frag) (g : T → List T → Sto → Option (T × Sto)) : V → List V → Hp → VK → Prop := fun x xs H Q => ∃ ι Z tx ts,Sim K ι Z H ∧ Rep K ι H x tx ∧ Reps K ι H xs ts ∧ PostO (Rep K) K ι H Q (g tx ts Z)
section
variable {X : Cx} {K : PySem.W.Frag} {W : Wc} {o e : Expr} {es : List Expr} {fo : FE} {fa : FA} {name : PySem.Str} {apos cpos : Pos} {n id : String} {g : T → List T → Sto → Option (T × Sto)}
theorem Z3g {r r' : V → List V → Hp → VK → Prop} (h : MtR X id r) (i : ∀ x xs H Q, r' x xs H Q → r x xs H Q) : MtR X id r' := fun pins s σ H x xs v us Q I rx rs q => h pins s σ H x xs v us Q I rx rs (i _ _ _ _ q)
theorem f_bm (hK : X.K = K) (pa : PlainAttrs n) (slot : Slot n name id) (hty : typeOf (.builtin id) = pure (.type "method_descriptor")) (hm : MtR X id (rFM K g)) (ho : FJ X K W o fo) (ha : FAJ X K W (e :: es) fa)
    (hbase : attributeBase o name X.env (eval o X.env) = eval o X.env := by rfl)
    (hfew : ((backTo cpos (starEach (e :: es) X.env)).all (fun x => !x.1) && (backToKw cpos (keywordEach [] X.env)).all (fun x => x.1.isSome)
      && decide ((e :: es).length + ([] : List Keyword).length + (if ([] : List Keyword).isEmpty then 0 else 1) < 30)) = true := by rfl)
    (hline : (apos.endLine == cpos.line) = true := by rfl) (hs : starEach (e :: es) X.env = (false,eval e X.env) :: starEach es X.env := by rfl) (hplain : (backTo cpos (starEach es X.env)).any (·.1) = false := by rfl) :
    FJ X K W (.Call (.Attribute o name apos) (e :: es) [] cpos) (eBM n g fo fa) := by
  subst hK
  refine Xo (pe_bm pa slot hty hm ho ha hbase hfew hline hs hplain) fun σ H Q h => ?_
  obtain ⟨ι,ρ,Z,is,p⟩ := h
  refine ⟨ι,ρ,Z,is,(Zi p).imp fun x H1 q => ?_⟩
  obtain ⟨ι1,Z1,tx,g1,s1,r1,p1⟩ := q
  split at p1
  · rename_i ht
    refine ⟨Zcx s1 r1 ht,ι1,ρ,Z1,is.gr g1 s1,(Zi (rep := Reps X.K) p1).imp fun xs H2 q => ?_⟩
    obtain ⟨ι2,Z2,ts,g2,s2,r2,p2⟩ := q
    exact ⟨ι2,Z2,tx,ts,s2,r1.gr g2,r2,W9 p2⟩
  · exact p1.elim
theorem f_bm0 (hK : X.K = K) (pa : PlainAttrs n) (slot : Slot n name id) (hty : typeOf (.builtin id) = pure (.type "method_descriptor")) (hm : MtR X id (rFM K g)) (ho : FJ X K W o fo)
    (hbase : attributeBase o name X.env (eval o X.env) = eval o X.env := by rfl) (hline : (apos.endLine == cpos.line) = true := by rfl) : FJ X K W (.Call (.Attribute o name apos) [] [] cpos) (eBM n g fo aNil) := by
  subst hK
  refine Xo (pe_bm0 pa slot hty hm ho hbase hline) fun σ H Q h => ?_
  obtain ⟨ι,ρ,Z,is,p⟩ := h
  refine ⟨ι,ρ,Z,is,(Zi p).imp fun x H1 q => ?_⟩
  obtain ⟨ι1,Z1,tx,g1,s1,r1,p1⟩ := q
  split at p1
  · rename_i ht
    exact ⟨Zcx s1 r1 ht,ι1,Z1,tx,[],s1,r1,.nil,W9 p1⟩
  · exact p1.elim
end
def gAppend : T → List T → Sto → Option (T × Sto)
  | .loc i,[t],Z => match getL Z i with
    | some ts => if ts.length < Lim then some (.non,Z.set i (.lst (ts ++ [t]))) else none
    | none => none
  | _,_,_ => none
def asStr : T → Option (List Nat)
  | .str l => some l
  | _ => none
def gJoin : T → List T → Sto → Option (T × Sto)
  | .str a,[t],Z => match (asSeq t Z).bind fun ts => ts.mapM asStr with
    | some ys => if sumL ys + ys.length * a.length ≤ Lim then some (.str (TL.joinL a ys),Z) else none
    | none => none
  | _,_,_ => none
def gStarts : T → List T → Sto → Option (T × Sto)
  | .str a,[.str b],Z => some (.bl (b.isPrefixOf a),Z)
  | .str a,[.tup ts],Z => (ts.mapM asStr).map fun ys => (.bl (ys.any fun y => y.isPrefixOf a),Z)
  | _,_,_ => none
section
variable {X : Cx} {K : PySem.W.Frag}
theorem m_append : MtR X "list.append" (rFM K gAppend) := Z3g mt_append fun x xs H Q h => by
  obtain ⟨ι,Z,tx,ts,s,rx,rs,p⟩ := h
  unfold gAppend at p
  split at p
  · obtain ⟨y,rfl,ry⟩ := rs.one
    split at p
    · rename_i us e
      split at p
      · rename_i hl
        obtain ⟨a,vs,rfl,ha,h1,r⟩ := Xn s (Yg e) rx
        refine ⟨a,vs,y,rfl,rfl,h1,by rw [r.length]; exact Nat.lt_of_lt_of_le hl Z1d,?_⟩
        have g := Gr.mut (ι := ι) (o := .lst (vs ++ [y])) h1 trivial (List.mem_of_getElem? ha)
        exact p ι _ _ g (s.set ha ⟨_,upd_same,(r.gr g).append (.cons (ry.gr g) .nil)⟩) .non
      · exact p.elim
    · exact p.elim
  · exact p.elim
theorem Z8c {ι : List Addr} {H : Hp} : ∀ {vs : List V} {ts : List T} {ys : List (List Nat)},Reps K ι H vs ts → Paired (fun t y => asStr t = some y) ts ys → vs = (ys.map S).map V.str
  | _,_,_,.nil,.nil => rfl
  | _,_,_,.cons r q,.cons h p => by
    rename_i v vs t ts y ys
    cases t with
    | str l =>
      cases h
      cases r
      rw [Z8c q p]; rfl
    | _ => cases h
theorem m_join (hK : X.K = K) : MtR X "str.join" (rFM K gJoin) := by
  subst hK
  refine Z3g mt_join fun x xs H Q h => ?_
  obtain ⟨ι,Z,tx,ts,s,rx,rs,p⟩ := h
  unfold gJoin at p
  split at p
  · obtain ⟨y,rfl,ry⟩ := rs.one
    cases rx
    split at p
    · rename_i ys e
      split at p
      · rename_i hz
        obtain ⟨us,e1,e2⟩ := Option.bind_eq_some_iff.mp e
        obtain ⟨a,vs,rfl,hq,r⟩ := Jo s ry e1
        have ev := Z8c r (Qp e2)
        subst ev
        refine ⟨_,a,ys.map S,rfl,rfl,hq,?_,?_⟩
        · rw [Zkf,List.length_map,S_len]; exact Nat.le_trans hz (by decide)
        · rw [join_S]; exact Zq p s (.str _)
      · exact p.elim
    · exact p.elim
  · exact p.elim
theorem Z9z (hK : X.K = K) : MtR X "str.startswith" (rFM K gStarts) := by
  subst hK
  refine Z3g (mt_startswith.or Z4z) fun x xs H Q h => ?_
  obtain ⟨ι,Z,tx,ts,s,rx,rs,p⟩ := h
  unfold gStarts at p
  split at p
  · obtain ⟨y,rfl,ry⟩ := rs.one
    cases rx; cases ry
    exact .inl ⟨_,_,rfl,rfl,by rw [Z2e]; exact Zq p s (.bl _)⟩
  · obtain ⟨y,rfl,ry⟩ := rs.one
    cases rx
    rename_i l0 us
    obtain ⟨a,vs,rfl,hq,r⟩ := ry.tupE
    cases e : us.mapM asStr with
    | none => rw [e] at p; exact p.elim
    | some ys =>
      rw [e] at p
      have ev := Z8c r (Qp e)
      subst ev
      refine .inr ⟨_,a,ys.map S,rfl,rfl,hq,?_⟩
      have e2 : ((ys.map S).any fun y => Txt.startswith (S l0) y) = ys.any fun y => y.isPrefixOf l0 := by
        rw [List.any_map]
        congr 1
        funext y
        exact Z2e _ _
      rw [e2]
      exact Zq p s (.bl _)
  · exact p.elim
end
end Fx
set_option maxHeartbeats 4000000
namespace Fx
open PySem PySem.Spec PyProof.Rows L2 SX Ap
variable [Tb]
def wipeR (ρ : Env) : List Nat → Env
  | [] => ρ
  | v :: vs => (wipeR ρ vs).set v none
def putN : List Nat → T → Env → Option Env
  | [j],t,ρ => some (ρ.set j (some t))
  | js,.tup ts,ρ => if ts.length = js.length then some ((js.zip ts).foldl (fun r p => r.set p.1 (some p.2)) ρ) else none
  | _,_,_ => none
def loopC (it : ItF) (D : Nat) (put : T → Option Env) (c : FT) (e : FE) : Nat → Nat → Sto → R T
  | 0,_,_ => .stuck
  | n + 1,k,Z => match it k Z with
    | none => .stuck
    | some none => .ok (.loc D) Z
    | some (some t) => match put t with
      | none => .stuck
      | some ρ => (noX (c ρ Z)).bind fun b Z1 => if b = true then (noX (e ρ Z1)).bind fun y Z2 => (match getL Z2 D with
          | some acc => if acc.length < Lim then loopC it D put c e n (k + 1) (Z2.set D (.lst (acc ++ [y]))) else .stuck
          | none => .stuck) else loopC it D put c e n (k + 1) Z1
def eLc (vs js : List Nat) (it : FI) (c : FT) (e : FE) : FE := fun ρ Z => (it ρ Z).bind fun j Z1 => loopC j Z1.length (fun t => putN js t (wipeR ρ vs)) c e Fuel 0 (Z1 ++ [.lst []])
def eYes : FT := fun _ Z => .ok true Z
section
variable {X : Cx} {K : PySem.W.Frag} {W : Wc}
theorem Vs (ρ : Env) : ∀ vs : List Nat,(wipeR ρ vs).length = ρ.length
  | [] => rfl
  | v :: vs => by show ((wipeR ρ vs).set v none).length = _; rw [List.length_set,Vs ρ vs]
theorem Jr {ι : List Addr} {H : Hp} {σ : L2.St} {ρ : Env} (e : Envs K ι H σ ρ) (hl : σ.length = ρ.length) : ∀ vs : List Nat,Envs K ι H (wipe σ vs) (wipeR ρ vs)
  | [] => e
  | v :: vs => fun i t h => by
    have h' : ((wipeR ρ vs).set v none)[i]? = some (some t) := h
    show ∃ w,((wipe σ vs).set v none)[i]? = some (some w) ∧ _
    by_cases hi : i = v
    · subst hi
      by_cases hlt : i < (wipeR ρ vs).length
      · rw [List.getElem?_set_self hlt] at h'; cases h'
      · rw [List.getElem?_eq_none (by rw [List.length_set]; omega)] at h'; cases h'
    · rw [List.getElem?_set_ne (Ne.symm hi)] at h'
      rw [List.getElem?_set_ne (Ne.symm hi)]
      exact Jr e hl vs i t h'
theorem Z1e (σ : L2.St) : ∀ (vs : List Nat) (i : Nat),i < σ.length → i ∈ vs → (wipe σ vs)[i]? = some none
  | v :: vs,i,hl,hm => by
    show ((wipe σ vs).set v none)[i]? = some none
    by_cases hi : i = v
    · subst hi
      rw [List.getElem?_set_self (by rw [wipe_length]; exact hl)]
    · rw [List.getElem?_set_ne (Ne.symm hi)]
      exact Z1e σ vs i hl ((List.mem_cons.mp hm).resolve_left hi)
theorem Z5s (σ : L2.St) (vs : List Nat) (x : Option V) {j : Nat} (hj : j ∈ vs) : wipe (σ.set j x) vs = wipe σ vs := by
  apply List.ext_getElem?
  intro i
  by_cases hi : i ∈ vs
  · by_cases hlt : i < σ.length
    · rw [Z1e _ vs i (by rw [List.length_set]; exact hlt) hi,Z1e σ vs i hlt hi]
    · rw [List.getElem?_eq_none (by rw [wipe_length,List.length_set]; omega),List.getElem?_eq_none (by rw [wipe_length]; omega)]
  · rw [wipe_out hi,wipe_out hi,List.getElem?_set_ne (fun e => hi (by rw [← e]; exact hj))]
theorem Z1f (σ : L2.St) (vs : List Nat) : wipe (wipe σ vs) vs = wipe σ vs := by
  apply List.ext_getElem?
  intro i
  by_cases hi : i ∈ vs
  · by_cases hlt : i < σ.length
    · rw [Z1e _ vs i (by rw [wipe_length]; exact hlt) hi,Z1e σ vs i hlt hi]
    · rw [List.getElem?_eq_none (by rw [wipe_length,wipe_length]; omega),List.getElem?_eq_none (by rw [wipe_length]; omega)]
  · rw [wipe_out hi]
abbrev W0 : Wc := Wt (fun _ _ _ _ => False)
def TgOk (K : PySem.W.Frag) (js : List Nat) (g : TG) : Prop := ∀ (x : V) (σ : L2.St) (H : Hp) (Q : L2.St → Hp → Prop) ι ρ ρ' t, σ.length = ρ.length → Envs K ι H σ ρ → Rep K ι H x t → putN js t ρ = some ρ' →
  (∀ σ', σ'.length = ρ'.length → Envs K ι H σ' ρ' → (∀ vs, (∀ j ∈ js, j ∈ vs) → wipe σ' vs = wipe σ vs) → Q σ' H) → g x σ H Q
theorem Um (j : Nat) (t : T) (ρ : Env) : putN [j] t ρ = some (ρ.set j (some t)) := by cases t <;> rfl
theorem Zf8 {i j : Nat} {t : T} {ρ ρ' : Env} (h : putN [i, j] t ρ = some ρ') : ∃ t1 t2, t = .tup [t1, t2] ∧ ρ' = (ρ.set i (some t1)).set j (some t2) := by
  cases t with
  | tup ts =>
    match ts with
    | [] => simp [putN] at h
    | [_] => simp [putN] at h
    | [t1,t2] => simp [putN] at h; exact ⟨t1,t2,rfl,h.symm⟩
    | _ :: _ :: _ :: _ => simp [putN] at h
  | _ => simp [putN] at h
theorem Xb (j : Nat) : TgOk K [j] (gName j) := fun x σ H Q ι ρ ρ' t hl env r e q => by
  rw [Um] at e
  have e' := Option.some.inj e
  subst e'
  exact q _ (by rw [List.length_set,List.length_set]; exact hl) (env.set r j hl) fun vs h => Z5s σ vs _ (h j List.mem_cons_self)
theorem Zcy (i j : Nat) : TgOk K [i, j] (gTup K 2 (gCons (gName i) (gCons (gName j) gNil))) := fun x σ H Q ι ρ ρ' t hl env r e q => by
  obtain ⟨t1,t2,rfl,rfl⟩ := Zf8 e
  obtain ⟨a,xs,rfl,hq,rs⟩ := r.tupE
  obtain ⟨v1,v2,rfl,r1,r2⟩ := rs.two
  have e1 := env.set r1 i hl
  have l1 : (σ.set i (some v1)).length = (ρ.set i (some t1)).length := by rw [List.length_set,List.length_set]; exact hl
  have e2 := e1.set r2 j l1
  have q2 := q ((σ.set i (some v1)).set j (some v2)) (by simp only [List.length_set]; exact hl) e2 fun vs h => by rw [Z5s _ vs _ (h j (by simp)),Z5s _ vs _ (h i (by simp))]
  exact ⟨a,[v1,v2],rfl,hq,rfl,v1,[v2],rfl,v2,[],rfl,rfl,q2⟩
theorem Zkn {fi : FI} {g : TG} {ft : FT} {fe : FE} {vs js : List Nat} (hg : TgOk K js g) (hjs : ∀ j ∈ js,j ∈ vs) {σ : L2.St} {H : Hp} {Q : VK} (hi : ∀ R,(∃ ι ρ Z,Ie K W ι H σ ρ Z ∧ Post (ItR K) K W.w σ ι H R (fi ρ Z)) → tI K W.w fi σ H R) (h : tF K W (eLc vs js fi ft fe) σ H Q) : tLc (tI K W.w fi) g (tFT K W0 ft) (tF K W0 fe) vs σ H Q := by
  obtain ⟨ι,ρ,Z,is,p⟩ := h
  refine hi _ ⟨ι,ρ,Z,is,(Zi (rep := ItR K) p).imp fun J H1 q => ?_⟩
  obtain ⟨ι1,Z1,it,g1,s1,rJ,p1⟩ := q
  intro D hD
  have is1 := is.gr g1 s1
  have sD : Sim K (ι1 ++ [D]) (Z1 ++ [.lst []]) (upd H1 D (.lst [])) := s1.newL .nil hD
  have gD : Gr ι1 (ι1 ++ [D]) H1 (upd H1 D (.lst [])) := Gr.new hD
  have hDi : (ι1 ++ [D])[Z1.length]? = some D := by rw [← s1.len]; simp
  refine ⟨fun k m H' => ∃ ι' Z', Gr (ι1 ++ [D]) ι' (upd H1 D (.lst [])) H' ∧ Sim K ι' Z' H' ∧ Post (Rep K) K W.w σ ι' H' Q (loopC it Z1.length (fun t => putN js t (wipeR ρ vs)) ft fe m k Z'), ⟨Fuel, ι1 ++ [D], _, Gr.refl, sD, p1.shift gD⟩, ?_⟩
  rintro k m H' ⟨ι', Z', g', s', p'⟩
  cases m with
  | zero => exact p'.elim
  | succ m =>
    have hj := rJ k ι' H' Z' (gD.trans g') s'
    unfold loopC at p'
    cases e : it k Z' with
    | none => rw [e] at p'; exact p'.elim
    | some o =>
      rw [e] at hj p'
      cases o with
      | none => exact .inl ⟨hj, p' ι' H' _ Gr.refl s' (.loc (g'.pre _ _ hDi))⟩
      | some t =>
        refine .inr ⟨hj.1, _, fun H2 n => ⟨m, Nat.lt_succ_self m, n⟩, fun x H'' y => ?_⟩
        obtain ⟨g2, s2, r2⟩ := hj.2 x H'' y
        simp only at p'
        cases e3 : putN js t (wipeR ρ vs) with
        | none => rw [e3] at p'; exact p'.elim
        | some ρ' =>
          rw [e3] at p'
          have env2 : Envs K ι' H'' (wipe σ vs) (wipeR ρ vs) := Jr ((is1.env.gr (gD.trans g')).gr g2) is1.len vs
          refine hg x (wipe σ vs) H'' _ ι' _ ρ' t (by rw [wipe_length, Vs]; exact is1.len) env2 r2 e3 fun σ' hl' env' hw => ?_
          refine ⟨by rw [hw vs hjs, Z1f], ι', ρ', Z', ⟨hl', env', s2, trivial⟩, Ul (W := W.w) (σ := σ) ((Zi (rep := bEq) (p'.shift g2)).imp fun b H3 q => ?_)⟩
          obtain ⟨ι3, Z3, b', g3, s3, rb, p3⟩ := q
          cases (show b = b' from rb)
          cases b with
          | false =>
            rw [if_neg Bool.false_ne_true] at p3 ⊢
            exact ⟨ι3, Z3, (g'.trans g2).trans g3, s3, p3⟩
          | true =>
            rw [if_pos rfl] at p3 ⊢
            refine ⟨ι3, ρ', Z3, ⟨hl', env'.gr g3, s3, trivial⟩, Ul (W := W.w) (σ := σ) ((Zi (rep := Rep K) p3).imp fun y H4 q => ?_)⟩
            obtain ⟨ι4,Z4,ty,g4,s4,ry,p4⟩ := q
            split at p4
            · rename_i acc ea
              split at p4
              · rename_i hz
                have hD4 : ι4[Z1.length]? = some D := g4.pre _ _ (g3.pre _ _ (g'.pre _ _ hDi))
                obtain ⟨a, ws, ea', _, h1, rw1⟩ := Xn s4 (Yg ea) (.loc hD4)
                cases ea'
                have g5 := Gr.mut (ι := ι4) (o := .lst (ws ++ [y])) h1 trivial (List.mem_of_getElem? hD4)
                refine ⟨ws, h1, by rw [rw1.length]; exact Nat.lt_of_lt_of_le hz Z1d, ι4, _, (((g'.trans g2).trans g3).trans g4).trans g5, s4.set (ob := .lst (acc ++ [ty])) hD4 ⟨_, upd_same, (rw1.gr g5).append (.cons (ry.gr g5) .nil)⟩, p4.shift g5⟩
              · exact p4.elim
            · exact p4.elim
theorem Za0 {fi : FI} {σ : L2.St} {H : Hp} {R : It → Hp → Prop} (h : ∃ ι ρ Z,Ie K W ι H σ ρ Z ∧ Post (ItR K) K W.w σ ι H R (fi ρ Z)) : tI K W.w fi σ H R := by
  obtain ⟨ι,ρ,Z,is,p⟩ := h
  exact ⟨ι,ρ,Z,⟨is.len,is.env,is.sim⟩,p⟩
theorem Yw : PTs X [] (tFT K W0 eYes) := ⟨fun pins s σ H Q I h => by
  obtain ⟨ι,ρ,Z,is,p⟩ := h
  exact pts_nil.run pins s σ H Q I (p ι H true Gr.refl is.sim rfl)⟩
theorem f_lc {elt tg iter : Expr} {ifs : List Expr} {scope : Scope} {own : List (PySem.Str × Nat)} {pos : Pos} {fi : FI} {g : TG} {ft : FT} {fe : FE} {js : List Nat} (hg0 : TgOk K js g) (hjs : ∀ j ∈ js,j ∈ own.map (·.2)) (hc : X.calm = true) (hN : X.N.Nodup) (hi : PI X tg iter (tI K W.w fi)) (ok : BlkOk X.N X.env.scope scope own)
    (hg : ∀ (s : Shared) (H : Hp) (C : Addr) (cl : List (PySem.Str × Addr)) (fp : List Addr),PG (X.blk s H scope (compEnvC scope cl C X.env) fp) tg g) (ht : ∀ (s : Shared) (H : Hp) (C : Addr) (cl : List (PySem.Str × Addr)) (fp : List Addr),PTs (X.blk s H scope (compEnvC scope cl C X.env) fp) ifs (tFT K W0 ft))
    (he : ∀ (s : Shared) (H : Hp) (C : Addr) (cl : List (PySem.Str × Addr)) (fp : List Addr),FJ (X.blk s H scope (compEnvC scope cl C X.env) fp) K W0 elt fe) (hs : ∀ x,foldedSetIterable iter X.env x = pure x := by intro _; rfl) :
    FJ X K W (.ListComp elt [⟨tg,iter,ifs,0⟩] scope pos) (eLc (own.map (·.2)) js fi ft fe) := Xo (pe_lc hc hN hi ok hg ht he hs) fun σ H Q h => Zkn hg0 hjs (fun R q => Za0 q) h
theorem Z1g {W : WX} {i : Nat} {y : PySem.Str} {py : Pos} {elt tg iter : Expr} {ifs : List Expr} {scope : Scope} {own : List (PySem.Str × Nat)} {pos spos : Pos} {fi : FI} {g : TG} {ft : FT} {fe : FE} {js : List Nat} (hg0 : TgOk K js g) (hjs : ∀ j ∈ js,j ∈ own.map (·.2)) (hc : X.calm = true) (hN : X.N.Nodup) (hy : X.N[i]? = some y) (hyl : X.env.scope.names.lookup y = some .local)
    (hsw : swapsWith (.ListComp elt [⟨tg,iter,ifs,0⟩] scope pos) (some (.Name y py)) spos.line X.env = pure true) (hi : PI X tg iter (tI K W fi)) (ok : BlkOk X.N X.env.scope scope own)
    (hg : ∀ (s : Shared) (H : Hp) (C : Addr) (cl : List (PySem.Str × Addr)) (fp : List Addr),PG (X.blk s H scope (compEnvC scope cl C X.env) fp) tg g) (ht : ∀ (s : Shared) (H : Hp) (C : Addr) (cl : List (PySem.Str × Addr)) (fp : List Addr),PTs (X.blk s H scope (compEnvC scope cl C X.env) fp) ifs (tFT K W0 ft))
    (he : ∀ (s : Shared) (H : Hp) (C : Addr) (cl : List (PySem.Str × Addr)) (fp : List Addr),FJ (X.blk s H scope (compEnvC scope cl C X.env) fp) K W0 elt fe) (hs : ∀ x,foldedSetIterable iter X.env x = pure x := by intro _; rfl) :
    FSJ X K W (.Assign [.Name y py] (.ListComp elt [⟨tg,iter,ifs,0⟩] scope pos) spos) (sSet i (eLc (own.map (·.2)) js fi ft fe)) := Jm (ps_setLc hc hN hy hyl hsw hi ok hg ht he hs) fun D σ H h => by
  obtain ⟨ι,ρ,Z,is,p⟩ := h
  refine Zkn (W := Wt W) hg0 hjs (fun R q => Za0 q) (Zcr is p fun v H1 ι1 Z1 t g1 i1 r1 p1 => ?_)
  exact p1 ι1 H1 _ Gr.refl (i1.set r1 i)
theorem X6 {X : Cx} : Takes X W0.w := takes0
end
end Fx
set_option maxHeartbeats 4000000
namespace Fx
open PySem PySem.Spec PyProof.Rows L2 SX Ap
variable [Tb]
def spI (C : Addr) (f : PySem.Str) : Sp := fun vs H Q _ => ∃ (a : Addr) (v : V),vs = [.ref a,v] ∧ H a = some (exo a C none) ∧ ∀ dx,H dx = none → dx ≠ a → Q .non (upd (upd H dx (exd dx [(f,v)])) a (exo a C (some dx)))
def sRaise (nm f : PySem.Str) (ds : List T) (fa : FA) : FS := fun ρ Z => bS ρ (fa ρ Z) fun ts Z1 => match ts ++ ds with
  | [t] => .exc ⟨nm,[(f,t)]⟩ ρ Z1
  | _ => .stuck
section
variable {X : Cx} {K : PySem.W.Frag} {W : WX} {x : PySem.Str} {p pos rpos : Pos} {e : Expr} {es : List Expr} {fa : FA} {k : Nat} {C fI : Addr} {fd : FuncData} {ps : List PySem.Str} {f : PySem.Str} {dvs : List V} {ds : List Value} {dts : List T}
theorem Z04 (hK : X.K = K) (hc : X.calm = true) (tk : Takes X W) (T : OexC X.K C) (iC : PySem.W.findIn X.K (.ref C) "__init__" = some (some (.ref fI))) (tI : PySem.W.typeIn X.K (.ref fI) = some (.type "function"))
    (F1 : FnOk X.prog X.w X.K X.mg X.base CX0 k fI fd ps (spI C f)) (hr : Room (k + 1) X.A) (hb : Binds X.K fd ps ds) (hd : Vals dvs ds) (hdf : Dfl K dvs dts) (hg : Gl X x) (hm : X.mg x = some (.ref C)) (ha : FAJ X K (Wt W) (e :: es) fa) (hn : ofLen (e :: es) fa) (hns : PySem.W.nsIn X.K mainGlobals x = some (some (.ref C))) (hln : (e :: es).length + dts.length = 1 := by rfl)
    (hdb : (x == ("__debug__" : PySem.Str)) = false := by decide) (he : starEach (e :: es) X.env = (false, eval e X.env) :: starEach es X.env := by rfl) (hpl : (backTo pos (starEach es X.env)).any (·.1) = false := by rfl) :
    FSJ X K W (.Raise (some (.Call (.Name x p) (e :: es) [] pos)) none rpos) (sRaise x f dts fa) := by
  subst hK
  refine Jm (ps_raise hc tk (pmk_oex T iC tI F1 hr hb hd pass0 hg hm ha hdb he hpl)) fun D σ H h => ?_
  obtain ⟨ι,ρ,Z,is,q⟩ := h
  refine Zcs is q fun vs H1 ι1 Z1 ts e1 g1 i1 r1 p1 => ?_
  have r2 := r1.append (hdf ι1 H1)
  have hl := r2.length
  have hl2 : (ts ++ dts).length = 1 := by rw [List.length_append,hn _ _ _ _ e1]; exact hln
  refine ⟨?_,fun a na => ?_⟩
  · rw [List.length_append,r1.length] at *; omega
  match hts : ts ++ dts,r2,hl2 with
  | [t],r2,_ =>
    obtain ⟨v,ev,rv⟩ := r2.one
    rw [hts] at p1
    rw [ev]
    refine ⟨a,v,rfl,upd_same,fun dx nd ne => ⟨rfl,dx,[(f,v)],?_,?_,?_,?_⟩⟩
    · exact upd_same
    · rw [upd_ne ne,upd_same]
    · rw [upd_ne ne] at nd; exact nd
    · have hd1 : H1 dx = none := by rw [upd_ne ne] at nd; exact nd
      have eH : ∀ b,b ≠ dx → upd (del (upd (upd (upd H1 a (exo a C none)) dx (exd dx [(f,v)])) a (exo a C (some dx))) a) dx (.xd [(f,v)]) b = H1 b := fun b hb => by
        rw [upd_ne hb]
        by_cases hba : b = a
        · subst hba; rw [del_same,na]
        · rw [del_ne hba,upd_ne hba,upd_ne hb,upd_ne hba]
      have sm : Same H1 (upd (del (upd (upd (upd H1 a (exo a C none)) dx (exd dx [(f,v)])) a (exo a C (some dx))) a) dx (.xd [(f,v)])) := fun b o ho => by
        rw [eH b (ne_of_none ho hd1)]; exact ho
      refine p1 ι1 _ σ (.ref C) (some dx) (Gr.same sm) (i1.gr (Gr.same sm) (i1.sim.same sm)) ⟨⟨C,rfl,hns⟩,dx,[(f,v)],rfl,upd_same,.cons (rv.gr (Gr.same sm)) .nil⟩
end
theorem RepX.gr {K : PySem.W.Frag} {ι ι' : List Addr} {H H' : Hp} {cls : Value} {d : Option Addr} {x : Ex} (g : Gr ι ι' H H') (h : RepX K ι H cls d x) : RepX K ι' H' cls d x := by
  obtain ⟨h1,h2⟩ := h
  refine ⟨h1,?_⟩
  split at h2
  · rename_i e; exact h2
  · obtain ⟨dd,vs,e,h,r⟩ := h2
    exact ⟨dd,vs,e,g.xd _ _ h,r.gr g⟩
def eXf (x : Ex) (f : PySem.Str) : FE := fun _ Z => match x.fs.lookup f with
  | some t => .ok t Z
  | none => .stuck
theorem RepP.lookup {K : PySem.W.Frag} {ι : List Addr} {H : Hp} {f : PySem.Str} {t : T} : ∀ {vs : List (PySem.Str × V)} {fs : List (PySem.Str × T)},RepP K ι H vs fs → fs.lookup f = some t → ∃ v,vs.lookup f = some v ∧ Rep K ι H v t
  | _,_,.nil,e => by cases e
  | _,_,.cons r q,e => by
    rename_i k v vs t' ts
    rw [List.lookup_cons] at e ⊢
    cases h : f == k with
    | true => rw [h] at e; cases e; exact ⟨v,rfl,r⟩
    | false => rw [h] at e; exact RepP.lookup q e
section
variable {X : Cx} {K : PySem.W.Frag} {W : WX} {x : PySem.Str} {n : PySem.Str} {C : Addr} {i : Nat} {body : List Stmt} {e : Expr} {np pos pos' rpos : Pos} {b : FS} {fe : Ex → FE}
theorem PostS.wx {K : PySem.W.Frag} {W W' : WX} {ι : List Addr} {H : Hp} {D : Ends} {r : RS} (h : PostS K W ι H D r) (i : ∀ x ρ Z, r ≠ .exc x ρ Z) : PostS K W' ι H D r := by
  cases r with
  | nx => exact h
  | rt => exact h
  | bk => exact h
  | ct => exact h
  | exc x ρ Z => exact absurd rfl (i x ρ Z)
  | stuck => exact h
end
end Fx
set_option maxHeartbeats 4000000
namespace PySem
set_option maxHeartbeats 1000000 in
theorem Z0e (l : Addr) (items : Array Value) (n : Nat) (dct : Option Addr) (sl : Array (Option Value)) :
    Meets (Builtin.«enumerate.__new__» ⟨[.type "enumerate", .ref l], []⟩) (fun _ R s =>
      s.heap.get? l = some { cls := .type "tuple", dict := dct, data := .seq items n, slots := sl } ∧
      R (.ok (.ret (.ref (s.heap.push { cls := .type "tuple_iterator", data := .fields #[.ref l, .int 0 0] }).objs.size)))
        { s with heap := (s.heap.push { cls := .type "tuple_iterator", data := .fields #[.ref l, .int 0 0] }).push { cls := .type "enumerate", data := .fields #[.none, .bool false, .ref s.heap.objs.size, rawInt 0, .none, .none] } }) :=
  .of_wp fun prog w A R s h => by
    obtain ⟨hl,h⟩ := h
    obtain ⟨hp,g,d,tk,os⟩ := s
    have hL : hp.IsTuple l items := ⟨_,hl,rfl,n,rfl⟩
    have hsub := sub_enumerate
    wp_walk using wpAny_loadPart' hl
    refine wpAny_stack_any fun st => wpAny_pure ?_
    split
    · rename_i c _ _ _ _ _
      cases (c == Value.type "enumerate")
      · wp_walk using wpAny_loadPart' hl, wpAny_pyIter_tuple hL
        exact ⟨_,rfl,h⟩
      · wp_walk using wpAny_loadPart' hl, wpAny_pyIter_tuple hL
        exact ⟨_,rfl,h⟩
    · wp_walk using wpAny_loadPart' hl, wpAny_pyIter_tuple hL
      exact ⟨_,rfl,h⟩
end PySem
namespace PySem
section
variable {prog : Program} {w : World} {A : Around} {E : Value → Shared → Prop} {s : Shared}
theorem Z1h {l : Addr} {items : Array Value} {Q : Value → Shared → Prop} (hL : s.heap.IsTuple l items)
    (k : ∀ h', IsEnum h' (s.heap.objs.size + 1) s.heap.objs.size 0 .none → h'.IsTupleIter s.heap.objs.size l 0 → (∀ b o, s.heap.get? b = some o → h'.get? b = some o) → Q (.ref (s.heap.objs.size + 1)) { s with heap := h' }) :
    wpAny (model prog w) A (call (.type "enumerate") [.ref l]) Q E s := by
  obtain ⟨⟨c,dct,dt,sl⟩,hl,hc,n,hd⟩ := hL
  obtain rfl : c = .type "tuple" := hc
  obtain rfl : dt = .seq items n := hd
  refine callType_new F.called_enumerate (by decide) (F.typeCall_enumerate_1 _) (F.newCall_enumerate_1 _) (fun obj => F.args_object_init_2 obj _) F.entry_enumerate_new (Z0e l items n dct sl) ⟨hl,?_⟩
  have hz : (s.heap.push { cls := .type "tuple_iterator", data := .fields #[.ref l, .int 0 0] }).objs.size = s.heap.objs.size + 1 := Heap.size_push ..
  show _ ∧ _
  rw [hz]
  have he : IsEnum ((s.heap.push { cls := .type "tuple_iterator", data := .fields #[.ref l, .int 0 0] }).push
      { cls := .type "enumerate", data := .fields #[.none, .bool false, .ref s.heap.objs.size, rawInt 0, .none, .none] }) (s.heap.objs.size + 1) s.heap.objs.size 0 .none := by
    have q := Heap.get?_push_size (s.heap.push { cls := .type "tuple_iterator", data := .fields #[.ref l, .int 0 0] })
      (o := { cls := .type "enumerate", data := .fields #[.none, .bool false, .ref s.heap.objs.size, rawInt 0, .none, .none] }) rfl
    rw [hz] at q; exact q
  exact ⟨⟨_,he,rfl⟩,k _ he ⟨_,Heap.get?_push_of_some _ (Heap.get?_push_size _ rfl),rfl,rfl⟩ fun b o x => Heap.get?_push_of_some _ (Heap.get?_push_of_some _ x)⟩
end
end PySem
namespace Fx
open PySem PySem.Spec PyProof.Rows L2 SX Ap
variable [Tb]
def IteT (K : PySem.W.Frag) (a : Addr) : It :=
  ⟨fun i H => ∃ (xs : List V) (x : V), SqT K H a xs ∧ xs[i]? = some x, fun i H v H' => ∃ T x, v = .ref T ∧ H T = none ∧ H' = upd H T (.tup [.int (i : Nat), x]) ∧ ∀ xs, SqT K H a xs → xs[i]? = some x, fun i H => ∃ xs : List V, SqT K H a xs ∧ xs.length = i⟩
theorem Zbj {P : Program} {w : World} {K : PySem.W.Frag} {elts : List Expr} {kk : Nat} {tpos : Pos} (a e it : Addr) :
    Turn P w K (.Tuple elts kk tpos) (IteT K a) [e,it] e (fun i h => (∃ old,IsEnum h e it ((i : Nat) : Int) old) ∧ h.IsTupleIter it a i ∧ e ≠ it ∧ a ≠ it) where
  mem := List.mem_cons_self
  obj := by
    intro i h ⟨⟨old,he⟩,⟨o,ho,hc,hd⟩,_⟩ b hb
    rcases List.mem_cons.mp hb with rfl | hb
    · exact ⟨_,he,fun v q => nomatch q⟩
    · cases List.mem_singleton.mp hb
      exact ⟨o,ho,fun v q => by rw [hd] at q; cases q⟩
  keep := by
    intro i h h' ⟨⟨old, he⟩, ⟨o, ho, r⟩, hne⟩ k
    exact ⟨⟨old,k e List.mem_cons_self _ he⟩,⟨o,k it (List.mem_cons_of_mem _ List.mem_cons_self) o ho,r⟩,hne⟩
  item := by
    intro X hP hw hK hc i pins s σ H E I hf ⟨⟨old,he⟩,hit,hne,hai⟩ hg
    cases hP; cases hw; cases hK
    have le : e < s.heap.objs.size := Heap.lt_size he
    have li : it < s.heap.objs.size := Heap.lt_size hit.choose_spec.1
    obtain ⟨xs,x,hq,hx⟩ := hg
    obtain ⟨its,rv,pt,hz⟩ := I.tuple hq
    obtain ⟨u,hu,ru⟩ := rv.get hx
    have hil : i < its.toArray.size := by
      have := (List.getElem?_eq_some_iff.mp hu).1
      simpa using this
    have hae : a ≠ e := fun z => by
      obtain ⟨o,h1,h2,_⟩ := pt
      rw [z] at h1
      have h3 := he.symm.trans h1
      cases h3
      exact absurd (Value.type.inj h2) (by decide)
    refine wpAny_pyNext_enum_itemD (Draws.tuple (A := X.A.in1) (I.ok.hd hc) it a hai its.toArray) he ⟨hit,pt⟩ hil hne (by simp [hne,Ne.symm hae]) ?_
    rintro v h' tk hv ho ⟨st, _⟩ hT hsz hk
    have hv' : v = u := by
      have h0 : its.toArray[i]? = some v := hv
      have : its[i]? = some v := by simpa using h0
      rw [hu] at this; exact (Option.some.inj this).symm
    subst hv'
    refine ⟨_, rfl, wpAny_letOwnedTupleGo_enum (s := { s with heap := h', toks := tk + 1 }) ho ?_⟩
    intro h'' he' sb
    have hT2 := (sb.2 s.heap.objs.size (Nat.ne_of_gt le)).trans hT
    have new : ObjOk X.prog X.w (upd H s.heap.objs.size (.tup [.int (i : Nat), x])) h'' s.heap.objs.size (.tup [.int (i : Nat), x]) :=
      ⟨by show 2 ≤ sizeLine; decide,[.int i tk,v],.cons ⟨_,rfl⟩ (.cons ru .nil),⟨_,hT2,rfl,_,rfl⟩⟩
    have I1 := I.turnedNew (t' := tk + 1) (ch := [e, it]) (fun b ob hb q => (sb.2 b (fun z => hb (by simp [z]))).trans (hk b ob (fun z => hb (by simp [z])) (fun z => hb (by simp [z])) q)) hf (Nat.le_refl _) new
    refine ⟨.ref s.heap.objs.size,_,I1,rfl,⟨_,x,rfl,I.hok.fresh (Nat.le_refl _),rfl,fun ys hy => by rw [I.tuple_inj hy hq]; exact hx⟩,⟨⟨v,?_⟩,?_,hne,hai⟩,?_⟩
    · rw [show ((i + 1 : Nat) : Int) = (i : Int) + 1 by omega]; exact he'
    · obtain ⟨o,o1,o2⟩ := st
      exact ⟨o,(sb.2 it (Ne.symm hne)).trans o1,o2⟩
    · intro b hb
      have : b < s.heap.objs.size := by
        rcases List.mem_cons.mp hb with rfl | hb
        · exact le
        · cases List.mem_singleton.mp hb; exact li
      rw [upd_ne (Nat.ne_of_lt this)]
      exact (hf b hb).1
  done := by
    intro X hP hw hK hc i pins s σ H E I hf ⟨⟨old,he⟩,hit,hne,hai⟩ hg
    cases hP; cases hw; cases hK
    obtain ⟨xs,hq,rfl⟩ := hg
    obtain ⟨its,rv,pt,hz⟩ := I.tuple hq
    obtain ⟨f0,f1,f2,f3,f4,f5⟩ := hf it (List.mem_cons_of_mem _ List.mem_cons_self)
    have hsz : its.toArray.size = xs.length := by rw [List.size_toArray,rv.length]
    refine wpAny_pyNext_enum_endD (Draws.tuple (A := X.A.in1) (I.ok.hd hc) it a hai its.toArray) he (by rw [hsz]; exact ⟨hit,pt⟩) ?_
    intro h' eb
    exact ⟨rfl, I.turned (t' := s.toks) (fun b o hb q => eb b o hb q) f0 f1 f3 f4 f5⟩
  self := by
    intro A i s Q E ⟨⟨_,he⟩,_⟩ h
    exact wpAny_pyIter_enum he h
def iEnumT (K : PySem.W.Frag) (ta : TA) : TI := fun σ H R => ta σ H fun vs H1 => ∃ a xs,vs = [.ref a] ∧ SqT K H1 a xs ∧ R (IteT K a) H1
theorem Zf9 {X : Cx} {e : Expr} {ta : TA} {p pos tpos : Pos} {elts : List Expr} {kk : Nat} (hg : Gl X "enumerate") (hm : X.mg "enumerate" = none)
    (ha : PA X [e] ta) (hs : starEach [e] X.env = [(false,eval e X.env)] := by rfl) :
    PI X (.Tuple elts kk tpos) (.Call (.Name "enumerate" p) [e] [] pos) (iEnumT X.K ta) := by
  constructor
  intro pins s σ H R I h
  refine Call_ (ld_blt I hg hm boot_enumerate (PyProof.Rows.callWith_type1 ?_ hs rfl))
  refine thn (ha.run pos pins s σ H _ I h) ?_
  rintro us s1 ⟨vs,H1,I1,r1,a,xs,rfl,hq,q⟩
  obtain ⟨u,rfl,ru⟩ := vals1 r1
  cases (show u = Value.ref a from ru)
  obtain ⟨its,rv,pt,hz⟩ := I1.tuple hq
  refine Z1h (show s1.heap.IsTuple a its.toArray from pt) ?_
  intro h' he hit hk
  refine wpAny_pyIter_enum he ?_
  have I2 : Inv X pins σ H1 { s1 with heap := h' } := I1.kept (t' := s1.toks) hk
  have la : a < s1.heap.objs.size := by obtain ⟨o,h1,_⟩ := pt; exact Heap.lt_size h1
  refine ⟨s1.heap.objs.size + 1,[s1.heap.objs.size + 1,s1.heap.objs.size],_,_,H1,rfl,I2,Zbj a _ _,⟨⟨.none,he⟩,hit,Nat.succ_ne_self _,Nat.ne_of_lt la⟩,?_,q⟩
  intro b hb
  have hle : s1.heap.objs.size ≤ b := by
    rcases List.mem_cons.mp hb with rfl | hb
    · exact Nat.le_add_right _ _
    · cases List.mem_singleton.mp hb; exact Nat.le_refl _
  exact I1.fpOk hle (I1.hok.fresh hle)
def itSeqX (ts : List T) : ItF := fun k _ => if k ≤ ts.length then some ts[k]? else none
def itStrX (l : List Nat) : ItF := fun k _ => if k ≤ l.length then some (l[k]?.map fun c => .str [c]) else none
def iAny (f : FE) : FI := fun ρ Z => (f ρ Z).bind fun x Z1 => match x with
  | .frl ts => .ok (itSeq ts) Z1
  | .loc i => match getL Z1 i with
    | some _ => .ok (itLoc i) Z1
    | none => .stuck
  | .tup ts => .ok (itSeq ts) Z1
  | .str l => .ok (itStr l) Z1
  | _ => .stuck
def iEnmA (f : FA) : FI := fun ρ Z => (f ρ Z).bind fun xs Z1 => match xs with
  | [.frl ts] => .ok (itEnum (itSeq ts)) Z1
  | [.loc i] => match getL Z1 i with
    | some _ => .ok (itEnum (itLoc i)) Z1
    | none => .stuck
  | [.tup ts] => .ok (itEnum (itSeqX ts)) Z1
  | [.str l] => .ok (itEnum (itStrX l)) Z1
  | _ => .stuck
section
variable {X : Cx} {K : PySem.W.Frag} {W : WX} {pos p : Pos} {tg l a : Expr} {fl : FE} {fa : FA}
theorem Zfa {t1 t2 : TI} (h1 : PI X tg l t1) (h2 : PI X tg l t2) : PI X tg l (fun σ H R => t1 σ H R ∨ t2 σ H R) := ⟨fun pins s σ H R I q => q.elim (h1.run pins s σ H R I) (h2.run pins s σ H R I)⟩
theorem Wm (hK : X.K = K) (hl : FJ X K (Wt W) l fl) : PI X tg l (tI K W (iAny fl)) := by
  refine Z2d (Zfa (Zhz hK hl) (Zfa (Zkj hK hl) (Zkk hl))) fun σ H Q h => ?_
  obtain ⟨ι,ρ,Z,is,p⟩ := h
  cases e : fl ρ Z with
  | ok t Z1 =>
    unfold iAny at p
    rw [e,Zv] at p
    cases t with
    | tup ts => exact .inr (.inl ⟨ι,ρ,Z,is,by unfold iSeqT; rw [e,Zv]; exact p⟩)
    | str u => exact .inr (.inr ⟨ι,ρ,Z,is,by unfold iStr; rw [e,Zv]; exact p⟩)
    | frl ts => exact .inl ⟨ι,ρ,Z,is,by unfold iSeqL; rw [e,Zv]; exact p⟩
    | loc i => exact .inl ⟨ι,ρ,Z,is,by unfold iSeqL; rw [e,Zv]; exact p⟩
    | _ => exact p.elim
  | exc x Z1 =>
    unfold iAny at p
    rw [e] at p
    exact .inl ⟨ι,ρ,Z,is,by unfold iSeqL; rw [e]; exact p⟩
  | stuck => unfold iAny at p; rw [e] at p; exact p.elim
theorem Za1 {tpos : Pos} {elts : List Expr} {kk : Nat} (hK : X.K = K) (hg : Gl X "enumerate") (hm : X.mg "enumerate" = none) (ha : FAJ X K (Wt W) [a] fa) (hn : ofLen [a] fa) (hs : starEach [a] X.env = [(false, eval a X.env)] := by rfl) : PI X (.Tuple elts kk tpos) (.Call (.Name "enumerate" p) [a] [] pos) (tI K W (iEnmA fa)) := by
  subst hK
  refine Z2d (Zfa (Zi0 rfl hg hm ha hn hs) (Zfa (Zf9 hg hm ha hs) (Zf1 hg hm ha hs))) fun σ H Q h => ?_
  obtain ⟨ι,ρ,Z,is,p⟩ := h
  unfold iEnmA at p
  cases e : fa ρ Z with
  | ok ts Z1 =>
    rw [e,Zv] at p
    have hl := hn _ _ _ _ e
    match ts,hl,p with
    | [t],_,p =>
      cases t with
      | frl us => exact .inl ⟨ι,ρ,Z,is,by unfold iEnm; rw [e,Zv]; exact p⟩
      | loc i => exact .inl ⟨ι,ρ,Z,is,by unfold iEnm; rw [e,Zv]; exact p⟩
      | tup us =>
        refine .inr (.inl ⟨ι,ρ,Z,is.ie,?_⟩)
        rw [e]
        intro ι1 H1 vs g1 s1 r1
        obtain ⟨v,rfl,r⟩ := r1.one
        obtain ⟨b,xs,rfl,hq,rs⟩ := r.tupE
        refine ⟨b, xs, rfl, hq, p ι1 H1 _ g1 s1 fun k ι' H' Z' g' s' => ?_⟩
        simp only [itEnum,itSeqX]
        by_cases hk : k ≤ us.length
        · rw [if_pos hk]
          simp only [Option.map_some]
          cases eu : us[k]? with
          | none => exact ⟨xs, SqT.gr g' hq, by rw [rs.length]; have := List.getElem?_eq_none_iff.mp eu; omega⟩
          | some u =>
            obtain ⟨x,h1,h2⟩ := rs.get eu
            refine ⟨⟨xs, x, SqT.gr g' hq, h1⟩, fun y H'' hy => ?_⟩
            obtain ⟨q, x', rfl, nq, rfl, hx'⟩ := hy
            have := hx' xs (SqT.gr g' hq)
            rw [h1] at this; cases this
            exact ⟨Gr.new0 nq, s'.same (Wd nq), .tup (SqT.of upd_same) (.cons (.int _) (.cons ((h2.gr g').gr (Gr.new0 nq)) .nil))⟩
        · rw [if_neg hk]; exact trivial
      | str u =>
        refine .inr (.inr ⟨ι,ρ,Z,is.ie,?_⟩)
        rw [e]
        intro ι1 H1 vs g1 s1 r1
        obtain ⟨v,rfl,r⟩ := r1.one
        cases r
        refine ⟨S u, rfl, p ι1 H1 _ g1 s1 fun k ι' H' Z' g' s' => ?_⟩
        have hsz : (S u).cps.size = u.length := by simp [S]
        simp only [itEnum,itStrX]
        by_cases hk : k ≤ u.length
        · rw [if_pos hk]
          simp only [Option.map_some]
          cases eu : u[k]? with
          | none => exact show k = (S u).cps.size by rw [hsz]; have := List.getElem?_eq_none_iff.mp eu; omega
          | some c =>
            have hlt : k < u.length := (List.getElem?_eq_some_iff.mp eu).1
            refine ⟨show k < (S u).cps.size by rw [hsz]; exact hlt, fun y H'' hy => ?_⟩
            obtain ⟨q, c', rfl, nq, rfl, hc'⟩ := hy
            have : c' = c := by
              have h2 : u[k]? = some c' := by simpa [S] using hc'
              rw [eu] at h2; exact (Option.some.inj h2).symm
            subst this
            exact ⟨Gr.new0 nq, s'.same (Wd nq), .tup (SqT.of upd_same) (.cons (.int _) (.cons (.str [c']) .nil))⟩
        · rw [if_neg hk]; exact trivial
      | _ => exact p.elim
  | exc x Z1 => rw [e] at p; exact .inl ⟨ι,ρ,Z,is,by unfold iEnm; rw [e]; exact p⟩
  | stuck => rw [e] at p; exact p.elim
end
end Fx
set_option maxHeartbeats 4000000
namespace Ap
open PySem PySem.Spec PyProof.Rows L2 SX
end Ap
namespace Fx
open PySem PySem.Spec PyProof.Rows L2 SX Ap
variable [Tb]
theorem Zi1 {K : PySem.W.Frag} {H : Hp} {a : Addr} {ns : List Int} (h : FrL K H a (ns.map V.int)) : Rep K [] H (.ref a) (.frl (ns.map .int)) := by
  refine .frl h ?_
  clear h
  induction ns with
  | nil => exact .nil
  | cons n ns ih => exact .cons (.int n) ih
theorem fnG_0 {P : Program} {w : World} {K : PySem.W.Frag} {mg : PySem.Str → Option Value} {base : Heap} {k : Nat} {f : Addr} {fd : FuncData} {ps : List PySem.Str} {n : Nat} {F : FF} (G : FnG P w K mg base k f fd ps (spF K n F)) : GOk P w K mg base CX0 k f fd ps (fun vs H Q _ => spF K n F vs H Q (fun _ _ _ => False)) :=
  ⟨fun vs H Q E h => G.len vs H Q _ h, fun A outer s H as us vs Q E hr hG e0 hb rv h => codeAny_mono (G.run A outer s H as us vs Q _ hr hG e0 hb rv h) fun r s' z => by
    cases r with
    | error e =>
      obtain ⟨_,_,_,_,_,_,_,_,_,_,_,_,q⟩ := z
      exact q.elim
    | ok fl => cases fl <;> exact z⟩
def gRepr : List T → Sto → Option (T × Sto)
  | [t],Z => match t,toD 16 Z t with
    | .tup _,some d => if d.showable = true ∧ d.hasDict = false ∧ d.depth ≤ 62 ∧ d.shown.length ≤ sizeLine then some (.str d.shown.cps.toList,Z) else none
    | .frl _,some d => if d.showable = true ∧ d.hasDict = false ∧ d.depth ≤ 62 ∧ d.shown.length ≤ sizeLine then some (.str d.shown.cps.toList,Z) else none
    | .loc _,some d => if d.showable = true ∧ d.hasDict = false ∧ d.depth ≤ 62 ∧ d.shown.length ≤ sizeLine then some (.str d.shown.cps.toList,Z) else none
    | _,_ => none
  | _,_ => none
theorem Z5t (z : PySem.Str) : S z.cps.toList = z := by
  show (⟨z.cps.toList.toArray⟩ : PySem.Str) = z
  rw [Array.toArray_toList]
theorem Zko {X : Cx} {K : PySem.W.Frag} (hK : X.K = K) (hG : X.A.guards = some []) (hu : X.A.units + 64 < cLine) : CallR X (.builtin "repr") (rFC K gRepr) := by
  subst hK
  refine Yt (Zbe hG hu) fun xs H Q h => ?_
  obtain ⟨ι,Z,ts,s,r,p⟩ := h
  match ts,r,p with
  | [],_,p => exact p.elim
  | _ :: _ :: _,_,p => simp only [gRepr] at p; exact p.elim
  | [t],r,p =>
    obtain ⟨v,rfl,rr⟩ := r.one
    simp only [gRepr] at p
    cases e : toD 16 Z t with
    | none => rw [e] at p; cases t <;> exact p.elim
    | some d =>
      rw [e] at p
      have hd := Z9r s 16 rr e
      cases t with
      | tup us =>
        simp only at p
        split at p
        · rename_i hc
          obtain ⟨a,vs,rfl,_,_⟩ := rr.tupE
          exact ⟨a,d,rfl,hd,hc.1,hc.2.1,hc.2.2.1,hc.2.2.2,Zq p s (by have := Rep.str (K := X.K) (ι := ι) (H := H) d.shown.cps.toList; rw [Z5t] at this; exact this)⟩
        · exact p.elim
      | frl us =>
        simp only at p
        split at p
        · rename_i hc
          cases rr
          exact ⟨_,d,rfl,hd,hc.1,hc.2.1,hc.2.2.1,hc.2.2.2,Zq p s (by have := Rep.str (K := X.K) (ι := ι) (H := H) d.shown.cps.toList; rw [Z5t] at this; exact this)⟩
        · exact p.elim
      | loc us =>
        simp only at p
        split at p
        · rename_i hc
          cases rr
          exact ⟨_,d,rfl,hd,hc.1,hc.2.1,hc.2.2.1,hc.2.2.2,Zq p s (by have := Rep.str (K := X.K) (ι := ι) (H := H) d.shown.cps.toList; rw [Z5t] at this; exact this)⟩
        · exact p.elim
      | _ => exact p.elim
def eDict0 : FE := fun _ Z => .ok (.loc Z.length) (Z ++ [.dk []])
theorem Zi2 {X : Cx} {K : PySem.W.Frag} {W : Wc} {e : Expr} (h : PE X e tDNewK) : FJ X K W e eDict0 := Xo h fun σ H Q q => by
  obtain ⟨ι,ρ,Z,is,p⟩ := q
  intro a na
  exact p (ι ++ [a]) _ _ (Gr.new na) (is.sim.new na ⟨[],upd_same,.nil⟩) (Z5r is.sim)
def gNeg : T → Sto → Option (T × Sto)
  | .int i,Z => some (.int (-i),Z)
  | _,_ => none
theorem Z8d {X : Cx} {K : PySem.W.Frag} {W : Wc} {a : Expr} {fa : FE} {pos : Pos} (ha : FJ X K W a fa) : FJ X K W (.UnaryOp .USub a pos) (eUn gNeg fa) := Xo (pe_un un_neg ha) fun σ H Q h => by
  obtain ⟨ι,ρ,Z,is,p⟩ := h
  refine ⟨ι,ρ,Z,is,(Zi p).imp fun x H1 q => ?_⟩
  obtain ⟨ι1,Z1,tx,g1,s1,r1,p1⟩ := q
  have p2 := W9 p1
  unfold gNeg at p2
  split at p2
  · cases r1; exact ⟨_,rfl,Zq p2 s1 (.int _)⟩
  · exact p2.elim
end Fx
set_option maxHeartbeats 4000000
namespace Ap
open PySem PySem.Spec PyProof.Rows L2 SX
def NoDig (K : PySem.W.Frag) : Prop := PySem.W.nsIn K cStatics "sys.int_max_str_digits" = some none
theorem Zi3 {K : PySem.W.Frag} {h : Heap} {a : Addr} {mg : Str → Option Value} {n : Str} (X : K.In h) (G : h.Ns a mg) (e : PySem.W.nsIn K a n = some none) : mg n = none := by
  obtain ⟨o,es,ep,ho,hd,_,hf⟩ := G
  unfold PySem.W.nsIn at e
  split at e
  · rename_i c d es' n' sl q
    have := X _ _ q
    rw [ho] at this
    cases this
    cases hd
    split at e
    · cases e
    · rename_i he
      rw [← hf]
      unfold nsFind findBy
      rw [← Array.find?_toList,he]
      rfl
  · cases e
open PySem.NumText in
theorem wp_textB {M : Model} {A : Around} {E : Value → Shared → Prop} {s : Shared} {Q : Value → Shared → Prop} {v : Value} {text : List Nat} {n : Int} (hn : s.heap.NoDigits)
    (hs : ¬ (text.takeWhile (· != 0)).length ≤ 640) (hr : (int_private% "readNumeral") 4300 10 (text.takeWhile (· != 0)) = (int_private% "Numeral.value") n)
    (ha : ((text.takeWhile (· != 0)).length == text.length) = true) (h : Q (.int n s.toks) { s with toks := s.toks + 1 }) :
    wpAny M A ((int_private% "intFromText") v text 10) Q E s := by
  obtain ⟨mc,hns,hnone⟩ := hn
  obtain ⟨hp,g,d,tk,os⟩ := s
  wp_step
  wp_step
  unfold Builtin.intMaxStrDigits
  refine wpAny_bind (wpAny_bind (wpAny_nsGet hns ?_))
  rw [hnone]
  refine wpAny_pure ?_
  dsimp only
  rw [hr]
  dsimp only
  rw [if_pos ha]
  exact wpAny_mkInt h
open PySem.NumText PySem.W PySem.W.KIN in
theorem Z8e {x : PySem.Str} {u : Tok} {n : Int} (hs : ¬ (numSeenOf x).length ≤ 640) (hr : (int_private% "readNumeral") 4300 10 (numSeenOf x) = (int_private% "Numeral.value") n) (ha : ((numSeenOf x).length == (numTextOf x).length) = true) :
    Meets (Builtin.«int.__new__» ⟨[.type "int", .str x u], []⟩) (fun _ R s => s.heap.NoDigits ∧ R (.ok (.ret (.int n s.toks))) { s with toks := s.toks + 1 }) :=
  .of_wp fun prog w A R s hh => by
    obtain ⟨hp,g,d,tk,os⟩ := s
    have hN : hp.NoDigits := hh.1
    have h := hh.2
    clear hh
    have f1 := F.conv_sub_int
    have f2 := F.madeHere_int
    have f3 := str_int
    have f4 := str_idx
    have f5 := str_trunc
    have f6 : typeOf (.str x u) = pure (.type "str") := rfl
    have hk := Hid.mk (And.intro hs (And.intro hr (And.intro ha hN)))
    clear hs hr ha hN
    repeat (any_goals (first
      | assumption
      | ((with_reducible show wpAny _ _ ((int_private% "intFromText") _ _ _) _ _ _); refine wp_textB hk.out.2.2.2 hk.out.1 hk.out.2.1 hk.out.2.2.1 ?_)
      | wp_step))
    all_goals first | exact ⟨_,rfl,h⟩ | skip
open PySem.NumText in
theorem Zbk {prog : Program} {w : World} {A : Around} {E : Value → Shared → Prop} {s : Shared} {Q : Value → Shared → Prop} {x : PySem.Str} {t : Tok} {n : Int} (hd : s.heap.NoDigits) (hA : x.cps.all (· < 128) = true) (hn : PySem.intText? x = some n) (hl : x.length ≤ sizeLine)
    (h : Q (.int n s.toks) { s with toks := s.toks + 1 }) : wpAny (model prog w) A (call (.type "int") [.str x t]) Q E s := by
  by_cases hs : (numSeenOf x).length ≤ 640
  · by_cases hl2 : x.length ≤ 640
    · exact PySem.W.KIN.call_text hn hl2 h
    · exfalso
      have e1 : numTextOf x = x.cps.toList := if_pos hA
      by_cases k : ((numSeenOf x).length == (numTextOf x).length) = true
      · have k' := beq_iff_eq.mp k
        have e2 : (numTextOf x).length = x.length := by rw [e1]; exact Array.length_toList
        rw [e2] at k'
        omega
      · unfold intText? at hn
        rw [if_neg k] at hn
        cases hn
  · rcases read4300 x hl with ⟨m,h1,h2,h3⟩ | ⟨h1,_⟩
    · rw [hn] at h1
      cases h1
      exact call_int_1 (Z8e hs h3 h2) ⟨hd,typeIs_int _ _ _,h⟩
    · rw [hn] at h1
      cases h1
section
variable {X : Cx}
theorem noDig {pins : List (Addr × Obj)} {σ : L2.St} {H : Hp} {s : Shared} (I : Inv X pins σ H s) (h : NoDig X.K) : s.heap.NoDigits := by
  obtain ⟨mc,a,_⟩ := I.nolimit
  exact ⟨mc,a,Zi3 I.kIn a h⟩
abbrev rIntStrB : List V → Hp → VK → Prop := fun xs H Q => ∃ (l : List Nat) (n : Int),xs = [.str (S l)] ∧ l.all (· < 128) = true ∧ PySem.intText? (S l) = some n ∧ l.length ≤ 100000 ∧ Q (.int n) H
theorem Z5u (hD : NoDig X.K) : CallR X (.type "int") rIntStrB := by
  intro pins s σ H xs us Q I rs h
  obtain ⟨l,n,rfl,hA,hn,hl,h⟩ := h
  cases rs with
  | cons r1 rs =>
    cases rs
    obtain ⟨t,rfl⟩ := r1
    exact Zbk (noDig I hD) (by simpa [S] using hA) hn (szS hl) ⟨.int n,H,I.tok _,⟨_,rfl⟩,h⟩
abbrev rStrIntB : List V → Hp → VK → Prop := fun xs H Q => ∃ i : Int,xs = [.int i] ∧ i.natAbs < 10 ^ 4300 ∧ Q (.str (toString i)) H
theorem Z5v (hD : NoDig X.K) (hc : X.calm = true) : CallR X (.type "str") rStrIntB := by
  intro pins s σ H xs us Q I r h
  obtain ⟨i,rfl,hz,q⟩ := h
  obtain ⟨u,rfl,t,rfl⟩ := vals1 r
  exact str_of_int_or (I.ok.hd hc) (noDig I hD) (fun _ => ⟨.str _,H,I.tok _,⟨_,rfl⟩,q⟩) (fun h => absurd hz (Nat.not_lt.mpr h))
end
end Ap
set_option maxHeartbeats 4000000
namespace Fx
open PySem PySem.Spec PyProof.Rows L2 SX Ap
variable [Tb]
def bools : List T → Option (List Bool)
  | [] => some []
  | .bl b :: ts => (bools ts).map (b :: ·)
  | _ :: _ => none
def gAll : List T → Sto → Option (T × Sto)
  | [t],Z => (asList t Z).bind fun ts => (bools ts).map fun bs => (.bl (bs.all id),Z)
  | _,_ => none
def gAny : List T → Sto → Option (T × Sto)
  | [t],Z => (asList t Z).bind fun ts => (bools ts).map fun bs => (.bl (bs.any id),Z)
  | _,_ => none
theorem Z6w {K : PySem.W.Frag} {ι : List Addr} {H : Hp} : ∀ {vs : List V} {ts : List T} {bs : List Bool},Reps K ι H vs ts → bools ts = some bs → vs = bs.map V.bl
  | _,[],bs,r,h => by
    cases r
    have : bs = [] := (Option.some.inj h).symm
    subst this; rfl
  | _,t :: ts,bs,r,h => by
    cases r with
    | cons r1 rs =>
      cases t with
      | bl b =>
        simp only [bools] at h
        cases e : bools ts with
        | none => rw [e] at h; cases h
        | some cs =>
          rw [e] at h
          have : bs = b :: cs := (Option.some.inj h).symm
          subst this
          cases r1
          rw [Z6w rs e]; rfl
      | _ => simp [bools] at h
theorem Zfb {X : Cx} {K : PySem.W.Frag} (hK : X.K = K) (hc : X.calm = true) : CallR X (.builtin "all") (rFC K gAll) := by
  subst hK
  refine Yt (cr_all hc) fun xs H Q h => ?_
  obtain ⟨ι,Z,ts,s,r,p⟩ := h
  match ts,r,p with
  | [],_,p => exact p.elim
  | _ :: _ :: _,_,p => simp only [gAll] at p; exact p.elim
  | [t],r,p =>
    obtain ⟨v,rfl,rr⟩ := r.one
    simp only [gAll] at p
    cases e : asList t Z with
    | none => rw [e] at p; exact p.elim
    | some us =>
      rw [e] at p
      obtain ⟨a,vs,rfl,hq,rs⟩ := Wk s rr e
      cases eb : bools us with
      | none => simp only [Option.bind_some,eb] at p; exact p.elim
      | some bs =>
        simp only [Option.bind_some,eb,Option.map_some] at p
        have := Z6w rs eb
        subst this
        exact ⟨a,bs,rfl,hq,Zq p s (.bl _)⟩
def gStr : List T → Sto → Option (T × Sto)
  | [.int i],Z => if i.natAbs < 10 ^ 4300 then some (.str (dec i),Z) else none
  | _,_ => none
theorem c_str {X : Cx} {K : PySem.W.Frag} (hD : NoDig X.K) (hc : X.calm = true) : CallR X (.type "str") (rFC K gStr) := Yt (Z5v hD hc) fun xs H Q h => by
  obtain ⟨ι,Z,ts,s,r,p⟩ := h
  unfold gStr at p
  split at p
  · obtain ⟨v,rfl,rr⟩ := r.one
    cases rr
    split at p
    · rename_i hz
      refine ⟨_,rfl,hz,?_⟩
      rw [Ap.Zf2]
      exact Zq p s (.str _)
    · exact p.elim
  · exact p.elim
def gIntT : List T → Sto → Option (T × Sto)
  | [.int i],Z => some (.int i,Z)
  | [.bl b],Z => some (.int (if b then 1 else 0),Z)
  | [.str l],Z => if l.all (· < 128) = true ∧ l.length ≤ 100000 then (PySem.intText? (S l)).map fun n => (.int n,Z) else none
  | _,_ => none
theorem Z2f {X : Cx} {K : PySem.W.Frag} (hD : NoDig X.K) : CallR X (.type "int") (rFC K gIntT) := Yt (Z1v call_int1 (Z5u hD)) fun xs H Q h => by
  obtain ⟨ι,Z,ts,s,r,p⟩ := h
  unfold gIntT at p
  split at p
  · obtain ⟨v,rfl,rr⟩ := r.one
    cases rr
    exact .inl (.inl ⟨_,rfl,Zq p s (.int _)⟩)
  · obtain ⟨v,rfl,rr⟩ := r.one
    cases rr
    exact .inl (.inr ⟨_,rfl,Zq p s (.int _)⟩)
  · obtain ⟨v,rfl,rr⟩ := r.one
    cases rr
    split at p
    · rename_i hz
      cases e : PySem.intText? (S _) with
      | none => rw [e] at p; exact p.elim
      | some n =>
        rw [e] at p
        exact .inr ⟨_,n,rfl,hz.1,e,hz.2,Zq p s (.int _)⟩
    · exact p.elim
  · exact p.elim
end Fx
set_option maxHeartbeats 4000000
namespace Fx
open PySem PySem.Spec PyProof.Rows L2 SX Ap
variable [Tb]
def eCallK (F : FF) (g : List T → List T) (fa : FA) : FE := fun ρ Z => (fa ρ Z).bind fun ts Z1 => F (g ts) Z1
end Fx
set_option maxHeartbeats 4000000
namespace Fx
open PySem PySem.Spec PyProof.Rows L2 SX
variable [Tb]
end Fx
set_option maxHeartbeats 4000000
namespace Fx
open PySem PySem.Spec PyProof.Rows L2 SX Ap
variable [Tb]
theorem Z2g {a b : String} (h : PySem.Str.ofString a = PySem.Str.ofString b) : a = b := by
  have e : a.toList.map Char.toNat = b.toList.map Char.toNat := by rw [← signs_ofString,← signs_ofString,h]
  have key : ∀ (l m : List Char),l.map Char.toNat = m.map Char.toNat → l = m := by
    intro l
    induction l with
    | nil => intro m h; cases m with
      | nil => rfl
      | cons c m => cases h
    | cons c l ih => intro m h; cases m with
      | nil => cases h
      | cons d m =>
        rw [List.map_cons,List.map_cons] at h
        have h1 := (List.cons.inj h).1
        have h2 := ih m (List.cons.inj h).2
        have : c = d := by
          apply Char.ext
          apply UInt32.toNat_inj.mp
          exact h1
        rw [this,h2]
  exact String.toList_inj.mp (key _ _ e)
theorem Zi4 {a b : String} : (PySem.Str.ofString a == PySem.Str.ofString b) = (a == b) := by
  by_cases h : a = b
  · subst h; rw [beq_self_eq_true,beq_self_eq_true]
  · rw [beq_eq_false_iff_ne.mpr h,beq_eq_false_iff_ne.mpr fun e => h (Z2g e)]
theorem RepF.lookup {K : PySem.W.Frag} {ι : List Addr} {H : Hp} {f : String} : ∀ {vs : List (PySem.Str × V)} {fs : List (String × T)},RepF K ι H vs fs →
    (∀ t,fs.lookup f = some t → ∃ v,vs.lookup (PySem.Str.ofString f) = some v ∧ Rep K ι H v t) ∧ (fs.lookup f = none → vs.lookup (PySem.Str.ofString f) = none)
  | _,_,.nil => ⟨fun t e => (nomatch e),fun _ => rfl⟩
  | _,_,.cons r q => by
    rename_i k v vs t ts
    obtain ⟨h1,h2⟩ := RepF.lookup (f := f) q
    rw [List.lookup_cons,List.lookup_cons,Zi4]
    cases h : f == k with
    | true => exact ⟨fun u e => by cases e; exact ⟨v,rfl,r⟩,fun e => nomatch e⟩
    | false => exact ⟨h1,h2⟩
theorem RepF.length {K : PySem.W.Frag} {ι : List Addr} {H : Hp} : ∀ {vs : List (PySem.Str × V)} {fs : List (String × T)},RepF K ι H vs fs → vs.length = fs.length
  | _,_,.nil => rfl
  | _,_,.cons _ r => congrArg (· + 1) r.length
def putS (f : String) (t : T) : List (String × T) → List (String × T)
  | [] => [(f,t)]
  | (g,x) :: r => if g = f then (g,t) :: r else (g,x) :: putS f t r
theorem RepF.put {K : PySem.W.Frag} {ι : List Addr} {H : Hp} {f : String} {v : V} {t : T} (rv : Rep K ι H v t) : ∀ {vs : List (PySem.Str × V)} {fs : List (String × T)},RepF K ι H vs fs → RepF K ι H (putF (PySem.Str.ofString f) v vs) (putS f t fs)
  | _,_,.nil => .cons rv .nil
  | _,_,.cons r q => by
    rename_i k x vs u ts
    unfold putF putS
    by_cases h : k = f
    · rw [if_pos h,if_pos (by rw [h])]; exact .cons rv q
    · rw [if_neg h,if_neg fun e => h (Z2g e)]; exact .cons r (RepF.put rv q)
def getI (Z : Sto) (i : Nat) : Option (String × List (String × T)) := match Z[i]? with
  | some (.ins C fs) => some (C,fs)
  | _ => none
theorem Z8f {Z : Sto} {i : Nat} {C : String} {fs : List (String × T)} (h : getI Z i = some (C,fs)) : Z[i]? = some (.ins C fs) := by
  unfold getI at h
  split at h
  · rename_i e; cases h; exact e
  · cases h
structure CF (K : PySem.W.Frag) (C : String) (Ca : Addr) : Prop where
  ns : PySem.W.nsIn K mainGlobals (PySem.Str.ofString C) = some (some (.ref Ca))
  cls : Cls K Ca
def FldOk (K : PySem.W.Frag) (cs : List String) (f : String) : Prop := ∀ C ∈ cs,∃ Ca,CF K C Ca ∧ NoAttr K Ca (PySem.Str.ofString f)
theorem FldOk.nil {K : PySem.W.Frag} {f : String} : FldOk K [] f := fun _ h => nomatch h
theorem FldOk.cons {K : PySem.W.Frag} {C : String} {Ca : Addr} {cs : List String} {f : String} (c : CF K C Ca) (n : NoAttr K Ca (PySem.Str.ofString f)) (h : FldOk K cs f) : FldOk K (C :: cs) f := fun D hD => by
  rcases List.mem_cons.mp hD with rfl | k
  · exact ⟨Ca,c,n⟩
  · exact h D k
theorem Zcz {K : PySem.W.Frag} {ι : List Addr} {H : Hp} {Z : Sto} {v : V} {i : Nat} {C : String} {fs : List (String × T)} (s : Sim K ι Z H) (r : Rep K ι H v (.loc i)) (e : getI Z i = some (C,fs)) :
    ∃ a Ca dx vs,v = .ref a ∧ ι[i]? = some a ∧ PySem.W.nsIn K mainGlobals (PySem.Str.ofString C) = some (some (.ref Ca)) ∧ H a = some (.ins Ca dx vs) ∧ RepF K ι H vs fs := by
  cases r with
  | loc h =>
    obtain ⟨a,h1,Ca,dx,vs,hn,h2,h3⟩ := s.at (Z8f e)
    rw [h] at h1; cases h1
    exact ⟨_,Ca,dx,vs,rfl,h,hn,h2,h3⟩
def fldT (cs : List String) (f : String) (x : T) (Z : Sto) : Option T := match x with
  | .loc i => match getI Z i with
    | some (C,fs) => if C ∈ cs then fs.lookup f else none
    | none => none
  | _ => none
def eFld (cs : List String) (f : String) (fe : FE) : FE := fun ρ Z => (fe ρ Z).bind fun x Z1 => match fldT cs f x Z1 with
  | some t => .ok t Z1
  | none => .stuck
def setF (cs : List String) (f : String) (x y : T) (Z : Sto) : Option Sto := match x with
  | .loc i => match getI Z i with
    | some (C,fs) => if C ∈ cs ∧ fs.length < 1000 then some (Z.set i (.ins C (putS f y fs))) else none
    | none => none
  | _ => none
def sFldS (cs : List String) (f : String) (fo fv : FE) : FS := fun ρ Z => bS ρ (fv ρ Z) fun y Z1 => bS ρ (fo ρ Z1) fun x Z2 => match setF cs f x y Z2 with
  | some Z3 => .nx ρ Z3
  | none => .stuck
def gFld (cs : List String) (f : String) (fo : FE) : FG := fun y ρ Z => (fo ρ Z).bind fun x Z1 => match setF cs f x y Z1 with
  | some Z2 => .ok ρ Z2
  | none => .stuck
def insC (x : T) (Z : Sto) : Option String := match x with
  | .loc i => (getI Z i).map (·.1)
  | _ => none
section
variable {X : Cx} {K : PySem.W.Frag} {cs : List String} {f : String} {o e value : Expr} {pos pos' tpos : Pos} {fo fv fe : FE}
theorem Zkp {ι : List Addr} {H : Hp} {Z : Sto} {x : V} {tx t : T} (hc : FldOk K cs f) (s : Sim K ι Z H) (r : Rep K ι H x tx) (h : fldT cs f tx Z = some t) :
    ∃ a Ca dx vs v,x = .ref a ∧ H a = some (.ins Ca dx vs) ∧ Cls K Ca ∧ NoAttr K Ca (PySem.Str.ofString f) ∧ vs.lookup (PySem.Str.ofString f) = some v ∧ Rep K ι H v t ∧ ∃ C,insC tx Z = some C ∧ PySem.W.nsIn K mainGlobals (PySem.Str.ofString C) = some (some (.ref Ca)) := by
  unfold fldT at h
  split at h
  · split at h
    · rename_i C fs eg
      split at h
      · rename_i hC
        obtain ⟨a,Ca,dx,vs,rfl,hi,hn,ha,hf⟩ := Zcz s r eg
        obtain ⟨Cb,cf,na⟩ := hc C hC
        have e2 := hn.symm.trans cf.ns
        cases e2
        obtain ⟨v,hv,rv⟩ := hf.lookup.1 t h
        exact ⟨a,_,dx,vs,v,rfl,ha,cf.cls,na,hv,rv,C,by simp only [insC,eg,Option.map_some],hn⟩
      · cases h
    · cases h
  · cases h
theorem Zi5 {ι : List Addr} {H : Hp} {Z Z' : Sto} {x y : V} {tx ty : T} (hc : FldOk K cs f) (s : Sim K ι Z H) (r : Rep K ι H x tx) (ry : Rep K ι H y ty) (h : setF cs f tx ty Z = some Z') :
    ∃ a Ca dx vs,x = .ref a ∧ H a = some (.ins Ca dx vs) ∧ Cls K Ca ∧ NoAttr K Ca (PySem.Str.ofString f) ∧ vs.length < 1000 ∧
      Gr ι ι H (upd H a (.ins Ca dx (putF (PySem.Str.ofString f) y vs))) ∧ Sim K ι Z' (upd H a (.ins Ca dx (putF (PySem.Str.ofString f) y vs))) ∧ ∃ C, insC tx Z = some C ∧ PySem.W.nsIn K mainGlobals (PySem.Str.ofString C) = some (some (.ref Ca)) := by
  unfold setF at h
  split at h
  · split at h
    · rename_i C fs eg
      split at h
      · rename_i hC
        cases h
        obtain ⟨a,Ca,dx,vs,rfl,hi,hn,ha,hf⟩ := Zcz s r eg
        obtain ⟨Cb,cf,na⟩ := hc C hC.1
        have e2 := hn.symm.trans cf.ns
        cases e2
        have g := Gr.mut (ι := ι) (o := .ins Ca dx (putF (PySem.Str.ofString f) y vs)) ha trivial (List.mem_of_getElem? hi)
        exact ⟨a,_,dx,vs,rfl,ha,cf.cls,na,by rw [hf.length]; exact hC.2,g,s.set hi ⟨Ca,dx,_,hn,upd_same,(hf.gr g).put (ry.gr g)⟩,C,by simp only [insC,eg,Option.map_some],hn⟩
      · cases h
    · cases h
  · cases h
theorem Z0f {W : Wc} (hK : X.K = K) (hc : FldOk K cs f) (he : FJ X K W e fe) (hb : attributeBase e (PySem.Str.ofString f) X.env (eval e X.env) = eval e X.env := by rfl) : FJ X K W (.Attribute e (PySem.Str.ofString f) pos) (eFld cs f fe) := by
  subst hK
  refine Xo (pe_fld he hb) fun σ H Q h => ?_
  obtain ⟨ι,ρ,Z,is,p⟩ := h
  refine ⟨ι,ρ,Z,is,(Zi p).imp fun x H1 q => ?_⟩
  obtain ⟨ι1,Z1,tx,g1,s1,r1,p1⟩ := q
  split at p1
  · rename_i t et
    obtain ⟨a,Ca,dx,vs,v,rfl,ha,hcl,na,hv,rv,_⟩ := Zkp hc s1 r1 et
    exact ⟨a,Ca,dx,vs,v,rfl,ha,hcl,na,hv,p1 ι1 H1 _ Gr.refl s1 rv⟩
  · exact p1.elim
variable {W : WX}
end
def eMake (C : String) (F : FF) (ds : List T) (fa : FA) : FE := fun ρ Z => (fa ρ Z).bind fun ts Z1 => (F (.loc Z1.length :: (ts ++ ds)) (Z1 ++ [.ins C []])).bind fun r Z2 => match r with
  | .non => .ok (.loc Z1.length) Z2
  | _ => .stuck
section
variable {X : Cx} {K : PySem.W.Frag} {W : Wc} {x : PySem.Str} {m C : String} {p pos apos : Pos} {o e : Expr} {es : List Expr} {fo : FE} {fa : FA} {k n : Nat} {Ca f : Addr} {fd : FuncData} {ps : List PySem.Str} {F : FF} {dvs : List V} {ds : List Value} {dts : List T}
theorem Zkq {pins : List (Addr × Obj)} {σ : L2.St} {H : Hp} {s : Shared} {Q : VK} {us : List Value} {vs : List V} {sp : Sp} (M : Mk X.K Ca f) (G : FnG X.prog X.w X.K X.mg X.base k f fd ps sp) (hr : Room (k + 1) X.A) (hG : X.A.guards = some []) (hb : Binds X.K fd ps ds) (hd : Vals dvs ds) (tk : Takes X W.w)
    (I : Inv X pins σ H s) (r : Vals vs us)
    (h : ∀ a dx,H a = none → H dx = none → dx ≠ a → sp (.ref a :: (vs ++ dvs)) (upd (upd H dx (.own a)) a (.ins Ca dx [])) (fun v H2 => v = .non ∧ Q (.ref a) H2) (WE W.w σ)) :
    wpAny (model X.prog X.w) X.A (call (.ref Ca) us) (EP X pins σ Q) X.xe s := by
  have n1 := I.hok.fresh (Nat.le_succ s.heap.objs.size)
  have n0 := I.hok.fresh (Nat.le_refl s.heap.objs.size)
  have q0 := h _ _ n1 n0 (Nat.ne_of_lt (Nat.lt_succ_self _))
  have J := Inv.made (C := Ca) I
  have rr : Vals (V.ref (s.heap.objs.size + 1) :: (vs ++ dvs)) (Value.ref (s.heap.objs.size + 1) :: (us ++ ds)) := .cons rfl (r.append hd)
  have hl : (Value.ref (s.heap.objs.size + 1) :: us ++ ds).length = ps.length := (rr.length.symm.trans (G.len _ _ _ _ q0))
  have body := G.run (X.A.under (.builtin "type.__call__" ⟨.ref Ca :: us, []⟩)) X.stack _ _ ⟨Value.ref (s.heap.objs.size + 1) :: us, []⟩ _ _ _ _
    (hr.make Ca us []) hG (J.env0.make Ca us []) (hb _ (Value.ref (s.heap.objs.size + 1) :: us) J.kIn hl) rr q0
  refine wpAny_call (make_map (f := f) I.kIn M.makes M.init (beq_iff_eq.mp M.fn) (codeAny_mono body fun z s' hz => ?_))
  cases z with
  | error e => exact passAt tk σ pins _ _ e s' J hz
  | ok fl =>
    cases fl with
    | ret u =>
      obtain ⟨v, H', I3, rv, ev, q3⟩ := J.after hz
      subst ev
      exact ⟨rv, V.ref (s.heap.objs.size + 1), H', I3, rfl, q3⟩
    | next => exact hz.elim
    | brk => exact hz.elim
    | cont => exact hz.elim
theorem Zfc {ι : List Addr} {H : Hp} {Z : Sto} {a dx : Addr} (cf : CF K C Ca) (s : Sim K ι Z H) (na : H a = none) (nd : H dx = none) (ne : dx ≠ a) :
    Gr ι (ι ++ [a]) H (upd (upd H dx (.own a)) a (.ins Ca dx [])) ∧ Sim K (ι ++ [a]) (Z ++ [.ins C []]) (upd (upd H dx (.own a)) a (.ins Ca dx [])) := by
  have g1 : Gr ι ι H (upd H dx (.own a)) := Gr.new0 nd
  have s1 := s.same (Wd (o := .own a) nd)
  have na2 : upd H dx (.own a) a = none := by rw [upd_ne (Ne.symm ne)]; exact na
  exact ⟨g1.trans (Gr.new na2),s1.new na2 ⟨Ca,dx,[],cf.ns,upd_same,.nil⟩⟩
theorem made_post {ι : List Addr} {H : Hp} {Z : Sto} {Q : VK} {σ : L2.St} {a : Addr} {ts : List T} (s : Sim K ι Z H) {H2 : Hp} (g2 : Gr ι (ι ++ [a]) H H2)
    (p : Post (Rep K) K W.w σ ι H Q ((F ts (Z ++ [.ins C []])).bind fun r Z2 => match r with | .non => .ok (.loc Z.length) Z2 | _ => .stuck)) : Post (Rep K) K W.w σ (ι ++ [a]) H2 (fun v H3 => v = .non ∧ Q (.ref a) H3) (F ts (Z ++ [.ins C []])) := by
  cases e : F ts (Z ++ [.ins C []]) with
  | ok t Z2 =>
    rw [e,Zv] at p
    intro ι3 H3 v g3 s3 r3
    cases t with
    | non =>
      cases r3
      have hi : (ι ++ [a])[Z.length]? = some a := by rw [← s.len]; simp
      exact ⟨rfl,p ι3 H3 (.ref a) (g2.trans g3) s3 (.loc (g3.pre _ _ hi))⟩
    | _ => exact p.elim
  | exc x Z2 => rw [e] at p; exact fun ι3 H3 cls d g3 s3 rx => p ι3 H3 cls d (g2.trans g3) s3 rx
  | stuck => rw [e] at p; exact p
theorem Zgx (hK : X.K = K) (cf : CF X.K C Ca) (M : Mk X.K Ca f) (G : FnG X.prog X.w X.K X.mg X.base k f fd ps (spF X.K n F)) (hr : Room (k + 1) X.A) (hG : X.A.guards = some []) (hg : Gl X x) (hm : X.mg x = some (.ref Ca)) (hb : Binds X.K fd ps ds) (hd : Vals dvs ds) (hdf : Dfl K dvs dts) (tk : Takes X W.w)
    (ha : FAJ X K W (e :: es) fa) (hn : ofLen (e :: es) fa) (hln : (e :: es).length + dts.length + 1 = n := by rfl) (hdb : (x == ("__debug__" : PySem.Str)) = false := by decide) (he : starEach (e :: es) X.env = (false, eval e X.env) :: starEach es X.env := by rfl) (hpl : (backTo pos (starEach es X.env)).any (·.1) = false := by rfl) :
    FJ X K W (.Call (.Name x p) (e :: es) [] pos) (eMake C F dts fa) := by
  subst hK
  refine ⟨fun pins s σ H Q I h => ?_⟩
  refine wpAny_Call_Name_kw (ld_glob I hg hm ?_ hdb)
  obtain ⟨ι,ρ,Z,is,p⟩ := h
  have t : tFA X.K W fa σ H (fun vs H1 => ∀ a dx,H1 a = none → H1 dx = none → dx ≠ a → spF X.K n F (.ref a :: (vs ++ dvs)) (upd (upd H1 dx (.own a)) a (.ins Ca dx [])) (fun v H2 => v = .non ∧ Q (.ref a) H2) (WE W.w σ)) := by
    refine ⟨ι,ρ,Z,is,?_⟩
    unfold eMake at p
    cases e : fa ρ Z with
    | ok ts Z1 =>
      rw [e,Zv] at p
      refine fun ι1 H1 vs g1 s1 r1 a dx na nd ne => ?_
      obtain ⟨g2,s2⟩ := Zfc cf s1 na nd ne
      have hi : (ι1 ++ [a])[Z1.length]? = some a := by rw [← s1.len]; simp
      have r2 : Reps X.K (ι1 ++ [a]) (upd (upd H1 dx (.own a)) a (.ins Ca dx [])) (V.ref a :: (vs ++ dvs)) (.loc Z1.length :: (ts ++ dts)) := .cons (.loc hi) ((r1.gr g2).append (hdf _ _))
      refine ⟨?_,_,_,_,s2,r2,(made_post s1 g2 (p.shift g1)).wx fun _ _ _ h => h⟩
      rw [r2.length,List.length_cons,List.length_append,hn _ _ _ _ e]
      exact hln
    | exc y Z1 => rw [e] at p; exact p
    | stuck => rw [e] at p; exact p
  refine PySem.W.callWith_K (h₀ := X.base) I.ok.mod.kin M.kp (thn (ha.run pos pins s σ H _ I t) fun us s1 ⟨vs,H1,I1,r,q⟩ => ⟨I1.kIn,?_⟩) he hpl
  exact Zkq M G hr hG hb hd tk I1 r q
end
end Fx
set_option maxHeartbeats 4000000
namespace Fx
open PySem PySem.Spec PyProof.Rows L2 SX Ap
variable [Tb]
section
variable {X : Cx} {K : PySem.W.Frag} {W : WX} {cs : List String} {f : String} {o : Expr} {pos : Pos} {fo : FE}
def gFldV (K : PySem.W.Frag) (ta : TE) (f : PySem.Str) : TG := fun y σ H Q => ta σ H fun x H2 => ∃ a C dx fs,x = .ref a ∧ H2 a = some (.ins C dx fs) ∧ Cls K C ∧ NoAttr K C f ∧ fs.length < 1000 ∧ Q σ (upd H2 a (.ins C dx (putF f y fs)))
theorem Zkr {f : PySem.Str} {ta : TE} (ha : PE X o ta) (he : ∀ v,assign (.Attribute o f pos) X.env v = (do
    let ov ← holding [v] (eval o X.env)
    standAt pos.atName
    holding [v,ov] (setAttr ov f v)
    release [v,ov] []) := by intro _; rfl) : PG X (.Attribute o f pos) (gFldV X.K ta f) := by
  refine ⟨fun pins s σ H v u Q I r h => ?_⟩
  rw [he]
  refine wpAny_bind (wpAny_holding (thn (ha.run pins s σ H _ I h) fun ov s2 ⟨x,H2,I2,rx,a,C,dx,fs,ex,ea,c,n,l,q2⟩ => ?_))
  subst ex
  obtain rfl : ov = Value.ref a := rx
  refine wpAny_bind (wpAny_standAt (wpAny_bind (wpAny_holding (setattr_ok I2 ea c n l r fun s3 I3 => ?_))))
  exact wpAny_release ⟨σ,_,I3,q2⟩
theorem Zgy (hK : X.K = K) (hc : FldOk K cs f) (ho : FJ X K (Wt W) o fo) (he : ∀ v,assign (.Attribute o (PySem.Str.ofString f) pos) X.env v = (do
    let ov ← holding [v] (eval o X.env)
    standAt pos.atName
    holding [v,ov] (setAttr ov (PySem.Str.ofString f) v)
    release [v,ov] []) := by intro _; rfl) : PG X (.Attribute o (PySem.Str.ofString f) pos) (tG K W (gFld cs f fo)) := by
  subst hK
  refine Z9u (Zkr ho he) fun v σ H Q h => ?_
  obtain ⟨ι,ρ,Z,t,is,r,p⟩ := h
  refine ⟨ι,ρ,Z,is.ie,(Zi (rep := Rep X.K) p).imp fun x H1 q => ?_⟩
  obtain ⟨ι1,Z1,tx,g1,s1,r1,p1⟩ := q
  split at p1
  · rename_i Z2 e2
    obtain ⟨a,Ca,dx,vs,ex,ea,c,n,l,g2,s2,_⟩ := Zi5 hc s1 r1 (r.gr g1) e2
    refine ⟨a,Ca,dx,vs,ex,ea,c,n,l,?_⟩
    have i2 := (is.gr g1 s1).gr g2 s2
    exact p1 ι1 _ _ g2 s2 ⟨i2.len,i2.env⟩
  · exact p1.elim
end
end Fx
set_option maxHeartbeats 4000000
namespace Fx
open PySem PySem.Spec PyProof.Rows L2 SX Ap
def bTypes : List String := ["NoneType", "bool", "int", "str", "tuple", "list", "dict"]
structure OC (K : PySem.W.Frag) (C : String) (Ca fe : Addr) : Prop where
  cf : CF K C Ca
  ins : C8.InsC K Ca
  eq : PySem.W.findIn K (.ref Ca) "__eq__" = some (some (.ref fe))
  fn : PySem.W.isFn K (.ref fe) = true
  nf : (bTypes.all fun n => PySem.W.notFirst K Ca (.type n)) = true
  no : (bTypes.all fun n => decide (PySem.W.kitOne K (.type n) (.ref Ca) = some false)) = true
variable [Tb]
def okY (C : String) (t : T) (Z : Sto) : Bool := match tyT t Z with
  | some n => decide (n ∈ bTypes)
  | none => decide (insC t Z = some C)
theorem insC_at {K : PySem.W.Frag} {ι : List Addr} {H : Hp} {Z : Sto} {v : V} {tx : T} {C : String} {Ca : Addr} (cf : CF K C Ca) (s : Sim K ι Z H) (r : Rep K ι H v tx) (e : insC tx Z = some C) :
    ∃ a dx vs i,v = .ref a ∧ tx = .loc i ∧ H a = some (.ins Ca dx vs) := by
  unfold insC at e
  split at e
  · rename_i i
    cases eg : getI Z i with
    | none => rw [eg] at e; cases e
    | some p =>
      obtain ⟨C', fs⟩ := p
      rw [eg] at e
      cases e
      obtain ⟨a,Cb,dx,vs,rfl,hi,hn,ha,hf⟩ := Zcz s r eg
      have e2 := hn.symm.trans cf.ns
      cases e2
      exact ⟨a,dx,vs,i,rfl,rfl,ha⟩
  · cases e
section
variable {X : Cx} {K : PySem.W.Frag} {C : String} {Ca fe : Addr} {k : Nat} {fd : FuncData} {ps : List PySem.Str} {F : FF}
def gIsC2 (C : String) (Ca : Addr) : List T → Sto → Option (T × Sto)
  | [t,.ref c],Z => if c = Ca ∧ okY C t Z = true then some (.bl (decide (insC t Z = some C)),Z) else none
  | _,_ => none
theorem Zfd {t : T} {Z : Sto} {n : String} (h : tyT t Z = some n) : insC t Z = none := by
  unfold insC
  split
  · rename_i i
    unfold tyT at h
    unfold getI
    split
    · rename_i C fs e
      simp only [e] at h
      cases h
    · rfl
  · rfl
theorem Zks (hK : X.K = K) (oc : OC K C Ca fe) : CallR X (.builtin "isinstance") (rFC K (gIsC2 C Ca)) := by
  subst hK
  refine Yt call_isi fun xs H Q h => ?_
  obtain ⟨ι,Z,ts,s,r,p⟩ := h
  unfold gIsC2 at p
  split at p
  · obtain ⟨v,w,rfl,r1,r2⟩ := r.two
    rename_i t c
    cases r2
    split at p
    · rename_i hc
      obtain ⟨rfl,hy⟩ := hc
      unfold okY at hy
      split at hy
      · rename_i n en
        have hno := of_decide_eq_true (List.all_eq_true.mp oc.no n (of_decide_eq_true hy))
        rw [Zfd en] at p
        exact ⟨v,_,_,_,false,rfl,.own _,Zcw s r1 en,hno,Zq p s (.bl _)⟩
      · have e2 := of_decide_eq_true hy
        obtain ⟨a,dx,vs,i,rfl,rfl,ha⟩ := insC_at oc.cf s r1 e2
        rw [decide_eq_true e2] at p
        exact ⟨_,_,_,_,true,rfl,.own _,.base (.ins ha oc.ins.cl oc.ins.ha oc.ins.hn oc.ins.htk oc.ins.hm),oc.ins.me,Zq p s (.bl _)⟩
    · exact p.elim
  · exact p.elim
def eIsC (C : String) (fe : FE) : FE := fun ρ Z => (fe ρ Z).bind fun x Z1 => if okY C x Z1 = true then .ok (.bl (decide (insC x Z1 = some C))) Z1 else .stuck
theorem Zkt {W : Wc} {x y : PySem.Str} {e : Expr} {fx : FE} {p p2 pos : Pos} (hK : X.K = K) (oc : OC K C Ca fe) (hg : Gl X x) (hm : X.mg x = none) (hv : bootBuiltins x = some (.builtin "isinstance")) (hg2 : Gl X y) (hm2 : X.mg y = some (.ref Ca)) (he1 : FJ X K W e fx)
    (hn : x ≠ "__name__" := by decide) (hdb : (x == ("__debug__" : PySem.Str)) = false := by decide) (hd2 : (y == ("__debug__" : PySem.Str)) = false := by decide)
    (he : starEach [e,.Name y p2] X.env = (false,eval e X.env) :: starEach [.Name y p2] X.env := by rfl) (hpl : (backTo pos (starEach [.Name y p2] X.env)).any (·.1) = false := by rfl) :
    FJ X K W (.Call (.Name x p) [e,.Name y p2] [] pos) (eIsC C fx) := by
  have hy : FJ X K W (.Name y p2) (eC (.ref Ca)) := f_c (C8.pe_gc (v := .ref Ca) hg2 ⟨_,hm2,rfl⟩ hd2) fun _ _ => .ref _
  have := Zw (p := p) (pos := pos) (Zks hK oc) hg hm hv (Zb he1 (Zb hy Zh) he) hn hdb he hpl
  have e2 : eCallB (gIsC2 C Ca) (aCons fx (aCons (eC (.ref Ca)) aNil)) = eIsC C fx := by
    funext ρ Z
    show ((fx ρ Z).bind fun x Z1 => R.ok [x,.ref Ca] Z1).bind (fun xs Z1 => lift (gIsC2 C Ca xs Z1)) = (fx ρ Z).bind fun x Z1 => if okY C x Z1 = true then .ok (.bl (decide (insC x Z1 = some C))) Z1 else .stuck
    cases fx ρ Z with
    | ok t Z' =>
      show lift (if Ca = Ca ∧ okY C t Z' = true then some (T.bl (decide (insC t Z' = some C)), Z') else none) = if okY C t Z' = true then _ else _
      cases okY C t Z' <;> simp [lift]
    | exc x Z' => rfl
    | stuck => rfl
  rwa [e2] at this
end
end Fx
set_option maxHeartbeats 4000000
namespace Fx
open PySem PySem.Spec PyProof.Rows L2 SX Ap
variable [Tb]
def itZip (i1 i2 : ItF) : ItF := fun k Z => match i1 k Z,i2 k Z with
  | some (some x),some (some y) => some (some (.tup [x,y]))
  | some none,some _ => some none
  | some (some _),some none => some none
  | _,_ => none
def seqIt (t : T) (Z : Sto) : Option ItF := match t with
  | .frl ts => some (itSeq ts)
  | .loc i => (getL Z i).map fun _ => itLoc i
  | _ => none
def zipOf (x y : T) (Z : Sto) : Option ItF := match seqIt x Z,seqIt y Z with
  | some i,some j => some (itZip i j)
  | _,_ => match x,y with
    | .tup ts,.tup us => some (itZip (itSeq ts) (itSeq us))
    | _,_ => none
section
variable {K : PySem.W.Frag} {ι : List Addr} {H : Hp} {Z : Sto} {v : V} {x : T} {it : ItF}
def AtL (K : PySem.W.Frag) (ι : List Addr) (H : Hp) (P : Hp → List V → Prop) (it : ItF) : Prop := ∀ k ι' H' Z' o, Gr ι ι' H H' → Sim K ι' Z' H' → it k Z' = some o → ∃ xs, P H' xs ∧ match o with
  | none => xs.length ≤ k
  | some t => ∃ y, xs[k]? = some y ∧ Rep K ι' H' y t
theorem Zgz (s : Sim K ι Z H) (r : Rep K ι H v x) (e : seqIt x Z = some it) : ∃ a, v = .ref a ∧ (∃ xs, SqL K H a xs) ∧ AtL K ι H (fun H' xs => SqL K H' a xs) it := by
  cases r with
  | frl h rs =>
    cases e
    refine ⟨_, rfl, ⟨_, h.sq⟩, fun k ι' H' Z' o g' s' ho => ?_⟩
    have r' := (Rep.frl h rs).gr g'
    cases r' with
    | frl h2 rs2 =>
      refine ⟨_,h2.sq,?_⟩
      simp only [itSeq,Option.some.injEq] at ho
      subst ho
      split
      · rename_i e; rw [rs2.length]; exact List.getElem?_eq_none_iff.mp e
      · rename_i t e
        exact rs2.get e
  | loc h =>
    simp only [seqIt] at e
    cases eg : getL Z _ with
    | none => rw [eg] at e; cases e
    | some ts =>
      rw [eg] at e
      cases e
      obtain ⟨a,vs,e1,ha,h1,_⟩ := Xn s (Yg eg) (Rep.loc h)
      cases e1
      refine ⟨_, rfl, ⟨_, SqL.of h1⟩, fun k ι' H' Z' o g' s' ho => ?_⟩
      simp only [itLoc] at ho
      cases eg2 : getL Z' _ with
      | none => rw [eg2] at ho; cases ho
      | some us =>
        rw [eg2] at ho
        simp only [Option.map_some,Option.some.injEq] at ho
        subst ho
        obtain ⟨a2, ws, e2, ha2, h3, r3⟩ := Xn s' (Yg eg2) ((Rep.loc (K := K) (H := H) h).gr g')
        cases e2
        refine ⟨ws,SqL.of h3,?_⟩
        split
        · rename_i e; rw [r3.length]; exact List.getElem?_eq_none_iff.mp e
        · rename_i t e
          exact r3.get e
  | _ => cases e
theorem Zh0 {ts : List T} (r : Rep K ι H v (.tup ts)) : ∃ a, v = .ref a ∧ (∃ xs, SqT K H a xs) ∧ AtL K ι H (fun H' xs => SqT K H' a xs) (itSeq ts) := by
  obtain ⟨a,vs,rfl,h,rs⟩ := r.tupE
  refine ⟨a, rfl, ⟨_, h⟩, fun k ι' H' Z' o g' s' ho => ⟨vs, SqT.gr g' h, ?_⟩⟩
  have rs2 := rs.gr g'
  simp only [itSeq,Option.some.injEq] at ho
  subst ho
  split
  · rename_i e; rw [rs2.length]; exact List.getElem?_eq_none_iff.mp e
  · rename_i t e
    exact rs2.get e
theorem Zh1 {P1 P2 : Hp → List V → Prop} {i1 i2 : ItF} {J : It} (a1 : AtL K ι H P1 i1) (a2 : AtL K ι H P2 i2)
    (hs : ∀ k H' xs ys, P1 H' xs → P2 H' ys → xs.length ≤ k ∨ ys.length ≤ k → J.stop k H')
    (hg : ∀ k H' xs ys x y, P1 H' xs → P2 H' ys → xs[k]? = some x → ys[k]? = some y → J.go k H')
    (hy : ∀ k H' w H'', J.yld k H' w H'' → ∃ q x y, w = .ref q ∧ H' q = none ∧ H'' = upd H' q (.tup [x, y]) ∧ (∀ xs, P1 H' xs → xs[k]? = some x) ∧ ∀ ys, P2 H' ys → ys[k]? = some y) : ItR K ι H J (itZip i1 i2) := by
  intro k ι' H' Z' g' s'
  unfold itZip
  cases e1 : i1 k Z' with
  | none => exact trivial
  | some o1 =>
    cases e2 : i2 k Z' with
    | none => cases o1 <;> exact trivial
    | some o2 =>
      obtain ⟨xs, hx, b1⟩ := a1 k ι' H' Z' o1 g' s' e1
      obtain ⟨ys, hyy, b2⟩ := a2 k ι' H' Z' o2 g' s' e2
      cases o1 with
      | none => exact hs k H' xs ys hx hyy (.inl b1)
      | some t1 =>
        cases o2 with
        | none => exact hs k H' xs ys hx hyy (.inr b2)
        | some t2 =>
          obtain ⟨x,c1,d1⟩ := b1
          obtain ⟨y,c2,d2⟩ := b2
          refine ⟨hg k H' xs ys x y hx hyy c1 c2, fun w H'' hw => ?_⟩
          obtain ⟨q, x', y', rfl, nq, rfl, f1, f2⟩ := hy k H' w H'' hw
          have z1 := f1 xs hx
          have z2 := f2 ys hyy
          rw [c1] at z1; cases z1
          rw [c2] at z2; cases z2
          exact ⟨Gr.new0 nq, s'.same (Wd nq), .tup (SqT.of upd_same) (.cons (d1.gr (Gr.new0 nq)) (.cons (d2.gr (Gr.new0 nq)) .nil))⟩
end
end Fx
set_option maxHeartbeats 4000000
namespace Fx
open PySem PySem.Spec PyProof.Rows L2 SX Ap
variable [Tb]
structure LamP (sc scope : Scope) (N : List PySem.Str) (dn : Option (PySem.Str × Int)) : Prop where
  kind : scope.kind = .function
  co : scope.isCoroutine = false
  gen : scope.isGenerator = false
  own : ∀ y ∈ scope.names,y.2 ≠ .cell
  loc : ∀ y ∈ scope.names,y.2 = .local → y.1 ∉ N
  free : ∀ y ∈ scope.names,y.2 = .free → sc.names.lookup y.1 = some .cell ∨ sc.names.lookup y.1 = some .free
  par : ∀ y i,dn = some (y,i) → scope.names.lookup y = some .local
theorem LamP.has {X : Cx} {scope : Scope} {N : List PySem.Str} {dn : Option (PySem.Str × Int)} (L : LamP X.env.scope scope N dn) (ok : X.Ok) : ∀ y ∈ scope.names,y.2 = .free → ∃ c,X.env.cells.lookup y.1 = some c := fun y hy e => by
  rcases L.free y hy e with k | k
  · exact ok.has _ (.inl k)
  · exact ok.has _ (.inr k)
open Classical in
noncomputable def eAsk (fl : Sto → R T) (lv : T) (i : Nat) : FE := fun ρ Z => if ρ[i]? = some (some lv) then fl Z else .stuck
def eLam (F : (Sto → R T) → T → FF) (fb : FE) (fa : FA) : FE := fun ρ Z => (fa ρ Z).bind fun ts Z1 => F (fun Z' => fb ρ Z') .non (.non :: ts) Z1
end Fx
set_option maxHeartbeats 4000000
namespace Ap
open PySem PySem.Spec PyProof.Rows L2 SX
end Ap
set_option maxHeartbeats 4000000
namespace Fx
open PySem PySem.Spec PyProof.Rows L2 SX Ap
variable [Tb]
def kdGet (l : List (List Nat × List Nat)) : T → Option (List Nat)
  | .str k => l.lookup k
  | _ => none
def eKdIx (l : List (List Nat × List Nat)) (fe : FE) : FE := fun ρ Z => (fe ρ Z).bind fun x Z1 => match kdGet l x with
  | some v => .ok (.str v) Z1
  | none => .stuck
def iKdItems (l : List (List Nat × List Nat)) : FI := fun _ Z => .ok (itSeq (l.map fun x => .tup [.str x.1,.str x.2])) Z
def eCallN (F : FF) (g : List T → List T → List T) (fa fk : FA) : FE := fun ρ Z => (fa ρ Z).bind fun ts Z1 => (fk ρ Z1).bind fun us Z2 => F (g ts us) Z2
def pick {α : Type} (ix : List Nat) (l : List α) : List α := ix.filterMap fun i => l[i]?
theorem Z6x {α : Type} (i : Nat) (ix : List Nat) (l : List α) : pick (i :: ix) l = l[i]?.toList ++ pick ix l := by
  unfold pick
  rw [List.filterMap_cons]
  cases l[i]? <;> rfl
theorem Z6y {vs : List V} {us : List Value} (r : Vals vs us) : ∀ ix : List Nat,Vals (pick ix vs) (pick ix us)
  | [] => .nil
  | i :: ix => by
    rw [Z6x,Z6x]
    refine Vals.append ?_ (Z6y r ix)
    cases e : vs[i]? with
    | none =>
      have h1 := List.getElem?_eq_none_iff.mp e
      rw [List.getElem?_eq_none (by rw [← Paired.length r]; exact h1)]; exact .nil
    | some v =>
      obtain ⟨u,hu,ru⟩ := Vals.get r e
      rw [hu]; exact .cons ru .nil
end Fx
set_option maxHeartbeats 4000000
namespace Fx
open PySem PySem.Spec PyProof.Rows L2 SX Ap
variable [Tb]
theorem Zi6 {P : Program} {w : World} {K : PySem.W.Frag} {mg mb : PySem.Str → Option Value} {k : Nat} {fa a : Addr} {cs : List (Addr × Addr)}
    {fd : FuncData} {x : PySem.Str} {sp : Sp} {s₁ : Shared} {vs : List Value} {ns : List Int}
    (KX : K.In s₁.heap) (hns : s₁.heap.Ns mainGlobals mg) (hb : s₁.heap.Ns builtinsNs mb)
    (hbb : ∀ x : PySem.Str, x ≠ "__name__" → mb x = bootBuiltins x) (hlim : s₁.heap.NoLimit) (hg : s₁.gens = #[])
    (hT : ∀ p ∈ cs,s₁.heap.get? p.2 = some { cls := .none,data := .fields #[] }) (nT : ∀ p ∈ cs,K.lookup p.2 = none) (C : ∀ p ∈ cs,PySem.W.CodeHd s₁.heap p.1 p.2)
    (hbm : ∃ (bm : Addr) (ob : Obj), mg "__builtins__" = some (.ref bm) ∧ bm ≠ builtinsNs ∧ s₁.heap.get? bm = some ob ∧ ob.cls = .type "module" ∧ ob.dict = some builtinsNs ∧ ob.data = .plain)
    (ha : s₁.heap.get? a = some { cls := .type "list", data := .seq vs.toArray }) (hi : IntsAre vs ns) (hl : ns.length ≤ sizeLine)
    (hr : Room k callerA)
    (F : ∀ base : Heap,K.In base → base.Ns mainGlobals mg → (∀ p ∈ cs,LamX.TabB base mg p.1 p.2) → GOk P w K mg base CX0 k fa fd [x] sp)
    (hbind : ∀ (s : Shared) (u : Value),BindsTo s fd ⟨[u],[]⟩ [(x,u)])
    (hsp : ∀ H : Hp,(∀ p ∈ cs,H p.2 = some (.tbl #[])) → Fx.FrL K H a (ns.map V.int) → sp [.ref a] H (fun v _ => v = .bl true) fun _ _ _ => False) :
    codeAny (model P w) callerA (.call (.ref fa) ⟨[.ref a],[]⟩)
      (fun r s' => r = .ok (.ret (.bool true)) ∧ OldK s₁.heap s'.heap ∧ s'.os = s₁.os ∧ AllBare s'.gens) s₁ := by
  have rv := vals_ints hi
  have lenV := hi.length
  have tabAt : ∀ {b : Addr},b ∈ cs.map (·.2) → s₁.heap.get? b = some { cls := .none,data := .fields #[] } := fun {b} hb => by
    obtain ⟨p,hp,rfl⟩ := List.mem_map.mp hb
    exact hT p hp
  have aNo : a ∉ cs.map (·.2) := fun z => by
    have q := tabAt z
    rw [ha] at q
    have := congrArg Obj.data (Option.some.inj q)
    cases this
  have inT : ∀ p ∈ cs,p.2 ∈ cs.map (·.2) := fun p hp => List.mem_map.mpr ⟨p,hp,rfl⟩
  suffices core : ∀ H : Hp,(∀ p ∈ cs,H p.2 = some (.tbl #[])) → Fx.FrL K H a (ns.map V.int) → HOk P w H s₁.heap →
      (∀ b u,H b = some u → (b = a ∧ K.lookup a = none ∧ ∃ o xs,u = .frz o (.lst xs)) ∨ (b ∈ cs.map (·.2) ∧ u = .tbl #[])) →
      codeAny (model P w) callerA (.call (.ref fa) ⟨[.ref a],[]⟩)
        (fun r s' => r = .ok (.ret (.bool true)) ∧ OldK s₁.heap s'.heap ∧ s'.os = s₁.os ∧ AllBare s'.gens) s₁ by
    cases hk : K.lookup a with
    | some o =>
      have e := KX a o hk
      rw [ha] at e
      cases e
      have at0 : ∀ b u,(fun b => if b ∈ cs.map (·.2) then some (.tbl #[]) else none : Hp) b = some u → b ∈ cs.map (·.2) ∧ u = .tbl #[] := by
        intro b u z
        dsimp only at z
        split at z
        · cases z; exact ⟨by assumption,rfl⟩
        · cases z
      refine core (fun b => if b ∈ cs.map (·.2) then some (.tbl #[]) else none) (fun p hp => if_pos (inT p hp)) (.inr ⟨_,vs.toArray,_,hk,rfl,rfl,rfl,?_,?_⟩) ?_ ?_
      · rw [List.size_toArray,lenV]; exact hl
      · simpa using rv
      · intro b u z
        obtain ⟨h1,rfl⟩ := at0 b u z
        exact tabAt h1
      · intro b u z
        exact .inr (at0 b u z)
    | none =>
      let o0 : HO := .frz { cls := .type "list", data := .seq vs.toArray } (.lst (ns.map V.int))
      have at0 : ∀ b u,(fun b => if b = a then some o0 else if b ∈ cs.map (·.2) then some (.tbl #[]) else none : Hp) b = some u → (b = a ∧ u = o0) ∨ (b ∈ cs.map (·.2) ∧ u = .tbl #[]) := by
        intro b u z
        dsimp only at z
        split at z
        · cases z; exact .inl ⟨by assumption,rfl⟩
        · split at z
          · cases z; exact .inr ⟨by assumption,rfl⟩
          · cases z
      refine core (fun b => if b = a then some o0 else if b ∈ cs.map (·.2) then some (.tbl #[]) else none) (fun p hp => ?_) (.inl ⟨{ cls := .type "list", data := .seq vs.toArray }, if_pos rfl⟩) ?_ ?_
      · show (if p.2 = a then some o0 else if p.2 ∈ cs.map (·.2) then some (HO.tbl #[]) else none) = _
        rw [if_neg (fun z => aNo (by rw [← z]; exact inT p hp)),if_pos (inT p hp)]
      · intro b u z
        rcases at0 b u z with ⟨rfl,rfl⟩ | ⟨h1,rfl⟩
        · exact ⟨ha,by rw [List.length_map]; exact hl,vs,_,rv,ha⟩
        · exact tabAt h1
      · intro b u z
        rcases at0 b u z with ⟨rfl,rfl⟩ | h1
        · exact .inl ⟨rfl,hk,_,_,rfl⟩
        · exact .inr h1
  intro H hH hS hok hA
  have free : ∀ {b : Addr},(∀ u,H b ≠ some u) → H b = none := fun {b} z => by
    cases q : H b with
    | none => rfl
    | some u => exact absurd q (z u)
  have noD : ∀ {b : Addr} {o : Obj},s₁.heap.get? b = some o → (∀ vs n,o.data ≠ .seq vs n) → o.data ≠ .fields #[] → H b = none := fun {b o} e h1 h2 => by
    apply free
    intro u q
    rcases hA b u q with ⟨rfl,_⟩ | ⟨h3,_⟩
    · rw [ha] at e
      cases e
      exact h1 _ _ rfl
    · rw [tabAt h3] at e
      cases e
      exact h2 rfl
  have dictFree : ∀ {b : Addr} {o : Obj} {es : Array DictEntry} {ep : Nat},s₁.heap.get? b = some o → o.data = .dict es ep → H b = none := fun e d =>
    noD e (fun vs n z => by rw [d] at z; cases z) (fun z => by rw [d] at z; cases z)
  have nsOf : ∀ {b : Addr} {m : PySem.Str → Option Value},s₁.heap.Ns b m → (hidT s₁.heap H).Ns b m := by
    intro b m ⟨o,es,ep,e,d,r⟩
    exact ⟨o,es,ep,hidT_get e (dictFree e d),d,r⟩
  have inB : K.In (hidT s₁.heap H) := by
    intro b o e
    refine hidT_get (KX b o e) (free ?_)
    intro u q
    rcases hA b u q with ⟨rfl,n,_⟩ | ⟨h3,_⟩
    · rw [n] at e
      cases e
    · obtain ⟨p,hp,rfl⟩ := List.mem_map.mp h3
      rw [nT p hp] at e
      cases e
  obtain ⟨mc,c1,c2⟩ := hlim
  have M : Mod K mg (hidT s₁.heap H) := ⟨inB,nsOf hns,⟨mb,nsOf hb,hbb⟩,⟨mc,nsOf c1,c2⟩⟩
  have e0 : Env0 P w K mg (hidT s₁.heap H) callerA [] s₁ H :=
    ⟨rfl,M,fun _ _ e => of_hidT e,Nat.le_of_eq (hidT_size _ _),trivial,fun b z => absurd (show b ∈ ([] : List Addr) from z) (by simp),hok,.of_eq hg⟩
  have TB : ∀ p ∈ cs,LamX.TabB (hidT s₁.heap H) mg p.1 p.2 := fun p hp => by
    have hTp := hT p hp
    refine ⟨?_,?_,fun z => ?_⟩
    · obtain ⟨o,us,file,tf,flags,tg,inF,text,tt,e1,r1,r2,r3,r⟩ := C p hp
      refine ⟨o,us,file,tf,flags,tg,inF,text,tt,hidT_get e1 (noD e1 (fun vs n z => ?_) fun z => ?_),r1,r2,r3,r⟩
      · rw [r2] at z; cases z
      · rw [r2] at z; cases z; simp at r3
    · obtain ⟨bm,ob,b1,b2,b3,b4,b5,b6⟩ := hbm
      have nG : bm ≠ mainGlobals := fun q => by
        obtain ⟨o,es,ep,e,hd,_⟩ := hns
        rw [q,e] at b3; cases b3; rw [hd] at b6; cases b6
      have nP : bm ≠ p.2 := fun q => by
        rw [q,hTp] at b3; cases b3; cases b6
      exact ⟨bm,ob,b1,b2,nG,nP,hidT_get b3 (noD b3 (fun vs n z => by rw [b6] at z; cases z) fun z => by rw [b6] at z; cases z),b4,b5,b6⟩
    · obtain ⟨o,es,ep,e,hd,_⟩ := hns
      rw [z,hTp] at e; cases e; cases hd
  have run := (F _ inB (nsOf hns) TB).run callerA [] s₁ H ⟨[.ref a],[]⟩ [.ref a] [.ref a] _ _ hr rfl e0 (hbind s₁ (.ref a)) (.cons rfl .nil) (hsp H hH hS)
  refine codeAny_mono run ?_
  intro r s' h
  match r,h with
  | .error e,h => exact False.elim h
  | .ok .next,h => exact False.elim h
  | .ok .brk,h => exact False.elim h
  | .ok .cont,h => exact False.elim h
  | .ok (.ret u), ⟨v, H', os, bare, un, hok', r', q⟩ =>
    cases (show v = .bl true from q)
    cases (show u = Value.bool true from r')
    have key : ∀ b o, b ∉ cs.map (·.2) → s₁.heap.get? b = some o → s'.heap.get? b = some o := fun b o nb e => by
      cases q : H b with
      | none => exact un.keep b o e q (fun z => absurd (show b ∈ ([] : List Addr) from z) (by simp)) (by simp)
      | some u =>
        rcases hA b u q with ⟨rfl,_,ob,xs,rfl⟩ | ⟨h3,_⟩
        · obtain ⟨e1,_⟩ := hok _ _ q
          obtain ⟨e2, _⟩ := hok' _ _ (un.frzs _ ob _ q)
          rw [e] at e1
          cases e1
          exact e2
        · exact absurd h3 nb
    have grown : ∀ p ∈ cs, ∃ more : Array Value, s'.heap.get? p.2 = some { cls := .none, data := .fields more } := fun p hp => by
      obtain ⟨more,z⟩ := un.tbls p.2 #[] (hH p hp)
      exact ⟨_, hok' p.2 _ z⟩
    refine ⟨rfl,⟨fun b o e => ?_,fun b o e => ?_⟩,os,bare⟩
    · by_cases hb : b ∈ cs.map (·.2)
      · obtain ⟨p,hp,rfl⟩ := List.mem_map.mp hb
        obtain ⟨more,hm⟩ := grown p hp
        rw [hT p hp] at e
        cases e
        exact .inr (.inl ⟨((C p hp).tab (hT p hp)).isCodeTable,rfl,#[],more,rfl,by rw [Array.empty_append]; exact hm⟩)
      · exact .inl (key b o hb e)
    · by_cases hb : b ∈ cs.map (·.2)
      · obtain ⟨p,hp,rfl⟩ := List.mem_map.mp hb
        obtain ⟨more,hm⟩ := grown p hp
        exact ⟨_,hm⟩
      · exact ⟨o,key b o hb e⟩
end Fx
namespace Fx
open PySem PySem.Spec PyProof.Rows L2 SX Ap
end Fx
set_option maxHeartbeats 4000000
namespace Fx
open PySem PySem.Spec PyProof.Rows L2 SX Ap
structure DefY where
  at_ : PySem.W.Frag → Addr
  name : PySem.Str
  qual : PySem.Str
  params : Arguments
  body : List Stmt
  scope : Scope
  dfl : List He.Dv := []
  kwd : List (PySem.Str × He.Dv) := []
def fnY (K : PySem.W.Frag) (a : Addr) : He.FnW := match K.lookup a with
  | some ⟨_,_,.func fd,_⟩ => some (fd.name,fd.qualname,fd.params,fd.body,fd.scope,fd.globals,fd.closure,fd.builtins)
  | _ => none
def fdOf (K : PySem.W.Frag) (a : Addr) : FuncData := match K.lookup a with
  | some ⟨_,_,.func fd,_⟩ => fd
  | _ => default
def DefY.val (d : DefY) : He.FnW := some (d.name,d.qual,d.params,.stmts d.body,d.scope,mainGlobals,[],builtinsNs)
def DefY.dvs (K : PySem.W.Frag) (d : DefY) : List V := d.dfl.map (He.Dv.v K)
def DefY.kws (K : PySem.W.Frag) (d : DefY) : List (PySem.Str × V) := d.kwd.map fun q => (q.1,q.2.v K)
def DefY.ok (K : PySem.W.Frag) (d : DefY) : Bool := PySem.W.keepIn K (.ref (d.at_ K)) && (match K.lookup (d.at_ K) with
  | some ⟨_,_,.func fd,_⟩ => PySem.W.codeIn K fd.code d.qual && (He.dflB K fd.defaults (d.dvs K) && He.kwdB K fd.kwdefaults (d.kws K))
  | _ => false)
theorem DefY.funD {K : PySem.W.Frag} {d : DefY} (e : fnY K (d.at_ K) = d.val) (c : d.ok K = true) : FunD K d.name d.qual d.params d.body d.scope (d.dvs K) (d.kws K) (d.at_ K) (fdOf K (d.at_ K)) := by
  obtain ⟨kp,c2⟩ := He.ba c
  unfold fnY at e
  unfold fdOf
  cases q : K.lookup (d.at_ K) with
  | none => rw [q] at c2; cases c2
  | some o =>
    obtain ⟨oc,od,dt,osl⟩ := o
    rw [q] at c2 e
    cases dt with
    | func fd =>
      obtain ⟨n1,n2,n3,n4,n5,n6,n7,n8,n9,n10,n11,n12,n13,n14,n15⟩ := fd
      have e2 : (some (n1,n2,n3,n4,n5,n6,n7,n15) : He.FnW) = some (d.name,d.qual,d.params,.stmts d.body,d.scope,mainGlobals,[],builtinsNs) := e
      simp only [Option.some.injEq,Prod.mk.injEq] at e2
      obtain ⟨h1,h2,h3,h4,h5,h6,h7,h8⟩ := e2
      subst h1 h2 h3 h4 h5 h6 h7 h8
      have c3 : (PySem.W.codeIn K n13 d.qual && (He.dflB K n8 (d.dvs K) && He.kwdB K n9 (d.kws K))) = true := c2
      obtain ⟨k1,k2⟩ := He.ba c3
      obtain ⟨k3,k4⟩ := He.ba k2
      exact ⟨⟨oc,od,n8,n9,n10,n11,n12,n13,n14,osl,rfl,q,k1,He.dflB_ok k3,He.kwdB_ok k4⟩,kp⟩
    | _ => cases c2
def asY (g : Addr → Option Obj) : Nat → List Addr
  | 0 => [mainGlobals,cStatics]
  | n + 1 => He.growD g (asY g n)
abbrev Exs : Type := List (PySem.W.Frag → Bool)
structure Says (fn : List DefY) (ts : List He.Tab) (ex : Exs) (w : World) (K : PySem.W.Frag) : Prop where
  df : fn.map (fun d => fnY K (d.at_ K)) = fn.map DefY.val
  dk : ts.map (fun t => He.dicW K (t.1 K)) = ts.map fun t => some (He.keysIn w.params t.2)
  ok : ((fn.all fun d => d.ok K) && ex.all fun e => e K) = true
abbrev AlY : Type := List He.FnW × List (Option (List (Option (PySem.Str × Int)))) × Bool
def obsK (fn : List DefY) (ts : List He.Tab) (ex : Exs) (K : PySem.W.Frag) : AlY := (fn.map (fun d => fnY K (d.at_ K)),ts.map (fun t => He.dicW K (t.1 K)),(fn.all fun d => d.ok K) && ex.all fun e => e K)
def valY (fn : List DefY) (ts : List He.Tab) (w : World) : AlY := (fn.map DefY.val,ts.map fun t => some (He.keysIn w.params t.2),true)
def obsY (n : Nat) (fn : List DefY) (ts : List He.Tab) (ex : Exs) (g : Addr → Option Obj) : AlY := obsK fn ts ex (He.frG g (asY g n))
def hookY (n : Nat) (fn : List DefY) (ts : List He.Tab) (ex : Exs) : PySem.W.Hook where
  α := AlY
  obs := fun s => obsY n fn ts ex s.heap.get?
  val := fun w => valY fn ts w
  says := fun w h => ∃ K : PySem.W.Frag,K.In h ∧ Says fn ts ex w K
  of := fun _ _ e => ⟨_,He.frG_in,⟨congrArg (fun z : AlY => z.1) e,congrArg (fun z : AlY => z.2.1) e,congrArg (fun z : AlY => z.2.2) e⟩⟩
  keeps := fun _ _ _ ⟨K,hK,c⟩ k => ⟨K,PySem.W.Frag.In.keeps hK k,c⟩
section
variable {fn : List DefY} {ts : List He.Tab} {ex : Exs} {w : World} {K : PySem.W.Frag}
theorem Says.fact (c : Says fn ts ex w K) (i : Nat) {e : PySem.W.Frag → Bool} (h : ex[i]? = some e := by rfl) : e K = true := by
  have := (He.ba c.ok).2
  exact List.all_eq_true.mp this e (List.mem_of_getElem? h)
theorem Says.def_ (c : Says fn ts ex w K) (i : Nat) {d : DefY} (h : fn[i]? = some d := by rfl) : FunD K d.name d.qual d.params d.body d.scope (d.dvs K) (d.kws K) (d.at_ K) (fdOf K (d.at_ K)) := by
  have h1 := List.all_eq_true.mp (He.ba c.ok).1 d (List.mem_of_getElem? h)
  refine DefY.funD ?_ h1
  have h2 := congrArg (fun l => l[i]?) c.df
  simp only [List.getElem?_map,h,Option.map_some] at h2
  exact Option.some.inj h2
theorem Says.tab (c : Says fn ts ex w K) (i : Nat) {t : He.Tab} (h : ts[i]? = some t := by rfl) : ∃ es n,KDict K w (t.1 K) es n := by
  have h2 := congrArg (fun l => l[i]?) c.dk
  simp only [List.getElem?_map,h,Option.map_some] at h2
  exact He.dicW_ok (Option.some.inj h2)
end
structure Cx5 (fn : List DefY) (ts : List He.Tab) (ex : Exs) (w : World) (K : PySem.W.Frag) (mg : PySem.Str → Option Value) : Prop where
  c : Says fn ts ex w K
  kx : ∃ h : Heap,K.In h ∧ h.Ns mainGlobals mg
section
variable {fn : List DefY} {ts : List He.Tab} {ex : Exs} {w : World} {K : PySem.W.Frag} {mg : PySem.Str → Option Value}
theorem Cx5.glo (C : Cx5 fn ts ex w K mg) (i : Nat) {x : PySem.Str} (h : ex[i]? = some (fun K => (He.Fa.glo x).ok K) := by rfl) : mg x = some (.ref (He.ga K x)) := by
  obtain ⟨h', X, G⟩ := C.kx
  exact He.glo_ok X G (C.c.fact i h)
theorem Cx5.free (C : Cx5 fn ts ex w K mg) (i : Nat) {x : PySem.Str} (h : ex[i]? = some (fun K => (He.Fa.free x).ok K) := by rfl) : mg x = none := by
  obtain ⟨h', X, G⟩ := C.kx
  exact He.free_ok X G (C.c.fact i h)
theorem Cx5.str (C : Cx5 fn ts ex w K mg) (i : Nat) {x z : PySem.Str} (h : ex[i]? = some (fun K => (He.Fa.str x z).ok K) := by rfl) : ∃ t,mg x = some (.str z t) := by
  obtain ⟨h', X, G⟩ := C.kx
  exact He.str_ok X G (C.c.fact i h)
theorem Cx5.int (C : Cx5 fn ts ex w K mg) (i : Nat) {x : PySem.Str} {z : Int} (h : ex[i]? = some (fun K => (He.Fa.int x z).ok K) := by rfl) : ∃ t,mg x = some (.int z t) := by
  obtain ⟨h', X, G⟩ := C.kx
  exact He.int_ok X G (C.c.fact i h)
theorem Cx5.ns (C : Cx5 fn ts ex w K mg) (i : Nat) {x : PySem.Str} (h : ex[i]? = some (fun K => (He.Fa.glo x).ok K) := by rfl) : PySem.W.nsIn K mainGlobals x = some (some (.ref (He.ga K x))) := He.eqO_ok (C.c.fact i h)
end
def gY (x : PySem.Str) (K : PySem.W.Frag) : Addr := He.ga K x
def mY (c m : PySem.Str) (K : PySem.W.Frag) : Addr := He.ma K (He.ga K c) m
def oexB (x : PySem.Str) (K : PySem.W.Frag) : Bool := (match K.lookup (He.ga K x) with
  | some ⟨.type t, _, .cls ⟨_, _, .ref C :: bm, _, _, hd, _, _, _, _, hdel⟩, ⟨[_, _, _, _, some (.builtin n), _]⟩⟩ => decide (t = "type") && (decide (C = He.ga K x) && (hd && (!hdel && (decide (n = "ValueError.__new__") && PySem.HandSPX.refsVE bm))))
  | _ => false) && (He.eqO (PySem.W.findIn K (.ref (He.ga K x)) "__setattr__") (some (some (.builtin "object.__setattr__"))) && (decide (PySem.W.subIn K (.ref (He.ga K x)) (.type "BaseException") = some true) && (decide (PySem.W.typeIn K (.ref (He.ga K x)) = some (.type "type")) && PySem.W.keepIn K (.ref (He.ga K x)))))
theorem Z8g {x : PySem.Str} {K : PySem.W.Frag} (h : oexB x K = true) : OexC K (He.ga K x) := by
  obtain ⟨h0,h⟩ := He.ba h
  obtain ⟨h1,h⟩ := He.ba h
  obtain ⟨h2,h⟩ := He.ba h
  obtain ⟨h3,h4⟩ := He.ba h
  refine ⟨?_,He.eqO_ok h1,of_decide_eq_true h2,of_decide_eq_true h3,h4⟩
  split at h0
  · rename_i t dd nm bs C bm ns qn hd sn sub ab col hdel k0 k1 k2 k3 n k5 e
    obtain ⟨a1,h0⟩ := He.ba h0
    obtain ⟨a2,h0⟩ := He.ba h0
    obtain ⟨a3,h0⟩ := He.ba h0
    obtain ⟨a4,h0⟩ := He.ba h0
    obtain ⟨a5,a6⟩ := He.ba h0
    have b1 := of_decide_eq_true a1
    have b2 := of_decide_eq_true a2
    have b5 := of_decide_eq_true a5
    have b4 : hdel = false := by cases hdel <;> simp_all
    subst b1 b4 b5
    refine ⟨nm,qn,ns,bs,bm,sn,sub,ab,col,dd,k0,k1,k2,k3,k5,?_,a6⟩
    rw [e,b2,a3]
  · cases h0
def exCB (x : PySem.Str) (K : PySem.W.Frag) : Bool := xfB K (He.ga K x) && (He.eqO (PySem.W.findIn K (.ref (He.ga K x)) "__class__") (some (some (.builtin "object.__class__"))) && (He.eqO (PySem.W.specialIn K (.builtin "object.__class__") "__get__") (some (some (.builtin "getset_descriptor.__get__"))) && (decide (PySem.W.takesIn K (.builtin "object.__class__") = some true) && decide (PySem.W.mroIn K (He.ga K x) (.type "object") = some true))))
def baseB (x : PySem.Str) (K : PySem.W.Frag) : Bool := He.eqO (PySem.W.specialIn K (.ref (He.ga K x)) "__getattribute__") (some (some (.builtin "type.__getattribute__"))) && (PySem.W.readsIn K (He.ga K x) (.type "type") && (match PySem.W.findCls K (.ref (He.ga K x)) (.type "type") "__init__" with
  | some (.val (.builtin n)) => decide (n = "ValueError.__init__")
  | _ => false))
theorem Zfe {x : PySem.Str} {K : PySem.W.Frag} (h : baseB x K = true) : BaseC K (He.ga K x) := by
  obtain ⟨h1,h⟩ := He.ba h
  obtain ⟨h2,h3⟩ := He.ba h
  refine ⟨He.eqO_ok h1,h2,?_⟩
  split at h3
  · rename_i n e; rw [e,of_decide_eq_true h3]
  · cases h3
def kitB2 (x : PySem.Str) (v : PySem.W.Frag → Value) (K : PySem.W.Frag) : Bool := decide (PySem.W.kitOne K (.ref (He.ga K x)) (v K) = some true)
def initB (x : PySem.Str) (K : PySem.W.Frag) : Bool := He.eqO (PySem.W.findIn K (.ref (He.ga K x)) "__init__") (some (some (.ref (mY x "__init__" K)))) && decide (PySem.W.typeIn K (.ref (mY x "__init__" K)) = some (.type "function"))
theorem Z5w {x : PySem.Str} {K : PySem.W.Frag} (h : initB x K = true) : PySem.W.findIn K (.ref (He.ga K x)) "__init__" = some (some (.ref (mY x "__init__" K))) ∧ PySem.W.typeIn K (.ref (mY x "__init__" K)) = some (.type "function") := by
  obtain ⟨h1,h2⟩ := He.ba h
  exact ⟨He.eqO_ok h1,of_decide_eq_true h2⟩
def insB (x : PySem.Str) (K : PySem.W.Frag) : Bool := He.eqO (PySem.W.findIn K (.ref (He.ga K x)) "__class__") (some (some (.builtin "object.__class__"))) && (He.eqO (PySem.W.specialIn K (.builtin "object.__class__") "__get__") (some (some (.builtin "getset_descriptor.__get__"))) && (decide (PySem.W.takesIn K (.builtin "object.__class__") = some true) && (decide (PySem.W.mroIn K (He.ga K x) (.type "object") = some true) && decide (PySem.W.kitOne K (.ref (He.ga K x)) (.ref (He.ga K x)) = some true))))
theorem Zi7 {x : PySem.Str} {K : PySem.W.Frag} (cl : Cls K (He.ga K x)) (h : insB x K = true) : C8.InsC K (He.ga K x) := by
  obtain ⟨h1,h⟩ := He.ba h
  obtain ⟨h2,h⟩ := He.ba h
  obtain ⟨h3,h⟩ := He.ba h
  obtain ⟨h4,h5⟩ := He.ba h
  exact ⟨cl,He.eqO_ok h1,He.eqO_ok h2,of_decide_eq_true h3,of_decide_eq_true h4,of_decide_eq_true h5⟩
def eqB5 (x : PySem.Str) (K : PySem.W.Frag) : Bool := He.eqO (PySem.W.findIn K (.ref (He.ga K x)) "__eq__") (some (some (.ref (mY x "__eq__" K)))) && (PySem.W.isFn K (.ref (mY x "__eq__" K)) && ((bTypes.all fun n => PySem.W.notFirst K (He.ga K x) (.type n)) && (bTypes.all fun n => decide (PySem.W.kitOne K (.type n) (.ref (He.ga K x)) = some false))))
def noDigB (K : PySem.W.Frag) : Bool := He.eqO (PySem.W.nsIn K cStatics "sys.int_max_str_digits") (some none)
theorem Zd0 {K : PySem.W.Frag} (h : noDigB K = true) : NoDig K := He.eqO_ok h
theorem Zi8 (hTb : ∀ T : Tb,T = tb0 → True) {l : PySem.W.OpenLaw} {n k m : Nat} {q : Program} {loose : List PySem.Str} {XP : (PySem.Str → Option Value) → Heap → Prop} {fn : List DefY} {ts : List He.Tab} {ex : Exs} {d : DefRec} {F : FF} {x : PySem.Str}
    (hn : l.most = some n) (hn2 : n ≤ sizeLine) (hdf : d.params.defaults = []) (hr : Room k callerA)
    (hG : ∀ (w : World) (mg : PySem.Str → Option Value) (K : PySem.W.Frag),Cx5 fn ts ex w K mg → ∃ fd : FuncData,mg d.name = some (.ref (He.ga K d.name)) ∧ (∀ (s : Shared) (u : Value),BindsTo s fd ⟨[u],[]⟩ [(x,u)]) ∧
        ∀ base : Heap,FnG l.prog w K mg base k (He.ga K d.name) fd [x] (@spF tb0 K 1 F))
    (hF : ∀ ns : List Int,ns.length ≤ n → ∃ Z,F [.frl (ns.map .int)] [] = .ok (.bl true) Z) :
    PySem.W.WalkO q loose XP (hookY m fn ts ex).says l.row.toRowW d [] (fun f vs => PySem.call f vs) := by
  apply Att.attach_call hn hdf
  intro w s₀ s₁ mg mb fa o pm cd doc a vs ns G Y ho hd hcd hmg hobj hints hlen hg
  obtain ⟨K,KX,c⟩ := Y
  obtain ⟨fd,h0,hb,hf⟩ := hG w mg K ⟨c,_,KX,G.T.g⟩
  have e := hmg.symm.trans h0
  cases e
  letI tb : Tb := tb0
  refine Zi6 (cs := []) (sp := fun vs H Q _ => spF K 1 F vs H Q (fun _ _ _ => False)) KX G.T.g G.T.b G.T.builtins G.T.nolimit hg (fun p hp => by cases hp) (fun p hp => by cases hp) (fun p hp => by cases hp) G.T.bmain hobj hints (Nat.le_trans hlen hn2) hr (fun base b1 b2 b3 => ?_) hb (fun H hH hS => ?_)
  · exact fnG_0 (hf base)
  · obtain ⟨Z,e⟩ := hF ns hlen
    refine ⟨rfl,[],[],[.frl (ns.map .int)],⟨rfl,List.nodup_nil,fun i a o h => by simp at h,fun p hp => by cases hp⟩,.cons (Zi1 hS) .nil,?_⟩
    rw [e]
    intro ι' H' b g s r
    cases r
    rfl
end Fx
set_option maxHeartbeats 4000000
set_option maxHeartbeats 0
section
open PySem PySem.W PySem.Calls PyProof.Rows
theorem Ap.pre_law : (OpenLaw.row PySem.Challenge.rw_anchorpages_k42_whole_equal_just_if_unfo).Holds → PySem.Challenge.rw_anchorpages_k42_whole_equal_just_if_unfo.Holds := by
  intro h
  w_on; o_law
  exact h
end
set_option maxHeartbeats 4000000
namespace Fx
open PySem PySem.Spec PyProof.Rows L2 SX Ap
variable [Tb]
mutual
def T.mv (f : Nat → Option Nat) : T → Option T
  | .non => some .non
  | .bl b => some (.bl b)
  | .int i => some (.int i)
  | .str l => some (.str l)
  | .tup ts => (T.mvs f ts).map .tup
  | .loc i => (f i).map .loc
  | .frl ts => (T.mvs f ts).map .frl
  | .ref a => some (.ref a)
  | .ty n => some (.ty n)
  | .lam _ _ _ _ => none
  | .ktp ts => (T.mvs f ts).map .ktp
def T.mvs (f : Nat → Option Nat) : List T → Option (List T)
  | [] => some []
  | t :: ts => match T.mv f t,T.mvs f ts with
    | some u,some us => some (u :: us)
    | _,_ => none
end
def mvP {κ : Type} (f : Nat → Option Nat) : List (κ × T) → Option (List (κ × T))
  | [] => some []
  | (k,t) :: ts => match T.mv f t,mvP f ts with
    | some u,some us => some ((k,u) :: us)
    | _,_ => none
def O.mv (f : Nat → Option Nat) : O → Option O
  | .lst ts => (T.mvs f ts).map .lst
  | .dk ts => (mvP f ts).map .dk
  | .dt ts => (mvP f ts).map .dt
  | .ins C ts => (mvP f ts).map (.ins C)
section
variable {K : PySem.W.Frag} {ι ι' : List Addr} {H : Hp} {f : Nat → Option Nat}
mutual
theorem Rep.mv (hf : ∀ i j a, f i = some j → ι[i]? = some a → ι'[j]? = some a) : ∀ {v : V} {t t' : T}, Rep K ι H v t → T.mv f t = some t' → Rep K ι' H v t'
  | _,_,_,.non,e => by cases e; exact .non
  | _,_,_,.bl b,e => by cases e; exact .bl b
  | _,_,_,.int i,e => by cases e; exact .int i
  | _,_,_,.str l,e => by cases e; exact .str l
  | _,_,_,.tup h r,e => by
    simp only [T.mv] at e
    obtain ⟨us,e1,rfl⟩ := Option.map_eq_some_iff.mp e
    exact .tup h (Reps.mv hf r e1)
  | _,_,_,.loc h,e => by
    simp only [T.mv] at e
    obtain ⟨j,e1,rfl⟩ := Option.map_eq_some_iff.mp e
    exact .loc (hf _ _ _ e1 h)
  | _,_,_,.frl h r,e => by
    simp only [T.mv] at e
    obtain ⟨us,e1,rfl⟩ := Option.map_eq_some_iff.mp e
    exact .frl h (Reps.mv hf r e1)
  | _,_,_,.ref a,e => by cases e; exact .ref a
  | _,_,_,.ty n,e => by cases e; exact .ty n
  | _,_,_,.lam _ _,e => by cases e
  | _,_,_,.ktp h r,e => by
    simp only [T.mv] at e
    obtain ⟨us,e1,rfl⟩ := Option.map_eq_some_iff.mp e
    exact .ktp h (Reps.mv hf r e1)
theorem Reps.mv (hf : ∀ i j a, f i = some j → ι[i]? = some a → ι'[j]? = some a) : ∀ {vs : List V} {ts ts' : List T}, Reps K ι H vs ts → T.mvs f ts = some ts' → Reps K ι' H vs ts'
  | _,_,_,.nil,e => by cases e; exact .nil
  | _,_,_,.cons r q,e => by
    simp only [T.mvs] at e
    split at e
    · rename_i u us e1 e2
      cases e
      exact .cons (Rep.mv hf r e1) (Reps.mv hf q e2)
    · cases e
end
theorem RepP.mv {κ : Type} (hf : ∀ i j a, f i = some j → ι[i]? = some a → ι'[j]? = some a) : ∀ {vs : List (κ × V)} {ts ts' : List (κ × T)}, RepP K ι H vs ts → mvP f ts = some ts' → RepP K ι' H vs ts'
  | _,_,_,.nil,e => by cases e; exact .nil
  | _,_,_,.cons r q,e => by
    simp only [mvP] at e
    split at e
    · rename_i u us e1 e2
      cases e
      exact .cons (Rep.mv hf r e1) (RepP.mv hf q e2)
    · cases e
theorem RepF.mv (hf : ∀ i j a, f i = some j → ι[i]? = some a → ι'[j]? = some a) : ∀ {vs : List (PySem.Str × V)} {ts ts' : List (String × T)}, RepF K ι H vs ts → mvP f ts = some ts' → RepF K ι' H vs ts'
  | _,_,_,.nil,e => by cases e; exact .nil
  | _,_,_,.cons r q,e => by
    simp only [mvP] at e
    split at e
    · rename_i u us e1 e2
      cases e
      exact .cons (Rep.mv hf r e1) (RepF.mv hf q e2)
    · cases e
theorem ObR.mv (hf : ∀ i j a, f i = some j → ι[i]? = some a → ι'[j]? = some a) {a : Addr} {o o' : O} (h : ObR K ι H a o) (e : O.mv f o = some o') : ObR K ι' H a o' := by
  cases o with
  | lst ts =>
    obtain ⟨us,e1,rfl⟩ := Option.map_eq_some_iff.mp e
    obtain ⟨vs,h,r⟩ := h
    exact ⟨vs,h,r.mv hf e1⟩
  | dk ts =>
    obtain ⟨us,e1,rfl⟩ := Option.map_eq_some_iff.mp e
    obtain ⟨vs,h,r⟩ := h
    exact ⟨vs,h,r.mv hf e1⟩
  | dt ts =>
    obtain ⟨us,e1,rfl⟩ := Option.map_eq_some_iff.mp e
    obtain ⟨vs,h,r⟩ := h
    exact ⟨vs,h,r.mv hf e1⟩
  | ins C ts =>
    obtain ⟨us,e1,rfl⟩ := Option.map_eq_some_iff.mp e
    obtain ⟨Ca,dx,vs,hn,h,r⟩ := h
    exact ⟨Ca,dx,vs,hn,h,r.mv hf e1⟩
end
section
variable {K : PySem.W.Frag} {n : Nat} {F : FF}
theorem Zd1 {ι ι1 : List Addr} {H H1 : Hp} {Y Y' : Sto} (g : Gr ι ι1 H H1) (s : Sim K ι Y H) (s1 : Sim K ι1 Y' H1) : Y.length ≤ Y'.length := by
  rw [← s.len,← s1.len]
  cases h : ι.length with
  | zero => omega
  | succ m =>
    have hm : m < ι.length := by omega
    have := g.pre m _ (List.getElem?_eq_getElem hm)
    have := (List.getElem?_eq_some_iff.mp this).1
    omega
end
end Fx
set_option maxHeartbeats 4000000
namespace Fx
open PySem PySem.Spec PyProof.Rows L2 SX Ap
variable [Tb]
def gLeW : T → T → Sto → Option (T × Sto)
  | .int i,.int j,Z => some (.bl (decide (i ≤ j)),Z)
  | .str a,.str b,Z => some (.bl (!decide (b < a)),Z)
  | _,_,_ => none
def gGtW : T → T → Sto → Option (T × Sto)
  | .int i,.int j,Z => some (.bl (decide (j < i)),Z)
  | .str a,.str b,Z => some (.bl (decide (b < a)),Z)
  | _,_,_ => none
def gGeW : T → T → Sto → Option (T × Sto)
  | .int i,.int j,Z => some (.bl (decide (j ≤ i)),Z)
  | .str a,.str b,Z => some (.bl (!decide (a < b)),Z)
  | _,_,_ => none
section
variable {X : Cx} {K : PySem.W.Frag}
theorem Zbl : OpF X K (compareOp .LtE) gLeW := by
  refine Xm (U0 op_le op_le_str) fun x y H Q h => ?_
  obtain ⟨ι,Z,tx,ty,s,rx,ry,p⟩ := h
  unfold gLeW at p
  split at p
  · cases rx; cases ry; exact .inl ⟨_,_,rfl,rfl,Zq p s (.bl _)⟩
  · cases rx; cases ry; exact .inr ⟨_,_,rfl,rfl,Zq p s (.bl _)⟩
  · exact p.elim
theorem Zi9 : OpF X K (compareOp .Gt) gGtW := by
  refine Xm (U0 op_gt op_gt_str) fun x y H Q h => ?_
  obtain ⟨ι,Z,tx,ty,s,rx,ry,p⟩ := h
  unfold gGtW at p
  split at p
  · cases rx; cases ry; exact .inl ⟨_,_,rfl,rfl,Zq p s (.bl _)⟩
  · cases rx; cases ry; exact .inr ⟨_,_,rfl,rfl,Zq p s (.bl _)⟩
  · exact p.elim
theorem Zku : OpF X K (compareOp .GtE) gGeW := by
  refine Xm (U0 op_ge op_ge_str) fun x y H Q h => ?_
  obtain ⟨ι,Z,tx,ty,s,rx,ry,p⟩ := h
  unfold gGeW at p
  split at p
  · cases rx; cases ry; exact .inl ⟨_,_,rfl,rfl,Zq p s (.bl _)⟩
  · cases rx; cases ry; exact .inr ⟨_,_,rfl,rfl,Zq p s (.bl _)⟩
  · exact p.elim
end
def gPop : T → List T → Sto → Option (T × Sto)
  | .loc n,[],Z => match getL Z n with
    | some ts => match ts[ts.length - 1]? with
      | some t => some (t,Z.set n (.lst ts.dropLast))
      | none => none
    | none => none
  | _,_,_ => none
def gExtend : T → List T → Sto → Option (T × Sto)
  | .loc n,[.loc m],Z => match getL Z n,getL Z m with
    | some ts,some us => if ts.length + us.length ≤ Lim then some (.non,Z.set n (.lst (ts ++ us))) else none
    | _,_ => none
  | _,_,_ => none
theorem MtM.r {X : Cx} {id : String} {r : V → List V → Hp → VK → Prop} (h : MtM X id r) : MtR X id r := h
section
variable {X : Cx} {K : PySem.W.Frag}
theorem Reps.dropLast {ι : List Addr} {H : Hp} {vs : List V} {ts : List T} (r : Reps K ι H vs ts) : Reps K ι H vs.dropLast ts.dropLast := by
  rw [List.dropLast_eq_take,List.dropLast_eq_take,r.length]
  exact r.take _
theorem m_pop : MtR X "list.pop" (rFM K gPop) := Z3g (MtM.r mt_pop) fun x xs H Q h => by
  obtain ⟨ι,Z,tx,ts,s,rx,rs,p⟩ := h
  unfold gPop at p
  split at p
  · cases rs
    split at p
    · rename_i us e
      split at p
      · rename_i t et
        obtain ⟨a,vs,rfl,ha,h1,r⟩ := Xn s (Yg e) rx
        obtain ⟨y,ey,ry⟩ := r.get et
        refine ⟨a,vs,y,rfl,rfl,h1,by rw [r.length]; exact ey,?_⟩
        have g := Gr.mut (ι := ι) (o := .lst vs.dropLast) h1 trivial (List.mem_of_getElem? ha)
        exact p ι _ _ g (s.set ha ⟨_,upd_same,(r.gr g).dropLast⟩) (ry.gr g)
      · exact p.elim
    · exact p.elim
  · exact p.elim
theorem m_extend : MtR X "list.extend" (rFM K gExtend) := Z3g (MtM.r mt_extend) fun x xs H Q h => by
  obtain ⟨ι,Z,tx,ts,s,rx,rs,p⟩ := h
  unfold gExtend at p
  split at p
  · obtain ⟨y,rfl,ry⟩ := rs.one
    split at p
    · rename_i us ws e1 e2
      split at p
      · rename_i hl
        obtain ⟨a,vs,rfl,ha,h1,r⟩ := Xn s (Yg e1) rx
        obtain ⟨b,zs,rfl,hb,h2,r2⟩ := Xn s (Yg e2) ry
        refine ⟨a,b,vs,zs,rfl,rfl,h1,h2,by rw [r.length,r2.length]; exact Nat.le_trans hl Z1d,?_⟩
        have g := Gr.mut (ι := ι) (o := .lst (vs ++ zs)) h1 trivial (List.mem_of_getElem? ha)
        exact p ι _ _ g (s.set ha ⟨_,upd_same,(r.gr g).append (r2.gr g)⟩) .non
      · exact p.elim
    · exact p.elim
  · exact p.elim
end
def keyT : T → Option Key
  | .int i => some (.inl i)
  | .str l => some (.inr (S l))
  | _ => none
def keyEq : Key → Key → Bool
  | .inl i,.inl j => i == j
  | .inr a,.inr b => a.cps.toList == b.cps.toList
  | _,_ => false
theorem Uo (a b : Key) : keyEq a b = decide (a = b) := by
  cases a with
  | inl i => cases b with
    | inl j => by_cases h : i = j <;> simp [keyEq,h]
    | inr y => simp [keyEq]
  | inr x => cases b with
    | inl j => simp [keyEq]
    | inr y =>
      have : (x = y) ↔ x.cps.toList = y.cps.toList := ⟨fun h => by rw [h],fun h => by
        rw [← Z5t x,← Z5t y,h]⟩
      by_cases h : x.cps.toList = y.cps.toList
      · simp [keyEq,h,this.mpr h]
      · have h2 : ¬ x = y := fun z => h (this.mp z)
        have e1 : (x.cps.toList == y.cps.toList) = false := by simpa using h
        show (x.cps.toList == y.cps.toList) = _
        rw [e1,decide_eq_false (fun z => h2 (Sum.inr.inj z))]
def getK : List (Key × T) → Key → Option T
  | [],_ => none
  | (k,t) :: r,x => if keyEq k x = true then some t else getK r x
def hasK (kvs : List (Key × T)) (x : Key) : Bool := kvs.any fun p => keyEq p.1 x
def putKT (kvs : List (Key × T)) (x : Key) (y : T) : List (Key × T) := if hasK kvs x = true then kvs.map (fun p => if keyEq p.1 x = true then (p.1,y) else p) else kvs ++ [(x,y)]
def getDK (Z : Sto) (i : Nat) : Option (List (Key × T)) := match Z[i]? with
  | some (.dk kvs) => some kvs
  | _ => none
theorem Za2 {Z : Sto} {i : Nat} {kvs : List (Key × T)} (h : getDK Z i = some kvs) : Z[i]? = some (.dk kvs) := by
  unfold getDK at h
  split at h
  · rename_i e; cases h; exact e
  · cases h
section
variable {K : PySem.W.Frag} {ι : List Addr} {H : Hp} {Z : Sto}
theorem Z6z {v : V} {t : T} {k : Key} (r : Rep K ι H v t) (e : keyT t = some k) : v = kV k := by
  cases r <;> first | (cases e; rfl) | (cases e)
theorem Zd2 : ∀ {vs : List (Key × V)} {ts : List (Key × T)} {k : Key},RepP K ι H vs ts → match getK ts k with
    | some t => ∃ v,valV vs k = some v ∧ Rep K ι H v t
    | none => valV vs k = none
  | _,_,k,.nil => rfl
  | _,_,k,.cons (k := k0) (v := v) (vs := vs) (t := t) (ts := ts) r q => by
    by_cases h : k0 = k
    · have e : keyEq k0 k = true := by rw [Uo]; exact decide_eq_true h
      simp only [getK,e,if_true]
      exact ⟨v,valV_pos (p := (k0,v)) h,r⟩
    · have e : keyEq k0 k = false := by rw [Uo]; exact decide_eq_false h
      have e2 : valV ((k0,v) :: vs) k = valV vs k := valV_neg (p := (k0,v)) h
      simp only [getK,e,Bool.false_eq_true,if_false,e2]
      exact Zd2 q
theorem Zh2 : ∀ {vs : List (Key × V)} {ts : List (Key × T)} {k : Key},RepP K ι H vs ts → (vs.any fun kv => decide (kv.1 = k)) = hasK ts k
  | _,_,k,.nil => rfl
  | _,_,k,.cons r q => by
    simp only [hasK,List.any_cons,Uo]
    congr 1
    have := Zh2 (k := k) q
    simpa only [hasK,Uo] using this
theorem Zd3 {k : Key} {y : V} {t : T} (ry : Rep K ι H y t) : ∀ {vs : List (Key × V)} {ts : List (Key × T)},RepP K ι H vs ts → RepP K ι H (vs.map fun kv => if kv.1 = k then (kv.1,y) else kv) (ts.map fun p => if keyEq p.1 k = true then (p.1,t) else p)
  | _,_,.nil => .nil
  | _,_,.cons (k := k0) r q => by
    simp only [List.map_cons,Uo]
    by_cases h : k0 = k
    · simp only [h,if_true,decide_true]
      have := Zd3 ry q (k := k)
      simp only [Uo] at this
      exact .cons ry this
    · simp only [h,if_false,decide_false,Bool.false_eq_true]
      have := Zd3 ry q (k := k)
      simp only [Uo] at this
      exact .cons r this
theorem app_ok {k : Key} {y : V} {t : T} (ry : Rep K ι H y t) : ∀ {vs : List (Key × V)} {ts : List (Key × T)},RepP K ι H vs ts → RepP K ι H (vs ++ [(k,y)]) (ts ++ [(k,t)])
  | _,_,.nil => .cons ry .nil
  | _,_,.cons r q => .cons r (app_ok ry q)
theorem Zh3 {vs : List (Key × V)} {ts : List (Key × T)} {k : Key} {y : V} {t : T} (r : RepP K ι H vs ts) (ry : Rep K ι H y t) : RepP K ι H (putK vs k y) (putKT ts k t) := by
  unfold putK putKT
  rw [Zh2 r]
  split
  · exact Zd3 ry r
  · exact app_ok ry r
theorem Qs {i : Nat} {v : V} {kvs : List (Key × T)} (s : Sim K ι Z H) (r : Rep K ι H v (.loc i)) (e : getDK Z i = some kvs) : ∃ a vs,v = .ref a ∧ ι[i]? = some a ∧ H a = some (.dK vs) ∧ RepP K ι H vs kvs := by
  cases r with
  | loc h =>
    obtain ⟨a', h1, vs, h2, h3⟩ := s.at (Za2 e)
    rw [h] at h1; cases h1
    exact ⟨_,vs,rfl,h,h2,h3⟩
end
def gInW (x y : T) (Z : Sto) : Option (T × Sto) := match y with
  | .loc i => (match getDK Z i with
    | some kvs => (keyT x).map fun k => (.bl (getK kvs k).isSome,Z)
    | none => gIn x y Z)
  | _ => gIn x y Z
def gNotInW (x y : T) (Z : Sto) : Option (T × Sto) := match y with
  | .loc i => (match getDK Z i with
    | some kvs => (keyT x).map fun k => (.bl (!(getK kvs k).isSome),Z)
    | none => gNotIn x y Z)
  | _ => gNotIn x y Z
def gIxW (x y : T) (Z : Sto) : Option (T × Sto) := match x with
  | .loc i => (match getDK Z i with
    | some kvs => (match keyT y with
      | some k => (getK kvs k).map fun t => (t,Z)
      | none => none)
    | none => gIx x y Z)
  | _ => gIx x y Z
section
variable {X : Cx} {K : PySem.W.Frag}
theorem Za3 {ι : List Addr} {H : Hp} {vs : List (Key × V)} {ts : List (Key × T)} {k : Key} (r : RepP K ι H vs ts) : (valV vs k).isSome = (getK ts k).isSome := by
  have := Zd2 (k := k) r
  cases e : getK ts k with
  | none => rw [e] at this; rw [this]; rfl
  | some t => rw [e] at this; obtain ⟨v,h,_⟩ := this; rw [h]; rfl
theorem Zkv (hu : X.A.units + 1 < cLine) : OpR X (compareOp .In) (fun x y H Q => ∃ a o,y = .ref a ∧ DGet H a x o ∧ Q (.bl o.isSome) H) := by
  intro pins s σ H x y v u Q I rx ry h
  obtain ⟨a,o,rfl,g,q⟩ := h
  cases ry
  exact d_in hu I g rx fun s3 I3 => ⟨.bl o.isSome,H,I3,rfl,q⟩
theorem Zd4 (hu : X.A.units + 1 < cLine) : OpR X (compareOp .NotIn) (fun x y H Q => ∃ a o,y = .ref a ∧ DGet H a x o ∧ Q (.bl (!o.isSome)) H) := by
  intro pins s σ H x y v u Q I rx ry h
  obtain ⟨a,o,rfl,g,q⟩ := h
  cases ry
  exact d_notIn hu I g rx fun s3 I3 => ⟨.bl (!o.isSome),H,I3,rfl,q⟩
theorem o_inW (hu : X.A.units + 64 < cLine) (hK : X.K = K) : OpF X K (compareOp .In) gInW := by
  have h0 := o_in hK
  subst hK
  refine Xm (U0 h0 (Zkv (by omega))) fun x y H Q h => ?_
  obtain ⟨ι,Z,tx,ty,s,rx,ry,p⟩ := h
  unfold gInW at p
  split at p
  · split at p
    · rename_i i kvs e
      cases ek : keyT tx with
      | none => rw [ek] at p; exact p.elim
      | some k =>
        rw [ek,Option.map_some] at p
        obtain ⟨a,vs,rfl,_,h1,r⟩ := Qs s ry e
        have := Z6z rx ek
        subst this
        exact .inr ⟨a,valV vs k,rfl,DGet.k h1,by rw [Za3 r]; exact Zq p s (.bl _)⟩
    · exact .inl ⟨ι,Z,tx,_,s,rx,ry,p⟩
  · exact .inl ⟨ι,Z,tx,ty,s,rx,ry,p⟩
theorem Z5x (hu : X.A.units + 64 < cLine) (hK : X.K = K) : OpF X K (compareOp .NotIn) gNotInW := by
  have h0 := Zhw hK
  subst hK
  refine Xm (U0 h0 (Zd4 (by omega))) fun x y H Q h => ?_
  obtain ⟨ι,Z,tx,ty,s,rx,ry,p⟩ := h
  unfold gNotInW at p
  split at p
  · split at p
    · rename_i i kvs e
      cases ek : keyT tx with
      | none => rw [ek] at p; exact p.elim
      | some k =>
        rw [ek,Option.map_some] at p
        obtain ⟨a,vs,rfl,_,h1,r⟩ := Qs s ry e
        have := Z6z rx ek
        subst this
        exact .inr ⟨a,valV vs k,rfl,DGet.k h1,by rw [Za3 r]; exact Zq p s (.bl _)⟩
    · exact .inl ⟨ι,Z,tx,_,s,rx,ry,p⟩
  · exact .inl ⟨ι,Z,tx,ty,s,rx,ry,p⟩
theorem Zia (hu : X.A.units + 1 < cLine) : IxR X (fun x y H Q => ∃ a v,x = .ref a ∧ DGet H a y (some v) ∧ Q v H) := by
  intro value slice pins s σ H x y v u Q I rx ry h hs
  obtain ⟨a,r,rfl,g,q⟩ := h
  cases rx
  exact tail_any (dict_typeIs I g) slot_dict_getitem.lookup (d_getItem hu I g ry fun w' s3 I3 rw' => ⟨r, H, I3, rw', q⟩) hs
theorem U4 (hu : X.A.units + 64 < cLine) (hK : X.K = K) : IxR X (rF2 K gIxW) := by
  have h0 := i_ix hK
  subst hK
  refine Zco (IxR.or h0 (Zia (by omega))) fun x y H Q h => ?_
  obtain ⟨ι,Z,tx,ty,s,rx,ry,p⟩ := h
  unfold gIxW at p
  split at p
  · split at p
    · rename_i i kvs e
      cases ek : keyT ty with
      | none => rw [ek] at p; exact p.elim
      | some k =>
        rw [ek] at p
        cases eg : getK kvs k with
        | none => simp only [eg] at p; exact p.elim
        | some t =>
          simp only [eg,Option.map_some] at p
          obtain ⟨a,vs,rfl,_,h1,r⟩ := Qs s rx e
          have := Z6z ry ek
          subst this
          have hv := Zd2 (k := k) r
          rw [eg] at hv
          obtain ⟨v,hv,rv⟩ := hv
          exact .inr ⟨a,v,rfl,hv ▸ DGet.k h1,Zq p s rv⟩
    · exact .inl ⟨ι,Z,_,ty,s,rx,ry,p⟩
  · exact .inl ⟨ι,Z,tx,ty,s,rx,ry,p⟩
end
def gSetW (x y t : T) (Z : Sto) : Option Sto := match x with
  | .loc i => (match getDK Z i with
    | some kvs => (match keyT y with
      | some k => if kvs.length < Lim then some (Z.set i (.dk (putKT kvs k t))) else none
      | none => none)
    | none => gSetL x y t Z)
  | _ => gSetL x y t Z
def gSubsW (fo fi : FE) : FG := fun t ρ Z => (fo ρ Z).bind fun x Z1 => (fi ρ Z1).bind fun y Z2 => match gSetW x y t Z2 with
  | some Z3 => .ok ρ Z3
  | none => .stuck
section
variable {X : Cx} {K : PySem.W.Frag} {W : WX} {o e : Expr} {pos : Pos} {fo fi : FE}
theorem Zkw {t t' : TSet} (h : PSet X t) (h' : PSet X t') : PSet X (fun o i v H Q => t o i v H Q ∨ t' o i v H Q) := fun pins s σ H o i v ov iv u Q I ro ri rv q => q.elim (h pins s σ H o i v ov iv u Q I ro ri rv) (h' pins s σ H o i v ov iv u Q I ro ri rv)
theorem Zib {ι : List Addr} {H : Hp} {Z Z3 : Sto} {x y v : V} {tx ty t : T} {Q : Hp → Prop} (s : Sim K ι Z H) (rx : Rep K ι H x tx) (ry : Rep K ι H y ty) (r : Rep K ι H v t) (e : gSetW tx ty t Z = some Z3) (q : ∀ H', Gr ι ι H H' → Sim K ι Z3 H' → Q H') : rSetL x y v H Q ∨ rSetD x y v H Q := by
  unfold gSetW at e
  split at e
  · split at e
    · rename_i i kvs eg
      split at e
      · rename_i k ek
        split at e
        · rename_i hz
          cases e
          obtain ⟨a,vs,rfl,hi,h1,rk⟩ := Qs s rx eg
          have := Z6z ry ek
          subst this
          have g := Gr.mut (ι := ι) (o := .dK (putK vs k v)) h1 trivial (List.mem_of_getElem? hi)
          refine .inr ⟨a,_,rfl,DPut.k h1 (by rw [rk.length]; exact Nat.lt_of_lt_of_le hz Z1d),q _ g (s.set hi ⟨_,upd_same,Zh3 (rk.gr g) (r.gr g)⟩)⟩
        · cases e
      · cases e
    · exact .inl (Zcv s rx ry r e q)
  · exact .inl (Zcv s rx ry r e q)
theorem Z3h (hu : X.A.units + 64 < cLine) (ho : FJ X K (Wt W) o fo) (hi : FJ X K (Wt W) e fi)
    (ha : ∀ v,assign (.Subscript o e pos) X.env v = (do
      let ov ← holding [v] (eval o X.env)
      let iv ← holding [v,ov] (eval e X.env)
      standAt pos
      holding [v,ov,iv] (setItem ov iv v)
      release [v,ov,iv] []) := by intro _; rfl) : PG X (.Subscript o e pos) (tG K W (gSubsW fo fi)) := Z9u (pg_sub ho hi (Zkw set_list (set_dict (by omega))) ha) fun v σ H Q h => by
  obtain ⟨ι,ρ,Z,t,is,r,p⟩ := h
  refine ⟨ι,ρ,Z,is.ie,(Zi (rep := Rep K) p).imp fun x H1 q => ?_⟩
  obtain ⟨ι1,Z1,tx,g1,s1,r1,p1⟩ := q
  refine ⟨ι1,ρ,Z1,(is.gr g1 s1).ie,(Zi (rep := Rep K) p1).imp fun y H2 q2 => ?_⟩
  obtain ⟨ι2,Z2,ty,g2,s2,r2,p2⟩ := q2
  split at p2
  · rename_i Z3 e3
    exact Zib s2 (r1.gr g2) r2 ((r.gr g1).gr g2) e3 fun H3 g3 s3 => p2 ι2 H3 σ g3 s3 ⟨is.len,((is.env.gr g1).gr g2).gr g3⟩
  · exact p2.elim
end
inductive RepQ (K : PySem.W.Frag) (ι : List Addr) (H : Hp) : List (V × V) → List (T × T) → Prop
  | nil : RepQ K ι H [] []
  | cons {v w : V} {vs : List (V × V)} {t u : T} {ts : List (T × T)} : Rep K ι H v t → Rep K ι H w u → RepQ K ι H vs ts → RepQ K ι H ((v,w) :: vs) ((t,u) :: ts)
theorem RepQ.gr {K : PySem.W.Frag} {ι ι' : List Addr} {H H' : Hp} (g : Gr ι ι' H H') : ∀ {vs : List (V × V)} {ts : List (T × T)}, RepQ K ι H vs ts → RepQ K ι' H' vs ts
  | _,_,.nil => .nil
  | _,_,.cons a b r => .cons (a.gr g) (b.gr g) (r.gr g)
end Fx
set_option maxHeartbeats 4000000
namespace Fx
open PySem PySem.Spec PyProof.Rows L2 SX Ap
variable [Tb]
def pickL {α : Type} (ts : List α) (lo hi st : Option Int) : List α := (sliceRange (sliceBounds lo hi st ts.length).1 (sliceBounds lo hi st ts.length).2.1 (sliceBounds lo hi st ts.length).2.2).filterMap (ts[·]?)
def gSlS (x : T) (lo hi st : Option Int) (Z : Sto) : Option (T × Sto) := match asList x Z with
  | some ts => if st = some 0 ∨ Lim < (pickL ts lo hi st).length then none else some (.loc Z.length,Z ++ [.lst (pickL ts lo hi st)])
  | none => none
def eSlS (f : FE) (lo hi st : FO) : FE := fun ρ Z => (f ρ Z).bind fun x Z1 => (lo ρ Z1).bind fun l Z2 => (hi ρ Z2).bind fun h Z3 => (st ρ Z3).bind fun k Z4 => lift (gSlS x l h k Z4)
theorem Reps.pick {K : PySem.W.Frag} {ι : List Addr} {H : Hp} {vs : List V} {ts : List T} (r : Reps K ι H vs ts) : ∀ js : List Nat,Reps K ι H (js.filterMap (vs[·]?)) (js.filterMap (ts[·]?))
  | [] => .nil
  | j :: js => by
    cases e : ts[j]? with
    | none =>
      have e2 : vs[j]? = none := by rw [List.getElem?_eq_none_iff] at e ⊢; rw [r.length]; exact e
      rw [List.filterMap_cons,List.filterMap_cons,e,e2]
      exact Reps.pick r js
    | some t =>
      obtain ⟨v,e2,rv⟩ := r.get e
      rw [List.filterMap_cons,List.filterMap_cons,e,e2]
      exact .cons rv (Reps.pick r js)
section
variable {X : Cx} {e : Expr} {lo hi : Option Expr} {st : Expr} {te : TE} {tl th ts : TO} {p2 pos : Pos}
def tSlS (K : PySem.W.Frag) (te : TE) (tl th ts : TO) : TE := fun σ H Q => te σ H fun x H1 => tl σ H1 fun l H2 => th σ H2 fun h H3 => ts σ H3 fun k H4 =>
  ∃ a xs,x = .ref a ∧ SqL K H4 a xs ∧ k ≠ some 0 ∧ (pickL xs l h k).length ≤ sizeLine ∧ ∀ p,H4 p = none → Q (.ref p) (upd H4 p (.lst (pickL xs l h k)))
theorem Zkx (he : PE X e te) (hl : PO X lo tl) (hh : PO X hi th) (hs : PO X (some st) ts) : PE X (.Subscript e (.Slice lo hi (some st) p2) pos) (tSlS X.K te tl th ts) := by
  refine ⟨fun pins s σ H Q I h => ?_⟩
  refine Subscript_ (thn (he.run pins s σ H _ I h) fun v s1 ⟨x,H1,I1,r1,q1⟩ => ?_)
  refine wpAny_Slice (thn (hl.run pins s1 σ H1 _ I1 q1) fun vl s2 ⟨l,H2,I2,pl,q2⟩ => thn (hh.run pins s2 σ H2 _ I2 q2) fun vu s3 ⟨u,H3,I3,pu,q3⟩ => thn (hs.run pins s3 σ H3 _ I3 q3) fun vs s4 ⟨o,H4,I4,ps,q4⟩ => ?_)
  obtain ⟨a,xs,ex,hx,h0,hz2,q⟩ := q4
  subst ex
  cases r1
  have I5 : Inv X pins σ H4 { s4 with heap := s4.heap.push { cls := .type "slice", data := .fields #[vl, vu, vs] } } := I4.kept (t' := s4.toks) fun b ob q => Heap.get?_push_of_some _ q
  obtain ⟨its,r,ht,hz⟩ := I5.list hx
  have hlen := r.length
  show wpAny (model X.prog X.w) X.A (subscriptTail e (.Slice lo hi (some st) p2) (.ref a) (.ref s4.heap.objs.size)) (EP X pins σ Q) X.xe { s4 with heap := s4.heap.push { cls := .type "slice", data := .fields #[vl, vu, vs] } }
  refine tail_any (ops := [.ref a,.ref s4.heap.objs.size]) ht.isList.typeIs (PySem.slot_list_getitem.lookup) ?_ (by with_unfolding_all rfl)
  refine wpAny_getItem_list_slice ht.isList (Heap.IsSliceOf.new _ vl vu vs) pl pu ps h0 ?_ (by rw [List.size_toArray]; omega)
  have ep : (slicePick its.toArray l u o) = (pickL its l u o).toArray := by
    unfold slicePick pickL
    simp only [List.size_toArray,List.getElem?_toArray]
  rw [ep]
  have hp : Vals (pickL xs l u o) (pickL its l u o) := by
    unfold pickL
    rw [hlen]
    exact Z6y r _
  refine ⟨.ref _, _, I5.laid (t' := s4.toks) (o := .lst (pickL xs l u o)) (fun b ob q => Heap.get?_push_of_some _ q) (Nat.le_refl _) ?_, rfl, q _ (I5.hok.fresh (Nat.le_refl _))⟩
  exact ⟨hz2,_,0,hp,Heap.get?_push_size _ rfl⟩
end
section
variable {X : Cx} {K : PySem.W.Frag} {W : Wc} {a : Expr} {fa : FE} {pos p2 : Pos} {lo hi : Option Expr} {st : Expr} {fl fh fs : FO}
theorem Zky (hK : X.K = K) (ha : FJ X K W a fa) (hl : PO X lo (tFO K W fl)) (hh : PO X hi (tFO K W fh)) (hs : PO X (some st) (tFO K W fs)) : FJ X K W (.Subscript a (.Slice lo hi (some st) p2) pos) (eSlS fa fl fh fs) := by
  subst hK
  refine Xo (Zkx ha hl hh hs) fun σ H Q h => ?_
  obtain ⟨ι,ρ,Z,is,p⟩ := h
  refine ⟨ι,ρ,Z,is,(Zi p).imp fun x H1 q => ?_⟩
  obtain ⟨ι1,Z1,tx,g1,s1,r1,p1⟩ := q
  refine ⟨ι1,ρ,Z1,is.gr g1 s1,(Zi (rep := oEq) p1).imp fun l H2 q2 => ?_⟩
  obtain ⟨ι2,Z2,tl,g2,s2,r2,p2⟩ := q2
  cases (show l = tl from r2)
  refine ⟨ι2,ρ,Z2,(is.gr g1 s1).gr g2 s2,(Zi (rep := oEq) p2).imp fun h H3 q3 => ?_⟩
  obtain ⟨ι3,Z3,th,g3,s3,r3,p3⟩ := q3
  cases (show h = th from r3)
  refine ⟨ι3,ρ,Z3,((is.gr g1 s1).gr g2 s2).gr g3 s3,(Zi (rep := oEq) p3).imp fun k H4 q4 => ?_⟩
  obtain ⟨ι4,Z4,tk,g4,s4,r4,p4⟩ := q4
  cases (show k = tk from r4)
  have p5 := W9 p4
  unfold gSlS at p5
  split at p5
  · rename_i us e
    split at p5
    · exact p5.elim
    · rename_i h0
      obtain ⟨b,vs,rfl,hq,r⟩ := Wk s4 (((r1.gr g2).gr g3).gr g4) e
      have hl : vs.length = us.length := r.length
      have rp : Reps X.K ι4 H4 (pickL vs l h k) (pickL us l h k) := by
        unfold pickL
        rw [hl]
        exact r.pick _
      refine ⟨b,vs,rfl,hq,fun z => h0 (.inl z),by rw [rp.length]; exact Nat.le_trans (Nat.le_of_not_lt fun z => h0 (.inr z)) Z1d,fun q hq => ?_⟩
      have g5 := Gr.new (ι := ι4) (o := .lst (pickL vs l h k)) hq
      have s5 : Sim X.K (ι4 ++ [q]) (Z4 ++ [.lst (pickL us l h k)]) (upd H4 q (.lst (pickL vs l h k))) := s4.newL rp hq
      exact p5 _ _ _ g5 s5 (.loc (by rw [← s4.len]; simp))
  · exact p5.elim
end
end Fx
set_option maxHeartbeats 4000000
namespace PySem.W
open PySem PySem.Calls PyProof.Rows Builtin
end PySem.W
namespace Fx
open PySem PySem.Spec PyProof.Rows L2
variable [Tb]
end Fx
set_option maxHeartbeats 4000000
namespace Fx
open PySem PySem.Spec PyProof.Rows L2 SX Ap
variable [Tb]
def neB (x : PySem.Str) (K : PySem.W.Frag) : Bool := He.eqO (PySem.W.findIn K (.ref (He.ga K x)) "__ne__") (some (some (.builtin "object.__ne__")))
def gIsiI (C : String) : List T → Sto → Option (T × Sto)
  | [t, .tup [.ty "list", .ty "tuple"]], Z => if insC t Z = some C then some (.bl false, Z) else gIsi [t, .tup [.ty "list", .ty "tuple"]] Z
  | xs,Z => gIsi xs Z
def kitLT (x : PySem.Str) (K : PySem.W.Frag) : Bool := decide (PySem.W.kitAny K (.ref (He.ga K x)) [.type "list", .type "tuple"] = some false)
theorem Zff {x : PySem.Str} {K : PySem.W.Frag} (h : kitLT x K = true) : PySem.W.kitAny K (.ref (He.ga K x)) [.type "list", .type "tuple"] = some false := of_decide_eq_true h
section
variable {X : Cx} {K : PySem.W.Frag} {C : String} {Ca fe : Addr}
theorem Zkz (hK : X.K = K) (oc : OC K C Ca fe) (hl : PySem.W.kitAny K (.ref Ca) [.type "list", .type "tuple"] = some false) : CallR X (.builtin "isinstance") (rFC K (gIsiI C)) := by
  subst hK
  refine Yt (Z1v (Z51 rfl) Z6v) fun xs H Q h => ?_
  obtain ⟨ι,Z,ts,s,r,p⟩ := h
  unfold gIsiI at p
  split at p
  · split at p
    · rename_i hc
      obtain ⟨v,w,rfl,r1,r2⟩ := r.two
      obtain ⟨b,vs,rfl,hq,rs⟩ := r2.tupE
      obtain ⟨a,dx,ws,i,rfl,rfl,ha⟩ := insC_at oc.cf s r1 hc
      obtain ⟨x1,x2,rfl,q1,q2⟩ := rs.two
      cases q1
      cases q2
      exact .inr ⟨_, b, _, _, [.type "list", .type "tuple"], false, rfl, hq, .cons (.ty _) (.cons (.ty _) .nil), .base (.ins ha oc.ins.cl oc.ins.ha oc.ins.hn oc.ins.htk oc.ins.hm), hl, Zq p s (.bl _)⟩
    · exact .inl ⟨ι,Z,_,s,r,p⟩
  · exact .inl ⟨ι,Z,_,s,r,p⟩
end
end Fx
set_option maxHeartbeats 4000000
namespace Ap
open PySem PySem.Spec PyProof.Rows L2 SX Fx
def topS (i : Nat) : Stmt := PySem.Challenge.pw_anchorpages_k42_whole_equal_just_if_unfo.main.body.getD i (.Pass ⟨0,0,0,0⟩)
def clsS (s : Stmt) (j : Nat) : Stmt := match s with
  | .ClassDef _ _ _ b _ _ _ _ _ _ _ => b.getD j (.Pass ⟨0,0,0,0⟩)
  | _ => .Pass ⟨0,0,0,0⟩
abbrev Wf : Stmt := topS 38
abbrev Z8h : List Str := ["_law_cell"]
abbrev Z0m : List Str := ["_law_cell"]
theorem Z70 : FnScope Z8h Z0m (defScope Wf) := ⟨rfl,rfl,rfl,by decide +kernel,rfl,by decide +kernel,by decide +kernel⟩
def Z2h : DefY := { at_ := (gY "_law_well"), name := "_law_well", qual := "_law_well", params := defArgs Wf, body := defBody Wf, scope := defScope Wf, dfl := [], kwd := [] }
abbrev Wg : Stmt := topS 39
abbrev Z8i : List Str := ["_law_well_here", "_law_bound", "_law_digit", "_law_mixed"]
abbrev Z0n : List Str := ["_law_well_here", "_law_bound"]
theorem Uq : FnScope Z8i Z0n (defScope Wg) := ⟨rfl,rfl,rfl,by decide +kernel,rfl,by decide +kernel,by decide +kernel⟩
def Z2i : DefY := { at_ := (gY "_law_draw"), name := "_law_draw", qual := "_law_draw", params := defArgs Wg, body := defBody Wg, scope := defScope Wg, dfl := [], kwd := [] }
abbrev V7 : Stmt := topS 40
abbrev Zbm : List Str := ["_law_well_here", "_law_some"]
abbrev Z1x : List Str := ["_law_well_here", "_law_some"]
theorem Z8j : FnScope Zbm Z1x (defScope V7) := ⟨rfl,rfl,rfl,by decide +kernel,rfl,by decide +kernel,by decide +kernel⟩
def Z3i : DefY := { at_ := (gY "_law_one"), name := "_law_one", qual := "_law_one", params := defArgs V7, body := defBody V7, scope := defScope V7, dfl := [], kwd := [] }
abbrev Xc : Stmt := topS 41
abbrev Z0o : List Str := ["_law_well_here", "_law_size", "_law_most", "_law_way", "_law_some", "_law_turn"]
abbrev Z0p : List Str := ["_law_well_here", "_law_size", "_law_most"]
theorem Wn : FnScope Z0o Z0p (defScope Xc) := ⟨rfl,rfl,rfl,by decide +kernel,rfl,by decide +kernel,by decide +kernel⟩
def Z2j : DefY := { at_ := (gY "_law_node"), name := "_law_node", qual := "_law_node", params := defArgs Xc, body := defBody Xc, scope := defScope Xc, dfl := [], kwd := [] }
abbrev Wh : Stmt := topS 42
abbrev Z8k : List Str := ["_law_well_here", "_law_nodes", "_law_most", "_law_found", "_law_at", "_law_kind", "_law_tag", "_law_content"]
abbrev Z0q : List Str := ["_law_well_here", "_law_nodes", "_law_most"]
theorem Vt : FnScope Z8k Z0q (defScope Wh) := ⟨rfl,rfl,rfl,by decide +kernel,rfl,by decide +kernel,by decide +kernel⟩
def Z2k : DefY := { at_ := (gY "_law_near"), name := "_law_near", qual := "_law_near", params := defArgs Wh, body := defBody Wh, scope := defScope Wh, dfl := [], kwd := [] }
abbrev Yx : Stmt := clsS (topS 2) 0
abbrev Z52 : List Str := ["self", "index"]
abbrev Vo : List Str := ["self", "index"]
theorem Z3j : FnScope Z52 Vo (defScope Yx) := ⟨rfl,rfl,rfl,by decide +kernel,rfl,by decide +kernel,by decide +kernel⟩
def Jt : DefY := { at_ := (mY "NoGraph" "__init__"), name := "__init__", qual := "NoGraph.__init__", params := defArgs Yx, body := defBody Yx, scope := defScope Yx, dfl := [.non], kwd := [] }
abbrev Uc : Stmt := topS 15
abbrev Zd5 : List Str := ["value", "least", "most"]
abbrev Z3k : List Str := ["value", "least", "most"]
theorem Zbn : FnScope Zd5 Z3k (defScope Uc) := ⟨rfl,rfl,rfl,by decide +kernel,rfl,by decide +kernel,by decide +kernel⟩
def Z56 : DefY := { at_ := (gY "is_from"), name := "is_from", qual := "is_from", params := defArgs Uc, body := defBody Uc, scope := defScope Uc, dfl := [], kwd := [] }
abbrev Xr : Stmt := topS 7
abbrev Z3l : List Str := ["text", "signs", "sign"]
abbrev Z0r : List Str := ["text", "signs"]
theorem Ju : FnScope Z3l Z0r (defScope Xr) := ⟨rfl,rfl,rfl,by decide +kernel,rfl,by decide +kernel,by decide +kernel⟩
def Z2l : DefY := { at_ := (gY "are_signs"), name := "are_signs", qual := "are_signs", params := defArgs Xr, body := defBody Xr, scope := defScope Xr, dfl := [], kwd := [] }
abbrev Qt : Stmt := topS 8
abbrev Zfg : List Str := ["thing"]
abbrev Z5y : List Str := ["thing"]
theorem Zd6 : FnScope Zfg Z5y (defScope Qt) := ⟨rfl,rfl,rfl,by decide +kernel,rfl,by decide +kernel,by decide +kernel⟩
def Z71 : DefY := { at_ := (gY "is_tag"), name := "is_tag", qual := "is_tag", params := defArgs Qt, body := defBody Qt, scope := defScope Qt, dfl := [], kwd := [] }
abbrev Wo : Stmt := topS 16
abbrev Z57 : List Str := ["value", "many", "one"]
abbrev Z1y : List Str := ["value", "many"]
theorem Z0s : FnScope Z57 Z1y (defScope Wo) := ⟨rfl,rfl,rfl,by decide +kernel,rfl,by decide +kernel,by decide +kernel⟩
def Z3m : DefY := { at_ := (gY "is_entry"), name := "is_entry", qual := "is_entry", params := defArgs Wo, body := defBody Wo, scope := defScope Wo, dfl := [], kwd := [] }
abbrev Wx : Stmt := topS 17
abbrev Z3n : List Str := ["value", "many", "kind", "tag", "content", "one"]
abbrev Z3o : List Str := ["value", "many"]
theorem Wq : FnScope Z3n Z3o (defScope Wx) := ⟨rfl,rfl,rfl,by decide +kernel,rfl,by decide +kernel,by decide +kernel⟩
def Z58 : DefY := { at_ := (gY "is_node"), name := "is_node", qual := "is_node", params := defArgs Wx, body := defBody Wx, scope := defScope Wx, dfl := [], kwd := [] }
abbrev Xu : Stmt := clsS (topS 18) 0
abbrev Z72 : List Str := ["self", "nodes", "top", "index", "node"]
abbrev Ur : List Str := ["self", "nodes", "top"]
theorem Qu : FnScope Z72 Ur (defScope Xu) := ⟨rfl,rfl,rfl,by decide +kernel,rfl,by decide +kernel,by decide +kernel⟩
def Z1i : DefY := { at_ := (mY "Graph" "__init__"), name := "__init__", qual := "Graph.__init__", params := defArgs Xu, body := defBody Xu, scope := defScope Xu, dfl := [(.int 0)], kwd := [] }
abbrev Yl : Stmt := topS 43
abbrev Z0h : List Str := ["_law_tree", "_law_kind", "_law_tag", "_law_content", "_law_found", "_law_key", "_law_value", "_law_text", "_law_one_here"]
abbrev Xi : List Str := ["_law_tree"]
theorem Y6 : FnScope Z0h Xi (defScope Yl) := ⟨rfl,rfl,rfl,by decide +kernel,rfl,by decide +kernel,by decide +kernel⟩
def Jv : DefY := { at_ := (gY "_law_written"), name := "_law_written", qual := "_law_written", params := defArgs Yl, body := defBody Yl, scope := defScope Yl, dfl := [], kwd := [] }
abbrev Yh : Stmt := topS 19
abbrev Z2t : List Str := ["graphs", "graph"]
abbrev Z2u : List Str := ["graphs"]
theorem Q6 : FnScope Z2t Z2u (defScope Yh) := ⟨rfl,rfl,rfl,by decide +kernel,rfl,by decide +kernel,by decide +kernel⟩
def Q7 : DefY := { at_ := (gY "require_graphs"), name := "require_graphs", qual := "require_graphs", params := defArgs Yh, body := defBody Yh, scope := defScope Yh, dfl := [], kwd := [] }
abbrev Yy : Stmt := topS 33
abbrev Z53 : List Str := ["rounds", "one", "other", "number", "classes"]
abbrev Uy : List Str := ["rounds", "one", "other"]
theorem Ud : FnScope Z53 Uy (defScope Yy) := ⟨rfl,rfl,rfl,by decide +kernel,rfl,by decide +kernel,by decide +kernel⟩
def Jw : DefY := { at_ := (gY "first_unlike"), name := "first_unlike", qual := "first_unlike", params := defArgs Yy, body := defBody Yy, scope := defScope Yy, dfl := [], kwd := [] }
abbrev V8 : Stmt := topS 29
abbrev Zbo : List Str := ["keys", "known", "found", "key"]
abbrev Z1z : List Str := ["keys"]
theorem Z0t : FnScope Zbo Z1z (defScope V8) := ⟨rfl,rfl,rfl,by decide +kernel,rfl,by decide +kernel,by decide +kernel⟩
def Z3p : DefY := { at_ := (gY "numbered"), name := "numbered", qual := "numbered", params := defArgs V8, body := defBody V8, scope := defScope V8, dfl := [], kwd := [] }
abbrev Wi : Stmt := topS 30
abbrev Z8l : List Str := ["node", "kind", "tag", "content"]
abbrev Z0u : List Str := ["node"]
theorem Us : FnScope Z8l Z0u (defScope Wi) := ⟨rfl,rfl,rfl,by decide +kernel,rfl,by decide +kernel,by decide +kernel⟩
def Z2m : DefY := { at_ := (gY "first_key"), name := "first_key", qual := "first_key", params := defArgs Wi, body := defBody Wi, scope := defScope Wi, dfl := [], kwd := [] }
abbrev W3 : Stmt := topS 31
abbrev Z20 : List Str := ["node", "own", "classes", "kind", "tag", "content", "pairs", "key", "value", "number"]
abbrev Z21 : List Str := ["node", "own", "classes"]
theorem Xd : FnScope Z20 Z21 (defScope W3) := ⟨rfl,rfl,rfl,by decide +kernel,rfl,by decide +kernel,by decide +kernel⟩
def Z3q : DefY := { at_ := (gY "next_key"), name := "next_key", qual := "next_key", params := defArgs W3, body := defBody W3, scope := defScope W3, dfl := [], kwd := [] }
abbrev Xe : Stmt := topS 32
abbrev Z0v : List Str := ["nodes", "found", "classes", "later", "node", "own"]
abbrev Z0w : List Str := ["nodes"]
theorem Yu : FnScope Z0v Z0w (defScope Xe) := ⟨rfl,rfl,rfl,by decide +kernel,rfl,by decide +kernel,by decide +kernel⟩
def Z2n : DefY := { at_ := (gY "rounds_of"), name := "rounds_of", qual := "rounds_of", params := defArgs Xe, body := defBody Xe, scope := defScope Xe, dfl := [], kwd := [] }
abbrev Wy : Stmt := topS 27
abbrev Z3r : List Str := ["node", "by", "kind", "tag", "content", "number", "key", "value"]
abbrev Z3s : List Str := ["node", "by"]
theorem X7 : FnScope Z3r Z3s (defScope Wy) := ⟨rfl,rfl,rfl,by decide +kernel,rfl,by decide +kernel,by decide +kernel⟩
def Z59 : DefY := { at_ := (gY "shifted"), name := "shifted", qual := "shifted", params := defArgs Wy, body := defBody Wy, scope := defScope Wy, dfl := [], kwd := [] }
abbrev Ut : Stmt := topS 28
abbrev Za4 : List Str := ["graph", "other", "node"]
abbrev Z5z : List Str := ["graph", "other"]
theorem Z3t : FnScope Za4 Z5z (defScope Ut) := ⟨rfl,rfl,rfl,by decide +kernel,rfl,by decide +kernel,by decide +kernel⟩
def Z73 : DefY := { at_ := (gY "joined"), name := "joined", qual := "joined", params := defArgs Ut, body := defBody Ut, scope := defScope Ut, dfl := [], kwd := [] }
abbrev Z0x : Stmt := topS 34
abbrev Zic : List Str := ["graph", "other"]
abbrev Z8m : List Str := ["graph", "other"]
theorem Zfh : FnScope Zic Z8m (defScope Z0x) := ⟨rfl,rfl,rfl,by decide +kernel,rfl,by decide +kernel,by decide +kernel⟩
def Za5 : DefY := { at_ := (gY "apart"), name := "apart", qual := "apart", params := defArgs Z0x, body := defBody Z0x, scope := defScope Z0x, dfl := [], kwd := [] }
abbrev Z0y : Stmt := topS 35
abbrev Zid : List Str := ["graph", "other"]
abbrev Z8n : List Str := ["graph", "other"]
theorem Zfi : FnScope Zid Z8n (defScope Z0y) := ⟨rfl,rfl,rfl,by decide +kernel,rfl,by decide +kernel,by decide +kernel⟩
def Za6 : DefY := { at_ := (gY "equal"), name := "equal", qual := "equal", params := defArgs Z0y, body := defBody Z0y, scope := defScope Z0y, dfl := [], kwd := [] }
abbrev Yz : Stmt := clsS (topS 3) 0
abbrev Z54 : List Str := ["self", "depth"]
abbrev Vp : List Str := ["self", "depth"]
theorem Z3u : FnScope Z54 Vp (defScope Yz) := ⟨rfl,rfl,rfl,by decide +kernel,rfl,by decide +kernel,by decide +kernel⟩
def Jx : DefY := { at_ := (mY "NoDepth" "__init__"), name := "__init__", qual := "NoDepth.__init__", params := defArgs Yz, body := defBody Yz, scope := defScope Yz, dfl := [.non], kwd := [] }
abbrev Yn : Stmt := topS 22
abbrev Z3v : List Str := ["depth", "most"]
abbrev Ue : List Str := ["depth", "most"]
theorem Z2v : FnScope Z3v Ue (defScope Yn) := ⟨rfl,rfl,rfl,by decide +kernel,rfl,by decide +kernel,by decide +kernel⟩
def Jd : DefY := { at_ := (gY "require_depth"), name := "require_depth", qual := "require_depth", params := defArgs Yn, body := defBody Yn, scope := defScope Yn, dfl := [], kwd := [] }
abbrev Wz : Stmt := topS 24
abbrev Z3w : List Str := ["nodes", "number", "depth", "kind", "tag", "content", "pairs", "key", "value", "one"]
abbrev Q8 : List Str := ["nodes", "number", "depth"]
theorem W4 : FnScope Z3w Q8 (defScope Wz) := ⟨rfl,rfl,rfl,by decide +kernel,rfl,by decide +kernel,by decide +kernel⟩
def Z5a : DefY := { at_ := (gY "tree_at"), name := "tree_at", qual := "tree_at", params := defArgs Wz, body := defBody Wz, scope := defScope Wz, dfl := [], kwd := [] }
abbrev Jy : Stmt := topS 20
abbrev Zd7 : List Str := ["node", "entry", "number"]
abbrev Z8o : List Str := ["node"]
theorem Z35 : FnScope Zd7 Z8o (defScope Jy) := ⟨rfl,rfl,rfl,by decide +kernel,rfl,by decide +kernel,by decide +kernel⟩
def Za7 : DefY := { at_ := (gY "inner"), name := "inner", qual := "inner", params := defArgs Jy, body := defBody Jy, scope := defScope Jy, dfl := [], kwd := [] }
abbrev Z8p : Stmt := topS 21
abbrev n_met : List Str := ["nodes", "begins", "found", "waiting", "number"]
abbrev Zie : List Str := ["nodes", "begins"]
theorem Zd8 : FnScope n_met Zie (defScope Z8p) := ⟨rfl,rfl,rfl,by decide +kernel,rfl,by decide +kernel,by decide +kernel⟩
def Zh4 : DefY := { at_ := (gY "met"), name := "met", qual := "met", params := defArgs Z8p, body := defBody Z8p, scope := defScope Z8p, dfl := [], kwd := [] }
abbrev Y9 : Stmt := topS 23
abbrev Yo : List Str := ["graph", "depth", "order", "sizes", "turn", "number", "other"]
abbrev Ug : List Str := ["graph", "depth"]
theorem Zx : FnScope Yo Ug (defScope Y9) := ⟨rfl,rfl,rfl,by decide +kernel,rfl,by decide +kernel,by decide +kernel⟩
def Je : DefY := { at_ := (gY "unfolded_size"), name := "unfolded_size", qual := "unfolded_size", params := defArgs Y9, body := defBody Y9, scope := defScope Y9, dfl := [], kwd := [] }
abbrev Yp : Stmt := clsS (topS 4) 0
abbrev Z3x : List Str := ["self", "limit"]
abbrev V1 : List Str := ["self", "limit"]
theorem Z2w : FnScope Z3x V1 (defScope Yp) := ⟨rfl,rfl,rfl,by decide +kernel,rfl,by decide +kernel,by decide +kernel⟩
def Jf : DefY := { at_ := (mY "TooLarge" "__init__"), name := "__init__", qual := "TooLarge.__init__", params := defArgs Yp, body := defBody Yp, scope := defScope Yp, dfl := [.non], kwd := [] }
abbrev V9 : Stmt := topS 25
abbrev Zbp : List Str := ["graph", "depth"]
abbrev Z22 : List Str := ["graph", "depth"]
theorem Z8q : FnScope Zbp Z22 (defScope V9) := ⟨rfl,rfl,rfl,by decide +kernel,rfl,by decide +kernel,by decide +kernel⟩
def Z3y : DefY := { at_ := (gY "unfolded"), name := "unfolded", qual := "unfolded", params := defArgs V9, body := defBody V9, scope := defScope V9, dfl := [], kwd := [] }
abbrev Xv : Stmt := topS 44
abbrev Z74 : List Str := ["_law_nodes", "_law_top", "_law_others", "_law_its_top", "_law_one_here", "_law_other", "_law_due", "_law_deep", "_law_mine", "_law_its"]
abbrev Jz : List Str := ["_law_nodes", "_law_top", "_law_others", "_law_its_top"]
theorem V2 : FnScope Z74 Jz (defScope Xv) := ⟨rfl,rfl,rfl,by decide +kernel,rfl,by decide +kernel,by decide +kernel⟩
def Z1j : DefY := { at_ := (gY "_law_right"), name := "_law_right", qual := "_law_right", params := defArgs Xv, body := defBody Xv, scope := defScope Xv, dfl := [], kwd := [] }
abbrev Va : Stmt := clsS (topS 18) 1
abbrev Zbq : List Str := ["self", "other"]
abbrev Z5b : List Str := ["self", "other"]
theorem Z8r : FnScope Zbq Z5b (defScope Va) := ⟨rfl,rfl,rfl,by decide +kernel,rfl,by decide +kernel,by decide +kernel⟩
def Z3z : DefY := { at_ := (mY "Graph" "__eq__"), name := "__eq__", qual := "Graph.__eq__", params := defArgs Va, body := defBody Va, scope := defScope Va, dfl := [], kwd := [] }
abbrev Z60 : Stmt := topS 45
abbrev Zif : List Str := ["_law_script", "_law_cell", "_law_well_here", "_law_most", "_law_size", "_law_its_size", "_law_nodes", "_law_others", "_law_turn"]
abbrev Zig : List Str := ["_law_script"]
theorem Q9 : FnScope Zif Zig (defScope Z60) := ⟨rfl,rfl,rfl,by decide +kernel,rfl,by decide +kernel,by decide +kernel⟩
def Zh5 : DefY := { at_ := (gY "law"), name := "law", qual := "law", params := defArgs Z60, body := defBody Z60, scope := defScope Z60, dfl := [], kwd := [] }
def fns : List DefY := [Z2h,Z2i,Z3i,Z2j,Z2k,Jt,Z56,Z2l,Z71,Z3m,Z58,Z1i,Jv,Q7,Jw,Z3p,Z2m,Z3q,Z2n,Z59,Z73,Za5,Za6,Jx,Jd,Z5a,Za7,Zh4,Je,Jf,Z3y,Z1j,Z3z,Zh5]
def tabs : List He.Tab := []
def exs : Exs := [
  fun K => (He.Fa.str "TAG_SIGNS" (S [97,98,99,100,101,102,103,104,105,106,107,108,109,110,111,112,113,114,115,116,117,118,119,120,121,122,65,66,67,68,69,70,71,72,73,74,75,76,77,78,79,80,81,82,83,84,85,86,87,88,89,90,48,49,50,51,52,53,54,55,56,57,45,35,59,47,63,58,64,38,61,43,36,95,46,126,42,39,40,41])).ok K,
  fun K => (He.Fa.int "MOST_NUMBERS" (1000)).ok K,
  fun K => (He.Fa.int "MOST_NODES" (200)).ok K,
  fun K => (He.Fa.int "MOST_DEPTH" (100)).ok K,
  fun K => (He.Fa.int "MOST_UNFOLDED" (50)).ok K,
  fun K => (He.Fa.int "MOST_TREES" (3000)).ok K,
  fun K => (He.Fa.glo "Graph").ok K,
  fun K => (He.Fa.cls "Graph").ok K,
  fun K => (He.Fa.mkr "Graph").ok K,
  fun K => (He.Fa.noat "Graph" "nodes").ok K,
  fun K => (He.Fa.noat "Graph" "top").ok K,
  kitLT "Graph",
  neB "Graph",
  eqB5 "Graph",
  insB "Graph",
  fun K => (He.Fa.glo "NoGraph").ok K,
  oexB "NoGraph",
  exCB "NoGraph",
  fun K => (He.Fa.noat "NoGraph" "index").ok K,
  initB "NoGraph",
  fun K => (He.Fa.exm "NoGraph" "NoGraph" true).ok K,
  kitB2 "NoGraph" (fun K => .ref (He.ga K "PageError")),
  kitB2 "NoGraph" (fun _ => .type "ValueError"),
  fun K => (He.Fa.glo "NoDepth").ok K,
  oexB "NoDepth",
  exCB "NoDepth",
  fun K => (He.Fa.noat "NoDepth" "depth").ok K,
  initB "NoDepth",
  fun K => (He.Fa.exm "NoDepth" "NoDepth" true).ok K,
  kitB2 "NoDepth" (fun K => .ref (He.ga K "PageError")),
  kitB2 "NoDepth" (fun _ => .type "ValueError"),
  fun K => (He.Fa.glo "TooLarge").ok K,
  oexB "TooLarge",
  exCB "TooLarge",
  fun K => (He.Fa.noat "TooLarge" "limit").ok K,
  initB "TooLarge",
  fun K => (He.Fa.exm "TooLarge" "TooLarge" true).ok K,
  kitB2 "TooLarge" (fun K => .ref (He.ga K "PageError")),
  kitB2 "TooLarge" (fun _ => .type "ValueError"),
  baseB "PageError",
  noDigB,
  fun K => (He.Fa.glo "_law_draw").ok K,
  fun K => (He.Fa.glo "_law_one").ok K,
  fun K => (He.Fa.glo "_law_node").ok K,
  fun K => (He.Fa.glo "are_signs").ok K,
  fun K => (He.Fa.glo "is_from").ok K,
  fun K => (He.Fa.glo "is_tag").ok K,
  fun K => (He.Fa.glo "is_entry").ok K,
  fun K => (He.Fa.glo "is_node").ok K,
  fun K => (He.Fa.glo "_law_written").ok K,
  fun K => (He.Fa.glo "first_key").ok K,
  fun K => (He.Fa.glo "numbered").ok K,
  fun K => (He.Fa.glo "next_key").ok K,
  fun K => (He.Fa.glo "shifted").ok K,
  fun K => (He.Fa.glo "require_graphs").ok K,
  fun K => (He.Fa.glo "joined").ok K,
  fun K => (He.Fa.glo "rounds_of").ok K,
  fun K => (He.Fa.glo "first_unlike").ok K,
  fun K => (He.Fa.glo "apart").ok K,
  fun K => (He.Fa.glo "tree_at").ok K,
  fun K => (He.Fa.glo "inner").ok K,
  fun K => (He.Fa.glo "require_depth").ok K,
  fun K => (He.Fa.glo "met").ok K,
  fun K => (He.Fa.glo "unfolded_size").ok K,
  fun K => (He.Fa.glo "unfolded").ok K,
  fun K => (He.Fa.glo "equal").ok K,
  fun K => (He.Fa.glo "_law_well").ok K,
  fun K => (He.Fa.glo "_law_near").ok K,
  fun K => (He.Fa.glo "_law_right").ok K,
  fun K => (He.Fa.glo "PageError").ok K,
  fun K => (He.Fa.glo "law").ok K,
  fun K => (He.Fa.free "int").ok K,
  fun K => (He.Fa.free "len").ok K,
  fun K => (He.Fa.free "range").ok K,
  fun K => (He.Fa.free "tuple").ok K,
  fun K => (He.Fa.free "list").ok K,
  fun K => (He.Fa.free "bool").ok K,
  fun K => (He.Fa.free "isinstance").ok K,
  fun K => (He.Fa.free "all").ok K,
  fun K => (He.Fa.free "str").ok K,
  fun K => (He.Fa.free "enumerate").ok K,
  fun K => (He.Fa.free "repr").ok K,
  fun K => (He.Fa.free "sorted").ok K,
  fun K => (He.Fa.free "zip").ok K,
  fun K => (He.Fa.free "sum").ok K,
  fun K => (He.Fa.free "min").ok K]
abbrev GT (P : Program) (w : World) (K : PySem.W.Frag) (mg : PySem.Str → Option Value) (base : Heap) (lv : Nat) (a : PySem.W.Frag → PySem.Addr) (p : List PySem.Str) (n : Nat) (F : FF) := FnG P w K mg base lv (a K) (fdOf K (a K)) p (spF K n F)
theorem tk {P : Program} {w : World} {K : PySem.W.Frag} {mg : PySem.Str → Option Value} {base : Heap} {n : List PySem.Str} {q : PySem.Str} {sc : Scope} {a : PySem.Addr} {cdv : Value} {A : Around} {outer : List PySem.Env} {s : Shared} {H : Hp} {E : XK} : Takes (cxOf (L2.CX P w) P w K mg base n q sc a cdv A outer s H E) (fun cls d _ H => E cls d H) := takes_of rfl rfl rfl rfl
end Ap
set_option maxHeartbeats 4000000
namespace Fx
open PySem PySem.Spec PyProof.Rows L2 SX Ap
def obsR (as : List Addr) (fn : List DefY) (ts : List He.Tab) (ex : Exs) (g : Addr → Option Obj) : AlY := obsK fn ts ex (He.frG g as)
def hookR (as : List Addr) (fn : List DefY) (ts : List He.Tab) (ex : Exs) : PySem.W.Hook where
  α := AlY
  obs := fun s => obsR as fn ts ex s.heap.get?
  val := fun w => valY fn ts w
  says := fun w h => ∃ K : PySem.W.Frag,K.In h ∧ Says fn ts ex w K
  of := fun _ _ e => ⟨_,He.frG_in,⟨congrArg (fun z : AlY => z.1) e,congrArg (fun z : AlY => z.2.1) e,congrArg (fun z : AlY => z.2.2) e⟩⟩
  keeps := fun _ _ _ ⟨K,hK,c⟩ k => ⟨K,PySem.W.Frag.In.keeps hK k,c⟩
theorem Zih {as : List Addr} {fn : List DefY} {ts : List He.Tab} {ex : Exs} {g : Addr → Option Obj} {s : Shared} (h : ∀ a,g a = s.heap.get? a) : obsR as fn ts ex g = (hookR as fn ts ex).obs s := by
  have e : g = s.heap.get? := funext h
  rw [e] <;> rfl
section
open HandSHeadRun PySem.W
end
end Fx
set_option maxHeartbeats 4000000
namespace Ap
open PySem PySem.W PySem.Calls PyProof.Rows
def nm0 : List PySem.Str := [PySem.Str.ofString "PageError", PySem.Str.ofString "NoGraph", PySem.Str.ofString "NoDepth", PySem.Str.ofString "TooLarge", PySem.Str.ofString "TAG_SIGNS", PySem.Str.ofString "are_signs", PySem.Str.ofString "is_tag", PySem.Str.ofString "MOST_NODES", PySem.Str.ofString "MOST_NUMBERS", PySem.Str.ofString "MOST_DEPTH", PySem.Str.ofString "MOST_UNFOLDED", PySem.Str.ofString "MOST_TREES", PySem.Str.ofString "is_from", PySem.Str.ofString "is_entry", PySem.Str.ofString "is_node", PySem.Str.ofString "Graph", PySem.Str.ofString "require_graphs", PySem.Str.ofString "inner", PySem.Str.ofString "met", PySem.Str.ofString "require_depth", PySem.Str.ofString "unfolded_size", PySem.Str.ofString "tree_at", PySem.Str.ofString "unfolded", PySem.Str.ofString "shifted", PySem.Str.ofString "joined", PySem.Str.ofString "numbered", PySem.Str.ofString "first_key", PySem.Str.ofString "next_key", PySem.Str.ofString "rounds_of", PySem.Str.ofString "first_unlike", PySem.Str.ofString "apart", PySem.Str.ofString "equal", PySem.Str.ofString "_law_cell_at", PySem.Str.ofString "_law_well", PySem.Str.ofString "_law_draw"]
def nm1 : List PySem.Str := [PySem.Str.ofString "_law_one", PySem.Str.ofString "_law_node", PySem.Str.ofString "_law_near", PySem.Str.ofString "_law_written", PySem.Str.ofString "_law_right"]
def nms : List PySem.Str := nm0 ++ nm1
abbrev R5 : OpenRow := OpenLaw.row PySem.Challenge.rw_anchorpages_k42_whole_equal_just_if_unfo
def ads : List PySem.Addr := [3,1399,1398,1397,1396,1395,1394,1393,1392,1391,1390,1389,1388,1387,1386,1385,1384,1383,1382,1381,1380,1379,1378,1377,1376,1375,1374,1373,1372,1371,1370,1369,1368,1367,1366,1365,1364,1363,1362,1361,1360,1359,1358,1357,1356,1355,1354,1353,1352,1351,1350,1349,1348,1347,1346,1345,1344,1343,1342,1341,1340,1339,1338,1337,1336,1335,1334,1333,1332,1331,1330,1329,1328,1327,1326,1325,1324,1323,1322,1321,1320,1319,1318,1317,1316,1315,1314,1313,1312,1311,1310,1309,1308,1307,1306,1305,1304,1303,1302,1301,1300,1299,1298,1297,1296,1295,1294,1293,1292,1291,1290,1289,1288,1287,1286,1285,1284,1283,1282,1281,1280,1279,1278,1277,1276,1275,1274,1273,1272,1271,1270,1269,1268,1267,1266,1265,1264,1263,1262,1261,1260,1259,1258,1257,1256,1255,1254,1253,1252,1251,1250,1249,1248,1247,1246,1245,1244,1243,1242,1241,1240,1239,1238,1237,1236,1235,1234,1233,1232,1231,1230,1229,1228,1227,1226,1225,1224,1223,1222,1221,1220,1219,1218,1217,1216,1215,1214,1213,1212,1211,1210,1209,1208,1207,1206,1205,1204,1203,1202,1201,1200,1199,1198,1197,1196,1195,1194,1193,1192,1191,1190,1189,1188,1187,1186,1185,1184,1183,1182,1181,1180,1179,1178,1177,1176,1175,1174,1173,1172,1171,1170,1169,1168,1167,1166,1165,1164,1163,1162,1161,1160,1159,1158,1157,1156,1155,1154,1153,1152,1151,1150,1149,1148,1147,1146,1145,1144,1143,1142,1141,1140,1139,1138,1137,1136,1135,1134,1133,1132,1131,1130,1129,1128,1127,1126,1125,1124,1123,1122,1121,1120,1119,1118,1117,1116,1115,1114,1113,1112,1111,1110,1109,1108,1107,1106,1105,1104,1103,1102,1101,1100,1099,1098,1097,1096,1095,1094,1093,1092,1091,1090,1089,1088,1087,1086,1085,1084,1083,1082,1081,1080,1079,1078,1077,1076,1075,1074,1073,1072,1071,1070,1069,1068,1067,1066,1065,1064,1063,1062,1061,1060,1059,1058,1057,1056,1055,1054,1053,1052,1051,1050,1049,1048,1047,1046,1045,1044,1043,1042,1041,1040,1039,1038,1037,1036,1035,1034,1033,1032,1031,1030,1029,1028,1027,1026,1025,1024,1023,1022,1021,1020,1019,1018,1017,1016,1015,1014,1013,1012,1011,1010,1009,1008,1007,1006,1005,1004,1003,1002,1001,1000,999,998,997,996,995,994,993,992,991,990,989,988,987,986,985,984,983,982,981,980,979,978,977,976,975,974,973,972,971,970,969,968,967,966,965,964,963,962,961,960,959,958,957,956,955,954,953,952,951,950,949,948,947,946,945,944,943,942,941,940,939,938,937,936,935,934,933,932,931,930,929,928,927,926,925,924,923,922,921,920,919,918,917,916,915,914,913,912,911,910,909,908,907,906,905,904,903,902,901,900,899,898,897,896,895,894,893,892,891,890,889,888,887,886,885,884,883,882,881,880,879,878,877,876,875,874,873,872,871,870,869,868,867,866,865,864,863,862,861,860,859,858,857,856,855,854,853,852,851,850,849,848,847,846,845,844,843,842,841,840,839,838,837,836,835,834,833,832,831,830,829,828,827,826,825,824,823,822,821,820,819,818,817,816,815,814,813,812,811,810,809,808,807,806,805,804,803,802,801,800,799,798,797,796,795,794,793,792,791,790,789,788,787,786,785,784,783,782,781,780,779,778,777,776,775,774,773,772,771,770,769,768,767,766,765,764,763,762,761,760,759,758,757,756,755,754,753,752,751,750,749,748,747,746,745,744,743,742,741,740,739,738,737,736,735,734,733,732,731,730,729,728,727,726,725,724,723,722,721,720,719,718,717,716,715,714,713,712,711,710,709,708,707,706,705,704,703,702,701,700,699,698,697,696,695,694,693,692,691,690,689,688,687,686,685,684,683,682,681,680,679,678,677,676,675,674,673,672,671,670,669,668,667,666,665,664,663,662,661,660,659,658,657,656,655,654,653,652,651,650,649,648,647,646,645,644,643,642,641,640,639,638,637,636,635,634,633,632,631,630,629,628,627,626,625,624,623,622,621,620,619,618,617,616,615,614,613,612,611,610,609,608,607,606,605,604,603,602,601,600,599,598,597,596,595,594,593,592,591,590,589,588,587,586,585,584,583,582,581,580,579,578,577,576,575,574,573,572,571,570,569,568,567,566,565,564,563,562,561,560,559,558,557,556,555,554,553,552,551,550,549,548,547,546,545,544,543,542,541,540,539,538,537,536,535,534,533,532,531,530,529,528,527,526,525,524,523,522,521,520,519,518,517,516,515,514,513,512,511,510,509,508,507,506,505,504,503,502,501,500,499,498,497,496,495,494,493,492,491,490,489,488,487,486,485,484,483,482,481,480,479,478,477,476,475,474,473,472,471,470,469,468,467,466,465,464,463,462,461,460,459,458,457,456,455,454,453,452,451,450,449,448,447,446,445,444,443,442,441,440,439,438,437,436,435,434,433,432,431,430,429,428,427,426,425,424,423,422,421,420,419,418,417,416,415,414,413,412,411,410,409,408,407,406,405,404,403,402,401,400,399,398,397,396,395,394,393,392,391,390,389,388,387,386,385,384,383,382,381,380,379,378,377,376,375,374,373,372,371,370,369,368,367,366,365,364,363,362,361,360,359,358,357,356,355,354,353,352,351,350,349,348,347,346,345,344,343,342,341,340,339,338,337,336,335,334,333,332,331,330,329,328,327,326,325,324,323,322,321,320,319,318,317,316,315,314,313,312,311,310,309,308,307,306,305,304,303,302,301,300,299,298,297,296,295,294,293,292,291,290,289,288,287,286,285,284,283,282,281,280,279,278,277,276,275,274,273,272,271,270,269,268,267,266,265,264,263,262,261,260,259,258,257,256,255,254,253,252,251,250,249,248,247,246,245,244,243,242,241,240,239,238,237,236,235,234,233,232,231,230,229,228,227,226,225,224,223,222,221,220,219,218,217,216,215,214,213,212,211,210,209,208,207,206,205,204,203,202,201,200,199,198,197,196,195,194,193,192,191,190,189,188,187,186,185,184,183,182,181,180,179,178,177,176,175,174,173,172,171,170,169,168,167,166,165,164,163,162,161,160,159,158,157,156,155,154,153,152,151,150,149,148,147,146,145,144,143,142,141,140,139,138,137,136,135,134,133,132,131,130,129,128,127,126,125,124,123,122,121,120,119,118,117,116,115,114,113,112,111,110,109,108,107,106,105,104,103,102,101,100,99,98,97,96,95,94,93,92,91,90,89,88,87,86,85,84,83,82,81,80,79,78,77,76,75,74,73,72,71,70,69,68,67,66,65,64,63,62,61,60,59,58,57,56,55,54,53,52,51,50,49,48,47,46,45,44,43,42,41,40,39,38,37,36,35,34,33,32,31,30,29,28,27,26,25,24,23,22,21,20,19,18,17,16,15,14,13,12,11,10,9,8,7,6,5,4,2,1,0]
abbrev hk5 : PySem.W.Hook := Fx.hookR ads fns tabs exs
def ob5 (s : PySem.W.SharedT) : Fx.AlY := Fx.obsR ads fns tabs exs (HandSHeadRun.getT s)
theorem Zl0 (s : PySem.W.SharedT) : ob5 s = hk5.obs s.abs := Fx.Zih (HandSHeadRun.getT_eq s)
theorem run0 (w : World) : HandSHeadRun.RunEq R5 (view R5.prog [45]) hk5 ob5 6760 nms (w.withFollow "special-get-raises" false) := by
  intro os
  kernel_rfl
theorem run1 (w : World) : HandSHeadRun.RunEq R5 (view R5.prog [45]) hk5 ob5 6760 nms (w.withFollow "special-get-raises" true) := by
  intro os
  kernel_rfl
theorem run5 (w : World) : HandSHeadRun.RunEq R5 (view R5.prog [45]) hk5 ob5 6760 nms w := byRow2 "special-get-raises" (P := fun w => HandSHeadRun.RunEq R5 (view R5.prog [45]) hk5 ob5 6760 nms w) run0 run1 w
end Ap
set_option maxHeartbeats 4000000
namespace Fx
open PySem PySem.Spec PyProof.Rows L2 SX Ap
variable [Tb]
def runS (n : Nat) (b : FS) : FF := fun ts Z => runF n b [.tup ts] Z
def spS (K : PySem.W.Frag) (F : FF) : Sp := fun vs H Q E => vs.length ≤ Lim ∧ ∃ ι Z ts,Sim K ι Z H ∧ Reps K ι H vs ts ∧ Post (Rep K) K (fun cls d _ H => E cls d H) [] ι H Q (F ts Z)
def FnS (P : Program) (w : World) (K : PySem.W.Frag) (mg : PySem.Str → Option Value) (base : Heap) (k : Nat) (f : Addr) (F : FF) : Prop :=
  ∀ (A : Around) (outer : List PySem.Env) (s : Shared) (H : Hp) (us : List Value) (vs : List V) (Q : VK) (E : XK),Room k A → A.guards = some [] → Env0 P w K mg base A outer s H → Vals vs us → spS K F vs H Q E →
    codeAny (model P w) A (.call (.ref f) ⟨us,[]⟩) (CR (L2.CX P w) outer P w H s Q E) s
section
variable {P : Program} {w : World} {K : PySem.W.Frag} {mg : PySem.Str → Option Value} {base : Heap}
theorem fnS {x qual pv : PySem.Str} {params : Arguments} {body : List Stmt} {scope : Scope} {kws : List (PySem.Str × V)} {f : Addr} {fd : FuncData} {N : List PySem.Str} {k : Nat} {b : FS} (D : FunD K x qual params body scope [] kws f fd) (S : FnScope N [pv] scope)
    (hbi : ∀ (kV doc pm : Value) (an : Option Addr) (cdv ct : Value) (us : List Value),bindArgs (PySem.W.fnOf x qual params body scope .none kV doc pm an cdv ct) ⟨us,[]⟩ = (newTuple us >>= fun t => pure [(pv,t)])) (hb : BodyJ P w K mg base k f N qual scope body b) :
    FnS P w K mg base (k + 1) f (runS N.length b) := by
  obtain ⟨oc,od,dV,kV,doc,pm,an,cdv,ct,osl,rfl,lk,hcd,hD,_⟩ := D.ex
  obtain rfl : dV = .none := by
    rcases hD with ⟨_,e⟩ | ⟨e,_⟩
    · exact e
    · exact absurd rfl e
  intro A outer s H us vs Q E hr hG e0 r hsp
  obtain ⟨hz,ι,Z,ts,sim,rr,p⟩ := hsp
  have free : H s.heap.objs.size = none := e0.hok.fresh (Nat.le_refl _)
  have small : vs.length ≤ sizeLine := Nat.le_trans hz Z1d
  have lay : ObjOk P w (upd H s.heap.objs.size (.tup vs)) (s.heap.push ({ cls := .type "tuple", data := .seq us.toArray } : Obj)) s.heap.objs.size (.tup vs) := ⟨small, us, r, ⟨_, Heap.get?_push_size _ rfl, rfl, _, rfl⟩⟩
  have grown := StX.un_laid (fs := frs outer) (s := s) (o := ({ cls := .type "tuple", data := .seq us.toArray } : Obj)) (u := .tup vs) free
  refine StX.run_bnd lk hcd S hr e0 (G := fun xs H2 => ∃ q, H q = none ∧ xs = [V.ref q] ∧ H2 = upd H q (.tup vs)) (fun A' Ex Q' h => ?_) fun s2 H2 xs g hr' => ?_
  · rw [hbi]
    refine wpAny_bind (wpAny_newTuple (wpAny_pure ?_) (by rw [← r.length]; exact small))
    exact h _ _ [V.ref s.heap.objs.size] [Value.ref s.heap.objs.size] (StX.env0_laid e0 lay) grown rfl (fun e s' => StX.cxUp outer s H _ _ E e s' grown (fun _ _ q => Heap.get?_push_of_some _ q) rfl) (.cons rfl .nil) rfl ⟨_, free, rfl, rfl⟩
  · obtain ⟨q,hq,rfl,rfl⟩ := g
    have gq : Gr ι ι H (upd H q (.tup vs)) := Gr.new0 hq
    exact Zgw (n := 1) hb cdv A outer s2 _ _ Q E hr' hG ⟨rfl, ι, Z, [.tup ts], sim.same (Wd hq), .cons (.tup (SqT.of upd_same) (rr.gr gq)) .nil, p.shift gq⟩
end
section
variable {X : Cx} {K : PySem.W.Frag} {W : Wc} {x : PySem.Str} {p pos : Pos} {e : Expr} {es : List Expr} {fa : FA} {k : Nat} {f : Addr} {F : FF}
theorem Z8s (hK : X.K = K) (G : FnS X.prog X.w X.K X.mg X.base k f F) (hr : Room k X.A) (hG : X.A.guards = some []) (hg : Gl X x) (hm : X.mg x = some (.ref f)) (hk : PySem.W.keepIn X.K (.ref f) = true) (tk : Takes X W.w)
    (ha : FAJ X K W (e :: es) fa) (hn : ofLen (e :: es) fa) (hz : (e :: es).length ≤ 1000 := by decide) (hdb : (x == ("__debug__" : PySem.Str)) = false := by decide) (he : starEach (e :: es) X.env = (false, eval e X.env) :: starEach es X.env := by rfl) (hpl : (backTo pos (starEach es X.env)).any (·.1) = false := by rfl) :
    FJ X K W (.Call (.Name x p) (e :: es) [] pos) (eCall F [] fa) := by
  subst hK
  refine ⟨fun pins s σ H Q I h => ?_⟩
  refine wpAny_Call_Name_kw (ld_glob I hg hm ?_ hdb)
  obtain ⟨ι,ρ,Z,is,q⟩ := h
  have told : tFA X.K W fa σ H (fun vs H1 => spS X.K F vs H1 Q (WE W.w σ)) := by
    refine ⟨ι,ρ,Z,is,?_⟩
    unfold eCall at q
    cases ea : fa ρ Z with
    | ok ts Z1 =>
      rw [ea,Zv,List.append_nil] at q
      refine fun ι1 H1 vs g1 s1 r1 => ⟨?_,ι1,Z1,ts,s1,r1,(q.shift g1).wx fun _ _ _ h => h⟩
      rw [r1.length,hn _ _ _ _ ea]
      unfold Lim; omega
    | exc y Z1 => rw [ea] at q; exact q
    | stuck => rw [ea] at q; exact q
  refine PySem.W.callWith_K (h₀ := X.base) I.ok.mod.kin hk (thn (ha.run pos pins s σ H _ I told) fun us s1 ⟨vs,H1,I1,r,q1⟩ => ⟨I1.kIn,?_⟩) he hpl
  refine wpAny_call (codeAny_mono (G X.A X.stack s1 H1 us vs Q (WE W.w σ) hr hG I1.env0 r q1) fun fin s' hq => ?_)
  cases fin with
  | ok fl =>
    cases fl with
    | ret u => exact I1.after hq
    | next => exact False.elim hq
    | brk => exact False.elim hq
    | cont => exact False.elim hq
  | error y => exact passAt tk σ pins H1 s1 y s' I1 hq
end
end Fx
set_option maxHeartbeats 4000000
namespace Fx
open PySem PySem.Spec PyProof.Rows L2 SX Ap
variable [Tb]
theorem Zd9 {α β γ : Type} (r : R α) (k : α → Sto → R β) (l : β → Sto → R γ) : (r.bind k).bind l = r.bind fun a Z => (k a Z).bind l := by cases r <;> rfl
def loopC2 (it : ItF) (D : Nat) (put : T → Option Env) (fi1 : FI) (put1 : Env → T → Option Env) (e : FE) : Nat → Nat → Sto → R T
  | 0,_,_ => .stuck
  | n + 1,k,Z => match it k Z with
    | none => .stuck
    | some none => .ok (.loc D) Z
    | some (some t) => match put t with
      | none => .stuck
      | some ρ => (noX (fi1 ρ Z)).bind fun j Z1 => (loopC j D (put1 ρ) eYes e Fuel 0 Z1).bind fun _ Z2 => loopC2 it D put fi1 put1 e n (k + 1) Z2
def eLc2 (vs js : List Nat) (it : FI) (vs1 js1 : List Nat) (it1 : FI) (e : FE) : FE := fun ρ Z => (it ρ Z).bind fun j Z1 => loopC2 j Z1.length (fun t => putN js t (wipeR ρ vs)) it1 (fun ρ' t => putN js1 t (wipeR ρ' vs1)) e Fuel 0 (Z1 ++ [.lst []])
section
variable {X : Cx} {K : PySem.W.Frag} {W : Wc}
theorem Zl1 {fi fi1 : FI} {g g1 : TG} {fe : FE} {vs js vs1 js1 : List Nat} (hg : TgOk K js g) (hjs : ∀ j ∈ js,j ∈ vs) (hg1 : TgOk K js1 g1) (hjs1 : ∀ j ∈ js1,j ∈ vs1) {σ : L2.St} {H : Hp} {Q : VK} (hi : ∀ R,(∃ ι ρ Z,Ie K W ι H σ ρ Z ∧ Post (ItR K) K W.w σ ι H R (fi ρ Z)) → tI K W.w fi σ H R)
    (h : tF K W (eLc2 vs js fi vs1 js1 fi1 fe) σ H Q) : tLc2 (tI K W.w fi) g (tFT K W0 eYes) (tI K W0.w fi1) g1 (tFT K W0 eYes) (tF K W0 fe) vs vs1 σ H Q := by
  obtain ⟨ι,ρ,Z,is,p⟩ := h
  refine hi _ ⟨ι,ρ,Z,is,(Zi (rep := ItR K) p).imp fun J H1 q => ?_⟩
  obtain ⟨ι1, Z1, it, g1', s1, rJ, p1⟩ := q
  intro D hD
  have is1 := is.gr g1' s1
  have sD : Sim K (ι1 ++ [D]) (Z1 ++ [.lst []]) (upd H1 D (.lst [])) := s1.newL .nil hD
  have gD : Gr ι1 (ι1 ++ [D]) H1 (upd H1 D (.lst [])) := Gr.new hD
  have hDi : (ι1 ++ [D])[Z1.length]? = some D := by rw [← s1.len]; simp
  refine ⟨fun k m H' => ∃ ι' Z', Gr (ι1 ++ [D]) ι' (upd H1 D (.lst [])) H' ∧ Sim K ι' Z' H' ∧ Post (Rep K) K W.w σ ι' H' Q (loopC2 it Z1.length (fun t => putN js t (wipeR ρ vs)) fi1 (fun ρ' t => putN js1 t (wipeR ρ' vs1)) fe m k Z'), ⟨Fuel, ι1 ++ [D], _, Gr.refl, sD, p1.shift gD⟩, ?_⟩
  rintro k m H' ⟨ι', Z', g', s', p'⟩
  cases m with
  | zero => exact p'.elim
  | succ m =>
    have hj := rJ k ι' H' Z' (gD.trans g') s'
    unfold loopC2 at p'
    cases e : it k Z' with
    | none => rw [e] at p'; exact p'.elim
    | some o =>
      rw [e] at hj p'
      cases o with
      | none => exact .inl ⟨hj, p' ι' H' _ Gr.refl s' (.loc (g'.pre _ _ hDi))⟩
      | some t =>
        refine .inr ⟨hj.1, _, fun H2 n => ⟨m, Nat.lt_succ_self m, n⟩, fun x H'' y => ?_⟩
        obtain ⟨g2, s2, r2⟩ := hj.2 x H'' y
        simp only at p'
        cases e3 : putN js t (wipeR ρ vs) with
        | none => rw [e3] at p'; exact p'.elim
        | some ρ' =>
          rw [e3] at p'
          simp only at p'
          have env2 : Envs K ι' H'' (wipe σ vs) (wipeR ρ vs) := Jr ((is1.env.gr (gD.trans g')).gr g2) is1.len vs
          refine hg x (wipe σ vs) H'' _ ι' _ ρ' t (by rw [wipe_length, Vs]; exact is1.len) env2 r2 e3 fun σ' hl' env' hw => ?_
          refine ⟨by rw [hw vs hjs, Z1f], ι', ρ', Z', ⟨hl', env', s2, trivial⟩, fun ιa Ha ba ga sa hba => ?_⟩
          cases (show ba = true from hba)
          rw [if_pos rfl]
          have pa := p'.shift (g2.trans ga)
          refine ⟨ιa, ρ', Z', ⟨hl', env'.gr ga, sa⟩, Ul (W := W.w) (σ := σ) ((Zi (rep := ItR K) pa).imp fun J1 H4 q4 => ?_)⟩
          obtain ⟨ι4,Z4,it1,g4,s4,rJ1,p4⟩ := q4
          refine ⟨fun j m1 H5 => ∃ ι5 Z5, Gr ι4 ι5 H4 H5 ∧ Sim K ι5 Z5 H5 ∧ Post (Rep K) K W.w σ ι5 H5 Q ((loopC it1 Z1.length (fun t => putN js1 t (wipeR ρ' vs1)) eYes fe m1 j Z5).bind fun _ Z2 => loopC2 it Z1.length (fun t => putN js t (wipeR ρ vs)) fi1 (fun ρ' t => putN js1 t (wipeR ρ' vs1)) fe m (k + 1) Z2), ⟨Fuel, ι4, Z4, Gr.refl, s4, p4⟩, ?_⟩
          have gb := ((g'.trans g2).trans ga).trans g4
          rintro j m1 H5 ⟨ι5,Z5,g5,s5,p5⟩
          cases m1 with
          | zero => exact p5.elim
          | succ m1 =>
            have hj5 := rJ1 j ι5 H5 Z5 g5 s5
            unfold loopC at p5
            cases e5 : it1 j Z5 with
            | none => rw [e5] at p5; exact p5.elim
            | some o5 =>
              rw [e5] at hj5 p5
              cases o5 with
              | none => exact .inl ⟨hj5,ι5,Z5,gb.trans g5,s5,p5⟩
              | some t5 =>
                refine .inr ⟨hj5.1,_,fun H2 n => ⟨m1,Nat.lt_succ_self m1,n⟩,fun x5 H6 y5 => ?_⟩
                obtain ⟨g6,s6,r6⟩ := hj5.2 x5 H6 y5
                simp only at p5
                cases e6 : putN js1 t5 (wipeR ρ' vs1) with
                | none => rw [e6] at p5; exact p5.elim
                | some ρ6 =>
                  rw [e6] at p5
                  simp only at p5
                  have env6 : Envs K ι5 H6 (wipe σ' vs1) (wipeR ρ' vs1) := Jr ((((env'.gr ga).gr g4).gr g5).gr g6) hl' vs1
                  refine hg1 x5 (wipe σ' vs1) H6 _ ι5 _ ρ6 t5 (by rw [wipe_length, Vs]; exact hl') env6 r6 e6 fun σ6 hl6 envN hw6 => ?_
                  refine ⟨by rw [hw6 vs1 hjs1,Z1f],ι5,ρ6,Z5,⟨hl6,envN,s6,trivial⟩,fun ι7 H7 b7 g7 s7 hb7 => ?_⟩
                  cases (show b7 = true from hb7)
                  rw [if_pos rfl]
                  have p7 : Post (Rep K) K W.w σ ι7 H7 Q (((noX (fe ρ6 Z5)).bind fun y Z2 => (match getL Z2 Z1.length with
                      | some acc => if acc.length < Lim then loopC it1 Z1.length (fun t => putN js1 t (wipeR ρ' vs1)) eYes fe m1 (j + 1) (Z2.set Z1.length (.lst (acc ++ [y]))) else .stuck
                      | none => .stuck)).bind fun _ Z2 => loopC2 it Z1.length (fun t => putN js t (wipeR ρ vs)) fi1 (fun ρ' t => putN js1 t (wipeR ρ' vs1)) fe m (k + 1) Z2) := p5.shift (g6.trans g7)
                  refine ⟨ι7,ρ6,Z5,⟨hl6,envN.gr g7,s7,trivial⟩,Ul (W := W.w) (σ := σ) ((Zi (rep := Rep K) (by rw [Zd9] at p7; exact p7)).imp fun y8 H8 q8 => ?_)⟩
                  obtain ⟨ι8,Z8,ty,g8,s8,ry,p8⟩ := q8
                  have gz := (((gb.trans g5).trans g6).trans g7).trans g8
                  split at p8
                  · rename_i acc ea
                    split at p8
                    · rename_i hz
                      have hD8 : ι8[Z1.length]? = some D := gz.pre _ _ hDi
                      obtain ⟨a, ws, ea', _, h1, rw1⟩ := Xn s8 (Yg ea) (.loc hD8)
                      cases ea'
                      have g9 := Gr.mut (ι := ι8) (o := .lst (ws ++ [y8])) h1 trivial (List.mem_of_getElem? hD8)
                      refine ⟨ws,h1,by rw [rw1.length]; exact Nat.lt_of_lt_of_le hz Z1d,ι8,_,(((g5.trans g6).trans g7).trans g8).trans g9,s8.set (ob := .lst (acc ++ [ty])) hD8 ⟨_,upd_same,(rw1.gr g9).append (.cons (ry.gr g9) .nil)⟩,p8.shift g9⟩
                    · exact p8.elim
                  · exact p8.elim
theorem f_lc2 {elt tg iter tg1 iter1 : Expr} {scope : Scope} {own : List (PySem.Str × Nat)} {pos : Pos} {fi fi1 : FI} {g g1 : TG} {fe : FE} {js vs1 js1 : List Nat} (hg0 : TgOk K js g) (hjs : ∀ j ∈ js,j ∈ own.map (·.2)) (hg01 : TgOk K js1 g1) (hjs1 : ∀ j ∈ js1,j ∈ vs1) (hc : X.calm = true) (hN : X.N.Nodup) (hi : PI X tg iter (tI K W.w fi)) (ok : BlkOk X.N X.env.scope scope own) (hv : ∀ i ∈ vs1,i ∈ own.map (·.2))
    (hg : ∀ (s : Shared) (H : Hp) (C : Addr) (cl : List (PySem.Str × Addr)) (fp : List Addr),PG (X.blk s H scope (compEnvC scope cl C X.env) fp) tg g)
    (hi1 : ∀ (s : Shared) (H : Hp) (C : Addr) (cl : List (PySem.Str × Addr)) (fp : List Addr),PI (X.blk s H scope (compEnvC scope cl C X.env) fp) tg1 iter1 (tI K W0.w fi1))
    (hg1 : ∀ (s : Shared) (H : Hp) (C : Addr) (cl : List (PySem.Str × Addr)) (fp : List Addr),PG (X.blk s H scope (compEnvC scope cl C X.env) fp) tg1 g1)
    (he : ∀ (s : Shared) (H : Hp) (C : Addr) (cl : List (PySem.Str × Addr)) (fp : List Addr),FJ (X.blk s H scope (compEnvC scope cl C X.env) fp) K W0 elt fe) (hs : ∀ x,foldedSetIterable iter X.env x = pure x := by intro _; rfl) (hs1 : ∀ env x,foldedSetIterable iter1 env x = pure x := by intro _ _; rfl) :
    FJ X K W (.ListComp elt [⟨tg,iter,[],0⟩,⟨tg1,iter1,[],0⟩] scope pos) (eLc2 (own.map (·.2)) js fi vs1 js1 fi1 fe) :=
  Xo (pe_lc2 hc hN hi ok hv hg (fun _ _ _ _ _ => Yw) hi1 hg1 (fun _ _ _ _ _ => Yw) he hs hs1) fun σ H Q h => Zl1 hg0 hjs hg01 hjs1 (fun R q => Za0 q) h
end
end Fx
set_option maxHeartbeats 4000000
namespace Fx
open PySem PySem.Spec PyProof.Rows L2 SX Ap
variable [Tb]
def loopD (it : ItF) (D : Nat) (put : T → Option Env) (fk fv : FE) : Nat → Nat → Sto → R T
  | 0,_,_ => .stuck
  | n + 1,k,Z => match it k Z with
    | none => .stuck
    | some none => .ok (.loc D) Z
    | some (some t) => match put t with
      | none => .stuck
      | some ρ => (noX (fk ρ Z)).bind fun x Z1 => (noX (fv ρ Z1)).bind fun y Z2 => match getDK Z2 D,keyT x with
        | some kvs, some k' => if kvs.length < Lim then loopD it D put fk fv n (k + 1) (Z2.set D (.dk (putKT kvs k' y))) else .stuck
        | _,_ => .stuck
def eDc (vs js : List Nat) (it : FI) (fk fv : FE) : FE := fun ρ Z => (it ρ Z).bind fun j Z1 => loopD j Z1.length (fun t => putN js t (wipeR ρ vs)) fk fv Fuel 0 (Z1 ++ [.dk []])
def tKey : Key → Option T
  | .inl i => some (.int i)
  | .inr _ => none
def tKeys : List (Key × T) → Option (List T)
  | [] => some []
  | (k,_) :: r => match tKey k,tKeys r with
    | some t,some ts => some (t :: ts)
    | _,_ => none
def gListW : List T → Sto → Option (T × Sto)
  | [.loc i],Z => match getDK Z i with
    | some kvs => (tKeys kvs).map fun ts => (.loc Z.length,Z ++ [.lst ts])
    | none => gList [.loc i] Z
  | ts,Z => gList ts Z
section
variable {X : Cx} {K : PySem.W.Frag} {W : Wc}
theorem Sim.newK {ι : List Addr} {Z : Sto} {H : Hp} {vs : List (Key × V)} {ts : List (Key × T)} (s : Sim K ι Z H) (r : RepP K ι H vs ts) {p : Addr} (n : H p = none) : Sim K (ι ++ [p]) (Z ++ [.dk ts]) (upd H p (.dK vs)) := s.new n ⟨vs,upd_same,r.gr (Gr.new n)⟩
theorem tF_dc {fi : FI} {g : TG} {fk fv : FE} {vs js : List Nat} (hg : TgOk K js g) (hjs : ∀ j ∈ js,j ∈ vs) {σ : L2.St} {H : Hp} {Q : VK} (hi : ∀ R,(∃ ι ρ Z,Ie K W ι H σ ρ Z ∧ Post (ItR K) K W.w σ ι H R (fi ρ Z)) → tI K W.w fi σ H R) (h : tF K W (eDc vs js fi fk fv) σ H Q) : tDc (tI K W.w fi) g (tFT K W0 eYes) (tF K W0 fk) (tF K W0 fv) vs σ H Q := by
  obtain ⟨ι,ρ,Z,is,p⟩ := h
  refine hi _ ⟨ι,ρ,Z,is,(Zi (rep := ItR K) p).imp fun J H1 q => ?_⟩
  obtain ⟨ι1,Z1,it,g1,s1,rJ,p1⟩ := q
  intro D hD
  have is1 := is.gr g1 s1
  have sD : Sim K (ι1 ++ [D]) (Z1 ++ [.dk []]) (upd H1 D (.dK [])) := s1.newK .nil hD
  have gD : Gr ι1 (ι1 ++ [D]) H1 (upd H1 D (.dK [])) := Gr.new hD
  have hDi : (ι1 ++ [D])[Z1.length]? = some D := by rw [← s1.len]; simp
  refine ⟨fun k m H' => ∃ ι' Z', Gr (ι1 ++ [D]) ι' (upd H1 D (.dK [])) H' ∧ Sim K ι' Z' H' ∧ Post (Rep K) K W.w σ ι' H' Q (loopD it Z1.length (fun t => putN js t (wipeR ρ vs)) fk fv m k Z'), ⟨Fuel, ι1 ++ [D], _, Gr.refl, sD, p1.shift gD⟩, ?_⟩
  rintro k m H' ⟨ι', Z', g', s', p'⟩
  cases m with
  | zero => exact p'.elim
  | succ m =>
    have hj := rJ k ι' H' Z' (gD.trans g') s'
    unfold loopD at p'
    cases e : it k Z' with
    | none => rw [e] at p'; exact p'.elim
    | some o =>
      rw [e] at hj p'
      cases o with
      | none => exact .inl ⟨hj, p' ι' H' _ Gr.refl s' (.loc (g'.pre _ _ hDi))⟩
      | some t =>
        refine .inr ⟨hj.1, _, fun H2 n => ⟨m, Nat.lt_succ_self m, n⟩, fun x H'' y => ?_⟩
        obtain ⟨g2, s2, r2⟩ := hj.2 x H'' y
        simp only at p'
        cases e3 : putN js t (wipeR ρ vs) with
        | none => rw [e3] at p'; exact p'.elim
        | some ρ' =>
          rw [e3] at p'
          simp only at p'
          have env2 : Envs K ι' H'' (wipe σ vs) (wipeR ρ vs) := Jr ((is1.env.gr (gD.trans g')).gr g2) is1.len vs
          refine hg x (wipe σ vs) H'' _ ι' _ ρ' t (by rw [wipe_length, Vs]; exact is1.len) env2 r2 e3 fun σ' hl' env' hw => ?_
          refine ⟨by rw [hw vs hjs, Z1f], ι', ρ', Z', ⟨hl', env', s2, trivial⟩, fun ιa Ha ba ga sa hba => ?_⟩
          cases (show ba = true from hba)
          rw [if_pos rfl]
          refine ⟨ιa, ρ', Z', ⟨hl', env'.gr ga, sa, trivial⟩, Ul (W := W.w) (σ := σ) ((Zi (rep := Rep K) (p'.shift (g2.trans ga))).imp fun kk H3 q => ?_)⟩
          obtain ⟨ι3,Z3,tk,g3,s3,rk,p3⟩ := q
          refine ⟨ι3, ρ', Z3, ⟨hl', (env'.gr ga).gr g3, s3, trivial⟩, Ul (W := W.w) (σ := σ) ((Zi (rep := Rep K) p3).imp fun y H4 q => ?_)⟩
          obtain ⟨ι4,Z4,ty,g4,s4,ry,p4⟩ := q
          split at p4
          · rename_i kvs k' ea ek
            split at p4
            · rename_i hz
              have gb := (((g'.trans g2).trans ga).trans g3).trans g4
              have hD4 : ι4[Z1.length]? = some D := gb.pre _ _ hDi
              obtain ⟨a, ws, ea', _, h1, rw1⟩ := Qs s4 (.loc hD4) ea
              cases ea'
              have hkk := Z6z rk ek
              have g5 := Gr.mut (ι := ι4) (o := .dK (putK ws k' y)) h1 trivial (List.mem_of_getElem? hD4)
              exact ⟨ws, k', hkk, h1, by rw [rw1.length]; exact Nat.lt_of_lt_of_le hz Z1d, ι4, _, gb.trans g5, s4.set (ob := .dk (putKT kvs k' ty)) hD4 ⟨_, upd_same, Zh3 (rw1.gr g5) (ry.gr g5)⟩, p4.shift g5⟩
            · exact p4.elim
          · exact p4.elim
theorem f_dc {kx vx tg iter : Expr} {scope : Scope} {own : List (PySem.Str × Nat)} {pos : Pos} {fi : FI} {g : TG} {fk fv : FE} {js : List Nat} (hg0 : TgOk K js g) (hjs : ∀ j ∈ js,j ∈ own.map (·.2)) (hc : X.calm = true) (hN : X.N.Nodup) (hi : PI X tg iter (tI K W.w fi)) (ok : BlkOk X.N X.env.scope scope own)
    (hg : ∀ (s : Shared) (H : Hp) (C : Addr) (cl : List (PySem.Str × Addr)) (fp : List Addr),PG (X.blk s H scope (compEnvC scope cl C X.env) fp) tg g)
    (hk : ∀ (s : Shared) (H : Hp) (C : Addr) (cl : List (PySem.Str × Addr)) (fp : List Addr),FJ (X.blk s H scope (compEnvC scope cl C X.env) fp) K W0 kx fk)
    (he : ∀ (s : Shared) (H : Hp) (C : Addr) (cl : List (PySem.Str × Addr)) (fp : List Addr),FJ (X.blk s H scope (compEnvC scope cl C X.env) fp) K W0 vx fv) (hs : ∀ x,foldedSetIterable iter X.env x = pure x := by intro _; rfl) :
    FJ X K W (.DictComp kx vx [⟨tg,iter,[],0⟩] scope pos) (eDc (own.map (·.2)) js fi fk fv) := Xo (pe_dc hc hN hi ok hg (fun _ _ _ _ _ => Yw) hk he hs) fun σ H Q h => tF_dc hg0 hjs (fun R q => Za0 q) h
theorem Za8 {ι : List Addr} {H : Hp} : ∀ {vs : List (Key × V)} {ks : List (Key × T)} {ts : List T},RepP K ι H vs ks → tKeys ks = some ts → Reps K ι H (vs.map fun kv => kV kv.1) ts
  | _,_,_,.nil,e => by cases e; exact .nil
  | _,(k,_) :: _,_,.cons r q,e => by
    simp only [tKeys] at e
    split at e
    · rename_i t us et eu
      cases e
      cases k with
      | inl i => cases et; exact .cons (.int i) (Za8 q eu)
      | inr x => cases et
    · cases e
theorem Zda (hK : X.K = K) (hc : X.calm = true) : CallR X (.type "list") (rFC K gListW) := by
  have h0 := Z9y (X := X) hK
  subst hK
  intro pins s σ H xs us Q I r h
  obtain ⟨ι,Z,ts,sm,rr,p⟩ := h
  unfold gListW at p
  split at p
  · split at p
    · rename_i i kvs e
      obtain ⟨v,rfl,r1⟩ := rr.one
      cases ek : tKeys kvs with
      | none => rw [ek] at p; exact p.elim
      | some ws =>
        rw [ek] at p
        obtain ⟨a,vs,rfl,_,h1,rp⟩ := Qs sm r1 e
        exact call_list_dK hc pins s σ H _ us Q I r ⟨a,vs,rfl,h1,Z1w p sm (Za8 rp ek)⟩
    · exact h0 pins s σ H xs us Q I r ⟨ι,Z,_,sm,rr,p⟩
  · exact h0 pins s σ H xs us Q I r ⟨ι,Z,_,sm,rr,p⟩
end
end Fx
set_option maxHeartbeats 4000000
namespace Fx
open PySem PySem.Spec PyProof.Rows L2 SX Ap
variable [Tb]
section
variable {P : Program} {w : World} {K : PySem.W.Frag} {mg : PySem.Str → Option Value} {base : Heap}
theorem Z75 {k : Nat} {f : Addr} {fd : FuncData} {ps : List PySem.Str} {n : Nat} (hn : n = ps.length) : FnG P w K mg base k f fd ps (spF K n (fun _ _ => .stuck)) :=
  ⟨fun vs H Q E h => hn ▸ h.1,fun A outer s H as us vs Q E _ _ _ _ _ h => by obtain ⟨_,_,_,_,_,_,p⟩ := h; exact p.elim⟩
end
end Fx
set_option maxHeartbeats 4000000
namespace Fx
open PySem PySem.Spec PyProof.Rows L2 SX Ap
def rngOf (xs : List T) (Z1 : Sto) : R ItF := match xs with
  | [.int j] => if -(2 ^ 62) ≤ j ∧ j < 2 ^ 62 then .ok (itRng 0 j.toNat) Z1 else .stuck
  | [.int i,.int j] => if -(2 ^ 62) ≤ i ∧ i < 2 ^ 62 ∧ -(2 ^ 62) ≤ j ∧ j < 2 ^ 62 then .ok (itRng i (j - i).toNat) Z1 else .stuck
  | _ => .stuck
theorem rng1 {j : Int} {Z : Sto} (h1 : -1000000 ≤ j) (h2 : j ≤ 1000000) : rngOf [.int j] Z = .ok (itRng 0 j.toNat) Z := if_pos ⟨by omega,by omega⟩
theorem rngN {n : Nat} {Z : Sto} (h : n ≤ Lim) : rngOf [.int (n : Int)] Z = .ok (itRng 0 n) Z := by
  have h' : n ≤ 1000000 := h
  rw [rng1 (by omega) (by omega)]; rfl
section
variable (ρ : Env) (Z : Sto)
@[simp] theorem q_eC (t : T) : eC t ρ Z = .ok t Z := (rfl)
@[simp] theorem q_var0 (t : T) : eVar 0 (some t :: ρ) Z = .ok t Z := (rfl)
@[simp] theorem q_varS (i : Nat) (o : Option T) : eVar (i + 1) (o :: ρ) Z = eVar i ρ Z := (rfl)
@[simp] theorem q_var1 (o : Option T) : eVar 1 (o :: ρ) Z = eVar 0 ρ Z := (rfl)
@[simp] theorem q_var2 (o : Option T) : eVar 2 (o :: ρ) Z = eVar 1 ρ Z := (rfl)
@[simp] theorem q_var3 (o : Option T) : eVar 3 (o :: ρ) Z = eVar 2 ρ Z := (rfl)
@[simp] theorem q_var4 (o : Option T) : eVar 4 (o :: ρ) Z = eVar 3 ρ Z := (rfl)
@[simp] theorem q_var5 (o : Option T) : eVar 5 (o :: ρ) Z = eVar 4 ρ Z := (rfl)
@[simp] theorem q_var6 (o : Option T) : eVar 6 (o :: ρ) Z = eVar 5 ρ Z := (rfl)
@[simp] theorem q_var7 (o : Option T) : eVar 7 (o :: ρ) Z = eVar 6 ρ Z := (rfl)
@[simp] theorem q_var8 (o : Option T) : eVar 8 (o :: ρ) Z = eVar 7 ρ Z := (rfl)
@[simp] theorem q_var9 (o : Option T) : eVar 9 (o :: ρ) Z = eVar 8 ρ Z := (rfl)
@[simp] theorem q_var10 (o : Option T) : eVar 10 (o :: ρ) Z = eVar 9 ρ Z := (rfl)
@[simp] theorem q_var11 (o : Option T) : eVar 11 (o :: ρ) Z = eVar 10 ρ Z := (rfl)
@[simp] theorem q_var12 (o : Option T) : eVar 12 (o :: ρ) Z = eVar 11 ρ Z := (rfl)
@[simp] theorem q_var13 (o : Option T) : eVar 13 (o :: ρ) Z = eVar 12 ρ Z := (rfl)
@[simp] theorem q_var14 (o : Option T) : eVar 14 (o :: ρ) Z = eVar 13 ρ Z := (rfl)
@[simp] theorem q_bin (g : T → T → Sto → Option (T × Sto)) (a b : FE) : eBin g a b ρ Z = (a ρ Z).bind fun x Z1 => (b ρ Z1).bind fun y Z2 => lift (g x y Z2) := (rfl)
@[simp] theorem q_un (g : T → Sto → Option (T × Sto)) (a : FE) : eUn g a ρ Z = (a ρ Z).bind fun x Z1 => lift (g x Z1) := (rfl)
@[simp] theorem q_if (c : FT) (a b : FE) : eIf c a b ρ Z = (c ρ Z).bind fun x Z1 => if x = true then a ρ Z1 else b ρ Z1 := (rfl)
@[simp] theorem Zii : aNil ρ Z = .ok [] Z := (rfl)
@[simp] theorem Z5c (a : FE) (r : FA) : aCons a r ρ Z = (a ρ Z).bind fun x Z1 => (r ρ Z1).bind fun xs Z2 => .ok (x :: xs) Z2 := (rfl)
@[simp] theorem q_tru (f : FE) : eTru f ρ Z = (f ρ Z).bind fun x Z1 => match truth x Z1 with | some b => .ok b Z1 | none => .stuck := (rfl)
@[simp] theorem q_tAnd (a b : FT) : Fx.tAnd a b ρ Z = (a ρ Z).bind fun x Z1 => if x = true then b ρ Z1 else .ok false Z1 := (rfl)
@[simp] theorem q_tOr (a b : FT) : Fx.tOr a b ρ Z = (a ρ Z).bind fun x Z1 => if x = true then .ok true Z1 else b ρ Z1 := (rfl)
@[simp] theorem q_tNot (a : FT) : Fx.tNot a ρ Z = (a ρ Z).bind fun x Z1 => .ok (!x) Z1 := (rfl)
@[simp] theorem q_and (a b : FE) : eAnd a b ρ Z = (a ρ Z).bind fun x Z1 => match truth x Z1 with | some true => b ρ Z1 | some false => .ok x Z1 | none => .stuck := (rfl)
@[simp] theorem q_or (a b : FE) : eOr a b ρ Z = (a ρ Z).bind fun x Z1 => match truth x Z1 with | some true => .ok x Z1 | some false => b ρ Z1 | none => .stuck := (rfl)
@[simp] theorem q_not (a : FE) : eNot a ρ Z = (a ρ Z).bind fun x Z1 => match truth x Z1 with | some b => .ok (.bl (!b)) Z1 | none => .stuck := (rfl)
@[simp] theorem q_bl (f : FE) : eBl f ρ Z = (f ρ Z).bind fun x Z1 => match x with | .bl b => .ok b Z1 | _ => .stuck := (rfl)
@[simp] theorem q_chain (g g' : T → T → Sto → Option (T × Sto)) (a b c : FE) : eChain g g' a b c ρ Z = (a ρ Z).bind fun x Z1 => (b ρ Z1).bind fun y Z2 => (lift (g x y Z2)).bind fun z Z3 => match z with | .bl true => (c ρ Z3).bind fun w Z4 => lift (g' y w Z4) | .bl false => .ok (.bl false) Z3 | _ => .stuck := (rfl)
@[simp] theorem q_oNone : oNone ρ Z = .ok none Z := (rfl)
@[simp] theorem q_oSome (f : FE) : oSome f ρ Z = (f ρ Z).bind fun x Z1 => match x with | .int i => .ok (some i) Z1 | _ => .stuck := (rfl)
@[simp] theorem q_sl (f : FE) (lo hi : FO) : eSl f lo hi ρ Z = (f ρ Z).bind fun x Z1 => (lo ρ Z1).bind fun l Z2 => (hi ρ Z2).bind fun h Z3 => lift (gSl x l h Z3) := (rfl)
@[simp] theorem q_tup (f : FA) : eTup f ρ Z = (f ρ Z).bind fun xs Z1 => .ok (.tup xs) Z1 := (rfl)
@[simp] theorem q_lst (f : FA) : eLst f ρ Z = (f ρ Z).bind fun xs Z1 => .ok (.loc Z1.length) (Z1 ++ [.lst xs]) := (rfl)
@[simp] theorem Zh6 (F : FF) (ds : List T) (fa : FA) : eCall F ds fa ρ Z = (fa ρ Z).bind fun ts Z1 => F (ts ++ ds) Z1 := (rfl)
@[simp] theorem q_callB (g : List T → Sto → Option (T × Sto)) (fa : FA) : eCallB g fa ρ Z = (fa ρ Z).bind fun xs Z1 => lift (g xs Z1) := (rfl)
@[simp] theorem q_bm (n : String) (g : T → List T → Sto → Option (T × Sto)) (fo : FE) (fa : FA) : eBM n g fo fa ρ Z = (fo ρ Z).bind fun x Z1 => if isTy n x Z1 = true then (fa ρ Z1).bind fun xs Z2 => lift (g x xs Z2) else .stuck := (rfl)
@[simp] theorem Zij : eDict0 ρ Z = .ok (.loc Z.length) (Z ++ [.dk []]) := (rfl)
@[simp] theorem q_yes : eYes ρ Z = .ok true Z := (rfl)
@[simp] theorem Zfj (i : Nat) (f : FE) : sSet i f ρ Z = bS ρ (f ρ Z) fun x Z1 => .nx (ρ.set i (some x)) Z1 := (rfl)
@[simp] theorem q_ret (f : FE) : sRet f ρ Z = bS ρ (f ρ Z) fun x Z1 => .rt x Z1 := (rfl)
@[simp] theorem q_retN : sRetN ρ Z = .rt .non Z := (rfl)
@[simp] theorem q_drop (f : FE) : sDrop f ρ Z = bS ρ (f ρ Z) fun _ Z1 => .nx ρ Z1 := (rfl)
@[simp] theorem q_pass : sPass ρ Z = .nx ρ Z := (rfl)
@[simp] theorem q_brk : sBrk ρ Z = .bk ρ Z := (rfl)
@[simp] theorem q_cnt : sCnt ρ Z = .ct ρ Z := (rfl)
@[simp] theorem q_sIf (c : FT) (a b : FS) : sIf c a b ρ Z = bS ρ (c ρ Z) fun x Z1 => if x = true then a ρ Z1 else b ρ Z1 := (rfl)
@[simp] theorem q_bCons (a b : FS) : bCons a b ρ Z = seqS (a ρ Z) b := (rfl)
@[simp] theorem q_par (ix : List Nat) (f : FA) : sPar ix f ρ Z = bS ρ (f ρ Z) fun xs Z1 => .nx ((ix.zip xs).foldl (fun r p => r.set p.1 (some p.2)) ρ) Z1 := (rfl)
@[simp] theorem q_asg (f : FE) (g : FG) : sAsg f g ρ Z = bS ρ (f ρ Z) fun x Z1 => bS ρ (g x ρ Z1) fun ρ2 Z2 => .nx ρ2 Z2 := (rfl)
@[simp] theorem Zik (i : Nat) (t : T) : gNm i t ρ Z = .ok (ρ.set i (some t)) Z := (rfl)
@[simp] theorem q_gsNil : gsNil [] ρ Z = .ok ρ Z := (rfl)
@[simp] theorem q_gsCons (g : FG) (r : FGs) (t : T) (ts : List T) : gsCons g r (t :: ts) ρ Z = (noX (g t ρ Z)).bind fun ρ1 Z1 => noX (r ts ρ1 Z1) := (rfl)
@[simp] theorem q_gTp (n : Nat) (r : FGs) (ts : List T) : gTp n r (.tup ts) ρ Z = if ts.length = n then r ts ρ Z else .stuck := (rfl)
@[simp] theorem q_gSubs (fo fi : FE) (t : T) : gSubs fo fi t ρ Z = (fo ρ Z).bind fun o Z1 => (fi ρ Z1).bind fun i Z2 => match gSetL o i t Z2 with | some Z3 => .ok ρ Z3 | none => .stuck := (rfl)
@[simp] theorem Zdb (it : FI) (g : FG) (b : FS) : sFor it g b ρ Z = bS ρ (it ρ Z) fun j Z1 => loopN j (fun t ρ' Z' => bS ρ' (g t ρ' Z') b) Fuel 0 ρ Z1 := (rfl)
@[simp] theorem q_raise (nm f : PySem.Str) (ds : List T) (fa : FA) : sRaise nm f ds fa ρ Z = bS ρ (fa ρ Z) fun ts Z1 => match ts ++ ds with | [t] => .exc ⟨nm,[(f,t)]⟩ ρ Z1 | _ => .stuck := (rfl)
@[simp] theorem q_iAny (f : FE) : iAny f ρ Z = (f ρ Z).bind fun x Z1 => match x with | .frl ts => .ok (itSeq ts) Z1 | .loc i => (match getL Z1 i with | some _ => .ok (itLoc i) Z1 | none => .stuck) | .tup ts => .ok (itSeq ts) Z1 | .str l => .ok (itStr l) Z1 | _ => .stuck := (rfl)
@[simp] theorem Zil (f : FA) : iEnmA f ρ Z = (f ρ Z).bind fun xs Z1 => match xs with | [.frl ts] => .ok (itEnum (itSeq ts)) Z1 | [.loc i] => (match getL Z1 i with | some _ => .ok (itEnum (itLoc i)) Z1 | none => .stuck) | [.tup ts] => .ok (itEnum (itSeqX ts)) Z1 | [.str l] => .ok (itEnum (itStrX l)) Z1 | _ => .stuck := (rfl)
@[simp] theorem Zl2 (f : FA) : iRng f ρ Z = (f ρ Z).bind fun xs Z1 => rngOf xs Z1 := (rfl)
@[simp] theorem q_lc (vs js : List Nat) (it : FI) (c : FT) (e : FE) : eLc vs js it c e ρ Z = (it ρ Z).bind fun j Z1 => loopC j Z1.length (fun t => putN js t (wipeR ρ vs)) c e Fuel 0 (Z1 ++ [.lst []]) := (rfl)
@[simp] theorem q_xf (y : Ex) (f : PySem.Str) : eXf y f ρ Z = match y.fs.lookup f with | some t => .ok t Z | none => .stuck := (rfl)
end
@[simp] theorem Z5d {α : Type} (a : α) (Z : Sto) : noX (.ok a Z) = .ok a Z := (rfl)
@[simp] theorem t_bl (b : Bool) (Z : Sto) : truth (.bl b) Z = some b := (rfl)
@[simp] theorem t_int (i : Int) (Z : Sto) : truth (.int i) Z = some (i != 0) := (rfl)
@[simp] theorem t_non (Z : Sto) : truth .non Z = some false := (rfl)
@[simp] theorem t_tup (ts : List T) (Z : Sto) : truth (.tup ts) Z = some (!ts.isEmpty) := (rfl)
@[simp] theorem add_ii (i j : Int) (Z : Sto) : gAdd (.int i) (.int j) Z = some (.int (i + j),Z) := (rfl)
@[simp] theorem Zdc (a b : List Nat) (Z : Sto) : gAdd (.str a) (.str b) Z = if a.length + b.length ≤ Lim then some (.str (a ++ b),Z) else none := (rfl)
@[simp] theorem Zl3 (a b : List T) (Z : Sto) : gAdd (.tup a) (.tup b) Z = if a.length + b.length ≤ Lim then some (.tup (a ++ b),Z) else none := (rfl)
@[simp] theorem Za9 (i j : Nat) (Z : Sto) : gAdd (.loc i) (.loc j) Z = match getL Z i,getL Z j with | some a,some b => if a.length + b.length ≤ Lim then some (.loc Z.length,Z ++ [.lst (a ++ b)]) else none | _,_ => none := (rfl)
@[simp] theorem iadd_ii (i j : Int) (Z : Sto) : gIAdd (.int i) (.int j) Z = some (.int (i + j),Z) := (rfl)
@[simp] theorem iadd_ss (a b : List Nat) (Z : Sto) : gIAdd (.str a) (.str b) Z = if a.length + b.length ≤ Lim then some (.str (a ++ b),Z) else none := (rfl)
@[simp] theorem sub_ii (i j : Int) (Z : Sto) : gSub (.int i) (.int j) Z = some (.int (i - j),Z) := (rfl)
@[simp] theorem mul_ii (i j : Int) (Z : Sto) : gMul (.int i) (.int j) Z = if mulOk i j = true then some (.int (i * j),Z) else none := (rfl)
@[simp] theorem mul_si (l : List Nat) (k : Int) (Z : Sto) : gMul (.str l) (.int k) Z = if -100000 ≤ k ∧ k ≤ 100000 ∧ l.length * k.toNat ≤ 100000 then some (.str (repL k.toNat l),Z) else none := (rfl)
@[simp] theorem Zaa (i : Nat) (k : Int) (Z : Sto) : gMul (.loc i) (.int k) Z = match getL Z i with | some a => if -100000 ≤ k ∧ k ≤ 100000 ∧ a.length * k.toNat ≤ Lim then some (.loc Z.length,Z ++ [.lst (List.replicate k.toNat a).flatten]) else none | _ => none := (rfl)
@[simp] theorem div_ii (i j : Int) (Z : Sto) : gDiv (.int i) (.int j) Z = if 0 < j ∧ j < 2 ^ 200 then some (.int (i / j),Z) else none := (rfl)
@[simp] theorem mod_ii (i j : Int) (Z : Sto) : gMod (.int i) (.int j) Z = if 0 < j then some (.int (i % j),Z) else none := (rfl)
@[simp] theorem pow_ii (i j : Int) (Z : Sto) : gPow (.int i) (.int j) Z = if 0 ≤ j ∧ j ≤ 1000000 ∧ i.natAbs < 2 ^ 64 then some (.int (i ^ j.toNat),Z) else none := (rfl)
@[simp] theorem neg_i (i : Int) (Z : Sto) : gNeg (.int i) Z = some (.int (-i),Z) := (rfl)
@[simp] theorem eq_ii (i j : Int) (Z : Sto) : gEq (.int i) (.int j) Z = some (.bl (decide (i = j)),Z) := (rfl)
@[simp] theorem eq_ss (i j : List Nat) (Z : Sto) : gEq (.str i) (.str j) Z = some (.bl (decide (i = j)),Z) := (rfl)
@[simp] theorem eq_bb (i j : Bool) (Z : Sto) : gEq (.bl i) (.bl j) Z = some (.bl (decide (i = j)),Z) := (rfl)
@[simp] theorem ne_ii (i j : Int) (Z : Sto) : gNe (.int i) (.int j) Z = some (.bl (!decide (i = j)),Z) := (rfl)
@[simp] theorem ne_ss (i j : List Nat) (Z : Sto) : gNe (.str i) (.str j) Z = some (.bl (!decide (i = j)),Z) := (rfl)
@[simp] theorem ne_bb (i j : Bool) (Z : Sto) : gNe (.bl i) (.bl j) Z = some (.bl (!decide (i = j)),Z) := (rfl)
@[simp] theorem lt_ii (i j : Int) (Z : Sto) : gLt (.int i) (.int j) Z = some (.bl (decide (i < j)),Z) := (rfl)
@[simp] theorem lt_ss (i j : List Nat) (Z : Sto) : gLt (.str i) (.str j) Z = some (.bl (decide (i < j)),Z) := (rfl)
@[simp] theorem le_ii (i j : Int) (Z : Sto) : gLe (.int i) (.int j) Z = some (.bl (decide (i ≤ j)),Z) := (rfl)
@[simp] theorem gt_ii (i j : Int) (Z : Sto) : gGt (.int i) (.int j) Z = some (.bl (decide (j < i)),Z) := (rfl)
@[simp] theorem ge_ii (i j : Int) (Z : Sto) : gGe (.int i) (.int j) Z = some (.bl (decide (j ≤ i)),Z) := (rfl)
@[simp] theorem is_n (x : T) (Z : Sto) : gIs x .non Z = some (.bl (isNon x),Z) := by cases x <;> rfl
@[simp] theorem isNot_n (x : T) (Z : Sto) : gIsNot x .non Z = some (.bl (!isNon x),Z) := by cases x <;> rfl
@[simp] theorem ix_tup (ts : List T) (i : Int) (Z : Sto) : gIx (.tup ts) (.int i) Z = (atI ts i).map fun t => (t,Z) := (rfl)
@[simp] theorem ix_frl (ts : List T) (i : Int) (Z : Sto) : gIx (.frl ts) (.int i) Z = (atI ts i).map fun t => (t,Z) := (rfl)
@[simp] theorem Zl4 (n : Nat) (i : Int) (Z : Sto) : gIx (.loc n) (.int i) Z = match getL Z n with | some ts => (atI ts i).map fun t => (t,Z) | none => none := by
  simp only [gIx,asSeq,asList,getL]
  all_goals (cases Z[n]? with
    | none => rfl
    | some o => cases o <;> rfl)
@[simp] theorem ix_str (l : List Nat) (i : Int) (Z : Sto) : gIx (.str l) (.int i) Z = if l.length ≤ Lim then (atI l i).map fun c => (.str [c],Z) else none := (rfl)
@[simp] theorem sl_s (l : List Nat) (lo hi : Option Int) (Z : Sto) : gSl (.str l) lo hi Z = if l.length ≤ Lim then some (.str (cutL l lo hi),Z) else none := (rfl)
@[simp] theorem sl_t (l : List T) (lo hi : Option Int) (Z : Sto) : gSl (.tup l) lo hi Z = some (.tup (cutL l lo hi),Z) := (rfl)
@[simp] theorem sl_f (l : List T) (lo hi : Option Int) (Z : Sto) : gSl (.frl l) lo hi Z = some (.loc Z.length,Z ++ [.lst (cutL l lo hi)]) := (rfl)
@[simp] theorem sl_l (n : Nat) (lo hi : Option Int) (Z : Sto) : gSl (.loc n) lo hi Z = match getL Z n with | some ts => some (.loc Z.length,Z ++ [.lst (cutL ts lo hi)]) | none => none := by
  simp only [gSl,asList,getL]
  all_goals (cases Z[n]? with
    | none => rfl
    | some o => cases o <;> rfl)
@[simp] theorem len_s (l : List Nat) (Z : Sto) : gLen [.str l] Z = if l.length ≤ Lim then some (.int l.length,Z) else none := (rfl)
@[simp] theorem len_t (l : List T) (Z : Sto) : gLen [.tup l] Z = some (.int l.length,Z) := (rfl)
@[simp] theorem len_f (l : List T) (Z : Sto) : gLen [.frl l] Z = some (.int l.length,Z) := (rfl)
@[simp] theorem len_l (n : Nat) (Z : Sto) : gLen [.loc n] Z = match getL Z n with | some ts => some (.int ts.length,Z) | none => none := by
  simp only [gLen,asSeq,asList,getL]
  cases Z[n]? with
  | none => rfl
  | some o => cases o <;> rfl
@[simp] theorem max_ii (i j : Int) (Z : Sto) : gMax [.int i,.int j] Z = some (.int (if j > i then j else i),Z) := (rfl)
@[simp] theorem min_ii (i j : Int) (Z : Sto) : gMin [.int i,.int j] Z = some (.int (if j < i then j else i),Z) := (rfl)
@[simp] theorem int_i (i : Int) (Z : Sto) : gInt [.int i] Z = some (.int i,Z) := (rfl)
@[simp] theorem int_b (b : Bool) (Z : Sto) : gInt [.bl b] Z = some (.int (if b then 1 else 0),Z) := (rfl)
@[simp] theorem tuple_l (n : Nat) (Z : Sto) : gTuple [.loc n] Z = match getL Z n with | some ts => some (.tup ts,Z) | none => none := by
  simp only [gTuple,asList,getL]
  cases Z[n]? with
  | none => rfl
  | some o => cases o <;> rfl
@[simp] theorem Zl5 (n : Nat) (t : T) (Z : Sto) : gAppend (.loc n) [t] Z = match getL Z n with | some ts => if ts.length < Lim then some (.non,Z.set n (.lst (ts ++ [t]))) else none | none => none := (rfl)
@[simp] theorem set_l (n : Nat) (i : Int) (t : T) (Z : Sto) : gSetL (.loc n) (.int i) t Z = match getL Z n with | some ts => (ixN ts.length i).map fun m => Z.set n (.lst (ts.set m t)) | none => none := (rfl)
theorem Uu {Z : Sto} {i : Nat} {ts : List T} : getL Z i = some ts ↔ Z[i]? = some (.lst ts) := ⟨Yg,fun h => by unfold getL; rw [h]⟩
@[simp] theorem Zo (Z : Sto) (ts : List T) : getL (Z ++ [.lst ts]) Z.length = some ts := by simp [getL]
theorem Yj {Z Y : Sto} {i : Nat} {ts : List T} (h : getL Z i = some ts) : getL (Z ++ Y) i = some ts := by
  rw [Uu] at h ⊢
  rw [List.getElem?_append_left (List.getElem?_eq_some_iff.mp h).1]; exact h
theorem Xp {Z : Sto} {i : Nat} {ts us : List T} (h : getL Z i = some ts) : getL (Z.set i (.lst us)) i = some us := by
  rw [Uu] at h ⊢
  rw [List.getElem?_set_self (List.getElem?_eq_some_iff.mp h).1]
theorem Qv {Z : Sto} {i j : Nat} {o : O} (h : i ≠ j) : getL (Z.set i o) j = getL Z j := by unfold getL; rw [List.getElem?_set_ne h]
theorem Z8t {Z : Sto} {i : Nat} {ts : List T} (h : getL Z i = some ts) : i < Z.length := (List.getElem?_eq_some_iff.mp (Yg h)).1
theorem Zdd {Z : Sto} {i : Nat} {ts : List T} (h : getL Z i = some ts) : isTy "list" (.loc i) Z = true := by simp [isTy, Yg h]
@[simp] theorem isTy_s (l : List Nat) (Z : Sto) : isTy "str" (.str l) Z = true := (rfl)
@[simp] theorem atI_0 {α : Type} (a : α) (l : List α) : atI (a :: l) 0 = some a := by simp [atI,ixN]
@[simp] theorem atI_1 {α : Type} (a b : α) (l : List α) : atI (a :: b :: l) 1 = some b := by
  have h : (1 : Int) < ((a :: b :: l).length : Int) := by simp; omega
  simp only [atI,ixN]
  rw [if_pos (by decide),if_pos h]; rfl
@[simp] theorem atI_2 {α : Type} (a b c : α) (l : List α) : atI (a :: b :: c :: l) 2 = some c := by
  have h : (2 : Int) < ((a :: b :: c :: l).length : Int) := by simp; omega
  simp only [atI,ixN]
  rw [if_pos (by decide),if_pos h]; rfl
@[simp] theorem atI_3 {α : Type} (a b c d : α) (l : List α) : atI (a :: b :: c :: d :: l) 3 = some d := by
  have h : (3 : Int) < ((a :: b :: c :: d :: l).length : Int) := by simp; omega
  simp only [atI,ixN]
  rw [if_pos (by decide),if_pos h]; rfl
theorem atI_nat {α : Type} {l : List α} {k : Nat} {a : α} (h : l[k]? = some a) : atI l (k : Int) = some a := by
  have hk := (List.getElem?_eq_some_iff.mp h).1
  simp only [atI,ixN]
  rw [if_pos (Int.natCast_nonneg k),if_pos (by omega)]
  exact h
theorem ixN_nat {n k : Nat} (h : k < n) : ixN n (k : Int) = some k := by
  simp only [ixN]
  rw [if_pos (Int.natCast_nonneg k),if_pos (by omega)]; rfl
section
theorem kk (n : String) : True := trivial
@[simp] theorem kit_1 : kitB "int" "int" = some true := by decide +kernel
@[simp] theorem kit_2 : kitB "bool" "int" = some true := by decide +kernel
@[simp] theorem kit_3 : kitB "str" "int" = some false := by decide +kernel
@[simp] theorem kit_4 : kitB "NoneType" "int" = some false := by decide +kernel
@[simp] theorem kit_5 : kitB "tuple" "int" = some false := by decide +kernel
@[simp] theorem kit_6 : kitB "list" "int" = some false := by decide +kernel
@[simp] theorem kit_7 : kitB "dict" "int" = some false := by decide +kernel
@[simp] theorem kit_11 : kitB "int" "bool" = some false := by decide +kernel
@[simp] theorem kit_12 : kitB "bool" "bool" = some true := by decide +kernel
@[simp] theorem kit_13 : kitB "str" "bool" = some false := by decide +kernel
@[simp] theorem kit_14 : kitB "NoneType" "bool" = some false := by decide +kernel
@[simp] theorem kit_15 : kitB "tuple" "bool" = some false := by decide +kernel
@[simp] theorem kit_16 : kitB "list" "bool" = some false := by decide +kernel
@[simp] theorem kit_17 : kitB "dict" "bool" = some false := by decide +kernel
@[simp] theorem kit_21 : kitB "int" "str" = some false := by decide +kernel
@[simp] theorem kit_22 : kitB "bool" "str" = some false := by decide +kernel
@[simp] theorem kit_23 : kitB "str" "str" = some true := by decide +kernel
@[simp] theorem kit_24 : kitB "NoneType" "str" = some false := by decide +kernel
@[simp] theorem kit_25 : kitB "tuple" "str" = some false := by decide +kernel
@[simp] theorem kit_26 : kitB "list" "str" = some false := by decide +kernel
@[simp] theorem kit_27 : kitB "dict" "str" = some false := by decide +kernel
@[simp] theorem kit_31 : kitB "int" "tuple" = some false := by decide +kernel
@[simp] theorem kit_32 : kitB "bool" "tuple" = some false := by decide +kernel
@[simp] theorem kit_33 : kitB "str" "tuple" = some false := by decide +kernel
@[simp] theorem kit_34 : kitB "NoneType" "tuple" = some false := by decide +kernel
@[simp] theorem kit_35 : kitB "tuple" "tuple" = some true := by decide +kernel
@[simp] theorem kit_36 : kitB "list" "tuple" = some false := by decide +kernel
@[simp] theorem kit_37 : kitB "dict" "tuple" = some false := by decide +kernel
@[simp] theorem kit_41 : kitB "int" "list" = some false := by decide +kernel
@[simp] theorem kit_42 : kitB "bool" "list" = some false := by decide +kernel
@[simp] theorem kit_43 : kitB "str" "list" = some false := by decide +kernel
@[simp] theorem kit_44 : kitB "NoneType" "list" = some false := by decide +kernel
@[simp] theorem kit_45 : kitB "tuple" "list" = some false := by decide +kernel
@[simp] theorem kit_46 : kitB "list" "list" = some true := by decide +kernel
@[simp] theorem kit_47 : kitB "dict" "list" = some false := by decide +kernel
@[simp] theorem kit_51 : kitB "int" "dict" = some false := by decide +kernel
@[simp] theorem kit_52 : kitB "bool" "dict" = some false := by decide +kernel
@[simp] theorem kit_53 : kitB "str" "dict" = some false := by decide +kernel
@[simp] theorem kit_54 : kitB "NoneType" "dict" = some false := by decide +kernel
@[simp] theorem kit_55 : kitB "tuple" "dict" = some false := by decide +kernel
@[simp] theorem kit_56 : kitB "list" "dict" = some false := by decide +kernel
@[simp] theorem kit_57 : kitB "dict" "dict" = some true := by decide +kernel
end
@[simp] theorem ty_non (Z : Sto) : tyT .non Z = some "NoneType" := (rfl)
@[simp] theorem ty_bl (b : Bool) (Z : Sto) : tyT (.bl b) Z = some "bool" := (rfl)
@[simp] theorem ty_int (b : Int) (Z : Sto) : tyT (.int b) Z = some "int" := (rfl)
@[simp] theorem ty_str (b : List Nat) (Z : Sto) : tyT (.str b) Z = some "str" := (rfl)
@[simp] theorem ty_tup (b : List T) (Z : Sto) : tyT (.tup b) Z = some "tuple" := (rfl)
@[simp] theorem ty_frl (b : List T) (Z : Sto) : tyT (.frl b) Z = some "list" := (rfl)
@[simp] theorem isiB (t : T) (n : String) (Z : Sto) : gIsiB t (.ty n) Z = (tyT t Z).bind fun a => kitB a n := by
  simp only [gIsiB,clsT]
  cases tyT t Z <;> rfl
@[simp] theorem Zbr (t : T) (n : String) (Z : Sto) : gIsi [t,.ty n] Z = ((tyT t Z).bind fun a => kitB a n).map fun b => (.bl b,Z) := by
  simp only [gIsi,isiB]
@[simp] theorem isi_2 (t : T) (n m : String) (Z : Sto) : gIsi [t,.tup [.ty n,.ty m]] Z = if (tyT t Z).isSome = true then (((tyT t Z).bind fun a => kitB a n).bind fun b => ((tyT t Z).bind fun a => kitB a m).map fun c => (.bl (b || c),Z)) else none := by
  simp only [gIsi,List.mapM_cons,List.mapM_nil,isiB]
  cases tyT t Z with
  | none => rfl
  | some a =>
    simp only [Option.bind_some,Option.isSome_some,if_true]
    cases kitB a n <;> cases kitB a m <;> simp
def loopF (body : T → FS) : List T → Env → Sto → RS
  | [],ρ,Z => .nx ρ Z
  | t :: ts, ρ, Z => seqL (body t ρ Z) fun ρ' Z' => loopF body ts ρ' Z'
theorem Z76 (lo : Int) (m : Nat) (body : T → FS) : ∀ (n k : Nat) (ρ : Env) (Z : Sto), m < n + k → k ≤ m → loopN (itRng lo m) body n k ρ Z = loopF body ((List.range' k (m - k)).map fun (i : Nat) => T.int (lo + (i : Int))) ρ Z
  | 0,k,ρ,Z,h,_ => by omega
  | n + 1,k,ρ,Z,h,_ => by
    unfold loopN
    simp only [itRng]
    by_cases hk : k < m
    · rw [if_pos hk]
      have e : m - k = (m - (k + 1)) + 1 := by omega
      rw [e, List.range'_succ, List.map_cons]
      simp only [loopF]
      congr 1
      funext ρ' Z'
      exact Z76 lo m body n (k + 1) ρ' Z' (by omega) hk
    · rw [if_neg hk]
      have : m - k = 0 := by omega
      rw [this]; rfl
theorem Z77 {body : T → FS} {ts : List T} (I : List T → Env → Sto → Prop) (Rt : T → Sto → Prop) : ∀ {pre : List T} {post : List T} {ρ : Env} {Z : Sto},ts = pre ++ post → I pre ρ Z →
    (∀ pre x post ρ Z, ts = pre ++ x :: post → I pre ρ Z → (∃ ρ' Z', (body x ρ Z = .nx ρ' Z' ∨ body x ρ Z = .ct ρ' Z') ∧ I (pre ++ [x]) ρ' Z') ∨ (∃ t Z', body x ρ Z = .rt t Z' ∧ Rt t Z')) →
    (∃ ρ' Z', loopF body post ρ Z = .nx ρ' Z' ∧ I ts ρ' Z') ∨ (∃ t Z', loopF body post ρ Z = .rt t Z' ∧ Rt t Z') := by
  intro pre post
  induction post generalizing pre with
  | nil =>
    intro ρ Z e i _
    rw [List.append_nil] at e
    exact .inl ⟨ρ,Z,rfl,by rw [e]; exact i⟩
  | cons x post ih =>
    intro ρ Z e i h
    rcases h pre x post ρ Z e i with ⟨ρ', Z', hb, i'⟩ | ⟨t, Z', hb, hr⟩
    · have e2 : loopF body (x :: post) ρ Z = loopF body post ρ' Z' := by
        rcases hb with hb | hb <;> simp only [loopF,hb,Z3c,Zcp]
      rw [e2]
      exact ih (by rw [e, List.append_assoc]; rfl) i' h
    · refine .inr ⟨t, Z', ?_, hr⟩
      simp only [loopF,hb,Zcq]
theorem Zde {body : T → FS} {ts : List T} (I : List T → Env → Sto → Prop) {ρ : Env} {Z : Sto} (h0 : I [] ρ Z) (h : ∀ pre x post ρ Z, ts = pre ++ x :: post → I pre ρ Z → ∃ ρ' Z', (body x ρ Z = .nx ρ' Z' ∨ body x ρ Z = .ct ρ' Z') ∧ I (pre ++ [x]) ρ' Z') :
    ∃ ρ' Z', loopF body ts ρ Z = .nx ρ' Z' ∧ I ts ρ' Z' := by
  rcases Z77 I (fun _ _ => False) (pre := []) (post := ts) rfl h0 (fun pre x post ρ Z e i => .inl (h pre x post ρ Z e i)) with h | ⟨_,_,_,h⟩
  · exact h
  · exact h.elim
@[simp] theorem mulOk_r (i j : Int) (h1 : -(2 ^ 64) < j) (h2 : j < 2 ^ 64) : mulOk i j = true := by simp only [mulOk,decide_eq_true h1,decide_eq_true h2,Bool.and_true,Bool.or_true]
@[simp] theorem Zim (i j : Int) (h1 : -(2 ^ 64) < i) (h2 : i < 2 ^ 64) : mulOk i j = true := by simp only [mulOk,decide_eq_true h1,decide_eq_true h2,Bool.and_true,Bool.true_or]
@[simp] theorem Z5e (x y m : Int) (h1 : 0 < m) (h2 : m ≤ 2 ^ 64) : mulOk (x % m) y = true := Zim _ _ (by have := Int.emod_nonneg x (Int.ne_of_gt h1); omega) (by have := Int.emod_lt_of_pos x h1; omega)
@[simp] theorem ixN3_0 : ixN 3 0 = some 0 := (rfl)
@[simp] theorem ixN3_1 : ixN 3 1 = some 1 := (rfl)
@[simp] theorem ixN3_2 : ixN 3 2 = some 2 := (rfl)
theorem modN (x : Int) {n : Nat} (h : 0 < n) : ∃ r : Nat,r < n ∧ x % (n : Int) = (r : Int) :=
  ⟨(x % n).toNat,by have := Int.emod_lt_of_pos x (by omega : (0 : Int) < n); have := Int.emod_nonneg x (by omega : (n : Int) ≠ 0); omega,by have := Int.emod_nonneg x (by omega : (n : Int) ≠ 0); omega⟩
def StayL (i : Nat) (us : List T) (body : T → FS) : List T → Env → Sto → Prop
  | [],_,Z => getL Z i = some us
  | t :: r,ρ,Z => getL Z i = some us ∧ match body t ρ Z with
    | .nx ρ' Z' => StayL i us body r ρ' Z'
    | .ct ρ' Z' => StayL i us body r ρ' Z'
    | _ => True
theorem Z23 {i : Nat} {ts : List T} {body : T → FS} : ∀ (n k : Nat) (ρ : Env) (Z : Sto),ts.length < n + k → k ≤ ts.length → StayL i ts body (ts.drop k) ρ Z → loopN (itLoc i) body n k ρ Z = loopF body (ts.drop k) ρ Z
  | 0,k,ρ,Z,h,_,_ => by omega
  | n + 1,k,ρ,Z,h,_,hs => by
    unfold loopN
    cases e : ts[k]? with
    | none =>
      rw [List.drop_of_length_le (List.getElem?_eq_none_iff.mp e)] at hs ⊢
      simp only [itLoc,show getL Z i = some ts from hs,Option.map_some,e]; rfl
    | some t =>
      have hk := (List.getElem?_eq_some_iff.mp e).1
      have e2 : ts[k] = t := (List.getElem?_eq_some_iff.mp e).2
      rw [List.drop_eq_getElem_cons hk,e2] at hs ⊢
      obtain ⟨h1,h2⟩ := hs
      simp only [itLoc,h1,Option.map_some,e,loopF]
      cases eb : body t ρ Z with
      | nx ρ' Z' => rw [eb] at h2; simp only [Z3c]; exact Z23 n (k + 1) ρ' Z' (by omega) hk h2
      | ct ρ' Z' => rw [eb] at h2; simp only [Zcp]; exact Z23 n (k + 1) ρ' Z' (by omega) hk h2
      | _ => rfl
theorem Zbs {i : Nat} {ts : List T} {body : T → FS} {ρ : Env} {Z : Sto} (h : ts.length ≤ Lim) (hs : StayL i ts body ts ρ Z) : loopN (itLoc i) body Fuel 0 ρ Z = loopF body ts ρ Z := by
  rw [Vw]; exact Z23 (ts := ts) (Lim + 2) 0 ρ Z (by omega) (Nat.zero_le _) hs
theorem Zbt {lo : Int} {m : Nat} {body : T → FS} {ρ : Env} {Z : Sto} (h : m ≤ Lim) : loopN (itRng lo m) body Fuel 0 ρ Z = loopF body ((List.range m).map fun (i : Nat) => T.int (lo + (i : Int))) ρ Z := by
  rw [Vw, Z76 lo m body (Lim + 2) 0 ρ Z (by omega) (Nat.zero_le _), Nat.sub_zero, List.range_eq_range']
end Fx
set_option maxHeartbeats 4000000
namespace Fx
open PySem PySem.Spec PyProof.Rows L2 SX Ap
def Wel (Z : Sto) (w : Nat) : Prop := ∃ a b c : Int,getL Z w = some [.int a,.int b,.int c]
structure Kp (w : Nat) (Z Z' : Sto) : Prop where
  wel : Wel Z' w
  len : Z.length ≤ Z'.length
  keep : ∀ i, i < Z.length → i ≠ w → Z'[i]? = Z[i]?
theorem Wel.lt {Z : Sto} {w : Nat} (h : Wel Z w) : w < Z.length := by obtain ⟨_,_,_,h⟩ := h; exact Z8t h
theorem Kp.refl {w : Nat} {Z : Sto} (h : Wel Z w) : Kp w Z Z := ⟨h,Nat.le_refl _,fun _ _ _ => rfl⟩
theorem Kp.trans {w : Nat} {Z Z1 Z2 : Sto} (a : Kp w Z Z1) (b : Kp w Z1 Z2) : Kp w Z Z2 :=
  ⟨b.wel,Nat.le_trans a.len b.len,fun i hi hn => (b.keep i (Nat.lt_of_lt_of_le hi a.len) hn).trans (a.keep i hi hn)⟩
theorem Kp.new {w : Nat} {Z Y : Sto} (h : Wel Z w) : Kp w Z (Z ++ Y) := by
  refine ⟨?_,by rw [List.length_append]; omega,fun i hi _ => List.getElem?_append_left hi⟩
  obtain ⟨a,b,c,e⟩ := h
  exact ⟨a,b,c,Yj e⟩
theorem Kp.turn {w : Nat} {Z : Sto} {a b c : Int} (h : Wel Z w) : Kp w Z (Z.set w (.lst [.int a,.int b,.int c])) := by
  obtain ⟨x,y,z,e⟩ := h
  exact ⟨⟨a,b,c,Xp e⟩,by rw [List.length_set]; omega,fun i _ hn => List.getElem?_set_ne (Ne.symm hn)⟩
theorem Kp.set {w i : Nat} {Z : Sto} {o : O} (h : Wel Z w) (hi : i ≠ w) : Wel (Z.set i o) w := by
  obtain ⟨x,y,z,e⟩ := h
  exact ⟨x,y,z,by rw [Qv hi]; exact e⟩
theorem Kp.getL {w i : Nat} {Z Z' : Sto} {ts : List T} (k : Kp w Z Z') (hn : i ≠ w) (h : getL Z i = some ts) : getL Z' i = some ts := by
  rw [Uu] at h ⊢
  rw [k.keep i (List.getElem?_eq_some_iff.mp h).1 hn]; exact h
@[simp] theorem Zfk (Z Y : Sto) (k : Nat) : getL (Z ++ Y) (Z.length + k) = getL Y k := by
  unfold getL
  rw [List.getElem?_append_right (by omega),Nat.add_sub_cancel_left]
@[simp] theorem Zl6 (Z Y : Sto) : getL (Z ++ Y) Z.length = getL Y 0 := Zfk Z Y 0
@[simp] theorem getL_c0 (ts : List T) (Y : Sto) : getL (.lst ts :: Y) 0 = some ts := (rfl)
@[simp] theorem getL_cS (o : O) (Y : Sto) (k : Nat) : getL (o :: Y) (k + 1) = getL Y k := (rfl)
@[simp] theorem getL_c1 (o : O) (Y : Sto) : getL (o :: Y) 1 = getL Y 0 := (rfl)
@[simp] theorem getL_c2 (o : O) (Y : Sto) : getL (o :: Y) 2 = getL Y 1 := (rfl)
@[simp] theorem getL_c3 (o : O) (Y : Sto) : getL (o :: Y) 3 = getL Y 2 := (rfl)
@[simp] theorem getL_c4 (o : O) (Y : Sto) : getL (o :: Y) 4 = getL Y 3 := (rfl)
@[simp] theorem getL_c5 (o : O) (Y : Sto) : getL (o :: Y) 5 = getL Y 4 := (rfl)
@[simp] theorem getL_c6 (o : O) (Y : Sto) : getL (o :: Y) 6 = getL Y 5 := (rfl)
@[simp] theorem getL_c7 (o : O) (Y : Sto) : getL (o :: Y) 7 = getL Y 6 := (rfl)
@[simp] theorem getL_c8 (o : O) (Y : Sto) : getL (o :: Y) 8 = getL Y 7 := (rfl)
@[simp] theorem getL_c9 (o : O) (Y : Sto) : getL (o :: Y) 9 = getL Y 8 := (rfl)
@[simp] theorem getL_c10 (o : O) (Y : Sto) : getL (o :: Y) 10 = getL Y 9 := (rfl)
@[simp] theorem getL_c11 (o : O) (Y : Sto) : getL (o :: Y) 11 = getL Y 10 := (rfl)
@[simp] theorem getL_c12 (o : O) (Y : Sto) : getL (o :: Y) 12 = getL Y 11 := (rfl)
@[simp] theorem Zin (Z Y : Sto) (k : Nat) (o : O) : (Z ++ Y).set (Z.length + k) o = Z ++ Y.set k o := by
  rw [List.set_append_right _ _ (by omega),Nat.add_sub_cancel_left]
@[simp] theorem set_add0 (Z Y : Sto) (o : O) : (Z ++ Y).set Z.length o = Z ++ Y.set 0 o := Zin Z Y 0 o
@[simp] theorem Zfl (n : String) (Z Y : Sto) (k : Nat) : isTy n (.loc (Z.length + k)) (Z ++ Y) = isTy n (.loc k) Y := by
  simp only [isTy]
  rw [List.getElem?_append_right (by omega),Nat.add_sub_cancel_left]
@[simp] theorem Zl7 (n : String) (Z Y : Sto) : isTy n (.loc Z.length) (Z ++ Y) = isTy n (.loc 0) Y := Zfl n Z Y 0
@[simp] theorem Zio (Z Y : Sto) (k : Nat) : tyT (.loc (Z.length + k)) (Z ++ Y) = tyT (.loc k) Y := by
  simp only [tyT]
  rw [List.getElem?_append_right (by omega),Nat.add_sub_cancel_left]
@[simp] theorem tyT_add0 (Z Y : Sto) : tyT (.loc Z.length) (Z ++ Y) = tyT (.loc 0) Y := Zio Z Y 0
def OkW (r : R T) (P : T → Sto → Prop) : Prop := match r with
  | .ok t Z => P t Z
  | _ => False
@[simp] theorem okW_ok (t : T) (Z : Sto) (P : T → Sto → Prop) : OkW (.ok t Z) P = P t Z := (rfl)
theorem OkW.out {r : R T} {P : T → Sto → Prop} (h : OkW r P) : ∃ t Z,r = .ok t Z ∧ P t Z := by
  cases r with
  | ok t Z => exact ⟨t,Z,rfl,h⟩
  | _ => exact h.elim
@[simp] theorem lim_0 : (0 ≤ Lim) := by decide
@[simp] theorem limlt_0 : (0 < Lim) := by decide
@[simp] theorem lim_1 : (1 ≤ Lim) := by decide
@[simp] theorem limlt_1 : (1 < Lim) := by decide
@[simp] theorem lim_2 : (2 ≤ Lim) := by decide
@[simp] theorem limlt_2 : (2 < Lim) := by decide
@[simp] theorem lim_3 : (3 ≤ Lim) := by decide
@[simp] theorem limlt_3 : (3 < Lim) := by decide
@[simp] theorem lim_4 : (4 ≤ Lim) := by decide
@[simp] theorem limlt_4 : (4 < Lim) := by decide
@[simp] theorem lim_5 : (5 ≤ Lim) := by decide
@[simp] theorem limlt_5 : (5 < Lim) := by decide
@[simp] theorem lim_6 : (6 ≤ Lim) := by decide
@[simp] theorem limlt_6 : (6 < Lim) := by decide
@[simp] theorem lim_7 : (7 ≤ Lim) := by decide
@[simp] theorem limlt_7 : (7 < Lim) := by decide
@[simp] theorem lim_8 : (8 ≤ Lim) := by decide
@[simp] theorem limlt_8 : (8 < Lim) := by decide
@[simp] theorem lim_9 : (9 ≤ Lim) := by decide
@[simp] theorem limlt_9 : (9 < Lim) := by decide
@[simp] theorem lim_10 : (10 ≤ Lim) := by decide
@[simp] theorem limlt_10 : (10 < Lim) := by decide
@[simp] theorem lim_11 : (11 ≤ Lim) := by decide
@[simp] theorem limlt_11 : (11 < Lim) := by decide
@[simp] theorem lim_12 : (12 ≤ Lim) := by decide
@[simp] theorem limlt_12 : (12 < Lim) := by decide
@[simp] theorem lim_13 : (13 ≤ Lim) := by decide
@[simp] theorem limlt_13 : (13 < Lim) := by decide
@[simp] theorem lim_14 : (14 ≤ Lim) := by decide
@[simp] theorem limlt_14 : (14 < Lim) := by decide
@[simp] theorem lim_15 : (15 ≤ Lim) := by decide
@[simp] theorem limlt_15 : (15 < Lim) := by decide
@[simp] theorem lim_16 : (16 ≤ Lim) := by decide
@[simp] theorem limlt_16 : (16 < Lim) := by decide
@[simp] theorem lim_17 : (17 ≤ Lim) := by decide
@[simp] theorem limlt_17 : (17 < Lim) := by decide
@[simp] theorem lim_18 : (18 ≤ Lim) := by decide
@[simp] theorem limlt_18 : (18 < Lim) := by decide
@[simp] theorem lim_19 : (19 ≤ Lim) := by decide
@[simp] theorem limlt_19 : (19 < Lim) := by decide
@[simp] theorem lim_20 : (20 ≤ Lim) := by decide
@[simp] theorem limlt_20 : (20 < Lim) := by decide
@[simp] theorem lim_21 : (21 ≤ Lim) := by decide
@[simp] theorem limlt_21 : (21 < Lim) := by decide
@[simp] theorem lim_22 : (22 ≤ Lim) := by decide
@[simp] theorem limlt_22 : (22 < Lim) := by decide
@[simp] theorem lim_23 : (23 ≤ Lim) := by decide
@[simp] theorem limlt_23 : (23 < Lim) := by decide
@[simp] theorem lim_24 : (24 ≤ Lim) := by decide
@[simp] theorem limlt_24 : (24 < Lim) := by decide
@[simp] theorem lim_25 : (25 ≤ Lim) := by decide
@[simp] theorem limlt_25 : (25 < Lim) := by decide
@[simp] theorem lim_26 : (26 ≤ Lim) := by decide
@[simp] theorem limlt_26 : (26 < Lim) := by decide
@[simp] theorem lim_27 : (27 ≤ Lim) := by decide
@[simp] theorem limlt_27 : (27 < Lim) := by decide
@[simp] theorem lim_28 : (28 ≤ Lim) := by decide
@[simp] theorem limlt_28 : (28 < Lim) := by decide
@[simp] theorem lim_29 : (29 ≤ Lim) := by decide
@[simp] theorem limlt_29 : (29 < Lim) := by decide
@[simp] theorem lim_30 : (30 ≤ Lim) := by decide
@[simp] theorem limlt_30 : (30 < Lim) := by decide
@[simp] theorem lim_31 : (31 ≤ Lim) := by decide
@[simp] theorem limlt_31 : (31 < Lim) := by decide
@[simp] theorem lim_32 : (32 ≤ Lim) := by decide
@[simp] theorem limlt_32 : (32 < Lim) := by decide
@[simp] theorem lim_33 : (33 ≤ Lim) := by decide
@[simp] theorem limlt_33 : (33 < Lim) := by decide
@[simp] theorem lim_34 : (34 ≤ Lim) := by decide
@[simp] theorem limlt_34 : (34 < Lim) := by decide
@[simp] theorem lim_35 : (35 ≤ Lim) := by decide
@[simp] theorem limlt_35 : (35 < Lim) := by decide
@[simp] theorem lim_36 : (36 ≤ Lim) := by decide
@[simp] theorem limlt_36 : (36 < Lim) := by decide
@[simp] theorem lim_37 : (37 ≤ Lim) := by decide
@[simp] theorem limlt_37 : (37 < Lim) := by decide
@[simp] theorem lim_38 : (38 ≤ Lim) := by decide
@[simp] theorem limlt_38 : (38 < Lim) := by decide
@[simp] theorem lim_39 : (39 ≤ Lim) := by decide
@[simp] theorem limlt_39 : (39 < Lim) := by decide
@[simp] theorem lim_40 : (40 ≤ Lim) := by decide
@[simp] theorem limlt_40 : (40 < Lim) := by decide
@[simp] theorem lim_41 : (41 ≤ Lim) := by decide
@[simp] theorem limlt_41 : (41 < Lim) := by decide
@[simp] theorem lim_42 : (42 ≤ Lim) := by decide
@[simp] theorem limlt_42 : (42 < Lim) := by decide
@[simp] theorem lim_43 : (43 ≤ Lim) := by decide
@[simp] theorem limlt_43 : (43 < Lim) := by decide
@[simp] theorem lim_44 : (44 ≤ Lim) := by decide
@[simp] theorem limlt_44 : (44 < Lim) := by decide
@[simp] theorem lim_45 : (45 ≤ Lim) := by decide
@[simp] theorem limlt_45 : (45 < Lim) := by decide
@[simp] theorem lim_46 : (46 ≤ Lim) := by decide
@[simp] theorem limlt_46 : (46 < Lim) := by decide
@[simp] theorem lim_47 : (47 ≤ Lim) := by decide
@[simp] theorem limlt_47 : (47 < Lim) := by decide
@[simp] theorem lim_48 : (48 ≤ Lim) := by decide
@[simp] theorem limlt_48 : (48 < Lim) := by decide
@[simp] theorem isTy_c1 (n : String) (o : O) (Y : Sto) : isTy n (.loc 1) (o :: Y) = isTy n (.loc 0) Y := (rfl)
@[simp] theorem isTy_c2 (n : String) (o : O) (Y : Sto) : isTy n (.loc 2) (o :: Y) = isTy n (.loc 1) Y := (rfl)
@[simp] theorem isTy_c3 (n : String) (o : O) (Y : Sto) : isTy n (.loc 3) (o :: Y) = isTy n (.loc 2) Y := (rfl)
@[simp] theorem isTy_c4 (n : String) (o : O) (Y : Sto) : isTy n (.loc 4) (o :: Y) = isTy n (.loc 3) Y := (rfl)
@[simp] theorem isTy_c5 (n : String) (o : O) (Y : Sto) : isTy n (.loc 5) (o :: Y) = isTy n (.loc 4) Y := (rfl)
@[simp] theorem isTy_c6 (n : String) (o : O) (Y : Sto) : isTy n (.loc 6) (o :: Y) = isTy n (.loc 5) Y := (rfl)
@[simp] theorem isTy_c7 (n : String) (o : O) (Y : Sto) : isTy n (.loc 7) (o :: Y) = isTy n (.loc 6) Y := (rfl)
@[simp] theorem isTy_c8 (n : String) (o : O) (Y : Sto) : isTy n (.loc 8) (o :: Y) = isTy n (.loc 7) Y := (rfl)
@[simp] theorem isTy_c9 (n : String) (o : O) (Y : Sto) : isTy n (.loc 9) (o :: Y) = isTy n (.loc 8) Y := (rfl)
@[simp] theorem isTy_c10 (n : String) (o : O) (Y : Sto) : isTy n (.loc 10) (o :: Y) = isTy n (.loc 9) Y := (rfl)
@[simp] theorem isTy_c11 (n : String) (o : O) (Y : Sto) : isTy n (.loc 11) (o :: Y) = isTy n (.loc 10) Y := (rfl)
@[simp] theorem isTy_c12 (n : String) (o : O) (Y : Sto) : isTy n (.loc 12) (o :: Y) = isTy n (.loc 11) Y := (rfl)
@[simp] theorem tyT_c1 (o : O) (Y : Sto) : tyT (.loc 1) (o :: Y) = tyT (.loc 0) Y := (rfl)
@[simp] theorem tyT_c2 (o : O) (Y : Sto) : tyT (.loc 2) (o :: Y) = tyT (.loc 1) Y := (rfl)
@[simp] theorem tyT_c3 (o : O) (Y : Sto) : tyT (.loc 3) (o :: Y) = tyT (.loc 2) Y := (rfl)
@[simp] theorem tyT_c4 (o : O) (Y : Sto) : tyT (.loc 4) (o :: Y) = tyT (.loc 3) Y := (rfl)
@[simp] theorem tyT_c5 (o : O) (Y : Sto) : tyT (.loc 5) (o :: Y) = tyT (.loc 4) Y := (rfl)
@[simp] theorem tyT_c6 (o : O) (Y : Sto) : tyT (.loc 6) (o :: Y) = tyT (.loc 5) Y := (rfl)
@[simp] theorem tyT_c7 (o : O) (Y : Sto) : tyT (.loc 7) (o :: Y) = tyT (.loc 6) Y := (rfl)
@[simp] theorem tyT_c8 (o : O) (Y : Sto) : tyT (.loc 8) (o :: Y) = tyT (.loc 7) Y := (rfl)
@[simp] theorem tyT_c9 (o : O) (Y : Sto) : tyT (.loc 9) (o :: Y) = tyT (.loc 8) Y := (rfl)
@[simp] theorem tyT_c10 (o : O) (Y : Sto) : tyT (.loc 10) (o :: Y) = tyT (.loc 9) Y := (rfl)
@[simp] theorem tyT_c11 (o : O) (Y : Sto) : tyT (.loc 11) (o :: Y) = tyT (.loc 10) Y := (rfl)
@[simp] theorem tyT_c12 (o : O) (Y : Sto) : tyT (.loc 12) (o :: Y) = tyT (.loc 11) Y := (rfl)
@[simp] theorem isTy_c0 (ts : List T) (Y : Sto) : isTy "list" (.loc 0) (.lst ts :: Y) = true := (rfl)
@[simp] theorem tyT_c0 (ts : List T) (Y : Sto) : tyT (.loc 0) (.lst ts :: Y) = some "list" := (rfl)
@[simp] theorem tyT_c0k (ts : List (Key × T)) (Y : Sto) : tyT (.loc 0) (.dk ts :: Y) = some "dict" := (rfl)
abbrev StepI (body : T → FS) (ts : List T) (I : List T → Env → Sto → Prop) (Rt : T → Sto → Prop) : Prop :=
  ∀ pre x post ρ Z, ts = pre ++ x :: post → I pre ρ Z → (∃ ρ' Z', (body x ρ Z = .nx ρ' Z' ∨ body x ρ Z = .ct ρ' Z') ∧ I (pre ++ [x]) ρ' Z') ∨ (∃ t Z', body x ρ Z = .rt t Z' ∧ Rt t Z')
theorem Zab {i : Nat} {ts : List T} {body : T → FS} {I : List T → Env → Sto → Prop} {Rt : T → Sto → Prop} (hI : ∀ pre ρ Z,I pre ρ Z → getL Z i = some ts) (h : StepI body ts I Rt) : ∀ (post : List T) {pre : List T} {ρ : Env} {Z : Sto},ts = pre ++ post → I pre ρ Z → StayL i ts body post ρ Z
  | [],pre,ρ,Z,e,k => hI _ _ _ k
  | x :: post,pre,ρ,Z,e,k => by
    refine ⟨hI _ _ _ k,?_⟩
    rcases h pre x post ρ Z e k with ⟨ρ', Z', hb, k'⟩ | ⟨t, Z', hb, _⟩
    · have := Zab hI h post (by rw [e, List.append_assoc]; rfl) k'
      rcases hb with hb | hb <;> rw [hb] <;> exact this
    · rw [hb]; trivial
theorem Zdf {i : Nat} {ts : List T} {body : T → FS} {ρ : Env} {Z : Sto} (I : List T → Env → Sto → Prop) (Rt : T → Sto → Prop) (hl : ts.length ≤ Lim) (hI : ∀ pre ρ Z,I pre ρ Z → getL Z i = some ts) (h0 : I [] ρ Z) (h : StepI body ts I Rt) :
    (∃ ρ' Z', loopN (itLoc i) body Fuel 0 ρ Z = .nx ρ' Z' ∧ I ts ρ' Z') ∨ (∃ t Z', loopN (itLoc i) body Fuel 0 ρ Z = .rt t Z' ∧ Rt t Z') := by
  rw [Zbs hl (Zab hI h ts rfl h0)]
  exact Z77 I Rt (pre := []) rfl h0 h
theorem Zdg {i : Nat} {ts : List T} {body : T → FS} {ρ : Env} {Z : Sto} (I : Env → Sto → Prop) (hl : ts.length ≤ Lim) (hI : ∀ ρ Z, I ρ Z → getL Z i = some ts) (h0 : I ρ Z) (h : ∀ x ∈ ts, ∀ ρ Z, I ρ Z → ∃ ρ' Z', body x ρ Z = .nx ρ' Z' ∧ I ρ' Z') :
    ∃ ρ' Z', loopN (itLoc i) body Fuel 0 ρ Z = .nx ρ' Z' ∧ I ρ' Z' := by
  rcases Zdf (ts := ts) (fun _ => I) (fun _ _ => False) hl (fun _ => hI) h0 (fun pre x post ρ Z e k => by
    obtain ⟨ρ', Z', hb, k'⟩ := h x (by rw [e]; simp) ρ Z k
    exact .inl ⟨ρ', Z', .inl hb, k'⟩) with r | ⟨_, _, _, r⟩
  · exact r
  · exact r.elim
end Fx
set_option maxHeartbeats 4000000
namespace Fx
open PySem PySem.Spec PyProof.Rows L2 SX Ap
theorem Z24 {it : ItF} {D : Nat} {put : T → Option Env} {c : FT} {e : FE} {ts : List T} (I : List T → List T → Sto → Prop) (hit : ∀ pre acc Z,pre.length ≤ ts.length → I pre acc Z → it pre.length Z = some ts[pre.length]?) (hI : ∀ pre acc Z,I pre acc Z → getL Z D = some acc)
    (h : ∀ pre x post acc Z,ts = pre ++ x :: post → I pre acc Z → ∃ ρ,put x = some ρ ∧ ((∃ Z1,c ρ Z = .ok false Z1 ∧ I (pre ++ [x]) acc Z1) ∨ ∃ Z1 y Z2,c ρ Z = .ok true Z1 ∧ e ρ Z1 = .ok y Z2 ∧ getL Z2 D = some acc ∧ I (pre ++ [x]) (acc ++ [y]) (Z2.set D (.lst (acc ++ [y]))))) :
    ∀ (post pre acc : List T) (Z : Sto) (n : Nat), ts = pre ++ post → ts.length < n + pre.length → acc.length + post.length ≤ Lim → I pre acc Z → ∃ acc' Z', loopC it D put c e n pre.length Z = .ok (.loc D) Z' ∧ I ts acc' Z'
  | [],pre,acc,Z,n,et,hn,hl,hi => by
    rw [List.append_nil] at et
    subst et
    cases n with
    | zero => omega
    | succ n =>
      refine ⟨acc,Z,?_,hi⟩
      unfold loopC
      rw [hit _ _ _ (Nat.le_refl _) hi,List.getElem?_eq_none (Nat.le_refl _)]
  | x :: post,pre,acc,Z,n,et,hn,hl,hi => by
    cases n with
    | zero =>
      have : ts.length = pre.length + (post.length + 1) := by rw [et,List.length_append,List.length_cons]
      omega
    | succ n =>
      have hlen : ts.length = pre.length + (post.length + 1) := by rw [et,List.length_append,List.length_cons]
      have hx : ts[pre.length]? = some x := by rw [et,List.getElem?_append_right (Nat.le_refl _),Nat.sub_self]; rfl
      obtain ⟨ρ,hp,hh⟩ := h pre x post acc Z et hi
      have et2 : ts = (pre ++ [x]) ++ post := by rw [et,List.append_assoc]; rfl
      have hl2 : (pre ++ [x]).length = pre.length + 1 := by rw [List.length_append]; rfl
      unfold loopC
      rw [hit _ _ _ (by omega) hi,hx]
      simp only [hp]
      rcases hh with ⟨Z1,hc,i1⟩ | ⟨Z1,y,Z2,hc,he,hg,i1⟩
      · rw [hc]
        simp only [Z5d,Zv,Bool.false_eq_true,if_false]
        rw [List.length_cons] at hl
        have := Z24 I hit hI h post (pre ++ [x]) acc Z1 n et2 (by omega) (by omega) i1
        rw [hl2] at this
        exact this
      · rw [hc]
        rw [List.length_cons] at hl
        simp only [Z5d,Zv,if_true,he,hg]
        rw [if_pos (by omega)]
        have := Z24 I hit hI h post (pre ++ [x]) (acc ++ [y]) _ n et2 (by omega) (by rw [List.length_append,List.length_singleton]; omega) i1
        rw [hl2] at this
        exact this
theorem Z40 {it : ItF} {D : Nat} {put : T → Option Env} {c : FT} {e : FE} {ts : List T} (hit : ∀ k Z,k ≤ ts.length → it k Z = some ts[k]?) (I : List T → List T → Sto → Prop) (hI : ∀ pre acc Z,I pre acc Z → getL Z D = some acc)
    (h : ∀ pre x post acc Z, ts = pre ++ x :: post → I pre acc Z → ∃ ρ, put x = some ρ ∧ ((∃ Z1, c ρ Z = .ok false Z1 ∧ I (pre ++ [x]) acc Z1) ∨ ∃ Z1 y Z2, c ρ Z = .ok true Z1 ∧ e ρ Z1 = .ok y Z2 ∧ getL Z2 D = some acc ∧ I (pre ++ [x]) (acc ++ [y]) (Z2.set D (.lst (acc ++ [y]))))) (post pre acc : List T) (Z : Sto) (n : Nat) (e1 : ts = pre ++ post) (e2 : ts.length < n + pre.length) (e3 : acc.length + post.length ≤ Lim) (e4 : I pre acc Z) : ∃ acc' Z', loopC it D put c e n pre.length Z = .ok (.loc D) Z' ∧ I ts acc' Z' :=
  Z24 I (fun pre acc Z hl _ => hit _ _ hl) hI h post pre acc Z n e1 e2 e3 e4
theorem Z8u (ts : List T) : ∀ k Z,k ≤ ts.length → itSeq ts k Z = some ts[k]? := fun _ _ _ => rfl
theorem Ziq (l : List Nat) : ∀ k Z,k ≤ (l.map fun c => T.str [c]).length → itStr l k Z = some (l.map fun c => T.str [c])[k]? := fun k Z _ => by simp [itStr]
theorem Zir (lo : Int) (m : Nat) : ∀ k Z,k ≤ ((List.range m).map fun (i : Nat) => T.int (lo + (i : Int))).length → itRng lo m k Z = some ((List.range m).map fun (i : Nat) => T.int (lo + (i : Int)))[k]? := fun k Z _ => by
  simp only [itRng,List.getElem?_map]
  by_cases h : k < m
  · rw [if_pos h,List.getElem?_range h]; rfl
  · rw [if_neg h,List.getElem?_eq_none (by rw [List.length_range]; omega)]; rfl
theorem Zac {m : Nat} {lo : Int} {pre post : List T} {x : T} (h : ((List.range m).map fun (i : Nat) => T.int (lo + (i : Int))) = pre ++ x :: post) : x = .int (lo + (pre.length : Int)) ∧ pre.length < m := by
  have hx : (pre ++ x :: post)[pre.length]? = some x := by rw [List.getElem?_append_right (Nat.le_refl _),Nat.sub_self]; rfl
  have hl := congrArg List.length h
  rw [List.length_map,List.length_range,List.length_append,List.length_cons] at hl
  rw [← h,List.getElem?_map,List.getElem?_range (by omega)] at hx
  exact ⟨(Option.some.inj hx).symm,by omega⟩
theorem Z41 {m D : Nat} {put : T → Option Env} {c : FT} {e : FE} {Z : Sto} (J : Nat → List T → Sto → Prop) (hl : m ≤ Lim) (hJ : ∀ k acc Z,J k acc Z → getL Z D = some acc) (h0 : J 0 [] Z)
    (h : ∀ k < m,∀ acc Z,J k acc Z → ∃ ρ,put (.int (k : Int)) = some ρ ∧ ((∃ Z1,c ρ Z = .ok false Z1 ∧ J (k + 1) acc Z1) ∨ ∃ Z1 y Z2,c ρ Z = .ok true Z1 ∧ e ρ Z1 = .ok y Z2 ∧ getL Z2 D = some acc ∧ J (k + 1) (acc ++ [y]) (Z2.set D (.lst (acc ++ [y]))))) :
    ∃ acc Z', loopC (itRng 0 m) D put c e Fuel 0 Z = .ok (.loc D) Z' ∧ J m acc Z' := by
  have hlen : ((List.range m).map fun (i : Nat) => T.int (0 + (i : Int))).length = m := by rw [List.length_map,List.length_range]
  have := Z40 (Zir 0 m) (D := D) (put := put) (c := c) (e := e) (fun pre acc Z => J pre.length acc Z) (fun pre acc Z => hJ _ acc Z) (fun pre x post acc Z et hi => by
    obtain ⟨rfl,hk⟩ := Zac et
    rw [Int.zero_add]
    have := h pre.length hk acc Z hi
    simpa using this) ((List.range m).map fun (i : Nat) => T.int (0 + (i : Int))) [] [] Z Fuel rfl (by rw [hlen,Vw]; simp; omega) (by rw [hlen]; simpa using hl) h0
  rw [hlen] at this
  exact this
theorem Z25 {it : ItF} {put : T → Option Env} {c : FT} {e : FE} {ts : List T} {Z1 : Sto} (hit : ∀ k Z,k ≤ ts.length → it k Z = some ts[k]?) (hl : ts.length ≤ Lim) (p : T → Bool) (f : T → T)
    (h : ∀ x ∈ ts,∃ ρ,put x = some ρ ∧ ∀ acc,c ρ (Z1 ++ [.lst acc]) = .ok (p x) (Z1 ++ [.lst acc]) ∧ (p x = true → e ρ (Z1 ++ [.lst acc]) = .ok (f x) (Z1 ++ [.lst acc]))) :
    loopC it Z1.length put c e Fuel 0 (Z1 ++ [.lst []]) = .ok (.loc Z1.length) (Z1 ++ [.lst ((ts.filter p).map f)]) := by
  obtain ⟨acc, Z', e1, rfl, rfl⟩ := Z40 hit (D := Z1.length) (put := put) (c := c) (e := e) (fun pre acc Z => acc = (pre.filter p).map f ∧ Z = Z1 ++ [.lst acc]) (fun pre acc Z h => by obtain ⟨_, rfl⟩ := h; exact Zo _ _) (fun pre x post acc Z et hi => by
    obtain ⟨rfl,rfl⟩ := hi
    obtain ⟨ρ,hp,hc⟩ := h x (by rw [et]; simp)
    refine ⟨ρ,hp,?_⟩
    cases hx : p x with
    | false => exact .inl ⟨_,by rw [(hc _).1,hx],by simp [List.filter_append,hx]⟩
    | true => exact .inr ⟨_,f x,_,by rw [(hc _).1,hx],(hc _).2 hx,Zo _ _,by simp [List.filter_append,hx]⟩) ts [] [] (Z1 ++ [.lst []]) Fuel rfl (by rw [Vw]; simp; omega) (by simpa using hl) ⟨rfl,rfl⟩
  exact e1
theorem X8 (i : Nat) (Z : Sto) : asList (.loc i) Z = getL Z i := by
  simp only [asList,getL]
  all_goals (cases Z[i]? with
    | none => rfl
    | some o => cases o <;> rfl)
@[simp] theorem all_l (n : Nat) (Z : Sto) : gAll [.loc n] Z = (getL Z n).bind fun ts => (bools ts).map fun bs => (.bl (bs.all id),Z) := by
  simp only [gAll,X8]
@[simp] theorem any_l (n : Nat) (Z : Sto) : gAny [.loc n] Z = (getL Z n).bind fun ts => (bools ts).map fun bs => (.bl (bs.any id),Z) := by
  simp only [gAny,X8]
theorem Z1k {α : Type} (f : α → Bool) : ∀ l : List α,bools (l.map fun x => .bl (f x)) = some (l.map f)
  | [] => rfl
  | x :: l => by simp [bools,Z1k f l]
theorem Z78 : ∀ ys : List (List Nat),(ys.map T.str).mapM asStr = some ys
  | [] => rfl
  | y :: ys => by rw [List.map_cons,List.mapM_cons,Z78 ys]; rfl
theorem Zh7 {a : List Nat} {n : Nat} {ys : List (List Nat)} {Z : Sto} (h : getL Z n = some (ys.map .str)) (hl : sumL ys + ys.length * a.length ≤ Lim) : gJoin (.str a) [.loc n] Z = some (.str (TL.joinL a ys),Z) := by
  have e : (asSeq (.loc n) Z).bind (fun ts => ts.mapM asStr) = some ys := by
    have : asSeq (.loc n) Z = asList (.loc n) Z := rfl
    rw [this,X8,h,Option.bind_some,Z78]
  simp only [gJoin,e,if_pos hl]
@[simp] theorem Zl8 (i : Int) (Z : Sto) : gStr [.int i] Z = if i.natAbs < 10 ^ 4300 then some (.str (dec i),Z) else none := (rfl)
@[simp] theorem abs_i (i : Int) (Z : Sto) : gAbs [.int i] Z = some (.int (if i < 0 then -i else i),Z) := (rfl)
@[simp] theorem intT_i (i : Int) (Z : Sto) : gIntT [.int i] Z = some (.int i,Z) := (rfl)
@[simp] theorem intT_b (b : Bool) (Z : Sto) : gIntT [.bl b] Z = some (.int (if b then 1 else 0),Z) := (rfl)
@[simp] theorem intT_s (l : List Nat) (Z : Sto) : gIntT [.str l] Z = if l.all (· < 128) = true ∧ l.length ≤ 100000 then (PySem.intText? (S l)).map fun n => (.int n,Z) else none := (rfl)
@[simp] theorem sw_s (a b : List Nat) (Z : Sto) : gStarts (.str a) [.str b] Z = some (.bl (b.isPrefixOf a),Z) := (rfl)
@[simp] theorem in_cs (c : Nat) (l : List Nat) (Z : Sto) : gIn (.str [c]) (.str l) Z = some (.bl (decide (c ∈ l)),Z) := (rfl)
@[simp] theorem nin_cs (c : Nat) (l : List Nat) (Z : Sto) : gNotIn (.str [c]) (.str l) Z = some (.bl (!decide (c ∈ l)),Z) := (rfl)
@[simp] theorem q_callK (F : FF) (g : List T → List T) (fa : FA) (ρ : Env) (Z : Sto) : eCallK F g fa ρ Z = (fa ρ Z).bind fun ts Z1 => F (g ts) Z1 := (rfl)
theorem Zdh (x : T) (ts : List T) (Z : Sto) : gInB x (.tup ts) Z = if flatT x = true ∧ ts.all flatT = true then some (inT x ts) else none := by
  cases x with
  | str l => match l with
    | [] => rfl
    | [_] => rfl
    | _ :: _ :: _ => rfl
  | _ => rfl
@[simp] theorem in_tup (x : T) (ts : List T) (Z : Sto) : gIn x (.tup ts) Z = if flatT x = true ∧ ts.all flatT = true then some (.bl (inT x ts),Z) else none := by
  simp only [gIn,Zdh]
  split <;> rfl
@[simp] theorem nin_tup (x : T) (ts : List T) (Z : Sto) : gNotIn x (.tup ts) Z = if flatT x = true ∧ ts.all flatT = true then some (.bl (!inT x ts),Z) else none := by
  simp only [gNotIn,Zdh]
  split <;> rfl
def okS (l : List Nat) : Bool := l.all (· < 0x110000)
theorem Zis {l : List Nat} (h : okS l = true) : PyData.strOk (S l) = true := by
  unfold PyData.strOk
  rw [← Array.all_toList]
  exact h
theorem Kp.put {w D : Nat} {Z Z' : Sto} {o : O} (k : Kp w Z Z') (hD : Z.length ≤ D) (hw : w < Z.length) : Kp w Z (Z'.set D o) :=
  ⟨Kp.set k.wel (by omega),by rw [List.length_set]; exact k.len,fun i hi hn => by rw [List.getElem?_set_ne (by omega)]; exact k.keep i hi hn⟩
theorem Z61 (i j : Nat) (Z : Sto) {a b : List T} (h1 : getL Z i = some a) (h2 : getL Z j = some b) (h : a.length + b.length ≤ Lim) : gAdd (.loc i) (.loc j) Z = some (.loc Z.length,Z ++ [.lst (a ++ b)]) := by rw [Za9,h1,h2]; exact if_pos h
theorem Zl9 (n : Nat) (t : T) (Z : Sto) {ts : List T} (h1 : getL Z n = some ts) (h : ts.length < Lim) : gAppend (.loc n) [t] Z = some (.non,Z.set n (.lst (ts ++ [t]))) := by rw [Zl5,h1]; exact if_pos h
end Fx
set_option maxHeartbeats 4000000
namespace Fx
open PySem PySem.Spec PyProof.Rows L2 SX
section
variable (ρ : Env) (Z : Sto)
@[simp] theorem q_callN (F : FF) (g : List T → List T → List T) (fa fk : FA) : eCallN F g fa fk ρ Z = (fa ρ Z).bind fun ts Z1 => (fk ρ Z1).bind fun us Z2 => F (g ts us) Z2 := (rfl)
@[simp] theorem q_lam (F : (Sto → R T) → T → FF) (fb : FE) (fa : FA) : eLam F fb fa ρ Z = (fa ρ Z).bind fun ts Z1 => F (fun Z' => fb ρ Z') .non (.non :: ts) Z1 := (rfl)
@[simp] theorem q_ask0 (fl : Sto → R T) (lv : T) : eAsk fl lv 0 (some lv :: ρ) Z = fl Z := by
  unfold eAsk
  exact if_pos rfl
@[simp] theorem q_kdIx (l : List (List Nat × List Nat)) (fe : FE) : eKdIx l fe ρ Z = (fe ρ Z).bind fun x Z1 => match kdGet l x with | some v => .ok (.str v) Z1 | none => .stuck := (rfl)
@[simp] theorem Zla (l : List (List Nat × List Nat)) : iKdItems l ρ Z = .ok (itSeq (l.map fun x => .tup [.str x.1,.str x.2])) Z := (rfl)
end
@[simp] theorem pick_nil {α : Type} (l : List α) : pick [] l = [] := (rfl)
@[simp] theorem pick_c0 {α : Type} (ix : List Nat) (a : α) (l : List α) : pick (0 :: ix) (a :: l) = a :: pick ix (a :: l) := (rfl)
@[simp] theorem ne_nn (Z : Sto) : gNe .non .non Z = some (.bl false,Z) := (rfl)
@[simp] theorem eq_nn (Z : Sto) : gEq .non .non Z = some (.bl true,Z) := (rfl)
@[simp] theorem eq_ns (l : List Nat) (Z : Sto) : gEq .non (.str l) Z = some (.bl false,Z) := (rfl)
@[simp] theorem eq_sn (l : List Nat) (Z : Sto) : gEq (.str l) .non Z = some (.bl false,Z) := (rfl)
@[simp] theorem ne_ns (l : List Nat) (Z : Sto) : gNe .non (.str l) Z = some (.bl true,Z) := (rfl)
@[simp] theorem ne_sn (l : List Nat) (Z : Sto) : gNe (.str l) .non Z = some (.bl true,Z) := (rfl)
end Fx
set_option maxHeartbeats 4000000
namespace Fx
open PySem PySem.Spec PyProof.Rows L2 SX Ap
theorem Zdi {Z : Sto} {i : Nat} {ts : List T} (h : getL Z i = some ts) : getDK Z i = none := by
  unfold getDK
  rw [Uu.mp h]
@[simp] theorem ixW_s (l : List Nat) (y : T) (Z : Sto) : gIxW (.str l) y Z = gIx (.str l) y Z := (rfl)
@[simp] theorem ixW_t (l : List T) (y : T) (Z : Sto) : gIxW (.tup l) y Z = gIx (.tup l) y Z := (rfl)
@[simp] theorem ixW_f (l : List T) (y : T) (Z : Sto) : gIxW (.frl l) y Z = gIx (.frl l) y Z := (rfl)
theorem ixW_l {Z : Sto} {i : Nat} {ts : List T} (y : T) (h : getL Z i = some ts) : gIxW (.loc i) y Z = gIx (.loc i) y Z := by
  simp only [gIxW,Zdi h]
theorem Z1l {Z : Sto} {i : Nat} {ts : List T} (k : Int) (h : getL Z i = some ts) : gIxW (.loc i) (.int k) Z = (atI ts k).map fun t => (t,Z) := by
  rw [ixW_l _ h,Zl4,h]
theorem Zlb {Z : Sto} {i : Nat} {ts : List T} (y t : T) (h : getL Z i = some ts) : gSetW (.loc i) y t Z = gSetL (.loc i) y t Z := by
  simp only [gSetW,Zdi h]
@[simp] theorem inW_t (x : T) (ts : List T) (Z : Sto) : gInW x (.tup ts) Z = gIn x (.tup ts) Z := (rfl)
@[simp] theorem inW_s (x : T) (l : List Nat) (Z : Sto) : gInW x (.str l) Z = gIn x (.str l) Z := (rfl)
@[simp] theorem notInW_t (x : T) (ts : List T) (Z : Sto) : gNotInW x (.tup ts) Z = gNotIn x (.tup ts) Z := (rfl)
@[simp] theorem notInW_s (x : T) (l : List Nat) (Z : Sto) : gNotInW x (.str l) Z = gNotIn x (.str l) Z := (rfl)
@[simp] theorem leW_ii (i j : Int) (Z : Sto) : gLeW (.int i) (.int j) Z = some (.bl (decide (i ≤ j)),Z) := (rfl)
@[simp] theorem gtW_ii (i j : Int) (Z : Sto) : gGtW (.int i) (.int j) Z = some (.bl (decide (j < i)),Z) := (rfl)
@[simp] theorem geW_ii (i j : Int) (Z : Sto) : gGeW (.int i) (.int j) Z = some (.bl (decide (j ≤ i)),Z) := (rfl)
section
variable (ρ : Env) (Z : Sto)
@[simp] theorem q_gSubsW (fo fi : FE) (t : T) : gSubsW fo fi t ρ Z = (fo ρ Z).bind fun x Z1 => (fi ρ Z1).bind fun y Z2 => match gSetW x y t Z2 with | some Z3 => .ok ρ Z3 | none => .stuck := (rfl)
end
theorem Zlc {Z : Sto} {i : Nat} {ts : List T} (k : Int) (t : T) (h : getL Z i = some ts) : gSetL (.loc i) (.int k) t Z = (ixN ts.length k).map fun n => Z.set i (.lst (ts.set n t)) := by
  show (match getL Z i with | some ts => _ | none => none) = _
  rw [h]
theorem Zad {Z : Sto} {i : Nat} {ts : List T} (k : Int) (t : T) (h : getL Z i = some ts) : gSetW (.loc i) (.int k) t Z = (ixN ts.length k).map fun n => Z.set i (.lst (ts.set n t)) := by
  rw [Zlb _ _ h,Zlc k t h]
end Fx
set_option maxHeartbeats 4000000
namespace Fx
open PySem PySem.Spec PyProof.Rows L2 SX Ap
variable [Tb]
end Fx
set_option maxHeartbeats 4000000
namespace Fx
open PySem PySem.Spec PyProof.Rows L2 SX Ap
variable [Tb]
end Fx
set_option maxHeartbeats 4000000
namespace SrtO
open PySem PyProof.Rows Srt
def IsFst (h : Heap) (v : Value) (x : Int) : Prop := ∃ (a : Addr) (o : Obj) (t : Tok) (r : List Value) (n : Nat), v = .ref a ∧ h.get? a = some o ∧ o.cls = .type "tuple" ∧ o.data = .seq (Value.int x t :: r).toArray n
theorem IsFst.keeps {h h' : Heap} {v : Value} {x : Int} (p : IsFst h v x) (k : ∀ b o, h.get? b = some o → o.cls = .type "tuple" → h'.get? b = some o) : IsFst h' v x := by
  obtain ⟨a,o,t,r,n,e,ho,hc,hd⟩ := p
  exact ⟨a,o,t,r,n,e,k _ _ ho hc,hc,hd⟩
theorem IsFst.uniq {h : Heap} {v : Value} {x y : Int} (p : IsFst h v x) (q : IsFst h v y) : x = y := by
  obtain ⟨a,o,t,r,n,rfl,ho,hc,hd⟩ := p
  obtain ⟨a', o', t', r', n', e, ho', hc', hd'⟩ := q
  cases e
  rw [ho] at ho'; cases ho'
  rw [hd] at hd'
  injection hd' with e1 e2
  have h2 : (Value.int x t :: r) = (Value.int y t' :: r') := by
    have := congrArg Array.toList e1
    simpa using this
  injection h2 with h3 _
  injection h3
end SrtO
namespace Fx
open PySem PySem.Spec PyProof.Rows L2 SX Ap
end Fx
set_option maxHeartbeats 4000000
namespace Fx
open PySem PySem.Spec PyProof.Rows L2 SX Ap L2.DX
end Fx
set_option maxHeartbeats 4000000
namespace Fx
open PySem PySem.Spec PyProof.Rows L2 SX Ap
end Fx
set_option maxHeartbeats 4000000
namespace Fx
open PySem PySem.Spec PyProof.Rows L2 SX Ap
variable [Tb]
end Fx
set_option maxHeartbeats 4000000
namespace Fx
open PySem PySem.Spec PyProof.Rows L2 SX Ap
variable [Tb]
def ltIx (n i : Nat) : Option Nat := if i < n then some i else none
mutual
def lcT (n : Nat) : T → Bool
  | .tup ts => lcTs n ts
  | .loc i => Nat.ble (i + 1) n
  | .frl ts => lcTs n ts
  | .lam _ _ _ _ => false
  | .ktp ts => lcTs n ts
  | .non => true
  | .bl _ => true
  | .int _ => true
  | .str _ => true
  | .ref _ => true
  | .ty _ => true
def lcTs (n : Nat) : List T → Bool
  | [] => true
  | t :: ts => lcT n t && lcTs n ts
end
mutual
theorem Zdj {n : Nat} : ∀ {t : T},lcT n t = true → T.mv (ltIx n) t = some t
  | .non,_ => rfl
  | .bl _,_ => rfl
  | .int _,_ => rfl
  | .str _,_ => rfl
  | .tup ts,h => by
    have h : lcTs n ts = true := h
    show (T.mvs (ltIx n) ts).map T.tup = _
    rw [Z42 h]; rfl
  | .loc i,h => by
    have h : i + 1 ≤ n := Nat.le_of_ble_eq_true h
    show (ltIx n i).map T.loc = _
    unfold ltIx
    rw [if_pos (show i < n from h)]; rfl
  | .frl ts,h => by
    have h : lcTs n ts = true := h
    show (T.mvs (ltIx n) ts).map T.frl = _
    rw [Z42 h]; rfl
  | .ref _,_ => rfl
  | .ty _,_ => rfl
  | .lam _ _ _ _,h => by cases h
  | .ktp ts,h => by
    have h : lcTs n ts = true := h
    show (T.mvs (ltIx n) ts).map T.ktp = _
    rw [Z42 h]; rfl
theorem Z42 {n : Nat} : ∀ {ts : List T},lcTs n ts = true → T.mvs (ltIx n) ts = some ts
  | [],_ => rfl
  | t :: ts,h => by
    have h : (lcT n t && lcTs n ts) = true := h
    rw [Bool.and_eq_true] at h
    simp only [T.mvs,Zdj h.1,Z42 h.2]
end
def lcP {κ : Type} (n : Nat) : List (κ × T) → Bool
  | [] => true
  | p :: r => lcT n p.2 && lcP n r
theorem Zae {κ : Type} {n : Nat} : ∀ {l : List (κ × T)},lcP n l = true → mvP (ltIx n) l = some l
  | [],_ => rfl
  | (k,t) :: r,h => by
    have h : (lcT n t && lcP n r) = true := h
    rw [Bool.and_eq_true] at h
    simp only [mvP,Zdj h.1,Zae h.2]
def lcO (n : Nat) : O → Bool
  | .lst ts => lcTs n ts
  | .dk l => lcP n l
  | .dt l => lcP n l
  | .ins _ l => lcP n l
theorem Zdk {n : Nat} {o : O} (h : lcO n o = true) : O.mv (ltIx n) o = some o := by
  cases o with
  | lst ts => show (T.mvs (ltIx n) ts).map O.lst = _; rw [Z42 h]; rfl
  | dk l => show (mvP (ltIx n) l).map O.dk = _; rw [Zae h]; rfl
  | dt l => show (mvP (ltIx n) l).map O.dt = _; rw [Zae h]; rfl
  | ins C l => show (mvP (ltIx n) l).map (O.ins C) = _; rw [Zae h]; rfl
def selE : List Nat → Env → Nat → Env
  | _,[],_ => []
  | ks,o :: ρ,i => (if i ∈ ks then o else none) :: selE ks ρ (i + 1)
theorem Zaf (ks : List Nat) : ∀ (ρ : Env) (i : Nat),(selE ks ρ i).length = ρ.length
  | [],_ => rfl
  | _ :: ρ,i => congrArg (· + 1) (Zaf ks ρ (i + 1))
theorem Zag {ks : List Nat} : ∀ {ρ : Env} {i k : Nat} {t : T},(selE ks ρ i)[k]? = some (some t) → ρ[k]? = some (some t)
  | [],_,_,_,h => by simp [selE] at h
  | o :: ρ,i,0,t,h => by
    simp only [selE,List.getElem?_cons_zero,Option.some.injEq] at h
    split at h
    · subst h; rfl
    · cases h
  | o :: ρ,i,k + 1,t,h => by
    simp only [selE,List.getElem?_cons_succ] at h
    simpa using Zag h
def scE (n : Nat) : Env → Bool
  | [] => true
  | none :: ρ => scE n ρ
  | some t :: ρ => lcT n t && scE n ρ
theorem Z8v {n : Nat} : ∀ {ρ : Env} {k : Nat} {t : T},scE n ρ = true → ρ[k]? = some (some t) → lcT n t = true
  | [],_,_,_,h => by simp at h
  | none :: ρ,0,t,_,h => by simp at h
  | some u :: ρ,0,t,h0,h => by
    simp only [scE,Bool.and_eq_true] at h0
    simp at h; subst h; exact h0.1
  | none :: ρ,k + 1,t,h0,h => Z8v (ρ := ρ) (k := k) h0 (by simpa using h)
  | some u :: ρ,k + 1,t,h0,h => by
    simp only [scE,Bool.and_eq_true] at h0
    exact Z8v (ρ := ρ) (k := k) h0.2 (by simpa using h)
section
variable {X : Cx} {K : PySem.W.Frag} {W : WX} {ι ι1 : List Addr} {H H1 : Hp} {σ σ1 : L2.St} {ρ ρ1 : Env} {Z Y : Sto}
theorem Gr.drop (g : Gr ι ι1 H H1) : Gr ι ι H H1 := ⟨fun _ _ h => h,g.tup,g.frz,g.xd,g.ext,g.tab,fun _ _ h _ _ => h,g.out⟩
theorem drop_at (s : Sim K ι Z H) (g : Gr ι ι1 H H1) : ∀ i j a,ltIx Z.length i = some j → ι1[i]? = some a → ι[j]? = some a := fun i j a e h => by
  unfold ltIx at e
  split at e
  · rename_i hi
    cases e
    have hi : i < ι.length := by rw [s.len]; exact hi
    have h2 := g.pre i _ (List.getElem?_eq_getElem hi)
    rw [h] at h2; cases h2
    exact List.getElem?_eq_getElem hi
  · cases e
theorem Sim.drop (s : Sim K ι Z H) (g : Gr ι ι1 H H1) (s1 : Sim K ι1 Y H1) (h : (Y.take Z.length).all (lcO Z.length) = true) : Sim K ι (Y.take Z.length) H1 := by
  have hl := Zd1 g s s1
  refine ⟨by rw [List.length_take,s.len]; omega,s.nd,fun i a o ha ho => ?_,s1.tab⟩
  have h1 := g.pre i a ha
  have h2 : Y[i]? = some o := by
    rw [List.getElem?_take] at ho
    split at ho
    · exact ho
    · cases ho
  have h3 : lcO Z.length o = true := by
    rw [List.all_eq_true] at h
    exact h o (List.mem_of_getElem? ho)
  exact (s1.ob i a o h1 h2).mv (drop_at s g) (Zdk h3)
theorem Is.drop {ks : List Nat} (s : Sim K ι Z H) (g : Gr ι ι1 H H1) (is : Is K ι1 H1 σ1 ρ1 Y) (h : (Y.take Z.length).all (lcO Z.length) = true) (he : scE Z.length (selE ks ρ1 0) = true) : Is K ι H1 σ1 (selE ks ρ1 0) (Y.take Z.length) :=
  ⟨by rw [Zaf]; exact is.len,fun i t ht => by
    obtain ⟨v,h1,h2⟩ := is.env i t (Zag ht)
    exact ⟨v,h1,h2.mv (drop_at s g) (Zdj (Z8v he ht))⟩,s.drop g is.sim h⟩
end
section
variable {K : PySem.W.Frag} {n : Nat} {F : FF}
theorem Gr.keep {ι ι1 : List Addr} {H H1 : Hp} {j : Nat} {a : Addr} (g : Gr ι ι1 H H1) (h : ι1[j]? = some a) : Gr ι (ι ++ [a]) H H1 :=
  ⟨fun i b hb => by rw [List.getElem?_append_left (List.getElem?_eq_some_iff.mp hb).1]; exact hb,g.tup,g.frz,g.xd,g.ext,g.tab,fun b u hb e m => (List.mem_append.mp hb).elim id fun k => g.fre b u (by rw [List.mem_singleton.mp k]; exact List.mem_of_getElem? h) e m,g.out⟩
theorem Sim.keep {ι ι1 : List Addr} {H H1 : Hp} {Z Y : Sto} {j : Nat} {a : Addr} {us : List T} (s : Sim K ι Z H) (g : Gr ι ι1 H H1) (s1 : Sim K ι1 Y H1) (h : (Y.take Z.length).all (lcO Z.length) = true) (ha : ι1[j]? = some a) (hj : Z.length ≤ j) (hy : Y[j]? = some (.lst us)) (hu : lcTs Z.length us = true) : Sim K (ι ++ [a]) (Y.take Z.length ++ [.lst us]) H1 := by
  have hl := Zd1 g s s1
  have hat := drop_at s g
  have hf : ∀ i k x,ltIx Z.length i = some k → ι1[i]? = some x → (ι ++ [a])[k]? = some x := fun i k x e hx => by
    have h2 := hat i k x e hx
    rw [List.getElem?_append_left (List.getElem?_eq_some_iff.mp h2).1]; exact h2
  have hlt : (Y.take Z.length).length = Z.length := by rw [List.length_take]; omega
  refine ⟨by rw [List.length_append,List.length_append,hlt,s.len]; rfl,?_,fun i b o hb ho => ?_,s1.tab⟩
  · rw [List.nodup_append]
    refine ⟨s.nd,by simp,fun b hb c hc e => ?_⟩
    rw [List.mem_singleton] at hc
    subst e; subst hc
    obtain ⟨i,hi⟩ := List.mem_iff_getElem?.mp hb
    have h1 := g.pre i _ hi
    obtain ⟨k1,x1⟩ := List.getElem?_eq_some_iff.mp h1
    obtain ⟨k2,x2⟩ := List.getElem?_eq_some_iff.mp ha
    have h3 := (List.getElem_inj s1.nd).mp (x1.trans x2.symm)
    have h4 := (List.getElem?_eq_some_iff.mp hi).1
    rw [s.len] at h4
    omega
  · by_cases hi : i < Z.length
    · rw [List.getElem?_append_left (by rw [s.len]; exact hi)] at hb
      rw [List.getElem?_append_left (by rw [hlt]; exact hi)] at ho
      have h2 : Y[i]? = some o := by
        have ho2 := ho
        rw [List.getElem?_take,if_pos hi] at ho2
        exact ho2
      have h3 : lcO Z.length o = true := by
        rw [List.all_eq_true] at h
        exact h o (List.mem_of_getElem? ho)
      exact (s1.ob i b o (g.pre i b hb) h2).mv hf (Zdk h3)
    · have hi' : Z.length ≤ i := Nat.le_of_not_lt hi
      rw [List.getElem?_append_right (by rw [s.len]; exact hi'), s.len] at hb
      rw [List.getElem?_append_right (by rw [hlt]; exact hi'), hlt] at ho
      have h0 : i - Z.length = 0 := by simpa using (List.getElem?_eq_some_iff.mp hb).1
      rw [h0] at hb ho
      simp at hb ho
      subst hb ho
      exact (s1.ob j a _ ha hy).mv hf (Zdk hu)
end
end Fx
set_option maxHeartbeats 4000000
namespace Fx
open PySem PySem.Spec PyProof.Rows L2 SX Ap L2.DX
variable [Tb]
end Fx
set_option maxHeartbeats 4000000
namespace Fx
open PySem PySem.Spec PyProof.Rows L2 SX Ap
variable [Tb]
end Fx
set_option maxHeartbeats 4000000
namespace Fx
open PySem PySem.Spec PyProof.Rows L2 SX Ap
variable [Tb]
def lenDiff : T → T → Sto → Bool
  | .loc i,.loc j,Z => (match getL Z i,getL Z j with
    | some a,some b => !(a.length == b.length)
    | _,_ => false)
  | _,_,_ => false
def gNeL (x y : T) (Z : Sto) : Option (T × Sto) := if lenDiff x y Z = true then some (.bl true,Z) else gNe x y Z
section
variable {X : Cx} {K : PySem.W.Frag}
def rLen (K : PySem.W.Frag) (r : Bool) : R2 := fun x y H Q => ∃ a b xs ys,x = .ref a ∧ y = .ref b ∧ SqL K H a xs ∧ SqL K H b ys ∧ xs.length ≠ ys.length ∧ Q (.bl r) H
theorem Zfm (hu : X.A.units + 64 < cLine) : OpR X (compareOp .NotEq) (rLen X.K true) := by
  intro pins s σ H x y v u Q I rx ry h
  obtain ⟨a,b,xs,ys,rfl,rfl,ha,hb,hn,q⟩ := h
  cases (show v = Value.ref a from rx)
  cases (show u = Value.ref b from ry)
  obtain ⟨us,r1,p1,_⟩ := I.list ha
  obtain ⟨ws,r2,p2,_⟩ := I.list hb
  exact PySem.SeqAt.RcNeAt.lists_lengths p1.isList p2.isList (by rw [List.size_toArray,List.size_toArray,← r1.length,← r2.length]; simpa using hn) (by omega) X.prog X.w _ _ ⟨.bl true,H,I,rfl,q⟩
theorem Zld {ι : List Addr} {H : Hp} {Z : Sto} {x y : V} {tx ty : T} (s : Sim K ι Z H) (rx : Rep K ι H x tx) (ry : Rep K ι H y ty) (e : lenDiff tx ty Z = true) : ∃ a b xs ys,x = .ref a ∧ y = .ref b ∧ SqL K H a xs ∧ SqL K H b ys ∧ xs.length ≠ ys.length := by
  unfold lenDiff at e
  split at e
  · split at e
    case h_2 => cases e
    rename_i ts us h1 h2
    obtain ⟨a,xs,rfl,h3,r1⟩ := Wk s rx (show asList (.loc _) Z = some ts by simp only [asList,Yg h1])
    obtain ⟨b,ys,rfl,h4,r2⟩ := Wk s ry (show asList (.loc _) Z = some us by simp only [asList,Yg h2])
    refine ⟨a,b,xs,ys,rfl,rfl,h3,h4,?_⟩
    rw [r1.length,r2.length]
    simpa using e
  · cases e
theorem o_neL (hu : X.A.units + 64 < cLine) (hK : X.K = K) : OpF X K (compareOp .NotEq) gNeL := by
  subst hK
  refine Xm (U0 (Zfm hu) (o_ne hu rfl)) fun x y H Q h => ?_
  obtain ⟨ι,Z,tx,ty,s,rx,ry,p⟩ := h
  unfold gNeL at p
  split at p
  · rename_i e
    obtain ⟨a,b,xs,ys,h1,h2,h3,h4,h5⟩ := Zld s rx ry e
    exact .inl ⟨a,b,xs,ys,h1,h2,h3,h4,h5,Zq p s (.bl _)⟩
  · exact .inr ⟨ι,Z,tx,ty,s,rx,ry,p⟩
end
end Fx
set_option maxHeartbeats 4000000
namespace Fx
open PySem PySem.Spec PyProof.Rows L2 SX Ap
variable [Tb]
def intsT : List T → Option (List Int)
  | [] => some []
  | .int i :: ts => (intsT ts).map (i :: ·)
  | _ :: _ => none
def gSum : List T → Sto → Option (T × Sto)
  | [t],Z => (asList t Z).bind fun ts => (intsT ts).map fun is => (.int is.sum,Z)
  | _,_ => none
theorem Z79 {K : PySem.W.Frag} {ι : List Addr} {H : Hp} : ∀ {vs : List V} {ts : List T} {bs : List Int},Reps K ι H vs ts → intsT ts = some bs → vs = bs.map V.int
  | _,[],bs,r,h => by
    cases r
    have : bs = [] := (Option.some.inj h).symm
    subst this; rfl
  | _,t :: ts,bs,r,h => by
    cases r with
    | cons r1 rs =>
      cases t with
      | int b =>
        simp only [intsT] at h
        cases e : intsT ts with
        | none => rw [e] at h; cases h
        | some cs =>
          rw [e] at h
          have : bs = b :: cs := (Option.some.inj h).symm
          subst this
          cases r1
          rw [Z79 rs e]; rfl
      | _ => simp [intsT] at h
theorem c_sum {X : Cx} {K : PySem.W.Frag} (hK : X.K = K) (hc : X.calm = true) : CallR X (.builtin "sum") (rFC K gSum) := by
  subst hK
  refine Yt (cr_sum hc) fun xs H Q h => ?_
  obtain ⟨ι,Z,ts,s,r,p⟩ := h
  match ts,r,p with
  | [],_,p => exact p.elim
  | _ :: _ :: _,_,p => simp only [gSum] at p; exact p.elim
  | [t],r,p =>
    obtain ⟨v,rfl,rr⟩ := r.one
    simp only [gSum] at p
    cases e : asList t Z with
    | none => rw [e] at p; exact p.elim
    | some us =>
      rw [e] at p
      obtain ⟨a,vs,rfl,hq,rs⟩ := Wk s rr e
      cases eb : intsT us with
      | none => simp only [Option.bind_some,eb] at p; exact p.elim
      | some bs =>
        simp only [Option.bind_some,eb] at p
        have := Z79 rs eb
        subst this
        exact ⟨a,bs,rfl,hq,Zq p s (.int _)⟩
def gReprW : List T → Sto → Option (T × Sto)
  | [.non], Z => some (.str ("None" : PySem.Str).cps.toList, Z)
  | [.bl b], Z => some (.str (if b then "True" else "False" : PySem.Str).cps.toList, Z)
  | [.int i],Z => if i.natAbs.log2 < 1920 then some (.str (dec i),Z) else none
  | [.str l],Z => if (reprText (S l)).length ≤ sizeLine then some (.str (reprText (S l)).cps.toList,Z) else none
  | [.loc i],Z => match getDK Z i with
    | some [] => some (.str (PyData.dict []).shown.cps.toList,Z)
    | some _ => none
    | none => gRepr [.loc i] Z
  | ts,Z => gRepr ts Z
def reprV : V → Option PySem.Str
  | .non => some "None"
  | .bl b => some (if b then "True" else "False")
  | .int i => if i.natAbs.log2 < 1920 then some (toString i) else none
  | .str x => if (reprText x).length ≤ sizeLine then some (reprText x) else none
  | _ => none
theorem Zbu {X : Cx} : CallR X (.builtin "repr") (fun xs H Q => ∃ v z, xs = [v] ∧ reprV v = some z ∧ Q (.str z) H) := by
  intro pins s σ H xs us Q I r h
  obtain ⟨v,z,rfl,e,q⟩ := h
  obtain ⟨u,rfl,ru⟩ := vals1 r
  cases v with
  | non =>
    cases e
    cases (show u = Value.none from ru)
    exact PySem.P.repr_of_none ⟨.str _,H,I.tok _,⟨_,rfl⟩,q⟩
  | bl b =>
    cases e
    cases (show u = Value.bool b from ru)
    exact PySem.P.repr_of_bool ⟨.str _,H,I.tok _,⟨_,rfl⟩,q⟩
  | int i =>
    obtain ⟨t,rfl⟩ := ru
    simp only [reprV] at e
    split at e
    · rename_i hz
      cases e
      exact PySem.P.repr_of_int hz ⟨.str _,H,I.tok _,⟨_,rfl⟩,q⟩
    · cases e
  | str x =>
    obtain ⟨t,rfl⟩ := ru
    simp only [reprV] at e
    split at e
    · rename_i hz
      cases e
      exact PySem.P.repr_of_str ⟨.str _,H,I.tok _,⟨_,rfl⟩,q⟩ hz
    · cases e
  | _ => cases e
theorem Zbv {X : Cx} (hG : X.A.guards = some []) (hu : X.A.units + 64 < cLine) :
    CallR X (.builtin "repr") (fun xs H Q => ∃ a : Addr, xs = [.ref a] ∧ H a = some (.dK []) ∧ Q (.str (PyData.dict []).shown) H) := by
  intro pins s σ H xs us Q I r h
  obtain ⟨a,rfl,ha,q⟩ := h
  obtain ⟨u,rfl,ru⟩ := vals1 r
  cases (show u = Value.ref a from ru)
  obtain ⟨_,hsm,vs,kv,o,es,ep,h1,h2,h3,h4,h5,h6⟩ := dk_of I.hok ha
  have hv : vs = [] := by cases kv; rfl
  subst hv
  have he : es.toList = [] := by
    have := h5.length
    simpa using this
  have rd : Reads s.heap (.ref a) (.dict []) ([a] ++ []) := .dict h1 h2.1 h3 (by rw [he]; exact .nil) (by rw [he]; exact .nil)
  have hdp : (PyData.dict []).depth ≤ 62 := by decide +kernel
  refine PySem.repr_of_reads' rd (by decide +kernel) (fun _ h => ?_) hG (by omega) (fun _ _ e => e) ?_ (by decide +kernel)
  · have : sysModules = a := by simpa using h
    subst this
    simp at hsm
  · intro h' u tk hk
    exact ⟨.str _,H,I.kept hk,⟨_,rfl⟩,q⟩
theorem Zit {X : Cx} {K : PySem.W.Frag} (hK : X.K = K) (hG : X.A.guards = some []) (hu : X.A.units + 64 < cLine) : CallR X (.builtin "repr") (rFC K gReprW) := by
  subst hK
  refine Yt (Z1v Zbu (Z1v (Zbv hG hu) (Zko rfl hG hu))) fun xs H Q h => ?_
  obtain ⟨ι,Z,ts,s,r,p⟩ := h
  have old : ∀ {r' : Option (T × Sto)}, r' = gRepr ts Z → PostO (Rep X.K) X.K ι H Q r' → rOrC (fun xs H Q => ∃ v z, xs = [v] ∧ reprV v = some z ∧ Q (.str z) H) (rOrC (fun xs H Q => ∃ a : Addr, xs = [.ref a] ∧ H a = some (.dK []) ∧ Q (.str (PyData.dict []).shown) H) (rFC X.K gRepr)) xs H Q := fun e p => .inr (.inr ⟨ι, Z, ts, s, r, e ▸ p⟩)
  unfold gReprW at p
  split at p
  · obtain ⟨v,rfl,rr⟩ := r.one
    cases rr
    exact .inl ⟨_, _, rfl, rfl, Zq p s (by have := Rep.str (K := X.K) (ι := ι) (H := H) ("None" : PySem.Str).cps.toList; rw [Z5t] at this; exact this)⟩
  · rename_i b
    obtain ⟨v,rfl,rr⟩ := r.one
    cases rr
    exact .inl ⟨_, _, rfl, rfl, Zq p s (by have := Rep.str (K := X.K) (ι := ι) (H := H) (if b then "True" else "False" : PySem.Str).cps.toList; rw [Z5t] at this; exact this)⟩
  · obtain ⟨v,rfl,rr⟩ := r.one
    cases rr
    split at p
    · rename_i i hz
      exact .inl ⟨_,_,rfl,if_pos hz,by rw [Ap.Zf2]; exact Zq p s (.str _)⟩
    · exact p.elim
  · obtain ⟨v,rfl,rr⟩ := r.one
    cases rr
    split at p
    · rename_i l hz
      exact .inl ⟨_,_,rfl,if_pos hz,Zq p s (by have := Rep.str (K := X.K) (ι := ι) (H := H) (reprText (S l)).cps.toList; rw [Z5t] at this; exact this)⟩
    · exact p.elim
  · split at p
    · rename_i e
      obtain ⟨v,rfl,rr⟩ := r.one
      obtain ⟨a,vs,rfl,hi,h1,r2⟩ := Qs s rr e
      cases r2
      exact .inr (.inl ⟨a,rfl,h1,Zq p s (by have := Rep.str (K := X.K) (ι := ι) (H := H) (PyData.dict []).shown.cps.toList; rw [Z5t] at this; exact this)⟩)
    · exact p.elim
    · exact old rfl p
  · exact old rfl p
end Fx
set_option maxHeartbeats 4000000
namespace Fx
open PySem PySem.Spec PyProof.Rows L2 SX
variable [Tb]
def leS (a b : List Nat) : Bool := decide (a ≤ b)
theorem Zh8 (a b c : List Nat) (h : leS a b = true) (h2 : leS b c = true) : leS a c = true := decide_eq_true (List.le_trans (of_decide_eq_true h) (of_decide_eq_true h2))
theorem Zdl (a b : List Nat) : (leS a b || leS b a) = true := by
  rw [Bool.or_eq_true]
  exact (List.le_total a b).imp (fun h => decide_eq_true h) fun h => decide_eq_true h
def strsOf : List T → Option (List (List Nat))
  | [] => some []
  | .str l :: r => (strsOf r).map (l :: ·)
  | _ => none
def gSortS : List T → Sto → Option (T × Sto)
  | [.loc i],Z => match getL Z i with
    | some ts => match strsOf ts with
      | some l => if l.length < 64 then some (.loc Z.length,Z ++ [.lst ((l.mergeSort leS).map .str)]) else none
      | none => none
    | none => none
  | _,_ => none
theorem Z7a {K : PySem.W.Frag} {ι : List Addr} {H : Hp} : ∀ {vs : List V} {ts : List T} {l : List (List Nat)},Reps K ι H vs ts → strsOf ts = some l → vs = (l.map S).map V.str
  | _,_,_,.nil,e => by
    rw [strsOf] at e; cases e; rfl
  | _,_,_,.cons (t := t) (ts := ts) r rs,e => by
    cases t with
    | str x =>
      rw [strsOf] at e
      cases q : strsOf ts with
      | none => rw [q] at e; cases e
      | some l =>
        rw [q] at e; cases e
        cases r
        rw [Z7a rs q]; rfl
    | _ => simp [strsOf] at e
theorem Zbw (l : List (List Nat)) : strsOf (l.map T.str) = some l := by
  induction l with
  | nil => rfl
  | cons a l ih => rw [List.map_cons,strsOf,ih]; rfl
theorem Zh9 : ∀ (r : List PySem.Str) (x : PySem.Str),risingS x r = true → (x :: r).Pairwise fun a b => a.cps.toList ≤ b.cps.toList
  | [],x,_ => List.pairwise_singleton _ _
  | y :: r,x,h => by
    rw [risingS, Bool.and_eq_true, Bool.not_eq_true', ltCps_eq, decide_eq_false_iff_not] at h
    have h1 := List.not_lt.mp h.1
    have ih := Zh9 r y h.2
    refine List.pairwise_cons.mpr ⟨fun z hz => ?_,ih⟩
    rcases List.mem_cons.mp hz with e | e
    · rw [e]; exact h1
    · exact List.le_trans h1 ((List.pairwise_cons.mp ih).1 z e)
theorem Zah : ∀ {l m : List (List Nat)},l.Pairwise (· ≤ ·) → m.Pairwise (· ≤ ·) → l.Perm m → l = m
  | [],m,_,_,p => by have := p.length_eq; cases m with | nil => rfl | cons _ _ => simp at this
  | x :: l,[],_,_,p => by have := p.length_eq; simp at this
  | x :: l,y :: m,hl,hm,p => by
    rw [List.pairwise_cons] at hl hm
    have e : x = y := by
      refine List.le_antisymm ?_ ?_
      · rcases List.mem_cons.mp (p.mem_iff.mpr (List.mem_cons_self (a := y) (l := m))) with e | h
        · rw [e]; exact List.le_refl _
        · exact hl.1 y h
      · rcases List.mem_cons.mp (p.mem_iff.mp (List.mem_cons_self (a := x) (l := l))) with e | h
        · rw [e]; exact List.le_refl _
        · exact hm.1 x h
    subst e
    rw [Zah hl.2 hm.2 p.cons_inv]
theorem Ziu {X : Cx} {K : PySem.W.Frag} (hK : X.K = K) : CallR X (.builtin "sorted") (rFC K gSortS) := by
  subst hK
  refine Yt cr_sortedS fun xs H Q h => ?_
  obtain ⟨ι,Z,ts,s,r,p⟩ := h
  unfold gSortS at p
  split at p
  · obtain ⟨v,rfl,rr⟩ := r.one
    split at p
    · rename_i i us eg
      obtain ⟨a,vs,rfl,hi,h1,r2⟩ := Xn s (Yg eg) rr
      split at p
      · rename_i l el
        split at p
        · rename_i hl
          have := Z7a r2 el
          rw [this] at h1
          refine ⟨a,l.map S,rfl,.of h1,by rw [List.length_map]; exact hl,fun ys d pm so nd => ?_⟩
          have hy : ys = (ys.map fun z => z.cps.toList).map S := by
            rw [List.map_map]
            conv => lhs; rw [← List.map_id ys]
            exact List.map_congr_left fun z _ => rfl
          have e : (ys.map fun z => z.cps.toList) = l.mergeSort leS := by
            refine Zah ?_ ?_ ?_
            · rw [List.pairwise_map]
              cases ys with
              | nil => exact .nil
              | cons y r => exact Zh9 r y so
            · exact (List.pairwise_mergeSort Zh8 Zdl l).imp fun h => of_decide_eq_true h
            · refine (pm.map fun z => z.cps.toList).trans ?_
              rw [List.map_map]
              have : (l.map ((fun z : PySem.Str => z.cps.toList) ∘ S)) = l := by
                conv => rhs; rw [← List.map_id l]
                exact List.map_congr_left fun z _ => rfl
              rw [this]
              exact (List.mergeSort_perm l leS).symm
          rw [hy,e,List.map_map]
          refine Z1w p s ?_ d nd
          have : ∀ l : List (List Nat),Reps X.K ι H (l.map (V.str ∘ S)) (l.map T.str) := fun l => by
            induction l with
            | nil => exact .nil
            | cons a l ih => exact .cons (.str a) ih
          exact this _
        · exact p.elim
      · exact p.elim
    · exact p.elim
  · exact p.elim
theorem Ziv {Z : Sto} {i : Nat} {l : List (List Nat)} (h : getL Z i = some (l.map T.str)) (hl : l.length < 64) : gSortS [.loc i] Z = some (.loc Z.length,Z ++ [.lst ((l.mergeSort leS).map .str)]) := by
  unfold gSortS
  simp only [h,Zbw]
  rw [if_pos hl]
end Fx
set_option maxHeartbeats 4000000
namespace Fx
open PySem PySem.Spec PyProof.Rows L2 SX Ap
variable [Tb]
section
variable {K : PySem.W.Frag} {ι : List Addr} {H : Hp} {Z : Sto}
theorem Zfn {v : V} {i : Nat} {ts : List T} (s : Sim K ι Z H) (r : Rep K ι H v (.loc i)) (e : getL Z i = some ts) : ∃ a, v = .ref a ∧ (∃ xs, SqL K H a xs) ∧ ∀ ι' H' Z' us, Gr ι ι' H H' → Sim K ι' Z' H' → getL Z' i = some us → ∃ xs, SqL K H' a xs ∧ Reps K ι' H' xs us := by
  obtain ⟨a,vs,rfl,ha,h1,_⟩ := Xn s (Yg e) r
  refine ⟨a, rfl, ⟨_, SqL.of h1⟩, fun ι' H' Z' us g' s' e' => ?_⟩
  obtain ⟨a2, ws, e2, ha2, h3, r3⟩ := Xn s' (Yg e') (r.gr g')
  cases e2
  exact ⟨ws,SqL.of h3,r3⟩
end
end Fx
set_option maxHeartbeats 4000000
namespace Fx
open PySem PySem.Spec PyProof.Rows L2 SX Ap
variable [Tb]
def itZipU (xs : List T) (b : Nat) : ItF := fun k Z => match getL Z b with
  | some ys => match xs[k]?,ys[k]? with
    | some x,some y => some (some (.tup [x,y]))
    | _,_ => if k ≤ xs.length ∧ k ≤ ys.length then some none else none
  | none => none
def tupLoc : List T → Option (List T × Nat)
  | [.tup ts,.loc b] => some (ts,b)
  | _ => none
theorem Zdm {ts us : List T} {b : Nat} (h : tupLoc ts = some (us,b)) : ts = [.tup us,.loc b] := by
  unfold tupLoc at h
  split at h
  · cases h; rfl
  · cases h
def iZipU (f : FA) : FI := fun ρ Z => (f ρ Z).bind fun xs Z1 => match tupLoc xs with
  | some (ts,b) => match getL Z1 b with
    | some _ => .ok (itZipU ts b) Z1
    | none => .stuck
  | none => match xs with
    | [x,y] => match zipOf x y Z1 with
      | some it => .ok it Z1
      | none => .stuck
    | _ => .stuck
def ItzU (K : PySem.W.Frag) (a b : Addr) : It :=
  ⟨fun i H => ∃ (xs ys : List V) (x y : V),SqT K H a xs ∧ SqL K H b ys ∧ xs[i]? = some x ∧ ys[i]? = some y,
    fun i H v H' => ∃ T x y, v = .ref T ∧ H T = none ∧ H' = upd H T (.tup [x, y]) ∧ (∀ xs, SqT K H a xs → xs[i]? = some x) ∧ (∀ ys, SqL K H b ys → ys[i]? = some y),
    fun i H => ∃ xs ys : List V,SqT K H a xs ∧ SqL K H b ys ∧ i ≤ xs.length ∧ i ≤ ys.length ∧ (i = xs.length ∨ i = ys.length)⟩
theorem Zdn {P : Program} {w : World} {K : PySem.W.Frag} {elts : List Expr} {kk : Nat} {tpos : Pos} {N : Nat} {a b : Addr} (ha : a < N) (hb : b < N) :
    Turn P w K (.Tuple elts kk tpos) (ItzU K a b) [N + 4,N + 2,N + 3,N,N + 1] (N + 4) (fun i h => IsZip h (N + 4) (N + 2) (N + 3) .none ∧ IsTupOf2 h (N + 2) (.ref N) (.ref (N + 1)) ∧ (∃ x y,IsTupOf2 h (N + 3) x y) ∧ h.IsTupleIter N a i ∧ h.IsListIter (N + 1) b i) where
  mem := by simp
  obj := fun i h st q hq => by
    obtain ⟨hz,hTI,⟨x,y,hTO⟩,⟨o1,e1,_,d1⟩,⟨o2,e2,_,d2⟩⟩ := st
    have e' : q = N + 4 ∨ q = N + 2 ∨ q = N + 3 ∨ q = N ∨ q = N + 1 := by simpa using hq
    rcases e' with q | q | q | q | q
    · rw [q]; exact ⟨_,hz,fun v q => nomatch q⟩
    · rw [q]; exact ⟨_,hTI,fun v q => nomatch q⟩
    · rw [q]; exact ⟨_,hTO,fun v q => nomatch q⟩
    · rw [q]; exact ⟨o1,e1,fun v q => by rw [d1] at q; cases q⟩
    · rw [q]; exact ⟨o2,e2,fun v q => by rw [d2] at q; cases q⟩
  keep := fun i h h' st k => by
    obtain ⟨hz,hTI,⟨x,y,hTO⟩,h1,h2⟩ := st
    exact ⟨k _ (by simp) _ hz,k _ (by simp) _ hTI,⟨x,y,k _ (by simp) _ hTO⟩,h1.at fun o q => k N (by simp) o q,h2.at fun o q => k (N + 1) (by simp) o q⟩
  item := by
    intro X hP hw hK hc i pins s σ H E I hf st hg
    subst hP hw hK
    obtain ⟨hz,hTI,⟨x0,y0,hTO⟩,h1,h2⟩ := st
    obtain ⟨xs,ys,x,y,hqx,hqy,hx,hy⟩ := hg
    obtain ⟨its,rv,p,_⟩ := I.tuple hqx
    obtain ⟨its2,rv2,p2,_⟩ := I.list hqy
    obtain ⟨u,hu,ru⟩ := rv.get hx
    obtain ⟨u2,hu2,ru2⟩ := rv2.get hy
    have hh : X.A.in1.handled = none := I.ok.hd hc
    have S : ZipSep2 (N + 4) (N + 2) (N + 3) N (N + 1) (N :: [a]) ((N + 1) :: [b]) := zip_sep2 (by simpa using ha) (by simpa using hb)
    have D1 := Draws.tuple (prog := X.prog) (w := X.w) hh N a (Nat.ne_of_lt ha) its.toArray
    have D2 := Draws.list (prog := X.prog) (w := X.w) hh (N + 1) b (Nat.ne_of_lt (Nat.lt_succ_of_lt hb)) its2.toArray
    have l1 : i < its.toArray.size := by simpa using (List.getElem?_eq_some_iff.mp hu).1
    have l2 : i < its2.toArray.size := by simpa using (List.getElem?_eq_some_iff.mp hu2).1
    have hzl : N + 4 < s.heap.objs.size := Heap.lt_size hz
    refine wpAny_pyNext_zipD2_item S D1 D2 hz hTI hTO ⟨h1, p⟩ ⟨h2, p2.isList⟩ l1 l2 fun x1 x2 h' tk g1 g2 z' TO' s1 s2 hT hsz hk => ?_
    have k1 : x1 = u := by simpa [hu] using g1.symm
    have k2 : x2 = u2 := by simpa [hu2] using g2.symm
    subst k1 k2
    refine ⟨_, rfl, wpAny_letOwnedTupleGo_zip (s := { s with heap := h', toks := tk }) z' fun h'' z'' sb => ?_⟩
    have hT2 : h''.get? s.heap.objs.size = some { cls := .type "tuple", data := .seq #[x1, x2] } := (sb.2 _ (Nat.ne_of_gt hzl)).trans hT
    have new : ObjOk X.prog X.w (upd H s.heap.objs.size (.tup [x, y])) h'' s.heap.objs.size (.tup [x, y]) :=
      ⟨by show 2 ≤ sizeLine; decide,[x1,x2],.cons ru (.cons ru2 .nil),⟨_,hT2,rfl,_,rfl⟩⟩
    have I1 : Inv X pins σ (upd H s.heap.objs.size (.tup [x, y])) { s with heap := h'', toks := tk } :=
      I.turnedNew (t' := tk) (ch := [N + 4, N + 2, N + 3, N, N + 1]) (fun q o hb' e => (sb.2 q (fun q' => hb' (by simp [q']))).trans (hk q o (fun q' => hb' (by simp [q'])) (fun q' => hb' (by simp [q'])) (fun q' => hb' (by simp [q'])) (fun q' => hb' (by simp [q'])) e)) hf (Nat.le_refl _) new
    refine ⟨.ref s.heap.objs.size, _, I1, rfl, ⟨_, x, y, rfl, I.hok.fresh (Nat.le_refl _), rfl, fun l hl => by rw [I.tuple_inj hl hqx]; exact hx, fun l hl => by rw [I.list_inj hl hqy]; exact hy⟩, ⟨z'', ?_, ⟨x1, x2, ?_⟩, ?_, ?_⟩, fun q hcm => ?_⟩
    · exact (sb.2 _ S.TIz).trans (hk _ _ S.TIz S.TITO S.TIi1 S.TIi2 hTI)
    · exact (sb.2 _ S.TOz).trans TO'
    · exact s1.1.at fun o q => (sb.2 _ (fun e => S.zi1 e.symm)).trans q
    · exact s2.1.at fun o q => (sb.2 _ (fun e => S.zi2 e.symm)).trans q
    · have hlt : q < s.heap.objs.size := by
        have e' : q = N + 4 ∨ q = N + 2 ∨ q = N + 3 ∨ q = N ∨ q = N + 1 := by simpa using hcm
        have hle : q ≤ N + 4 := by
          rcases e' with e | e | e | e | e <;> rw [e]
          · exact Nat.le_refl _
          · exact Nat.add_le_add_left (by decide) _
          · exact Nat.add_le_add_left (by decide) _
          · exact Nat.le_add_right _ _
          · exact Nat.add_le_add_left (by decide) _
        exact Nat.lt_of_le_of_lt hle hzl
      rw [upd_ne (Nat.ne_of_lt hlt)]
      exact (hf q hcm).1
  done := by
    intro X hP hw hK hc i pins s σ H E I hf st hg
    subst hP hw hK
    obtain ⟨hz,hTI,⟨x0,y0,hTO⟩,h1,h2⟩ := st
    obtain ⟨xs,ys,hqx,hqy,b1,b2,hend⟩ := hg
    obtain ⟨its,rv,p,_⟩ := I.tuple hqx
    obtain ⟨its2,rv2,p2,_⟩ := I.list hqy
    have l1 := rv.length
    have l2 := rv2.length
    have hh : X.A.in1.handled = none := I.ok.hd hc
    have S : ZipSep2 (N + 4) (N + 2) (N + 3) N (N + 1) (N :: [a]) ((N + 1) :: [b]) := zip_sep2 (by simpa using ha) (by simpa using hb)
    have D1 := Draws.tuple (prog := X.prog) (w := X.w) hh N a (Nat.ne_of_lt ha) its.toArray
    have D2 := Draws.list (prog := X.prog) (w := X.w) hh (N + 1) b (Nat.ne_of_lt (Nat.lt_succ_of_lt hb)) its2.toArray
    refine wpAny_pyNext_zipD2_end S D1 D2 hz hTI hTO ⟨h1, p⟩ ⟨h2, p2.isList⟩ (by simp; omega) (by simp; omega) (by simp; omega) fun h' tk hk => ⟨rfl, I.turnedL (t' := tk) (ch := [N + 4, N + 2, N + 3, N, N + 1]) (fun q o hb' e =>
      hk q o (fun q' => hb' (by simp [q'])) (fun q' => hb' (by simp [q'])) (fun q' => hb' (by simp [q'])) (fun q' => hb' (by simp [q'])) e) hf⟩
  self := fun A i s Q E st h => wpAny_pyIter_zip st.1 h
def iZipB (K : PySem.W.Frag) (ta : TA) : TI := fun σ H R => ta σ H fun vs H1 => ∃ a b xs ys,vs = [.ref a,.ref b] ∧ ((SqL K H1 a xs ∧ SqL K H1 b ys ∧ R (Itz K a b) H1) ∨ (SqT K H1 a xs ∧ SqT K H1 b ys ∧ R (RZ.ItzT K a b) H1) ∨ (SqT K H1 a xs ∧ SqL K H1 b ys ∧ R (ItzU K a b) H1))
theorem Ziw {X : Cx} {e e2 : Expr} {ta : TA} {p pos tpos : Pos} {elts : List Expr} {kk : Nat} (hg : Gl X "zip") (hm : X.mg "zip" = none) (ha : PA X [e, e2] ta)
    (hs : starEach [e,e2] X.env = (false,eval e X.env) :: starEach [e2] X.env := by rfl) (hpl : (backTo pos (starEach [e2] X.env)).any (·.1) = false := by rfl) :
    PI X (.Tuple elts kk tpos) (.Call (.Name "zip" p) [e, e2] [] pos) (iZipB X.K ta) := by
  refine ⟨fun pins s σ H R I h => ?_⟩
  refine Call_ (ld_blt I hg hm PyProof.Rows.boot_zip (PyProof.Rows.callWith_type1 (thn (ha.run pos pins s σ H _ I h) fun us s1 ⟨vs,H1,I1,r1,q1⟩ => ?_) hs hpl))
  obtain ⟨a,b,xs,ys,ex,q1⟩ := q1
  subst ex
  cases r1 with
  | cons r rr =>
    cases rr with
    | cons r' rr =>
      cases rr
      cases r
      cases r'
      have fresh5 : ∀ c,c ∈ [s1.heap.objs.size + 4,s1.heap.objs.size + 2,s1.heap.objs.size + 3,s1.heap.objs.size,s1.heap.objs.size + 1] → FpOk X pins H1 c := fun c hcm => by
        have e' : c = s1.heap.objs.size + 4 ∨ c = s1.heap.objs.size + 2 ∨ c = s1.heap.objs.size + 3 ∨ c = s1.heap.objs.size ∨ c = s1.heap.objs.size + 1 := by simpa using hcm
        have hle : s1.heap.objs.size ≤ c := by
          rcases e' with z | z | z | z | z
          · rw [z]; exact Nat.le_add_right _ _
          · rw [z]; exact Nat.le_add_right _ _
          · rw [z]; exact Nat.le_add_right _ _
          · rw [z]; exact Nat.le_refl _
          · rw [z]; exact Nat.le_add_right _ _
        exact I1.fpOk hle (I1.hok.fresh hle)
      rcases q1 with ⟨hqx,hqy,q⟩ | ⟨hqx,hqy,q⟩ | ⟨hqx,hqy,q⟩
      · obtain ⟨its,rv,p1,_⟩ := I1.list hqx
        obtain ⟨its2,rv2,p2,_⟩ := I1.list hqy
        refine call_zip_2 p1.isList p2.isList fun h' hz hTI hTO h1 h2 hsz hk => wpAny_pyIter_zip hz ?_
        have I2 : Inv X pins σ H1 { s1 with heap := h' } := I1.kept (t' := s1.toks) hk
        exact ⟨s1.heap.objs.size + 4,[s1.heap.objs.size + 4,s1.heap.objs.size + 2,s1.heap.objs.size + 3,s1.heap.objs.size,s1.heap.objs.size + 1],_,_,H1,rfl,I2,turn_zip (PySem.W.ktu_apart s1.heap.objs.size a b p1.lt p2.lt),⟨hz,hTI,⟨_,_,hTO⟩,h1,h2⟩,fresh5,q⟩
      · obtain ⟨its,rv,p1,_⟩ := I1.tuple hqx
        obtain ⟨its2,rv2,p2,_⟩ := I1.tuple hqy
        obtain ⟨o1,ho1,_⟩ := id p1
        obtain ⟨o2,ho2,_⟩ := id p2
        refine RZ.call_zipT (show s1.heap.IsTuple a its.toArray from p1) (show s1.heap.IsTuple b its2.toArray from p2) fun h' hz hTI hTO h1 h2 hsz hk => wpAny_pyIter_zip hz ?_
        have I2 : Inv X pins σ H1 { s1 with heap := h' } := I1.kept (t' := s1.toks) hk
        exact ⟨s1.heap.objs.size + 4,[s1.heap.objs.size + 4,s1.heap.objs.size + 2,s1.heap.objs.size + 3,s1.heap.objs.size,s1.heap.objs.size + 1],_,_,H1,rfl,I2,RZ.turn_zipT (PySem.W.ktu_apart s1.heap.objs.size a b (Heap.lt_size ho1) (Heap.lt_size ho2)),⟨hz,hTI,⟨_,_,hTO⟩,h1,h2⟩,fresh5,q⟩
      · obtain ⟨its,rv,p1,_⟩ := I1.tuple hqx
        obtain ⟨its2,rv2,p2,_⟩ := I1.list hqy
        obtain ⟨o1,ho1,_⟩ := id p1
        refine zip_begins2 (begins_tuple a its.toArray) (begins_list b its2.toArray) p1 p2.isList fun h' hz hTI hTO g1 g2 hsz hk => wpAny_pyIter_zip hz ?_
        have I2 : Inv X pins σ H1 { s1 with heap := h' } := I1.kept (t' := s1.toks) hk
        exact ⟨s1.heap.objs.size + 4,[s1.heap.objs.size + 4,s1.heap.objs.size + 2,s1.heap.objs.size + 3,s1.heap.objs.size,s1.heap.objs.size + 1],_,_,H1,rfl,I2,Zdn (Heap.lt_size ho1) p2.lt,⟨hz,hTI,⟨_,_,hTO⟩,⟨_,g1,rfl,rfl⟩,⟨_,g2,rfl,rfl⟩⟩,fresh5,q⟩
section
variable {X : Cx} {K : PySem.W.Frag} {W : WX} {pos p tpos : Pos} {a b : Expr} {fa : FA} {elts : List Expr} {kk : Nat}
theorem Zix (hK : X.K = K) (hg : Gl X "zip") (hm : X.mg "zip" = none) (ha : FAJ X K (Wt W) [a, b] fa)
    (hs : starEach [a,b] X.env = (false,eval a X.env) :: starEach [b] X.env := by rfl) (hpl : (backTo pos (starEach [b] X.env)).any (·.1) = false := by rfl) :
    PI X (.Tuple elts kk tpos) (.Call (.Name "zip" p) [a, b] [] pos) (tI K W (iZipU fa)) := by
  subst hK
  refine Z2d (Ziw hg hm ha hs hpl) fun σ H Q h => ?_
  obtain ⟨ι,ρ,Z,is,p⟩ := h
  refine ⟨ι,ρ,Z,is.ie,?_⟩
  unfold iZipU at p
  cases e : fa ρ Z with
  | ok ts Z1 =>
    rw [e,Zv] at p
    intro ι1 H1 vs g1 s1 r1
    cases h3 : tupLoc ts with
    | some q3 =>
      obtain ⟨xs,j⟩ := q3
      rw [h3] at p
      simp only at p
      obtain rfl := Zdm h3
      cases e2 : getL Z1 j with
      | none => rw [e2] at p; exact p.elim
      | some ys =>
        rw [e2] at p
        obtain ⟨v,w,rfl,rx,ry⟩ := r1.two
        obtain ⟨a1,ws,rfl,hx,rxs⟩ := rx.tupE
        obtain ⟨b1, rfl, ⟨ys', hy⟩, A2⟩ := Zfn s1 ry e2
        refine ⟨a1, b1, ws, ys', rfl, .inr (.inr ⟨hx, hy, p ι1 H1 _ g1 s1 ?_⟩)⟩
        intro k ι' H' Z' g' s'
        unfold itZipU
        cases f2 : getL Z' j with
        | none => exact trivial
        | some vs =>
          obtain ⟨ys1, q2, w2⟩ := A2 ι' H' Z' vs g' s' f2
          have q1 := SqT.gr g' hx
          have w1 := rxs.gr g'
          have n1 := w1.length
          have n2 := w2.length
          have stop : (∀ x y,¬ (xs[k]? = some x ∧ vs[k]? = some y)) → match (if k ≤ xs.length ∧ k ≤ vs.length then some (none : Option T) else none) with
              | none => True
              | some none => (ItzU X.K a1 b1).stop k H'
              | some (some t) => (ItzU X.K a1 b1).go k H' ∧ ∀ x H'', (ItzU X.K a1 b1).yld k H' x H'' → Gr ι' ι' H' H'' ∧ Sim X.K ι' Z' H'' ∧ Rep X.K ι' H'' x t := fun hn => by
            by_cases hk : k ≤ xs.length ∧ k ≤ vs.length
            · rw [if_pos hk]
              refine ⟨ws,ys1,q1,q2,by omega,by omega,?_⟩
              by_cases a1 : k < xs.length
              · by_cases a2 : k < vs.length
                · exact absurd ⟨List.getElem?_eq_getElem a1,List.getElem?_eq_getElem a2⟩ (hn _ _)
                · omega
              · omega
            · rw [if_neg hk]; trivial
          simp only
          cases d1 : xs[k]? with
          | none => exact stop fun x y h => by rw [d1] at h; cases h.1
          | some t1 =>
            cases d2 : vs[k]? with
            | none => exact stop fun x y h => by rw [d2] at h; cases h.2
            | some t2 =>
              obtain ⟨x, c1', r1'⟩ := w1.get d1
              obtain ⟨y, c2', r2'⟩ := w2.get d2
              refine ⟨⟨ws, ys1, x, y, q1, q2, c1', c2'⟩, fun w H'' hw => ?_⟩
              obtain ⟨q, x', y', rfl, nq, rfl, g1, g2⟩ := hw
              have z1 := g1 ws q1
              have z2 := g2 ys1 q2
              rw [c1'] at z1; cases z1
              rw [c2'] at z2; cases z2
              exact ⟨Gr.new0 nq, s'.same (Wd nq), .tup (SqT.of upd_same) (.cons (r1'.gr (Gr.new0 nq)) (.cons (r2'.gr (Gr.new0 nq)) .nil))⟩
    | none =>
      rw [h3] at p
      simp only at p
      match ts,r1,p with
      | [x,y],r1,p =>
        obtain ⟨v,w,rfl,rx,ry⟩ := r1.two
        simp only at p
        cases ez : zipOf x y Z1 with
        | none => rw [ez] at p; exact p.elim
        | some it =>
          rw [ez] at p
          unfold zipOf at ez
          split at ez
          · rename_i i j ei ej
            cases ez
            obtain ⟨a1,rfl,⟨xs,hx⟩,A1⟩ := Zgz s1 rx ei
            obtain ⟨b1,rfl,⟨ys,hy⟩,A2⟩ := Zgz s1 ry ej
            exact ⟨a1, b1, xs, ys, rfl, .inl ⟨hx, hy, p ι1 H1 _ g1 s1 (Zh1 A1 A2 (fun k H' xs ys h1 h2 h3 => ⟨xs, ys, h1, h2, h3⟩) (fun k H' xs ys x y h1 h2 h3 h4 => ⟨xs, ys, x, y, h1, h2, h3, h4⟩) (fun k H' w H'' h => h))⟩⟩
          · split at ez
            · rename_i ts us _
              cases ez
              obtain ⟨a1,rfl,⟨xs,hx⟩,A1⟩ := Zh0 rx
              obtain ⟨b1,rfl,⟨ys,hy⟩,A2⟩ := Zh0 ry
              exact ⟨a1, b1, xs, ys, rfl, .inr (.inl ⟨hx, hy, p ι1 H1 _ g1 s1 (Zh1 A1 A2 (fun k H' xs ys h1 h2 h3 => ⟨xs, ys, h1, h2, h3⟩) (fun k H' xs ys x y h1 h2 h3 h4 => ⟨xs, ys, x, y, h1, h2, h3, h4⟩) (fun k H' w H'' h => h))⟩)⟩
            · cases ez
      | [],_,p => exact p.elim
      | [_],_,p => exact p.elim
      | _ :: _ :: _ :: _,_,p => exact p.elim
  | exc y Z1 => rw [e] at p; exact p
  | stuck => rw [e] at p; exact p
end
end Fx
set_option maxHeartbeats 4000000
namespace L2
open PySem PySem.Spec PyProof.Rows
theorem Zbx (n : Nat) : Builtin.Slice.sliceAdjust none none (-1) (n : Int) = ((n : Int) - 1,-1) := by
  unfold Builtin.Slice.sliceAdjust
  simp
theorem Zby (n : Nat) : Builtin.Slice.slicePlaces ((n : Int) - 1) (-1) (-1) = n := by
  unfold Builtin.Slice.slicePlaces
  have h1 : ¬ ((-1 : Int) > 0) := by omega
  rw [if_neg h1]
  by_cases h : (n : Int) - 1 > -1
  · rw [if_pos h]
    have : ((n : Int) - 1 - -1 - 1) / (- -1) = (n : Int) - 1 := by
      rw [show (- -1 : Int) = 1 by decide,Int.ediv_one]; omega
    rw [this]; omega
  · rw [if_neg h]; omega
theorem Zfo (xs : Array Value) : ((List.range xs.size).filterMap fun (k : Nat) => xs[(((xs.size : Int) - 1) + (k : Int) * (-1)).toNat]?).toArray = xs.toList.reverse.toArray := by
  congr 1
  have key : ∀ n,n ≤ xs.size → ((List.range n).filterMap fun (k : Nat) => xs[(((xs.size : Int) - 1) + (k : Int) * (-1)).toNat]?) = xs.toList.reverse.take n := by
    intro n
    induction n with
    | zero => intro _; rfl
    | succ n ih =>
      intro hn
      rw [List.range_succ,List.filterMap_append,ih (by omega)]
      have e : (((xs.size : Int) - 1) + (n : Int) * (-1)).toNat = xs.size - 1 - n := by omega
      have hl : xs.size - 1 - n < xs.size := by omega
      rw [List.filterMap_cons,e,Array.getElem?_eq_getElem hl]
      rw [List.take_succ_eq_append_getElem (by rw [List.length_reverse,Array.length_toList]; omega)]
      simp [List.getElem_reverse]
  rw [key _ (Nat.le_refl _),List.take_of_length_le (by rw [List.length_reverse,Array.length_toList]; exact Nat.le_refl _)]
section
variable {prog : Program} {w : World} {A : Around} {E : Value → Shared → Prop} {s : Shared}
theorem Z2x {sl : Addr} {n : Nat} {u : Tok} {Q : Int × Int × Nat → Shared → Prop} (hs : s.heap.IsSliceOf sl .none .none (.int (-1) u)) (h : Q ((n : Int) - 1,-1,n) s) :
    wpAny (model prog w) A (Builtin.Slice.sliceApplied (.ref sl) (pure (n : Int))) Q E s := by
  obtain ⟨os,hos,hcs,hds⟩ := id hs
  unfold Builtin.Slice.sliceApplied Builtin.Slice.sliceFields
  refine wpAny_bind (wpAny_bind (wpAny_field hos hds (x := .none) rfl (wpAny_bind (wpAny_field hos hds (x := .none) rfl (wpAny_bind (wpAny_field hos hds (x := .int (-1) u) rfl (wpAny_pure ?_)))))))
  refine wpAny_bind (slicePart_int ?_)
  show wpAny _ _ (if ((-1 : Int) == 0) = true then _ else _) _ _ s
  rw [if_neg (by decide)]
  refine wpAny_bind (slicePart_none (wpAny_bind (slicePart_none (wpAny_bind (wpAny_pure ?_)))))
  show wpAny _ _ (match Builtin.Slice.sliceAdjust none none (-1) (n : Int) with | (lo,hi) => pure (lo,(-1 : Int),Builtin.Slice.slicePlaces lo hi (-1))) _ _ s
  rw [Zbx n]
  show wpAny _ _ (pure ((n : Int) - 1,(-1 : Int),Builtin.Slice.slicePlaces ((n : Int) - 1) (-1) (-1))) _ _ s
  rw [Zby n]
  exact wpAny_pure h
theorem Z26 {t sl : Addr} {items : Array Value} {u : Tok} {Q : Value → Shared → Prop} (ht : IsTup s.heap t items) (hs : s.heap.IsSliceOf sl .none .none (.int (-1) u))
    (h : Q (.ref s.heap.objs.size) { s with heap := s.heap.push { cls := .type "tuple", data := .seq items.toList.reverse.toArray } })
    (hsz : items.size ≤ sizeLine := by size_fits) : wpAny (model prog w) A (getItem (.ref t) (.ref sl)) Q E s := by
  have hrev : sizeOk (.seq items.toList.reverse.toArray) := by
    show items.toList.reverse.toArray.size ≤ sizeLine
    rw [List.size_toArray,List.length_reverse,Array.length_toList]
    omega
  obtain ⟨os,hos,hcs,hds⟩ := id hs
  have hTs : s.TypeIs (.ref sl) "slice" := ⟨os, hos, hcs⟩
  unfold getItem
  try with_reducible refine wpAny_holding ?_
  first | refine wpAny_bind (wpAny_pure ?_) | skip
  refine wpAny_bind (wpAny_sequenceKey ht.typeIs (by decide) ?_)
  refine wpAny_bind (wpAny_callSpecial?_slot (name := Str.ofString "__getitem__") ht.typeIs PyProof.Rows.slot_tuple_getitem
    (wpAny_call_entry PyProof.Rows.slot_tuple_getitem ht.typeIs entry_tuple_getitem ?_ (args_tuple_getitem _ _)))
  show wpAny _ _ (Builtin.Tuple.tupleItemsOf (.ref t) >>= _) _ _ s
  refine wpAny_bind (tupleItemsOf_ ht ?_)
  refine wpAny_bind (wpAny_typeOf hTs ?_)
  rw [if_pos (by decide)]
  refine wpAny_bind (Z2x hs ?_)
  have hno : ¬ ((((items.size : Int) - 1) == 0 && (-1 : Int) == 1 && items.size == items.size) = true) := by
    simp
  show wpAny _ _ (if (((items.size : Int) - 1) == 0 && (-1 : Int) == 1 && items.size == items.size) = true then _ else _) _ _ s
  rw [if_neg hno,Zfo items]
  first
    | exact wpAny_bind (m := Builtin.Tuple.tupleExact _) (wpAny_newObj_type (wpAny_pure ⟨_,rfl,wpAny_pure h⟩) hrev)
    | exact wpAny_bind (m := Builtin.Tuple.tupleExact _) (wpAny_newObj_type (wpAny_bind (wpAny_pure (wpAny_pure ⟨_,rfl,wpAny_pure h⟩))) hrev)
    | exact wpAny_bind (wpAny_bind (m := Builtin.Tuple.tupleExact _) (wpAny_newObj_type (wpAny_pure (wpAny_pure ⟨_,rfl,wpAny_pure h⟩)) hrev))
    | exact wpAny_bind (wpAny_bind (m := Builtin.Tuple.tupleExact _) (wpAny_newObj_type (wpAny_pure ⟨_,rfl,wpAny_pure h⟩) hrev))
end
section
variable {X : Cx} {e : Expr} {lo hi : Option Expr} {st : Expr} {te : TE} {tl th ts : TO} {p2 pos : Pos}
def tRvT (K : PySem.W.Frag) (te : TE) (tl th ts : TO) : TE := fun σ H Q => te σ H fun x H1 => tl σ H1 fun l H2 => th σ H2 fun h H3 => ts σ H3 fun k H4 =>
  ∃ a xs,x = .ref a ∧ SqT K H4 a xs ∧ l = none ∧ h = none ∧ k = some (-1) ∧ ∀ p,H4 p = none → Q (.ref p) (upd H4 p (.tup xs.reverse))
theorem Zle (he : PE X e te) (hl : PO X lo tl) (hh : PO X hi th) (hs : PO X (some st) ts) : PE X (.Subscript e (.Slice lo hi (some st) p2) pos) (tRvT X.K te tl th ts) := by
  refine ⟨fun pins s σ H Q I h => ?_⟩
  refine Subscript_ (thn (he.run pins s σ H _ I h) fun v s1 ⟨x,H1,I1,r1,q1⟩ => ?_)
  refine wpAny_Slice (thn (hl.run pins s1 σ H1 _ I1 q1) fun vl s2 ⟨l,H2,I2,pl,q2⟩ => thn (hh.run pins s2 σ H2 _ I2 q2) fun vu s3 ⟨u,H3,I3,pu,q3⟩ => thn (hs.run pins s3 σ H3 _ I3 q3) fun vs s4 ⟨o,H4,I4,ps,q4⟩ => ?_)
  obtain ⟨a,xs,ex,hx,el,eh,ek,q⟩ := q4
  subst ex el eh ek
  cases r1
  have I5 : Inv X pins σ H4 { s4 with heap := s4.heap.push { cls := .type "slice", data := .fields #[vl, vu, vs] } } := I4.kept (t' := s4.toks) fun b ob q => Heap.get?_push_of_some _ q
  obtain ⟨its,r,ht,hz⟩ := I5.tuple hx
  have hlen := r.length
  have evl : vl = .none := by cases pl; rfl
  have evu : vu = .none := by cases pu; rfl
  obtain ⟨tk,evs⟩ : ∃ tk,vs = .int (-1) tk := by cases ps; exact ⟨_,rfl⟩
  subst evl evu evs
  show wpAny (model X.prog X.w) X.A (subscriptTail e (.Slice lo hi (some st) p2) (.ref a) (.ref s4.heap.objs.size)) (EP X pins σ Q) X.xe { s4 with heap := s4.heap.push { cls := .type "slice", data := .fields #[.none, .none, .int (-1) tk] } }
  refine tail_any (ops := [.ref a,.ref s4.heap.objs.size]) ht.typeIs (PyProof.Rows.slot_tuple_getitem.lookup) ?_ (by with_unfolding_all rfl)
  refine Z26 ht (Heap.IsSliceOf.new _ _ _ _) ?_ (by rw [List.size_toArray]; omega)
  have hp : Vals xs.reverse its.toArray.toList.reverse := by simpa using Vals.reverse r
  refine ⟨.ref _, _, I5.laid (t' := s4.toks) (o := .tup xs.reverse) (fun b ob q => Heap.get?_push_of_some _ q) (Nat.le_refl _) ?_, rfl, q _ (I5.hok.fresh (Nat.le_refl _))⟩
  exact ⟨by show xs.reverse.length ≤ sizeLine; rw [List.length_reverse]; omega,_,hp,⟨_,Heap.get?_push_size _ rfl,rfl,_,rfl⟩⟩
end
end L2
namespace Fx
open PySem PySem.Spec PyProof.Rows L2 SX Ap
variable [Tb]
def gRvT (x : T) (lo hi st : Option Int) (Z : Sto) : Option (T × Sto) := match x,lo,hi,st with
  | .tup ts,none,none,some (-1) => some (.tup ts.reverse,Z)
  | _,_,_,_ => none
def eRvT (f : FE) (lo hi st : FO) : FE := fun ρ Z => (f ρ Z).bind fun x Z1 => (lo ρ Z1).bind fun l Z2 => (hi ρ Z2).bind fun h Z3 => (st ρ Z3).bind fun k Z4 => lift (gRvT x l h k Z4)
section
variable {X : Cx} {K : PySem.W.Frag} {W : Wc} {a : Expr} {fa : FE} {pos p2 : Pos} {lo hi : Option Expr} {st : Expr} {fl fh fs : FO}
theorem f_rvT (hK : X.K = K) (ha : FJ X K W a fa) (hl : PO X lo (tFO K W fl)) (hh : PO X hi (tFO K W fh)) (hs : PO X (some st) (tFO K W fs)) : FJ X K W (.Subscript a (.Slice lo hi (some st) p2) pos) (eRvT fa fl fh fs) := by
  subst hK
  refine Xo (Zle ha hl hh hs) fun σ H Q h => ?_
  obtain ⟨ι,ρ,Z,is,p⟩ := h
  refine ⟨ι,ρ,Z,is,(Zi p).imp fun x H1 q => ?_⟩
  obtain ⟨ι1,Z1,tx,g1,s1,r1,p1⟩ := q
  refine ⟨ι1,ρ,Z1,is.gr g1 s1,(Zi (rep := oEq) p1).imp fun l H2 q2 => ?_⟩
  obtain ⟨ι2,Z2,tl,g2,s2,r2,p2⟩ := q2
  cases (show l = tl from r2)
  refine ⟨ι2,ρ,Z2,(is.gr g1 s1).gr g2 s2,(Zi (rep := oEq) p2).imp fun h H3 q3 => ?_⟩
  obtain ⟨ι3,Z3,th,g3,s3,r3,p3⟩ := q3
  cases (show h = th from r3)
  refine ⟨ι3,ρ,Z3,((is.gr g1 s1).gr g2 s2).gr g3 s3,(Zi (rep := oEq) p3).imp fun k H4 q4 => ?_⟩
  obtain ⟨ι4,Z4,tk,g4,s4,r4,p4⟩ := q4
  cases (show k = tk from r4)
  have p5 := W9 p4
  unfold gRvT at p5
  split at p5
  · rename_i ts
    obtain ⟨b,vs,rfl,hq,r⟩ := (((r1.gr g2).gr g3).gr g4).tupE
    refine ⟨b,vs,rfl,hq,rfl,rfl,rfl,fun q hq => ?_⟩
    exact p5 _ _ _ (Gr.new0 hq) (s4.same (Wd hq)) (.tup (SqT.of upd_same) (r.reverse.gr (Gr.new0 hq)))
  · exact p5.elim
end
@[simp] theorem rvT_t (ts : List T) (Z : Sto) : gRvT (.tup ts) none none (some (-1)) Z = some (.tup ts.reverse,Z) := (rfl)
end Fx
set_option maxHeartbeats 4000000
namespace L2
open PySem PySem.Spec PyProof.Rows
mutual
inductive KvIs (K : PySem.W.Frag) (H : Hp) : NestedKey → V → Prop
  | non : KvIs K H .none .non
  | int (i : Int) : KvIs K H (.num i) (.int i)
  | str (x : Str) : KvIs K H (.text x) (.str x)
  | tup {a : Addr} {vs : List V} {ks : List NestedKey} : SqT K H a vs → KvAll K H ks vs → KvIs K H (.tup ks) (.ref a)
inductive KvAll (K : PySem.W.Frag) (H : Hp) : List NestedKey → List V → Prop
  | nil : KvAll K H [] []
  | cons {k : NestedKey} {v : V} {ks : List NestedKey} {vs : List V} : KvIs K H k v → KvAll K H ks vs → KvAll K H (k :: ks) (v :: vs)
end
section
variable {X : Cx} {pins : List (Addr × Obj)} {σ : St} {H H' : Hp} {s : Shared} {K : PySem.W.Frag}
mutual
theorem Qa (I : Inv X pins σ H s) : ∀ {k : NestedKey} {v : V} {u : Value},KvIs X.K H k v → RelV v u → NestedIs s.heap k u
  | _,_,_,.non,r => by
    have r : _ = Value.none := r
    subst r; exact .none
  | _,_,_,.int i,r => by
    obtain ⟨t,rfl⟩ := r
    exact .int i t
  | _,_,_,.str x,r => by
    obtain ⟨t,rfl⟩ := r
    exact .text x t
  | _,_,_,.tup (a := a) (vs := vs) e q,r => by
    have r : _ = Value.ref a := r
    subst r
    obtain ⟨its,rv,⟨o,h1,h2,n,h3⟩,_⟩ := I.tuple e
    exact .tup h1 h2 h3 (Z5f I q rv)
theorem Z5f (I : Inv X pins σ H s) : ∀ {ks : List NestedKey} {vs : List V} {us : List Value},KvAll X.K H ks vs → Vals vs us → NestedAll s.heap ks us
  | _,_,_,.nil,.nil => .nil
  | _,_,_,.cons p q,.cons r rs => .cons (Qa I p r) (Z5f I q rs)
end
mutual
theorem KvIs.keep (ht : ∀ b ys, SqT K H b ys → SqT K H' b ys) : ∀ {k : NestedKey} {v : V}, KvIs K H k v → KvIs K H' k v
  | _,_,.non => .non
  | _,_,.int i => .int i
  | _,_,.str x => .str x
  | _,_,.tup e q => .tup (ht _ _ e) (KvAll.keep ht q)
theorem KvAll.keep (ht : ∀ b ys, SqT K H b ys → SqT K H' b ys) : ∀ {ks : List NestedKey} {vs : List V}, KvAll K H ks vs → KvAll K H' ks vs
  | _,_,.nil => .nil
  | _,_,.cons p q => .cons (KvIs.keep ht p) (KvAll.keep ht q)
end
end
abbrev KN : List (NestedKey × Addr × V) → List (NestedKey × Addr × Value) → Prop := Paired fun p q => p.1 = q.1 ∧ p.2.1 = q.2.1 ∧ RelV p.2.2 q.2.2
def DnO (P : Program) (w : World) (a : Addr) (kvs : List (NestedKey × Addr × V)) : HO := .ext fun h => kvs.length ≤ sizeLine ∧ (a == sysModules) = false ∧ ∃ xs,KN kvs xs ∧
  ∃ o es ep,h.get? a = some o ∧ o.ExactDict ∧ o.data = .dict es ep ∧ es.toList = xs.map (entryOfKey (nestedKind P w)) ∧ (xs.map (·.1)).Nodup
def DN (P : Program) (w : World) (K : PySem.W.Frag) (H : Hp) (a : Addr) (kvs : List (NestedKey × Addr × V)) : Prop := H a = some (DnO P w a kvs) ∧ ∀ p ∈ kvs,KvIs K H p.1 (.ref p.2.1) ∧ p.1.depth ≤ 8
def valN (kvs : List (NestedKey × Addr × V)) (k : NestedKey) : Option V := (kvs.find? fun p => decide (p.1 = k)).map (·.2.2)
section
variable {X : Cx} {pins : List (Addr × Obj)} {σ : St} {H : Hp} {s : Shared} {a b : Addr} {kvs : List (NestedKey × Addr × V)} {k : NestedKey}
theorem KN.length {xs : List (NestedKey × Addr × Value)} (r : KN kvs xs) : kvs.length = xs.length := Paired.length r
theorem KN.mem : ∀ {kvs : List (NestedKey × Addr × V)} {xs : List (NestedKey × Addr × Value)},KN kvs xs → ∀ x ∈ xs,∃ p ∈ kvs,p.1 = x.1 ∧ p.2.1 = x.2.1 ∧ RelV p.2.2 x.2.2
  | _,_,.nil,x,h => nomatch h
  | _,_,.cons r t,x,h => by
    rcases List.mem_cons.mp h with rfl | h
    · exact ⟨_,List.mem_cons_self,r⟩
    · obtain ⟨p,hp,q⟩ := KN.mem t x h
      exact ⟨p,List.mem_cons_of_mem _ hp,q⟩
theorem KN.at (k : NestedKey) : ∀ {kvs : List (NestedKey × Addr × V)} {xs : List (NestedKey × Addr × Value)},KN kvs xs → match valN kvs k with
    | some v => ∃ p,atKey xs k = some p ∧ RelV v p.2
    | none => atKey xs k = none
  | _,_,.nil => rfl
  | _,_,.cons (a := p) (b := q) (l₁ := ps) (l₂ := qs) r t => by
    have ih := KN.at k t
    obtain ⟨h1,h2,h3⟩ := r
    by_cases e : p.1 = k
    · have e' : q.1 = k := h1 ▸ e
      have v1 : valN (p :: ps) k = some p.2.2 := by simp [valN,e]
      rw [v1]
      exact ⟨q.2, by simp [atKey, e'], h3⟩
    · have e' : ¬ q.1 = k := fun z => e (h1 ▸ z)
      have v1 : valN (p :: ps) k = valN ps k := by simp [valN,e]
      have v2 : atKey (q :: qs) k = atKey qs k := by simp [atKey, e']
      rw [v1,v2]; exact ih
theorem Zbz (I : Inv X pins σ H s) (x : DN X.prog X.w X.K H a kvs) : kvs.length ≤ sizeLine ∧ (a == sysModules) = false ∧ ∃ xs,KN kvs xs ∧ s.heap.DictOfH (nestedKind X.prog X.w) a xs := by
  obtain ⟨z,hd,xs,r,o,es,ep,h1,h2,h3,h4,h5⟩ := (show ObjOk X.prog X.w H s.heap a (DnO X.prog X.w a kvs) from I.hok a _ x.1).1
  refine ⟨z,hd,xs,r,o,es,ep,h1,h2,h3,h4,fun y hy => ?_,h5⟩
  obtain ⟨p,hp,e1,e2,_⟩ := r.mem y hy
  obtain ⟨q1,q2⟩ := x.2 p hp
  rw [e1] at q1 q2
  rw [e2] at q1
  exact ⟨Qa I q1 rfl,q2⟩
theorem Zfp {P : Program} {w : World} {h : Heap} {xs : List (NestedKey × Addr × Value)} (hz : kvs.length ≤ sizeLine) (hsm : (a == sysModules) = false) (r : KN kvs xs) (x : h.DictOfH (nestedKind P w) a xs) : ObjOk P w H h a (DnO P w a kvs) := by
  obtain ⟨o,es,ep,h1,h2,h3,h4,_,h5⟩ := x
  refine ⟨⟨hz,hsm,xs,r,o,es,ep,h1,h2,h3,h4,h5⟩,⟨o,h1⟩,fun g1 g2 q st => ?_⟩
  obtain ⟨z1, z2, xs', r', o', es', ep', a1, a2⟩ := q
  exact ⟨z1, z2, xs', r', o', es', ep', st _ a1, a2⟩
def tNNew (P : Program) (w : World) : TE := fun _ H Q => ∀ p,H p = none → Q (.ref p) (upd H p (DnO P w p []))
theorem Ziy {pos : Pos} : PE X (.Dict [] [] pos) (tNNew X.prog X.w) := ⟨fun pins s σ H Q I h =>
  wpAny_Dict_empty ⟨.ref s.heap.objs.size, _, I.laid (a := s.heap.objs.size) (o := DnO X.prog X.w s.heap.objs.size []) (t' := s.toks) (fun _ _ q => Heap.get?_push_of_some _ q) (Nat.le_refl _) (Zfp (Nat.zero_le _) (beq_eq_false_iff_ne.mpr (Ne.symm (Nat.ne_of_lt I.big))) (xs := []) .nil (Heap.DictOfH.new s.heap)), rfl, h _ (I.hok.fresh (Nat.le_refl _))⟩⟩
theorem Zlf {K : PySem.W.Frag} {P : Program} {w : World} {kvs' : List (NestedKey × Addr × V)} (x : H a = some (DnO P w a kvs)) : ∀ c ys, SqT K H c ys → SqT K (upd H a (DnO P w a kvs')) c ys := fun c ys e => by
  rcases e with e | e
  · have hc : c ≠ a := by
      rintro rfl
      unfold Rd at e
      rw [x] at e
      rcases e with e | ⟨o,e⟩ <;> (have z := Option.some.inj e; unfold DnO at z; cases z)
    left
    unfold Rd at e ⊢
    rw [upd_ne hc]; exact e
  · exact .inr e
theorem Ziz {A : Around} {E : Value → Shared → Prop} {d : V} {r : Value} {Q : Value → Shared → Prop} (hu : A.in1.units + 8 < cLine) (I : Inv X pins σ H s) (x : DN X.prog X.w X.K H a kvs) (hk : KvIs X.K H k (.ref b)) (hkd : k.depth ≤ 8) (rd : RelV d r) (hl : kvs.length < sizeLine)
    (h1 : ∀ v, valN kvs k = some v → ∀ (w' : Value) (s' : Shared), Inv X pins σ H s' → RelV v w' → Q w' s')
    (h2 : valN kvs k = none → ∀ (w' : Value) (s' : Shared), Inv X pins σ (upd H a (DnO X.prog X.w a (kvs ++ [(k, b, d)]))) s' → RelV d w' → Q w' s') :
    wpAny (model X.prog X.w) A (call (.builtin "dict.setdefault") [.ref a, .ref b, r]) Q E s := by
  obtain ⟨z,hd,xs,rel,dd⟩ := Zbz I x
  have hz : xs.length ≤ sizeLine := by rw [← rel.length]; exact z
  have hat := KN.at k rel
  refine call_setdefault_heap (knd := nestedKind X.prog X.w) (hsz := hz) hu ⟨Qa I hk rfl, hkd⟩ hd dd (fun p hp => ?_) fun hn h' dd' hs => ?_
  · cases q : valN kvs k with
    | none => rw [q] at hat; rw [hat] at hp; cases hp
    | some v =>
      rw [q] at hat
      obtain ⟨p', e, rv⟩ := hat
      rw [e] at hp
      cases hp
      exact h1 v q _ _ (I.tok _) rv
  · cases q : valN kvs k with
    | some v =>
      rw [q] at hat
      obtain ⟨p', e, _⟩ := hat
      rw [e] at hn; cases hn
    | none =>
      rw [storedH_new hn] at dd'
      have rel' : KN (kvs ++ [(k, b, d)]) (xs ++ [(k, b, r)]) := Paired.snoc rel ⟨rfl, rfl, rd⟩
      have he : ∃ q, h'.get? a = some q := let ⟨q, _, _, hq, _⟩ := dd'; ⟨q, hq⟩
      exact h2 q _ _ (d_write (t' := s.toks + _) I (by rw [x.1]; exact True.intro) hs he (Zfp (by rw [List.length_append]; show _ + 1 ≤ _; omega) hd rel' dd')) rd
theorem Zlg {A : Around} {E : Value → Shared → Prop} {v : V} {Q : Value → Shared → Prop} (hu : A.in1.units + 8 < cLine) (I : Inv X pins σ H s) (x : DN X.prog X.w X.K H a kvs) (hk : KvIs X.K H k (.ref b)) (hkd : k.depth ≤ 8) (hv : valN kvs k = some v)
    (h : ∀ (w' : Value) (s' : Shared), Inv X pins σ H s' → RelV v w' → Q w' s') : wpAny (model X.prog X.w) A (getItem (.ref a) (.ref b)) Q E s := by
  obtain ⟨z,hd,xs,rel,dd⟩ := Zbz I x
  have hat := KN.at k rel
  rw [hv] at hat
  obtain ⟨p,e,rv⟩ := hat
  exact wpAny_getItem_heap (knd := nestedKind X.prog X.w) hu ⟨Qa I hk rfl,hkd⟩ dd e (h _ _ (I.tok _) rv)
theorem Zdo (I : Inv X pins σ H s) (x : DN X.prog X.w X.K H a kvs) : s.TypeIs (.ref a) "dict" ∧ ∀ b, Value.ref a = .ref b → ∃ ob, s.heap.get? b = some ob ∧ ob.dict = none := by
  obtain ⟨_,hd,xs,_,dd⟩ := Zbz I x
  refine ⟨dd.typeIs,fun b q => ?_⟩
  cases q
  obtain ⟨ob,_,_,h1,h2,_⟩ := dd
  exact ⟨ob,h1,h2.2.1⟩
theorem Zdp : CallR X (.builtin "len") (fun xs H Q => ∃ (p : Addr) (kvs : List (NestedKey × Addr × V)), xs = [.ref p] ∧ DN X.prog X.w X.K H p kvs ∧ Q (.int ((kvs.length : Nat) : Int)) H) := by
  intro pins s σ H xs us Q I r h
  obtain ⟨p,kvs,rfl,hp,q⟩ := h
  obtain ⟨u,rfl,rx⟩ := vals1 r
  obtain rfl : u = .ref p := rx
  obtain ⟨z,hd,ys,rel,dd⟩ := Zbz I hp
  have hl : kvs.length = ys.length := Paired.length rel
  refine call_len_dictH hd dd (by rw [← hl]; rw [sizeLine_eq] at z; omega) ?_
  rw [← hl]
  exact ⟨.int ((kvs.length : Nat) : Int),H,I.tok _,⟨_,rfl⟩,q⟩
end
def tNSetd (P : Program) (w : World) (K : PySem.W.Frag) (td ty tx : TE) : TE := fun σ H Q => td σ H fun x H1 => ∃ (a : Addr) (kvs0 : List (NestedKey × Addr × V)),x = .ref a ∧ DN P w K H1 a kvs0 ∧ ty σ H1 fun y H2 => tx σ H2 fun z H3 =>
  ∃ (kvs : List (NestedKey × Addr × V)) (k : NestedKey) (b : Addr),DN P w K H3 a kvs ∧ y = .ref b ∧ KvIs K H3 k (.ref b) ∧ k.depth ≤ 8 ∧ kvs.length < sizeLine ∧
  (∀ v,valN kvs k = some v → Q v H3) ∧ (valN kvs k = none → Q z (upd H3 a (DnO P w a (kvs ++ [(k,b,z)]))))
section
variable {X : Cx} {o e f : Expr} {td ty tx : TE} {apos cpos : Pos}
theorem Zfq (hu : X.A.in1.units + 8 < cLine) (ho : PE X o td) (he : PE X e ty) (hf : PE X f tx) (m : M2 X o "setdefault" apos e f cpos) : PE X (.Call (.Attribute o "setdefault" apos) [e, f] [] cpos) (tNSetd X.prog X.w X.K td ty tx) := by
  refine ⟨fun pins s σ H Q I h => ?_⟩
  refine wpAny_Call_method m.base m.few m.line PySem.F.plainAttrs_dict PySem.F.slot_dict_setdefault PySem.F.type_dict_setdefault (thn (ho.run pins s σ H _ I h) fun u s1 ⟨x,H1,I1,rx,a,kvs0,ex,d,q1⟩ => ?_)
  subst ex
  obtain rfl : u = Value.ref a := rx
  obtain ⟨t1,t2⟩ := Zdo I1 d
  refine ⟨t1,t2,?_⟩
  rw [m.trees]
  refine Calls.callWith_builtin rfl (Calls.evalArgs_plain (Calls.spliced_cons (thn (he.run pins s1 σ H1 _ I1 q1) fun iv s2 ⟨y,H2,I2,ry,q2⟩ =>
    Calls.spliced_cons (thn (hf.run pins s2 σ H2 _ I2 q2) fun fv s3 ⟨z,H3,I3,rz,kvs,k,b,hd,ey,hk,hkd,hl,q3,q4⟩ => Calls.spliced_nil ?_))))
  subst ey
  obtain rfl : iv = Value.ref b := ry
  exact Ziz hu I3 hd hk hkd rz hl (fun v hv w' s4 I4 rw' => ⟨v, _, I4, rw', q3 v hv⟩) fun hn w' s4 I4 rw' => ⟨z, _, I4, rw', q4 hn⟩
end
section
variable {X : Cx}
open Fx in
theorem Zj0 (hu : X.A.in1.units + 8 < cLine) : IxR X (fun x y H Q => ∃ (a b : Addr) (kvs : List (NestedKey × Addr × V)) (k : NestedKey) (v : V),x = .ref a ∧ y = .ref b ∧ DN X.prog X.w X.K H a kvs ∧ KvIs X.K H k (.ref b) ∧ k.depth ≤ 8 ∧ valN kvs k = some v ∧ Q v H) := by
  intro value slice pins s σ H x y v u Q I rx ry h hs
  obtain ⟨a,b,kvs,k,r,rfl,rfl,d,hk,hkd,hv,q⟩ := h
  cases rx
  cases ry
  exact tail_any (Zdo I d).1 F.slot_dict_getitem.lookup (Zlg hu I d hk hkd hv fun w' s3 I3 rw' => ⟨r, H, I3, rw', q⟩) hs
end
end L2
set_option maxHeartbeats 4000000
namespace L2
open PySem PySem.Spec PyProof.Rows
def posK (k : NestedKey) : List NestedKey → Nat
  | [] => 0
  | x :: r => if x = k then 0 else posK k r + 1
def addK (seen : List NestedKey) (k : NestedKey) : List NestedKey := if k ∈ seen then seen else seen ++ [k]
def numS (s : List NestedKey × List Nat) (k : NestedKey) : List NestedKey × List Nat := (addK s.1 k,s.2 ++ [posK k (addK s.1 k)])
def numN (ks : List NestedKey) : List NestedKey × List Nat := ks.foldl numS ([],[])
theorem Z7b (ks : List NestedKey) (k : NestedKey) : numN (ks ++ [k]) = numS (numN ks) k := by
  unfold numN
  rw [List.foldl_append]
  rfl
theorem Zai {k : NestedKey} : ∀ {kvs : List (NestedKey × Addr × V)} (n : Nat),(∀ (i : Nat) (p : NestedKey × Addr × V),kvs[i]? = some p → p.2.2 = V.int ((n + i : Nat) : Int)) → k ∈ kvs.map (·.1) → valN kvs k = some (.int ((n + posK k (kvs.map (·.1)) : Nat) : Int))
  | [],_,_,h => by cases h
  | p :: r,n,hn,h => by
    by_cases e : p.1 = k
    · have v1 : valN (p :: r) k = some p.2.2 := by simp [valN,e]
      rw [v1,hn 0 p rfl]
      simp [posK,e]
    · have v1 : valN (p :: r) k = valN r k := by simp [valN,e]
      have h' : k ∈ r.map (·.1) := by
        rw [List.map_cons] at h
        exact (List.mem_cons.mp h).resolve_left fun z => e z.symm
      rw [v1, Zai (n + 1) (fun i q hq => by rw [hn (i + 1) q (by simpa using hq)]; congr 2; omega) h']
      rw [List.map_cons,posK,if_neg e]
      congr 3
      omega
theorem Z8w {k : NestedKey} : ∀ {kvs : List (NestedKey × Addr × V)},valN kvs k = none → k ∉ kvs.map (·.1)
  | [],_,h => by cases h
  | p :: r,hn,h => by
    by_cases e : p.1 = k
    · have v1 : valN (p :: r) k = some p.2.2 := by simp [valN,e]
      rw [v1] at hn; cases hn
    · have v1 : valN (p :: r) k = valN r k := by simp [valN,e]
      rw [v1] at hn
      rw [List.map_cons] at h
      exact Z8w hn ((List.mem_cons.mp h).resolve_left fun z => e z.symm)
theorem Z8x {k : NestedKey} : ∀ {kvs : List (NestedKey × Addr × V)} {v : V},valN kvs k = some v → k ∈ kvs.map (·.1)
  | [],_,h => by cases h
  | p :: r,v,hn => by
    by_cases e : p.1 = k
    · rw [List.map_cons,e]; exact List.mem_cons_self
    · have v1 : valN (p :: r) k = valN r k := by simp [valN,e]
      rw [v1] at hn
      rw [List.map_cons]
      exact List.mem_cons_of_mem _ (Z8x hn)
theorem Z62 {α β : Type} {F : α → β → Prop} : ∀ {l₁ : List α} {l₂ : List β} {i : Nat} {x : α},Paired F l₁ l₂ → l₁[i]? = some x → ∃ z,l₂[i]? = some z ∧ F x z
  | _,_,_,_,.nil,e => by simp at e
  | _,_,0,_,.cons r _,e => by simp at e; subst e; exact ⟨_,rfl,r⟩
  | _,_,i + 1,x,.cons _ q,e => by
    obtain ⟨v,h1,h2⟩ := Z62 (i := i) (x := x) q (by simpa using e)
    exact ⟨v,by simpa using h1,h2⟩
theorem SqT.sm {K : PySem.W.Frag} {H H' : Hp} (s : Same H H') {a : Addr} {xs : List V} (h : SqT K H a xs) : SqT K H' a xs := by
  rcases h with (h | ⟨o,h⟩) | h
  · exact .inl (.inl (s _ _ h))
  · exact .inl (.inr ⟨o,s _ _ h⟩)
  · exact .inr h
theorem SqL.sm {K : PySem.W.Frag} {H H' : Hp} (s : Same H H') {a : Addr} {xs : List V} (h : SqL K H a xs) : SqL K H' a xs := by
  rcases h with (h | ⟨o,h⟩) | h
  · exact .inl (.inl (s _ _ h))
  · exact .inl (.inr ⟨o,s _ _ h⟩)
  · exact .inr h
theorem Vq {H H' : Hp} {a : Addr} {o : HO} (s : Same H H') (n : H a = none) : Same H (upd H' a o) := fun b u e => by
  rw [upd_ne (ne_of_none e n)]; exact s b u e
section
variable (P : Program) (w : World) (K : PySem.W.Frag)
def rLenN : List V → Hp → VK → Prop := fun xs H Q => ∃ (p : Addr) (kvs : List (NestedKey × Addr × V)),xs = [.ref p] ∧ DN P w K H p kvs ∧ Q (.int ((kvs.length : Nat) : Int)) H
def rIxN : V → V → Hp → VK → Prop := fun x y H Q => ∃ (a b : Addr) (kvs : List (NestedKey × Addr × V)) (k : NestedKey) (v : V),x = .ref a ∧ y = .ref b ∧ DN P w K H a kvs ∧ KvIs K H k (.ref b) ∧ k.depth ≤ 8 ∧ valN kvs k = some v ∧ Q v H
def tNumB (a f y : Nat) : TS := tSeq (tDrop (tNSetd P w K (tVar a) (tVar y) (tCB (rLenN P w K) (tCons (tVar a) tNil)))) (tDrop (tBM K "list" rAppend (tVar f) (tCons (tOp (rIxN P w K) (tVar a) (tVar y)) tNil)))
def tNum (t a f y : Nat) : TS := tSeq (tPar a f (tCons (tNNew P w) (tCons (tLst tNil) tNil))) (tSeq (tFor (iList K (tVar t)) (gName y) (tNumB P w K a f y)) (tRet (tVar f)))
end
section
variable {P : Program} {w : World} {K : PySem.W.Frag} {σ : St} {H : Hp} {D : Ends} {l : Addr} {vs : List V} {ks : List NestedKey} {t a f y : Nat}
structure NumI (P : Program) (w : World) (K : PySem.W.Frag) (H : Hp) (l A F : Addr) (t a f y : Nat) (ks : List NestedKey) (σ' : St) (H' : Hp) (kvs : List (NestedKey × Addr × V)) : Prop where
  tl : σ'[t]? = some (some (.ref l))
  al : σ'[a]? = some (some (.ref A))
  fl : σ'[f]? = some (some (.ref F))
  yl : y < σ'.length
  sm : Same H H'
  cell : H' A = some (DnO P w A kvs)
  kis : ∀ p ∈ kvs,KvIs K H p.1 (.ref p.2.1) ∧ p.1.depth ≤ 8
  fnd : H' F = some (.lst ((numN ks).2.map fun n => V.int ((n : Nat) : Int)))
  num : ∀ (i : Nat) (p : NestedKey × Addr × V),kvs[i]? = some p → p.2.2 = V.int ((0 + i : Nat) : Int)
  key : kvs.map (·.1) = (numN ks).1
  len : kvs.length ≤ ks.length
theorem Z1m (ks : List NestedKey) : (numN ks).2.length = ks.length := by
  have : ∀ (ks : List NestedKey) (s : List NestedKey × List Nat),(ks.foldl numS s).2.length = s.2.length + ks.length := by
    intro ks
    induction ks with
    | nil => intro s; rfl
    | cons k r ih => intro s; rw [List.foldl_cons,ih]; simp [numS]; omega
  rw [numN,this]; simp
theorem Zfr {A F b : Addr} {σ' : St} {H' : Hp} {kvs : List (NestedKey × Addr × V)} {k : NestedKey} {E : Ends} (nA : H A = none) (nF : H F = none) (AF : A ≠ F) (n1 : t ≠ y) (n4 : a ≠ y) (n5 : f ≠ y)
    (I : NumI P w K H l A F t a f y ks σ' H' kvs) (hk : KvIs K H k (.ref b)) (hd : k.depth ≤ 8) (hz : ks.length < 100000)
    (q : ∀ σ2 H2 kvs', NumI P w K H l A F t a f y (ks ++ [k]) σ2 H2 kvs' → E.nx σ2 H2) : tNumB P w K a f y E (σ'.set y (some (.ref b))) H' := by
  have hsz : (100000 : Nat) < sizeLine := by rw [sizeLine_eq]; decide
  have ty : (σ'.set y (some (.ref b)))[y]? = some (some (.ref b)) := List.getElem?_set_self I.yl
  have tt : (σ'.set y (some (.ref b)))[t]? = some (some (.ref l)) := by rw [List.getElem?_set_ne (Ne.symm n1)]; exact I.tl
  have ta : (σ'.set y (some (.ref b)))[a]? = some (some (.ref A)) := by rw [List.getElem?_set_ne (Ne.symm n4)]; exact I.al
  have tf : (σ'.set y (some (.ref b)))[f]? = some (some (.ref F)) := by rw [List.getElem?_set_ne (Ne.symm n5)]; exact I.fl
  have dn : ∀ {H2 : Hp} {kvs' : List (NestedKey × Addr × V)}, Same H H2 → H2 A = some (DnO P w A kvs') → (∀ p ∈ kvs', KvIs K H p.1 (.ref p.2.1) ∧ p.1.depth ≤ 8) → DN P w K H2 A kvs' :=
    fun s c h => ⟨c,fun p hp => ⟨(h p hp).1.keep fun _ _ z => z.sm s,(h p hp).2⟩⟩
  have dn0 := dn I.sm I.cell I.kis
  -- what stands behind the first statement
  have go : ∀ (H2 : Hp) (kvs' : List (NestedKey × Addr × V)), Same H H2 → H2 A = some (DnO P w A kvs') → H2 F = some (.lst ((numN ks).2.map fun n => V.int ((n : Nat) : Int))) → (∀ p ∈ kvs', KvIs K H p.1 (.ref p.2.1) ∧ p.1.depth ≤ 8) →
      (∀ (i : Nat) (p : NestedKey × Addr × V), kvs'[i]? = some p → p.2.2 = V.int ((0 + i : Nat) : Int)) → kvs'.map (·.1) = addK (numN ks).1 k → kvs'.length ≤ ks.length + 1 →
      tDrop (tBM K "list" rAppend (tVar f) (tCons (tOp (rIxN P w K) (tVar a) (tVar y)) tNil)) E (σ'.set y (some (.ref b))) H2 := by
    intro H2 kvs' s2 c2 f2 k2 m2 e2 l2
    have hin : k ∈ kvs'.map (·.1) := by
      rw [e2]; unfold addK
      split
      · assumption
      · exact List.mem_append_right _ List.mem_cons_self
    have hv := Zai 0 m2 hin
    refine ⟨.ref F, tf, Or.inl ⟨rfl, _, SqL.of f2⟩, .ref A, ta, .ref b, ty, A, b, kvs', k, _, rfl, rfl, dn s2 c2 k2, hk.keep fun _ _ z => z.sm s2, hd, hv, F, _, _, rfl, rfl, f2, ?_, ?_⟩
    · rw [List.length_map,Z1m]; omega
    · refine q _ _ kvs' ⟨tt, ta, tf, by rw [List.length_set]; exact I.yl, Vq s2 nF, by rw [upd_ne AF]; exact c2, k2, ?_, m2, ?_, by rw [List.length_append]; exact l2⟩
      · rw [upd_same,Z7b,numS,List.map_append,← e2]
        simp
      · rw [e2,Z7b]; rfl
  refine ⟨.ref A,ta,A,kvs,rfl,dn0,.ref b,ty,.ref A,ta,A,kvs,rfl,dn0,kvs,k,b,dn0,rfl,hk.keep fun _ _ z => z.sm I.sm,hd,Nat.lt_of_le_of_lt I.len (by omega),fun v hv => ?_,fun hn => ?_⟩
  · have hin := Z8x hv
    rw [I.key] at hin
    exact go H' kvs I.sm I.cell I.fnd I.kis I.num (by rw [I.key, addK, if_pos hin]) (Nat.le_succ_of_le I.len)
  · have hno := Z8w hn
    rw [I.key] at hno
    refine go _ (kvs ++ [(k,b,.int ((kvs.length : Nat) : Int))]) (Vq I.sm nA) upd_same (by rw [upd_ne (Ne.symm AF)]; exact I.fnd) (fun p hp => ?_) (fun i p hp => ?_) (by rw [List.map_append,I.key,addK,if_neg hno]; rfl) (by rw [List.length_append]; exact Nat.succ_le_succ I.len)
    · rcases List.mem_append.mp hp with h | h
      · exact I.kis p h
      · rw [List.mem_singleton.mp h]; exact ⟨hk,hd⟩
    · by_cases hi : i < kvs.length
      · rw [List.getElem?_append_left hi] at hp
        exact I.num i p hp
      · rw [List.getElem?_append_right (Nat.le_of_not_lt hi)] at hp
        obtain ⟨h1,h2⟩ := List.getElem?_eq_some_iff.mp hp
        have h0 : i = kvs.length := by
          have : i - kvs.length < 1 := h1
          omega
        subst h0
        simp at h2
        rw [← h2]; simp
theorem Zfs (ht : σ[t]? = some (some (.ref l))) (hl : SqL K H l vs) (hv : Paired (fun v k => (∃ b,v = V.ref b) ∧ KvIs K H k v ∧ k.depth ≤ 8) vs ks) (hz : vs.length ≤ 100000)
    (la : a < σ.length) (lf : f < σ.length) (ly : y < σ.length) (n1 : t ≠ y) (n2 : t ≠ a) (n3 : t ≠ f) (n4 : a ≠ y) (n5 : f ≠ y) (n6 : a ≠ f)
    (q : ∀ p H', H p = none → Same H H' → H' p = some (.lst ((numN ks).2.map fun n => V.int ((n : Nat) : Int))) → D.rt (.ref p) H') : tNum P w K t a f y D σ H := by
  intro A nA
  refine ⟨Nat.zero_le _,fun F nF => ?_⟩
  have AF : A ≠ F := by
    rintro rfl
    rw [upd_same] at nF; cases nF
  have nF0 : H F = none := by rw [upd_ne (Ne.symm AF)] at nF; exact nF
  have lk : vs.length = ks.length := Paired.length hv
  refine ⟨.ref A,.ref F,rfl,?_⟩
  show tFor (iList K (tVar t)) (gName y) (tNumB P w K a f y) _ _ _
  have I0 : NumI P w K H l A F t a f y (ks.take 0) ((σ.set a (some (.ref A))).set f (some (.ref F))) (upd (upd H A (DnO P w A [])) F (.lst [])) [] :=
    ⟨by rw [List.getElem?_set_ne (Ne.symm n3),List.getElem?_set_ne (Ne.symm n2)]; exact ht,by rw [List.getElem?_set_ne (Ne.symm n6)]; exact List.getElem?_set_self la,
      List.getElem?_set_self (by rw [List.length_set]; exact lf),by rw [List.length_set,List.length_set]; exact ly,Vq (Vq (Same.refl H) nA) nF0,by rw [upd_ne AF]; exact upd_same,
      (fun p hp => by cases hp),upd_same,(fun i p hp => by simp at hp),rfl,Nat.zero_le _⟩
  refine ⟨.ref l, I0.tl, l, rfl, ⟨vs, hl.sm I0.sm⟩, for_list (xs := vs) (fun i σ' H' => ∃ kvs, NumI P w K H l A F t a f y (ks.take i) σ' H' kvs) ⟨[], I0⟩ (fun i σ' H' _ ⟨kvs, I⟩ => hl.sm I.sm) (fun i x σ' H' hx ⟨kvs, I⟩ => ?_) (fun σ' H' ⟨kvs, I⟩ => ?_)⟩
  · obtain ⟨k,e,⟨b,eb⟩,h1,h2⟩ := Z62 hv hx
    subst eb
    have hi : i < ks.length := (List.getElem?_eq_some_iff.mp e).1
    refine Zfr nA nF0 AF n1 n4 n5 I h1 h2 (by rw [List.length_take]; omega) fun σ2 H2 kvs' I' => ⟨kvs', ?_⟩
    have : ks.take (i + 1) = ks.take i ++ [k] := by rw [List.take_add_one,e]; rfl
    rw [this]; exact I'
  · rw [lk,List.take_length] at I
    exact ⟨.ref F, I.fl, q F H' nF0 I.sm I.fnd⟩
end
end L2
set_option maxHeartbeats 4000000
namespace Fx
open PySem PySem.Spec PyProof.Rows L2 SX Ap
variable [Tb]
mutual
def nkT : T → Option NestedKey
  | .non => some .none
  | .int i => some (.num i)
  | .str l => some (.text (S l))
  | .tup ts => (nkTs ts).map .tup
  | .ktp ts => (nkTs ts).map .tup
  | _ => none
def nkTs : List T → Option (List NestedKey)
  | [] => some []
  | t :: ts => match nkT t,nkTs ts with
    | some k,some ks => some (k :: ks)
    | _,_ => none
end
section
variable {K : PySem.W.Frag} {ι : List Addr} {H : Hp}
mutual
theorem Zlh : ∀ {v : V} {t : T} {k : NestedKey},Rep K ι H v t → nkT t = some k → KvIs K H k v
  | _,_,_,.non,e => by
    rw [nkT] at e; cases e; exact .non
  | _,_,_,.int i,e => by
    rw [nkT] at e; cases e; exact .int i
  | _,_,_,.str l,e => by
    rw [nkT] at e; cases e; exact .str (S l)
  | _,_,_,.tup (ts := ts) h r,e => by
    rw [nkT] at e
    cases q : nkTs ts with
    | none => rw [q] at e; cases e
    | some ks => rw [q] at e; cases e; exact .tup h (Z63 r q)
  | _,_,_,.ktp (ts := ts) h r,e => by
    rw [nkT] at e
    cases q : nkTs ts with
    | none => rw [q] at e; cases e
    | some ks => rw [q] at e; cases e; exact .tup (SqT.of h) (Z63 r q)
  | _,_,_,.bl b,e => by simp [nkT] at e
  | _,_,_,.loc h,e => by simp [nkT] at e
  | _,_,_,.frl h r,e => by simp [nkT] at e
  | _,_,_,.ref a,e => by simp [nkT] at e
  | _,_,_,.ty n,e => by simp [nkT] at e
  | _,_,_,.lam h j,e => by simp [nkT] at e
theorem Z63 : ∀ {vs : List V} {ts : List T} {ks : List NestedKey},Reps K ι H vs ts → nkTs ts = some ks → KvAll K H ks vs
  | _,_,_,.nil,e => by
    rw [nkTs] at e; cases e; exact .nil
  | _,_,_,.cons (t := t) (ts := ts) r rs,e => by
    rw [nkTs] at e
    cases q1 : nkT t with
    | none => rw [q1] at e; cases e
    | some k =>
      cases q2 : nkTs ts with
      | none => rw [q1,q2] at e; cases e
      | some ks => rw [q1,q2] at e; cases e; exact .cons (Zlh r q1) (Z63 rs q2)
end
end
def nkyT : T → Option NestedKey
  | .tup ts => match nkTs ts with
    | some ks => if (NestedKey.tup ks).depth ≤ 8 then some (.tup ks) else none
    | none => none
  | _ => none
def nkysT : List T → Option (List NestedKey)
  | [] => some []
  | t :: ts => match nkyT t,nkysT ts with
    | some k,some ks => some (k :: ks)
    | _,_ => none
section
variable {K : PySem.W.Frag} {ι : List Addr} {H : Hp}
theorem Zj1 {v : V} {t : T} {k : NestedKey} (r : Rep K ι H v t) (e : nkyT t = some k) : (∃ b,v = V.ref b) ∧ KvIs K H k v ∧ k.depth ≤ 8 := by
  cases t with
  | tup ts =>
    unfold nkyT at e
    cases q : nkTs ts with
    | none => simp only [q] at e; cases e
    | some ks =>
      simp only [q] at e
      split at e
      · rename_i hd
        cases e
        obtain ⟨a,vs,rfl,h,rs⟩ := r.tupE
        exact ⟨⟨a,rfl⟩,.tup h (Z63 rs q),hd⟩
      · cases e
  | _ => simp [nkyT] at e
theorem Zaj : ∀ {vs : List V} {ts : List T} {ks : List NestedKey},Reps K ι H vs ts → nkysT ts = some ks → Paired (fun v k => (∃ b,v = V.ref b) ∧ KvIs K H k v ∧ k.depth ≤ 8) vs ks
  | _,_,_,.nil,e => by
    rw [nkysT] at e; cases e; exact .nil
  | _,_,_,.cons (t := t) (ts := ts) r rs,e => by
    rw [nkysT] at e
    cases q1 : nkyT t with
    | none => rw [q1] at e; cases e
    | some k =>
      cases q2 : nkysT ts with
      | none => rw [q1,q2] at e; cases e
      | some ks => rw [q1,q2] at e; cases e; exact .cons (Zj1 r q1) (Zaj rs q2)
theorem Gr.newS {H' : Hp} {p : Addr} (n : H p = none) (m : Same H H') : Gr ι (ι ++ [p]) H H' :=
  have g : Gr ι ι H H' := Gr.same m
  ⟨fun i a h => by rw [List.getElem?_append_left (List.getElem?_eq_some_iff.mp h).1]; exact h,g.tup,g.frz,g.xd,g.ext,g.tab,fun a u h e m => (List.mem_append.mp h).elim id fun k => absurd e (by rw [List.mem_singleton.mp k,n]; intro z; cases z),g.out⟩
theorem Sim.newS {Z : Sto} {H' : Hp} {p : Addr} {ob : O} (s : Sim K ι Z H) (n : H p = none) (m : Same H H') (r : ObR K (ι ++ [p]) H' p ob) : Sim K (ι ++ [p]) (Z ++ [ob]) H' := by
  have g : Gr ι (ι ++ [p]) H H' := Gr.newS n m
  refine ⟨by rw [List.length_append,List.length_append,s.len]; rfl,?_,fun i a x e1 e2 => ?_,g.tab s.tab⟩
  · rw [List.nodup_append]
    refine ⟨s.nd,by simp,fun a ha b hb => ?_⟩
    rw [List.mem_singleton.mp hb]
    intro e
    obtain ⟨i,h1,h2⟩ := List.mem_iff_getElem.mp ha
    have h3 : i < Z.length := by rw [← s.len]; exact h1
    obtain ⟨u,hu⟩ := (s.ob i a _ (by rw [← h2]; exact List.getElem?_eq_getElem h1) (List.getElem?_eq_getElem h3)).has
    rw [e,n] at hu
    cases hu
  · by_cases hi : i < Z.length
    · rw [List.getElem?_append_left hi] at e2
      rw [List.getElem?_append_left (by rw [s.len]; exact hi)] at e1
      have h := s.ob i a x e1 e2
      obtain ⟨u,hu⟩ := h.has
      exact h.gr g ((m _ _ hu).trans hu.symm)
    · have hi' : Z.length ≤ i := Nat.le_of_not_lt hi
      rw [List.getElem?_append_right hi'] at e2
      rw [List.getElem?_append_right (by rw [s.len]; exact hi'), s.len] at e1
      obtain ⟨h1,h2⟩ := List.getElem?_eq_some_iff.mp e2
      have h0 : i - Z.length = 0 := by simpa using h1
      rw [h0] at e1 e2
      simp at e1 e2
      subst e1 e2
      exact r
theorem Z7c : ∀ (ns : List Nat),Reps K ι H (ns.map fun n => V.int ((n : Nat) : Int)) (ns.map fun n => T.int ((n : Nat) : Int))
  | [] => .nil
  | n :: ns => .cons (.int _) (Z7c ns)
end
def sNum (t a f y : Nat) : FS := fun ρ Z => match ρ[t]? with
  | some (some (.loc j)) => match getL Z j with
    | some ts => match nkysT ts with
      | some ks => if ts.length ≤ 100000 ∧ a < ρ.length ∧ f < ρ.length ∧ y < ρ.length then .rt (.loc Z.length) (Z ++ [.lst ((numN ks).2.map fun n => T.int ((n : Nat) : Int))]) else .stuck
      | none => .stuck
    | none => .stuck
  | _ => .stuck
theorem Zli {X : Cx} {W : WX} {st : List Stmt} {t a f y : Nat} (h : PSs X st (tNum X.prog X.w X.K t a f y)) (n1 : t ≠ y) (n2 : t ≠ a) (n3 : t ≠ f) (n4 : a ≠ y) (n5 : f ≠ y) (n6 : a ≠ f) : FBJ X X.K W st (sNum t a f y) := Z5o h fun D σ H q => by
  obtain ⟨ι,ρ,Z,is,p⟩ := q
  unfold sNum at p
  split at p
  · rename_i j et
    split at p
    · rename_i ts ej
      split at p
      · rename_i ks ek
        split at p
        · rename_i hz
          obtain ⟨v,hv,rv⟩ := is.env t _ et
          cases rv with
          | loc hi =>
            obtain ⟨b,hb,vs,hl,rs⟩ := is.sim.at (Yg ej)
            rw [hi] at hb
            cases hb
            refine Zfs hv (SqL.of hl) (Zaj rs ek) (by rw [rs.length]; exact hz.1) (by rw [is.len]; exact hz.2.1) (by rw [is.len]; exact hz.2.2.1) (by rw [is.len]; exact hz.2.2.2) n1 n2 n3 n4 n5 n6 fun p' H' np sm hp => ?_
            exact p (ι ++ [p']) H' (.ref p') (Gr.newS np sm) (is.sim.newS np sm ⟨_, hp, Z7c _⟩) (.loc (by rw [← is.sim.len, List.getElem?_append_right (Nat.le_refl _), Nat.sub_self]; rfl))
        · exact p.elim
      · exact p.elim
    · exact p.elim
  · exact p.elim
theorem Zdq {k : Nat} {A : Around} (r : Room k A) : A.in1.units + 8 < cLine := by
  have := r.un
  simp only [Around.in1_units]
  omega
end Fx
set_option maxHeartbeats 4000000
namespace L2
open PySem PySem.Spec PyProof.Rows
def putNd (kvs : List (NestedKey × Addr × V)) (k : NestedKey) (b : Addr) (d : V) : List (NestedKey × Addr × V) :=
  if (valN kvs k).isSome then kvs.map (fun p => if p.1 = k then (p.1,p.2.1,d) else p) else kvs ++ [(k,b,d)]
theorem Z7d {kvs : List (NestedKey × Addr × V)} {k : NestedKey} {b : Addr} {d : V} : (putNd kvs k b d).length ≤ kvs.length + 1 := by
  unfold putNd
  split
  · rw [List.length_map]; omega
  · rw [List.length_append]; exact Nat.le_refl _
theorem KN.map {k : NestedKey} {d : V} {r : Value} (rd : RelV d r) : ∀ {kvs : List (NestedKey × Addr × V)} {xs : List (NestedKey × Addr × Value)},KN kvs xs → KN (kvs.map (fun p => if p.1 = k then (p.1,p.2.1,d) else p)) (xs.map (putAt k r))
  | _,_,.nil => .nil
  | _,_,.cons (a := p) (b := q) h t => by
    refine .cons ?_ (KN.map rd t)
    obtain ⟨h1,h2,h3⟩ := h
    by_cases e : p.1 = k
    · have e' : q.1 = k := h1 ▸ e
      simp only [putAt, if_pos e, if_pos e']
      exact ⟨h1,h2,rd⟩
    · have e' : ¬ q.1 = k := fun z => e (h1.trans z)
      simp only [putAt, if_neg e, if_neg e']
      exact ⟨h1,h2,h3⟩
theorem KN.put {kvs : List (NestedKey × Addr × V)} {xs : List (NestedKey × Addr × Value)} {k : NestedKey} {b : Addr} {d : V} {r : Value} (h : KN kvs xs) (rd : RelV d r) : KN (putNd kvs k b d) (storedH xs k b r) := by
  have hat := KN.at k h
  unfold putNd
  cases q : valN kvs k with
  | none =>
    rw [q] at hat
    rw [storedH_new hat]
    exact Paired.snoc h ⟨rfl,rfl,rd⟩
  | some v =>
    rw [q] at hat
    obtain ⟨p,e,_⟩ := hat
    rw [storedH_old e]
    exact h.map rd
theorem Zft {P : Program} {w : World} {K : PySem.W.Frag} {H : Hp} {a b : Addr} {kvs : List (NestedKey × Addr × V)} {k : NestedKey} {d : V} (x : DN P w K H a kvs) (hk : KvIs K H k (.ref b)) (hd : k.depth ≤ 8) :
    ∀ p ∈ putNd kvs k b d,KvIs K H p.1 (.ref p.2.1) ∧ p.1.depth ≤ 8 := fun p hp => by
  unfold putNd at hp
  split at hp
  · obtain ⟨q,hq,e⟩ := List.mem_map.mp hp
    split at e
    · subst e; exact x.2 q hq
    · subst e; exact x.2 q hq
  · rcases List.mem_append.mp hp with h | h
    · exact x.2 p h
    · rw [List.mem_singleton.mp h]; exact ⟨hk,hd⟩
section
variable {X : Cx} {pins : List (Addr × Obj)} {σ : St} {H : Hp} {s : Shared} {a b : Addr} {kvs : List (NestedKey × Addr × V)} {k : NestedKey}
theorem Zj2 {A : Around} {E : Value → Shared → Prop} {d : V} {r : Value} {Q : Unit → Shared → Prop} (hu : A.units + 8 < cLine) (I : Inv X pins σ H s) (x : DN X.prog X.w X.K H a kvs) (hk : KvIs X.K H k (.ref b)) (hkd : k.depth ≤ 8) (rd : RelV d r) (hl : kvs.length < sizeLine)
    (h : ∀ s', Inv X pins σ (upd H a (DnO X.prog X.w a (putNd kvs k b d))) s' → Q () s') : wpAny (model X.prog X.w) A (dictSet a (.ref b) r) Q E s := by
  obtain ⟨z,hd,xs,rel,dd⟩ := Zbz I x
  have hz : xs.length ≤ sizeLine := by rw [← rel.length]; exact z
  unfold dictSet
  refine wpAny_holding (wpAny_bind ((nestedKind X.prog X.w).pyHash hu ⟨Qa I hk rfl,hkd⟩ ?_))
  refine wpAny_dictSetHashed_heap (knd := nestedKind X.prog X.w) (hsz := hz) hu ⟨Qa I hk rfl, hkd⟩ dd fun h' dd' hs => ?_
  have he : ∃ q, h'.get? a = some q := let ⟨q, _, _, hq, _⟩ := dd'; ⟨q, hq⟩
  exact h _ (d_write (t' := s.toks + _) (I.tok _) (by rw [x.1]; exact True.intro) hs he (Zfp (Nat.le_trans Z7d (by omega)) hd (rel.put rd) dd'))
end
end L2
set_option maxHeartbeats 4000000
namespace L2
open PySem PySem.Spec PyProof.Rows
open PySem.W (EachIs)
def pairD (b : Addr × Int × Int) : PyData := .tuple [.int b.2.1,.int b.2.2]
theorem Zj3 {X : Cx} {pins : List (Addr × Obj)} {σ : St} {H : Hp} {s : Shared} {a : Addr} {x y : Int} (I : Inv X pins σ H s) (h : KvIs X.K H (.tup [.num x,.num y]) (.ref a)) : ∃ as,Reads s.heap (.ref a) (.tuple [.int x,.int y]) as := by
  cases h with
  | tup e q =>
    cases q with
    | cons p1 q =>
      cases q with
      | cons p2 q =>
        cases q
        cases p1
        cases p2
        obtain ⟨its,rv,⟨o,h1,h2,n,h3⟩,_⟩ := I.tuple e
        obtain ⟨u1,us,rfl,⟨t1,rfl⟩,rv2⟩ : ∃ u1 us,its = u1 :: us ∧ RelV (.int x) u1 ∧ Vals [.int y] us := by
          cases rv with
          | cons a b => exact ⟨_,_,rfl,a,b⟩
        obtain ⟨u2,rfl,⟨t2,rfl⟩⟩ := vals1 rv2
        exact ⟨_,.tuple h1 h2 h3 (.cons (.int x t1) (.cons (.int y t2) .nil))⟩
theorem Z8y {α β : Type} {R : α → β → Prop} : ∀ {as : List α} {bs : List β},as.length = bs.length → (∀ (j : Nat) (a : α) (b : β),as[j]? = some a → bs[j]? = some b → R a b) → EachIs R as bs
  | [],[],_,_ => .nil
  | a :: as,b :: bs,hl,h => .cons (h 0 a b rfl rfl) (Z8y (by simpa using hl) fun j x y h1 h2 => h (j + 1) x y (by simpa using h1) (by simpa using h2))
  | [],_ :: _,hl,_ => by simp at hl
  | _ :: _,[],hl,_ => by simp at hl
theorem Z7e : ∀ {out : List Value} {bs : List (Addr × Int × Int)},EachIs (fun v b => v = Value.ref b.1) out bs → Vals (bs.map fun b => V.ref b.1) out
  | _,_,.nil => .nil
  | _,_,.cons h t => .cons h (Z7e t)
section
variable {X : Cx}
theorem Z7f (hcalm : X.calm = true) (hu : X.A.units + 8 < cLine) : CallR X (.builtin "sorted") (fun xs H Q => ∃ (a : Addr) (kvs : List (NestedKey × Addr × V)) (bs : List (Addr × Int × Int)), xs = [.ref a] ∧ DN X.prog X.w X.K H a kvs ∧
    kvs.map (fun p => (p.1,p.2.1)) = bs.map (fun b => (NestedKey.tup [.num b.2.1,.num b.2.2],b.1)) ∧
    ∀ p,H p = none → Q (.ref p) (upd H p (.lst ((bs.mergeSort fun p q => decide (p.2.1 < q.2.1 ∨ (p.2.1 = q.2.1 ∧ p.2.2 ≤ q.2.2))).map fun b => V.ref b.1)))) := by
  intro pins s σ H xs us Q I r q
  obtain ⟨a,kvs,bs,ex,hd,hks,q⟩ := q
  subst ex
  obtain ⟨u,eu,rx⟩ := vals1 r
  subst eu
  cases rx
  obtain ⟨z,lo,ys,rel,dd⟩ := Zbz I hd
  obtain ⟨es,ep,raw,hes,hat⟩ := dd.raw
  have hlb : bs.length = es.size := by
    have e := congrArg List.length hks
    rw [List.length_map,List.length_map] at e
    rw [hes,← rel.length]; exact e.symm
  have h16 : es.size ≤ sizeLine := by rw [hes,← rel.length]; exact z
  refine Calls.call_function_entry PyProof.Rows.kind_sorted PyProof.Rows.plain_sorted PyProof.Rows.entry_sorted (PyProof.Rows.args_sorted1 _) ?_
  unfold Builtin.«sorted»
  refine wpAny_bind (m := checkCount "sorted" 1 1 _) (wpAny_pure ?_)
  refine wpAny_bind (PySem.W.kdu_collect (A := X.A.in1) (PySem.KdlSrc.rawDict (es := es) (ep := ep) lo) (I.ok.hd hcalm) raw h16 fun h' tk acc hk hacc => ?_)
  have hal : acc.toList.length = bs.length := by rw [Array.length_toList,hacc.1,hlb]
  have I1 : Inv X pins σ H { s with heap := h', toks := tk } := I.kept hk
  -- what was collected: the addresses
  have hp : ∀ (j : Nat) (b : Addr × Int × Int),bs[j]? = some b → ∃ p,kvs[j]? = some p ∧ p.1 = .tup [.num b.2.1,.num b.2.2] ∧ p.2.1 = b.1 := fun j b e => by
    have e3 : (kvs.map (fun p => (p.1,p.2.1)))[j]? = some (NestedKey.tup [.num b.2.1,.num b.2.2],b.1) := by rw [hks,List.getElem?_map,e]; rfl
    rw [List.getElem?_map] at e3
    cases e4 : kvs[j]? with
    | none => rw [e4] at e3; cases e3
    | some p =>
      rw [e4] at e3
      have e5 := Option.some.inj e3
      exact ⟨p,rfl,congrArg Prod.fst e5,congrArg Prod.snd e5⟩
  have hv : ∀ (j : Nat) (v : Value) (b : Addr × Int × Int),acc.toList[j]? = some v → bs[j]? = some b → v = .ref b.1 := fun j v b e1 e2 => by
    obtain ⟨hj,ev⟩ := hacc.2 j v (by rw [← Array.getElem?_toList]; exact e1)
    obtain ⟨y,hy,hk1,_,_⟩ := hat j hj
    obtain ⟨p,hpj,_,hp2⟩ := hp j b e2
    obtain ⟨y', hy', _, hy2, _⟩ := Z62 rel hpj
    rw [hy] at hy'
    cases hy'
    rw [ev,hk1,← hy2,hp2]
  have hE : EachIs (fun v b => v = Value.ref b.1) acc.toList bs := Z8y hal hv
  have hoL : (h'.push (seqObj "list" acc.toList.toArray 0)).get? h'.objs.size = some (seqObj "list" acc.toList.toArray 0) := Heap.get?_push_size _ rfl
  have old : ∀ b o, s.heap.get? b = some o → (PySem.W.sortingHeap (h'.push (seqObj "list" acc.toList.toArray 0)) h'.objs.size acc.toList).get? b = some o := fun b o e =>
    PySem.W.sortingHeap_old (Nat.ne_of_lt (Heap.lt_size (hk b o e))) (Heap.get?_push_of_some _ (hk b o e))
  have er : EachIs (fun v b => ∃ as, Reads (PySem.W.sortingHeap (h'.push (seqObj "list" acc.toList.toArray 0)) h'.objs.size acc.toList) v (pairD b) as) acc.toList bs := Z8y hal fun j v b e1 e2 => by
    obtain ⟨p,hpj,hp1,hp2⟩ := hp j b e2
    have hm := (hd.2 p (List.mem_of_getElem? hpj)).1
    rw [hp1,hp2] at hm
    obtain ⟨as,ra⟩ := Zj3 I hm
    rw [hv j v b e1 e2]
    exact ⟨as,PyProof.Rows.Reads.keeps old ra⟩
  have hAl : PySem.W.AllAlike (bs.map pairD) := PySem.W.AllAlike.of fun _ _ => by simp [PySem.W.alike,PySem.W.alikeAll,pairD]
  have hSo : PySem.W.Sortable (bs.map pairD) := PySem.W.Sortable.tuples fun _ => ⟨_,_,rfl⟩
  have eo := PySem.W.sortVals_data false hE er hAl
  rw [show PySem.W.dataLe false pairD = _ from PySem.W.dataLe_ii (β := Addr × Int × Int) (fun b => b.2.1) (fun b => b.2.2)] at eo
  refine wpAny_bind (wpAny_newList ?_ (by rw [hal,hlb]; exact h16))
  show wpAny _ _ _ _ _ { s with heap := h'.push (seqObj "list" acc.toList.toArray 0), toks := tk }
  refine wpAny_bind (wpAny_holding (wpAny_call_entry PyProof.Rows.slot_list_sort ⟨_,hoL,rfl⟩ PyProof.Rows.entry_list_sort
    (PySem.W.list_sort_vals (s := { s with heap := h'.push (seqObj "list" acc.toList.toArray 0), toks := tk }) hoL
      (PySem.W.SortsAt.data (s := { s with heap := PySem.W.sortingHeap (h'.push (seqObj "list" acc.toList.toArray 0)) h'.objs.size acc.toList, toks := tk }) (PySem.W.each_map (R := fun v d => ∃ as, Reads (PySem.W.sortingHeap (h'.push (seqObj "list" acc.toList.toArray 0)) h'.objs.size acc.toList) v d as) pairD er) hAl hSo fun d hd' => ?_)
      (by rw [hal,hlb]; exact h16) ⟨_,rfl,?_⟩) (PyProof.Rows.args_list_sort _)))
  · obtain ⟨b, _, rfl⟩ := List.mem_map.mp hd'
    have hdp : (pairD b).depth = 1 := by simp [pairD,PyData.depth,PyData.depthAll]
    have u2 : X.A.in1.in1.units = X.A.units + 2 := rfl
    omega
  · obtain ⟨e', he'⟩ := PyProof.Rows.sortedHeap_at (vs := acc.toList) (out := (PySem.W.sortVals (PySem.W.dataKind (PySem.W.sortingHeap (h'.push (seqObj "list" acc.toList.toArray 0)) h'.objs.size acc.toList) (bs.map pairD)) false acc.toList acc.toList).toArray) hoL
    refine wpAny_pure ⟨_, rfl, .ref h'.objs.size, upd H h'.objs.size (.lst ((bs.mergeSort fun p q => decide (p.2.1 < q.2.1 ∨ (p.2.1 = q.2.1 ∧ p.2.2 ≤ q.2.2))).map fun b => V.ref b.1)), I1.laid (t' := tk) (fun b u e => ?_) (Nat.le_refl _)
      (show ObjOk X.prog X.w _ _ _ (.lst _) from ⟨?_, _, e', Z7e eo, he'⟩), rfl, q _ (I1.hok.fresh (Nat.le_refl _))⟩
    · have hb : b < h'.objs.size := Heap.lt_size e
      rw [PyProof.Rows.sortedHeap_old (Nat.ne_of_lt hb) (by rw [size_push']; exact Nat.lt_succ_of_lt hb)]
      exact Heap.get?_push_of_some _ e
    · rw [List.length_map,(List.mergeSort_perm _ _).length_eq,hlb]; exact h16
end
end L2
set_option maxHeartbeats 4000000
namespace L2
open PySem PySem.Spec PyProof.Rows
def tDcN (P : Program) (w : World) (K : PySem.W.Frag) (wi : TI) (g : TG) (tt : TT) (tk tv : TE) (vs : List Nat) : TE := fun σ H Q => wi σ H fun J H1 => ∀ D,H1 D = none → ∃ W : Nat → Nat → Hp → Prop,(∃ m,W 0 m (upd H1 D (DnO P w D []))) ∧ ∀ i m H,W i m H →
  (J.stop i H ∧ Q (.ref D) H) ∨ (J.go i H ∧ ∃ Nx : Hp → Prop, (∀ H', Nx H' → ∃ m', m' < m ∧ W (i + 1) m' H') ∧ ∀ x H', J.yld i H x H' → g x (wipe σ vs) H' fun σ2 H2 => wipe σ2 vs = wipe σ vs ∧ tt σ2 H2 fun ok H3 =>
    if ok = true then tk σ2 H3 fun y H4 => tv σ2 H4 fun z H5 => ∃ (kvs : List (NestedKey × Addr × V)) (k : NestedKey) (b : Addr),y = .ref b ∧ DN P w K H5 D kvs ∧ KvIs K H5 k (.ref b) ∧ k.depth ≤ 8 ∧ kvs.length < sizeLine ∧ Nx (upd H5 D (DnO P w D (putNd kvs k b z))) else Nx H3)
def TurnAt (Y : Cx) (fp : List Addr) (tn : Nat → Heap → Prop) (τ : St) (W : Nat → Nat → Hp → Prop) (n : Nat) (s : Shared) : Prop := ∃ i H,Inv Y [] τ H s ∧ tn i s.heap ∧ (∀ b ∈ fp,H b = none) ∧ W i n H
section
variable {X : Cx} {pins : List (Addr × Obj)} {s : Shared} {σ : St} {H : Hp} {Q : VK} {kx vx tg iter : Expr} {ifs : List Expr} {scope : Scope} {own : List (Str × Nat)} {pos pos' : Pos} {wi : TI} {g : TG} {tt : TT} {tk tv : TE} {use : Option (Value → Sem Unit)} {Qf : Value → Shared → Prop}
theorem Zfu (hu : X.A.units + 8 < cLine) (hc : X.calm = true) (hN : X.N.Nodup) (I : Inv X pins σ H s) (hi : PI X tg iter wi) (ok : BlkOk X.N X.env.scope scope own)
    (hg : ∀ (s : Shared) (H : Hp) (C : Addr) (cl : List (Str × Addr)) (fp : List Addr),PG (X.blk s H scope (compEnvC scope cl C X.env) fp) tg g)
    (ht : ∀ (s : Shared) (H : Hp) (C : Addr) (cl : List (Str × Addr)) (fp : List Addr),PTs (X.blk s H scope (compEnvC scope cl C X.env) fp) ifs tt)
    (hk : ∀ (s : Shared) (H : Hp) (C : Addr) (cl : List (Str × Addr)) (fp : List Addr),PE (X.blk s H scope (compEnvC scope cl C X.env) fp) kx tk)
    (he : ∀ (s : Shared) (H : Hp) (C : Addr) (cl : List (Str × Addr)) (fp : List Addr),PE (X.blk s H scope (compEnvC scope cl C X.env) fp) vx tv)
    (hs : ∀ x,foldedSetIterable iter X.env x = pure x) (h : tDcN X.prog X.w X.K wi g tt tk tv (own.map (·.2)) σ H Q)
    (hEnd : ∀ D C s' m H', Inv X pins σ H' s' → Q (.ref D) H' → s'.heap.Ns C m → FpOk X pins H' C → compPost (model X.prog X.w) X.A X.xe use Qf (.ref D) C (.ok .next) s') :
    wpAny (model X.prog X.w) X.A (comprehension (.DictComp kx vx [⟨tg, iter, ifs, 0⟩] scope pos) scope X.env pos' newDict false (eval iter X.env) use) Qf X.xe s := by
  refine wpAny_comprehension_free (use := use) rfl hs (closure_ok fun y hy e => (ok.free y hy e).elim (fun z => I.ok.has _ (.inl z)) fun z => I.ok.has _ (.inr z)) ok.kind (fun y hy e => by rw [ok.uniq y hy,e])
    (thn (hi.run pins s σ H _ I h) fun xv s1 hx => thn hx fun itv s2 ⟨it,fp,tn,J,H2,e,I2,T,st2,f2,q⟩ => ?_)
  subst e
  refine wpAny_newObj_type (newEnv_comp ?_)
  have hDn : H2 s2.heap.objs.size = none := I2.hok.fresh (Nat.le_refl _)
  obtain ⟨W,⟨m0,w0⟩,turn⟩ := q _ hDn
  -- the dict is there
  have I3 : Inv X pins σ (upd H2 s2.heap.objs.size (DnO X.prog X.w s2.heap.objs.size [])) { s2 with heap := s2.heap.push { cls := .type "dict", data := .dict #[] } } :=
    I2.laid (t' := s2.toks) (fun b o e => Heap.get?_push_of_some _ e) (Nat.le_refl _) (Zfp (Nat.zero_le _) (beq_eq_false_iff_ne.mpr (Ne.symm (Nat.ne_of_lt I2.big))) (xs := []) .nil (Heap.DictOfH.new s2.heap))
  generalize hD : s2.heap.objs.size = D at *
  generalize hs3 : ({ s2 with heap := s2.heap.push { cls := .type "dict", data := .dict #[] } } : Shared) = s3 at *
  have h3 : s3.heap = s2.heap.push { cls := .type "dict", data := .dict #[] } := by rw [← hs3]
  have below : ∀ b ∈ fp,b < D := fun b hb => by
    obtain ⟨o,e,_⟩ := T.obj _ _ st2 b hb
    rw [← hD]; exact Heap.lt_size e
  have f3 : ∀ b ∈ fp,FpOk X pins (upd H2 D (DnO X.prog X.w D [])) b ∧ b < s3.heap.objs.size := fun b hb =>
    ⟨⟨by rw [upd_ne (Nat.ne_of_lt (below b hb))]; exact (f2 b hb).1,(f2 b hb).2⟩,by rw [h3,Heap.size_push,hD]; exact Nat.lt_succ_of_lt (below b hb)⟩
  have I4 := block_start I3 ok hN f3
  have nfp : ∀ b ∈ fp,upd H2 D (DnO X.prog X.w D []) b = none := fun b hb => (f3 b hb).1.1
  generalize hcl : cellsFrom (s3.heap.objs.size + 1) scope.names (cloFrom X.env.cells scope.names []) = cl at *
  generalize hH3 : upd H2 D (DnO X.prog X.w D []) = H3 at *
  have pg := hg s3 H3 s3.heap.objs.size cl fp
  have pt := ht s3 H3 s3.heap.objs.size cl fp
  have pk := hk s3 H3 s3.heap.objs.size cl fp
  have pv := he s3 H3 s3.heap.objs.size cl fp
  show codeAny _ _ (.compStart (.DictComp kx vx [⟨tg, iter, ifs, 0⟩] scope pos) 0 (.ref it) (.ref D) (compEnvC scope cl s3.heap.objs.size X.env)) (compPost (model X.prog X.w) X.A X.xe use Qf (.ref D) s3.heap.objs.size) { s3 with heap := pushCells (s3.heap.push { cls := .type "dict", data := .dict #[] }) scope.names }
  generalize hce : compEnvC scope cl s3.heap.objs.size X.env = ce at *
  have cL : ce.locals = s3.heap.objs.size := by rw [← hce]; rfl
  generalize hs4 : ({ s3 with heap := pushCells (s3.heap.push { cls := .type "dict", data := .dict #[] }) scope.names } : Shared) = s4 at *
  have st4 : tn 0 s4.heap := T.keep _ _ _ st2 fun b _ o e => by
    rw [← hs4]
    refine pushCells_keeps _ _ _ _ (Heap.get?_push_of_some _ ?_)
    rw [h3]; exact Heap.get?_push_of_some _ e
  have stat : ∀ {τ : St} {H' : Hp} {s' : Shared}, Inv (X.blk s3 H3 scope ce fp) [] τ H' s' → (∀ b ∈ fp, H' b = none) → ∀ b ∈ fp, FpOk (X.blk s3 H3 scope ce fp) [] H' b := fun I' hn b hb =>
    ⟨hn b hb, (I'.ok.exf b hb).1, I'.ok.exfs b hb, .inl hb, fun x c e => (I'.ok.exf b hb).2 x c e, fun p hp => by cases hp⟩
  have loop : codeAny (model X.prog X.w) X.A (.compLoop (.DictComp kx vx [⟨tg,iter,ifs,0⟩] scope pos) 0 (.ref it) (.ref D) ce) (compPost (model X.prog X.w) X.A X.xe use Qf (.ref D) s3.heap.objs.size) s4 := by
    refine compLoop_anyD (TurnAt (X.blk s3 H3 scope ce fp) fp tn (wipe σ (own.map (·.2))) W) ?_ m0 ⟨0,H3,I4,st4,nfp,w0⟩
    rintro n s5 ⟨i,H5,I5,st5,n5,w5⟩
    rcases turn i n H5 w5 with ⟨stop,qq⟩ | ⟨go,Nx,hNx,step⟩
    · refine thnF (T.done (X.blk s3 H3 scope ce fp) rfl rfl rfl hc i [] s5 _ H5 (fun _ _ => False) I5 (stat I5 n5) st5 stop) fun r s6 ⟨hr,I6⟩ => ?_
      subst hr
      have nC : H5 s3.heap.objs.size = none := by rw [← cL]; exact I6.free
      obtain ⟨m,hn,_⟩ := I6.loc
      have hn : s6.heap.Ns ce.locals m := hn
      rw [cL] at hn
      exact hEnd D s3.heap.objs.size s6 m H5 (I3.call' (ch := fp) I6.os I6.base I6.hok I6.bare fun b hb => ⟨(f3 b hb).1.2.2.2.1, (f3 b hb).1.2.1, (f3 b hb).1.2.2.2.2.1, (f3 b hb).1.2.2.2.2.2⟩) qq hn (I3.fpOk (Nat.le_refl _) nC)
    · refine thnF (T.item (X.blk s3 H3 scope ce fp) rfl rfl rfl hc i [] s5 _ H5 (fun _ _ => False) I5 (stat I5 n5) st5 go) fun r s6 ⟨u,hr,h6⟩ => ?_
      subst hr
      refine thnF h6 fun _ s7 ⟨x,H7,I7,r7,y7,st7,n7⟩ => ?_
      refine thnF (pg.run _ s7 _ H7 x u _ (I7.pinned (stat I7 n7) (T.obj _ _ st7)) r7 (step x H7 y7)) fun _ s8 ⟨σ8,H8,I8,hw8,q8⟩ => ?_
      refine thnF (pt.run _ s8 σ8 H8 _ I8 q8) fun b s9 ⟨H9,I9,q9⟩ => ?_
      have fin : ∀ {s' : Shared} {H' : Hp}, Inv (X.blk s3 H3 scope ce fp) ([] ++ pinsAt fp s7.heap) σ8 H' s' → Nx H' → ∃ m, m < n ∧ TurnAt (X.blk s3 H3 scope ce fp) fp tn (wipe σ (own.map (·.2))) W m s' := fun {s' H'} I' nx => by
        obtain ⟨m', hm, w'⟩ := hNx H' nx
        have pin' : ∀ b ∈ fp, ∀ o, s7.heap.get? b = some o → s'.heap.get? b = some o ∧ H' b = none := fun b hb o e =>
          ⟨(I'.pin (b, o) (List.mem_append_right _ (List.mem_append_right _ (mem_pinsAt hb e)))).1, (I'.pin (b, o) (List.mem_append_right _ (List.mem_append_right _ (mem_pinsAt hb e)))).2.1⟩
        refine ⟨m', hm, i + 1, H', (I'.unpinned (pins := [])).weak (by rw [← hw8, wipe_length]) (fun j v e => ?_), T.keep _ _ _ st7 fun b hb o e => (pin' b hb o e).1, fun b hb => ?_, w'⟩
        · rw [← hw8] at e
          exact (wipe_some e).1
        · obtain ⟨o,e,_⟩ := T.obj _ _ st7 b hb
          exact (pin' b hb o e).2
      cases b with
      | false =>
        simp only [Bool.false_eq_true,if_false] at q9 ⊢
        exact fin I9 q9
      | true =>
        simp only [if_true] at q9 ⊢
        refine thnF (pk.run _ s9 σ8 H9 _ I9 q9) fun z s10 ⟨yk,H10,I10,r10,q10⟩ => ?_
        refine thnF (pv.run _ s10 σ8 H10 _ I10 q10) fun z2 s11 ⟨yv,H11,I11,r11,kvs,k,b,ek,dn,hkv,hkd,hz,nx⟩ => ?_
        subst ek
        cases r10
        exact Zj2 (X := X.blk s3 H3 scope ce fp) hu I11 dn hkv hkd r11 hz fun s12 I12 => fin I12 nx
  exact codeAny_compStart_dict loop (T.self X.A 0 _ _ _ st4 loop)
theorem Zdr {i : Nat} {y : Str} {py spos : Pos} (hu : X.A.units + 8 < cLine) (hc : X.calm = true) (hN : X.N.Nodup) (hy : X.N[i]? = some y) (hyl : X.env.scope.names.lookup y = some .local)
    (hsw : swapsWith (.DictComp kx vx [⟨tg,iter,ifs,0⟩] scope pos) (some (.Name y py)) spos.line X.env = pure true) (hi : PI X tg iter wi) (ok : BlkOk X.N X.env.scope scope own)
    (hg : ∀ (s : Shared) (H : Hp) (C : Addr) (cl : List (Str × Addr)) (fp : List Addr),PG (X.blk s H scope (compEnvC scope cl C X.env) fp) tg g)
    (ht : ∀ (s : Shared) (H : Hp) (C : Addr) (cl : List (Str × Addr)) (fp : List Addr),PTs (X.blk s H scope (compEnvC scope cl C X.env) fp) ifs tt)
    (hk : ∀ (s : Shared) (H : Hp) (C : Addr) (cl : List (Str × Addr)) (fp : List Addr),PE (X.blk s H scope (compEnvC scope cl C X.env) fp) kx tk)
    (he : ∀ (s : Shared) (H : Hp) (C : Addr) (cl : List (Str × Addr)) (fp : List Addr),PE (X.blk s H scope (compEnvC scope cl C X.env) fp) vx tv)
    (hs : ∀ x,foldedSetIterable iter X.env x = pure x := by intro _; rfl) :
    PS X (.Assign [.Name y py] (.DictComp kx vx [⟨tg,iter,ifs,0⟩] scope pos) spos) (tAsg (tDcN X.prog X.w X.K wi g tt tk tv (own.map (·.2))) (gName i)) := by
  refine ⟨fun pins s σ H D I h => ?_⟩
  rw [exec_Assign_Name_used _ _ _ _ hsw]
  refine wpAny_bind (wpAny_standAt (wpAny_bind ?_))
  rw [arm_evalThenUse_DictComp]
  have h : tDcN X.prog X.w X.K wi g tt tk tv (own.map (·.2)) σ H (fun x H1 => gName i x σ H1 D.nx) := h
  refine wpAny_bind (thn (Zfu (Qf := fun _ s' => SP X pins D .next s') hu hc hN I hi ok hg ht hk he hs h fun L C s' m H' I' q hn ⟨f0, f1, f2, f3, f4, f5⟩ => ?_) fun _ s' hq => wpAny_pure (wpAny_pure hq))
  show wpAny _ _ (assign (.Name y py) X.env (.ref L)) _ _ _
  refine wpAny_assign_Name (store_ok2 (v := V.ref L) I' hN hy (.inl hyl) rfl (fun s2 I2 ⟨a, sb, ha⟩ => ?_) (.inr hyl))
  refine ⟨m,hn.sameBut sb (ha.elim (fun z => by rw [z]; exact f1) fun z e => f4 y a z e.symm),fun h4 sb4 => ?_⟩
  exact ⟨_, H', I2.turned (t' := s2.toks) (fun b o hb e => (sb4.2 b hb).trans e) f0 f1 f3 f4 f5, q⟩
theorem Zfv {kx vx : Expr} {gs : List Comprehension} {scope : Scope} {pos py : Pos} {y : Str} {l : Nat} {env : Env} (hk : env.scope.kind = .function) (hy : env.scope.names.lookup y = some .local) (hl : (py.line == pos.line) = true)
    (ha : (scope.names.any fun (n,k) => n == y && (k == .local || k == .cell)) = false) : swapsWith (.DictComp kx vx gs scope pos) (some (.Name y py)) l env = pure true := by
  have ky : env.kindOf y = some .local := hy
  have hb : env.blockKind = .function := by unfold Env.blockKind; rw [hk]; rfl
  unfold swapsWith
  simp only [hb,ky,ha,Expr.pos,hl]
  rfl
end
end L2
set_option maxHeartbeats 4000000
namespace L2
open PySem PySem.Spec PyProof.Rows
theorem Zak {k : NestedKey} : ∀ {A : List NestedKey} (B : List NestedKey),k ∈ A → posK k (A ++ B) = posK k A
  | [],_,h => by cases h
  | x :: r,B,h => by
    rw [List.cons_append,posK,posK]
    by_cases e : x = k
    · rw [if_pos e,if_pos e]
    · rw [if_neg e,if_neg e,Zak B ((List.mem_cons.mp h).resolve_left fun z => e z.symm)]
theorem Z8z {k : NestedKey} : ∀ {A : List NestedKey},k ∈ A → A[posK k A]? = some k
  | [],h => by cases h
  | x :: r,h => by
    rw [posK]
    by_cases e : x = k
    · rw [if_pos e,e]; rfl
    · rw [if_neg e,List.getElem?_cons_succ]
      exact Z8z ((List.mem_cons.mp h).resolve_left fun z => e z.symm)
theorem Zfw {k k' : NestedKey} {A : List NestedKey} (h : k ∈ A) (h' : k' ∈ A) (e : posK k A = posK k' A) : k = k' := by
  have a := Z8z h
  rw [e, Z8z h'] at a
  exact (Option.some.inj a).symm
theorem Zfx (s : List NestedKey) (k : NestedKey) : ∃ B,addK s k = s ++ B := by
  unfold addK
  split
  · exact ⟨[],by simp⟩
  · exact ⟨[k],rfl⟩
theorem Zal (s : List NestedKey) (k : NestedKey) : k ∈ addK s k := by
  unfold addK
  split
  · assumption
  · exact List.mem_append_right _ List.mem_cons_self
theorem Z43 : ∀ (ks : List NestedKey) (s : List NestedKey × List Nat),∃ B,(ks.foldl numS s).1 = s.1 ++ B
  | [],s => ⟨[],by simp⟩
  | k :: r,s => by
    obtain ⟨B,hB⟩ := Z43 r (numS s k)
    obtain ⟨C,hC⟩ := Zfx s.1 k
    refine ⟨C ++ B,?_⟩
    rw [List.foldl_cons,hB]
    show addK s.1 k ++ B = _
    rw [hC,List.append_assoc]
theorem Z44 : ∀ (ks : List NestedKey) (s : List NestedKey × List Nat),∀ x ∈ ks,x ∈ (ks.foldl numS s).1
  | k :: r,s,x,h => by
    rw [List.foldl_cons]
    rcases List.mem_cons.mp h with rfl | h
    · obtain ⟨B,hB⟩ := Z43 r (numS s x)
      rw [hB]
      exact List.mem_append_left _ (Zal s.1 x)
    · exact Z44 r _ x h
theorem Z7g : ∀ (ks : List NestedKey) (s : List NestedKey × List Nat),(ks.foldl numS s).2 = s.2 ++ ks.map fun k => posK k (ks.foldl numS s).1
  | [],s => by simp
  | k :: r,s => by
    rw [List.foldl_cons,Z7g r (numS s k),List.map_cons]
    have e : posK k (r.foldl numS (numS s k)).1 = posK k (addK s.1 k) := by
      obtain ⟨B,hB⟩ := Z43 r (numS s k)
      rw [hB]
      exact Zak B (Zal s.1 k)
    rw [e]
    show (s.2 ++ [posK k (addK s.1 k)]) ++ _ = _
    simp
theorem Zam (ks : List NestedKey) : (numN ks).2 = ks.map fun k => posK k (numN ks).1 := by
  have := Z7g ks ([],[])
  simpa [numN] using this
theorem Z45 {ks : List NestedKey} {i j : Nat} {a b : NestedKey} (hi : ks[i]? = some a) (hj : ks[j]? = some b) : (numN ks).2[i]? = (numN ks).2[j]? ↔ a = b := by
  rw [Zam,List.getElem?_map,List.getElem?_map,hi,hj]
  have ha := Z44 ks ([],[]) a (List.mem_of_getElem? hi)
  have hb := Z44 ks ([],[]) b (List.mem_of_getElem? hj)
  constructor
  · intro e
    exact Zfw ha hb (Option.some.inj e)
  · rintro rfl; rfl
theorem Z46 {α β : Type} {f : α → NestedKey} {g : β → NestedKey} : ∀ (A : List (α × β)) (x : α × β),(∀ y ∈ A,f y.1 = f x.1 ↔ g y.2 = g x.2) → posK (f x.1) (A.map fun y => f y.1) = posK (g x.2) (A.map fun y => g y.2)
  | [],_,_ => rfl
  | y :: r,x,h => by
    rw [List.map_cons,List.map_cons,posK,posK]
    have h0 := h y List.mem_cons_self
    by_cases e : f y.1 = f x.1
    · rw [if_pos e,if_pos (h0.mp e)]
    · rw [if_neg e,if_neg fun z => e (h0.mpr z),Z46 r x fun z hz => h z (List.mem_cons_of_mem _ hz)]
theorem Z27 : ∀ (r SP : List (NestedKey × NestedKey)) (out : List Nat),(∀ p ∈ SP ++ r,∀ q ∈ SP ++ r,p.1 = q.1 ↔ p.2 = q.2) →
    ((r.map (·.1)).foldl numS (SP.map (·.1),out)).2 = ((r.map (·.2)).foldl numS (SP.map (·.2),out)).2
  | [],SP,out,_ => rfl
  | p :: r,SP,out,h => by
    have hp : p ∈ SP ++ p :: r := List.mem_append_right _ List.mem_cons_self
    have hm : p.1 ∈ SP.map (·.1) ↔ p.2 ∈ SP.map (·.2) := by
      constructor
      · intro m
        obtain ⟨q,hq,e⟩ := List.mem_map.mp m
        exact List.mem_map.mpr ⟨q,hq,(h q (List.mem_append_left _ hq) p hp).mp e⟩
      · intro m
        obtain ⟨q,hq,e⟩ := List.mem_map.mp m
        exact List.mem_map.mpr ⟨q,hq,(h q (List.mem_append_left _ hq) p hp).mpr e⟩
    rw [List.map_cons,List.map_cons,List.foldl_cons,List.foldl_cons]
    by_cases hk : p.1 ∈ SP.map (·.1)
    · have e1 : addK (SP.map (·.1)) p.1 = SP.map (·.1) := if_pos hk
      have e2 : addK (SP.map (·.2)) p.2 = SP.map (·.2) := if_pos (hm.mp hk)
      have e3 : posK p.1 (SP.map (·.1)) = posK p.2 (SP.map (·.2)) := Z46 (f := fun k => k) (g := fun k => k) SP p fun y hy => h y (List.mem_append_left _ hy) p hp
      unfold numS
      simp only [e1,e2,e3]
      exact Z27 r SP _ fun a ha b hb => h a (by
        rcases List.mem_append.mp ha with z | z
        · exact List.mem_append_left _ z
        · exact List.mem_append_right _ (List.mem_cons_of_mem _ z)) b (by
        rcases List.mem_append.mp hb with z | z
        · exact List.mem_append_left _ z
        · exact List.mem_append_right _ (List.mem_cons_of_mem _ z))
    · have e1 : addK (SP.map (·.1)) p.1 = (SP ++ [p]).map (·.1) := by rw [addK,if_neg hk,List.map_append]; rfl
      have e2 : addK (SP.map (·.2)) p.2 = (SP ++ [p]).map (·.2) := by rw [addK,if_neg fun z => hk (hm.mpr z),List.map_append]; rfl
      have e3 : posK p.1 ((SP ++ [p]).map (·.1)) = posK p.2 ((SP ++ [p]).map (·.2)) := Z46 (f := fun k => k) (g := fun k => k) (SP ++ [p]) p fun y hy => h y (by
        rcases List.mem_append.mp hy with z | z
        · exact List.mem_append_left _ z
        · rw [List.mem_singleton.mp z]; exact hp) p hp
      unfold numS
      simp only [e1,e2,e3]
      exact Z27 r (SP ++ [p]) _ fun a ha b hb => h a (by simpa using ha) b (by simpa using hb)
theorem Zds (r : List (NestedKey × NestedKey)) (h : ∀ p ∈ r,∀ q ∈ r,p.1 = q.1 ↔ p.2 = q.2) : (numN (r.map (·.1))).2 = (numN (r.map (·.2))).2 := Z27 r [] [] h
theorem Zfy {ks ls : List NestedKey} (hl : ks.length = ls.length) : (numN ks).2 = (numN ls).2 ↔ ∀ (i j : Nat) (a b : NestedKey) (c d : NestedKey),ks[i]? = some a → ks[j]? = some b → ls[i]? = some c → ls[j]? = some d → (a = b ↔ c = d) := by
  constructor
  · intro e i j a b c d h1 h2 h3 h4
    rw [← Z45 h1 h2,← Z45 h3 h4,e]
  · intro h
    have e1 : (ks.zip ls).map (·.1) = ks := List.map_fst_zip (Nat.le_of_eq hl)
    have e2 : (ks.zip ls).map (·.2) = ls := List.map_snd_zip (Nat.le_of_eq hl.symm)
    have := Zds (ks.zip ls) fun p hp q hq => by
      obtain ⟨i,hi⟩ := List.mem_iff_getElem?.mp hp
      obtain ⟨j,hj⟩ := List.mem_iff_getElem?.mp hq
      have a1 : ks[i]? = some p.1 := by rw [← e1,List.getElem?_map,hi]; rfl
      have a2 : ls[i]? = some p.2 := by rw [← e2,List.getElem?_map,hi]; rfl
      have b1 : ks[j]? = some q.1 := by rw [← e1,List.getElem?_map,hj]; rfl
      have b2 : ls[j]? = some q.2 := by rw [← e2,List.getElem?_map,hj]; rfl
      exact h i j _ _ _ _ a1 b1 a2 b2
    rwa [e1,e2] at this
end L2
set_option maxHeartbeats 4000000
namespace L2
open PySem PySem.Spec PyProof.Rows
def pairK (q : Int × Int) : NestedKey := .tup [.num q.1,.num q.2]
def pairsN (qs : List (Int × Int)) : List NestedKey := qs.foldl (fun acc q => addK acc (pairK q)) []
theorem Zc0 {kvs : List (NestedKey × Addr × V)} {k : NestedKey} {b : Addr} {d : V} : (putNd kvs k b d).map (·.1) = addK (kvs.map (·.1)) k := by
  unfold putNd addK
  cases h : valN kvs k with
  | some v =>
    have := Z8x h
    rw [if_pos this]
    simp only [Option.isSome_some,if_true,List.map_map]
    refine List.map_congr_left fun p _ => ?_
    show (if p.1 = k then (p.1,p.2.1,d) else p).1 = p.1
    split <;> rfl
  | none =>
    have := Z8w h
    rw [if_neg this]
    simp
section
variable {P : Program} {w : World} {K : PySem.W.Frag} {σ : St} {H : Hp} {Q : VK} {ct cl ky vl : Nat} {c l : Addr} {ps : List V} {cs : List Int} {qs : List (Int × Int)}
abbrev tPrsN (P : Program) (w : World) (K : PySem.W.Frag) (ct cl ky vl : Nat) : TE :=
  tDcN P w K (iTup K (tVar ct)) (gTup K 2 (gCons (gName ky) (gCons (gName vl) gNil))) tYes (tTup (tCons (tOp (rIx K) (tVar cl) (tVar ky)) (tCons (tOp (rIx K) (tVar cl) (tVar vl)) tNil))) (tC (.bl true)) [ky,vl]
structure PrI (P : Program) (w : World) (K : PySem.W.Frag) (H : Hp) (D : Addr) (qs : List (Int × Int)) (H' : Hp) (kvs : List (NestedKey × Addr × V)) : Prop where
  sm : Same H H'
  dn : DN P w K H' D kvs
  key : kvs.map (·.1) = pairsN qs
  len : kvs.length ≤ qs.length
theorem Zj4 {D p : Addr} {H' : Hp} {kvs : List (NestedKey × Addr × V)} {q : Int × Int} (nD : H D = none) (I : PrI P w K H D qs H' kvs) (np : H' p = none) :
    let H2 := upd H' p (.tup [.int q.1, .int q.2])
    DN P w K H2 D kvs ∧ KvIs K H2 (pairK q) (.ref p) ∧ (pairK q).depth ≤ 8 ∧ PrI P w K H D (qs ++ [q]) (upd H2 D (DnO P w D (putNd kvs (pairK q) p (.bl true)))) (putNd kvs (pairK q) p (.bl true)) := by
  have s2 : Same H' (upd H' p (.tup [.int q.1, .int q.2])) := Vq (Same.refl _) np
  have hk : KvIs K (upd H' p (.tup [.int q.1, .int q.2])) (pairK q) (.ref p) := .tup (SqT.of upd_same) (.cons (.int _) (.cons (.int _) .nil))
  have d2 : DN P w K (upd H' p (.tup [.int q.1, .int q.2])) D kvs := ⟨s2 _ _ I.dn.1, fun x hx => ⟨(I.dn.2 x hx).1.keep fun _ _ z => z.sm s2, (I.dn.2 x hx).2⟩⟩
  have hd : (pairK q).depth ≤ 8 := by simp [pairK,NestedKey.depth,NestedKey.depthAll]
  refine ⟨d2,hk,hd,Vq (Same.trans I.sm s2) nD,⟨upd_same,fun x hx => ?_⟩,?_,?_⟩
  · have := Zft (d := .bl true) d2 hk hd x hx
    exact ⟨this.1.keep (Zlf d2.1),this.2⟩
  · rw [Zc0,I.key]
    unfold pairsN
    rw [List.foldl_append]
    rfl
  · rw [List.length_append]
    exact Nat.le_trans Z7d (Nat.succ_le_succ I.len)
theorem Zc1 (hct : σ[ct]? = some (some (.ref c))) (hc : SqT K H c ps) (hcl : σ[cl]? = some (some (.ref l))) (hl : SqL K H l (cs.map V.int))
    (hp : Paired (fun v (q : Int × Int) => ∃ a k u,v = V.ref a ∧ SqT K H a [.int k,.int u] ∧ atI (cs.map V.int) k = some (.int q.1) ∧ atI (cs.map V.int) u = some (.int q.2)) ps qs)
    (hz : ps.length ≤ 100000) (lk : ky < σ.length) (lv : vl < σ.length) (n1 : ky ≠ vl) (n2 : cl ≠ ky) (n3 : cl ≠ vl)
    (q : ∀ D H' kvs, H D = none → PrI P w K H D qs H' kvs → Q (.ref D) H') : tPrsN P w K ct cl ky vl σ H Q := by
  have hsz : (100000 : Nat) < sizeLine := by rw [sizeLine_eq]; decide
  have ll : ps.length = qs.length := Paired.length hp
  refine ⟨.ref c, hct, c, rfl, ⟨ps, hc⟩, fun D nD => ⟨fun i m H' => m = ps.length - i ∧ i ≤ ps.length ∧ ∃ kvs, PrI P w K H D (qs.take i) H' kvs, ⟨ps.length, by simp, Nat.zero_le _, [], ⟨Vq (Same.refl H) nD, ⟨upd_same, fun x hx => by cases hx⟩, rfl, Nat.zero_le _⟩⟩, ?_⟩⟩
  rintro i m H' ⟨rfl, hi, kvs, I⟩
  have hc' := hc.sm I.sm
  by_cases hlt : i < ps.length
  · refine .inr ⟨⟨ps, ps[i], hc', by simp [hlt]⟩, fun H2 => ∃ kvs, PrI P w K H D (qs.take (i + 1)) H2 kvs, fun H2 ⟨kvs, I'⟩ => ⟨ps.length - (i + 1), by omega, rfl, hlt, kvs, I'⟩, fun x H2 hx => ?_⟩
    obtain ⟨e,hx⟩ := hx
    subst e
    have hx := hx ps hc'
    obtain ⟨pr,e,a,k,u,ev,ht,h1,h2⟩ := Z62 hp hx
    subst ev
    have tk : qs.take (i + 1) = qs.take i ++ [pr] := by rw [List.take_add_one,e]; rfl
    have lw : (wipe σ [ky,vl]).length = σ.length := wipe_length σ _
    have ecl : (wipe σ [ky,vl])[cl]? = some (some (.ref l)) := by rw [wipe_out (by simp [n2,n3])]; exact hcl
    refine ⟨a,[.int k,.int u],rfl,ht.sm I.sm,rfl,_,_,rfl,_,_,rfl,rfl,?_,?_⟩
    · simp only [wipe]
      refine List.ext_getElem? fun j => ?_
      by_cases j1 : ky = j
      · by_cases j2 : vl = j
        · exact absurd (j1.trans j2.symm) n1
        · simp only [List.getElem?_set,List.length_set,if_pos j1,if_neg j2]
      · by_cases j2 : vl = j
        · simp only [List.getElem?_set,List.length_set,if_neg j1,if_pos j2]
        · simp only [List.getElem?_set,List.length_set,if_neg j1,if_neg j2]
    · simp only [tYes,if_true]
      have a1 : (((wipe σ [ky,vl]).set ky (some (.int k))).set vl (some (.int u)))[cl]? = some (some (.ref l)) := by
        rw [List.getElem?_set_ne (Ne.symm n3),List.getElem?_set_ne (Ne.symm n2)]; exact ecl
      have a2 : (((wipe σ [ky,vl]).set ky (some (.int k))).set vl (some (.int u)))[ky]? = some (some (.int k)) := by
        rw [List.getElem?_set_ne (Ne.symm n1)]; exact List.getElem?_set_self (by rw [lw]; exact lk)
      have a3 : (((wipe σ [ky,vl]).set ky (some (.int k))).set vl (some (.int u)))[vl]? = some (some (.int u)) := List.getElem?_set_self (by rw [List.length_set,lw]; exact lv)
      refine ⟨.ref l,a1,.int k,a2,.inl ⟨l,_,k,_,rfl,rfl,hl.sm I.sm,h1,.ref l,a1,.int u,a3,.inl ⟨l,_,u,_,rfl,rfl,hl.sm I.sm,h2,?_⟩⟩⟩
      refine ⟨by rw [sizeLine_eq]; show 2 ≤ 16777216; decide,fun p np => ?_⟩
      obtain ⟨d2,hk,hd,I2⟩ := Zj4 (P := P) (w := w) nD I np
      refine ⟨kvs,pairK pr,p,rfl,d2,hk,hd,?_,_,by rw [tk]; exact I2⟩
      have := I.len
      rw [List.length_take] at this
      omega
  · have e : i = ps.length := by omega
    subst e
    rw [ll,List.take_length] at I
    exact .inl ⟨⟨ps, hc', Nat.le_refl _⟩, q D H' kvs nD I⟩
end
theorem Z7h {a b : Int × Int} (h : pairK a = pairK b) : a = b := by
  unfold pairK at h
  injection h with h
  injection h with h1 h
  injection h with h2 _
  injection h1 with h1
  injection h2 with h2
  exact Prod.ext h1 h2
def addQ (acc : List (Int × Int)) (q : Int × Int) : List (Int × Int) := if q ∈ acc then acc else acc ++ [q]
def pairsQ (qs : List (Int × Int)) : List (Int × Int) := qs.foldl addQ []
theorem Zdt (acc : List (Int × Int)) (q : Int × Int) : addK (acc.map pairK) (pairK q) = (addQ acc q).map pairK := by
  unfold addK addQ
  by_cases h : q ∈ acc
  · rw [if_pos h,if_pos (List.mem_map.mpr ⟨q,h,rfl⟩)]
  · rw [if_neg h,if_neg fun z => by
      obtain ⟨r,hr,e⟩ := List.mem_map.mp z
      exact h (Z7h e ▸ hr)]
    rw [List.map_append]; rfl
theorem Zdu (qs : List (Int × Int)) : pairsN qs = (pairsQ qs).map pairK := by
  have : ∀ (qs acc : List (Int × Int)),qs.foldl (fun acc q => addK acc (pairK q)) (acc.map pairK) = (qs.foldl addQ acc).map pairK := by
    intro qs
    induction qs with
    | nil => intro acc; rfl
    | cons q r ih => intro acc; rw [List.foldl_cons,List.foldl_cons,Zdt,ih]
  exact this qs []
theorem Z47 : ∀ {kvs : List (NestedKey × Addr × V)} {rs : List (Int × Int)},kvs.map (·.1) = rs.map pairK →
    ∃ bs : List (Addr × Int × Int),kvs.map (fun p => (p.1,p.2.1)) = bs.map (fun b => (NestedKey.tup [.num b.2.1,.num b.2.2],b.1)) ∧ bs.map (·.2) = rs
  | [],[],_ => ⟨[],rfl,rfl⟩
  | [],_ :: _,h => by simp at h
  | _ :: _,[],h => by simp at h
  | p :: ks,r :: rs,h => by
    rw [List.map_cons,List.map_cons] at h
    injection h with h1 h2
    obtain ⟨bs,e1,e2⟩ := Z47 h2
    refine ⟨(p.2.1,r) :: bs,?_,by rw [List.map_cons,e2]⟩
    rw [List.map_cons,List.map_cons,e1,h1]
    rfl
end L2
set_option maxHeartbeats 4000000
namespace L2
open PySem PySem.Spec PyProof.Rows
def leQ (p q : Int × Int) : Bool := decide (p.1 < q.1 ∨ (p.1 = q.1 ∧ p.2 ≤ q.2))
theorem kv_sq {K : PySem.W.Frag} {H : Hp} {a : Addr} {q : Int × Int} (h : KvIs K H (pairK q) (.ref a)) : SqT K H a [.int q.1,.int q.2] := by
  unfold pairK at h
  cases h with
  | tup e r =>
    cases r with
    | cons p1 r =>
      cases r with
      | cons p2 r =>
        cases r; cases p1; cases p2
        exact e
section
variable (P : Program) (w : World) (K : PySem.W.Frag)
def rTupOf : List V → Hp → VK → Prop := fun xs H Q => ∃ p ys,xs = [V.ref p] ∧ ((SqL K H p ys ∧ ∀ l,H l = none → Q (.ref l) (upd H l (.tup ys))) ∨ (SqT K H p ys ∧ Q (.ref p) H))
def rSortN : List V → Hp → VK → Prop := fun xs H Q => ∃ (a : Addr) (kvs : List (NestedKey × Addr × V)) (bs : List (Addr × Int × Int)),xs = [.ref a] ∧ DN P w K H a kvs ∧
    kvs.map (fun p => (p.1,p.2.1)) = bs.map (fun b => (NestedKey.tup [.num b.2.1,.num b.2.2],b.1)) ∧
    ∀ p,H p = none → Q (.ref p) (upd H p (.lst ((bs.mergeSort fun p q => decide (p.2.1 < q.2.1 ∨ (p.2.1 = q.2.1 ∧ p.2.2 ≤ q.2.2))).map fun b => V.ref b.1)))
def tBrN (ct cl ky vl pr ow : Nat) : TS := tSeq (tAsg (tPrsN P w K ct cl ky vl) (gName pr)) (tRet (tTup (tCons (tVar ow) (tCons (tCB (rTupOf K) (tCons (tCB (rSortN P w K) (tCons (tVar pr) tNil)) tNil)) tNil))))
end
section
variable {P : Program} {w : World} {K : PySem.W.Frag} {σ : St} {H : Hp} {D : Ends} {ct cl ky vl pr ow : Nat} {c l : Addr} {ps : List V} {cs : List Int} {qs : List (Int × Int)} {ov : V}
theorem Z90 (hct : σ[ct]? = some (some (.ref c))) (hc : SqT K H c ps) (hcl : σ[cl]? = some (some (.ref l))) (hl : SqL K H l (cs.map V.int))
    (hp : Paired (fun v (q : Int × Int) => ∃ a k u,v = V.ref a ∧ SqT K H a [.int k,.int u] ∧ atI (cs.map V.int) k = some (.int q.1) ∧ atI (cs.map V.int) u = some (.int q.2)) ps qs)
    (hz : ps.length ≤ 100000) (lk : ky < σ.length) (lv : vl < σ.length) (lp : pr < σ.length) (n1 : ky ≠ vl) (n2 : cl ≠ ky) (n3 : cl ≠ vl) (n4 : ow ≠ pr) (ho : σ[ow]? = some (some ov))
    (q : ∀ p3 p2 H' rs, Same H H' → H' p3 = some (.tup [ov, .ref p2]) → H' p2 = some (.tup (rs.map V.ref)) → Paired (fun a q => SqT K H' a [.int q.1, .int q.2]) rs ((pairsQ qs).mergeSort leQ) → D.rt (.ref p3) H') :
    tBrN P w K ct cl ky vl pr ow D σ H := by
  unfold tBrN tSeq tAsg
  refine Zc1 (P := P) (w := w) (K := K) hct hc hcl hl hp hz lk lv n1 n2 n3 fun A H1 kvs nA I => ?_
  have key := I.key
  rw [Zdu] at key
  obtain ⟨bs,e1,e2⟩ := Z47 key
  have eo : (σ.set pr (some (.ref A)))[ow]? = some (some ov) := by rw [List.getElem?_set_ne (Ne.symm n4)]; exact ho
  refine ⟨ov,eo,.ref A,List.getElem?_set_self lp,A,kvs,bs,rfl,I.dn,e1,fun p1 np1 => ⟨p1,_,rfl,.inl ⟨SqL.of upd_same,fun p2 np2 => ⟨by rw [sizeLine_eq]; show 2 ≤ 16777216; decide,fun p3 np3 => ?_⟩⟩⟩⟩
  have s1 : Same H1 (upd H1 p1 (.lst ((bs.mergeSort fun p q => decide (p.2.1 < q.2.1 ∨ (p.2.1 = q.2.1 ∧ p.2.2 ≤ q.2.2))).map fun b => V.ref b.1))) := Vq (Same.refl _) np1
  have s2 := Vq (o := HO.tup ((bs.mergeSort fun p q => decide (p.2.1 < q.2.1 ∨ (p.2.1 = q.2.1 ∧ p.2.2 ≤ q.2.2))).map fun b => V.ref b.1)) (Same.refl _) np2
  have s3 := Vq (o := HO.tup [ov,.ref p2]) (Same.refl _) np3
  have s13 := Same.trans s1 (Same.trans s2 s3)
  refine q p3 p2 _ ((bs.mergeSort fun p q => decide (p.2.1 < q.2.1 ∨ (p.2.1 = q.2.1 ∧ p.2.2 ≤ q.2.2))).map (·.1)) (Same.trans I.sm s13) upd_same (by rw [List.map_map]; exact s3 _ _ upd_same) ?_
  have em : (bs.mergeSort fun p q => decide (p.2.1 < q.2.1 ∨ (p.2.1 = q.2.1 ∧ p.2.2 ≤ q.2.2))).map (·.2) = (pairsQ qs).mergeSort leQ := by
    have z := List.map_mergeSort (r := fun p q : Addr × Int × Int => decide (p.2.1 < q.2.1 ∨ (p.2.1 = q.2.1 ∧ p.2.2 ≤ q.2.2))) (s := leQ) (f := fun b : Addr × Int × Int => b.2) (l := bs) (fun a _ b _ => rfl)
    rw [e2] at z
    exact z
  rw [← em]
  have hall : ∀ b ∈ bs.mergeSort fun p q => decide (p.2.1 < q.2.1 ∨ (p.2.1 = q.2.1 ∧ p.2.2 ≤ q.2.2)),SqT K _ b.1 [.int b.2.1,.int b.2.2] := fun b hb => by
    have hb := (List.mergeSort_perm bs _).mem_iff.mp hb
    have hm : (NestedKey.tup [.num b.2.1,.num b.2.2],b.1) ∈ kvs.map (fun p => (p.1,p.2.1)) := by rw [e1]; exact List.mem_map.mpr ⟨b,hb,rfl⟩
    obtain ⟨p,hp,ep⟩ := List.mem_map.mp hm
    have k := (I.dn.2 p hp).1
    rw [show p.1 = pairK b.2 from congrArg Prod.fst ep,show p.2.1 = b.1 from congrArg Prod.snd ep] at k
    exact (kv_sq k).sm s13
  have go : ∀ (Hf : Hp) (zs : List (Addr × Int × Int)),(∀ b ∈ zs,SqT K Hf b.1 [.int b.2.1,.int b.2.2]) → Paired (fun a (q : Int × Int) => SqT K Hf a [.int q.1,.int q.2]) (zs.map (·.1)) (zs.map (·.2)) := by
    intro Hf zs
    induction zs with
    | nil => intro _; exact .nil
    | cons z r ih => intro h; exact .cons (h z List.mem_cons_self) (ih fun b hb => h b (List.mem_cons_of_mem _ hb))
  exact go _ _ hall
end
end L2
set_option maxHeartbeats 4000000
namespace Fx
open PySem PySem.Spec PyProof.Rows L2 SX Ap
variable [Tb]
def intsKT : List T → Option (List Int)
  | [] => some []
  | .int i :: r => (intsKT r).map (i :: ·)
  | _ => none
def prsT (cs : List Int) : List T → Option (List (Int × Int))
  | [] => some []
  | .tup [.int k,.int u] :: r => match atI (cs.map V.int) k,atI (cs.map V.int) u,prsT cs r with
    | some (.int a),some (.int b),some qs => some ((a,b) :: qs)
    | _,_,_ => none
  | _ => none
section
variable {K : PySem.W.Frag} {ι : List Addr} {H : Hp}
theorem Z7i : ∀ {vs : List V} {ts : List T} {cs : List Int},Reps K ι H vs ts → intsKT ts = some cs → vs = cs.map V.int
  | _,_,_,.nil,e => by
    rw [intsKT] at e; cases e; rfl
  | _,_,_,.cons (t := t) (ts := ts) r rs,e => by
    cases t with
    | int i =>
      rw [intsKT] at e
      cases q : intsKT ts with
      | none => rw [q] at e; cases e
      | some cs =>
        rw [q] at e; cases e
        cases r
        rw [Z7i rs q]; rfl
    | _ => simp [intsKT] at e
theorem Zdv {cs : List Int} : ∀ {vs : List V} {ts : List T} {qs : List (Int × Int)},Reps K ι H vs ts → prsT cs ts = some qs →
    Paired (fun v (q : Int × Int) => ∃ a k u,v = V.ref a ∧ SqT K H a [.int k,.int u] ∧ atI (cs.map V.int) k = some (.int q.1) ∧ atI (cs.map V.int) u = some (.int q.2)) vs qs
  | _,_,_,.nil,e => by
    rw [prsT] at e; cases e; exact .nil
  | _,_,_,.cons (t := t) (ts := ts) r rs,e => by
    unfold prsT at e
    split at e
    · rename_i heq; cases heq
    · rename_i k u r' heq
      cases heq
      split at e
      · rename_i a b qs h1 h2 h3
        cases e
        obtain ⟨p,xs,rfl,hs,rr⟩ := r.tupE
        cases rr with
        | cons r1 rr =>
          cases rr with
          | cons r2 rr =>
            cases rr; cases r1; cases r2
            exact .cons ⟨p,k,u,rfl,hs,h1,h2⟩ (Zdv rs h3)
      · cases e
    · cases e
theorem Zan : ∀ {rs : List Addr} {qs : List (Int × Int)},Paired (fun a (q : Int × Int) => SqT K H a [.int q.1,.int q.2]) rs qs → Reps K ι H (rs.map V.ref) (qs.map fun q => T.tup [.int q.1,.int q.2])
  | _,_,.nil => .nil
  | _,_,.cons h t => .cons (.tup h (.cons (.int _) (.cons (.int _) .nil))) (Zan t)
end
def sPrs (ct cl ky vl pr ow : Nat) : FS := fun ρ Z => match ρ[ct]?,ρ[cl]?,ρ[ow]? with
  | some (some (.tup ps)),some (some (.loc j)),some (some o) => match getL Z j with
    | some ts => match intsKT ts with
      | some cs => match prsT cs ps with
        | some qs => if ps.length ≤ 100000 ∧ ky < ρ.length ∧ vl < ρ.length ∧ pr < ρ.length then .rt (.tup [o,.tup (((pairsQ qs).mergeSort leQ).map fun q => T.tup [.int q.1,.int q.2])]) Z else .stuck
        | none => .stuck
      | none => .stuck
    | none => .stuck
  | _,_,_ => .stuck
theorem Zlj {X : Cx} {W : WX} {st : List Stmt} {ct cl ky vl pr ow : Nat} (h : PSs X st (tBrN X.prog X.w X.K ct cl ky vl pr ow)) (n1 : ky ≠ vl) (n2 : cl ≠ ky) (n3 : cl ≠ vl) (n4 : ow ≠ pr) : FBJ X X.K W st (sPrs ct cl ky vl pr ow) := Z5o h fun D σ H q => by
  obtain ⟨ι,ρ,Z,is,p⟩ := q
  unfold sPrs at p
  split at p
  · rename_i ps j o e1 e2 e3
    split at p
    · rename_i ts ej
      split at p
      · rename_i cs ec
        split at p
        · rename_i qs eq
          split at p
          · rename_i hz
            obtain ⟨v1,hv1,r1⟩ := is.env ct _ e1
            obtain ⟨v2,hv2,r2⟩ := is.env cl _ e2
            obtain ⟨v3,hv3,r3⟩ := is.env ow _ e3
            obtain ⟨c,vs,rfl,hc,rs⟩ := r1.tupE
            cases r2 with
            | loc hi =>
              obtain ⟨b,hb,ls,hl,rl⟩ := is.sim.at (Yg ej)
              rw [hi] at hb
              cases hb
              have hl := SqL.of (K := X.K) hl
              rw [Z7i rl ec] at hl
              refine Z90 hv1 hc hv2 hl (Zdv rs eq) (by rw [rs.length]; exact hz.1) (by rw [is.len]; exact hz.2.1) (by rw [is.len]; exact hz.2.2.1) (by rw [is.len]; exact hz.2.2.2) n1 n2 n3 n4 hv3 fun p3 p2 H' as sm h3 h2 pr => ?_
              exact p ι H' (.ref p3) (Gr.same sm) (is.sim.same sm) (.tup (SqT.of h3) (.cons (r3.gr (Gr.same sm)) (.cons (.tup (SqT.of h2) (Zan pr)) .nil)))
          · exact p.elim
        · exact p.elim
      · exact p.elim
    · exact p.elim
  · exact p.elim
end Fx
set_option maxHeartbeats 4000000
namespace Fx
open PySem PySem.Spec PyProof.Rows L2 SX Ap
variable [Tb]
end Fx
set_option maxHeartbeats 4000000
namespace Fx
open PySem PySem.Spec PyProof.Rows L2 SX Ap
variable [Tb]
end Fx
set_option maxHeartbeats 4000000
namespace Fx
open PySem PySem.Spec PyProof.Rows L2 SX Ap
variable [Tb]
end Fx
set_option maxHeartbeats 4000000
namespace Fx
open PySem PySem.Spec PyProof.Rows L2 SX Ap
variable [Tb]
def XT (K : PySem.W.Frag) (l : List (PySem.Str × PySem.Str × Bool)) : Prop := ∀ p ∈ l,∃ A C : Addr,PySem.W.nsIn K mainGlobals p.1 = some (some (.ref A)) ∧ PySem.W.nsIn K mainGlobals p.2.1 = some (some (.ref C)) ∧ PySem.W.exmOne K (.ref A) (.ref C) = some p.2.2
end Fx
set_option maxHeartbeats 4000000
namespace Ap
open PySem PySem.Spec PyProof.Rows L2 SX Fx
noncomputable section
def Wj : List Nat := [97,98,99,100,101,102,103,104,105,106,107,108,109,110,111,112,113,114,115,116,117,118,119,120,121,122,65,66,67,68,69,70,71,72,73,74,75,76,77,78,79,80,81,82,83,84,85,86,87,88,89,90,48,49,50,51,52,53,54,55,56,57,45,35,59,47,63,58,64,38,61,43,36,95,46,126,42,39,40,41]
def Z48 : FS :=
  (sRet (eLst (aCons (eBin gMul (eVar 0) (eCallB gIntT (aCons (eBin gGeW (eVar 0) (eBin gPow (eC (.int 10)) (eC (.int 18)))) aNil))) (aCons (eBin gMod (eCallB gIntT (aCons (eVar 0) aNil)) (eC (.int 2147483629))) (aCons (eC (.int 0)) aNil)))))
def Uh : FF := runF 1 Z48
def Z0z : FS :=
  (bCons (sIf (eBl (eBin gGtW (eBin gIxW (eVar 0) (eC (.int 0))) (eC (.int 0))))
      (bCons (sSet 2 (eBin gMod (eCallB gIntT (aCons (eBin gIxW (eVar 0) (eC (.int 0))) aNil)) (eVar 1)))
      (bCons (sAsg (eBin gDiv (eBin gIxW (eVar 0) (eC (.int 0))) (eVar 1)) (gSubsW (eVar 0) (eC (.int 0))))
      (sRet (eVar 2))))
      sPass)
    (bCons (sAsg (eBin gAdd (eBin gIxW (eVar 0) (eC (.int 2))) (eC (.int 1))) (gSubsW (eVar 0) (eC (.int 2))))
    (bCons (sSet 3 (eBin gMod (eCallB gIntT (aCons (eBin gMul (eBin gAdd (eBin gAdd (eBin gIxW (eVar 0) (eC (.int 1))) (eBin gMul (eC (.int 9973)) (eBin gIxW (eVar 0) (eC (.int 2))))) (eC (.int 17))) (eC (.int 48271))) aNil)) (eC (.int 2147483647))))
    (bCons (sSet 3 (eBin gMod (eCallB gIntT (aCons (eBin gMul (eVar 3) (eBin gAdd (eBin gAdd (eBin gDiv (eVar 3) (eC (.int 1021))) (eC (.int 69621))) (eBin gIxW (eVar 0) (eC (.int 2))))) aNil)) (eC (.int 2147483587))))
    (sRet (eBin gMod (eCallB gIntT (aCons (eBin gDiv (eBin gMod (eCallB gIntT (aCons (eBin gMul (eVar 3) (eBin gAdd (eBin gDiv (eVar 3) (eC (.int 2011))) (eC (.int 40692)))) aNil)) (eC (.int 2147483399))) (eC (.int 7))) aNil)) (eVar 1)))))))
def Zk : FF := runF 4 Z0z
def Z5g : FS :=
  (sRet (eBin gIxW (eVar 1) (eCall Zk [] (aCons (eVar 0) (aCons (eCallB gLen (aCons (eVar 1) aNil)) aNil)))))
def Vb : FF := runF 2 Z5g
def Qw : FE :=
  (eCall Zk [] (aCons (eVar 0) (aCons (eVar 1) aNil)))
def Qx : FE :=
  (eTup (aCons (eCall Zk [] (aCons (eVar 0) (aCons (eVar 1) aNil))) (aCons (eCall Zk [] (aCons (eVar 0) (aCons (eVar 1) aNil))) aNil)))
def Qy : FS :=
  (bCons (sSet 3 (eCall Zk [] (aCons (eVar 0) (aCons (eC (.int 5)) aNil))))
    (bCons (sIf (eBl (eBin gEq (eVar 3) (eC (.int 0))))
      (sRet (eTup (aCons (eC (.str [115,99,97,108,97,114])) (aCons (eC (.str [33,33,115,116,114])) (aCons (eCall Vb [] (aCons (eVar 0) (aCons (eLst (aCons (eC (.str [97])) (aCons (eC (.str [97])) (aCons (eC (.str [98])) aNil)))) aNil))) aNil)))))
      sPass)
    (bCons (sIf (eBl (eBin gLt (eVar 3) (eC (.int 3))))
      (bCons (sSet 4 (eLc [5] [5] (iRng (aCons (eBin gAdd (eC (.int 1)) (eCall Zk [] (aCons (eVar 0) (aCons (eVar 2) aNil)))) aNil)) eYes Qw))
      (sRet (eTup (aCons (eC (.str [115,101,113,117,101,110,99,101])) (aCons (eC (.str [33,33,115,101,113])) (aCons (eCallB gTuple (aCons (eVar 4) aNil)) aNil))))))
      sPass)
    (bCons (sSet 4 (eLc [5] [5] (iRng (aCons (eBin gAdd (eC (.int 1)) (eCall Zk [] (aCons (eVar 0) (aCons (eBin gDiv (eVar 2) (eC (.int 2))) aNil)))) aNil)) eYes Qx))
    (sRet (eTup (aCons (eC (.str [109,97,112,112,105,110,103])) (aCons (eC (.str [33,33,109,97,112])) (aCons (eCallB gTuple (aCons (eVar 4) aNil)) aNil)))))))))
def X4 : FF := runF 6 Qy
def Z91 : FS :=
  (bCons (sPar [3,4] (aCons (eCallB gList (aCons (eVar 1) aNil)) (aCons (eCall Zk [] (aCons (eVar 0) (aCons (eCallB gLen (aCons (eVar 1) aNil)) aNil))) aNil)))
    (bCons (sAsg (eBin gIxW (eVar 3) (eVar 4)) (gTp 3 (gsCons (gNm 5) (gsCons (gNm 6) (gsCons (gNm 7) gsNil)))))
    (bCons (sAsg (eCall X4 [] (aCons (eVar 0) (aCons (eCallB gLen (aCons (eVar 1) aNil)) (aCons (eVar 2) aNil)))) (gSubsW (eVar 3) (eVar 4)))
    (bCons (sIf (Fx.tAnd (eBl (eBin gEq (eVar 5) (eC (.str [109,97,112,112,105,110,103])))) (eBl (eBin gGtW (eCall Zk [] (aCons (eVar 0) (aCons (eC (.int 3)) aNil))) (eC (.int 0)))))
      (sAsg (eTup (aCons (eVar 5) (aCons (eVar 6) (aCons (eIf (eBl (eBin gGeW (eBin gMul (eCallB gLen (aCons (eVar 7) aNil)) (eC (.int 2))) (eVar 2))) (eRvT (eVar 7) oNone oNone (oSome (eUn gNeg (eC (.int 1))))) (eBin gAdd (eVar 7) (eSl (eVar 7) oNone (oSome (eC (.int 1)))))) aNil)))) (gSubsW (eVar 3) (eVar 4)))
      sPass)
    (sRet (eVar 3))))))
def Ui : FF := runF 8 Z91
def Z1n : FS :=
  (sRet (eAnd (eCallB gIsi (aCons (eVar 0) (aCons (eC (.ty "int")) aNil))) (eAnd (eNot (eCallB gIsi (aCons (eVar 0) (aCons (eC (.ty "bool")) aNil)))) (eChain gLeW gLeW (eVar 1) (eVar 0) (eVar 2)))))
def Yq : FF := runF 3 Z1n
def Qz : FE :=
  (eBin gInW (eVar 2) (eVar 1))
def Z12 : FS :=
  (sRet (eAnd (eBin gNe (eVar 0) (eC (.str []))) (eCallB gAll (aCons (eLc [2] [2] (iAny (eVar 0)) eYes Qz) aNil))))
def Xf : FF := runF 3 Z12
def Z36 : FS :=
  (bCons (sIf (Fx.tOr (Fx.tNot (eTru (eCallB gIsi (aCons (eVar 0) (aCons (eC (.ty "str")) aNil))))) (Fx.tNot (eTru (eBM "str" gStarts (eVar 0) (aCons (eC (.str [33])) aNil)))))
      (sRet (eC (.bl false)))
      sPass)
    (sRet (eCall Xf [] (aCons (eIf (eTru (eBM "str" gStarts (eVar 0) (aCons (eC (.str [33,33])) aNil))) (eSl (eVar 0) (oSome (eC (.int 2))) oNone) (eSl (eVar 0) (oSome (eC (.int 1))) oNone)) (aCons (eC (.str Wj)) aNil)))))
def J5 : FF := runF 1 Z36
def N5 : FE :=
  (eCall Yq [] (aCons (eVar 2) (aCons (eC (.int 0)) (aCons (eBin gSub (eVar 1) (eC (.int 1))) aNil))))
def Z5h : FS :=
  (sRet (eAnd (eCallB gIsi (aCons (eVar 0) (aCons (eC (.ty "tuple")) aNil))) (eAnd (eBin gEq (eCallB gLen (aCons (eVar 0) aNil)) (eC (.int 2))) (eCallB gAll (aCons (eLc [2] [2] (iAny (eVar 0)) eYes N5) aNil)))))
def Qc : FF := runF 3 Z5h
def Z13 : FE :=
  (eCall Yq [] (aCons (eVar 5) (aCons (eC (.int 0)) (aCons (eBin gSub (eVar 1) (eC (.int 1))) aNil))))
def Z14 : FE :=
  (eCall Qc [] (aCons (eVar 5) (aCons (eVar 1) aNil)))
def Qe : FS :=
  (bCons (sIf (Fx.tOr (Fx.tNot (eTru (eCallB gIsi (aCons (eVar 0) (aCons (eC (.ty "tuple")) aNil))))) (Fx.tOr (eBl (eBin gNe (eCallB gLen (aCons (eVar 0) aNil)) (eC (.int 3)))) (Fx.tOr (Fx.tNot (eTru (eCallB gIsi (aCons (eBin gIxW (eVar 0) (eC (.int 0))) (aCons (eC (.ty "str")) aNil))))) (Fx.tNot (eTru (eCall J5 [] (aCons (eBin gIxW (eVar 0) (eC (.int 1))) aNil)))))))
      (sRet (eC (.bl false)))
      sPass)
    (bCons (sAsg (eVar 0) (gTp 3 (gsCons (gNm 2) (gsCons (gNm 3) (gsCons (gNm 4) gsNil)))))
    (bCons (sIf (eBl (eBin gEq (eVar 2) (eC (.str [115,99,97,108,97,114]))))
      (sRet (eCallB gIsi (aCons (eVar 4) (aCons (eC (.ty "str")) aNil))))
      sPass)
    (bCons (sIf (Fx.tOr (eBl (eBin gNotInW (eVar 2) (eTup (aCons (eC (.str [115,101,113,117,101,110,99,101])) (aCons (eC (.str [109,97,112,112,105,110,103])) aNil))))) (Fx.tNot (eTru (eCallB gIsi (aCons (eVar 4) (aCons (eC (.ty "tuple")) aNil))))))
      (sRet (eC (.bl false)))
      sPass)
    (bCons (sIf (eBl (eBin gEq (eVar 2) (eC (.str [115,101,113,117,101,110,99,101]))))
      (sRet (eAnd (eBin gLeW (eCallB gLen (aCons (eVar 4) aNil)) (eC (.int (1000)))) (eCallB gAll (aCons (eLc [5] [5] (iAny (eVar 4)) eYes Z13) aNil))))
      sPass)
    (sRet (eAnd (eBin gLeW (eBin gMul (eC (.int 2)) (eCallB gLen (aCons (eVar 4) aNil))) (eC (.int (1000)))) (eCallB gAll (aCons (eLc [5] [5] (iAny (eVar 4)) eYes Z14) aNil)))))))))
def Xg : FF := runF 6 Qe
def Xj : FS :=
  (sIf (Fx.tNot (eTru (eCall Xg [] (aCons (eVar 4) (aCons (eCallB gLen (aCons (eVar 1) aNil)) aNil)))))
        (sRaise "NoGraph" "index" [] (aCons (eVar 3) aNil))
        sPass)
def Z2o : FS :=
  (bCons (sIf (Fx.tOr (Fx.tNot (eTru (eCallB (gIsiI "Graph") (aCons (eVar 1) (aCons (eTup (aCons (eC (.ty "list")) (aCons (eC (.ty "tuple")) aNil))) aNil))))) (Fx.tNot (eBl (eChain gLeW gLeW (eC (.int 1)) (eCallB gLen (aCons (eVar 1) aNil)) (eC (.int (200)))))))
      (sRaise "NoGraph" "index" [] (aCons (eUn gNeg (eC (.int 1))) aNil))
      sPass)
    (bCons (sFor (iEnmA (aCons (eVar 1) aNil)) (gTp 2 (gsCons (gNm 3) (gsCons (gNm 4) gsNil))) Xj)
    (bCons (sIf (Fx.tNot (eTru (eCall Yq [] (aCons (eVar 2) (aCons (eC (.int 0)) (aCons (eBin gSub (eCallB gLen (aCons (eVar 1) aNil)) (eC (.int 1))) aNil))))))
      (sRaise "NoGraph" "index" [] (aCons (eUn gNeg (eC (.int 2))) aNil))
      sPass)
    (sAsg (eTup (aCons (eCallB gTuple (aCons (eVar 1) aNil)) (aCons (eVar 2) aNil))) (gTp 2 (gsCons (gFld ["Graph"] "nodes" (eVar 0)) (gsCons (gFld ["Graph"] "top" (eVar 0)) gsNil)))))))
def Ym : FF := runF 5 Z2o
structure Rc_0 where
  _law_written : FF
def Xh (R : Rc_0) : FE :=
  (eCall R._law_written [] (aCons (eVar 8) aNil))
def Jg (R : Rc_0) : FS :=
  (bCons (sSet 7 (eBin gAdd (eBin gAdd (eCall R._law_written [] (aCons (eVar 5) aNil)) (eC (.str [61]))) (eCall R._law_written [] (aCons (eVar 6) aNil))))
      (sSet 4 (eBin gAdd (eVar 4) (eBin gMul (eLst (aCons (eVar 7) aNil)) (eCallB gIntT (aCons (eBin gNotInW (eVar 7) (eVar 4)) aNil))))))
def Zy (R : Rc_0) : FS :=
  (bCons (sAsg (eVar 0) (gTp 3 (gsCons (gNm 1) (gsCons (gNm 2) (gsCons (gNm 3) gsNil)))))
    (bCons (sIf (Fx.tOr (eBl (eBin gEq (eVar 1) (eC (.str [115,99,97,108,97,114])))) (Fx.tNot (eTru (eCallB gIsi (aCons (eVar 3) (aCons (eC (.ty "tuple")) aNil))))))
      (sRet (eBin gAdd (eBin gAdd (eSl (eVar 1) oNone (oSome (eC (.int 2)))) (eVar 2)) (eCallB gReprW (aCons (eVar 3) aNil))))
      sPass)
    (bCons (sIf (eBl (eBin gEq (eVar 1) (eC (.str [115,101,113,117,101,110,99,101]))))
      (sRet (eBin gAdd (eBin gAdd (eBin gAdd (eC (.str [91])) (eCallB gStr (aCons (eCallB gLen (aCons (eVar 3) aNil)) aNil))) (eBM "str" gJoin (eC (.str [44])) (aCons (eLc [8] [8] (iAny (eVar 3)) eYes (Xh R)) aNil))) (eC (.str [93]))))
      sPass)
    (bCons (sSet 4 (eLst aNil))
    (bCons (sFor (iAny (eVar 3)) (gTp 2 (gsCons (gNm 5) (gsCons (gNm 6) gsNil))) (Jg R))
    (sRet (eBin gAdd (eBin gAdd (eC (.str [123])) (eBM "str" gJoin (eC (.str [59])) (aCons (eCallB gSortS (aCons (eVar 4) aNil)) aNil))) (eC (.str [125])))))))))
def stp_0 (R : Rc_0) : Rc_0 := ⟨runF 9 (Zy R)⟩
def Z2y (n : Nat) : Rc_0 := Nat.rec (motive := fun _ => Rc_0) ⟨fun _ _ => .stuck⟩ (fun _ R => stp_0 R) n
def X5 : FF := (Z2y 55)._law_written
def Yv : FS :=
  (sIf (Fx.tNot (eTru (eIsC "Graph" (eVar 1))))
        (sRaise "NoGraph" "index" [] (aCons (eUn gNeg (eC (.int 3))) aNil))
        sPass)
def Vx : FS :=
  (sFor (iAny (eVar 0)) (gNm 1) Yv)
def Yb : FF := runS 2 Vx
def Ys : FS :=
  (sIf (eBl (eBin gNe (eBin gIxW (eVar 4) (eVar 1)) (eBin gIxW (eVar 4) (eVar 2))))
        (sRet (eVar 3))
        sPass)
def Uz : FS :=
  (bCons (sFor (iEnmA (aCons (eVar 0) aNil)) (gTp 2 (gsCons (gNm 3) (gsCons (gNm 4) gsNil))) Ys)
    (sRet (eC .non)))
def Q3 : FF := runF 5 Uz
def Z5i : FS := sNum 0 1 2 3
def Wr : FF := runF 4 Z5i
def J8 : FS :=
  (bCons (sAsg (eVar 0) (gTp 3 (gsCons (gNm 1) (gsCons (gNm 2) (gsCons (gNm 3) gsNil)))))
    (bCons (sIf (eBl (eBin gEq (eVar 1) (eC (.str [115,101,113,117,101,110,99,101]))))
      (sRet (eTup (aCons (eVar 1) (aCons (eVar 2) (aCons (eCallB gLen (aCons (eVar 3) aNil)) aNil)))))
      sPass)
    (sRet (eTup (aCons (eVar 1) (aCons (eVar 2) (aCons (eIf (eBl (eBin gEq (eVar 1) (eC (.str [115,99,97,108,97,114])))) (eVar 3) (eC .non)) aNil)))))))
def Vc : FF := runF 4 J8
def N6 : FE :=
  (eBin gIxW (eVar 2) (eVar 9))
def Z05 : FS :=
  (bCons (sAsg (eVar 0) (gTp 3 (gsCons (gNm 3) (gsCons (gNm 4) (gsCons (gNm 5) gsNil)))))
    (bCons (sIf (eBl (eBin gEq (eVar 3) (eC (.str [115,101,113,117,101,110,99,101]))))
      (sRet (eTup (aCons (eVar 1) (aCons (eCallB gTuple (aCons (eLc [9] [9] (iAny (eVar 5)) eYes N6) aNil)) aNil))))
      sPass)
    (bCons (sIf (eBl (eBin gEq (eVar 3) (eC (.str [109,97,112,112,105,110,103]))))
      (sPrs 5 2 7 8 6 1)
      sPass)
    (sRet (eTup (aCons (eVar 1) (aCons (eTup aNil) aNil)))))))
def Vd : FF := runF 10 Z05
def U5 : FE :=
  (eCall Vc [] (aCons (eVar 4) aNil))
def V3 : FE :=
  (eCall Vd [] (aCons (eVar 4) (aCons (eVar 5) (aCons (eVar 2) aNil))))
def U6 : FS :=
  (bCons (sSet 2 (eBin gIxW (eVar 1) (eUn gNeg (eC (.int 1)))))
      (bCons (sSet 3 (eCall Wr [] (aCons (eLc [4,5] [4,5] (iZipU (aCons (eVar 0) (aCons (eVar 2) aNil))) eYes V3) aNil)))
      (bCons (sIf (eBl (eBin gEq (eVar 3) (eVar 2)))
        (sRet (eVar 1))
        sPass)
      (sDrop (eBM "list" gAppend (eVar 1) (aCons (eVar 3) aNil))))))
def Z92 : FS :=
  (bCons (sSet 1 (eLst (aCons (eCall Wr [] (aCons (eLc [4] [4] (iAny (eVar 0)) eYes U5) aNil)) aNil)))
    (sWhile Lim (eTru (eC (.bl true))) U6))
def Z15 : FF := runF 6 Z92
def Z16 : FE :=
  (eBin gAdd (eVar 5) (eVar 1))
def Z17 : FE :=
  (eTup (aCons (eBin gAdd (eVar 6) (eVar 1)) (aCons (eBin gAdd (eVar 7) (eVar 1)) aNil)))
def Z1o : FS :=
  (bCons (sAsg (eVar 0) (gTp 3 (gsCons (gNm 2) (gsCons (gNm 3) (gsCons (gNm 4) gsNil)))))
    (bCons (sIf (eBl (eBin gEq (eVar 2) (eC (.str [115,101,113,117,101,110,99,101]))))
      (sSet 4 (eCallB gTuple (aCons (eLc [5] [5] (iAny (eVar 4)) eYes Z16) aNil)))
      (sIf (eBl (eBin gEq (eVar 2) (eC (.str [109,97,112,112,105,110,103]))))
        (sSet 4 (eCallB gTuple (aCons (eLc [6,7] [6,7] (iAny (eVar 4)) eYes Z17) aNil)))
        sPass))
    (sRet (eTup (aCons (eVar 2) (aCons (eVar 3) (aCons (eVar 4) aNil)))))))
def Qg : FF := runF 8 Z1o
def Z28 : FE :=
  (eCall Qg [] (aCons (eVar 2) (aCons (eCallB gLen (aCons (eFld ["Graph"] "nodes" (eVar 0)) aNil)) aNil)))
def Z64 : FS :=
  (sRet (eBin gAdd (eCallB gList (aCons (eFld ["Graph"] "nodes" (eVar 0)) aNil)) (eLc [2] [2] (iAny (eFld ["Graph"] "nodes" (eVar 1))) eYes Z28)))
def Z65 : FF := runF 3 Z64
def Zdw : FS :=
  (bCons (sDrop (eCall Yb [] (aCons (eVar 0) (aCons (eVar 1) aNil))))
    (sRet (eCall Q3 [] (aCons (eCall Z15 [] (aCons (eCall Z65 [] (aCons (eVar 0) (aCons (eVar 1) aNil))) aNil)) (aCons (eFld ["Graph"] "top" (eVar 0)) (aCons (eBin gAdd (eFld ["Graph"] "top" (eVar 1)) (eCallB gLen (aCons (eFld ["Graph"] "nodes" (eVar 0)) aNil))) aNil))))))
def Z66 : FF := runF 2 Zdw
def Zdx : FS :=
  (sRet (eBin gIs (eCall Z66 [] (aCons (eVar 0) (aCons (eVar 1) aNil))) (eC .non)))
def Z67 : FF := runF 2 Zdx
def N7 : FS :=
  (sIf (Fx.tNot (eTru (eCall Yq [] (aCons (eVar 0) (aCons (eC (.int 0)) (aCons (eVar 1) aNil))))))
      (sRaise "NoDepth" "depth" [] (aCons (eVar 0) aNil))
      sPass)
def Xw : FF := runF 2 N7
structure Rc_1 where
  tree_at : FF
def Z18 (R : Rc_1) : FE :=
  (eCall R.tree_at [] (aCons (eVar 0) (aCons (eVar 9) (aCons (eBin gSub (eVar 2) (eC (.int 1))) aNil))))
def Z19 (R : Rc_1) : FE :=
  (eTup (aCons (eCall R.tree_at [] (aCons (eVar 0) (aCons (eVar 7) (aCons (eBin gSub (eVar 2) (eC (.int 1))) aNil)))) (aCons (eCall R.tree_at [] (aCons (eVar 0) (aCons (eVar 8) (aCons (eBin gSub (eVar 2) (eC (.int 1))) aNil)))) aNil)))
def Vu (R : Rc_1) : FS :=
  (bCons (sAsg (eBin gIxW (eVar 0) (eVar 1)) (gTp 3 (gsCons (gNm 3) (gsCons (gNm 4) (gsCons (gNm 5) gsNil)))))
    (bCons (sIf (eBl (eBin gEq (eVar 3) (eC (.str [115,99,97,108,97,114]))))
      (sRet (eTup (aCons (eVar 3) (aCons (eVar 4) (aCons (eVar 5) aNil)))))
      sPass)
    (bCons (sIf (eBl (eBin gEq (eVar 2) (eC (.int 0))))
      (sRet (eTup (aCons (eVar 3) (aCons (eVar 4) (aCons (eIf (eBl (eBin gEq (eVar 3) (eC (.str [115,101,113,117,101,110,99,101])))) (eCallB gLen (aCons (eVar 5) aNil)) (eC .non)) aNil)))))
      sPass)
    (bCons (sIf (eBl (eBin gEq (eVar 3) (eC (.str [115,101,113,117,101,110,99,101]))))
      (sRet (eTup (aCons (eVar 3) (aCons (eVar 4) (aCons (eCallB gTuple (aCons (eLc [9] [9] (iAny (eVar 5)) eYes (Z18 R)) aNil)) aNil)))))
      sPass)
    (bCons (sSet 6 (eLc [7,8] [7,8] (iAny (eVar 5)) eYes (Z19 R)))
    (sRet (eTup (aCons (eVar 3) (aCons (eVar 4) (aCons (eCallB gTuple (aCons (eVar 6) aNil)) aNil))))))))))
def stp_1 (R : Rc_1) : Rc_1 := ⟨runF 10 (Vu R)⟩
def Zc2 (n : Nat) : Rc_1 := Nat.rec (motive := fun _ => Rc_1) ⟨fun _ _ => .stuck⟩ (fun _ R => stp_1 R) n
def Z49 : FF := (Zc2 55).tree_at
def N8 : FE :=
  (eVar 2)
def Nb : FI :=
  (iAny (eVar 1))
def Z68 : FS :=
  (bCons (sIf (eBl (eBin gEq (eBin gIxW (eVar 0) (eC (.int 0))) (eC (.str [115,99,97,108,97,114]))))
      (sRet (eLst aNil))
      sPass)
    (bCons (sIf (eBl (eBin gEq (eBin gIxW (eVar 0) (eC (.int 0))) (eC (.str [115,101,113,117,101,110,99,101]))))
      (sRet (eCallB gList (aCons (eBin gIxW (eVar 0) (eC (.int 2))) aNil)))
      sPass)
    (sRet (eLc2 [1,2] [1] (iAny (eBin gIxW (eVar 0) (eC (.int 2)))) [2] [2] Nb N8))))
def Nf : FF := runF 3 Z68
def Z69 : FS :=
  (bCons (sSet 4 (eBM "list" gPop (eVar 3) aNil))
      (sIf (eBl (eBin gNotInW (eVar 4) (eVar 2)))
        (bCons (sAsg (eC (.bl true)) (gSubsW (eVar 2) (eVar 4)))
        (sDrop (eBM "list" gExtend (eVar 3) (aCons (eSlS (eCall Nf [] (aCons (eBin gIxW (eVar 0) (eVar 4)) aNil)) oNone oNone (oSome (eUn gNeg (eC (.int 1))))) aNil))))
        sPass))
def Zj5 : FS :=
  (bCons (sPar [2,3] (aCons eDict0 (aCons (eSlS (eCallB gListW (aCons (eVar 1) aNil)) oNone oNone (oSome (eUn gNeg (eC (.int 1))))) aNil)))
    (bCons (sWhile Lim (eBl (eBin gNeL (eVar 3) (eLst aNil))) Z69)
    (sRet (eCallB gListW (aCons (eVar 2) aNil)))))
def Zj6 : FF := runF 5 Zj5
def Qh : FE :=
  (eVar 5)
def Qi : FE :=
  (eC (.int 1))
def Ve : FE :=
  (eBin gIxW (eVar 3) (eVar 6))
def Ql : FE :=
  (eVar 5)
def Qm : FE :=
  (eBin gAdd (eC (.int 1)) (eCallB gSum (aCons (eLc [6] [6] (iAny (eCall Nf [] (aCons (eBin gIxW (eFld ["Graph"] "nodes" (eVar 0)) (eVar 5)) aNil))) eYes Ve) aNil)))
def Vf : FS :=
  (sSet 3 (eDc [5] [5] (iAny (eVar 2)) Ql Qm))
def W6 : FS :=
  (sRet (eBin gIxW (eVar 3) (eFld ["Graph"] "top" (eVar 0))))
def Vg : FS :=
  (bCons (sFor (iRng (aCons (eVar 1) aNil)) (gNm 4) Vf)
    W6)
def Vh : FS :=
  (bCons (sSet 3 (eDc [5] [5] (iAny (eVar 2)) Qh Qi))
    Vg)
def Vi : FS :=
  (bCons (sSet 2 (eCall Zj6 [] (aCons (eFld ["Graph"] "nodes" (eVar 0)) (aCons (eLst (aCons (eFld ["Graph"] "top" (eVar 0)) aNil)) aNil))))
    Vh)
def Vj : FS :=
  (bCons (sDrop (eCall Xw [] (aCons (eVar 1) (aCons (eC (.int (100))) aNil))))
    Vi)
def Nh : FS :=
  (bCons (sDrop (eCall Yb [] (aCons (eVar 0) aNil)))
    Vj)
def Uj : FF := runF 7 Nh
def Z5j : FS :=
  (bCons (sDrop (eCall Yb [] (aCons (eVar 0) aNil)))
    (bCons (sDrop (eCall Xw [] (aCons (eVar 1) (aCons (eC (.int (50))) aNil))))
    (bCons (sIf (eBl (eBin gGtW (eCall Uj [] (aCons (eVar 0) (aCons (eVar 1) aNil))) (eC (.int (3000)))))
      (sRaise "TooLarge" "limit" [] (aCons (eC (.int (3000))) aNil))
      sPass)
    (sRet (eCall Z49 [] (aCons (eFld ["Graph"] "nodes" (eVar 0)) (aCons (eFld ["Graph"] "top" (eVar 0)) (aCons (eVar 1) aNil))))))))
def Vk : FF := runF 2 Z5j
def Z0i : FS :=
  (bCons (sPar [8,9] (aCons (eCall X5 [] (aCons (eCall Vk [] (aCons (eVar 4) (aCons (eVar 7) aNil))) aNil)) (aCons (eCall X5 [] (aCons (eCall Vk [] (aCons (eVar 5) (aCons (eVar 7) aNil))) aNil)) aNil)))
      (sIf (Fx.tAnd (eBl (eBin gNe (eVar 8) (eVar 9))) (eBl (eBin gIs (eVar 6) (eC .non))))
        (sSet 6 (eVar 7))
        sPass))
def Z2p : FS :=
  (bCons (sPar [4,5,6] (aCons (eMake "Graph" Ym [] (aCons (eVar 0) (aCons (eVar 1) aNil))) (aCons (eMake "Graph" Ym [] (aCons (eVar 2) (aCons (eVar 3) aNil))) (aCons (eC .non) aNil))))
    (bCons (sFor (iRng (aCons (eBin gAdd (eCallB gLen (aCons (eVar 0) aNil)) (eCallB gLen (aCons (eVar 2) aNil))) aNil)) (gNm 7) Z0i)
    (sRet (eAnd (eBin gEq (eCall Z66 [] (aCons (eVar 4) (aCons (eVar 5) aNil))) (eVar 6)) (eBin gEq (eCall Z67 [] (aCons (eVar 5) (aCons (eVar 4) aNil))) (eBin gIs (eVar 6) (eC .non)))))))
def Ws : FF := runF 10 Z2p
def Zc3 : FS :=
  (sRet (eAnd (eIsC "Graph" (eVar 1)) (eBin gEq (eTup (aCons (eFld ["Graph"] "nodes" (eVar 0)) (aCons (eFld ["Graph"] "top" (eVar 0)) aNil))) (eTup (aCons (eFld ["Graph"] "nodes" (eVar 1)) (aCons (eFld ["Graph"] "top" (eVar 1)) aNil))))))
def Zc4 : FF := runF 2 Zc3
def Z6a : FE :=
  (eCall X4 [] (aCons (eVar 2) (aCons (eVar 4) (aCons (eVar 3) aNil))))
def Z6b : FE :=
  (eCall X4 [] (aCons (eVar 2) (aCons (eVar 5) (aCons (eVar 3) aNil))))
def Z6c : FS :=
  (bCons (sSet 2 (eCall Uh [] (aCons (eVar 1) aNil)))
      (bCons (sSet 3 (eCall Vb [] (aCons (eVar 2) (aCons (eLst (aCons (eC (.int 2)) (aCons (eC (.int 4)) aNil))) aNil))))
      (bCons (sAsg (eTup (aCons (eBin gAdd (eC (.int 1)) (eCall Zk [] (aCons (eVar 2) (aCons (eBin gSub (eC (.int 7)) (eVar 3)) aNil)))) (aCons (eBin gAdd (eC (.int 1)) (eCall Zk [] (aCons (eVar 2) (aCons (eBin gSub (eC (.int 6)) (eVar 3)) aNil)))) aNil))) (gTp 2 (gsCons (gNm 4) (gsCons (gNm 5) gsNil))))
      (bCons (sAsg (eTup (aCons (eCallB gMin (aCons (eVar 4) (aCons (eBin gAdd (eBin gDiv (eC (.int 9)) (eVar 3)) (eC (.int 1))) aNil))) (aCons (eCallB gMin (aCons (eVar 5) (aCons (eBin gDiv (eC (.int 9)) (eVar 3)) aNil))) aNil))) (gTp 2 (gsCons (gNm 4) (gsCons (gNm 5) gsNil))))
      (bCons (sSet 6 (eLc [8] [8] (iRng (aCons (eVar 4) aNil)) eYes Z6a))
      (bCons (sSet 7 (eLc [8] [8] (iRng (aCons (eVar 5) aNil)) eYes Z6b))
      (bCons (sIf (eBl (eBin gEq (eCall Zk [] (aCons (eVar 2) (aCons (eC (.int 2)) aNil))) (eC (.int 0))))
        (sSet 7 (eCall Ui [] (aCons (eVar 2) (aCons (eVar 6) (aCons (eVar 3) aNil)))))
        sPass)
      (bCons (sIf (Fx.tNot (eTru (eCall Ws [] (aCons (eVar 6) (aCons (eCall Zk [] (aCons (eVar 2) (aCons (eVar 4) aNil))) (aCons (eVar 7) (aCons (eCall Zk [] (aCons (eVar 2) (aCons (eCallB gLen (aCons (eVar 7) aNil)) aNil))) aNil)))))))
        (sRet (eC (.bl false)))
        sPass)
      (sIf (Fx.tNot (eTru (eCall Ws [] (aCons (eVar 6) (aCons (eCall Zk [] (aCons (eVar 2) (aCons (eVar 4) aNil))) (aCons (eSl (eVar 6) oNone oNone) (aCons (eCall Zk [] (aCons (eVar 2) (aCons (eVar 4) aNil))) aNil)))))))
        (sRet (eC (.bl false)))
        sPass)))))))))
def Zlk : FS :=
  (bCons (sFor (iAny (eBin gAdd (eSl (eVar 0) oNone (oSome (eC (.int 4)))) (eLst (aCons (eC (.int 0)) aNil)))) (gNm 1) Z6c)
    (sRet (eC (.bl true))))
def Zj7 : FF := runF 9 Zlk
end
end Ap
set_option maxHeartbeats 4000000
namespace Ap
open PySem PySem.Spec PyProof.Rows L2 SX Fx
section
variable {w : World} {K : PySem.W.Frag} {mg : PySem.Str → Option Value} (C : Cx5 fns tabs exs w K mg)
include C
theorem Nk  : FunD K "_law_well" "_law_well" (defArgs Wf) (defBody Wf) (defScope Wf) [] [] ((gY "_law_well") K) (fdOf K ((gY "_law_well") K)) := C.c.def_ 0 (d := Z2h)
theorem Z7j  : Binds K (fdOf K ((gY "_law_well") K)) Z0m [] := FunD.bindsN (Nk C) fun _ _ _ _ _ _ us hl => match us, hl with | [_], _ => rfl
theorem Zt  : FunD K "_law_draw" "_law_draw" (defArgs Wg) (defBody Wg) (defScope Wg) [] [] ((gY "_law_draw") K) (fdOf K ((gY "_law_draw") K)) := C.c.def_ 1 (d := Z2i)
theorem Zz  : Binds K (fdOf K ((gY "_law_draw") K)) Z0n [] := FunD.bindsN (Zt C) fun _ _ _ _ _ _ us hl => match us, hl with | [_, _], _ => rfl
theorem J9  : FunD K "_law_one" "_law_one" (defArgs V7) (defBody V7) (defScope V7) [] [] ((gY "_law_one") K) (fdOf K ((gY "_law_one") K)) := C.c.def_ 2 (d := Z3i)
theorem Z4a  : Binds K (fdOf K ((gY "_law_one") K)) Z1x [] := FunD.bindsN (J9 C) fun _ _ _ _ _ _ us hl => match us, hl with | [_, _], _ => rfl
theorem Vv  : FunD K "_law_node" "_law_node" (defArgs Xc) (defBody Xc) (defScope Xc) [] [] ((gY "_law_node") K) (fdOf K ((gY "_law_node") K)) := C.c.def_ 3 (d := Z2j)
theorem Nm  : Binds K (fdOf K ((gY "_law_node") K)) Z0p [] := FunD.bindsN (Vv C) fun _ _ _ _ _ _ us hl => match us, hl with | [_, _, _], _ => rfl
theorem Np  : FunD K "_law_near" "_law_near" (defArgs Wh) (defBody Wh) (defScope Wh) [] [] ((gY "_law_near") K) (fdOf K ((gY "_law_near") K)) := C.c.def_ 4 (d := Z2k)
theorem Z7k  : Binds K (fdOf K ((gY "_law_near") K)) Z0q [] := FunD.bindsN (Np C) fun _ _ _ _ _ _ us hl => match us, hl with | [_, _, _], _ => rfl
theorem Nq  : FunD K "__init__" "NoGraph.__init__" (defArgs Yx) (defBody Yx) (defScope Yx) [.non] [] ((mY "NoGraph" "__init__") K) (fdOf K ((mY "NoGraph" "__init__") K)) := C.c.def_ 5 (d := Jt)
theorem Qn  : ∃ ds, Vals (List.drop 1 [.non]) ds ∧ Binds K (fdOf K ((mY "NoGraph" "__init__") K)) Vo ds := FunD.binds1 (Nq C) (ps := Vo) 2 1 (by simp) rfl fun _ _ _ _ _ _ _ us its hu hi => match us, its, hu, hi with | [_, _], [_], _, _ => ⟨_, rfl, rfl⟩
theorem U8  : FunD K "is_from" "is_from" (defArgs Uc) (defBody Uc) (defScope Uc) [] [] ((gY "is_from") K) (fdOf K ((gY "is_from") K)) := C.c.def_ 6 (d := Z56)
theorem Z06  : Binds K (fdOf K ((gY "is_from") K)) Z3k [] := FunD.bindsN (U8 C) fun _ _ _ _ _ _ us hl => match us, hl with | [_, _, _], _ => rfl
theorem Nr  : FunD K "are_signs" "are_signs" (defArgs Xr) (defBody Xr) (defScope Xr) [] [] ((gY "are_signs") K) (fdOf K ((gY "are_signs") K)) := C.c.def_ 7 (d := Z2l)
theorem Z7l  : Binds K (fdOf K ((gY "are_signs") K)) Z0r [] := FunD.bindsN (Nr C) fun _ _ _ _ _ _ us hl => match us, hl with | [_, _], _ => rfl
theorem Z4b  : FunD K "is_tag" "is_tag" (defArgs Qt) (defBody Qt) (defScope Qt) [] [] ((gY "is_tag") K) (fdOf K ((gY "is_tag") K)) := C.c.def_ 8 (d := Z71)
theorem Zdy  : Binds K (fdOf K ((gY "is_tag") K)) Z5y [] := FunD.bindsN (Z4b C) fun _ _ _ _ _ _ us hl => match us, hl with | [_], _ => rfl
theorem Z1a  : FunD K "is_entry" "is_entry" (defArgs Wo) (defBody Wo) (defScope Wo) [] [] ((gY "is_entry") K) (fdOf K ((gY "is_entry") K)) := C.c.def_ 9 (d := Z3m)
theorem Z93  : Binds K (fdOf K ((gY "is_entry") K)) Z1y [] := FunD.bindsN (Z1a C) fun _ _ _ _ _ _ us hl => match us, hl with | [_, _], _ => rfl
theorem Z29  : FunD K "is_node" "is_node" (defArgs Wx) (defBody Wx) (defScope Wx) [] [] ((gY "is_node") K) (fdOf K ((gY "is_node") K)) := C.c.def_ 10 (d := Z58)
theorem Zc5  : Binds K (fdOf K ((gY "is_node") K)) Z3o [] := FunD.bindsN (Z29 C) fun _ _ _ _ _ _ us hl => match us, hl with | [_, _], _ => rfl
theorem Z1p  : FunD K "__init__" "Graph.__init__" (defArgs Xu) (defBody Xu) (defScope Xu) [(.int 0)] [] ((mY "Graph" "__init__") K) (fdOf K ((mY "Graph" "__init__") K)) := C.c.def_ 11 (d := Z1i)
theorem Z4c  : ∃ ds, Vals (List.drop 1 [(.int 0)]) ds ∧ Binds K (fdOf K ((mY "Graph" "__init__") K)) Ur ds := FunD.binds1 (Z1p C) (ps := Ur) 3 1 (by simp) rfl fun _ _ _ _ _ _ _ us its hu hi => match us, its, hu, hi with | [_, _, _], [_], _, _ => ⟨_, rfl, rfl⟩
theorem Yr  : FunD K "_law_written" "_law_written" (defArgs Yl) (defBody Yl) (defScope Yl) [] [] ((gY "_law_written") K) (fdOf K ((gY "_law_written") K)) := C.c.def_ 12 (d := Jv)
theorem Xx  : Binds K (fdOf K ((gY "_law_written") K)) Xi [] := FunD.bindsN (Yr C) fun _ _ _ _ _ _ us hl => match us, hl with | [_], _ => rfl
theorem W7  : FunD K "require_graphs" "require_graphs" (defArgs Yh) (defBody Yh) (defScope Yh) [] [] ((gY "require_graphs") K) (fdOf K ((gY "require_graphs") K)) := C.c.def_ 13 (d := Q7)
theorem Uk  : FunD K "first_unlike" "first_unlike" (defArgs Yy) (defBody Yy) (defScope Yy) [] [] ((gY "first_unlike") K) (fdOf K ((gY "first_unlike") K)) := C.c.def_ 14 (d := Jw)
theorem Z4d  : Binds K (fdOf K ((gY "first_unlike") K)) Uy [] := FunD.bindsN (Uk C) fun _ _ _ _ _ _ us hl => match us, hl with | [_, _, _], _ => rfl
theorem Ja  : FunD K "numbered" "numbered" (defArgs V8) (defBody V8) (defScope V8) [] [] ((gY "numbered") K) (fdOf K ((gY "numbered") K)) := C.c.def_ 15 (d := Z3p)
theorem Z4e  : Binds K (fdOf K ((gY "numbered") K)) Z1z [] := FunD.bindsN (Ja C) fun _ _ _ _ _ _ us hl => match us, hl with | [_], _ => rfl
theorem Nt  : FunD K "first_key" "first_key" (defArgs Wi) (defBody Wi) (defScope Wi) [] [] ((gY "first_key") K) (fdOf K ((gY "first_key") K)) := C.c.def_ 16 (d := Z2m)
theorem Z7m  : Binds K (fdOf K ((gY "first_key") K)) Z0u [] := FunD.bindsN (Nt C) fun _ _ _ _ _ _ us hl => match us, hl with | [_], _ => rfl
theorem Z1b  : FunD K "next_key" "next_key" (defArgs W3) (defBody W3) (defScope W3) [] [] ((gY "next_key") K) (fdOf K ((gY "next_key") K)) := C.c.def_ 17 (d := Z3q)
theorem Z94  : Binds K (fdOf K ((gY "next_key") K)) Z21 [] := FunD.bindsN (Z1b C) fun _ _ _ _ _ _ us hl => match us, hl with | [_, _, _], _ => rfl
theorem Nu  : FunD K "rounds_of" "rounds_of" (defArgs Xe) (defBody Xe) (defScope Xe) [] [] ((gY "rounds_of") K) (fdOf K ((gY "rounds_of") K)) := C.c.def_ 18 (d := Z2n)
theorem Z7n  : Binds K (fdOf K ((gY "rounds_of") K)) Z0w [] := FunD.bindsN (Nu C) fun _ _ _ _ _ _ us hl => match us, hl with | [_], _ => rfl
theorem Z2a  : FunD K "shifted" "shifted" (defArgs Wy) (defBody Wy) (defScope Wy) [] [] ((gY "shifted") K) (fdOf K ((gY "shifted") K)) := C.c.def_ 19 (d := Z59)
theorem Zc6  : Binds K (fdOf K ((gY "shifted") K)) Z3s [] := FunD.bindsN (Z2a C) fun _ _ _ _ _ _ us hl => match us, hl with | [_, _], _ => rfl
theorem Z4f  : FunD K "joined" "joined" (defArgs Ut) (defBody Ut) (defScope Ut) [] [] ((gY "joined") K) (fdOf K ((gY "joined") K)) := C.c.def_ 20 (d := Z73)
theorem Zdz  : Binds K (fdOf K ((gY "joined") K)) Z5z [] := FunD.bindsN (Z4f C) fun _ _ _ _ _ _ us hl => match us, hl with | [_, _], _ => rfl
theorem Z37  : FunD K "apart" "apart" (defArgs Z0x) (defBody Z0x) (defScope Z0x) [] [] ((gY "apart") K) (fdOf K ((gY "apart") K)) := C.c.def_ 21 (d := Za5)
theorem Zao  : Binds K (fdOf K ((gY "apart") K)) Z8m [] := FunD.bindsN (Z37 C) fun _ _ _ _ _ _ us hl => match us, hl with | [_, _], _ => rfl
theorem Z6d  : FunD K "equal" "equal" (defArgs Z0y) (defBody Z0y) (defScope Z0y) [] [] ((gY "equal") K) (fdOf K ((gY "equal") K)) := C.c.def_ 22 (d := Za6)
theorem Zfz  : Binds K (fdOf K ((gY "equal") K)) Z8n [] := FunD.bindsN (Z6d C) fun _ _ _ _ _ _ us hl => match us, hl with | [_, _], _ => rfl
theorem Nv  : FunD K "__init__" "NoDepth.__init__" (defArgs Yz) (defBody Yz) (defScope Yz) [.non] [] ((mY "NoDepth" "__init__") K) (fdOf K ((mY "NoDepth" "__init__") K)) := C.c.def_ 23 (d := Jx)
theorem Z2b  : ∃ ds, Vals (List.drop 1 [.non]) ds ∧ Binds K (fdOf K ((mY "NoDepth" "__init__") K)) Vp ds := FunD.binds1 (Nv C) (ps := Vp) 2 1 (by simp) rfl fun _ _ _ _ _ _ _ us its hu hi => match us, its, hu, hi with | [_, _], [_], _, _ => ⟨_, rfl, rfl⟩
theorem We  : FunD K "require_depth" "require_depth" (defArgs Yn) (defBody Yn) (defScope Yn) [] [] ((gY "require_depth") K) (fdOf K ((gY "require_depth") K)) := C.c.def_ 24 (d := Jd)
theorem Jh  : Binds K (fdOf K ((gY "require_depth") K)) Ue [] := FunD.bindsN (We C) fun _ _ _ _ _ _ us hl => match us, hl with | [_, _], _ => rfl
theorem U9  : FunD K "tree_at" "tree_at" (defArgs Wz) (defBody Wz) (defScope Wz) [] [] ((gY "tree_at") K) (fdOf K ((gY "tree_at") K)) := C.c.def_ 25 (d := Z5a)
theorem Z07  : Binds K (fdOf K ((gY "tree_at") K)) Q8 [] := FunD.bindsN (U9 C) fun _ _ _ _ _ _ us hl => match us, hl with | [_, _, _], _ => rfl
theorem Z38  : FunD K "inner" "inner" (defArgs Jy) (defBody Jy) (defScope Jy) [] [] ((gY "inner") K) (fdOf K ((gY "inner") K)) := C.c.def_ 26 (d := Za7)
theorem Zap  : Binds K (fdOf K ((gY "inner") K)) Z8o [] := FunD.bindsN (Z38 C) fun _ _ _ _ _ _ us hl => match us, hl with | [_], _ => rfl
theorem Ze0  : FunD K "met" "met" (defArgs Z8p) (defBody Z8p) (defScope Z8p) [] [] ((gY "met") K) (fdOf K ((gY "met") K)) := C.c.def_ 27 (d := Zh4)
theorem Zll  : Binds K (fdOf K ((gY "met") K)) Zie [] := FunD.bindsN (Ze0 C) fun _ _ _ _ _ _ us hl => match us, hl with | [_, _], _ => rfl
theorem Vy  : FunD K "unfolded_size" "unfolded_size" (defArgs Y9) (defBody Y9) (defScope Y9) [] [] ((gY "unfolded_size") K) (fdOf K ((gY "unfolded_size") K)) := C.c.def_ 28 (d := Je)
theorem Z2z  : Binds K (fdOf K ((gY "unfolded_size") K)) Ug [] := FunD.bindsN (Vy C) fun _ _ _ _ _ _ us hl => match us, hl with | [_, _], _ => rfl
theorem Ji  : FunD K "__init__" "TooLarge.__init__" (defArgs Yp) (defBody Yp) (defScope Yp) [.non] [] ((mY "TooLarge" "__init__") K) (fdOf K ((mY "TooLarge" "__init__") K)) := C.c.def_ 29 (d := Jf)
theorem Z1q  : ∃ ds, Vals (List.drop 1 [.non]) ds ∧ Binds K (fdOf K ((mY "TooLarge" "__init__") K)) V1 ds := FunD.binds1 (Ji C) (ps := V1) 2 1 (by simp) rfl fun _ _ _ _ _ _ _ us its hu hi => match us, its, hu, hi with | [_, _], [_], _, _ => ⟨_, rfl, rfl⟩
theorem Jb  : FunD K "unfolded" "unfolded" (defArgs V9) (defBody V9) (defScope V9) [] [] ((gY "unfolded") K) (fdOf K ((gY "unfolded") K)) := C.c.def_ 30 (d := Z3y)
theorem Z4g  : Binds K (fdOf K ((gY "unfolded") K)) Z22 [] := FunD.bindsN (Jb C) fun _ _ _ _ _ _ us hl => match us, hl with | [_, _], _ => rfl
theorem U7  : FunD K "_law_right" "_law_right" (defArgs Xv) (defBody Xv) (defScope Xv) [] [] ((gY "_law_right") K) (fdOf K ((gY "_law_right") K)) := C.c.def_ 31 (d := Z1j)
theorem Z1r  : Binds K (fdOf K ((gY "_law_right") K)) Jz [] := FunD.bindsN (U7 C) fun _ _ _ _ _ _ us hl => match us, hl with | [_, _, _, _], _ => rfl
theorem Z95  : FunD K "__eq__" "Graph.__eq__" (defArgs Va) (defBody Va) (defScope Va) [] [] ((mY "Graph" "__eq__") K) (fdOf K ((mY "Graph" "__eq__") K)) := C.c.def_ 32 (d := Z3z)
theorem Zha  : FunD K "law" "law" (defArgs Z60) (defBody Z60) (defScope Z60) [] [] ((gY "law") K) (fdOf K ((gY "law") K)) := C.c.def_ 33 (d := Zh5)
theorem Z7o  : ∃ t, mg "TAG_SIGNS" = some (.str (S Wj) t) := C.str 0
theorem Z4h  : ∃ t, mg "MOST_NUMBERS" = some (.int (1000) t) := C.int 1
theorem Z6e  : ∃ t, mg "MOST_NODES" = some (.int (200) t) := C.int 2
theorem Z6f  : ∃ t, mg "MOST_DEPTH" = some (.int (100) t) := C.int 3
theorem Z30  : ∃ t, mg "MOST_UNFOLDED" = some (.int (50) t) := C.int 4
theorem Z6g  : ∃ t, mg "MOST_TREES" = some (.int (3000) t) := C.int 5
theorem Yd  : CF K "Graph" (He.ga K "Graph") := ⟨C.ns 6, He.cls_ok (C.c.fact 7)⟩
theorem Zaq  : Mk K (He.ga K "Graph") (mY "Graph" "__init__" K) := He.mkr_ok (C.c.fact 8)
theorem Y8  : NoAttr K (He.ga K "Graph") "nodes" := He.noat_ok (C.c.fact 9)
theorem Xa  : NoAttr K (He.ga K "Graph") "top" := He.noat_ok (C.c.fact 10)
theorem Zg0  : PySem.W.kitAny K (.ref (He.ga K "Graph")) [.type "list", .type "tuple"] = some false := Zff (C.c.fact 11)
theorem Z6h  : OC K "Graph" (He.ga K "Graph") (mY "Graph" "__eq__" K) := by
  obtain ⟨h1, h⟩ := He.ba (C.c.fact 13 : eqB5 "Graph" K = true)
  obtain ⟨h2,h⟩ := He.ba h
  obtain ⟨h3,h4⟩ := He.ba h
  exact ⟨Yd C,Zi7 (Yd C).cls (C.c.fact 14),He.eqO_ok h1,h2,h3,h4⟩
theorem Z08  : PySem.W.nsIn K mainGlobals "NoGraph" = some (some (.ref (He.ga K "NoGraph"))) := C.ns 15
theorem Vl  : OexC K (He.ga K "NoGraph") := Z8g (C.c.fact 16)
theorem Zc7  : PySem.W.findIn K (.ref (He.ga K "NoGraph")) "index" = some none := He.noat_ok (C.c.fact 18)
theorem Wu  : PySem.W.findIn K (.ref (He.ga K "NoGraph")) "__init__" = some (some (.ref (mY "NoGraph" "__init__" K))) ∧ PySem.W.typeIn K (.ref (mY "NoGraph" "__init__" K)) = some (.type "function") := Z5w (C.c.fact 19)
theorem Zc8  : PySem.W.nsIn K mainGlobals "NoDepth" = some (some (.ref (He.ga K "NoDepth"))) := C.ns 23
theorem Z1c  : OexC K (He.ga K "NoDepth") := Z8g (C.c.fact 24)
theorem Zc9  : PySem.W.findIn K (.ref (He.ga K "NoDepth")) "depth" = some none := He.noat_ok (C.c.fact 26)
theorem Z5k  : PySem.W.findIn K (.ref (He.ga K "NoDepth")) "__init__" = some (some (.ref (mY "NoDepth" "__init__" K))) ∧ PySem.W.typeIn K (.ref (mY "NoDepth" "__init__" K)) = some (.type "function") := Z5w (C.c.fact 27)
theorem Z96  : PySem.W.nsIn K mainGlobals "TooLarge" = some (some (.ref (He.ga K "TooLarge"))) := C.ns 31
theorem Ny  : OexC K (He.ga K "TooLarge") := Z8g (C.c.fact 32)
theorem Z97  : PySem.W.findIn K (.ref (He.ga K "TooLarge")) "limit" = some none := He.noat_ok (C.c.fact 34)
theorem Z4i  : PySem.W.findIn K (.ref (He.ga K "TooLarge")) "__init__" = some (some (.ref (mY "TooLarge" "__init__" K))) ∧ PySem.W.typeIn K (.ref (mY "TooLarge" "__init__" K)) = some (.type "function") := Z5w (C.c.fact 35)
theorem bs_  : BaseC K (He.ga K "PageError") := Zfe (C.c.fact 39)
theorem nd_  : NoDig K := Zd0 (C.c.fact 40)
theorem Y0  : mg "_law_draw" = some (.ref (He.ga K "_law_draw")) := C.glo 41
theorem Z4j  : mg "_law_one" = some (.ref (He.ga K "_law_one")) := C.glo 42
theorem Nz  : mg "_law_node" = some (.ref (He.ga K "_law_node")) := C.glo 43
theorem Z7p  : mg "are_signs" = some (.ref (He.ga K "are_signs")) := C.glo 44
theorem Z09  : mg "is_from" = some (.ref (He.ga K "is_from")) := C.glo 45
theorem Ze1  : mg "is_tag" = some (.ref (He.ga K "is_tag")) := C.glo 46
theorem Z98  : mg "is_entry" = some (.ref (He.ga K "is_entry")) := C.glo 47
theorem Z0a  : mg "NoGraph" = some (.ref (He.ga K "NoGraph")) := C.glo 15
theorem Zca  : mg "is_node" = some (.ref (He.ga K "is_node")) := C.glo 48
theorem Xy  : mg "_law_written" = some (.ref (He.ga K "_law_written")) := C.glo 49
theorem Z39  : mg "Graph" = some (.ref (He.ga K "Graph")) := C.glo 6
theorem Z7q  : mg "first_key" = some (.ref (He.ga K "first_key")) := C.glo 50
theorem Z4k  : mg "numbered" = some (.ref (He.ga K "numbered")) := C.glo 51
theorem Z99  : mg "next_key" = some (.ref (He.ga K "next_key")) := C.glo 52
theorem Zcb  : mg "shifted" = some (.ref (He.ga K "shifted")) := C.glo 53
theorem Vm  : mg "require_graphs" = some (.ref (He.ga K "require_graphs")) := C.glo 54
theorem Ze2  : mg "joined" = some (.ref (He.ga K "joined")) := C.glo 55
theorem Z7r  : mg "rounds_of" = some (.ref (He.ga K "rounds_of")) := C.glo 56
theorem Z4l  : mg "first_unlike" = some (.ref (He.ga K "first_unlike")) := C.glo 57
theorem Zar  : mg "apart" = some (.ref (He.ga K "apart")) := C.glo 58
theorem Zcc  : mg "NoDepth" = some (.ref (He.ga K "NoDepth")) := C.glo 23
theorem Z0b  : mg "tree_at" = some (.ref (He.ga K "tree_at")) := C.glo 59
theorem Zas  : mg "inner" = some (.ref (He.ga K "inner")) := C.glo 60
theorem Jj  : mg "require_depth" = some (.ref (He.ga K "require_depth")) := C.glo 61
theorem Zlm  : mg "met" = some (.ref (He.ga K "met")) := C.glo 62
theorem Z31  : mg "unfolded_size" = some (.ref (He.ga K "unfolded_size")) := C.glo 63
theorem Z9a  : mg "TooLarge" = some (.ref (He.ga K "TooLarge")) := C.glo 31
theorem Z4m  : mg "unfolded" = some (.ref (He.ga K "unfolded")) := C.glo 64
theorem Zg1  : mg "equal" = some (.ref (He.ga K "equal")) := C.glo 65
theorem Z7s  : mg "_law_well" = some (.ref (He.ga K "_law_well")) := C.glo 66
theorem Z7t  : mg "_law_near" = some (.ref (He.ga K "_law_near")) := C.glo 67
theorem Z1s  : mg "_law_right" = some (.ref (He.ga K "_law_right")) := C.glo 68
theorem Z00  : mg "PageError" = some (.ref (He.ga K "PageError")) := C.glo 69
theorem Zln  : mg "law" = some (.ref (He.ga K "law")) := C.glo 70
theorem Z1t  : mg "int" = none := C.free 71
theorem Wv  : mg "len" = none := C.free 72
theorem Z0c  : mg "range" = none := C.free 73
theorem Xq  : mg "tuple" = none := C.free 74
theorem Z2c  : mg "list" = none := C.free 75
theorem Zj8  : mg "bool" = none := C.free 76
theorem Y7  : mg "isinstance" = none := C.free 77
theorem fr_all  : mg "all" = none := C.free 78
theorem Zat  : mg "str" = none := C.free 79
theorem Z2q  : mg "enumerate" = none := C.free 80
theorem Zj9  : mg "repr" = none := C.free 81
theorem Z7u  : mg "sorted" = none := C.free 82
theorem Zlo  : mg "zip" = none := C.free 83
theorem Zlp  : mg "sum" = none := C.free 84
theorem Zhb  : mg "min" = none := C.free 85
end
section
variable {P : Program} {base : Heap}
variable {w : World} {K : PySem.W.Frag} {mg : PySem.Str → Option Value} (C : Cx5 fns tabs exs w K mg)
include C
theorem Z7v : GT P w K mg base 1 (gY "_law_well") Z0m 1 Uh := by
  refine fnFD (Nk C) Z70 fun cdv A outer s H E hr hG => ?_
  exact (Zm (Y4 (Z50 (Zb (f_op Z6t (Zg (pv 0)) (Yc (Z2f (nd_ C)) (by rfl) (Z1t C) (by decide +kernel) (Zb (Z2s Zku (Zg (pv 0)) (f_op o_pow f_int f_int) (nomark _)) Zh))) (Zb (f_op Zbh (Yc (Z2f (nd_ C)) (by rfl) (Z1t C) (by decide +kernel) (Zb (Zg (pv 0)) Zh)) f_int) (Zb f_int Zh))) (Za (Za (Za Zf))))))
theorem Uv : GT P w K mg base 1 (gY "_law_draw") Z0n 2 Zk := by
  refine fnFD (Zt C) Uq fun cdv A outer s H E hr hG => ?_
  exact (Zj (Xz (Yk Zi9 (f_ix (U4 hr.units rfl) (Zg (pv 0)) f_int (fun _ _ => rfl)) f_int (nomark _))
      (Zj (Wl (i := 2) Uq.nd rfl (Or.inl rfl) (f_op Zbh (Yc (Z2f (nd_ C)) (by rfl) (Z1t C) (by decide +kernel) (Zb (f_ix (U4 hr.units rfl) (Zg (pv 0)) f_int (fun _ _ => rfl)) Zh)) (Zg (pv 1))))
      (Zj (Ub (f_op Z8b (f_ix (U4 hr.units rfl) (Zg (pv 0)) f_int (fun _ _ => rfl)) (Zg (pv 1))) (Z3h hr.units (Zg (pv 0)) f_int))
      (Zm (Y4 (Zg (pv 2))))))
      Yi)
    (Zj (Ub (f_op (Ww rfl) (f_ix (U4 hr.units rfl) (Zg (pv 0)) f_int (fun _ _ => rfl)) f_int) (Z3h hr.units (Zg (pv 0)) f_int))
    (Zj (Wl (i := 3) Uq.nd rfl (Or.inl rfl) (f_op Zbh (Yc (Z2f (nd_ C)) (by rfl) (Z1t C) (by decide +kernel) (Zb (f_op Z6t (f_op (Ww rfl) (f_op (Ww rfl) (f_ix (U4 hr.units rfl) (Zg (pv 0)) f_int (fun _ _ => rfl)) (f_op Z6t f_int (f_ix (U4 hr.units rfl) (Zg (pv 0)) f_int (fun _ _ => rfl)))) f_int) f_int) Zh)) f_int))
    (Zj (Wl (i := 3) Uq.nd rfl (Or.inl rfl) (f_op Zbh (Yc (Z2f (nd_ C)) (by rfl) (Z1t C) (by decide +kernel) (Zb (f_op Z6t (Zg (pv 3)) (f_op (Ww rfl) (f_op (Ww rfl) (f_op Z8b (Zg (pv 3)) f_int) f_int) (f_ix (U4 hr.units rfl) (Zg (pv 0)) f_int (fun _ _ => rfl)))) Zh)) f_int))
    (Zm (Y4 (f_op Zbh (Yc (Z2f (nd_ C)) (by rfl) (Z1t C) (by decide +kernel) (Zb (f_op Z8b (f_op Zbh (Yc (Z2f (nd_ C)) (by rfl) (Z1t C) (by decide +kernel) (Zb (f_op Z6t (Zg (pv 3)) (f_op (Ww rfl) (f_op Z8b (Zg (pv 3)) f_int) f_int)) Zh)) f_int) f_int) Zh)) (Zg (pv 1)))))))))
theorem Z4n : GT P w K mg base 2 (gY "_law_one") Z1x 2 Vb := by
  have G__law_draw := @Uv P base w K mg C
  refine fnFD (J9 C) Z8j fun cdv A outer s H E hr hG => ?_
  exact (Zm (Y4 (f_ix (U4 hr.units rfl) (Zg (pv 1)) (Zr rfl G__law_draw (hr.mono (by omega)) hG (by rfl) (Y0 C) (Zt C).kp (Zz C) .nil Dfl.nil tk (Zb (Zg (pv 0)) (Zb (Zw (Qq rfl) (by rfl) (Wv C) (by decide +kernel) (Zb (Zg (pv 1)) Zh)) Zh)) (Za (Za Zf))) (fun _ _ => rfl))))
theorem Z2r : GT P w K mg base 3 (gY "_law_node") Z0p 3 X4 := by
  have G__law_draw := @Uv P base w K mg C
  have G__law_one := @Z4n P base w K mg C
  refine fnFD (Vv C) Wn fun cdv A outer s H E hr hG => ?_
  exact (Zj (Wl (i := 3) Wn.nd rfl (Or.inl rfl) (Zr rfl G__law_draw (hr.mono (by omega)) hG (by rfl) (Y0 C) (Zt C).kp (Zz C) .nil Dfl.nil tk (Zb (Zg (pv 0)) (Zb f_int Zh)) (Za (Za Zf))))
    (Zj (Xz (Yk (o_eq hr.units rfl) (Zg (pv 3)) f_int (nomark _))
      (Zm (Y4 (f_tup (Zb (Xl [115,99,97,108,97,114]) (Zb (Xl [33,33,115,116,114]) (Zb (Zr rfl G__law_one (hr.mono (by omega)) hG (by rfl) (Z4j C) (J9 C).kp (Z4a C) .nil Dfl.nil tk (Zb (Zg (pv 0)) (Zb (Z50 (Zb (Xl [97]) (Zb (Xl [97]) (Zb (Xl [98]) Zh))) (Za (Za (Za Zf)))) Zh)) (Za (Za Zf))) Zh))) (Za (Za (Za Zf))))))
      Yi)
    (Zj (Xz (Yk o_lt (Zg (pv 3)) f_int (nomark _))
      (Zj (Z1g (i := 4) (own := [("_law_turn", 5)]) (Xb 5) (by decide) rfl Wn.nd rfl rfl (sw_true rfl rfl rfl (by decide +kernel)) (Q5 (by rfl) (Z0c C) (Zb (f_op (Ww rfl) f_int (Zr rfl G__law_draw (hr.mono (by omega)) hG (by rfl) (Y0 C) (Zt C).kp (Zz C) .nil Dfl.nil tk (Zb (Zg (pv 0)) (Zb (Zg (pv 2)) Zh)) (Za (Za Zf)))) Zh) (Za Zf)) (blkOk_by (N := Z0o) (sc := defScope Xc) (by decide +kernel)) (fun _ _ _ _ _ => (pg_name (i := 5) Wn.nd rfl (by first | exact Or.inl rfl | exact Or.inr rfl))) (fun _ _ _ _ _ => Yw) (fun _ _ _ _ _ => (Zr rfl G__law_draw (hr.mono (by omega)) hG (by rfl) (Y0 C) (Zt C).kp (Zz C) .nil Dfl.nil X6 (Zb (Zg (pv 0)) (Zb (Zg (pv 1)) Zh)) (Za (Za Zf)))))
      (Zm (Y4 (f_tup (Zb (Xl [115,101,113,117,101,110,99,101]) (Zb (Xl [33,33,115,101,113]) (Zb (Yc (Jq rfl) (by rfl) (Xq C) (by decide +kernel) (Zb (Zg (pv 4)) Zh)) Zh))) (Za (Za (Za Zf)))))))
      Yi)
    (Zj (Z1g (i := 4) (own := [("_law_turn", 5)]) (Xb 5) (by decide) rfl Wn.nd rfl rfl (sw_true rfl rfl rfl (by decide +kernel)) (Q5 (by rfl) (Z0c C) (Zb (f_op (Ww rfl) f_int (Zr rfl G__law_draw (hr.mono (by omega)) hG (by rfl) (Y0 C) (Zt C).kp (Zz C) .nil Dfl.nil tk (Zb (Zg (pv 0)) (Zb (f_op Z8b (Zg (pv 2)) f_int) Zh)) (Za (Za Zf)))) Zh) (Za Zf)) (blkOk_by (N := Z0o) (sc := defScope Xc) (by decide +kernel)) (fun _ _ _ _ _ => (pg_name (i := 5) Wn.nd rfl (by first | exact Or.inl rfl | exact Or.inr rfl))) (fun _ _ _ _ _ => Yw) (fun _ _ _ _ _ => (f_tup (Zb (Zr rfl G__law_draw (hr.mono (by omega)) hG (by rfl) (Y0 C) (Zt C).kp (Zz C) .nil Dfl.nil X6 (Zb (Zg (pv 0)) (Zb (Zg (pv 1)) Zh)) (Za (Za Zf))) (Zb (Zr rfl G__law_draw (hr.mono (by omega)) hG (by rfl) (Y0 C) (Zt C).kp (Zz C) .nil Dfl.nil X6 (Zb (Zg (pv 0)) (Zb (Zg (pv 1)) Zh)) (Za (Za Zf))) Zh)) (Za (Za Zf)))))
    (Zm (Y4 (f_tup (Zb (Xl [109,97,112,112,105,110,103]) (Zb (Xl [33,33,109,97,112]) (Zb (Yc (Jq rfl) (by rfl) (Xq C) (by decide +kernel) (Zb (Zg (pv 4)) Zh)) Zh))) (Za (Za (Za Zf))))))))))
theorem Z7w : GT P w K mg base 4 (gY "_law_near") Z0q 3 Ui := by
  have G__law_node := @Z2r P base w K mg C
  have G__law_draw := @Uv P base w K mg C
  refine fnFD (Np C) Vt fun cdv A outer s H E hr hG => ?_
  exact (Zj (Zct (i := 3) (j := 4) rfl Vt.nd rfl rfl (by decide) rfl rfl (Zb (Yc (Z9y rfl) (by rfl) (Z2c C) (by decide +kernel) (Zb (Zg (pv 1)) Zh)) (Zb (Zr rfl G__law_draw (hr.mono (by omega)) hG (by rfl) (Y0 C) (Zt C).kp (Zz C) .nil Dfl.nil tk (Zb (Zg (pv 0)) (Zb (Zw (Qq rfl) (by rfl) (Wv C) (by decide +kernel) (Zb (Zg (pv 1)) Zh)) Zh)) (Za (Za Zf))) Zh)) (Za (Za Zf)) (by rfl))
    (Zj (Ub (f_ix (U4 hr.units rfl) (Zg (pv 3)) (Zg (pv 4)) (fun _ _ => rfl)) (Q4 rfl rfl (Zu (Y5 (i := 5) Vt.nd rfl (Or.inl rfl)) (Zu (Y5 (i := 6) Vt.nd rfl (Or.inl rfl)) (Zu (Y5 (i := 7) Vt.nd rfl (Or.inl rfl)) V6)))))
    (Zj (Ub (Zr rfl G__law_node (hr.mono (by omega)) hG (by rfl) (Nz C) (Vv C).kp (Nm C) .nil Dfl.nil tk (Zb (Zg (pv 0)) (Zb (Zw (Qq rfl) (by rfl) (Wv C) (by decide +kernel) (Zb (Zg (pv 1)) Zh)) (Zb (Zg (pv 2)) Zh))) (Za (Za (Za Zf)))) (Z3h hr.units (Zg (pv 3)) (Zg (pv 4))))
    (Zj (Xz (PW.pt (Zgp (Yk (o_eq hr.units rfl) (Zg (pv 5)) (Xl [109,97,112,112,105,110,103]) (nomark _)) (Zcm (Yk Zi9 (Zr rfl G__law_draw (hr.mono (by omega)) hG (by rfl) (Y0 C) (Zt C).kp (Zz C) .nil Dfl.nil tk (Zb (Zg (pv 0)) (Zb f_int Zh)) (Za (Za Zf))) f_int (nomark _)))))
      (Zm (Ub (f_tup (Zb (Zg (pv 5)) (Zb (Zg (pv 6)) (Zb (f_if (Yk Zku (f_op Z6t (Zw (Qq rfl) (by rfl) (Wv C) (by decide +kernel) (Zb (Zg (pv 7)) Zh)) f_int) (Zg (pv 2)) (nomark _)) (f_rvT rfl (Zg (pv 7)) V5 V5 (Jp (Z8d f_int))) (f_op (Ww rfl) (Zg (pv 7)) (f_sl rfl (Zg (pv 7)) V5 (Jp f_int)))) Zh))) (Za (Za (Za Zf)))) (Z3h hr.units (Zg (pv 3)) (Zg (pv 4)))))
      Yi)
    (Zm (Y4 (Zg (pv 3))))))))
theorem Z01 : FnOk P w K mg base CX0 1 ((mY "NoGraph" "__init__") K) (fdOf K ((mY "NoGraph" "__init__") K)) Vo (spI (He.ga K "NoGraph") "index") := by
  refine Zck (Nq C) Z3j (fun vs H Q E h => ?_) (fun cdv A outer s H vs Q E hr h => ?_)
  · obtain ⟨a,v,rfl,_⟩ := h; rfl
  · obtain ⟨a,v,rfl,ha,hq⟩ := h
    exact ⟨_, (pss_cons (ps_expr (Z3f (by rfl) (Z00 C) (bs_ C) (by decide) (pa_cons (pv 0) (pa_cons pe_str pa_nil)))) (pss_one (ps_ost (pv 0) (pv 1)))), ⟨_, rfl, ⟨a, He.ga K "NoGraph", _, rfl, by decide, Vl C, ha, ⟨v, rfl, _, rfl, a, He.ga K "NoGraph", rfl, Vl C, Zc7 C, .inl ⟨ha, fun dx nd ne => hq dx nd ne⟩⟩⟩⟩⟩
theorem Z0d : GT P w K mg base 1 (gY "is_from") Z3k 3 Yq := by
  refine fnFD (U8 C) Zbn fun cdv A outer s H E hr hG => ?_
  exact (Zm (Y4 (Z5q rfl (Zw (Z51 rfl) (by rfl) (Y7 C) (by decide +kernel) (Zb (Zg (pv 0)) (Zb (f_c (pe_bltn (v := .ty "int") (by rfl) (Z1t C) (by decide +kernel) rfl) (fun _ _ => .ty _)) Zh))) (Z5q rfl (f_not rfl (Zw (Z51 rfl) (by rfl) (Y7 C) (by decide +kernel) (Zb (Zg (pv 0)) (Zb (f_c (pe_bltn (v := .ty "bool") (by rfl) (Zj8 C) (by decide +kernel) rfl) (fun _ _ => .ty _)) Zh)))) (Z5p (Zhx Zbl Zbl (Zg (pv 1)) (Zg (pv 0)) (Zg (pv 2))))))))
theorem Z7x : GT P w K mg base 1 (gY "are_signs") Z0r 2 Xf := by
  refine fnFD (Nr C) Ju fun cdv A outer s H E hr hG => ?_
  exact (Zm (Y4 (Z5q rfl (Z2s (o_ne hr.units rfl) (Zg (pv 0)) (Xl []) (nomark _)) (Z5p (Zw (Zfb rfl rfl) (by rfl) (fr_all C) (by decide +kernel) (Zb (f_lc (own := [("sign", 2)]) (Xb 2) (by decide) rfl Ju.nd (Wm rfl (Zg (pv 0))) (blkOk_by (N := Z3l) (sc := defScope Xr) (by decide +kernel)) (fun _ _ _ _ _ => (pg_name (i := 2) Ju.nd rfl (by first | exact Or.inl rfl | exact Or.inr rfl))) (fun _ _ _ _ _ => Yw) (fun _ _ _ _ _ => (Z2s (o_inW hr.units rfl) (Zg (pv 2)) (Zg (pv 1)) rfl))) Zh))))))
theorem Ze3 : GT P w K mg base 2 (gY "is_tag") Z5y 1 J5 := by
  have G_are_signs := @Z7x P base w K mg C
  obtain ⟨t_TAG_SIGNS,g_TAG_SIGNS⟩ := Z7o C
  refine fnFD (Z4b C) Zd6 fun cdv A outer s H E hr hG => ?_
  exact (Zj (Xz (PW.pt (Z89 (Ua (U3 rfl (Zw (Z51 rfl) (by rfl) (Y7 C) (by decide +kernel) (Zb (Zg (pv 0)) (Zb (f_c (pe_bltn (v := .ty "str") (by rfl) (Zat C) (by decide +kernel) rfl) (fun _ _ => .ty _)) Zh))))) (Z6r (Ua (U3 rfl (f_bm rfl PySem.F.plainAttrs_str PySem.F.slot_str_startswith PySem.F.type_str_startswith (Z9z rfl) (Zg (pv 0)) (Zb (Xl [33]) Zh)))))))
      (Zm (Y4 f_bl))
      Yi)
    (Zm (Y4 (Zr rfl G_are_signs (hr.mono (by omega)) hG (by rfl) (Z7p C) (Nr C).kp (Z7l C) .nil Dfl.nil tk (Zb (f_if (U3 rfl (f_bm rfl PySem.F.plainAttrs_str PySem.F.slot_str_startswith PySem.F.type_str_startswith (Z9z rfl) (Zg (pv 0)) (Zb (Xl [33,33]) Zh))) (f_sl rfl (Zg (pv 0)) (Jp f_int) V5) (f_sl rfl (Zg (pv 0)) (Jp f_int) V5)) (Zb (f_c (pe_glob (v := .str (S Wj)) rfl g_TAG_SIGNS ⟨_,rfl⟩) (fun _ _ => .str _)) Zh)) (Za (Za Zf))))))
theorem Z9b : GT P w K mg base 2 (gY "is_entry") Z1y 2 Qc := by
  have G_is_from := @Z0d P base w K mg C
  refine fnFD (Z1a C) Z0s fun cdv A outer s H E hr hG => ?_
  exact (Zm (Y4 (Z5q rfl (Zw (Z51 rfl) (by rfl) (Y7 C) (by decide +kernel) (Zb (Zg (pv 0)) (Zb (f_c (pe_bltn (v := .ty "tuple") (by rfl) (Xq C) (by decide +kernel) rfl) (fun _ _ => .ty _)) Zh))) (Z5q rfl (Z2s (o_eq hr.units rfl) (Zw (Qq rfl) (by rfl) (Wv C) (by decide +kernel) (Zb (Zg (pv 0)) Zh)) f_int (nomark _)) (Z5p (Zw (Zfb rfl rfl) (by rfl) (fr_all C) (by decide +kernel) (Zb (f_lc (own := [("one", 2)]) (Xb 2) (by decide) rfl Z0s.nd (Wm rfl (Zg (pv 0))) (blkOk_by (N := Z57) (sc := defScope Wo) (by decide +kernel)) (fun _ _ _ _ _ => (pg_name (i := 2) Z0s.nd rfl (by first | exact Or.inl rfl | exact Or.inr rfl))) (fun _ _ _ _ _ => Yw) (fun _ _ _ _ _ => (Zr rfl G_is_from (hr.mono (by omega)) hG (by rfl) (Z09 C) (U8 C).kp (Z06 C) .nil Dfl.nil X6 (Zb (Zg (pv 2)) (Zb f_int (Zb (f_op Z6s (Zg (pv 1)) f_int) Zh))) (Za (Za (Za Zf)))))) Zh)))))))
theorem Zcd : GT P w K mg base 3 (gY "is_node") Z3o 2 Xg := by
  have G_is_tag := @Ze3 P base w K mg C
  have G_is_entry := @Z9b P base w K mg C
  have G_is_from := @Z0d P base w K mg C
  obtain ⟨t_MOST_NUMBERS,g_MOST_NUMBERS⟩ := Z4h C
  refine fnFD (Z29 C) Wq fun cdv A outer s H E hr hG => ?_
  exact (Zj (Xz (PW.pt (Z89 (Ua (U3 rfl (Zw (Z51 rfl) (by rfl) (Y7 C) (by decide +kernel) (Zb (Zg (pv 0)) (Zb (f_c (pe_bltn (v := .ty "tuple") (by rfl) (Xq C) (by decide +kernel) rfl) (fun _ _ => .ty _)) Zh))))) (Z89 (Yk (o_ne hr.units rfl) (Zw (Qq rfl) (by rfl) (Wv C) (by decide +kernel) (Zb (Zg (pv 0)) Zh)) f_int (nomark _)) (Z89 (Ua (U3 rfl (Zw (Z51 rfl) (by rfl) (Y7 C) (by decide +kernel) (Zb (f_ix (U4 hr.units rfl) (Zg (pv 0)) f_int (fun _ _ => rfl)) (Zb (f_c (pe_bltn (v := .ty "str") (by rfl) (Zat C) (by decide +kernel) rfl) (fun _ _ => .ty _)) Zh))))) (Z6r (Ua (U3 rfl (Zr rfl G_is_tag (hr.mono (by omega)) hG (by rfl) (Ze1 C) (Z4b C).kp (Zdy C) .nil Dfl.nil tk (Zb (f_ix (U4 hr.units rfl) (Zg (pv 0)) f_int (fun _ _ => rfl)) Zh) (Za Zf)))))))))
      (Zm (Y4 f_bl))
      Yi)
    (Zj (Ub (Zg (pv 0)) (Q4 rfl rfl (Zu (Y5 (i := 2) Wq.nd rfl (Or.inl rfl)) (Zu (Y5 (i := 3) Wq.nd rfl (Or.inl rfl)) (Zu (Y5 (i := 4) Wq.nd rfl (Or.inl rfl)) V6)))))
    (Zj (Xz (Yk (o_eq hr.units rfl) (Zg (pv 2)) (Xl [115,99,97,108,97,114]) (nomark _))
      (Zm (Y4 (Zw (Z51 rfl) (by rfl) (Y7 C) (by decide +kernel) (Zb (Zg (pv 4)) (Zb (f_c (pe_bltn (v := .ty "str") (by rfl) (Zat C) (by decide +kernel) rfl) (fun _ _ => .ty _)) Zh)))))
      Yi)
    (Zj (Xz (PW.pt (Z89 (Yk (Z5x hr.units rfl) (Zg (pv 2)) (f_tup (Zb (Xl [115,101,113,117,101,110,99,101]) (Zb (Xl [109,97,112,112,105,110,103]) Zh)) (Za (Za Zf))) rfl) (Z6r (Ua (U3 rfl (Zw (Z51 rfl) (by rfl) (Y7 C) (by decide +kernel) (Zb (Zg (pv 4)) (Zb (f_c (pe_bltn (v := .ty "tuple") (by rfl) (Xq C) (by decide +kernel) rfl) (fun _ _ => .ty _)) Zh))))))))
      (Zm (Y4 f_bl))
      Yi)
    (Zj (Xz (Yk (o_eq hr.units rfl) (Zg (pv 2)) (Xl [115,101,113,117,101,110,99,101]) (nomark _))
      (Zm (Y4 (Z5q rfl (Z2s Zbl (Zw (Qq rfl) (by rfl) (Wv C) (by decide +kernel) (Zb (Zg (pv 4)) Zh)) (f_c (pe_glob (v := .int (1000)) rfl g_MOST_NUMBERS ⟨_, rfl⟩) (fun _ _ => .int _)) (nomark _)) (Z5p (Zw (Zfb rfl rfl) (by rfl) (fr_all C) (by decide +kernel) (Zb (f_lc (own := [("one", 5)]) (Xb 5) (by decide) rfl Wq.nd (Wm rfl (Zg (pv 4))) (blkOk_by (N := Z3n) (sc := defScope Wx) (by decide +kernel)) (fun _ _ _ _ _ => (pg_name (i := 5) Wq.nd rfl (by first | exact Or.inl rfl | exact Or.inr rfl))) (fun _ _ _ _ _ => Yw) (fun _ _ _ _ _ => (Zr rfl G_is_from (hr.mono (by omega)) hG (by rfl) (Z09 C) (U8 C).kp (Z06 C) .nil Dfl.nil X6 (Zb (Zg (pv 5)) (Zb f_int (Zb (f_op Z6s (Zg (pv 1)) f_int) Zh))) (Za (Za (Za Zf)))))) Zh))))))
      Yi)
    (Zm (Y4 (Z5q rfl (Z2s Zbl (f_op Z6t f_int (Zw (Qq rfl) (by rfl) (Wv C) (by decide +kernel) (Zb (Zg (pv 4)) Zh))) (f_c (pe_glob (v := .int (1000)) rfl g_MOST_NUMBERS ⟨_, rfl⟩) (fun _ _ => .int _)) (nomark _)) (Z5p (Zw (Zfb rfl rfl) (by rfl) (fr_all C) (by decide +kernel) (Zb (f_lc (own := [("one", 5)]) (Xb 5) (by decide) rfl Wq.nd (Wm rfl (Zg (pv 4))) (blkOk_by (N := Z3n) (sc := defScope Wx) (by decide +kernel)) (fun _ _ _ _ _ => (pg_name (i := 5) Wq.nd rfl (by first | exact Or.inl rfl | exact Or.inr rfl))) (fun _ _ _ _ _ => Yw) (fun _ _ _ _ _ => (Zr rfl G_is_entry (hr.mono (by omega)) hG (by rfl) (Z98 C) (Z1a C).kp (Z93 C) .nil Dfl.nil X6 (Zb (Zg (pv 5)) (Zb (Zg (pv 1)) Zh)) (Za (Za Zf))))) Zh)))))))))))
theorem Z6i : GT P w K mg base 4 (mY "Graph" "__init__") Ur 3 Ym := by
  have I_NoGraph_init := @Z01 P base w K mg C
  obtain ⟨ds_NoGraph_init_1,dv_NoGraph_init_1,db_NoGraph_init_1⟩ := Qn C
  have G_is_from := @Z0d P base w K mg C
  have G_is_node := @Zcd P base w K mg C
  obtain ⟨t_MOST_NODES,g_MOST_NODES⟩ := Z6e C
  refine fnFD (Z1p C) Qu fun cdv A outer s H E hr hG => ?_
  exact (Zj (Xz (PW.pt (Z89 (Ua (U3 rfl (Zw (Zkz rfl (Z6h C) (Zg0 C)) (by rfl) (Y7 C) (by decide +kernel) (Zb (Zg (pv 1)) (Zb (f_tup (Zb (f_c (pe_bltn (v := .ty "list") (by rfl) (Z2c C) (by decide +kernel) rfl) (fun _ _ => .ty _)) (Zb (f_c (pe_bltn (v := .ty "tuple") (by rfl) (Xq C) (by decide +kernel) rfl) (fun _ _ => .ty _)) Zh)) (Za (Za Zf))) Zh))))) (Z6r (Ua (Zf6 Zbl Zbl f_int (Zw (Qq rfl) (by rfl) (Wv C) (by decide +kernel) (Zb (Zg (pv 1)) Zh)) (f_c (pe_glob (v := .int (200)) rfl g_MOST_NODES ⟨_, rfl⟩) (fun _ _ => .int _)))))))
      (Zm (Z04 rfl rfl tk (Vl C) (Wu C).1 (Wu C).2 I_NoGraph_init (hr.mono (by omega)) db_NoGraph_init_1 dv_NoGraph_init_1 (fun _ _ => .nil) (by rfl) (Z0a C) (Zb (Z8d f_int) Zh) (Za Zf) (Z08 C)))
      Yi)
    (Zj (Z3e (passes_of rfl) rfl (Za1 rfl (by rfl) (Z2q C) (Zb (Zg (pv 1)) Zh) (Za Zf)) (Q4 rfl rfl (Zu (Y5 (i := 3) Qu.nd rfl (Or.inl rfl)) (Zu (Y5 (i := 4) Qu.nd rfl (Or.inl rfl)) V6)))
      (Zm (Xz (Ua (U3 rfl (Zr rfl G_is_node (hr.mono (by omega)) hG (by rfl) (Zca C) (Z29 C).kp (Zc5 C) .nil Dfl.nil tk (Zb (Zg (pv 4)) (Zb (Zw (Qq rfl) (by rfl) (Wv C) (by decide +kernel) (Zb (Zg (pv 1)) Zh)) Zh)) (Za (Za Zf)))))
        (Zm (Z04 rfl rfl tk (Vl C) (Wu C).1 (Wu C).2 I_NoGraph_init (hr.mono (by omega)) db_NoGraph_init_1 dv_NoGraph_init_1 (fun _ _ => .nil) (by rfl) (Z0a C) (Zb (Zg (pv 3)) Zh) (Za Zf) (Z08 C)))
        Yi)))
    (Zj (Xz (Ua (U3 rfl (Zr rfl G_is_from (hr.mono (by omega)) hG (by rfl) (Z09 C) (U8 C).kp (Z06 C) .nil Dfl.nil tk (Zb (Zg (pv 2)) (Zb f_int (Zb (f_op Z6s (Zw (Qq rfl) (by rfl) (Wv C) (by decide +kernel) (Zb (Zg (pv 1)) Zh)) f_int) Zh))) (Za (Za (Za Zf))))))
      (Zm (Z04 rfl rfl tk (Vl C) (Wu C).1 (Wu C).2 I_NoGraph_init (hr.mono (by omega)) db_NoGraph_init_1 dv_NoGraph_init_1 (fun _ _ => .nil) (by rfl) (Z0a C) (Zb (Z8d f_int) Zh) (Za Zf) (Z08 C)))
      Yi)
    (Zm (Ub (f_tup (Zb (Yc (Jq rfl) (by rfl) (Xq C) (by decide +kernel) (Zb (Zg (pv 1)) Zh)) (Zb (Zg (pv 2)) Zh)) (Za (Za Zf))) (Q4 rfl rfl (Zu (Zgy rfl (Fx.FldOk.cons (Yd C) (Y8 C) .nil) (Zg (pv 0))) (Zu (Zgy rfl (Fx.FldOk.cons (Yd C) (Xa C) .nil) (Zg (pv 0))) V6))))))))
theorem Z4o (n : Nat) (R : Rc_0) (G__law_written : GT P w K mg base (0 + n) (gY "_law_written") Xi 1 R._law_written) : GT P w K mg base (0 + n + 1) (gY "_law_written") Xi 1 (runF 9 (Zy R)) := by
  refine fnFD (Yr C) Y6 fun cdv A outer s H E hr hG => ?_
  exact (Zj (Ub (Zg (pv 0)) (Q4 rfl rfl (Zu (Y5 (i := 1) Y6.nd rfl (Or.inl rfl)) (Zu (Y5 (i := 2) Y6.nd rfl (Or.inl rfl)) (Zu (Y5 (i := 3) Y6.nd rfl (Or.inl rfl)) V6)))))
    (Zj (Xz (PW.pt (Z89 (Yk (o_eq hr.units rfl) (Zg (pv 1)) (Xl [115,99,97,108,97,114]) (nomark _)) (Z6r (Ua (U3 rfl (Zw (Z51 rfl) (by rfl) (Y7 C) (by decide +kernel) (Zb (Zg (pv 3)) (Zb (f_c (pe_bltn (v := .ty "tuple") (by rfl) (Xq C) (by decide +kernel) rfl) (fun _ _ => .ty _)) Zh))))))))
      (Zm (Y4 (f_op (Ww rfl) (f_op (Ww rfl) (f_sl rfl (Zg (pv 1)) V5 (Jp f_int)) (Zg (pv 2))) (Zw (Zit rfl hG hr.units) (by rfl) (Zj9 C) (by decide +kernel) (Zb (Zg (pv 3)) Zh)))))
      Yi)
    (Zj (Xz (Yk (o_eq hr.units rfl) (Zg (pv 1)) (Xl [115,101,113,117,101,110,99,101]) (nomark _))
      (Zm (Y4 (f_op (Ww rfl) (f_op (Ww rfl) (f_op (Ww rfl) (Xl [91]) (Yc (c_str (nd_ C) rfl) (by rfl) (Zat C) (by decide +kernel) (Zb (Zw (Qq rfl) (by rfl) (Wv C) (by decide +kernel) (Zb (Zg (pv 3)) Zh)) Zh))) (f_bm rfl PySem.F.plainAttrs_str PySem.F.slot_str_join PySem.F.type_str_join (m_join rfl) (Xl [44]) (Zb (f_lc (own := [("_law_one_here", 8)]) (Xb 8) (by decide) rfl Y6.nd (Wm rfl (Zg (pv 3))) (blkOk_by (N := Z0h) (sc := defScope Yl) (by decide +kernel)) (fun _ _ _ _ _ => (pg_name (i := 8) Y6.nd rfl (by first | exact Or.inl rfl | exact Or.inr rfl))) (fun _ _ _ _ _ => Yw) (fun _ _ _ _ _ => (Zr rfl G__law_written (hr.mono (by omega)) hG (by rfl) (Xy C) (Yr C).kp (Xx C) .nil Dfl.nil X6 (Zb (Zg (pv 8)) Zh) (Za Zf)))) Zh))) (Xl [93]))))
      Yi)
    (Zj (Wl (i := 4) Y6.nd rfl (Or.inl rfl) (Z50 Zh Zf))
    (Zj (Z3e (passes_of rfl) rfl (Wm rfl (Zg (pv 3))) (Q4 rfl rfl (Zu (Y5 (i := 5) Y6.nd rfl (Or.inl rfl)) (Zu (Y5 (i := 6) Y6.nd rfl (Or.inl rfl)) V6)))
      (Zj (Wl (i := 7) Y6.nd rfl (Or.inl rfl) (f_op (Ww rfl) (f_op (Ww rfl) (Zr rfl G__law_written (hr.mono (by omega)) hG (by rfl) (Xy C) (Yr C).kp (Xx C) .nil Dfl.nil tk (Zb (Zg (pv 5)) Zh) (Za Zf)) (Xl [61])) (Zr rfl G__law_written (hr.mono (by omega)) hG (by rfl) (Xy C) (Yr C).kp (Xx C) .nil Dfl.nil tk (Zb (Zg (pv 6)) Zh) (Za Zf))))
      (Zm (Wl (i := 4) Y6.nd rfl (Or.inl rfl) (f_op (Ww rfl) (Zg (pv 4)) (f_op Z6t (Z50 (Zb (Zg (pv 7)) Zh) (Za Zf)) (Yc (Z2f (nd_ C)) (by rfl) (Z1t C) (by decide +kernel) (Zb (Z2s (Z5x hr.units rfl) (Zg (pv 7)) (Zg (pv 4)) rfl) Zh))))))))
    (Zm (Y4 (f_op (Ww rfl) (f_op (Ww rfl) (Xl [123]) (f_bm rfl PySem.F.plainAttrs_str PySem.F.slot_str_join PySem.F.type_str_join (m_join rfl) (Xl [59]) (Zb (Zw (Ziu rfl) (by rfl) (Z7u C) (by decide +kernel) (Zb (Zg (pv 4)) Zh)) Zh))) (Xl [125])))))))))
theorem fam_0 : ∀ n : Nat, GT P w K mg base (0 + n) (gY "_law_written") Xi 1 (Z2y n)._law_written := by
  intro n
  induction n with
  | zero => exact Z75 rfl
  | succ n ih =>
    have h__law_written := ih
    exact Z4o C n _ h__law_written
theorem Z4p : GT P w K mg base 55 (gY "_law_written") Xi 1 X5 := (fam_0 C 55)
theorem Vn : FnS P w K mg base 3 ((gY "require_graphs") K) Yb := by
  have I_NoGraph_init := @Z01 P base w K mg C
  obtain ⟨ds_NoGraph_init_1,dv_NoGraph_init_1,db_NoGraph_init_1⟩ := Qn C
  refine fnS (W7 C) Q6 (fun _ _ _ _ _ _ us => match us with | [] => rfl | _ :: _ => rfl) fun cdv A outer s H E hr hG => ?_
  exact (Zm (Z3e (passes_of rfl) rfl (Wm rfl (Zg (pv 0))) (Y5 (i := 1) Q6.nd rfl (Or.inl rfl))
      (Zm (Xz (Ua (U3 rfl (Zkt rfl (Z6h C) (by rfl) (Y7 C) (by decide +kernel) (by rfl) (Z39 C) (Zg (pv 1)))))
        (Zm (Z04 rfl rfl tk (Vl C) (Wu C).1 (Wu C).2 I_NoGraph_init (hr.mono (by omega)) db_NoGraph_init_1 dv_NoGraph_init_1 (fun _ _ => .nil) (by rfl) (Z0a C) (Zb (Z8d f_int) Zh) (Za Zf) (Z08 C)))
        Yi))))
theorem Z4q : GT P w K mg base 1 (gY "first_unlike") Uy 3 Q3 := by
  refine fnFD (Uk C) Ud fun cdv A outer s H E hr hG => ?_
  exact (Zj (Z3e (passes_of rfl) rfl (Za1 rfl (by rfl) (Z2q C) (Zb (Zg (pv 0)) Zh) (Za Zf)) (Q4 rfl rfl (Zu (Y5 (i := 3) Ud.nd rfl (Or.inl rfl)) (Zu (Y5 (i := 4) Ud.nd rfl (Or.inl rfl)) V6)))
      (Zm (Xz (Yk (o_ne hr.units rfl) (f_ix (U4 hr.units rfl) (Zg (pv 4)) (Zg (pv 1)) (fun _ _ => rfl)) (f_ix (U4 hr.units rfl) (Zg (pv 4)) (Zg (pv 2)) (fun _ _ => rfl)) (nomark _))
        (Zm (Y4 (Zg (pv 3))))
        Yi)))
    (Zm (Y4 Z88)))
theorem Z9c : GT P w K mg base 1 (gY "numbered") Z1z 1 Wr := by
  refine fnFD (Ja C) Z0t fun cdv A outer s H E hr hG => ?_
  exact Zli (pss_cons (ps_par (i := 1) (j := 2) rfl Z0t.nd rfl rfl (by decide) rfl rfl (pa_cons Ziy (pa_cons (pe_lst pa_nil) pa_nil)) (by rfl))
    (pss_cons (ps_for (passes_of rfl) rfl (pi_list (pv 0)) (pg_name (i := 3) Z0t.nd rfl (Or.inl rfl))
      (pss_cons (ps_expr (Zfq (Zdq hr) (pv 1) (pv 3) (pe_callB Zdp (by rfl) (Wv C) (by decide +kernel) (pa_cons (pv 1) pa_nil)) ⟨rfl,rfl,rfl,rfl⟩))
      (pss_one (ps_expr (pe_bm PySem.F.plainAttrs_list PySem.F.slot_list_append PySem.F.type_list_append mt_append (pv 2) (pa_cons (pe_ix (Zj0 (Zdq hr)) (pv 1) (pv 3) (fun _ _ => rfl)) pa_nil))))))
    (pss_one (ps_ret (pv 2))))) (by decide) (by decide) (by decide) (by decide) (by decide) (by decide)
theorem Z7y : GT P w K mg base 1 (gY "first_key") Z0u 1 Vc := by
  refine fnFD (Nt C) Us fun cdv A outer s H E hr hG => ?_
  exact (Zj (Ub (Zg (pv 0)) (Q4 rfl rfl (Zu (Y5 (i := 1) Us.nd rfl (Or.inl rfl)) (Zu (Y5 (i := 2) Us.nd rfl (Or.inl rfl)) (Zu (Y5 (i := 3) Us.nd rfl (Or.inl rfl)) V6)))))
    (Zj (Xz (Yk (o_eq hr.units rfl) (Zg (pv 1)) (Xl [115,101,113,117,101,110,99,101]) (nomark _))
      (Zm (Y4 (f_tup (Zb (Zg (pv 1)) (Zb (Zg (pv 2)) (Zb (Zw (Qq rfl) (by rfl) (Wv C) (by decide +kernel) (Zb (Zg (pv 3)) Zh)) Zh))) (Za (Za (Za Zf))))))
      Yi)
    (Zm (Y4 (f_tup (Zb (Zg (pv 1)) (Zb (Zg (pv 2)) (Zb (f_if (Yk (o_eq hr.units rfl) (Zg (pv 1)) (Xl [115,99,97,108,97,114]) (nomark _)) (Zg (pv 3)) Z88) Zh))) (Za (Za (Za Zf))))))))
theorem Z9d : GT P w K mg base 1 (gY "next_key") Z21 3 Vd := by
  refine fnFD (Z1b C) Xd fun cdv A outer s H E hr hG => ?_
  exact (Zj (Ub (Zg (pv 0)) (Q4 rfl rfl (Zu (Y5 (i := 3) Xd.nd rfl (Or.inl rfl)) (Zu (Y5 (i := 4) Xd.nd rfl (Or.inl rfl)) (Zu (Y5 (i := 5) Xd.nd rfl (Or.inl rfl)) V6)))))
    (Zj (Xz (Yk (o_eq hr.units rfl) (Zg (pv 3)) (Xl [115,101,113,117,101,110,99,101]) (nomark _))
      (Zm (Y4 (f_tup (Zb (Zg (pv 1)) (Zb (Yc (Jq rfl) (by rfl) (Xq C) (by decide +kernel) (Zb (f_lc (own := [("number", 9)]) (Xb 9) (by decide) rfl Xd.nd (Wm rfl (Zg (pv 5))) (blkOk_by (N := Z20) (sc := defScope W3) (by decide +kernel)) (fun _ _ _ _ _ => (pg_name (i := 9) Xd.nd rfl (by first | exact Or.inl rfl | exact Or.inr rfl))) (fun _ _ _ _ _ => Yw) (fun _ _ _ _ _ => (f_ix (U4 hr.units rfl) (Zg (pv 2)) (Zg (pv 9)) (fun _ _ => rfl)))) Zh)) Zh)) (Za (Za Zf)))))
      Yi)
    (Zj (Xz (Yk (o_eq hr.units rfl) (Zg (pv 3)) (Xl [109,97,112,112,105,110,103]) (nomark _))
      (Zlj (pss_cons (Zdr (i := 6) (own := [("key", 7), ("value", 8)]) (Nat.lt_of_le_of_lt (Nat.add_le_add_left (by decide : 8 ≤ 64) _) hr.units) rfl Xd.nd rfl rfl (Zfv rfl rfl rfl rfl) (pi_tup (pv 5)) (blkOk_by (N := Z20) (sc := defScope W3) (by decide +kernel))
      (fun _ _ _ _ _ => (pg_tup rfl (pgs_cons (pg_name (i := 7) Xd.nd rfl (Or.inl rfl)) (pgs_cons (pg_name (i := 8) Xd.nd rfl (Or.inl rfl)) pgs_nil)))) (fun _ _ _ _ _ => pts_nil)
      (fun _ _ _ _ _ => pe_tup (pa_cons (pe_ix ix_seq (pv 2) (pv 7) (fun _ _ => rfl)) (pa_cons (pe_ix ix_seq (pv 2) (pv 8) (fun _ _ => rfl)) pa_nil))) (fun _ _ _ _ _ => pe_bl))
      (pss_one (ps_ret (pe_tup (pa_cons (pv 1) (pa_cons (pe_callTy call_tuple_of (by rfl) (Xq C) (by decide +kernel) (pa_cons (pe_callB (Z7f rfl (Nat.lt_of_le_of_lt (Nat.add_le_add_left (by decide : 8 ≤ 64) _) hr.units)) (by rfl) (Z7u C) (by decide +kernel) (pa_cons (pv 6) pa_nil)) pa_nil)) pa_nil)))))) (by decide) (by decide) (by decide) (by decide))
      Yi)
    (Zm (Y4 (f_tup (Zb (Zg (pv 1)) (Zb (f_tup Zh Zf) Zh)) (Za (Za Zf))))))))
theorem Z7z : GT P w K mg base 2 (gY "rounds_of") Z0w 1 Z15 := by
  have G_numbered := @Z9c P base w K mg C
  have G_first_key := @Z7y P base w K mg C
  have G_next_key := @Z9d P base w K mg C
  refine fnFD (Nu C) Yu fun cdv A outer s H E hr hG => ?_
  exact (Zj (Wl (i := 1) Yu.nd rfl (Or.inl rfl) (Z50 (Zb (Zr rfl G_numbered (hr.mono (by omega)) hG (by rfl) (Z4k C) (Ja C).kp (Z4e C) .nil Dfl.nil tk (Zb (f_lc (own := [("node", 4)]) (Xb 4) (by decide) rfl Yu.nd (Wm rfl (Zg (pv 0))) (blkOk_by (N := Z0v) (sc := defScope Xe) (by decide +kernel)) (fun _ _ _ _ _ => (pg_name (i := 4) Yu.nd rfl (by first | exact Or.inl rfl | exact Or.inr rfl))) (fun _ _ _ _ _ => Yw) (fun _ _ _ _ _ => (Zr rfl G_first_key (hr.mono (by omega)) hG (by rfl) (Z7q C) (Nt C).kp (Z7m C) .nil Dfl.nil X6 (Zb (Zg (pv 4)) Zh) (Za Zf)))) Zh) (Za Zf)) Zh) (Za Zf)))
    (Zm (Z9v (passes_of rfl) (U3 rfl f_bl)
      (Zj (Wl (i := 2) Yu.nd rfl (Or.inr rfl) (f_ix (U4 hr.units rfl) (Zg (pv 1)) (Z8d f_int) (fun _ _ => rfl)))
      (Zj (Wl (i := 3) Yu.nd rfl (Or.inl rfl) (Zr rfl G_numbered (hr.mono (by omega)) hG (by rfl) (Z4k C) (Ja C).kp (Z4e C) .nil Dfl.nil tk (Zb (f_lc (own := [("node", 4), ("own", 5)]) (Zcy 4 5) (by decide) rfl Yu.nd (Zix rfl (by rfl) (Zlo C) (Zb (Zg (pv 0)) (Zb (Zg (pv 2)) Zh))) (blkOk_by (N := Z0v) (sc := defScope Xe) (by decide +kernel)) (fun _ _ _ _ _ => (pg_tup rfl (pgs_cons (pg_name (i := 4) Yu.nd rfl (Or.inl rfl)) (pgs_cons (pg_name (i := 5) Yu.nd rfl (Or.inl rfl)) pgs_nil)))) (fun _ _ _ _ _ => Yw) (fun _ _ _ _ _ => (Zr rfl G_next_key (hr.mono (by omega)) hG (by rfl) (Z99 C) (Z1b C).kp (Z94 C) .nil Dfl.nil X6 (Zb (Zg (pv 4)) (Zb (Zg (pv 5)) (Zb (Zg (pv 2)) Zh))) (Za (Za (Za Zf)))))) Zh) (Za Zf)))
      (Zj (Xz (Yk (o_eq hr.units rfl) (Zg (pv 3)) (Zg (pv 2)) (nomark _))
        (Zm (Y4 (Zg (pv 1))))
        Yi)
      (Zm (Z0l (f_bm rfl PySem.F.plainAttrs_list PySem.F.slot_list_append PySem.F.type_list_append m_append (Zg (pv 1)) (Zb (Zg (pv 3)) Zh))))))))))
theorem Zce : GT P w K mg base 1 (gY "shifted") Z3s 2 Qg := by
  refine fnFD (Z2a C) X7 fun cdv A outer s H E hr hG => ?_
  exact (Zj (Ub (Zg (pv 0)) (Q4 rfl rfl (Zu (Y5 (i := 2) X7.nd rfl (Or.inl rfl)) (Zu (Y5 (i := 3) X7.nd rfl (Or.inl rfl)) (Zu (Y5 (i := 4) X7.nd rfl (Or.inl rfl)) V6)))))
    (Zj (Xz (Yk (o_eq hr.units rfl) (Zg (pv 2)) (Xl [115,101,113,117,101,110,99,101]) (nomark _))
      (Zm (Wl (i := 4) X7.nd rfl (Or.inl rfl) (Yc (Jq rfl) (by rfl) (Xq C) (by decide +kernel) (Zb (f_lc (own := [("number", 5)]) (Xb 5) (by decide) rfl X7.nd (Wm rfl (Zg (pv 4))) (blkOk_by (N := Z3r) (sc := defScope Wy) (by decide +kernel)) (fun _ _ _ _ _ => (pg_name (i := 5) X7.nd rfl (by first | exact Or.inl rfl | exact Or.inr rfl))) (fun _ _ _ _ _ => Yw) (fun _ _ _ _ _ => (f_op (Ww rfl) (Zg (pv 5)) (Zg (pv 1))))) Zh))))
      (Zm (Xz (Yk (o_eq hr.units rfl) (Zg (pv 2)) (Xl [109,97,112,112,105,110,103]) (nomark _))
        (Zm (Wl (i := 4) X7.nd rfl (Or.inl rfl) (Yc (Jq rfl) (by rfl) (Xq C) (by decide +kernel) (Zb (f_lc (own := [("key", 6), ("value", 7)]) (Zcy 6 7) (by decide) rfl X7.nd (Wm rfl (Zg (pv 4))) (blkOk_by (N := Z3r) (sc := defScope Wy) (by decide +kernel)) (fun _ _ _ _ _ => (pg_tup rfl (pgs_cons (pg_name (i := 6) X7.nd rfl (Or.inl rfl)) (pgs_cons (pg_name (i := 7) X7.nd rfl (Or.inl rfl)) pgs_nil)))) (fun _ _ _ _ _ => Yw) (fun _ _ _ _ _ => (f_tup (Zb (f_op (Ww rfl) (Zg (pv 6)) (Zg (pv 1))) (Zb (f_op (Ww rfl) (Zg (pv 7)) (Zg (pv 1))) Zh)) (Za (Za Zf))))) Zh))))
        Yi)))
    (Zm (Y4 (f_tup (Zb (Zg (pv 2)) (Zb (Zg (pv 3)) (Zb (Zg (pv 4)) Zh))) (Za (Za (Za Zf))))))))
theorem Ze4 : GT P w K mg base 2 (gY "joined") Z5z 2 Z65 := by
  have G_shifted := @Zce P base w K mg C
  refine fnFD (Z4f C) Z3t fun cdv A outer s H E hr hG => ?_
  exact (Zm (Y4 (f_op (Ww rfl) (Yc (Z9y rfl) (by rfl) (Z2c C) (by decide +kernel) (Zb (Z0f rfl (Fx.FldOk.cons (Yd C) (Y8 C) .nil) (Zg (pv 0))) Zh)) (f_lc (own := [("node", 2)]) (Xb 2) (by decide) rfl Z3t.nd (Wm rfl (Z0f rfl (Fx.FldOk.cons (Yd C) (Y8 C) .nil) (Zg (pv 1)))) (blkOk_by (N := Za4) (sc := defScope Ut) (by decide +kernel)) (fun _ _ _ _ _ => (pg_name (i := 2) Z3t.nd rfl (by first | exact Or.inl rfl | exact Or.inr rfl))) (fun _ _ _ _ _ => Yw) (fun _ _ _ _ _ => (Zr rfl G_shifted (hr.mono (by omega)) hG (by rfl) (Zcb C) (Z2a C).kp (Zc6 C) .nil Dfl.nil X6 (Zb (Zg (pv 2)) (Zb (Zw (Qq rfl) (by rfl) (Wv C) (by decide +kernel) (Zb (Z0f rfl (Fx.FldOk.cons (Yd C) (Y8 C) .nil) (Zg (pv 0))) Zh)) Zh)) (Za (Za Zf))))))))
theorem Zau : GT P w K mg base 4 (gY "apart") Z8m 2 Z66 := by
  have G_require_graphs := @Vn P base w K mg C
  have G_first_unlike := @Z4q P base w K mg C
  have G_rounds_of := @Z7z P base w K mg C
  have G_joined := @Ze4 P base w K mg C
  refine fnFD (Z37 C) Zfh fun cdv A outer s H E hr hG => ?_
  exact (Zj (Z0l (Z8s rfl G_require_graphs (hr.mono (by omega)) hG (by rfl) (Vm C) (W7 C).kp tk (Zb (Zg (pv 0)) (Zb (Zg (pv 1)) Zh)) (Za (Za Zf))))
    (Zm (Y4 (Zr rfl G_first_unlike (hr.mono (by omega)) hG (by rfl) (Z4l C) (Uk C).kp (Z4d C) .nil Dfl.nil tk (Zb (Zr rfl G_rounds_of (hr.mono (by omega)) hG (by rfl) (Z7r C) (Nu C).kp (Z7n C) .nil Dfl.nil tk (Zb (Zr rfl G_joined (hr.mono (by omega)) hG (by rfl) (Ze2 C) (Z4f C).kp (Zdz C) .nil Dfl.nil tk (Zb (Zg (pv 0)) (Zb (Zg (pv 1)) Zh)) (Za (Za Zf))) Zh) (Za Zf)) (Zb (Z0f rfl (Fx.FldOk.cons (Yd C) (Xa C) .nil) (Zg (pv 0))) (Zb (f_op (Ww rfl) (Z0f rfl (Fx.FldOk.cons (Yd C) (Xa C) .nil) (Zg (pv 1))) (Zw (Qq rfl) (by rfl) (Wv C) (by decide +kernel) (Zb (Z0f rfl (Fx.FldOk.cons (Yd C) (Y8 C) .nil) (Zg (pv 0))) Zh))) Zh))) (Za (Za (Za Zf)))))))
theorem Zg2 : GT P w K mg base 5 (gY "equal") Z8n 2 Z67 := by
  have G_apart := @Zau P base w K mg C
  refine fnFD (Z6d C) Zfi fun cdv A outer s H E hr hG => ?_
  exact (Zm (Y4 (Z2s o_is (Zr rfl G_apart (hr.mono (by omega)) hG (by rfl) (Zar C) (Z37 C).kp (Zao C) .nil Dfl.nil tk (Zb (Zg (pv 0)) (Zb (Zg (pv 1)) Zh)) (Za (Za Zf))) Z88 (nomark _))))
theorem Z4r : FnOk P w K mg base CX0 1 ((mY "NoDepth" "__init__") K) (fdOf K ((mY "NoDepth" "__init__") K)) Vp (spI (He.ga K "NoDepth") "depth") := by
  refine Zck (Nv C) Z3u (fun vs H Q E h => ?_) (fun cdv A outer s H vs Q E hr h => ?_)
  · obtain ⟨a,v,rfl,_⟩ := h; rfl
  · obtain ⟨a,v,rfl,ha,hq⟩ := h
    exact ⟨_, (pss_cons (ps_expr (Z3f (by rfl) (Z00 C) (bs_ C) (by decide) (pa_cons (pv 0) (pa_cons pe_str pa_nil)))) (pss_one (ps_ost (pv 0) (pv 1)))), ⟨_, rfl, ⟨a, He.ga K "NoDepth", _, rfl, by decide, Z1c C, ha, ⟨v, rfl, _, rfl, a, He.ga K "NoDepth", rfl, Z1c C, Zc9 C, .inl ⟨ha, fun dx nd ne => hq dx nd ne⟩⟩⟩⟩⟩
theorem Jk : GT P w K mg base 3 (gY "require_depth") Ue 2 Xw := by
  have G_is_from := @Z0d P base w K mg C
  have I_NoDepth_init := @Z4r P base w K mg C
  obtain ⟨ds_NoDepth_init_1,dv_NoDepth_init_1,db_NoDepth_init_1⟩ := Z2b C
  refine fnFD (We C) Z2v fun cdv A outer s H E hr hG => ?_
  exact (Zm (Xz (Ua (U3 rfl (Zr rfl G_is_from (hr.mono (by omega)) hG (by rfl) (Z09 C) (U8 C).kp (Z06 C) .nil Dfl.nil tk (Zb (Zg (pv 0)) (Zb f_int (Zb (Zg (pv 1)) Zh))) (Za (Za (Za Zf))))))
      (Zm (Z04 rfl rfl tk (Z1c C) (Z5k C).1 (Z5k C).2 I_NoDepth_init (hr.mono (by omega)) db_NoDepth_init_1 dv_NoDepth_init_1 (fun _ _ => .nil) (by rfl) (Zcc C) (Zb (Zg (pv 0)) Zh) (Za Zf) (Zc8 C)))
      Yi))
theorem Zcf (n : Nat) (R : Rc_1) (G_tree_at : GT P w K mg base (0 + n) (gY "tree_at") Q8 3 R.tree_at) : GT P w K mg base (0 + n + 1) (gY "tree_at") Q8 3 (runF 10 (Vu R)) := by
  refine fnFD (U9 C) W4 fun cdv A outer s H E hr hG => ?_
  exact (Zj (Ub (f_ix (U4 hr.units rfl) (Zg (pv 0)) (Zg (pv 1)) (fun _ _ => rfl)) (Q4 rfl rfl (Zu (Y5 (i := 3) W4.nd rfl (Or.inl rfl)) (Zu (Y5 (i := 4) W4.nd rfl (Or.inl rfl)) (Zu (Y5 (i := 5) W4.nd rfl (Or.inl rfl)) V6)))))
    (Zj (Xz (Yk (o_eq hr.units rfl) (Zg (pv 3)) (Xl [115,99,97,108,97,114]) (nomark _))
      (Zm (Y4 (f_tup (Zb (Zg (pv 3)) (Zb (Zg (pv 4)) (Zb (Zg (pv 5)) Zh))) (Za (Za (Za Zf))))))
      Yi)
    (Zj (Xz (Yk (o_eq hr.units rfl) (Zg (pv 2)) f_int (nomark _))
      (Zm (Y4 (f_tup (Zb (Zg (pv 3)) (Zb (Zg (pv 4)) (Zb (f_if (Yk (o_eq hr.units rfl) (Zg (pv 3)) (Xl [115,101,113,117,101,110,99,101]) (nomark _)) (Zw (Qq rfl) (by rfl) (Wv C) (by decide +kernel) (Zb (Zg (pv 5)) Zh)) Z88) Zh))) (Za (Za (Za Zf))))))
      Yi)
    (Zj (Xz (Yk (o_eq hr.units rfl) (Zg (pv 3)) (Xl [115,101,113,117,101,110,99,101]) (nomark _))
      (Zm (Y4 (f_tup (Zb (Zg (pv 3)) (Zb (Zg (pv 4)) (Zb (Yc (Jq rfl) (by rfl) (Xq C) (by decide +kernel) (Zb (f_lc (own := [("one", 9)]) (Xb 9) (by decide) rfl W4.nd (Wm rfl (Zg (pv 5))) (blkOk_by (N := Z3w) (sc := defScope Wz) (by decide +kernel)) (fun _ _ _ _ _ => (pg_name (i := 9) W4.nd rfl (by first | exact Or.inl rfl | exact Or.inr rfl))) (fun _ _ _ _ _ => Yw) (fun _ _ _ _ _ => (Zr rfl G_tree_at (hr.mono (by omega)) hG (by rfl) (Z0b C) (U9 C).kp (Z07 C) .nil Dfl.nil X6 (Zb (Zg (pv 0)) (Zb (Zg (pv 9)) (Zb (f_op Z6s (Zg (pv 2)) f_int) Zh))) (Za (Za (Za Zf)))))) Zh)) Zh))) (Za (Za (Za Zf))))))
      Yi)
    (Zj (Z1g (i := 6) (own := [("key", 7), ("value", 8)]) (Zcy 7 8) (by decide) rfl W4.nd rfl rfl (sw_true rfl rfl rfl (by decide +kernel)) (Wm rfl (Zg (pv 5))) (blkOk_by (N := Z3w) (sc := defScope Wz) (by decide +kernel)) (fun _ _ _ _ _ => (pg_tup rfl (pgs_cons (pg_name (i := 7) W4.nd rfl (Or.inl rfl)) (pgs_cons (pg_name (i := 8) W4.nd rfl (Or.inl rfl)) pgs_nil)))) (fun _ _ _ _ _ => Yw) (fun _ _ _ _ _ => (f_tup (Zb (Zr rfl G_tree_at (hr.mono (by omega)) hG (by rfl) (Z0b C) (U9 C).kp (Z07 C) .nil Dfl.nil X6 (Zb (Zg (pv 0)) (Zb (Zg (pv 7)) (Zb (f_op Z6s (Zg (pv 2)) f_int) Zh))) (Za (Za (Za Zf)))) (Zb (Zr rfl G_tree_at (hr.mono (by omega)) hG (by rfl) (Z0b C) (U9 C).kp (Z07 C) .nil Dfl.nil X6 (Zb (Zg (pv 0)) (Zb (Zg (pv 8)) (Zb (f_op Z6s (Zg (pv 2)) f_int) Zh))) (Za (Za (Za Zf)))) Zh)) (Za (Za Zf)))))
    (Zm (Y4 (f_tup (Zb (Zg (pv 3)) (Zb (Zg (pv 4)) (Zb (Yc (Jq rfl) (by rfl) (Xq C) (by decide +kernel) (Zb (Zg (pv 6)) Zh)) Zh))) (Za (Za (Za Zf)))))))))))
theorem fam_1 : ∀ n : Nat, GT P w K mg base (0 + n) (gY "tree_at") Q8 3 (Zc2 n).tree_at := by
  intro n
  induction n with
  | zero => exact Z75 rfl
  | succ n ih =>
    have h_tree_at := ih
    exact Zcf C n _ h_tree_at
theorem Zcg : GT P w K mg base 55 (gY "tree_at") Q8 3 Z49 := (fam_1 C 55)
theorem Zav : GT P w K mg base 1 (gY "inner") Z8o 1 Nf := by
  refine fnFD (Z38 C) Z35 fun cdv A outer s H E hr hG => ?_
  exact (Zj (Xz (Yk (o_eq hr.units rfl) (f_ix (U4 hr.units rfl) (Zg (pv 0)) f_int (fun _ _ => rfl)) (Xl [115,99,97,108,97,114]) (nomark _))
      (Zm (Y4 (Z50 Zh Zf)))
      Yi)
    (Zj (Xz (Yk (o_eq hr.units rfl) (f_ix (U4 hr.units rfl) (Zg (pv 0)) f_int (fun _ _ => rfl)) (Xl [115,101,113,117,101,110,99,101]) (nomark _))
      (Zm (Y4 (Yc (Z9y rfl) (by rfl) (Z2c C) (by decide +kernel) (Zb (f_ix (U4 hr.units rfl) (Zg (pv 0)) f_int (fun _ _ => rfl)) Zh))))
      Yi)
    (Zm (Y4 (f_lc2 (own := [("entry", 1), ("number", 2)]) (vs1 := [2]) (Xb 1) (by decide) (Xb 2) (by decide) rfl Z35.nd (Wm rfl (f_ix (U4 hr.units rfl) (Zg (pv 0)) f_int (fun _ _ => rfl))) (blkOk_by (N := Zd7) (sc := defScope Jy) (by decide +kernel)) (by decide) (fun _ _ _ _ _ => (pg_name (i := 1) Z35.nd rfl (by first | exact Or.inl rfl | exact Or.inr rfl))) (fun _ _ _ _ _ => (Wm rfl (Zg (pv 1)))) (fun _ _ _ _ _ => (pg_name (i := 2) Z35.nd rfl (by first | exact Or.inl rfl | exact Or.inr rfl))) (fun _ _ _ _ _ => (Zg (pv 2))))))))
theorem Zlq : GT P w K mg base 2 (gY "met") Zie 2 Zj6 := by
  have G_inner := @Zav P base w K mg C
  refine fnFD (Ze0 C) Zd8 fun cdv A outer s H E hr hG => ?_
  exact (Zj (Zct (i := 2) (j := 3) rfl Zd8.nd rfl rfl (by decide) rfl rfl (Zb (Zi2 pe_dnewK) (Zb (Zky rfl (Yc (Zda rfl rfl) (by rfl) (Z2c C) (by decide +kernel) (Zb (Zg (pv 1)) Zh)) V5 V5 (Jp (Z8d f_int))) Zh)) (Za (Za Zf)) (by rfl))
    (Zj (Z9v (passes_of rfl) (Yk (o_neL hr.units rfl) (Zg (pv 3)) (Z50 Zh Zf) (nomark _))
      (Zj (Wl (i := 4) Zd8.nd rfl (Or.inl rfl) (f_bm0 rfl PySem.F.plainAttrs_list PySem.F.slot_list_pop PySem.F.type_list_pop m_pop (Zg (pv 3))))
      (Zm (Xz (Yk (Z5x hr.units rfl) (Zg (pv 4)) (Zg (pv 2)) rfl)
        (Zj (Ub f_bl (Z3h hr.units (Zg (pv 2)) (Zg (pv 4))))
        (Zm (Z0l (f_bm rfl PySem.F.plainAttrs_list PySem.F.slot_list_extend PySem.F.type_list_extend m_extend (Zg (pv 3)) (Zb (Zky rfl (Zr rfl G_inner (hr.mono (by omega)) hG (by rfl) (Zas C) (Z38 C).kp (Zap C) .nil Dfl.nil tk (Zb (f_ix (U4 hr.units rfl) (Zg (pv 0)) (Zg (pv 4)) (fun _ _ => rfl)) Zh) (Za Zf)) V5 V5 (Jp (Z8d f_int))) Zh)))))
        Yi))))
    (Zm (Y4 (Yc (Zda rfl rfl) (by rfl) (Z2c C) (by decide +kernel) (Zb (Zg (pv 2)) Zh))))))
theorem Z32 : GT P w K mg base 4 (gY "unfolded_size") Ug 2 Uj := by
  have G_require_graphs := @Vn P base w K mg C
  have G_require_depth := @Jk P base w K mg C
  have G_met := @Zlq P base w K mg C
  have G_inner := @Zav P base w K mg C
  obtain ⟨t_MOST_DEPTH,g_MOST_DEPTH⟩ := Z6f C
  refine fnFD (Vy C) Zx fun cdv A outer s H E hr hG => ?_
  exact (Zj (Z0l (Z8s rfl G_require_graphs (hr.mono (by omega)) hG (by rfl) (Vm C) (W7 C).kp tk (Zb (Zg (pv 0)) Zh) (Za Zf)))
    (Zj (Z0l (Zr rfl G_require_depth (hr.mono (by omega)) hG (by rfl) (Jj C) (We C).kp (Jh C) .nil Dfl.nil tk (Zb (Zg (pv 1)) (Zb (f_c (pe_glob (v := .int (100)) rfl g_MOST_DEPTH ⟨_,rfl⟩) (fun _ _ => .int _)) Zh)) (Za (Za Zf))))
    (Zj (Wl (i := 2) Zx.nd rfl (Or.inl rfl) (Zr rfl G_met (hr.mono (by omega)) hG (by rfl) (Zlm C) (Ze0 C).kp (Zll C) .nil Dfl.nil tk (Zb (Z0f rfl (Fx.FldOk.cons (Yd C) (Y8 C) .nil) (Zg (pv 0))) (Zb (Z50 (Zb (Z0f rfl (Fx.FldOk.cons (Yd C) (Xa C) .nil) (Zg (pv 0))) Zh) (Za Zf)) Zh)) (Za (Za Zf))))
    (Zj (Wl (i := 3) Zx.nd rfl (Or.inr rfl) (f_dc (own := [("number", 5)]) (Xb 5) (by decide) rfl Zx.nd (Wm rfl (Zg (pv 2))) (blkOk_by (N := Yo) (sc := defScope Y9) (by decide +kernel)) (fun _ _ _ _ _ => (pg_name (i := 5) Zx.nd rfl (by first | exact Or.inl rfl | exact Or.inr rfl))) (fun _ _ _ _ _ => (Zg (pv 5))) (fun _ _ _ _ _ => f_int)))
    (Zj (Z3e (passes_of rfl) rfl (Q5 (by rfl) (Z0c C) (Zb (Zg (pv 1)) Zh) (Za Zf)) (Y5 (i := 4) Zx.nd rfl (Or.inl rfl))
      (Zm (Wl (i := 3) Zx.nd rfl (Or.inr rfl) (f_dc (own := [("number", 5)]) (Xb 5) (by decide) rfl Zx.nd (Wm rfl (Zg (pv 2))) (blkOk_by (N := Yo) (sc := defScope Y9) (by decide +kernel)) (fun _ _ _ _ _ => (pg_name (i := 5) Zx.nd rfl (by first | exact Or.inl rfl | exact Or.inr rfl))) (fun _ _ _ _ _ => (Zg (pv 5))) (fun _ _ _ _ _ => (f_op (Ww rfl) f_int (Zw (c_sum rfl rfl) (by rfl) (Zlp C) (by decide +kernel) (Zb (f_lc (own := [("other", 6)]) (Xb 6) (by decide) rfl Zx.nd (Wm rfl (Zr rfl G_inner (hr.mono (by omega)) hG (by rfl) (Zas C) (Z38 C).kp (Zap C) .nil Dfl.nil X6 (Zb (f_ix (U4 hr.units rfl) (Z0f rfl (Fx.FldOk.cons (Yd C) (Y8 C) .nil) (Zg (pv 0))) (Zg (pv 5)) (fun _ _ => rfl)) Zh) (Za Zf))) (by first | exact (blkOk_by (N := Yo) (sc := { kind := .function, names := [(".0", .local), ("number", .local), ("sum", .globalImplicit), ("inner", .globalImplicit), ("graph", .free), ("sizes", .free)], isGenerator := false, isCoroutine := false }) (by decide +kernel)) | exact (blkOk_by (N := Yo) (sc := { kind := .function, names := [(".0", .local), ("number", .local), ("sum", .globalImplicit), ("inner", .globalImplicit), ("graph", .cell), ("sizes", .cell)], isGenerator := false, isCoroutine := false }) (by decide +kernel)) | exact (blkOk_by (N := Yo) (sc := { kind := .function, names := [(".0", .local), ("number", .cell), ("sum", .globalImplicit), ("inner", .globalImplicit), ("graph", .free), ("sizes", .free)], isGenerator := false, isCoroutine := false }) (by decide +kernel)) | exact (blkOk_by (N := Yo) (sc := { kind := .function, names := [(".0", .local), ("number", .cell), ("sum", .globalImplicit), ("inner", .globalImplicit), ("graph", .cell), ("sizes", .cell)], isGenerator := false, isCoroutine := false }) (by decide +kernel))) (fun _ _ _ _ _ => (pg_name (i := 6) Zx.nd rfl (by first | exact Or.inl rfl | exact Or.inr rfl))) (fun _ _ _ _ _ => Yw) (fun _ _ _ _ _ => (f_ix (U4 hr.units rfl) (Zg (pv 3)) (Zg (pv 6)) (fun _ _ => rfl)))) Zh))))))))
    (Zm (Y4 (f_ix (U4 hr.units rfl) (Zg (pv 3)) (Z0f rfl (Fx.FldOk.cons (Yd C) (Xa C) .nil) (Zg (pv 0))) (fun _ _ => rfl)))))))))
theorem Z33 : FnOk P w K mg base CX0 1 ((mY "TooLarge" "__init__") K) (fdOf K ((mY "TooLarge" "__init__") K)) V1 (spI (He.ga K "TooLarge") "limit") := by
  refine Zck (Ji C) Z2w (fun vs H Q E h => ?_) (fun cdv A outer s H vs Q E hr h => ?_)
  · obtain ⟨a,v,rfl,_⟩ := h; rfl
  · obtain ⟨a,v,rfl,ha,hq⟩ := h
    exact ⟨_, (pss_cons (ps_expr (Z3f (by rfl) (Z00 C) (bs_ C) (by decide) (pa_cons (pv 0) (pa_cons pe_str pa_nil)))) (pss_one (ps_ost (pv 0) (pv 1)))), ⟨_, rfl, ⟨a, He.ga K "TooLarge", _, rfl, by decide, Ny C, ha, ⟨v, rfl, _, rfl, a, He.ga K "TooLarge", rfl, Ny C, Z97 C, .inl ⟨ha, fun dx nd ne => hq dx nd ne⟩⟩⟩⟩⟩
theorem Z9e : GT P w K mg base 56 (gY "unfolded") Z22 2 Vk := by
  have G_require_graphs := @Vn P base w K mg C
  have G_require_depth := @Jk P base w K mg C
  have G_tree_at := @Zcg P base w K mg C
  have G_unfolded_size := @Z32 P base w K mg C
  have I_TooLarge_init := @Z33 P base w K mg C
  obtain ⟨ds_TooLarge_init_1,dv_TooLarge_init_1,db_TooLarge_init_1⟩ := Z1q C
  obtain ⟨t_MOST_UNFOLDED,g_MOST_UNFOLDED⟩ := Z30 C
  obtain ⟨t_MOST_TREES,g_MOST_TREES⟩ := Z6g C
  refine fnFD (Jb C) Z8q fun cdv A outer s H E hr hG => ?_
  exact (Zj (Z0l (Z8s rfl G_require_graphs (hr.mono (by omega)) hG (by rfl) (Vm C) (W7 C).kp tk (Zb (Zg (pv 0)) Zh) (Za Zf)))
    (Zj (Z0l (Zr rfl G_require_depth (hr.mono (by omega)) hG (by rfl) (Jj C) (We C).kp (Jh C) .nil Dfl.nil tk (Zb (Zg (pv 1)) (Zb (f_c (pe_glob (v := .int (50)) rfl g_MOST_UNFOLDED ⟨_,rfl⟩) (fun _ _ => .int _)) Zh)) (Za (Za Zf))))
    (Zj (Xz (Yk Zi9 (Zr rfl G_unfolded_size (hr.mono (by omega)) hG (by rfl) (Z31 C) (Vy C).kp (Z2z C) .nil Dfl.nil tk (Zb (Zg (pv 0)) (Zb (Zg (pv 1)) Zh)) (Za (Za Zf))) (f_c (pe_glob (v := .int (3000)) rfl g_MOST_TREES ⟨_,rfl⟩) (fun _ _ => .int _)) (nomark _))
      (Zm (Z04 rfl rfl tk (Ny C) (Z4i C).1 (Z4i C).2 I_TooLarge_init (hr.mono (by omega)) db_TooLarge_init_1 dv_TooLarge_init_1 (fun _ _ => .nil) (by rfl) (Z9a C) (Zb (f_c (pe_glob (v := .int (3000)) rfl g_MOST_TREES ⟨_,rfl⟩) (fun _ _ => .int _)) Zh) (Za Zf) (Z96 C)))
      Yi)
    (Zm (Y4 (Zr rfl G_tree_at (hr.mono (by omega)) hG (by rfl) (Z0b C) (U9 C).kp (Z07 C) .nil Dfl.nil tk (Zb (Z0f rfl (Fx.FldOk.cons (Yd C) (Y8 C) .nil) (Zg (pv 0))) (Zb (Z0f rfl (Fx.FldOk.cons (Yd C) (Xa C) .nil) (Zg (pv 0))) (Zb (Zg (pv 1)) Zh))) (Za (Za (Za Zf)))))))))
theorem Z6j : GT P w K mg base 57 (gY "_law_right") Jz 4 Ws := by
  have G_Graph_init := @Z6i P base w K mg C
  obtain ⟨ds_Graph_init_1,dv_Graph_init_1,db_Graph_init_1⟩ := Z4c C
  have G__law_written := @Z4p P base w K mg C
  have G_apart := @Zau P base w K mg C
  have G_equal := @Zg2 P base w K mg C
  have G_unfolded := @Z9e P base w K mg C
  refine fnFD (U7 C) V2 fun cdv A outer s H E hr hG => ?_
  exact (Zj (Zhy (i := 4) (j := 5) (l := 6) rfl V2.nd rfl rfl rfl (by decide) (by decide) (by decide) rfl rfl rfl (Zb (Zgx rfl (Yd C) (Zaq C) G_Graph_init (hr.mono (by omega)) hG (by rfl) (Z39 C) db_Graph_init_1 dv_Graph_init_1 (fun _ _ => .nil) tk (Zb (Zg (pv 0)) (Zb (Zg (pv 1)) Zh)) (Za (Za Zf))) (Zb (Zgx rfl (Yd C) (Zaq C) G_Graph_init (hr.mono (by omega)) hG (by rfl) (Z39 C) db_Graph_init_1 dv_Graph_init_1 (fun _ _ => .nil) tk (Zb (Zg (pv 2)) (Zb (Zg (pv 3)) Zh)) (Za (Za Zf))) (Zb Z88 Zh))) (Za (Za (Za Zf))) (by rfl))
    (Zj (Z3e (passes_of rfl) rfl (Q5 (by rfl) (Z0c C) (Zb (f_op (Ww rfl) (Zw (Qq rfl) (by rfl) (Wv C) (by decide +kernel) (Zb (Zg (pv 0)) Zh)) (Zw (Qq rfl) (by rfl) (Wv C) (by decide +kernel) (Zb (Zg (pv 2)) Zh))) Zh) (Za Zf)) (Y5 (i := 7) V2.nd rfl (Or.inl rfl))
      (Zj (Zct (i := 8) (j := 9) rfl V2.nd rfl rfl (by decide) rfl rfl (Zb (Zr rfl G__law_written (hr.mono (by omega)) hG (by rfl) (Xy C) (Yr C).kp (Xx C) .nil Dfl.nil tk (Zb (Zr rfl G_unfolded (hr.mono (by omega)) hG (by rfl) (Z4m C) (Jb C).kp (Z4g C) .nil Dfl.nil tk (Zb (Zg (pv 4)) (Zb (Zg (pv 7)) Zh)) (Za (Za Zf))) Zh) (Za Zf)) (Zb (Zr rfl G__law_written (hr.mono (by omega)) hG (by rfl) (Xy C) (Yr C).kp (Xx C) .nil Dfl.nil tk (Zb (Zr rfl G_unfolded (hr.mono (by omega)) hG (by rfl) (Z4m C) (Jb C).kp (Z4g C) .nil Dfl.nil tk (Zb (Zg (pv 5)) (Zb (Zg (pv 7)) Zh)) (Za (Za Zf))) Zh) (Za Zf)) Zh)) (Za (Za Zf)) (by rfl))
      (Zm (Xz (PW.pt (Zgp (Yk (o_ne hr.units rfl) (Zg (pv 8)) (Zg (pv 9)) (nomark _)) (Zcm (Yk o_is (Zg (pv 6)) Z88 (nomark _)))))
        (Zm (Wl (i := 6) V2.nd rfl (Or.inl rfl) (Zg (pv 7))))
        Yi))))
    (Zm (Y4 (Z5q rfl (Z2s (o_eq hr.units rfl) (Zr rfl G_apart (hr.mono (by omega)) hG (by rfl) (Zar C) (Z37 C).kp (Zao C) .nil Dfl.nil tk (Zb (Zg (pv 4)) (Zb (Zg (pv 5)) Zh)) (Za (Za Zf))) (Zg (pv 6)) (nomark _)) (Z5p (Z2s (o_eq hr.units rfl) (Zr rfl G_equal (hr.mono (by omega)) hG (by rfl) (Zg1 C) (Z6d C).kp (Zfz C) .nil Dfl.nil tk (Zb (Zg (pv 5)) (Zb (Zg (pv 4)) Zh)) (Za (Za Zf))) (Z2s o_is (Zg (pv 6)) Z88 (nomark _)) (nomark _))))))))
theorem Z9f : GT P w K mg base 1 (mY "Graph" "__eq__") Z5b 2 Zc4 := by
  refine fnFD (Z95 C) Z8r fun cdv A outer s H E hr hG => ?_
  exact (Zm (Y4 (Z5q rfl (Zkt rfl (Z6h C) (by rfl) (Y7 C) (by decide +kernel) (by rfl) (Z39 C) (Zg (pv 1))) (Z5p (Z2s (o_eq hr.units rfl) (f_tup (Zb (Z0f rfl (Fx.FldOk.cons (Yd C) (Y8 C) .nil) (Zg (pv 0))) (Zb (Z0f rfl (Fx.FldOk.cons (Yd C) (Xa C) .nil) (Zg (pv 0))) Zh)) (Za (Za Zf))) (f_tup (Zb (Z0f rfl (Fx.FldOk.cons (Yd C) (Y8 C) .nil) (Zg (pv 1))) (Zb (Z0f rfl (Fx.FldOk.cons (Yd C) (Xa C) .nil) (Zg (pv 1))) Zh)) (Za (Za Zf))) (nomark _))))))
theorem Zlr : GT P w K mg base 58 (gY "law") Zig 1 Zj7 := by
  have G__law_well := @Z7v P base w K mg C
  have G__law_one := @Z4n P base w K mg C
  have G__law_node := @Z2r P base w K mg C
  have G__law_draw := @Uv P base w K mg C
  have G__law_near := @Z7w P base w K mg C
  have G__law_right := @Z6j P base w K mg C
  have G_Graph_eq := @Z9f P base w K mg C
  refine fnFD (Zha C) Q9 fun cdv A outer s H E hr hG => ?_
  exact (Zj (Z3e (passes_of rfl) rfl (Wm rfl (f_op (Ww rfl) (f_sl rfl (Zg (pv 0)) V5 (Jp f_int)) (Z50 (Zb f_int Zh) (Za Zf)))) (Y5 (i := 1) Q9.nd rfl (Or.inl rfl))
      (Zj (Wl (i := 2) Q9.nd rfl (Or.inr rfl) (Zr rfl G__law_well (hr.mono (by omega)) hG (by rfl) (Z7s C) (Nk C).kp (Z7j C) .nil Dfl.nil tk (Zb (Zg (pv 1)) Zh) (Za Zf)))
      (Zj (Wl (i := 3) Q9.nd rfl (Or.inr rfl) (Zr rfl G__law_one (hr.mono (by omega)) hG (by rfl) (Z4j C) (J9 C).kp (Z4a C) .nil Dfl.nil tk (Zb (Zg (pv 2)) (Zb (Z50 (Zb f_int (Zb f_int Zh)) (Za (Za Zf))) Zh)) (Za (Za Zf))))
      (Zj (Ub (f_tup (Zb (f_op (Ww rfl) f_int (Zr rfl G__law_draw (hr.mono (by omega)) hG (by rfl) (Y0 C) (Zt C).kp (Zz C) .nil Dfl.nil tk (Zb (Zg (pv 2)) (Zb (f_op Z6s f_int (Zg (pv 3))) Zh)) (Za (Za Zf)))) (Zb (f_op (Ww rfl) f_int (Zr rfl G__law_draw (hr.mono (by omega)) hG (by rfl) (Y0 C) (Zt C).kp (Zz C) .nil Dfl.nil tk (Zb (Zg (pv 2)) (Zb (f_op Z6s f_int (Zg (pv 3))) Zh)) (Za (Za Zf)))) Zh)) (Za (Za Zf))) (Q4 rfl rfl (Zu (Y5 (i := 4) Q9.nd rfl (Or.inr rfl)) (Zu (Y5 (i := 5) Q9.nd rfl (Or.inr rfl)) V6))))
      (Zj (Ub (f_tup (Zb (Zw (Zkm rfl) (by rfl) (Zhb C) (by decide +kernel) (Zb (Zg (pv 4)) (Zb (f_op (Ww rfl) (f_op Z8b f_int (Zg (pv 3))) f_int) Zh))) (Zb (Zw (Zkm rfl) (by rfl) (Zhb C) (by decide +kernel) (Zb (Zg (pv 5)) (Zb (f_op Z8b f_int (Zg (pv 3))) Zh))) Zh)) (Za (Za Zf))) (Q4 rfl rfl (Zu (Y5 (i := 4) Q9.nd rfl (Or.inr rfl)) (Zu (Y5 (i := 5) Q9.nd rfl (Or.inr rfl)) V6))))
      (Zj (Z1g (i := 6) (own := [("_law_turn", 8)]) (Xb 8) (by decide) rfl Q9.nd rfl rfl (sw_true rfl rfl rfl (by decide +kernel)) (Q5 (by rfl) (Z0c C) (Zb (Zg (pv 4)) Zh) (Za Zf)) (blkOk_by (N := Zif) (sc := defScope Z60) (by decide +kernel)) (fun _ _ _ _ _ => (pg_name (i := 8) Q9.nd rfl (by first | exact Or.inl rfl | exact Or.inr rfl))) (fun _ _ _ _ _ => Yw) (fun _ _ _ _ _ => (Zr rfl G__law_node (hr.mono (by omega)) hG (by rfl) (Nz C) (Vv C).kp (Nm C) .nil Dfl.nil X6 (Zb (Zg (pv 2)) (Zb (Zg (pv 4)) (Zb (Zg (pv 3)) Zh))) (Za (Za (Za Zf))))))
      (Zj (Z1g (i := 7) (own := [("_law_turn", 8)]) (Xb 8) (by decide) rfl Q9.nd rfl rfl (sw_true rfl rfl rfl (by decide +kernel)) (Q5 (by rfl) (Z0c C) (Zb (Zg (pv 5)) Zh) (Za Zf)) (blkOk_by (N := Zif) (sc := defScope Z60) (by decide +kernel)) (fun _ _ _ _ _ => (pg_name (i := 8) Q9.nd rfl (by first | exact Or.inl rfl | exact Or.inr rfl))) (fun _ _ _ _ _ => Yw) (fun _ _ _ _ _ => (Zr rfl G__law_node (hr.mono (by omega)) hG (by rfl) (Nz C) (Vv C).kp (Nm C) .nil Dfl.nil X6 (Zb (Zg (pv 2)) (Zb (Zg (pv 5)) (Zb (Zg (pv 3)) Zh))) (Za (Za (Za Zf))))))
      (Zj (Xz (Yk (o_eq hr.units rfl) (Zr rfl G__law_draw (hr.mono (by omega)) hG (by rfl) (Y0 C) (Zt C).kp (Zz C) .nil Dfl.nil tk (Zb (Zg (pv 2)) (Zb f_int Zh)) (Za (Za Zf))) f_int (nomark _))
        (Zm (Wl (i := 7) Q9.nd rfl (Or.inl rfl) (Zr rfl G__law_near (hr.mono (by omega)) hG (by rfl) (Z7t C) (Np C).kp (Z7k C) .nil Dfl.nil tk (Zb (Zg (pv 2)) (Zb (Zg (pv 6)) (Zb (Zg (pv 3)) Zh))) (Za (Za (Za Zf))))))
        Yi)
      (Zj (Xz (Ua (U3 rfl (Zr rfl G__law_right (hr.mono (by omega)) hG (by rfl) (Z1s C) (U7 C).kp (Z1r C) .nil Dfl.nil tk (Zb (Zg (pv 6)) (Zb (Zr rfl G__law_draw (hr.mono (by omega)) hG (by rfl) (Y0 C) (Zt C).kp (Zz C) .nil Dfl.nil tk (Zb (Zg (pv 2)) (Zb (Zg (pv 4)) Zh)) (Za (Za Zf))) (Zb (Zg (pv 7)) (Zb (Zr rfl G__law_draw (hr.mono (by omega)) hG (by rfl) (Y0 C) (Zt C).kp (Zz C) .nil Dfl.nil tk (Zb (Zg (pv 2)) (Zb (Zw (Qq rfl) (by rfl) (Wv C) (by decide +kernel) (Zb (Zg (pv 7)) Zh)) Zh)) (Za (Za Zf))) Zh)))) (Za (Za (Za (Za Zf)))))))
        (Zm (Y4 f_bl))
        Yi)
      (Zm (Xz (Ua (U3 rfl (Zr rfl G__law_right (hr.mono (by omega)) hG (by rfl) (Z1s C) (U7 C).kp (Z1r C) .nil Dfl.nil tk (Zb (Zg (pv 6)) (Zb (Zr rfl G__law_draw (hr.mono (by omega)) hG (by rfl) (Y0 C) (Zt C).kp (Zz C) .nil Dfl.nil tk (Zb (Zg (pv 2)) (Zb (Zg (pv 4)) Zh)) (Za (Za Zf))) (Zb (f_sl rfl (Zg (pv 6)) V5 V5) (Zb (Zr rfl G__law_draw (hr.mono (by omega)) hG (by rfl) (Y0 C) (Zt C).kp (Zz C) .nil Dfl.nil tk (Zb (Zg (pv 2)) (Zb (Zg (pv 4)) Zh)) (Za (Za Zf))) Zh)))) (Za (Za (Za (Za Zf)))))))
        (Zm (Y4 f_bl))
        Yi)))))))))))
    (Zm (Y4 f_bl)))
end
end Ap
set_option maxHeartbeats 4000000
namespace Ap
open PySem PySem.Spec PyProof.Rows L2 SX Fx
theorem Uw {Z : Sto} {w : Nat} (hw : Wel Z w) (n : Nat) (h0 : 0 < n) (h1 : n < 2 ^ 200) :
    ∃ (r : Nat) (Z' : Sto), r < n ∧ Zk [.loc w, .int n] Z = .ok (.int r) Z' ∧ Kp w Z Z' := by
  have hw' := hw
  obtain ⟨a,b,c,hw⟩ := hw
  have hn : (0 : Int) < (n : Int) := by omega
  have hn2 : ((n : Int) < 1606938044258990275541962092341162602522202993782792835301376) := by omega
  by_cases ha : 0 < a
  · obtain ⟨r,hr,e⟩ := modN a h0
    refine ⟨r, Z.set w (.lst [.int (a / n), .int b, .int c]), hr, ?_, Kp.turn hw'⟩
    simp [Zk,runF,Z0z,Z1l _ hw,Zad _ _ hw,hw,ha,h0,h1,hn2,e,ixN]
  · have e1 := Xp (us := [.int a,.int b,.int (c + 1)]) hw
    generalize hx : ((b + 9973 * (c + 1) + 17) * 48271 : Int) % 2147483647 = x
    generalize hy : (x * (x / 1021 + 69621 + (c + 1)) : Int) % 2147483587 = y
    have mx : ∀ z,mulOk x z = true := fun z => hx ▸ Z5e _ _ _ (by decide) (by decide)
    have my : ∀ z,mulOk y z = true := fun z => hy ▸ Z5e _ _ _ (by decide) (by decide)
    obtain ⟨r,hr,e⟩ := modN (y * (y / 2011 + 40692) % 2147483399 / 7) h0
    refine ⟨r, Z.set w (.lst [.int a, .int b, .int (c + 1)]), hr, ?_, Kp.turn hw'⟩
    simp [Zk,runF,Z0z,Z1l _ hw,Zad _ _ hw,Z1l _ e1,hw,ha,h0,h1,hn2,e,e1,hx,hy,mx,my,ixN]
theorem Z9g {Z : Sto} {w : Nat} (hw : Wel Z w) (n : Nat) (i : Int) (hi : i = (n : Int)) (h0 : 0 < n) (h1 : n < 2 ^ 200) :
    ∃ (r : Nat) (Z' : Sto), r < n ∧ Zk [.loc w, .int i] Z = .ok (.int r) Z' ∧ Kp w Z Z' := by
  subst hi; exact Uw hw n h0 h1
theorem Z5p {Z : Sto} {w l : Nat} {xs : List Fx.T} (hw : Wel Z w) (hl : getL Z l = some xs) (hn : l ≠ w) (h0 : 0 < xs.length) (h1 : xs.length < 2 ^ 200) :
    ∃ t ∈ xs, ∃ Z', Vb [.loc w, .loc l] Z = .ok t Z' ∧ Kp w Z Z' := by
  obtain ⟨r, Z', hr, e, k⟩ := Uw hw xs.length h0 h1
  have ex : xs[r]? = some xs[r] := List.getElem?_eq_getElem hr
  refine ⟨xs[r], List.getElem_mem hr, Z', ?_, k⟩
  simp [Vb,runF,Z5g,hl,e,Z1l _ (k.getL hn hl),Fx.atI_nat ex]
theorem Zhc {Z : Sto} {w : Nat} {xs : List Fx.T} (hw : Wel Z w) (h0 : 0 < xs.length) (h1 : xs.length < 2 ^ 200) :
    ∃ t ∈ xs, ∃ Z', Vb [.loc w, .loc Z.length] (Z ++ [.lst xs]) = .ok t Z' ∧ Kp w Z Z' := by
  have k := Kp.new (Y := [.lst xs]) hw
  obtain ⟨t, ht, Z', e, k2⟩ := Z5p k.wel (Zo Z xs) (Nat.ne_of_gt hw.lt) h0 h1
  exact ⟨t, ht, Z', e, k.trans k2⟩
theorem Zls (c : Int) (Z : Sto) : ∃ a b d : Int,Uh [.int c] Z = .ok (.loc Z.length) (Z ++ [.lst [.int a,.int b,.int d]]) := by
  by_cases hb : (1000000000000000000 : Int) ≤ c <;> simp [Uh,runF,Z48,hb]
def numOk (m : Int) : Fx.T → Bool
  | .int n => decide (0 ≤ n) && decide (n ≤ m)
  | _ => false
theorem Zaw (n m : Int) (Z : Sto) : Yq [.int n,.int 0,.int m] Z = .ok (.bl (numOk m (.int n))) Z := by
  have g1 : ∀ Z, gIsi [.int n, .ty "int"] Z = some (.bl true, Z) := fun Z => rfl
  have g2 : ∀ Z, gIsi [.int n, .ty "bool"] Z = some (.bl false, Z) := fun Z => rfl
  by_cases h : 0 ≤ n <;> simp [Yq,runF,Z1n,g1,g2,numOk,h]
theorem Zax {t : Fx.T} {m : Int} {Z : Sto} (h : gIsi [t, .ty "int"] Z = some (.bl false, Z)) : Yq [t, .int 0, .int m] Z = .ok (.bl false) Z := by
  simp [Yq,runF,Z1n,h]
theorem Zlt (b : Bool) (m : Int) (Z : Sto) : Yq [.bl b,.int 0,.int m] Z = .ok (.bl false) Z := by
  have g1 : ∀ Z, gIsi [.bl b, .ty "int"] Z = some (.bl true, Z) := fun Z => rfl
  have g2 : ∀ Z, gIsi [.bl b, .ty "bool"] Z = some (.bl true, Z) := fun Z => rfl
  simp [Yq,runF,Z1n,g1,g2]
theorem Zhd {t : Fx.T} (h : ∀ i,t ≠ .loc i) (h2 : tyT t [] ≠ none) (m : Int) (Z : Sto) : Yq [t,.int 0,.int m] Z = .ok (.bl (numOk m t)) Z := by
  cases t with
  | int n => exact Zaw n m Z
  | bl b => exact Zlt b m Z
  | loc i => exact absurd rfl (h i)
  | non => exact Zax rfl
  | str l => exact Zax rfl
  | tup l => exact Zax rfl
  | frl l => exact Zax rfl
  | _ => exact absurd rfl h2
theorem Zlu {t s : List Nat} (h0 : t ≠ []) (hl : t.length ≤ Lim) (Z : Sto) : Xf [.str t,.str s] Z = .ok (.bl (t.all fun c => decide (c ∈ s))) (Z ++ [.lst (t.map fun c => .bl (decide (c ∈ s)))]) := by
  have e := Z25 (Z1 := Z) (it := itStr t) (ts := t.map fun c => Fx.T.str [c]) (put := fun x => putN [2] x (wipeR [some (.str t),some (.str s),none] [2])) (c := eYes) (e := Qz) (Ziq t) (by rw [List.length_map]; exact hl) (fun _ => true) (fun x => match x with | .str [c] => .bl (decide (c ∈ s)) | _ => .non) (fun x hx => by
    obtain ⟨c,hc,rfl⟩ := List.mem_map.mp hx
    refine ⟨_,rfl,fun acc => ⟨rfl,fun _ => ?_⟩⟩
    simp [Qz,wipeR,putN])
  have em : ((t.map fun c => Fx.T.str [c]).filter (fun _ => true)).map (fun x => match x with | .str [c] => Fx.T.bl (decide (c ∈ s)) | _ => .non) = t.map fun c => Fx.T.bl (decide (c ∈ s)) := by
    rw [List.filter_eq_self.mpr (fun _ _ => rfl),List.map_map]; rfl
  rw [em] at e
  have hb := Z1k (fun c => decide (c ∈ s)) t
  simp [Xf,runF,Z12,h0,e,hb]
def isT (t : List Nat) : Bool := List.isPrefixOf [33] t && (let r := if List.isPrefixOf [33,33] t = true then t.drop 2 else t.drop 1; !decide (r = []) && r.all fun c => decide (c ∈ Wj))
theorem are_0 (s : List Nat) (Z : Sto) : Xf [.str [],.str s] Z = .ok (.bl false) Z := by
  simp [Xf,runF,Z12]
theorem Ze5 (t : List Nat) (hl : t.length ≤ Lim) (Z : Sto) : ∃ Y,J5 [.str t] Z = .ok (.bl (isT t)) (Z ++ Y) := by
  have g1 : ∀ Z, gIsi [.str t, .ty "str"] Z = some (.bl true, Z) := fun Z => rfl
  unfold isT
  by_cases h1 : List.isPrefixOf [33] t = true
  · obtain ⟨r,hr,hrl,he⟩ : ∃ r,(if List.isPrefixOf [33,33] t = true then t.drop 2 else t.drop 1) = r ∧ r.length ≤ Lim ∧ ∀ q,Xf [.str r,.str Wj] Z = q → J5 [.str t] Z = q := by
      refine ⟨_,rfl,?_,fun q hq => ?_⟩
      · split
        · rw [List.length_drop]; omega
        · rw [List.length_drop]; omega
      · by_cases h2 : List.isPrefixOf [33,33] t = true
        · rw [if_pos h2] at hq
          have s2 : cutL t (some 2) none = t.drop 2 := Z9o t 2
          cases hF : Xf [.str (t.drop 2),.str Wj] Z <;> (rw [hF] at hq; subst hq; simp [J5,runF,Z36,g1,h1,h2,s2,hl,hF])
        · rw [if_neg h2] at hq
          have s1 : cutL t (some 1) none = t.drop 1 := Z9o t 1
          generalize t.drop 1 = D at *
          cases hF : Xf [.str D,.str Wj] Z <;> (rw [hF] at hq; subst hq; simp [J5,runF,Z36,g1,h1,h2,s1,hl,hF])
    simp only [h1,hr,Bool.true_and]
    by_cases h0 : r = []
    · subst h0
      refine ⟨[],?_⟩
      rw [he _ (are_0 _ _),List.append_nil]; rfl
    · rw [he _ (Zlu h0 hrl Z),decide_eq_false h0]
      exact ⟨_,rfl⟩
  · refine ⟨[],?_⟩
    have h1' : List.isPrefixOf [33] t = false := Bool.eq_false_iff.mpr h1
    simp [J5, runF, Z36, g1, h1']
end Ap
set_option maxHeartbeats 4000000
namespace Ap
open PySem PySem.Spec PyProof.Rows L2 SX Fx
theorem set_mid {α : Type} : ∀ (A : List α) (x y : α) (B : List α),(A ++ x :: B).set A.length y = A ++ y :: B
  | [],_,_,_ => rfl
  | a :: A,x,y,B => congrArg (a :: ·) (set_mid A x y B)
theorem Z6k (A : Sto) (ts : List Fx.T) (B : Sto) : getL (A ++ .lst ts :: B) A.length = some ts := by simp [getL]
theorem Zja {a b : Fx.T} (ha : ∀ i,a ≠ .loc i) (ha2 : tyT a [] ≠ none) (hb : ∀ i,b ≠ .loc i) (hb2 : tyT b [] ≠ none) (size : Int) (Z : Sto) : Qc [.tup [a,b],.int size] Z = .ok (.bl (numOk (size - 1) a && numOk (size - 1) b)) (Z ++ [.lst [.bl (numOk (size - 1) a),.bl (numOk (size - 1) b)]]) := by
  have e := Z25 (Z1 := Z) (ts := [a,b]) (put := fun x => putN [2] x (wipeR [some (.tup [a,b]),some (.int size),none] [2])) (c := eYes) (e := N5) (Z8u _) (by simp [Lim]) (fun _ => true) (fun x => .bl (numOk (size - 1) x)) (fun x hx => by
    refine ⟨_,rfl,fun acc => ⟨rfl,fun _ => ?_⟩⟩
    have hf : Yq [x,.int 0,.int (size - 1)] (Z ++ [.lst acc]) = .ok (.bl (numOk (size - 1) x)) (Z ++ [.lst acc]) := by
      simp only [List.mem_cons,List.not_mem_nil,or_false] at hx
      rcases hx with rfl | rfl
      · exact Zhd ha ha2 _ _
      · exact Zhd hb hb2 _ _
    simp [N5,wipeR,putN,hf])
  have em : (([a,b]).filter (fun _ => true)).map (fun x => Fx.T.bl (numOk (size - 1) x)) = [.bl (numOk (size - 1) a),.bl (numOk (size - 1) b)] := rfl
  rw [em] at e
  have g1 : ∀ Z, gIsi [.tup [a, b], .ty "tuple"] Z = some (.bl true, Z) := fun Z => rfl
  generalize numOk (size - 1) a = A at *
  generalize numOk (size - 1) b = B at *
  simp [-Zbr,Qc,runF,Z5h,g1,e,bools]
def sSc : List Nat := [115,99,97,108,97,114]
def sSeq : List Nat := [115,101,113,117,101,110,99,101]
def sMap : List Nat := [109,97,112,112,105,110,103]
theorem Zg3 {tag : List Nat} {ts : List Fx.T} {size : Int} (g : Fx.T → Bool) (ht : isT tag = true) (htl : tag.length ≤ Lim) (hl : ts.length ≤ Lim) (Z : Sto) (hg : ∀ t ∈ ts,∀ Y,Yq [t,.int 0,.int (size - 1)] (Z ++ Y) = .ok (.bl (g t)) (Z ++ Y)) :
    ∃ Y,Xg [.tup [.str sSeq,.str tag,.tup ts],.int size] Z = .ok (.bl (decide (ts.length ≤ 1000) && ts.all g)) (Z ++ Y) := by
  obtain ⟨Y1,e1⟩ := Ze5 tag htl Z
  rw [ht] at e1
  have g1 : ∀ Z, gIsi [.tup [.str sSeq, .str tag, .tup ts], .ty "tuple"] Z = some (.bl true, Z) := fun Z => rfl
  have g2 : ∀ Z, gIsi [.str sSeq, .ty "str"] Z = some (.bl true, Z) := fun Z => rfl
  have g3 : ∀ Z, gIsi [.tup ts, .ty "tuple"] Z = some (.bl true, Z) := fun Z => rfl
  have e := Z25 (Z1 := Z ++ Y1) (ts := ts) (put := fun x => putN [5] x (wipeR [some (.tup [.str sSeq,.str tag,.tup ts]),some (.int size),some (.str sSeq),some (.str tag),some (.tup ts),none] [5])) (c := eYes) (e := Z13) (Z8u _) hl (fun _ => true) (fun x => .bl (g x)) (fun x hx => by
    refine ⟨_,rfl,fun acc => ⟨rfl,fun _ => ?_⟩⟩
    have hf := hg x hx (Y1 ++ [.lst acc])
    rw [← List.append_assoc] at hf
    generalize hzz : Z ++ Y1 ++ [O.lst acc] = ZZ at hf ⊢
    simp [Z13,wipeR,putN,hf])
  have em : (ts.filter (fun _ => true)).map (fun x => Fx.T.bl (g x)) = ts.map fun x => .bl (g x) := by rw [List.filter_eq_self.mpr (fun _ _ => rfl)]
  rw [em] at e
  have hb := Z1k g ts
  by_cases hk : ts.length ≤ 1000
  · refine ⟨Y1 ++ [.lst (ts.map fun x => .bl (g x))],?_⟩
    have hk' : ((ts.length : Nat) : Int) ≤ 1000 := by omega
    have ea : ∀ W,getL (Z ++ Y1 ++ [O.lst W]) (Z ++ Y1).length = some W := fun W => Zo _ _
    rw [← List.append_assoc,decide_eq_true hk,Bool.true_and]
    simp only [sSeq] at *
    generalize hZ1 : Z ++ Y1 = Z1 at *
    simp [-Zbr, Xg, runF, Qe, flatT, inT, Fx.eqT, g1, g2, g3, e1, hl, hk', e, hb]
  · refine ⟨Y1,?_⟩
    have hk' : ¬ ((ts.length : Nat) : Int) ≤ 1000 := by omega
    rw [decide_eq_false hk,Bool.false_and]
    simp only [sSeq] at *
    generalize hZ1 : Z ++ Y1 = Z1 at *
    simp [-Zbr, Xg, runF, Qe, flatT, inT, Fx.eqT, g1, g2, g3, e1, hl, hk']
theorem Zg4 {tag : List Nat} {ts : List Fx.T} {size : Int} (g : Fx.T → Bool) (ht : isT tag = true) (htl : tag.length ≤ Lim) (hl : ts.length ≤ 100000) (Z : Sto) (hg : ∀ t ∈ ts, ∀ Y, ∃ Y', Qc [t, .int size] (Z ++ Y) = .ok (.bl (g t)) (Z ++ Y ++ Y')) :
    ∃ Y,Xg [.tup [.str sMap,.str tag,.tup ts],.int size] Z = .ok (.bl (decide (2 * ts.length ≤ 1000) && ts.all g)) (Z ++ Y) := by
  obtain ⟨Y1,e1⟩ := Ze5 tag htl Z
  rw [ht] at e1
  have hlL : ts.length ≤ Lim := by unfold Lim; omega
  have g1 : ∀ Z, gIsi [.tup [.str sMap, .str tag, .tup ts], .ty "tuple"] Z = some (.bl true, Z) := fun Z => rfl
  have g2 : ∀ Z, gIsi [.str sMap, .ty "str"] Z = some (.bl true, Z) := fun Z => rfl
  have g3 : ∀ Z, gIsi [.tup ts, .ty "tuple"] Z = some (.bl true, Z) := fun Z => rfl
  obtain ⟨acc, Z', e, rfl, W, rfl⟩ := Z40 (Z8u ts) (D := (Z ++ Y1).length) (put := fun x => putN [5] x (wipeR [some (.tup [.str sMap, .str tag, .tup ts]), some (.int size), some (.str sMap), some (.str tag), some (.tup ts), none] [5])) (c := eYes) (e := Z14)
    (fun pre acc Z' => acc = pre.map (fun x => Fx.T.bl (g x)) ∧ ∃ W, Z' = (Z ++ Y1) ++ .lst acc :: W) (fun pre acc Z' h => by obtain ⟨_, W, rfl⟩ := h; exact Z6k _ _ _)
    (fun pre x post acc Z' et h => by
      obtain ⟨rfl,W,rfl⟩ := h
      obtain ⟨Y', hf⟩ := hg x (by rw [et]; simp) (Y1 ++ .lst (pre.map fun x => Fx.T.bl (g x)) :: W)
      rw [← List.append_assoc] at hf
      refine ⟨_, rfl, .inr ⟨_, .bl (g x), (Z ++ Y1) ++ .lst (pre.map fun x => Fx.T.bl (g x)) :: (W ++ Y'), rfl, ?_, Z6k _ _ _, by simp, W ++ Y', set_mid _ _ _ _⟩⟩
      have es : Z ++ Y1 ++ O.lst (pre.map fun x => Fx.T.bl (g x)) :: (W ++ Y') = Z ++ Y1 ++ O.lst (pre.map fun x => Fx.T.bl (g x)) :: W ++ Y' := by simp
      rw [es]
      generalize Z ++ Y1 ++ O.lst (pre.map fun x => Fx.T.bl (g x)) :: W = ZZ at *
      simp [Z14,wipeR,putN,hf]) ts [] [] ((Z ++ Y1) ++ [.lst []]) Fuel (by simp) (by rw [Vw]; unfold Lim; simp; omega) (by simp; exact hlL) ⟨rfl,[],rfl⟩
  have hb := Z1k g ts
  by_cases hk : 2 * ts.length ≤ 1000
  · refine ⟨Y1 ++ .lst (ts.map fun x => .bl (g x)) :: W,?_⟩
    have hk' : 2 * ((ts.length : Nat) : Int) ≤ 1000 := by omega
    have ea := Z6k (Z ++ Y1) (ts.map fun x => Fx.T.bl (g x)) W
    rw [← List.append_assoc,decide_eq_true hk,Bool.true_and]
    simp only [sMap] at *
    generalize hZ2 : Z ++ Y1 ++ O.lst (ts.map fun x => Fx.T.bl (g x)) :: W = Z2 at *
    generalize hZ1 : Z ++ Y1 = Z1 at *
    simp only [List.length_nil] at e
    simp [-Zbr, Xg, runF, Qe, flatT, inT, Fx.eqT, g1, g2, g3, e1, hlL, hk', e, ea, hb]
  · refine ⟨Y1,?_⟩
    have hk' : ¬ 2 * ((ts.length : Nat) : Int) ≤ 1000 := by omega
    rw [decide_eq_false hk,Bool.false_and]
    simp only [sMap] at *
    generalize hZ1 : Z ++ Y1 = Z1 at *
    simp [-Zbr, Xg, runF, Qe, flatT, inT, Fx.eqT, g1, g2, g3, e1, hlL, hk']
theorem Zjb {tag : List Nat} (ht : isT tag = true) (htl : tag.length ≤ Lim) (c : Fx.T) {b : Bool} (size : Int) (Z : Sto) (hc : ∀ Y, gIsi [c, .ty "str"] (Z ++ Y) = some (.bl b, Z ++ Y)) : ∃ Y, Xg [.tup [.str sSc, .str tag, c], .int size] Z = .ok (.bl b) (Z ++ Y) := by
  obtain ⟨Y1,e1⟩ := Ze5 tag htl Z
  rw [ht] at e1
  have g1 : ∀ Z, gIsi [.tup [.str sSc, .str tag, c], .ty "tuple"] Z = some (.bl true, Z) := fun Z => rfl
  have g2 : ∀ Z, gIsi [.str sSc, .ty "str"] Z = some (.bl true, Z) := fun Z => rfl
  have hc := hc Y1
  refine ⟨Y1,?_⟩
  simp only [sSc] at *
  generalize hZ1 : Z ++ Y1 = Z1 at *
  simp [-Zbr,Xg,runF,Qe,flatT,inT,Fx.eqT,g1,g2,e1,hc]
end Ap
set_option maxHeartbeats 4000000
namespace Ap
open PySem PySem.Spec PyProof.Rows L2 SX Fx
structure NV (Z : Sto) (nv : Fx.T) (ts : List Fx.T) (it : ItF) : Prop where
  len : ∀ Y,gLen [nv] (Z ++ Y) = some (.int (ts.length : Int),Z ++ Y)
  isi : ∀ Y, gIsiI "Graph" [nv, .tup [.ty "list", .ty "tuple"]] (Z ++ Y) = some (.bl true, Z ++ Y)
  enm : ∀ (ρ : Fx.Env) (fa : FA) (Z0 : Sto) Y,fa ρ Z0 = .ok [nv] (Z ++ Y) → iEnmA fa ρ Z0 = .ok it (Z ++ Y)
  hit : ∀ k Y,k ≤ ts.length → it k (Z ++ Y) = some ((ts[k]?).map fun t => .tup [.int (k : Int),t])
  tup : ∀ Y,gTuple [nv] (Z ++ Y) = some (.tup ts,Z ++ Y)
theorem NV.app {Z : Sto} {nv : Fx.T} {ts : List Fx.T} {it : ItF} (h : NV Z nv ts it) (W : Sto) : NV (Z ++ W) nv ts it :=
  ⟨fun Y => by rw [List.append_assoc]; exact h.len _,fun Y => by rw [List.append_assoc]; exact h.isi _,fun ρ fa Z0 Y e => by rw [List.append_assoc] at e ⊢; exact h.enm ρ fa Z0 _ e,fun k Y hk => by rw [List.append_assoc]; exact h.hit k _ hk,fun Y => by rw [List.append_assoc]; exact h.tup _⟩
theorem Zlv {Z : Sto} {l : Nat} {ts : List Fx.T} (h : getL Z l = some ts) : NV Z (.loc l) ts (itEnum (itLoc l)) where
  len Y := by simp [Yj h]
  isi Y := by
    have h2 := Uu.mp (Yj (Y := Y) h)
    have h3 : insC (.loc l) (Z ++ Y) = none := by simp [insC,getI,h2]
    have ty : tyT (.loc l) (Z ++ Y) = some "list" := by simp only [tyT, h2]
    have gb : ∀ n, gIsiB (.loc l) (.ty n) (Z ++ Y) = kitB "list" n := fun n => by simp only [gIsiB, ty, clsT]
    have k1 : kitB "list" "list" = some true := rfl
    have k2 : kitB "list" "tuple" = some false := rfl
    refine (if_neg (by rw [h3]; simp)).trans ?_
    show (if (tyT (.loc l) (Z ++ Y)).isSome = true then ((([.ty "list", .ty "tuple"] : List Fx.T).mapM fun c => gIsiB (.loc l) c (Z ++ Y)).map fun bs => (Fx.T.bl (bs.any id), Z ++ Y)) else none) = _
    simp only [ty,gb,k1,k2,List.mapM_cons,List.mapM_nil]
    rfl
  enm ρ fa Z0 Y e := by simp [e,Yj h]
  hit k Y hk := by simp [itEnum,itLoc,Yj h]
  tup Y := by simp [Yj h]
theorem Zg5 {it : ItF} {us : Nat → Option Fx.T} {body : Fx.T → FS} {Z0 : Sto} (P : Fx.Env → Prop) (j : Nat) (hit : ∀ k Y,k < j → it k (Z0 ++ Y) = some (us k))
    (hb : ∀ k, k < j → ∃ u, us k = some u ∧ ∀ ρ Y, P ρ → ∃ ρ' Y', body u ρ (Z0 ++ Y) = .nx ρ' (Z0 ++ Y') ∧ P ρ') :
    ∀ n k ρ Y, P ρ → k ≤ j → j < n + k → ∃ ρ' Y' n', 0 < n' ∧ loopN it body n k ρ (Z0 ++ Y) = loopN it body n' j ρ' (Z0 ++ Y') ∧ P ρ' := by
  intro n
  induction n with
  | zero => intro k ρ Y _ h1 h2; omega
  | succ n ih =>
    intro k ρ Y hP h1 h2
    by_cases hk : k = j
    · subst hk; exact ⟨ρ,Y,n + 1,by omega,rfl,hP⟩
    · obtain ⟨u,hu,hbu⟩ := hb k (by omega)
      obtain ⟨ρ', Y', e, hP'⟩ := hbu ρ Y hP
      obtain ⟨ρ2, Y2, n2, h0, e2, hP2⟩ := ih (k + 1) ρ' Y' hP' (by omega) (by omega)
      refine ⟨ρ2,Y2,n2,h0,?_,hP2⟩
      rw [← e2]
      conv => lhs; unfold loopN
      rw [hit k Y (by omega),hu]
      simp only [e,Z3c]
theorem Zg6 {it : ItF} {body : Fx.T → FS} {n k : Nat} {ρ : Fx.Env} {Z : Sto} (h : 0 < n) (e : it k Z = some none) : loopN it body n k ρ Z = .nx ρ Z := by
  cases n with
  | zero => omega
  | succ n =>
    unfold loopN
    rw [e]
def grF (ts : List Fx.T) (top : Int) : List (String × Fx.T) := [("nodes", .tup ts), ("top", .int top)]
def GN (size : Int) (Z : Sto) (t : Fx.T) : Prop := ∀ Y, ∃ Y', Xg [t, .int size] (Z ++ Y) = .ok (.bl true) (Z ++ Y ++ Y')
def BN (size : Int) (Z : Sto) (t : Fx.T) : Prop := ∀ Y, ∃ Y', Xg [t, .int size] (Z ++ Y) = .ok (.bl false) (Z ++ Y ++ Y')
theorem GN.app {size : Int} {Z : Sto} {t : Fx.T} (h : GN size Z t) (W : Sto) : GN size (Z ++ W) t := fun Y => by
  obtain ⟨Y', e⟩ := h (W ++ Y)
  exact ⟨Y', by rw [List.append_assoc Z W Y]; exact e⟩
theorem BN.app {size : Int} {Z : Sto} {t : Fx.T} (h : BN size Z t) (W : Sto) : BN size (Z ++ W) t := fun Y => by
  obtain ⟨Y', e⟩ := h (W ++ Y)
  exact ⟨Y', by rw [List.append_assoc Z W Y]; exact e⟩
theorem Zay (A : Sto) (C : String) (fs : List (String × Fx.T)) (B : Sto) : getI (A ++ .ins C fs :: B) A.length = some (C,fs) := by simp [getI]
section
variable {Z : Sto} {nv : Fx.T} {ts : List Fx.T} {it : ItF}
theorem Zg7 {j L : Nat} {tv : Fx.T} (hnv : NV Z nv ts it) (hj : j ≤ ts.length) (hlL : ts.length ≤ 200) (hg : ∀ k t,k < j → ts[k]? = some t → GN (ts.length : Int) Z t) :
    ∃ o3 o4 Y n', 0 < n' ∧ loopN it (fun t ρ' Z' => bS ρ' ((gTp 2 (gsCons (gNm 3) (gsCons (gNm 4) gsNil))) t ρ' Z') Xj) Fuel 0 [some (.loc L), some nv, some tv, none, none] (Z ++ []) = loopN it (fun t ρ' Z' => bS ρ' ((gTp 2 (gsCons (gNm 3) (gsCons (gNm 4) gsNil))) t ρ' Z') Xj) n' j [some (.loc L), some nv, some tv, o3, o4] (Z ++ Y) := by
  obtain ⟨ρ', Y', n', h0, e, o3, o4, rfl⟩ := Zg5 (it := it) (us := fun k => (ts[k]?).map fun t => .tup [.int (k : Int), t]) (body := (fun t ρ' Z' => bS ρ' ((gTp 2 (gsCons (gNm 3) (gsCons (gNm 4) gsNil))) t ρ' Z') Xj)) (Z0 := Z) (fun ρ => ∃ o3 o4, ρ = [some (.loc L), some nv, some tv, o3, o4]) j (fun k Y hk => hnv.hit k Y (by omega))
    (fun k hk => by
      have hkt : k < ts.length := by omega
      refine ⟨.tup [.int (k : Int),ts[k]],by simp [hkt],fun ρ Y h => ?_⟩
      obtain ⟨o3,o4,rfl⟩ := h
      obtain ⟨Y', e⟩ := hg k ts[k] hk (List.getElem?_eq_getElem hkt) Y
      have hl := hnv.len Y
      refine ⟨[some (.loc L), some nv, some tv, some (.int (k : Int)), some ts[k]], Y ++ Y', ?_, _, _, rfl⟩
      rw [← List.append_assoc]
      generalize ts[k] = T at *
      generalize hzz : Z ++ Y = ZZ at *
      simp [Xj,hl,e]) Fuel 0 [some (.loc L),some nv,some tv,none,none] [] ⟨_,_,rfl⟩ (Nat.zero_le _) (by rw [Vw]; unfold Lim; omega)
  exact ⟨o3, o4, Y', n', h0, e⟩
theorem Zjc {L : Nat} {top : Int} (hnv : NV Z nv ts it) (hins : ∃ A B, Z = A ++ .ins "Graph" [] :: B ∧ A.length = L) (h1 : 1 ≤ ts.length) (hlL : ts.length ≤ 200) (hg : ∀ t ∈ ts, GN (ts.length : Int) Z t) (ht : 0 ≤ top ∧ top < (ts.length : Int)) :
    ∃ Y, Ym [.loc L, nv, .int top] Z = .ok .non ((Z ++ Y).set L (.ins "Graph" (grF ts top))) := by
  obtain ⟨o3, o4, Y, n', h0, e⟩ := Zg7 (L := L) (tv := .int top) hnv (Nat.le_refl _) hlL (fun k t _ hk => hg t (List.mem_of_getElem? hk))
  have he := Zg6 (body := (fun t ρ' Z' => bS ρ' ((gTp 2 (gsCons (gNm 3) (gsCons (gNm 4) gsNil))) t ρ' Z') Xj)) (ρ := [some (.loc L), some nv, some (.int top), o3, o4]) (Z := Z ++ Y) (n := n') (k := ts.length) (it := it) h0 (by rw [hnv.hit _ _ (Nat.le_refl _)]; simp)
  rw [he,List.append_nil] at e
  have l0 := hnv.len []
  have i0 := hnv.isi []
  have en := hnv.enm [some (.loc L),some nv,some (.int top),none,none] (aCons (eVar 1) aNil) Z []
  rw [List.append_nil] at l0 i0 en
  have en' := en (by simp)
  have l1 := hnv.len Y
  have t1 := hnv.tup Y
  have ff : Yq [.int top,.int 0,.int ((ts.length : Int) - 1)] (Z ++ Y) = .ok (.bl true) (Z ++ Y) := by
    rw [Zaw]
    have : numOk ((ts.length : Int) - 1) (.int top) = true := by
      show (decide (0 ≤ top) && decide (top ≤ (ts.length : Int) - 1)) = true
      rw [decide_eq_true ht.1,decide_eq_true (by omega)]; rfl
    rw [this]
  obtain ⟨A,B,hZ,hL⟩ := hins
  have gi : getI (Z ++ Y) L = some ("Graph", []) := by
    rw [hZ,List.append_assoc,List.cons_append,← hL]; exact Zay _ _ _ _
  have hLt : L < (Z ++ Y).length := by rw [hZ,← hL]; simp
  have gi2 : getI ((Z ++ Y).set L (.ins "Graph" [("nodes", .tup ts)])) L = some ("Graph", [("nodes", .tup ts)]) := by
    unfold getI
    rw [List.getElem?_set_self hLt]
  refine ⟨Y,?_⟩
  have c1 : (1 : Int) ≤ (ts.length : Int) := by omega
  have c2 : (ts.length : Int) ≤ 200 := by omega
  generalize hzz : Z ++ Y = ZZ at *
  simp [-Zil, Ym, runF, Z2o, l0, i0, c1, c2, en', e, l1, t1, ff, sFldS, gFld, setF, gi, gi2, putS, grF]
end
theorem Zjd {ds : List Fx.T} {fa : FA} {ρ : Fx.Env} {Z Z1 : Sto} {as ts : List Fx.T} {nv : Fx.T} {top : Int} {it : ItF} (ha : fa ρ Z = .ok as Z1) (has : as ++ ds = [nv,.int top]) (hnv : NV Z1 nv ts it) (h1 : 1 ≤ ts.length) (hlL : ts.length ≤ 200) (hg : ∀ t ∈ ts,GN (ts.length : Int) Z1 t) (ht : 0 ≤ top ∧ top < (ts.length : Int)) :
    ∃ Y, eMake "Graph" Ym ds fa ρ Z = .ok (.loc Z1.length) (Z1 ++ .ins "Graph" (grF ts top) :: Y) := by
  obtain ⟨Y, e⟩ := Zjc (L := Z1.length) (hnv.app [.ins "Graph" []]) ⟨Z1, [], rfl, rfl⟩ h1 hlL (fun t h => (hg t h).app _) ht
  refine ⟨Y,?_⟩
  rw [List.append_assoc,List.singleton_append,set_mid] at e
  unfold eMake
  rw [ha]
  show (Ym (.loc Z1.length :: (as ++ ds)) (Z1 ++ [.ins "Graph" []])).bind _ = _
  rw [has,e]
  rfl
def GrAt (Z : Sto) (i : Nat) (ts : List Fx.T) (top : Int) : Prop := getI Z i = some ("Graph", grF ts top)
theorem Zlw (Z : Sto) (ts : List Fx.T) (top : Int) (Y : Sto) : GrAt (Z ++ .ins "Graph" (grF ts top) :: Y) Z.length ts top := Zay _ _ _ _
theorem Zlx {Z : Sto} {i : Nat} {ts : List Fx.T} {top : Int} (h : GrAt Z i ts top) (Y : Sto) : GrAt (Z ++ Y) i ts top := by
  unfold GrAt at h ⊢
  have h1 := Z8f h
  have hl : i < Z.length := (List.getElem?_eq_some_iff.mp h1).1
  unfold getI
  rw [List.getElem?_append_left hl,h1]
theorem Z9h {Z : Sto} {i : Nat} {ts : List Fx.T} {top : Int} (h : GrAt Z i ts top) : fldT ["Graph"] "nodes" (.loc i) Z = some (.tup ts) := by
  unfold GrAt at h
  simp [fldT,h,grF]
theorem Ze6 {Z : Sto} {i : Nat} {ts : List Fx.T} {top : Int} (h : GrAt Z i ts top) : fldT ["Graph"] "top" (.loc i) Z = some (.int top) := by
  unfold GrAt at h
  simp [fldT,h,grF,List.lookup_cons]
end Ap
set_option maxHeartbeats 4000000
namespace Ap
open PySem PySem.Spec PyProof.Rows L2 SX Fx
def dOf (t : Fx.T) : PyData := (toD 16 [] t).getD .none
structure PT (t : Fx.T) : Prop where
  d : ∀ n Z,toD (n + 3) Z t = some (dOf t)
  lay : (dOf t).canLay0 = true
  deep : (dOf t).depth ≤ 5
theorem pt_of {t : Fx.T} {d : PyData} (h : ∀ n Z,toD (n + 3) Z t = some d) (h1 : d.canLay0 = true) (h2 : d.depth ≤ 5) : PT t ∧ dOf t = d := by
  have e : dOf t = d := by unfold dOf; rw [h 13 []]; rfl
  exact ⟨⟨by rw [e]; exact h,by rw [e]; exact h1,by rw [e]; exact h2⟩,e⟩
theorem Z9i (n : Nat) (Z : Sto) (ts : List Fx.T) : toD (n + 1) Z (.tup ts) = (ts.mapM (toD n Z)).map .tuple := rfl
structure NT (t : Fx.T) (tag : List Nat) : Prop where
  pt : PT t
  shape : ∃ k dc,dOf t = .tuple [.str (S k),.str (S tag),dc]
theorem Zje {k tag : List Nat} {c : Fx.T} {dc : PyData} (h : ∀ n Z,toD (n + 2) Z c = some dc) (h1 : dc.canLay0 = true) (h2 : dc.depth ≤ 3) (hk : okS k = true) (ht : okS tag = true) : NT (.tup [.str k,.str tag,c]) tag := by
  have e : ∀ n Z,toD (n + 3) Z (.tup [.str k,.str tag,c]) = some (.tuple [.str (S k),.str (S tag),dc]) := fun n Z => by
    rw [Z9i,List.mapM_cons,List.mapM_cons,List.mapM_cons,h n Z]; rfl
  obtain ⟨p,e2⟩ := pt_of e (by
    show (PyData.strOk (S k) && (PyData.strOk (S tag) && (dc.canLay0 && true))) = true
    rw [Zis hk,Zis ht,h1]; rfl) (by
    simp only [PyData.depth,PyData.depthAll]; omega)
  exact ⟨p,k,dc,e2⟩
theorem Ze7 (n : Nat) (Z : Sto) : ∀ ns : List Int,(ns.map Fx.T.int).mapM (toD n Z) = some (ns.map PyData.int)
  | [] => rfl
  | i :: ns => by
    rw [List.map_cons,List.mapM_cons,Ze7 n Z ns]
    cases n <;> rfl
theorem Z3a : ∀ ns : List Int,PyData.canLayAll0 (ns.map PyData.int) = true ∧ PyData.depthAll (ns.map PyData.int) ≤ 1
  | [] => ⟨rfl,by decide⟩
  | i :: ns => by
    obtain ⟨a,b⟩ := Z3a ns
    refine ⟨a,?_⟩
    show max (PyData.depth (.int i)) (PyData.depthAll (ns.map PyData.int)) ≤ 1
    have : PyData.depth (.int i) ≤ 1 := by simp [PyData.depth]
    omega
def pairT (p : Int × Int) : Fx.T := .tup [.int p.1,.int p.2]
def pairD (p : Int × Int) : PyData := .tuple [.int p.1,.int p.2]
theorem Ze8 (n : Nat) (Z : Sto) : ∀ ps : List (Int × Int),(ps.map pairT).mapM (toD (n + 1) Z) = some (ps.map pairD)
  | [] => rfl
  | p :: ps => by
    rw [List.map_cons,List.mapM_cons,Ze8 n Z ps]
    cases n <;> rfl
theorem Z4s : ∀ ps : List (Int × Int),PyData.canLayAll0 (ps.map pairD) = true ∧ PyData.depthAll (ps.map pairD) ≤ 2
  | [] => ⟨rfl,by decide⟩
  | p :: ps => by
    obtain ⟨a,b⟩ := Z4s ps
    refine ⟨a,?_⟩
    show max (PyData.depth (pairD p)) (PyData.depthAll (ps.map pairD)) ≤ 2
    have : PyData.depth (pairD p) ≤ 2 := by simp [pairD,PyData.depth,PyData.depthAll]
    omega
structure ND (size : Nat) (t : Fx.T) : Prop where
  good : ∀ Z,GN (size : Int) Z t
  tag : ∃ a,NT t a ∧ a ≠ [33,111,116,104,101,114]
theorem ND.pt {size : Nat} {t : Fx.T} (h : ND size t) : PT t := by obtain ⟨_,h,_⟩ := h.tag; exact h.pt
theorem Zjf {tag text : List Nat} (ht : isT tag = true) (htl : tag.length ≤ Lim) (size : Int) (Z : Sto) : GN size Z (.tup [.str sSc,.str tag,.str text]) := fun Y => Zjb ht htl (.str text) size (Z ++ Y) fun _ => rfl
theorem nd_sc {size : Nat} {tag text : List Nat} (ht : isT tag = true) (htl : tag.length ≤ Lim) (ok : okS tag = true) (ok2 : okS text = true) (hn : tag ≠ [33,111,116,104,101,114]) : ND size (.tup [.str sSc,.str tag,.str text]) :=
  ⟨fun Z => Zjf ht htl _ Z,tag,Zje (dc := .str (S text)) (fun n Z => rfl) (Zis ok2) (by simp [PyData.depth]) (by decide) ok,hn⟩
theorem Z9j {m n : Int} (h : 0 ≤ n ∧ n ≤ m) : numOk m (.int n) = true := by
  show (decide (0 ≤ n) && decide (n ≤ m)) = true
  rw [decide_eq_true h.1,decide_eq_true h.2]; rfl
theorem Zly {size : Nat} {tag : List Nat} {ns : List Int} (ht : isT tag = true) (htl : tag.length ≤ Lim) (ok : okS tag = true) (hn : tag ≠ [33,111,116,104,101,114]) (hl : ns.length ≤ 1000) (hns : ∀ n ∈ ns,0 ≤ n ∧ n < (size : Int)) : ND size (.tup [.str sSeq,.str tag,.tup (ns.map .int)]) := by
  refine ⟨fun Z Y => ?_,tag,Zje (dc := .tuple (ns.map .int)) (fun n Z => by rw [Z9i,Ze7]; rfl) (Z3a ns).1 (by have := (Z3a ns).2; simp only [PyData.depth]; omega) (by decide) ok,hn⟩
  obtain ⟨Y', e⟩ := Zg3 (size := (size : Int)) (ts := ns.map .int) (numOk ((size : Int) - 1)) ht htl (by rw [List.length_map]; unfold Lim; omega) (Z ++ Y) (fun t h W => by
    obtain ⟨n,hn,rfl⟩ := List.mem_map.mp h
    exact Zaw n _ _)
  have h1 : (decide ((ns.map Fx.T.int).length ≤ 1000) && (ns.map Fx.T.int).all (numOk ((size : Int) - 1))) = true := by
    rw [List.length_map,decide_eq_true hl,Bool.true_and,List.all_eq_true]
    intro t h
    obtain ⟨n,hn,rfl⟩ := List.mem_map.mp h
    have := hns n hn
    exact Z9j ⟨this.1,by omega⟩
  rw [h1] at e
  exact ⟨Y', e⟩
theorem Zlz {size : Nat} {tag : List Nat} {ps : List (Int × Int)} (ht : isT tag = true) (htl : tag.length ≤ Lim) (ok : okS tag = true) (hn : tag ≠ [33,111,116,104,101,114]) (hl : ps.length ≤ 500) (hns : ∀ p ∈ ps,(0 ≤ p.1 ∧ p.1 < (size : Int)) ∧ 0 ≤ p.2 ∧ p.2 < (size : Int)) : ND size (.tup [.str sMap,.str tag,.tup (ps.map pairT)]) := by
  refine ⟨fun Z Y => ?_,tag,Zje (dc := .tuple (ps.map pairD)) (fun n Z => by rw [Z9i,Ze8]; rfl) (Z4s ps).1 (by have := (Z4s ps).2; simp only [PyData.depth]; omega) (by decide) ok,hn⟩
  obtain ⟨Y', e⟩ := Zg4 (size := (size : Int)) (ts := ps.map pairT) (fun _ => true) ht htl (by rw [List.length_map]; omega) (Z ++ Y) (fun t h W => by
    obtain ⟨p,hp,rfl⟩ := List.mem_map.mp h
    have e := Zja (a := .int p.1) (b := .int p.2) (fun _ h => by cases h) (by simp [tyT]) (fun _ h => by cases h) (by simp [tyT]) (size : Int) (Z ++ Y ++ W)
    have := hns p hp
    rw [Z9j ⟨this.1.1,by omega⟩,Z9j ⟨this.2.1,by omega⟩] at e
    exact ⟨_,e⟩)
  have h1 : (decide (2 * (ps.map pairT).length ≤ 1000) && (ps.map pairT).all (fun _ => true)) = true := by
    rw [List.length_map,decide_eq_true (by omega),Bool.true_and,List.all_eq_true]
    intro _ _; rfl
  rw [h1] at e
  exact ⟨Y', e⟩
end Ap
set_option maxHeartbeats 4000000
namespace Ap
open PySem PySem.Spec PyProof.Rows L2 SX Fx
theorem Z80 {m : Nat} {body : Fx.T → FS} {ρ : Fx.Env} {Z : Sto} (I : Nat → Fx.Env → Sto → Prop) (hl : m ≤ Lim) (h0 : I 0 ρ Z) (h : ∀ k < m, ∀ ρ Z, I k ρ Z → ∃ ρ' Z', body (.int (k : Int)) ρ Z = .nx ρ' Z' ∧ I (k + 1) ρ' Z') :
    ∃ ρ' Z', loopN (itRng 0 m) body Fuel 0 ρ Z = .nx ρ' Z' ∧ I m ρ' Z' := by
  rw [Zbt hl]
  obtain ⟨ρ', Z', e, hi⟩ := Zde (body := body) (ts := (List.range m).map fun (i : Nat) => Fx.T.int ((0 : Int) + (i : Int))) (Z := Z) (ρ := ρ) (fun pre ρ Z => I pre.length ρ Z) h0 (fun pre x post ρ Z et hi => by
    obtain ⟨rfl,hk⟩ := Zac et
    obtain ⟨ρ', Z', e, hi'⟩ := h pre.length hk ρ Z hi
    refine ⟨ρ', Z', .inl ?_, by simpa using hi'⟩
    rw [Int.zero_add]; exact e)
  exact ⟨ρ', Z', e, by simpa using hi⟩
theorem lt200 {n : Nat} (h : n ≤ 1000) : n < 2 ^ 200 := Nat.lt_of_le_of_lt h (by decide)
theorem neL_0 {Z : Sto} {i j : Nat} {ts : List Fx.T} (h : getL Z i = some ts) (h2 : getL Z j = some []) : gNeL (.loc i) (.loc j) Z = some (.bl (!decide (ts = [])),Z) := by
  by_cases h0 : ts = []
  · subst h0
    have e1 : toD 16 Z (.loc i) = some (.list []) := by
      show ((getL Z i).bind fun ts => (ts.mapM (toD 15 Z)).map PyData.list) = _
      rw [h]; rfl
    have e2 : toD 16 Z (.loc j) = some (.list []) := by
      show ((getL Z j).bind fun ts => (ts.mapM (toD 15 Z)).map PyData.list) = _
      rw [h2]; rfl
    have e : gEqB (.loc i) (.loc j) Z = some true := by
      show gEqD _ _ _ = _
      have sh : SeqAt.shaped (.list []) = true := by decide
      simp only [gEqD,e1,e2,sh,and_self,if_true]
      rfl
    have hd : lenDiff (.loc i) (.loc j) Z = false := by simp [lenDiff,h,h2]
    unfold gNeL
    rw [hd]
    simp only [gNe,e,Option.map_some]
    rfl
  · have hd : lenDiff (.loc i) (.loc j) Z = true := by
      cases ts with
      | nil => exact absurd rfl h0
      | cons a l => simp [lenDiff,h,h2]
    unfold gNeL
    rw [hd,if_pos rfl,decide_eq_false h0]
    rfl
end Ap
set_option maxHeartbeats 4000000
namespace Ap
open PySem PySem.Spec PyProof.Rows L2 SX Fx
theorem Ye {a b : FS} {ρ ρ' : Fx.Env} {Z Z' : Sto} {r : RS} (h : a ρ Z = .nx ρ' Z') (h2 : b ρ' Z' = r) : bCons a b ρ Z = r := by
  show seqS (a ρ Z) b = r
  rw [h]; exact h2
theorem Vz {n : Nat} {B : FS} {as : List Fx.T} {Z Z' : Sto} {t : Fx.T} (h : B (as.map some ++ List.replicate (n - as.length) none) Z = .rt t Z') : runF n B as Z = .ok t Z' := by
  unfold runF
  rw [h]
end Ap
set_option maxHeartbeats 4000000
namespace Ap
inductive Nd where
  | sc (tag text : List Nat) | sq (tag : List Nat) (ns : List Int) | mp (tag : List Nat) (ps : List (Int × Int))
def Nd.inn : Nd → List Int
  | .sc _ _ => []
  | .sq _ ns => ns
  | .mp _ ps => ps.flatMap fun p => [p.1,p.2]
def Nd.rn (h : Int → Int) : Nd → Nd
  | .sc a b => .sc a b
  | .sq a ns => .sq a (ns.map h)
  | .mp a ps => .mp a (ps.map fun p => (h p.1,h p.2))
theorem Zm0 {h : Int → Int} {g : Nd} (e : ∀ y ∈ g.inn,h y = y) : g.rn h = g := by
  cases g with
  | sc a b => rfl
  | sq a ns =>
    show Nd.sq a (ns.map h) = _
    have : ns.map h = ns := by
      conv => rhs; rw [← List.map_id ns]
      exact List.map_congr_left fun x hx => e x hx
    rw [this]
  | mp a ps =>
    show Nd.mp a (ps.map fun p => (h p.1,h p.2)) = _
    have : (ps.map fun p => (h p.1,h p.2)) = ps := by
      conv => rhs; rw [← List.map_id ps]
      refine List.map_congr_left fun p hp => ?_
      have h1 := e p.1 (List.mem_flatMap.mpr ⟨p,hp,by simp⟩)
      have h2 := e p.2 (List.mem_flatMap.mpr ⟨p,hp,by simp⟩)
      rw [h1,h2]; rfl
    rw [this]
section
variable {gs : List Nd}
def innA (gs : List Nd) (x : Int) : List Int := ((gs[x.toNat]?).map Nd.inn).getD []
def InG (gs : List Nd) (x : Int) : Prop := 0 ≤ x ∧ x < (gs.length : Int)
def ClG (gs : List Nd) : Prop := ∀ x,InG gs x → ∀ y ∈ innA gs x,InG gs y
theorem Z6l {x : Int} (h : InG gs x) : ∃ g ∈ gs,gs[x.toNat]? = some g ∧ innA gs x = g.inn := by
  have hl : x.toNat < gs.length := by have := h.1; have := h.2; omega
  refine ⟨gs[x.toNat],List.getElem_mem hl,List.getElem?_eq_getElem hl,?_⟩
  unfold innA
  rw [List.getElem?_eq_getElem hl]; rfl
inductive Met (gs : List Nd) : Nat → List Int → List Int → List Int → Prop
  | nil (f : List Int) : Met gs 0 f [] f
  | skip {k : Nat} {f : List Int} {x : Int} {st r : List Int} : x ∈ f → Met gs k f st r → Met gs (k + 1) f (x :: st) r
  | new {k : Nat} {f : List Int} {x : Int} {st r : List Int} : x ∉ f → Met gs k (f ++ [x]) (innA gs x ++ st) r → Met gs (k + 1) f (x :: st) r
def wk (gs : List Nd) : Nat → Int → List Int → List Int
  | 0,_,f => f
  | d + 1,x,f => if x ∈ f then f else (innA gs x).foldl (fun f y => wk gs d y f) (f ++ [x])
def nf (f : List Int) (i : Nat) : Bool := decide ((i : Int) ∉ f)
def unl (gs : List Nd) (f : List Int) : List Nat := (List.range gs.length).filter (nf f)
def un (gs : List Nd) (f : List Int) : Nat := (unl gs f).length
theorem Ze9 {α : Type} (p q : α → Bool) (h : ∀ a,p a = true → q a = true) : ∀ l : List α,(l.filter p).length ≤ (l.filter q).length
  | [] => Nat.le_refl _
  | a :: l => by
    have ih := Ze9 p q h l
    cases hp : p a with
    | true => rw [List.filter_cons_of_pos hp,List.filter_cons_of_pos (h a hp)]; exact Nat.succ_le_succ ih
    | false =>
      rw [List.filter_cons_of_neg (by rw [hp]; exact Bool.false_ne_true)]
      cases hq : q a with
      | true => rw [List.filter_cons_of_pos hq]; exact Nat.le_succ_of_le ih
      | false => rw [List.filter_cons_of_neg (by rw [hq]; exact Bool.false_ne_true)]; exact ih
theorem un_le {f f' : List Int} (h : ∀ x ∈ f, x ∈ f') : un gs f' ≤ un gs f := Ze9 (nf f') (nf f) (fun i hi => by
    unfold nf at *
    simp at hi ⊢
    exact fun z => hi (h _ z)) _
theorem wsum {w : Nat → Nat} {f : List Int} {x : Nat} (hx : (x : Int) ∉ f) : ∀ l : List Nat,l.Nodup → x ∈ l → ((l.filter (nf (f ++ [(x : Int)]))).map w).sum + w x = ((l.filter (nf f)).map w).sum
  | [],_,h => by cases h
  | a :: l,nd,h => by
    obtain ⟨na, nd'⟩ := List.nodup_cons.mp nd
    by_cases hax : a = x
    · subst hax
      have e1 : nf (f ++ [(a : Int)]) a = false := by simp [nf]
      have e2 : nf f a = true := by simp [nf,hx]
      have e3 : (l.filter (nf (f ++ [(a : Int)]))) = l.filter (nf f) := by
        refine List.filter_congr fun i hi => ?_
        have hne : i ≠ a := fun e => na (e ▸ hi)
        have : ¬ (i : Int) = (a : Int) := by omega
        simp [nf,this]
      rw [List.filter_cons_of_neg (by rw [e1]; exact Bool.false_ne_true),List.filter_cons_of_pos e2,List.map_cons,List.sum_cons,e3]
      omega
    · have hl : x ∈ l := by
        rcases List.mem_cons.mp h with e | e
        · exact absurd e.symm hax
        · exact e
      have ih := wsum (w := w) hx l nd' hl
      have ee : nf (f ++ [(x : Int)]) a = nf f a := by
        have : ¬ (a : Int) = (x : Int) := by omega
        simp [nf,this]
      cases hq : nf f a with
      | true => rw [List.filter_cons_of_pos (by rw [ee,hq]),List.filter_cons_of_pos hq,List.map_cons,List.map_cons,List.sum_cons,List.sum_cons]; omega
      | false => rw [List.filter_cons_of_neg (by rw [ee,hq]; exact Bool.false_ne_true),List.filter_cons_of_neg (by rw [hq]; exact Bool.false_ne_true)]; exact ih
def wt (gs : List Nd) (f : List Int) : Nat := ((unl gs f).map fun (i : Nat) => (innA gs (i : Int)).length).sum
theorem Zhe {f : List Int} {x : Int} (h : InG gs x) (hx : x ∉ f) : wt gs (f ++ [x]) + (innA gs x).length = wt gs f := by
  obtain ⟨n,rfl⟩ : ∃ n : Nat,x = (n : Int) := ⟨x.toNat,by have := h.1; omega⟩
  exact wsum (w := fun (i : Nat) => (innA gs (i : Int)).length) hx _ List.nodup_range (List.mem_range.mpr (by have := h.2; omega))
theorem Zm1 {f : List Int} {x : Int} (h : InG gs x) (hx : x ∉ f) : un gs (f ++ [x]) + 1 = un gs f := by
  obtain ⟨n,rfl⟩ : ∃ n : Nat,x = (n : Int) := ⟨x.toNat,by have := h.1; omega⟩
  have := wsum (w := fun _ => 1) hx (List.range gs.length) List.nodup_range (List.mem_range.mpr (by have := h.2; omega))
  have e : ∀ l : List Nat,(l.map fun _ => 1).sum = l.length := fun l => by
    induction l with
    | nil => rfl
    | cons a l ih => rw [List.map_cons,List.sum_cons,ih,List.length_cons]; omega
  rw [e,e] at this
  exact this
theorem Zaz {g : List Int → Int → List Int} (h : ∀ f y,∀ x ∈ f,x ∈ g f y) : ∀ (ys f : List Int),∀ x ∈ f,x ∈ ys.foldl g f
  | [],_,_,hx => hx
  | y :: ys,f,x,hx => Zaz h ys (g f y) x (h f y x hx)
theorem Zhf : ∀ (d : Nat) (x : Int) (f : List Int),∀ z ∈ f,z ∈ wk gs d x f
  | 0,_,_,_,h => h
  | d + 1,x,f,z,h => by
    unfold wk
    by_cases hx : x ∈ f
    · rw [if_pos hx]; exact h
    · rw [if_neg hx]
      exact Zaz (fun f y z hz => Zhf d y f z hz) _ _ z (List.mem_append_left _ h)
theorem Zb0 {d : Nat} (hd : ∀ (x : Int) (f : List Int), InG gs x → un gs f < d → ∀ (k : Nat) (st r : List Int), Met gs k (wk gs d x f) st r → ∃ k', Met gs k' f (x :: st) r) : ∀ (ys f : List Int), (∀ y ∈ ys, InG gs y) → un gs f < d → ∀ (k : Nat) (st r : List Int), Met gs k (ys.foldl (fun f y => wk gs d y f) f) st r → ∃ k', Met gs k' f (ys ++ st) r
  | [],f,_,_,k,st,r,h => ⟨k,h⟩
  | y :: ys,f,hy,hu,k,st,r,h => by
    have hs : un gs (wk gs d y f) ≤ un gs f := un_le fun x hx => Zhf d y f x hx
    obtain ⟨k1,h1⟩ := Zb0 hd ys (wk gs d y f) (fun z hz => hy z (List.mem_cons_of_mem _ hz)) (by omega) k st r h
    exact hd y f (hy y List.mem_cons_self) hu k1 (ys ++ st) r h1
theorem Zhg (hc : ClG gs) : ∀ (d : Nat) (x : Int) (f : List Int), InG gs x → un gs f < d → ∀ (k : Nat) (st r : List Int), Met gs k (wk gs d x f) st r → ∃ k', Met gs k' f (x :: st) r
  | 0,_,_,_,h,_,_,_,_ => by omega
  | d + 1,x,f,hx,hu,k,st,r,h => by
    unfold wk at h
    by_cases hm : x ∈ f
    · rw [if_pos hm] at h
      exact ⟨_,.skip hm h⟩
    · rw [if_neg hm] at h
      have := Zm1 hx hm
      obtain ⟨k', h'⟩ := Zb0 (Zhg hc d) (innA gs x) (f ++ [x]) (hc x hx) (by omega) k st r h
      exact ⟨_, .new hm h'⟩
theorem Zg8 (hc : ClG gs) {x : Int} {d : Nat} (hx : InG gs x) (hd : gs.length < d) : ∃ k,Met gs k [] [x] (wk gs d x []) :=
  Zhg hc d x [] hx (by
    have : un gs [] ≤ gs.length := by
      unfold un unl
      exact Nat.le_trans (List.length_filter_le _ _) (Nat.le_of_eq List.length_range)
    omega) 0 [] _ (.nil _)
theorem Met.steps (hc : ClG gs) {k : Nat} {f st r : List Int} (h : Met gs k f st r) : (∀ x ∈ st,InG gs x) → k ≤ st.length + wt gs f := by
  induction h with
  | nil f => intro _; exact Nat.zero_le _
  | skip hx _ ih =>
    intro hs
    have := ih fun x hx => hs x (List.mem_cons_of_mem _ hx)
    rw [List.length_cons]; omega
  | @new k f x st r hx _ ih =>
    intro hs
    have hi := hs x List.mem_cons_self
    have := ih fun y hy => by
      rcases List.mem_append.mp hy with hy | hy
      · exact hc x hi y hy
      · exact hs y (List.mem_cons_of_mem _ hy)
    have := Zhe hi hx
    rw [List.length_append] at *
    rw [List.length_cons]; omega
theorem Met.sub {k : Nat} {f st r : List Int} (h : Met gs k f st r) : (∀ x ∈ f,x ∈ r) ∧ ∀ x ∈ st,x ∈ r := by
  induction h with
  | nil f => exact ⟨fun _ h => h,fun _ h => by cases h⟩
  | skip hx _ ih =>
    exact ⟨ih.1,fun y hy => by
      rcases List.mem_cons.mp hy with e | e
      · rw [e]; exact ih.1 _ hx
      · exact ih.2 y e⟩
  | new hx _ ih =>
    exact ⟨fun y hy => ih.1 y (List.mem_append_left _ hy),fun y hy => by
      rcases List.mem_cons.mp hy with e | e
      · rw [e]; exact ih.1 _ (List.mem_append_right _ (List.mem_singleton.mpr rfl))
      · exact ih.2 y (List.mem_append_right _ e)⟩
theorem Met.nodup {k : Nat} {f st r : List Int} (h : Met gs k f st r) : f.Nodup → r.Nodup := by
  induction h with
  | nil f => exact id
  | skip hx _ ih =>
    exact ih
  | new hx _ ih =>
    exact fun nf => ih (List.nodup_append.mpr ⟨nf,by simp,fun a ha b hb => by
      rw [List.mem_singleton.mp hb]
      exact fun e => hx (e ▸ ha)⟩)
theorem Met.inG (hc : ClG gs) {k : Nat} {f st r : List Int} (h : Met gs k f st r) : (∀ x ∈ f,InG gs x) → (∀ x ∈ st,InG gs x) → ∀ x ∈ r,InG gs x := by
  induction h with
  | nil f => exact fun h _ => h
  | skip hx _ ih =>
    exact fun hf hs => ih hf fun x hx => hs x (List.mem_cons_of_mem _ hx)
  | @new k f x st r hx _ ih =>
    exact fun hf hs => ih (fun y hy => by
      rcases List.mem_append.mp hy with e | e
      · exact hf y e
      · rw [List.mem_singleton.mp e]; exact hs x List.mem_cons_self) fun y hy => by
      rcases List.mem_append.mp hy with e | e
      · exact hc x (hs x List.mem_cons_self) y e
      · exact hs y (List.mem_cons_of_mem _ e)
theorem Met.closed {k : Nat} {f st r : List Int} (h : Met gs k f st r) : (∀ x ∈ f,∀ y ∈ innA gs x,y ∈ f ∨ y ∈ st) → ∀ x ∈ r,∀ y ∈ innA gs x,y ∈ r := by
  induction h with
  | nil f => exact fun h x hx y hy => (h x hx y hy).elim id fun e => by cases e
  | skip hm _ ih =>
    exact fun h => ih fun x hx y hy => by
      rcases h x hx y hy with e | e
      · exact .inl e
      · rcases List.mem_cons.mp e with e | e
        · rw [e]; exact .inl hm
        · exact .inr e
  | @new k f x st r hm _ ih =>
    exact fun h => ih fun z hz y hy => by
      rcases List.mem_append.mp hz with e | e
      · rcases h z e y hy with e | e
        · exact .inl (List.mem_append_left _ e)
        · rcases List.mem_cons.mp e with e | e
          · rw [e]; exact .inl (List.mem_append_right _ (List.mem_singleton.mpr rfl))
          · exact .inr (List.mem_append_right _ e)
      · rw [List.mem_singleton.mp e] at hy
        exact .inr (List.mem_append_left _ hy)
theorem Met.map {gs' : List Nd} {h : Int → Int} {k : Nat} {f st r : List Int} (m : Met gs k f st r) (hi : ∀ x ∈ r, ∀ y ∈ r, h x = h y → x = y) (he : ∀ x ∈ r, innA gs' (h x) = (innA gs x).map h) : Met gs' k (f.map h) (st.map h) (r.map h) := by
  induction m with
  | nil f => exact .nil _
  | skip hx _ ih =>
    exact .skip (List.mem_map_of_mem hx) (ih hi he)
  | @new k f x st r hx m' ih =>
    have hs := m'.sub
    have hxr : x ∈ r := hs.1 x (List.mem_append_right _ (List.mem_singleton.mpr rfl))
    refine .new (fun hm => ?_) ?_
    · obtain ⟨z,hz,e⟩ := List.mem_map.mp hm
      have := hi z (hs.1 z (List.mem_append_left _ hz)) x hxr e
      exact hx (this ▸ hz)
    · have := ih hi he
      rw [List.map_append,List.map_append,← he x hxr] at this
      exact this
end
end Ap
set_option maxHeartbeats 4000000
namespace Ap
open PySem PySem.Spec PyProof.Rows L2 SX Fx
def nT : Nd → Fx.T
  | .sc a b => .tup [.str sSc,.str a,.str b]
  | .sq a ns => .tup [.str sSeq,.str a,.tup (ns.map .int)]
  | .mp a ps => .tup [.str sMap,.str a,.tup (ps.map pairT)]
def Tg (a : List Nat) : Prop := isT a = true ∧ a.length ≤ Lim ∧ okS a = true ∧ a ≠ [33,111,116,104,101,114]
def NdOk (size : Nat) : Nd → Prop
  | .sc a b => Tg a ∧ okS b = true
  | .sq a ns => Tg a ∧ ns.length ≤ 1000 ∧ ∀ n ∈ ns,0 ≤ n ∧ n < (size : Int)
  | .mp a ps => Tg a ∧ ps.length ≤ 500 ∧ ∀ p ∈ ps,(0 ≤ p.1 ∧ p.1 < (size : Int)) ∧ 0 ≤ p.2 ∧ p.2 < (size : Int)
theorem nd_ok {size : Nat} : ∀ {g : Nd},NdOk size g → ND size (nT g)
  | .sc _ _,⟨⟨h1,h2,h3,h4⟩,h⟩ => nd_sc h1 h2 h3 h h4
  | .sq _ _,⟨⟨h1,h2,h3,h4⟩,h,hb⟩ => Zly h1 h2 h3 h4 h hb
  | .mp _ _,⟨⟨h1,h2,h3,h4⟩,h,hb⟩ => Zlz h1 h2 h3 h4 h hb
theorem Jc {size : Nat} : ∀ {g : Nd},NdOk size g → (∀ y ∈ g.inn,0 ≤ y ∧ y < (size : Int)) ∧ g.inn.length ≤ 1000
  | .sc _ _,_ => ⟨fun y hy => (by cases hy),Nat.zero_le _⟩
  | .sq _ _,⟨_,h,hb⟩ => ⟨hb,h⟩
  | .mp _ ps,⟨_,h,hb⟩ => ⟨fun y hy => by
      obtain ⟨p,hp,hy⟩ := List.mem_flatMap.mp hy
      have := hb p hp
      simp only [List.mem_cons,List.not_mem_nil,or_false] at hy
      rcases hy with e | e
      · rw [e]; exact this.1
      · rw [e]; exact this.2,by
      have e : ∀ l : List (Int × Int),(l.flatMap fun p => [p.1,p.2]).length = 2 * l.length := fun l => by
        induction l with
        | nil => rfl
        | cons p l ih => rw [List.flatMap_cons,List.length_append,ih,List.length_cons]; simp; omega
      show (ps.flatMap _).length ≤ 1000
      rw [e]; omega⟩
def GsOk (gs : List Nd) : Prop := ∀ g ∈ gs,NdOk gs.length g
theorem Jl {gs : List Nd} (h : GsOk gs) : ClG gs := fun x hx y hy => by
  obtain ⟨g,hg,_,e⟩ := Z6l hx
  rw [e] at hy
  exact (Jc (h g hg)).1 y hy
theorem wt_le {gs : List Nd} (h : GsOk gs) (f : List Int) : wt gs f ≤ 1000 * gs.length := by
  have e : ∀ l : List Nat,(∀ i ∈ l,i < gs.length) → (l.map fun (i : Nat) => (innA gs (i : Int)).length).sum ≤ 1000 * l.length := fun l => by
    induction l with
    | nil => intro _; exact Nat.le_refl _
    | cons i l ih =>
      intro hl
      have h1 := ih fun j hj => hl j (List.mem_cons_of_mem _ hj)
      have hi := hl i List.mem_cons_self
      obtain ⟨g,hg,_,e⟩ := Z6l (gs := gs) (x := (i : Int)) ⟨by omega,by omega⟩
      have h2 := (Jc (h g hg)).2
      rw [List.map_cons,List.sum_cons,List.length_cons,e]
      omega
  have h1 := e (unl gs f) fun i hi => List.mem_range.mp (List.mem_filter.mp hi).1
  have h2 : (unl gs f).length ≤ gs.length := Nat.le_trans (List.length_filter_le _ _) (Nat.le_of_eq List.length_range)
  unfold wt
  have := Nat.mul_le_mul_left 1000 h2
  omega
end Ap
set_option maxHeartbeats 4000000
namespace Ap
open PySem PySem.Spec PyProof.Rows L2 SX Fx
theorem Zea {Z : Sto} {i : Nat} {ts : List Fx.T} {top : Int} (h : GrAt Z i ts top) : okY "Graph" (.loc i) Z = true ∧ insC (.loc i) Z = some "Graph" := by
  have h2 := Z8f (show getI Z i = _ from h)
  have h3 : insC (.loc i) Z = some "Graph" := by
    show (getI Z i).map (·.1) = _
    rw [show getI Z i = _ from h]; rfl
  refine ⟨?_,h3⟩
  have : tyT (.loc i) Z = none := by simp only [tyT,h2]
  unfold okY
  rw [this,h3]
  simp
end Ap
set_option maxHeartbeats 8000000
namespace Ap
open PySem PySem.Spec PyProof.Rows L2 SX Fx
theorem Zjg {α : Type} (ts : List α) : pickL ts none none (some (-1)) = ts.reverse := by
  unfold pickL
  have e0 : sliceBounds none none (some (-1)) ts.length = ((ts.length : Int) - 1,-1,-1) := rfl
  rw [e0]
  show (sliceRange ((ts.length : Int) - 1) (-1) (-1)).filterMap _ = _
  have e1 : sliceRange ((ts.length : Int) - 1) (-1) (-1) = (List.range ts.length).map fun (k : Nat) => ts.length - 1 - k := by
    show (List.range (if (-1 : Int) > 0 then (if (ts.length : Int) - 1 < -1 then (-1 - ((ts.length : Int) - 1) + -1 - 1) / -1 else 0) else (if (ts.length : Int) - 1 > -1 then ((ts.length : Int) - 1 - -1 - -1 - 1) / (- -1) else 0)).toNat).map (fun (k : Nat) => ((ts.length : Int) - 1 + -1 * (k : Int)).toNat) = _
    have e2 : (if (-1 : Int) > 0 then (if (ts.length : Int) - 1 < -1 then (-1 - ((ts.length : Int) - 1) + -1 - 1) / -1 else 0) else (if (ts.length : Int) - 1 > -1 then ((ts.length : Int) - 1 - -1 - -1 - 1) / (- -1) else 0)) = (ts.length : Int) := by
      rw [if_neg (by decide),show (- -1 : Int) = 1 from rfl,Int.ediv_one]
      split <;> omega
    rw [e2,Int.toNat_natCast]
    refine List.map_congr_left fun k hk => ?_
    have := List.mem_range.mp hk
    omega
  rw [e1]
  apply List.ext_getElem?
  intro i
  have e3 : ((List.range ts.length).map fun (k : Nat) => ts.length - 1 - k).filterMap (ts[·]?) = (List.range ts.length).attach.map (fun k => ts[ts.length - 1 - k.1]'(by have := List.mem_range.mp k.2; omega)) := by
    rw [List.filterMap_map]
    have : ∀ l : List Nat, (hl : ∀ k ∈ l, k < ts.length) → l.filterMap ((ts[·]?) ∘ fun k => ts.length - 1 - k) = l.attach.map (fun k => ts[ts.length - 1 - k.1]'(by have := hl k.1 k.2; omega)) := fun l => by
      induction l with
      | nil => intro _; rfl
      | cons a l ih =>
        intro hl
        have ha := hl a List.mem_cons_self
        have h1 : ts.length - 1 - a < ts.length := by omega
        have h2 : ((ts[·]?) ∘ fun k => ts.length - 1 - k) a = some (ts[ts.length - 1 - a]) := by
          show ts[ts.length - 1 - a]? = _
          rw [List.getElem?_eq_getElem h1]
        rw [List.filterMap_cons,h2,ih fun k hk => hl k (List.mem_cons_of_mem _ hk)]
        simp
    exact this _ fun k hk => List.mem_range.mp hk
  rw [e3]
  by_cases hi : i < ts.length
  · rw [List.getElem?_reverse hi]
    simp [hi]
  · rw [List.getElem?_eq_none (by simp; omega),List.getElem?_eq_none (by simp; omega)]
theorem Zb1 {Z : Sto} {i : Nat} {ts : List Fx.T} (h : getL Z i = some ts) (hl : ts.length ≤ Lim) : gSlS (.loc i) none none (some (-1)) Z = some (.loc Z.length,Z ++ [.lst ts.reverse]) := by
  unfold gSlS
  rw [X8,h]
  simp only [Zjg]
  rw [if_neg]
  rintro (e | e)
  · cases e
  · rw [List.length_reverse] at e; omega
def tI (ns : List Int) : List Fx.T := ns.map .int
theorem Fuel3 : ∃ m,Fuel = m + 3 := ⟨Lim - 1,by rw [Vw]; unfold Lim; rfl⟩
def fD (f : List Int) : List (Key × Fx.T) := f.map fun x => (.inl x,.bl true)
theorem Zeb (y : Int) : ∀ f : List Int,getK (fD f) (.inl y) = if y ∈ f then some (.bl true) else none
  | [] => by simp [fD,getK]
  | x :: f => by
    have ih := Zeb y f
    show (if keyEq (.inl x) (.inl y) = true then _ else getK (fD f) (.inl y)) = _
    rw [ih]
    by_cases h : x = y
    · subst h; simp [keyEq]
    · have h' : ¬ y = x := fun e => h e.symm
      simp [keyEq, h, h']
theorem Zhh (y : Int) : ∀ f : List Int,hasK (fD f) (.inl y) = decide (y ∈ f)
  | [] => by simp [fD,hasK]
  | x :: f => by
    have ih := Zhh y f
    show (keyEq (.inl x) (.inl y) || hasK (fD f) (.inl y)) = _
    rw [ih]
    by_cases h : x = y
    · subst h; simp [keyEq]
    · have h' : ¬ y = x := fun e => h e.symm
      simp [keyEq, h, h']
theorem Zm2 {f : List Int} {x : Int} (h : x ∉ f) : putKT (fD f) (.inl x) (.bl true) = fD (f ++ [x]) := by
  unfold putKT
  rw [Zhh,decide_eq_false h]
  simp [fD]
theorem Zec : ∀ f : List Int,tKeys (fD f) = some (tI f)
  | [] => rfl
  | x :: f => by
    show (match tKey (.inl x),tKeys (fD f) with | some t,some ts => some (t :: ts) | _,_ => none) = _
    rw [Zec f]; rfl
theorem Zm3 (f : List Int) : (fD f).length = f.length := List.length_map _
theorem Zb2 (f : List Int) : (tI f).length = f.length := List.length_map _
theorem Z02 {Z : Sto} {i : Nat} {k : List (Key × Fx.T)} : getDK Z i = some k ↔ Z[i]? = some (.dk k) := ⟨Za2,fun h => by unfold getDK; rw [h]⟩
theorem Wb {Z Y : Sto} {i : Nat} {k : List (Key × Fx.T)} (h : getDK Z i = some k) : getDK (Z ++ Y) i = some k := by
  rw [Z02] at h ⊢
  rw [List.getElem?_append_left (List.getElem?_eq_some_iff.mp h).1]; exact h
theorem Zed {Z : Sto} {i : Nat} {k k' : List (Key × Fx.T)} (h : getDK Z i = some k) : getDK (Z.set i (.dk k')) i = some k' := by
  rw [Z02] at h ⊢
  rw [List.getElem?_set_self (List.getElem?_eq_some_iff.mp h).1]
theorem Zb3 {Z : Sto} {i j : Nat} {o : O} (h : i ≠ j) : getDK (Z.set i o) j = getDK Z j := by unfold getDK; rw [List.getElem?_set_ne h]
theorem Zjh {Z : Sto} {i : Nat} {k : List (Key × Fx.T)} (h : getDK Z i = some k) : getL Z i = none := by
  rw [Z02] at h
  unfold getL; rw [h]
def Ext (Z Z' : Sto) : Prop := ∃ Y, Z' = Z ++ Y
theorem Ext.refl (Z : Sto) : Ext Z Z := ⟨[],(List.append_nil _).symm⟩
theorem Ext.app {Z Z' : Sto} (h : Ext Z Z') (Y : Sto) : Ext Z (Z' ++ Y) := by
  obtain ⟨X,rfl⟩ := h
  exact ⟨X ++ Y,List.append_assoc _ _ _⟩
theorem Ext.trans {Z Z1 Z2 : Sto} (h : Ext Z Z1) (h2 : Ext Z1 Z2) : Ext Z Z2 := by
  obtain ⟨X,rfl⟩ := h2
  exact h.app X
theorem Ext.set {Z Z' : Sto} (h : Ext Z Z') {i : Nat} {o : O} (hi : Z.length ≤ i) : Ext Z (Z'.set i o) := by
  obtain ⟨X,rfl⟩ := h
  exact ⟨X.set (i - Z.length) o,List.set_append_right _ _ hi⟩
theorem Ext.len {Z Z' : Sto} (h : Ext Z Z') : Z.length ≤ Z'.length := by
  obtain ⟨X,rfl⟩ := h
  rw [List.length_append]; omega
theorem Ext.getL {Z Z' : Sto} (h : Ext Z Z') {i : Nat} {ts : List Fx.T} (e : Fx.getL Z i = some ts) : Fx.getL Z' i = some ts := by
  obtain ⟨X,rfl⟩ := h
  exact Yj e
section
variable {gs : List Nd}
def nsT (gs : List Nd) : Fx.T := .tup (gs.map nT)
theorem Zji {x : Int} (h : InG gs x) {g : Nd} (e : gs[x.toNat]? = some g) (Z : Sto) : gIxW (nsT gs) (.int x) Z = some (nT g,Z) := by
  obtain ⟨n,rfl⟩ : ∃ n : Nat,x = (n : Int) := ⟨x.toNat,by have := h.1; omega⟩
  have : atI (gs.map nT) (n : Int) = some (nT g) := Fx.atI_nat (by rw [List.getElem?_map,show gs[n]? = some g from e]; rfl)
  unfold nsT
  simp [this]
end
theorem Zb4 {it : ItF} {m : Nat} {u : Nat → Fx.T} {body : Fx.T → FS} {ρ : Fx.Env} {Z : Sto} (I : Nat → Fx.Env → Sto → Prop) (hl : m ≤ Lim) (hit : ∀ k ρ Z, I k ρ Z → k ≤ m → it k Z = some (if k < m then some (u k) else none)) (h0 : I 0 ρ Z) (h : ∀ k < m, ∀ ρ Z, I k ρ Z → ∃ ρ' Z', body (u k) ρ Z = .nx ρ' Z' ∧ I (k + 1) ρ' Z') :
    ∃ ρ' Z', loopN it body Fuel 0 ρ Z = .nx ρ' Z' ∧ I m ρ' Z' := by
  have key : ∀ n k ρ Z, I k ρ Z → k ≤ m → m < n + k → ∃ ρ' Z', loopN it body n k ρ Z = .nx ρ' Z' ∧ I m ρ' Z' := by
    intro n
    induction n with
    | zero => intro k ρ Z _ h1 h2; omega
    | succ n ih =>
      intro k ρ Z hi h1 h2
      by_cases hk : k < m
      · obtain ⟨ρ', Z', e, hi'⟩ := h k hk ρ Z hi
        obtain ⟨ρ2, Z2, e2, hi2⟩ := ih (k + 1) ρ' Z' hi' (by omega) (by omega)
        refine ⟨ρ2,Z2,?_,hi2⟩
        rw [← e2]
        conv => lhs; unfold loopN
        rw [hit k ρ Z hi h1,if_pos hk]
        simp only [e,Z3c]
      · have : k = m := by omega
        subst this
        refine ⟨ρ,Z,?_,hi⟩
        unfold loopN
        rw [hit k ρ Z hi h1,if_neg hk]
  exact key Fuel 0 ρ Z h0 (Nat.zero_le _) (by rw [Vw]; omega)
theorem Zee {ts : List Fx.T} {body : Fx.T → FS} {ρ : Fx.Env} {Z : Sto} (I : Nat → Fx.Env → Sto → Prop) (hl : ts.length ≤ Lim) (h0 : I 0 ρ Z) (h : ∀ k (hk : k < ts.length) ρ Z, I k ρ Z → ∃ ρ' Z', body ts[k] ρ Z = .nx ρ' Z' ∧ I (k + 1) ρ' Z') :
    ∃ ρ' Z', loopN (itSeq ts) body Fuel 0 ρ Z = .nx ρ' Z' ∧ I ts.length ρ' Z' :=
  Zb4 (u := fun k => ts[k]?.getD .non) I hl (fun k ρ Z hi _ => by
    simp only [itSeq]
    by_cases hk : k < ts.length
    · rw [if_pos hk,List.getElem?_eq_getElem hk]; rfl
    · rw [if_neg hk,List.getElem?_eq_none (by omega)]) h0 (fun k hk ρ Z hi => by
    rw [List.getElem?_eq_getElem hk]
    exact h k hk ρ Z hi)
theorem Xk {α : Type} {it : ItF} {put : Fx.T → Option Fx.Env} {c : FT} {e : FE} {l : List α} {u : α → Fx.T} {p : α → Bool} {fv : α → Fx.T} {Z1 : Sto} (hl : l.length ≤ Lim) (hit : ∀ k Z,Ext Z1 Z → k ≤ l.length → it k Z = some ((l[k]?).map u))
    (h : ∀ x ∈ l,∀ Z,Ext Z1 Z → ∃ ρ Z2,put (u x) = some ρ ∧ c ρ Z = .ok (p x) Z2 ∧ Ext Z Z2 ∧ (p x = true → ∃ Z3,e ρ Z2 = .ok (fv x) Z3 ∧ Ext Z2 Z3)) :
    ∃ Z', loopC it Z1.length put c e Fuel 0 (Z1 ++ [.lst []]) = .ok (.loc Z1.length) Z' ∧ Ext Z1 Z' ∧ getL Z' Z1.length = some ((l.filter p).map fv) := by
  have key : ∀ (post pre : List α) (n : Nat) (acc : List Fx.T) (Z : Sto), l = pre ++ post → post.length < n → Ext Z1 Z → getL Z Z1.length = some acc → acc.length ≤ pre.length → ∃ Z', loopC it Z1.length put c e n pre.length Z = .ok (.loc Z1.length) Z' ∧ Ext Z1 Z' ∧ getL Z' Z1.length = some (acc ++ (post.filter p).map fv) := by
    intro post
    induction post with
    | nil =>
      intro pre n acc Z hp hn hx hg ha
      obtain ⟨n, rfl⟩ : ∃ n', n = n' + 1 := ⟨n - 1, by omega⟩
      refine ⟨Z,?_,hx,by rw [hg]; simp⟩
      unfold loopC
      rw [hit _ Z hx (by rw [hp]; simp),hp]
      simp
    | cons x post ih =>
      intro pre n acc Z hp hn hx hg ha
      obtain ⟨n, rfl⟩ : ∃ n', n = n' + 1 := ⟨n - 1, by omega⟩
      rw [List.length_cons] at hn
      obtain ⟨ρ,Z2,h1,h2,h3,h4⟩ := h x (by rw [hp]; simp) Z hx
      have hx2 := hx.trans h3
      have hg2 := h3.getL hg
      have hpl : pre.length < l.length := by rw [hp]; simp
      have e0 : it pre.length Z = some (some (u x)) := by
        rw [hit _ Z hx (by omega),hp]; simp
      have hp2 : l = (pre ++ [x]) ++ post := by rw [hp]; simp
      unfold loopC
      simp only [e0,h1,h2,Z5d,Zv]
      cases hpx : p x with
      | false =>
        rw [if_neg Bool.false_ne_true]
        obtain ⟨Z', e1, x1, g1⟩ := ih (pre ++ [x]) n acc Z2 hp2 (by omega) hx2 hg2 (by rw [List.length_append]; omega)
        rw [List.length_append] at e1
        exact ⟨Z', e1, x1, by rw [g1, List.filter_cons_of_neg (by rw [hpx]; exact Bool.false_ne_true)]⟩
      | true =>
        rw [if_pos rfl]
        obtain ⟨Z3,h5,h6⟩ := h4 hpx
        have hx3 := hx2.trans h6
        have hg3 := h6.getL hg2
        obtain ⟨Z', e1, x1, g1⟩ := ih (pre ++ [x]) n (acc ++ [fv x]) (Z3.set Z1.length (.lst (acc ++ [fv x]))) hp2 (by omega) (hx3.set (Nat.le_refl _)) (Xp hg3) (by rw [List.length_append, List.length_append, List.length_singleton, List.length_singleton]; omega)
        rw [List.length_append] at e1
        refine ⟨Z', ?_, x1, by rw [g1, List.filter_cons_of_pos hpx]; simp⟩
        simp only [h5,Z5d,Zv,hg3]
        rw [if_pos (by omega)]
        exact e1
  obtain ⟨Z', e1, x1, g1⟩ := key l [] Fuel [] (Z1 ++ [.lst []]) rfl (by rw [Vw]; omega) ((Ext.refl Z1).app _) (Zo _ _) (Nat.le_refl _)
  exact ⟨Z', e1, x1, by rw [g1, List.nil_append]⟩
theorem Zef (x : Key) : ∀ l : List (Key × Fx.T),(∀ p ∈ l,p.1 ≠ x) → hasK l x = false
  | [],_ => rfl
  | (k,t) :: l,h => by
    show (keyEq k x || hasK l x) = _
    rw [Zef x l fun p hp => h p (List.mem_cons_of_mem _ hp),Uo,decide_eq_false (h (k,t) List.mem_cons_self)]
    rfl
theorem Vr {α : Type} (l : List α) : l.filter (fun _ => true) = l := List.filter_eq_self.mpr fun _ _ => rfl
theorem GrAt.ext {Z Z' : Sto} {i : Nat} {ts : List Fx.T} {top : Int} (h : GrAt Z i ts top) (x : Ext Z Z') : GrAt Z' i ts top := by
  obtain ⟨Y,rfl⟩ := x
  exact Zlx h Y
theorem Zm4 {Z : Sto} {i : Nat} {ts : List Fx.T} {top : Int} (h : GrAt Z i ts top) : Yb [.loc i] Z = .ok .non Z := by
  obtain ⟨h1,h2⟩ := Zea h
  have e : ∀ ρ, loopN (itSeq [.loc i]) (fun t ρ' Z' => bS ρ' (gNm 1 t ρ' Z') Yv) Fuel 0 [ρ, none] Z = .nx [ρ, some (.loc i)] Z := fun ρ => by
    obtain ⟨m,hm⟩ := Fuel3
    rw [hm]
    simp [loopN,itSeq,Yv,eIsC,h1,h2]
  simp only [Zik,Z0k] at e
  simp [Yb,runS,runF,Vx,e]
section
variable {gs : List Nd}
def ndA (gs : List Nd) (x : Int) : Nd := (gs[x.toNat]?).getD (.sc [] [])
theorem W8 {x : Int} (h : InG gs x) : ndA gs x ∈ gs ∧ gs[x.toNat]? = some (ndA gs x) ∧ innA gs x = (ndA gs x).inn := by
  obtain ⟨g,hg,e,hi⟩ := Z6l h
  have : ndA gs x = g := by unfold ndA; rw [e]; rfl
  rw [this]
  exact ⟨hg,e,hi⟩
theorem gs_gn (hgs : GsOk gs) (Z : Sto) : ∀ t ∈ gs.map nT,GN ((gs.map nT).length : Int) Z t := fun t ht => by
  obtain ⟨g,hg,rfl⟩ := List.mem_map.mp ht
  rw [List.length_map]
  exact (nd_ok (hgs g hg)).good Z
end
theorem Zm5 {gs : List Nd} (hgs : GsOk gs) (h1 : 1 ≤ gs.length) (hN : gs.length ≤ 200) {ds : List Fx.T} {fa : FA} {ρ : Fx.Env} {Z Z0 : Sto} {as : List Fx.T} {nl : Nat} {top : Int} (ha : fa ρ Z = .ok as Z0) (has : as ++ ds = [.loc nl,.int top]) (hn : getL Z0 nl = some (gs.map nT)) (ht : InG gs top) :
    ∃ Z1, eMake "Graph" Ym ds fa ρ Z = .ok (.loc Z0.length) Z1 ∧ Ext Z0 Z1 ∧ GrAt Z1 Z0.length (gs.map nT) top := by
  obtain ⟨Y,e⟩ := Zjd ha has (Zlv hn) (by rw [List.length_map]; exact h1) (by rw [List.length_map]; exact hN) (gs_gn hgs Z0) (by rw [List.length_map]; exact ht)
  exact ⟨_,e,⟨_,rfl⟩,Zlw _ _ _ _⟩
end Ap
set_option maxHeartbeats 4000000
namespace Ap
open PySem PySem.Spec PyProof.Rows L2 SX Fx
abbrev T3 := Option (List Nat ⊕ Nat)
def st : Nd → List Nat × List Nat × T3
  | .sc a b => (sSc,a,some (.inl b))
  | .sq a ns => (sSeq,a,some (.inr ns.length))
  | .mp a _ => (sMap,a,none)
def k3 : T3 → NestedKey
  | some (.inl b) => .text (S b)
  | some (.inr n) => .num (n : Int)
  | none => .none
def k0 (g : Nd) : NestedKey := .tup [.text (S (st g).1),.text (S (st g).2.1),k3 (st g).2.2]
theorem Zm6 : ∀ {a b : T3},k3 a = k3 b → a = b
  | none,none,_ => rfl
  | none,some (.inl _),h => by simp [k3] at h
  | none,some (.inr _),h => by simp [k3] at h
  | some (.inl _),none,h => by simp [k3] at h
  | some (.inr _),none,h => by simp [k3] at h
  | some (.inl a),some (.inl b),h => by
    unfold k3 at h
    injection h with h
    rw [S_inj h]
  | some (.inr a),some (.inr b),h => by
    unfold k3 at h
    injection h with h
    rw [Int.ofNat.inj h]
  | some (.inl _),some (.inr _),h => by simp [k3] at h
  | some (.inr _),some (.inl _),h => by simp [k3] at h
theorem Zm7 {g h : Nd} : k0 g = k0 h ↔ st g = st h := by
  constructor
  · intro e
    unfold k0 at e
    injection e with e
    injection e with e1 e
    injection e with e2 e
    injection e with e3 _
    injection e1 with e1
    injection e2 with e2
    exact Prod.ext (S_inj e1) (Prod.ext (S_inj e2) (Zm6 e3))
  · intro e
    unfold k0
    rw [e]
def cA (cs : List Nat) (x : Int) : Nat := (cs[x.toNat]?).getD 0
def prA (cs : List Nat) (ps : List (Int × Int)) : List (Int × Int) := ps.map fun p => ((cA cs p.1 : Int),(cA cs p.2 : Int))
def in1 (cs : List Nat) : Nd → List NestedKey
  | .sc _ _ => []
  | .sq _ ns => ns.map fun x => .num (cA cs x : Int)
  | .mp _ ps => ((pairsQ (prA cs ps)).mergeSort leQ).map pairK
def k1 (cs : List Nat) (g : Nd) (own : Nat) : NestedKey := .tup [.num (own : Int),.tup (in1 cs g)]
theorem Zhi {cs : List Nat} {g h : Nd} {a b : Nat} : k1 cs g a = k1 cs h b ↔ a = b ∧ in1 cs g = in1 cs h := by
  constructor
  · intro e
    unfold k1 at e
    injection e with e
    injection e with e1 e
    injection e with e2 _
    injection e1 with e1
    injection e2 with e2
    exact ⟨Int.ofNat.inj e1,e2⟩
  · rintro ⟨rfl,e⟩
    unfold k1
    rw [e]
theorem Zm8 : ∀ a b c : Int × Int,leQ a b = true → leQ b c = true → leQ a c = true := fun a b c h1 h2 => by
  unfold leQ at *
  simp only [decide_eq_true_eq] at *
  omega
theorem Zjj : ∀ a b : Int × Int,(leQ a b || leQ b a) = true := fun a b => by
  unfold leQ
  simp only [Bool.or_eq_true,decide_eq_true_eq]
  omega
theorem Zg9 {a b : Int × Int} (h1 : leQ a b = true) (h2 : leQ b a = true) : a = b := by
  unfold leQ at *
  simp only [decide_eq_true_eq] at *
  exact Prod.ext (by omega) (by omega)
theorem Zga {acc : List (Int × Int)} {q x : Int × Int} : x ∈ addQ acc q ↔ x ∈ acc ∨ x = q := by
  unfold addQ
  by_cases h : q ∈ acc
  · rw [if_pos h]
    exact ⟨.inl,fun e => e.elim id fun e => e ▸ h⟩
  · rw [if_neg h,List.mem_append,List.mem_singleton]
theorem Z81 : ∀ (qs acc : List (Int × Int)) {x : Int × Int},x ∈ qs.foldl addQ acc ↔ x ∈ acc ∨ x ∈ qs
  | [],acc,x => by simp
  | q :: r,acc,x => by
    rw [List.foldl_cons,Z81 r,Zga,List.mem_cons,or_assoc]
theorem Zch {qs : List (Int × Int)} {x : Int × Int} : x ∈ pairsQ qs ↔ x ∈ qs := by
  unfold pairsQ
  rw [Z81]
  simp
theorem Zjk {acc : List (Int × Int)} {q : Int × Int} (h : acc.Nodup) : (addQ acc q).Nodup := by
  unfold addQ
  by_cases hq : q ∈ acc
  · rw [if_pos hq]; exact h
  · rw [if_neg hq,List.nodup_append]
    exact ⟨h,by simp,fun a ha b hb => by rw [List.mem_singleton.mp hb]; exact fun e => hq (e ▸ ha)⟩
theorem Zb5 : ∀ (qs acc : List (Int × Int)),acc.Nodup → (qs.foldl addQ acc).Nodup
  | [],_,h => h
  | q :: r,acc,h => Zb5 r _ (Zjk h)
theorem Zeg (qs : List (Int × Int)) : (pairsQ qs).Nodup := Zb5 qs [] List.nodup_nil
theorem up_eq {α : Type} {R : α → α → Prop} (ir : ∀ a,¬ R a a) (as : ∀ a b,R a b → ¬ R b a) : ∀ {l m : List α},l.Pairwise R → m.Pairwise R → (∀ x,x ∈ l ↔ x ∈ m) → l = m
  | [],[],_,_,_ => rfl
  | [],b :: m,_,_,h => by have := (h b).mpr List.mem_cons_self; cases this
  | a :: l,[],_,_,h => by have := (h a).mp List.mem_cons_self; cases this
  | a :: l,b :: m,p,q,h => by
    obtain ⟨p1,p2⟩ := List.pairwise_cons.mp p
    obtain ⟨q1,q2⟩ := List.pairwise_cons.mp q
    have e : a = b := by
      rcases List.mem_cons.mp ((h a).mp List.mem_cons_self) with e | e
      · exact e
      · rcases List.mem_cons.mp ((h b).mpr List.mem_cons_self) with e2 | e2
        · exact e2.symm
        · exact absurd (q1 a e) (as _ _ (p1 b e2))
    subst e
    rw [up_eq ir as p2 q2 fun x => ⟨fun hx => by
      rcases List.mem_cons.mp ((h x).mp (List.mem_cons_of_mem _ hx)) with e | e
      · exact absurd (e ▸ p1 x hx) (ir _)
      · exact e,fun hx => by
      rcases List.mem_cons.mp ((h x).mpr (List.mem_cons_of_mem _ hx)) with e | e
      · exact absurd (e ▸ q1 x hx) (ir _)
      · exact e⟩]
theorem Zhj (qs : List (Int × Int)) : ((pairsQ qs).mergeSort leQ).Pairwise fun a b => leQ a b = true ∧ a ≠ b :=
  (List.pairwise_mergeSort Zm8 Zjj (pairsQ qs)).and ((List.mergeSort_perm (pairsQ qs) leQ).nodup_iff.mpr (Zeg qs))
theorem Z6m {qs : List (Int × Int)} {x : Int × Int} : x ∈ (pairsQ qs).mergeSort leQ ↔ x ∈ qs := by
  rw [List.mem_mergeSort,Zch]
theorem Zjl {A B : List (Int × Int)} : (pairsQ A).mergeSort leQ = (pairsQ B).mergeSort leQ ↔ ∀ x,x ∈ A ↔ x ∈ B := by
  constructor
  · intro e x
    rw [← Z6m,e,Z6m]
  · intro h
    exact up_eq (fun a h => h.2 rfl) (fun a b h h2 => h.2 (Zg9 h.1 h2.1)) (Zhj A) (Zhj B) fun x => by rw [Z6m,Z6m]; exact h x
theorem Z82 : ∀ {l m : List (Int × Int)},l.map pairK = m.map pairK → l = m
  | [],[],_ => rfl
  | [],_ :: _,h => by simp at h
  | _ :: _,[],h => by simp at h
  | a :: l,b :: m,h => by
    rw [List.map_cons,List.map_cons] at h
    injection h with h1 h2
    rw [Z7h h1,Z82 h2]
def rd (gs : List Nd) : Nat → List Nat
  | 0 => (numN (gs.map k0)).2
  | n + 1 => (numN ((gs.zip (rd gs n)).map fun p => k1 (rd gs n) p.1 p.2)).2
def ky (gs : List Nd) : Nat → List NestedKey
  | 0 => gs.map k0
  | n + 1 => (gs.zip (rd gs n)).map fun p => k1 (rd gs n) p.1 p.2
def go (t : Nat → Nat → Bool) : Nd → Nd → Bool
  | .sq _ ns,.sq _ ms => (ns.zip ms).all fun p => t p.1.toNat p.2.toNat
  | .mp _ ps,.mp _ qs => (ps.all fun p => qs.any fun q => t p.1.toNat q.1.toNat && t p.2.toNat q.2.toNat) && qs.all fun q => ps.any fun p => t q.1.toNat p.1.toNat && t q.2.toNat p.2.toNat
  | _,_ => true
def tb (gs : List Nd) : Nat → Nat → Nat → Bool
  | 0,i,j => decide (st (ndA gs (i : Int)) = st (ndA gs (j : Int)))
  | n + 1,i,j => tb gs n i j && go (tb gs n) (ndA gs (i : Int)) (ndA gs (j : Int))
section
variable {gs : List Nd}
theorem Z1m (ks : List NestedKey) : (numN ks).2.length = ks.length := by rw [Zam,List.length_map]
theorem Zci (gs : List Nd) : ∀ n,rd gs n = (numN (ky gs n)).2
  | 0 => rfl
  | _ + 1 => rfl
theorem Z0j (gs : List Nd) : ∀ n,(rd gs n).length = gs.length
  | 0 => by
    show (numN _).2.length = _
    rw [Z1m,List.length_map]
  | n + 1 => by
    show (numN _).2.length = _
    rw [Z1m,List.length_map,List.length_zip,Z0j gs n,Nat.min_self]
theorem Zb6 (gs : List Nd) (n : Nat) : (ky gs n).length = gs.length := by rw [← Z1m,← Zci,Z0j]
theorem Zjm {cs : List Nat} {i : Nat} (h : i < cs.length) : cs[i]? = some (cA cs (i : Int)) := by
  unfold cA
  rw [Int.toNat_natCast,List.getElem?_eq_getElem h]; rfl
theorem Zm9 {i : Nat} (h : i < gs.length) : gs[i]? = some (ndA gs (i : Int)) := by
  unfold ndA
  rw [Int.toNat_natCast,List.getElem?_eq_getElem h]; rfl
def ky1 (gs : List Nd) : Nat → Nat → NestedKey
  | 0,i => k0 (ndA gs (i : Int))
  | n + 1,i => k1 (rd gs n) (ndA gs (i : Int)) (cA (rd gs n) (i : Int))
theorem Z55 : ∀ (n : Nat) {i : Nat} (h : i < gs.length),(ky gs n)[i]? = some (ky1 gs n i)
  | 0,i,h => by
    show (gs.map k0)[i]? = _
    rw [List.getElem?_map,Zm9 h]; rfl
  | n + 1,i,h => by
    show ((gs.zip (rd gs n)).map fun p => k1 (rd gs n) p.1 p.2)[i]? = _
    have hz : (gs.zip (rd gs n))[i]? = some (ndA gs (i : Int),cA (rd gs n) (i : Int)) := List.getElem?_zip_eq_some.mpr ⟨Zm9 h,Zjm (cs := rd gs n) (by rw [Z0j gs n]; exact h)⟩
    rw [List.getElem?_map,hz]; rfl
theorem Z4t (n : Nat) {i j : Nat} (hi : i < gs.length) (hj : j < gs.length) : cA (rd gs n) (i : Int) = cA (rd gs n) (j : Int) ↔ ky1 gs n i = ky1 gs n j := by
  have h := Z45 (Z55 n hi) (Z55 n hj)
  rw [← Zci,Zjm (by rw [Z0j]; exact hi),Zjm (by rw [Z0j]; exact hj)] at h
  rw [← h]
  exact ⟨fun e => by rw [e],fun e => Option.some.inj e⟩
theorem Zjn : ∀ (n : Nat) {i j : Nat},tb gs n i j = true → st (ndA gs (i : Int)) = st (ndA gs (j : Int))
  | 0,_,_,h => of_decide_eq_true h
  | n + 1,_,_,h => by
    unfold tb at h
    rw [Bool.and_eq_true] at h
    exact Zjn n h.1
theorem Zhk {f : Int → Nat} {t : Nat → Nat → Bool} : ∀ {ns ms : List Int},ns.length = ms.length → (∀ x ∈ ns,∀ y ∈ ms,t x.toNat y.toNat = decide (f x = f y)) → ((ns.map fun x => NestedKey.num (f x : Int)) = (ms.map fun x => NestedKey.num (f x : Int)) ↔ ((ns.zip ms).all fun p => t p.1.toNat p.2.toNat) = true)
  | [],[],_,_ => by simp
  | [],_ :: _,h,_ => by simp at h
  | _ :: _,[],h,_ => by simp at h
  | x :: ns,y :: ms,h,ht => by
    have ih := Zhk (f := f) (t := t) (ns := ns) (ms := ms) (by simpa using h) fun a ha b hb => ht a (List.mem_cons_of_mem _ ha) b (List.mem_cons_of_mem _ hb)
    rw [List.zip_cons_cons,List.all_cons,Bool.and_eq_true,← ih,ht x List.mem_cons_self y List.mem_cons_self,List.map_cons,List.map_cons]
    constructor
    · intro e
      injection e with e1 e2
      injection e1 with e1
      exact ⟨decide_eq_true (Int.ofNat.inj e1),e2⟩
    · rintro ⟨e1,e2⟩
      rw [of_decide_eq_true e1,e2]
theorem V4 {x : Int} (h : InG gs x) : ∃ n : Nat,x = (n : Int) ∧ n < gs.length := ⟨x.toNat,by have := h.1; omega,by have := h.1; have := h.2; omega⟩
theorem Zcj (hc : ClG gs) : ∀ (n : Nat) {i j : Nat},i < gs.length → j < gs.length → tb gs n i j = decide (cA (rd gs n) (i : Int) = cA (rd gs n) (j : Int))
  | 0,i,j,hi,hj => by
    unfold tb
    exact decide_eq_decide.mpr (by rw [Z4t 0 hi hj]; exact Zm7.symm)
  | n + 1,i,j,hi,hj => by
    have ih := fun {i j : Nat} hi hj => Zcj hc n (i := i) (j := j) hi hj
    have ihx : ∀ {x y : Int},InG gs x → InG gs y → tb gs n x.toNat y.toNat = decide (cA (rd gs n) x = cA (rd gs n) y) := fun {x y} hx hy => by
      obtain ⟨a,rfl,ha⟩ := V4 hx
      obtain ⟨b,rfl,hb⟩ := V4 hy
      rw [Int.toNat_natCast,Int.toNat_natCast]
      exact ih ha hb
    have e : cA (rd gs (n + 1)) (i : Int) = cA (rd gs (n + 1)) (j : Int) ↔ cA (rd gs n) (i : Int) = cA (rd gs n) (j : Int) ∧ in1 (rd gs n) (ndA gs (i : Int)) = in1 (rd gs n) (ndA gs (j : Int)) := by
      rw [Z4t (n + 1) hi hj]
      exact Zhi
    unfold tb
    by_cases h0 : tb gs n i j = true
    · have h1 := h0
      rw [ih hi hj] at h1
      have hst := Zjn n h0
      rw [h0,Bool.true_and]
      have ci := fun y hy => hc (i : Int) ⟨by omega,by omega⟩ y hy
      have cj := fun y hy => hc (j : Int) ⟨by omega,by omega⟩ y hy
      rw [(W8 (gs := gs) (x := (i : Int)) ⟨by omega,by omega⟩).2.2] at ci
      rw [(W8 (gs := gs) (x := (j : Int)) ⟨by omega,by omega⟩).2.2] at cj
      have key : in1 (rd gs n) (ndA gs (i : Int)) = in1 (rd gs n) (ndA gs (j : Int)) ↔ go (tb gs n) (ndA gs (i : Int)) (ndA gs (j : Int)) = true := by
        generalize ndA gs (i : Int) = g at hst ci ⊢
        generalize ndA gs (j : Int) = h at hst cj ⊢
        cases g with
        | sc a b =>
          cases h with
          | sc a' b' => simp [in1, go]
          | sq a' ns' => simp [st, sSc, sSeq] at hst
          | mp a' ps' => simp [st, sSc, sMap] at hst
        | sq a ns =>
          cases h with
          | sc a' b' => simp [st, sSc, sSeq] at hst
          | sq a' ns' =>
            have hl : ns.length = ns'.length := by
              have := congrArg (fun q : List Nat × List Nat × T3 => q.2.2) hst
              simpa [st] using this
            exact Zhk (f := cA (rd gs n)) (t := tb gs n) hl fun x hx y hy => ihx (ci x hx) (cj y hy)
          | mp a' ps' => simp [st, sSeq, sMap] at hst
        | mp a ps =>
          cases h with
          | sc a' b' => simp [st, sSc, sMap] at hst
          | sq a' ns' => simp [st, sSeq, sMap] at hst
          | mp a' qs =>
            have hp : ∀ p ∈ ps,InG gs p.1 ∧ InG gs p.2 := fun p hp => ⟨ci p.1 (List.mem_flatMap.mpr ⟨p,hp,by simp⟩),ci p.2 (List.mem_flatMap.mpr ⟨p,hp,by simp⟩)⟩
            have hq : ∀ q ∈ qs,InG gs q.1 ∧ InG gs q.2 := fun q hq => ⟨cj q.1 (List.mem_flatMap.mpr ⟨q,hq,by simp⟩),cj q.2 (List.mem_flatMap.mpr ⟨q,hq,by simp⟩)⟩
            have e1 : in1 (rd gs n) (.mp a ps) = in1 (rd gs n) (.mp a' qs) ↔ ∀ x, x ∈ prA (rd gs n) ps ↔ x ∈ prA (rd gs n) qs := by
              rw [← Zjl]
              exact ⟨fun e => Z82 e,fun e => by show List.map _ _ = List.map _ _; rw [e]⟩
            rw [e1]
            have half : ∀ {ps qs : List (Int × Int)},(∀ p ∈ ps,InG gs p.1 ∧ InG gs p.2) → (∀ q ∈ qs,InG gs q.1 ∧ InG gs q.2) → ((∀ x,x ∈ prA (rd gs n) ps → x ∈ prA (rd gs n) qs) ↔ (ps.all fun p => qs.any fun q => tb gs n p.1.toNat q.1.toNat && tb gs n p.2.toNat q.2.toNat) = true) := fun {ps qs} hp hq => by
              rw [List.all_eq_true]
              constructor
              · intro h p hpm
                have := h _ (List.mem_map_of_mem hpm)
                obtain ⟨q,hqm,e⟩ := List.mem_map.mp this
                rw [List.any_eq_true]
                refine ⟨q,hqm,?_⟩
                have e1 := congrArg Prod.fst e
                have e2 := congrArg Prod.snd e
                rw [ihx (hp p hpm).1 (hq q hqm).1,ihx (hp p hpm).2 (hq q hqm).2,Bool.and_eq_true]
                exact ⟨decide_eq_true (Int.ofNat.inj e1).symm,decide_eq_true (Int.ofNat.inj e2).symm⟩
              · intro h x hx
                obtain ⟨p,hpm,rfl⟩ := List.mem_map.mp hx
                have := h p hpm
                rw [List.any_eq_true] at this
                obtain ⟨q,hqm,e⟩ := this
                rw [ihx (hp p hpm).1 (hq q hqm).1,ihx (hp p hpm).2 (hq q hqm).2,Bool.and_eq_true] at e
                refine List.mem_map.mpr ⟨q,hqm,?_⟩
                rw [of_decide_eq_true e.1,of_decide_eq_true e.2]
            unfold go
            rw [Bool.and_eq_true,← half hp hq,← half hq hp]
            exact ⟨fun h => ⟨fun x => (h x).mp,fun x => (h x).mpr⟩,fun h x => ⟨h.1 x,h.2 x⟩⟩
      by_cases h2 : go (tb gs n) (ndA gs (i : Int)) (ndA gs (j : Int)) = true
      · rw [h2]
        exact (decide_eq_true (e.mpr ⟨of_decide_eq_true h1,key.mpr h2⟩)).symm
      · rw [Bool.eq_false_iff.mpr h2]
        exact (decide_eq_false fun z => h2 (key.mp (e.mp z).2)).symm
    · have h1 := h0
      rw [ih hi hj] at h1
      rw [Bool.eq_false_iff.mpr h0,Bool.false_and]
      exact (decide_eq_false fun z => h1 (decide_eq_true (e.mp z).1)).symm
end
end Ap
set_option maxHeartbeats 4000000
namespace Ap
open PySem PySem.Spec PyProof.Rows L2 SX Fx
section
variable {gs : List Nd}
theorem Zeh (n : Nat) {i j : Nat} (hi : i < gs.length) (hj : j < gs.length) (h : cA (rd gs (n + 1)) (i : Int) = cA (rd gs (n + 1)) (j : Int)) : cA (rd gs n) (i : Int) = cA (rd gs n) (j : Int) :=
  (Zhi.mp ((Z4t (n + 1) hi hj).mp h)).1
theorem Zjo (n m : Nat) : rd gs n = rd gs m ↔ ∀ i j : Nat,i < gs.length → j < gs.length → (cA (rd gs n) (i : Int) = cA (rd gs n) (j : Int) ↔ cA (rd gs m) (i : Int) = cA (rd gs m) (j : Int)) := by
  rw [Zci gs n,Zci gs m,Zfy (by rw [Zb6,Zb6]),← Zci,← Zci]
  constructor
  · intro h i j hi hj
    rw [Z4t n hi hj,Z4t m hi hj]
    exact h i j _ _ _ _ (Z55 n hi) (Z55 n hj) (Z55 m hi) (Z55 m hj)
  · intro h i j a b c d h1 h2 h3 h4
    have hi : i < gs.length := by
      have := (List.getElem?_eq_some_iff.mp h1).1
      rwa [Zb6] at this
    have hj : j < gs.length := by
      have := (List.getElem?_eq_some_iff.mp h2).1
      rwa [Zb6] at this
    rw [Z55 n hi] at h1
    rw [Z55 n hj] at h2
    rw [Z55 m hi] at h3
    rw [Z55 m hj] at h4
    cases h1; cases h2; cases h3; cases h4
    rw [← Z4t n hi hj,← Z4t m hi hj]
    exact h i j hi hj
theorem Zb7 {p : Nat → Prop} : ∀ n,p n → ∃ m,m ≤ n ∧ p m ∧ ∀ k < m,¬ p k := by
  intro n
  induction n using Nat.strongRecOn with
  | _ n ih =>
    intro h
    by_cases hx : ∃ k,k < n ∧ p k
    · obtain ⟨k,hk,hp⟩ := hx
      obtain ⟨m,h1,h2,h3⟩ := ih k hk hp
      exact ⟨m,by omega,h2,h3⟩
    · exact ⟨n,Nat.le_refl _,h,fun k hk hp => hx ⟨k,hk,hp⟩⟩
def rep (gs : List Nd) (n i : Nat) : Bool := decide (∀ j,j < i → cA (rd gs n) (j : Int) ≠ cA (rd gs n) (i : Int))
def cnt (gs : List Nd) (n : Nat) : Nat := ((List.range gs.length).filter (rep gs n)).length
theorem Zhl (n : Nat) {i : Nat} (hi : i < gs.length) : ∃ r,r ≤ i ∧ rep gs n r = true ∧ cA (rd gs n) (r : Int) = cA (rd gs n) (i : Int) := by
  obtain ⟨m,h1,h2,h3⟩ := Zb7 (p := fun r => cA (rd gs n) (r : Int) = cA (rd gs n) (i : Int)) i rfl
  exact ⟨m,h1,decide_eq_true fun j hj e => h3 j hj (e.trans h2),h2⟩
theorem Zma (n : Nat) {i : Nat} (hi : i < gs.length) (h : rep gs n i = true) : rep gs (n + 1) i = true :=
  decide_eq_true fun j hj e => of_decide_eq_true h j hj (Zeh n (by omega) hi e)
theorem Zei {p q : Nat → Bool} : ∀ {l : List Nat},(∀ a ∈ l,p a = true → q a = true) → (∃ a ∈ l,q a = true ∧ p a = false) → (l.filter p).length < (l.filter q).length
  | [],_,h => by obtain ⟨a,ha,_⟩ := h; cases ha
  | b :: l,h,hx => by
    have hl : (l.filter p).length ≤ (l.filter q).length := by
      have : ∀ l : List Nat,(∀ a ∈ l,p a = true → q a = true) → (l.filter p).length ≤ (l.filter q).length := by
        intro l
        induction l with
        | nil => intro _; exact Nat.le_refl _
        | cons c l ih =>
          intro h
          have i1 := ih fun a ha => h a (List.mem_cons_of_mem _ ha)
          have h1 := h c List.mem_cons_self
          cases hp : p c with
          | true => rw [List.filter_cons_of_pos hp,List.filter_cons_of_pos (h1 hp)]; exact Nat.succ_le_succ i1
          | false =>
            rw [List.filter_cons_of_neg (by rw [hp]; exact Bool.false_ne_true)]
            cases hq : q c with
            | true => rw [List.filter_cons_of_pos hq]; exact Nat.le_succ_of_le i1
            | false => rw [List.filter_cons_of_neg (by rw [hq]; exact Bool.false_ne_true)]; exact i1
      exact this l fun a ha => h a (List.mem_cons_of_mem _ ha)
    obtain ⟨a,ha,h1,h2⟩ := hx
    rcases List.mem_cons.mp ha with e | e
    · subst e
      rw [List.filter_cons_of_neg (by rw [h2]; exact Bool.false_ne_true),List.filter_cons_of_pos h1]
      exact Nat.lt_succ_of_le hl
    · have ih := Zei (fun a ha => h a (List.mem_cons_of_mem _ ha)) ⟨a,e,h1,h2⟩
      have hb := h b List.mem_cons_self
      cases hp : p b with
      | true => rw [List.filter_cons_of_pos hp,List.filter_cons_of_pos (hb hp)]; exact Nat.succ_lt_succ ih
      | false =>
        rw [List.filter_cons_of_neg (by rw [hp]; exact Bool.false_ne_true)]
        cases hq : q b with
        | true => rw [List.filter_cons_of_pos hq]; exact Nat.lt_succ_of_lt ih
        | false => rw [List.filter_cons_of_neg (by rw [hq]; exact Bool.false_ne_true)]; exact ih
theorem Zmb {n : Nat} (h : rd gs (n + 1) ≠ rd gs n) : cnt gs n < cnt gs (n + 1) := by
  refine Zei (fun a ha => Zma n (List.mem_range.mp ha)) ?_
  by_cases hx : ∃ a ∈ List.range gs.length,rep gs (n + 1) a = true ∧ rep gs n a = false
  · exact hx
  · exfalso
    refine h ((Zjo (n + 1) n).mpr fun i j hi hj => ⟨Zeh n hi hj,fun e => ?_⟩)
    have key : ∀ {i : Nat},i < gs.length → ∀ r,r < gs.length → rep gs n r = true → cA (rd gs n) (r : Int) = cA (rd gs n) (i : Int) → cA (rd gs (n + 1)) (r : Int) = cA (rd gs (n + 1)) (i : Int) := fun {i} hi r hr h1 h2 => by
      obtain ⟨y,hy,h3,h4⟩ := Zhl (n + 1) hi
      have h5 : rep gs n y = true := by
        cases hq : rep gs n y with
        | true => rfl
        | false => exact absurd ⟨y,List.mem_range.mpr (by omega),h3,hq⟩ hx
      have h6 := (Zeh n (by omega) hi h4).trans h2.symm
      have h7 : y = r := by
        rcases Nat.lt_trichotomy y r with z | z | z
        · exact absurd h6 (of_decide_eq_true h1 y z)
        · exact z
        · exact absurd h6.symm (of_decide_eq_true h5 r z)
      rw [← h7]; exact h4
    obtain ⟨r,hr,h1,h2⟩ := Zhl n hi
    rw [← key hi r (by omega) h1 h2,← key hj r (by omega) h1 (h2.trans e)]
theorem stab (h1 : 1 ≤ gs.length) : ∃ s,s < gs.length ∧ rd gs (s + 1) = rd gs s ∧ ∀ k < s,rd gs (k + 1) ≠ rd gs k := by
  by_cases hx : ∃ s,s < gs.length ∧ rd gs (s + 1) = rd gs s
  · obtain ⟨s,hs,e⟩ := hx
    obtain ⟨m,q1,q2,q3⟩ := Zb7 (p := fun s => rd gs (s + 1) = rd gs s) s e
    exact ⟨m,by omega,q2,q3⟩
  · exfalso
    have key : ∀ k,k ≤ gs.length → k + 1 ≤ cnt gs k := by
      intro k
      induction k with
      | zero =>
        intro _
        have : 0 ∈ (List.range gs.length).filter (rep gs 0) := List.mem_filter.mpr ⟨List.mem_range.mpr (by omega),decide_eq_true fun j hj => absurd hj (Nat.not_lt_zero j)⟩
        exact List.length_pos_iff.mpr fun e => by rw [e] at this; cases this
      | succ k ih =>
        intro hk
        have := ih (by omega)
        have := Zmb (gs := gs) (n := k) fun e => hx ⟨k,by omega,e⟩
        omega
    have := key gs.length (Nat.le_refl _)
    have h2 : cnt gs gs.length ≤ gs.length := Nat.le_trans (List.length_filter_le _ _) (Nat.le_of_eq List.length_range)
    omega
theorem Zjp {n m : Nat} (h : rd gs n = rd gs m) : rd gs (n + 1) = rd gs (m + 1) := by
  show (numN _).2 = (numN _).2
  rw [h]
theorem Zej {s : Nat} (h : rd gs (s + 1) = rd gs s) : ∀ k,rd gs (s + k) = rd gs s
  | 0 => rfl
  | k + 1 => (Zjp (Zej h k)).trans h
theorem Zjq (hc : ClG gs) (n m : Nat) (h : rd gs n = rd gs m) {i j : Nat} (hi : i < gs.length) (hj : j < gs.length) : tb gs n i j = tb gs m i j := by
  rw [Zcj hc n hi hj,Zcj hc m hi hj,h]
theorem Z9k (hc : ClG gs) {s : Nat} (h : rd gs (s + 1) = rd gs s) {n : Nat} (hn : s ≤ n) {i j : Nat} (hi : i < gs.length) (hj : j < gs.length) : tb gs n i j = tb gs s i j := by
  obtain ⟨k,rfl⟩ : ∃ k,n = s + k := ⟨n - s,by omega⟩
  exact Zjq hc _ _ (Zej h k) hi hj
theorem Zmc (hc : ClG gs) (n : Nat) {i j : Nat} (hi : i < gs.length) (hj : j < gs.length) : tb gs n i j = tb gs n j i := by
  rw [Zcj hc n hi hj,Zcj hc n hj hi]
  exact decide_eq_decide.mpr ⟨Eq.symm,Eq.symm⟩
theorem Zek : ∀ (n k : Nat) {i j : Nat},tb gs (n + k) i j = true → tb gs n i j = true
  | _,0,_,_,h => h
  | n,k + 1,i,j,h => by
    have h : tb gs (n + k + 1) i j = true := h
    unfold tb at h
    rw [Bool.and_eq_true] at h
    exact Zek n k h.1
def apN (gs : List Nd) (s i j : Nat) : Option Nat := (List.range (s + 1)).find? fun n => !tb gs n i j
theorem go_rn {t t' : Nat → Nat → Bool} {h : Int → Int} : ∀ {g k : Nd}, (∀ x ∈ g.inn, ∀ y ∈ k.inn, t' (h x).toNat (h y).toNat = t x.toNat y.toNat ∧ t' (h y).toNat (h x).toNat = t y.toNat x.toNat) → go t' (g.rn h) (k.rn h) = go t g k
  | .sc _ _,.sc _ _,_ => rfl
  | .sc _ _,.sq _ _,_ => rfl
  | .sc _ _,.mp _ _,_ => rfl
  | .sq _ _,.sc _ _,_ => rfl
  | .sq _ _,.mp _ _,_ => rfl
  | .mp _ _,.sc _ _,_ => rfl
  | .mp _ _,.sq _ _,_ => rfl
  | .sq _ ns,.sq _ ms,e => by
    show ((ns.map h).zip (ms.map h)).all _ = (ns.zip ms).all _
    rw [List.zip_map,List.all_map]
    rw [Bool.eq_iff_iff,List.all_eq_true,List.all_eq_true]
    have hz : ∀ p ∈ ns.zip ms, t' (h p.1).toNat (h p.2).toNat = t p.1.toNat p.2.toNat := fun p hp => by
      obtain ⟨a,b⟩ := p
      have := List.of_mem_zip hp
      exact (e a this.1 b this.2).1
    constructor
    · intro q p hp
      rw [← hz p hp]; exact q p hp
    · intro q p hp
      show t' (h p.1).toNat (h p.2).toNat = true
      rw [hz p hp]; exact q p hp
  | .mp _ ps,.mp _ qs,e => by
    have hp : ∀ p ∈ ps, ∀ q ∈ qs, (t' (h p.1).toNat (h q.1).toNat = t p.1.toNat q.1.toNat ∧ t' (h q.1).toNat (h p.1).toNat = t q.1.toNat p.1.toNat) ∧ (t' (h p.2).toNat (h q.2).toNat = t p.2.toNat q.2.toNat ∧ t' (h q.2).toNat (h p.2).toNat = t q.2.toNat p.2.toNat) := fun p hp q hq =>
      ⟨e p.1 (List.mem_flatMap.mpr ⟨p,hp,by simp⟩) q.1 (List.mem_flatMap.mpr ⟨q,hq,by simp⟩),e p.2 (List.mem_flatMap.mpr ⟨p,hp,by simp⟩) q.2 (List.mem_flatMap.mpr ⟨q,hq,by simp⟩)⟩
    show (((ps.map _).all fun p => (qs.map _).any _) && ((qs.map _).all fun q => (ps.map _).any _)) = (_ && _)
    rw [Bool.eq_iff_iff,Bool.and_eq_true,Bool.and_eq_true]
    simp only [List.all_map,List.any_map,List.all_eq_true,List.any_eq_true,Function.comp,Bool.and_eq_true]
    constructor
    · rintro ⟨q1,q2⟩
      refine ⟨fun p hpm => ?_,fun q hqm => ?_⟩
      · obtain ⟨q,hqm,a,b⟩ := q1 p hpm
        have z := hp p hpm q hqm
        exact ⟨q,hqm,z.1.1 ▸ a,z.2.1 ▸ b⟩
      · obtain ⟨p,hpm,a,b⟩ := q2 q hqm
        have z := hp p hpm q hqm
        exact ⟨p,hpm,z.1.2 ▸ a,z.2.2 ▸ b⟩
    · rintro ⟨q1,q2⟩
      refine ⟨fun p hpm => ?_,fun q hqm => ?_⟩
      · obtain ⟨q,hqm,a,b⟩ := q1 p hpm
        have z := hp p hpm q hqm
        exact ⟨q,hqm,z.1.1.symm ▸ a,z.2.1.symm ▸ b⟩
      · obtain ⟨p,hpm,a,b⟩ := q2 q hqm
        have z := hp p hpm q hqm
        exact ⟨p,hpm,z.1.2.symm ▸ a,z.2.2.symm ▸ b⟩
theorem Zjr {h : Int → Int} {g : Nd} : st (g.rn h) = st g := by
  cases g with
  | sc a b => rfl
  | sq a ns => simp [st,Nd.rn]
  | mp a ps => rfl
theorem Zgb {gs' : List Nd} {h : Nat → Nat} (hc : ClG gs) (hn : ∀ i, i < gs.length → ndA gs' ((h i : Nat) : Int) = (ndA gs (i : Int)).rn fun x => ((h x.toNat : Nat) : Int)) : ∀ (n : Nat) {i j : Nat}, i < gs.length → j < gs.length → tb gs' n (h i) (h j) = tb gs n i j
  | 0,i,j,hi,hj => by
    unfold tb
    rw [hn i hi,hn j hj,Zjr,Zjr]
  | n + 1,i,j,hi,hj => by
    unfold tb
    rw [Zgb hc hn n hi hj,hn i hi,hn j hj]
    rw [go_rn (t := tb gs n)]
    intro x hx y hy
    have gx : InG gs x := hc (i : Int) ⟨by omega,by omega⟩ x (by rw [(W8 (gs := gs) (x := (i : Int)) ⟨by omega,by omega⟩).2.2]; exact hx)
    have gy : InG gs y := hc (j : Int) ⟨by omega,by omega⟩ y (by rw [(W8 (gs := gs) (x := (j : Int)) ⟨by omega,by omega⟩).2.2]; exact hy)
    have lx : x.toNat < gs.length := by have := gx.1; have := gx.2; omega
    have ly : y.toNat < gs.length := by have := gy.1; have := gy.2; omega
    rw [Int.toNat_natCast,Int.toNat_natCast]
    exact ⟨Zgb hc hn n lx ly,Zgb hc hn n ly lx⟩
theorem Z83 {s i j : Nat} {r : Option Nat} : apN gs s i j = r ↔ match r with
    | some n => n ≤ s ∧ tb gs n i j = false ∧ ∀ k < n,tb gs k i j = true
    | none => ∀ n ≤ s,tb gs n i j = true := by
  unfold apN
  cases r with
  | none =>
    simp only [List.find?_eq_none, List.mem_range, Bool.not_eq_true', Bool.not_eq_false]
    exact ⟨fun h n hn => h n (by omega),fun h n hn => h n (by omega)⟩
  | some n =>
    simp only [List.find?_range_eq_some, List.mem_range, Bool.not_eq_true', Bool.not_not, Bool.not_eq_false']
    exact ⟨fun ⟨h1,h2,h3⟩ => ⟨by omega,h1,h3⟩,fun ⟨h1,h2,h3⟩ => ⟨h2,by omega,h3⟩⟩
theorem ap_eq {gs' : List Nd} {s s' i j i' j' : Nat} (hs : ∀ n, s ≤ n → tb gs n i j = tb gs s i j) (hs' : ∀ n, s' ≤ n → tb gs' n i' j' = tb gs' s' i' j') (h : ∀ n, tb gs n i j = tb gs' n i' j') : apN gs s i j = apN gs' s' i' j' := by
  refine Z83.mpr ?_
  cases e : apN gs' s' i' j' with
  | none =>
    have e := Z83.mp e
    intro n hn
    rw [h n]
    by_cases hl : n ≤ s'
    · exact e n hl
    · rw [hs' n (by omega)]; exact e s' (Nat.le_refl _)
  | some n =>
    obtain ⟨e1,e2,e3⟩ := Z83.mp e
    refine ⟨?_,by rw [h n]; exact e2,fun k hk => by rw [h k]; exact e3 k hk⟩
    by_cases hl : n ≤ s
    · exact hl
    · exfalso
      have e4 : tb gs n i j = false := by rw [h n]; exact e2
      rw [hs n (by omega),h s,e3 s (by omega)] at e4
      cases e4
end
end Ap
set_option maxHeartbeats 8000000
namespace Ap
open PySem PySem.Spec PyProof.Rows L2 SX Fx
def nI (cs : List Nat) : List Fx.T := cs.map fun n => .int ((n : Nat) : Int)
theorem Zhm (cs : List Nat) : (nI cs).length = cs.length := List.length_map _
def t3T : T3 → Fx.T
  | some (.inl b) => .str b
  | some (.inr n) => .int (n : Int)
  | none => .non
def stT (g : Nd) : Fx.T := .tup [.str (st g).1,.str (st g).2.1,t3T (st g).2.2]
theorem Zjs (g : Nd) (Z : Sto) : Vc [nT g] Z = .ok (stT g) Z := by
  cases g with
  | sc a b => simp [Vc,runF,J8,nT,stT,st,t3T,sSc]
  | sq a ns => simp [Vc,runF,J8,nT,stT,st,t3T,sSeq]
  | mp a ps => simp [Vc,runF,J8,nT,stT,st,t3T,sMap]
theorem nk_st (g : Nd) : nkyT (stT g) = some (k0 g) := by
  cases g with
  | sc a b => simp [nkyT,nkTs,nkT,stT,st,t3T,k0,k3,NestedKey.depth,NestedKey.depthAll]
  | sq a ns => simp [nkyT,nkTs,nkT,stT,st,t3T,k0,k3,NestedKey.depth,NestedKey.depthAll]
  | mp a ps => simp [nkyT,nkTs,nkT,stT,st,t3T,k0,k3,NestedKey.depth,NestedKey.depthAll]
theorem Z6n {α : Type} {u : α → Fx.T} {k : α → NestedKey} : ∀ (l : List α),(∀ x ∈ l,nkyT (u x) = some (k x)) → nkysT (l.map u) = some (l.map k)
  | [],_ => rfl
  | x :: l,h => by
    rw [List.map_cons,nkysT,h x List.mem_cons_self,Z6n l fun y hy => h y (List.mem_cons_of_mem _ hy)]
    rfl
def in1T (cs : List Nat) : Nd → List Fx.T
  | .sc _ _ => []
  | .sq _ ns => ns.map fun x => .int (cA cs x : Int)
  | .mp _ ps => ((pairsQ (prA cs ps)).mergeSort leQ).map fun q => .tup [.int q.1,.int q.2]
def k1T (cs : List Nat) (g : Nd) (own : Nat) : Fx.T := .tup [.int (own : Int),.tup (in1T cs g)]
theorem Z6o {α : Type} {u : α → Fx.T} {k : α → NestedKey} : ∀ (l : List α),(∀ x ∈ l,nkT (u x) = some (k x)) → nkTs (l.map u) = some (l.map k)
  | [],_ => rfl
  | x :: l,h => by
    rw [List.map_cons,nkTs,h x List.mem_cons_self,Z6o l fun y hy => h y (List.mem_cons_of_mem _ hy)]
    rfl
theorem Z4u {α : Type} {k : α → NestedKey} {d : Nat} : ∀ (l : List α),(∀ x ∈ l,(k x).depth ≤ d) → NestedKey.depthAll (l.map k) ≤ d
  | [],_ => by rw [List.map_nil,NestedKey.depthAll]; exact Nat.zero_le _
  | x :: l,h => by
    have h1 := h x List.mem_cons_self
    have h2 := Z4u l fun y hy => h y (List.mem_cons_of_mem _ hy)
    rw [List.map_cons,NestedKey.depthAll]
    omega
theorem nk_in (cs : List Nat) (g : Nd) : nkTs (in1T cs g) = some (in1 cs g) ∧ NestedKey.depthAll (in1 cs g) ≤ 2 := by
  cases g with
  | sc a b => exact ⟨rfl,by rw [show in1 cs (.sc a b) = [] from rfl,NestedKey.depthAll]; exact Nat.zero_le _⟩
  | sq a ns => exact ⟨Z6o ns fun x _ => rfl,Z4u ns fun x _ => by rw [NestedKey.depth]; omega⟩
  | mp a ps => exact ⟨Z6o _ fun x _ => rfl,Z4u _ fun x _ => by unfold pairK; simp [NestedKey.depth,NestedKey.depthAll]⟩
theorem nk_k1 (cs : List Nat) (g : Nd) (own : Nat) : nkyT (k1T cs g own) = some (k1 cs g own) := by
  obtain ⟨h1,h2⟩ := nk_in cs g
  have e : nkTs [Fx.T.int (own : Int),.tup (in1T cs g)] = some [.num (own : Int),.tup (in1 cs g)] := by
    simp [nkTs,nkT,h1]
  unfold k1T k1 nkyT
  simp only [e]
  rw [if_pos]
  simp only [NestedKey.depth,NestedKey.depthAll]
  omega
theorem Zhn {α : Type} {l : List α} {x : Int} (h : 0 ≤ x ∧ x < (l.length : Int)) : atI l x = l[x.toNat]? := by
  obtain ⟨n,rfl⟩ : ∃ n : Nat,x = (n : Int) := ⟨x.toNat,by omega⟩
  have hl : n < l.length := by omega
  rw [Int.toNat_natCast,List.getElem?_eq_getElem hl]
  exact Fx.atI_nat (List.getElem?_eq_getElem hl)
theorem Zjt {cs : List Nat} {x : Int} (h : 0 ≤ x ∧ x < (cs.length : Int)) : atI (nI cs) x = some (.int (cA cs x : Int)) := by
  rw [Zhn (by rw [Zhm]; exact h)]
  unfold nI cA
  rw [List.getElem?_map,List.getElem?_eq_getElem (by omega)]; rfl
theorem Zmd {cs : List Nat} {x : Int} (h : 0 ≤ x ∧ x < (cs.length : Int)) : atI ((cs.map fun n => ((n : Nat) : Int)).map V.int) x = some (.int (cA cs x : Int)) := by
  rw [Zhn (by rw [List.length_map,List.length_map]; exact h)]
  unfold cA
  rw [List.getElem?_map,List.getElem?_map,List.getElem?_eq_getElem (by omega)]; rfl
theorem Zel (cs : List Nat) : intsKT (nI cs) = some (cs.map fun n => ((n : Nat) : Int)) := by
  unfold nI
  induction cs with
  | nil => rfl
  | cons n cs ih => rw [List.map_cons,intsKT,ih]; rfl
theorem Zb8 {cs : List Nat} : ∀ {ps : List (Int × Int)},(∀ p ∈ ps,(0 ≤ p.1 ∧ p.1 < (cs.length : Int)) ∧ 0 ≤ p.2 ∧ p.2 < (cs.length : Int)) → prsT (cs.map fun n => ((n : Nat) : Int)) (ps.map pairT) = some (prA cs ps)
  | [],_ => rfl
  | p :: ps,h => by
    have h1 := h p List.mem_cons_self
    have ih := Zb8 (cs := cs) (ps := ps) fun q hq => h q (List.mem_cons_of_mem _ hq)
    rw [List.map_cons]
    show prsT _ (Fx.T.tup [.int p.1,.int p.2] :: ps.map pairT) = _
    unfold prsT
    simp only [Zmd h1.1,Zmd h1.2,ih]
    rfl
theorem Zme {cs : List Nat} {g : Nd} {own c : Nat} {Z : Sto} (hc : getL Z c = some (nI cs)) (hb : ∀ y ∈ g.inn, 0 ≤ y ∧ y < (cs.length : Int)) (hl : g.inn.length ≤ 1000) : ∃ Z', Vd [nT g, .int (own : Int), .loc c] Z = .ok (k1T cs g own) Z' ∧ Ext Z Z' := by
  cases g with
  | sc a b => exact ⟨Z,by simp [Vd,runF,Z05,nT,k1T,in1T,sSc],Ext.refl Z⟩
  | sq a ns =>
    obtain ⟨Z1,e1,x1,g1⟩ := Xk (it := itSeq (ns.map .int)) (put := fun t => putN [9] t (wipeR [some (nT (.sq a ns)),some (.int (own : Int)),some (.loc c),some (.str sSeq),some (.str a),some (.tup (ns.map .int)),none,none,none,none] [9])) (c := eYes) (e := N6) (l := ns) (u := .int) (p := fun _ => true) (fv := fun x => .int (cA cs x : Int)) (Z1 := Z)
      (by unfold Lim; show ns.length ≤ _; have : ns.length ≤ 1000 := hl; omega) (fun k Z' _ _ => by simp [itSeq]) (fun x hx Z' h' => by
        refine ⟨[some (nT (.sq a ns)), some (.int (own : Int)), some (.loc c), some (.str sSeq), some (.str a), some (.tup (ns.map .int)), none, none, none, some (.int x)], Z', by simp [wipeR, putN], rfl, Ext.refl _, fun _ => ⟨Z', ?_, Ext.refl _⟩⟩
        have ha := Zjt (hb x hx)
        simp [N6, Z1l _ (h'.getL hc), ha])
    rw [Vr] at g1
    refine ⟨Z1,?_,x1⟩
    simp only [nT,sSeq] at *
    generalize ns.map Fx.T.int = NS at *
    simp [Vd,runF,Z05,k1T,in1T,e1,g1]
  | mp a ps =>
    have hp : ∀ p ∈ ps,(0 ≤ p.1 ∧ p.1 < (cs.length : Int)) ∧ 0 ≤ p.2 ∧ p.2 < (cs.length : Int) := fun p hp => ⟨hb p.1 (List.mem_flatMap.mpr ⟨p,hp,by simp⟩),hb p.2 (List.mem_flatMap.mpr ⟨p,hp,by simp⟩)⟩
    have hpl : ps.length ≤ 1000 := by
      have e : ∀ l : List (Int × Int),(l.flatMap fun p => [p.1,p.2]).length = 2 * l.length := fun l => by
        induction l with
        | nil => rfl
        | cons p l ih => rw [List.flatMap_cons,List.length_append,ih,List.length_cons]; simp; omega
      have h2 : (ps.flatMap fun p => [p.1,p.2]).length ≤ 1000 := hl
      rw [e] at h2; omega
    have h1 := Zb8 hp
    have h2 := Zel cs
    have h3 : (ps.map pairT).length ≤ 100000 := by rw [List.length_map]; omega
    refine ⟨Z,?_,Ext.refl Z⟩
    have e0 : sPrs 5 2 7 8 6 1 [some (nT (.mp a ps)),some (.int (own : Int)),some (.loc c),some (.str sMap),some (.str a),some (.tup (ps.map pairT)),none,none,none,none] Z = .rt (k1T cs (.mp a ps) own) Z := by
      unfold sPrs
      generalize ps.map pairT = PS at *
      simp only [List.getElem?_cons_succ,List.getElem?_cons_zero,hc,h2,h1]
      rw [if_pos ⟨h3,by simp,by simp,by simp⟩]
      rfl
    simp only [nT] at *
    generalize ps.map pairT = PS at *
    generalize hK : k1T cs (.mp a ps) own = KT at *
    have e1 : Vd [Fx.T.tup [.str sMap,.str a,.tup PS],.int (own : Int),.loc c] Z = .ok KT Z := by
      simp only [sMap] at *
      simp [Vd,runF,Z05,e0]
    exact e1
theorem Z5l {Z : Sto} {k : Nat} {ts : List Fx.T} {ks : List NestedKey} (h : getL Z k = some ts) (hk : nkysT ts = some ks) (hl : ts.length ≤ 100000) : Wr [.loc k] Z = .ok (.loc Z.length) (Z ++ [.lst (nI (numN ks).2)]) := by
  simp [Wr,runF,Z5i,sNum,h,hk,hl,nI]
theorem Z5m {α : Type} [DecidableEq α] {f : α → PyData} (h : ∀ a b,PyData.eqv (f a) (f b) = decide (a = b)) : ∀ l m : List α,PyData.eqvAll (l.map f) (m.map f) = decide (l = m)
  | [],[] => rfl
  | [],_ :: _ => rfl
  | _ :: _,[] => rfl
  | a :: l,b :: m => by
    show (PyData.eqv (f a) (f b) && PyData.eqvAll (l.map f) (m.map f)) = _
    rw [h,Z5m h l m]
    by_cases h1 : a = b <;> by_cases h2 : l = m <;> simp [h1,h2]
theorem Zju (a b : Int) : PyData.eqv (.int a) (.int b) = decide (a = b) := by
  show (a == b) = _
  rfl
theorem eqI {Z : Sto} {i j : Nat} {ns ms : List Int} (h : getL Z i = some (tI ns)) (h2 : getL Z j = some (tI ms)) : gEqB (.loc i) (.loc j) Z = some (decide (ns = ms)) := by
  have d : ∀ {i : Nat} {ns : List Int},getL Z i = some (tI ns) → toD 16 Z (.loc i) = some (.list (ns.map PyData.int)) := fun {i ns} h => by
    show ((getL Z i).bind fun ts => (ts.mapM (toD 15 Z)).map PyData.list) = _
    rw [h]
    show ((tI ns).mapM (toD 15 Z)).map PyData.list = _
    unfold tI
    rw [Ze7]; rfl
  have s : ∀ ns : List Int,SeqAt.shaped (.list (ns.map PyData.int)) = true := fun ns => by
    obtain ⟨a,b⟩ := Z3a ns
    unfold SeqAt.shaped
    rw [show (PyData.list (ns.map PyData.int)).canLay0 = PyData.canLayAll0 (ns.map PyData.int) from rfl,a,Bool.true_and]
    have : (PyData.list (ns.map PyData.int)).depth ≤ 64 := by simp only [PyData.depth]; omega
    exact decide_eq_true this
  show gEqD _ _ _ = _
  simp only [gEqD,d h,d h2,s,and_self,if_true]
  show some (PyData.eqvAll _ _) = _
  rw [Z5m Zju]
theorem nI_tI (cs : List Nat) : nI cs = tI (cs.map fun n => ((n : Nat) : Int)) := by
  unfold nI tI
  rw [List.map_map]; rfl
theorem Zjv {l m : List Nat} : (l.map fun n => ((n : Nat) : Int)) = (m.map fun n => ((n : Nat) : Int)) ↔ l = m := by
  constructor
  · intro h
    induction l generalizing m with
    | nil => cases m with
      | nil => rfl
      | cons b m => simp at h
    | cons a l ih => cases m with
      | nil => simp at h
      | cons b m =>
        rw [List.map_cons,List.map_cons] at h
        injection h with h1 h2
        rw [Int.ofNat.inj h1,ih h2]
  · rintro rfl; rfl
theorem eq_nI {Z : Sto} {i j : Nat} {ns ms : List Nat} (h : getL Z i = some (nI ns)) (h2 : getL Z j = some (nI ms)) : gEq (.loc i) (.loc j) Z = some (.bl (decide (ns = ms)),Z) := by
  rw [nI_tI] at h h2
  simp only [gEq,eqI h h2,Option.map_some,Zjv]
end Ap
set_option maxHeartbeats 8000000
namespace Ap
open PySem PySem.Spec PyProof.Rows L2 SX Fx
def NsAt (N : Fx.T) (Z : Sto) (ts : List Fx.T) : Prop := N = .tup ts ∨ ∃ i,N = .loc i ∧ getL Z i = some ts
theorem NsAt.ext {N : Fx.T} {Z Z' : Sto} {ts : List Fx.T} (h : NsAt N Z ts) (x : Ext Z Z') : NsAt N Z' ts := h.imp id fun ⟨i, e, g⟩ => ⟨i, e, x.getL g⟩
theorem Zmf {N : Fx.T} {Z : Sto} {ts : List Fx.T} (h : NsAt N Z ts) {f : FE} {ρ : Fx.Env} (hf : f ρ Z = .ok N Z) : ∃ it, iAny f ρ Z = .ok it Z ∧ ∀ k Z', Ext Z Z' → it k Z' = some ts[k]? := by
  rcases h with rfl | ⟨i,rfl,g⟩
  · exact ⟨itSeq ts, by simp [hf], fun k Z' _ => rfl⟩
  · exact ⟨itLoc i, by simp [hf, g], fun k Z' x => by simp only [itLoc, x.getL g, Option.map_some]⟩
theorem Zmg {N : Fx.T} {Z : Sto} {ts us : List Fx.T} {c : Nat} (h : NsAt N Z ts) (hc : getL Z c = some us) (hl : ts.length = us.length) {fa : FA} {ρ : Fx.Env} (hf : fa ρ Z = .ok [N, .loc c] Z) : ∃ it, iZipU fa ρ Z = .ok it Z ∧ ∀ k Z', Ext Z Z' → k ≤ ts.length → it k Z' = some (((ts.zip us)[k]?).map fun p => Fx.T.tup [p.1, p.2]) := by
  have hz : ∀ k,k < ts.length → (ts.zip us)[k]? = some (ts[k]?.getD .non,us[k]?.getD .non) := fun k hk => by
    rw [List.getElem?_zip_eq_some]
    rw [List.getElem?_eq_getElem hk,List.getElem?_eq_getElem (by omega)]
    exact ⟨rfl,rfl⟩
  have hz2 : (ts.zip us)[ts.length]? = none := List.getElem?_eq_none (by rw [List.length_zip]; omega)
  rcases h with rfl | ⟨i,rfl,g⟩
  · refine ⟨itZipU ts c, ?_, fun k Z' x hk => ?_⟩
    · unfold iZipU
      rw [hf,Zv]
      simp only [tupLoc,hc]
    · simp only [itZipU,x.getL hc]
      by_cases hk2 : k < ts.length
      · rw [hz k hk2,List.getElem?_eq_getElem hk2,List.getElem?_eq_getElem (show k < us.length by omega)]; rfl
      · have : k = ts.length := by omega
        subst this
        rw [hz2,List.getElem?_eq_none (Nat.le_refl _)]
        simp only [Option.map_none]
        rw [if_pos ⟨Nat.le_refl _,by omega⟩]
  · refine ⟨itZip (itLoc i) (itLoc c), ?_, fun k Z' x hk => ?_⟩
    · unfold iZipU
      rw [hf,Zv]
      simp only [tupLoc,zipOf,seqIt,g,hc,Option.map_some]
    · simp only [itZip,itLoc,x.getL g,x.getL hc,Option.map_some]
      by_cases hk2 : k < ts.length
      · rw [hz k hk2,List.getElem?_eq_getElem hk2,List.getElem?_eq_getElem (show k < us.length by omega)]; rfl
      · have : k = ts.length := by omega
        subst this
        rw [hz2,List.getElem?_eq_none (Nat.le_refl _),List.getElem?_eq_none (by omega)]; rfl
theorem Zgc {gs : List Nd} {cs : List Nat} : (gs.map nT).zip (nI cs) = (gs.zip cs).map fun p => (nT p.1,Fx.T.int ((p.2 : Nat) : Int)) := by
  unfold nI
  rw [List.zip_map]
  rfl
theorem atI_last {α : Type} (l : List α) (a : α) : atI (l ++ [a]) (-1) = some a := by
  unfold atI ixN
  rw [if_neg (by decide),if_pos (by rw [List.length_append,List.length_singleton]; omega)]
  have : ((-1 : Int) + ((l ++ [a]).length : Int)).toNat = l.length := by rw [List.length_append,List.length_singleton]; omega
  rw [this]
  show (l ++ [a])[l.length]? = _
  rw [List.getElem?_append_right (Nat.le_refl _),Nat.sub_self]; rfl
section
variable {gs : List Nd}
structure RdAt (gs : List Nd) (Z0 : Sto) (F : Nat) (n : Nat) (as : List Nat) (Z : Sto) : Prop where
  ext : Ext Z0 Z
  low : Z0.length ≤ F
  fnd : getL Z F = some (as.map .loc)
  len : as.length = n + 1
  cls : ∀ k a,as[k]? = some a → getL Z a = some (nI (rd gs k)) ∧ Z0.length ≤ a ∧ a ≠ F
theorem Zjw {N : Fx.T} {Z : Sto} {c n F : Nat} (hgs : GsOk gs) (hN : gs.length ≤ 1000) (hn : NsAt N Z (gs.map nT)) (hc : getL Z c = some (nI (rd gs n))) (o3 : Option Fx.T) :
    ∃ Z', eCall Wr [] (aCons (eLc [4,5] [4,5] (iZipU (aCons (eVar 0) (aCons (eVar 2) aNil))) eYes V3) aNil) [some N, some (.loc F), some (.loc c), o3, none, none] Z = .ok (.loc Z'.length) (Z' ++ [.lst (nI (rd gs (n + 1)))]) ∧ Ext Z Z' := by
  have hl : (gs.map nT).length = (nI (rd gs n)).length := by rw [List.length_map,Zhm,Z0j]
  obtain ⟨it,ei,hit⟩ := Zmg hn hc hl (fa := aCons (eVar 0) (aCons (eVar 2) aNil)) (ρ := [some N,some (.loc F),some (.loc c),o3,none,none]) rfl
  have hzl : (gs.zip (rd gs n)).length = gs.length := by rw [List.length_zip,Z0j,Nat.min_self]
  obtain ⟨Z1,e1,x1,g1⟩ := Xk (it := it) (put := fun t => putN [4,5] t (wipeR [some N,some (.loc F),some (.loc c),o3,none,none] [4,5])) (c := eYes) (e := V3) (l := gs.zip (rd gs n)) (u := fun p => .tup [nT p.1,.int ((p.2 : Nat) : Int)]) (p := fun _ => true) (fv := fun p => k1T (rd gs n) p.1 p.2) (Z1 := Z)
    (by rw [hzl]; unfold Lim; omega) (fun k Z' x hk => by
      rw [hit k Z' x (by rw [List.length_map]; omega), Zgc, List.getElem?_map, Option.map_map]; rfl) (fun p hp Z' x => by
      obtain ⟨g,own⟩ := p
      have hg := List.of_mem_zip hp
      have hok := Jc (hgs g hg.1)
      obtain ⟨Z2,e2,x2⟩ := Zme (own := own) (x.getL hc) (g := g) (by rw [Z0j]; exact hok.1) hok.2
      refine ⟨[some N, some (.loc F), some (.loc c), o3, some (nT g), some (.int ((own : Nat) : Int))], Z', by simp [wipeR, putN], rfl, Ext.refl _, fun _ => ⟨Z2, ?_, x2⟩⟩
      simp [V3,e2])
  rw [Vr] at g1
  have hk : nkysT ((gs.zip (rd gs n)).map fun p => k1T (rd gs n) p.1 p.2) = some (ky gs (n + 1)) := Z6n _ fun p _ => nk_k1 _ _ _
  have e3 := Z5l g1 hk (by rw [List.length_map,hzl]; omega)
  refine ⟨Z1,?_,x1⟩
  rw [Zh6,Z5c,q_lc,ei,Zv,e1]
  exact e3
theorem Z4v {N : Fx.T} {Z0 Z : Sto} {F n : Nat} {as : List Nat} (hgs : GsOk gs) (hN : gs.length ≤ 1000) (hn : NsAt N Z0 (gs.map nT)) (hr : RdAt gs Z0 F n as Z) (hn2 : n ≤ 1000) (o2 o3 : Option Fx.T) :
    ∃ c c' Z', RdAt gs Z0 F n as Z' ∧ ((rd gs (n + 1) = rd gs n ∧ U6 [some N, some (.loc F), o2, o3, none, none] Z = .rt (.loc F) Z') ∨ (rd gs (n + 1) ≠ rd gs n ∧ ∃ as' Z'', U6 [some N, some (.loc F), o2, o3, none, none] Z = .nx [some N, some (.loc F), some (.loc c), some (.loc c'), none, none] Z'' ∧ RdAt gs Z0 F (n + 1) as' Z'')) := by
  obtain ⟨c,hcl⟩ : ∃ c,as[n]? = some c := ⟨_,List.getElem?_eq_getElem (by rw [hr.len]; omega)⟩
  obtain ⟨hc,hc0,hcF⟩ := hr.cls n c hcl
  have eas : as = as.take n ++ [c] := by
    have h1 := (List.getElem?_eq_some_iff.mp hcl).2
    have h2 : as.take (n + 1) = as.take n ++ [as[n]'(by rw [hr.len]; omega)] := List.take_succ_eq_append_getElem (by rw [hr.len]; omega)
    rw [h1,List.take_of_length_le (by rw [hr.len]; exact Nat.le_refl _)] at h2
    exact h2
  have el : atI (as.map Fx.T.loc) (-1) = some (.loc c) := by
    rw [eas,List.map_append]
    exact atI_last _ _
  obtain ⟨Z1,e1,x1⟩ := Zjw (c := c) (n := n) (F := F) hgs hN (hn.ext hr.ext) hc o3
  have t1 : sSet 2 (eBin gIxW (eVar 1) (eUn gNeg (eC (.int 1)))) [some N,some (.loc F),o2,o3,none,none] Z = .nx [some N,some (.loc F),some (.loc c),o3,none,none] Z := by
    simp [Z1l _ hr.fnd,el]
  obtain ⟨Z2,hZ2⟩ : ∃ Z2,Z2 = Z1 ++ [O.lst (nI (rd gs (n + 1)))] := ⟨_,rfl⟩
  rw [← hZ2] at e1
  have x2 : Ext Z Z2 := by rw [hZ2]; exact x1.app _
  have g2 : getL Z2 Z1.length = some (nI (rd gs (n + 1))) := by rw [hZ2]; exact Zo _ _
  have hr2 : RdAt gs Z0 F n as Z2 := ⟨hr.ext.trans x2,hr.low,x2.getL hr.fnd,hr.len,fun k a h => ⟨x2.getL (hr.cls k a h).1,(hr.cls k a h).2⟩⟩
  have t2 : sSet 3 (eCall Wr [] (aCons (eLc [4,5] [4,5] (iZipU (aCons (eVar 0) (aCons (eVar 2) aNil))) eYes V3) aNil)) [some N,some (.loc F),some (.loc c),o3,none,none] Z = .nx [some N,some (.loc F),some (.loc c),some (.loc Z1.length),none,none] Z2 := by
    rw [Zfj,e1]; rfl
  have eq := eq_nI g2 (x2.getL hc)
  refine ⟨c,Z1.length,Z2,hr2,?_⟩
  by_cases h : rd gs (n + 1) = rd gs n
  · refine .inl ⟨h,?_⟩
    rw [decide_eq_true h] at eq
    refine Ye t1 (Ye t2 ?_)
    simp [eq]
  · refine .inr ⟨h,as ++ [Z1.length],Z2.set F (.lst ((as.map Fx.T.loc) ++ [.loc Z1.length])),?_,?_⟩
    · rw [decide_eq_false h] at eq
      refine Ye t1 (Ye t2 ?_)
      have ap := Zl9 F (.loc Z1.length) Z2 hr2.fnd (by rw [List.length_map,hr.len]; unfold Lim; omega)
      simp [-Zl5,eq,Zdd hr2.fnd,ap]
    · have hF1 : Z1.length ≠ F := by
        intro e
        have := Z8t hr.fnd
        have := x1.len
        omega
      refine ⟨hr2.ext.set hr.low,hr.low,?_,by rw [List.length_append,hr.len]; rfl,fun k a h => ?_⟩
      · rw [Xp hr2.fnd,List.map_append]; rfl
      · by_cases hk : k < as.length
        · rw [List.getElem?_append_left hk] at h
          obtain ⟨q1,q2,q3⟩ := hr2.cls k a h
          exact ⟨by rw [Qv (Ne.symm q3)]; exact q1,q2,q3⟩
        · have hk2 : k = as.length := by
            have := (List.getElem?_eq_some_iff.mp h).1
            rw [List.length_append,List.length_singleton] at this
            omega
          subst hk2
          rw [List.getElem?_append_right (Nat.le_refl _),Nat.sub_self] at h
          cases h
          refine ⟨by rw [Qv (Ne.symm hF1),hr.len]; exact g2,?_,hF1⟩
          have := x1.len
          have := hr.ext.len
          omega
theorem Z4w {N : Fx.T} {Z0 : Sto} {F s : Nat} (hgs : GsOk gs) (hN : gs.length ≤ 1000) (hn : NsAt N Z0 (gs.map nT)) (hs : s ≤ 1000) (hst : rd gs (s + 1) = rd gs s) (hne : ∀ k < s,rd gs (k + 1) ≠ rd gs k) : ∀ (m n : Nat) (as : List Nat) (Z : Sto) (o2 o3 : Option Fx.T) (f : Nat),n + m = s → m < f → RdAt gs Z0 F n as Z →
    ∃ as' Z', loopW (eTru (eC (.bl true))) U6 f [some N, some (.loc F), o2, o3, none, none] Z = .rt (.loc F) Z' ∧ RdAt gs Z0 F s as' Z'
  | 0,n,as,Z,o2,o3,f + 1,e,hf,hr => by
    obtain rfl : n = s := e
    obtain ⟨c, c', Z', h1, h2⟩ := Z4v hgs hN hn hr hs o2 o3
    rcases h2 with ⟨_,h2⟩ | ⟨h2,_⟩
    · refine ⟨as, Z', ?_, h1⟩
      unfold loopW
      rw [show eTru (eC (.bl true)) [some N,some (.loc F),o2,o3,none,none] Z = .ok true Z from rfl,Z0k,if_pos rfl,h2]
      rfl
    · exact absurd hst h2
  | m + 1,n,as,Z,o2,o3,f + 1,e,hf,hr => by
    obtain ⟨c, c', Z', h1, h2⟩ := Z4v hgs hN hn hr (by omega) o2 o3
    rcases h2 with ⟨h2, _⟩ | ⟨_, as', Z'', h2, h3⟩
    · exact absurd h2 (hne n (by omega))
    · obtain ⟨as2, Z2, e2, r2⟩ := Z4w hgs hN hn hs hst hne m (n + 1) as' Z'' (some (.loc c)) (some (.loc c')) f (by omega) (by omega) h3
      refine ⟨as2,Z2,?_,r2⟩
      unfold loopW
      rw [show eTru (eC (.bl true)) [some N,some (.loc F),o2,o3,none,none] Z = .ok true Z from rfl,Z0k,if_pos rfl,h2]
      exact e2
theorem Zgd {N : Fx.T} {Z : Sto} (hgs : GsOk gs) (hN : gs.length ≤ 1000) (hn : NsAt N Z (gs.map nT)) {s : Nat} (hs : s < gs.length) (hst : rd gs (s + 1) = rd gs s) (hne : ∀ k < s,rd gs (k + 1) ≠ rd gs k) :
    ∃ F as Z', Z15 [N] Z = .ok (.loc F) Z' ∧ RdAt gs Z F s as Z' := by
  obtain ⟨it,ei,hit⟩ := Zmf hn (f := eVar 0) (ρ := [some N,none,none,none,none,none]) rfl
  obtain ⟨Z1,e1,x1,g1⟩ := Xk (it := it) (put := fun t => putN [4] t (wipeR [some N,none,none,none,none,none] [4])) (c := eYes) (e := U5) (l := gs) (u := nT) (p := fun _ => true) (fv := stT) (Z1 := Z)
    (by unfold Lim; omega) (fun k Z' x hk => by rw [hit k Z' x, List.getElem?_map]) (fun g hg Z' x => by
      refine ⟨[some N, none, none, none, some (nT g), none], Z', by simp [wipeR, putN], rfl, Ext.refl _, fun _ => ⟨Z', ?_, Ext.refl _⟩⟩
      simp [U5,Zjs])
  rw [Vr] at g1
  have hk : nkysT (gs.map stT) = some (ky gs 0) := Z6n _ fun g _ => nk_st g
  have e3 := Z5l g1 hk (by rw [List.length_map]; omega)
  have t1 : sSet 1 (eLst (aCons (eCall Wr [] (aCons (eLc [4] [4] (iAny (eVar 0)) eYes U5) aNil)) aNil)) [some N,none,none,none,none,none] Z = .nx [some N,some (.loc (Z1.length + 1)),none,none,none,none] ((Z1 ++ [.lst (nI (rd gs 0))]) ++ [.lst [.loc Z1.length]]) := by
    rw [Zfj,q_lst,Z5c,Zh6,Z5c,q_lc,ei,Zv,e1]
    simp only [Zv,Zii,List.append_nil,e3,Z0k]
    rw [List.length_append]
    rfl
  have hr : RdAt gs Z (Z1.length + 1) 0 [Z1.length] ((Z1 ++ [.lst (nI (rd gs 0))]) ++ [.lst [.loc Z1.length]]) := by
    have hl := x1.len
    refine ⟨(x1.app _).app _,by omega,?_,rfl,fun k a h => ?_⟩
    · have := Zo (Z1 ++ [O.lst (nI (rd gs 0))]) [.loc Z1.length]
      rw [List.length_append] at this
      exact this
    · cases k with
      | zero =>
        cases h
        exact ⟨Yj (Zo _ _),hl,by omega⟩
      | succ k => simp at h
  obtain ⟨as,Z2,e2,r2⟩ := Z4w hgs hN hn (by omega) hst hne s 0 [Z1.length] _ none none Lim (by omega) (by unfold Lim; omega) hr
  refine ⟨_,as,Z2,Vz (n := 6) (as := [N]) (Ye t1 ?_),r2⟩
  exact e2
end
end Ap
set_option maxHeartbeats 8000000
namespace Ap
open PySem PySem.Spec PyProof.Rows L2 SX Fx
section
variable {gs hs : List Nd}
theorem Zem {it : ItF} {m : Nat} {u : Nat → Fx.T} {body : Fx.T → FS} {ρ : Fx.Env} {Z : Sto} (I : Nat → Fx.Env → Sto → Prop) (J : Sto → Prop) {k0 : Nat} {t : Fx.T} (hk0 : k0 < m) (hl : m ≤ Lim) (hit : ∀ k ρ Z, I k ρ Z → k < m → it k Z = some (some (u k))) (h0 : I 0 ρ Z) (h : ∀ k < k0, ∀ ρ Z, I k ρ Z → ∃ ρ' Z', body (u k) ρ Z = .nx ρ' Z' ∧ I (k + 1) ρ' Z')
    (hr : ∀ ρ Z, I k0 ρ Z → ∃ Z', body (u k0) ρ Z = .rt t Z' ∧ J Z') : ∃ Z', loopN it body Fuel 0 ρ Z = .rt t Z' ∧ J Z' := by
  have key : ∀ n k ρ Z, I k ρ Z → k ≤ k0 → k0 < n + k → ∃ Z', loopN it body n k ρ Z = .rt t Z' ∧ J Z' := by
    intro n
    induction n with
    | zero => intro k ρ Z _ h1 h2; omega
    | succ n ih =>
      intro k ρ Z hi h1 h2
      by_cases hk : k < k0
      · obtain ⟨ρ', Z', e, hi'⟩ := h k hk ρ Z hi
        obtain ⟨Z2, e2, j2⟩ := ih (k + 1) ρ' Z' hi' (by omega) (by omega)
        refine ⟨Z2,?_,j2⟩
        rw [← e2]
        conv => lhs; unfold loopN
        rw [hit k ρ Z hi (by omega)]
        simp only [e,Z3c]
      · have : k = k0 := by omega
        subst this
        obtain ⟨Z', e, j⟩ := hr ρ Z hi
        refine ⟨Z', ?_, j⟩
        unfold loopN
        rw [hit k ρ Z hi hk0]
        simp only [e,Zcq]
  exact key Fuel 0 ρ Z h0 (Nat.zero_le _) (by rw [Vw]; omega)
structure Stb (gs : List Nd) (s : Nat) : Prop where
  lt : s < gs.length
  eq : rd gs (s + 1) = rd gs s
  ne : ∀ k < s,rd gs (k + 1) ≠ rd gs k
def oT : Option Nat → Fx.T
  | some n => .int ((n : Nat) : Int)
  | none => .non
theorem Zjx (o : Option Nat) : isNon (oT o) = o.isNone := by cases o <;> rfl
end
end Ap
set_option maxHeartbeats 8000000
namespace Ap
open PySem PySem.Spec PyProof.Rows L2 SX Fx
section
variable {gs hs : List Nd}
theorem Zge {Z0 Z : Sto} {F s : Nat} {as : List Nat} (hc : ClG gs) (hd : RdAt gs Z0 F s as Z) (hs : s ≤ 1000) {i j : Nat} (hi : i < gs.length) (hj : j < gs.length) : Q3 [.loc F,.int (i : Int),.int (j : Int)] Z = .ok (oT (apN gs s i j)) Z := by
  have hit : ∀ k,k < s + 1 → itEnum (itLoc F) k Z = some (some (.tup [.int (k : Int),.loc (as[k]?.getD 0)])) := fun k hk => by
    simp only [itEnum,itLoc,hd.fnd,Option.map_some]
    rw [List.getElem?_map,List.getElem?_eq_getElem (show k < as.length by rw [hd.len]; exact hk)]; rfl
  have hit2 : itEnum (itLoc F) (s + 1) Z = some none := by
    simp only [itEnum,itLoc,hd.fnd,Option.map_some]
    rw [List.getElem?_eq_none (by rw [List.length_map,hd.len]; omega)]; rfl
  have step : ∀ k,k < s + 1 → ∀ o3 o4,bS [some (.loc F),some (.int (i : Int)),some (.int (j : Int)),o3,o4] ((gTp 2 (gsCons (gNm 3) (gsCons (gNm 4) gsNil))) (.tup [.int (k : Int),.loc (as[k]?.getD 0)]) [some (.loc F),some (.int (i : Int)),some (.int (j : Int)),o3,o4] Z) Ys = (if tb gs k i j = true then .nx [some (.loc F),some (.int (i : Int)),some (.int (j : Int)),some (.int (k : Int)),some (.loc (as[k]?.getD 0))] Z else .rt (.int (k : Int)) Z) := fun k hk o3 o4 => by
    have ha : as[k]? = some (as[k]?.getD 0) := by rw [List.getElem?_eq_getElem (show k < as.length by rw [hd.len]; exact hk)]; rfl
    have hcl := (hd.cls k _ ha).1
    have e1 := Zjt (cs := rd gs k) (x := (i : Int)) ⟨by omega,by rw [Z0j]; omega⟩
    have e2 := Zjt (cs := rd gs k) (x := (j : Int)) ⟨by omega,by rw [Z0j]; omega⟩
    rw [Zcj hc k hi hj]
    generalize as[k]?.getD 0 = a at *
    by_cases h : cA (rd gs k) (i : Int) = cA (rd gs k) (j : Int)
    · rw [if_pos (decide_eq_true h)]
      simp [Ys,Z1l _ hcl,e1,e2,h]
    · rw [if_neg (by rw [decide_eq_false h]; exact Bool.false_ne_true)]
      have h' : ¬ (cA (rd gs k) (i : Int) : Int) = (cA (rd gs k) (j : Int) : Int) := fun z => h (Int.ofNat.inj z)
      simp [Ys, Z1l _ hcl, e1, e2, h']
  have hi' : iEnmA (aCons (eVar 0) aNil) [some (.loc F), some (.int (i : Int)), some (.int (j : Int)), none, none] Z = .ok (itEnum (itLoc F)) Z := by simp [hd.fnd]
  obtain ⟨I, hI⟩ : ∃ I : Nat → Fx.Env → Sto → Prop, I = fun _ ρ Z' => (∃ o3 o4, ρ = [some (.loc F), some (.int (i : Int)), some (.int (j : Int)), o3, o4]) ∧ Z' = Z := ⟨_, rfl⟩
  cases e : apN gs s i j with
  | none =>
    have e := Z83.mp e
    obtain ⟨ρ', Z', e1, h1⟩ := Zb4 (it := itEnum (itLoc F)) (m := s + 1) (u := fun k => .tup [.int (k : Int), .loc (as[k]?.getD 0)]) (body := fun t ρ' Z' => bS ρ' ((gTp 2 (gsCons (gNm 3) (gsCons (gNm 4) gsNil))) t ρ' Z') Ys) (ρ := [some (.loc F), some (.int (i : Int)), some (.int (j : Int)), none, none]) (Z := Z) I (by unfold Lim; omega) (fun k ρ Z' h hk => by
      rw [hI] at h
      obtain ⟨_,rfl⟩ := h
      by_cases hk2 : k < s + 1
      · rw [if_pos hk2]; exact hit k hk2
      · rw [if_neg hk2, show k = s + 1 by omega]; exact hit2) (by rw [hI]; exact ⟨⟨_, _, rfl⟩, rfl⟩) (fun k hk ρ Z' h => by
      rw [hI] at h
      obtain ⟨⟨o3,o4,rfl⟩,rfl⟩ := h
      have := step k hk o3 o4
      rw [if_pos (e k (by omega))] at this
      exact ⟨_,_,this,by rw [hI]; exact ⟨⟨_,_,rfl⟩,rfl⟩⟩)
    rw [hI] at h1
    obtain ⟨_,rfl⟩ := h1
    have hB : Uz [some (.loc F), some (.int (i : Int)), some (.int (j : Int)), none, none] Z' = .rt (oT none) Z' := by
      show seqS (sFor _ _ _ _ _) _ = _
      rw [Zdb, hi', Z0k, e1]; rfl
    exact Vz (n := 5) (as := [.loc F,.int (i : Int),.int (j : Int)]) hB
  | some n =>
    obtain ⟨q1,q2,q3⟩ := Z83.mp e
    obtain ⟨Z', e1, rfl⟩ := Zem (it := itEnum (itLoc F)) (m := s + 1) (u := fun k => .tup [.int (k : Int), .loc (as[k]?.getD 0)]) (body := fun t ρ' Z' => bS ρ' ((gTp 2 (gsCons (gNm 3) (gsCons (gNm 4) gsNil))) t ρ' Z') Ys) (ρ := [some (.loc F), some (.int (i : Int)), some (.int (j : Int)), none, none]) (Z := Z) (t := .int (n : Int)) I (fun Z' => Z' = Z) (k0 := n) (by omega) (by unfold Lim; omega) (fun k ρ Z' h hk => by
      rw [hI] at h
      obtain ⟨_,rfl⟩ := h
      exact hit k hk) (by rw [hI]; exact ⟨⟨_, _, rfl⟩, rfl⟩) (fun k hk ρ Z' h => by
      rw [hI] at h
      obtain ⟨⟨o3,o4,rfl⟩,rfl⟩ := h
      have := step k (by omega) o3 o4
      rw [if_pos (q3 k hk)] at this
      exact ⟨_, _, this, by rw [hI]; exact ⟨⟨_, _, rfl⟩, rfl⟩⟩) (fun ρ Z' h => by
      rw [hI] at h
      obtain ⟨⟨o3,o4,rfl⟩,rfl⟩ := h
      have := step n (by omega) o3 o4
      rw [q2,if_neg Bool.false_ne_true] at this
      exact ⟨_,this,rfl⟩)
    have hB : Uz [some (.loc F), some (.int (i : Int)), some (.int (j : Int)), none, none] Z' = .rt (oT (some n)) Z' := by
      show seqS (sFor _ _ _ _ _) _ = _
      rw [Zdb, hi', Z0k, e1]; rfl
    exact Vz (n := 5) (as := [.loc F,.int (i : Int),.int (j : Int)]) hB
end
end Ap
set_option maxHeartbeats 8000000
namespace Ap
open PySem PySem.Spec PyProof.Rows L2 SX Fx
section
variable {gs hs : List Nd}
def shN (by' : Int) (g : Nd) : Nd := g.rn fun x => x + by'
def jn (gs hs : List Nd) : List Nd := gs ++ hs.map (shN (gs.length : Int))
theorem sh_sq (b : Int) (a : List Nat) (ns : List Int) : nT (shN b (.sq a ns)) = .tup [.str sSeq,.str a,.tup (ns.map fun x => .int (x + b))] := by
  show Fx.T.tup [.str sSeq,.str a,.tup ((ns.map fun x => x + b).map .int)] = _
  rw [List.map_map]; rfl
theorem sh_mp (b : Int) (a : List Nat) (ps : List (Int × Int)) : nT (shN b (.mp a ps)) = .tup [.str sMap,.str a,.tup (ps.map fun p => pairT (p.1 + b,p.2 + b))] := by
  show Fx.T.tup [.str sMap,.str a,.tup ((ps.map fun p => (p.1 + b,p.2 + b)).map pairT)] = _
  rw [List.map_map]; rfl
theorem Zen {g : Nd} {size : Nat} (hg : NdOk size g) (b : Int) (Z : Sto) : ∃ Z', Qg [nT g, .int b] Z = .ok (nT (shN b g)) Z' ∧ Ext Z Z' := by
  cases g with
  | sc a x => exact ⟨Z,by simp [Qg,runF,Z1o,nT,shN,Nd.rn,sSc],Ext.refl Z⟩
  | sq a ns =>
    obtain ⟨Z1,e1,x1,g1⟩ := Xk (it := itSeq (ns.map .int)) (put := fun t => putN [5] t (wipeR [some (nT (.sq a ns)),some (.int b),some (.str sSeq),some (.str a),some (.tup (ns.map .int)),none,none,none] [5])) (c := eYes) (e := Z16) (l := ns) (u := .int) (p := fun _ => true) (fv := fun x => .int (x + b)) (Z1 := Z)
      (by have := hg.2.1; unfold Lim; omega) (fun k Z' _ _ => by simp [itSeq]) (fun x hx Z' _ => by
        refine ⟨[some (nT (.sq a ns)), some (.int b), some (.str sSeq), some (.str a), some (.tup (ns.map .int)), some (.int x), none, none], Z', by simp [wipeR, putN], rfl, Ext.refl _, fun _ => ⟨Z', ?_, Ext.refl _⟩⟩
        simp [Z16])
    rw [Vr] at g1
    refine ⟨Z1,?_,x1⟩
    rw [sh_sq]
    simp only [nT,sSeq] at *
    generalize ns.map Fx.T.int = NS at *
    generalize (ns.map fun x => Fx.T.int (x + b)) = MS at *
    simp [Qg,runF,Z1o,e1,g1]
  | mp a ps =>
    obtain ⟨Z1,e1,x1,g1⟩ := Xk (it := itSeq (ps.map pairT)) (put := fun t => putN [6,7] t (wipeR [some (nT (.mp a ps)),some (.int b),some (.str sMap),some (.str a),some (.tup (ps.map pairT)),none,none,none] [6,7])) (c := eYes) (e := Z17) (l := ps) (u := pairT) (p := fun _ => true) (fv := fun p => pairT (p.1 + b,p.2 + b)) (Z1 := Z)
      (by have := hg.2.1; unfold Lim; omega) (fun k Z' _ _ => by simp [itSeq]) (fun p hp Z' _ => by
        refine ⟨[some (nT (.mp a ps)), some (.int b), some (.str sMap), some (.str a), some (.tup (ps.map pairT)), none, some (.int p.1), some (.int p.2)], Z', by simp [wipeR, putN, pairT], rfl, Ext.refl _, fun _ => ⟨Z', ?_, Ext.refl _⟩⟩
        simp [Z17,pairT])
    rw [Vr] at g1
    refine ⟨Z1,?_,x1⟩
    rw [sh_mp]
    simp only [nT,sMap] at *
    generalize ps.map pairT = NS at *
    generalize (ps.map fun p => pairT (p.1 + b,p.2 + b)) = MS at *
    simp [Qg,runF,Z1o,e1,g1]
theorem Zjy {m n : Nat} (h : m ≤ n) : ∀ {g : Nd},NdOk m g → NdOk n g
  | .sc _ _,h1 => h1
  | .sq _ _,⟨h1,h2,h3⟩ => ⟨h1,h2,fun x hx => by have := h3 x hx; omega⟩
  | .mp _ _,⟨h1,h2,h3⟩ => ⟨h1,h2,fun x hx => by have := h3 x hx; omega⟩
theorem Zjz {m n : Nat} : ∀ {g : Nd},NdOk m g → NdOk (n + m) (shN (n : Int) g)
  | .sc _ _,h1 => h1
  | .sq _ _,⟨h1,h2,h3⟩ => ⟨h1,by rw [List.length_map]; exact h2,fun x hx => by
      obtain ⟨y,hy,rfl⟩ := List.mem_map.mp hx
      have := h3 y hy; omega⟩
  | .mp _ _,⟨h1,h2,h3⟩ => ⟨h1,by rw [List.length_map]; exact h2,fun x hx => by
      obtain ⟨y,hy,rfl⟩ := List.mem_map.mp hx
      have := h3 y hy
      show (_ ≤ y.1 + _ ∧ y.1 + _ < _) ∧ _ ≤ y.2 + _ ∧ y.2 + _ < _
      omega⟩
theorem Ux (gs hs : List Nd) : (jn gs hs).length = gs.length + hs.length := by unfold jn; rw [List.length_append,List.length_map]
theorem Z9l (hg : GsOk gs) (hh : GsOk hs) : GsOk (jn gs hs) := fun g hm => by
  rw [Ux]
  rcases List.mem_append.mp hm with h | h
  · exact Zjy (Nat.le_add_right _ _) (hg g h)
  · obtain ⟨k,hk,rfl⟩ := List.mem_map.mp h
    exact Zjz (hh k hk)
theorem Zmh : (jn gs hs).map nT = gs.map nT ++ hs.map fun g => nT (shN (gs.length : Int) g) := by
  unfold jn
  rw [List.map_append,List.map_map]; rfl
theorem Zgf (hg : GsOk gs) (hh : GsOk hs) (hl : gs.length ≤ 200) (hl2 : hs.length ≤ 200) {Z : Sto} {q r : Nat} {a b : Int} (h1 : GrAt Z q (gs.map nT) a) (h2 : GrAt Z r (hs.map nT) b) : ∃ l Z', Z65 [.loc q, .loc r] Z = .ok (.loc l) Z' ∧ Ext Z Z' ∧ getL Z' l = some ((jn gs hs).map nT) := by
  have x0 : Ext Z (Z ++ [O.lst (gs.map nT)]) := (Ext.refl Z).app _
  obtain ⟨Z1,e1,x1,g1⟩ := Xk (it := itSeq (hs.map nT)) (put := fun t => putN [2] t (wipeR [some (.loc q),some (.loc r),none] [2])) (c := eYes) (e := Z28) (l := hs) (u := nT) (p := fun _ => true) (fv := fun g => nT (shN (gs.length : Int) g)) (Z1 := Z ++ [O.lst (gs.map nT)])
    (by unfold Lim; omega) (fun k Z' x _ => by simp only [itSeq, List.getElem?_map]) (fun g hgm Z' x => by
      have fn := Z9h (h1.ext (x0.trans x))
      obtain ⟨Z2, e2, x2⟩ := Zen (hh g hgm) (gs.length : Int) Z'
      refine ⟨[some (.loc q), some (.loc r), some (nT g)], Z', by simp [wipeR, putN], rfl, Ext.refl _, fun _ => ⟨Z2, ?_, x2⟩⟩
      have hlen : (gs.map nT).length = gs.length := List.length_map _
      generalize gs.map nT = NS at *
      rw [← hlen] at e2 ⊢
      simp [Z28,eFld,fn,e2])
  rw [Vr] at g1
  have g0 : getL Z1 Z.length = some (gs.map nT) := x1.getL (Zo Z _)
  have ad := Z61 Z.length (Z ++ [O.lst (gs.map nT)]).length Z1 g0 g1 (by rw [List.length_map,List.length_map]; unfold Lim; omega)
  refine ⟨Z1.length,_,?_,(x0.trans x1).app [O.lst ((jn gs hs).map nT)],Zo _ _⟩
  have hi : iAny (eFld ["Graph"] "nodes" (eVar 1)) [some (.loc q), some (.loc r), none] (Z ++ [O.lst (gs.map nT)]) = .ok (itSeq (hs.map nT)) (Z ++ [O.lst (gs.map nT)]) := by
    have fn := Z9h (h2.ext x0)
    generalize Z ++ [O.lst (gs.map nT)] = ZZ at *
    generalize hs.map nT = HS at *
    simp [eFld,fn]
  have hB : Z64 [some (.loc q),some (.loc r),none] Z = .rt (.loc Z1.length) (Z1 ++ [O.lst ((jn gs hs).map nT)]) := by
    rw [Zmh]
    unfold Z64
    have hL : eCallB gList (aCons (eFld ["Graph"] "nodes" (eVar 0)) aNil) [some (.loc q), some (.loc r), none] Z = .ok (.loc Z.length) (Z ++ [O.lst (gs.map nT)]) := by
      have fn := Z9h h1
      generalize gs.map nT = NS at *
      simp [gList,asSeq,eFld,fn]
    rw [q_ret,q_bin,hL,Zv,q_lc,hi,Zv,e1,Zv,ad]; rfl
  exact Vz (n := 3) (as := [.loc q,.loc r]) hB
theorem Zmi {Z : Sto} {q r : Nat} {a b : Int} {ts us : List Fx.T} (h1 : GrAt Z q ts a) (h2 : GrAt Z r us b) : Yb [.loc q,.loc r] Z = .ok .non Z := by
  obtain ⟨y1,y2⟩ := Zea h1
  obtain ⟨y3,y4⟩ := Zea h2
  have e : ∀ ρ, loopN (itSeq [.loc q, .loc r]) (fun t ρ' Z' => bS ρ' (gNm 1 t ρ' Z') Yv) Fuel 0 [ρ, none] Z = .nx [ρ, some (.loc r)] Z := fun ρ => by
    obtain ⟨m,hm⟩ := Fuel3
    rw [hm]
    simp [loopN,itSeq,Yv,eIsC,y1,y2,y3,y4]
  simp only [Zik,Z0k] at e
  simp [Yb,runS,runF,Vx,e]
theorem Zeo (hg : GsOk gs) (hh : GsOk hs) (hl : gs.length ≤ 200) (hl2 : hs.length ≤ 200) {s : Nat} (hs' : Stb (jn gs hs) s) {Z : Sto} {q r top its : Nat} (h1 : GrAt Z q (gs.map nT) (top : Int)) (h2 : GrAt Z r (hs.map nT) (its : Int)) (ht : top < gs.length) (hi : its < hs.length) : ∃ Z', Z66 [.loc q, .loc r] Z = .ok (oT (apN (jn gs hs) s top (its + gs.length))) Z' ∧ Ext Z Z' := by
  obtain ⟨l,Z1,e1,x1,g1⟩ := Zgf hg hh hl hl2 h1 h2
  obtain ⟨F, as, Z2, e2, hd⟩ := Zgd (Z9l hg hh) (by rw [Ux]; omega) (N := .loc l) (Z := Z1) (.inr ⟨l, rfl, g1⟩) hs'.lt hs'.eq hs'.ne
  have hlt := hs'.lt
  rw [Ux] at hlt
  have e3 := Zge (Jl (Z9l hg hh)) hd (by omega) (i := top) (j := its + gs.length) (by rw [Ux]; omega) (by rw [Ux]; omega)
  refine ⟨Z2,?_,x1.trans hd.ext⟩
  have r0 := Zmi h1 h2
  have fn := Z9h (h1.ext (x1.trans hd.ext))
  have ft := Ze6 (h1.ext (x1.trans hd.ext))
  have ft2 := Ze6 (h2.ext (x1.trans hd.ext))
  have hc : ((its + gs.length : Nat) : Int) = (its : Int) + ((gs.map nT).length : Int) := by rw [List.length_map]; omega
  rw [hc] at e3
  generalize gs.map nT = NS at *
  generalize hs.map nT = HS at *
  have hB : Zdw [some (.loc q),some (.loc r)] Z = .rt (oT (apN (jn gs hs) s top (its + gs.length))) Z2 := by
    refine Ye (ρ' := [some (.loc q), some (.loc r)]) (Z' := Z) ?_ ?_
    · simp [r0]
    · simp [eFld,e1,e2,fn,ft,ft2,e3]
  exact Vz (n := 2) (as := [.loc q,.loc r]) hB
theorem Zk0 (hg : GsOk gs) (hh : GsOk hs) (hl : gs.length ≤ 200) (hl2 : hs.length ≤ 200) {s : Nat} (hs' : Stb (jn gs hs) s) {Z : Sto} {q r top its : Nat} (h1 : GrAt Z q (gs.map nT) (top : Int)) (h2 : GrAt Z r (hs.map nT) (its : Int)) (ht : top < gs.length) (hi : its < hs.length) : ∃ Z', Z67 [.loc q, .loc r] Z = .ok (.bl (apN (jn gs hs) s top (its + gs.length)).isNone) Z' ∧ Ext Z Z' := by
  obtain ⟨Z1, e1, x1⟩ := Zeo hg hh hl hl2 hs' h1 h2 ht hi
  refine ⟨Z1,?_,x1⟩
  have := Zjx (apN (jn gs hs) s top (its + gs.length))
  generalize apN (jn gs hs) s top (its + gs.length) = O at *
  simp [Z67,runF,Zdx,e1,this]
theorem Zk1 {i : Nat} (hi : i < gs.length) : ndA (jn gs hs) (i : Int) = ndA gs (i : Int) := by
  unfold ndA jn
  rw [Int.toNat_natCast,List.getElem?_append_left hi]
theorem Zk2 {i : Nat} (hi : i < hs.length) : ndA (jn gs hs) ((i + gs.length : Nat) : Int) = shN (gs.length : Int) (ndA hs (i : Int)) := by
  unfold ndA jn
  rw [Int.toNat_natCast,Int.toNat_natCast,List.getElem?_append_right (by omega),Nat.add_sub_cancel,List.getElem?_map,List.getElem?_eq_getElem hi]
  rfl
theorem rn_rn {h h' : Int → Int} : ∀ {g : Nd}, (g.rn h).rn h' = g.rn fun x => h' (h x)
  | .sc _ _ => rfl
  | .sq _ ns => by
    show Nd.sq _ ((ns.map h).map h') = _
    rw [List.map_map]; rfl
  | .mp _ ps => by
    show Nd.mp _ ((ps.map fun p => (h p.1, h p.2)).map fun p => (h' p.1, h' p.2)) = _
    rw [List.map_map]; rfl
theorem Zk3 {h h' : Int → Int} : ∀ {g : Nd}, (∀ y ∈ g.inn, h y = h' y) → g.rn h = g.rn h'
  | .sc _ _,_ => rfl
  | .sq a ns,e => by
    show Nd.sq a (ns.map h) = Nd.sq a (ns.map h')
    congr 1
    exact List.map_congr_left fun x hx => e x hx
  | .mp a ps,e => by
    show Nd.mp a (ps.map fun p => (h p.1, h p.2)) = Nd.mp a (ps.map fun p => (h' p.1, h' p.2))
    congr 1
    refine List.map_congr_left fun p hp => ?_
    rw [e p.1 (List.mem_flatMap.mpr ⟨p,hp,by simp⟩),e p.2 (List.mem_flatMap.mpr ⟨p,hp,by simp⟩)]
def swp (m n i : Nat) : Nat := if i < m then i + n else i - m
theorem Zmj (hg : GsOk gs) (hh : GsOk hs) (n : Nat) {i j : Nat} (hi : i < (jn gs hs).length) (hj : j < (jn gs hs).length) : tb (jn hs gs) n (swp gs.length hs.length i) (swp gs.length hs.length j) = tb (jn gs hs) n i j := by
  refine Zgb (Jl (Z9l hg hh)) (fun i hi => ?_) n hi hj
  rw [Ux] at hi
  by_cases h : i < gs.length
  · have e1 : swp gs.length hs.length i = i + hs.length := if_pos h
    have hi' : InG gs (i : Int) := ⟨by omega, by omega⟩
    obtain ⟨m1, _, _⟩ := W8 hi'
    rw [e1,Zk2 h,Zk1 h]
    refine Zk3 fun y hy => ?_
    have hb := (Jc (hg _ m1)).1 y hy
    have e2 : swp gs.length hs.length y.toNat = y.toNat + hs.length := if_pos (by omega)
    rw [e2]; omega
  · obtain ⟨k,rfl⟩ : ∃ k,i = k + gs.length := ⟨i - gs.length,by omega⟩
    have hk : k < hs.length := by omega
    have e1 : swp gs.length hs.length (k + gs.length) = k := by unfold swp; rw [if_neg h]; omega
    have hi' : InG hs (k : Int) := ⟨by omega, by omega⟩
    obtain ⟨m1, _, _⟩ := W8 hi'
    rw [e1,Zk1 hk,Zk2 hk]
    unfold shN
    rw [rn_rn]
    symm
    refine Zm0 fun y hy => ?_
    have hb := (Jc (hh _ m1)).1 y hy
    have e2 : swp gs.length hs.length (y + (gs.length : Int)).toNat = y.toNat := by
      unfold swp
      rw [if_neg (by omega)]; omega
    rw [e2]; omega
theorem Zmk (hg : GsOk gs) (hh : GsOk hs) {s s' : Nat} (h1 : Stb (jn gs hs) s) (h2 : Stb (jn hs gs) s') {top its : Nat} (ht : top < gs.length) (hi : its < hs.length) : apN (jn hs gs) s' its (top + hs.length) = apN (jn gs hs) s top (its + gs.length) := by
  have a1 : top < (jn gs hs).length := by rw [Ux]; omega
  have a2 : its + gs.length < (jn gs hs).length := by rw [Ux]; omega
  have b1 : its < (jn hs gs).length := by rw [Ux]; omega
  have b2 : top + hs.length < (jn hs gs).length := by rw [Ux]; omega
  have c1 := Jl (Z9l hg hh)
  have c2 := Jl (Z9l hh hg)
  refine ap_eq (fun n hn => Z9k c2 h2.eq hn b1 b2) (fun n hn => Z9k c1 h1.eq hn a1 a2) fun n => ?_
  have e := Zmj hg hh n a1 a2
  have e1 : swp gs.length hs.length top = top + hs.length := if_pos ht
  have e2 : swp gs.length hs.length (its + gs.length) = its := by unfold swp; rw [if_neg (by omega)]; omega
  rw [e1,e2] at e
  rw [← e]
  exact Zmc c2 n b1 b2
end
end Ap
set_option maxHeartbeats 8000000
namespace Ap
open PySem PySem.Spec PyProof.Rows L2 SX Fx
theorem Zep {D : Nat} {ρ : Fx.Env} {a b : Int} {acc : List Fx.T} {Z : Sto} (h0 : ∃ o0 o1,ρ = [o0,o1,none]) (hg : getL Z D = some acc) (hl : acc.length + 2 ≤ Lim) :
    loopC (itSeq [.int a,.int b]) D (fun t => putN [2] t (wipeR ρ [2])) eYes N8 Fuel 0 Z = .ok (.loc D) (Z.set D (.lst (acc ++ [.int a,.int b]))) := by
  obtain ⟨o0,o1,rfl⟩ := h0
  obtain ⟨m,hm⟩ := Fuel3
  rw [hm]
  have h1 : acc.length < Lim := by omega
  have h2 : (acc ++ [Fx.T.int a]).length < Lim := by rw [List.length_append]; simp; omega
  have g2 := Xp (us := acc ++ [Fx.T.int a]) hg
  simp [loopC,itSeq,wipeR,putN,N8,hg,h1,g2,h2,eYes,noX]
  try omega
theorem Z5n {D : Nat} {o0 : Option Fx.T} {ps : List (Int × Int)} : ∀ (post pre : List (Int × Int)) (n : Nat) (acc : List Fx.T) (Z : Sto),ps = pre ++ post → getL Z D = some acc → post.length < n → acc.length + 2 * post.length ≤ Lim →
    loopC2 (itSeq (ps.map pairT)) D (fun t => putN [1] t [o0, none, none]) Nb (fun ρ' t => putN [2] t (wipeR ρ' [2])) N8 n pre.length Z = .ok (.loc D) (Z.set D (.lst (acc ++ tI (post.flatMap fun p => [p.1, p.2]))))
  | [],pre,n + 1,acc,Z,hp,hg,_,_ => by
    unfold loopC2
    have : (itSeq (ps.map pairT)) pre.length Z = some none := by
      rw [hp]; simp [itSeq]
    rw [this]
    have e : Z.set D (.lst (acc ++ tI ([] : List Int))) = Z := by
      rw [show acc ++ tI [] = acc from List.append_nil _]
      rw [Uu] at hg
      obtain ⟨h1,h2⟩ := List.getElem?_eq_some_iff.mp hg
      apply List.ext_getElem?
      intro j
      by_cases hj : j = D
      · subst hj; rw [List.getElem?_set_self h1,hg]
      · rw [List.getElem?_set_ne (Ne.symm hj)]
    simp only [List.flatMap_nil,e]
  | p :: post,pre,n + 1,acc,Z,hp,hg,hn,hl => by
    unfold loopC2
    have e1 : (itSeq (ps.map pairT)) pre.length Z = some (some (pairT p)) := by
      rw [hp]; simp [itSeq]
    rw [List.length_cons] at hn hl
    have e2 := Zep (D := D) (ρ := [o0,some (pairT p),none]) (a := p.1) (b := p.2) (Z := Z) ⟨_,_,rfl⟩ hg (by omega)
    have e3 := Z5n (ps := ps) (o0 := o0) post (pre ++ [p]) n (acc ++ [.int p.1,.int p.2]) (Z.set D (.lst (acc ++ [.int p.1,.int p.2]))) (by rw [hp]; simp) (Xp hg) (by omega) (by rw [List.length_append]; simp; omega)
    rw [List.length_append] at e3
    have e4 : putN [1] (pairT p) [o0,none,none] = some [o0,some (pairT p),none] := by rw [Um]; rfl
    have e5 : ∀ Z,Nb [o0,some (pairT p),none] Z = .ok (itSeq [.int p.1,.int p.2]) Z := fun Z => by simp [Nb,pairT]
    simp only [e1,e4,e5,Z5d,Zv,e2]
    show loopC2 _ _ _ _ _ _ n (pre.length + 1) _ = _
    have e6 : (pre.length + [p].length) = pre.length + 1 := rfl
    rw [e6] at e3
    rw [e3,List.set_set,List.append_assoc]
    rfl
theorem Zeq {g : Nd} {size : Nat} (h : NdOk size g) (Z : Sto) : Nf [nT g] Z = .ok (.loc Z.length) (Z ++ [.lst (tI g.inn)]) := by
  cases g with
  | sc a b => simp [Nf,runF,Z68,nT,sSc,tI,Nd.inn]
  | sq a ns =>
    simp only [nT,sSeq]
    have : asSeq (.tup (ns.map Fx.T.int)) Z = some (tI ns) := rfl
    simp [Nf,runF,Z68,Nd.inn,gList,asSeq,tI]
  | mp a ps =>
    obtain ⟨_,hl,_⟩ := h
    have e := Z5n (D := Z.length) (o0 := some (nT (.mp a ps))) (ps := ps) ps [] Fuel [] (Z ++ [.lst []]) rfl (Zo _ _) (by rw [Vw]; unfold Lim; omega) (by simp [Lim]; omega)
    rw [List.nil_append] at e
    have e2 : (Z ++ [O.lst []]).set Z.length (.lst (tI (ps.flatMap fun p => [p.1,p.2]))) = Z ++ [.lst (tI (ps.flatMap fun p => [p.1,p.2]))] := set_mid Z _ _ []
    rw [e2] at e
    have e3 : eLc2 [1,2] [1] (iAny (eBin gIxW (eVar 0) (eC (.int 2)))) [2] [2] Nb N8 [some (nT (.mp a ps)),none,none] Z = .ok (.loc Z.length) (Z ++ [.lst (tI (Nd.mp a ps).inn)]) := by
      have hi : iAny (eBin gIxW (eVar 0) (eC (.int 2))) [some (nT (.mp a ps)),none,none] Z = .ok (itSeq (ps.map pairT)) Z := by
        simp only [nT]
        generalize ps.map pairT = PS
        have a2 : atI [Fx.T.str sMap,.str a,.tup PS] 2 = some (.tup PS) := atI_nat (k := 2) rfl
        simp [a2]
      unfold eLc2
      rw [hi,Zv]
      exact e
    simp only [nT,sMap] at e3 ⊢
    generalize ps.map pairT = PS at e3 ⊢
    simp [Nf,runF,Z68,e3]
end Ap
set_option maxHeartbeats 8000000
namespace Ap
open PySem PySem.Spec PyProof.Rows L2 SX Fx
section
variable {gs : List Nd}
def mE (N : Fx.T) (b D W : Nat) (o4 : Option Fx.T) : Fx.Env := [some N,some (.loc b),some (.loc D),some (.loc W),o4]
structure MS (Z : Sto) (D W : Nat) (f st : List Int) (Z' : Sto) : Prop where
  ext : Ext Z Z'
  hD : Z.length ≤ D
  hW : Z.length ≤ W
  ne : D ≠ W
  d : getDK Z' D = some (fD f)
  w : getL Z' W = some (tI st.reverse)
theorem Z6p {N : Fx.T} {b D W : Nat} {o4 : Option Fx.T} {Z Z' : Sto} {f st : List Int} (s : MS Z D W f st Z') : eBl (eBin gNeL (eVar 3) (eLst aNil)) (mE N b D W o4) Z' = .ok (!decide (st = [])) (Z' ++ [O.lst []]) := by
  have e := neL_0 (Z := Z' ++ [O.lst []]) (Yj s.w) (Zo Z' [])
  have e2 : decide (tI st.reverse = []) = decide (st = []) := by
    cases st with
    | nil => rfl
    | cons a l => simp [tI]
  rw [e2] at e
  simp [mE,e]
theorem Zer {N : Fx.T} {b D W : Nat} {o4 : Option Fx.T} {Z Z' : Sto} {f st : List Int} {x : Int} (s : MS Z D W f (x :: st) Z') : sSet 4 (eBM "list" gPop (eVar 3) aNil) (mE N b D W o4) (Z' ++ [O.lst []]) = .nx (mE N b D W (some (.int x))) ((Z' ++ [O.lst []]).set W (.lst (tI st.reverse))) ∧ MS Z D W f st ((Z' ++ [O.lst []]).set W (.lst (tI st.reverse))) := by
  have hw : getL (Z' ++ [O.lst []]) W = some (tI st.reverse ++ [.int x]) := by
    rw [Yj s.w]
    simp [tI]
  have hp : gPop (.loc W) [] (Z' ++ [O.lst []]) = some (.int x, (Z' ++ [O.lst []]).set W (.lst (tI st.reverse))) := by
    simp only [gPop,hw]
    have e1 : (tI st.reverse ++ [Fx.T.int x])[(tI st.reverse ++ [Fx.T.int x]).length - 1]? = some (.int x) := by simp
    simp only [e1,List.dropLast_concat]
  refine ⟨?_,(s.ext.app _).set s.hW,s.hD,s.hW,s.ne,?_,Xp hw⟩
  · simp [mE,Zdd hw,hp]
  · rw [Zb3 (Ne.symm s.ne)]
    exact Wb s.d
theorem Zgg (hgs : GsOk gs) {b D W : Nat} {Z : Sto} {k : Nat} {f st r : List Int} (m : Met gs k f st r) : ∀ (n : Nat) (o4 : Option Fx.T) (Z' : Sto), k < n → (∀ x ∈ st, InG gs x) → f.length + st.length + wt gs f ≤ 500000 → MS Z D W f st Z' →
    ∃ o4' Z'', loopW (eBl (eBin gNeL (eVar 3) (eLst aNil))) Z69 n (mE (nsT gs) b D W o4) Z' = .nx (mE (nsT gs) b D W o4') Z'' ∧ Ext Z Z'' ∧ getDK Z'' D = some (fD r) := by
  induction m with
  | nil f =>
    intro n o4 Z' hn hs hb s
    obtain ⟨n, rfl⟩ : ∃ n', n = n' + 1 := ⟨n - 1, by omega⟩
    unfold loopW
    rw [Z6p s,Z0k,if_neg (by simp)]
    exact ⟨o4,_,rfl,s.ext.app _,Wb s.d⟩
  | @skip k f x st r hx m ih =>
    intro n o4 Z' hn hs hb s
    obtain ⟨n, rfl⟩ : ∃ n', n = n' + 1 := ⟨n - 1, by omega⟩
    obtain ⟨e1,s1⟩ := Zer (N := nsT gs) (b := b) (o4 := o4) s
    rw [List.length_cons] at hb
    obtain ⟨o', Z'', e2, h2⟩ := ih n (some (.int x)) _ (by omega) (fun y hy => hs y (List.mem_cons_of_mem _ hy)) (by omega) s1
    refine ⟨o', Z'', ?_, h2⟩
    unfold loopW
    rw [Z6p s,Z0k,if_pos (by simp)]
    have hb1 : Z69 (mE (nsT gs) b D W o4) (Z' ++ [O.lst []]) = .nx (mE (nsT gs) b D W (some (.int x))) ((Z' ++ [O.lst []]).set W (.lst (tI st.reverse))) := by
      refine Ye e1 ?_
      have hd := s1.d
      generalize (Z' ++ [O.lst []]).set W (.lst (tI st.reverse)) = Z1 at *
      have hg : gNotInW (.int x) (.loc D) Z1 = some (.bl false,Z1) := by
        simp only [gNotInW,hd,keyT,Option.map_some,Zeb,if_pos hx]; rfl
      simp [mE,hg]
    rw [hb1]
    exact e2
  | @new k f x st r hx m ih =>
    intro n o4 Z' hn hs hb s
    obtain ⟨n, rfl⟩ : ∃ n', n = n' + 1 := ⟨n - 1, by omega⟩
    obtain ⟨e1,s1⟩ := Zer (N := nsT gs) (b := b) (o4 := o4) s
    have hi := hs x List.mem_cons_self
    have hw := Zhe hi hx
    obtain ⟨g,hg,hgx,hinn⟩ := Z6l hi
    have hil := (Jc (hgs g hg)).2
    rw [List.length_cons] at hb
    obtain ⟨Z1, hZ1⟩ : ∃ Z1, Z1 = (Z' ++ [O.lst []]).set W (.lst (tI st.reverse)) := ⟨_, rfl⟩
    rw [← hZ1] at e1 s1
    -- the dict
    obtain ⟨Z2,hZ2⟩ : ∃ Z2,Z2 = Z1.set D (.dk (fD (f ++ [x]))) := ⟨_,rfl⟩
    have d1 : gSetW (.loc D) (.int x) (.bl true) Z1 = some Z2 := by
      simp only [gSetW,s1.d,keyT]
      rw [if_pos (by rw [Zm3]; unfold Lim; omega),Zm2 hx,hZ2]
    have d2 : getDK Z2 D = some (fD (f ++ [x])) := by rw [hZ2]; exact Zed s1.d
    have w2 : getL Z2 W = some (tI st.reverse) := by rw [hZ2,Qv s1.ne]; exact s1.w
    -- the numbers within
    have i1 := Zeq (hgs g hg) Z2
    obtain ⟨Z3,hZ3⟩ : ∃ Z3,Z3 = Z2 ++ [O.lst (tI g.inn)] := ⟨_,rfl⟩
    rw [← hZ3] at i1
    have l3 : getL Z3 Z2.length = some (tI g.inn) := by rw [hZ3]; exact Zo _ _
    have r3 := Zb1 l3 (by rw [Zb2]; unfold Lim; omega)
    obtain ⟨Z4,hZ4⟩ : ∃ Z4,Z4 = Z3 ++ [O.lst (tI g.inn).reverse] := ⟨_,rfl⟩
    rw [← hZ4] at r3
    have l4 : getL Z4 Z3.length = some (tI g.inn).reverse := by rw [hZ4]; exact Zo _ _
    have w4 : getL Z4 W = some (tI st.reverse) := by rw [hZ4,hZ3]; exact Yj (Yj w2)
    obtain ⟨Z5,hZ5⟩ : ∃ Z5,Z5 = Z4.set W (.lst (tI st.reverse ++ (tI g.inn).reverse)) := ⟨_,rfl⟩
    have x5 : gExtend (.loc W) [.loc Z3.length] Z4 = some (.non,Z5) := by
      simp only [gExtend,w4,l4]
      rw [if_pos (by rw [List.length_reverse,Zb2,Zb2,List.length_reverse]; unfold Lim; omega),hZ5]
    have hD4 : D < Z4.length := by
      have := (List.getElem?_eq_some_iff.mp (Z02.mp d2)).1
      rw [hZ4,hZ3]; simp; omega
    have s5 : MS Z D W (f ++ [x]) (innA gs x ++ st) Z5 := by
      refine ⟨?_,s.hD,s.hW,s.ne,?_,?_⟩
      · rw [hZ5,hZ4,hZ3,hZ2]
        exact ((((s1.ext).set s.hD).app _).app _).set s.hW
      · rw [hZ5,Zb3 (Ne.symm s.ne),hZ4,hZ3]
        exact Wb (Wb d2)
      · rw [hZ5]
        have e := Xp (us := tI st.reverse ++ (tI g.inn).reverse) w4
        rw [e,hinn]
        simp [tI]
    have hc := Jl hgs
    obtain ⟨o', Z'', e2, h2⟩ := ih n (some (.int x)) Z5 (by omega) (fun y hy => by
      rcases List.mem_append.mp hy with hy | hy
      · exact hc x hi y hy
      · exact hs y (List.mem_cons_of_mem _ hy)) (by rw [List.length_append,List.length_append]; simp; omega) s5
    refine ⟨o', Z'', ?_, h2⟩
    unfold loopW
    rw [Z6p s,Z0k,if_pos (by simp)]
    have hb1 : Z69 (mE (nsT gs) b D W o4) (Z' ++ [O.lst []]) = .nx (mE (nsT gs) b D W (some (.int x))) Z5 := by
      refine Ye e1 ?_
      have hg1 : gNotInW (.int x) (.loc D) Z1 = some (.bl true,Z1) := by
        simp only [gNotInW,s1.d,keyT,Option.map_some,Zeb,if_neg hx]; rfl
      have n2 := Zji hi hgx Z2
      have t4 := Zdd w2
      simp [mE,hg1,d1,n2,i1,eSlS,oNone,oSome,r3,t4,x5]
    rw [hb1]
    exact e2
theorem f_met (hgs : GsOk gs) (hN : gs.length ≤ 200) {Z : Sto} {b k : Nat} {bs r : List Int} (hb : getL Z b = some (tI bs)) (hbi : ∀ x ∈ bs,InG gs x) (hbl : bs.length ≤ 1000) (m : Met gs k [] bs r) :
    ∃ i Z', Zj6 [nsT gs, .loc b] Z = .ok (.loc i) Z' ∧ Ext Z Z' ∧ Z.length ≤ i ∧ getL Z' i = some (tI r) := by
  have hwt := wt_le hgs []
  have hk := m.steps (Jl hgs) hbi
  obtain ⟨Z1,hZ1⟩ : ∃ Z1,Z1 = Z ++ [O.dk []] := ⟨_,rfl⟩
  have b1 : getL Z1 b = some (tI bs) := by rw [hZ1]; exact Yj hb
  have c1 : getDK Z1 b = none := by unfold getDK; rw [Uu.mp b1]
  obtain ⟨Z2,hZ2⟩ : ∃ Z2,Z2 = Z1 ++ [O.lst (tI bs)] := ⟨_,rfl⟩
  have g1 : gListW [.loc b] Z1 = some (.loc Z1.length,Z2) := by
    show (match getDK Z1 b with | some kvs => (tKeys kvs).map fun ts => (Fx.T.loc Z1.length,Z1 ++ [O.lst ts]) | none => gList [.loc b] Z1) = _
    rw [c1]
    simp [gList,asSeq,X8,b1,hZ2]
  have r2 := Zb1 (Z := Z2) (i := Z1.length) (ts := tI bs) (by rw [hZ2]; exact Zo _ _) (by rw [Zb2]; unfold Lim; omega)
  obtain ⟨Z3,hZ3⟩ : ∃ Z3,Z3 = Z2 ++ [O.lst (tI bs).reverse] := ⟨_,rfl⟩
  rw [← hZ3] at r2
  have hl1 : Z1.length = Z.length + 1 := by rw [hZ1]; simp
  have hl2 : Z2.length = Z.length + 2 := by rw [hZ2]; simp [hl1]
  have s3 : MS Z Z.length Z2.length [] bs Z3 := by
    refine ⟨?_,Nat.le_refl _,by omega,by omega,?_,?_⟩
    · rw [hZ3,hZ2,hZ1]
      exact (((Ext.refl Z).app _).app _).app _
    · rw [hZ3,hZ2,hZ1]
      exact Wb (Wb (by unfold getDK; simp [fD]))
    · rw [hZ3,Zo]
      simp [tI]
  obtain ⟨o4,Z4,e4,x4,d4⟩ := Zgg (b := b) hgs m Lim none Z3 (by unfold Lim; omega) hbi (by simp; omega) s3
  have hf : gListW [.loc Z.length] Z4 = some (.loc Z4.length,Z4 ++ [.lst (tI r)]) := by
    show (match getDK Z4 Z.length with | some kvs => (tKeys kvs).map fun ts => (Fx.T.loc Z4.length,Z4 ++ [O.lst ts]) | none => gList [.loc Z.length] Z4) = _
    rw [d4]
    simp only [Zec,Option.map_some]
  refine ⟨Z4.length,Z4 ++ [.lst (tI r)],?_,x4.app _,x4.len,Zo _ _⟩
  have hB : Zj5 [some (nsT gs),some (.loc b),none,none,none] Z = .rt (.loc Z4.length) (Z4 ++ [.lst (tI r)]) := by
    unfold Zj5
    have e1 : sPar [2,3] (aCons eDict0 (aCons (eSlS (eCallB gListW (aCons (eVar 1) aNil)) oNone oNone (oSome (eUn gNeg (eC (.int 1))))) aNil)) [some (nsT gs),some (.loc b),none,none,none] Z = .nx (mE (nsT gs) b Z.length Z2.length none) Z3 := by
      have e0 : ∀ ρ,eDict0 ρ Z = .ok (.loc Z.length) Z1 := fun ρ => by rw [hZ1]; rfl
      simp [-Zij,e0,eSlS,oNone,oSome,g1,r2,mE]
    refine Ye e1 (Ye e4 ?_)
    simp [mE,hf]
  exact Vz (n := 5) (as := [nsT gs,.loc b]) hB
end
end Ap

set_option maxHeartbeats 8000000
namespace Ap
open PySem PySem.Spec PyProof.Rows L2 SX Fx
section
variable {gs : List Nd}
def uzA (gs : List Nd) : Nat → Int → Int
  | 0,_ => 1
  | d + 1,x => 1 + ((innA gs x).map (uzA gs d)).sum
def tr0 : Nd → Fx.T
  | .sc a b => nT (.sc a b)
  | .sq a ns => .tup [.str sSeq,.str a,.int (ns.length : Int)]
  | .mp a _ => .tup [.str sMap,.str a,.non]
def trS (f : Int → Fx.T) : Nd → Fx.T
  | .sc a b => nT (.sc a b)
  | .sq a ns => .tup [.str sSeq,.str a,.tup (ns.map f)]
  | .mp a ps => .tup [.str sMap,.str a,.tup (ps.map fun p => .tup [f p.1,f p.2])]
def trA (gs : List Nd) : Nat → Int → Fx.T
  | 0,x => tr0 (ndA gs x)
  | d + 1,x => trS (trA gs d) (ndA gs x)
theorem Z1u (hgs : GsOk gs) : ∀ (d m : Nat) (x : Int) (Z : Sto), InG gs x → d < m → ∃ Z', (Zc2 m).tree_at [nsT gs, .int x, .int (d : Int)] Z = .ok (trA gs d x) Z' ∧ Ext Z Z'
  | _,0,_,_,_,h => by omega
  | d,m + 1,x,Z,hx,h => by
    obtain ⟨hm,hgx,hi⟩ := W8 hx
    have n1 := Zji hx hgx
    have hok := hgs _ hm
    have hcl := Jl hgs x hx
    rw [hi] at hcl
    show ∃ Z', runF 10 (Vu (Zc2 m)) _ Z = _ ∧ _
    generalize hN : nsT gs = N at *
    have h0 : trA gs 0 x = tr0 (ndA gs x) := rfl
    have hS : ∀ d,trA gs (d + 1) x = trS (trA gs d) (ndA gs x) := fun d => rfl
    generalize ndA gs x = g at *
    cases g with
    | sc a b =>
      refine ⟨Z,?_,Ext.refl Z⟩
      have e : trA gs d x = nT (.sc a b) := by
        cases d with
        | zero => exact h0
        | succ d => exact hS d
      rw [e]
      simp only [nT,sSc] at n1 ⊢
      simp [runF,Vu,n1]
    | sq a ns =>
      obtain ⟨_,hl,_⟩ := hok
      simp only [nT,sSeq] at n1
      cases d with
      | zero =>
        refine ⟨Z,?_,Ext.refl Z⟩
        rw [h0]
        have hl2 : (ns.map Fx.T.int).length = ns.length := List.length_map _
        generalize ns.map Fx.T.int = M at *
        simp [runF,Vu,n1,tr0,sSeq,hl2]
      | succ d =>
        obtain ⟨Z1,e1,x1,g1⟩ := Xk (it := itSeq (ns.map Fx.T.int)) (put := fun t => putN [9] t (wipeR [some N,some (.int x),some (.int ((d + 1 : Nat) : Int)),some (.str sSeq),some (.str a),some (.tup (ns.map Fx.T.int)),none,none,none,none] [9])) (c := eYes) (e := Z18 (Zc2 m)) (l := ns) (u := Fx.T.int) (p := fun _ => true) (fv := trA gs d) (Z1 := Z) (by unfold Lim; omega) (fun k Z _ _ => by simp [itSeq])
          (fun y hy Zc xc => by
            obtain ⟨Z2,e2,x2⟩ := Z1u hgs d m y Zc (hcl y hy) (by omega)
            rw [hN] at e2
            refine ⟨[some N,some (.int x),some (.int ((d + 1 : Nat) : Int)),some (.str sSeq),some (.str a),some (.tup (ns.map Fx.T.int)),none,none,none,some (.int y)],Zc,by rw [Um]; rfl,rfl,Ext.refl Zc,fun _ => ⟨Z2,?_,x2⟩⟩
            have hs : ((d + 1 : Nat) : Int) - 1 = (d : Int) := by omega
            generalize ns.map Fx.T.int = M at *
            simp [Z18,hs,e2])
        rw [Vr] at g1
        refine ⟨Z1,?_,x1⟩
        rw [hS]
        have hz : ¬ ((d + 1 : Nat) : Int) = 0 := by omega
        have hz2 : ¬ (d : Int) + 1 = 0 := by omega
        simp only [sSeq] at e1
        generalize hM : ns.map Fx.T.int = M at *
        have t1 : gTuple [.loc Z.length] Z1 = some (.tup (ns.map (trA gs d)),Z1) := by simp [gTuple,asSeq,X8,g1]
        rw [show trS (trA gs d) (.sq a ns) = .tup [.str sSeq,.str a,.tup (ns.map (trA gs d))] from rfl]
        generalize ns.map (trA gs d) = R at *
        generalize ((d + 1 : Nat) : Int) = D at *
        simp [runF,Vu,n1,hz,e1,g1,sSeq]
    | mp a ps =>
      obtain ⟨_,hl,_⟩ := hok
      simp only [nT,sMap] at n1
      cases d with
      | zero =>
        refine ⟨Z,?_,Ext.refl Z⟩
        rw [h0]
        generalize ps.map pairT = M at *
        simp [runF,Vu,n1,tr0,sMap]
      | succ d =>
        obtain ⟨Z1,e1,x1,g1⟩ := Xk (it := itSeq (ps.map pairT)) (put := fun t => putN [7,8] t (wipeR [some N,some (.int x),some (.int ((d + 1 : Nat) : Int)),some (.str sMap),some (.str a),some (.tup (ps.map pairT)),none,none,none,none] [7,8])) (c := eYes) (e := Z19 (Zc2 m)) (l := ps) (u := pairT) (p := fun _ => true) (fv := fun p => .tup [trA gs d p.1,trA gs d p.2]) (Z1 := Z) (by unfold Lim; omega) (fun k Z _ _ => by simp [itSeq])
          (fun y hy Zc xc => by
            obtain ⟨Z2,e2,x2⟩ := Z1u hgs d m y.1 Zc (hcl y.1 (List.mem_flatMap.mpr ⟨y,hy,by simp⟩)) (by omega)
            obtain ⟨Z3,e3,x3⟩ := Z1u hgs d m y.2 Z2 (hcl y.2 (List.mem_flatMap.mpr ⟨y,hy,by simp⟩)) (by omega)
            rw [hN] at e2 e3
            refine ⟨[some N,some (.int x),some (.int ((d + 1 : Nat) : Int)),some (.str sMap),some (.str a),some (.tup (ps.map pairT)),none,some (.int y.1),some (.int y.2),none],Zc,by simp [putN,pairT,wipeR],rfl,Ext.refl Zc,fun _ => ⟨Z3,?_,x2.trans x3⟩⟩
            have hs : ((d + 1 : Nat) : Int) - 1 = (d : Int) := by omega
            generalize ps.map pairT = M at *
            simp [Z19,hs,e2,e3])
        rw [Vr] at g1
        refine ⟨Z1,?_,x1⟩
        rw [hS]
        have hz : ¬ ((d + 1 : Nat) : Int) = 0 := by omega
        simp only [sMap] at e1
        generalize hM : ps.map pairT = M at *
        have t1 : gTuple [.loc Z.length] Z1 = some (.tup (ps.map fun p => .tup [trA gs d p.1,trA gs d p.2]),Z1) := by simp [gTuple,asSeq,X8,g1]
        rw [show trS (trA gs d) (.mp a ps) = .tup [.str sMap,.str a,.tup (ps.map fun p => .tup [trA gs d p.1,trA gs d p.2])] from rfl]
        generalize (ps.map fun p => Fx.T.tup [trA gs d p.1,trA gs d p.2]) = R at *
        generalize ((d + 1 : Nat) : Int) = D at *
        simp [runF,Vu,n1,hz,e1,g1,gTuple,asSeq,X8,sMap]
end
end Ap
set_option maxHeartbeats 8000000
namespace Ap
open PySem PySem.Spec PyProof.Rows L2 SX Fx
theorem Zk4 {α : Type} {Z1 : Sto} {i : Nat} {l : List α} {u : α → Fx.T} (g : getL Z1 i = some (l.map u)) : ∀ k Z,Ext Z1 Z → k ≤ l.length → itLoc i k Z = some ((l[k]?).map u) := fun k Z x _ => by
  simp only [itLoc,x.getL g,Option.map_some,List.getElem?_map]
theorem Zes : ∀ ns : List Int,intsT (tI ns) = some ns
  | [] => rfl
  | n :: ns => by
    show (intsT (tI ns)).map _ = _
    rw [Zes ns]; rfl
theorem sum_I {Z : Sto} {D : Nat} {ns : List Int} (h : getL Z D = some (tI ns)) : gSum [.loc D] Z = some (.int ns.sum,Z) := by
  simp only [gSum,X8,h,Option.bind_some,Zes,Option.map_some]
theorem Zml {ρ : Fx.Env} {v : Nat} {fi : FI} {fe : FE} {ns : List Int} {f : Int → Int} {Z Z1 : Sto} {i : Nat} (hi : fi ρ Z = .ok (itLoc i) Z1) (x1 : Ext Z Z1) (g1 : getL Z1 i = some (tI ns)) (hl : ns.length ≤ Lim) (he : ∀ y ∈ ns,∀ Zc,Ext Z1 Zc → ∃ ρ2,putN [v] (.int y) (wipeR ρ [v]) = some ρ2 ∧ fe ρ2 Zc = .ok (.int (f y)) Zc) :
    ∃ Z', eBin gAdd (eC (.int 1)) (eCallB gSum (aCons (eLc [v] [v] fi eYes fe) aNil)) ρ Z = .ok (.int (1 + (ns.map f).sum)) Z' ∧ Ext Z Z' := by
  obtain ⟨Z', e1, x2, g2⟩ := Xk (it := itLoc i) (put := fun t => putN [v] t (wipeR ρ [v])) (c := eYes) (e := fe) (l := ns) (u := Fx.T.int) (p := fun _ => true) (fv := fun y => .int (f y)) (Z1 := Z1) hl (Zk4 g1)
    (fun y hy Zc xc => by
      obtain ⟨ρ2,h1,h2⟩ := he y hy Zc xc
      exact ⟨ρ2,Zc,h1,rfl,Ext.refl Zc,fun _ => ⟨Zc,h2,Ext.refl Zc⟩⟩)
  rw [Vr] at g2
  have hs := sum_I (ns := ns.map f) (Z := Z') (D := Z1.length) (by rw [g2]; unfold tI; rw [List.map_map]; rfl)
  refine ⟨Z', ?_, x1.trans x2⟩
  simp [hi,e1,hs]
end Ap
set_option maxHeartbeats 8000000
namespace Ap
open PySem PySem.Spec PyProof.Rows L2 SX Fx
theorem Z84 {α : Type} {it : ItF} {put : Fx.T → Option Fx.Env} {fk fv : FE} {l : List α} {u : α → Fx.T} {key : α → L2.Key} {vl : α → Fx.T} {Z1 : Sto} (hl : l.length ≤ 100000) (hit : ∀ k Z,Ext Z1 Z → k ≤ l.length → it k Z = some ((l[k]?).map u)) (hnd : (l.map key).Nodup)
    (h : ∀ x ∈ l,∀ Z,Ext Z1 Z → ∃ ρ t Z2,put (u x) = some ρ ∧ fk ρ Z = .ok t Z ∧ keyT t = some (key x) ∧ fv ρ Z = .ok (vl x) Z2 ∧ Ext Z Z2) :
    ∃ Z', loopD it Z1.length put fk fv Fuel 0 (Z1 ++ [.dk []]) = .ok (.loc Z1.length) Z' ∧ Ext Z1 Z' ∧ getDK Z' Z1.length = some (l.map fun x => (key x, vl x)) := by
  have go : ∀ (post pre : List α) (n : Nat) (Z : Sto), l = pre ++ post → post.length < n → Ext Z1 Z → getDK Z Z1.length = some (pre.map fun x => (key x, vl x)) → ∃ Z', loopD it Z1.length put fk fv n pre.length Z = .ok (.loc Z1.length) Z' ∧ Ext Z1 Z' ∧ getDK Z' Z1.length = some (l.map fun x => (key x, vl x)) := by
    intro post
    induction post with
    | nil =>
      intro pre n Z hp hn hx hd
      obtain ⟨n, rfl⟩ : ∃ n', n = n' + 1 := ⟨n - 1, by omega⟩
      rw [List.append_nil] at hp
      subst hp
      refine ⟨Z,?_,hx,hd⟩
      unfold loopD
      rw [hit _ _ hx (Nat.le_refl _)]
      simp
    | cons x post ih =>
      intro pre n Z hp hn hx hd
      obtain ⟨n, rfl⟩ : ∃ n', n = n' + 1 := ⟨n - 1, by omega⟩
      rw [List.length_cons] at hn
      obtain ⟨ρ,t,Z2,h1,h2,h3,h4,h5⟩ := h x (by rw [hp]; simp) _ hx
      have hpl : pre.length < l.length := by rw [hp]; simp
      have e0 : it pre.length Z = some (some (u x)) := by
        rw [hit _ _ hx (by omega),hp]; simp
      have hd2 : getDK Z2 Z1.length = some (pre.map fun x => (key x,vl x)) := by
        obtain ⟨Y,rfl⟩ := h5
        exact Wb hd
      have hk : key x ∉ (pre.map fun x => (key x,vl x)).map (·.1) := by
        rw [List.map_map]
        rw [hp,List.map_append,List.nodup_append] at hnd
        intro hm
        exact hnd.2.2 (key x) hm (key x) (by simp) rfl
      have hput : putKT (pre.map fun x => (key x,vl x)) (key x) (vl x) = (pre ++ [x]).map fun x => (key x,vl x) := by
        unfold putKT
        rw [Zef _ _ fun p hp e => hk (by rw [← e]; exact List.mem_map_of_mem hp)]
        simp
      have hlt : Z1.length < Z2.length := by
        have := Z02.mp hd2
        exact (List.getElem?_eq_some_iff.mp this).1
      obtain ⟨Z', e1, x1, g1⟩ := ih (pre ++ [x]) n (Z2.set Z1.length (.dk ((pre ++ [x]).map fun x => (key x, vl x)))) (by rw [hp]; simp) (by omega) ((hx.trans h5).set (Nat.le_refl _)) (by unfold getDK; rw [List.getElem?_set_self hlt])
      rw [List.length_append] at e1
      refine ⟨Z', ?_, x1, g1⟩
      unfold loopD
      simp only [e0,h1,h2,Z5d,Zv,h4,hd2,h3]
      rw [if_pos (by rw [List.length_map]; unfold Lim; omega),hput]
      exact e1
  exact go l [] Fuel (Z1 ++ [.dk []]) rfl (by rw [Vw]; unfold Lim; omega) ((Ext.refl Z1).app _) (by unfold getDK; simp)
def uD (f : Int → Int) (r : List Int) : List (L2.Key × Fx.T) := r.map fun x => ((.inl x : L2.Key),Fx.T.int (f x))
theorem Zho {f : Int → Int} {y : Int} : ∀ {r : List Int},y ∈ r → getK (uD f r) (.inl y) = some (.int (f y))
  | [],h => by cases h
  | x :: r,h => by
    show (if keyEq (.inl x) (.inl y) = true then _ else _) = _
    by_cases e : x = y
    · subst e
      rw [if_pos (by simp [keyEq])]
    · rw [if_neg (by simp [keyEq,e])]
      exact Zho ((List.mem_cons.mp h).resolve_left fun z => e z.symm)
theorem Zmm {Z : Sto} {D : Nat} {f : Int → Int} {r : List Int} (h : getDK Z D = some (uD f r)) {y : Int} (hy : y ∈ r) : gIxW (.loc D) (.int y) Z = some (.int (f y),Z) := by
  simp only [gIxW,h,keyT,Zho hy,Option.map_some]
theorem Zhp {r : List Int} (h : r.Nodup) : (r.map fun x => (.inl x : L2.Key)).Nodup := by
  unfold List.Nodup at *
  rw [List.pairwise_map]
  exact h.imp fun h e => h (Sum.inl.inj e)
theorem Zmn {d most : Int} {Z : Sto} (h0 : 0 ≤ d) (h1 : d ≤ most) : Xw [.int d,.int most] Z = .ok .non Z := by
  have e := Zaw d most Z
  have hn : numOk most (.int d) = true := by simp [numOk,h0,h1]
  rw [hn] at e
  simp [Xw,runF,N7,e]
section
variable {gs : List Nd}
def sE (i : Nat) (d : Nat) (o2 o3 o4 : Option Fx.T) : Fx.Env := [some (.loc i),some (.int (d : Int)),o2,o3,o4,none,none]
theorem Zk5 (hgs : GsOk gs) (hN : gs.length ≤ 200) {Z : Sto} {i d : Nat} {top : Int} (hg : GrAt Z i (gs.map nT) top) (ht : InG gs top) (hd : d ≤ 100) :
    ∃ Z', Uj [.loc i, .int (d : Int)] Z = .ok (.int (uzA gs d top)) Z' ∧ Ext Z Z' := by
  obtain ⟨k,m⟩ := Zg8 (Jl hgs) (d := gs.length + 1) ht (by omega)
  generalize wk gs (gs.length + 1) top [] = r at *
  have rnd := m.nodup List.nodup_nil
  have rin := m.inG (Jl hgs) (fun x hx => by cases hx) (fun x hx => by rw [List.mem_singleton.mp hx]; exact ht)
  have rcl := m.closed (fun x hx => by cases hx)
  have rt : top ∈ r := m.sub.2 top List.mem_cons_self
  have rl : r.length ≤ 100000 := by
    have := List.Nodup.length_le_of_subset rnd (l₂ := (List.range gs.length).map fun (i : Nat) => (i : Int)) (fun x hx => by
      have h1 := (rin x hx).1
      have h2 := (rin x hx).2
      exact List.mem_map.mpr ⟨x.toNat,List.mem_range.mpr (by omega),by omega⟩)
    rw [List.length_map,List.length_range] at this
    omega
  have s0 : Nh (sE i d none none none) Z = Vj (sE i d none none none) Z := by
    refine Ye (ρ' := sE i d none none none) ?_ rfl
    simp [sE,Zm4 hg]
  have s1 : Vj (sE i d none none none) Z = Vi (sE i d none none none) Z := by
    refine Ye (ρ' := sE i d none none none) ?_ rfl
    simp [sE,Zmn (d := (d : Int)) (most := 100) (Z := Z) (by omega) (by omega)]
  obtain ⟨j,Z1,e1,x1,hj,g1⟩ := f_met hgs hN (Z := Z ++ [.lst (tI [top])]) (b := Z.length) (bs := [top]) (Zo _ _) (fun y hy => by rw [List.mem_singleton.mp hy]; exact ht) (by simp) m
  have x01 : Ext Z Z1 := ((Ext.refl Z).app _).trans x1
  have s2 : Vi (sE i d none none none) Z = Vh (sE i d (some (.loc j)) none none) Z1 := by
    refine Ye (ρ' := sE i d (some (.loc j)) none none) ?_ rfl
    have f1 := Z9h hg
    have f2 := Ze6 hg
    have e3 : nsT gs = .tup (gs.map nT) := rfl
    rw [e3] at e1
    simp only [tI,List.map_cons,List.map_nil] at e1
    simp [sE,eFld,f1,f2,e1]
  obtain ⟨Z2,e2,x2,g2⟩ := Z84 (it := itLoc j) (put := fun t => putN [5] t (wipeR (sE i d (some (.loc j)) none none) [5])) (fk := Qh) (fv := Qi) (l := r) (u := Fx.T.int) (key := fun x => .inl x) (vl := fun _ => .int 1) (Z1 := Z1) rl (Zk4 g1) (Zhp rnd)
    (fun x hx Zc xc => ⟨[some (.loc i),some (.int (d : Int)),some (.loc j),none,none,some (.int x),none],.int x,Zc,by rw [Um]; rfl,rfl,rfl,rfl,Ext.refl Zc⟩)
  have s3 : Vh (sE i d (some (.loc j)) none none) Z1 = Vg (sE i d (some (.loc j)) (some (.loc Z1.length)) none) Z2 := by
    refine Ye (ρ' := sE i d (some (.loc j)) (some (.loc Z1.length)) none) ?_ rfl
    simp only [sE] at e2 ⊢
    simp [eDc,g1,e2]
  obtain ⟨ρ4, Z4, e4, D, o4, rfl, x4, g4⟩ := Z80 (m := d) (body := fun t ρ' Z' => bS ρ' (gNm 4 t ρ' Z') Vf) (ρ := sE i d (some (.loc j)) (some (.loc Z1.length)) none) (Z := Z2)
    (fun k ρ Z' => ∃ D o4, ρ = sE i d (some (.loc j)) (some (.loc D)) o4 ∧ Ext Z1 Z' ∧ getDK Z' D = some (uD (uzA gs k) r)) (by unfold Lim; omega)
    ⟨Z1.length,none,rfl,x2,by rw [g2]; rfl⟩
    (fun k hk ρ Z' hI => by
      obtain ⟨D,o4,rfl,xc,gc⟩ := hI
      obtain ⟨Z3, e3, x3, g3⟩ := Z84 (it := itLoc j) (put := fun t => putN [5] t (wipeR (sE i d (some (.loc j)) (some (.loc D)) (some (.int (k : Int)))) [5])) (fk := Ql) (fv := Qm) (l := r) (u := Fx.T.int) (key := fun x => .inl x) (vl := fun x => .int (uzA gs (k + 1) x)) (Z1 := Z') rl (Zk4 (xc.getL g1)) (Zhp rnd)
        (fun x hx Zd xd => by
          obtain ⟨hm,hgx,hin⟩ := W8 (rin x hx)
          have hok := hgs _ hm
          have hll := (Jc hok).2
          have hu : uzA gs (k + 1) x = 1 + ((ndA gs x).inn.map (uzA gs k)).sum := by
            show 1 + ((innA gs x).map (uzA gs k)).sum = _
            rw [hin]
          have hcl := rcl x hx
          rw [hin] at hcl
          have n1 := Zji (rin x hx) hgx Zd
          have e5 := Zeq hok Zd
          rw [hu]
          have f1 := Z9h (hg.ext ((x01.trans xc).trans xd))
          have e6 : nsT gs = .tup (gs.map nT) := rfl
          rw [e6] at n1
          generalize ndA gs x = g at *
          obtain ⟨Z5, e7, x5⟩ := Zml (ρ := [some (.loc i), some (.int (d : Int)), some (.loc j), some (.loc D), some (.int (k : Int)), some (.int x), none]) (v := 6) (fi := iAny (eCall Nf [] (aCons (eBin gIxW (eFld ["Graph"] "nodes" (eVar 0)) (eVar 5)) aNil))) (fe := Ve) (f := uzA gs k) (Z := Zd) (Z1 := Zd ++ [.lst (tI g.inn)]) (i := Zd.length) (by
              generalize gs.map nT = G at *
              simp [eFld,f1,n1,e5,Zo]) ((Ext.refl Zd).app _) (Zo _ _) (by unfold Lim; omega) (fun y hy Ze xe => by
            have gd : getDK Ze D = some (uD (uzA gs k) r) := by
              obtain ⟨Y1,rfl⟩ := xd
              obtain ⟨Y2,rfl⟩ := xe
              exact Wb (Wb (Wb gc))
            have a := Zmm gd (hcl y hy)
            exact ⟨[some (.loc i),some (.int (d : Int)),some (.loc j),some (.loc D),some (.int (k : Int)),some (.int x),some (.int y)],by rw [Um]; rfl,by simp [Ve,a]⟩)
          exact ⟨[some (.loc i),some (.int (d : Int)),some (.loc j),some (.loc D),some (.int (k : Int)),some (.int x),none],.int x,Z5,by rw [Um]; rfl,rfl,rfl,e7,x5⟩)
      refine ⟨sE i d (some (.loc j)) (some (.loc Z'.length)) (some (.int (k : Int))), Z3, ?_, Z'.length, some (.int (k : Int)), rfl, xc.trans x3, g3⟩
      have gl := xc.getL g1
      simp only [sE] at e3 ⊢
      simp [Vf,eDc,gl,e3])
  simp only [Zik,Z0k] at e4
  have r3 : ∀ Z,rngOf [.int (d : Int)] Z = .ok (itRng 0 d) Z := fun Z => rngN (n := d) (by unfold Lim; omega)
  have s4 : Vg (sE i d (some (.loc j)) (some (.loc Z1.length)) none) Z2 = W6 (sE i d (some (.loc j)) (some (.loc D)) o4) Z4 := by
    refine Ye (ρ' := sE i d (some (.loc j)) (some (.loc D)) o4) ?_ rfl
    simp only [sE] at e4 ⊢
    simp [r3,e4]
  have s5 : W6 (sE i d (some (.loc j)) (some (.loc D)) o4) Z4 = .rt (.int (uzA gs d top)) Z4 := by
    have f2 := Ze6 (hg.ext (x01.trans x4))
    have a := Zmm g4 rt
    simp [W6,sE,eFld,f2,a]
  exact ⟨Z4,Vz (n := 7) (as := [.loc i,.int (d : Int)]) (s0.trans (s1.trans (s2.trans (s3.trans (s4.trans s5))))),x01.trans x4⟩
theorem Zhq (hgs : GsOk gs) (hN : gs.length ≤ 200) {Z : Sto} {i d : Nat} {top : Int} (hg : GrAt Z i (gs.map nT) top) (ht : InG gs top) (hd : d ≤ 50) (hs : uzA gs d top ≤ 3000) : ∃ Z', Vk [.loc i, .int (d : Int)] Z = .ok (trA gs d top) Z' ∧ Ext Z Z' := by
  obtain ⟨Z1,e1,x1⟩ := Zk5 hgs hN hg ht (show d ≤ 100 by omega)
  have e2 := Zm4 hg
  have e3 := Zmn (d := (d : Int)) (most := 50) (Z := Z) (by omega) (by omega)
  have hg1 := hg.ext x1
  have f1 := Z9h hg1
  have f2 := Ze6 hg1
  obtain ⟨Z2,e4,x2⟩ := Z1u hgs d 55 top Z1 ht (by omega)
  refine ⟨Z2,?_,x1.trans x2⟩
  have e5 : Z49 [.tup (gs.map nT),.int top,.int (d : Int)] Z1 = .ok (trA gs d top) Z2 := e4
  have hn : ¬ 3000 < uzA gs d top := by omega
  generalize gs.map nT = G at *
  simp [Vk,runF,Z5j,e1,e2,e3,hn,eFld,f1,f2,e5]
end
end Ap
set_option maxHeartbeats 8000000
namespace Ap
open PySem PySem.Spec PyProof.Rows L2 SX Fx
def addU (acc : List (List Nat)) (x : List Nat) : List (List Nat) := if x ∈ acc then acc else acc ++ [x]
def dedU (l : List (List Nat)) : List (List Nat) := l.foldl addU []
def mkW (W : Int → List Nat) (p : Int × Int) : List Nat := W p.1 ++ 61 :: W p.2
def w0 : Nd → List Nat
  | .sc _ b => [115,99,33,33,115,116,114,39] ++ b ++ [39]
  | .sq _ ns => [115,101,33,33,115,101,113,48 + ns.length]
  | .mp _ _ => [109,97,33,33,109,97,112,78,111,110,101]
def wS (W : Int → List Nat) : Nd → List Nat
  | .sc _ b => [115,99,33,33,115,116,114,39] ++ b ++ [39]
  | .sq _ ns => 91 :: (48 + ns.length) :: TL.joinL [44] (ns.map W) ++ [93]
  | .mp _ ps => 123 :: TL.joinL [59] ((dedU (ps.map (mkW W))).mergeSort leS) ++ [125]
def wr (gs : List Nd) : Nat → Int → List Nat
  | 0,x => w0 (ndA gs x)
  | d + 1,x => wS (wr gs d) (ndA gs x)
def N42 (most : Nat) : Nd → Prop
  | .sc a b => a = [33,33,115,116,114] ∧ (b = [97] ∨ b = [98])
  | .sq a ns => a = [33,33,115,101,113] ∧ 1 ≤ ns.length ∧ ns.length ≤ most
  | .mp a ps => a = [33,33,109,97,112] ∧ 1 ≤ ps.length ∧ 2 * ps.length ≤ most
theorem Zgh {acc : List (List Nat)} {q x : List Nat} : x ∈ addU acc q ↔ x ∈ acc ∨ x = q := by
  unfold addU
  by_cases h : q ∈ acc
  · rw [if_pos h]
    exact ⟨.inl,fun e => e.elim id fun e => e ▸ h⟩
  · rw [if_neg h,List.mem_append,List.mem_singleton]
theorem Z85 : ∀ (qs acc : List (List Nat)) {x : List Nat},x ∈ qs.foldl addU acc ↔ x ∈ acc ∨ x ∈ qs
  | [],acc,x => by simp
  | q :: r,acc,x => by
    rw [List.foldl_cons,Z85 r,Zgh,List.mem_cons,or_assoc]
theorem Zgi {qs : List (List Nat)} {x : List Nat} : x ∈ dedU qs ↔ x ∈ qs := by
  unfold dedU
  rw [Z85]
  simp
theorem Zk6 {acc : List (List Nat)} {q : List Nat} (h : acc.Nodup) : (addU acc q).Nodup := by
  unfold addU
  by_cases hq : q ∈ acc
  · rw [if_pos hq]; exact h
  · rw [if_neg hq,List.nodup_append]
    exact ⟨h,by simp,fun a ha b hb => by rw [List.mem_singleton.mp hb]; exact fun e => hq (e ▸ ha)⟩
theorem Zk7 (qs : List (List Nat)) : (dedU qs).Nodup := by
  have : ∀ (qs acc : List (List Nat)),acc.Nodup → (qs.foldl addU acc).Nodup := fun qs => by
    induction qs with
    | nil => exact fun _ h => h
    | cons q r ih => exact fun acc h => ih _ (Zk6 h)
  exact this qs [] List.nodup_nil
theorem Zmo (qs : List (List Nat)) : ((dedU qs).mergeSort leS).Pairwise fun a b => leS a b = true ∧ a ≠ b :=
  (List.pairwise_mergeSort Zh8 Zdl (dedU qs)).and ((List.mergeSort_perm (dedU qs) leS).nodup_iff.mpr (Zk7 qs))
theorem Z4x {qs : List (List Nat)} {x : List Nat} : x ∈ (dedU qs).mergeSort leS ↔ x ∈ qs := by
  rw [List.mem_mergeSort,Zgi]
theorem Zmp {A B : List (List Nat)} : (dedU A).mergeSort leS = (dedU B).mergeSort leS ↔ ∀ x,x ∈ A ↔ x ∈ B := by
  constructor
  · intro e x
    rw [← Z4x,e,Z4x]
  · intro h
    exact up_eq (fun a h => h.2 rfl) (fun a b h h2 => h.2 (List.le_antisymm (of_decide_eq_true h.1) (of_decide_eq_true h2.1))) (Zmo A) (Zmo B) fun x => by rw [Z4x,Z4x]; exact h x
theorem Zb9 (c : Nat) : ∀ (x : List Nat) (ls : List (List Nat)),TL.joinL [c] (x :: ls) = x ++ ls.flatMap (fun l => c :: l)
  | x,[] => by simp [TL.joinL]
  | x,l :: ls => by
    show x ++ ([c] ++ TL.joinL [c] (l :: ls)) = _
    rw [Zb9 c l ls,List.flatMap_cons]
    rfl
theorem Zba {c e : Nat} (hce : c ≠ e) (P : List Nat → Prop) (hP : ∀ a b r r', P a → P b → a ++ r = b ++ r' → a = b) : ∀ (ls ms : List (List Nat)), (∀ a ∈ ls, P a) → (∀ a ∈ ms, P a) → ∀ r r', ls.flatMap (fun l => c :: l) ++ e :: r = ms.flatMap (fun l => c :: l) ++ e :: r' → ls = ms ∧ r = r'
  | [], [], _, _, r, r', h => by
    rw [List.flatMap_nil,List.nil_append,List.nil_append] at h
    injection h with _ h
    exact ⟨rfl,h⟩
  | [], b :: ms, _, _, r, r', h => by
    rw [List.flatMap_nil,List.nil_append,List.flatMap_cons,List.cons_append,List.cons_append] at h
    injection h with h _
    exact absurd h.symm hce
  | a :: ls, [], _, _, r, r', h => by
    rw [List.flatMap_nil,List.nil_append,List.flatMap_cons,List.cons_append,List.cons_append] at h
    injection h with h _
    exact absurd h hce
  | a :: ls, b :: ms, h1, h2, r, r', h => by
    rw [List.flatMap_cons,List.flatMap_cons,List.cons_append,List.cons_append,List.cons_append,List.cons_append,List.append_assoc,List.append_assoc] at h
    injection h with _ h
    have e1 := hP a b _ _ (h1 a List.mem_cons_self) (h2 b List.mem_cons_self) h
    subst e1
    obtain ⟨e2, e3⟩ := Zba hce P hP ls ms (fun x hx => h1 x (List.mem_cons_of_mem _ hx)) (fun x hx => h2 x (List.mem_cons_of_mem _ hx)) r r' (List.append_cancel_left h)
    exact ⟨by rw [e2],e3⟩
theorem Z86 {c e : Nat} (hce : c ≠ e) (P : List Nat → Prop) (hP : ∀ a b r r', P a → P b → a ++ r = b ++ r' → a = b) {ls ms : List (List Nat)} (hl : ls ≠ []) (hm : ms ≠ []) (h1 : ∀ a ∈ ls, P a) (h2 : ∀ a ∈ ms, P a) {r r' : List Nat} (h : TL.joinL [c] ls ++ e :: r = TL.joinL [c] ms ++ e :: r') : ls = ms ∧ r = r' := by
  cases ls with
  | nil => exact absurd rfl hl
  | cons a ls =>
    cases ms with
    | nil => exact absurd rfl hm
    | cons b ms =>
      rw [Zb9,Zb9,List.append_assoc,List.append_assoc] at h
      have e1 := hP a b _ _ (h1 a List.mem_cons_self) (h2 b List.mem_cons_self) h
      subst e1
      obtain ⟨e2, e3⟩ := Zba hce P hP ls ms (fun x hx => h1 x (List.mem_cons_of_mem _ hx)) (fun x hx => h2 x (List.mem_cons_of_mem _ hx)) r r' (List.append_cancel_left h)
      exact ⟨by rw [e2],e3⟩
section
variable {gs : List Nd} {most : Nat}
def PFx (gs : List Nd) (W : Int → List Nat) (t : Nat → Nat → Bool) : Prop := ∀ x y, InG gs x → InG gs y → (∀ r r', W x ++ r = W y ++ r' → t x.toNat y.toNat = true ∧ r = r') ∧ (t x.toNat y.toNat = true → W x = W y)
theorem Zmq {W : Int → List Nat} {t : Nat → Nat → Bool} (h : PFx gs W t) {x y : Int} (hx : InG gs x) (hy : InG gs y) {r r' : List Nat} (e : W x ++ r = W y ++ r') : W x = W y ∧ r = r' := by
  obtain ⟨a,b⟩ := h x y hx hy
  obtain ⟨c, d⟩ := a r r' e
  exact ⟨b c,d⟩
theorem Zmr (hN : ∀ g ∈ gs, N42 most g) {x y : Int} (hx : InG gs x) (hy : InG gs y) {r r' : List Nat} (h : w0 (ndA gs x) ++ r = w0 (ndA gs y) ++ r') : st (ndA gs x) = st (ndA gs y) ∧ r = r' := by
  have nx := hN _ (W8 hx).1
  have ny := hN _ (W8 hy).1
  generalize ndA gs x = g at *
  generalize ndA gs y = k at *
  cases g with
  | sc a b =>
    obtain ⟨rfl,hb⟩ := nx
    cases k with
    | sc a' b' =>
      obtain ⟨rfl, hb'⟩ := ny
      rcases hb with rfl | rfl <;> rcases hb' with rfl | rfl <;> simp [w0, st] at h ⊢ <;> exact h
    | sq a' ns => rcases hb with rfl | rfl <;> simp [w0] at h
    | mp a' ps => rcases hb with rfl | rfl <;> simp [w0] at h
  | sq a ns =>
    obtain ⟨rfl,h1,h2⟩ := nx
    cases k with
    | sc a' b' => obtain ⟨rfl, hb'⟩ := ny; rcases hb' with rfl | rfl <;> simp [w0] at h
    | sq a' ms =>
      obtain ⟨rfl,h3,h4⟩ := ny
      simp [w0,st] at h ⊢
      exact h
    | mp a' ps => simp [w0] at h
  | mp a ps =>
    obtain ⟨rfl,h1,h2⟩ := nx
    cases k with
    | sc a' b' => obtain ⟨rfl, hb'⟩ := ny; rcases hb' with rfl | rfl <;> simp [w0] at h
    | sq a' ms => simp [w0] at h
    | mp a' qs =>
      obtain ⟨rfl,h3,h4⟩ := ny
      simp [w0,st] at h ⊢
      exact h
theorem Zms {g k : Nd} (h : st g = st k) : w0 g = w0 k := by
  cases g with
  | sc a b =>
    cases k with
    | sc a' b' => simp [st] at h; simp [w0, h.2]
    | sq a' ns => simp [st, sSc, sSeq] at h
    | mp a' ps => simp [st, sSc, sMap] at h
  | sq a ns =>
    cases k with
    | sc a' b' => simp [st, sSc, sSeq] at h
    | sq a' ms => simp [st] at h; simp [w0, h.2]
    | mp a' ps => simp [st, sSeq, sMap] at h
  | mp a ps =>
    cases k with
    | sc a' b' => simp [st, sSc, sMap] at h
    | sq a' ms => simp [st, sSeq, sMap] at h
    | mp a' qs => rfl
theorem Zhr {W : Int → List Nat} {t : Nat → Nat → Bool} (h : PFx gs W t) {p q : Int × Int} (hp : InG gs p.1 ∧ InG gs p.2) (hq : InG gs q.1 ∧ InG gs q.2) {r r' : List Nat} (e : mkW W p ++ r = mkW W q ++ r') : mkW W p = mkW W q ∧ (t p.1.toNat q.1.toNat && t p.2.toNat q.2.toNat) = true ∧ r = r' := by
  unfold mkW at e ⊢
  rw [List.append_assoc,List.append_assoc] at e
  obtain ⟨a1,a2⟩ := h p.1 q.1 hp.1 hq.1
  obtain ⟨b1,b2⟩ := a1 _ _ e
  rw [List.cons_append,List.cons_append] at b2
  injection b2 with _ b2
  obtain ⟨c1,c2⟩ := h p.2 q.2 hp.2 hq.2
  obtain ⟨d1,d2⟩ := c1 _ _ b2
  exact ⟨by rw [a2 b1,c2 d1],by rw [b1,d1]; rfl,d2⟩
theorem Zet {W : Int → List Nat} {t : Nat → Nat → Bool} (h : PFx gs W t) {p q : Int × Int} (hp : InG gs p.1 ∧ InG gs p.2) (hq : InG gs q.1 ∧ InG gs q.2) : mkW W p = mkW W q ↔ (t p.1.toNat q.1.toNat && t p.2.toNat q.2.toNat) = true := by
  constructor
  · intro e
    exact (Zhr h hp hq (r := []) (r' := []) (by rw [e])).2.1
  · intro e
    rw [Bool.and_eq_true] at e
    unfold mkW
    rw [(h p.1 q.1 hp.1 hq.1).2 e.1,(h p.2 q.2 hp.2 hq.2).2 e.2]
theorem Zk8 (hN : ∀ g ∈ gs,N42 most g) (hc : ClG gs) {d : Nat} (h : PFx gs (wr gs d) (tb gs d)) (hst : ∀ x y,InG gs x → InG gs y → tb gs d x.toNat y.toNat = true → st (ndA gs x) = st (ndA gs y)) (hd : ∀ x y,InG gs x → InG gs y → st (ndA gs x) = st (ndA gs y) → go (tb gs d) (ndA gs x) (ndA gs y) = true → tb gs d x.toNat y.toNat = true) : PFx gs (wr gs (d + 1)) (tb gs (d + 1)) := by
  intro x y hx hy
  obtain ⟨a,rfl,ha⟩ := V4 hx
  obtain ⟨b,rfl,hb⟩ := V4 hy
  have cx := hc _ hx
  have cy := hc _ hy
  rw [(W8 hx).2.2] at cx
  rw [(W8 hy).2.2] at cy
  have nx := hN _ (W8 hx).1
  have ny := hN _ (W8 hy).1
  have hst := hst _ _ hx hy
  have hd := hd _ _ hx hy
  rw [Int.toNat_natCast,Int.toNat_natCast] at hst hd ⊢
  have et : tb gs (d + 1) a b = (tb gs d a b && go (tb gs d) (ndA gs (a : Int)) (ndA gs (b : Int))) := rfl
  have ew : ∀ x,wr gs (d + 1) x = wS (wr gs d) (ndA gs x) := fun x => rfl
  rw [et,ew,ew]
  have key : (∀ r r', wS (wr gs d) (ndA gs (a : Int)) ++ r = wS (wr gs d) (ndA gs (b : Int)) ++ r' → (st (ndA gs (a : Int)) = st (ndA gs (b : Int)) ∧ go (tb gs d) (ndA gs (a : Int)) (ndA gs (b : Int)) = true) ∧ r = r') ∧ (st (ndA gs (a : Int)) = st (ndA gs (b : Int)) → go (tb gs d) (ndA gs (a : Int)) (ndA gs (b : Int)) = true → wS (wr gs d) (ndA gs (a : Int)) = wS (wr gs d) (ndA gs (b : Int))) := by
    generalize ndA gs (a : Int) = g at *
    generalize ndA gs (b : Int) = k at *
    cases g with
    | sc a b =>
      obtain ⟨rfl,hb⟩ := nx
      cases k with
      | sc a' b' =>
        obtain ⟨rfl, hb'⟩ := ny
        refine ⟨fun r r' e => ?_, fun e _ => ?_⟩
        · rcases hb with rfl | rfl <;> rcases hb' with rfl | rfl <;> simp [wS, st, go] at e ⊢ <;> exact e
        · simp [st] at e
          rw [e]
      | sq a' ns => exact ⟨fun r r' e => by rcases hb with rfl | rfl <;> simp [wS] at e, fun e => by simp [st, sSc, sSeq] at e⟩
      | mp a' ps => exact ⟨fun r r' e => by rcases hb with rfl | rfl <;> simp [wS] at e, fun e => by simp [st, sSc, sMap] at e⟩
    | sq a ns =>
      obtain ⟨rfl,h1,h2⟩ := nx
      cases k with
      | sc a' b' =>
        obtain ⟨rfl, hb'⟩ := ny
        exact ⟨fun r r' e => by rcases hb' with rfl | rfl <;> simp [wS] at e, fun e => by simp [st, sSc, sSeq] at e⟩
      | sq a' ms =>
        obtain ⟨rfl,h3,h4⟩ := ny
        have all : ∀ (ns ms : List Int),(∀ x ∈ ns,InG gs x) → (∀ x ∈ ms,InG gs x) → ns.length = ms.length → (ns.map (wr gs d) = ms.map (wr gs d) ↔ ((ns.zip ms).all fun p => tb gs d p.1.toNat p.2.toNat) = true) := fun ns => by
          induction ns with
          | nil => intro ms _ _ hl; cases ms with | nil => simp | cons b ms => simp at hl
          | cons a ns ih =>
            intro ms h1 h2 hl
            cases ms with
            | nil => simp at hl
            | cons b ms =>
              have ih := ih ms (fun x hx => h1 x (List.mem_cons_of_mem _ hx)) (fun x hx => h2 x (List.mem_cons_of_mem _ hx)) (by simpa using hl)
              rw [List.zip_cons_cons,List.all_cons,Bool.and_eq_true,← ih,List.map_cons,List.map_cons]
              obtain ⟨q1,q2⟩ := h a b (h1 a List.mem_cons_self) (h2 b List.mem_cons_self)
              constructor
              · intro e
                injection e with e1 e2
                exact ⟨(q1 [] [] (by rw [e1])).1,e2⟩
              · rintro ⟨e1,e2⟩
                rw [q2 e1,e2]
        refine ⟨fun r r' e => ?_, fun e e2 => ?_⟩
        · simp only [wS,List.cons_append,List.append_assoc,List.nil_append] at e
          injection e with _ e
          injection e with el e
          have hl : ns.length = ms.length := by omega
          obtain ⟨e3, e4⟩ := Z86 (c := 44) (e := 93) (by decide) (fun a => ∃ x, InG gs x ∧ a = wr gs d x) (fun a b r r' ha hb e => by
            obtain ⟨x,hx,rfl⟩ := ha
            obtain ⟨y,hy,rfl⟩ := hb
            exact (Zmq h hx hy e).1) (ls := ns.map (wr gs d)) (ms := ms.map (wr gs d)) (by intro z; rw [List.map_eq_nil_iff] at z; rw [z] at h1; simp at h1) (by intro z; rw [List.map_eq_nil_iff] at z; rw [z] at h3; simp at h3) (fun a ha => by obtain ⟨x,hx,rfl⟩ := List.mem_map.mp ha; exact ⟨x,cx x hx,rfl⟩) (fun a ha => by obtain ⟨x,hx,rfl⟩ := List.mem_map.mp ha; exact ⟨x,cy x hx,rfl⟩) e
          exact ⟨⟨by simp [st,hl],(all ns ms cx cy hl).mp e3⟩,e4⟩
        · have hl : ns.length = ms.length := by simpa [st] using e
          have e3 := (all ns ms cx cy hl).mpr e2
          simp only [wS,e3,hl]
      | mp a' ps => exact ⟨fun r r' e => by simp [wS] at e, fun e => by simp [st, sSeq, sMap] at e⟩
    | mp a ps =>
      obtain ⟨rfl,h1,h2⟩ := nx
      cases k with
      | sc a' b' =>
        obtain ⟨rfl, hb'⟩ := ny
        exact ⟨fun r r' e => by rcases hb' with rfl | rfl <;> simp [wS] at e, fun e => by simp [st, sSc, sMap] at e⟩
      | sq a' ms => exact ⟨fun r r' e => by simp [wS] at e, fun e => by simp [st, sSeq, sMap] at e⟩
      | mp a' qs =>
        obtain ⟨rfl,h3,h4⟩ := ny
        have hp : ∀ p ∈ ps,InG gs p.1 ∧ InG gs p.2 := fun p hp => ⟨cx p.1 (List.mem_flatMap.mpr ⟨p,hp,by simp⟩),cx p.2 (List.mem_flatMap.mpr ⟨p,hp,by simp⟩)⟩
        have hq : ∀ p ∈ qs,InG gs p.1 ∧ InG gs p.2 := fun p hp => ⟨cy p.1 (List.mem_flatMap.mpr ⟨p,hp,by simp⟩),cy p.2 (List.mem_flatMap.mpr ⟨p,hp,by simp⟩)⟩
        have half : ∀ {ps qs : List (Int × Int)},(∀ p ∈ ps,InG gs p.1 ∧ InG gs p.2) → (∀ q ∈ qs,InG gs q.1 ∧ InG gs q.2) → ((∀ x,x ∈ ps.map (mkW (wr gs d)) → x ∈ qs.map (mkW (wr gs d))) ↔ (ps.all fun p => qs.any fun q => tb gs d p.1.toNat q.1.toNat && tb gs d p.2.toNat q.2.toNat) = true) := fun {ps qs} hp hq => by
          rw [List.all_eq_true]
          constructor
          · intro z p hpm
            obtain ⟨q,hqm,e⟩ := List.mem_map.mp (z _ (List.mem_map_of_mem hpm))
            rw [List.any_eq_true]
            exact ⟨q,hqm,(Zet h (hp p hpm) (hq q hqm)).mp e.symm⟩
          · intro z x hx
            obtain ⟨p,hpm,rfl⟩ := List.mem_map.mp hx
            have := z p hpm
            rw [List.any_eq_true] at this
            obtain ⟨q,hqm,e⟩ := this
            exact List.mem_map.mpr ⟨q,hqm,((Zet h (hp p hpm) (hq q hqm)).mpr e).symm⟩
        have hgo : (∀ x,x ∈ ps.map (mkW (wr gs d)) ↔ x ∈ qs.map (mkW (wr gs d))) ↔ go (tb gs d) (.mp [33,33,109,97,112] ps) (.mp [33,33,109,97,112] qs) = true := by
          unfold go
          rw [Bool.and_eq_true,← half hp hq,← half hq hp]
          exact ⟨fun h => ⟨fun x => (h x).mp,fun x => (h x).mpr⟩,fun h x => ⟨h.1 x,h.2 x⟩⟩
        rw [← Zmp] at hgo
        refine ⟨fun r r' e => ?_, fun e e2 => ?_⟩
        · simp only [wS,List.cons_append,List.append_assoc,List.nil_append] at e
          injection e with _ e
          have ne : ∀ {ps : List (Int × Int)},1 ≤ ps.length → (dedU (ps.map (mkW (wr gs d)))).mergeSort leS ≠ [] := fun {ps} hl z => by
            cases ps with
            | nil => simp at hl
            | cons p ps =>
              have : mkW (wr gs d) p ∈ (dedU ((p :: ps).map (mkW (wr gs d)))).mergeSort leS := Z4x.mpr (List.mem_map_of_mem List.mem_cons_self)
              rw [z] at this
              cases this
          have mem : ∀ {ps : List (Int × Int)},(∀ p ∈ ps,InG gs p.1 ∧ InG gs p.2) → ∀ a ∈ (dedU (ps.map (mkW (wr gs d)))).mergeSort leS,∃ p,(InG gs p.1 ∧ InG gs p.2) ∧ a = mkW (wr gs d) p := fun {ps} hp a ha => by
            obtain ⟨p,hpm,rfl⟩ := List.mem_map.mp (Z4x.mp ha)
            exact ⟨p,hp p hpm,rfl⟩
          obtain ⟨e3, e4⟩ := Z86 (c := 59) (e := 125) (by decide) (fun a => ∃ p : Int × Int, (InG gs p.1 ∧ InG gs p.2) ∧ a = mkW (wr gs d) p) (fun a b r r' ha hb e => by
            obtain ⟨p,hp,rfl⟩ := ha
            obtain ⟨q,hq,rfl⟩ := hb
            exact (Zhr h hp hq e).1) (ne h1) (ne h3) (mem hp) (mem hq) e
          exact ⟨⟨rfl,hgo.mp e3⟩,e4⟩
        · have e3 := hgo.mpr e2
          simp only [wS,e3]
  obtain ⟨k1,k2⟩ := key
  refine ⟨fun r r' e => ?_, fun e => ?_⟩
  · obtain ⟨⟨e1, e2⟩, e3⟩ := k1 r r' e
    exact ⟨by rw [hd e1 e2,e2]; rfl,e3⟩
  · rw [Bool.and_eq_true] at e
    exact k2 (hst e.1) e.2
theorem Zeu (hc : ClG gs) : ∀ (d : Nat) {x y : Int},InG gs x → InG gs y → st (ndA gs x) = st (ndA gs y) → go (tb gs d) (ndA gs x) (ndA gs y) = true → tb gs d x.toNat y.toNat = true
  | 0,x,y,hx,hy,e,_ => by
    obtain ⟨a,rfl,ha⟩ := V4 hx
    obtain ⟨b,rfl,hb⟩ := V4 hy
    exact decide_eq_true e
  | d + 1,x,y,hx,hy,e,h => by
    have go_mono : go (tb gs d) (ndA gs x) (ndA gs y) = true := by
      have down : ∀ {i j : Nat},tb gs (d + 1) i j = true → tb gs d i j = true := fun h => Zek d 1 h
      generalize ndA gs x = g at *
      generalize ndA gs y = k at *
      cases g <;> cases k <;> first | rfl | skip
      · unfold go at h ⊢
        rw [List.all_eq_true] at h ⊢
        exact fun p hp => down (h p hp)
      · unfold go at h ⊢
        rw [Bool.and_eq_true,List.all_eq_true,List.all_eq_true] at h ⊢
        refine ⟨fun p hp => ?_,fun p hp => ?_⟩
        · have := h.1 p hp
          rw [List.any_eq_true] at this ⊢
          obtain ⟨q,hq,e⟩ := this
          rw [Bool.and_eq_true] at e
          exact ⟨q,hq,by rw [down e.1,down e.2]; rfl⟩
        · have := h.2 p hp
          rw [List.any_eq_true] at this ⊢
          obtain ⟨q,hq,e⟩ := this
          rw [Bool.and_eq_true] at e
          exact ⟨q,hq,by rw [down e.1,down e.2]; rfl⟩
    have ih := Zeu hc d hx hy e go_mono
    obtain ⟨a,rfl,ha⟩ := V4 hx
    obtain ⟨b,rfl,hb⟩ := V4 hy
    rw [Int.toNat_natCast,Int.toNat_natCast] at *
    unfold tb
    rw [ih,go_mono]; rfl
theorem Zhs (hN : ∀ g ∈ gs,N42 most g) (hc : ClG gs) : ∀ d,PFx gs (wr gs d) (tb gs d)
  | 0 => fun x y hx hy => by
    have e0 : ∀ x,wr gs 0 x = w0 (ndA gs x) := fun x => rfl
    obtain ⟨a,rfl,ha⟩ := V4 hx
    obtain ⟨b,rfl,hb⟩ := V4 hy
    rw [Int.toNat_natCast,Int.toNat_natCast,e0,e0]
    refine ⟨fun r r' e => ?_, fun e => Zms (of_decide_eq_true e)⟩
    obtain ⟨q1,q2⟩ := Zmr hN hx hy e
    exact ⟨decide_eq_true q1,q2⟩
  | d + 1 => Zk8 hN hc (Zhs hN hc d) (fun x y hx hy h => by
      obtain ⟨a,rfl,ha⟩ := V4 hx
      obtain ⟨b,rfl,hb⟩ := V4 hy
      rw [Int.toNat_natCast,Int.toNat_natCast] at h
      exact Zjn d h) (fun x y hx hy => Zeu hc d hx hy)
theorem wr_tb (hN : ∀ g ∈ gs,N42 most g) (hc : ClG gs) (d : Nat) {i j : Nat} (hi : i < gs.length) (hj : j < gs.length) : wr gs d (i : Int) = wr gs d (j : Int) ↔ tb gs d i j = true := by
  obtain ⟨a,b⟩ := Zhs hN hc d (i : Int) (j : Int) ⟨by omega,by omega⟩ ⟨by omega,by omega⟩
  rw [Int.toNat_natCast,Int.toNat_natCast] at a b
  exact ⟨fun e => (a [] [] (by rw [e])).1,b⟩
theorem Zev {gs' : List Nd} {h : Int → Int} (hc : ClG gs) (hn : ∀ x, InG gs x → ndA gs' (h x) = (ndA gs x).rn h) : ∀ (d : Nat) {x : Int}, InG gs x → wr gs' d (h x) = wr gs d x
  | 0,x,hx => by
    show w0 (ndA gs' (h x)) = w0 (ndA gs x)
    rw [hn x hx]
    exact Zms Zjr
  | d + 1,x,hx => by
    show wS (wr gs' d) (ndA gs' (h x)) = wS (wr gs d) (ndA gs x)
    rw [hn x hx]
    have cx := hc _ hx
    rw [(W8 hx).2.2] at cx
    generalize ndA gs x = g at *
    cases g with
    | sc a b => rfl
    | sq a ns =>
      show 91 :: (48 + (ns.map h).length) :: TL.joinL [44] ((ns.map h).map (wr gs' d)) ++ [93] = 91 :: (48 + ns.length) :: TL.joinL [44] (ns.map (wr gs d)) ++ [93]
      have em : ns.map (wr gs' d ∘ h) = ns.map (wr gs d) := List.map_congr_left fun x hx => Zev hc hn d (cx x hx)
      rw [List.length_map,List.map_map,em]
    | mp a ps =>
      show 123 :: TL.joinL [59] ((dedU ((ps.map fun p => (h p.1, h p.2)).map (mkW (wr gs' d)))).mergeSort leS) ++ [125] = 123 :: TL.joinL [59] ((dedU (ps.map (mkW (wr gs d)))).mergeSort leS) ++ [125]
      rw [List.map_map, List.map_congr_left fun p hp => show (mkW (wr gs' d) ∘ fun p => (h p.1, h p.2)) p = mkW (wr gs d) p from by
        show wr gs' d (h p.1) ++ 61 :: wr gs' d (h p.2) = _
        rw [Zev hc hn d (cx p.1 (List.mem_flatMap.mpr ⟨p,hp,by simp⟩)),Zev hc hn d (cx p.2 (List.mem_flatMap.mpr ⟨p,hp,by simp⟩))]; rfl]
end
end Ap
set_option maxHeartbeats 8000000
namespace Ap
open PySem PySem.Spec PyProof.Rows L2 SX Fx
def Gm (most : Nat) : Nat → Nat
  | 0 => 1
  | d + 1 => 1 + most * Gm most d
theorem arith5 (p g : Nat) : p * (2 * (16 * g) + 1) = 16 * ((2 * p) * g) + p := by
  have e1 : 2 * (16 * g) = 32 * g := by omega
  have e2 : (2 * p) * g = 2 * (p * g) := Nat.mul_assoc 2 p g
  rw [Nat.mul_add,Nat.mul_one,e1,e2,Nat.mul_left_comm p 32 g]
  omega
theorem Gm_up {most : Nat} (h : 1 ≤ most) (d : Nat) : Gm most d ≤ Gm most (d + 1) := by
  show _ ≤ 1 + most * Gm most d
  have := Nat.mul_le_mul_right (Gm most d) h
  omega
theorem Z4y {B : Nat} : ∀ (ys : List (List Nat)),(∀ y ∈ ys,y.length ≤ B) → sumL ys ≤ ys.length * B
  | [],_ => by simp [sumL]
  | y :: ys,h => by
    have ih := Z4y ys fun z hz => h z (List.mem_cons_of_mem _ hz)
    have h1 := h y List.mem_cons_self
    have e : sumL (y :: ys) = y.length + sumL ys := by simp [sumL]
    rw [e,List.length_cons,Nat.succ_mul]
    omega
theorem Zbb (c : Nat) : ∀ (ls : List (List Nat)),(ls.flatMap fun l => c :: l).length = sumL ls + ls.length
  | [] => by simp [sumL]
  | l :: ls => by
    have e : sumL (l :: ls) = l.length + sumL ls := by simp [sumL]
    rw [List.flatMap_cons,List.length_append,Zbb c ls,e,List.length_cons,List.length_cons]
    omega
theorem Z3b (c : Nat) (ys : List (List Nat)) : (TL.joinL [c] ys).length ≤ sumL ys + ys.length := by
  cases ys with
  | nil => simp [TL.joinL]
  | cons y ys =>
    have e : sumL (y :: ys) = y.length + sumL ys := by simp [sumL]
    rw [Zb9,List.length_append,Zbb,e,List.length_cons]
    omega
section
variable {gs : List Nd} {most : Nat}
theorem Z9m (l : List (List Nat)) : (dedU l).length ≤ l.length := by
  have : ∀ (l acc : List (List Nat)),(l.foldl addU acc).length ≤ acc.length + l.length := fun l => by
    induction l with
    | nil => exact fun acc => Nat.le_refl _
    | cons x l ih =>
      intro acc
      rw [List.foldl_cons,List.length_cons]
      have h1 := ih (addU acc x)
      have h2 : (addU acc x).length ≤ acc.length + 1 := by
        unfold addU
        split
        · omega
        · rw [List.length_append,List.length_singleton]; exact Nat.le_refl _
      omega
  have := this l []
  simpa [dedU] using this
theorem Zew (l : List (List Nat)) : ((dedU l).mergeSort leS).length ≤ l.length := by
  rw [List.length_mergeSort]
  exact Z9m l
theorem Zbc {W : Int → List Nat} {ps : List (Int × Int)} {B : Nat} (h : ∀ p ∈ ps,(W p.1).length ≤ B ∧ (W p.2).length ≤ B) : ∀ a ∈ (dedU (ps.map (mkW W))).mergeSort leS,a.length ≤ 2 * B + 1 := fun a ha => by
  obtain ⟨p,hp,rfl⟩ := List.mem_map.mp (Z4x.mp ha)
  have := h p hp
  unfold mkW
  rw [List.length_append,List.length_cons]
  omega
theorem Z87 (hN : ∀ g ∈ gs,N42 most g) (hm : most ≤ 4) (hc : ClG gs) : ∀ (d : Nat) {x : Int},InG gs x → (wr gs d x).length ≤ 16 * Gm most d
  | 0,x,hx => by
    show (w0 (ndA gs x)).length ≤ 16
    have nx := hN _ (W8 hx).1
    generalize ndA gs x = g at *
    cases g with
    | sc a b =>
      obtain ⟨_,hb⟩ := nx
      rcases hb with rfl | rfl <;> simp [w0]
    | sq a ns => simp [w0]
    | mp a ps => simp [w0]
  | d + 1,x,hx => by
    show (wS (wr gs d) (ndA gs x)).length ≤ 16 * (1 + most * Gm most d)
    have nx := hN _ (W8 hx).1
    have cx := hc _ hx
    rw [(W8 hx).2.2] at cx
    generalize ndA gs x = g at *
    cases g with
    | sc a b =>
      obtain ⟨_,hb⟩ := nx
      rcases hb with rfl | rfl <;> simp [wS] <;> omega
    | sq a ns =>
      obtain ⟨_,h1,h2⟩ := nx
      have hs := Z4y (B := 16 * Gm most d) (ns.map (wr gs d)) (fun y hy => by
        obtain ⟨z,hz,rfl⟩ := List.mem_map.mp hy
        exact Z87 hN hm hc d (cx z hz))
      have hj := Z3b 44 (ns.map (wr gs d))
      rw [List.length_map] at hs hj
      simp only [wS,List.length_cons,List.length_append,List.length_nil]
      have h3 : ns.length * (16 * Gm most d) ≤ most * (16 * Gm most d) := Nat.mul_le_mul_right _ h2
      have h4 : most * (16 * Gm most d) = 16 * (most * Gm most d) := by rw [Nat.mul_left_comm]
      omega
    | mp a ps =>
      obtain ⟨_,h1,h2⟩ := nx
      have hs := Z4y (B := 2 * (16 * Gm most d) + 1) ((dedU (ps.map (mkW (wr gs d)))).mergeSort leS) (Zbc fun p hp => ⟨Z87 hN hm hc d (cx p.1 (List.mem_flatMap.mpr ⟨p,hp,by simp⟩)),Z87 hN hm hc d (cx p.2 (List.mem_flatMap.mpr ⟨p,hp,by simp⟩))⟩)
      have hj := Z3b 59 ((dedU (ps.map (mkW (wr gs d)))).mergeSort leS)
      have hl := Zew (ps.map (mkW (wr gs d)))
      rw [List.length_map] at hl
      simp only [wS,List.length_cons,List.length_append,List.length_nil]
      have h3 : ((dedU (ps.map (mkW (wr gs d)))).mergeSort leS).length * (2 * (16 * Gm most d) + 1) ≤ ps.length * (2 * (16 * Gm most d) + 1) := Nat.mul_le_mul_right _ hl
      have h5 := arith5 ps.length (Gm most d)
      have h6 : (2 * ps.length) * Gm most d ≤ most * Gm most d := Nat.mul_le_mul_right _ h2
      omega
theorem Zk9 (hN : ∀ g ∈ gs,N42 most g) (hc : ClG gs) : ∀ (d : Nat) {x : Int},InG gs x → uzA gs d x ≤ ((Gm most d : Nat) : Int)
  | 0,_,_ => by
    show (1 : Int) ≤ ((1 : Nat) : Int)
    decide
  | d + 1,x,hx => by
    have nx := hN _ (W8 hx).1
    have hin := (W8 hx).2.2
    have cx := hc _ hx
    have hl : (innA gs x).length ≤ most := by
      rw [hin]
      generalize ndA gs x = g at *
      cases g with
      | sc a b => exact Nat.zero_le _
      | sq a ns => exact nx.2.2
      | mp a ps =>
        have e : ∀ l : List (Int × Int),(l.flatMap fun p => [p.1,p.2]).length = 2 * l.length := fun l => by
          induction l with
          | nil => rfl
          | cons p l ih => rw [List.flatMap_cons,List.length_append,ih,List.length_cons]; simp; omega
        show (ps.flatMap _).length ≤ most
        rw [e]
        exact nx.2.2
    have hs : ∀ l : List Int,(∀ y ∈ l,InG gs y) → (l.map (uzA gs d)).sum ≤ ((l.length * Gm most d : Nat) : Int) := fun l => by
      induction l with
      | nil => intro _; simp
      | cons y l ih =>
        intro h
        have h1 := ih fun z hz => h z (List.mem_cons_of_mem _ hz)
        have h2 := Zk9 hN hc d (h y List.mem_cons_self)
        rw [List.map_cons,List.sum_cons,List.length_cons,Nat.succ_mul]
        omega
    have h3 := hs (innA gs x) cx
    have h4 := Nat.mul_le_mul_right (Gm most d) hl
    show 1 + ((innA gs x).map (uzA gs d)).sum ≤ ((1 + most * Gm most d : Nat) : Int)
    omega
end
theorem inT_S (x : List Nat) (f : List (List Nat)) : inT (.str x) (f.map Fx.T.str) = decide (x ∈ f) := by
  unfold inT
  induction f with
  | nil => rfl
  | cons y f ih =>
    rw [List.map_cons,List.any_cons,ih]
    by_cases h : x = y
    · subst h; simp [Fx.eqT]
    · simp [Fx.eqT,h]
theorem Zmt (f : List (List Nat)) : (f.map Fx.T.str).all flatT = true := by
  induction f with
  | nil => rfl
  | cons y f ih => rw [List.map_cons,List.all_cons,ih]; rfl
theorem Zka {Z : Sto} {l : Nat} {f : List (List Nat)} (h : getL Z l = some (f.map Fx.T.str)) (x : List Nat) : gNotInW (.str x) (.loc l) Z = some (.bl (!decide (x ∈ f)),Z) := by
  have hd : getDK Z l = none := by
    cases e : getDK Z l with
    | none => rfl
    | some k => rw [Zjh e] at h; cases h
  unfold gNotInW
  simp only [hd]
  have e : gInB (.str x) (.loc l) Z = some (decide (x ∈ f)) := by
    have hs : asSeq (.loc l) Z = some (f.map Fx.T.str) := by simp [asSeq,X8,h]
    have g0 : gInB (.str x) (.loc l) Z = (match asSeq (.loc l) Z with | some ts => if flatT (.str x) = true ∧ ts.all flatT = true then some (inT (.str x) ts) else none | none => none) := by
      cases x with
      | nil => rfl
      | cons c r => cases r <;> rfl
    rw [g0,hs]
    show (if _ then _ else _) = _
    rw [if_pos ⟨rfl,Zmt f⟩,inT_S]
  show (gInB (.str x) (.loc l) Z).map _ = _
  rw [e]; rfl
theorem rp_a : gReprW [.str [97]] = fun Z => some (.str [39,97,39],Z) := by
  funext Z
  have h : (reprText (S [97])).cps.toList = [39,97,39] := by decide +kernel
  have h2 : (reprText (S [97])).length ≤ sizeLine := by decide +kernel
  show (if _ then some (Fx.T.str (reprText (S [97])).cps.toList,Z) else none) = _
  rw [if_pos h2,h]
theorem rp_b : gReprW [.str [98]] = fun Z => some (.str [39,98,39],Z) := by
  funext Z
  have h : (reprText (S [98])).cps.toList = [39,98,39] := by decide +kernel
  have h2 : (reprText (S [98])).length ≤ sizeLine := by decide +kernel
  show (if _ then some (Fx.T.str (reprText (S [98])).cps.toList,Z) else none) = _
  rw [if_pos h2,h]
theorem rp_n (Z : Sto) : gReprW [.non] Z = some (.str [78,111,110,101],Z) := by
  have h : ("None" : PySem.Str).cps.toList = [78,111,110,101] := by decide +kernel
  show some (Fx.T.str ("None" : PySem.Str).cps.toList, Z) = _
  rw [h]
theorem Zmu : ∀ n : Nat,n ≤ 4 → dec (n : Int) = [48 + n] := by decide +kernel
theorem rp_i {n : Nat} (h : n ≤ 4) (Z : Sto) : gReprW [.int (n : Int)] Z = some (.str [48 + n],Z) := by
  have h2 : ∀ n : Nat,n ≤ 4 → (n : Int).natAbs.log2 < 1920 := by decide +kernel
  show (if _ then some (Fx.T.str (dec (n : Int)),Z) else none) = _
  rw [if_pos (h2 n h),Zmu n h]
theorem Zl8 {n : Nat} (h : n ≤ 4) (Z : Sto) : gStr [.int (n : Int)] Z = some (.str [48 + n],Z) := by
  show (if _ then some (Fx.T.str (dec (n : Int)),Z) else none) = _
  have h2 : (n : Int).natAbs < 10 ^ 4300 := by
    have : (n : Int).natAbs = n := by omega
    rw [this]
    exact Nat.lt_of_le_of_lt (Nat.le_trans h (by decide : 4 ≤ 9)) (Nat.lt_of_lt_of_le (by decide : 9 < 10 ^ 1) (Nat.pow_le_pow_right (by decide) (by decide)))
  rw [if_pos h2,Zmu n h]
theorem cutSc : cutL [115,99,97,108,97,114] none (some 2) = [115,99] := rfl
theorem cutSq : cutL [115,101,113,117,101,110,99,101] none (some 2) = [115,101] := rfl
theorem cutMp : cutL [109,97,112,112,105,110,103] none (some 2) = [109,97] := rfl
theorem Zgj (l : List (List Nat)) (x : List Nat) : dedU (l ++ [x]) = addU (dedU l) x := by
  unfold dedU
  rw [List.foldl_append]; rfl
section
variable {gs : List Nd} {most : Nat}
theorem Z03 (hgs : GsOk gs) (hN : ∀ g ∈ gs, N42 most g) (hm : 1 ≤ most ∧ most ≤ 4) : ∀ (d m : Nat) (x : Int) (Z : Sto), InG gs x → d < m → Gm most d ≤ 1500 → ∃ Z', (Z2y m)._law_written [trA gs d x] Z = .ok (.str (wr gs d x)) Z' ∧ Ext Z Z'
  | _,0,_,_,_,h,_ => by omega
  | d,m + 1,x,Z,hx,h,hG => by
    have nx := hN _ (W8 hx).1
    have cx := Jl hgs x hx
    rw [(W8 hx).2.2] at cx
    show ∃ Z', runF 9 (Zy (Z2y m)) _ Z = _ ∧ _
    cases d with
    | zero =>
      have e1 : trA gs 0 x = tr0 (ndA gs x) := rfl
      have e2 : wr gs 0 x = w0 (ndA gs x) := rfl
      rw [e1,e2]
      generalize ndA gs x = g at *
      cases g with
      | sc a b =>
        obtain ⟨rfl,hb⟩ := nx
        refine ⟨Z,?_,Ext.refl Z⟩
        rcases hb with rfl | rfl
        · simp [runF,Zy,tr0,nT,sSc,rp_a,w0,Lim,cutSc]
        · simp [runF,Zy,tr0,nT,sSc,rp_b,w0,Lim,cutSc]
      | sq a ns =>
        obtain ⟨rfl,h1,h2⟩ := nx
        refine ⟨Z,?_,Ext.refl Z⟩
        have := rp_i (n := ns.length) (by omega) Z
        simp [runF,Zy,tr0,nT,sSeq,this,w0,Lim,cutSq]
      | mp a ps =>
        obtain ⟨rfl,h1,h2⟩ := nx
        refine ⟨Z,?_,Ext.refl Z⟩
        simp [runF,Zy,tr0,nT,sMap,rp_n,w0,Lim,cutMp]
    | succ d =>
      have hG1 : Gm most d ≤ 1500 := Nat.le_trans (Gm_up hm.1 d) hG
      have e1 : trA gs (d + 1) x = trS (trA gs d) (ndA gs x) := rfl
      have e2 : wr gs (d + 1) x = wS (wr gs d) (ndA gs x) := rfl
      rw [e1,e2]
      generalize ndA gs x = g at *
      cases g with
      | sc a b =>
        obtain ⟨rfl,hb⟩ := nx
        refine ⟨Z,?_,Ext.refl Z⟩
        rcases hb with rfl | rfl
        · simp [runF,Zy,trS,nT,sSc,rp_a,wS,Lim,cutSc]
        · simp [runF,Zy,trS,nT,sSc,rp_b,wS,Lim,cutSc]
      | sq a ns =>
        obtain ⟨rfl,h1,h2⟩ := nx
        have hb : ∀ y ∈ ns.map (wr gs d),y.length ≤ 24000 := fun y hy => by
          obtain ⟨z,hz,rfl⟩ := List.mem_map.mp hy
          have := Z87 hN hm.2 (Jl hgs) d (cx z hz)
          omega
        have hs := Z4y _ hb
        rw [List.length_map] at hs
        obtain ⟨NS,hNS⟩ : ∃ NS,NS = ns.map (trA gs d) := ⟨_,rfl⟩
        obtain ⟨Z1,q1,x1,g1⟩ := Xk (it := itSeq NS) (put := fun t => putN [8] t (wipeR [some (.tup [.str sSeq,.str [33,33,115,101,113],.tup NS]),some (.str sSeq),some (.str [33,33,115,101,113]),some (.tup NS),none,none,none,none,none] [8])) (c := eYes) (e := Xh (Z2y m)) (l := ns) (u := trA gs d) (p := fun _ => true) (fv := fun y => .str (wr gs d y)) (Z1 := Z)
          (by unfold Lim; omega) (fun k Z' _ _ => by rw [hNS]; simp [itSeq]) (fun y hy Z' _ => by
            obtain ⟨Z2, e2, x2⟩ := Z03 hgs hN hm d m y Z' (cx y hy) (by omega) hG1
            refine ⟨[some (.tup [.str sSeq, .str [33,33,115,101,113], .tup NS]), some (.str sSeq), some (.str [33,33,115,101,113]), some (.tup NS), none, none, none, none, some (trA gs d y)], Z', by simp [wipeR, putN], rfl, Ext.refl _, fun _ => ⟨Z2, ?_, x2⟩⟩
            generalize trA gs d y = t at *
            simp [Xh,e2])
        rw [Vr] at g1
        have g1' : getL Z1 Z.length = some ((ns.map (wr gs d)).map Fx.T.str) := by rw [g1, List.map_map]; rfl
        have jn' := Zh7 (a := [44]) (n := Z.length) (ys := ns.map (wr gs d)) (Z := Z1) g1' (by rw [List.length_map]; simp; unfold Lim; omega)
        have jl := Z3b 44 (ns.map (wr gs d))
        rw [List.length_map] at jl
        have hNl : NS.length = ns.length := by rw [hNS,List.length_map]
        have st1 := Zl8 (n := ns.length) (by omega) Z
        refine ⟨Z1,?_,x1⟩
        rw [show trS (trA gs d) (.sq [33,33,115,101,113] ns) = .tup [.str sSeq,.str [33,33,115,101,113],.tup NS] by rw [hNS]; rfl]
        rw [show wS (wr gs d) (.sq [33,33,115,101,113] ns) = ([91] ++ [48 + ns.length] ++ TL.joinL [44] (ns.map (wr gs d))) ++ [93] by simp [wS]]
        rw [← hNl] at st1 ⊢
        generalize TL.joinL [44] (ns.map (wr gs d)) = J at *
        have b1 : gAdd (.str [91]) (.str [48 + NS.length]) Z = some (.str ([91] ++ [48 + NS.length]),Z) := by rw [Zdc,if_pos (by simp [Lim])]
        have b2 : gAdd (.str ([91] ++ [48 + NS.length])) (.str J) Z1 = some (.str (([91] ++ [48 + NS.length]) ++ J),Z1) := if_pos (by simp; unfold Lim; omega)
        have b3 : gAdd (.str (([91] ++ [48 + NS.length]) ++ J)) (.str [93]) Z1 = some (.str ((([91] ++ [48 + NS.length]) ++ J) ++ [93]),Z1) := if_pos (by simp; unfold Lim; omega)
        have tests : ∀ (X Y W : FS), bCons (sIf (Fx.tOr (eBl (eBin gEq (eVar 1) (eC (.str [115,99,97,108,97,114])))) (Fx.tNot (eTru (eCallB gIsi (aCons (eVar 3) (aCons (eC (.ty "tuple")) aNil)))))) X sPass)
            (bCons (sIf (eBl (eBin gEq (eVar 1) (eC (.str [115,101,113,117,101,110,99,101])))) Y sPass) W) [some (.tup [.str sSeq,.str [33,33,115,101,113],.tup NS]),some (.str sSeq),some (.str [33,33,115,101,113]),some (.tup NS),none,none,none,none,none] Z = seqS (Y [some (.tup [.str sSeq,.str [33,33,115,101,113],.tup NS]),some (.str sSeq),some (.str [33,33,115,101,113]),some (.tup NS),none,none,none,none,none] Z) W := fun X Y W => by
          simp [sSeq]
        have tA : sAsg (eVar 0) (gTp 3 (gsCons (gNm 1) (gsCons (gNm 2) (gsCons (gNm 3) gsNil)))) [some (.tup [.str sSeq,.str [33,33,115,101,113],.tup NS]),none,none,none,none,none,none,none,none] Z = .nx [some (.tup [.str sSeq,.str [33,33,115,101,113],.tup NS]),some (.str sSeq),some (.str [33,33,115,101,113]),some (.tup NS),none,none,none,none,none] Z := by
          simp
        have hlc : eLc [8] [8] (iAny (eVar 3)) eYes (Xh (Z2y m)) [some (.tup [.str sSeq,.str [33,33,115,101,113],.tup NS]),some (.str sSeq),some (.str [33,33,115,101,113]),some (.tup NS),none,none,none,none,none] Z = .ok (.loc Z.length) Z1 := q1
        have hB : Zy (Z2y m) [some (.tup [.str sSeq,.str [33,33,115,101,113],.tup NS]),none,none,none,none,none,none,none,none] Z = .rt (.str ((([91] ++ [48 + NS.length]) ++ J) ++ [93])) Z1 := by
          unfold Zy
          refine Ye tA ?_
          rw [tests]
          generalize hX1 : ([91] ++ [48 + NS.length]) = X1 at *
          generalize hX2 : (X1 ++ J) = X2 at *
          generalize hX3 : (X2 ++ [93]) = X3 at *
          have st2 : eCallB gStr (aCons (eCallB gLen (aCons (eVar 3) aNil)) aNil) [some (.tup [.str sSeq,.str [33,33,115,101,113],.tup NS]),some (.str sSeq),some (.str [33,33,115,101,113]),some (.tup NS),none,none,none,none,none] Z = .ok (.str [48 + NS.length]) Z := by
            show ((((R.ok (Fx.T.tup NS) Z).bind _ : Fx.R (List Fx.T)).bind _ : Fx.R Fx.T).bind _ : Fx.R (List Fx.T)).bind _ = _
            rw [Zv]
            simp only [Zii,Zv,len_t,Zcl,st1]
          generalize eCallB gStr (aCons (eCallB gLen (aCons (eVar 3) aNil)) aNil) = EC at *
          generalize eLc [8] [8] (iAny (eVar 3)) eYes (Xh (Z2y m)) = EL at *
          simp [-Zdc, st2, b1, hlc, jn', b2, b3]
        exact Vz (n := 9) (as := [_]) hB
      | mp a ps =>
        obtain ⟨rfl,h1,h2⟩ := nx
        have hp : ∀ p ∈ ps,InG gs p.1 ∧ InG gs p.2 := fun p hp => ⟨cx p.1 (List.mem_flatMap.mpr ⟨p,hp,by simp⟩),cx p.2 (List.mem_flatMap.mpr ⟨p,hp,by simp⟩)⟩
        have hwl : ∀ {y : Int},InG gs y → (wr gs d y).length ≤ 24000 := fun hy => by
          have := Z87 hN hm.2 (Jl hgs) d hy
          omega
        obtain ⟨PS,hPS⟩ : ∃ PS,PS = ps.map fun p => Fx.T.tup [trA gs d p.1,trA gs d p.2] := ⟨_,rfl⟩
        have hPl : PS.length = ps.length := by rw [hPS,List.length_map]
        obtain ⟨N,hNd⟩ : ∃ N,N = Fx.T.tup [.str sMap,.str [33,33,109,97,112],.tup PS] := ⟨_,rfl⟩
        obtain ⟨ρ1, Z1, q1, L, o5, o6, o7, rfl, x1, hL, g1⟩ := Zee (ts := PS) (body := fun t ρ' Z' => bS ρ' ((gTp 2 (gsCons (gNm 5) (gsCons (gNm 6) gsNil))) t ρ' Z') (Jg (Z2y m))) (ρ := [some N, some (.str sMap), some (.str [33,33,109,97,112]), some (.tup PS), some (.loc Z.length), none, none, none, none]) (Z := Z ++ [.lst []])
          (fun k ρ Z' => ∃ L o5 o6 o7, ρ = [some N, some (.str sMap), some (.str [33,33,109,97,112]), some (.tup PS), some (.loc L), o5, o6, o7, none] ∧ Ext Z Z' ∧ Z.length ≤ L ∧ getL Z' L = some ((dedU ((ps.take k).map (mkW (wr gs d)))).map Fx.T.str))
          (by rw [hPl]; unfold Lim; omega) ⟨Z.length,none,none,none,rfl,(Ext.refl Z).app _,Nat.le_refl _,Zo _ _⟩
          (fun k hk ρ Z' h => by
            obtain ⟨L,o5,o6,o7,rfl,x,hL,g⟩ := h
            rw [hPl] at hk
            have ek : PS[k]'(by rw [hPl]; exact hk) = .tup [trA gs d ps[k].1, trA gs d ps[k].2] := by simp [hPS]
            have hpk := hp ps[k] (List.getElem_mem hk)
            obtain ⟨Z2, e2, x2⟩ := Z03 hgs hN hm d m ps[k].1 Z' hpk.1 (by omega) hG1
            obtain ⟨Z3,e3,x3⟩ := Z03 hgs hN hm d m ps[k].2 Z2 hpk.2 (by omega) hG1
            have l1 := hwl hpk.1
            have l2 := hwl hpk.2
            have g3 := x3.getL (x2.getL g)
            have x' := (x.trans x2).trans x3
            obtain ⟨XT,hXT⟩ : ∃ XT,XT = mkW (wr gs d) ps[k] := ⟨_,rfl⟩
            have hX2 : wr gs d ps[k].1 ++ [61] ++ wr gs d ps[k].2 = XT := by rw [hXT]; simp [mkW]
            have tk : ps.take (k + 1) = ps.take k ++ [ps[k]] := List.take_succ_eq_append_getElem hk
            have hD : dedU ((ps.take (k + 1)).map (mkW (wr gs d))) = addU (dedU ((ps.take k).map (mkW (wr gs d)))) XT := by
              rw [tk,List.map_append,List.map_singleton,Zgj,hXT]
            have hDl : (dedU ((ps.take k).map (mkW (wr gs d)))).length ≤ 4 := by
              have := Z9m ((ps.take k).map (mkW (wr gs d)))
              rw [List.length_map,List.length_take] at this
              omega
            rw [hD]
            rw [ek]
            clear ek hD tk
            generalize dedU ((ps.take k).map (mkW (wr gs d))) = D at *
            generalize trA gs d ps[k].1 = t1 at *
            generalize trA gs d ps[k].2 = t2 at *
            generalize wr gs d ps[k].1 = w1 at *
            generalize wr gs d ps[k].2 = w2 at *
            have t0 : ∀ (B : FS) (o5 o6 o7 : Option Fx.T), bS [some N, some (.str sMap), some (.str [33,33,109,97,112]), some (.tup PS), some (.loc L), o5, o6, o7, none] ((gTp 2 (gsCons (gNm 5) (gsCons (gNm 6) gsNil))) (.tup [t1, t2]) [some N, some (.str sMap), some (.str [33,33,109,97,112]), some (.tup PS), some (.loc L), o5, o6, o7, none] Z') B = B [some N, some (.str sMap), some (.str [33,33,109,97,112]), some (.tup PS), some (.loc L), some t1, some t2, o7, none] Z' := fun B o5 o6 o7 => by simp
            rw [t0]
            have t7 : sSet 7 (eBin gAdd (eBin gAdd (eCall (Z2y m)._law_written [] (aCons (eVar 5) aNil)) (eC (.str [61]))) (eCall (Z2y m)._law_written [] (aCons (eVar 6) aNil))) [some N, some (.str sMap), some (.str [33,33,109,97,112]), some (.tup PS), some (.loc L), some t1, some t2, o7, none] Z' = .nx [some N, some (.str sMap), some (.str [33,33,109,97,112]), some (.tup PS), some (.loc L), some t1, some t2, some (.str XT), none] Z3 := by
              have c1 : w1.length + 1 ≤ Lim := by unfold Lim; omega
              have c2 : w1.length + 1 + w2.length ≤ Lim := by unfold Lim; omega
              rw [← hX2]
              simp [e2,e3,c1,c2]
            have ni := Zka (Z := Z3 ++ [O.lst [Fx.T.str XT]]) (Yj g3) XT
            by_cases hin : XT ∈ D
            · have eD : addU D XT = D := if_pos hin
              rw [eD]
              rw [decide_eq_true hin] at ni
              have ml : gMul (.loc Z3.length) (.int 0) (Z3 ++ [O.lst [Fx.T.str XT]]) = some (.loc (Z3 ++ [O.lst [Fx.T.str XT]]).length,(Z3 ++ [O.lst [Fx.T.str XT]]) ++ [O.lst []]) := by
                rw [Zaa,Zo]; rfl
              have g5 : getL ((Z3 ++ [O.lst [Fx.T.str XT]]) ++ [O.lst []]) L = some (D.map Fx.T.str) := Yj (Yj g3)
              have ad := Z61 L (Z3 ++ [O.lst [Fx.T.str XT]]).length ((Z3 ++ [O.lst [Fx.T.str XT]]) ++ [O.lst []]) g5 (Zo _ _) (by rw [List.length_map]; simp; unfold Lim; omega)
              rw [List.append_nil] at ad
              refine ⟨_, _, Ye t7 (?_ : _ = RS.nx [some N, some (.str sMap), some (.str [33,33,109,97,112]), some (.tup PS), some (.loc ((Z3 ++ [O.lst [Fx.T.str XT]]) ++ [O.lst []]).length), some t1, some t2, some (.str XT), none] (((Z3 ++ [O.lst [Fx.T.str XT]]) ++ [O.lst []]) ++ [O.lst (D.map Fx.T.str)])), _, some t1, some t2, some (.str XT), rfl, ((x'.app _).app _).app _, by simp; have := x'.len; omega, Zo _ _⟩
              generalize hZ4 : Z3 ++ [O.lst [Fx.T.str XT]] = Z4 at *
              have ml' : gMul (.loc Z3.length) (.int (if (!true) = true then 1 else 0)) Z4 = some (.loc Z4.length, Z4 ++ [O.lst []]) := ml
              generalize hZ5 : Z4 ++ [O.lst []] = Z5 at *
              have it : gIntT [.bl false] Z4 = some (.int 0,Z4) := rfl
              have ni' : gNotInW (.str XT) (.loc L) Z4 = some (.bl false, Z4) := ni
              have ml2 : gMul (.loc Z3.length) (.int 0) Z4 = some (.loc Z4.length, Z5) := ml'
              simp [-Zaa, -Za9, hZ4, ni', it, ml2, ad]
            · have eD : addU D XT = D ++ [XT] := if_neg hin
              rw [eD]
              rw [decide_eq_false hin] at ni
              have ml : gMul (.loc Z3.length) (.int 1) (Z3 ++ [O.lst [Fx.T.str XT]]) = some (.loc (Z3 ++ [O.lst [Fx.T.str XT]]).length,(Z3 ++ [O.lst [Fx.T.str XT]]) ++ [O.lst [Fx.T.str XT]]) := by
                rw [Zaa,Zo]; rfl
              have g5 : getL ((Z3 ++ [O.lst [Fx.T.str XT]]) ++ [O.lst [Fx.T.str XT]]) L = some (D.map Fx.T.str) := Yj (Yj g3)
              have ad := Z61 L (Z3 ++ [O.lst [Fx.T.str XT]]).length ((Z3 ++ [O.lst [Fx.T.str XT]]) ++ [O.lst [Fx.T.str XT]]) g5 (Zo _ _) (by rw [List.length_map]; simp; unfold Lim; omega)
              rw [show D.map Fx.T.str ++ [Fx.T.str XT] = (D ++ [XT]).map Fx.T.str by rw [List.map_append]; rfl] at ad
              refine ⟨_, _, Ye t7 (?_ : _ = RS.nx [some N, some (.str sMap), some (.str [33,33,109,97,112]), some (.tup PS), some (.loc ((Z3 ++ [O.lst [Fx.T.str XT]]) ++ [O.lst [Fx.T.str XT]]).length), some t1, some t2, some (.str XT), none] (((Z3 ++ [O.lst [Fx.T.str XT]]) ++ [O.lst [Fx.T.str XT]]) ++ [O.lst ((D ++ [XT]).map Fx.T.str)])), _, some t1, some t2, some (.str XT), rfl, ((x'.app _).app _).app _, by simp; have := x'.len; omega, Zo _ _⟩
              generalize hZ4 : Z3 ++ [O.lst [Fx.T.str XT]] = Z4 at *
              have ml' : gMul (.loc Z3.length) (.int (if (!false) = true then 1 else 0)) Z4 = some (.loc Z4.length, Z4 ++ [O.lst [Fx.T.str XT]]) := ml
              generalize hZ5 : Z4 ++ [O.lst [Fx.T.str XT]] = Z5 at *
              have it : gIntT [.bl true] Z4 = some (.int 1,Z4) := rfl
              have ni' : gNotInW (.str XT) (.loc L) Z4 = some (.bl true, Z4) := ni
              have ml2 : gMul (.loc Z3.length) (.int 1) Z4 = some (.loc Z4.length, Z5) := ml'
              simp [-Zaa, -Za9, hZ4, ni', it, ml2, ad])
        rw [hPl,List.take_length] at g1
        have hsl := Zew (ps.map (mkW (wr gs d)))
        rw [List.length_map] at hsl
        have so := Ziv (Z := Z1) (i := L) (l := dedU (ps.map (mkW (wr gs d)))) g1 (by have := Z9m (ps.map (mkW (wr gs d))); rw [List.length_map] at this; omega)
        have hit := Zbc (W := wr gs d) (ps := ps) (B := 24000) (fun p hpm => ⟨hwl (hp p hpm).1,hwl (hp p hpm).2⟩)
        obtain ⟨SR,hSR⟩ : ∃ SR,SR = (dedU (ps.map (mkW (wr gs d)))).mergeSort leS := ⟨_,rfl⟩
        rw [← hSR] at so hsl hit
        have hsum := Z4y SR hit
        have hlim : sumL SR + SR.length * 1 ≤ 500000 := by
          have : SR.length * (2 * 24000 + 1) ≤ 4 * (2 * 24000 + 1) := Nat.mul_le_mul_right _ (by omega)
          omega
        have jn' := Zh7 (a := [59]) (n := Z1.length) (ys := SR) (Z := Z1 ++ [.lst (SR.map Fx.T.str)]) (Zo _ _) (by simp at hlim ⊢; unfold Lim; omega)
        have jl := Z3b 59 SR
        refine ⟨Z1 ++ [.lst (SR.map Fx.T.str)],?_,x1.app _⟩
        rw [show trS (trA gs d) (.mp [33,33,109,97,112] ps) = N by rw [hNd,hPS]; rfl]
        rw [show wS (wr gs d) (.mp [33,33,109,97,112] ps) = ([123] ++ TL.joinL [59] SR) ++ [125] by rw [hSR]; simp [wS]]
        generalize TL.joinL [59] SR = J at *
        have hJ1 : 1 + J.length ≤ Lim := by unfold Lim; omega
        have hJ2 : 1 + J.length + 1 ≤ Lim := by unfold Lim; omega
        have hi : iAny (eVar 3) [some N,some (.str sMap),some (.str [33,33,109,97,112]),some (.tup PS),some (.loc Z.length),none,none,none,none] (Z ++ [.lst []]) = .ok (itSeq PS) (Z ++ [.lst []]) := rfl
        have tA : sAsg (eVar 0) (gTp 3 (gsCons (gNm 1) (gsCons (gNm 2) (gsCons (gNm 3) gsNil)))) [some N,none,none,none,none,none,none,none,none] Z = .nx [some N,some (.str sMap),some (.str [33,33,109,97,112]),some (.tup PS),none,none,none,none,none] Z := by
          rw [hNd]; simp
        have tL : sSet 4 (eLst aNil) [some N,some (.str sMap),some (.str [33,33,109,97,112]),some (.tup PS),none,none,none,none,none] Z = .nx [some N,some (.str sMap),some (.str [33,33,109,97,112]),some (.tup PS),some (.loc Z.length),none,none,none,none] (Z ++ [.lst []]) := rfl
        have tests : ∀ (X Y W : FS), bCons (sIf (Fx.tOr (eBl (eBin gEq (eVar 1) (eC (.str [115,99,97,108,97,114])))) (Fx.tNot (eTru (eCallB gIsi (aCons (eVar 3) (aCons (eC (.ty "tuple")) aNil)))))) X sPass)
            (bCons (sIf (eBl (eBin gEq (eVar 1) (eC (.str [115,101,113,117,101,110,99,101])))) Y sPass) W) [some N,some (.str sMap),some (.str [33,33,109,97,112]),some (.tup PS),none,none,none,none,none] Z = W [some N,some (.str sMap),some (.str [33,33,109,97,112]),some (.tup PS),none,none,none,none,none] Z := fun X Y W => by
          simp [sMap]
        have hB : Zy (Z2y m) [some N,none,none,none,none,none,none,none,none] Z = .rt (.str (([123] ++ J) ++ [125])) (Z1 ++ [.lst (SR.map Fx.T.str)]) := by
          unfold Zy
          refine Ye tA ?_
          rw [tests]
          refine Ye tL (Ye (ρ' := [some N, some (.str sMap), some (.str [33,33,109,97,112]), some (.tup PS), some (.loc L), o5, o6, o7, none]) (Z' := Z1) ?_ ?_)
          · rw [Zdb,hi,Z0k]
            exact q1
          · have a1 : gAdd (.str [123]) (.str J) (Z1 ++ [.lst (SR.map Fx.T.str)]) = some (.str ([123] ++ J),Z1 ++ [.lst (SR.map Fx.T.str)]) := if_pos hJ1
            have a2 : gAdd (.str ([123] ++ J)) (.str [125]) (Z1 ++ [.lst (SR.map Fx.T.str)]) = some (.str (([123] ++ J) ++ [125]),Z1 ++ [.lst (SR.map Fx.T.str)]) := if_pos (by rw [List.length_append]; exact hJ2)
            generalize hZZ : Z1 ++ [O.lst (SR.map Fx.T.str)] = ZZ at *
            generalize hX : ([123] ++ J) = XX at *
            generalize hY : (XX ++ [125]) = YY at *
            simp [-Zdc, so, jn', a1, a2]
        exact Vz (n := 9) (as := [N]) hB
end
end Ap
set_option maxHeartbeats 8000000
namespace Ap
open PySem PySem.Spec PyProof.Rows L2 SX Fx
theorem Zgk {P : Nat → Bool} {s m : Nat} (h1 : s + 1 ≤ m) (h2 : ∀ n,s ≤ n → P n = P s) : (List.range m).find? P = (List.range (s + 1)).find? P := by
  cases e : (List.range (s + 1)).find? P with
  | none =>
    rw [List.find?_eq_none] at e ⊢
    intro n hn
    by_cases h : n < s + 1
    · exact e n (List.mem_range.mpr h)
    · rw [h2 n (by omega)]
      exact e s (List.mem_range.mpr (by omega))
  | some n =>
    rw [List.find?_range_eq_some] at e ⊢
    obtain ⟨q1,q2,q3⟩ := e
    exact ⟨q1,List.mem_range.mpr (by have := List.mem_range.mp q2; omega),q3⟩
section
variable {gs hs : List Nd} {most : Nat}
theorem Zmv {b : Int} {g : Nd} (h : N42 most g) : N42 most (shN b g) := by
  cases g with
  | sc a x => exact h
  | sq a ns => exact ⟨h.1,by rw [List.length_map]; exact h.2.1,by rw [List.length_map]; exact h.2.2⟩
  | mp a ps => exact ⟨h.1,by rw [List.length_map]; exact h.2.1,by rw [List.length_map]; exact h.2.2⟩
theorem jn_42 (hg : ∀ g ∈ gs,N42 most g) (hh : ∀ g ∈ hs,N42 most g) : ∀ g ∈ jn gs hs,N42 most g := fun g hm => by
  rcases List.mem_append.mp hm with h | h
  · exact hg g h
  · obtain ⟨k,hk,rfl⟩ := List.mem_map.mp h
    exact Zmv (hh k hk)
theorem wr_lo (hg : GsOk gs) (d : Nat) {i : Nat} (hi : i < gs.length) : wr (jn gs hs) d (i : Int) = wr gs d (i : Int) :=
  Zev (h := fun x => x) (Jl hg) (fun x hx => by
    obtain ⟨k,rfl,hk⟩ := V4 hx
    rw [Zk1 hk,Zm0 fun y _ => rfl]) d ⟨by omega,by omega⟩
theorem wr_hi (hh : GsOk hs) (d : Nat) {i : Nat} (hi : i < hs.length) : wr (jn gs hs) d ((i + gs.length : Nat) : Int) = wr hs d (i : Int) := by
  have e : ((i + gs.length : Nat) : Int) = (i : Int) + (gs.length : Int) := by omega
  rw [e]
  exact Zev (h := fun x => x + (gs.length : Int)) (Jl hh) (fun x hx => by
    obtain ⟨k,rfl,hk⟩ := V4 hx
    have := Zk2 (gs := gs) (hs := hs) hk
    rw [show ((k + gs.length : Nat) : Int) = (k : Int) + (gs.length : Int) by omega] at this
    exact this) d ⟨by omega,by omega⟩
theorem Zgl (hg : GsOk gs) (hh : GsOk hs) (ng : ∀ g ∈ gs,N42 most g) (nh : ∀ g ∈ hs,N42 most g) (d : Nat) {top its : Nat} (ht : top < gs.length) (hi : its < hs.length) : decide (wr gs d (top : Int) = wr hs d (its : Int)) = tb (jn gs hs) d top (its + gs.length) := by
  have h := wr_tb (jn_42 ng nh) (Jl (Z9l hg hh)) d (i := top) (j := its + gs.length) (by rw [Ux]; omega) (by rw [Ux]; omega)
  rw [wr_lo hg d ht,wr_hi hh d hi] at h
  rw [Bool.eq_iff_iff,decide_eq_true_iff]
  exact h
def gE (nl top ml its q r : Nat) (o6 o7 o8 o9 : Option Fx.T) : Fx.Env := [some (.loc nl),some (.int (top : Int)),some (.loc ml),some (.int (its : Int)),some (.loc q),some (.loc r),o6,o7,o8,o9]
theorem Zex (hg : GsOk gs) (hh : GsOk hs) (ng : ∀ g ∈ gs,N42 most g) (nh : ∀ g ∈ hs,N42 most g) (hm : 1 ≤ most ∧ most ≤ 4) (hl : gs.length ≤ 5) (hl2 : hs.length ≤ 5) (hG : ∀ d,d < gs.length + hs.length → Gm most d ≤ 1500) {Z : Sto} {nl ml top its : Nat} (hn : getL Z nl = some (gs.map nT)) (hml : getL Z ml = some (hs.map nT)) (ht : top < gs.length) (hi : its < hs.length) :
    ∃ Z', Ws [.loc nl, .int (top : Int), .loc ml, .int (its : Int)] Z = .ok (.bl true) Z' ∧ Ext Z Z' := by
  have hjl := Ux gs hs
  have hjl2 := Ux hs gs
  obtain ⟨s,a1,a2,a3⟩ := stab (gs := jn gs hs) (by omega)
  obtain ⟨s', b1, b2, b3⟩ := stab (gs := jn hs gs) (by omega)
  have hs1 : Stb (jn gs hs) s := ⟨a1,a2,a3⟩
  have hs2 : Stb (jn hs gs) s' := ⟨b1, b2, b3⟩
  have tg : InG gs (top : Int) := ⟨by omega,by omega⟩
  have ti : InG hs (its : Int) := ⟨by omega,by omega⟩
  obtain ⟨Z4,e4,x4,q4⟩ := Zm5 hg (by omega) (by omega) (ds := []) (fa := aCons (eVar 0) (aCons (eVar 1) aNil)) (ρ := [some (.loc nl),some (.int (top : Int)),some (.loc ml),some (.int (its : Int)),none,none,none,none,none,none]) (Z := Z) (Z0 := Z) (as := [.loc nl,.int (top : Int)]) (top := (top : Int)) (by simp) rfl hn tg
  obtain ⟨Z5,e5,x5,q5⟩ := Zm5 hh (by omega) (by omega) (ds := []) (fa := aCons (eVar 2) (aCons (eVar 3) aNil)) (ρ := [some (.loc nl),some (.int (top : Int)),some (.loc ml),some (.int (its : Int)),none,none,none,none,none,none]) (Z := Z4) (Z0 := Z4) (as := [.loc ml,.int (its : Int)]) (top := (its : Int)) (by simp) rfl (x4.getL hml) ti
  have t3 : sPar [4,5,6] (aCons (eMake "Graph" Ym [] (aCons (eVar 0) (aCons (eVar 1) aNil))) (aCons (eMake "Graph" Ym [] (aCons (eVar 2) (aCons (eVar 3) aNil))) (aCons (eC .non) aNil))) [some (.loc nl), some (.int (top : Int)), some (.loc ml), some (.int (its : Int)), none, none, none, none, none, none] Z = .nx (gE nl top ml its Z.length Z4.length (some .non) none none none) Z5 := by
    rw [q_par,Z5c,e4,Zv,Z5c,e5]
    rfl
  have q4' := q4.ext x5
  obtain ⟨P,hP⟩ : ∃ P : Nat → Bool,P = fun n => !tb (jn gs hs) n top (its + gs.length) := ⟨_,rfl⟩
  have mlen : gs.length + hs.length ≤ 10 := by omega
  obtain ⟨ρ6, Z6, e6, ⟨o7, o8, o9, rfl⟩, x6⟩ := Z80 (m := gs.length + hs.length) (body := fun t ρ' Z' => bS ρ' (gNm 7 t ρ' Z') Z0i) (ρ := gE nl top ml its Z.length Z4.length (some .non) none none none) (Z := Z5)
    (fun k ρ Z' => (∃ o7 o8 o9, ρ = gE nl top ml its Z.length Z4.length (some (oT ((List.range k).find? P))) o7 o8 o9) ∧ Ext Z5 Z')
    (by unfold Lim; omega) ⟨⟨_, _, _, rfl⟩, Ext.refl Z5⟩ (fun k hk ρ Z' h => by
      obtain ⟨⟨o7,o8,o9,rfl⟩,x⟩ := h
      have g1 := q4'.ext x
      have hG1 := hG k hk
      have u1 := Zk9 ng (Jl hg) k tg
      have u2 := Zk9 nh (Jl hh) k ti
      obtain ⟨ZA,eA,xA⟩ := Zhq hg (by omega) g1 tg (d := k) (by omega) (by omega)
      obtain ⟨ZB,eB,xB⟩ := Z03 hg ng hm k 55 (top : Int) ZA tg (by omega) hG1
      have g2 := ((q5.ext x).ext xA).ext xB
      obtain ⟨ZC, eC', xC⟩ := Zhq hh (by omega) g2 ti (d := k) (by omega) (by omega)
      obtain ⟨ZD,eD,xD⟩ := Z03 hh nh hm k 55 (its : Int) ZC ti (by omega) hG1
      have eB' : X5 [trA gs k (top : Int)] ZA = .ok (.str (wr gs k (top : Int))) ZB := eB
      have eD' : X5 [trA hs k (its : Int)] ZC = .ok (.str (wr hs k (its : Int))) ZD := eD
      have hd := Zgl hg hh ng nh k ht hi
      have fr : (List.range (k + 1)).find? P = ((List.range k).find? P).or (if P k = true then some k else none) := by
        rw [List.range_succ,List.find?_append]
        congr 1
        cases hpk : P k <;> simp [List.find?,hpk]
      have hPk : P k = !decide (wr gs k (top : Int) = wr hs k (its : Int)) := by rw [hP,hd]
      refine ⟨gE nl top ml its Z.length Z4.length (some (oT ((List.range (k + 1)).find? P))) (some (.int (k : Int))) (some (.str (wr gs k (top : Int)))) (some (.str (wr hs k (its : Int)))),ZD,?_,⟨_,_,_,rfl⟩,(((x.trans xA).trans xB).trans xC).trans xD⟩
      have iN := Zjx ((List.range k).find? P)
      generalize wr gs k (top : Int) = w1 at *
      generalize wr hs k (its : Int) = w2 at *
      generalize trA gs k (top : Int) = r1 at *
      generalize trA hs k (its : Int) = r2 at *
      rw [fr]
      generalize (List.range k).find? P = F at *
      have t1 : sPar [8,9] (aCons (eCall X5 [] (aCons (eCall Vk [] (aCons (eVar 4) (aCons (eVar 7) aNil))) aNil)) (aCons (eCall X5 [] (aCons (eCall Vk [] (aCons (eVar 5) (aCons (eVar 7) aNil))) aNil)) aNil)) (gE nl top ml its Z.length Z4.length (some (oT F)) (some (.int (k : Int))) o8 o9) Z' = .nx (gE nl top ml its Z.length Z4.length (some (oT F)) (some (.int (k : Int))) (some (.str w1)) (some (.str w2))) ZD := by
        simp [gE, eA, eB', eC', eD']
      show bS _ (.ok (gE nl top ml its Z.length Z4.length (some (oT F)) (some (.int (k : Int))) o8 o9) Z') _ = _
      rw [Z0k]
      refine Ye t1 ?_
      by_cases hw : w1 = w2
      · have hp : P k = false := by rw [hPk,decide_eq_true hw]; rfl
        rw [hp]
        have : F.or (if false = true then some k else none) = F := by cases F <;> rfl
        rw [this]
        simp [gE,hw]
      · have hp : P k = true := by rw [hPk,decide_eq_false hw]; rfl
        rw [hp]
        cases F with
        | none =>
          have hn0 : Fx.isNon Fx.T.non = true := rfl
          simp [gE,hw,oT,hn0]
        | some n =>
          have hn0 : Fx.isNon (Fx.T.int (n : Int)) = false := rfl
          simp [gE,hw,oT,hn0])
  have hc : eBin gAdd (eCallB gLen (aCons (eVar 0) aNil)) (eCallB gLen (aCons (eVar 2) aNil)) (gE nl top ml its Z.length Z4.length (some .non) none none none) Z5 = .ok (.int ((gs.length + hs.length : Nat) : Int)) Z5 := by
    have n1 := x5.getL (x4.getL hn)
    have n2 := x5.getL (x4.getL hml)
    simp [gE,n1,n2]
  have hi' : iRng (aCons (eBin gAdd (eCallB gLen (aCons (eVar 0) aNil)) (eCallB gLen (aCons (eVar 2) aNil))) aNil) (gE nl top ml its Z.length Z4.length (some .non) none none none) Z5 = .ok (itRng 0 (gs.length + hs.length)) Z5 := by
    rw [Zl2,Z5c,hc]
    simp only [Zv,Zii]
    exact rngN (n := gs.length + hs.length) (by unfold Lim; omega)
  have hap : (List.range (gs.length + hs.length)).find? P = apN (jn gs hs) s top (its + gs.length) := by
    unfold apN
    rw [← hP]
    refine Zgk (by omega) fun n hn => ?_
    rw [hP]
    show (!_) = (!_)
    rw [Z9k (Jl (Z9l hg hh)) a2 hn (by omega) (by omega)]
  rw [hap] at e6
  obtain ⟨Z7, e7, x7⟩ := Zeo hg hh (by omega) (by omega) hs1 (q4'.ext x6) (q5.ext x6) ht hi
  obtain ⟨Z8, e8, x8⟩ := Zk0 hh hg (by omega) (by omega) hs2 ((q5.ext x6).ext x7) ((q4'.ext x6).ext x7) hi ht
  rw [Zmk hg hh hs1 hs2 ht hi] at e8
  obtain ⟨O,hO⟩ : ∃ O,O = apN (jn gs hs) s top (its + gs.length) := ⟨_,rfl⟩
  rw [← hO] at e6 e7 e8
  have iN := Zjx O
  have eq1 : ∀ Z,gEq (oT O) (oT O) Z = some (.bl true,Z) := fun Z => by
    cases O with
    | none => rfl
    | some n => simp [oT]
  have hB : Z2p [some (.loc nl),some (.int (top : Int)),some (.loc ml),some (.int (its : Int)),none,none,none,none,none,none] Z = .rt (.bl true) Z8 := by
    refine Ye t3 (Ye (ρ' := gE nl top ml its Z.length Z4.length (some (oT O)) o7 o8 o9) (Z' := Z6) ?_ ?_)
    · rw [Zdb, hi', Z0k]
      exact e6
    · have eq2 := eq1 Z7
      generalize oT O = T at *
      generalize O.isNone = N at *
      simp [gE,e7,eq2,e8,iN]
  exact ⟨Z8,Vz (n := 10) (as := [.loc nl,.int (top : Int),.loc ml,.int (its : Int)]) hB,((((x4.trans x5).trans x6).trans x7).trans x8)⟩
end
end Ap
set_option maxHeartbeats 8000000
namespace Ap
open PySem PySem.Spec PyProof.Rows L2 SX Fx
def NG4 (size most : Nat) (t : Fx.T) : Prop := ∃ g,NdOk size g ∧ N42 most g ∧ t = nT g
theorem Z9n {size most : Nat} : ∀ {ts : List Fx.T},(∀ t ∈ ts,NG4 size most t) → ∃ gs : List Nd,ts = gs.map nT ∧ (∀ g ∈ gs,NdOk size g) ∧ ∀ g ∈ gs,N42 most g
  | [],_ => ⟨[],rfl,(fun _ h => by cases h),fun _ h => by cases h⟩
  | t :: ts,h => by
    obtain ⟨g,hg,hs,rfl⟩ := h t List.mem_cons_self
    obtain ⟨gs,rfl,hgs,hss⟩ := Z9n fun u hu => h u (List.mem_cons_of_mem _ hu)
    refine ⟨g :: gs,rfl,fun x hx => ?_,fun x hx => ?_⟩
    · rcases List.mem_cons.mp hx with e | e
      · rw [e]; exact hg
      · exact hgs x e
    · rcases List.mem_cons.mp hx with e | e
      · rw [e]; exact hs
      · exact hss x e
theorem Zmw : Tg [33,33,115,116,114] := ⟨by decide +kernel,by decide,by decide,by decide⟩
theorem Zmx : Tg [33,33,115,101,113] := ⟨by decide +kernel,by decide,by decide,by decide⟩
theorem Zmy : Tg [33,33,109,97,112] := ⟨by decide +kernel,by decide,by decide,by decide⟩
theorem Zey {Z : Sto} {w : Nat} (hw : Wel Z w) {size most : Nat} (h1 : 1 ≤ size) (h9 : size ≤ 14) (hm : most = 2 ∨ most = 4) : ∃ (t : Fx.T) (Z' : Sto), NG4 size most t ∧ X4 [.loc w, .int (size : Int), .int (most : Int)] Z = .ok t Z' ∧ Kp w Z Z' := by
  obtain ⟨r,Z1,hr,e1,k1⟩ := Z9g hw 5 5 rfl (by decide) (by decide)
  by_cases h2 : r = 0
  · subst h2
    obtain ⟨t3,m3,Z3,e3,k3⟩ := Zhc (xs := [.str [97],.str [97],.str [98]]) k1.wel (by decide) (by decide)
    obtain ⟨tx,rfl,hx,hx2⟩ : ∃ tx,t3 = .str tx ∧ okS tx = true ∧ (tx = [97] ∨ tx = [98]) := by
      simp at m3
      rcases m3 with rfl | rfl
      · exact ⟨_,rfl,by decide,.inl rfl⟩
      · exact ⟨_,rfl,by decide,.inr rfl⟩
    refine ⟨.tup [.str sSc,.str [33,33,115,116,114],.str tx],Z3,⟨.sc [33,33,115,116,114] tx,⟨Zmw,hx⟩,⟨rfl,hx2⟩,rfl⟩,?_,k1.trans k3⟩
    simp [X4,runF,Qy,e1,e3,sSc]
  · have h2' : ¬ (r : Int) = 0 := by omega
    by_cases h5 : r < 3
    · have h5' : (r : Int) < 3 := by omega
      obtain ⟨q,Z2,hq,e2,k2⟩ := Uw k1.wel most (by omega) (lt200 (by omega))
      have hw2 := k2.wel.lt
      obtain ⟨acc,Z3,e3,ns,rfl,hl,hb,hg,hk3⟩ := Z41 (m := 1 + q) (D := Z2.length) (put := fun t => putN [5] t (wipeR [some (.loc w),some (.int (size : Int)),some (.int (most : Int)),some (.int (r : Int)),none,none] [5])) (c := eYes) (e := Qw) (Z := Z2 ++ [.lst []])
        (fun j acc Z' => ∃ ns : List Int, acc = ns.map .int ∧ ns.length = j ∧ (∀ n ∈ ns, 0 ≤ n ∧ n < (size : Int)) ∧ getL Z' Z2.length = some acc ∧ Kp w Z2 Z')
        (by unfold Lim; omega) (fun _ _ _ h => by obtain ⟨_,_,_,_,h,_⟩ := h; exact h) ⟨[],rfl,rfl,by simp,Zo _ _,Kp.new k2.wel⟩
        (fun j hj acc Z' h => by
          obtain ⟨ns,rfl,hl,hb,hg,hk⟩ := h
          obtain ⟨c,Z4,hc,e4,k4⟩ := Uw hk.wel size h1 (lt200 (by omega))
          have hg2 := k4.getL (by omega) hg
          refine ⟨_, rfl, .inr ⟨Z', .int (c : Int), Z4, rfl, ?_, hg2, ns ++ [(c : Int)], by simp, by simp [hl], ?_, Xp hg2, (hk.trans k4).put (Nat.le_refl _) hw2⟩⟩
          · simp [Qw,wipeR,putN,e4]
          · intro n hn
            rcases List.mem_append.mp hn with h | h
            · exact hb n h
            · rw [List.mem_singleton.mp h]; omega)
      refine ⟨.tup [.str sSeq,.str [33,33,115,101,113],.tup (ns.map .int)],Z3,⟨.sq [33,33,115,101,113] ns,⟨Zmx,by omega,hb⟩,⟨rfl,by omega,by omega⟩,rfl⟩,?_,(k1.trans k2).trans hk3⟩
      have rq : ∀ Z,rngOf [.int (1 + (q : Int))] Z = .ok (itRng 0 (1 + q)) Z := fun Z => by
        have := rngN (n := 1 + q) (Z := Z) (by unfold Lim; omega)
        rw [show ((1 + q : Nat) : Int) = 1 + (q : Int) by omega] at this
        exact this
      generalize ns.map Fx.T.int = NS at *
      simp [X4, runF, Qy, e1, h2, h2', h5', e2, rq, e3, hg, sSeq]
    · have h5' : ¬ (r : Int) < 3 := by omega
      have hdv : (most : Int) / 2 = ((most / 2 : Nat) : Int) := by omega
      obtain ⟨q,Z2,hq,e2,k2⟩ := Uw k1.wel (most / 2) (by omega) (lt200 (by omega))
      have hw2 := k2.wel.lt
      obtain ⟨acc,Z3,e3,ps,rfl,hl,hb,hg,hk3⟩ := Z41 (m := 1 + q) (D := Z2.length) (put := fun t => putN [5] t (wipeR [some (.loc w),some (.int (size : Int)),some (.int (most : Int)),some (.int (r : Int)),none,none] [5])) (c := eYes) (e := Qx) (Z := Z2 ++ [.lst []])
        (fun j acc Z' => ∃ ps : List (Int × Int), acc = ps.map pairT ∧ ps.length = j ∧ (∀ p ∈ ps, (0 ≤ p.1 ∧ p.1 < (size : Int)) ∧ 0 ≤ p.2 ∧ p.2 < (size : Int)) ∧ getL Z' Z2.length = some acc ∧ Kp w Z2 Z')
        (by unfold Lim; omega) (fun _ _ _ h => by obtain ⟨_,_,_,_,h,_⟩ := h; exact h) ⟨[],rfl,rfl,by simp,Zo _ _,Kp.new k2.wel⟩
        (fun j hj acc Z' h => by
          obtain ⟨ps,rfl,hl,hb,hg,hk⟩ := h
          obtain ⟨c,Z4,hc,e4,k4⟩ := Uw hk.wel size h1 (lt200 (by omega))
          obtain ⟨d,Z5,hd,e5,k5⟩ := Uw k4.wel size h1 (lt200 (by omega))
          have hg2 := (k4.trans k5).getL (by omega) hg
          refine ⟨_, rfl, .inr ⟨Z', pairT ((c : Int), (d : Int)), Z5, rfl, ?_, hg2, ps ++ [((c : Int), (d : Int))], by simp, by simp [hl], ?_, Xp hg2, (hk.trans (k4.trans k5)).put (Nat.le_refl _) hw2⟩⟩
          · simp [Qx,wipeR,putN,e4,e5,pairT]
          · intro p hp
            rcases List.mem_append.mp hp with h | h
            · exact hb p h
            · rw [List.mem_singleton.mp h]; exact ⟨by omega,by omega⟩)
      refine ⟨.tup [.str sMap,.str [33,33,109,97,112],.tup (ps.map pairT)],Z3,⟨.mp [33,33,109,97,112] ps,⟨Zmy,by omega,hb⟩,⟨rfl,by omega,by omega⟩,rfl⟩,?_,(k1.trans k2).trans hk3⟩
      have rq : ∀ Z,rngOf [.int (1 + (q : Int))] Z = .ok (itRng 0 (1 + q)) Z := fun Z => by
        have := rngN (n := 1 + q) (Z := Z) (by unfold Lim; omega)
        rw [show ((1 + q : Nat) : Int) = 1 + (q : Int) by omega] at this
        exact this
      generalize ps.map pairT = NS at *
      rw [← hdv] at e2
      have h3n : ¬ (r : Int) < 3 := h5'
      simp [X4, runF, Qy, e1, h2, h2', h5', e2, rq, e3, hg, sMap]
theorem cutA {α : Type} (l : List α) : cutL l none (some 1) = l.take 1 := Zgm l 1
theorem Zkb {Z : Sto} {w nl size most : Nat} {ts : List Fx.T} (hw : Wel Z w) (hn : getL Z nl = some ts) (hl : ts.length = size) (h1 : 1 ≤ size) (h9 : size ≤ 14) (hm : most = 2 ∨ most = 4) (ht : ∀ t ∈ ts,NG4 size most t) :
    ∃ (i : Nat) (ts' : List Fx.T) (Z' : Sto), Ui [.loc w, .loc nl, .int (most : Int)] Z = .ok (.loc i) Z' ∧ getL Z' i = some ts' ∧ ts'.length = size ∧ (∀ t ∈ ts', NG4 size most t) ∧ Z.length ≤ i ∧ Kp w Z Z' := by
  have hw0 := hw.lt
  have kN : Kp w Z (Z ++ [O.lst ts]) := Kp.new hw
  obtain ⟨ZN,hZN⟩ : ∃ ZN,ZN = Z ++ [O.lst ts] := ⟨_,rfl⟩
  have gN : getL ZN Z.length = some ts := by rw [hZN]; exact Zo _ _
  have gN2 : getL ZN nl = some ts := by rw [hZN]; exact Yj hn
  rw [← hZN] at kN
  obtain ⟨r,Z1,hr,e1,k1⟩ := Uw kN.wel size h1 (lt200 (by omega))
  have hiw : Z.length ≠ w := by omega
  have hlen : (ts.length : Int) = (size : Int) := by omega
  rw [← hlen] at e1
  have t1 : sPar [3,4] (aCons (eCallB gList (aCons (eVar 1) aNil)) (aCons (eCall Zk [] (aCons (eVar 0) (aCons (eCallB gLen (aCons (eVar 1) aNil)) aNil))) aNil)) [some (.loc w),some (.loc nl),some (.int (most : Int)),none,none,none,none,none] Z = .nx [some (.loc w),some (.loc nl),some (.int (most : Int)),some (.loc Z.length),some (.int (r : Int)),none,none,none] Z1 := by
    simp [gList,asSeq,X8,hn,← hZN,gN2,e1]
  have nw : nl ≠ w := by
    intro e
    obtain ⟨a,b,c,hh⟩ := hw
    rw [e,hh] at hn
    have hn := Option.some.inj hn
    obtain ⟨g,_,_,et⟩ := ht (.int a) (by rw [← hn]; simp)
    cases g <;> simp [nT] at et
  have g1 : getL Z1 Z.length = some ts := k1.getL hiw gN
  have g1n : getL Z1 nl = some ts := k1.getL nw gN2
  have hrl : r < ts.length := by omega
  have ea : atI ts (r : Int) = some ts[r] := Fx.atI_nat (List.getElem?_eq_getElem hrl)
  have ix : ixN ts.length (r : Int) = some r := Fx.ixN_nat hrl
  obtain ⟨g,hg,h4,et⟩ := ht ts[r] (List.getElem_mem hrl)
  obtain ⟨kd,tg,ct,e3⟩ : ∃ (kd : List Nat) (tg ct : Fx.T),ts[r] = .tup [.str kd,tg,ct] := by
    rw [et]
    cases g with
    | sc a b => exact ⟨_,_,_,rfl⟩
    | sq a ns => exact ⟨_,_,_,rfl⟩
    | mp a ps => exact ⟨_,_,_,rfl⟩
  rw [e3] at ea
  have t2 : sAsg (eBin gIxW (eVar 3) (eVar 4)) (gTp 3 (gsCons (gNm 5) (gsCons (gNm 6) (gsCons (gNm 7) gsNil)))) [some (.loc w),some (.loc nl),some (.int (most : Int)),some (.loc Z.length),some (.int (r : Int)),none,none,none] Z1 = .nx [some (.loc w),some (.loc nl),some (.int (most : Int)),some (.loc Z.length),some (.int (r : Int)),some (.str kd),some tg,some ct] Z1 := by
    simp [Z1l _ g1,ea]
  obtain ⟨t,Z2,q1,q2,k2⟩ := Zey k1.wel h1 h9 hm
  have g2 := k2.getL hiw g1
  have s2 := Zad (r : Int) t g2
  rw [ix] at s2
  rw [← hlen] at q2
  have t3 : sAsg (eCall X4 [] (aCons (eVar 0) (aCons (eCallB gLen (aCons (eVar 1) aNil)) (aCons (eVar 2) aNil)))) (gSubsW (eVar 3) (eVar 4)) [some (.loc w),some (.loc nl),some (.int (most : Int)),some (.loc Z.length),some (.int (r : Int)),some (.str kd),some tg,some ct] Z1 = .nx [some (.loc w),some (.loc nl),some (.int (most : Int)),some (.loc Z.length),some (.int (r : Int)),some (.str kd),some tg,some ct] (Z2.set Z.length (.lst (ts.set r t))) := by
    simp [g1n,q2,s2]
  have kk : Kp w Z (Z2.set Z.length (.lst (ts.set r t))) := ((kN.trans k1).trans k2).put (Nat.le_refl _) hw0
  have g3 : getL (Z2.set Z.length (.lst (ts.set r t))) Z.length = some (ts.set r t) := Xp g2
  have sets : ∀ {t : Fx.T},NG4 size most t → ∀ {us : List Fx.T},(∀ u ∈ us,NG4 size most u) → ∀ u ∈ us.set r t,NG4 size most u := fun {t} h {us} hus u hu => by
    rcases List.mem_or_eq_of_mem_set hu with e | e
    · exact hus u e
    · rw [e]; exact h
  have s3 := sets q1 ht
  obtain ⟨Z3,hZ3⟩ : ∃ Z3,Z3 = Z2.set Z.length (.lst (ts.set r t)) := ⟨_,rfl⟩
  rw [← hZ3] at t3 kk g3
  have fin : ∃ (us : List Fx.T) (Z' : Sto), sIf (Fx.tAnd (eBl (eBin gEq (eVar 5) (eC (.str [109,97,112,112,105,110,103])))) (eBl (eBin gGtW (eCall Zk [] (aCons (eVar 0) (aCons (eC (.int 3)) aNil))) (eC (.int 0)))))
      (sAsg (eTup (aCons (eVar 5) (aCons (eVar 6) (aCons (eIf (eBl (eBin gGeW (eBin gMul (eCallB gLen (aCons (eVar 7) aNil)) (eC (.int 2))) (eVar 2))) (eRvT (eVar 7) oNone oNone (oSome (eUn gNeg (eC (.int 1))))) (eBin gAdd (eVar 7) (eSl (eVar 7) oNone (oSome (eC (.int 1)))))) aNil)))) (gSubsW (eVar 3) (eVar 4)))
      sPass [some (.loc w), some (.loc nl), some (.int (most : Int)), some (.loc Z.length), some (.int (r : Int)), some (.str kd), some tg, some ct] Z3 = .nx [some (.loc w), some (.loc nl), some (.int (most : Int)), some (.loc Z.length), some (.int (r : Int)), some (.str kd), some tg, some ct] Z' ∧ Kp w Z Z' ∧ getL Z' Z.length = some us ∧ us.length = size ∧ ∀ u ∈ us, NG4 size most u := by
    have pass : kd ≠ [109,97,112,112,105,110,103] → _ := fun hk => (⟨ts.set r t, Z3, by simp [hk], kk, g3, by rw [List.length_set]; exact hl, s3⟩ : ∃ (us : List Fx.T) (Z' : Sto), sIf (Fx.tAnd (eBl (eBin gEq (eVar 5) (eC (.str [109,97,112,112,105,110,103])))) (eBl (eBin gGtW (eCall Zk [] (aCons (eVar 0) (aCons (eC (.int 3)) aNil))) (eC (.int 0)))))
      (sAsg (eTup (aCons (eVar 5) (aCons (eVar 6) (aCons (eIf (eBl (eBin gGeW (eBin gMul (eCallB gLen (aCons (eVar 7) aNil)) (eC (.int 2))) (eVar 2))) (eRvT (eVar 7) oNone oNone (oSome (eUn gNeg (eC (.int 1))))) (eBin gAdd (eVar 7) (eSl (eVar 7) oNone (oSome (eC (.int 1)))))) aNil)))) (gSubsW (eVar 3) (eVar 4)))
      sPass [some (.loc w), some (.loc nl), some (.int (most : Int)), some (.loc Z.length), some (.int (r : Int)), some (.str kd), some tg, some ct] Z3 = .nx [some (.loc w), some (.loc nl), some (.int (most : Int)), some (.loc Z.length), some (.int (r : Int)), some (.str kd), some tg, some ct] Z' ∧ Kp w Z Z' ∧ getL Z' Z.length = some us ∧ us.length = size ∧ ∀ u ∈ us, NG4 size most u)
    rw [et] at e3
    cases g with
    | sc a b =>
      injection e3 with e3
      injection e3 with e3 _
      injection e3 with e3
      exact pass (by rw [← e3]; decide)
    | sq a ns =>
      injection e3 with e3
      injection e3 with e3 _
      injection e3 with e3
      exact pass (by rw [← e3]; decide)
    | mp a ps =>
      injection e3 with e3
      injection e3 with e4 e3
      injection e4 with e4
      injection e3 with e5 e3
      injection e3 with e6 _
      subst e4 e5 e6
      obtain ⟨rfl,hp1,hp2⟩ := h4
      obtain ⟨d,Z4,hd,q4,k4⟩ := Z9g kk.wel 3 3 rfl (by decide) (by decide)
      have g4 := k4.getL hiw g3
      by_cases hd0 : d = 0
      · subst hd0
        refine ⟨ts.set r t,Z4,?_,kk.trans k4,g4,by rw [List.length_set]; exact hl,s3⟩
        simp [sMap,q4]
      · have hd' : ¬ (d : Int) = 0 := by omega
        have hdp : (0 : Int) < (d : Int) := by omega
        obtain ⟨PS,hPS⟩ : ∃ PS,PS = ps.map pairT := ⟨_,rfl⟩
        have hPl : PS.length = ps.length := by rw [hPS,List.length_map]
        rw [← hPS]
        have put : ∀ qs : List (Int × Int),(∀ q ∈ qs,q ∈ ps) → 1 ≤ qs.length → 2 * qs.length ≤ most → NG4 size most (.tup [.str sMap,.str [33,33,109,97,112],.tup (qs.map pairT)]) := fun qs a b c => ⟨.mp [33,33,109,97,112] qs,⟨hg.1,by omega,fun q hq => hg.2.2 q (a q hq)⟩,⟨rfl,b,c⟩,rfl⟩
        have hset : ∀ u,gSetW (.loc Z.length) (.int (r : Int)) u Z4 = some (Z4.set Z.length (.lst ((ts.set r t).set r u))) := fun u => by
          have := Zad (r : Int) u g4
          rw [List.length_set,ix] at this
          exact this
        by_cases hc : most ≤ 2 * ps.length
        · have hcI : (most : Int) ≤ (PS.length : Int) * 2 := by rw [hPl]; omega
          have hng := put ps.reverse (fun q hq => List.mem_reverse.mp hq) (by rw [List.length_reverse]; exact hp1) (by rw [List.length_reverse]; exact hp2)
          rw [List.map_reverse,← hPS] at hng
          refine ⟨(ts.set r t).set r (.tup [.str sMap,.str [33,33,109,97,112],.tup PS.reverse]),Z4.set Z.length (.lst ((ts.set r t).set r (.tup [.str sMap,.str [33,33,109,97,112],.tup PS.reverse]))),?_,(kk.trans k4).put (Nat.le_refl _) hw0,Xp g4,by rw [List.length_set,List.length_set]; exact hl,sets hng s3⟩
          have hs := hset (.tup [.str sMap,.str [33,33,109,97,112],.tup PS.reverse])
          have rv : eRvT (eVar 7) oNone oNone (oSome (eUn gNeg (eC (.int 1)))) [some (.loc w),some (.loc nl),some (.int (most : Int)),some (.loc Z.length),some (.int (r : Int)),some (.str sMap),some (.str [33,33,109,97,112]),some (.tup PS)] Z4 = .ok (.tup PS.reverse) Z4 := rfl
          generalize eRvT (eVar 7) oNone oNone (oSome (eUn gNeg (eC (.int 1)))) = RV at *
          generalize PS.reverse = PR at *
          simp only [sMap] at hs rv ⊢
          simp [q4,hd0,hdp,hcI,rv,hs]
        · have hcI : ¬ (most : Int) ≤ (PS.length : Int) * 2 := by rw [hPl]; omega
          have hng := put (ps ++ ps.take 1) (fun q hq => (List.mem_append.mp hq).elim id fun h => List.mem_of_mem_take h) (by rw [List.length_append]; omega) (by rw [List.length_append,List.length_take]; omega)
          rw [List.map_append,List.map_take,← hPS] at hng
          refine ⟨(ts.set r t).set r (.tup [.str sMap,.str [33,33,109,97,112],.tup (PS ++ PS.take 1)]),Z4.set Z.length (.lst ((ts.set r t).set r (.tup [.str sMap,.str [33,33,109,97,112],.tup (PS ++ PS.take 1)]))),?_,(kk.trans k4).put (Nat.le_refl _) hw0,Xp g4,by rw [List.length_set,List.length_set]; exact hl,sets hng s3⟩
          have hs := hset (.tup [.str sMap,.str [33,33,109,97,112],.tup (PS ++ PS.take 1)])
          have hlim : PS.length + (PS.take 1).length ≤ Lim := by rw [List.length_take,hPl]; unfold Lim; omega
          have hadd : gAdd (.tup PS) (.tup (PS.take 1)) Z4 = some (.tup (PS ++ PS.take 1),Z4) := by
            show (if _ then _ else _) = _
            rw [if_pos hlim]
          have hcu := cutA PS
          generalize PS ++ PS.take 1 = PA at *
          generalize PS.take 1 = P1 at *
          simp only [sMap] at hs ⊢
          simp [-Zl3,q4,hd0,hdp,hcI,hcu,hadd,hs]
  obtain ⟨us, Z4, e4, k4, g4, l4, h4'⟩ := fin
  exact ⟨Z.length, us, Z4, Vz (n := 8) (as := [.loc w, .loc nl, .int (most : Int)]) (Ye t1 (Ye t2 (Ye t3 (Ye e4 rfl)))), g4, l4, h4', Nat.le_refl _, k4⟩
end Ap
set_option maxHeartbeats 8000000
namespace Ap
open PySem PySem.Spec PyProof.Rows L2 SX Fx
theorem lcat (Z : Sto) (A B : Sto) : Z ++ A ++ B = Z ++ (A ++ B) := List.append_assoc _ _ _
theorem Zkc {α : Type} (l : List α) : cutL l none none = l := by
  unfold cutL
  rw [HT.sIx_none,HT.sIx_none,Nat.sub_zero,List.drop_zero,List.take_length]
theorem Zht {w : Nat} {Z Z' : Sto} (hw : Wel Z w) (x : Ext Z Z') : Kp w Z Z' := by
  obtain ⟨Y,rfl⟩ := x
  exact Kp.new hw
theorem Zbd {Z : Sto} {w size most : Nat} {e : FE} {ρ : Fx.Env} (hw : Wel Z w) (h1 : 1 ≤ size) (h9 : size ≤ 14) (hm : most = 2 ∨ most = 4) (hput : ∀ t : Fx.T, ∃ ρ', putN [8] t (wipeR ρ [8]) = some ρ' ∧ ∀ Z, e ρ' Z = X4 [.loc w, .int (size : Int), .int (most : Int)] Z) :
    ∃ (gs : List Nd) (Z' : Sto), loopC (itRng 0 size) Z.length (fun t => putN [8] t (wipeR ρ [8])) eYes e Fuel 0 (Z ++ [.lst []]) = .ok (.loc Z.length) Z' ∧ getL Z' Z.length = some (gs.map nT) ∧ gs.length = size ∧ GsOk gs ∧ (∀ g ∈ gs, N42 most g) ∧ Kp w Z Z' := by
  have hw0 := hw.lt
  obtain ⟨acc,Z3,e3,hl,hb,hg,hk3⟩ := Z41 (m := size) (D := Z.length) (put := fun t => putN [8] t (wipeR ρ [8])) (c := eYes) (e := e) (Z := Z ++ [.lst []])
    (fun j acc Z' => acc.length = j ∧ (∀ t ∈ acc, NG4 size most t) ∧ getL Z' Z.length = some acc ∧ Kp w Z Z')
    (by unfold Lim; omega) (fun _ _ _ h => h.2.2.1) ⟨rfl,by simp,Zo _ _,Kp.new hw⟩
    (fun j hj acc Z' h => by
      obtain ⟨hl,hb,hg,hk⟩ := h
      obtain ⟨ρ', p1, p2⟩ := hput (.int (j : Int))
      obtain ⟨t,Z4,ht,e4,k4⟩ := Zey hk.wel h1 h9 hm
      have hg2 := k4.getL (by omega) hg
      refine ⟨ρ', p1, .inr ⟨Z', t, Z4, rfl, by rw [p2]; exact e4, hg2, by simp [hl], ?_, Xp hg2, (hk.trans k4).put (Nat.le_refl _) hw0⟩⟩
      intro u hu
      rcases List.mem_append.mp hu with h | h
      · exact hb u h
      · rw [List.mem_singleton.mp h]; exact ht)
  obtain ⟨gs,rfl,h2,h3⟩ := Z9n hb
  rw [List.length_map] at hl
  exact ⟨gs,Z3,e3,hg,hl,fun g h => by rw [hl]; exact h2 g h,h3,hk3⟩
def cE (o0 o1 : Option Fx.T) (w : Nat) (o3 o4 o5 o6 o7 o8 : Option Fx.T) : Fx.Env := [o0,o1,some (.loc w),o3,o4,o5,o6,o7,o8]
theorem Zmz {Z : Sto} {w size its most : Nat} (o0 o1 o6 o7 o8 : Option Fx.T) (hw : Wel Z w) (hm : most = 2 ∨ most = 4) (s1 : 1 ≤ size) (t1 : 1 ≤ its) (hsz : (most = 2 ∧ size ≤ 5 ∧ its ≤ 5) ∨ (most = 4 ∧ size ≤ 3 ∧ its ≤ 3)) :
    ∃ p6 p7 p8 Z', Kp w Z Z' ∧ (bCons (sSet 6 (eLc [8] [8] (iRng (aCons (eVar 4) aNil)) eYes Z6a))
      (bCons (sSet 7 (eLc [8] [8] (iRng (aCons (eVar 5) aNil)) eYes Z6b))
      (bCons (sIf (eBl (eBin gEq (eCall Zk [] (aCons (eVar 2) (aCons (eC (.int 2)) aNil))) (eC (.int 0))))
        (sSet 7 (eCall Ui [] (aCons (eVar 2) (aCons (eVar 6) (aCons (eVar 3) aNil)))))
        sPass)
      (bCons (sIf (Fx.tNot (eTru (eCall Ws [] (aCons (eVar 6) (aCons (eCall Zk [] (aCons (eVar 2) (aCons (eVar 4) aNil))) (aCons (eVar 7) (aCons (eCall Zk [] (aCons (eVar 2) (aCons (eCallB gLen (aCons (eVar 7) aNil)) aNil))) aNil)))))))
        (sRet (eC (.bl false)))
        sPass)
      (sIf (Fx.tNot (eTru (eCall Ws [] (aCons (eVar 6) (aCons (eCall Zk [] (aCons (eVar 2) (aCons (eVar 4) aNil))) (aCons (eSl (eVar 6) oNone oNone) (aCons (eCall Zk [] (aCons (eVar 2) (aCons (eVar 4) aNil))) aNil)))))))
        (sRet (eC (.bl false)))
        sPass))))) (cE o0 o1 w (some (.int (most : Int))) (some (.int (size : Int))) (some (.int (its : Int))) o6 o7 o8) Z = .nx (cE o0 o1 w (some (.int (most : Int))) (some (.int (size : Int))) (some (.int (its : Int))) p6 p7 p8) Z' := by
  have hs5 : size ≤ 5 := by omega
  have hi5 : its ≤ 5 := by omega
  have hG : ∀ d,d < 2 * 5 → (most = 2 ∨ d < 6) → Gm most d ≤ 1500 := fun d hd h => by
    rcases hm with rfl | rfl
    · have : ∀ d,d < 10 → Gm 2 d ≤ 1500 := by decide
      exact this d hd
    · have : ∀ d,d < 6 → Gm 4 d ≤ 1500 := by decide
      exact this d (h.resolve_left (by decide))
  have hmb : 1 ≤ most ∧ most ≤ 4 := by omega
  obtain ⟨gs,Z1,e1,g1,l1,ok1,n1,k1⟩ := Zbd (e := Z6a) (ρ := cE o0 o1 w (some (.int (most : Int))) (some (.int (size : Int))) (some (.int (its : Int))) o6 o7 o8) hw s1 (by omega) hm (fun t => ⟨cE o0 o1 w (some (.int (most : Int))) (some (.int (size : Int))) (some (.int (its : Int))) o6 o7 (some t),by rw [Um]; rfl,fun Z => rfl⟩)
  obtain ⟨hs,Z2,e2,g2,l2,ok2,n2,k2⟩ := Zbd (e := Z6b) (ρ := cE o0 o1 w (some (.int (most : Int))) (some (.int (size : Int))) (some (.int (its : Int))) (some (.loc Z.length)) o7 o8) k1.wel t1 (by omega) hm (fun t => ⟨cE o0 o1 w (some (.int (most : Int))) (some (.int (size : Int))) (some (.int (its : Int))) (some (.loc Z.length)) o7 (some t),by rw [Um]; rfl,fun Z => rfl⟩)
  have ll1 := k1.len
  have ll2 := k2.len
  have hw0 := hw.lt
  have nw : Z.length ≠ w := by omega
  have mw : Z1.length ≠ w := by omega
  have g1' := k2.getL nw g1
  have st1 : sSet 6 (eLc [8] [8] (iRng (aCons (eVar 4) aNil)) eYes Z6a) (cE o0 o1 w (some (.int (most : Int))) (some (.int (size : Int))) (some (.int (its : Int))) o6 o7 o8) Z = .nx (cE o0 o1 w (some (.int (most : Int))) (some (.int (size : Int))) (some (.int (its : Int))) (some (.loc Z.length)) o7 o8) Z1 := by
    have hi : iRng (aCons (eVar 4) aNil) (cE o0 o1 w (some (.int (most : Int))) (some (.int (size : Int))) (some (.int (its : Int))) o6 o7 o8) Z = .ok (itRng 0 size) Z := by
      have := rngN (n := size) (Z := Z) (by unfold Lim; omega)
      simp [cE,this]
    rw [Zfj,q_lc,hi,Zv,e1]; rfl
  have st2 : sSet 7 (eLc [8] [8] (iRng (aCons (eVar 5) aNil)) eYes Z6b) (cE o0 o1 w (some (.int (most : Int))) (some (.int (size : Int))) (some (.int (its : Int))) (some (.loc Z.length)) o7 o8) Z1 = .nx (cE o0 o1 w (some (.int (most : Int))) (some (.int (size : Int))) (some (.int (its : Int))) (some (.loc Z.length)) (some (.loc Z1.length)) o8) Z2 := by
    have hi : iRng (aCons (eVar 5) aNil) (cE o0 o1 w (some (.int (most : Int))) (some (.int (size : Int))) (some (.int (its : Int))) (some (.loc Z.length)) o7 o8) Z1 = .ok (itRng 0 its) Z1 := by
      have := rngN (n := its) (Z := Z1) (by unfold Lim; omega)
      simp [cE,this]
    rw [Zfj,q_lc,hi,Zv,e2]; rfl
  obtain ⟨d,Z3,hd,e3,k3⟩ := Z9g k2.wel 2 2 rfl (by decide) (by decide)
  have g3 := k3.getL nw g1'
  have m3 := k3.getL mw g2
  have sec : ∃ (ml : Nat) (us : List Nd) (Z4 : Sto),sIf (eBl (eBin gEq (eCall Zk [] (aCons (eVar 2) (aCons (eC (.int 2)) aNil))) (eC (.int 0))))
        (sSet 7 (eCall Ui [] (aCons (eVar 2) (aCons (eVar 6) (aCons (eVar 3) aNil)))))
        sPass (cE o0 o1 w (some (.int (most : Int))) (some (.int (size : Int))) (some (.int (its : Int))) (some (.loc Z.length)) (some (.loc Z1.length)) o8) Z2 = .nx (cE o0 o1 w (some (.int (most : Int))) (some (.int (size : Int))) (some (.int (its : Int))) (some (.loc Z.length)) (some (.loc ml)) o8) Z4 ∧ Kp w Z2 Z4 ∧ getL Z4 Z.length = some (gs.map nT) ∧ getL Z4 ml = some (us.map nT) ∧ ml ≠ w ∧ GsOk us ∧ (∀ g ∈ us,N42 most g) ∧ 1 ≤ us.length ∧ us.length ≤ 5 ∧ (most = 4 → us.length ≤ 3) := by
    by_cases hd0 : d = 0
    · subst hd0
      obtain ⟨ml,vs,Z4,q1,q2,q3,q4,q5,q6⟩ := Zkb k3.wel g3 (size := size) (by rw [List.length_map]; exact l1) s1 (by omega) hm (fun t ht => by
        obtain ⟨g,hg,rfl⟩ := List.mem_map.mp ht
        exact ⟨g,by have := ok1 g hg; rw [l1] at this; exact this,n1 g hg,rfl⟩)
      obtain ⟨us,rfl,u1,u2⟩ := Z9n q4
      rw [List.length_map] at q3
      have ll3 := k3.len
      refine ⟨ml,us,Z4,?_,k3.trans q6,q6.getL nw g3,q2,by omega,fun g h => by rw [q3]; exact u1 g h,u2,by omega,by omega,fun h => by omega⟩
      simp [cE,e3,q1]
    · refine ⟨Z1.length,hs,Z3,?_,k3,g3,m3,mw,ok2,n2,by omega,by omega,fun h => by omega⟩
      simp [cE,e3,hd0]
  obtain ⟨ml,us,Z4,e4,k4,g4,m4,mlw,oku,nu,ul1,ul5,ul3⟩ := sec
  have kA := (k1.trans k2).trans k4
  -- the first question
  obtain ⟨top,Z5,ht,e5,k5⟩ := Uw k4.wel size s1 (lt200 (by omega))
  obtain ⟨it,Z6,hit,e6,k6⟩ := Uw k5.wel us.length ul1 (lt200 (by omega))
  have m5 := k5.getL mlw m4
  have g6 := k6.getL nw (k5.getL nw g4)
  have m6 := k6.getL mlw m5
  obtain ⟨Z7,e7,x7⟩ := Zex ok1 oku n1 nu hmb (by omega) ul5 (fun d hd => hG d (by omega) (by omega)) g6 m6 (show top < gs.length by omega) hit
  have k7 := Zht k6.wel x7
  -- the second one
  obtain ⟨top2,Z8,ht2,e8,k8⟩ := Uw k7.wel size s1 (lt200 (by omega))
  have g8 := k8.getL nw (x7.getL g6)
  have k9 : Kp w Z8 (Z8 ++ [O.lst (gs.map nT)]) := Kp.new k8.wel
  obtain ⟨it2,Z10,hit2,e10,k10⟩ := Uw k9.wel size s1 (lt200 (by omega))
  have ll8 : w < Z8.length := k8.wel.lt
  have nw8 : Z8.length ≠ w := by omega
  have g10 := k10.getL nw (k9.getL nw g8)
  have m10 : getL Z10 Z8.length = some (gs.map nT) := k10.getL nw8 (Zo Z8 _)
  obtain ⟨Z11,e11,x11⟩ := Zex ok1 ok1 n1 n1 hmb (by omega) (by omega) (fun d hd => hG d (by omega) (by omega)) g10 m10 (show top2 < gs.length by omega) (show it2 < gs.length by omega)
  have k11 := Zht k10.wel x11
  refine ⟨some (.loc Z.length), some (.loc ml), o8, Z11, ((((((kA.trans k5).trans k6).trans k7).trans k8).trans k9).trans k10).trans k11, Ye st1 (Ye st2 (Ye e4 (Ye (ρ' := cE o0 o1 w (some (.int (most : Int))) (some (.int (size : Int))) (some (.int (its : Int))) (some (.loc Z.length)) (some (.loc ml)) o8) (Z' := Z7) ?_ ?_)))⟩
  · have hul : ((us.map nT).length : Int) = (us.length : Int) := by rw [List.length_map]
    rw [← hul] at e6
    generalize us.map nT = US at *
    simp [cE,e5,m5,e6,e7]
  · have sl : gSl (.loc Z.length) none none Z8 = some (.loc Z8.length,Z8 ++ [.lst (gs.map nT)]) := by
      have hcut : cutL (gs.map nT) none none = gs.map nT := Zkc (gs.map nT)
      rw [sl_l,g8]
      show some (Fx.T.loc Z8.length,Z8 ++ [O.lst (cutL (gs.map nT) none none)]) = _
      rw [hcut]
    generalize Z8 ++ [O.lst (gs.map nT)] = Z9 at *
    simp [-sl_l,cE,e8,sl,e10,e11]
theorem Zn0 {Z : Sto} (c : Int) (o0 o2 o3 o4 o5 o6 o7 o8 : Option Fx.T) : ∃ p2 p3 p4 p5 p6 p7 p8 Z', (∀ j < Z.length, Z'[j]? = Z[j]?) ∧ Z6c [o0, some (.int c), o2, o3, o4, o5, o6, o7, o8] Z = .nx [o0, some (.int c), p2, p3, p4, p5, p6, p7, p8] Z' := by
  obtain ⟨a,b,d,ew⟩ := Zls c Z
  have hw : Wel (Z ++ [.lst [.int a,.int b,.int d]]) Z.length := ⟨a,b,d,Zo _ _⟩
  have l0 : (Z ++ [O.lst [.int a,.int b,.int d]]).length = Z.length + 1 := by simp
  obtain ⟨ZA,hZA⟩ : ∃ ZA,ZA = Z ++ [O.lst [.int a,.int b,.int d]] := ⟨_,rfl⟩
  have hpre : ∀ j < Z.length,ZA[j]? = Z[j]? := fun j hj => by rw [hZA,List.getElem?_append_left hj]
  rw [← hZA] at hw ew l0
  obtain ⟨tm,mm,Z1,e1,k1⟩ := Zhc (xs := [.int 2,.int 4]) hw (by decide) (by decide)
  obtain ⟨most,rfl,hm⟩ : ∃ most : Nat,tm = .int (most : Int) ∧ (most = 2 ∨ most = 4) := by
    simp at mm
    rcases mm with rfl | rfl
    · exact ⟨2,rfl,.inl rfl⟩
    · exact ⟨4,rfl,.inr rfl⟩
  obtain ⟨r,Z2,hr,e2,k2⟩ := Uw k1.wel (7 - most) (by omega) (lt200 (by omega))
  obtain ⟨q,Z3,hq,e3,k3⟩ := Uw k2.wel (6 - most) (by omega) (lt200 (by omega))
  have kA := (k1.trans k2).trans k3
  obtain ⟨size,its,hse,hie,hsz,s1,t1⟩ : ∃ size its : Nat,(if (9 / (most : Int) + 1) < 1 + (r : Int) then 9 / (most : Int) + 1 else 1 + (r : Int)) = (size : Int) ∧ (if 9 / (most : Int) < 1 + (q : Int) then 9 / (most : Int) else 1 + (q : Int)) = (its : Int) ∧ ((most = 2 ∧ size ≤ 5 ∧ its ≤ 5) ∨ (most = 4 ∧ size ≤ 3 ∧ its ≤ 3)) ∧ 1 ≤ size ∧ 1 ≤ its := by
    rcases hm with rfl | rfl
    · refine ⟨1 + r,1 + q,?_,?_,.inl ⟨rfl,by omega,by omega⟩,by omega,by omega⟩
      · rw [if_neg (by omega)]; omega
      · rw [if_neg (by omega)]; omega
    · refine ⟨1 + r,1 + q,?_,?_,.inr ⟨rfl,by omega,by omega⟩,by omega,by omega⟩
      · rw [if_neg (by omega)]; omega
      · rw [if_neg (by omega)]; omega
  obtain ⟨p6,p7,p8,Z4,k4,e4⟩ := Zmz (Z := Z3) (w := Z.length) (size := size) (its := its) (most := most) o0 (some (.int c)) o6 o7 o8 kA.wel hm s1 t1 hsz
  refine ⟨some (.loc Z.length),some (.int (most : Int)),some (.int (size : Int)),some (.int (its : Int)),p6,p7,p8,Z4,fun j hj => ?_,?_⟩
  · rw [(kA.trans k4).keep j (by omega) (by omega)]
    exact hpre j hj
  · have u1 : sSet 2 (eCall Uh [] (aCons (eVar 1) aNil)) [o0,some (.int c),o2,o3,o4,o5,o6,o7,o8] Z = .nx (cE o0 (some (.int c)) Z.length o3 o4 o5 o6 o7 o8) ZA := by simp [cE,ew]
    have u2 : sSet 3 (eCall Vb [] (aCons (eVar 2) (aCons (eLst (aCons (eC (.int 2)) (aCons (eC (.int 4)) aNil))) aNil))) (cE o0 (some (.int c)) Z.length o3 o4 o5 o6 o7 o8) ZA = .nx (cE o0 (some (.int c)) Z.length (some (.int (most : Int))) o4 o5 o6 o7 o8) Z1 := by simp [cE,e1]
    have c7 : (7 : Int) - (most : Int) = ((7 - most : Nat) : Int) := by omega
    have c6 : (6 : Int) - (most : Int) = ((6 - most : Nat) : Int) := by omega
    rw [← c7] at e2
    rw [← c6] at e3
    have u3 : sAsg (eTup (aCons (eBin gAdd (eC (.int 1)) (eCall Zk [] (aCons (eVar 2) (aCons (eBin gSub (eC (.int 7)) (eVar 3)) aNil)))) (aCons (eBin gAdd (eC (.int 1)) (eCall Zk [] (aCons (eVar 2) (aCons (eBin gSub (eC (.int 6)) (eVar 3)) aNil)))) aNil))) (gTp 2 (gsCons (gNm 4) (gsCons (gNm 5) gsNil))) (cE o0 (some (.int c)) Z.length (some (.int (most : Int))) o4 o5 o6 o7 o8) Z1 = .nx (cE o0 (some (.int c)) Z.length (some (.int (most : Int))) (some (.int (1 + (r : Int)))) (some (.int (1 + (q : Int)))) o6 o7 o8) Z3 := by
      simp [cE,e2,e3]
    have dv : ∀ Z,gDiv (.int 9) (.int (most : Int)) Z = some (.int (9 / (most : Int)),Z) := fun Z => by
      rw [div_ii,if_pos]
      rcases hm with rfl | rfl <;> decide
    have u4 : sAsg (eTup (aCons (eCallB gMin (aCons (eVar 4) (aCons (eBin gAdd (eBin gDiv (eC (.int 9)) (eVar 3)) (eC (.int 1))) aNil))) (aCons (eCallB gMin (aCons (eVar 5) (aCons (eBin gDiv (eC (.int 9)) (eVar 3)) aNil))) aNil))) (gTp 2 (gsCons (gNm 4) (gsCons (gNm 5) gsNil))) (cE o0 (some (.int c)) Z.length (some (.int (most : Int))) (some (.int (1 + (r : Int)))) (some (.int (1 + (q : Int)))) o6 o7 o8) Z3 = .nx (cE o0 (some (.int c)) Z.length (some (.int (most : Int))) (some (.int (size : Int))) (some (.int (its : Int))) o6 o7 o8) Z3 := by
      rw [← hse,← hie]
      simp [-div_ii,cE,dv]
    exact Ye u1 (Ye u2 (Ye u3 (Ye u4 e4)))
section
variable {o1 o2 o3 o4 o5 o6 o7 o8 : Option Fx.T}
theorem law_0 {Z : Sto} (ns : List Int) : ∃ Z', Zlk [some (.frl (ns.map .int)), o1, o2, o3, o4, o5, o6, o7, o8] Z = .rt (.bl true) Z' := by
  obtain ⟨s,hs⟩ : ∃ s,s = some (Fx.T.frl (ns.map .int)) := ⟨_,rfl⟩
  have cu : cutL (ns.map Fx.T.int) none (some 4) = (ns.take 4).map .int := by
    have := Zgm (ns.map Fx.T.int) 4
    rw [List.map_take]
    exact this
  have ad := Z61 Z.length (Z.length + 1) (Z ++ [O.lst ((ns.take 4).map .int)] ++ [O.lst [.int 0]]) (a := (ns.take 4).map .int) (b := [.int 0]) (by simp [getL]) (by simp [getL]) (by simp [Lim]; omega)
  obtain ⟨Z1,hZ1⟩ : ∃ Z1,Z1 = Z ++ [O.lst ((ns.take 4).map .int)] ++ [O.lst [.int 0]] ++ [O.lst ((ns.take 4).map .int ++ [.int 0])] := ⟨_,rfl⟩
  have hl : (Z ++ [O.lst ((ns.take 4).map Fx.T.int)] ++ [O.lst [.int 0]]).length = Z.length + 2 := by simp
  have g1 : getL Z1 (Z.length + 2) = some ((ns.take 4).map .int ++ [.int 0]) := by
    rw [hZ1,← hl]; exact Zo _ _
  obtain ⟨ρ2, Z2, e2, p1, p2, p3, p4, p5, p6, p7, p8, rfl, _⟩ := Zdg (i := Z.length + 2) (ts := (ns.take 4).map .int ++ [.int 0]) (body := fun t ρ' Z' => bS ρ' (gNm 1 t ρ' Z') Z6c) (ρ := [s, o1, o2, o3, o4, o5, o6, o7, o8]) (Z := Z1)
    (fun ρ Z' => ∃ p1 p2 p3 p4 p5 p6 p7 p8, ρ = [s, p1, p2, p3, p4, p5, p6, p7, p8] ∧ getL Z' (Z.length + 2) = some ((ns.take 4).map .int ++ [.int 0])) (by simp [Lim]; omega) (fun ρ Z' h => by obtain ⟨_, _, _, _, _, _, _, _, _, h⟩ := h; exact h) ⟨_, _, _, _, _, _, _, _, rfl, g1⟩
    (fun x hx ρ Z' h => by
      obtain ⟨p1,p2,p3,p4,p5,p6,p7,p8,rfl,g⟩ := h
      obtain ⟨c,rfl⟩ : ∃ c,x = .int c := by
        rcases List.mem_append.mp hx with h | h
        · obtain ⟨c,_,rfl⟩ := List.mem_map.mp h
          exact ⟨c,rfl⟩
        · exact ⟨0,List.mem_singleton.mp h⟩
      obtain ⟨q2, q3, q4, q5, q6, q7, q8, Z'', hk, e⟩ := Zn0 (Z := Z') c s p2 p3 p4 p5 p6 p7 p8
      refine ⟨[s, some (.int c), q2, q3, q4, q5, q6, q7, q8], Z'', by simp [e], _, _, _, _, _, _, _, _, rfl, ?_⟩
      have hlt := Z8t g
      rw [Uu] at g ⊢
      rw [hk _ hlt]; exact g)
  refine ⟨Z2,?_⟩
  have hf : sFor (iAny (eBin gAdd (eSl (eVar 0) oNone (oSome (eC (.int 4)))) (eLst (aCons (eC (.int 0)) aNil)))) (gNm 1) Z6c [s,o1,o2,o3,o4,o5,o6,o7,o8] Z = .nx [s,p1,p2,p3,p4,p5,p6,p7,p8] Z2 := by
    have hi : iAny (eBin gAdd (eSl (eVar 0) oNone (oSome (eC (.int 4)))) (eLst (aCons (eC (.int 0)) aNil))) [s,o1,o2,o3,o4,o5,o6,o7,o8] Z = .ok (itLoc (Z.length + 2)) Z1 := by
      rw [hl] at ad
      rw [hZ1] at g1 ⊢
      generalize (ns.take 4).map Fx.T.int = M at *
      generalize ns.map Fx.T.int = N at *
      simp only [lcat,List.cons_append,List.nil_append] at ad g1 ⊢
      simp [-Za9,hs,cu,ad,g1]
    rw [Zdb,hi,Z0k]
    exact e2
  rw [← hs]
  exact Ye hf rfl
end
theorem law_true (ns : List Int) (hn : ns.length ≤ 63) : ∃ Z,Zj7 [.frl (ns.map .int)] [] = .ok (.bl true) Z := by
  obtain ⟨Z1,e1⟩ := law_0 (o1 := none) (o2 := none) (o3 := none) (o4 := none) (o5 := none) (o6 := none) (o7 := none) (o8 := none) (Z := []) ns
  exact ⟨Z1,Vz (n := 9) (as := [.frl (ns.map .int)]) e1⟩
end Ap
set_option maxHeartbeats 4000000
open PySem PySem.W PySem.Calls PyProof.Rows
set_option maxHeartbeats 0 in
theorem PySem.Challenge.cw_anchorpages_k42_whole_equal_just_if_unfo_holds : PySem.Challenge.rw_anchorpages_k42_whole_equal_just_if_unfo.Holds := by
  refine Ap.pre_law ?_
  refine HandSHeadRun.head_any (r := OpenLaw.row PySem.Challenge.rw_anchorpages_k42_whole_equal_just_if_unfo) (q := view (OpenLaw.row PySem.Challenge.rw_anchorpages_k42_whole_equal_just_if_unfo).prog [45]) (H := Ap.hk5) (ob := Ap.ob5) (M := 6760) (loose := Ap.nms) (d := HandSHeadRun.topDef (OpenLaw.row PySem.Challenge.rw_anchorpages_k42_whole_equal_just_if_unfo).prog 45) (kwd := []) Ap.Zl0
    (by kernel_rfl) (fun s => by kernel_rfl) Ap.run5 (by kernel_rfl) (by kernel_rfl) (by kernel_rfl) (by rfl) (by first | assumption | decide +kernel) (by decide +kernel) ⟨rfl,rfl,rfl,rfl,rfl,by decide +kernel⟩ ?hw ?hc
  case hw => w_witness2
  case hc =>
    refine Fx.Zi8 (m := 0) (l := PySem.Challenge.rw_anchorpages_k42_whole_equal_just_if_unfo) (n := 63) (k := 58) (x := "_law_script") (F := Ap.Zj7) (fun _ _ => trivial) rfl (by decide) (by kernel_rfl) ⟨rfl, by decide, by decide⟩ ?F Ap.law_true
    intro w mg K C
    have e : (HandSHeadRun.topDef (OpenLaw.row PySem.Challenge.rw_anchorpages_k42_whole_equal_just_if_unfo).prog 45).name = ("law" : PySem.Str) := by kernel_rfl
    rw [e]
    exact ⟨_,Ap.Zln C,fun s v => L2.FunD.bindsA (ps := Ap.Zig) (Ap.Zha C) (fun _ _ _ _ _ _ us hl => match us,hl with | [_],_ => rfl) s [v] rfl,fun base => Ap.Zlr C⟩
#print axioms PySem.Challenge.cw_anchorpages_k42_whole_equal_just_if_unfo_holds

