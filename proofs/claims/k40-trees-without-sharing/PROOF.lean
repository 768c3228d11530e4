import PyProof.Rows.All
import Wide.All
import OpenK.AllK
import Wide.FinOn
import HandS.ForMost
import HandS.IsInst
import HandS.StrMore
import HandS.More
import HandS.Codes
import HandS.Flow
import HandS.Style
import HandS.Walk
import HandS.RaiseMore
import HandS.Defaults
import HandS.Evl
import HandS.ReplaceLit
import HandS.ReplaceList
import HandS.ReplaceDef
import HandS.ForExc
import HandS.CallSlots
import HandS.TupAny
import HandS.Lambda
import HandS.Wide
import HandS.ExcInit
import HandS.ExcField
import HandS.ExcIs
import KE.GoesMore
import KE.KIntText
import PyProof.Rows.StrOr
import PyProof.Rows.Digits
import HandS.Replace
import HandS.Property
import HandS.Zip
import HandS.TupLe
import PyProof.DefCall
import HandS.ClsMeth
import HandS.EndTab
import HandS.HeadWalk
import HandS.Head0
import HandS.Head1
import HandS.Head2
import HandS.HeadEnd
import HandS.HeadHook1
import HandS.HeadHook2
import HandS.HeadHook3
import HandS.HeadHook4
import Wide.Once
import HandS.NoneIn
import HandS.Small
import PyProof.InstEq
import HandS.TupMul
import HandS.Star
import HandS.DictComp
import HandS.Conv
import HandS.Iter
import HandS.SortRule
import HandS.SortInts
import HandS.DictTup
import HandS.TryMany
import HandS.ExcOwn
import PySem.Challenge.RW_anchorpages_k40_trees_without_sharing
set_option Elab.async false
set_option linter.all false
set_option maxRecDepth 100000
set_option maxHeartbeats 4000000
namespace Ap
open PySem PySem.Spec PyProof.Rows L2 SX
theorem Qe {H : Hp} {p : Addr} {o : HO} (h : H p = none) : Same H (upd H p o) := fun b x e => by
  rw [upd_ne (ne_of_none e h)]
  exact e
theorem fin {Q : VK} {H H' : Hp} {b b' : Bool} (q : ∀ H', Same H H' → Q (.bl b) H') (sm : Same H H') (e : b' = b) : Q (.bl b') H' := by
  rw [e]; exact q H' sm
def cutL {α : Type} (l : List α) (lo hi : Option Int) : List α := (l.drop (HT.sIx l.length 0 lo)).take (HT.sIx l.length l.length hi - HT.sIx l.length 0 lo)
theorem Zhd (l : List Nat) (lo hi : Option Int) : cutS (S l) lo hi = S (cutL l lo hi) := rfl
theorem Zeq {α : Type} (l : List α) (n : Nat) : cutL l none (some (n : Int)) = l.take n := by
  unfold cutL
  rw [HT.sIx_nat,HT.sIx_none,Nat.sub_zero,List.drop_zero]
  by_cases h : n ≤ l.length
  · rw [Nat.min_eq_left h]
  · rw [Nat.min_eq_right (by omega),List.take_of_length_le (Nat.le_refl _),List.take_of_length_le (by omega)]
theorem Z9d {α : Type} (l : List α) (n : Nat) : cutL l (some (n : Int)) none = l.drop n := by
  unfold cutL
  rw [HT.sIx_nat,HT.sIx_none]
  by_cases h : n ≤ l.length
  · rw [Nat.min_eq_left h,List.take_of_length_le (by rw [List.length_drop]; exact Nat.le_refl _)]
  · rw [Nat.min_eq_right (by omega),List.drop_of_length_le (Nat.le_refl _),List.drop_of_length_le (by omega)]
    exact List.take_nil
theorem szS {l : List Nat} (h : l.length ≤ 100000) : (S l).length ≤ sizeLine := by
  rw [S_len]; exact Nat.le_trans h (by decide)
theorem sz (n : Nat) (h : n ≤ 100000) : n ≤ sizeLine := Nat.le_trans h (by decide)
theorem eqV_S (a b : List Nat) : eqV (.str (S a)) (.str (S b)) = decide (b = a) := by
  show (S a == S b) = _
  rw [S_beq_eq]
  by_cases h : a = b
  · rw [decide_eq_true h,decide_eq_true h.symm]
  · rw [decide_eq_false h,decide_eq_false (Ne.symm h)]
def SameX (a : Addr) (H H' : Hp) : Prop := ∀ b o, b ≠ a → H b = some o → H' b = some o
theorem SameX.refl (a : Addr) (H : Hp) : SameX a H H := fun _ _ _ h => h
theorem SameX.of {a : Addr} {H H' : Hp} (s : Same H H') : SameX a H H' := fun b o _ h => s b o h
theorem SameX.trans {a : Addr} {H H1 H2 : Hp} (s : SameX a H H1) (t : SameX a H1 H2) : SameX a H H2 := fun b o n h => t b o n (s b o n h)
theorem SameX.upd {a : Addr} {H H' : Hp} {o : HO} (s : SameX a H H') : SameX a H (L2.upd H' a o) := fun b u n h => by
  rw [upd_ne n]; exact s b u n h
theorem SameX.thn {a : Addr} {H H1 H2 : Hp} (s : SameX a H H1) (t : Same H1 H2) : SameX a H H2 := s.trans (.of t)
theorem SameX.seqL {K : PySem.W.Frag} {a b : Addr} {H H' : Hp} {xs : List V} (s : SameX a H H') (hn : b ≠ a) (h : SqL K H b xs) : SqL K H' b xs := by
  rcases h with (h | ⟨o,h⟩) | h
  · exact .inl (.inl (s _ _ hn h))
  · exact .inl (.inr ⟨o,s _ _ hn h⟩)
  · exact .inr h
def StOk (ns : List Int) : Prop := ns.length = 1 ∨ ns.length = 3
def DrAt (a : Addr) (H : Hp) : Prop := ∃ ns : List Int,H a = some (.lst (ns.map V.int)) ∧ StOk ns
theorem DrAt.same {a : Addr} {H H' : Hp} (d : DrAt a H) (s : Same H H') : DrAt a H' := let ⟨ns, h, k⟩ := d; ⟨ns, s _ _ h, k⟩
theorem DrAt.ne {a p : Addr} {H : Hp} (d : DrAt a H) (h : H p = none) : p ≠ a := fun e => by
  obtain ⟨ns,ha,_⟩ := d
  rw [e,ha] at h; cases h
theorem DrAt.upd {a p : Addr} {H : Hp} {o : HO} (d : DrAt a H) (h : p ≠ a) : DrAt a (upd H p o) := by
  obtain ⟨ns,ha,k⟩ := d
  exact ⟨ns,by rw [upd_ne (Ne.symm h)]; exact ha,k⟩
theorem SameX.new {a p : Addr} {H H' : Hp} {o : HO} (s : SameX a H H') (h : H' p = none) : SameX a H (L2.upd H' p o) := s.thn (Qe h)
theorem SameX.mut {a p : Addr} {H H' : Hp} {o : HO} (s : SameX a H H') (h : H p = none) : SameX a H (L2.upd H' p o) := fun b u n e => by
  rw [upd_ne (ne_of_none e h)]; exact s b u n e
end Ap
set_option maxHeartbeats 4000000
namespace Ap
open PySem PySem.Spec PyProof.Rows L2 SX
structure GOk (P : Program) (w : World) (K : PySem.W.Frag) (mg : Str → Option Value) (base : Heap) (C : CXT) (k : Nat)
    (f : Addr) (fd : FuncData) (ps : List Str) (sp : Sp) : Prop where
  len : ∀ vs H Q E,sp vs H Q E → vs.length = ps.length
  run : ∀ (A : Around) (outer : List Env) (s : Shared) (H : Hp) (as : Args) (us : List Value) (vs : List V) (Q : VK) (E : XK),
    Room k A → A.guards = some [] → Env0 P w K mg base A outer s H → BindsTo s fd as (ps.zip us) → Vals vs us →
    sp vs H Q E → codeAny (model P w) A (.call (.ref f) as) (CR C outer P w H s Q E) s
theorem GOk.of {P : Program} {w : World} {K : PySem.W.Frag} {mg : Str → Option Value} {base : Heap} {C : CXT} {k : Nat}
    {f : Addr} {fd : FuncData} {ps : List Str} {sp : Sp} (F : FnOk P w K mg base C k f fd ps sp) : GOk P w K mg base C k f fd ps sp :=
  ⟨F.len,fun A outer s H as us vs Q E r _ => F.run A outer s H as us vs Q E r⟩
theorem Zah {X : Cx} (hG : X.A.guards = some []) (hu : X.A.units + 64 < cLine) :
    CallR X (.builtin "repr") (fun xs H Q => ∃ (a : Addr) (d : PyData), xs = [.ref a] ∧ Dp X.K H (.ref a) d ∧ d.showable = true ∧
      d.hasDict = false ∧ d.depth ≤ 62 ∧ d.shown.length ≤ sizeLine ∧ Q (.str d.shown) H) := by
  intro pins s σ H xs us Q I r h
  obtain ⟨a,d,rfl,hd,hs,hn,hp,hz,q⟩ := h
  obtain ⟨u,rfl,ru⟩ := vals1 r
  cases (show u = Value.ref a from ru)
  obtain ⟨as,rd⟩ := Dp.reads I d _ _ hd rfl
  refine repr_of_reads' rd hs (fun z => absurd z (by rw [hn]; simp)) hG (by omega) (fun _ _ e => e) ?_ hz
  intro h' u tk hk
  exact ⟨.str _,H,I.kept hk,⟨_,rfl⟩,q⟩
end Ap
set_option maxHeartbeats 4000000
namespace Ap
open PySem PySem.Spec PyProof.Rows L2 SX
def repL (n : Nat) (l : List Nat) : List Nat := (List.replicate n l).flatten
theorem Z9e (a : Array Nat) : ∀ (n : Nat) (b : Array Nat),((List.replicate n a).foldl (· ++ ·) b).toList = b.toList ++ repL n a.toList
  | 0,b => by simp [repL]
  | n + 1,b => by
    rw [List.replicate_succ,List.foldl_cons,Z9e a n]
    unfold repL
    rw [List.replicate_succ,List.flatten_cons,Array.toList_append,List.append_assoc]
theorem Zdh (n : Nat) : repL n [] = [] := by
  induction n with
  | zero => rfl
  | succ n ih => unfold repL at *; rw [List.replicate_succ,List.flatten_cons,ih]; rfl
theorem Zdi (n : Nat) (l : List Nat) : (repL n l).length = n * l.length := by
  induction n with
  | zero => simp [repL]
  | succ n ih => unfold repL at *; rw [List.replicate_succ,List.flatten_cons,List.length_append,ih,Nat.succ_mul,Nat.add_comm]
def rMulS : R2 := fun x y H Q => ∃ (l : List Nat) (k : Int),x = .str (S l) ∧ y = .int k ∧ -100000 ≤ k ∧ k ≤ 100000 ∧ l.length * k.toNat ≤ 100000 ∧ Q (.str (S (repL k.toNat l))) H
theorem Zai {X : Cx} : OpR X (binaryOp .Mult) rMulS := by
  intro pins s σ H x y v u Q I rx ry h
  obtain ⟨l,k,rfl,rfl,k0,k1,hz,q⟩ := h
  obtain ⟨t,rfl⟩ := rx
  obtain ⟨t2,rfl⟩ := ry
  have hl : (S l).length = l.length := S_len l
  refine PySem.P.mul_str ?_ (fun h1 h2 => ?_) (fun h1 h2 => ?_) ?_
  · rw [decide_eq_false (by omega),decide_eq_false (by omega)]; rfl
  · rw [hl]
    obtain ⟨m,rfl⟩ : ∃ m : Nat,k = (m : Int) := ⟨k.toNat,by omega⟩
    have hm : 0 < m := by omega
    have : l.length ≤ 100000 := by
      have : l.length * 1 ≤ l.length * m := Nat.mul_le_mul_left _ hm
      simp only [Int.toNat_natCast] at hz
      omega
    have h3 : (100000 : Int) ≤ (2 ^ 63 - 1) / (m : Int) := by
      rw [Int.le_ediv_iff_mul_le (by omega)]
      have : (m : Int) ≤ 100000 := k1
      omega
    omega
  · rw [hl]
    unfold Builtin.Str.tooLong
    exact decide_eq_false (by have := sizeLine_eq; omega)
  · by_cases h1 : k < 1
    · rw [if_pos h1]
      have e : k.toNat = 0 := by omega
      rw [e] at q
      exact ⟨by decide,⟨.str (S []),H,I.tok _,⟨_,rfl⟩,q⟩⟩
    · rw [if_neg h1]
      by_cases h2 : (k == 1 || (S l).length == 0) = true
      · rw [if_pos h2]
        have e : repL k.toNat l = l := by
          rw [hl,Bool.or_eq_true,beq_iff_eq,beq_iff_eq] at h2
          rcases h2 with rfl | h2
          · show repL 1 l = l
            simp [repL]
          · rw [List.length_eq_zero_iff.mp h2]; exact Zdh _
        rw [e] at q
        exact ⟨.str (S l),H,I,⟨t,rfl⟩,q⟩
      · rw [if_neg h2]
        have e : (⟨(List.replicate k.toNat (S l).cps).foldl (· ++ ·) #[]⟩ : Str) = S (repL k.toNat l) := by
          have := Z9e (S l).cps k.toNat #[]
          rw [show (S l).cps.toList = l from rfl] at this
          show Str.mk _ = Str.mk _
          congr 1
          apply Array.ext'
          rw [this]; rfl
        rw [e]
        refine ⟨?_,⟨.str _,H,I.tok _,⟨_,rfl⟩,q⟩⟩
        rw [S_len,Zdi,Nat.mul_comm]
        have := sizeLine_eq
        omega
def IteS (x : Str) : It :=
  ⟨fun i _ => i < x.cps.size, fun i H v H' => ∃ T c, v = .ref T ∧ H T = none ∧ H' = upd H T (.tup [.int (i : Nat), .str ⟨#[c]⟩]) ∧ x.cps[i]? = some c, fun i _ => i = x.cps.size⟩
theorem Z7g {P : Program} {w : World} {A : Around} (hh : A.handled = none) (it : Addr) (x : Str) (t : Tok) :
    Draws P w A it [it] x.cps.size (fun i v => ∃ c u,x.cps[i]? = some c ∧ v = .str ⟨#[c]⟩ u) (fun i h => h.IsStrIter it (strIterType x) x t i) := by
  unfold strIterType
  split
  · exact Draws.strAscii hh it x t
  · exact Draws.strWide hh it x t
theorem Zaj {P : Program} {w : World} {K : PySem.W.Frag} {elts : List Expr} {kk : Nat} {tpos : Pos} (x : Str) (t : Tok) (e it : Addr) :
    Turn P w K (.Tuple elts kk tpos) (IteS x) [e,it] e (fun i h => (∃ old,IsEnum h e it ((i : Nat) : Int) old) ∧ h.IsStrIter it (strIterType x) x t i ∧ e ≠ it) where
  mem := List.mem_cons_self
  obj := by
    intro i h ⟨⟨old,he⟩,⟨o,ho,hc,hd⟩,_⟩ b hb
    rcases List.mem_cons.mp hb with rfl | hb
    · exact ⟨_,he,fun v q => nomatch q⟩
    · cases List.mem_singleton.mp hb
      exact ⟨o,ho,fun v q => by rw [hd] at q; cases q⟩
  keep := by
    intro i h h' ⟨⟨old, he⟩, ⟨o, ho, r⟩, hne⟩ k
    exact ⟨⟨old,k e List.mem_cons_self _ he⟩,⟨o,k it (List.mem_cons_of_mem _ List.mem_cons_self) o ho,r⟩,hne⟩
  item := by
    intro X hP hw hK hc i pins s σ H E I hf ⟨⟨old,he⟩,hit,hne⟩ hg
    cases hP; cases hw; cases hK
    have le : e < s.heap.objs.size := Heap.lt_size he
    have li : it < s.heap.objs.size := Heap.lt_size hit.choose_spec.1
    refine wpAny_pyNext_enum_itemD (Z7g (A := X.A.in1) (I.ok.hd hc) it x t) he hit hg hne (by simpa using hne) ?_
    rintro v h' tk ⟨c, u, hx, rfl⟩ ho st hT hsz hk
    refine ⟨_, rfl, wpAny_letOwnedTupleGo_enum (s := { s with heap := h', toks := tk + 1 }) ho ?_⟩
    intro h'' he' sb
    have hT2 := (sb.2 s.heap.objs.size (Nat.ne_of_gt le)).trans hT
    have new : ObjOk X.prog X.w (upd H s.heap.objs.size (.tup [.int (i : Nat), .str ⟨#[c]⟩])) h'' s.heap.objs.size (.tup [.int (i : Nat), .str ⟨#[c]⟩]) :=
      ⟨by show 2 ≤ sizeLine; decide,[.int i tk,.str ⟨#[c]⟩ u],.cons ⟨_,rfl⟩ (.cons ⟨_,rfl⟩ .nil),⟨_,hT2,rfl,_,rfl⟩⟩
    have I1 := I.turnedNew (t' := tk + 1) (ch := [e, it]) (fun b ob hb q => (sb.2 b (fun z => hb (by simp [z]))).trans (hk b ob (fun z => hb (by simp [z])) (fun z => hb (by simp [z])) q)) hf (Nat.le_refl _) new
    refine ⟨.ref s.heap.objs.size,_,I1,rfl,⟨_,c,rfl,I.hok.fresh (Nat.le_refl _),rfl,hx⟩,⟨⟨.str ⟨#[c]⟩ u,?_⟩,?_,hne⟩,?_⟩
    · rw [show ((i + 1 : Nat) : Int) = (i : Int) + 1 by omega]; exact he'
    · obtain ⟨o,o1,o2⟩ := st
      exact ⟨o,(sb.2 it (Ne.symm hne)).trans o1,o2⟩
    · intro b hb
      have : b < s.heap.objs.size := by
        rcases List.mem_cons.mp hb with rfl | hb
        · exact le
        · cases List.mem_singleton.mp hb; exact li
      rw [upd_ne (Nat.ne_of_lt this)]
      exact (hf b hb).1
  done := by
    intro X hP hw hK hc i pins s σ H E I hf ⟨⟨old,he⟩,hit,hne⟩ hg
    cases hP; cases hw; cases hK
    cases (show i = x.cps.size from hg)
    obtain ⟨f0,f1,f2,f3,f4,f5⟩ := hf it (List.mem_cons_of_mem _ List.mem_cons_self)
    refine wpAny_pyNext_enum_endD (Z7g (A := X.A.in1) (I.ok.hd hc) it x t) he hit ?_
    intro h' eb
    exact ⟨rfl, I.turned (t' := s.toks) (fun b o hb q => eb b o hb q) f0 f1 f3 f4 f5⟩
  self := by
    intro A i s Q E ⟨⟨_,he⟩,_⟩ h
    exact wpAny_pyIter_enum he h
def iEnumS (ta : TA) : TI := fun σ H R => ta σ H fun vs H1 => ∃ x : Str,vs = [.str x] ∧ R (IteS x) H1
theorem Zdj {X : Cx} {e : Expr} {ta : TA} {p pos tpos : Pos} {elts : List Expr} {kk : Nat} (hg : Gl X "enumerate") (hm : X.mg "enumerate" = none)
    (ha : PA X [e] ta) (hs : starEach [e] X.env = [(false,eval e X.env)] := by rfl) :
    PI X (.Tuple elts kk tpos) (.Call (.Name "enumerate" p) [e] [] pos) (iEnumS ta) := by
  constructor
  intro pins s σ H R I h
  refine Call_ (ld_blt I hg hm boot_enumerate (PyProof.Rows.callWith_type1 ?_ hs rfl))
  refine thn (ha.run pos pins s σ H _ I h) ?_
  rintro us s1 ⟨vs,H1,I1,r1,x,rfl,q⟩
  obtain ⟨u,rfl,t,rfl⟩ := vals1 r1
  refine call_enumerate_str ?_
  intro h' he hit hsz hk
  refine wpAny_pyIter_enum he ?_
  have I2 : Inv X pins σ H1 { s1 with heap := h' } := I1.kept (t' := s1.toks) hk
  refine ⟨s1.heap.objs.size + 1,[s1.heap.objs.size + 1,s1.heap.objs.size],_,_,H1,rfl,I2,Zaj x t _ _,⟨⟨.none,he⟩,hit,Nat.succ_ne_self _⟩,?_,q⟩
  intro b hb
  have hle : s1.heap.objs.size ≤ b := by
    rcases List.mem_cons.mp hb with rfl | hb
    · exact Nat.le_add_right _ _
    · cases List.mem_singleton.mp hb; exact Nat.le_refl _
  exact I1.fpOk hle (I1.hok.fresh hle)
end Ap
set_option maxHeartbeats 4000000
namespace Ap
open PySem PySem.Spec PyProof.Rows L2 SX
end Ap
set_option maxHeartbeats 4000000
namespace Ap
open PySem PySem.Spec PyProof.Rows L2 SX
def lst (c : Nat) (l : List Nat) : List Nat := l.drop (l.takeWhile (· == c)).length
def dec (i : Int) : List Nat := (toString i : Str).cps.toList
theorem Zfr (i : Int) : (toString i : Str) = S (dec i) := (S_tl _).symm
theorem Zbc {P : Program} {w : World} {K : PySem.W.Frag} {mg : Str → Option Value} {base : Heap} {x qual : Str} {params : Arguments} {body : List Stmt} {scope : Scope} {dvs : List V} {kws : List (Str × V)} {f : Addr} {fd : FuncData}
    {N ps : List Str} {k : Nat} {sp : Sp} (F : FunD K x qual params body scope dvs kws f fd) (S : FnScope N ps scope) (len : ∀ vs H Q E,sp vs H Q E → vs.length = ps.length)
    (hbody : ∀ (cdv : Value) (A : Around) (outer : List Env) (s : Shared) (H : Hp) (vs : List V) (Q : VK) (E : XK),Room k (A.deeper (envOfC qual scope s.heap.objs.size f cdv)) → sp vs H Q E →
      ∃ t, PSs (cxOf CX0 P w K mg base N qual scope f cdv A outer s H E).nox body t ∧ t { nx := fun _ H' => Q .non H', rt := Q } (start N vs) H) : FnOk P w K mg base CX0 (k + 1) f fd ps sp :=
  F.ok S len fun cdv A outer s H vs Q E hr h => let ⟨t,p,q⟩ := hbody cdv A outer s H vs Q E hr h; ⟨t,p.nox,q⟩
def LsAll (H : Hp) : List Addr → List (List V) → Prop
  | [],[] => True
  | q :: qs,y :: ys => H q = some (.lst y) ∧ LsAll H qs ys
  | _,_ => False
theorem LsAll.to {H H' : Hp} : ∀ {qs : List Addr} {yss : List (List V)}, LsAll H qs yss → (∀ q y, q ∈ qs → H q = some (.lst y) → H' q = some (.lst y)) → LsAll H' qs yss
  | [],[],_,_ => trivial
  | q :: qs, y :: ys, h, k => ⟨k q y List.mem_cons_self h.1, h.2.to fun q' y' hq => k q' y' (List.mem_cons_of_mem _ hq)⟩
  | [],_ :: _,h,_ => h
  | _ :: _,[],h,_ => h
theorem LsAll.same {H H' : Hp} {qs : List Addr} {yss : List (List V)} (h : LsAll H qs yss) (s : Same H H') : LsAll H' qs yss := h.to fun q y _ e => s q _ e
theorem LsAll.ne {H : Hp} {p : Addr} (hp : H p = none) : ∀ {qs : List Addr} {yss : List (List V)},LsAll H qs yss → ∀ q ∈ qs,q ≠ p
  | q :: qs,y :: ys,h,x,hx => by
    rcases List.mem_cons.mp hx with rfl | hx
    · intro e
      have h1 := h.1
      rw [e,hp] at h1
      cases h1
    · exact h.2.ne hp x hx
  | [],_,_,_,hx => nomatch hx
  | _ :: _,[],h,_,_ => h.elim
theorem LsAll.len {H : Hp} : ∀ {qs : List Addr} {yss : List (List V)},LsAll H qs yss → qs.length = yss.length
  | [],[],_ => rfl
  | _ :: _,_ :: _,h => by rw [List.length_cons,List.length_cons,h.2.len]
  | [],_ :: _,h => h.elim
  | _ :: _,[],h => h.elim
theorem LsAll.get {H : Hp} : ∀ {qs : List Addr} {yss : List (List V)} {i : Nat} {x : V},LsAll H qs yss → (qs.map V.ref)[i]? = some x → ∃ q y,x = .ref q ∧ yss[i]? = some y ∧ H q = some (.lst y)
  | q :: qs,y :: ys,0,x,h,e => ⟨q,y,(Option.some.inj e).symm,rfl,h.1⟩
  | q :: qs,y :: ys,i + 1,x,h,e => by
    obtain ⟨q', y', e1, e2, e3⟩ := LsAll.get (i := i) h.2 (by simpa using e)
    exact ⟨q', y', e1, by simpa using e2, e3⟩
  | [],[],i,x,h,e => by simp at e
  | [],_ :: _,_,_,h,_ => h.elim
  | _ :: _,[],_,_,h,_ => h.elim
def cont (H : Hp) : V → List V
  | .ref q => match H q with
    | some (.lst y) => y
    | _ => []
  | _ => []
theorem LsAll.cont {H : Hp} {α : Type} (f : List V → α) : ∀ {qs : List Addr} {yss : List (List V)},LsAll H qs yss → (qs.map V.ref).map (fun x => f (cont H x)) = yss.map f
  | [],[],_ => rfl
  | q :: qs,y :: ys,h => by
    rw [List.map_cons,List.map_cons,List.map_cons,h.2.cont f]
    have e : Ap.cont H (.ref q) = y := by
      show (match H q with
        | some (.lst y) => y
        | _ => []) = y
      rw [h.1]
    rw [e]
  | [],_ :: _,h => h.elim
  | _ :: _,[],h => h.elim
def EvLL (te : TE) (σ : L2.St) (H : Hp) (yss : List (List V)) : Prop :=
  ∀ H1,Same H H1 → ∀ Q : VK,(∀ p qs H2,H1 p = none → Same H1 H2 → H2 p = some (.lst (qs.map V.ref)) → LsAll H2 qs yss → Q (.ref p) H2) → te σ H1 Q
theorem EvLL.is {te : TE} {σ : L2.St} {H : Hp} {a b : List (List V)} (h : EvLL te σ H a) (e : a = b) : EvLL te σ H b := e ▸ h
end Ap
set_option maxHeartbeats 4000000
namespace Ap
open PySem PySem.Spec PyProof.Rows L2 SX
def rOr (r1 r2 : R2) : R2 := fun x y H Q => r1 x y H Q ∨ r2 x y H Q
def rOrC (r1 r2 : List V → Hp → VK → Prop) : List V → Hp → VK → Prop := fun xs H Q => r1 xs H Q ∨ r2 xs H Q
theorem Z3g {X : Cx} {f : Value} {r1 r2 : List V → Hp → VK → Prop} (h1 : CallR X f r1) (h2 : CallR X f r2) : CallR X f (rOrC r1 r2) := fun pins s σ H xs us Q I rs h =>
  h.elim (h1 pins s σ H xs us Q I rs) (h2 pins s σ H xs us Q I rs)
open PySem.Builtin PySem.Builtin.Str in
theorem Zfs (x : Str) (t : Tok) (a : Addr) : ∃ other : Sem Fin,«str.startswith» ⟨[.str x t,.ref a],[]⟩ = (do
    if let some p ← asStr? (.ref a) then return ← ret (.bool (0 + p.length ≤ min x.length x.length && subAt x p 0))
    if ← isInstance (.ref a) (.type "tuple") then
      rule s!"str.startswith.tuple"
      let some items ← seqItems? (.ref a) | unsupported s!"internal:str.startswith"
      for y in items do
        match ← asStr? y with
        | some p => if 0 + p.length ≤ min x.length x.length && subAt x p 0 then return ← ret (.bool true)
        | none =>
          rule s!"str.startswith.tuple-item-not-str"
          raiseError "TypeError" s!"tuple for startswith must only contain str, not {← typeNameOf y}"
      return ← ret (.bool false)
    other) := ⟨_,rfl⟩
open PySem.Builtin PySem.Builtin.Str in
theorem Zdk (x : Str) (t : Tok) (a : Addr) (l : List (Str × Tok)) :
    Meets («str.startswith» ⟨[.str x t, .ref a], []⟩) (fun _ R s => (∃ o n, s.heap.get? a = some o ∧ o.cls = .type "tuple" ∧ o.data = .seq (strValues l).toArray n) ∧ R (.ok (.ret (.bool (l.any fun p => Txt.startswith x p.1)))) s) := by
  obtain ⟨other,htree⟩ := Zfs x t a
  intro prog w A R s ⟨⟨o,n,ho,hc,hdata⟩,hpost⟩
  rw [htree]
  refine wpAny_bind ?_
  unfold asStr?
  refine wpAny_bind (wpAny_load ho ?_)
  rw [hdata]
  refine wpAny_pure ?_
  refine wpAny_bind (wpAny_isInstance (T := "tuple") ⟨o, ho, hc⟩ isSubtype_tuple_tuple ?_)
  refine wpAny_bind (wpAny_rule ?_)
  refine wpAny_bind (wpAny_seqItems ho hdata ?_)
  refine wpAny_bind ?_
  rw [← Array.forIn_toList,List.toList_toArray]
  refine wpAny_forIn_list _ (fun rest r s' => r.1 = none ∧ s' = s ∧ ∃ m : List (Str × Tok), rest = strValues m ∧ (l.any fun p => Txt.startswith x p.1) = (m.any fun p => Txt.startswith x p.1)) _ ?_ ?_ _ _ ⟨rfl, rfl, l, rfl, rfl⟩
  · rintro v rest r s' ⟨hr, rfl, m, hm, e⟩
    match m,hm with
    | (y,u) :: m,hm =>
      cases hm
      refine wpAny_bind (wpAny_pure ?_)
      cases hb : Txt.startswith x y
      · have hb' := hb
        unfold Txt.startswith at hb'
        simp only [Nat.min_self, hb']
        refine wpAny_pure ⟨rfl,rfl,m,rfl,?_⟩
        rw [e,List.any_cons,hb,Bool.false_or]
      · have hb' := hb
        unfold Txt.startswith at hb'
        simp only [Nat.min_self, hb']
        rw [if_pos trivial]
        refine wpAny_bind (wpAny_pure (wpAny_pure (wpAny_pure ?_)))
        rw [e,List.any_cons,hb,Bool.true_or] at hpost
        exact hpost
  · rintro ⟨r1, r2⟩ s' ⟨hr, rfl, m, hm, e⟩
    simp only at hr
    subst hr
    match m,hm with
    | [],_ =>
      rw [e] at hpost
      exact wpAny_pure hpost
abbrev rSwT (K : PySem.W.Frag) : V → List V → Hp → VK → Prop := fun x xs H Q => ∃ (a : Str) (p : Addr) (ys : List Str),x = .str a ∧ xs = [.ref p] ∧ SqT K H p (ys.map V.str) ∧ Q (.bl (ys.any fun y => Txt.startswith a y)) H
theorem Z5r {X : Cx} : MtR X "str.startswith" (rSwT X.K) := by
  intro pins s σ H x xs v us Q I rx rs h
  obtain ⟨a,p,ys,rfl,rfl,hp,q⟩ := h
  obtain ⟨t,rfl⟩ := rx
  cases rs with
  | cons r1 rs =>
    cases rs
    cases r1
    obtain ⟨its,r,ht,_⟩ := I.tuple hp
    obtain ⟨l,hv,hy⟩ := strsAre_values (strs_of_vals r)
    obtain ⟨o,ho,hc,n,hd⟩ := ht
    refine call_meets F.slot_str_startswith (typeIs_str _ _ _) F.entry_str_startswith (F.args_str_startswith_2 _ _) (Zdk a t p l) ⟨⟨o,n,ho,hc,by rw [hd,hv]⟩,.bl (ys.any fun y => Txt.startswith a y),H,I,?_,q⟩
    rw [← hy,List.any_map]
    rfl
end Ap
set_option maxHeartbeats 4000000
namespace Fx
class Tb where
  T : List (PySem.Addr × PySem.Str)
instance (priority := low) tb0 : Tb := ⟨[]⟩
open PySem PySem.Spec PyProof.Rows L2 SX Ap
variable [Tb]
inductive T where
  | non | bl (b : Bool) | int (i : Int) | str (l : List Nat) | tup (ts : List T) | loc (i : Nat) | frl (ts : List T) | ref (a : Addr) | ty (n : String) | lam (f c : Addr) (q : PySem.Str) (J : List Addr → Hp → Prop) | ktp (ts : List T)
inductive O where
  | lst (ts : List T) | dk (kvs : List (Key × T)) | dt (kvs : List (List Key × T)) | ins (C : String) (fs : List (String × T))
abbrev Sto := List O
structure Ex where
  cls : PySem.Str
  fs : List (PySem.Str × T)
inductive R (α : Type) where
  | ok (a : α) (S : Sto) | exc (x : Ex) (S : Sto) | stuck
def R.bind {α β : Type} : R α → (α → Sto → R β) → R β
  | .ok a S,k => k a S
  | .exc x S,_ => .exc x S
  | .stuck,_ => .stuck
def lift {α : Type} : Option (α × Sto) → R α
  | some (a,S) => .ok a S
  | none => .stuck
@[simp] theorem Yo {α β : Type} (a : α) (S : Sto) (k : α → Sto → R β) : (R.ok a S).bind k = k a S := (rfl)
@[simp] theorem bind_exc {α β : Type} (x : Ex) (S : Sto) (k : α → Sto → R β) : (R.exc x S).bind k = .exc x S := (rfl)
@[simp] theorem Zhc {α β : Type} (k : α → Sto → R β) : (R.stuck (α := α)).bind k = .stuck := (rfl)
@[simp] theorem Zhe {α : Type} (a : α) (S : Sto) : lift (some (a,S)) = .ok a S := (rfl)
@[simp] theorem Zhf {α : Type} : lift (none : Option (α × Sto)) = .stuck := (rfl)
def FrL (K : PySem.W.Frag) (H : Hp) (a : Addr) (xs : List V) : Prop :=
  (∃ o,H a = some (.frz o (.lst xs))) ∨
    ∃ (o : Obj) (its : Array Value) (n : Nat), K.lookup a = some o ∧ o.cls = .type "list" ∧ o.dict = none ∧ o.data = .seq its n ∧ its.size ≤ sizeLine ∧ Vals xs its.toList
theorem FrL.sq {K : PySem.W.Frag} {H : Hp} {a : Addr} {xs : List V} (h : FrL K H a xs) : SqL K H a xs := h.elim (fun ⟨o,e⟩ => .inl (.inr ⟨o,e⟩)) .inr
def HMut : HO → Prop
  | .lst _ => True | .dK _ => True | .dT _ => True | .ins _ _ _ => True | _ => False
structure Gr (ι ι' : List Addr) (H H' : Hp) : Prop where
  pre : ∀ (i : Nat) a, ι[i]? = some a → ι'[i]? = some a
  tup : ∀ a xs, H a = some (.tup xs) → H' a = some (.tup xs)
  frz : ∀ a o u, H a = some (.frz o u) → H' a = some (.frz o u)
  xd : ∀ a fs, H a = some (.xd fs) → H' a = some (.xd fs)
  ext : ∀ a φ, H a = some (.ext φ) → H' a = some (.ext φ)
  tab : LamX.Tabs Tb.T H → LamX.Tabs Tb.T H'
  fre : ∀ a u, a ∈ ι' → H a = some u → HMut u → a ∈ ι
  out : ∀ a u, H a = some u → HMut u → a ∉ ι → H' a = some u
theorem Gr.refl {ι : List Addr} {H : Hp} : Gr ι ι H H := ⟨fun _ _ h => h,fun _ _ h => h,fun _ _ _ h => h,fun _ _ h => h,fun _ _ h => h,fun h => h,fun _ _ h _ _ => h,fun _ _ h _ _ => h⟩
theorem Gr.trans {ι ι1 ι2 : List Addr} {H H1 H2 : Hp} (a : Gr ι ι1 H H1) (b : Gr ι1 ι2 H1 H2) : Gr ι ι2 H H2 :=
  ⟨fun i x h => b.pre i x (a.pre i x h),fun x xs h => b.tup x xs (a.tup x xs h),fun x o u h => b.frz x o u (a.frz x o u h),fun x fs h => b.xd x fs (a.xd x fs h),fun x φ h => b.ext x φ (a.ext x φ h),fun h => b.tab (a.tab h),fun x u hx h m => Classical.byContradiction fun n => n (a.fre x u (b.fre x u hx (a.out x u h m n) m) h m),fun x u h m n => b.out x u (a.out x u h m n) m fun hx => n (a.fre x u hx h m)⟩
theorem Gr.same {ι : List Addr} {H H' : Hp} (s : Same H H') : Gr ι ι H H' := ⟨fun _ _ h => h, fun _ _ h => s _ _ h, fun _ _ _ h => s _ _ h, fun _ _ h => s _ _ h, fun _ _ h => s _ _ h, fun h => h.ext s, fun _ _ h _ _ => h, fun _ _ h _ _ => s _ _ h⟩
mutual
inductive Rep (K : PySem.W.Frag) (ι : List Addr) (H : Hp) : V → T → Prop
  | non : Rep K ι H .non .non
  | bl (b : Bool) : Rep K ι H (.bl b) (.bl b)
  | int (i : Int) : Rep K ι H (.int i) (.int i)
  | str (l : List Nat) : Rep K ι H (.str (S l)) (.str l)
  | tup {a : Addr} {vs : List V} {ts : List T} : SqT K H a vs → Reps K ι H vs ts → Rep K ι H (.ref a) (.tup ts)
  | loc {i : Nat} {a : Addr} : ι[i]? = some a → Rep K ι H (.ref a) (.loc i)
  | frl {a : Addr} {vs : List V} {ts : List T} : FrL K H a vs → Reps K ι H vs ts → Rep K ι H (.ref a) (.frl ts)
  | ref (a : Addr) : Rep K ι H (.ref a) (.ref a)
  | ty (n : String) : Rep K ι H (.ty n) (.ty n)
  | lam {f c : Addr} {q : PySem.Str} {J : List Addr → Hp → Prop} : H c = some (LamX.CodeO c q) → (∀ ι' H', Gr ι ι' H H' → J ι' H') → Rep K ι H (.ref f) (.lam f c q J)
  | ktp {a : Addr} {vs : List V} {ts : List T} : H a = some (.tup vs) → Reps K ι H vs ts → Rep K ι H (.ref a) (.ktp ts)
inductive Reps (K : PySem.W.Frag) (ι : List Addr) (H : Hp) : List V → List T → Prop
  | nil : Reps K ι H [] []
  | cons {v : V} {vs : List V} {t : T} {ts : List T} : Rep K ι H v t → Reps K ι H vs ts → Reps K ι H (v :: vs) (t :: ts)
end
theorem SqT.gr {K : PySem.W.Frag} {ι ι' : List Addr} {H H' : Hp} {a : Addr} {xs : List V} (g : Gr ι ι' H H') (h : SqT K H a xs) : SqT K H' a xs := by
  rcases h with (h | ⟨o,h⟩) | h
  · exact .inl (.inl (g.tup _ _ h))
  · exact .inl (.inr ⟨o,g.frz _ _ _ h⟩)
  · exact .inr h
theorem FrL.gr {K : PySem.W.Frag} {ι ι' : List Addr} {H H' : Hp} {a : Addr} {xs : List V} (g : Gr ι ι' H H') (h : FrL K H a xs) : FrL K H' a xs := by
  rcases h with ⟨o,h⟩ | h
  · exact .inl ⟨o,g.frz _ _ _ h⟩
  · exact .inr h
mutual
theorem Rep.gr {K : PySem.W.Frag} {ι ι' : List Addr} {H H' : Hp} (g : Gr ι ι' H H') : ∀ {v : V} {t : T}, Rep K ι H v t → Rep K ι' H' v t
  | _,_,.non => .non
  | _,_,.bl b => .bl b
  | _,_,.int i => .int i
  | _,_,.str l => .str l
  | _,_,.tup h r => .tup (SqT.gr g h) (Reps.gr g r)
  | _,_,.loc h => .loc (g.pre _ _ h)
  | _,_,.frl h r => .frl (h.gr g) (Reps.gr g r)
  | _,_,.ref a => .ref a
  | _,_,.ty n => .ty n
  | _, _, .lam h j => .lam (g.ext _ _ h) fun ι' H' g' => j ι' H' (g.trans g')
  | _,_,.ktp h r => .ktp (g.tup _ _ h) (Reps.gr g r)
theorem Reps.gr {K : PySem.W.Frag} {ι ι' : List Addr} {H H' : Hp} (g : Gr ι ι' H H') : ∀ {vs : List V} {ts : List T}, Reps K ι H vs ts → Reps K ι' H' vs ts
  | _,_,.nil => .nil
  | _,_,.cons h r => .cons (Rep.gr g h) (Reps.gr g r)
end
section
variable {K : PySem.W.Frag} {ι : List Addr} {H : Hp}
theorem Reps.length : ∀ {vs : List V} {ts : List T},Reps K ι H vs ts → vs.length = ts.length
  | _,_,.nil => rfl
  | _,_,.cons _ r => congrArg (· + 1) r.length
theorem Reps.get : ∀ {vs : List V} {ts : List T} {i : Nat} {t : T},Reps K ι H vs ts → ts[i]? = some t → ∃ v,vs[i]? = some v ∧ Rep K ι H v t
  | _,_,_,_,.nil,e => by simp at e
  | _,_,0,_,.cons r _,e => by simp at e; subst e; exact ⟨_,rfl,r⟩
  | _,_,i + 1,t,.cons _ q,e => by
    obtain ⟨v,h1,h2⟩ := Reps.get (i := i) (t := t) q (by simpa using e)
    exact ⟨v,by simpa using h1,h2⟩
theorem Reps.append : ∀ {vs ws : List V} {ts us : List T},Reps K ι H vs ts → Reps K ι H ws us → Reps K ι H (vs ++ ws) (ts ++ us)
  | _,_,_,_,.nil,s => s
  | _,_,_,_,.cons r t,s => .cons r (Reps.append t s)
theorem Reps.take : ∀ {vs : List V} {ts : List T} (n : Nat),Reps K ι H vs ts → Reps K ι H (vs.take n) (ts.take n)
  | _,_,0,_ => by simpa using Reps.nil
  | _,_,_ + 1,.nil => by simpa using Reps.nil
  | _,_,n + 1,.cons r t => .cons r (Reps.take n t)
theorem Reps.drop : ∀ {vs : List V} {ts : List T} (n : Nat),Reps K ι H vs ts → Reps K ι H (vs.drop n) (ts.drop n)
  | _,_,0,r => r
  | _,_,_ + 1,.nil => .nil
  | _,_,n + 1,.cons _ t => Reps.drop n t
theorem Reps.set {v : V} {t : T} (r : Rep K ι H v t) : ∀ {vs : List V} {ts : List T} (i : Nat),Reps K ι H vs ts → Reps K ι H (vs.set i v) (ts.set i t)
  | _,_,_,.nil => .nil
  | _,_,0,.cons _ q => .cons r q
  | _,_,i + 1,.cons p q => .cons p (Reps.set r i q)
theorem Reps.reverse : ∀ {vs : List V} {ts : List T},Reps K ι H vs ts → Reps K ι H vs.reverse ts.reverse
  | _,_,.nil => .nil
  | _,_,.cons r t => by
    rw [List.reverse_cons,List.reverse_cons]
    exact (Reps.reverse t).append (.cons r .nil)
end
inductive RepP {κ : Type} (K : PySem.W.Frag) (ι : List Addr) (H : Hp) : List (κ × V) → List (κ × T) → Prop
  | nil : RepP K ι H [] []
  | cons {k : κ} {v : V} {vs : List (κ × V)} {t : T} {ts : List (κ × T)} : Rep K ι H v t → RepP K ι H vs ts → RepP K ι H ((k,v) :: vs) ((k,t) :: ts)
theorem RepP.gr {κ : Type} {K : PySem.W.Frag} {ι ι' : List Addr} {H H' : Hp} (g : Gr ι ι' H H') : ∀ {vs : List (κ × V)} {ts : List (κ × T)}, RepP K ι H vs ts → RepP K ι' H' vs ts
  | _,_,.nil => .nil
  | _,_,.cons h r => .cons (Rep.gr g h) (RepP.gr g r)
theorem RepP.length {κ : Type} {K : PySem.W.Frag} {ι : List Addr} {H : Hp} : ∀ {vs : List (κ × V)} {ts : List (κ × T)},RepP K ι H vs ts → vs.length = ts.length
  | _,_,.nil => rfl
  | _,_,.cons _ r => congrArg (· + 1) r.length
inductive RepF (K : PySem.W.Frag) (ι : List Addr) (H : Hp) : List (PySem.Str × V) → List (String × T) → Prop
  | nil : RepF K ι H [] []
  | cons {k : String} {v : V} {vs : List (PySem.Str × V)} {t : T} {ts : List (String × T)} : Rep K ι H v t → RepF K ι H vs ts → RepF K ι H ((PySem.Str.ofString k,v) :: vs) ((k,t) :: ts)
theorem RepF.gr {K : PySem.W.Frag} {ι ι' : List Addr} {H H' : Hp} (g : Gr ι ι' H H') : ∀ {vs : List (PySem.Str × V)} {ts : List (String × T)}, RepF K ι H vs ts → RepF K ι' H' vs ts
  | _,_,.nil => .nil
  | _,_,.cons h r => .cons (Rep.gr g h) (RepF.gr g r)
def ObR (K : PySem.W.Frag) (ι : List Addr) (H : Hp) (a : Addr) : O → Prop
  | .lst ts => ∃ vs,H a = some (.lst vs) ∧ Reps K ι H vs ts
  | .dk kvs => ∃ vs,H a = some (.dK vs) ∧ RepP K ι H vs kvs
  | .dt kvs => ∃ vs,H a = some (.dT vs) ∧ RepP K ι H vs kvs
  | .ins C fs => ∃ Ca dx vs,PySem.W.nsIn K mainGlobals (PySem.Str.ofString C) = some (some (.ref Ca)) ∧ H a = some (.ins Ca dx vs) ∧ RepF K ι H vs fs
structure Sim (K : PySem.W.Frag) (ι : List Addr) (S : Sto) (H : Hp) : Prop where
  len : ι.length = S.length
  nd : ι.Nodup
  ob : ∀ (i : Nat) a o,ι[i]? = some a → S[i]? = some o → ObR K ι H a o
  tab : LamX.Tabs Tb.T H
theorem ObR.gr {K : PySem.W.Frag} {ι ι' : List Addr} {H H' : Hp} {a : Addr} {o : O} (g : Gr ι ι' H H') (e : H' a = H a) (h : ObR K ι H a o) : ObR K ι' H' a o := by
  cases o with
  | lst ts => obtain ⟨vs,h,r⟩ := h; exact ⟨vs,e.trans h,r.gr g⟩
  | dk ts => obtain ⟨vs,h,r⟩ := h; exact ⟨vs,e.trans h,r.gr g⟩
  | dt ts => obtain ⟨vs,h,r⟩ := h; exact ⟨vs,e.trans h,r.gr g⟩
  | ins C ts => obtain ⟨Ca,dx,vs,hn,h,r⟩ := h; exact ⟨Ca,dx,vs,hn,e.trans h,r.gr g⟩
theorem ObR.has {K : PySem.W.Frag} {ι : List Addr} {H : Hp} {a : Addr} {o : O} (h : ObR K ι H a o) : ∃ u,H a = some u := by
  cases o with
  | lst ts => obtain ⟨vs,h,r⟩ := h; exact ⟨_,h⟩
  | dk ts => obtain ⟨vs,h,r⟩ := h; exact ⟨_,h⟩
  | dt ts => obtain ⟨vs,h,r⟩ := h; exact ⟨_,h⟩
  | ins C ts => obtain ⟨Ca,dx,vs,hn,h,r⟩ := h; exact ⟨_,h⟩
theorem ObR.mut {K : PySem.W.Frag} {ι : List Addr} {H : Hp} {a : Addr} {o : O} (h : ObR K ι H a o) : ∃ u,H a = some u ∧ HMut u := by
  cases o with
  | lst ts => obtain ⟨vs,h,r⟩ := h; exact ⟨_,h,trivial⟩
  | dk ts => obtain ⟨vs,h,r⟩ := h; exact ⟨_,h,trivial⟩
  | dt ts => obtain ⟨vs,h,r⟩ := h; exact ⟨_,h,trivial⟩
  | ins C ts => obtain ⟨Ca,dx,vs,hn,h,r⟩ := h; exact ⟨_,h,trivial⟩
section
variable {K : PySem.W.Frag} {ι : List Addr} {H H' : Hp} {Z : Sto}
theorem Sim.same (s : Sim K ι Z H) (m : Same H H') : Sim K ι Z H' := ⟨s.len, s.nd, fun i a o e1 e2 => by
  have h := s.ob i a o e1 e2
  obtain ⟨u,hu⟩ := h.has
  exact h.gr (Gr.same m) ((m _ _ hu).trans hu.symm),s.tab.ext m⟩
theorem Sim.at (s : Sim K ι Z H) {i : Nat} {o : O} (e : Z[i]? = some o) : ∃ a,ι[i]? = some a ∧ ObR K ι H a o := by
  have h1 : i < Z.length := (List.getElem?_eq_some_iff.mp e).1
  have h2 : i < ι.length := by rw [s.len]; exact h1
  exact ⟨ι[i],List.getElem?_eq_getElem h2,s.ob i _ o (List.getElem?_eq_getElem h2) e⟩
theorem Gr.new {p : Addr} {o : HO} (n : H p = none) : Gr ι (ι ++ [p]) H (upd H p o) :=
  ⟨fun i a h => by rw [List.getElem?_append_left (List.getElem?_eq_some_iff.mp h).1]; exact h,fun a xs h => by rw [upd_ne (ne_of_none h n)]; exact h,fun a o u h => by rw [upd_ne (ne_of_none h n)]; exact h,fun a fs h => by rw [upd_ne (ne_of_none h n)]; exact h,fun a φ h => by rw [upd_ne (ne_of_none h n)]; exact h,fun h => h.ext fun b o e => by rw [upd_ne (ne_of_none e n)]; exact e,fun a u h e m => (List.mem_append.mp h).elim id fun k => absurd e (by rw [List.mem_singleton.mp k,n]; intro z; cases z),fun a u h _ _ => by rw [upd_ne (ne_of_none h n)]; exact h⟩
theorem Gr.new0 {p : Addr} {o : HO} (n : H p = none) : Gr ι ι H (upd H p o) := Gr.same (Qe n)
theorem Sim.new (s : Sim K ι Z H) {p : Addr} {o : HO} {ob : O} (n : H p = none) (r : ObR K (ι ++ [p]) (upd H p o) p ob) : Sim K (ι ++ [p]) (Z ++ [ob]) (upd H p o) := by
  refine ⟨by rw [List.length_append,List.length_append,s.len]; rfl,?_,fun i a x e1 e2 => ?_,(Gr.new (ι := ι) n).tab s.tab⟩
  · rw [List.nodup_append]
    refine ⟨s.nd,by simp,fun a ha b hb => ?_⟩
    rw [List.mem_singleton.mp hb]
    intro e
    obtain ⟨i,h1,h2⟩ := List.mem_iff_getElem.mp ha
    have h3 : i < Z.length := by rw [← s.len]; exact h1
    obtain ⟨u,hu⟩ := (s.ob i a _ (by rw [← h2]; exact List.getElem?_eq_getElem h1) (List.getElem?_eq_getElem h3)).has
    rw [e,n] at hu
    cases hu
  · by_cases hi : i < Z.length
    · rw [List.getElem?_append_left hi] at e2
      rw [List.getElem?_append_left (by rw [s.len]; exact hi)] at e1
      have h := s.ob i a x e1 e2
      obtain ⟨u,hu⟩ := h.has
      exact h.gr (Gr.new n) (by rw [upd_ne (ne_of_none hu n)])
    · have hi' : Z.length ≤ i := Nat.le_of_not_lt hi
      rw [List.getElem?_append_right hi'] at e2
      rw [List.getElem?_append_right (by rw [s.len]; exact hi'), s.len] at e1
      obtain ⟨h1,h2⟩ := List.getElem?_eq_some_iff.mp e2
      have h0 : i - Z.length = 0 := by simpa using h1
      rw [h0] at e1 e2
      simp at e1 e2
      subst e1 e2
      exact r
theorem Gr.mut {a : Addr} {u o : HO} (h : H a = some u) (m : HMut u) (hi : a ∈ ι) : Gr ι ι H (upd H a o) := by
  have ne : ∀ b x,H b = some x → ¬ HMut x → b ≠ a := fun b x e nm z => by subst z; rw [h] at e; cases e; exact nm m
  exact ⟨fun _ _ h => h,fun b xs e => by rw [upd_ne (ne b _ e fun z => z)]; exact e,fun b o u e => by rw [upd_ne (ne b _ e fun z => z)]; exact e,fun b fs e => by rw [upd_ne (ne b _ e fun z => z)]; exact e,fun b φ e => by rw [upd_ne (ne b _ e fun z => z)]; exact e,fun t p hp => by
    obtain ⟨ps,h1,h2,h3⟩ := t p hp
    refine ⟨ps,by rw [upd_ne (ne _ _ h1 fun z => z)]; exact h1,h2,fun pos cv hc => ?_⟩
    obtain ⟨c,e1,e2⟩ := h3 pos cv hc
    exact ⟨c, e1, by rw [upd_ne (ne c _ e2 fun z => z)]; exact e2⟩, fun _ _ k _ _ => k, fun b u' e _ nb => by
    have hb : b ≠ a := fun z => nb (by rw [z]; exact hi)
    rw [upd_ne hb]; exact e⟩
theorem Sim.set (s : Sim K ι Z H) {i : Nat} {a : Addr} {o : HO} {ob : O} (hi : ι[i]? = some a) (r : ObR K ι (upd H a o) a ob) : Sim K ι (Z.set i ob) (upd H a o) := by
  have h1 : i < ι.length := (List.getElem?_eq_some_iff.mp hi).1
  have h2 : i < Z.length := by rw [← s.len]; exact h1
  obtain ⟨u,hu,mu⟩ := (s.ob i a _ hi (List.getElem?_eq_getElem h2)).mut
  refine ⟨by rw [List.length_set]; exact s.len,s.nd,fun j b x e1 e2 => ?_,(Gr.mut (ι := ι) hu mu (List.mem_of_getElem? hi)).tab s.tab⟩
  by_cases hj : j = i
  · subst hj
    rw [hi] at e1; cases e1
    rw [List.getElem?_set_self h2] at e2
    cases e2
    exact r
  · rw [List.getElem?_set_ne (Ne.symm hj)] at e2
    have hb : b ≠ a := fun z => by
      subst z
      obtain ⟨k1,k2⟩ := List.getElem?_eq_some_iff.mp e1
      obtain ⟨k3,k4⟩ := List.getElem?_eq_some_iff.mp hi
      exact hj ((List.getElem_inj s.nd).mp (k2.trans k4.symm))
    exact (s.ob j b x e1 e2).gr (Gr.mut hu mu (List.mem_of_getElem? hi)) (upd_ne hb)
end
abbrev Env := List (Option T)
def Envs (K : PySem.W.Frag) (ι : List Addr) (H : Hp) (σ : L2.St) (ρ : Env) : Prop := ∀ (i : Nat) t,ρ[i]? = some (some t) → ∃ v,σ[i]? = some (some v) ∧ Rep K ι H v t
theorem Envs.gr {K : PySem.W.Frag} {ι ι' : List Addr} {H H' : Hp} {σ : L2.St} {ρ : Env} (e : Envs K ι H σ ρ) (g : Gr ι ι' H H') : Envs K ι' H' σ ρ := fun i t h => by
  obtain ⟨v,h1,h2⟩ := e i t h
  exact ⟨v,h1,h2.gr g⟩
theorem Envs.set {K : PySem.W.Frag} {ι : List Addr} {H : Hp} {σ : L2.St} {ρ : Env} (e : Envs K ι H σ ρ) {v : V} {t : T} (r : Rep K ι H v t) (i : Nat) (hl : σ.length = ρ.length) : Envs K ι H (σ.set i (some v)) (ρ.set i (some t)) := fun j u h => by
  by_cases hj : j = i
  · subst hj
    by_cases hlt : j < ρ.length
    · rw [List.getElem?_set_self hlt] at h
      cases h
      exact ⟨v,List.getElem?_set_self (by rw [hl]; exact hlt),r⟩
    · rw [List.getElem?_eq_none (by rw [List.length_set]; omega)] at h
      cases h
  · rw [List.getElem?_set_ne (Ne.symm hj)] at h
    obtain ⟨w,h1,h2⟩ := e j u h
    exact ⟨w,by rw [List.getElem?_set_ne (Ne.symm hj)]; exact h1,h2⟩
def RepX (K : PySem.W.Frag) (ι : List Addr) (H : Hp) (cls : Value) (d : Option Addr) (x : Ex) : Prop :=
  (∃ c,cls = .ref c ∧ PySem.W.nsIn K mainGlobals x.cls = some (some (.ref c))) ∧ (match x.fs with
    | [] => d = none
    | fs => ∃ dd vs,d = some dd ∧ H dd = some (.xd vs) ∧ RepP K ι H vs fs)
section
variable {α β γ δ : Type}
def Post (rep : List Addr → Hp → β → α → Prop) (K : PySem.W.Frag) (W : WX) (σ : L2.St) (ι : List Addr) (H : Hp) (Q : β → Hp → Prop) : R α → Prop
  | .ok a S' => ∀ ι' H' b, Gr ι ι' H H' → Sim K ι' S' H' → rep ι' H' b a → Q b H'
  | .exc x S' => ∀ ι' H' cls d, Gr ι ι' H H' → Sim K ι' S' H' → RepX K ι' H' cls d x → W cls d σ H'
  | .stuck => False
def PostO (rep : List Addr → Hp → β → α → Prop) (K : PySem.W.Frag) (ι : List Addr) (H : Hp) (Q : β → Hp → Prop) : Option (α × Sto) → Prop
  | some (a, S') => ∀ ι' H' b, Gr ι ι' H H' → Sim K ι' S' H' → rep ι' H' b a → Q b H'
  | none => False
variable {rep : List Addr → Hp → β → α → Prop} {rep' : List Addr → Hp → δ → γ → Prop} {K : PySem.W.Frag} {W : WX} {σ : L2.St} {ι ι1 : List Addr} {H H1 : Hp} {Q : β → Hp → Prop} {Q' : δ → Hp → Prop}
theorem Post.shift {r : R α} (h : Post rep K W σ ι H Q r) (g : Gr ι ι1 H H1) : Post rep K W σ ι1 H1 Q r := by
  cases r with
  | ok a S => exact fun ι' H' b g' => h ι' H' b (g.trans g')
  | exc x S => exact fun ι' H' c d g' => h ι' H' c d (g.trans g')
  | stuck => exact h
theorem PostO.shift {r : Option (α × Sto)} (h : PostO rep K ι H Q r) (g : Gr ι ι1 H H1) : PostO rep K ι1 H1 Q r := by
  cases r with
  | some a => exact fun ι' H' b g' => h ι' H' b (g.trans g')
  | none => exact h
theorem U4 {r : Option (α × Sto)} (h : Post rep K W σ ι H Q (lift r)) : PostO rep K ι H Q r := by
  cases r with
  | some a => exact h
  | none => exact h
theorem Zi {r : R α} {k : α → Sto → R γ} (h : Post rep' K W σ ι H Q' (r.bind k)) :
    Post rep K W σ ι H (fun b H1 => ∃ ι1 S1 a, Gr ι ι1 H H1 ∧ Sim K ι1 S1 H1 ∧ rep ι1 H1 b a ∧ Post rep' K W σ ι1 H1 Q' (k a S1)) r := by
  cases r with
  | ok a S => exact fun ι1 H1 b g s r => ⟨ι1,S,a,g,s,r,h.shift g⟩
  | exc x S => exact h
  | stuck => exact h
theorem Post.imp {r : R α} {Q2 : β → Hp → Prop} (h : Post rep K W σ ι H Q r) (i : ∀ b H,Q b H → Q2 b H) : Post rep K W σ ι H Q2 r := by
  cases r with
  | ok a S => exact fun ι1 H1 b g s r => i _ _ (h ι1 H1 b g s r)
  | exc x S => exact h
  | stuck => exact h
end
abbrev FE := Env → Sto → R T
abbrev FT := Env → Sto → R Bool
abbrev FA := Env → Sto → R (List T)
def bEq (_ : List Addr) (_ : Hp) (b c : Bool) : Prop := b = c
structure Wc where
  w : WX
  j : L2.St → List Addr → Hp → Prop
  st : ∀ σ ι ι' H H', Gr ι ι' H H' → j σ ι H → j σ ι' H'
def Wt (W : WX) : Wc := ⟨W,fun _ _ _ => True,fun _ _ _ _ _ _ _ => trivial⟩
structure Ie (K : PySem.W.Frag) (W : Wc) (ι : List Addr) (H : Hp) (σ : L2.St) (ρ : Env) (Z : Sto) : Prop where
  len : σ.length = ρ.length
  env : Envs K ι H σ ρ
  sim : Sim K ι Z H
  jj : W.j σ ι H
theorem Ie.gr {K : PySem.W.Frag} {W : Wc} {ι ι' : List Addr} {H H' : Hp} {σ : L2.St} {ρ : Env} {Z Z' : Sto} (h : Ie K W ι H σ ρ Z) (g : Gr ι ι' H H') (s : Sim K ι' Z' H') : Ie K W ι' H' σ ρ Z' := ⟨h.len, h.env.gr g, s, W.st _ _ _ _ _ g h.jj⟩
def tF (K : PySem.W.Frag) (W : Wc) (f : FE) : TE := fun σ H Q => ∃ ι ρ Z,Ie K W ι H σ ρ Z ∧ Post (Rep K) K W.w σ ι H Q (f ρ Z)
def tFT (K : PySem.W.Frag) (W : Wc) (f : FT) : TT := fun σ H Q => ∃ ι ρ Z,Ie K W ι H σ ρ Z ∧ Post bEq K W.w σ ι H Q (f ρ Z)
def tFA (K : PySem.W.Frag) (W : Wc) (f : FA) : TA := fun σ H Q => ∃ ι ρ Z,Ie K W ι H σ ρ Z ∧ Post (Reps K) K W.w σ ι H Q (f ρ Z)
abbrev FJ (X : Cx) (K : PySem.W.Frag) (W : Wc) (e : Expr) (f : FE) : Prop := PE X e (tF K W f)
abbrev FTJ (X : Cx) (K : PySem.W.Frag) (W : Wc) (e : Expr) (f : FT) : Prop := PT X e (tFT K W f)
abbrev FWJ (X : Cx) (K : PySem.W.Frag) (W : Wc) (e : Expr) (f : FT) : Prop := PW X e (tFT K W f)
abbrev FAJ (X : Cx) (K : PySem.W.Frag) (W : Wc) (es : List Expr) (f : FA) : Prop := PA X es (tFA K W f)
theorem Xj {X : Cx} {e : Expr} {t t' : TE} (h : PE X e t) (i : ∀ σ H Q, t' σ H Q → t σ H Q) : PE X e t' := ⟨fun pins s σ H Q I q => h.run pins s σ H Q I (i _ _ _ q)⟩
theorem Z9f {X : Cx} {e : Expr} {t t' : TT} (h : PT X e t) (i : ∀ σ H Q, t' σ H Q → t σ H Q) : PT X e t' := ⟨fun pins s σ H Q I q => h.run pins s σ H Q I (i _ _ _ q)⟩
theorem Zhg {X : Cx} {e : Expr} {t t' : TT} (h : PW X e t) (i : ∀ σ H Q, t' σ H Q → t σ H Q) : PW X e t' := ⟨fun w pins s σ H Q I q => h.run w pins s σ H Q I (i _ _ _ q)⟩
theorem Zer {X : Cx} {es : List Expr} {t t' : TA} (h : PA X es t) (i : ∀ σ H Q, t' σ H Q → t σ H Q) : PA X es t' := ⟨fun p pins s σ H Q I q => h.run p pins s σ H Q I (i _ _ _ q)⟩
theorem Z0w {X : Cx} {st : Stmt} {t t' : TS} (h : PS X st t) (i : ∀ D σ H, t' D σ H → t D σ H) : PS X st t' := ⟨fun pins s σ H D I q => h.run pins s σ H D I (i _ _ _ q)⟩
theorem Zbd {X : Cx} {st : List Stmt} {t t' : TS} (h : PSs X st t) (i : ∀ D σ H, t' D σ H → t D σ H) : PSs X st t' := ⟨fun pins s σ H D I q => h.run pins s σ H D I (i _ _ _ q)⟩
def eVar (i : Nat) : FE := fun ρ Z => match ρ[i]? with
  | some (some t) => .ok t Z
  | _ => .stuck
def eC (t : T) : FE := fun _ Z => .ok t Z
def eBin (g : T → T → Sto → Option (T × Sto)) (a b : FE) : FE := fun ρ Z => (a ρ Z).bind fun x Z1 => (b ρ Z1).bind fun y Z2 => lift (g x y Z2)
def eUn (g : T → Sto → Option (T × Sto)) (a : FE) : FE := fun ρ Z => (a ρ Z).bind fun x Z1 => lift (g x Z1)
def eIf (c : FT) (a b : FE) : FE := fun ρ Z => (c ρ Z).bind fun x Z1 => if x = true then a ρ Z1 else b ρ Z1
def aNil : FA := fun _ Z => .ok [] Z
def aCons (a : FE) (r : FA) : FA := fun ρ Z => (a ρ Z).bind fun x Z1 => (r ρ Z1).bind fun xs Z2 => .ok (x :: xs) Z2
section
variable {X : Cx} {K : PySem.W.Frag} {W : Wc} {a b c : Expr} {fa fb fc : FE} {pos : Pos}
theorem Zf {i : Nat} {x : PySem.Str} (h : PE X (.Name x pos) (tVar i)) : FJ X K W (.Name x pos) (eVar i) := Xj h fun σ H Q q => by
  obtain ⟨ι,ρ,Z,is,p⟩ := q
  unfold eVar at p
  split at p
  · rename_i t e
    obtain ⟨v,h1,h2⟩ := is.env i t e
    exact ⟨v,h1,p ι H v Gr.refl is.sim h2⟩
  · exact p.elim
theorem f_c {v : V} {t : T} (h : PE X a (tC v)) (r : ∀ ι H,Rep K ι H v t) : FJ X K W a (eC t) := Xj h fun σ H Q q => by
  obtain ⟨ι,ρ,Z,is,p⟩ := q
  exact p ι H v Gr.refl is.sim (r ι H)
theorem f_int {i j} : FJ X K W (.Constant (.int i) j pos) (eC (.int i)) := f_c pe_int fun _ _ => .int i
theorem f_bl {i j} : FJ X K W (.Constant (.bool i) j pos) (eC (.bl i)) := f_c pe_bl fun _ _ => .bl i
theorem Zak {j} : FJ X K W (.Constant .none j pos) (eC .non) := f_c pe_non fun _ _ => .non
theorem Y8 {x j} (l : List Nat) (e : x = S l := by rfl) : FJ X K W (.Constant (.str x) j pos) (eC (.str l)) := f_c pe_str fun _ _ => by rw [e]; exact .str l
def rF2 (K : PySem.W.Frag) (g : T → T → Sto → Option (T × Sto)) : R2 := fun x y H Q => ∃ ι Z tx ty,Sim K ι Z H ∧ Rep K ι H x tx ∧ Rep K ι H y ty ∧ PostO (Rep K) K ι H Q (g tx ty Z)
def rFC (K : PySem.W.Frag) (g : List T → Sto → Option (T × Sto)) : List V → Hp → VK → Prop := fun xs H Q => ∃ ι Z ts,Sim K ι Z H ∧ Reps K ι H xs ts ∧ PostO (Rep K) K ι H Q (g ts Z)
theorem Zdl {r : R2} {g : T → T → Sto → Option (T × Sto)} (hr : ∀ x y H Q,rF2 K g x y H Q → r x y H Q) {σ : L2.St} {H : Hp} {Q : VK} (h : tF K W (eBin g fa fb) σ H Q) : tOp r (tF K W fa) (tF K W fb) σ H Q := by
  obtain ⟨ι,ρ,Z,is,p⟩ := h
  refine ⟨ι,ρ,Z,is,(Zi p).imp fun x H1 q => ?_⟩
  obtain ⟨ι1,Z1,tx,g1,s1,r1,p1⟩ := q
  refine ⟨ι1,ρ,Z1,is.gr g1 s1,(Zi p1).imp fun y H2 q2 => ?_⟩
  obtain ⟨ι2,Z2,ty,g2,s2,r2,p2⟩ := q2
  exact hr _ _ _ _ ⟨ι2,Z2,tx,ty,s2,r1.gr g2,r2,U4 p2⟩
def OpF (X : Cx) (K : PySem.W.Frag) (f : Value → Value → Sem Value) (g : T → T → Sto → Option (T × Sto)) : Prop := OpR X f (rF2 K g)
theorem Xm {f : Value → Value → Sem Value} {r r' : R2} (h : OpR X f r) (i : ∀ x y H Q, r' x y H Q → r x y H Q) : OpR X f r' := fun pins s σ H x y v u Q I rx ry q => h pins s σ H x y v u Q I rx ry (i _ _ _ _ q)
theorem W6 {f : Value} {r r' : List V → Hp → VK → Prop} (h : CallR X f r) (i : ∀ xs H Q, r' xs H Q → r xs H Q) : CallR X f r' := fun pins s σ H xs us Q I rs q => h pins s σ H xs us Q I rs (i _ _ _ q)
theorem Qn {f : Value → Value → Sem Value} {r r' : R2} (h : OpR X f r) (h' : OpR X f r') : OpR X f (rOr r r') := fun pins s σ H x y v u Q I rx ry q => q.elim (h pins s σ H x y v u Q I rx ry) (h' pins s σ H x y v u Q I rx ry)
theorem f_op {op : Operator} {g : T → T → Sto → Option (T × Sto)} (ho : OpF X K (binaryOp op) g) (ha : FJ X K W a fa) (hb : FJ X K W b fb) : FJ X K W (.BinOp a op b pos) (eBin g fa fb) :=
  Xj (pe_op ho ha hb) fun _ _ _ h => Zdl (fun _ _ _ _ h => h) h
theorem Z26 {op : CmpOp} {g : T → T → Sto → Option (T × Sto)} (ho : OpF X K (compareOp op) g) (ha : FJ X K W a fa) (hb : FJ X K W b fb) (hm : behindInMarks op b = false) : FJ X K W (.Compare a [op] [b] pos) (eBin g fa fb) :=
  Xj (pe_cmpR ho ha hb hm) fun _ _ _ h => Zdl (fun _ _ _ _ h => h) h
theorem f_ix {g : T → T → Sto → Option (T × Sto)} (hr : IxR X (rF2 K g)) (ha : FJ X K W a fa) (hb : FJ X K W b fb) (hs : PlainIx b) : FJ X K W (.Subscript a b pos) (eBin g fa fb) :=
  Xj (pe_ix hr ha hb hs) fun _ _ _ h => Zdl (fun _ _ _ _ h => h) h
theorem f_if {t : FT} (hc : FTJ X K W c t) (ha : FJ X K W a fa) (hb : FJ X K W b fb) : FJ X K W (.IfExp c a b pos) (eIf t fa fb) := Xj (pe_ifExp hc ha hb) fun σ H Q h => by
  obtain ⟨ι,ρ,Z,is,p⟩ := h
  refine ⟨ι,ρ,Z,is,(Zi p).imp fun x H1 q => ?_⟩
  obtain ⟨ι1,Z1,tx,g1,s1,r1,p1⟩ := q
  cases (show x = tx from r1)
  cases x with
  | true => exact ⟨ι1,ρ,Z1,is.gr g1 s1,p1⟩
  | false => exact ⟨ι1,ρ,Z1,is.gr g1 s1,p1⟩
theorem Zg : FAJ X K W [] aNil := Zer pa_nil fun σ H Q h => by
  obtain ⟨ι,ρ,Z,is,p⟩ := h
  exact p ι H [] Gr.refl is.sim .nil
theorem Za {es : List Expr} {fr : FA} (ha : FJ X K W a fa) (hr : FAJ X K W es fr) (hs : starEach (a :: es) X.env = (false,eval a X.env) :: starEach es X.env := by rfl) : FAJ X K W (a :: es) (aCons fa fr) := Zer (pa_cons ha hr hs) fun σ H Q h => by
  obtain ⟨ι,ρ,Z,is,p⟩ := h
  refine ⟨ι,ρ,Z,is,(Zi p).imp fun x H1 q => ?_⟩
  obtain ⟨ι1,Z1,tx,g1,s1,r1,p1⟩ := q
  refine ⟨ι1,ρ,Z1,is.gr g1 s1,(Zi p1).imp fun y H2 q2 => ?_⟩
  obtain ⟨ι2,Z2,ty,g2,s2,r2,p2⟩ := q2
  exact p2 ι2 H2 _ Gr.refl s2 (.cons (r1.gr g2) r2)
end
def Lim : Nat := 1000000
theorem Z2v : Lim ≤ sizeLine := by decide
@[irreducible] def Fuel : Nat := Lim + 2
theorem Qs : Fuel = Lim + 2 := by unfold Fuel; rfl
theorem Z24 {n : Nat} (h : n ≤ Lim) : n ≤ sizeLine := Nat.le_trans h Z2v
def asList : T → Sto → Option (List T)
  | .loc i,Z => match Z[i]? with
    | some (.lst ts) => some ts
    | _ => none
  | .frl ts,_ => some ts
  | _,_ => none
theorem Vo {K : PySem.W.Frag} {ι : List Addr} {H : Hp} {Z : Sto} {v : V} {t : T} {ts : List T} (s : Sim K ι Z H) (r : Rep K ι H v t) (e : asList t Z = some ts) : ∃ a vs,v = .ref a ∧ SqL K H a vs ∧ Reps K ι H vs ts := by
  cases r with
  | loc h =>
    simp only [asList] at e
    split at e
    · rename_i ts' hz
      obtain ⟨a', h1, h2⟩ := s.at hz
      rw [h] at h1
      cases h1
      cases e
      obtain ⟨vs,h3,h4⟩ := h2
      exact ⟨_,vs,rfl,SqL.of h3,h4⟩
    · cases e
  | frl h r => cases e; exact ⟨_,_,rfl,h.sq,r⟩
  | _ => cases e
def truth : T → Sto → Option Bool
  | .bl b,_ => some b
  | .int i,_ => some (i != 0)
  | .non,_ => some false
  | .str l,_ => if l.length ≤ Lim then some (!l.isEmpty) else none
  | .tup ts,_ => some (!ts.isEmpty)
  | .loc i,Z => match Z[i]? with
    | some (.lst ts) => some (!ts.isEmpty)
    | some (.dk ts) => some (!ts.isEmpty)
    | _ => none
  | .frl ts,_ => some (!ts.isEmpty)
  | _,_ => none
theorem Z02 {α β : Type} {a : List α} {b : List β} (h : a.length = b.length) : a.isEmpty = b.isEmpty := by
  cases a <;> cases b <;> first | rfl | (simp at h)
theorem Z4e {K : PySem.W.Frag} {ι : List Addr} {H : Hp} {Z : Sto} {v : V} {t : T} {k : Bool} (s : Sim K ι Z H) (r : Rep K ι H v t) (e : truth t Z = some k) : TruV K v H k := by
  cases r with
  | non => cases e; rfl
  | bl b => cases e; rfl
  | int i => cases e; rfl
  | str l =>
    simp only [truth] at e
    split at e
    · rename_i h
      cases e
      refine ⟨by rw [S_len]; exact Z24 h,?_⟩
      rw [S_len]
      cases l with
      | nil => rfl
      | cons c l => simp; omega
    · cases e
  | tup h r => cases e; exact .inr (.inl ⟨_,h,by rw [Z02 r.length]⟩)
  | loc h =>
    simp only [truth] at e
    split at e
    · rename_i ts' hz
      obtain ⟨a', h1, h2⟩ := s.at hz
      rw [h] at h1
      cases h1
      cases e
      obtain ⟨vs,h3,h4⟩ := h2
      exact .inl ⟨vs,SqL.of h3,by rw [Z02 h4.length]⟩
    · rename_i ts' hz
      obtain ⟨a', h1, h2⟩ := s.at hz
      rw [h] at h1
      cases h1
      cases e
      obtain ⟨vs,h3,h4⟩ := h2
      exact .inr (.inr ⟨vs,h3,by rw [Z02 h4.length]⟩)
    · cases e
  | frl h r => cases e; exact .inl ⟨_,h.sq,by rw [Z02 r.length]⟩
  | ref a => cases e
  | ty n => cases e
  | lam h j => cases e
  | ktp h r => cases e
def eTru (f : FE) : FT := fun ρ Z => (f ρ Z).bind fun x Z1 => match truth x Z1 with
  | some b => .ok b Z1
  | none => .stuck
def tAnd (a b : FT) : FT := fun ρ Z => (a ρ Z).bind fun x Z1 => if x = true then b ρ Z1 else .ok false Z1
def tOr (a b : FT) : FT := fun ρ Z => (a ρ Z).bind fun x Z1 => if x = true then .ok true Z1 else b ρ Z1
def tNot (a : FT) : FT := fun ρ Z => (a ρ Z).bind fun x Z1 => .ok (!x) Z1
def eAnd (a b : FE) : FE := fun ρ Z => (a ρ Z).bind fun x Z1 => match truth x Z1 with
  | some true => b ρ Z1
  | some false => .ok x Z1
  | none => .stuck
def eOr (a b : FE) : FE := fun ρ Z => (a ρ Z).bind fun x Z1 => match truth x Z1 with
  | some true => .ok x Z1
  | some false => b ρ Z1
  | none => .stuck
def eNot (a : FE) : FE := fun ρ Z => (a ρ Z).bind fun x Z1 => match truth x Z1 with
  | some b => .ok (.bl (!b)) Z1
  | none => .stuck
section
variable {X : Cx} {K : PySem.W.Frag} {W : Wc} {a b c : Expr} {fa fb fc : FE} {ta tb : FT} {pos : Pos} {rest : List Expr}
theorem Uq (hK : X.K = K) (ha : FJ X K W a fa) (he : ∀ whole,isTrue a X.env whole = (do let v ← whole; standAt a.pos; holding [v] (truthy v)) := by intro _; rfl) : FTJ X K W a (eTru fa) := by
  subst hK
  refine Z9f (pt_truth ha he) fun σ H Q h => ?_
  obtain ⟨ι,ρ,Z,is,p⟩ := h
  refine ⟨ι,ρ,Z,is,(Zi p).imp fun x H1 q => ?_⟩
  obtain ⟨ι1,Z1,tx,g1,s1,r1,p1⟩ := q
  split at p1
  · rename_i k e
    exact ⟨k,Z4e s1 r1 e,p1 ι1 H1 k Gr.refl s1 rfl⟩
  · exact p1.elim
def eBl (f : FE) : FT := fun ρ Z => (f ρ Z).bind fun x Z1 => match x with
  | .bl b => .ok b Z1
  | _ => .stuck
theorem Ys {op : CmpOp} {g : T → T → Sto → Option (T × Sto)} (ho : OpF X K (compareOp op) g) (ha : FJ X K W a fa) (hb : FJ X K W b fb) (hm : behindInMarks op b = false) : FTJ X K W (.Compare a [op] [b] pos) (eBl (eBin g fa fb)) := by
  refine Z9f (pt_cmpR ho ha hb hm) fun σ H Q h => ?_
  obtain ⟨ι,ρ,Z,is,p⟩ := h
  refine Zdl (fun _ _ _ _ h => h) ⟨ι,ρ,Z,is,(Zi p).imp fun x H1 q => ?_⟩
  obtain ⟨ι1,Z1,tx,g1,s1,r1,p1⟩ := q
  cases r1 with
  | bl b => exact ⟨b,rfl,p1 ι1 H1 b Gr.refl s1 rfl⟩
  | _ => exact p1.elim
theorem Z2w (ha : FTJ X K W a ta) : FWJ X K W (.BoolOp .Or [a] pos) ta := pw_or1 ha
theorem Z47 (ha : FTJ X K W a ta) (hb : FWJ X K W (.BoolOp .Or (b :: rest) pos) tb) : FWJ X K W (.BoolOp .Or (a :: b :: rest) pos) (tOr ta tb) := Zhg (pw_or ha hb) fun σ H Q h => by
  obtain ⟨ι,ρ,Z,is,p⟩ := h
  refine ⟨ι,ρ,Z,is,(Zi p).imp fun x H1 q => ?_⟩
  obtain ⟨ι1,Z1,tx,g1,s1,r1,p1⟩ := q
  cases (show x = tx from r1)
  cases x with
  | true => exact p1 ι1 H1 _ Gr.refl s1 rfl
  | false => exact ⟨ι1,ρ,Z1,is.gr g1 s1,p1⟩
theorem Jb (ha : FTJ X K W a ta) : FTJ X K W (.UnaryOp .Not a pos) (tNot ta) := Z9f (pt_not ha) fun σ H Q h => by
  obtain ⟨ι,ρ,Z,is,p⟩ := h
  refine ⟨ι,ρ,Z,is,(Zi p).imp fun x H1 q => ?_⟩
  obtain ⟨ι1,Z1,tx,g1,s1,r1,p1⟩ := q
  cases (show x = tx from r1)
  exact p1 ι1 H1 _ Gr.refl s1 rfl
theorem Z4j {op} (h : FJ X K W a fa) : FJ X K W (.BoolOp op [a] pos) fa := pe_one h
theorem Z5s (hK : X.K = K) (ha : FJ X K W a fa) (hb : FJ X K W (.BoolOp .And (b :: rest) pos) fb) : FJ X K W (.BoolOp .And (a :: b :: rest) pos) (eAnd fa fb) := by
  subst hK
  refine Xj (pe_andT ha hb) fun σ H Q h => ?_
  obtain ⟨ι,ρ,Z,is,p⟩ := h
  refine ⟨ι,ρ,Z,is,(Zi p).imp fun x H1 q => ?_⟩
  obtain ⟨ι1,Z1,tx,g1,s1,r1,p1⟩ := q
  split at p1
  · rename_i e; exact ⟨true,Z4e s1 r1 e,ι1,ρ,Z1,is.gr g1 s1,p1⟩
  · rename_i e; exact ⟨false,Z4e s1 r1 e,p1 ι1 H1 _ Gr.refl s1 r1⟩
  · exact p1.elim
theorem f_not (hK : X.K = K) (ha : FJ X K W a fa) : FJ X K W (.UnaryOp .Not a pos) (eNot fa) := by
  subst hK
  refine Xj (pe_notT ha) fun σ H Q h => ?_
  obtain ⟨ι,ρ,Z,is,p⟩ := h
  refine ⟨ι,ρ,Z,is,(Zi p).imp fun x H1 q => ?_⟩
  obtain ⟨ι1,Z1,tx,g1,s1,r1,p1⟩ := q
  split at p1
  · rename_i k e; exact ⟨k,Z4e s1 r1 e,p1 ι1 H1 _ Gr.refl s1 (.bl _)⟩
  · exact p1.elim
end
end Fx
set_option maxHeartbeats 4000000
namespace Fx
open PySem PySem.Spec PyProof.Rows L2 SX Ap
variable [Tb]
section
variable {K : PySem.W.Frag} {ι : List Addr} {H : Hp} {Q : VK} {Z : Sto} {t : T} {ts : List T} {v : V} {vs : List V}
theorem Zv (p : PostO (Rep K) K ι H Q (some (t,Z))) (s : Sim K ι Z H) (r : Rep K ι H v t) : Q v H := p ι H v Gr.refl s r
theorem Sim.newL (s : Sim K ι Z H) (r : Reps K ι H vs ts) {p : Addr} (n : H p = none) : Sim K (ι ++ [p]) (Z ++ [.lst ts]) (upd H p (.lst vs)) := s.new n ⟨vs,upd_same,r.gr (Gr.new n)⟩
theorem Z6k (s : Sim K ι Z H) {p : Addr} {H' : Hp} : Rep K (ι ++ [p]) H' (.ref p) (.loc Z.length) := .loc (by rw [← s.len]; simp)
theorem Z4k (q : PostO (Rep K) K ι H Q (some (.loc Z.length,Z ++ [.lst ts]))) (s : Sim K ι Z H) (r : Reps K ι H vs ts) : ∀ p,H p = none → Q (.ref p) (upd H p (.lst vs)) := fun p n =>
  q (ι ++ [p]) _ _ (Gr.new n) (s.newL r n) (Z6k s)
theorem Z8k (q : PostO (Rep K) K ι H Q (some (.tup ts,Z))) (s : Sim K ι Z H) (r : Reps K ι H vs ts) : ∀ p,H p = none → Q (.ref p) (upd H p (.tup vs)) := fun p n =>
  q ι _ _ (Gr.new0 n) (s.same (Qe n)) (.tup (SqT.of upd_same) (r.gr (Gr.new0 n)))
theorem Rep.tupE (r : Rep K ι H v (.tup ts)) : ∃ a vs,v = .ref a ∧ SqT K H a vs ∧ Reps K ι H vs ts := by
  cases r with
  | tup h r => exact ⟨_,_,rfl,h,r⟩
theorem Ur {i : Nat} {ts : List T} (s : Sim K ι Z H) (e : Z[i]? = some (.lst ts)) (r : Rep K ι H v (.loc i)) : ∃ a vs,v = .ref a ∧ ι[i]? = some a ∧ H a = some (.lst vs) ∧ Reps K ι H vs ts := by
  cases r with
  | loc h =>
    obtain ⟨a,h1,vs,h2,h3⟩ := s.at e
    rw [h] at h1; cases h1
    exact ⟨_,vs,rfl,h,h2,h3⟩
end
def getL (Z : Sto) (i : Nat) : Option (List T) := match Z[i]? with
  | some (.lst ts) => some ts
  | _ => none
theorem W3 {Z : Sto} {i : Nat} {ts : List T} (h : getL Z i = some ts) : Z[i]? = some (.lst ts) := by
  unfold getL at h
  split at h
  · rename_i ts' e; cases h; exact e
  · cases h
def gAdd : T → T → Sto → Option (T × Sto)
  | .int i,.int j,Z => some (.int (i + j),Z)
  | .str a,.str b,Z => if a.length + b.length ≤ Lim then some (.str (a ++ b),Z) else none
  | .tup a,.tup b,Z => if a.length + b.length ≤ Lim then some (.tup (a ++ b),Z) else none
  | .loc i,.loc j,Z => match getL Z i,getL Z j with
    | some a,some b => if a.length + b.length ≤ Lim then some (.loc Z.length,Z ++ [.lst (a ++ b)]) else none
    | _,_ => none
  | _,_,_ => none
def gSub : T → T → Sto → Option (T × Sto)
  | .int i,.int j,Z => some (.int (i - j),Z)
  | _,_,_ => none
def mulOk (i j : Int) : Bool := (decide (-(2 ^ 64) < i) && decide (i < 2 ^ 64)) || (decide (-(2 ^ 64) < j) && decide (j < 2 ^ 64))
def gMul : T → T → Sto → Option (T × Sto)
  | .int i,.int j,Z => if mulOk i j = true then some (.int (i * j),Z) else none
  | .str l,.int k,Z => if -100000 ≤ k ∧ k ≤ 100000 ∧ l.length * k.toNat ≤ 100000 then some (.str (repL k.toNat l),Z) else none
  | .loc i,.int k,Z => match getL Z i with
    | some a => if -100000 ≤ k ∧ k ≤ 100000 ∧ a.length * k.toNat ≤ Lim then some (.loc Z.length,Z ++ [.lst (List.replicate k.toNat a).flatten]) else none
    | _ => none
  | _,_,_ => none
def gDiv : T → T → Sto → Option (T × Sto)
  | .int i,.int j,Z => if 0 < j ∧ j < 2 ^ 200 then some (.int (i / j),Z) else none
  | _,_,_ => none
def gMod : T → T → Sto → Option (T × Sto)
  | .int i,.int j,Z => if 0 < j then some (.int (i % j),Z) else none
  | _,_,_ => none
def gPow : T → T → Sto → Option (T × Sto)
  | .int i,.int j,Z => if 0 ≤ j ∧ j ≤ 1000000 ∧ i.natAbs < 2 ^ 64 then some (.int (i ^ j.toNat),Z) else none
  | _,_,_ => none
theorem Reps.replicate {K : PySem.W.Frag} {ι : List Addr} {H : Hp} {vs : List V} {ts : List T} (r : Reps K ι H vs ts) : ∀ n : Nat,Reps K ι H (List.replicate n vs).flatten (List.replicate n ts).flatten
  | 0 => .nil
  | n + 1 => by
    rw [List.replicate_succ,List.replicate_succ,List.flatten_cons,List.flatten_cons]
    exact r.append (r.replicate n)
theorem S_app (a b : List Nat) : S a ++ S b = S (a ++ b) := by
  show (⟨a.toArray ++ b.toArray⟩ : PySem.Str) = ⟨(a ++ b).toArray⟩
  simp
section
variable {X : Cx} {K : PySem.W.Frag}
theorem Z5t : OpF X K (binaryOp .Sub) gSub := Xm op_sub fun x y H Q h => by
  obtain ⟨ι,Z,tx,ty,s,rx,ry,p⟩ := h
  unfold gSub at p
  split at p
  · cases rx; cases ry; exact ⟨_,_,rfl,rfl,Zv p s (.int _)⟩
  · exact p.elim
theorem Zal : OpF X K (binaryOp .Mod) gMod := Xm op_mod fun x y H Q h => by
  obtain ⟨ι,Z,tx,ty,s,rx,ry,p⟩ := h
  unfold gMod at p
  split at p
  · split at p
    · cases rx; cases ry; exact ⟨_,_,rfl,rfl,by assumption,Zv p s (.int _)⟩
    · exact p.elim
  · exact p.elim
theorem Zdm : OpF X K (binaryOp .FloorDiv) gDiv := Xm op_fdivW fun x y H Q h => by
  obtain ⟨ι,Z,tx,ty,s,rx,ry,p⟩ := h
  unfold gDiv at p
  split at p
  · split at p
    · rename_i hj
      cases rx; cases ry; exact ⟨_,_,rfl,rfl,wide_div (b := 200) hj.1 (by have := hj.1; have := hj.2; omega) (by decide) (by decide),Zv p s (.int _)⟩
    · exact p.elim
  · exact p.elim
theorem Zft : OpF X K (binaryOp .Pow) gPow := Xm op_pow fun x y H Q h => by
  obtain ⟨ι,Z,tx,ty,s,rx,ry,p⟩ := h
  unfold gPow at p
  split at p
  · split at p
    · cases rx; cases ry; exact ⟨_,_,rfl,rfl,by assumption,Zv p s (.int _)⟩
    · exact p.elim
  · exact p.elim
theorem Z21 (hK : X.K = K) : OpF X K (binaryOp .Add) gAdd := by
  subst hK
  refine Xm (Qn (Qn op_add op_add_str) (Qn op_catA op_cat)) fun x y H Q h => ?_
  obtain ⟨ι,Z,tx,ty,s,rx,ry,p⟩ := h
  unfold gAdd at p
  split at p
  · cases rx; cases ry; exact .inl (.inl ⟨_,_,rfl,rfl,Zv p s (.int _)⟩)
  · split at p
    · rename_i hz
      cases rx; cases ry
      exact .inl (.inr ⟨_,_,rfl,rfl,by rw [S_len,S_len]; exact Z24 hz,by rw [S_app]; exact Zv p s (.str _)⟩)
    · exact p.elim
  · split at p
    · rename_i hz
      obtain ⟨a,xs,rfl,ha,ra⟩ := rx.tupE
      obtain ⟨b,ys,rfl,hb,rb⟩ := ry.tupE
      refine .inr (.inl ⟨a,b,xs,ys,rfl,rfl,ha,hb,by rw [ra.length,rb.length]; exact Z24 hz,fun e => ?_,fun _ e => ?_,fun _ _ => Z8k p s (ra.append rb)⟩)
      · subst e; cases ra; exact Zv p s (by rw [List.nil_append]; exact ry)
      · subst e; cases rb; exact Zv p s (by rw [List.append_nil]; exact rx)
    · exact p.elim
  · split at p
    · rename_i a b e1 e2
      split at p
      · rename_i hz
        obtain ⟨x,xs,rfl,_,hx,r1⟩ := Ur s (W3 e1) rx
        obtain ⟨y,ys,rfl,_,hy,r2⟩ := Ur s (W3 e2) ry
        exact .inr (.inr ⟨x,y,xs,ys,rfl,rfl,hx,hy,by rw [r1.length,r2.length]; exact Z24 hz,Z4k p s (r1.append r2)⟩)
      · exact p.elim
    · exact p.elim
  · exact p.elim
theorem Zfu {i j : Int} (h : mulOk i j = true) : CMul i j := by
  unfold mulOk at h
  rw [Bool.or_eq_true,Bool.and_eq_true,Bool.and_eq_true] at h
  rcases h with ⟨a,b⟩ | ⟨a,b⟩
  · exact .inl ⟨of_decide_eq_true a,of_decide_eq_true b⟩
  · exact .inr ⟨of_decide_eq_true a,of_decide_eq_true b⟩
theorem Z7h : OpF X K (binaryOp .Mult) gMul := by
  refine Xm (Qn op_mul (Qn Zai op_rep)) fun x y H Q h => ?_
  obtain ⟨ι,Z,tx,ty,s,rx,ry,p⟩ := h
  unfold gMul at p
  split at p
  · split at p
    · rename_i hc
      cases rx; cases ry; exact .inl ⟨_,_,rfl,rfl,Zfu hc,Zv p s (.int _)⟩
    · exact p.elim
  · split at p
    · rename_i hz
      cases rx; cases ry
      exact .inr (.inl ⟨_,_,rfl,rfl,hz.1,hz.2.1,hz.2.2,Zv p s (.str _)⟩)
    · exact p.elim
  · split at p
    · rename_i a e1
      split at p
      · rename_i hz
        obtain ⟨x,xs,rfl,_,hx,r1⟩ := Ur s (W3 e1) rx
        cases ry
        refine .inr (.inr ⟨x,_,xs,rfl,rfl,hx,by omega,by omega,by rw [r1.length]; exact Z24 hz.2.2,Z4k p s (r1.replicate _)⟩)
      · exact p.elim
    · exact p.elim
  · exact p.elim
end
def eqS : T → T → Option Bool
  | .non,.non => some true | .non,.int _ => some false | .int _,.non => some false | .non,.bl _ => some false | .bl _,.non => some false | .non,.str _ => some false | .str _,.non => some false
  | .int a,.int b => some (decide (a = b)) | .bl a,.bl b => some (decide (a = b)) | .str a,.str b => some (decide (a = b))
  | .int _,.str _ => some false | .str _,.int _ => some false | .bl _,.str _ => some false | .str _,.bl _ => some false
  | _,_ => none
def toD : Nat → Sto → T → Option PyData
  | _,_,.non => some .none
  | _,_,.bl b => some (.bool b)
  | _,_,.int i => some (.int i)
  | _,_,.str l => some (.str (S l))
  | 0,_,_ => none
  | n + 1,Z,.tup ts => (ts.mapM (toD n Z)).map .tuple
  | n + 1,Z,.frl ts => (ts.mapM (toD n Z)).map .list
  | n + 1,Z,.loc i => (getL Z i).bind fun ts => (ts.mapM (toD n Z)).map .list
  | _ + 1,_,_ => none
theorem Z1n {α β : Type} {f : α → Option β} : ∀ {l : List α} {m : List β},l.mapM f = some m → Paired (fun a b => f a = some b) l m
  | [],m,h => by
    have : m = [] := by simpa using h.symm
    subst this; exact .nil
  | a :: l,m,h => by
    rw [List.mapM_cons] at h
    cases h1 : f a with
    | none => rw [h1] at h; cases h
    | some b =>
      rw [h1] at h
      cases h2 : l.mapM f with
      | none => rw [h2] at h; cases h
      | some m' =>
        rw [h2] at h
        have : m = b :: m' := (Option.some.inj h).symm
        subst this
        exact .cons h1 (Z1n h2)
section
variable {K : PySem.W.Frag} {ι : List Addr} {H : Hp} {Z : Sto}
theorem Z5z (s : Sim K ι Z H) : ∀ (n : Nat) {v : V} {t : T} {d : PyData},Rep K ι H v t → toD n Z t = some d → Dp K H v d
  | n,v,t,d,r,e => by
    have all : ∀ m,n = m + 1 → ∀ {vs : List V} {ts : List T} {ds : List PyData},Reps K ι H vs ts → Paired (fun a b => toD m Z a = some b) ts ds → DpAll K H vs ds := by
      intro m hm vs ts ds r p
      induction p generalizing vs with
      | nil => cases r; exact .nil
      | cons h _ ih =>
        cases r with
        | cons r1 r2 => exact .cons (Z5z s m r1 h) (ih r2)
    cases r with
    | non => simp only [toD,Option.some.injEq] at e; subst e; exact .non
    | bl b => simp only [toD,Option.some.injEq] at e; subst e; exact .bl b
    | int i => simp only [toD,Option.some.injEq] at e; subst e; exact .int i
    | str l => simp only [toD,Option.some.injEq] at e; subst e; exact .str _
    | tup h r =>
      cases n with
      | zero => simp [toD] at e
      | succ n =>
        simp only [toD] at e
        obtain ⟨ds,h1,rfl⟩ := Option.map_eq_some_iff.mp e
        exact .tup h (all n rfl r (Z1n h1))
    | frl h r =>
      cases n with
      | zero => simp [toD] at e
      | succ n =>
        simp only [toD] at e
        obtain ⟨ds,h1,rfl⟩ := Option.map_eq_some_iff.mp e
        exact .lst h.sq (all n rfl r (Z1n h1))
    | loc h =>
      cases n with
      | zero => simp [toD] at e
      | succ n =>
        simp only [toD] at e
        obtain ⟨ts,h0,e⟩ := Option.bind_eq_some_iff.mp e
        obtain ⟨ds,h1,rfl⟩ := Option.map_eq_some_iff.mp e
        obtain ⟨a,vs,hv,_,h2,r⟩ := Ur s (W3 h0) (.loc h)
        cases hv
        exact .lst (SqL.of h2) (all n rfl r (Z1n h1))
    | ref a => cases n <;> simp [toD] at e
    | ty n' => cases n <;> simp [toD] at e
    | lam h j => cases n <;> simp [toD] at e
    | ktp h r => cases n <;> simp [toD] at e
  termination_by n => n
end
def gEqD (x y : T) (Z : Sto) : Option Bool := match toD 16 Z x,toD 16 Z y with
  | some d,some e => if SeqAt.shaped d = true ∧ SeqAt.shaped e = true then some (PyData.eqv d e) else none
  | _,_ => none
def gEqB (x y : T) (Z : Sto) : Option Bool := match eqS x y with
  | some b => some b
  | none => gEqD x y Z
def gEq (x y : T) (Z : Sto) : Option (T × Sto) := (gEqB x y Z).map fun b => (.bl b,Z)
def gNe (x y : T) (Z : Sto) : Option (T × Sto) := (gEqB x y Z).map fun b => (.bl (!b),Z)
section
variable {X : Cx} {K : PySem.W.Frag} {ι : List Addr} {H : Hp}
theorem Zfr {a b : List Nat} : decide (V.str (S a) = V.str (S b)) = decide (a = b) := by
  by_cases h : a = b
  · rw [h]; simp
  · rw [decide_eq_false h,decide_eq_false]
    intro e
    exact h (S_inj (V.str.inj e))
theorem Zbe {x y : V} {tx ty : T} {b : Bool} (rx : Rep K ι H x tx) (ry : Rep K ι H y ty) (e : eqS tx ty = some b) : scal x y = true ∧ decide (x = y) = b := by
  cases rx <;> cases ry <;> simp only [eqS,Option.some.injEq] at e <;> first | (subst e; refine ⟨rfl,?_⟩; first | exact Zfr | simp) | (cases e)
theorem Zes {x y : V} {tx ty : T} {Z : Sto} {b : Bool} (s : Sim K ι Z H) (rx : Rep K ι H x tx) (ry : Rep K ι H y ty) (e : gEqD tx ty Z = some b) : ∃ d e', Dp K H x d ∧ Dp K H y e' ∧ SeqAt.shaped d = true ∧ SeqAt.shaped e' = true ∧ PyData.eqv d e' = b := by
  unfold gEqD at e
  split at e
  · rename_i d d' h1 h2
    split at e
    · rename_i h
      cases e
      exact ⟨d, d', Z5z s 16 rx h1, Z5z s 16 ry h2, h.1, h.2, rfl⟩
    · cases e
  · cases e
theorem o_eq (hu : X.A.units + 64 < cLine) (hK : X.K = K) : OpF X K (compareOp .Eq) gEq := by
  subst hK
  refine Xm (Qn op_eq (op_eqD hu)) fun x y H Q h => ?_
  obtain ⟨ι,Z,tx,ty,s,rx,ry,p⟩ := h
  cases e : gEqB tx ty Z with
  | none => simp only [gEq,e] at p; exact p.elim
  | some b =>
    simp only [gEq,e,Option.map_some] at p
    unfold gEqB at e
    split at e
    · rename_i b' e'
      cases e
      obtain ⟨h1, h2⟩ := Zbe rx ry e'
      exact .inl ⟨h1,by rw [h2]; exact Zv p s (.bl _)⟩
    · obtain ⟨d, d', h1, h2, h3, h4, h5⟩ := Zes s rx ry e
      exact .inr ⟨d, d', h1, h2, h3, h4, by rw [h5]; exact Zv p s (.bl _)⟩
theorem o_ne (hu : X.A.units + 64 < cLine) (hK : X.K = K) : OpF X K (compareOp .NotEq) gNe := by
  subst hK
  refine Xm (Qn op_ne (op_neD hu)) fun x y H Q h => ?_
  obtain ⟨ι,Z,tx,ty,s,rx,ry,p⟩ := h
  cases e : gEqB tx ty Z with
  | none => simp only [gNe,e] at p; exact p.elim
  | some b =>
    simp only [gNe,e,Option.map_some] at p
    unfold gEqB at e
    split at e
    · rename_i b' e'
      cases e
      obtain ⟨h1, h2⟩ := Zbe rx ry e'
      exact .inl ⟨h1,by rw [h2]; exact Zv p s (.bl _)⟩
    · obtain ⟨d, d', h1, h2, h3, h4, h5⟩ := Zes s rx ry e
      exact .inr ⟨d, d', h1, h2, h3, h4, by rw [h5]; exact Zv p s (.bl _)⟩
end
def gLt : T → T → Sto → Option (T × Sto)
  | .int i,.int j,Z => some (.bl (decide (i < j)),Z)
  | .str a,.str b,Z => some (.bl (decide (a < b)),Z)
  | _,_,_ => none
def gLe : T → T → Sto → Option (T × Sto)
  | .int i,.int j,Z => some (.bl (decide (i ≤ j)),Z)
  | _,_,_ => none
def gGt : T → T → Sto → Option (T × Sto)
  | .int i,.int j,Z => some (.bl (decide (j < i)),Z)
  | _,_,_ => none
def gGe : T → T → Sto → Option (T × Sto)
  | .int i,.int j,Z => some (.bl (decide (j ≤ i)),Z)
  | _,_,_ => none
def isNon : T → Bool
  | .non => true
  | _ => false
def gIs : T → T → Sto → Option (T × Sto)
  | x,.non,Z => some (.bl (isNon x),Z)
  | _,_,_ => none
def gIsNot : T → T → Sto → Option (T × Sto)
  | x,.non,Z => some (.bl (!isNon x),Z)
  | _,_,_ => none
def flatT : T → Bool
  | .non => true | .bl _ => true | .int _ => true | .str _ => true | _ => false
def eqT : T → T → Bool
  | .non,.non => true
  | .bl a,.bl b => a == b
  | .bl a,.int b => (if a then 1 else 0) == b
  | .int a,.bl b => a == (if b then 1 else 0)
  | .int a,.int b => a == b
  | .str a,.str b => decide (b = a)
  | _,_ => false
def inT (x : T) (ts : List T) : Bool := ts.any fun y => eqT y x
def asSeq : T → Sto → Option (List T)
  | .tup ts,_ => some ts
  | t,Z => asList t Z
def gInB : T → T → Sto → Option Bool
  | .str [c],.str l,_ => some (decide (c ∈ l))
  | x,y,Z => match asSeq y Z with
    | some ts => if flatT x = true ∧ ts.all flatT = true then some (inT x ts) else none
    | none => none
def gIn (x y : T) (Z : Sto) : Option (T × Sto) := (gInB x y Z).map fun b => (.bl b,Z)
def gNotIn (x y : T) (Z : Sto) : Option (T × Sto) := (gInB x y Z).map fun b => (.bl (!b),Z)
section
variable {K : PySem.W.Frag} {ι : List Addr} {H : Hp} {Z : Sto}
theorem Z2x {v : V} {t : T} {ts : List T} (s : Sim K ι Z H) (r : Rep K ι H v t) (e : asSeq t Z = some ts) : ∃ a vs,v = .ref a ∧ (SqL K H a vs ∨ SqT K H a vs) ∧ Reps K ι H vs ts := by
  cases t with
  | tup us =>
    cases e
    obtain ⟨a,vs,rfl,h,r⟩ := r.tupE
    exact ⟨a,vs,rfl,.inr h,r⟩
  | _ =>
    obtain ⟨a,vs,rfl,h,r⟩ := Vo s r (by simpa [asSeq] using e)
    exact ⟨a,vs,rfl,.inl h,r⟩
theorem Zbf {v : V} {t : T} (r : Rep K ι H v t) : flatV v = flatT t := by cases r <;> rfl
theorem Zhh {v w : V} {t u : T} (r : Rep K ι H v t) (q : Rep K ι H w u) (h : flatT t = true) (h2 : flatT u = true) : eqV v w = eqT t u := by
  cases r <;> cases q <;> first | rfl | (exact eqV_S _ _) | (exact absurd h Bool.false_ne_true) | (exact absurd h2 Bool.false_ne_true)
theorem Z9g : ∀ {vs : List V} {ts : List T},Reps K ι H vs ts → vs.all flatV = ts.all flatT
  | _,_,.nil => rfl
  | _,_,.cons r q => by rw [List.all_cons,List.all_cons,Zbf r,Z9g q]
theorem Zet {x : V} {t : T} (r : Rep K ι H x t) (h : flatT t = true) : ∀ {vs : List V} {ts : List T},Reps K ι H vs ts → ts.all flatT = true → inV x vs = inT t ts
  | _,_,.nil,_ => rfl
  | _, _, .cons r' q, hh => by
    rw [List.all_cons,Bool.and_eq_true] at hh
    show (eqV _ x || inV x _) = (eqT _ t || inT t _)
    rw [Zhh r' r hh.1 h, Zet r h q hh.2]
theorem Zeu {x y : V} {tx ty : T} {b : Bool} (s : Sim K ι Z H) (rx : Rep K ι H x tx) (ry : Rep K ι H y ty) (e : gInB tx ty Z = some b) :
    (∃ (c : Nat) (z : PySem.Str),x = .str ⟨#[c]⟩ ∧ y = .str z ∧ decide (c ∈ z.cps.toList) = b) ∨ ∃ p xs,y = .ref p ∧ (SqL K H p xs ∨ SqT K H p xs) ∧ flatV x = true ∧ xs.all flatV = true ∧ inV x xs = b := by
  unfold gInB at e
  split at e
  · cases e; cases rx; cases ry
    exact .inl ⟨_,_,rfl,rfl,by simp [S]⟩
  · split at e
    · rename_i ts h
      split at e
      · rename_i hf
        cases e
        obtain ⟨a,vs,rfl,hq,r⟩ := Z2x s ry h
        exact .inr ⟨a,vs,rfl,hq,(Zbf rx).trans hf.1,(Z9g r).trans hf.2,Zet rx hf.1 r hf.2⟩
      · cases e
    · cases e
end
section
variable {X : Cx} {K : PySem.W.Frag}
theorem o_lt : OpF X K (compareOp .Lt) gLt := by
  refine Xm (Qn op_lt op_lt_str) fun x y H Q h => ?_
  obtain ⟨ι,Z,tx,ty,s,rx,ry,p⟩ := h
  unfold gLt at p
  split at p
  · cases rx; cases ry; exact .inl ⟨_,_,rfl,rfl,Zv p s (.bl _)⟩
  · cases rx; cases ry; exact .inr ⟨_,_,rfl,rfl,Zv p s (.bl _)⟩
  · exact p.elim
theorem o_in (hK : X.K = K) : OpF X K (compareOp .In) gIn := by
  subst hK
  refine Xm (Qn op_in_sign op_in_seq) fun x y H Q h => ?_
  obtain ⟨ι,Z,tx,ty,s,rx,ry,p⟩ := h
  cases e : gInB tx ty Z with
  | none => simp only [gIn,e] at p; exact p.elim
  | some b =>
    simp only [gIn,e,Option.map_some] at p
    have q := Zv p s (.bl b)
    rcases Zeu s rx ry e with ⟨c,z,rfl,rfl,hb⟩ | ⟨a,xs,rfl,h1,h2,h3,hb⟩
    · exact .inl ⟨c,z,rfl,rfl,by rw [hb]; exact q⟩
    · exact .inr ⟨a,xs,rfl,h1,h2,h3,by rw [hb]; exact q⟩
theorem Zfv (hK : X.K = K) : OpF X K (compareOp .NotIn) gNotIn := by
  subst hK
  refine Xm (Qn op_notIn_sign op_notIn_seq) fun x y H Q h => ?_
  obtain ⟨ι,Z,tx,ty,s,rx,ry,p⟩ := h
  cases e : gInB tx ty Z with
  | none => simp only [gNotIn,e] at p; exact p.elim
  | some b =>
    simp only [gNotIn,e,Option.map_some] at p
    have q := Zv p s (.bl (!b))
    rcases Zeu s rx ry e with ⟨c,z,rfl,rfl,hb⟩ | ⟨a,xs,rfl,h1,h2,h3,hb⟩
    · exact .inl ⟨c,z,rfl,rfl,by rw [hb]; exact q⟩
    · exact .inr ⟨a,xs,rfl,h1,h2,h3,by rw [hb]; exact q⟩
end
def eChain (g g' : T → T → Sto → Option (T × Sto)) (a b c : FE) : FE := fun ρ Z => (a ρ Z).bind fun x Z1 => (b ρ Z1).bind fun y Z2 => (lift (g x y Z2)).bind fun z Z3 => match z with
  | .bl true => (c ρ Z3).bind fun w Z4 => lift (g' y w Z4)
  | .bl false => .ok (.bl false) Z3
  | _ => .stuck
section
variable {X : Cx} {K : PySem.W.Frag} {W : Wc} {a b c : Expr} {fa fb fc : FE} {pos : Pos} {op op' : CmpOp} {g g' : T → T → Sto → Option (T × Sto)}
theorem Z9h {σ : L2.St} {H : Hp} {Q : VK} (h : tF K W (eChain g g' fa fb fc) σ H Q) : tChain (rF2 K g) (rF2 K g') (tF K W fa) (tF K W fb) (tF K W fc) σ H Q := by
  obtain ⟨ι,ρ,Z,is,p⟩ := h
  refine ⟨ι,ρ,Z,is,(Zi p).imp fun x H1 q => ?_⟩
  obtain ⟨ι1,Z1,tx,g1,s1,r1,p1⟩ := q
  refine ⟨ι1,ρ,Z1,is.gr g1 s1,(Zi p1).imp fun y H2 q2 => ?_⟩
  obtain ⟨ι2,Z2,ty,g2,s2,r2,p2⟩ := q2
  refine ⟨ι2,Z2,tx,ty,s2,r1.gr g2,r2,U4 (W := W.w) (σ := σ) ((Zi p2).imp fun z H3 q3 => ?_)⟩
  obtain ⟨ι3,Z3,tz,g3,s3,r3,p3⟩ := q3
  split at p3
  · cases r3
    refine ⟨true,rfl,?_⟩
    rw [if_pos rfl]
    refine ⟨ι3,ρ,Z3,is.gr ((g1.trans g2).trans g3) s3,(Zi p3).imp fun w H4 q4 => ?_⟩
    obtain ⟨ι4,Z4,tw,g4,s4,r4,p4⟩ := q4
    exact ⟨ι4,Z4,ty,tw,s4,(r2.gr g3).gr g4,r4,U4 p4⟩
  · cases r3
    refine ⟨false,rfl,?_⟩
    rw [if_neg Bool.false_ne_true]
    exact p3 ι3 H3 _ Gr.refl s3 (.bl false)
  · exact p3.elim
theorem Zfw (ho : OpF X K (compareOp op) g) (ho' : OpF X K (compareOp op') g') (ha : FJ X K W a fa) (hb : FJ X K W b fb) (hc : FJ X K W c fc) (hm : lastMarks [op, op'] [b, c] = false := by with_unfolding_all rfl) :
    FJ X K W (.Compare a [op, op'] [b, c] pos) (eChain g g' fa fb fc) := Xj (pe_chain ho ho' ha hb hc hm) fun _ _ _ h => Z9h h
theorem Zdn (ho : OpF X K (compareOp op) g) (ho' : OpF X K (compareOp op') g') (ha : FJ X K W a fa) (hb : FJ X K W b fb) (hc : FJ X K W c fc) (hm : lastMarks [op, op'] [b, c] = false := by with_unfolding_all rfl) :
    FTJ X K W (.Compare a [op, op'] [b, c] pos) (eBl (eChain g g' fa fb fc)) := by
  refine Z9f (pt_chain ho ho' ha hb hc hm) fun σ H Q h => ?_
  obtain ⟨ι,ρ,Z,is,p⟩ := h
  refine Z9h ⟨ι,ρ,Z,is,(Zi p).imp fun x H1 q => ?_⟩
  obtain ⟨ι1,Z1,tx,g1,s1,r1,p1⟩ := q
  cases r1 with
  | bl b => exact ⟨b,rfl,p1 ι1 H1 b Gr.refl s1 rfl⟩
  | _ => exact p1.elim
end
def gIx : T → T → Sto → Option (T × Sto)
  | .str l,.int i,Z => if l.length ≤ Lim then (atI l i).map fun c => (.str [c],Z) else none
  | x,.int i,Z => match asSeq x Z with
    | some ts => (atI ts i).map fun t => (t,Z)
    | none => none
  | _,_,_ => none
def gSl : T → Option Int → Option Int → Sto → Option (T × Sto)
  | .str l,lo,hi,Z => if l.length ≤ Lim then some (.str (cutL l lo hi),Z) else none
  | .tup ts,lo,hi,Z => some (.tup (cutL ts lo hi),Z)
  | x,lo,hi,Z => match asList x Z with
    | some ts => some (.loc Z.length,Z ++ [.lst (cutL ts lo hi)])
    | none => none
abbrev FO := Env → Sto → R (Option Int)
def oNone : FO := fun _ Z => .ok none Z
def oSome (f : FE) : FO := fun ρ Z => (f ρ Z).bind fun x Z1 => match x with
  | .int i => .ok (some i) Z1
  | _ => .stuck
def eSl (f : FE) (lo hi : FO) : FE := fun ρ Z => (f ρ Z).bind fun x Z1 => (lo ρ Z1).bind fun l Z2 => (hi ρ Z2).bind fun h Z3 => lift (gSl x l h Z3)
def oEq (_ : List Addr) (_ : Hp) (b c : Option Int) : Prop := b = c
def tFO (K : PySem.W.Frag) (W : Wc) (f : FO) : TO := fun σ H Q => ∃ ι ρ Z,Ie K W ι H σ ρ Z ∧ Post oEq K W.w σ ι H Q (f ρ Z)
theorem Reps.cut {K : PySem.W.Frag} {ι : List Addr} {H : Hp} {vs : List V} {ts : List T} (r : Reps K ι H vs ts) (lo hi : Option Int) : Reps K ι H (cutV vs lo hi) (cutL ts lo hi) := by
  unfold cutV cutL
  rw [r.length]
  exact (r.drop _).take _
theorem Zhi {K : PySem.W.Frag} {ι : List Addr} {H : Hp} {vs : List V} {ts : List T} {i : Int} {t : T} (r : Reps K ι H vs ts) (e : atI ts i = some t) : ∃ v,atI vs i = some v ∧ Rep K ι H v t := by
  unfold atI at e ⊢
  rw [r.length]
  obtain ⟨j,h1,h2⟩ := Option.bind_eq_some_iff.mp e
  rw [h1]
  exact r.get h2
section
variable {X : Cx} {K : PySem.W.Frag} {W : Wc} {a : Expr} {fa : FE} {pos p2 : Pos} {lo hi : Option Expr} {fl fh : FO}
theorem Zbg {r r' : R2} (h : IxR X r) (i : ∀ x y H Q, r' x y H Q → r x y H Q) : IxR X r' := fun value slice pins s σ H x y v u Q I rx ry q => h value slice pins s σ H x y v u Q I rx ry (i _ _ _ _ q)
theorem i_ix (hK : X.K = K) : IxR X (rF2 K gIx) := by
  subst hK
  refine Zbg ix_seq fun x y H Q h => ?_
  obtain ⟨ι,Z,tx,ty,s,rx,ry,p⟩ := h
  unfold gIx at p
  split at p
  · split at p
    · rename_i hz
      cases rx; cases ry
      cases e : atI _ _ with
      | none => rw [e] at p; exact p.elim
      | some c =>
        rw [e] at p
        exact .inr (.inr ⟨_,_,c,rfl,rfl,by rw [S_len]; exact Z24 hz,e,Zv p s (.str [c])⟩)
    · exact p.elim
  · cases ry
    split at p
    · rename_i ts hs
      obtain ⟨a,vs,rfl,hq,r⟩ := Z2x s rx hs
      cases e : atI ts _ with
      | none => rw [e] at p; exact p.elim
      | some t =>
        rw [e] at p
        obtain ⟨v,h1,h2⟩ := Zhi r e
        rcases hq with hq | hq
        · exact .inl ⟨a,vs,_,v,rfl,rfl,hq,h1,Zv p s h2⟩
        · exact .inr (.inl ⟨a,vs,_,v,rfl,rfl,hq,h1,Zv p s h2⟩)
    · exact p.elim
  · exact p.elim
theorem Z0x : PO X none (tFO K W oNone) := ⟨fun pins s σ H Q I h => by
  obtain ⟨ι,ρ,Z,is,p⟩ := h
  exact po_none.run pins s σ H Q I (p ι H none Gr.refl is.sim rfl)⟩
theorem Z3h (h : FJ X K W a fa) : PO X (some a) (tFO K W (oSome fa)) := ⟨fun pins s σ H Q I q => by
  obtain ⟨ι,ρ,Z,is,p⟩ := q
  refine (po_some h).run pins s σ H Q I ⟨ι,ρ,Z,is,(Zi p).imp fun x H1 q => ?_⟩
  obtain ⟨ι1,Z1,tx,g1,s1,r1,p1⟩ := q
  cases r1 with
  | int i => exact ⟨i,rfl,p1 ι1 H1 (some i) Gr.refl s1 rfl⟩
  | _ => exact p1.elim⟩
theorem f_sl (hK : X.K = K) (ha : FJ X K W a fa) (hl : PO X lo (tFO K W fl)) (hh : PO X hi (tFO K W fh)) : FJ X K W (.Subscript a (.Slice lo hi none p2) pos) (eSl fa fl fh) := by
  subst hK
  refine Xj (pe_slice ((sl_list (X := X)).or ((sl_tupA (X := X)).or sl_str)) ha hl hh) fun σ H Q h => ?_
  obtain ⟨ι,ρ,Z,is,p⟩ := h
  refine ⟨ι,ρ,Z,is,(Zi p).imp fun x H1 q => ?_⟩
  obtain ⟨ι1,Z1,tx,g1,s1,r1,p1⟩ := q
  refine ⟨ι1,ρ,Z1,is.gr g1 s1,(Zi p1).imp fun l H2 q2 => ?_⟩
  obtain ⟨ι2, Z2, l', g2, s2, r2, p2⟩ := q2
  cases (show l = l' from r2)
  refine ⟨ι2,ρ,Z2,is.gr (g1.trans g2) s2,(Zi p2).imp fun u H3 q3 => ?_⟩
  obtain ⟨ι3, Z3, u', g3, s3, r3, p3⟩ := q3
  cases (show u = u' from r3)
  have rx := (r1.gr g2).gr g3
  have p4 := U4 p3
  unfold gSl at p4
  split at p4
  · split at p4
    · rename_i hz
      cases rx
      exact .inr (.inr ⟨_,rfl,by rw [S_len]; exact Z24 hz,by rw [Zhd]; exact Zv p4 s3 (.str _)⟩)
    · exact p4.elim
  · obtain ⟨a,vs,rfl,hq,r⟩ := rx.tupE
    refine .inr (.inl ⟨a,vs,rfl,hq,fun e => ?_,fun _ => Z8k p4 s3 (r.cut _ _)⟩)
    refine Zv p4 s3 ?_
    have h := r.cut l u
    have e3 : cutV vs l u = vs := by
      unfold cutV
      rw [e.1,e.2,List.drop_zero,Nat.sub_zero]
      exact List.take_of_length_le (Nat.le_refl _)
    rw [e3] at h
    exact .tup hq h
  · split at p4
    · rename_i ts hs
      obtain ⟨a,vs,rfl,hq,r⟩ := Vo s3 rx hs
      exact .inl ⟨a,vs,rfl,hq,Z4k p4 s3 (r.cut _ _)⟩
    · exact p4.elim
end
def eTup (f : FA) : FE := fun ρ Z => (f ρ Z).bind fun xs Z1 => .ok (.tup xs) Z1
def eLst (f : FA) : FE := fun ρ Z => (f ρ Z).bind fun xs Z1 => .ok (.loc Z1.length) (Z1 ++ [.lst xs])
section
variable {X : Cx} {K : PySem.W.Frag} {W : Wc} {es : List Expr} {f : FA} {pos : Pos}
def ofLen (es : List Expr) (f : FA) : Prop := ∀ ρ Z xs Z1,f ρ Z = .ok xs Z1 → xs.length = es.length
theorem Zb : ofLen [] aNil := fun ρ Z xs Z1 h => by
  unfold aNil at h
  injection h with h1 h2
  subst h1; rfl
theorem Z6 {a : Expr} {fa : FE} (h : ofLen es f) : ofLen (a :: es) (aCons fa f) := fun ρ Z xs Z1 e => by
  unfold aCons at e
  cases e1 : fa ρ Z with
  | ok x Z2 =>
    rw [e1,Yo] at e
    cases e2 : f ρ Z2 with
    | ok ys Z3 =>
      rw [e2,Yo] at e
      injection e with h1 h2
      subst h1
      rw [List.length_cons,List.length_cons,h _ _ _ _ e2]
    | exc _ _ => rw [e2] at e; cases e
    | stuck => rw [e2] at e; cases e
  | exc _ _ => rw [e1] at e; cases e
  | stuck => rw [e1] at e; cases e
theorem f_tup {k} (ha : FAJ X K W es f) (hn : ofLen es f) (hz : es.length ≤ 1000 := by decide) : FJ X K W (.Tuple es k pos) (eTup f) := by
  refine Xj (pe_tup ha) fun σ H Q h => ?_
  obtain ⟨ι,ρ,Z,is,p⟩ := h
  refine ⟨ι,ρ,Z,is,?_⟩
  unfold eTup at p
  cases e : f ρ Z with
  | ok ts Z1 =>
    rw [e,Yo] at p
    intro ι1 H1 vs g1 s1 r1
    refine ⟨?_,fun q n => ?_⟩
    · rw [r1.length,hn _ _ _ _ e]; exact Z24 (by unfold Lim; omega)
    · exact p ι1 _ _ (g1.trans (Gr.new0 n)) (s1.same (Qe n)) (.tup (SqT.of upd_same) (r1.gr (Gr.new0 n)))
  | exc x Z1 => rw [e] at p; exact p
  | stuck => rw [e] at p; exact p
theorem Jj (ha : FAJ X K W es f) (hn : ofLen es f) (hz : es.length ≤ 1000 := by decide) : FJ X K W (.List es pos) (eLst f) := by
  refine Xj (pe_lst ha) fun σ H Q h => ?_
  obtain ⟨ι,ρ,Z,is,p⟩ := h
  refine ⟨ι,ρ,Z,is,?_⟩
  unfold eLst at p
  cases e : f ρ Z with
  | ok ts Z1 =>
    rw [e,Yo] at p
    intro ι1 H1 vs g1 s1 r1
    refine ⟨?_,fun q n => ?_⟩
    · rw [r1.length,hn _ _ _ _ e]; exact Z24 (by unfold Lim; omega)
    · exact p (ι1 ++ [q]) _ _ (g1.trans (Gr.new n)) (s1.newL r1 n) (Z6k s1)
  | exc x Z1 => rw [e] at p; exact p
  | stuck => rw [e] at p; exact p
end
end Fx
set_option maxHeartbeats 4000000
namespace Fx
open PySem PySem.Spec PyProof.Rows L2 SX Ap
variable [Tb]
inductive RS where
  | nx (ρ : Env) (Z : Sto) | rt (t : T) (Z : Sto) | bk (ρ : Env) (Z : Sto) | ct (ρ : Env) (Z : Sto) | exc (x : Ex) (ρ : Env) (Z : Sto) | stuck
abbrev FS := Env → Sto → RS
def bS {α : Type} (ρ : Env) : R α → (α → Sto → RS) → RS
  | .ok a Z,k => k a Z
  | .exc x Z,_ => .exc x ρ Z
  | .stuck,_ => .stuck
def seqS : RS → (Env → Sto → RS) → RS
  | .nx ρ Z,k => k ρ Z
  | r,_ => r
def seqL : RS → (Env → Sto → RS) → RS
  | .nx ρ Z,k => k ρ Z
  | .ct ρ Z,k => k ρ Z
  | .bk ρ Z,_ => .nx ρ Z
  | r,_ => r
@[simp] theorem Z22 {α : Type} (ρ : Env) (a : α) (Z : Sto) (k : α → Sto → RS) : bS ρ (.ok a Z) k = k a Z := (rfl)
@[simp] theorem bS_exc {α : Type} (ρ : Env) (x : Ex) (Z : Sto) (k : α → Sto → RS) : bS ρ (.exc x Z) k = .exc x ρ Z := (rfl)
@[simp] theorem bS_stuck {α : Type} (ρ : Env) (k : α → Sto → RS) : bS ρ (.stuck : R α) k = .stuck := (rfl)
@[simp] theorem seqS_nx (ρ : Env) (Z : Sto) (k : Env → Sto → RS) : seqS (.nx ρ Z) k = k ρ Z := (rfl)
@[simp] theorem seqS_rt (t : T) (Z : Sto) (k : Env → Sto → RS) : seqS (.rt t Z) k = .rt t Z := (rfl)
@[simp] theorem seqS_bk (ρ : Env) (Z : Sto) (k : Env → Sto → RS) : seqS (.bk ρ Z) k = .bk ρ Z := (rfl)
@[simp] theorem seqS_ct (ρ : Env) (Z : Sto) (k : Env → Sto → RS) : seqS (.ct ρ Z) k = .ct ρ Z := (rfl)
@[simp] theorem seqS_exc (x : Ex) (ρ : Env) (Z : Sto) (k : Env → Sto → RS) : seqS (.exc x ρ Z) k = .exc x ρ Z := (rfl)
@[simp] theorem Z6l (ρ : Env) (Z : Sto) (k : Env → Sto → RS) : seqL (.nx ρ Z) k = k ρ Z := (rfl)
@[simp] theorem Zbh (ρ : Env) (Z : Sto) (k : Env → Sto → RS) : seqL (.ct ρ Z) k = k ρ Z := (rfl)
@[simp] theorem seqL_bk (ρ : Env) (Z : Sto) (k : Env → Sto → RS) : seqL (.bk ρ Z) k = .nx ρ Z := (rfl)
@[simp] theorem Zfx (t : T) (Z : Sto) (k : Env → Sto → RS) : seqL (.rt t Z) k = .rt t Z := (rfl)
@[simp] theorem seqL_exc (x : Ex) (ρ : Env) (Z : Sto) (k : Env → Sto → RS) : seqL (.exc x ρ Z) k = .exc x ρ Z := (rfl)
structure Is (K : PySem.W.Frag) (ι : List Addr) (H : Hp) (σ : L2.St) (ρ : Env) (Z : Sto) : Prop where
  len : σ.length = ρ.length
  env : Envs K ι H σ ρ
  sim : Sim K ι Z H
theorem Is.ie {K : PySem.W.Frag} {W : WX} {ι : List Addr} {H : Hp} {σ : L2.St} {ρ : Env} {Z : Sto} (h : Is K ι H σ ρ Z) : Ie K (Wt W) ι H σ ρ Z := ⟨h.len,h.env,h.sim,trivial⟩
theorem Is.gr {K : PySem.W.Frag} {ι ι' : List Addr} {H H' : Hp} {σ : L2.St} {ρ : Env} {Z Z' : Sto} (h : Is K ι H σ ρ Z) (g : Gr ι ι' H H') (s : Sim K ι' Z' H') : Is K ι' H' σ ρ Z' := ⟨h.len, h.env.gr g, s⟩
def PostS (K : PySem.W.Frag) (W : WX) (ι : List Addr) (H : Hp) (D : Ends) : RS → Prop
  | .nx ρ' Z' => ∀ ι' H' σ', Gr ι ι' H H' → Is K ι' H' σ' ρ' Z' → D.nx σ' H'
  | .rt t Z' => ∀ ι' H' v, Gr ι ι' H H' → Sim K ι' Z' H' → Rep K ι' H' v t → D.rt v H'
  | .bk ρ' Z' => ∀ ι' H' σ', Gr ι ι' H H' → Is K ι' H' σ' ρ' Z' → D.bk σ' H'
  | .ct ρ' Z' => ∀ ι' H' σ', Gr ι ι' H H' → Is K ι' H' σ' ρ' Z' → D.ct σ' H'
  | .exc x ρ' Z' => ∀ ι' H' σ' cls d, Gr ι ι' H H' → Is K ι' H' σ' ρ' Z' → RepX K ι' H' cls d x → W cls d σ' H'
  | .stuck => False
def tS (K : PySem.W.Frag) (W : WX) (g : FS) : TS := fun D σ H => ∃ ι ρ Z,Is K ι H σ ρ Z ∧ PostS K W ι H D (g ρ Z)
abbrev FSJ (X : Cx) (K : PySem.W.Frag) (W : WX) (st : Stmt) (g : FS) : Prop := PS X st (tS K W g)
abbrev FBJ (X : Cx) (K : PySem.W.Frag) (W : WX) (st : List Stmt) (g : FS) : Prop := PSs X st (tS K W g)
section
variable {α β : Type} {K : PySem.W.Frag} {W : WX} {ι ι1 : List Addr} {H H1 : Hp} {σ : L2.St} {ρ : Env} {Z : Sto} {D : Ends}
theorem PostS.shift {r : RS} (h : PostS K W ι H D r) (g : Gr ι ι1 H H1) : PostS K W ι1 H1 D r := by
  cases r with
  | nx => exact fun ι' H' σ' g' => h ι' H' σ' (g.trans g')
  | rt => exact fun ι' H' σ' g' => h ι' H' σ' (g.trans g')
  | bk => exact fun ι' H' σ' g' => h ι' H' σ' (g.trans g')
  | ct => exact fun ι' H' σ' g' => h ι' H' σ' (g.trans g')
  | exc => exact fun ι' H' σ' c d g' => h ι' H' σ' c d (g.trans g')
  | stuck => exact h
theorem Z4l {rep : List Addr → Hp → β → α → Prop} {r : R α} {k : α → Sto → RS} (is : Is K ι H σ ρ Z) (h : PostS K W ι H D (bS ρ r k)) :
    Post rep K W σ ι H (fun b H1 => ∃ ι1 Z1 a,Gr ι ι1 H H1 ∧ Sim K ι1 Z1 H1 ∧ rep ι1 H1 b a ∧ PostS K W ι1 H1 D (k a Z1)) r := by
  cases r with
  | ok a S => exact fun ι1 H1 b g s r => ⟨ι1,S,a,g,s,r,PostS.shift h g⟩
  | exc x S => exact fun ι' H' cls d g s rx => h ι' H' σ cls d g (is.gr g s) rx
  | stuck => exact h
theorem Zdo {r : RS} {k : Env → Sto → RS} (h : PostS K W ι H D (seqS r k)) :
    PostS K W ι H { D with nx := fun σ' H' => ∃ ι' ρ' Z', Gr ι ι' H H' ∧ Is K ι' H' σ' ρ' Z' ∧ PostS K W ι' H' D (k ρ' Z') } r := by
  cases r with
  | nx ρ' Z' => exact fun ι' H' σ' g i => ⟨ι', ρ', Z', g, i, PostS.shift h g⟩
  | rt => exact h
  | bk => exact h
  | ct => exact h
  | exc => exact h
  | stuck => exact h
theorem Z7i {r : RS} {k : Env → Sto → RS} (h : PostS K W ι H D (seqL r k)) :
    PostS K W ι H { D with nx := fun σ' H' => ∃ ι' ρ' Z', Gr ι ι' H H' ∧ Is K ι' H' σ' ρ' Z' ∧ PostS K W ι' H' D (k ρ' Z'), ct := fun σ' H' => ∃ ι' ρ' Z', Gr ι ι' H H' ∧ Is K ι' H' σ' ρ' Z' ∧ PostS K W ι' H' D (k ρ' Z'), bk := D.nx } r := by
  cases r with
  | nx ρ' Z' => exact fun ι' H' σ' g i => ⟨ι', ρ', Z', g, i, PostS.shift h g⟩
  | rt => exact h
  | bk => exact h
  | ct ρ' Z' => exact fun ι' H' σ' g i => ⟨ι', ρ', Z', g, i, PostS.shift h g⟩
  | exc => exact h
  | stuck => exact h
theorem PostS.imp {r : RS} {D2 : Ends} (h : PostS K W ι H D r) (h1 : ∀ σ H,D.nx σ H → D2.nx σ H) (h2 : ∀ σ H,D.rt σ H → D2.rt σ H) (h3 : ∀ σ H,D.bk σ H → D2.bk σ H) (h4 : ∀ σ H,D.ct σ H → D2.ct σ H) : PostS K W ι H D2 r := by
  cases r with
  | nx => exact fun ι' H' σ' g i => h1 _ _ (h ι' H' σ' g i)
  | rt => exact fun ι' H' σ' g i r => h2 _ _ (h ι' H' σ' g i r)
  | bk => exact fun ι' H' σ' g i => h3 _ _ (h ι' H' σ' g i)
  | ct => exact fun ι' H' σ' g i => h4 _ _ (h ι' H' σ' g i)
  | exc => exact h
  | stuck => exact h
end
def sSet (i : Nat) (f : FE) : FS := fun ρ Z => bS ρ (f ρ Z) fun x Z1 => .nx (ρ.set i (some x)) Z1
def sRet (f : FE) : FS := fun ρ Z => bS ρ (f ρ Z) fun x Z1 => .rt x Z1
def sRetN : FS := fun _ Z => .rt .non Z
def sDrop (f : FE) : FS := fun ρ Z => bS ρ (f ρ Z) fun _ Z1 => .nx ρ Z1
def sPass : FS := fun ρ Z => .nx ρ Z
def sBrk : FS := fun ρ Z => .bk ρ Z
def sCnt : FS := fun ρ Z => .ct ρ Z
def sIf (c : FT) (a b : FS) : FS := fun ρ Z => bS ρ (c ρ Z) fun x Z1 => if x = true then a ρ Z1 else b ρ Z1
def bCons (a b : FS) : FS := fun ρ Z => seqS (a ρ Z) b
section
variable {X : Cx} {K : PySem.W.Frag} {W : WX} {e c : Expr} {fe : FE} {ft : FT} {st : Stmt} {sts a b : List Stmt} {g g' : FS} {pos : Pos} {i : Nat} {x : PySem.Str}
theorem Zbi {k : T → Sto → RS} {σ : L2.St} {ρ : Env} {ι : List Addr} {H : Hp} {Z : Sto} {D : Ends} {Q : VK} (is : Is K ι H σ ρ Z) (h : PostS K W ι H D (bS ρ (fe ρ Z) k)) (hq : ∀ v H1 ι1 Z1 t,Gr ι ι1 H H1 → Is K ι1 H1 σ ρ Z1 → Rep K ι1 H1 v t → PostS K W ι1 H1 D (k t Z1) → Q v H1) : tF K (Wt W) fe σ H Q :=
  ⟨ι,ρ,Z,is.ie,(Z4l (rep := Rep K) is h).imp fun v H1 ⟨ι1,Z1,t,g1,s1,r1,p1⟩ => hq v H1 ι1 Z1 t g1 (is.gr g1 s1) r1 p1⟩
theorem Zev {k : Bool → Sto → RS} {σ : L2.St} {ρ : Env} {ι : List Addr} {H : Hp} {Z : Sto} {D : Ends} {Q : Bool → Hp → Prop} (is : Is K ι H σ ρ Z) (h : PostS K W ι H D (bS ρ (ft ρ Z) k)) (hq : ∀ v H1 ι1 Z1,Gr ι ι1 H H1 → Is K ι1 H1 σ ρ Z1 → PostS K W ι1 H1 D (k v Z1) → Q v H1) : tFT K (Wt W) ft σ H Q :=
  ⟨ι,ρ,Z,is.ie,(Z4l (rep := bEq) is h).imp fun v H1 ⟨ι1,Z1,t,g1,s1,r1,p1⟩ => hq v H1 ι1 Z1 g1 (is.gr g1 s1) (by cases (show v = t from r1); exact p1)⟩
theorem Is.set {ι : List Addr} {H : Hp} {σ : L2.St} {ρ : Env} {Z : Sto} {v : V} {t : T} (h : Is K ι H σ ρ Z) (r : Rep K ι H v t) (i : Nat) : Is K ι H (σ.set i (some v)) (ρ.set i (some t)) Z :=
  ⟨by rw [List.length_set,List.length_set]; exact h.len,h.env.set r i h.len,h.sim⟩
theorem Xg {pos' : Pos} (hN : X.N.Nodup) (hi : X.N[i]? = some x) (hx : Loc X.env.scope x) (he : FJ X K (Wt W) e fe) (hs : swapsWith e (some (.Name x pos')) pos.line X.env = pure false := by rfl) (hf : X.fn x = true ∨ X.env.scope.names.lookup x = some .local := by first | exact .inl rfl | exact .inr rfl | assumption) :
    FSJ X K W (.Assign [.Name x pos'] e pos) (sSet i fe) := Z0w (ps_set hN hi hx he hs hf) fun D σ H h => by
  obtain ⟨ι,ρ,Z,is,p⟩ := h
  exact Zbi is p fun v H1 ι1 Z1 t g1 i1 r1 p1 => p1 ι1 H1 _ Gr.refl (i1.set r1 i)
theorem Zy (he : FJ X K (Wt W) e fe) : FSJ X K W (.Return (some e) pos) (sRet fe) := Z0w (ps_ret he) fun D σ H h => by
  obtain ⟨ι,ρ,Z,is,p⟩ := h
  exact Zbi is p fun v H1 ι1 Z1 t g1 i1 r1 p1 => p1 ι1 H1 v Gr.refl i1.sim r1
theorem Z27 (he : FJ X K (Wt W) e fe) (hs : swapsWith e none pos.line X.env = pure false := by rfl) : FSJ X K W (.Expr e pos) (sDrop fe) := Z0w (ps_expr he hs) fun D σ H h => by
  obtain ⟨ι,ρ,Z,is,p⟩ := h
  exact Zbi is p fun v H1 ι1 Z1 t g1 i1 r1 p1 => p1 ι1 H1 σ Gr.refl i1
theorem W4 (hc : FTJ X K (Wt W) c ft) (ha : FBJ X K W a g) (hb : FBJ X K W b g') : FSJ X K W (.If c a b pos) (sIf ft g g') := Z0w (ps_if hc ha hb) fun D σ H h => by
  obtain ⟨ι,ρ,Z,is,p⟩ := h
  refine Zev is p fun v H1 ι1 Z1 g1 i1 p1 => ?_
  cases v with
  | true => exact ⟨ι1,ρ,Z1,i1,p1⟩
  | false => exact ⟨ι1,ρ,Z1,i1,p1⟩
theorem Yq : FBJ X K W [] sPass := Zbd pss_nil fun D σ H h => by
  obtain ⟨ι,ρ,Z,is,p⟩ := h
  exact p ι H σ Gr.refl is
theorem Zj (h : FSJ X K W st g) : FBJ X K W [st] g := pss_one h
theorem Zh (h : FSJ X K W st g) (h2 : FBJ X K W sts g') : FBJ X K W (st :: sts) (bCons g g') := Zbd (pss_cons h h2) fun D σ H h => by
  obtain ⟨ι,ρ,Z,is,p⟩ := h
  refine ⟨ι, ρ, Z, is, (Zdo p).imp (fun σ' H' q => ?_) (fun _ _ q => q) (fun _ _ q => q) (fun _ _ q => q)⟩
  obtain ⟨ι', ρ', Z', _, i', p'⟩ := q
  exact ⟨ι', ρ', Z', i', p'⟩
end
def sPar (ix : List Nat) (f : FA) : FS := fun ρ Z => bS ρ (f ρ Z) fun xs Z1 => .nx ((ix.zip xs).foldl (fun r p => r.set p.1 (some p.2)) ρ) Z1
section
variable {X : Cx} {K : PySem.W.Frag} {W : WX} {fa : FA}
theorem Zew {k : List T → Sto → RS} {σ : L2.St} {ρ : Env} {ι : List Addr} {H : Hp} {Z : Sto} {D : Ends} {Q : List V → Hp → Prop} (is : Is K ι H σ ρ Z) (h : PostS K W ι H D (bS ρ (fa ρ Z) k)) (hq : ∀ v H1 ι1 Z1 t,fa ρ Z = .ok t Z1 → Gr ι ι1 H H1 → Is K ι1 H1 σ ρ Z1 → Reps K ι1 H1 v t → PostS K W ι1 H1 D (k t Z1) → Q v H1) : tFA K (Wt W) fa σ H Q := by
  refine ⟨ι,ρ,Z,is.ie,?_⟩
  cases e : fa ρ Z with
  | ok a S =>
    rw [e] at h
    exact fun ι1 H1 b g s r => hq b H1 ι1 S a e g (is.gr g s) r (PostS.shift h g)
  | exc x S =>
    rw [e] at h
    exact fun ι' H' cls d g s rx => h ι' H' σ cls d g (is.gr g s) rx
  | stuck => rw [e] at h; exact h
theorem Zhj {i j : Nat} {x y : PySem.Str} {a b : Expr} {px py pt pos : Pos} {kt k2 pt2} (hc : X.calm = true) (hN : X.N.Nodup) (hi : X.N[i]? = some x) (hj : X.N[j]? = some y) (hij : i ≠ j)
    (hx : X.env.scope.names.lookup x = some .local) (hy : X.env.scope.names.lookup y = some .local) (ha : FAJ X K (Wt W) [a,b] fa) (hn : ofLen [a,b] fa)
    (hw : swappedStores [.Tuple [.Name x px,.Name y py] kt pt] (.Tuple [a,b] k2 pt2) X.env = pure (some [x,y]))
    (hs : swapsWithSole [.Tuple [.Name x px,.Name y py] kt pt] (.Tuple [a,b] k2 pt2) pos.line X.env = pure false := by rfl) :
    FSJ X K W (.Assign [.Tuple [.Name x px,.Name y py] kt pt] (.Tuple [a,b] k2 pt2) pos) (sPar [i,j] fa) := Z0w (ps_par hc hN hi hj hij hx hy ha hw hs) fun D σ H h => by
  obtain ⟨ι,ρ,Z,is,p⟩ := h
  refine Zew is p fun v H1 ι1 Z1 t e g1 i1 r1 p1 => ?_
  have hl := hn _ _ _ _ e
  match t,r1,hl with
  | [t1,t2],.cons r1 (.cons r2 .nil),_ => exact ⟨_,_,rfl,p1 ι1 H1 _ Gr.refl ((i1.set r1 i).set r2 j)⟩
end
abbrev FG := T → Env → Sto → R Env
abbrev FGs := List T → Env → Sto → R Env
def rEnv (K : PySem.W.Frag) (ι : List Addr) (H : Hp) (σ : L2.St) (ρ : Env) : Prop := σ.length = ρ.length ∧ Envs K ι H σ ρ
def tG (K : PySem.W.Frag) (W : WX) (g : FG) : TG := fun v σ H Q => ∃ ι ρ Z t,Is K ι H σ ρ Z ∧ Rep K ι H v t ∧ Post (rEnv K) K W σ ι H Q (g t ρ Z)
def tGs (K : PySem.W.Frag) (W : WX) (g : FGs) : TGs := fun v σ H Q => ∃ ι ρ Z t,Is K ι H σ ρ Z ∧ Reps K ι H v t ∧ Post (rEnv K) K W σ ι H Q (g t ρ Z)
def gNm (i : Nat) : FG := fun t ρ Z => .ok (ρ.set i (some t)) Z
def gsNil : FGs := fun ts ρ Z => match ts with
  | [] => .ok ρ Z
  | _ => .stuck
def noX {α : Type} : R α → R α
  | .exc _ _ => .stuck
  | r => r
def gsCons (g : FG) (r : FGs) : FGs := fun ts ρ Z => match ts with
  | t :: ts => (noX (g t ρ Z)).bind fun ρ1 Z1 => noX (r ts ρ1 Z1)
  | _ => .stuck
def gTp (n : Nat) (r : FGs) : FG := fun t ρ Z => match t with
  | .tup ts => if ts.length = n then r ts ρ Z else .stuck
  | _ => .stuck
theorem Jk {α β : Type} {rep : List Addr → Hp → β → α → Prop} {K : PySem.W.Frag} {W W' : WX} {σ σ' : L2.St} {ι : List Addr} {H : Hp} {Q : β → Hp → Prop} {r : R α} (h : Post rep K W σ ι H Q (noX r)) : Post rep K W' σ' ι H Q r := by
  cases r with
  | ok => exact h
  | exc => exact h.elim
  | stuck => exact h
section
variable {X : Cx} {K : PySem.W.Frag} {W : WX} {pos : Pos} {e : Expr} {es : List Expr}
theorem Z9i {tg : Expr} {t t' : TG} (h : PG X tg t) (i : ∀ v σ H Q, t' v σ H Q → t v σ H Q) : PG X tg t' := ⟨fun pins s σ H v u Q I r q => h.run pins s σ H v u Q I r (i _ _ _ _ q)⟩
theorem Zbj {tg : List Expr} {t t' : TGs} (h : PGs X tg t) (i : ∀ v σ H Q, t' v σ H Q → t v σ H Q) : PGs X tg t' := ⟨fun pins s σ H v u Q I r q => h.run pins s σ H v u Q I r (i _ _ _ _ q)⟩
theorem Yl {i : Nat} {x : PySem.Str} (hN : X.N.Nodup) (hi : X.N[i]? = some x) (hx : Loc X.env.scope x) (hf : X.fn x = true ∨ X.env.scope.names.lookup x = some .local := by first | exact .inl rfl | exact .inr rfl | assumption) : PG X (.Name x pos) (tG K W (gNm i)) :=
  Z9i (pg_name hN hi hx hf) fun v σ H Q h => by
    obtain ⟨ι,ρ,Z,t,is,r,p⟩ := h
    have i2 := is.set r i
    exact p ι H _ Gr.refl is.sim ⟨i2.len,i2.env⟩
theorem Z0y : PGs X [] (tGs K W gsNil) := Zbj pgs_nil fun v σ H Q h => by
  obtain ⟨ι,ρ,Z,t,is,r,p⟩ := h
  cases r with
  | nil => exact ⟨rfl,p ι H _ Gr.refl is.sim ⟨is.len,is.env⟩⟩
  | cons _ _ => exact p.elim
theorem Yt {g : FG} {gs : FGs} (h1 : PG X e (tG K W g)) (h2 : PGs X es (tGs K W gs)) (hs : (assignEach (e :: es) X.env).map (·.2) = assign e X.env :: (assignEach es X.env).map (·.2) := by rfl) : PGs X (e :: es) (tGs K W (gsCons g gs)) := Zbj (pgs_cons h1 h2 hs) fun v σ H Q h => by
  obtain ⟨ι,ρ,Z,t,is,r,p⟩ := h
  cases r with
  | nil => exact p.elim
  | cons r1 r2 =>
    refine ⟨_,_,rfl,ι,ρ,Z,_,is,r1,Jk (W := W) (σ := σ) ((Zi (rep := rEnv K) p).imp fun σ1 H1 q => ?_)⟩
    obtain ⟨ι1,Z1,ρ1,g1,s1,⟨hl,he⟩,p1⟩ := q
    exact ⟨ι1,ρ1,Z1,_,⟨hl,he,s1⟩,r2.gr g1,Jk p1⟩
theorem Z3u {k : Nat} {gs : FGs} {n : Nat} (hK : X.K = K) (hc : X.calm = true) (h : PGs X es (tGs K W gs)) (hn : (assignEach es X.env).length = n := by rfl) (hst : (assignEach es X.env).findIdx? (·.1) = none := by rfl) : PG X (.Tuple es k pos) (tG K W (gTp n gs)) := by
  subst hK
  refine Z9i (pg_tup hc h hn hst) fun v σ H Q h => ?_
  obtain ⟨ι,ρ,Z,t,is,r,p⟩ := h
  cases t with
  | tup ts =>
    obtain ⟨a,vs,rfl,hq,r⟩ := r.tupE
    simp only [gTp] at p
    split at p
    · rename_i hl
      exact ⟨a,vs,rfl,hq,by rw [r.length]; exact hl,ι,ρ,Z,ts,is,r,p⟩
    · exact p.elim
  | _ => exact p.elim
def sAsg (f : FE) (g : FG) : FS := fun ρ Z => bS ρ (f ρ Z) fun x Z1 => bS ρ (g x ρ Z1) fun ρ2 Z2 => .nx ρ2 Z2
theorem Z2y {tg : Expr} {fe : FE} {g : FG} (he : FJ X K (Wt W) e fe) (hg : PG X tg (tG K W g)) (hs : swapsWithSole [tg] e pos.line X.env = pure false := by rfl) (hw : swappedStores [tg] e X.env = pure none := by rfl)
    (h1 : (assignEach [tg] X.env).map (·.2) = [assign tg X.env] := by rfl) : FSJ X K W (.Assign [tg] e pos) (sAsg fe g) := Z0w (ps_asg he hg hs hw h1) fun D σ H h => by
  obtain ⟨ι,ρ,Z,is,p⟩ := h
  refine Zbi is p fun v H1 ι1 Z1 t g1 i1 r1 p1 => ?_
  refine ⟨ι1,ρ,Z1,t,i1,r1,(Z4l (rep := rEnv K) i1 p1).imp fun σ2 H2 q => ?_⟩
  obtain ⟨ι2,Z2,ρ2,g2,s2,⟨hl,he⟩,p2⟩ := q
  exact p2 ι2 H2 σ2 Gr.refl ⟨hl,he,s2⟩
end
def gSetL : T → T → T → Sto → Option Sto
  | .loc j,.int k,t,Z => match getL Z j with
    | some ts => (ixN ts.length k).map fun n => Z.set j (.lst (ts.set n t))
    | none => none
  | _,_,_,_ => none
def gSubs (fo fi : FE) : FG := fun t ρ Z => (fo ρ Z).bind fun o Z1 => (fi ρ Z1).bind fun i Z2 => match gSetL o i t Z2 with
  | some Z3 => .ok ρ Z3
  | none => .stuck
section
variable {X : Cx} {K : PySem.W.Frag} {W : WX} {pos : Pos} {o e : Expr} {fo fi fe : FE}
theorem Zbk {ι : List Addr} {H : Hp} {Z Z3 : Sto} {x y v : V} {tx ty t : T} {Q : Hp → Prop} (s : Sim K ι Z H) (rx : Rep K ι H x tx) (ry : Rep K ι H y ty) (r : Rep K ι H v t) (e : gSetL tx ty t Z = some Z3) (q : ∀ H', Gr ι ι H H' → Sim K ι Z3 H' → Q H') : rSetL x y v H Q := by
  unfold gSetL at e
  split at e
  · split at e
    · rename_i ts h
      obtain ⟨n,h1,rfl⟩ := Option.map_eq_some_iff.mp e
      obtain ⟨a,vs,rfl,ha,hl,rl⟩ := Ur s (W3 h) rx
      cases ry
      refine ⟨a,vs,_,n,rfl,rfl,hl,by rw [rl.length]; exact h1,?_⟩
      have g := Gr.mut (ι := ι) (o := .lst (vs.set n v)) hl trivial (List.mem_of_getElem? ha)
      exact q _ g (s.set ha ⟨_,upd_same,(rl.gr g).set (r.gr g) n⟩)
    · cases e
  · cases e
def gIAdd : T → T → Sto → Option (T × Sto)
  | .int i,.int j,Z => some (.int (i + j),Z)
  | .str a,.str b,Z => if a.length + b.length ≤ Lim then some (.str (a ++ b),Z) else none
  | _,_,_ => none
end
abbrev ItF := Nat → Sto → Option (Option T)
abbrev FI := Env → Sto → R ItF
def loopN (it : ItF) (body : T → FS) : Nat → Nat → Env → Sto → RS
  | 0,_,_,_ => .stuck
  | n + 1,k,ρ,Z => match it k Z with
    | none => .stuck
    | some none => .nx ρ Z
    | some (some t) => seqL (body t ρ Z) fun ρ' Z' => loopN it body n (k + 1) ρ' Z'
def sFor (it : FI) (g : FG) (b : FS) : FS := fun ρ Z => bS ρ (it ρ Z) fun j Z1 => loopN j (fun t ρ' Z' => bS ρ' (g t ρ' Z') b) Fuel 0 ρ Z1
def loopW (c : FT) (b : FS) : Nat → Env → Sto → RS
  | 0,_,_ => .stuck
  | n + 1, ρ, Z => bS ρ (c ρ Z) fun x Z1 => if x = true then seqL (b ρ Z1) fun ρ' Z' => loopW c b n ρ' Z' else .nx ρ Z1
def sWhile (fuel : Nat) (c : FT) (b : FS) : FS := fun ρ Z => loopW c b fuel ρ Z
def ItR (K : PySem.W.Frag) (ι : List Addr) (H : Hp) (J : It) (it : ItF) : Prop := ∀ k ι' H' Z', Gr ι ι' H H' → Sim K ι' Z' H' → match it k Z' with
  | none => True
  | some none => J.stop k H'
  | some (some t) => J.go k H' ∧ ∀ x H'', J.yld k H' x H'' → Gr ι' ι' H' H'' ∧ Sim K ι' Z' H'' ∧ Rep K ι' H'' x t
def tI (K : PySem.W.Frag) (W : WX) (f : FI) : TI := fun σ H Q => ∃ ι ρ Z,Is K ι H σ ρ Z ∧ Post (ItR K) K W σ ι H Q (f ρ Z)
section
variable {X : Cx} {K : PySem.W.Frag} {W : WX} {pos : Pos} {tg iter c : Expr} {body : List Stmt} {fi : FI} {g : FG} {b : FS} {ft : FT}
theorem N8 (hp : PassesOwn (model X.prog X.w) X.A X.env X.xe) (hc : X.calm = true) (hi : PI X tg iter (tI K W fi)) (hg : PG X tg (tG K W g)) (hb : FBJ X K W body b) (hs : ∀ x,foldedSetIterable iter X.env x = pure x := by intro _; rfl) :
    FSJ X K W (.For tg iter body [] pos) (sFor fi g b) := Z0w (ps_for hp hc hi hg hb hs) fun D σ H h => by
  obtain ⟨ι,ρ,Z,is,p⟩ := h
  refine ⟨ι,ρ,Z,is,(Z4l (rep := ItR K) is p).imp fun J H1 q => ?_⟩
  obtain ⟨ι1,Z1,it,g1,s1,rJ,p1⟩ := q
  refine ⟨fun k m σ' H' => ∃ ι' ρ' Z', Gr ι1 ι' H1 H' ∧ Is K ι' H' σ' ρ' Z' ∧ PostS K W ι' H' D (loopN it (fun t ρ' Z' => bS ρ' (g t ρ' Z') b) m k ρ' Z'), ⟨Fuel, ι1, ρ, Z1, Gr.refl, is.gr g1 s1, p1⟩, ?_⟩
  rintro k m σ' H' ⟨ι', ρ', Z', g', i', p'⟩
  cases m with
  | zero => exact p'.elim
  | succ m =>
    have hj := rJ k ι' H' Z' g' i'.sim
    unfold loopN at p'
    cases e : it k Z' with
    | none => rw [e] at p'; exact p'.elim
    | some o =>
      rw [e] at hj p'
      cases o with
      | none => exact .inl ⟨hj, p' ι' H' σ' Gr.refl i'⟩
      | some t =>
        refine .inr ⟨hj.1, _, fun σ2 H2 n => ⟨m, Nat.lt_succ_self m, n⟩, fun x H'' y => ?_⟩
        obtain ⟨g2, s2, r2⟩ := hj.2 x H'' y
        have i2 := i'.gr g2 s2
        have p2 := Z7i (PostS.shift p' g2)
        refine ⟨ι', ρ', Z', t, i2, r2, (Z4l (rep := rEnv K) i2 p2).imp fun σ3 H3 q => ?_⟩
        obtain ⟨ι3,Z3,ρ3,g3,s3,⟨hl,he⟩,p3⟩ := q
        have hN : ∀ σ4 H4, (∃ ι4 ρ4 Z4, Gr ι' ι4 H'' H4 ∧ Is K ι4 H4 σ4 ρ4 Z4 ∧ PostS K W ι4 H4 D (loopN it (fun t ρ' Z' => bS ρ' (g t ρ' Z') b) m (k + 1) ρ4 Z4)) → ∃ ι4 ρ4 Z4, Gr ι1 ι4 H1 H4 ∧ Is K ι4 H4 σ4 ρ4 Z4 ∧ PostS K W ι4 H4 D (loopN it (fun t ρ' Z' => bS ρ' (g t ρ' Z') b) m (k + 1) ρ4 Z4) :=
          fun σ4 H4 ⟨ι4, ρ4, Z4, g4, i4, p4⟩ => ⟨ι4, ρ4, Z4, (g'.trans g2).trans g4, i4, p4⟩
        exact ⟨ι3,ρ3,Z3,⟨hl,he,s3⟩,p3.imp hN (fun _ _ q => q) (fun _ _ q => q) hN⟩
theorem Zdp {fuel : Nat} (hp : PassesOwn (model X.prog X.w) X.A X.env X.xe) (hc : FTJ X K (Wt W) c ft) (hb : FBJ X K W body b) : FSJ X K W (.While c body [] pos) (sWhile fuel ft b) := Z0w (ps_while hp hc hb) fun D σ H h => by
  obtain ⟨ι,ρ,Z,is,p⟩ := h
  refine ⟨fun m σ' H' => ∃ ι' ρ' Z', Gr ι ι' H H' ∧ Is K ι' H' σ' ρ' Z' ∧ PostS K W ι' H' D (loopW ft b m ρ' Z'), ⟨fuel, ι, ρ, Z, Gr.refl, is, p⟩, ?_⟩
  rintro m σ' H' ⟨ι', ρ', Z', g', i', p'⟩
  cases m with
  | zero => exact p'.elim
  | succ m =>
    unfold loopW at p'
    refine Zev i' p' fun v H1 ι1 Z1 g1 i1 p1 => ?_
    cases v with
    | false => exact p1 ι1 H1 σ' Gr.refl i1
    | true =>
      rw [if_pos rfl] at p1 ⊢
      have hN : ∀ σ4 H4,(∃ ι4 ρ4 Z4,Gr ι1 ι4 H1 H4 ∧ Is K ι4 H4 σ4 ρ4 Z4 ∧ PostS K W ι4 H4 D (loopW ft b m ρ4 Z4)) → ∃ ι4 ρ4 Z4,Gr ι ι4 H H4 ∧ Is K ι4 H4 σ4 ρ4 Z4 ∧ PostS K W ι4 H4 D (loopW ft b m ρ4 Z4) :=
        fun σ4 H4 ⟨ι4, ρ4, Z4, g4, i4, p4⟩ => ⟨ι4, ρ4, Z4, (g'.trans g1).trans g4, i4, p4⟩
      exact ⟨_, fun σ2 H2 n => ⟨m, Nat.lt_succ_self m, n⟩, ι1, ρ', Z1, i1, (Z7i p1).imp hN (fun _ _ q => q) (fun _ _ q => q) hN⟩
end
def itSeq (ts : List T) : ItF := fun k _ => some ts[k]?
def itLoc (i : Nat) : ItF := fun k Z => (getL Z i).map fun ts => ts[k]?
def itEnum (it : ItF) : ItF := fun k Z => (it k Z).map fun o => o.map fun t => .tup [.int (k : Int),t]
def itRng (lo : Int) (n : Nat) : ItF := fun k _ => some (if k < n then some (.int (lo + k)) else none)
def itStr (l : List Nat) : ItF := fun k _ => some (l[k]?.map fun c => .str [c])
def iSeqT (f : FE) : FI := fun ρ Z => (f ρ Z).bind fun x Z1 => match x with
  | .tup ts => .ok (itSeq ts) Z1
  | _ => .stuck
def iSeqL (f : FE) : FI := fun ρ Z => (f ρ Z).bind fun x Z1 => match x with
  | .frl ts => .ok (itSeq ts) Z1
  | .loc i => match getL Z1 i with
    | some _ => .ok (itLoc i) Z1
    | none => .stuck
  | _ => .stuck
def iStr (f : FE) : FI := fun ρ Z => (f ρ Z).bind fun x Z1 => match x with
  | .str l => .ok (itStr l) Z1
  | _ => .stuck
def iRng (f : FA) : FI := fun ρ Z => (f ρ Z).bind fun xs Z1 => match xs with
  | [.int j] => if -(2 ^ 62) ≤ j ∧ j < 2 ^ 62 then .ok (itRng 0 j.toNat) Z1 else .stuck
  | [.int i,.int j] => if -(2 ^ 62) ≤ i ∧ i < 2 ^ 62 ∧ -(2 ^ 62) ≤ j ∧ j < 2 ^ 62 then .ok (itRng i (j - i).toNat) Z1 else .stuck
  | _ => .stuck
section
variable {X : Cx} {K : PySem.W.Frag} {W : WX} {pos p : Pos} {tg l a b : Expr} {fl : FE} {fa : FA}
theorem Z4m {t t' : TI} (h : PI X tg l t) (i : ∀ σ H Q, t' σ H Q → t σ H Q) : PI X tg l t' := ⟨fun pins s σ H R I q => h.run pins s σ H R I (i _ _ _ q)⟩
theorem Z9j {ι : List Addr} {H : Hp} {Z : Sto} {v : V} {t : T} {it : ItF} (s : Sim K ι Z H) (r : Rep K ι H v t) (e : (match t with
  | .frl ts => some (itSeq ts)
  | .loc i => match getL Z i with
    | some _ => some (itLoc i)
    | none => none
  | _ => none) = some it) : ∃ a,v = .ref a ∧ (∃ xs,SqL K H a xs) ∧ ItR K ι H (Itl K a) it := by
  cases t with
  | frl ts =>
    cases e
    cases r with
    | frl hq rs =>
      refine ⟨_, rfl, ⟨_, hq.sq⟩, fun k ι' H' Z' g' s' => ?_⟩
      have hq' := (hq.gr g').sq
      show match (itSeq ts k Z') with | none => True | some none => _ | some (some t) => _
      simp only [itSeq]
      cases e : ts[k]? with
      | none => exact ⟨_, hq', by rw [rs.length]; exact List.getElem?_eq_none_iff.mp e⟩
      | some u =>
        obtain ⟨x,h1,h2⟩ := rs.get e
        refine ⟨⟨_, x, hq', h1⟩, fun y H'' hy => ?_⟩
        obtain ⟨rfl,hy⟩ := hy
        have := hy _ hq'
        rw [h1] at this; cases this
        exact ⟨Gr.refl, s', h2.gr g'⟩
  | loc i =>
    simp only at e
    split at e
    · rename_i ts hl
      cases e
      obtain ⟨a,vs,rfl,ha,h1,h2⟩ := Ur s (W3 hl) r
      refine ⟨a, rfl, ⟨vs, SqL.of h1⟩, fun k ι' H' Z' g' s' => ?_⟩
      simp only [itLoc]
      cases e : getL Z' i with
      | none => exact trivial
      | some ts' =>
        obtain ⟨a', vs', ea, ha', h1', h2'⟩ := Ur s' (W3 e) (.loc (g'.pre _ _ ha))
        cases ea
        simp only [Option.map_some]
        cases e2 : ts'[k]? with
        | none => exact ⟨_, SqL.of h1', by rw [h2'.length]; exact List.getElem?_eq_none_iff.mp e2⟩
        | some u =>
          obtain ⟨x, h3, h4⟩ := h2'.get e2
          refine ⟨⟨_, x, SqL.of h1', h3⟩, fun y H'' hy => ?_⟩
          obtain ⟨rfl,hy⟩ := hy
          have := hy _ (SqL.of h1')
          rw [h3] at this; cases this
          exact ⟨Gr.refl, s', h4⟩
    · cases e
  | _ => cases e
theorem Zfy (hK : X.K = K) (hl : FJ X K (Wt W) l fl) : PI X tg l (tI K W (iSeqL fl)) := by
  subst hK
  refine Z4m (pi_list hl) fun σ H Q h => ?_
  obtain ⟨ι,ρ,Z,is,p⟩ := h
  refine ⟨ι,ρ,Z,is.ie,(Zi (rep := Rep X.K) p).imp fun v H1 q => ?_⟩
  obtain ⟨ι1,Z1,t,g1,s1,r1,p1⟩ := q
  cases t with
  | frl ts =>
    obtain ⟨a,rfl,hx,hI⟩ := Z9j (it := itSeq ts) s1 r1 rfl
    exact ⟨a,rfl,hx,p1 ι1 H1 _ Gr.refl s1 hI⟩
  | loc i =>
    simp only at p1
    split at p1
    · rename_i ts e
      obtain ⟨a,rfl,hx,hI⟩ := Z9j (it := itLoc i) s1 r1 (by simp only [e])
      exact ⟨a,rfl,hx,p1 ι1 H1 _ Gr.refl s1 hI⟩
    · exact p1.elim
  | _ => exact p1.elim
theorem Zhk (hK : X.K = K) (hl : FJ X K (Wt W) l fl) : PI X tg l (tI K W (iSeqT fl)) := by
  subst hK
  refine Z4m (pi_tup hl) fun σ H Q h => ?_
  obtain ⟨ι,ρ,Z,is,p⟩ := h
  refine ⟨ι,ρ,Z,is.ie,(Zi (rep := Rep X.K) p).imp fun v H1 q => ?_⟩
  obtain ⟨ι1,Z1,t,g1,s1,r1,p1⟩ := q
  cases t with
  | tup ts =>
    obtain ⟨a,vs,rfl,hq,rs⟩ := r1.tupE
    refine ⟨a, rfl, ⟨_, hq⟩, p1 ι1 H1 _ Gr.refl s1 fun k ι' H' Z' g' s' => ?_⟩
    have hq' := SqT.gr g' hq
    show match (itSeq ts k Z') with | none => True | some none => _ | some (some t) => _
    simp only [itSeq]
    cases e : ts[k]? with
    | none => exact ⟨_, hq', by rw [rs.length]; exact List.getElem?_eq_none_iff.mp e⟩
    | some u =>
      obtain ⟨x,h1,h2⟩ := rs.get e
      refine ⟨⟨_, x, hq', h1⟩, fun y H'' hy => ?_⟩
      obtain ⟨rfl,hy⟩ := hy
      have := hy _ hq'
      rw [h1] at this; cases this
      exact ⟨Gr.refl, s', h2.gr g'⟩
  | _ => exact p1.elim
theorem Zhl (hl : FJ X K (Wt W) l fl) : PI X tg l (tI K W (iStr fl)) := by
  refine Z4m (pi_str hl) fun σ H Q h => ?_
  obtain ⟨ι,ρ,Z,is,p⟩ := h
  refine ⟨ι,ρ,Z,is.ie,(Zi (rep := Rep K) p).imp fun v H1 q => ?_⟩
  obtain ⟨ι1,Z1,t,g1,s1,r1,p1⟩ := q
  cases t with
  | str u =>
    cases r1
    refine ⟨_, rfl, p1 ι1 H1 _ Gr.refl s1 fun k ι' H' Z' g' s' => ?_⟩
    simp only [itStr]
    cases e : u[k]? with
    | none => exact show (S u).cps.size ≤ k by simpa [S] using e
    | some c =>
      have hk : k < u.length := (List.getElem?_eq_some_iff.mp e).1
      refine ⟨show k < (S u).cps.size by simpa [S] using hk, fun y H'' hy => ?_⟩
      obtain ⟨rfl, c', hc', rfl⟩ := hy
      have : c' = c := by
        have h2 : u[k]? = some c' := by simpa [S] using hc'
        rw [e] at h2; exact (Option.some.inj h2).symm
      subst this
      exact ⟨Gr.refl, s', .str [c']⟩
  | _ => exact p1.elim
theorem Zhm {ι : List Addr} {H : Hp} (lo : Int) (n : Nat) : ItR K ι H (Itr lo n) (itRng lo n) := fun k ι' H' Z' g' s' => by
  simp only [itRng]
  by_cases h : k < n
  · rw [if_pos h]
    refine ⟨h, fun y H'' hy => ?_⟩
    obtain ⟨rfl,rfl⟩ := hy
    exact ⟨Gr.refl, s', .int _⟩
  · rw [if_neg h]
    exact Nat.le_of_not_lt h
theorem U5 (hg : Gl X "range") (hm : X.mg "range" = none) (ha : FAJ X K (Wt W) [a] fa) (hn : ofLen [a] fa) (hs : starEach [a] X.env = [(false, eval a X.env)] := by rfl) : PI X tg (.Call (.Name "range" p) [a] [] pos) (tI K W (iRng fa)) := by
  refine Z4m (pi_range1 hg hm ha hs) fun σ H Q h => ?_
  obtain ⟨ι,ρ,Z,is,p⟩ := h
  refine ⟨ι,ρ,Z,is.ie,?_⟩
  unfold iRng at p
  cases e : fa ρ Z with
  | ok ts Z1 =>
    rw [e,Yo] at p
    have hl := hn _ _ _ _ e
    intro ι1 H1 vs g1 s1 r1
    match ts,r1,hl with
    | [t],.cons r .nil,_ =>
      cases t with
      | int j =>
        simp only at p
        split at p
        · rename_i hb
          cases r
          exact ⟨j,rfl,hb.1,hb.2,p ι1 H1 _ g1 s1 (Zhm _ _)⟩
        · exact p.elim
      | _ => exact p.elim
  | exc x Z1 => rw [e] at p; exact p
  | stuck => rw [e] at p; exact p
def iEnm (f : FA) : FI := fun ρ Z => (f ρ Z).bind fun xs Z1 => match xs with
  | [.frl ts] => .ok (itEnum (itSeq ts)) Z1
  | [.loc i] => match getL Z1 i with
    | some _ => .ok (itEnum (itLoc i)) Z1
    | none => .stuck
  | _ => .stuck
theorem Zex {ι : List Addr} {H : Hp} {a : Addr} {it : ItF} (h : ItR K ι H (Itl K a) it) : ItR K ι H (Ite K a) (itEnum it) := fun k ι' H' Z' g' s' => by
  have h' := h k ι' H' Z' g' s'
  simp only [itEnum]
  cases e : it k Z' with
  | none => exact trivial
  | some o =>
    rw [e] at h'
    cases o with
    | none => exact h'
    | some t =>
      refine ⟨h'.1, fun x H'' y => ?_⟩
      obtain ⟨p,v,rfl,np,rfl,hv⟩ := y
      obtain ⟨_, _, r⟩ := h'.2 v H' ⟨rfl, hv⟩
      exact ⟨Gr.new0 np, s'.same (Qe np), .tup (SqT.of upd_same) (.cons (.int _) (.cons (r.gr (Gr.new0 np)) .nil))⟩
theorem Zfz {tpos : Pos} {elts : List Expr} {kk : Nat} (hK : X.K = K) (hg : Gl X "enumerate") (hm : X.mg "enumerate" = none) (ha : FAJ X K (Wt W) [a] fa) (hn : ofLen [a] fa) (hs : starEach [a] X.env = [(false, eval a X.env)] := by rfl) : PI X (.Tuple elts kk tpos) (.Call (.Name "enumerate" p) [a] [] pos) (tI K W (iEnm fa)) := by
  subst hK
  refine Z4m (pi_enum hg hm ha hs) fun σ H Q h => ?_
  obtain ⟨ι,ρ,Z,is,p⟩ := h
  refine ⟨ι,ρ,Z,is.ie,?_⟩
  unfold iEnm at p
  cases e : fa ρ Z with
  | ok ts Z1 =>
    rw [e,Yo] at p
    have hl := hn _ _ _ _ e
    intro ι1 H1 vs g1 s1 r1
    match ts,r1,hl with
    | [t],.cons r .nil,_ =>
      cases t with
      | frl us =>
        obtain ⟨b,rfl,⟨xs,hx⟩,hI⟩ := Z9j (it := itSeq us) s1 r rfl
        exact ⟨b,xs,rfl,hx,p ι1 H1 _ g1 s1 (Zex hI)⟩
      | loc i =>
        simp only at p
        split at p
        · rename_i us e
          obtain ⟨b,rfl,⟨xs,hx⟩,hI⟩ := Z9j (it := itLoc i) s1 r (by simp only [e])
          exact ⟨b,xs,rfl,hx,p ι1 H1 _ g1 s1 (Zex hI)⟩
        · exact p.elim
      | _ => exact p.elim
  | exc x Z1 => rw [e] at p; exact p
  | stuck => rw [e] at p; exact p
end
end Fx
set_option maxHeartbeats 4000000
namespace Fx
open PySem PySem.Spec PyProof.Rows L2 SX Ap
variable [Tb]
abbrev FF := List T → Sto → R T
def spF (K : PySem.W.Frag) (n : Nat) (F : FF) : Sp := fun vs H Q E => vs.length = n ∧ ∃ ι Z ts,Sim K ι Z H ∧ Reps K ι H vs ts ∧ Post (Rep K) K (fun cls d _ H => E cls d H) [] ι H Q (F ts Z)
def runF (n : Nat) (b : FS) : FF := fun ts Z => match b (ts.map some ++ List.replicate (n - ts.length) none) Z with
  | .nx _ Z' => .ok .non Z'
  | .rt t Z' => .ok t Z'
  | .exc x _ Z' => .exc x Z'
  | _ => .stuck
theorem Z60 {K : PySem.W.Frag} {ι : List Addr} {H : Hp} {vs : List V} {ts : List T} (r : Reps K ι H vs ts) (m : Nat) : Envs K ι H (vs.map some ++ List.replicate m none) (ts.map some ++ List.replicate m none) := fun i t h => by
  by_cases hi : i < ts.length
  · rw [List.getElem?_append_left (by rw [List.length_map]; exact hi),List.getElem?_map] at h
    cases e : ts[i]? with
    | none => rw [e] at h; cases h
    | some u =>
      rw [e] at h
      cases h
      obtain ⟨v,h1,h2⟩ := r.get e
      exact ⟨v,by rw [List.getElem?_append_left (by rw [List.length_map,r.length]; exact hi),List.getElem?_map,h1]; rfl,h2⟩
  · rw [List.getElem?_append_right (by rw [List.length_map]; omega)] at h
    rw [List.getElem?_replicate] at h
    split at h <;> cases h
abbrev FnG (P : Program) (w : World) (K : PySem.W.Frag) (mg : PySem.Str → Option Value) (base : Heap) (k : Nat) (f : Addr) (fd : FuncData) (ps : List PySem.Str) (sp : Sp) : Prop := GOk P w K mg base (L2.CX P w) k f fd ps sp
section
variable {P : Program} {w : World} {K : PySem.W.Frag} {mg : PySem.Str → Option Value} {base : Heap}
theorem Zhn {k : Nat} {f : Addr} {name qual : PySem.Str} {params : Arguments} {body : List Stmt} {scope : Scope} {dV kV doc pm cdv ct oc : Value} {an od : Option Addr}
    {osl : Array (Option Value)} {N ps : List PySem.Str} {sp : Sp} (lk : K.lookup f = some ⟨oc,od,.func (PySem.W.fnOf name qual params body scope dV kV doc pm an cdv ct),osl⟩) (hcd : PySem.W.codeIn K cdv qual = true) (S : FnScope N ps scope)
    (len : ∀ vs H Q E,sp vs H Q E → vs.length = ps.length)
    (hbody : ∀ (A : Around) (outer : List PySem.Env) (s : Shared) (H : Hp) (vs : List V) (Q : VK) (E : XK),Room k (A.deeper (envOfC qual scope s.heap.objs.size f cdv)) → A.guards = some [] → sp vs H Q E →
      ∃ t, PSs (cxOf (L2.CX P w) P w K mg base N qual scope f cdv A outer s H E) body t ∧ t { nx := fun _ H' => Q .non H', rt := Q } (L2.start N vs) H) :
    FnG P w K mg base (k + 1) f (PySem.W.fnOf name qual params body scope dV kV doc pm an cdv ct) ps sp := by
  refine ⟨len,fun A outer s H args us vs Q E hr hG e0 hb r hsp => ?_⟩
  have hl := len _ _ _ _ hsp
  have KX : K.In s.heap := e0.mod.kin.keeps fun b o e => (e0.bs b o e).1
  have lim : s.heap.NoLimit := e0.mod.nolimit.keeps fun b o e => (e0.bs b o e).1
  have hkind : ∀ y ∈ ps.zip us,scope.names.lookup y.1 = some .local ∨ (scope.names.lookup y.1 = some .cell ∧ ((cellsFrom (s.heap.objs.size + 1) scope.names []).lookup y.1).isSome = true) := fun ⟨n,v⟩ hy => by
    rcases S.par n (List.of_mem_zip hy).1 with q | q
    · exact .inl q
    · exact .inr ⟨q,PySem.W.cellsFrom_some _ _ _ (.inl q)⟩
  refine codeAny_call_function hr.depth (KX _ _ lk) rfl S.co S.gen rfl (PySem.W.codeRec_of KX hcd) (hb _ _ _ _ ?_)
  refine wpAny_newFunctionEnv_cells S.kind hkind fun env he s1 x => ?_
  subst he
  refine ⟨lim.keeps x.toInCall.keep,codeAny_func ?_⟩
  obtain ⟨t,ht,hq⟩ := hbody A outer s H vs Q E (hr.deeper _) hG hsp
  have I : Inv (cxOf (L2.CX P w) P w K mg base N qual scope f cdv A outer s H E) [] (L2.start N vs) H s1 := inv_start S hr.hd e0 hl r x
  refine wpAny_mono (ht.run [] s1 (L2.start N vs) H _ I hq) (fun fl s' hs => ?_) fun e s' hs => hs
  have fin : ∀ {σ' : L2.St} {H' : Hp} {v : V} {u : Value}, Inv (cxOf (L2.CX P w) P w K mg base N qual scope f cdv A outer s H E) [] σ' H' s' → RelV v u → Q v H' → CE outer P w H s Q u s' :=
    fun {σ' H' v u} J rv q => ⟨v, H', J.os, J.bare, J.base, J.hok, rv, q⟩
  cases fl with
  | ret u =>
    obtain ⟨v, σ', H', J, rv, q⟩ := hs
    exact fin J rv q
  | next =>
    obtain ⟨σ', H', J, q⟩ := hs
    exact fin (v := V.non) (u := Value.none) J rfl q
  | brk =>
    obtain ⟨_,_,_,q⟩ := hs
    exact False.elim q
  | cont =>
    obtain ⟨_,_,_,q⟩ := hs
    exact False.elim q
def BodyJ (P : Program) (w : World) (K : PySem.W.Frag) (mg : PySem.Str → Option Value) (base : Heap) (k : Nat) (f : Addr) (N : List PySem.Str) (qual : PySem.Str) (scope : Scope) (body : List Stmt) (b : FS) : Prop :=
  ∀ (cdv : Value) (A : Around) (outer : List PySem.Env) (s : Shared) (H : Hp) (E : XK),Room k (A.deeper (envOfC qual scope s.heap.objs.size f cdv)) → A.guards = some [] →
    FBJ (cxOf (L2.CX P w) P w K mg base N qual scope f cdv A outer s H E) K (fun cls d _ H => E cls d H) body b
theorem Zey {k : Nat} {f : Addr} {N : List PySem.Str} {qual : PySem.Str} {scope : Scope} {body : List Stmt} {b : FS} {n : Nat} (hb : BodyJ P w K mg base k f N qual scope body b) (cdv : Value) (A : Around) (outer : List PySem.Env) (s : Shared) (H : Hp) (vs : List V) (Q : VK) (E : XK) (hr : Room k (A.deeper (envOfC qual scope s.heap.objs.size f cdv))) (hG : A.guards = some []) (h : spF K n (runF N.length b) vs H Q E) :
      ∃ t, PSs (cxOf (L2.CX P w) P w K mg base N qual scope f cdv A outer s H E) body t ∧ t { nx := fun _ H' => Q .non H', rt := Q } (L2.start N vs) H := by
  refine ⟨_,hb cdv A outer s H E hr hG,?_⟩
  obtain ⟨hl,ι,Z,ts,sim,r,p⟩ := h
  have hl2 := r.length
  refine ⟨ι,ts.map some ++ List.replicate (N.length - ts.length) none,Z,⟨by simp only [L2.start,List.length_append,List.length_map,List.length_replicate]; omega,?_,sim⟩,?_⟩
  · have := Z60 r (N.length - ts.length)
    unfold L2.start
    rw [hl2]
    exact this
  · unfold runF at p
    split at p
    · rename_i e; rw [e]; exact fun ι' H' σ' g is => p ι' H' _ g is.sim .non
    · rename_i e; rw [e]; exact p
    · rename_i e; rw [e]; exact fun ι' H' σ' cls d g is rx => p ι' H' cls d g is.sim rx
    · exact p.elim
theorem fnFD {x qual : PySem.Str} {params : Arguments} {body : List Stmt} {scope : Scope} {dvs : List V} {kws : List (PySem.Str × V)} {f : Addr} {fd : FuncData} {N ps : List PySem.Str} {k : Nat} {b : FS} (F : FunD K x qual params body scope dvs kws f fd) (S : FnScope N ps scope) (hb : BodyJ P w K mg base k f N qual scope body b) :
    FnG P w K mg base (k + 1) f fd ps (spF K ps.length (runF N.length b)) := by
  obtain ⟨oc,od,dV,kV,doc,pm,an,cdv,ct,osl,rfl,lk,hcd,_,_⟩ := F.ex
  exact Zhn lk hcd S (fun vs H Q E h => h.1) fun A outer s H vs Q E hr hG h => Zey hb cdv A outer s H vs Q E hr hG h
end
def eCall (F : FF) (ds : List T) (fa : FA) : FE := fun ρ Z => (fa ρ Z).bind fun ts Z1 => F (ts ++ ds) Z1
def eCallB (g : List T → Sto → Option (T × Sto)) (fa : FA) : FE := fun ρ Z => (fa ρ Z).bind fun xs Z1 => lift (g xs Z1)
def Dfl (K : PySem.W.Frag) (vs : List V) (ts : List T) : Prop := ∀ ι H,Reps K ι H vs ts
theorem Dfl.nil {K : PySem.W.Frag} : Dfl K [] [] := fun _ _ => .nil
section
variable {X : Cx} {K : PySem.W.Frag} {W : Wc} {x : PySem.Str} {p pos : Pos} {e : Expr} {es : List Expr} {fa : FA} {k n : Nat} {f : Addr} {fd : FuncData} {ps : List PySem.Str} {F : FF} {dvs : List V} {ds : List Value} {dts : List T}
theorem run_G {pins : List (Addr × Obj)} {σ : L2.St} {H : Hp} {s : Shared} {Q : VK} {us : List Value} {vs : List V} {sp : Sp} (G : FnG X.prog X.w X.K X.mg X.base k f fd ps sp) (hr : Room k X.A) (hG : X.A.guards = some []) (hb : Binds X.K fd ps ds) (hd : Vals dvs ds) (tk : Takes X W.w)
    (I : Inv X pins σ H s) (r : Vals vs us) (h : sp (vs ++ dvs) H Q (WE W.w σ)) : wpAny (model X.prog X.w) X.A (call (.ref f) us) (EP X pins σ Q) X.xe s := by
  have r2 : Vals (vs ++ dvs) (us ++ ds) := r.append hd
  have hl : (us ++ ds).length = ps.length := by rw [← r2.length]; exact G.len _ _ _ _ h
  refine wpAny_call (codeAny_mono (G.run X.A X.stack s H ⟨us, []⟩ (us ++ ds) (vs ++ dvs) Q (WE W.w σ) hr hG I.env0 (hb s us I.kIn hl) r2 h) fun r s' hq => ?_)
  cases r with
  | error e => exact passAt tk σ pins H s e s' I hq
  | ok fl =>
    cases fl with
    | ret u => exact I.after hq
    | next => exact False.elim hq
    | brk => exact False.elim hq
    | cont => exact False.elim hq
theorem Post.wx {α β : Type} {rep : List Addr → Hp → β → α → Prop} {W W' : WX} {σ σ' : L2.St} {ι : List Addr} {H : Hp} {Q : β → Hp → Prop} {r : R α} (h : Post rep K W σ ι H Q r) (i : ∀ cls d H, W cls d σ H → W' cls d σ' H) : Post rep K W' σ' ι H Q r := by
  cases r with
  | ok => exact h
  | exc => exact fun ι' H' cls d g s rx => i _ _ _ (h ι' H' cls d g s rx)
  | stuck => exact h
theorem Zu (hK : X.K = K) (G : FnG X.prog X.w X.K X.mg X.base k f fd ps (spF X.K n F)) (hr : Room k X.A) (hG : X.A.guards = some []) (hg : Gl X x) (hm : X.mg x = some (.ref f)) (hk : PySem.W.keepIn X.K (.ref f) = true) (hb : Binds X.K fd ps ds) (hd : Vals dvs ds) (hdf : Dfl K dvs dts) (tk : Takes X W.w)
    (ha : FAJ X K W (e :: es) fa) (hn : ofLen (e :: es) fa) (hln : (e :: es).length + dts.length = n := by rfl) (hdb : (x == ("__debug__" : PySem.Str)) = false := by decide) (he : starEach (e :: es) X.env = (false, eval e X.env) :: starEach es X.env := by rfl) (hpl : (backTo pos (starEach es X.env)).any (·.1) = false := by rfl) :
    FJ X K W (.Call (.Name x p) (e :: es) [] pos) (eCall F dts fa) := by
  subst hK
  refine ⟨fun pins s σ H Q I h => ?_⟩
  refine wpAny_Call_Name_kw (ld_glob I hg hm ?_ hdb)
  obtain ⟨ι,ρ,Z,is,p⟩ := h
  have t : tFA X.K W fa σ H (fun vs H1 => spF X.K n F (vs ++ dvs) H1 Q (WE W.w σ)) := by
    refine ⟨ι,ρ,Z,is,?_⟩
    unfold eCall at p
    cases e : fa ρ Z with
    | ok ts Z1 =>
      rw [e,Yo] at p
      refine fun ι1 H1 vs g1 s1 r1 => ?_
      have r2 := r1.append (hdf ι1 H1)
      refine ⟨?_,ι1,Z1,_,s1,r2,(p.shift g1).wx fun _ _ _ h => h⟩
      rw [r2.length,List.length_append,hn _ _ _ _ e]
      exact hln
    | exc y Z1 => rw [e] at p; exact p
    | stuck => rw [e] at p; exact p
  refine PySem.W.callWith_K (h₀ := X.base) I.ok.mod.kin hk (thn (ha.run pos pins s σ H _ I t) fun us s1 ⟨vs,H1,I1,r,q⟩ => ⟨I1.kIn,?_⟩) he hpl
  exact run_G G hr hG hb hd tk I1 r q
theorem Z9k {r : List V → Hp → VK → Prop} {g : List T → Sto → Option (T × Sto)} (hr : ∀ xs H Q,rFC K g xs H Q → r xs H Q) {σ : L2.St} {H : Hp} {Q : VK} (h : tF K W (eCallB g fa) σ H Q) : tCB r (tFA K W fa) σ H Q := by
  obtain ⟨ι,ρ,Z,is,p⟩ := h
  refine ⟨ι,ρ,Z,is,(Zi (rep := Reps K) p).imp fun xs H1 q => ?_⟩
  obtain ⟨ι1,Z1,ts,g1,s1,r1,p1⟩ := q
  exact hr _ _ _ ⟨ι1,Z1,ts,s1,r1,U4 p1⟩
theorem Y9 {id : String} {g : List T → Sto → Option (T × Sto)} (hc : CallR X (.builtin id) (rFC K g)) (hg : Gl X x) (hm : X.mg x = none) (hv : bootBuiltins x = some (.builtin id)) (ha : FAJ X K W (e :: es) fa) (hn : x ≠ "__name__" := by decide) (hdb : (x == ("__debug__" : PySem.Str)) = false := by decide)
    (he : starEach (e :: es) X.env = (false,eval e X.env) :: starEach es X.env := by rfl) (hpl : (backTo pos (starEach es X.env)).any (·.1) = false := by rfl) : FJ X K W (.Call (.Name x p) (e :: es) [] pos) (eCallB g fa) :=
  Xj (pe_callB hc hg hm hv ha hn hdb he hpl) fun _ _ _ h => Z9k (fun _ _ _ h => h) h
theorem X8 {id : String} {g : List T → Sto → Option (T × Sto)} (hc : CallR X (.type id) (rFC K g)) (hg : Gl X x) (hm : X.mg x = none) (hv : bootBuiltins x = some (.type id)) (ha : FAJ X K W (e :: es) fa) (hn : x ≠ "__name__" := by decide) (hdb : (x == ("__debug__" : PySem.Str)) = false := by decide)
    (he : starEach (e :: es) X.env = (false,eval e X.env) :: starEach es X.env := by rfl) (hpl : (backTo pos (starEach es X.env)).any (·.1) = false := by rfl) : FJ X K W (.Call (.Name x p) (e :: es) [] pos) (eCallB g fa) :=
  Xj (pe_callTy hc hg hm hv ha hn hdb he hpl) fun _ _ _ h => Z9k (fun _ _ _ h => h) h
end
def gLen : List T → Sto → Option (T × Sto)
  | [.str l],Z => if l.length ≤ Lim then some (.int l.length,Z) else none
  | [t],Z => (asSeq t Z).map fun ts => (.int ts.length,Z)
  | _,_ => none
def gMax : List T → Sto → Option (T × Sto)
  | [.int i,.int j],Z => some (.int (if j > i then j else i),Z)
  | _,_ => none
def gMin : List T → Sto → Option (T × Sto)
  | [.int i,.int j],Z => some (.int (if j < i then j else i),Z)
  | _,_ => none
def gAbs : List T → Sto → Option (T × Sto)
  | [.int i],Z => some (.int (if i < 0 then -i else i),Z)
  | _,_ => none
def gInt : List T → Sto → Option (T × Sto)
  | [.int i],Z => some (.int i,Z)
  | [.bl b],Z => some (.int (if b then 1 else 0),Z)
  | _,_ => none
def gList : List T → Sto → Option (T × Sto)
  | [t],Z => (asSeq t Z).map fun ts => (.loc Z.length,Z ++ [.lst ts])
  | _,_ => none
def gTuple : List T → Sto → Option (T × Sto)
  | [.tup ts],Z => some (.tup ts,Z)
  | [t],Z => (asList t Z).map fun ts => (.tup ts,Z)
  | _,_ => none
def tyT : T → Sto → Option String
  | .non, _ => some "NoneType" | .bl _, _ => some "bool" | .int _, _ => some "int" | .str _, _ => some "str" | .tup _, _ => some "tuple" | .frl _, _ => some "list"
  | .loc i,Z => match Z[i]? with
    | some (.lst _) => some "list"
    | some (.dk _) => some "dict"
    | some (.dt _) => some "dict"
    | _ => none
  | _,_ => none
def clsT : T → Option String
  | .ty n => some n
  | _ => none
def gIsiB (t : T) (c : T) (Z : Sto) : Option Bool := match tyT t Z,clsT c with
  | some a,some b => kitB a b
  | _,_ => none
def gIsi : List T → Sto → Option (T × Sto)
  | [t,.ty n],Z => (gIsiB t (.ty n) Z).map fun b => (.bl b,Z)
  | [t,.tup cs],Z => if (tyT t Z).isSome = true then ((cs.mapM fun c => gIsiB t c Z).map fun bs => (.bl (bs.any id),Z)) else none
  | _,_ => none
section
variable {X : Cx} {K : PySem.W.Frag}
theorem Reps.one {ι : List Addr} {H : Hp} {vs : List V} {t : T} (r : Reps K ι H vs [t]) : ∃ v,vs = [v] ∧ Rep K ι H v t := by
  cases r with
  | cons r q => cases q; exact ⟨_,rfl,r⟩
theorem Reps.two {ι : List Addr} {H : Hp} {vs : List V} {t u : T} (r : Reps K ι H vs [t,u]) : ∃ v w,vs = [v,w] ∧ Rep K ι H v t ∧ Rep K ι H w u := by
  cases r with
  | cons r q =>
    obtain ⟨w,rfl,r2⟩ := q.one
    exact ⟨_,_,rfl,r,r2⟩
theorem Z2z (hK : X.K = K) : CallR X (.builtin "len") (rFC K gLen) := by
  subst hK
  refine W6 (Z3g call_len_str call_len_seq) fun xs H Q h => ?_
  obtain ⟨ι,Z,ts,s,r,p⟩ := h
  match ts,r,p with
  | [],_,p => exact p.elim
  | _ :: _ :: _,_,p => simp only [gLen] at p; exact p.elim
  | [t],r,p =>
    obtain ⟨v,rfl,rr⟩ := r.one
    by_cases hs : ∃ l,t = .str l
    · obtain ⟨l,rfl⟩ := hs
      simp only [gLen] at p
      split at p
      · rename_i hz
        cases rr
        exact .inl ⟨_,rfl,by rw [S_len]; exact Z24 hz,by rw [S_len]; exact Zv p s (.int _)⟩
      · exact p.elim
    · have e0 : gLen [t] Z = (asSeq t Z).map fun ts => (.int ts.length,Z) := by
        cases t <;> first | rfl | exact absurd ⟨_,rfl⟩ hs
      rw [e0] at p
      cases e : asSeq t Z with
      | none => rw [e] at p; exact p.elim
      | some us =>
        rw [e] at p
        obtain ⟨a,vs,rfl,hq,rs⟩ := Z2x s rr e
        exact .inr ⟨a,vs,rfl,hq,by rw [rs.length]; exact Zv p s (.int _)⟩
theorem Zbl (hK : X.K = K) : CallR X (.type "list") (rFC K gList) := by
  subst hK
  refine W6 call_list_of fun xs H Q h => ?_
  obtain ⟨ι,Z,ts,s,r,p⟩ := h
  unfold gList at p
  split at p
  · obtain ⟨v,rfl,rr⟩ := r.one
    rename_i t
    cases e : asSeq t Z with
    | none => rw [e] at p; exact p.elim
    | some us =>
      rw [e] at p
      obtain ⟨a,vs,rfl,hq,rs⟩ := Z2x s rr e
      exact ⟨a,vs,rfl,hq,Z4k p s rs⟩
  · exact p.elim
theorem Z28 (hK : X.K = K) : CallR X (.type "tuple") (rFC K gTuple) := by
  subst hK
  refine W6 call_tuple_of fun xs H Q h => ?_
  obtain ⟨ι,Z,ts,s,r,p⟩ := h
  match ts,r,p with
  | [],_,p => exact p.elim
  | _ :: _ :: _,_,p => simp only [gTuple] at p; exact p.elim
  | [t],r,p =>
    obtain ⟨v,rfl,rr⟩ := r.one
    by_cases hs : ∃ l,t = .tup l
    · obtain ⟨l,rfl⟩ := hs
      have r' := rr
      obtain ⟨a, vs, rfl, hq, rs⟩ := r'.tupE
      exact ⟨a,vs,rfl,.inr ⟨hq,Zv p s rr⟩⟩
    · have e0 : gTuple [t] Z = (asList t Z).map fun ts => (.tup ts,Z) := by
        cases t <;> first | rfl | exact absurd ⟨_,rfl⟩ hs
      rw [e0] at p
      cases e : asList t Z with
      | none => rw [e] at p; exact p.elim
      | some us =>
        rw [e] at p
        obtain ⟨a,vs,rfl,hq,rs⟩ := Vo s rr e
        exact ⟨a,vs,rfl,.inl ⟨hq,Z8k p s rs⟩⟩
theorem Zbm {ι : List Addr} {H : Hp} {Z : Sto} {v : V} {t : T} {n : String} (s : Sim K ι Z H) (r : Rep K ι H v t) (e : tyT t Z = some n) : TyX K H v (.type n) := by
  cases r with
  | non => cases e; exact .base .non
  | bl b => cases e; exact .base (.bl b)
  | int i => cases e; exact .base (.int i)
  | str l => cases e; exact .base (.str _)
  | tup h r =>
    cases e
    rcases h with (h | ⟨o,h⟩) | ⟨o,its,n,h,hc,_⟩
    · exact .base (.tup h)
    · exact .fTuple h
    · exact .kTuple h hc
  | loc h =>
    simp only [tyT] at e
    split at e
    · rename_i hz
      obtain ⟨a', h1, vs, h2, _⟩ := s.at hz
      rw [h] at h1; cases h1; cases e
      exact .base (.lst h2)
    · rename_i hz
      obtain ⟨a', h1, vs, h2, _⟩ := s.at hz
      rw [h] at h1; cases h1; cases e
      exact .base (.dK h2)
    · rename_i hz
      obtain ⟨a', h1, vs, h2, _⟩ := s.at hz
      rw [h] at h1; cases h1; cases e
      exact .base (.dT h2)
    · cases e
  | frl h r =>
    cases e
    rcases h with ⟨o,h⟩ | ⟨o,its,n,h,hc,_⟩
    · exact .base (.frz h)
    · exact .kList h hc
  | ref a => cases e
  | ty m => cases e
  | lam h j => cases e
  | ktp h r => cases e
def rIsiU (K : PySem.W.Frag) : List V → Hp → VK → Prop := fun xs H Q => ∃ (x : V) (tp : Addr) (cs : List V) (t : Value) (us : List Value) (b : Bool),xs = [x,.ref tp] ∧ SqT K H tp cs ∧ Paired ClsV cs us ∧ TyX K H x t ∧ PySem.W.kitAny K t us = some b ∧ Q (.bl b) H
theorem Z7j : CallR X (.builtin "isinstance") (rIsiU X.K) := by
  intro pins s σ H xs us Q I r h
  obtain ⟨x,tp,cs,t,ws,b,rfl,hT,k,ty,e,q⟩ := h
  obtain ⟨u1,u2,rfl,r1,r2⟩ := vals2 r
  cases (show u2 = Value.ref tp from r2)
  obtain ⟨P,Z,p,hx⟩ := kit_of I r1 ty
  obtain ⟨its,rv,⟨o,h1,h2,n,h3⟩,_⟩ := I.tuple hT
  have e3 := ClsV.all k rv
  subst e3
  obtain ⟨oc,od,dt,sl⟩ := o
  simp only at h2 h3
  subst h2 h3
  exact PySem.W.kia_tup Z I.kIn p h1 e hx fun tk => ⟨.bl b,H,I.tok tk,rfl,q⟩
theorem isiAll {ι : List Addr} {H : Hp} {Z : Sto} {t : T} {n : String} (e : tyT t Z = some n) : ∀ {cs : List T} {vs : List V} {bs : List Bool},Reps K ι H vs cs → Paired (fun c b => gIsiB t c Z = some b) cs bs → ∃ us,Paired ClsV vs us ∧ PySem.W.kitAny K (.type n) us = some (bs.any id)
  | _,_,_,.nil,.nil => ⟨[],.nil,rfl⟩
  | _,_,_,.cons r q,.cons h p => by
    obtain ⟨us,h1,h2⟩ := isiAll e q p
    unfold gIsiB at h
    rw [e] at h
    rename_i v vs c cs b bs
    cases c with
    | ty m =>
      cases r
      refine ⟨.type m :: us,.cons (.ty m) h1,?_⟩
      refine kitAny_cons (kit_ty (show kitB n m = some b from h)) (fun hb => ?_) (fun hb => ?_)
      · rw [h2,List.any_cons,hb]; rfl
      · rw [List.any_cons,hb]; rfl
    | _ => cases h
theorem Z6m (hK : X.K = K) : CallR X (.builtin "isinstance") (rFC K gIsi) := by
  subst hK
  refine W6 (Z3g call_isi Z7j) fun xs H Q h => ?_
  obtain ⟨ι,Z,ts,s,r,p⟩ := h
  unfold gIsi at p
  split at p
  · obtain ⟨v,w,rfl,r1,r2⟩ := r.two
    cases r2
    rename_i t n
    cases e : gIsiB t (.ty n) Z with
    | none => rw [e] at p; exact p.elim
    | some b =>
      rw [e] at p
      unfold gIsiB at e
      split at e
      · rename_i a b' e1 e2
        cases e2
        exact .inl ⟨v,_,_,_,b,rfl,.ty _,Zbm s r1 e1,kit_ty e,Zv p s (.bl _)⟩
      · cases e
  · obtain ⟨v,w,rfl,r1,r2⟩ := r.two
    rename_i t cs
    obtain ⟨a,vs,rfl,hq,rs⟩ := r2.tupE
    split at p
    case isFalse => exact p.elim
    rename_i hty
    cases e : cs.mapM fun c => gIsiB t c Z with
    | none => rw [e] at p; exact p.elim
    | some bs =>
      rw [e] at p
      have pa := Z1n e
      cases et : tyT t Z with
      | none => rw [et] at hty; cases hty
      | some n =>
        obtain ⟨us,h1,h2⟩ := isiAll et rs pa
        exact .inr ⟨v,a,vs,_,us,_,rfl,hq,h1,Zbm s r1 et,h2,Zv p s (.bl _)⟩
  · exact p.elim
end
end Fx
set_option maxHeartbeats 4000000
namespace Ap
open PySem PySem.Spec PyProof.Rows L2 SX
structure BaseC (K : PySem.W.Frag) (C0 : Addr) : Prop where
  ga : PySem.W.specialIn K (.ref C0) "__getattribute__" = some (some (.builtin "type.__getattribute__"))
  rd : PySem.W.readsIn K C0 (.type "type") = true
  iv : PySem.W.findCls K (.ref C0) (.type "type") "__init__" = some (.val (.builtin "ValueError.__init__"))
section
variable {X : Cx} {e : Expr} {es : List Expr} {ta : TA} {p1 p2 pos : Pos} {x : PySem.Str} {C0 : Addr}
theorem Z4n {pl : Sem Bool} (hg : Gl X x) (hm : X.mg x = some (.ref C0)) (B : BaseC X.K C0) (hd : (x == ("__debug__" : PySem.Str)) = false) (ha : PA X (e :: es) ta)
    (hc : eval (.Call (.Attribute (.Name x p1) "__init__" p2) (e :: es) [] pos) X.env = (do
      let ov ← eval (.Name x p1) X.env
      standAt p2.atName
      let (f, first) ← holding [ov] (getMethod ov "__init__" pl)
      callWith pos f first (backTo pos (starEach (e :: es) X.env)) (backToKw pos (keywordEach [] X.env))) := by rfl)
    (he : starEach (e :: es) X.env = (false,eval e X.env) :: starEach es X.env := by rfl) (hpl : (backTo pos (starEach es X.env)).any (·.1) = false := by rfl) :
    PE X (.Call (.Attribute (.Name x p1) "__init__" p2) (e :: es) [] pos) (tVeI X.K ta) := by
  refine ⟨fun pins s σ H Q I h => ?_⟩
  refine PySem.W.methodCall_KW (ld_glob I hg hm ?_ hd) hc
  refine PySem.W.method_cls I.kIn B.ga (PySem.W.cls_value I.kIn B.rd B.iv (by decide +kernel) ?_)
  show wpAny _ _ (callWith pos (Value.builtin "ValueError.__init__") [] (backTo pos (starEach (e :: es) X.env)) []) _ _ _
  refine PyProof.Rows.callWith_method1 (thn (ha.run pos pins _ σ H _ (I.tok _) h) fun us s1 ⟨vs,H1,I1,r1,a,C,ws,ev,hl,T,ea,q⟩ => ?_) he hpl
  subst ev
  cases r1 with
  | @cons _ u0 _ ur ra rw' =>
    obtain rfl : u0 = Value.ref a := ra
    have hlen : ur.length ≤ sizeLine := by
      rw [← Paired.length rw', sizeLine_eq]
      omega
    exact oinit_ok T I1 ea hlen fun s' J => ⟨.non, H1, J, rfl, q⟩
end
end Ap
set_option maxHeartbeats 4000000
namespace Ap
open PySem PySem.Spec PySem.Calls PyProof.Rows PySem.W
section
variable {prog : Program} {w : World} {A : Around} {E : Value → Shared → Prop} {s : Shared} {K : Frag} {x D : Addr} {ox od : Obj}
theorem Zam {Q : Option Value → Shared → Prop} (C : L2.ExcC K D) (X : K.In s.heap) (I : InstAt s.heap x ox D (some od)) (h : Q (some (.ref D)) { s with toks := s.toks + 1 }) : wpAny (model prog w) A (getAttr? (.ref x) "__class__") Q E s := by
  have hf : findObj K D (some od) "__class__" = some (.bind (.builtin "getset_descriptor.__get__") (.builtin "object.__class__")) := findObj_data (by obtain ⟨cd, hc, _⟩ := any_some C.hd; rw [hc]; rfl) C.ha C.hn C.ht
  obtain ⟨hp,g,d,t,os⟩ := s
  have L0 := I.type (M := model prog w)
  have L1 := looks_findIn (M := model prog w) X C.hg
  have L2 := looks_findIn (M := model prog w) X C.hk
  have L3 := looks_find (M := model prog w) X I hf
  have sub : Looks (model prog w) hp (isInstance (.ref x) (.type "BaseException")) true := L0.andThen (looks_subIn X C.hs)
  have hx0 : (false && onTheHeap (Value.builtin "BaseException.__getattribute__")) = false := rfl
  have hx2 : (Value.builtin "BaseException.__getattribute__" == Value.builtin "object.__getattribute__") = false := by decide +kernel
  have hx1 : (onTheHeap (Value.ref D) && Value.builtin "BaseException.__getattribute__" == Value.builtin "object.__getattribute__") = false := by rw [hx2]; rfl
  unfold getAttr? getAttrBy? getAttrBy
  refine wpAny_bind (wpAny_mkText (wpAny_bind (wpAny_attempt (wpAny_holding (wpAny_bind (L0.at (wpAny_bind (L1.at ?_))))))))
  show wpAny _ _ (if (onTheHeap (Value.ref D) && Value.builtin "BaseException.__getattribute__" == Value.builtin "object.__getattribute__") = true then _ else _) _ _ _
  rw [hx1,if_neg Bool.false_ne_true]
  unfold getAttrByItsOwn hookBefore
  refine wpAny_bind ?_
  rw [if_pos (show onTheHeap (Value.ref D) = true from rfl)]
  refine L2.at ?_
  refine wpAny_bind (wpAny_attempt (wpAny_holding ?_))
  unfold callGetattribute
  rw [hx0,if_neg Bool.false_ne_true]
  unfold boundAndCalled
  rw [PySem.F.excAttr_ValueError.ga.bind (.ref x)]
  refine wpAny_bind (wpAny_pure ?_)
  show wpAny _ _ (call (.builtin "BaseException.__getattribute__") [.ref x, .str "__class__" t]) _ _ _
  refine wpAny_call (codeAny_call_builtin PySem.F.excAttr_ValueError.ga.plain PySem.F.entry_bexc_ga ?_)
  refine @check_slot (model prog w) _ _ ⟨hp, g, d, t + 1, os⟩ "BaseException.__getattribute__" "BaseException" "__getattribute__" (.ref x) [.str "__class__" t] [] _ (by decide +kernel) (by decide +kernel) sub (PySem.F.args_bexc_ga (.ref x) (.str "__class__" t)) ?_
  unfold Builtin.«object.__getattribute__»
  refine wpAny_bind (wpAny_of_eq (a := ((Value.ref x : Value), [Value.str "__class__" t])) (by first | rfl | (simp only [slotArgs]; rfl)) ?_)
  refine wpAny_bind (wpAny_pure (wpAny_bind (L0.at (wpAny_bind (L3.at ?_)))))
  show wpAny _ _ (holding [Value.builtin "object.__class__"] (call (.builtin "getset_descriptor.__get__") [.builtin "object.__class__", .ref x, .ref D]) >>= ret) _ _ _
  refine wpAny_bind (wpAny_holding (wpAny_call (class_get (s := ⟨hp,g,d,t + 1,os⟩) (ox := ox) (od := some od) X I C.hm ?_)))
  refine wpAny_pure ?_
  show wpAny _ _ (handedOut (.ref D)) _ _ _
  rw [handedOut_of (v := .ref D) rfl]
  first
    | exact wpAny_pure (wpAny_pure h)
    | exact wpAny_pure h
    | exact wpAny_pure (wpAny_bind (wpAny_pure (wpAny_pure h)))
theorem Zbn (C : L2.ExcC K D) : KitX K (.ref x) (.ref D) (fun h => InstAt h x ox D (some od)) where
  ty := fun _ _ _ I => I.type
  it := fun _ _ X _ => by
    obtain ⟨cdD,hcD,_⟩ := any_some C.hd
    unfold clsIn at hcD
    split at hcD
    · rename_i c' d' cd' sl' ho
      intro A' Q' E' s' k q
      unfold isType loadHead
      exact wpAny_bind (wpAny_loadPart (k _ _ (X _ _ ho)) (wpAny_pure q))
    · cases hcD
  ne := fun h tp dd its n sl X htp => by
    obtain ⟨cdD,hcD,_⟩ := any_some C.hd
    refine Bool.eq_false_iff.mpr fun q => ?_
    have e : D = tp := Value.ref.inj (beq_iff_eq.mp q)
    subst e
    unfold clsIn at hcD
    split at hcD
    · rename_i c' d' cd' sl' ho
      have z := (X _ _ ho).symm.trans htp
      cases z
    · cases hcD
  ca := fun X I k => Zam C X I k
end
def rIsD (K : PySem.W.Frag) (D a : Addr) (cls : Value) (d : Option Addr) : List L2.V → L2.Hp → L2.VK → Prop := fun xs H Q => ∃ (c : L2.V) (cv : Value) (b : Bool) (dd : Addr) (fs : List (PySem.Str × L2.V)),xs = [.ref a,c] ∧ cls = .ref D ∧ d = some dd ∧ H dd = some (.xd fs) ∧ (∀ u,L2.RelV c u → u = cv) ∧ PySem.W.kitOne K (.ref D) cv = some b ∧ Q (.bl b) H
theorem Zdq {X : L2.Cx} {a D : Addr} {oe : Obj} {cls : Value} {d : Option Addr} {pn : List (Addr × Obj)} (C : L2.ExcC X.K D) (hz : L2.Zc cls d oe) (hf : ∃ vs, oe.data = .fields vs) : L2.CallR (X.suite a ((a, oe) :: pn)) (.builtin "isinstance") (rIsD X.K D a cls d) := by
  intro pins s σ H xs us Q I r h
  obtain ⟨c,cv,b,dd,fs,rfl,rfl,rfl,hdd,hcv,e,q⟩ := h
  cases r with
  | cons rx rr =>
    cases rr with
    | cons rt rr =>
      cases rr
      cases rx
      have ec := hcv _ rt
      subst ec
      obtain ⟨hget,_⟩ := I.pin (a,oe) (List.mem_append.mpr (.inl List.mem_cons_self))
      obtain ⟨vs,hv⟩ := hf
      have hx : L2.ObjOk X.prog X.w H s.heap dd (.xd fs) := I.hok dd _ hdd
      obtain ⟨mA,hns,hr⟩ := hx
      obtain ⟨od,ho,hl⟩ := L2.lookIn_ns hns
      have J : PySem.W.InstAt s.heap a oe D (some od) := ⟨hget,hz.1,by unfold PySem.W.notCls; rw [hv] <;> rfl,by rw [hz.2]; exact ho⟩
      exact PySem.W.kia_one (Zbn C) I.kIn J e (fun z => nomatch z) fun tk => ⟨.bl b, H, I.kept (t' := tk) fun _ _ z => z, rfl, q⟩
end Ap
set_option maxHeartbeats 4000000
namespace Ap
open PySem PySem.Spec PyProof.Rows L2 SX
theorem Z3v (a b : List Nat) : Txt.startswith (S a) (S b) = b.isPrefixOf a := by
  have e : (S a).cps.toList = a := rfl
  have e2 : (S b).cps.toList = b := rfl
  unfold Txt.startswith
  rw [S_len,S_len,Nat.zero_add]
  by_cases h : b.length ≤ a.length
  · rw [decide_eq_true h,Bool.true_and]
    have : PySem.Builtin.Str.subAt (S a) (S b) 0 = true ↔ (a.drop 0).take b.length = b := by
      constructor
      · intro k
        have := PySem.StrLaws.at_take (x := S a) (y := S b) (k := 0) ⟨by rw [S_len,S_len]; omega,k⟩
        exact this
      · intro k
        by_cases hb : b = []
        · subst hb; unfold PySem.Builtin.Str.subAt; simp [S,Str.length]
        · exact (PySem.StrLaws.take_at (x := S a) (y := S b) (k := 0) (by rw [S_len]; exact List.length_pos_iff.mpr hb) k).2
    rw [Bool.eq_iff_iff,this,List.drop_zero,List.isPrefixOf_iff_prefix]
    constructor
    · intro k; have q := List.take_append_drop b.length a; rw [k] at q; exact ⟨_,q⟩
    · rintro ⟨r,rfl⟩; rw [List.take_append_of_le_length (Nat.le_refl _),List.take_of_length_le (Nat.le_refl _)]
  · rw [decide_eq_false h,Bool.false_and]
    cases hp : b.isPrefixOf a
    · rfl
    · exact absurd (List.isPrefixOf_iff_prefix.mp hp).length_le h
end Ap
set_option maxHeartbeats 4000000
namespace Fx
open PySem PySem.Spec PyProof.Rows L2 SX Ap
variable [Tb]
def isTy (n : String) : T → Sto → Bool
  | .str _, _ => n == "str"
  | .frl _, _ => n == "list"
  | .loc i,Z => match Z[i]? with
    | some (.lst _) => n == "list"
    | some (.dk _) => n == "dict"
    | some (.dt _) => n == "dict"
    | _ => false
  | _,_ => false
theorem Zbo {K : PySem.W.Frag} {ι : List Addr} {H : Hp} {Z : Sto} {v : V} {t : T} {n : String} (s : Sim K ι Z H) (r : Rep K ι H v t) (e : isTy n t Z = true) : tyV K n v H := by
  cases r with
  | str l => exact beq_iff_eq.mp e
  | frl h r => exact .inl ⟨beq_iff_eq.mp e,_,h.sq⟩
  | loc h =>
    simp only [isTy] at e
    split at e
    · rename_i hz
      obtain ⟨a', h1, vs, h2, _⟩ := s.at hz
      rw [h] at h1; cases h1
      exact .inl ⟨beq_iff_eq.mp e,_,SqL.of h2⟩
    · rename_i hz
      obtain ⟨a', h1, vs, h2, _⟩ := s.at hz
      rw [h] at h1; cases h1
      exact .inr (.inr (.inl ⟨beq_iff_eq.mp e,.inl ⟨_,h2⟩⟩))
    · rename_i hz
      obtain ⟨a', h1, vs, h2, _⟩ := s.at hz
      rw [h] at h1; cases h1
      exact .inr (.inr (.inl ⟨beq_iff_eq.mp e,.inr ⟨_,h2⟩⟩))
    · cases e
  | _ => cases e
def eBM (n : String) (g : T → List T → Sto → Option (T × Sto)) (fo : FE) (fa : FA) : FE := fun ρ Z => (fo ρ Z).bind fun x Z1 => if isTy n x Z1 = true then (fa ρ Z1).bind fun xs Z2 => lift (g x xs Z2) else .stuck
def rFM (K : PySem.W.Frag) (g : T → List T → Sto → Option (T × Sto)) : V → List V → Hp → VK → Prop := fun x xs H Q => ∃ ι Z tx ts,Sim K ι Z H ∧ Rep K ι H x tx ∧ Reps K ι H xs ts ∧ PostO (Rep K) K ι H Q (g tx ts Z)
section
variable {X : Cx} {K : PySem.W.Frag} {W : Wc} {o e : Expr} {es : List Expr} {fo : FE} {fa : FA} {name : PySem.Str} {apos cpos : Pos} {n id : String} {g : T → List T → Sto → Option (T × Sto)}
theorem Z6n {r r' : V → List V → Hp → VK → Prop} (h : MtR X id r) (i : ∀ x xs H Q, r' x xs H Q → r x xs H Q) : MtR X id r' := fun pins s σ H x xs v us Q I rx rs q => h pins s σ H x xs v us Q I rx rs (i _ _ _ _ q)
theorem f_bm (hK : X.K = K) (pa : PlainAttrs n) (slot : Slot n name id) (hty : typeOf (.builtin id) = pure (.type "method_descriptor")) (hm : MtR X id (rFM K g)) (ho : FJ X K W o fo) (ha : FAJ X K W (e :: es) fa)
    (hbase : attributeBase o name X.env (eval o X.env) = eval o X.env := by rfl)
    (hfew : ((backTo cpos (starEach (e :: es) X.env)).all (fun x => !x.1) && (backToKw cpos (keywordEach [] X.env)).all (fun x => x.1.isSome)
      && decide ((e :: es).length + ([] : List Keyword).length + (if ([] : List Keyword).isEmpty then 0 else 1) < 30)) = true := by rfl)
    (hline : (apos.endLine == cpos.line) = true := by rfl) (hs : starEach (e :: es) X.env = (false,eval e X.env) :: starEach es X.env := by rfl) (hplain : (backTo cpos (starEach es X.env)).any (·.1) = false := by rfl) :
    FJ X K W (.Call (.Attribute o name apos) (e :: es) [] cpos) (eBM n g fo fa) := by
  subst hK
  refine Xj (pe_bm pa slot hty hm ho ha hbase hfew hline hs hplain) fun σ H Q h => ?_
  obtain ⟨ι,ρ,Z,is,p⟩ := h
  refine ⟨ι,ρ,Z,is,(Zi p).imp fun x H1 q => ?_⟩
  obtain ⟨ι1,Z1,tx,g1,s1,r1,p1⟩ := q
  split at p1
  · rename_i ht
    refine ⟨Zbo s1 r1 ht,ι1,ρ,Z1,is.gr g1 s1,(Zi (rep := Reps X.K) p1).imp fun xs H2 q => ?_⟩
    obtain ⟨ι2,Z2,ts,g2,s2,r2,p2⟩ := q
    exact ⟨ι2,Z2,tx,ts,s2,r1.gr g2,r2,U4 p2⟩
  · exact p1.elim
theorem f_bm0 (hK : X.K = K) (pa : PlainAttrs n) (slot : Slot n name id) (hty : typeOf (.builtin id) = pure (.type "method_descriptor")) (hm : MtR X id (rFM K g)) (ho : FJ X K W o fo)
    (hbase : attributeBase o name X.env (eval o X.env) = eval o X.env := by rfl) (hline : (apos.endLine == cpos.line) = true := by rfl) : FJ X K W (.Call (.Attribute o name apos) [] [] cpos) (eBM n g fo aNil) := by
  subst hK
  refine Xj (pe_bm0 pa slot hty hm ho hbase hline) fun σ H Q h => ?_
  obtain ⟨ι,ρ,Z,is,p⟩ := h
  refine ⟨ι,ρ,Z,is,(Zi p).imp fun x H1 q => ?_⟩
  obtain ⟨ι1,Z1,tx,g1,s1,r1,p1⟩ := q
  split at p1
  · rename_i ht
    exact ⟨Zbo s1 r1 ht,ι1,Z1,tx,[],s1,r1,.nil,U4 p1⟩
  · exact p1.elim
end
def gAppend : T → List T → Sto → Option (T × Sto)
  | .loc i,[t],Z => match getL Z i with
    | some ts => if ts.length < Lim then some (.non,Z.set i (.lst (ts ++ [t]))) else none
    | none => none
  | _,_,_ => none
def asStr : T → Option (List Nat)
  | .str l => some l
  | _ => none
def gStarts : T → List T → Sto → Option (T × Sto)
  | .str a,[.str b],Z => some (.bl (b.isPrefixOf a),Z)
  | .str a,[.tup ts],Z => (ts.mapM asStr).map fun ys => (.bl (ys.any fun y => y.isPrefixOf a),Z)
  | _,_,_ => none
section
variable {X : Cx} {K : PySem.W.Frag}
theorem m_append : MtR X "list.append" (rFM K gAppend) := Z6n mt_append fun x xs H Q h => by
  obtain ⟨ι,Z,tx,ts,s,rx,rs,p⟩ := h
  unfold gAppend at p
  split at p
  · obtain ⟨y,rfl,ry⟩ := rs.one
    split at p
    · rename_i us e
      split at p
      · rename_i hl
        obtain ⟨a,vs,rfl,ha,h1,r⟩ := Ur s (W3 e) rx
        refine ⟨a,vs,y,rfl,rfl,h1,by rw [r.length]; exact Nat.lt_of_lt_of_le hl Z2v,?_⟩
        have g := Gr.mut (ι := ι) (o := .lst (vs ++ [y])) h1 trivial (List.mem_of_getElem? ha)
        exact p ι _ _ g (s.set ha ⟨_,upd_same,(r.gr g).append (.cons (ry.gr g) .nil)⟩) .non
      · exact p.elim
    · exact p.elim
  · exact p.elim
theorem Zbp {ι : List Addr} {H : Hp} : ∀ {vs : List V} {ts : List T} {ys : List (List Nat)},Reps K ι H vs ts → Paired (fun t y => asStr t = some y) ts ys → vs = (ys.map S).map V.str
  | _,_,_,.nil,.nil => rfl
  | _,_,_,.cons r q,.cons h p => by
    rename_i v vs t ts y ys
    cases t with
    | str l =>
      cases h
      cases r
      rw [Zbp q p]; rfl
    | _ => cases h
theorem Z9l (hK : X.K = K) : MtR X "str.startswith" (rFM K gStarts) := by
  subst hK
  refine Z6n (mt_startswith.or Z5r) fun x xs H Q h => ?_
  obtain ⟨ι,Z,tx,ts,s,rx,rs,p⟩ := h
  unfold gStarts at p
  split at p
  · obtain ⟨y,rfl,ry⟩ := rs.one
    cases rx; cases ry
    exact .inl ⟨_,_,rfl,rfl,by rw [Z3v]; exact Zv p s (.bl _)⟩
  · obtain ⟨y,rfl,ry⟩ := rs.one
    cases rx
    rename_i l0 us
    obtain ⟨a,vs,rfl,hq,r⟩ := ry.tupE
    cases e : us.mapM asStr with
    | none => rw [e] at p; exact p.elim
    | some ys =>
      rw [e] at p
      have ev := Zbp r (Z1n e)
      subst ev
      refine .inr ⟨_,a,ys.map S,rfl,rfl,hq,?_⟩
      have e2 : ((ys.map S).any fun y => Txt.startswith (S l0) y) = ys.any fun y => y.isPrefixOf l0 := by
        rw [List.any_map]
        congr 1
        funext y
        exact Z3v _ _
      rw [e2]
      exact Zv p s (.bl _)
  · exact p.elim
end
end Fx
set_option maxHeartbeats 4000000
namespace Fx
open PySem PySem.Spec PyProof.Rows L2 SX Ap
variable [Tb]
def wipeR (ρ : Env) : List Nat → Env
  | [] => ρ
  | v :: vs => (wipeR ρ vs).set v none
def putN : List Nat → T → Env → Option Env
  | [j],t,ρ => some (ρ.set j (some t))
  | js,.tup ts,ρ => if ts.length = js.length then some ((js.zip ts).foldl (fun r p => r.set p.1 (some p.2)) ρ) else none
  | _,_,_ => none
def loopC (it : ItF) (D : Nat) (put : T → Option Env) (c : FT) (e : FE) : Nat → Nat → Sto → R T
  | 0,_,_ => .stuck
  | n + 1,k,Z => match it k Z with
    | none => .stuck
    | some none => .ok (.loc D) Z
    | some (some t) => match put t with
      | none => .stuck
      | some ρ => (noX (c ρ Z)).bind fun b Z1 => if b = true then (noX (e ρ Z1)).bind fun y Z2 => (match getL Z2 D with
          | some acc => if acc.length < Lim then loopC it D put c e n (k + 1) (Z2.set D (.lst (acc ++ [y]))) else .stuck
          | none => .stuck) else loopC it D put c e n (k + 1) Z1
def eLc (vs js : List Nat) (it : FI) (c : FT) (e : FE) : FE := fun ρ Z => (it ρ Z).bind fun j Z1 => loopC j Z1.length (fun t => putN js t (wipeR ρ vs)) c e Fuel 0 (Z1 ++ [.lst []])
def eYes : FT := fun _ Z => .ok true Z
section
variable {X : Cx} {K : PySem.W.Frag} {W : Wc}
theorem Qo (ρ : Env) : ∀ vs : List Nat,(wipeR ρ vs).length = ρ.length
  | [] => rfl
  | v :: vs => by show ((wipeR ρ vs).set v none).length = _; rw [List.length_set,Qo ρ vs]
theorem Z0z {ι : List Addr} {H : Hp} {σ : L2.St} {ρ : Env} (e : Envs K ι H σ ρ) (hl : σ.length = ρ.length) : ∀ vs : List Nat,Envs K ι H (wipe σ vs) (wipeR ρ vs)
  | [] => e
  | v :: vs => fun i t h => by
    have h' : ((wipeR ρ vs).set v none)[i]? = some (some t) := h
    show ∃ w,((wipe σ vs).set v none)[i]? = some (some w) ∧ _
    by_cases hi : i = v
    · subst hi
      by_cases hlt : i < (wipeR ρ vs).length
      · rw [List.getElem?_set_self hlt] at h'; cases h'
      · rw [List.getElem?_eq_none (by rw [List.length_set]; omega)] at h'; cases h'
    · rw [List.getElem?_set_ne (Ne.symm hi)] at h'
      rw [List.getElem?_set_ne (Ne.symm hi)]
      exact Z0z e hl vs i t h'
theorem Z30 (σ : L2.St) : ∀ (vs : List Nat) (i : Nat),i < σ.length → i ∈ vs → (wipe σ vs)[i]? = some none
  | v :: vs,i,hl,hm => by
    show ((wipe σ vs).set v none)[i]? = some none
    by_cases hi : i = v
    · subst hi
      rw [List.getElem?_set_self (by rw [wipe_length]; exact hl)]
    · rw [List.getElem?_set_ne (Ne.symm hi)]
      exact Z30 σ vs i hl ((List.mem_cons.mp hm).resolve_left hi)
theorem Z6o (σ : L2.St) (vs : List Nat) (x : Option V) {j : Nat} (hj : j ∈ vs) : wipe (σ.set j x) vs = wipe σ vs := by
  apply List.ext_getElem?
  intro i
  by_cases hi : i ∈ vs
  · by_cases hlt : i < σ.length
    · rw [Z30 _ vs i (by rw [List.length_set]; exact hlt) hi,Z30 σ vs i hlt hi]
    · rw [List.getElem?_eq_none (by rw [wipe_length,List.length_set]; omega),List.getElem?_eq_none (by rw [wipe_length]; omega)]
  · rw [wipe_out hi,wipe_out hi,List.getElem?_set_ne (fun e => hi (by rw [← e]; exact hj))]
theorem Z31 (σ : L2.St) (vs : List Nat) : wipe (wipe σ vs) vs = wipe σ vs := by
  apply List.ext_getElem?
  intro i
  by_cases hi : i ∈ vs
  · by_cases hlt : i < σ.length
    · rw [Z30 _ vs i (by rw [wipe_length]; exact hlt) hi,Z30 σ vs i hlt hi]
    · rw [List.getElem?_eq_none (by rw [wipe_length,wipe_length]; omega),List.getElem?_eq_none (by rw [wipe_length]; omega)]
  · rw [wipe_out hi]
abbrev W0 : Wc := Wt (fun _ _ _ _ => False)
def TgOk (K : PySem.W.Frag) (js : List Nat) (g : TG) : Prop := ∀ (x : V) (σ : L2.St) (H : Hp) (Q : L2.St → Hp → Prop) ι ρ ρ' t, σ.length = ρ.length → Envs K ι H σ ρ → Rep K ι H x t → putN js t ρ = some ρ' →
  (∀ σ', σ'.length = ρ'.length → Envs K ι H σ' ρ' → (∀ vs, (∀ j ∈ js, j ∈ vs) → wipe σ' vs = wipe σ vs) → Q σ' H) → g x σ H Q
theorem Qg (j : Nat) (t : T) (ρ : Env) : putN [j] t ρ = some (ρ.set j (some t)) := by cases t <;> rfl
theorem Zdr {i j : Nat} {t : T} {ρ ρ' : Env} (h : putN [i, j] t ρ = some ρ') : ∃ t1 t2, t = .tup [t1, t2] ∧ ρ' = (ρ.set i (some t1)).set j (some t2) := by
  cases t with
  | tup ts =>
    match ts with
    | [] => simp [putN] at h
    | [_] => simp [putN] at h
    | [t1,t2] => simp [putN] at h; exact ⟨t1,t2,rfl,h.symm⟩
    | _ :: _ :: _ :: _ => simp [putN] at h
  | _ => simp [putN] at h
theorem Wr (j : Nat) : TgOk K [j] (gName j) := fun x σ H Q ι ρ ρ' t hl env r e q => by
  rw [Qg] at e
  have e' := Option.some.inj e
  subst e'
  exact q _ (by rw [List.length_set,List.length_set]; exact hl) (env.set r j hl) fun vs h => Z6o σ vs _ (h j List.mem_cons_self)
theorem Zho (i j : Nat) : TgOk K [i, j] (gTup K 2 (gCons (gName i) (gCons (gName j) gNil))) := fun x σ H Q ι ρ ρ' t hl env r e q => by
  obtain ⟨t1,t2,rfl,rfl⟩ := Zdr e
  obtain ⟨a,xs,rfl,hq,rs⟩ := r.tupE
  obtain ⟨v1,v2,rfl,r1,r2⟩ := rs.two
  have e1 := env.set r1 i hl
  have l1 : (σ.set i (some v1)).length = (ρ.set i (some t1)).length := by rw [List.length_set,List.length_set]; exact hl
  have e2 := e1.set r2 j l1
  have q2 := q ((σ.set i (some v1)).set j (some v2)) (by simp only [List.length_set]; exact hl) e2 fun vs h => by rw [Z6o _ vs _ (h j (by simp)),Z6o _ vs _ (h i (by simp))]
  exact ⟨a,[v1,v2],rfl,hq,rfl,v1,[v2],rfl,v2,[],rfl,rfl,q2⟩
theorem Zhp {fi : FI} {g : TG} {ft : FT} {fe : FE} {vs js : List Nat} (hg : TgOk K js g) (hjs : ∀ j ∈ js,j ∈ vs) {σ : L2.St} {H : Hp} {Q : VK} (hi : ∀ R,(∃ ι ρ Z,Ie K W ι H σ ρ Z ∧ Post (ItR K) K W.w σ ι H R (fi ρ Z)) → tI K W.w fi σ H R) (h : tF K W (eLc vs js fi ft fe) σ H Q) : tLc (tI K W.w fi) g (tFT K W0 ft) (tF K W0 fe) vs σ H Q := by
  obtain ⟨ι,ρ,Z,is,p⟩ := h
  refine hi _ ⟨ι,ρ,Z,is,(Zi (rep := ItR K) p).imp fun J H1 q => ?_⟩
  obtain ⟨ι1,Z1,it,g1,s1,rJ,p1⟩ := q
  intro D hD
  have is1 := is.gr g1 s1
  have sD : Sim K (ι1 ++ [D]) (Z1 ++ [.lst []]) (upd H1 D (.lst [])) := s1.newL .nil hD
  have gD : Gr ι1 (ι1 ++ [D]) H1 (upd H1 D (.lst [])) := Gr.new hD
  have hDi : (ι1 ++ [D])[Z1.length]? = some D := by rw [← s1.len]; simp
  refine ⟨fun k m H' => ∃ ι' Z', Gr (ι1 ++ [D]) ι' (upd H1 D (.lst [])) H' ∧ Sim K ι' Z' H' ∧ Post (Rep K) K W.w σ ι' H' Q (loopC it Z1.length (fun t => putN js t (wipeR ρ vs)) ft fe m k Z'), ⟨Fuel, ι1 ++ [D], _, Gr.refl, sD, p1.shift gD⟩, ?_⟩
  rintro k m H' ⟨ι', Z', g', s', p'⟩
  cases m with
  | zero => exact p'.elim
  | succ m =>
    have hj := rJ k ι' H' Z' (gD.trans g') s'
    unfold loopC at p'
    cases e : it k Z' with
    | none => rw [e] at p'; exact p'.elim
    | some o =>
      rw [e] at hj p'
      cases o with
      | none => exact .inl ⟨hj, p' ι' H' _ Gr.refl s' (.loc (g'.pre _ _ hDi))⟩
      | some t =>
        refine .inr ⟨hj.1, _, fun H2 n => ⟨m, Nat.lt_succ_self m, n⟩, fun x H'' y => ?_⟩
        obtain ⟨g2, s2, r2⟩ := hj.2 x H'' y
        simp only at p'
        cases e3 : putN js t (wipeR ρ vs) with
        | none => rw [e3] at p'; exact p'.elim
        | some ρ' =>
          rw [e3] at p'
          have env2 : Envs K ι' H'' (wipe σ vs) (wipeR ρ vs) := Z0z ((is1.env.gr (gD.trans g')).gr g2) is1.len vs
          refine hg x (wipe σ vs) H'' _ ι' _ ρ' t (by rw [wipe_length, Qo]; exact is1.len) env2 r2 e3 fun σ' hl' env' hw => ?_
          refine ⟨by rw [hw vs hjs, Z31], ι', ρ', Z', ⟨hl', env', s2, trivial⟩, Jk (W := W.w) (σ := σ) ((Zi (rep := bEq) (p'.shift g2)).imp fun b H3 q => ?_)⟩
          obtain ⟨ι3, Z3, b', g3, s3, rb, p3⟩ := q
          cases (show b = b' from rb)
          cases b with
          | false =>
            rw [if_neg Bool.false_ne_true] at p3 ⊢
            exact ⟨ι3, Z3, (g'.trans g2).trans g3, s3, p3⟩
          | true =>
            rw [if_pos rfl] at p3 ⊢
            refine ⟨ι3, ρ', Z3, ⟨hl', env'.gr g3, s3, trivial⟩, Jk (W := W.w) (σ := σ) ((Zi (rep := Rep K) p3).imp fun y H4 q => ?_)⟩
            obtain ⟨ι4,Z4,ty,g4,s4,ry,p4⟩ := q
            split at p4
            · rename_i acc ea
              split at p4
              · rename_i hz
                have hD4 : ι4[Z1.length]? = some D := g4.pre _ _ (g3.pre _ _ (g'.pre _ _ hDi))
                obtain ⟨a, ws, ea', _, h1, rw1⟩ := Ur s4 (W3 ea) (.loc hD4)
                cases ea'
                have g5 := Gr.mut (ι := ι4) (o := .lst (ws ++ [y])) h1 trivial (List.mem_of_getElem? hD4)
                refine ⟨ws, h1, by rw [rw1.length]; exact Nat.lt_of_lt_of_le hz Z2v, ι4, _, (((g'.trans g2).trans g3).trans g4).trans g5, s4.set (ob := .lst (acc ++ [ty])) hD4 ⟨_, upd_same, (rw1.gr g5).append (.cons (ry.gr g5) .nil)⟩, p4.shift g5⟩
              · exact p4.elim
            · exact p4.elim
theorem Z9m {fi : FI} {σ : L2.St} {H : Hp} {R : It → Hp → Prop} (h : ∃ ι ρ Z,Ie K W ι H σ ρ Z ∧ Post (ItR K) K W.w σ ι H R (fi ρ Z)) : tI K W.w fi σ H R := by
  obtain ⟨ι,ρ,Z,is,p⟩ := h
  exact ⟨ι,ρ,Z,⟨is.len,is.env,is.sim⟩,p⟩
theorem Ws : PTs X [] (tFT K W0 eYes) := ⟨fun pins s σ H Q I h => by
  obtain ⟨ι,ρ,Z,is,p⟩ := h
  exact pts_nil.run pins s σ H Q I (p ι H true Gr.refl is.sim rfl)⟩
theorem f_lc {elt tg iter : Expr} {ifs : List Expr} {scope : Scope} {own : List (PySem.Str × Nat)} {pos : Pos} {fi : FI} {g : TG} {ft : FT} {fe : FE} {js : List Nat} (hg0 : TgOk K js g) (hjs : ∀ j ∈ js,j ∈ own.map (·.2)) (hc : X.calm = true) (hN : X.N.Nodup) (hi : PI X tg iter (tI K W.w fi)) (ok : BlkOk X.N X.env.scope scope own)
    (hg : ∀ (s : Shared) (H : Hp) (C : Addr) (cl : List (PySem.Str × Addr)) (fp : List Addr),PG (X.blk s H scope (compEnvC scope cl C X.env) fp) tg g) (ht : ∀ (s : Shared) (H : Hp) (C : Addr) (cl : List (PySem.Str × Addr)) (fp : List Addr),PTs (X.blk s H scope (compEnvC scope cl C X.env) fp) ifs (tFT K W0 ft))
    (he : ∀ (s : Shared) (H : Hp) (C : Addr) (cl : List (PySem.Str × Addr)) (fp : List Addr),FJ (X.blk s H scope (compEnvC scope cl C X.env) fp) K W0 elt fe) (hs : ∀ x,foldedSetIterable iter X.env x = pure x := by intro _; rfl) :
    FJ X K W (.ListComp elt [⟨tg,iter,ifs,0⟩] scope pos) (eLc (own.map (·.2)) js fi ft fe) := Xj (pe_lc hc hN hi ok hg ht he hs) fun σ H Q h => Zhp hg0 hjs (fun R q => Z9m q) h
theorem Z6p {W : WX} {i : Nat} {y : PySem.Str} {py : Pos} {elt tg iter : Expr} {ifs : List Expr} {scope : Scope} {own : List (PySem.Str × Nat)} {pos spos : Pos} {fi : FI} {g : TG} {ft : FT} {fe : FE} {js : List Nat} (hg0 : TgOk K js g) (hjs : ∀ j ∈ js,j ∈ own.map (·.2)) (hc : X.calm = true) (hN : X.N.Nodup) (hy : X.N[i]? = some y) (hyl : X.env.scope.names.lookup y = some .local)
    (hsw : swapsWith (.ListComp elt [⟨tg,iter,ifs,0⟩] scope pos) (some (.Name y py)) spos.line X.env = pure true) (hi : PI X tg iter (tI K W fi)) (ok : BlkOk X.N X.env.scope scope own)
    (hg : ∀ (s : Shared) (H : Hp) (C : Addr) (cl : List (PySem.Str × Addr)) (fp : List Addr),PG (X.blk s H scope (compEnvC scope cl C X.env) fp) tg g) (ht : ∀ (s : Shared) (H : Hp) (C : Addr) (cl : List (PySem.Str × Addr)) (fp : List Addr),PTs (X.blk s H scope (compEnvC scope cl C X.env) fp) ifs (tFT K W0 ft))
    (he : ∀ (s : Shared) (H : Hp) (C : Addr) (cl : List (PySem.Str × Addr)) (fp : List Addr),FJ (X.blk s H scope (compEnvC scope cl C X.env) fp) K W0 elt fe) (hs : ∀ x,foldedSetIterable iter X.env x = pure x := by intro _; rfl) :
    FSJ X K W (.Assign [.Name y py] (.ListComp elt [⟨tg,iter,ifs,0⟩] scope pos) spos) (sSet i (eLc (own.map (·.2)) js fi ft fe)) := Z0w (ps_setLc hc hN hy hyl hsw hi ok hg ht he hs) fun D σ H h => by
  obtain ⟨ι,ρ,Z,is,p⟩ := h
  refine Zhp (W := Wt W) hg0 hjs (fun R q => Z9m q) (Zbi is p fun v H1 ι1 Z1 t g1 i1 r1 p1 => ?_)
  exact p1 ι1 H1 _ Gr.refl (i1.set r1 i)
theorem Wz {X : Cx} : Takes X W0.w := takes0
end
end Fx
set_option maxHeartbeats 4000000
namespace Fx
open PySem PySem.Spec PyProof.Rows L2 SX Ap
variable [Tb]
def spI (C : Addr) (f : PySem.Str) : Sp := fun vs H Q _ => ∃ (a : Addr) (v : V),vs = [.ref a,v] ∧ H a = some (exo a C none) ∧ ∀ dx,H dx = none → dx ≠ a → Q .non (upd (upd H dx (exd dx [(f,v)])) a (exo a C (some dx)))
def sRaise (nm f : PySem.Str) (ds : List T) (fa : FA) : FS := fun ρ Z => bS ρ (fa ρ Z) fun ts Z1 => match ts ++ ds with
  | [t] => .exc ⟨nm,[(f,t)]⟩ ρ Z1
  | _ => .stuck
section
variable {X : Cx} {K : PySem.W.Frag} {W : WX} {x : PySem.Str} {p pos rpos : Pos} {e : Expr} {es : List Expr} {fa : FA} {k : Nat} {C fI : Addr} {fd : FuncData} {ps : List PySem.Str} {f : PySem.Str} {dvs : List V} {ds : List Value} {dts : List T}
theorem Z1o (hK : X.K = K) (hc : X.calm = true) (tk : Takes X W) (T : OexC X.K C) (iC : PySem.W.findIn X.K (.ref C) "__init__" = some (some (.ref fI))) (tI : PySem.W.typeIn X.K (.ref fI) = some (.type "function"))
    (F1 : FnOk X.prog X.w X.K X.mg X.base CX0 k fI fd ps (spI C f)) (hr : Room (k + 1) X.A) (hb : Binds X.K fd ps ds) (hd : Vals dvs ds) (hdf : Dfl K dvs dts) (hg : Gl X x) (hm : X.mg x = some (.ref C)) (ha : FAJ X K (Wt W) (e :: es) fa) (hn : ofLen (e :: es) fa) (hns : PySem.W.nsIn X.K mainGlobals x = some (some (.ref C))) (hln : (e :: es).length + dts.length = 1 := by rfl)
    (hdb : (x == ("__debug__" : PySem.Str)) = false := by decide) (he : starEach (e :: es) X.env = (false, eval e X.env) :: starEach es X.env := by rfl) (hpl : (backTo pos (starEach es X.env)).any (·.1) = false := by rfl) :
    FSJ X K W (.Raise (some (.Call (.Name x p) (e :: es) [] pos)) none rpos) (sRaise x f dts fa) := by
  subst hK
  refine Z0w (ps_raise hc tk (pmk_oex T iC tI F1 hr hb hd pass0 hg hm ha hdb he hpl)) fun D σ H h => ?_
  obtain ⟨ι,ρ,Z,is,q⟩ := h
  refine Zew is q fun vs H1 ι1 Z1 ts e1 g1 i1 r1 p1 => ?_
  have r2 := r1.append (hdf ι1 H1)
  have hl := r2.length
  have hl2 : (ts ++ dts).length = 1 := by rw [List.length_append,hn _ _ _ _ e1]; exact hln
  refine ⟨?_,fun a na => ?_⟩
  · rw [List.length_append,r1.length] at *; omega
  match hts : ts ++ dts,r2,hl2 with
  | [t],r2,_ =>
    obtain ⟨v,ev,rv⟩ := r2.one
    rw [hts] at p1
    rw [ev]
    refine ⟨a,v,rfl,upd_same,fun dx nd ne => ⟨rfl,dx,[(f,v)],?_,?_,?_,?_⟩⟩
    · exact upd_same
    · rw [upd_ne ne,upd_same]
    · rw [upd_ne ne] at nd; exact nd
    · have hd1 : H1 dx = none := by rw [upd_ne ne] at nd; exact nd
      have eH : ∀ b,b ≠ dx → upd (del (upd (upd (upd H1 a (exo a C none)) dx (exd dx [(f,v)])) a (exo a C (some dx))) a) dx (.xd [(f,v)]) b = H1 b := fun b hb => by
        rw [upd_ne hb]
        by_cases hba : b = a
        · subst hba; rw [del_same,na]
        · rw [del_ne hba,upd_ne hba,upd_ne hb,upd_ne hba]
      have sm : Same H1 (upd (del (upd (upd (upd H1 a (exo a C none)) dx (exd dx [(f,v)])) a (exo a C (some dx))) a) dx (.xd [(f,v)])) := fun b o ho => by
        rw [eH b (ne_of_none ho hd1)]; exact ho
      refine p1 ι1 _ σ (.ref C) (some dx) (Gr.same sm) (i1.gr (Gr.same sm) (i1.sim.same sm)) ⟨⟨C,rfl,hns⟩,dx,[(f,v)],rfl,upd_same,.cons (rv.gr (Gr.same sm)) .nil⟩
end
theorem RepX.gr {K : PySem.W.Frag} {ι ι' : List Addr} {H H' : Hp} {cls : Value} {d : Option Addr} {x : Ex} (g : Gr ι ι' H H') (h : RepX K ι H cls d x) : RepX K ι' H' cls d x := by
  obtain ⟨h1,h2⟩ := h
  refine ⟨h1,?_⟩
  split at h2
  · rename_i e; exact h2
  · obtain ⟨dd,vs,e,h,r⟩ := h2
    exact ⟨dd,vs,e,g.xd _ _ h,r.gr g⟩
def Wx (K : PySem.W.Frag) (i : Nat) (a : Addr) (cls : Value) (d : Option Addr) (x : Ex) : Wc := ⟨fun _ _ _ _ => False,fun σ ι H => σ[i]? = some (some (.ref a)) ∧ RepX K ι H cls d x,fun _ _ _ _ _ g h => ⟨h.1,h.2.gr g⟩⟩
def eXf (x : Ex) (f : PySem.Str) : FE := fun _ Z => match x.fs.lookup f with
  | some t => .ok t Z
  | none => .stuck
theorem RepP.lookup {K : PySem.W.Frag} {ι : List Addr} {H : Hp} {f : PySem.Str} {t : T} : ∀ {vs : List (PySem.Str × V)} {fs : List (PySem.Str × T)},RepP K ι H vs fs → fs.lookup f = some t → ∃ v,vs.lookup f = some v ∧ Rep K ι H v t
  | _,_,.nil,e => by cases e
  | _,_,.cons r q,e => by
    rename_i k v vs t' ts
    rw [List.lookup_cons] at e ⊢
    cases h : f == k with
    | true => rw [h] at e; cases e; exact ⟨v,rfl,r⟩
    | false => rw [h] at e; exact RepP.lookup q e
section
variable {X : Cx} {K : PySem.W.Frag} {W : WX} {x : PySem.Str} {n : PySem.Str} {C : Addr} {i : Nat} {body : List Stmt} {e : Expr} {np pos pos' rpos : Pos} {b : FS} {fe : Ex → FE}
theorem f_xf {a : Addr} {oe : Obj} {cls : Value} {d : Option Addr} {pn : List (Addr × Obj)} {y : Ex} {nm f : PySem.Str} {vp : Pos} (hK : X.K = K) (hx : y.cls = nm) (hns : PySem.W.nsIn X.K mainGlobals nm = some (some (.ref C))) (T : XfC X.K C) (hno : PySem.W.findIn X.K (.ref C) f = some none) (hz : Zc cls d oe) (hf : ∃ vs,oe.data = .fields vs) (he : PE (X.suite a ((a,oe) :: pn)) (.Name n vp) (tVar i))
    (hb : attributeBase (.Name n vp) f X.env (eval (.Name n vp) X.env) = eval (.Name n vp) X.env := by rfl) : FJ (X.suite a ((a,oe) :: pn)) K (Wx K i a cls d y) (.Attribute (.Name n vp) f pos) (eXf y f) := by
  subst hK
  refine Xj (pe_xf T hno hz hf he hb) fun σ H Q h => ?_
  obtain ⟨ι,ρ,Z,is,p⟩ := h
  obtain ⟨h1,⟨c,hc,hn⟩,h2⟩ := is.jj
  rw [hx,hns] at hn
  cases hn
  unfold eXf at p
  split at p
  · rename_i t et
    refine ⟨_,h1,rfl,hc,?_⟩
    split at h2
    · rename_i e0; rw [e0] at et; cases et
    · obtain ⟨dd,vs,ed,hd,r⟩ := h2
      obtain ⟨v,hv,rv⟩ := r.lookup et
      exact ⟨dd,vs,v,ed,hd,hv,p ι H v Gr.refl is.sim rv⟩
  · exact p.elim
theorem Zhq {a B : Addr} {oe : Obj} {cls : Value} {d : Option Addr} {pn : List (Addr × Obj)} {y : Ex} {nm xb : PySem.Str} {vp bp fp : Pos} {bb : Bool} (hK : X.K = K) (hx : y.cls = nm) (hfs : y.fs.isEmpty = false) (hns : PySem.W.nsIn X.K mainGlobals nm = some (some (.ref C))) (T : ExcC X.K C) (hk : PySem.W.kitOne X.K (.ref C) (.ref B) = some bb) (hz : Zc cls d oe) (hf : ∃ vs, oe.data = .fields vs) (hg : Gl X "isinstance") (hm : X.mg "isinstance" = none) (he : PE (X.suite a ((a, oe) :: pn)) (.Name n vp) (tVar i)) (hgb : Gl X xb) (hmb : X.mg xb = some (.ref B)) (hdb : (xb == ("__debug__" : PySem.Str)) = false := by decide)
    (hs1 : starEach [.Name n vp,.Name xb bp] X.env = (false,eval (.Name n vp) X.env) :: starEach [.Name xb bp] X.env := by rfl) (hs2 : starEach [.Name xb bp] X.env = (false,eval (.Name xb bp) X.env) :: starEach [] X.env := by rfl) :
    FJ (X.suite a ((a, oe) :: pn)) K (Wx K i a cls d y) (.Call (.Name "isinstance" fp) [.Name n vp, .Name xb bp] [] pos) (eC (.bl bb)) := by
  subst hK
  refine Xj (pe_callB (X := X.suite a ((a,oe) :: pn)) (Zdq (X := X) T hz hf) hg hm (by decide +kernel) (pa_cons he (pa_cons (pe_glob (X := X.suite a ((a,oe) :: pn)) (v := .ref B) hgb hmb rfl hdb) pa_nil hs2) hs1)) fun σ H Q h => ?_
  obtain ⟨ι,ρ,Z,is,p⟩ := h
  obtain ⟨h1,⟨c,hc,hn⟩,h2⟩ := is.jj
  rw [hx,hns] at hn
  cases hn
  refine ⟨_,h1,?_⟩
  split at h2
  · rename_i e0; rw [e0] at hfs; exact Bool.noConfusion hfs
  · obtain ⟨dd,vs,ed,hd,r⟩ := h2
    exact ⟨.ref B,.ref B,bb,dd,vs,rfl,hc,ed,hd,fun u hu => hu,hk,p ι H _ Gr.refl is.sim (.bl bb)⟩
theorem PostS.wx {K : PySem.W.Frag} {W W' : WX} {ι : List Addr} {H : Hp} {D : Ends} {r : RS} (h : PostS K W ι H D r) (i : ∀ x ρ Z, r ≠ .exc x ρ Z) : PostS K W' ι H D r := by
  cases r with
  | nx => exact h
  | rt => exact h
  | bk => exact h
  | ct => exact h
  | exc x ρ Z => exact absurd rfl (i x ρ Z)
  | stuck => exact h
end
end Fx
set_option maxHeartbeats 4000000
namespace PySem
set_option maxHeartbeats 1000000 in
theorem Z23 (l : Addr) (items : Array Value) (n : Nat) (dct : Option Addr) (sl : Array (Option Value)) :
    Meets (Builtin.«enumerate.__new__» ⟨[.type "enumerate", .ref l], []⟩) (fun _ R s =>
      s.heap.get? l = some { cls := .type "tuple", dict := dct, data := .seq items n, slots := sl } ∧
      R (.ok (.ret (.ref (s.heap.push { cls := .type "tuple_iterator", data := .fields #[.ref l, .int 0 0] }).objs.size)))
        { s with heap := (s.heap.push { cls := .type "tuple_iterator", data := .fields #[.ref l, .int 0 0] }).push { cls := .type "enumerate", data := .fields #[.none, .bool false, .ref s.heap.objs.size, rawInt 0, .none, .none] } }) :=
  .of_wp fun prog w A R s h => by
    obtain ⟨hl,h⟩ := h
    obtain ⟨hp,g,d,tk,os⟩ := s
    have hL : hp.IsTuple l items := ⟨_,hl,rfl,n,rfl⟩
    have hsub := sub_enumerate
    wp_walk using wpAny_loadPart' hl
    refine wpAny_stack_any fun st => wpAny_pure ?_
    split
    · rename_i c _ _ _ _ _
      cases (c == Value.type "enumerate")
      · wp_walk using wpAny_loadPart' hl, wpAny_pyIter_tuple hL
        exact ⟨_,rfl,h⟩
      · wp_walk using wpAny_loadPart' hl, wpAny_pyIter_tuple hL
        exact ⟨_,rfl,h⟩
    · wp_walk using wpAny_loadPart' hl, wpAny_pyIter_tuple hL
      exact ⟨_,rfl,h⟩
end PySem
namespace PySem
section
variable {prog : Program} {w : World} {A : Around} {E : Value → Shared → Prop} {s : Shared}
theorem Z32 {l : Addr} {items : Array Value} {Q : Value → Shared → Prop} (hL : s.heap.IsTuple l items)
    (k : ∀ h', IsEnum h' (s.heap.objs.size + 1) s.heap.objs.size 0 .none → h'.IsTupleIter s.heap.objs.size l 0 → (∀ b o, s.heap.get? b = some o → h'.get? b = some o) → Q (.ref (s.heap.objs.size + 1)) { s with heap := h' }) :
    wpAny (model prog w) A (call (.type "enumerate") [.ref l]) Q E s := by
  obtain ⟨⟨c,dct,dt,sl⟩,hl,hc,n,hd⟩ := hL
  obtain rfl : c = .type "tuple" := hc
  obtain rfl : dt = .seq items n := hd
  refine callType_new F.called_enumerate (by decide) (F.typeCall_enumerate_1 _) (F.newCall_enumerate_1 _) (fun obj => F.args_object_init_2 obj _) F.entry_enumerate_new (Z23 l items n dct sl) ⟨hl,?_⟩
  have hz : (s.heap.push { cls := .type "tuple_iterator", data := .fields #[.ref l, .int 0 0] }).objs.size = s.heap.objs.size + 1 := Heap.size_push ..
  show _ ∧ _
  rw [hz]
  have he : IsEnum ((s.heap.push { cls := .type "tuple_iterator", data := .fields #[.ref l, .int 0 0] }).push
      { cls := .type "enumerate", data := .fields #[.none, .bool false, .ref s.heap.objs.size, rawInt 0, .none, .none] }) (s.heap.objs.size + 1) s.heap.objs.size 0 .none := by
    have q := Heap.get?_push_size (s.heap.push { cls := .type "tuple_iterator", data := .fields #[.ref l, .int 0 0] })
      (o := { cls := .type "enumerate", data := .fields #[.none, .bool false, .ref s.heap.objs.size, rawInt 0, .none, .none] }) rfl
    rw [hz] at q; exact q
  exact ⟨⟨_,he,rfl⟩,k _ he ⟨_,Heap.get?_push_of_some _ (Heap.get?_push_size _ rfl),rfl,rfl⟩ fun b o x => Heap.get?_push_of_some _ (Heap.get?_push_of_some _ x)⟩
end
end PySem
namespace Fx
open PySem PySem.Spec PyProof.Rows L2 SX Ap
variable [Tb]
def IteT (K : PySem.W.Frag) (a : Addr) : It :=
  ⟨fun i H => ∃ (xs : List V) (x : V), SqT K H a xs ∧ xs[i]? = some x, fun i H v H' => ∃ T x, v = .ref T ∧ H T = none ∧ H' = upd H T (.tup [.int (i : Nat), x]) ∧ ∀ xs, SqT K H a xs → xs[i]? = some x, fun i H => ∃ xs : List V, SqT K H a xs ∧ xs.length = i⟩
theorem Zan {P : Program} {w : World} {K : PySem.W.Frag} {elts : List Expr} {kk : Nat} {tpos : Pos} (a e it : Addr) :
    Turn P w K (.Tuple elts kk tpos) (IteT K a) [e,it] e (fun i h => (∃ old,IsEnum h e it ((i : Nat) : Int) old) ∧ h.IsTupleIter it a i ∧ e ≠ it ∧ a ≠ it) where
  mem := List.mem_cons_self
  obj := by
    intro i h ⟨⟨old,he⟩,⟨o,ho,hc,hd⟩,_⟩ b hb
    rcases List.mem_cons.mp hb with rfl | hb
    · exact ⟨_,he,fun v q => nomatch q⟩
    · cases List.mem_singleton.mp hb
      exact ⟨o,ho,fun v q => by rw [hd] at q; cases q⟩
  keep := by
    intro i h h' ⟨⟨old, he⟩, ⟨o, ho, r⟩, hne⟩ k
    exact ⟨⟨old,k e List.mem_cons_self _ he⟩,⟨o,k it (List.mem_cons_of_mem _ List.mem_cons_self) o ho,r⟩,hne⟩
  item := by
    intro X hP hw hK hc i pins s σ H E I hf ⟨⟨old,he⟩,hit,hne,hai⟩ hg
    cases hP; cases hw; cases hK
    have le : e < s.heap.objs.size := Heap.lt_size he
    have li : it < s.heap.objs.size := Heap.lt_size hit.choose_spec.1
    obtain ⟨xs,x,hq,hx⟩ := hg
    obtain ⟨its,rv,pt,hz⟩ := I.tuple hq
    obtain ⟨u,hu,ru⟩ := rv.get hx
    have hil : i < its.toArray.size := by
      have := (List.getElem?_eq_some_iff.mp hu).1
      simpa using this
    have hae : a ≠ e := fun z => by
      obtain ⟨o,h1,h2,_⟩ := pt
      rw [z] at h1
      have h3 := he.symm.trans h1
      cases h3
      exact absurd (Value.type.inj h2) (by decide)
    refine wpAny_pyNext_enum_itemD (Draws.tuple (A := X.A.in1) (I.ok.hd hc) it a hai its.toArray) he ⟨hit,pt⟩ hil hne (by simp [hne,Ne.symm hae]) ?_
    rintro v h' tk hv ho ⟨st, _⟩ hT hsz hk
    have hv' : v = u := by
      have h0 : its.toArray[i]? = some v := hv
      have : its[i]? = some v := by simpa using h0
      rw [hu] at this; exact (Option.some.inj this).symm
    subst hv'
    refine ⟨_, rfl, wpAny_letOwnedTupleGo_enum (s := { s with heap := h', toks := tk + 1 }) ho ?_⟩
    intro h'' he' sb
    have hT2 := (sb.2 s.heap.objs.size (Nat.ne_of_gt le)).trans hT
    have new : ObjOk X.prog X.w (upd H s.heap.objs.size (.tup [.int (i : Nat), x])) h'' s.heap.objs.size (.tup [.int (i : Nat), x]) :=
      ⟨by show 2 ≤ sizeLine; decide,[.int i tk,v],.cons ⟨_,rfl⟩ (.cons ru .nil),⟨_,hT2,rfl,_,rfl⟩⟩
    have I1 := I.turnedNew (t' := tk + 1) (ch := [e, it]) (fun b ob hb q => (sb.2 b (fun z => hb (by simp [z]))).trans (hk b ob (fun z => hb (by simp [z])) (fun z => hb (by simp [z])) q)) hf (Nat.le_refl _) new
    refine ⟨.ref s.heap.objs.size,_,I1,rfl,⟨_,x,rfl,I.hok.fresh (Nat.le_refl _),rfl,fun ys hy => by rw [I.tuple_inj hy hq]; exact hx⟩,⟨⟨v,?_⟩,?_,hne,hai⟩,?_⟩
    · rw [show ((i + 1 : Nat) : Int) = (i : Int) + 1 by omega]; exact he'
    · obtain ⟨o,o1,o2⟩ := st
      exact ⟨o,(sb.2 it (Ne.symm hne)).trans o1,o2⟩
    · intro b hb
      have : b < s.heap.objs.size := by
        rcases List.mem_cons.mp hb with rfl | hb
        · exact le
        · cases List.mem_singleton.mp hb; exact li
      rw [upd_ne (Nat.ne_of_lt this)]
      exact (hf b hb).1
  done := by
    intro X hP hw hK hc i pins s σ H E I hf ⟨⟨old,he⟩,hit,hne,hai⟩ hg
    cases hP; cases hw; cases hK
    obtain ⟨xs,hq,rfl⟩ := hg
    obtain ⟨its,rv,pt,hz⟩ := I.tuple hq
    obtain ⟨f0,f1,f2,f3,f4,f5⟩ := hf it (List.mem_cons_of_mem _ List.mem_cons_self)
    have hsz : its.toArray.size = xs.length := by rw [List.size_toArray,rv.length]
    refine wpAny_pyNext_enum_endD (Draws.tuple (A := X.A.in1) (I.ok.hd hc) it a hai its.toArray) he (by rw [hsz]; exact ⟨hit,pt⟩) ?_
    intro h' eb
    exact ⟨rfl, I.turned (t' := s.toks) (fun b o hb q => eb b o hb q) f0 f1 f3 f4 f5⟩
  self := by
    intro A i s Q E ⟨⟨_,he⟩,_⟩ h
    exact wpAny_pyIter_enum he h
def iEnumT (K : PySem.W.Frag) (ta : TA) : TI := fun σ H R => ta σ H fun vs H1 => ∃ a xs,vs = [.ref a] ∧ SqT K H1 a xs ∧ R (IteT K a) H1
theorem Zds {X : Cx} {e : Expr} {ta : TA} {p pos tpos : Pos} {elts : List Expr} {kk : Nat} (hg : Gl X "enumerate") (hm : X.mg "enumerate" = none)
    (ha : PA X [e] ta) (hs : starEach [e] X.env = [(false,eval e X.env)] := by rfl) :
    PI X (.Tuple elts kk tpos) (.Call (.Name "enumerate" p) [e] [] pos) (iEnumT X.K ta) := by
  constructor
  intro pins s σ H R I h
  refine Call_ (ld_blt I hg hm boot_enumerate (PyProof.Rows.callWith_type1 ?_ hs rfl))
  refine thn (ha.run pos pins s σ H _ I h) ?_
  rintro us s1 ⟨vs,H1,I1,r1,a,xs,rfl,hq,q⟩
  obtain ⟨u,rfl,ru⟩ := vals1 r1
  cases (show u = Value.ref a from ru)
  obtain ⟨its,rv,pt,hz⟩ := I1.tuple hq
  refine Z32 (show s1.heap.IsTuple a its.toArray from pt) ?_
  intro h' he hit hk
  refine wpAny_pyIter_enum he ?_
  have I2 : Inv X pins σ H1 { s1 with heap := h' } := I1.kept (t' := s1.toks) hk
  have la : a < s1.heap.objs.size := by obtain ⟨o,h1,_⟩ := pt; exact Heap.lt_size h1
  refine ⟨s1.heap.objs.size + 1,[s1.heap.objs.size + 1,s1.heap.objs.size],_,_,H1,rfl,I2,Zan a _ _,⟨⟨.none,he⟩,hit,Nat.succ_ne_self _,Nat.ne_of_lt la⟩,?_,q⟩
  intro b hb
  have hle : s1.heap.objs.size ≤ b := by
    rcases List.mem_cons.mp hb with rfl | hb
    · exact Nat.le_add_right _ _
    · cases List.mem_singleton.mp hb; exact Nat.le_refl _
  exact I1.fpOk hle (I1.hok.fresh hle)
def itSeqX (ts : List T) : ItF := fun k _ => if k ≤ ts.length then some ts[k]? else none
def itStrX (l : List Nat) : ItF := fun k _ => if k ≤ l.length then some (l[k]?.map fun c => .str [c]) else none
def iAny (f : FE) : FI := fun ρ Z => (f ρ Z).bind fun x Z1 => match x with
  | .frl ts => .ok (itSeq ts) Z1
  | .loc i => match getL Z1 i with
    | some _ => .ok (itLoc i) Z1
    | none => .stuck
  | .tup ts => .ok (itSeq ts) Z1
  | .str l => .ok (itStr l) Z1
  | _ => .stuck
def iEnmA (f : FA) : FI := fun ρ Z => (f ρ Z).bind fun xs Z1 => match xs with
  | [.frl ts] => .ok (itEnum (itSeq ts)) Z1
  | [.loc i] => match getL Z1 i with
    | some _ => .ok (itEnum (itLoc i)) Z1
    | none => .stuck
  | [.tup ts] => .ok (itEnum (itSeqX ts)) Z1
  | [.str l] => .ok (itEnum (itStrX l)) Z1
  | _ => .stuck
section
variable {X : Cx} {K : PySem.W.Frag} {W : WX} {pos p : Pos} {tg l a : Expr} {fl : FE} {fa : FA}
theorem Zdt {t1 t2 : TI} (h1 : PI X tg l t1) (h2 : PI X tg l t2) : PI X tg l (fun σ H R => t1 σ H R ∨ t2 σ H R) := ⟨fun pins s σ H R I q => q.elim (h1.run pins s σ H R I) (h2.run pins s σ H R I)⟩
theorem Vp (hK : X.K = K) (hl : FJ X K (Wt W) l fl) : PI X tg l (tI K W (iAny fl)) := by
  refine Z4m (Zdt (Zfy hK hl) (Zdt (Zhk hK hl) (Zhl hl))) fun σ H Q h => ?_
  obtain ⟨ι,ρ,Z,is,p⟩ := h
  cases e : fl ρ Z with
  | ok t Z1 =>
    unfold iAny at p
    rw [e,Yo] at p
    cases t with
    | tup ts => exact .inr (.inl ⟨ι,ρ,Z,is,by unfold iSeqT; rw [e,Yo]; exact p⟩)
    | str u => exact .inr (.inr ⟨ι,ρ,Z,is,by unfold iStr; rw [e,Yo]; exact p⟩)
    | frl ts => exact .inl ⟨ι,ρ,Z,is,by unfold iSeqL; rw [e,Yo]; exact p⟩
    | loc i => exact .inl ⟨ι,ρ,Z,is,by unfold iSeqL; rw [e,Yo]; exact p⟩
    | _ => exact p.elim
  | exc x Z1 =>
    unfold iAny at p
    rw [e] at p
    exact .inl ⟨ι,ρ,Z,is,by unfold iSeqL; rw [e]; exact p⟩
  | stuck => unfold iAny at p; rw [e] at p; exact p.elim
theorem Zdu {tpos : Pos} {elts : List Expr} {kk : Nat} (hK : X.K = K) (hg : Gl X "enumerate") (hm : X.mg "enumerate" = none) (ha : FAJ X K (Wt W) [a] fa) (hn : ofLen [a] fa) (hs : starEach [a] X.env = [(false, eval a X.env)] := by rfl) : PI X (.Tuple elts kk tpos) (.Call (.Name "enumerate" p) [a] [] pos) (tI K W (iEnmA fa)) := by
  subst hK
  refine Z4m (Zdt (Zfz rfl hg hm ha hn hs) (Zdt (Zds hg hm ha hs) (Zdj hg hm ha hs))) fun σ H Q h => ?_
  obtain ⟨ι,ρ,Z,is,p⟩ := h
  unfold iEnmA at p
  cases e : fa ρ Z with
  | ok ts Z1 =>
    rw [e,Yo] at p
    have hl := hn _ _ _ _ e
    match ts,hl,p with
    | [t],_,p =>
      cases t with
      | frl us => exact .inl ⟨ι,ρ,Z,is,by unfold iEnm; rw [e,Yo]; exact p⟩
      | loc i => exact .inl ⟨ι,ρ,Z,is,by unfold iEnm; rw [e,Yo]; exact p⟩
      | tup us =>
        refine .inr (.inl ⟨ι,ρ,Z,is.ie,?_⟩)
        rw [e]
        intro ι1 H1 vs g1 s1 r1
        obtain ⟨v,rfl,r⟩ := r1.one
        obtain ⟨b,xs,rfl,hq,rs⟩ := r.tupE
        refine ⟨b, xs, rfl, hq, p ι1 H1 _ g1 s1 fun k ι' H' Z' g' s' => ?_⟩
        simp only [itEnum,itSeqX]
        by_cases hk : k ≤ us.length
        · rw [if_pos hk]
          simp only [Option.map_some]
          cases eu : us[k]? with
          | none => exact ⟨xs, SqT.gr g' hq, by rw [rs.length]; have := List.getElem?_eq_none_iff.mp eu; omega⟩
          | some u =>
            obtain ⟨x,h1,h2⟩ := rs.get eu
            refine ⟨⟨xs, x, SqT.gr g' hq, h1⟩, fun y H'' hy => ?_⟩
            obtain ⟨q, x', rfl, nq, rfl, hx'⟩ := hy
            have := hx' xs (SqT.gr g' hq)
            rw [h1] at this; cases this
            exact ⟨Gr.new0 nq, s'.same (Qe nq), .tup (SqT.of upd_same) (.cons (.int _) (.cons ((h2.gr g').gr (Gr.new0 nq)) .nil))⟩
        · rw [if_neg hk]; exact trivial
      | str u =>
        refine .inr (.inr ⟨ι,ρ,Z,is.ie,?_⟩)
        rw [e]
        intro ι1 H1 vs g1 s1 r1
        obtain ⟨v,rfl,r⟩ := r1.one
        cases r
        refine ⟨S u, rfl, p ι1 H1 _ g1 s1 fun k ι' H' Z' g' s' => ?_⟩
        have hsz : (S u).cps.size = u.length := by simp [S]
        simp only [itEnum,itStrX]
        by_cases hk : k ≤ u.length
        · rw [if_pos hk]
          simp only [Option.map_some]
          cases eu : u[k]? with
          | none => exact show k = (S u).cps.size by rw [hsz]; have := List.getElem?_eq_none_iff.mp eu; omega
          | some c =>
            have hlt : k < u.length := (List.getElem?_eq_some_iff.mp eu).1
            refine ⟨show k < (S u).cps.size by rw [hsz]; exact hlt, fun y H'' hy => ?_⟩
            obtain ⟨q, c', rfl, nq, rfl, hc'⟩ := hy
            have : c' = c := by
              have h2 : u[k]? = some c' := by simpa [S] using hc'
              rw [eu] at h2; exact (Option.some.inj h2).symm
            subst this
            exact ⟨Gr.new0 nq, s'.same (Qe nq), .tup (SqT.of upd_same) (.cons (.int _) (.cons (.str [c']) .nil))⟩
        · rw [if_neg hk]; exact trivial
      | _ => exact p.elim
  | exc x Z1 => rw [e] at p; exact .inl ⟨ι,ρ,Z,is,by unfold iEnm; rw [e]; exact p⟩
  | stuck => rw [e] at p; exact p.elim
end
end Fx
set_option maxHeartbeats 4000000
namespace Ap
open PySem PySem.Spec PyProof.Rows L2 SX
end Ap
namespace Fx
open PySem PySem.Spec PyProof.Rows L2 SX Ap
variable [Tb]
theorem Zg0 {K : PySem.W.Frag} {H : Hp} {a : Addr} {ns : List Int} (h : FrL K H a (ns.map V.int)) : Rep K [] H (.ref a) (.frl (ns.map .int)) := by
  refine .frl h ?_
  clear h
  induction ns with
  | nil => exact .nil
  | cons n ns ih => exact .cons (.int n) ih
theorem fnG_0 {P : Program} {w : World} {K : PySem.W.Frag} {mg : PySem.Str → Option Value} {base : Heap} {k : Nat} {f : Addr} {fd : FuncData} {ps : List PySem.Str} {n : Nat} {F : FF} (G : FnG P w K mg base k f fd ps (spF K n F)) : GOk P w K mg base CX0 k f fd ps (fun vs H Q _ => spF K n F vs H Q (fun _ _ _ => False)) :=
  ⟨fun vs H Q E h => G.len vs H Q _ h, fun A outer s H as us vs Q E hr hG e0 hb rv h => codeAny_mono (G.run A outer s H as us vs Q _ hr hG e0 hb rv h) fun r s' z => by
    cases r with
    | error e =>
      obtain ⟨_,_,_,_,_,_,_,_,_,_,_,_,q⟩ := z
      exact q.elim
    | ok fl => cases fl <;> exact z⟩
def gRepr : List T → Sto → Option (T × Sto)
  | [t],Z => match t,toD 16 Z t with
    | .tup _,some d => if d.showable = true ∧ d.hasDict = false ∧ d.depth ≤ 62 ∧ d.shown.length ≤ sizeLine then some (.str d.shown.cps.toList,Z) else none
    | .frl _,some d => if d.showable = true ∧ d.hasDict = false ∧ d.depth ≤ 62 ∧ d.shown.length ≤ sizeLine then some (.str d.shown.cps.toList,Z) else none
    | .loc _,some d => if d.showable = true ∧ d.hasDict = false ∧ d.depth ≤ 62 ∧ d.shown.length ≤ sizeLine then some (.str d.shown.cps.toList,Z) else none
    | _,_ => none
  | _,_ => none
theorem Z6q (z : PySem.Str) : S z.cps.toList = z := by
  show (⟨z.cps.toList.toArray⟩ : PySem.Str) = z
  rw [Array.toArray_toList]
theorem Zhr {X : Cx} {K : PySem.W.Frag} (hK : X.K = K) (hG : X.A.guards = some []) (hu : X.A.units + 64 < cLine) : CallR X (.builtin "repr") (rFC K gRepr) := by
  subst hK
  refine W6 (Zah hG hu) fun xs H Q h => ?_
  obtain ⟨ι,Z,ts,s,r,p⟩ := h
  match ts,r,p with
  | [],_,p => exact p.elim
  | _ :: _ :: _,_,p => simp only [gRepr] at p; exact p.elim
  | [t],r,p =>
    obtain ⟨v,rfl,rr⟩ := r.one
    simp only [gRepr] at p
    cases e : toD 16 Z t with
    | none => rw [e] at p; cases t <;> exact p.elim
    | some d =>
      rw [e] at p
      have hd := Z5z s 16 rr e
      cases t with
      | tup us =>
        simp only at p
        split at p
        · rename_i hc
          obtain ⟨a,vs,rfl,_,_⟩ := rr.tupE
          exact ⟨a,d,rfl,hd,hc.1,hc.2.1,hc.2.2.1,hc.2.2.2,Zv p s (by have := Rep.str (K := X.K) (ι := ι) (H := H) d.shown.cps.toList; rw [Z6q] at this; exact this)⟩
        · exact p.elim
      | frl us =>
        simp only at p
        split at p
        · rename_i hc
          cases rr
          exact ⟨_,d,rfl,hd,hc.1,hc.2.1,hc.2.2.1,hc.2.2.2,Zv p s (by have := Rep.str (K := X.K) (ι := ι) (H := H) d.shown.cps.toList; rw [Z6q] at this; exact this)⟩
        · exact p.elim
      | loc us =>
        simp only at p
        split at p
        · rename_i hc
          cases rr
          exact ⟨_,d,rfl,hd,hc.1,hc.2.1,hc.2.2.1,hc.2.2.2,Zv p s (by have := Rep.str (K := X.K) (ι := ι) (H := H) d.shown.cps.toList; rw [Z6q] at this; exact this)⟩
        · exact p.elim
      | _ => exact p.elim
def eDict0 : FE := fun _ Z => .ok (.loc Z.length) (Z ++ [.dk []])
theorem Zbq {X : Cx} {K : PySem.W.Frag} {W : Wc} {e : Expr} (h : PE X e tDNewK) : FJ X K W e eDict0 := Xj h fun σ H Q q => by
  obtain ⟨ι,ρ,Z,is,p⟩ := q
  intro a na
  exact p (ι ++ [a]) _ _ (Gr.new na) (is.sim.new na ⟨[],upd_same,.nil⟩) (Z6k is.sim)
def gNeg : T → Sto → Option (T × Sto)
  | .int i,Z => some (.int (-i),Z)
  | _,_ => none
theorem Zbr {X : Cx} {K : PySem.W.Frag} {W : Wc} {a : Expr} {fa : FE} {pos : Pos} (ha : FJ X K W a fa) : FJ X K W (.UnaryOp .USub a pos) (eUn gNeg fa) := Xj (pe_un un_neg ha) fun σ H Q h => by
  obtain ⟨ι,ρ,Z,is,p⟩ := h
  refine ⟨ι,ρ,Z,is,(Zi p).imp fun x H1 q => ?_⟩
  obtain ⟨ι1,Z1,tx,g1,s1,r1,p1⟩ := q
  have p2 := U4 p1
  unfold gNeg at p2
  split at p2
  · cases r1; exact ⟨_,rfl,Zv p2 s1 (.int _)⟩
  · exact p2.elim
end Fx
set_option maxHeartbeats 4000000
namespace Ap
open PySem PySem.Spec PyProof.Rows L2 SX
def NoDig (K : PySem.W.Frag) : Prop := PySem.W.nsIn K cStatics "sys.int_max_str_digits" = some none
theorem Zg1 {K : PySem.W.Frag} {h : Heap} {a : Addr} {mg : Str → Option Value} {n : Str} (X : K.In h) (G : h.Ns a mg) (e : PySem.W.nsIn K a n = some none) : mg n = none := by
  obtain ⟨o,es,ep,ho,hd,_,hf⟩ := G
  unfold PySem.W.nsIn at e
  split at e
  · rename_i c d es' n' sl q
    have := X _ _ q
    rw [ho] at this
    cases this
    cases hd
    split at e
    · cases e
    · rename_i he
      rw [← hf]
      unfold nsFind findBy
      rw [← Array.find?_toList,he]
      rfl
  · cases e
open PySem.NumText in
theorem wp_textB {M : Model} {A : Around} {E : Value → Shared → Prop} {s : Shared} {Q : Value → Shared → Prop} {v : Value} {text : List Nat} {n : Int} (hn : s.heap.NoDigits)
    (hs : ¬ (text.takeWhile (· != 0)).length ≤ 640) (hr : (int_private% "readNumeral") 4300 10 (text.takeWhile (· != 0)) = (int_private% "Numeral.value") n)
    (ha : ((text.takeWhile (· != 0)).length == text.length) = true) (h : Q (.int n s.toks) { s with toks := s.toks + 1 }) :
    wpAny M A ((int_private% "intFromText") v text 10) Q E s := by
  obtain ⟨mc,hns,hnone⟩ := hn
  obtain ⟨hp,g,d,tk,os⟩ := s
  wp_step
  wp_step
  unfold Builtin.intMaxStrDigits
  refine wpAny_bind (wpAny_bind (wpAny_nsGet hns ?_))
  rw [hnone]
  refine wpAny_pure ?_
  dsimp only
  rw [hr]
  dsimp only
  rw [if_pos ha]
  exact wpAny_mkInt h
open PySem.NumText PySem.W PySem.W.KIN in
theorem Z8l {x : PySem.Str} {u : Tok} {n : Int} (hs : ¬ (numSeenOf x).length ≤ 640) (hr : (int_private% "readNumeral") 4300 10 (numSeenOf x) = (int_private% "Numeral.value") n) (ha : ((numSeenOf x).length == (numTextOf x).length) = true) :
    Meets (Builtin.«int.__new__» ⟨[.type "int", .str x u], []⟩) (fun _ R s => s.heap.NoDigits ∧ R (.ok (.ret (.int n s.toks))) { s with toks := s.toks + 1 }) :=
  .of_wp fun prog w A R s hh => by
    obtain ⟨hp,g,d,tk,os⟩ := s
    have hN : hp.NoDigits := hh.1
    have h := hh.2
    clear hh
    have f1 := F.conv_sub_int
    have f2 := F.madeHere_int
    have f3 := str_int
    have f4 := str_idx
    have f5 := str_trunc
    have f6 : typeOf (.str x u) = pure (.type "str") := rfl
    have hk := Hid.mk (And.intro hs (And.intro hr (And.intro ha hN)))
    clear hs hr ha hN
    repeat (any_goals (first
      | assumption
      | ((with_reducible show wpAny _ _ ((int_private% "intFromText") _ _ _) _ _ _); refine wp_textB hk.out.2.2.2 hk.out.1 hk.out.2.1 hk.out.2.2.1 ?_)
      | wp_step))
    all_goals first | exact ⟨_,rfl,h⟩ | skip
open PySem.NumText in
theorem Zao {prog : Program} {w : World} {A : Around} {E : Value → Shared → Prop} {s : Shared} {Q : Value → Shared → Prop} {x : PySem.Str} {t : Tok} {n : Int} (hd : s.heap.NoDigits) (hA : x.cps.all (· < 128) = true) (hn : PySem.intText? x = some n) (hl : x.length ≤ sizeLine)
    (h : Q (.int n s.toks) { s with toks := s.toks + 1 }) : wpAny (model prog w) A (call (.type "int") [.str x t]) Q E s := by
  by_cases hs : (numSeenOf x).length ≤ 640
  · by_cases hl2 : x.length ≤ 640
    · exact PySem.W.KIN.call_text hn hl2 h
    · exfalso
      have e1 : numTextOf x = x.cps.toList := if_pos hA
      by_cases k : ((numSeenOf x).length == (numTextOf x).length) = true
      · have k' := beq_iff_eq.mp k
        have e2 : (numTextOf x).length = x.length := by rw [e1]; exact Array.length_toList
        rw [e2] at k'
        omega
      · unfold intText? at hn
        rw [if_neg k] at hn
        cases hn
  · rcases read4300 x hl with ⟨m,h1,h2,h3⟩ | ⟨h1,_⟩
    · rw [hn] at h1
      cases h1
      exact call_int_1 (Z8l hs h3 h2) ⟨hd,typeIs_int _ _ _,h⟩
    · rw [hn] at h1
      cases h1
section
variable {X : Cx}
theorem noDig {pins : List (Addr × Obj)} {σ : L2.St} {H : Hp} {s : Shared} (I : Inv X pins σ H s) (h : NoDig X.K) : s.heap.NoDigits := by
  obtain ⟨mc,a,_⟩ := I.nolimit
  exact ⟨mc,a,Zg1 I.kIn a h⟩
abbrev rIntStrB : List V → Hp → VK → Prop := fun xs H Q => ∃ (l : List Nat) (n : Int),xs = [.str (S l)] ∧ l.all (· < 128) = true ∧ PySem.intText? (S l) = some n ∧ l.length ≤ 100000 ∧ Q (.int n) H
theorem Z6r (hD : NoDig X.K) : CallR X (.type "int") rIntStrB := by
  intro pins s σ H xs us Q I rs h
  obtain ⟨l,n,rfl,hA,hn,hl,h⟩ := h
  cases rs with
  | cons r1 rs =>
    cases rs
    obtain ⟨t,rfl⟩ := r1
    exact Zao (noDig I hD) (by simpa [S] using hA) hn (szS hl) ⟨.int n,H,I.tok _,⟨_,rfl⟩,h⟩
end
end Ap
set_option maxHeartbeats 4000000
namespace Fx
open PySem PySem.Spec PyProof.Rows L2 SX Ap
variable [Tb]
def bools : List T → Option (List Bool)
  | [] => some []
  | .bl b :: ts => (bools ts).map (b :: ·)
  | _ :: _ => none
def gAll : List T → Sto → Option (T × Sto)
  | [t],Z => (asList t Z).bind fun ts => (bools ts).map fun bs => (.bl (bs.all id),Z)
  | _,_ => none
def gAny : List T → Sto → Option (T × Sto)
  | [t],Z => (asList t Z).bind fun ts => (bools ts).map fun bs => (.bl (bs.any id),Z)
  | _,_ => none
theorem Z7k {K : PySem.W.Frag} {ι : List Addr} {H : Hp} : ∀ {vs : List V} {ts : List T} {bs : List Bool},Reps K ι H vs ts → bools ts = some bs → vs = bs.map V.bl
  | _,[],bs,r,h => by
    cases r
    have : bs = [] := (Option.some.inj h).symm
    subst this; rfl
  | _,t :: ts,bs,r,h => by
    cases r with
    | cons r1 rs =>
      cases t with
      | bl b =>
        simp only [bools] at h
        cases e : bools ts with
        | none => rw [e] at h; cases h
        | some cs =>
          rw [e] at h
          have : bs = b :: cs := (Option.some.inj h).symm
          subst this
          cases r1
          rw [Z7k rs e]; rfl
      | _ => simp [bools] at h
theorem Zdv {X : Cx} {K : PySem.W.Frag} (hK : X.K = K) (hc : X.calm = true) : CallR X (.builtin "all") (rFC K gAll) := by
  subst hK
  refine W6 (cr_all hc) fun xs H Q h => ?_
  obtain ⟨ι,Z,ts,s,r,p⟩ := h
  match ts,r,p with
  | [],_,p => exact p.elim
  | _ :: _ :: _,_,p => simp only [gAll] at p; exact p.elim
  | [t],r,p =>
    obtain ⟨v,rfl,rr⟩ := r.one
    simp only [gAll] at p
    cases e : asList t Z with
    | none => rw [e] at p; exact p.elim
    | some us =>
      rw [e] at p
      obtain ⟨a,vs,rfl,hq,rs⟩ := Vo s rr e
      cases eb : bools us with
      | none => simp only [Option.bind_some,eb] at p; exact p.elim
      | some bs =>
        simp only [Option.bind_some,eb,Option.map_some] at p
        have := Z7k rs eb
        subst this
        exact ⟨a,bs,rfl,hq,Zv p s (.bl _)⟩
def gStr : List T → Sto → Option (T × Sto)
  | [.int i],Z => if i.natAbs < 10 ^ 4300 then some (.str (dec i),Z) else none
  | _,_ => none
def gIntT : List T → Sto → Option (T × Sto)
  | [.int i],Z => some (.int i,Z)
  | [.bl b],Z => some (.int (if b then 1 else 0),Z)
  | [.str l],Z => if l.all (· < 128) = true ∧ l.length ≤ 100000 then (PySem.intText? (S l)).map fun n => (.int n,Z) else none
  | _,_ => none
theorem Z4o {X : Cx} {K : PySem.W.Frag} (hD : NoDig X.K) : CallR X (.type "int") (rFC K gIntT) := W6 (Z3g call_int1 (Z6r hD)) fun xs H Q h => by
  obtain ⟨ι,Z,ts,s,r,p⟩ := h
  unfold gIntT at p
  split at p
  · obtain ⟨v,rfl,rr⟩ := r.one
    cases rr
    exact .inl (.inl ⟨_,rfl,Zv p s (.int _)⟩)
  · obtain ⟨v,rfl,rr⟩ := r.one
    cases rr
    exact .inl (.inr ⟨_,rfl,Zv p s (.int _)⟩)
  · obtain ⟨v,rfl,rr⟩ := r.one
    cases rr
    split at p
    · rename_i hz
      cases e : PySem.intText? (S _) with
      | none => rw [e] at p; exact p.elim
      | some n =>
        rw [e] at p
        exact .inr ⟨_,n,rfl,hz.1,e,hz.2,Zv p s (.int _)⟩
    · exact p.elim
  · exact p.elim
end Fx
set_option maxHeartbeats 4000000
namespace Fx
open PySem PySem.Spec PyProof.Rows L2 SX Ap
variable [Tb]
abbrev FKJ (X : Cx) (K : PySem.W.Frag) (W : Wc) (kws : List Keyword) (f : FA) : Prop := PK X kws (tFA K W f)
section
variable {X : Cx} {K : PySem.W.Frag} {W : Wc} {a : Expr} {fa : FE} {kws : List Keyword} {nm : Option PySem.Str} {kpos : Pos}
theorem Zez {t t' : TA} (h : PK X kws t) (i : ∀ σ H Q, t' σ H Q → t σ H Q) : PK X kws t' := ⟨fun p pins s σ H Q I q => h.run p pins s σ H Q I (i _ _ _ q)⟩
theorem Zf0 : FKJ X K W [] aNil := Zez pk_nil fun σ H Q h => by
  obtain ⟨ι,ρ,Z,is,p⟩ := h
  exact p ι H [] Gr.refl is.sim .nil
theorem Z6s {fr : FA} (ha : FJ X K W a fa) (hr : FKJ X K W kws fr) : FKJ X K W (⟨nm,a,kpos⟩ :: kws) (aCons fa fr) := Zez (pk_cons ha hr) fun σ H Q h => by
  obtain ⟨ι,ρ,Z,is,p⟩ := h
  refine ⟨ι,ρ,Z,is,(Zi p).imp fun x H1 q => ?_⟩
  obtain ⟨ι1,Z1,tx,g1,s1,r1,p1⟩ := q
  refine ⟨ι1,ρ,Z1,is.gr g1 s1,(Zi p1).imp fun y H2 q2 => ?_⟩
  obtain ⟨ι2,Z2,ty,g2,s2,r2,p2⟩ := q2
  exact p2 ι2 H2 _ Gr.refl s2 (.cons (r1.gr g2) r2)
def kLen (n : Nat) (f : FA) : Prop := ∀ ρ Z xs Z1,f ρ Z = .ok xs Z1 → xs.length = n
theorem Z9n : kLen 0 aNil := fun ρ Z ts Z1 h => Zb ρ Z ts Z1 h
theorem Z33 {n : Nat} {f : FA} (h : kLen n f) : kLen (n + 1) (aCons fa f) := fun ρ Z xs Z1 e => by
  have o : ofLen (List.replicate n (Expr.Name "x" ⟨0,0,0,0⟩)) f := fun ρ Z xs Z1 e => by rw [List.length_replicate]; exact h ρ Z xs Z1 e
  have := Z6 (a := Expr.Name "x" ⟨0,0,0,0⟩) (fa := fa) o ρ Z xs Z1 e
  rw [this,List.length_cons,List.length_replicate]
end
def eCallK (F : FF) (g : List T → List T) (fa : FA) : FE := fun ρ Z => (fa ρ Z).bind fun ts Z1 => F (g ts) Z1
section
variable {X : Cx} {K : PySem.W.Frag} {W : Wc} {x : PySem.Str} {p pos kpos : Pos} {e : Expr} {kws : List Keyword} {nm : Option PySem.Str} {fe : FE} {fa : FA} {k n : Nat} {f : Addr} {fd : FuncData} {ps ks : List PySem.Str} {F : FF} {g : List Value → List Value → List Value} {gV : List V → List V → List V} {gT : List T → List T}
theorem Zhs {pins : List (Addr × Obj)} {σ : L2.St} {H : Hp} {s : Shared} {Q : VK} {us ws : List Value} {vs zs : List V} {sp : Sp} (G : FnG X.prog X.w X.K X.mg X.base k f fd ps sp) (hr : Room k X.A) (hG : X.A.guards = some []) (hb : KBinds X.K fd ps ks g gV) (tk : Takes X W.w)
    (I : Inv X pins σ H s) (r : Vals vs us) (rz : Vals zs ws) (h : sp (gV vs zs) H Q (WE W.w σ)) : wpAny (model X.prog X.w) X.A (call (.ref f) us (ks.zip ws)) (EP X pins σ Q) X.xe s := by
  have r2 := hb.rel r rz
  have hl : (g us ws).length = ps.length := by rw [← r2.length]; exact G.len _ _ _ _ h
  refine wpAny_call (codeAny_mono (G.run X.A X.stack s H ⟨us, ks.zip ws⟩ (g us ws) (gV vs zs) Q (WE W.w σ) hr hG I.env0 (hb.to s us ws I.kIn hl) r2 h) fun r s' hq => ?_)
  cases r with
  | error e => exact passAt tk σ pins H s e s' I hq
  | ok fl =>
    cases fl with
    | ret u => exact I.after hq
    | next => exact False.elim hq
    | brk => exact False.elim hq
    | cont => exact False.elim hq
theorem Z9o (hK : X.K = K) (G : FnG X.prog X.w X.K X.mg X.base k f fd ps (spF X.K n F)) (hr : Room k X.A) (hG : X.A.guards = some []) (hg : Gl X x) (hm : X.mg x = some (.ref f)) (hk : PySem.W.keepIn X.K (.ref f) = true) (hb : KBinds X.K fd ps ks g gV) (tk : Takes X W.w)
    (hgT : ∀ ι H zs ts,Reps K ι H zs ts → ts.length = kws.length → Reps K ι H (gV [] zs) (gT ts) ∧ (gT ts).length = n)
    (hkw : FKJ X K W kws fa) (hn : ∀ ρ Z ts Z1,fa ρ Z = .ok ts Z1 → ts.length = kws.length) (hall : (backToKw pos (keywordEach kws X.env)).all (·.1.isSome) = true := by rfl) (hks : (backToKw pos (keywordEach kws X.env)).filterMap (·.1) = ks := by rfl)
    (hdb : (x == ("__debug__" : PySem.Str)) = false := by decide)
    (hpl : ((backTo pos (starEach [] X.env)).any (·.1) || (backToKw pos (keywordEach kws X.env)).any (·.1.isNone)) = false := by rfl) :
    FJ X K W (.Call (.Name x p) [] kws pos) (eCallK F gT fa) := by
  subst hK
  refine ⟨fun pins s σ H Q I h => ?_⟩
  refine wpAny_Call_Name_kw (ld_glob I hg hm ?_ hdb)
  obtain ⟨ι,ρ,Z,is,p⟩ := h
  have t : tFA X.K W fa σ H (fun zs H1 => spF X.K n F (gV [] zs) H1 Q (WE W.w σ)) := by
    refine ⟨ι,ρ,Z,is,?_⟩
    unfold eCallK at p
    cases e : fa ρ Z with
    | ok ts Z1 =>
      rw [e,Yo] at p
      refine fun ι1 H1 vs g1 s1 r1 => ?_
      obtain ⟨r2,hl⟩ := hgT ι1 H1 vs ts r1 (hn _ _ _ _ e)
      refine ⟨?_,ι1,Z1,_,s1,r2,(p.shift g1).wx fun _ _ _ h => h⟩
      rw [r2.length,hl]
    | exc y Z1 => rw [e] at p; exact p
    | stuck => rw [e] at p; exact p
  refine PySem.W.callWith_KW0 (h₀ := X.base) I.ok.mod.kin hk hall (thn (hkw.run pos pins s σ H _ I t) fun ws s2 ⟨zs,H2,I2,rz,q2⟩ => ⟨I2.kIn,?_⟩) hpl
  rw [hks]
  exact Zhs G hr hG hb tk I2 .nil rz q2
end
end Fx
set_option maxHeartbeats 4000000
namespace Fx
open PySem PySem.Spec PyProof.Rows L2 SX
variable [Tb]
end Fx
set_option maxHeartbeats 4000000
namespace Fx
open PySem PySem.Spec PyProof.Rows L2 SX Ap
variable [Tb]
theorem Z3w {a b : String} (h : PySem.Str.ofString a = PySem.Str.ofString b) : a = b := by
  have e : a.toList.map Char.toNat = b.toList.map Char.toNat := by rw [← signs_ofString,← signs_ofString,h]
  have key : ∀ (l m : List Char),l.map Char.toNat = m.map Char.toNat → l = m := by
    intro l
    induction l with
    | nil => intro m h; cases m with
      | nil => rfl
      | cons c m => cases h
    | cons c l ih => intro m h; cases m with
      | nil => cases h
      | cons d m =>
        rw [List.map_cons,List.map_cons] at h
        have h1 := (List.cons.inj h).1
        have h2 := ih m (List.cons.inj h).2
        have : c = d := by
          apply Char.ext
          apply UInt32.toNat_inj.mp
          exact h1
        rw [this,h2]
  exact String.toList_inj.mp (key _ _ e)
theorem Zg2 {a b : String} : (PySem.Str.ofString a == PySem.Str.ofString b) = (a == b) := by
  by_cases h : a = b
  · subst h; rw [beq_self_eq_true,beq_self_eq_true]
  · rw [beq_eq_false_iff_ne.mpr h,beq_eq_false_iff_ne.mpr fun e => h (Z3w e)]
theorem RepF.lookup {K : PySem.W.Frag} {ι : List Addr} {H : Hp} {f : String} : ∀ {vs : List (PySem.Str × V)} {fs : List (String × T)},RepF K ι H vs fs →
    (∀ t,fs.lookup f = some t → ∃ v,vs.lookup (PySem.Str.ofString f) = some v ∧ Rep K ι H v t) ∧ (fs.lookup f = none → vs.lookup (PySem.Str.ofString f) = none)
  | _,_,.nil => ⟨fun t e => (nomatch e),fun _ => rfl⟩
  | _,_,.cons r q => by
    rename_i k v vs t ts
    obtain ⟨h1,h2⟩ := RepF.lookup (f := f) q
    rw [List.lookup_cons,List.lookup_cons,Zg2]
    cases h : f == k with
    | true => exact ⟨fun u e => by cases e; exact ⟨v,rfl,r⟩,fun e => nomatch e⟩
    | false => exact ⟨h1,h2⟩
theorem RepF.length {K : PySem.W.Frag} {ι : List Addr} {H : Hp} : ∀ {vs : List (PySem.Str × V)} {fs : List (String × T)},RepF K ι H vs fs → vs.length = fs.length
  | _,_,.nil => rfl
  | _,_,.cons _ r => congrArg (· + 1) r.length
def putS (f : String) (t : T) : List (String × T) → List (String × T)
  | [] => [(f,t)]
  | (g,x) :: r => if g = f then (g,t) :: r else (g,x) :: putS f t r
theorem RepF.put {K : PySem.W.Frag} {ι : List Addr} {H : Hp} {f : String} {v : V} {t : T} (rv : Rep K ι H v t) : ∀ {vs : List (PySem.Str × V)} {fs : List (String × T)},RepF K ι H vs fs → RepF K ι H (putF (PySem.Str.ofString f) v vs) (putS f t fs)
  | _,_,.nil => .cons rv .nil
  | _,_,.cons r q => by
    rename_i k x vs u ts
    unfold putF putS
    by_cases h : k = f
    · rw [if_pos h,if_pos (by rw [h])]; exact .cons rv q
    · rw [if_neg h,if_neg fun e => h (Z3w e)]; exact .cons r (RepF.put rv q)
def getI (Z : Sto) (i : Nat) : Option (String × List (String × T)) := match Z[i]? with
  | some (.ins C fs) => some (C,fs)
  | _ => none
theorem Z29 {Z : Sto} {i : Nat} {C : String} {fs : List (String × T)} (h : getI Z i = some (C,fs)) : Z[i]? = some (.ins C fs) := by
  unfold getI at h
  split at h
  · rename_i e; cases h; exact e
  · cases h
structure CF (K : PySem.W.Frag) (C : String) (Ca : Addr) : Prop where
  ns : PySem.W.nsIn K mainGlobals (PySem.Str.ofString C) = some (some (.ref Ca))
  cls : Cls K Ca
def FldOk (K : PySem.W.Frag) (cs : List String) (f : String) : Prop := ∀ C ∈ cs,∃ Ca,CF K C Ca ∧ NoAttr K Ca (PySem.Str.ofString f)
theorem FldOk.nil {K : PySem.W.Frag} {f : String} : FldOk K [] f := fun _ h => nomatch h
theorem FldOk.cons {K : PySem.W.Frag} {C : String} {Ca : Addr} {cs : List String} {f : String} (c : CF K C Ca) (n : NoAttr K Ca (PySem.Str.ofString f)) (h : FldOk K cs f) : FldOk K (C :: cs) f := fun D hD => by
  rcases List.mem_cons.mp hD with rfl | k
  · exact ⟨Ca,c,n⟩
  · exact h D k
theorem Zbs {K : PySem.W.Frag} {ι : List Addr} {H : Hp} {Z : Sto} {v : V} {i : Nat} {C : String} {fs : List (String × T)} (s : Sim K ι Z H) (r : Rep K ι H v (.loc i)) (e : getI Z i = some (C,fs)) :
    ∃ a Ca dx vs,v = .ref a ∧ ι[i]? = some a ∧ PySem.W.nsIn K mainGlobals (PySem.Str.ofString C) = some (some (.ref Ca)) ∧ H a = some (.ins Ca dx vs) ∧ RepF K ι H vs fs := by
  cases r with
  | loc h =>
    obtain ⟨a,h1,Ca,dx,vs,hn,h2,h3⟩ := s.at (Z29 e)
    rw [h] at h1; cases h1
    exact ⟨_,Ca,dx,vs,rfl,h,hn,h2,h3⟩
def fldT (cs : List String) (f : String) (x : T) (Z : Sto) : Option T := match x with
  | .loc i => match getI Z i with
    | some (C,fs) => if C ∈ cs then fs.lookup f else none
    | none => none
  | _ => none
def eFld (cs : List String) (f : String) (fe : FE) : FE := fun ρ Z => (fe ρ Z).bind fun x Z1 => match fldT cs f x Z1 with
  | some t => .ok t Z1
  | none => .stuck
def setF (cs : List String) (f : String) (x y : T) (Z : Sto) : Option Sto := match x with
  | .loc i => match getI Z i with
    | some (C,fs) => if C ∈ cs ∧ fs.length < 1000 then some (Z.set i (.ins C (putS f y fs))) else none
    | none => none
  | _ => none
def sFldS (cs : List String) (f : String) (fo fv : FE) : FS := fun ρ Z => bS ρ (fv ρ Z) fun y Z1 => bS ρ (fo ρ Z1) fun x Z2 => match setF cs f x y Z2 with
  | some Z3 => .nx ρ Z3
  | none => .stuck
def gFld (cs : List String) (f : String) (fo : FE) : FG := fun y ρ Z => (fo ρ Z).bind fun x Z1 => match setF cs f x y Z1 with
  | some Z2 => .ok ρ Z2
  | none => .stuck
def insC (x : T) (Z : Sto) : Option String := match x with
  | .loc i => (getI Z i).map (·.1)
  | _ => none
section
variable {X : Cx} {K : PySem.W.Frag} {cs : List String} {f : String} {o e value : Expr} {pos pos' tpos : Pos} {fo fv fe : FE}
theorem Zht {ι : List Addr} {H : Hp} {Z : Sto} {x : V} {tx t : T} (hc : FldOk K cs f) (s : Sim K ι Z H) (r : Rep K ι H x tx) (h : fldT cs f tx Z = some t) :
    ∃ a Ca dx vs v,x = .ref a ∧ H a = some (.ins Ca dx vs) ∧ Cls K Ca ∧ NoAttr K Ca (PySem.Str.ofString f) ∧ vs.lookup (PySem.Str.ofString f) = some v ∧ Rep K ι H v t ∧ ∃ C,insC tx Z = some C ∧ PySem.W.nsIn K mainGlobals (PySem.Str.ofString C) = some (some (.ref Ca)) := by
  unfold fldT at h
  split at h
  · split at h
    · rename_i C fs eg
      split at h
      · rename_i hC
        obtain ⟨a,Ca,dx,vs,rfl,hi,hn,ha,hf⟩ := Zbs s r eg
        obtain ⟨Cb,cf,na⟩ := hc C hC
        have e2 := hn.symm.trans cf.ns
        cases e2
        obtain ⟨v,hv,rv⟩ := hf.lookup.1 t h
        exact ⟨a,_,dx,vs,v,rfl,ha,cf.cls,na,hv,rv,C,by simp only [insC,eg,Option.map_some],hn⟩
      · cases h
    · cases h
  · cases h
theorem Zg3 {ι : List Addr} {H : Hp} {Z Z' : Sto} {x y : V} {tx ty : T} (hc : FldOk K cs f) (s : Sim K ι Z H) (r : Rep K ι H x tx) (ry : Rep K ι H y ty) (h : setF cs f tx ty Z = some Z') :
    ∃ a Ca dx vs,x = .ref a ∧ H a = some (.ins Ca dx vs) ∧ Cls K Ca ∧ NoAttr K Ca (PySem.Str.ofString f) ∧ vs.length < 1000 ∧
      Gr ι ι H (upd H a (.ins Ca dx (putF (PySem.Str.ofString f) y vs))) ∧ Sim K ι Z' (upd H a (.ins Ca dx (putF (PySem.Str.ofString f) y vs))) ∧ ∃ C, insC tx Z = some C ∧ PySem.W.nsIn K mainGlobals (PySem.Str.ofString C) = some (some (.ref Ca)) := by
  unfold setF at h
  split at h
  · split at h
    · rename_i C fs eg
      split at h
      · rename_i hC
        cases h
        obtain ⟨a,Ca,dx,vs,rfl,hi,hn,ha,hf⟩ := Zbs s r eg
        obtain ⟨Cb,cf,na⟩ := hc C hC.1
        have e2 := hn.symm.trans cf.ns
        cases e2
        have g := Gr.mut (ι := ι) (o := .ins Ca dx (putF (PySem.Str.ofString f) y vs)) ha trivial (List.mem_of_getElem? hi)
        exact ⟨a,_,dx,vs,rfl,ha,cf.cls,na,by rw [hf.length]; exact hC.2,g,s.set hi ⟨Ca,dx,_,hn,upd_same,(hf.gr g).put (ry.gr g)⟩,C,by simp only [insC,eg,Option.map_some],hn⟩
      · cases h
    · cases h
  · cases h
theorem Z4p {W : Wc} (hK : X.K = K) (hc : FldOk K cs f) (he : FJ X K W e fe) (hb : attributeBase e (PySem.Str.ofString f) X.env (eval e X.env) = eval e X.env := by rfl) : FJ X K W (.Attribute e (PySem.Str.ofString f) pos) (eFld cs f fe) := by
  subst hK
  refine Xj (pe_fld he hb) fun σ H Q h => ?_
  obtain ⟨ι,ρ,Z,is,p⟩ := h
  refine ⟨ι,ρ,Z,is,(Zi p).imp fun x H1 q => ?_⟩
  obtain ⟨ι1,Z1,tx,g1,s1,r1,p1⟩ := q
  split at p1
  · rename_i t et
    obtain ⟨a,Ca,dx,vs,v,rfl,ha,hcl,na,hv,rv,_⟩ := Zht hc s1 r1 et
    exact ⟨a,Ca,dx,vs,v,rfl,ha,hcl,na,hv,p1 ι1 H1 _ Gr.refl s1 rv⟩
  · exact p1.elim
variable {W : WX}
end
def eMake (C : String) (F : FF) (ds : List T) (fa : FA) : FE := fun ρ Z => (fa ρ Z).bind fun ts Z1 => (F (.loc Z1.length :: (ts ++ ds)) (Z1 ++ [.ins C []])).bind fun r Z2 => match r with
  | .non => .ok (.loc Z1.length) Z2
  | _ => .stuck
section
variable {X : Cx} {K : PySem.W.Frag} {W : Wc} {x : PySem.Str} {m C : String} {p pos apos : Pos} {o e : Expr} {es : List Expr} {fo : FE} {fa : FA} {k n : Nat} {Ca f : Addr} {fd : FuncData} {ps : List PySem.Str} {F : FF} {dvs : List V} {ds : List Value} {dts : List T}
theorem Zhu {pins : List (Addr × Obj)} {σ : L2.St} {H : Hp} {s : Shared} {Q : VK} {us : List Value} {vs : List V} {sp : Sp} (M : Mk X.K Ca f) (G : FnG X.prog X.w X.K X.mg X.base k f fd ps sp) (hr : Room (k + 1) X.A) (hG : X.A.guards = some []) (hb : Binds X.K fd ps ds) (hd : Vals dvs ds) (tk : Takes X W.w)
    (I : Inv X pins σ H s) (r : Vals vs us)
    (h : ∀ a dx,H a = none → H dx = none → dx ≠ a → sp (.ref a :: (vs ++ dvs)) (upd (upd H dx (.own a)) a (.ins Ca dx [])) (fun v H2 => v = .non ∧ Q (.ref a) H2) (WE W.w σ)) :
    wpAny (model X.prog X.w) X.A (call (.ref Ca) us) (EP X pins σ Q) X.xe s := by
  have n1 := I.hok.fresh (Nat.le_succ s.heap.objs.size)
  have n0 := I.hok.fresh (Nat.le_refl s.heap.objs.size)
  have q0 := h _ _ n1 n0 (Nat.ne_of_lt (Nat.lt_succ_self _))
  have J := Inv.made (C := Ca) I
  have rr : Vals (V.ref (s.heap.objs.size + 1) :: (vs ++ dvs)) (Value.ref (s.heap.objs.size + 1) :: (us ++ ds)) := .cons rfl (r.append hd)
  have hl : (Value.ref (s.heap.objs.size + 1) :: us ++ ds).length = ps.length := (rr.length.symm.trans (G.len _ _ _ _ q0))
  have body := G.run (X.A.under (.builtin "type.__call__" ⟨.ref Ca :: us, []⟩)) X.stack _ _ ⟨Value.ref (s.heap.objs.size + 1) :: us, []⟩ _ _ _ _
    (hr.make Ca us []) hG (J.env0.make Ca us []) (hb _ (Value.ref (s.heap.objs.size + 1) :: us) J.kIn hl) rr q0
  refine wpAny_call (make_map (f := f) I.kIn M.makes M.init (beq_iff_eq.mp M.fn) (codeAny_mono body fun z s' hz => ?_))
  cases z with
  | error e => exact passAt tk σ pins _ _ e s' J hz
  | ok fl =>
    cases fl with
    | ret u =>
      obtain ⟨v, H', I3, rv, ev, q3⟩ := J.after hz
      subst ev
      exact ⟨rv, V.ref (s.heap.objs.size + 1), H', I3, rfl, q3⟩
    | next => exact hz.elim
    | brk => exact hz.elim
    | cont => exact hz.elim
theorem Zdw {ι : List Addr} {H : Hp} {Z : Sto} {a dx : Addr} (cf : CF K C Ca) (s : Sim K ι Z H) (na : H a = none) (nd : H dx = none) (ne : dx ≠ a) :
    Gr ι (ι ++ [a]) H (upd (upd H dx (.own a)) a (.ins Ca dx [])) ∧ Sim K (ι ++ [a]) (Z ++ [.ins C []]) (upd (upd H dx (.own a)) a (.ins Ca dx [])) := by
  have g1 : Gr ι ι H (upd H dx (.own a)) := Gr.new0 nd
  have s1 := s.same (Qe (o := .own a) nd)
  have na2 : upd H dx (.own a) a = none := by rw [upd_ne (Ne.symm ne)]; exact na
  exact ⟨g1.trans (Gr.new na2),s1.new na2 ⟨Ca,dx,[],cf.ns,upd_same,.nil⟩⟩
theorem made_post {ι : List Addr} {H : Hp} {Z : Sto} {Q : VK} {σ : L2.St} {a : Addr} {ts : List T} (s : Sim K ι Z H) {H2 : Hp} (g2 : Gr ι (ι ++ [a]) H H2)
    (p : Post (Rep K) K W.w σ ι H Q ((F ts (Z ++ [.ins C []])).bind fun r Z2 => match r with | .non => .ok (.loc Z.length) Z2 | _ => .stuck)) : Post (Rep K) K W.w σ (ι ++ [a]) H2 (fun v H3 => v = .non ∧ Q (.ref a) H3) (F ts (Z ++ [.ins C []])) := by
  cases e : F ts (Z ++ [.ins C []]) with
  | ok t Z2 =>
    rw [e,Yo] at p
    intro ι3 H3 v g3 s3 r3
    cases t with
    | non =>
      cases r3
      have hi : (ι ++ [a])[Z.length]? = some a := by rw [← s.len]; simp
      exact ⟨rfl,p ι3 H3 (.ref a) (g2.trans g3) s3 (.loc (g3.pre _ _ hi))⟩
    | _ => exact p.elim
  | exc x Z2 => rw [e] at p; exact fun ι3 H3 cls d g3 s3 rx => p ι3 H3 cls d (g2.trans g3) s3 rx
  | stuck => rw [e] at p; exact p
theorem Z61 (hK : X.K = K) (cf : CF X.K C Ca) (M : Mk X.K Ca f) (G : FnG X.prog X.w X.K X.mg X.base k f fd ps (spF X.K n F)) (hr : Room (k + 1) X.A) (hG : X.A.guards = some []) (hg : Gl X x) (hm : X.mg x = some (.ref Ca)) (hb : Binds X.K fd ps ds) (hd : Vals dvs ds) (hdf : Dfl K dvs dts) (tk : Takes X W.w)
    (ha : FAJ X K W (e :: es) fa) (hn : ofLen (e :: es) fa) (hln : (e :: es).length + dts.length + 1 = n := by rfl) (hdb : (x == ("__debug__" : PySem.Str)) = false := by decide) (he : starEach (e :: es) X.env = (false, eval e X.env) :: starEach es X.env := by rfl) (hpl : (backTo pos (starEach es X.env)).any (·.1) = false := by rfl) :
    FJ X K W (.Call (.Name x p) (e :: es) [] pos) (eMake C F dts fa) := by
  subst hK
  refine ⟨fun pins s σ H Q I h => ?_⟩
  refine wpAny_Call_Name_kw (ld_glob I hg hm ?_ hdb)
  obtain ⟨ι,ρ,Z,is,p⟩ := h
  have t : tFA X.K W fa σ H (fun vs H1 => ∀ a dx,H1 a = none → H1 dx = none → dx ≠ a → spF X.K n F (.ref a :: (vs ++ dvs)) (upd (upd H1 dx (.own a)) a (.ins Ca dx [])) (fun v H2 => v = .non ∧ Q (.ref a) H2) (WE W.w σ)) := by
    refine ⟨ι,ρ,Z,is,?_⟩
    unfold eMake at p
    cases e : fa ρ Z with
    | ok ts Z1 =>
      rw [e,Yo] at p
      refine fun ι1 H1 vs g1 s1 r1 a dx na nd ne => ?_
      obtain ⟨g2,s2⟩ := Zdw cf s1 na nd ne
      have hi : (ι1 ++ [a])[Z1.length]? = some a := by rw [← s1.len]; simp
      have r2 : Reps X.K (ι1 ++ [a]) (upd (upd H1 dx (.own a)) a (.ins Ca dx [])) (V.ref a :: (vs ++ dvs)) (.loc Z1.length :: (ts ++ dts)) := .cons (.loc hi) ((r1.gr g2).append (hdf _ _))
      refine ⟨?_,_,_,_,s2,r2,(made_post s1 g2 (p.shift g1)).wx fun _ _ _ h => h⟩
      rw [r2.length,List.length_cons,List.length_append,hn _ _ _ _ e]
      exact hln
    | exc y Z1 => rw [e] at p; exact p
    | stuck => rw [e] at p; exact p
  refine PySem.W.callWith_K (h₀ := X.base) I.ok.mod.kin M.kp (thn (ha.run pos pins s σ H _ I t) fun us s1 ⟨vs,H1,I1,r,q⟩ => ⟨I1.kIn,?_⟩) he hpl
  exact Zhu M G hr hG hb hd tk I1 r q
end
end Fx
set_option maxHeartbeats 4000000
namespace Fx
open PySem PySem.Spec PyProof.Rows L2 SX Ap
variable [Tb]
section
variable {X : Cx} {K : PySem.W.Frag} {W : WX} {cs : List String} {f : String} {o : Expr} {pos : Pos} {fo : FE}
def gFldV (K : PySem.W.Frag) (ta : TE) (f : PySem.Str) : TG := fun y σ H Q => ta σ H fun x H2 => ∃ a C dx fs,x = .ref a ∧ H2 a = some (.ins C dx fs) ∧ Cls K C ∧ NoAttr K C f ∧ fs.length < 1000 ∧ Q σ (upd H2 a (.ins C dx (putF f y fs)))
theorem Zhv {f : PySem.Str} {ta : TE} (ha : PE X o ta) (he : ∀ v,assign (.Attribute o f pos) X.env v = (do
    let ov ← holding [v] (eval o X.env)
    standAt pos.atName
    holding [v,ov] (setAttr ov f v)
    release [v,ov] []) := by intro _; rfl) : PG X (.Attribute o f pos) (gFldV X.K ta f) := by
  refine ⟨fun pins s σ H v u Q I r h => ?_⟩
  rw [he]
  refine wpAny_bind (wpAny_holding (thn (ha.run pins s σ H _ I h) fun ov s2 ⟨x,H2,I2,rx,a,C,dx,fs,ex,ea,c,n,l,q2⟩ => ?_))
  subst ex
  obtain rfl : ov = Value.ref a := rx
  refine wpAny_bind (wpAny_standAt (wpAny_bind (wpAny_holding (setattr_ok I2 ea c n l r fun s3 I3 => ?_))))
  exact wpAny_release ⟨σ,_,I3,q2⟩
theorem Zf1 (hK : X.K = K) (hc : FldOk K cs f) (ho : FJ X K (Wt W) o fo) (he : ∀ v,assign (.Attribute o (PySem.Str.ofString f) pos) X.env v = (do
    let ov ← holding [v] (eval o X.env)
    standAt pos.atName
    holding [v,ov] (setAttr ov (PySem.Str.ofString f) v)
    release [v,ov] []) := by intro _; rfl) : PG X (.Attribute o (PySem.Str.ofString f) pos) (tG K W (gFld cs f fo)) := by
  subst hK
  refine Z9i (Zhv ho he) fun v σ H Q h => ?_
  obtain ⟨ι,ρ,Z,t,is,r,p⟩ := h
  refine ⟨ι,ρ,Z,is.ie,(Zi (rep := Rep X.K) p).imp fun x H1 q => ?_⟩
  obtain ⟨ι1,Z1,tx,g1,s1,r1,p1⟩ := q
  split at p1
  · rename_i Z2 e2
    obtain ⟨a,Ca,dx,vs,ex,ea,c,n,l,g2,s2,_⟩ := Zg3 hc s1 r1 (r.gr g1) e2
    refine ⟨a,Ca,dx,vs,ex,ea,c,n,l,?_⟩
    have i2 := (is.gr g1 s1).gr g2 s2
    exact p1 ι1 _ _ g2 s2 ⟨i2.len,i2.env⟩
  · exact p1.elim
end
end Fx
set_option maxHeartbeats 4000000
namespace Fx
open PySem PySem.Spec PyProof.Rows L2 SX Ap
def bTypes : List String := ["NoneType", "bool", "int", "str", "tuple", "list", "dict"]
structure OC (K : PySem.W.Frag) (C : String) (Ca fe : Addr) : Prop where
  cf : CF K C Ca
  ins : C8.InsC K Ca
  eq : PySem.W.findIn K (.ref Ca) "__eq__" = some (some (.ref fe))
  fn : PySem.W.isFn K (.ref fe) = true
  nf : (bTypes.all fun n => PySem.W.notFirst K Ca (.type n)) = true
  no : (bTypes.all fun n => decide (PySem.W.kitOne K (.type n) (.ref Ca) = some false)) = true
variable [Tb]
def okY (C : String) (t : T) (Z : Sto) : Bool := match tyT t Z with
  | some n => decide (n ∈ bTypes)
  | none => decide (insC t Z = some C)
theorem insC_at {K : PySem.W.Frag} {ι : List Addr} {H : Hp} {Z : Sto} {v : V} {tx : T} {C : String} {Ca : Addr} (cf : CF K C Ca) (s : Sim K ι Z H) (r : Rep K ι H v tx) (e : insC tx Z = some C) :
    ∃ a dx vs i,v = .ref a ∧ tx = .loc i ∧ H a = some (.ins Ca dx vs) := by
  unfold insC at e
  split at e
  · rename_i i
    cases eg : getI Z i with
    | none => rw [eg] at e; cases e
    | some p =>
      obtain ⟨C', fs⟩ := p
      rw [eg] at e
      cases e
      obtain ⟨a,Cb,dx,vs,rfl,hi,hn,ha,hf⟩ := Zbs s r eg
      have e2 := hn.symm.trans cf.ns
      cases e2
      exact ⟨a,dx,vs,i,rfl,rfl,ha⟩
  · cases e
section
variable {X : Cx} {K : PySem.W.Frag} {C : String} {Ca fe : Addr} {k : Nat} {fd : FuncData} {ps : List PySem.Str} {F : FF}
def gIsC2 (C : String) (Ca : Addr) : List T → Sto → Option (T × Sto)
  | [t,.ref c],Z => if c = Ca ∧ okY C t Z = true then some (.bl (decide (insC t Z = some C)),Z) else none
  | _,_ => none
theorem Zdx {t : T} {Z : Sto} {n : String} (h : tyT t Z = some n) : insC t Z = none := by
  unfold insC
  split
  · rename_i i
    unfold tyT at h
    unfold getI
    split
    · rename_i C fs e
      simp only [e] at h
      cases h
    · rfl
  · rfl
theorem Zhw (hK : X.K = K) (oc : OC K C Ca fe) : CallR X (.builtin "isinstance") (rFC K (gIsC2 C Ca)) := by
  subst hK
  refine W6 call_isi fun xs H Q h => ?_
  obtain ⟨ι,Z,ts,s,r,p⟩ := h
  unfold gIsC2 at p
  split at p
  · obtain ⟨v,w,rfl,r1,r2⟩ := r.two
    rename_i t c
    cases r2
    split at p
    · rename_i hc
      obtain ⟨rfl,hy⟩ := hc
      unfold okY at hy
      split at hy
      · rename_i n en
        have hno := of_decide_eq_true (List.all_eq_true.mp oc.no n (of_decide_eq_true hy))
        rw [Zdx en] at p
        exact ⟨v,_,_,_,false,rfl,.own _,Zbm s r1 en,hno,Zv p s (.bl _)⟩
      · have e2 := of_decide_eq_true hy
        obtain ⟨a,dx,vs,i,rfl,rfl,ha⟩ := insC_at oc.cf s r1 e2
        rw [decide_eq_true e2] at p
        exact ⟨_,_,_,_,true,rfl,.own _,.base (.ins ha oc.ins.cl oc.ins.ha oc.ins.hn oc.ins.htk oc.ins.hm),oc.ins.me,Zv p s (.bl _)⟩
    · exact p.elim
  · exact p.elim
def eIsC (C : String) (fe : FE) : FE := fun ρ Z => (fe ρ Z).bind fun x Z1 => if okY C x Z1 = true then .ok (.bl (decide (insC x Z1 = some C))) Z1 else .stuck
theorem Zhx {W : Wc} {x y : PySem.Str} {e : Expr} {fx : FE} {p p2 pos : Pos} (hK : X.K = K) (oc : OC K C Ca fe) (hg : Gl X x) (hm : X.mg x = none) (hv : bootBuiltins x = some (.builtin "isinstance")) (hg2 : Gl X y) (hm2 : X.mg y = some (.ref Ca)) (he1 : FJ X K W e fx)
    (hn : x ≠ "__name__" := by decide) (hdb : (x == ("__debug__" : PySem.Str)) = false := by decide) (hd2 : (y == ("__debug__" : PySem.Str)) = false := by decide)
    (he : starEach [e,.Name y p2] X.env = (false,eval e X.env) :: starEach [.Name y p2] X.env := by rfl) (hpl : (backTo pos (starEach [.Name y p2] X.env)).any (·.1) = false := by rfl) :
    FJ X K W (.Call (.Name x p) [e,.Name y p2] [] pos) (eIsC C fx) := by
  have hy : FJ X K W (.Name y p2) (eC (.ref Ca)) := f_c (C8.pe_gc (v := .ref Ca) hg2 ⟨_,hm2,rfl⟩ hd2) fun _ _ => .ref _
  have := Y9 (p := p) (pos := pos) (Zhw hK oc) hg hm hv (Za he1 (Za hy Zg) he) hn hdb he hpl
  have e2 : eCallB (gIsC2 C Ca) (aCons fx (aCons (eC (.ref Ca)) aNil)) = eIsC C fx := by
    funext ρ Z
    show ((fx ρ Z).bind fun x Z1 => R.ok [x,.ref Ca] Z1).bind (fun xs Z1 => lift (gIsC2 C Ca xs Z1)) = (fx ρ Z).bind fun x Z1 => if okY C x Z1 = true then .ok (.bl (decide (insC x Z1 = some C))) Z1 else .stuck
    cases fx ρ Z with
    | ok t Z' =>
      show lift (if Ca = Ca ∧ okY C t Z' = true then some (T.bl (decide (insC t Z' = some C)), Z') else none) = if okY C t Z' = true then _ else _
      cases okY C t Z' <;> simp [lift]
    | exc x Z' => rfl
    | stuck => rfl
  rwa [e2] at this
end
end Fx
set_option maxHeartbeats 4000000
namespace Fx
open PySem PySem.Spec PyProof.Rows L2 SX Ap
variable [Tb]
end Fx
set_option maxHeartbeats 4000000
namespace Fx
open PySem PySem.Spec PyProof.Rows L2 SX Ap
variable [Tb]
abbrev lamF (qual : PySem.Str) (params : Arguments) (body : Expr) (scope : Scope) (cl : List (PySem.Str × Addr)) (pm cdv ct dV : Value) : FuncData := { PySem.W.kla_fn "<lambda>" qual params body scope cl pm cdv ct with defaults := dV }
abbrev lamO (qual : PySem.Str) (params : Arguments) (body : Expr) (scope : Scope) (cl : List (PySem.Str × Addr)) (pm cdv ct dV : Value) : Obj := { cls := .type "function", data := .func (lamF qual params body scope cl pm cdv ct dV) }
section
variable {M : Model} {A : Around} {E : Value → Shared → Prop} {s : Shared} {qual : PySem.Str} {params : Arguments} {body : Expr} {scope : Scope} {env : PySem.Env} {c P : Addr} {ps : Array Value} {pos : Pos} {n1 : Nat} {mg : PySem.Str → Option Value} {clos : List (PySem.Str × Addr)} {dV : Value}
theorem Zg4 {Q : Value → Shared → Prop} (hcl : closureFor scope env = pure clos) (hg0 : env.globals = mainGlobals) (hcode : env.code = .ref c) (hg : s.heap.Ns mainGlobals mg) (C : PySem.W.CodeHd s.heap c P) (hP : s.heap.get? P = some { cls := .none,data := .fields ps }) (ht : TriplesOk ps.toList)
    (hnf : codeAmong pos ps.toList = none) (hgP : mainGlobals ≠ P) (hb : s.heap.BuiltinsAt mg P)
    (h : ∀ c' ctv h' tk, Heap.ExtBut P s.heap h' → s.heap.objs.size ≤ c' → c' < h'.objs.size → h'.CodeRec (.ref c') qual → h'.get? P = some { cls := .none, data := .fields (ps ++ #[rawInt pos.line, rawInt pos.col, .ref c']) } →
      Q (.ref h'.objs.size) { s with heap := h'.push (lamO qual params body scope clos ((mg "__name__").getD .none) (.ref c') ctv dV), toks := tk }) :
    wpAny M A (makeTail "<lambda>" qual params (.expr body) scope env dV .none none pos n1) Q E s := by
  obtain ⟨bm,ob,b1,b2,_,b4,b5,b6,b7,b8⟩ := hb
  unfold makeTail
  rw [hcl,hg0]
  refine wpAny_bind (wpAny_pure ?_)
  cases clos with
  | nil =>
    simp only [List.isEmpty_nil,if_true]
    refine wpAny_bind (wpAny_pure (wpAny_bind (wpAny_functionCodeX hcode (C.code hP ht) (C.tab hP) hnf fun c' h' tk x1 x2 x3 _ x4 x5 _ => ?_)))
    have g1 := hg.extBut x1 hgP
    exact wpAny_bind (wpAny_builtinsFor g1 b1 b2 (x1 _ _ b4 b5) b6 b7 b8 (wpAny_bind (wpAny_nsGet g1 (wpAny_bind (wpAny_pure (wpAny_newObj_type (h c' .none h' tk x1 x2 x3 x4 x5.2) (by size_fits)))))))
  | cons q r =>
    simp only [List.isEmpty_cons,Bool.false_eq_true,if_false]
    refine wpAny_bind (wpAny_newTextTuple (wpAny_bind (wpAny_functionCodeX hcode ((C.keeps fun b o e => Heap.get?_push_of_some _ e).code (Heap.get?_push_of_some _ hP) ht) ((C.keeps fun b o e => Heap.get?_push_of_some _ e).tab (Heap.get?_push_of_some _ hP)) hnf fun c' h' tk x1 x2 x3 _ x4 x5 _ => ?_)))
    have g1 := (hg.push _).extBut x1 hgP
    have y1 : Heap.ExtBut P s.heap h' := fun b o nb e => x1 b o nb (Heap.get?_push_of_some _ e)
    have y2 : s.heap.objs.size ≤ c' := Nat.le_trans (by rw [Heap.size_push]; omega) x2
    exact wpAny_bind (wpAny_builtinsFor g1 b1 b2 (y1 _ _ b4 b5) b6 b7 b8 (wpAny_bind (wpAny_nsGet g1 (wpAny_bind (wpAny_pure (wpAny_newObj_type (h c' _ h' tk y1 y2 x3 x4 x5.2) (by size_fits)))))))
theorem Zg5 {Q : Value → Shared → Prop} {cv : Value} (hcl : closureFor scope env = pure clos) (hg0 : env.globals = mainGlobals) (hcode : env.code = .ref c) (hg : s.heap.Ns mainGlobals mg) (C : PySem.W.CodeHd s.heap c P) (hP : s.heap.get? P = some { cls := .none,data := .fields ps }) (ht : TriplesOk ps.toList)
    (hf : codeAmong pos ps.toList = some cv) (hb : s.heap.BuiltinsAt mg P)
    (h : ∀ (ctv : Value) (h' : Heap) (tk : Tok), (∀ b o, s.heap.get? b = some o → h'.get? b = some o) → s.heap.objs.size ≤ h'.objs.size →
      Q (.ref h'.objs.size) { s with heap := h'.push (lamO qual params body scope clos ((mg "__name__").getD .none) cv ctv dV), toks := tk }) :
    wpAny M A (makeTail "<lambda>" qual params (.expr body) scope env dV .none none pos n1) Q E s := by
  obtain ⟨bm,ob,b1,b2,_,b4,b5,b6,b7,b8⟩ := hb
  unfold makeTail
  rw [hcl,hg0]
  refine wpAny_bind (wpAny_pure ?_)
  cases clos with
  | nil =>
    simp only [List.isEmpty_nil,if_true]
    refine wpAny_bind (wpAny_pure (wpAny_bind (wpAny_functionCode_hit hcode (C.code hP ht) hf ?_)))
    exact wpAny_bind (wpAny_builtinsFor hg b1 b2 b5 b6 b7 b8 (wpAny_bind (wpAny_nsGet hg (wpAny_bind (wpAny_pure (wpAny_newObj_type (h .none s.heap s.toks (fun _ _ e => e) (Nat.le_refl _)) (by size_fits)))))))
  | cons q r =>
    simp only [List.isEmpty_cons,Bool.false_eq_true,if_false]
    refine wpAny_bind (wpAny_newTextTuple (wpAny_bind (wpAny_functionCode_hit hcode ((C.keeps fun b o e => Heap.get?_push_of_some _ e).code (Heap.get?_push_of_some _ hP) ht) hf ?_)))
    have sz : ∀ oT : Obj,s.heap.objs.size ≤ (s.heap.push oT).objs.size := fun oT => by rw [Heap.size_push]; omega
    exact wpAny_bind (wpAny_builtinsFor (hg.push _) b1 b2 (Heap.get?_push_of_some _ b5) b6 b7 b8 (wpAny_bind (wpAny_nsGet (hg.push _) (wpAny_bind (wpAny_pure (wpAny_newObj_type (h _ _ s.toks (fun b o e => Heap.get?_push_of_some _ e) (sz _)) (by size_fits)))))))
end
section
variable {X : Cx} {pins : List (Addr × Obj)} {σ : L2.St} {H : Hp} {s : Shared}
theorem Z9p {T : List (Addr × PySem.Str)} {c P : Addr} {params : Arguments} {body : Expr} {scope : Scope} {pos : Pos} {n1 : Nat} {dV : Value} {E : Value → Shared → Prop} {Q : Value → Shared → Prop} (I : Inv X pins σ H s) (TB : LamX.TabB X.base X.mg c P) (hcode : X.env.code = .ref c)
    (hm : (P, X.env.qual ++ "<lambda>") ∈ T) (hu : ∀ p ∈ T, p.1 = P → p.2 = X.env.qual ++ "<lambda>") (hT : LamX.Tabs T H) (hfree : ∀ y ∈ scope.names, y.2 = .free → ∃ c, X.env.cells.lookup y.1 = some c)
    (h : ∀ (f c' : Addr) (pm ctv : Value) (H1 : Hp) (s' : Shared), Inv X ((f, lamO (X.env.qual ++ "<lambda>") params body scope (cloFrom X.env.cells scope.names []) pm (.ref c') ctv dV) :: pins) σ H1 s' → LamX.ExtN H H1 → LamX.Tabs T H1 → H1 c' = some (LamX.CodeO c' (X.env.qual ++ "<lambda>")) →
      (∀ P' q', LamX.TabS H P' q' → P' ≠ P → LamX.TabS H1 P' q') → Q (.ref f) s') :
    wpAny (model X.prog X.w) X.A (makeTail "<lambda>" (X.env.qual ++ "<lambda>") params (.expr body) scope X.env dV .none none pos n1) Q E s := by
  obtain ⟨ps,hP,ht,ha⟩ := hT _ hm
  have bP : s.heap.BuiltinsAt X.mg P := TB.bm.keeps I.bk
  have hP' : s.heap.get? P = some { cls := .none, data := .fields ps } := I.hok P _ hP
  have nf : ∀ (pm cv ctv : Value) v, (lamO (X.env.qual ++ "<lambda>") params body scope (cloFrom X.env.cells scope.names []) pm cv ctv dV).data ≠ .cell v := fun _ _ _ v z => nomatch z
  cases hc : codeAmong pos ps.toList with
  | none =>
    refine Zg4 (L2.closure_ok hfree) I.ok.glob hcode (I.mod.glob.keeps I.bk) (TB.code.keeps I.bk) hP' ht hc TB.gP bP fun c' ctv h' tk hx hge hlt hrec htb => ?_
    obtain ⟨c2,oc,vs,t,e2,hoc,hd,hv⟩ := hrec
    cases e2
    have nC : H c' = none := I.hok.fresh hge
    have I0 := LamX.inv_table (t' := tk) (more := #[rawInt pos.line, rawInt pos.col, .ref c']) (h' := h') I hP (fun b o hb e => hx b o hb e) htb hge ⟨oc, vs, t, hoc, hd, hv⟩
    have I1 := ClX.pin_new (t' := tk) I0 (h' := h'.push (lamO (X.env.qual ++ "<lambda>") params body scope (cloFrom X.env.cells scope.names []) ((X.mg "__name__").getD .none) (.ref c') ctv dV)) (a := h'.objs.size) (fun b u e => Heap.get?_push_of_some _ e) (Nat.le_refl _) (Heap.get?_push_size _ rfl) (nf _ _ _)
    have hE : LamX.ExtN H (upd (upd H P (.tbl (ps ++ #[rawInt pos.line, rawInt pos.col, .ref c']))) c' (LamX.CodeO c' (X.env.qual ++ "<lambda>"))) := fun b o e n => by
      rw [upd_ne (ne_of_none e nC),upd_ne (fun z => n ps (Option.some.inj (e.symm.trans (by rw [z]; exact hP))))]
      exact e
    have eL : (ps ++ #[rawInt pos.line, rawInt pos.col, .ref c']).toList = ps.toList ++ [rawInt pos.line, rawInt pos.col, .ref c'] := by simp
    have other : ∀ P' q', LamX.TabS H P' q' → P' ≠ P → LamX.TabS (upd (upd H P (.tbl (ps ++ #[rawInt pos.line, rawInt pos.col, .ref c']))) c' (LamX.CodeO c' (X.env.qual ++ "<lambda>"))) P' q' := fun P' q' ⟨ps', a1, a2, a3⟩ hb => by
      refine ⟨ps', by rw [upd_ne (ne_of_none a1 nC), upd_ne hb]; exact a1, a2, fun p' cv hcv => ?_⟩
      obtain ⟨c0, e1, e2⟩ := a3 p' cv hcv
      exact ⟨c0,e1,hE _ _ e2 LamX.codeO_ne⟩
    refine h h'.objs.size c' ((X.mg "__name__").getD .none) ctv _ _ I1 hE (fun p hp => ?_) upd_same other
    by_cases hb : p.1 = P
    · rw [hu p hp hb,hb]
      refine ⟨_, by rw [upd_ne (ne_of_none hP nC), upd_same], by rw [eL]; exact PySem.TriplesOk_snoc _ _ _ _ ht, fun p' cv hcv => ?_⟩
      rw [eL] at hcv
      rcases LamX.among_app _ ht hcv with z | z
      · obtain ⟨c0, e1, e2⟩ := ha p' cv z
        exact ⟨c0,e1,hE _ _ e2 LamX.codeO_ne⟩
      · exact ⟨c', z, upd_same⟩
    · exact other _ _ (hT p hp) hb
  | some cv =>
    obtain ⟨c', e, hco⟩ := ha pos cv hc
    subst e
    refine Zg5 (L2.closure_ok hfree) I.ok.glob hcode (I.mod.glob.keeps I.bk) (TB.code.keeps I.bk) hP' ht hc bP fun ctv h' tk hx hsz => ?_
    have I1 := ClX.pin_new (t' := tk) I (h' := h'.push (lamO (X.env.qual ++ "<lambda>") params body scope (cloFrom X.env.cells scope.names []) ((X.mg "__name__").getD .none) (.ref c') ctv dV)) (a := h'.objs.size) (fun b u e => Heap.get?_push_of_some _ (hx b u e)) hsz (Heap.get?_push_size _ rfl) (nf _ _ _)
    exact h h'.objs.size c' ((X.mg "__name__").getD .none) ctv H _ I1 (LamX.ExtN.refl H) hT hco fun _ _ t _ => t
end
inductive LamD (X : Cx) (params : Arguments) (body : Expr) (scope : Scope) : Option (PySem.Str × Int) → Prop
  | non : defaultsOf params X.env = ([],[]) → (∀ qual cl pm cdv ct,bindArgs (lamF qual params body scope cl pm cdv ct .none) ⟨[],[]⟩ = pure []) → LamD X params body scope none
  | one {y : PySem.Str} {i : Int} {j : Nat} {p : Pos} : defaultsOf params X.env = ([eval (.Constant (.int i) j p) X.env],[]) →
      (∀ qual cl pm cdv ct t,∃ k,bindArgs (lamF qual params body scope cl pm cdv ct (.ref t)) ⟨[],[]⟩ = seqItems? (.ref t) >>= k ∧ ∀ v,k (some #[v]) = pure [(y,v)]) → LamD X params body scope (some (y,i))
inductive DefAt : Option (PySem.Str × Int) → Value → List (Addr × Obj) → List (PySem.Str × Value) → Prop
  | non : DefAt none .none [] []
  | one {y : PySem.Str} {i : Int} {t : Addr} {v : Value} : DefAt (some (y, i)) (.ref t) [(t, { cls := .type "tuple", data := .seq #[v] })] [(y, v)]
theorem Zdy {X : Cx} {pins : List (Addr × Obj)} {σ : L2.St} {H : Hp} {s : Shared} {T : List (Addr × PySem.Str)} {c P : Addr} {params : Arguments} {body : Expr} {scope : Scope} {pos : Pos} {dn : Option (PySem.Str × Int)} {Q : Value → Shared → Prop} (I : Inv X pins σ H s) (TB : LamX.TabB X.base X.mg c P) (hcode : X.env.code = .ref c)
    (hm : (P, X.env.qual ++ "<lambda>") ∈ T) (hu : ∀ p ∈ T, p.1 = P → p.2 = X.env.qual ++ "<lambda>") (hT : LamX.Tabs T H) (hfree : ∀ y ∈ scope.names, y.2 = .free → ∃ c, X.env.cells.lookup y.1 = some c) (hd : LamD X params body scope dn)
    (h : ∀ (f c' : Addr) (pm ctv dV : Value) (dp : List (Addr × Obj)) (bs : List (PySem.Str × Value)) (H1 : Hp) (s' : Shared), DefAt dn dV dp bs → Inv X ((f, lamO (X.env.qual ++ "<lambda>") params body scope (cloFrom X.env.cells scope.names []) pm (.ref c') ctv dV) :: (dp ++ pins)) σ H1 s' → LamX.ExtN H H1 → LamX.Tabs T H1 → H1 c' = some (LamX.CodeO c' (X.env.qual ++ "<lambda>")) →
      (∀ P' q', LamX.TabS H P' q' → P' ≠ P → LamX.TabS H1 P' q') → Q (.ref f) s') :
    wpAny (model X.prog X.w) X.A (eval (.Lambda params body scope pos) X.env) Q X.xe s := by
  cases hd with
  | non hdef hb =>
    rw [arm_eval_Lambda,hdef]
    show wpAny _ _ (do let dv ← evalAll []; let kdv ← holding dv (evalAllOpt []); makeFunction "<lambda>" (X.env.qual ++ "<lambda>") params (.expr body) scope X.env dv kdv [] pos pos.line) _ _ _
    refine wpAny_bind (wpAny_pure (wpAny_bind (wpAny_holding (wpAny_pure ?_))))
    rw [makeFunction_eq]
    simp only [List.zip_nil_right,List.filterMap_nil,List.isEmpty_nil,if_true,pure_bind]
    exact Z9p I TB hcode hm hu hT hfree fun f c' pm ctv H1 s' I1 e1 t1 c1 o1 => h f c' pm ctv .none [] [] H1 s' .non I1 e1 t1 c1 o1
  | one hdef hb =>
    rename_i y i j p
    rw [arm_eval_Lambda,hdef]
    show wpAny _ _ (do let dv ← evalAll [eval (.Constant (.int i) j p) X.env]; let kdv ← holding dv (evalAllOpt []); makeFunction "<lambda>" (X.env.qual ++ "<lambda>") params (.expr body) scope X.env dv kdv [] pos pos.line) _ _ _
    refine wpAny_bind (wpAny_evalAll_cons (thn (pe_int.run pins s σ H (fun v H1 => H1 = H) I rfl) fun v s1 ⟨w1,H1,I1,r1,e1⟩ => ?_))
    subst e1
    refine wpAny_evalAll_nil ?_
    refine wpAny_bind (wpAny_holding (wpAny_pure ?_))
    rw [makeFunction_eq]
    simp only [List.zip_nil_right,List.filterMap_nil,List.isEmpty_nil,List.isEmpty_cons,Bool.false_eq_true,if_false,if_true,pure_bind]
    refine wpAny_bind (wpAny_newTextTuple ?_)
    have I2 := ClX.pin_new (t' := s1.toks) I1 (h' := s1.heap.push { cls := .type "tuple", data := .seq #[v] }) (o := { cls := .type "tuple", data := .seq #[v] }) (a := s1.heap.objs.size) (fun b u e => Heap.get?_push_of_some _ e) (Nat.le_refl _) (Heap.get?_push_size _ rfl) (fun w z => nomatch z)
    exact Z9p I2 TB hcode hm hu hT hfree fun f c' pm ctv H1 s' I3 e3 t3 c3 o3 => h f c' pm ctv _ _ _ H1 s' .one I3 e3 t3 c3 o3
structure LamP (sc scope : Scope) (N : List PySem.Str) (dn : Option (PySem.Str × Int)) : Prop where
  kind : scope.kind = .function
  co : scope.isCoroutine = false
  gen : scope.isGenerator = false
  own : ∀ y ∈ scope.names,y.2 ≠ .cell
  loc : ∀ y ∈ scope.names,y.2 = .local → y.1 ∉ N
  free : ∀ y ∈ scope.names,y.2 = .free → sc.names.lookup y.1 = some .cell ∨ sc.names.lookup y.1 = some .free
  par : ∀ y i,dn = some (y,i) → scope.names.lookup y = some .local
def lamPB (sc scope : Scope) (N : List PySem.Str) (dn : Option (PySem.Str × Int)) : Bool :=
  decide (scope.kind = .function) && !scope.isCoroutine && !scope.isGenerator && (scope.names.all fun y => !decide (y.2 = .cell) && (!decide (y.2 = .local) || !decide (y.1 ∈ N)) && (!decide (y.2 = .free) || decide (sc.names.lookup y.1 = some .cell) || decide (sc.names.lookup y.1 = some .free))) &&
    match dn with | none => true | some (y,_) => decide (scope.names.lookup y = some .local)
theorem Z3i {sc scope : Scope} {N : List PySem.Str} {dn : Option (PySem.Str × Int)} (h : lamPB sc scope N dn = true) : LamP sc scope N dn := by
  unfold lamPB at h
  simp only [Bool.and_eq_true, Bool.or_eq_true, Bool.not_eq_true', decide_eq_true_eq, decide_eq_false_iff_not, List.all_eq_true] at h
  obtain ⟨⟨⟨⟨h1,h2⟩,h3⟩,h4⟩,h5⟩ := h
  refine ⟨h1,h2,h3,fun y hy => (h4 y hy).1.1,fun y hy e => ?_,fun y hy e => ?_,fun y i e => ?_⟩
  · rcases (h4 y hy).1.2 with z | z
    · exact absurd e z
    · exact z
  · rcases (h4 y hy).2 with (z | z) | z
    · exact absurd e z
    · exact .inl z
    · exact .inr z
  · subst e; simpa using h5
theorem LamP.has {X : Cx} {scope : Scope} {N : List PySem.Str} {dn : Option (PySem.Str × Int)} (L : LamP X.env.scope scope N dn) (ok : X.Ok) : ∀ y ∈ scope.names,y.2 = .free → ∃ c,X.env.cells.lookup y.1 = some c := fun y hy e => by
  rcases L.free y hy e with k | k
  · exact ok.has _ (.inl k)
  · exact ok.has _ (.inr k)
theorem Zbt {X : Cx} {pins : List (Addr × Obj)} {σ : L2.St} {H HZ : Hp} {s s1 : Shared} {A : Around} {outer : List PySem.Env} {E : XK} {scope : Scope} {dn : Option (PySem.Str × Int)} {f c' : Addr} {h₁ : Heap} {tk : Nat} {m : PySem.Str → Option Value} (I : Inv X pins σ H s) (L : LamP X.env.scope scope X.N dn) (e0 : Env0 X.prog X.w X.K X.mg X.base A outer s1 HZ) (hd : A.handled = none)
    (un : Un (frs X.stack) [] H HZ s.heap s1.heap) (hns : h₁.Ns s1.heap.objs.size m) (kp : ∀ b o,s1.heap.get? b = some o → h₁.get? b = some o) :
    Inv (LamX.lamCx X A outer s1 HZ E scope f c') [] σ HZ { s1 with heap := h₁, toks := tk } := by
  have hfree := L.has I.ok
  have cm : ∀ {y c},(cloFrom X.env.cells scope.names []).lookup y = some c → X.env.cells.lookup y = some c := fun {y c} e => by
    rcases cloFrom_mem (PySem.mem_of_lookup e) with hm | ⟨h1,h2⟩
    · cases hm
    · obtain ⟨c1,hc⟩ := hfree _ h1 rfl
      have hc : X.env.cells.lookup y = some c1 := hc
      have e2 : c = c1 := by rw [h2,hc] <;> rfl
      rw [e2]; exact hc
  have look : ∀ {y},scope.names.lookup y = some .free → ∃ c,(cloFrom X.env.cells scope.names []).lookup y = some c := fun {y} hl => by
    have hy : (y,NameKind.free) ∈ scope.names := PySem.mem_of_lookup hl
    exact mem_lookup (cloFrom_has (cells := X.env.cells) (acc := []) hy)
  have cellK : ∀ {c : Addr} {v : Option Value},H c = none → s.heap.IsCell c v → h₁.IsCell c v := fun {c v} n ⟨o,ho,hd⟩ => by
    obtain ⟨sl,q⟩ := un.any ho n (by simp)
    exact ⟨_,kp _ _ q,hd⟩
  have noA : ∀ b : Addr, b ∉ (LamX.lamCx X A outer s1 HZ E scope f c').ex := fun b z => absurd (show b ∈ ([] : List Addr) from z) (by simp)
  refine ⟨⟨e0.mod,L.kind,rfl,rfl,Nat.le_refl _,fun y z c e1 e2 => I.ok.inj y z c (cm e1) (cm e2),fun y hy => ?_,fun y c z _ => ?_,fun _ => hd,Around.frames_deeper e0.frames,.inr ⟨rfl,rfl⟩,fun b z => absurd z (noA b),e0.bs,e0.bsz,fun b _ _ => noA b,
      fun b z => absurd z (noA b),e0.funs,e0.frf⟩,
    rfl,e0.bare,Un.kept kp,⟨_,hns,fun i y v e1 e2 e3 => ?_⟩,fun y c e => ?_,e0.hok.fresh (Nat.le_refl _),fun y c e => ?_,fun q hq => absurd (show q ∈ ([] : List (Addr × Obj)) ++ [] from hq) (by simp),e0.hok.kept kp,I.len⟩
  · have hy : scope.names.lookup y = some .cell ∨ scope.names.lookup y = some .free := hy
    rcases hy with hy | hy
    · exact absurd rfl (L.own _ (PySem.mem_of_lookup hy))
    · exact look hy
  · have z : false = true := z
    cases z
  · have e3 : Vis scope y := e3
    rcases e3 with k | k | k
    · exact absurd (List.mem_of_getElem? (show X.N[i]? = some y from e1)) (L.loc _ (PySem.mem_of_lookup k) rfl)
    · exact absurd rfl (L.own _ (PySem.mem_of_lookup k))
    · obtain ⟨m', hn, hl⟩ := I.loc
      have hvis : Vis X.env.scope y := (L.free _ (PySem.mem_of_lookup k) rfl).elim (fun k => .inr (.inl k)) (fun k => .inr (.inr k))
      obtain ⟨w', r, q⟩ := hl i y v e1 e2 hvis
      obtain ⟨c2,h2⟩ := look k
      refine ⟨w', r, .inr ⟨.inr k, c2, h2, ?_⟩⟩
      have c1 := cm h2
      rcases q with ⟨k', _⟩ | ⟨_, c3, e', z⟩
      · have k' : X.env.scope.names.lookup y = some .local := k'
        rcases L.free _ (PySem.mem_of_lookup k) rfl with k2 | k2 <;> rw [show X.env.scope.names.lookup y = _ from k2] at k' <;> cases k'
      · rw [c1] at e'
        cases e'
        exact cellK (I.freeC y _ c1) z
  · obtain ⟨w', z⟩ := I.cell y c (cm e)
    exact ⟨w', cellK (I.freeC y c (cm e)) z⟩
  · obtain ⟨v,o,ho,hd⟩ := I.cell y c (cm e)
    exact un.free c o ho (I.freeC y c (cm e)) (by simp)
open Classical in
noncomputable def eAsk (fl : Sto → R T) (lv : T) (i : Nat) : FE := fun ρ Z => if ρ[i]? = some (some lv) then fl Z else .stuck
def eLam (F : (Sto → R T) → T → FF) (fb : FE) (fa : FA) : FE := fun ρ Z => (fa ρ Z).bind fun ts Z1 => F (fun Z' => fb ρ Z') .non (.non :: ts) Z1
section
variable {X : Cx} {K : PySem.W.Frag} {pins : List (Addr × Obj)} {σ : L2.St} {H : Hp} {s : Shared}
theorem Zbu {ι : List Addr} {H H1 : Hp} (e : LamX.ExtN H H1) (t1 : LamX.Tabs Tb.T H1) : Gr ι ι H H1 :=
  ⟨fun _ _ h => h,fun a xs h => e a _ h (fun _ z => by cases z),fun a o u h => e a _ h (fun _ z => by cases z),fun a fs h => e a _ h (fun _ z => by cases z),fun a φ h => e a _ h (fun _ z => by cases z),fun _ => t1,fun _ _ h _ _ => h,fun a u h m _ => e a u h fun ps z => by rw [z] at m; exact m⟩
theorem Zdz {ι : List Addr} {Z : Sto} {H H1 : Hp} (e : LamX.ExtN H H1) (t1 : LamX.Tabs Tb.T H1) (s : Sim K ι Z H) : Sim K ι Z H1 :=
  ⟨s.len,s.nd,fun i a o e1 e2 => by
    have h := s.ob i a o e1 e2
    obtain ⟨u,hu,mu⟩ := h.mut
    exact h.gr (Zbu e t1) ((e a u hu fun ps z => by rw [z] at mu; exact mu).trans hu.symm),t1⟩
theorem f_ask {Eg : XK} {Ng : List PySem.Str} {qg : PySem.Str} {sg : Scope} {g f c' : Addr} {cdg pm ctv dV : Value} {dp : List (Addr × Obj)} {bs : List (PySem.Str × Value)} {params : Arguments} {body : Expr} {scope : Scope} {dn : Option (PySem.Str × Int)} {k : Nat} {a : PySem.Str} {pn : List (Addr × Obj)} {xe : Value → Shared → Prop} {W : WX} {p1 p2 : Pos} {fb : FE} {ρ : Env}
    (hK : X.K = K) (I : Inv X ((f, lamO (X.env.qual ++ "<lambda>") params body scope (cloFrom X.env.cells scope.names []) pm (.ref c') ctv dV) :: (dp ++ pins)) σ H s) (L : LamP X.env.scope scope X.N dn) (hd : LamD X params body scope dn) (da : DefAt dn dV dp bs) (hl : σ.length = ρ.length)
    (tk : Takes ((cxOf (L2.CX X.prog X.w) X.prog X.w X.K X.mg X.base Ng qg sg g cdg X.A X.stack s H Eg).tr pn xe) W) (hr : Room (k + 1) (X.A.deeper (envOfC qg sg s.heap.objs.size g cdg))) (hG : X.A.guards = some [])
    (hbody : ∀ (A : Around) (outer : List PySem.Env) (s : Shared) (H : Hp) (E : XK), Room k (A.deeper (LamX.lamEnv X scope s.heap.objs.size f c')) → A.guards = some [] → FJ (LamX.lamCx X A outer s H E scope f c') K (Wt fun cls d _ H => E cls d H) body fb)
    (hN : Ng[0]? = some a) (hv : Vis sg a) (hdb : (a == ("__debug__" : PySem.Str)) = false := by decide) (hcd : (a == ("__classdict__" : PySem.Str)) = false := by decide) :
    FJ ((cxOf (L2.CX X.prog X.w) X.prog X.w X.K X.mg X.base Ng qg sg g cdg X.A X.stack s H Eg).tr pn xe) K (Wt W) (.Call (.Name a p1) [] [] p2)
      (eAsk (fun Z => fb ρ Z) (.lam f c' (X.env.qual ++ "<lambda>") fun ι' H' => Envs K ι' H' σ ρ) 0) := by
  subst hK
  refine ⟨fun pinsZ sZ σZ HZ Q IZ h => ?_⟩
  obtain ⟨ι,ρZ,Z,is,p⟩ := h
  unfold eAsk at p
  split at p
  case isFalse => exact p.elim
  rename_i h0
  obtain ⟨v0,hs,rv⟩ := is.env 0 _ h0
  cases rv
  rename_i hco hJ
  have hEnv := hJ ι HZ Gr.refl
  refine wpAny_Call_Name_kw (thn ((pe_var (pos := p1) (i := 0) hN hv hdb hcd).run pinsZ sZ σZ HZ (fun v H1 => v = .ref f ∧ H1 = HZ) IZ ⟨.ref f,hs,rfl,rfl⟩) fun u s1 ⟨v,H1,I1,r1,q1⟩ => ?_)
  obtain ⟨ev,eH⟩ := q1
  subst ev
  rw [eH] at I1
  obtain rfl : u = Value.ref f := r1
  have stay : ∀ q ∈ (f, lamO (X.env.qual ++ "<lambda>") params body scope (cloFrom X.env.cells scope.names []) pm (.ref c') ctv dV) :: (dp ++ pins), s1.heap.get? q.1 = some q.2 := fun q hq => by
    obtain ⟨h1,h2,h3,h4,_⟩ := I.pin q (List.mem_append_right _ hq)
    refine I1.base.keep q.1 _ h1 h2 (fun z => ?_) (fun z => nomatch (show q.1 ∈ ([] : List Addr) from z))
    rcases List.mem_cons.mp (I.stkSub _ z) with z | z
    · exact h3 z
    · exact h4 z
  have of1 := stay _ List.mem_cons_self
  refine PySem.W.callWith_F0 ⟨_,_,_,_,of1⟩ ?_
  have un : Un (frs X.stack) [] H HZ s.heap s1.heap := I1.base
  obtain ⟨⟨oc, vs, t, hoc, hdc, hvc⟩, _, _⟩ := I1.hok c' _ hco
  have rc : codeAny (model X.prog X.w) (X.A.deeper (envOfC qg sg s.heap.objs.size g cdg)) (.call (.ref f) ⟨[], []⟩) (CR (L2.CX X.prog X.w) (envOfC qg sg s.heap.objs.size g cdg :: X.stack) X.prog X.w HZ s1 Q (fun cls d H' => W cls d σZ H')) s1 := by
    refine PySem.W.kla_callFunE hr.depth of1 rfl L.co L.gen rfl ⟨c', oc, vs, t, rfl, hoc, hdc, hvc⟩ ?_
    have go : ∀ bs : List (PySem.Str × Value), (∀ y ∈ bs, scope.names.lookup y.1 = some .local) → wpAny (model X.prog X.w) (X.A.deeper (envOfC qg sg s.heap.objs.size g cdg)).in1 (newFunctionEnv scope mainGlobals (cloFrom X.env.cells scope.names []) bs (X.env.qual ++ "<lambda>" ++ ".<locals>.") (some f) (.ref c') none builtinsNs)
        (fun env s₂ => s₂.heap.NoLimit ∧ codeAny (model X.prog X.w) (X.A.deeper (envOfC qg sg s.heap.objs.size g cdg)) (.expr body env) (CR (L2.CX X.prog X.w) (envOfC qg sg s.heap.objs.size g cdg :: X.stack) X.prog X.w HZ s1 Q (fun cls d H' => W cls d σZ H')) s₂) (fun e s' => CR (L2.CX X.prog X.w) (envOfC qg sg s.heap.objs.size g cdg :: X.stack) X.prog X.w HZ s1 Q (fun cls d H' => W cls d σZ H') (.error e) s') s1 := fun bs hloc => by
      refine wpAny_newFunctionEnv (fun y hy => L.own y hy) hloc (fun h₁ hns hsb => ⟨I1.nolimit.fresh _ hsb,?_⟩) L.kind
      show codeAny _ _ (.expr body (LamX.lamEnv X scope s1.heap.objs.size f c')) _ _
      have kp : ∀ b o,s1.heap.get? b = some o → h₁.get? b = some o := fun b o e => hsb.extBut b o (Nat.ne_of_lt (Heap.lt_size e)) (Heap.get?_push_of_some _ e)
      have J := Zbt (A := X.A.deeper (envOfC qg sg s.heap.objs.size g cdg)) (outer := envOfC qg sg s.heap.objs.size g cdg :: X.stack) (E := fun cls d H' => W cls d σZ H') (f := f) (c' := c') (tk := s1.toks + bs.length) I L I1.env0 hr.hd un hns kp
      refine PySem.W.kla_codeExpr (wpAny_mono ((hbody _ _ s1 HZ (fun cls d H' => W cls d σZ H') (hr.deeper _) hG).run [] _ _ HZ Q J ⟨ι, ρ, Z, ⟨hl, hEnv, is.sim, trivial⟩, ?_⟩) (fun v s' hq => ?_) fun e s' hq => hq)
      · exact p.wx fun _ _ _ h => h
      · obtain ⟨w', H', J', rv, q⟩ := hq
        exact ⟨w', H', J'.os, J'.bare, J'.base, J'.hok, rv, q⟩
    cases da with
    | non =>
      cases hd with
      | non hdef hb =>
        rw [hb]
        exact wpAny_pure (go [] (fun y hy => absurd hy (by simp)))
    | one =>
      cases hd with
      | one hdef hb =>
        rename_i y i t0 v0 j0 p0
        obtain ⟨kk, e1, e2⟩ := hb (X.env.qual ++ "<lambda>") (cloFrom X.env.cells scope.names []) pm (.ref c') ctv t0
        rw [e1]
        have ot := stay _ (List.mem_cons_of_mem _ (List.mem_append_left _ List.mem_cons_self))
        refine wpAny_bind (wpAny_seqItems ot rfl ?_)
        rw [e2]
        exact wpAny_pure (go [(y,v0)] fun z hz => by rw [List.mem_singleton.mp hz]; exact L.par _ _ rfl)
  refine wpAny_call (codeAny_mono rc fun r s' hq => ?_)
  cases r with
  | error e => exact passAt tk σZ pinsZ HZ s1 e s' I1 hq
  | ok fl =>
    cases fl with
    | ret u => exact I1.after hq
    | next => exact False.elim hq
    | brk => exact False.elim hq
    | cont => exact False.elim hq
theorem Zbv {E : XK} {N : List PySem.Str} {b : FS} {vs : List V} {ts : List T} {Q : VK} {ι : List Addr} {Z : Sto} (sim : Sim K ι Z H) (r : Reps K ι H vs ts) (hl : vs.length ≤ N.length) (p : Post (Rep K) K (fun cls d _ H => E cls d H) [] ι H Q (runF N.length b ts Z)) :
    tS K (fun cls d _ H => E cls d H) b { nx := fun _ H' => Q .non H', rt := Q } (L2.start N vs) H := by
  have hl2 := r.length
  refine ⟨ι,ts.map some ++ List.replicate (N.length - ts.length) none,Z,⟨by simp only [L2.start,List.length_append,List.length_map,List.length_replicate]; omega,?_,sim⟩,?_⟩
  · have := Z60 r (N.length - ts.length)
    unfold L2.start
    rw [hl2]
    exact this
  · unfold runF at p
    split at p
    · rename_i e; rw [e]; exact fun ι' H' σ' g is => p ι' H' _ g is.sim .non
    · rename_i e; rw [e]; exact p
    · rename_i e; rw [e]; exact fun ι' H' σ' cls d g is rx => p ι' H' cls d g is.sim rx
    · exact p.elim
theorem Nb {W : Wc} {F : (Sto → R T) → T → FF} {B : (Sto → R T) → T → FS} {Ng ps : List PySem.Str} {x a : PySem.Str} {g c P : Addr} {st : Stmt} {fd : FuncData} {params : Arguments} {body : Expr} {scope : Scope} {dn : Option (PySem.Str × Int)} {k : Nat} {es : List Expr} {fa : FA} {fb : FE} {p lpos pos : Pos}
    (hK : X.K = K) (hg : Gl X x) (hm : X.mg x = some (.ref g)) (Fg : L2.Fun X.K x x st g fd) (hb : Binds X.K fd (a :: ps) []) (Sg : FnScope Ng (a :: ps) (defScope st)) (hN : Ng[0]? = some a) (hva : Vis (defScope st) a)
    (hF : ∀ fl lv,F fl lv = runF Ng.length (B fl lv)) (hind : ∀ fl lv ts,ts.length = ps.length → F fl lv (lv :: ts) = F fl .non (.non :: ts))
    (hB : ∀ (cdv : Value) (A : Around) (outer : List PySem.Env) (s : Shared) (H : Hp) (E : XK) (fl : Sto → R T) (lv : T),Room (k + 1) (A.deeper (envOfC x (defScope st) s.heap.objs.size g cdv)) → A.guards = some [] →
      (∀ (W' : WX) (pn : List (Addr × Obj)) (xe : Value → Shared → Prop) (p1 p2 : Pos), Takes ((cxOf (L2.CX X.prog X.w) X.prog X.w X.K X.mg X.base Ng x (defScope st) g cdv A outer s H E).tr pn xe) W' → FJ ((cxOf (L2.CX X.prog X.w) X.prog X.w X.K X.mg X.base Ng x (defScope st) g cdv A outer s H E).tr pn xe) K (Wt W') (.Call (.Name a p1) [] [] p2) (eAsk fl lv 0)) →
      A = X.A → outer = X.stack → FBJ (cxOf (L2.CX X.prog X.w) X.prog X.w X.K X.mg X.base Ng x (defScope st) g cdv A outer s H E) K (fun cls d _ H => E cls d H) (defBody st) (B fl lv))
    (TB : LamX.TabB X.base X.mg c P) (hcode : X.env.code = .ref c) (hmT : (P, X.env.qual ++ "<lambda>") ∈ Tb.T) (hu : ∀ p ∈ Tb.T, p.1 = P → p.2 = X.env.qual ++ "<lambda>") (L : LamP X.env.scope scope X.N dn) (hd : LamD X params body scope dn)
    (hr : Room (k + 2) X.A) (hG : X.A.guards = some []) (tk : Takes X W.w)
    (hbody : ∀ (A : Around) (outer : List PySem.Env) (s : Shared) (H : Hp) (E : XK) (f c' : Addr), Room k (A.deeper (LamX.lamEnv X scope s.heap.objs.size f c')) → A.guards = some [] → FJ (LamX.lamCx X A outer s H E scope f c') K (Wt fun cls d _ H => E cls d H) body fb)
    (ha : FAJ X K W es fa) (hn : ofLen es fa) (hln : es.length = ps.length := by rfl) (hdb : (x == ("__debug__" : PySem.Str)) = false := by decide) (hda : (a == ("__debug__" : PySem.Str)) = false := by decide) (hca : (a == ("__classdict__" : PySem.Str)) = false := by decide)
    (he : starEach (.Lambda params body scope lpos :: es) X.env = (false,eval (.Lambda params body scope lpos) X.env) :: starEach es X.env := by rfl) (hpl : (backTo pos (starEach es X.env)).any (·.1) = false := by rfl) :
    FJ X K W (.Call (.Name x p) (.Lambda params body scope lpos :: es) [] pos) (eLam F fb fa) := by
  subst hK
  refine ⟨fun pins s σ H Q I h => ?_⟩
  refine wpAny_Call_Name_kw (ld_glob I hg hm ?_ hdb)
  obtain ⟨oc,od,kV,doc,pm,an,cdv,ct,osl,rfl,lk,hcd⟩ := Fg.ex
  obtain ⟨ι,ρ,Z,is,p0⟩ := h
  refine PySem.W.callWith_K (h₀ := X.base) I.ok.mod.kin Fg.kp ?_ he hpl
  show wpAny _ _ (spliced ((false,eval (.Lambda params body scope lpos) X.env) :: backTo pos (starEach es X.env))) _ _ s
  refine Calls.spliced_cons (Zdy I TB hcode hmT hu is.sim.tab (L.has I.ok) hd fun f c' pm' ctv dV dp bs H1 s' da I1 eN T1 hco o1 => ?_)
  have g1 : Gr ι ι H H1 := Zbu eN T1
  have s1 := Zdz eN T1 is.sim
  have t : tFA X.K W fa σ H1 (fun ws H2 => ws.length = ps.length ∧ ∃ ι2 Z2 ts, Gr ι ι2 H1 H2 ∧ Sim X.K ι2 Z2 H2 ∧ Reps X.K ι2 H2 ws ts ∧ Post (Rep X.K) X.K W.w σ ι2 H2 Q (F (fun Z' => fb ρ Z') .non (.non :: ts) Z2)) := by
    refine ⟨ι,ρ,Z,is.gr g1 s1,?_⟩
    unfold eLam at p0
    have p1 := p0.shift g1
    cases e : fa ρ Z with
    | ok ts Z2 =>
      rw [e,Yo] at p1
      exact fun ι2 H2 ws g2 s2 r2 => ⟨by rw [r2.length,hn _ _ _ _ e,hln],ι2,Z2,ts,g2,s2,r2,p1.shift g2⟩
    | exc y Z2 => rw [e] at p1; exact p1
    | stuck => rw [e] at p1; exact p1
  refine thn (ha.run pos _ s' σ H1 _ I1 t) fun us s2 ⟨ws, H2, I2, r, q⟩ => ⟨I2.kIn, ?_⟩
  obtain ⟨hwl, ι2, Z2, ts, g2, s2', r2, p2⟩ := q
  have rl : Rep X.K ι2 H2 (.ref f) (.lam f c' (X.env.qual ++ "<lambda>") fun ι' H' => Envs X.K ι' H' σ ρ) := .lam (g2.ext _ _ hco) fun ι' H' g' => ((is.env.gr g1).gr g2).gr g'
  have hlt : ts.length = ps.length := by rw [← r2.length]; exact hwl
  have rr : Reps X.K ι2 H2 (V.ref f :: ws) ((.lam f c' (X.env.qual ++ "<lambda>") fun ι' H' => Envs X.K ι' H' σ ρ) :: ts) := .cons rl r2
  have rc : codeAny (model X.prog X.w) X.A (.call (.ref g) ⟨.ref f :: us,[]⟩) (CR (L2.CX X.prog X.w) X.stack X.prog X.w H2 s2 Q (WE W.w σ)) s2 := by
    refine LamX.run_ofS (N := Ng) (ps := a :: ps) (us := .ref f :: us) (vs := .ref f :: ws) lk hcd Sg hr I2.env0 (by
      have := hb s2 (.ref f :: us) I2.kIn (by rw [List.append_nil,List.length_cons,List.length_cons,← r.length,hwl])
      rwa [List.append_nil] at this) (.cons rfl r) (by rw [List.length_cons, List.length_cons, hwl]) fun hr' => ?_
    have hBB := hB cdv X.A X.stack s2 H2 (WE W.w σ) (fun Z' => fb ρ Z') (.lam f c' (X.env.qual ++ "<lambda>") fun ι' H' => Envs X.K ι' H' σ ρ) hr' hG (fun W' pn xe p1 p2 tk' => f_ask (dn := dn) rfl I2 L hd da is.len tk' hr' hG (fun A outer s H E => hbody A outer s H E f c') hN hva hda hca) rfl rfl
    refine ⟨_, hBB, Zbv (ts := _ :: ts) s2' rr ?_ ?_⟩
    · have h1 := congrArg List.length Sg.pre
      rw [List.length_take] at h1
      rw [List.length_cons,hwl]
      simp only [List.length_cons] at h1
      omega
    · have p3 := p2
      rw [← hind (fun Z' => fb ρ Z') (.lam f c' (X.env.qual ++ "<lambda>") fun ι' H' => Envs X.K ι' H' σ ρ) ts hlt, hF] at p3
      exact p3.wx fun _ _ _ h => h
  refine wpAny_call (codeAny_mono rc fun r3 s3 hq => ?_)
  cases r3 with
  | error e => exact passAt tk σ _ H2 s2 e s3 I2 hq
  | ok fl =>
    cases fl with
    | ret u =>
      obtain ⟨v, H', I', rv, q⟩ := I2.after hq
      exact ⟨v, H', I'.pins_of (fun z hz => I'.pin z (List.mem_append_right _ (List.mem_cons_of_mem _ (List.mem_append_right _ hz)))), rv, q⟩
    | next => exact False.elim hq
    | brk => exact False.elim hq
    | cont => exact False.elim hq
end
structure FunC (K : PySem.W.Frag) (x qual : PySem.Str) (st : Stmt) (f : Addr) (fd : FuncData) (c : Addr) : Prop where
  ex : ∃ (oc : Value) (od : Option Addr) (kV doc pm : Value) (an : Option Addr) (ct : Value) (osl : Array (Option Value)),
    fd = PySem.W.fnOf x qual (defArgs st) (defBody st) (defScope st) .none kV doc pm an (.ref c) ct ∧ K.lookup f = some ⟨oc,od,.func fd,osl⟩ ∧ PySem.W.codeIn K (.ref c) qual = true
theorem fnFC {P : Program} {w : World} {K : PySem.W.Frag} {mg : PySem.Str → Option Value} {base : Heap} {x qual : PySem.Str} {st : Stmt} {f c : Addr} {fd : FuncData} {N ps : List PySem.Str} {k : Nat} {b : FS} (F : FunC K x qual st f fd c) (S : FnScope N ps (defScope st))
    (hb : ∀ (A : Around) (outer : List PySem.Env) (s : Shared) (H : Hp) (E : XK),Room k (A.deeper (envOfC qual (defScope st) s.heap.objs.size f (.ref c))) → A.guards = some [] →
      FBJ (cxOf (L2.CX P w) P w K mg base N qual (defScope st) f (.ref c) A outer s H E) K (fun cls d _ H => E cls d H) (defBody st) b) :
    FnG P w K mg base (k + 1) f fd ps (spF K ps.length (runF N.length b)) := by
  obtain ⟨oc,od,kV,doc,pm,an,ct,osl,rfl,lk,hcd⟩ := F.ex
  refine Zhn lk hcd S (fun vs H Q E h => h.1) fun A outer s H vs Q E hr hG h => ?_
  refine ⟨_,hb A outer s H E hr hG,?_⟩
  obtain ⟨hl,ι,Z,ts,sim,r,p⟩ := h
  have h1 := congrArg List.length S.pre
  rw [List.length_take] at h1
  exact Zbv sim r (by rw [hl]; omega) p
end Fx
set_option maxHeartbeats 4000000
namespace Ap
open PySem PySem.Spec PyProof.Rows L2 SX
end Ap
set_option maxHeartbeats 4000000
namespace Fx
open PySem PySem.Spec PyProof.Rows L2 SX Ap
variable [Tb]
def kdGet (l : List (List Nat × List Nat)) : T → Option (List Nat)
  | .str k => l.lookup k
  | _ => none
def eKdIx (l : List (List Nat × List Nat)) (fe : FE) : FE := fun ρ Z => (fe ρ Z).bind fun x Z1 => match kdGet l x with
  | some v => .ok (.str v) Z1
  | none => .stuck
def iKdItems (l : List (List Nat × List Nat)) : FI := fun _ Z => .ok (itSeq (l.map fun x => .tup [.str x.1,.str x.2])) Z
def eCallN (F : FF) (g : List T → List T → List T) (fa fk : FA) : FE := fun ρ Z => (fa ρ Z).bind fun ts Z1 => (fk ρ Z1).bind fun us Z2 => F (g ts us) Z2
def pick {α : Type} (ix : List Nat) (l : List α) : List α := ix.filterMap fun i => l[i]?
theorem Z7l {α : Type} (i : Nat) (ix : List Nat) (l : List α) : pick (i :: ix) l = l[i]?.toList ++ pick ix l := by
  unfold pick
  rw [List.filterMap_cons]
  cases l[i]? <;> rfl
theorem Z7m {vs : List V} {us : List Value} (r : Vals vs us) : ∀ ix : List Nat,Vals (pick ix vs) (pick ix us)
  | [] => .nil
  | i :: ix => by
    rw [Z7l,Z7l]
    refine Vals.append ?_ (Z7m r ix)
    cases e : vs[i]? with
    | none =>
      have h1 := List.getElem?_eq_none_iff.mp e
      rw [List.getElem?_eq_none (by rw [← Paired.length r]; exact h1)]; exact .nil
    | some v =>
      obtain ⟨u,hu,ru⟩ := Vals.get r e
      rw [hu]; exact .cons ru .nil
end Fx
set_option maxHeartbeats 4000000
namespace Fx
open PySem PySem.Spec PyProof.Rows L2 SX Ap
variable [Tb]
theorem Zg6 {P : Program} {w : World} {K : PySem.W.Frag} {mg mb : PySem.Str → Option Value} {k : Nat} {fa a : Addr} {cs : List (Addr × Addr)}
    {fd : FuncData} {x : PySem.Str} {sp : Sp} {s₁ : Shared} {vs : List Value} {ns : List Int}
    (KX : K.In s₁.heap) (hns : s₁.heap.Ns mainGlobals mg) (hb : s₁.heap.Ns builtinsNs mb)
    (hbb : ∀ x : PySem.Str, x ≠ "__name__" → mb x = bootBuiltins x) (hlim : s₁.heap.NoLimit) (hg : s₁.gens = #[])
    (hT : ∀ p ∈ cs,s₁.heap.get? p.2 = some { cls := .none,data := .fields #[] }) (nT : ∀ p ∈ cs,K.lookup p.2 = none) (C : ∀ p ∈ cs,PySem.W.CodeHd s₁.heap p.1 p.2)
    (hbm : ∃ (bm : Addr) (ob : Obj), mg "__builtins__" = some (.ref bm) ∧ bm ≠ builtinsNs ∧ s₁.heap.get? bm = some ob ∧ ob.cls = .type "module" ∧ ob.dict = some builtinsNs ∧ ob.data = .plain)
    (ha : s₁.heap.get? a = some { cls := .type "list", data := .seq vs.toArray }) (hi : IntsAre vs ns) (hl : ns.length ≤ sizeLine)
    (hr : Room k callerA)
    (F : ∀ base : Heap,K.In base → base.Ns mainGlobals mg → (∀ p ∈ cs,LamX.TabB base mg p.1 p.2) → GOk P w K mg base CX0 k fa fd [x] sp)
    (hbind : ∀ (s : Shared) (u : Value),BindsTo s fd ⟨[u],[]⟩ [(x,u)])
    (hsp : ∀ H : Hp,(∀ p ∈ cs,H p.2 = some (.tbl #[])) → Fx.FrL K H a (ns.map V.int) → sp [.ref a] H (fun v _ => v = .bl true) fun _ _ _ => False) :
    codeAny (model P w) callerA (.call (.ref fa) ⟨[.ref a],[]⟩)
      (fun r s' => r = .ok (.ret (.bool true)) ∧ OldK s₁.heap s'.heap ∧ s'.os = s₁.os ∧ AllBare s'.gens) s₁ := by
  have rv := vals_ints hi
  have lenV := hi.length
  have tabAt : ∀ {b : Addr},b ∈ cs.map (·.2) → s₁.heap.get? b = some { cls := .none,data := .fields #[] } := fun {b} hb => by
    obtain ⟨p,hp,rfl⟩ := List.mem_map.mp hb
    exact hT p hp
  have aNo : a ∉ cs.map (·.2) := fun z => by
    have q := tabAt z
    rw [ha] at q
    have := congrArg Obj.data (Option.some.inj q)
    cases this
  have inT : ∀ p ∈ cs,p.2 ∈ cs.map (·.2) := fun p hp => List.mem_map.mpr ⟨p,hp,rfl⟩
  suffices core : ∀ H : Hp,(∀ p ∈ cs,H p.2 = some (.tbl #[])) → Fx.FrL K H a (ns.map V.int) → HOk P w H s₁.heap →
      (∀ b u,H b = some u → (b = a ∧ K.lookup a = none ∧ ∃ o xs,u = .frz o (.lst xs)) ∨ (b ∈ cs.map (·.2) ∧ u = .tbl #[])) →
      codeAny (model P w) callerA (.call (.ref fa) ⟨[.ref a],[]⟩)
        (fun r s' => r = .ok (.ret (.bool true)) ∧ OldK s₁.heap s'.heap ∧ s'.os = s₁.os ∧ AllBare s'.gens) s₁ by
    cases hk : K.lookup a with
    | some o =>
      have e := KX a o hk
      rw [ha] at e
      cases e
      have at0 : ∀ b u,(fun b => if b ∈ cs.map (·.2) then some (.tbl #[]) else none : Hp) b = some u → b ∈ cs.map (·.2) ∧ u = .tbl #[] := by
        intro b u z
        dsimp only at z
        split at z
        · cases z; exact ⟨by assumption,rfl⟩
        · cases z
      refine core (fun b => if b ∈ cs.map (·.2) then some (.tbl #[]) else none) (fun p hp => if_pos (inT p hp)) (.inr ⟨_,vs.toArray,_,hk,rfl,rfl,rfl,?_,?_⟩) ?_ ?_
      · rw [List.size_toArray,lenV]; exact hl
      · simpa using rv
      · intro b u z
        obtain ⟨h1,rfl⟩ := at0 b u z
        exact tabAt h1
      · intro b u z
        exact .inr (at0 b u z)
    | none =>
      let o0 : HO := .frz { cls := .type "list", data := .seq vs.toArray } (.lst (ns.map V.int))
      have at0 : ∀ b u,(fun b => if b = a then some o0 else if b ∈ cs.map (·.2) then some (.tbl #[]) else none : Hp) b = some u → (b = a ∧ u = o0) ∨ (b ∈ cs.map (·.2) ∧ u = .tbl #[]) := by
        intro b u z
        dsimp only at z
        split at z
        · cases z; exact .inl ⟨by assumption,rfl⟩
        · split at z
          · cases z; exact .inr ⟨by assumption,rfl⟩
          · cases z
      refine core (fun b => if b = a then some o0 else if b ∈ cs.map (·.2) then some (.tbl #[]) else none) (fun p hp => ?_) (.inl ⟨{ cls := .type "list", data := .seq vs.toArray }, if_pos rfl⟩) ?_ ?_
      · show (if p.2 = a then some o0 else if p.2 ∈ cs.map (·.2) then some (HO.tbl #[]) else none) = _
        rw [if_neg (fun z => aNo (by rw [← z]; exact inT p hp)),if_pos (inT p hp)]
      · intro b u z
        rcases at0 b u z with ⟨rfl,rfl⟩ | ⟨h1,rfl⟩
        · exact ⟨ha,by rw [List.length_map]; exact hl,vs,_,rv,ha⟩
        · exact tabAt h1
      · intro b u z
        rcases at0 b u z with ⟨rfl,rfl⟩ | h1
        · exact .inl ⟨rfl,hk,_,_,rfl⟩
        · exact .inr h1
  intro H hH hS hok hA
  have free : ∀ {b : Addr},(∀ u,H b ≠ some u) → H b = none := fun {b} z => by
    cases q : H b with
    | none => rfl
    | some u => exact absurd q (z u)
  have noD : ∀ {b : Addr} {o : Obj},s₁.heap.get? b = some o → (∀ vs n,o.data ≠ .seq vs n) → o.data ≠ .fields #[] → H b = none := fun {b o} e h1 h2 => by
    apply free
    intro u q
    rcases hA b u q with ⟨rfl,_⟩ | ⟨h3,_⟩
    · rw [ha] at e
      cases e
      exact h1 _ _ rfl
    · rw [tabAt h3] at e
      cases e
      exact h2 rfl
  have dictFree : ∀ {b : Addr} {o : Obj} {es : Array DictEntry} {ep : Nat},s₁.heap.get? b = some o → o.data = .dict es ep → H b = none := fun e d =>
    noD e (fun vs n z => by rw [d] at z; cases z) (fun z => by rw [d] at z; cases z)
  have nsOf : ∀ {b : Addr} {m : PySem.Str → Option Value},s₁.heap.Ns b m → (hidT s₁.heap H).Ns b m := by
    intro b m ⟨o,es,ep,e,d,r⟩
    exact ⟨o,es,ep,hidT_get e (dictFree e d),d,r⟩
  have inB : K.In (hidT s₁.heap H) := by
    intro b o e
    refine hidT_get (KX b o e) (free ?_)
    intro u q
    rcases hA b u q with ⟨rfl,n,_⟩ | ⟨h3,_⟩
    · rw [n] at e
      cases e
    · obtain ⟨p,hp,rfl⟩ := List.mem_map.mp h3
      rw [nT p hp] at e
      cases e
  obtain ⟨mc,c1,c2⟩ := hlim
  have M : Mod K mg (hidT s₁.heap H) := ⟨inB,nsOf hns,⟨mb,nsOf hb,hbb⟩,⟨mc,nsOf c1,c2⟩⟩
  have e0 : Env0 P w K mg (hidT s₁.heap H) callerA [] s₁ H :=
    ⟨rfl,M,fun _ _ e => of_hidT e,Nat.le_of_eq (hidT_size _ _),trivial,fun b z => absurd (show b ∈ ([] : List Addr) from z) (by simp),hok,.of_eq hg⟩
  have TB : ∀ p ∈ cs,LamX.TabB (hidT s₁.heap H) mg p.1 p.2 := fun p hp => by
    have hTp := hT p hp
    refine ⟨?_,?_,fun z => ?_⟩
    · obtain ⟨o,us,file,tf,flags,tg,inF,text,tt,e1,r1,r2,r3,r⟩ := C p hp
      refine ⟨o,us,file,tf,flags,tg,inF,text,tt,hidT_get e1 (noD e1 (fun vs n z => ?_) fun z => ?_),r1,r2,r3,r⟩
      · rw [r2] at z; cases z
      · rw [r2] at z; cases z; simp at r3
    · obtain ⟨bm,ob,b1,b2,b3,b4,b5,b6⟩ := hbm
      have nG : bm ≠ mainGlobals := fun q => by
        obtain ⟨o,es,ep,e,hd,_⟩ := hns
        rw [q,e] at b3; cases b3; rw [hd] at b6; cases b6
      have nP : bm ≠ p.2 := fun q => by
        rw [q,hTp] at b3; cases b3; cases b6
      exact ⟨bm,ob,b1,b2,nG,nP,hidT_get b3 (noD b3 (fun vs n z => by rw [b6] at z; cases z) fun z => by rw [b6] at z; cases z),b4,b5,b6⟩
    · obtain ⟨o,es,ep,e,hd,_⟩ := hns
      rw [z,hTp] at e; cases e; cases hd
  have run := (F _ inB (nsOf hns) TB).run callerA [] s₁ H ⟨[.ref a],[]⟩ [.ref a] [.ref a] _ _ hr rfl e0 (hbind s₁ (.ref a)) (.cons rfl .nil) (hsp H hH hS)
  refine codeAny_mono run ?_
  intro r s' h
  match r,h with
  | .error e,h => exact False.elim h
  | .ok .next,h => exact False.elim h
  | .ok .brk,h => exact False.elim h
  | .ok .cont,h => exact False.elim h
  | .ok (.ret u), ⟨v, H', os, bare, un, hok', r', q⟩ =>
    cases (show v = .bl true from q)
    cases (show u = Value.bool true from r')
    have key : ∀ b o, b ∉ cs.map (·.2) → s₁.heap.get? b = some o → s'.heap.get? b = some o := fun b o nb e => by
      cases q : H b with
      | none => exact un.keep b o e q (fun z => absurd (show b ∈ ([] : List Addr) from z) (by simp)) (by simp)
      | some u =>
        rcases hA b u q with ⟨rfl,_,ob,xs,rfl⟩ | ⟨h3,_⟩
        · obtain ⟨e1,_⟩ := hok _ _ q
          obtain ⟨e2, _⟩ := hok' _ _ (un.frzs _ ob _ q)
          rw [e] at e1
          cases e1
          exact e2
        · exact absurd h3 nb
    have grown : ∀ p ∈ cs, ∃ more : Array Value, s'.heap.get? p.2 = some { cls := .none, data := .fields more } := fun p hp => by
      obtain ⟨more,z⟩ := un.tbls p.2 #[] (hH p hp)
      exact ⟨_, hok' p.2 _ z⟩
    refine ⟨rfl,⟨fun b o e => ?_,fun b o e => ?_⟩,os,bare⟩
    · by_cases hb : b ∈ cs.map (·.2)
      · obtain ⟨p,hp,rfl⟩ := List.mem_map.mp hb
        obtain ⟨more,hm⟩ := grown p hp
        rw [hT p hp] at e
        cases e
        exact .inr (.inl ⟨((C p hp).tab (hT p hp)).isCodeTable,rfl,#[],more,rfl,by rw [Array.empty_append]; exact hm⟩)
      · exact .inl (key b o hb e)
    · by_cases hb : b ∈ cs.map (·.2)
      · obtain ⟨p,hp,rfl⟩ := List.mem_map.mp hb
        obtain ⟨more,hm⟩ := grown p hp
        exact ⟨_,hm⟩
      · exact ⟨o,key b o hb e⟩
end Fx
namespace Fx
open PySem PySem.Spec PyProof.Rows L2 SX Ap
end Fx
set_option maxHeartbeats 4000000
namespace Fx
open PySem PySem.Spec PyProof.Rows L2 SX Ap
structure DefY where
  at_ : PySem.W.Frag → Addr
  name : PySem.Str
  qual : PySem.Str
  params : Arguments
  body : List Stmt
  scope : Scope
  dfl : List He.Dv := []
  kwd : List (PySem.Str × He.Dv) := []
def fnY (K : PySem.W.Frag) (a : Addr) : He.FnW := match K.lookup a with
  | some ⟨_,_,.func fd,_⟩ => some (fd.name,fd.qualname,fd.params,fd.body,fd.scope,fd.globals,fd.closure,fd.builtins)
  | _ => none
def fdOf (K : PySem.W.Frag) (a : Addr) : FuncData := match K.lookup a with
  | some ⟨_,_,.func fd,_⟩ => fd
  | _ => default
def DefY.val (d : DefY) : He.FnW := some (d.name,d.qual,d.params,.stmts d.body,d.scope,mainGlobals,[],builtinsNs)
def DefY.dvs (K : PySem.W.Frag) (d : DefY) : List V := d.dfl.map (He.Dv.v K)
def DefY.kws (K : PySem.W.Frag) (d : DefY) : List (PySem.Str × V) := d.kwd.map fun q => (q.1,q.2.v K)
def DefY.ok (K : PySem.W.Frag) (d : DefY) : Bool := PySem.W.keepIn K (.ref (d.at_ K)) && (match K.lookup (d.at_ K) with
  | some ⟨_,_,.func fd,_⟩ => PySem.W.codeIn K fd.code d.qual && (He.dflB K fd.defaults (d.dvs K) && He.kwdB K fd.kwdefaults (d.kws K))
  | _ => false)
theorem DefY.funD {K : PySem.W.Frag} {d : DefY} (e : fnY K (d.at_ K) = d.val) (c : d.ok K = true) : FunD K d.name d.qual d.params d.body d.scope (d.dvs K) (d.kws K) (d.at_ K) (fdOf K (d.at_ K)) := by
  obtain ⟨kp,c2⟩ := He.ba c
  unfold fnY at e
  unfold fdOf
  cases q : K.lookup (d.at_ K) with
  | none => rw [q] at c2; cases c2
  | some o =>
    obtain ⟨oc,od,dt,osl⟩ := o
    rw [q] at c2 e
    cases dt with
    | func fd =>
      obtain ⟨n1,n2,n3,n4,n5,n6,n7,n8,n9,n10,n11,n12,n13,n14,n15⟩ := fd
      have e2 : (some (n1,n2,n3,n4,n5,n6,n7,n15) : He.FnW) = some (d.name,d.qual,d.params,.stmts d.body,d.scope,mainGlobals,[],builtinsNs) := e
      simp only [Option.some.injEq,Prod.mk.injEq] at e2
      obtain ⟨h1,h2,h3,h4,h5,h6,h7,h8⟩ := e2
      subst h1 h2 h3 h4 h5 h6 h7 h8
      have c3 : (PySem.W.codeIn K n13 d.qual && (He.dflB K n8 (d.dvs K) && He.kwdB K n9 (d.kws K))) = true := c2
      obtain ⟨k1,k2⟩ := He.ba c3
      obtain ⟨k3,k4⟩ := He.ba k2
      exact ⟨⟨oc,od,n8,n9,n10,n11,n12,n13,n14,osl,rfl,q,k1,He.dflB_ok k3,He.kwdB_ok k4⟩,kp⟩
    | _ => cases c2
abbrev Exs : Type := List (PySem.W.Frag → Bool)
structure Says (fn : List DefY) (ts : List He.Tab) (ex : Exs) (w : World) (K : PySem.W.Frag) : Prop where
  df : fn.map (fun d => fnY K (d.at_ K)) = fn.map DefY.val
  dk : ts.map (fun t => He.dicW K (t.1 K)) = ts.map fun t => some (He.keysIn w.params t.2)
  ok : ((fn.all fun d => d.ok K) && ex.all fun e => e K) = true
abbrev AlY : Type := List He.FnW × List (Option (List (Option (PySem.Str × Int)))) × Bool
def obsK (fn : List DefY) (ts : List He.Tab) (ex : Exs) (K : PySem.W.Frag) : AlY := (fn.map (fun d => fnY K (d.at_ K)),ts.map (fun t => He.dicW K (t.1 K)),(fn.all fun d => d.ok K) && ex.all fun e => e K)
def valY (fn : List DefY) (ts : List He.Tab) (w : World) : AlY := (fn.map DefY.val,ts.map fun t => some (He.keysIn w.params t.2),true)
section
variable {fn : List DefY} {ts : List He.Tab} {ex : Exs} {w : World} {K : PySem.W.Frag}
theorem Says.fact (c : Says fn ts ex w K) (i : Nat) {e : PySem.W.Frag → Bool} (h : ex[i]? = some e := by rfl) : e K = true := by
  have := (He.ba c.ok).2
  exact List.all_eq_true.mp this e (List.mem_of_getElem? h)
theorem Says.def_ (c : Says fn ts ex w K) (i : Nat) {d : DefY} (h : fn[i]? = some d := by rfl) : FunD K d.name d.qual d.params d.body d.scope (d.dvs K) (d.kws K) (d.at_ K) (fdOf K (d.at_ K)) := by
  have h1 := List.all_eq_true.mp (He.ba c.ok).1 d (List.mem_of_getElem? h)
  refine DefY.funD ?_ h1
  have h2 := congrArg (fun l => l[i]?) c.df
  simp only [List.getElem?_map,h,Option.map_some] at h2
  exact Option.some.inj h2
theorem Says.tab (c : Says fn ts ex w K) (i : Nat) {t : He.Tab} (h : ts[i]? = some t := by rfl) : ∃ es n,KDict K w (t.1 K) es n := by
  have h2 := congrArg (fun l => l[i]?) c.dk
  simp only [List.getElem?_map,h,Option.map_some] at h2
  exact He.dicW_ok (Option.some.inj h2)
end
structure Cx5 (fn : List DefY) (ts : List He.Tab) (ex : Exs) (w : World) (K : PySem.W.Frag) (mg : PySem.Str → Option Value) : Prop where
  c : Says fn ts ex w K
  kx : ∃ h : Heap,K.In h ∧ h.Ns mainGlobals mg
section
variable {fn : List DefY} {ts : List He.Tab} {ex : Exs} {w : World} {K : PySem.W.Frag} {mg : PySem.Str → Option Value}
theorem Cx5.glo (C : Cx5 fn ts ex w K mg) (i : Nat) {x : PySem.Str} (h : ex[i]? = some (fun K => (He.Fa.glo x).ok K) := by rfl) : mg x = some (.ref (He.ga K x)) := by
  obtain ⟨h', X, G⟩ := C.kx
  exact He.glo_ok X G (C.c.fact i h)
theorem Cx5.free (C : Cx5 fn ts ex w K mg) (i : Nat) {x : PySem.Str} (h : ex[i]? = some (fun K => (He.Fa.free x).ok K) := by rfl) : mg x = none := by
  obtain ⟨h', X, G⟩ := C.kx
  exact He.free_ok X G (C.c.fact i h)
theorem Cx5.str (C : Cx5 fn ts ex w K mg) (i : Nat) {x z : PySem.Str} (h : ex[i]? = some (fun K => (He.Fa.str x z).ok K) := by rfl) : ∃ t,mg x = some (.str z t) := by
  obtain ⟨h', X, G⟩ := C.kx
  exact He.str_ok X G (C.c.fact i h)
theorem Cx5.int (C : Cx5 fn ts ex w K mg) (i : Nat) {x : PySem.Str} {z : Int} (h : ex[i]? = some (fun K => (He.Fa.int x z).ok K) := by rfl) : ∃ t,mg x = some (.int z t) := by
  obtain ⟨h', X, G⟩ := C.kx
  exact He.int_ok X G (C.c.fact i h)
theorem Cx5.ns (C : Cx5 fn ts ex w K mg) (i : Nat) {x : PySem.Str} (h : ex[i]? = some (fun K => (He.Fa.glo x).ok K) := by rfl) : PySem.W.nsIn K mainGlobals x = some (some (.ref (He.ga K x))) := He.eqO_ok (C.c.fact i h)
end
def gY (x : PySem.Str) (K : PySem.W.Frag) : Addr := He.ga K x
def mY (c m : PySem.Str) (K : PySem.W.Frag) : Addr := He.ma K (He.ga K c) m
def oexB (x : PySem.Str) (K : PySem.W.Frag) : Bool := (match K.lookup (He.ga K x) with
  | some ⟨.type t, _, .cls ⟨_, _, .ref C :: bm, _, _, hd, _, _, _, _, hdel⟩, ⟨[_, _, _, _, some (.builtin n), _]⟩⟩ => decide (t = "type") && (decide (C = He.ga K x) && (hd && (!hdel && (decide (n = "ValueError.__new__") && PySem.HandSPX.refsVE bm))))
  | _ => false) && (He.eqO (PySem.W.findIn K (.ref (He.ga K x)) "__setattr__") (some (some (.builtin "object.__setattr__"))) && (decide (PySem.W.subIn K (.ref (He.ga K x)) (.type "BaseException") = some true) && (decide (PySem.W.typeIn K (.ref (He.ga K x)) = some (.type "type")) && PySem.W.keepIn K (.ref (He.ga K x)))))
theorem Z8m {x : PySem.Str} {K : PySem.W.Frag} (h : oexB x K = true) : OexC K (He.ga K x) := by
  obtain ⟨h0,h⟩ := He.ba h
  obtain ⟨h1,h⟩ := He.ba h
  obtain ⟨h2,h⟩ := He.ba h
  obtain ⟨h3,h4⟩ := He.ba h
  refine ⟨?_,He.eqO_ok h1,of_decide_eq_true h2,of_decide_eq_true h3,h4⟩
  split at h0
  · rename_i t dd nm bs C bm ns qn hd sn sub ab col hdel k0 k1 k2 k3 n k5 e
    obtain ⟨a1,h0⟩ := He.ba h0
    obtain ⟨a2,h0⟩ := He.ba h0
    obtain ⟨a3,h0⟩ := He.ba h0
    obtain ⟨a4,h0⟩ := He.ba h0
    obtain ⟨a5,a6⟩ := He.ba h0
    have b1 := of_decide_eq_true a1
    have b2 := of_decide_eq_true a2
    have b5 := of_decide_eq_true a5
    have b4 : hdel = false := by cases hdel <;> simp_all
    subst b1 b4 b5
    refine ⟨nm,qn,ns,bs,bm,sn,sub,ab,col,dd,k0,k1,k2,k3,k5,?_,a6⟩
    rw [e,b2,a3]
  · cases h0
def exCB (x : PySem.Str) (K : PySem.W.Frag) : Bool := xfB K (He.ga K x) && (He.eqO (PySem.W.findIn K (.ref (He.ga K x)) "__class__") (some (some (.builtin "object.__class__"))) && (He.eqO (PySem.W.specialIn K (.builtin "object.__class__") "__get__") (some (some (.builtin "getset_descriptor.__get__"))) && (decide (PySem.W.takesIn K (.builtin "object.__class__") = some true) && decide (PySem.W.mroIn K (He.ga K x) (.type "object") = some true))))
theorem Zbw {x : PySem.Str} {K : PySem.W.Frag} (h : exCB x K = true) : XfC K (He.ga K x) ∧ ExcC K (He.ga K x) := by
  obtain ⟨h0,h⟩ := He.ba h
  obtain ⟨h1,h⟩ := He.ba h
  obtain ⟨h2,h⟩ := He.ba h
  obtain ⟨h3,h4⟩ := He.ba h
  have X := xfB_ok h0
  exact ⟨X,⟨X.ga,X.gg,X.exC,X.hdC,He.eqO_ok h1,He.eqO_ok h2,of_decide_eq_true h3,of_decide_eq_true h4⟩⟩
def baseB (x : PySem.Str) (K : PySem.W.Frag) : Bool := He.eqO (PySem.W.specialIn K (.ref (He.ga K x)) "__getattribute__") (some (some (.builtin "type.__getattribute__"))) && (PySem.W.readsIn K (He.ga K x) (.type "type") && (match PySem.W.findCls K (.ref (He.ga K x)) (.type "type") "__init__" with
  | some (.val (.builtin n)) => decide (n = "ValueError.__init__")
  | _ => false))
theorem Ze0 {x : PySem.Str} {K : PySem.W.Frag} (h : baseB x K = true) : BaseC K (He.ga K x) := by
  obtain ⟨h1,h⟩ := He.ba h
  obtain ⟨h2,h3⟩ := He.ba h
  refine ⟨He.eqO_ok h1,h2,?_⟩
  split at h3
  · rename_i n e; rw [e,of_decide_eq_true h3]
  · cases h3
def kitB2 (x : PySem.Str) (v : PySem.W.Frag → Value) (K : PySem.W.Frag) : Bool := decide (PySem.W.kitOne K (.ref (He.ga K x)) (v K) = some true)
theorem Z9q {x : PySem.Str} {v : PySem.W.Frag → Value} {K : PySem.W.Frag} (h : kitB2 x v K = true) : PySem.W.kitOne K (.ref (He.ga K x)) (v K) = some true := of_decide_eq_true h
def initB (x : PySem.Str) (K : PySem.W.Frag) : Bool := He.eqO (PySem.W.findIn K (.ref (He.ga K x)) "__init__") (some (some (.ref (mY x "__init__" K)))) && decide (PySem.W.typeIn K (.ref (mY x "__init__" K)) = some (.type "function"))
theorem Z6t {x : PySem.Str} {K : PySem.W.Frag} (h : initB x K = true) : PySem.W.findIn K (.ref (He.ga K x)) "__init__" = some (some (.ref (mY x "__init__" K))) ∧ PySem.W.typeIn K (.ref (mY x "__init__" K)) = some (.type "function") := by
  obtain ⟨h1,h2⟩ := He.ba h
  exact ⟨He.eqO_ok h1,of_decide_eq_true h2⟩
def insB (x : PySem.Str) (K : PySem.W.Frag) : Bool := He.eqO (PySem.W.findIn K (.ref (He.ga K x)) "__class__") (some (some (.builtin "object.__class__"))) && (He.eqO (PySem.W.specialIn K (.builtin "object.__class__") "__get__") (some (some (.builtin "getset_descriptor.__get__"))) && (decide (PySem.W.takesIn K (.builtin "object.__class__") = some true) && (decide (PySem.W.mroIn K (He.ga K x) (.type "object") = some true) && decide (PySem.W.kitOne K (.ref (He.ga K x)) (.ref (He.ga K x)) = some true))))
theorem Zg7 {x : PySem.Str} {K : PySem.W.Frag} (cl : Cls K (He.ga K x)) (h : insB x K = true) : C8.InsC K (He.ga K x) := by
  obtain ⟨h1,h⟩ := He.ba h
  obtain ⟨h2,h⟩ := He.ba h
  obtain ⟨h3,h⟩ := He.ba h
  obtain ⟨h4,h5⟩ := He.ba h
  exact ⟨cl,He.eqO_ok h1,He.eqO_ok h2,of_decide_eq_true h3,of_decide_eq_true h4,of_decide_eq_true h5⟩
def eqB5 (x : PySem.Str) (K : PySem.W.Frag) : Bool := He.eqO (PySem.W.findIn K (.ref (He.ga K x)) "__eq__") (some (some (.ref (mY x "__eq__" K)))) && (PySem.W.isFn K (.ref (mY x "__eq__" K)) && ((bTypes.all fun n => PySem.W.notFirst K (He.ga K x) (.type n)) && (bTypes.all fun n => decide (PySem.W.kitOne K (.type n) (.ref (He.ga K x)) = some false))))
def noDigB (K : PySem.W.Frag) : Bool := He.eqO (PySem.W.nsIn K cStatics "sys.int_max_str_digits") (some none)
theorem Zbx {K : PySem.W.Frag} (h : noDigB K = true) : NoDig K := He.eqO_ok h
end Fx
set_option maxHeartbeats 4000000
set_option maxHeartbeats 0
section
open PySem PySem.W PySem.Calls PyProof.Rows
theorem Ap.pre_law : (OpenLaw.row PySem.Challenge.rw_anchorpages_k40_trees_without_sharing).Holds → PySem.Challenge.rw_anchorpages_k40_trees_without_sharing.Holds := by
  intro h
  w_on; o_law
  exact h
end
set_option maxHeartbeats 4000000
namespace Fx
open PySem PySem.Spec PyProof.Rows L2 SX Ap
section
open HandSHeadRun PySem.W
end
end Fx
set_option maxHeartbeats 4000000
namespace Fx
open PySem PySem.Spec PyProof.Rows L2 SX Ap
def notT (g : Addr → Option Obj) (a : Addr) : Bool := match g a with
  | some ⟨.none,_,.fields _,_⟩ => false
  | _ => true
def obsT (as : List Addr) (fn : List DefY) (ts : List He.Tab) (ex : Exs) (g : Addr → Option Obj) : AlY := obsK fn ts ex (He.frG g (as.filter (notT g)))
def hookT (as : List Addr) (fn : List DefY) (ts : List He.Tab) (ex : Exs) : PySem.W.Hook where
  α := AlY
  obs := fun s => obsT as fn ts ex s.heap.get?
  val := fun w => valY fn ts w
  says := fun w h => ∃ K : PySem.W.Frag,K.In h ∧ Says fn ts ex w K
  of := fun _ _ e => ⟨_,He.frG_in,⟨congrArg (fun z : AlY => z.1) e,congrArg (fun z : AlY => z.2.1) e,congrArg (fun z : AlY => z.2.2) e⟩⟩
  keeps := fun _ _ _ ⟨K,hK,c⟩ k => ⟨K,PySem.W.Frag.In.keeps hK k,c⟩
theorem Zg8 {as : List Addr} {fn : List DefY} {ts : List He.Tab} {ex : Exs} {g : Addr → Option Obj} {s : Shared} (h : ∀ a,g a = s.heap.get? a) : obsT as fn ts ex g = (hookT as fn ts ex).obs s := by
  have e : g = s.heap.get? := funext h
  rw [e] <;> rfl
def cY (x : PySem.Str) (K : PySem.W.Frag) : Addr := match PySem.W.tabIn K x with
  | some p => p.1
  | none => 0
def tY (x : PySem.Str) (K : PySem.W.Frag) : Addr := match PySem.W.tabIn K x with
  | some p => p.2
  | none => 0
def mkB (x : PySem.Str) (K : PySem.W.Frag) : Bool := (PySem.W.tabIn K x).isSome && ((K.lookup (tY x K)).isNone && (match K.lookup (He.ga K x) with
  | some ⟨_,_,.func fd,_⟩ => (match fd.code with
    | .ref c => decide (c = cY x K)
    | _ => false)
  | _ => false))
theorem Z7n {x : PySem.Str} {K : PySem.W.Frag} (h : mkB x K = true) : PySem.W.tabIn K x = some (cY x K,tY x K) ∧ K.lookup (tY x K) = none ∧ (fdOf K (He.ga K x)).code = .ref (cY x K) := by
  obtain ⟨h1,h⟩ := He.ba h
  obtain ⟨h2,h3⟩ := He.ba h
  refine ⟨?_,by simpa using h2,?_⟩
  · unfold cY tY
    cases e : PySem.W.tabIn K x with
    | none => rw [e] at h1; cases h1
    | some p => rfl
  · cases e : K.lookup (He.ga K x) with
    | none => rw [e] at h3; cases h3
    | some o =>
      rw [e] at h3
      obtain ⟨oc,od,dat,sl⟩ := o
      have hf : ∀ fd : FuncData,dat = .func fd → fdOf K (He.ga K x) = fd := fun fd q => by
        subst q; unfold fdOf; rw [e]
      cases dat with
      | func fd =>
        rw [hf fd rfl]
        have h3 : (match fd.code with | .ref c => decide (c = cY x K) | _ => false) = true := h3
        cases e2 : fd.code with
        | ref c =>
          rw [e2] at h3
          rw [of_decide_eq_true (show decide (c = cY x K) = true from h3)]
        | _ => rw [e2] at h3; cases h3
      | _ => cases h3
theorem Z8n {K : PySem.W.Frag} {x q : PySem.Str} {st : Stmt} {f c : Addr} {fd : FuncData} (F : FunD K x q (defArgs st) (defBody st) (defScope st) [] [] f fd) (h : fd.code = .ref c) : FunC K x q st f fd c := by
  obtain ⟨oc,od,dV,kV,doc,pm,an,cdv,ct,osl,e1,e2,e3,e4,e5⟩ := F.ex
  subst e1
  have hc : cdv = .ref c := h
  subst hc
  have hd : dV = .none := by
    rcases e4 with ⟨_,e⟩ | ⟨h1,_⟩
    · exact e
    · exact absurd rfl h1
  subst hd
  exact ⟨oc,od,kV,doc,pm,an,ct,osl,rfl,e2,e3⟩
def tbY (ms : List PySem.Str) (K : PySem.W.Frag) : List (Addr × PySem.Str) := ms.map fun m => (tY m K, m ++ ".<locals>." ++ "<lambda>")
structure LmY [Tb] (ms : List PySem.Str) (base : Heap) (mg : PySem.Str → Option Value) (K : PySem.W.Frag) : Prop where
  T : Tb.T = tbY ms K
  b : ∀ m ∈ ms,LamX.TabB base mg (cY m K) (tY m K)
  d : (ms.map fun m => tY m K).Nodup
theorem LmY.hm [Tb] {ms : List PySem.Str} {base : Heap} {mg : PySem.Str → Option Value} {K : PySem.W.Frag} (B : LmY ms base mg K) {m : PySem.Str} (h : m ∈ ms) : (tY m K, m ++ ".<locals>." ++ "<lambda>") ∈ Tb.T := by
  rw [B.T]; exact List.mem_map.mpr ⟨m,h,rfl⟩
theorem Zby {K : PySem.W.Frag} : ∀ {ms : List PySem.Str},(ms.map fun m => tY m K).Nodup → ∀ a ∈ ms,∀ b ∈ ms,tY a K = tY b K → a = b
  | [],_,a,h,_,_,_ => by simp at h
  | x :: ms,d,a,ha,b,hb,e => by
    simp only [List.map_cons,List.nodup_cons] at d
    rcases List.mem_cons.mp ha with h1 | h1
    · rcases List.mem_cons.mp hb with h2 | h2
      · rw [h1,h2]
      · subst h1; exact absurd (List.mem_map.mpr ⟨b,h2,e.symm⟩) d.1
    · rcases List.mem_cons.mp hb with h2 | h2
      · subst h2; exact absurd (List.mem_map.mpr ⟨a,h1,e⟩) d.1
      · exact Zby d.2 a h1 b h2 e
theorem LmY.hu [Tb] {ms : List PySem.Str} {base : Heap} {mg : PySem.Str → Option Value} {K : PySem.W.Frag} (B : LmY ms base mg K) {m : PySem.Str} (h : m ∈ ms) : ∀ p ∈ Tb.T, p.1 = tY m K → p.2 = m ++ ".<locals>." ++ "<lambda>" := by
  intro p hp e
  rw [B.T] at hp
  obtain ⟨m', hm', rfl⟩ := List.mem_map.mp hp
  rw [Zby B.d m' hm' m h e]
theorem Ze1 {l : PySem.W.OpenLaw} {n k : Nat} {q : Program} {loose : List PySem.Str} {XP : (PySem.Str → Option Value) → Heap → Prop} {as : List Addr} {fn : List DefY} {ts : List He.Tab} {ex : Exs} {d : DefRec} {F : FF} {x : PySem.Str} (ms : List DefRec)
    (hn : l.most = some n) (hn2 : n ≤ sizeLine) (hdf : d.params.defaults = []) (hr : Room k callerA) (hrec : ∀ m ∈ ms,(recsOf q).find? (fun e => e.name == m.name) = some m)
    (hG : ∀ (w : World) (mg : PySem.Str → Option Value) (K : PySem.W.Frag),Cx5 fn ts ex w K mg → (∀ m ∈ ms,mkB m.name K = true) ∧ ((ms.map DefRec.name).map fun m => tY m K).Nodup ∧ ∃ fd : FuncData,mg d.name = some (.ref (He.ga K d.name)) ∧ (∀ (s : Shared) (u : Value),BindsTo s fd ⟨[u],[]⟩ [(x,u)]) ∧
        ∀ base : Heap,(@LmY ⟨tbY (ms.map DefRec.name) K⟩ (ms.map DefRec.name) base mg K) → @FnG l.prog w K mg base k (He.ga K d.name) fd [x] (@spF ⟨tbY (ms.map DefRec.name) K⟩ K 1 F))
    (hF : ∀ ns : List Int,ns.length ≤ n → ∃ Z,F [.frl (ns.map .int)] [] = .ok (.bl true) Z) :
    PySem.W.WalkO q loose XP (hookT as fn ts ex).says l.row.toRowW d [] (fun f vs => PySem.call f vs) := by
  apply Att.attach_call hn hdf
  intro w s₀ s₁ mg mb fa o pm cd doc a vs ns G Y ho hd hcd hmg hobj hints hlen hg
  obtain ⟨K,KX,c⟩ := Y
  obtain ⟨hmk,hnd,fd,h0,hb,hf⟩ := hG w mg K ⟨c,_,KX,G.T.g⟩
  have e := hmg.symm.trans h0
  cases e
  have tabs : ∀ m ∈ ms,PySem.W.CodeHd s₁.heap (cY m.name K) (tY m.name K) ∧ s₁.heap.get? (tY m.name K) = some { cls := .none,data := .fields #[] } := fun m hm =>
    PySem.W.tab_of G.T KX (hrec m hm) (Z7n (hmk m hm)).1
  letI tb : Tb := ⟨tbY (ms.map DefRec.name) K⟩
  let cs : List (Addr × Addr) := ms.map fun m => (cY m.name K,tY m.name K)
  have mem : ∀ p ∈ cs,∃ m ∈ ms,(cY m.name K,tY m.name K) = p := fun p hp => List.mem_map.mp hp
  refine Zg6 (cs := cs) (sp := fun vs H Q _ => spF K 1 F vs H Q (fun _ _ _ => False)) KX G.T.g G.T.b G.T.builtins G.T.nolimit hg (fun p hp => ?_) (fun p hp => ?_) (fun p hp => ?_) G.T.bmain hobj hints (Nat.le_trans hlen hn2) hr (fun base b1 b2 b3 => ?_) hb (fun H hH hS => ?_)
  · obtain ⟨m,hm,rfl⟩ := mem p hp; exact (tabs m hm).2
  · obtain ⟨m,hm,rfl⟩ := mem p hp; exact (Z7n (hmk m hm)).2.1
  · obtain ⟨m,hm,rfl⟩ := mem p hp; exact (tabs m hm).1
  · refine fnG_0 (hf base ⟨rfl,fun m hm => ?_,hnd⟩)
    obtain ⟨r,hr,rfl⟩ := List.mem_map.mp hm
    exact b3 (cY r.name K,tY r.name K) (List.mem_map.mpr ⟨r,hr,rfl⟩)
  · obtain ⟨Z,e⟩ := hF ns hlen
    refine ⟨rfl,[],[],[.frl (ns.map .int)],⟨rfl,List.nodup_nil,fun i a o h => by simp at h,fun p hp => ?_⟩,.cons (Zg0 hS) .nil,?_⟩
    · obtain ⟨m,hm,rfl⟩ := List.mem_map.mp hp
      obtain ⟨r,hr,rfl⟩ := List.mem_map.mp hm
      exact LamX.TabS.nil (hH (cY r.name K,tY r.name K) (List.mem_map.mpr ⟨r,hr,rfl⟩))
    · rw [e]
      intro ι' H' b g s r
      cases r
      rfl
end Fx
set_option maxHeartbeats 4000000
namespace Fx
open PySem PySem.Spec PyProof.Rows L2 SX Ap
variable [Tb]
mutual
def T.mv (f : Nat → Option Nat) : T → Option T
  | .non => some .non
  | .bl b => some (.bl b)
  | .int i => some (.int i)
  | .str l => some (.str l)
  | .tup ts => (T.mvs f ts).map .tup
  | .loc i => (f i).map .loc
  | .frl ts => (T.mvs f ts).map .frl
  | .ref a => some (.ref a)
  | .ty n => some (.ty n)
  | .lam _ _ _ _ => none
  | .ktp ts => (T.mvs f ts).map .ktp
def T.mvs (f : Nat → Option Nat) : List T → Option (List T)
  | [] => some []
  | t :: ts => match T.mv f t,T.mvs f ts with
    | some u,some us => some (u :: us)
    | _,_ => none
end
def mvP {κ : Type} (f : Nat → Option Nat) : List (κ × T) → Option (List (κ × T))
  | [] => some []
  | (k,t) :: ts => match T.mv f t,mvP f ts with
    | some u,some us => some ((k,u) :: us)
    | _,_ => none
def O.mv (f : Nat → Option Nat) : O → Option O
  | .lst ts => (T.mvs f ts).map .lst
  | .dk ts => (mvP f ts).map .dk
  | .dt ts => (mvP f ts).map .dt
  | .ins C ts => (mvP f ts).map (.ins C)
section
variable {K : PySem.W.Frag} {ι ι' : List Addr} {H : Hp} {f : Nat → Option Nat}
mutual
theorem Rep.mv (hf : ∀ i j a, f i = some j → ι[i]? = some a → ι'[j]? = some a) : ∀ {v : V} {t t' : T}, Rep K ι H v t → T.mv f t = some t' → Rep K ι' H v t'
  | _,_,_,.non,e => by cases e; exact .non
  | _,_,_,.bl b,e => by cases e; exact .bl b
  | _,_,_,.int i,e => by cases e; exact .int i
  | _,_,_,.str l,e => by cases e; exact .str l
  | _,_,_,.tup h r,e => by
    simp only [T.mv] at e
    obtain ⟨us,e1,rfl⟩ := Option.map_eq_some_iff.mp e
    exact .tup h (Reps.mv hf r e1)
  | _,_,_,.loc h,e => by
    simp only [T.mv] at e
    obtain ⟨j,e1,rfl⟩ := Option.map_eq_some_iff.mp e
    exact .loc (hf _ _ _ e1 h)
  | _,_,_,.frl h r,e => by
    simp only [T.mv] at e
    obtain ⟨us,e1,rfl⟩ := Option.map_eq_some_iff.mp e
    exact .frl h (Reps.mv hf r e1)
  | _,_,_,.ref a,e => by cases e; exact .ref a
  | _,_,_,.ty n,e => by cases e; exact .ty n
  | _,_,_,.lam _ _,e => by cases e
  | _,_,_,.ktp h r,e => by
    simp only [T.mv] at e
    obtain ⟨us,e1,rfl⟩ := Option.map_eq_some_iff.mp e
    exact .ktp h (Reps.mv hf r e1)
theorem Reps.mv (hf : ∀ i j a, f i = some j → ι[i]? = some a → ι'[j]? = some a) : ∀ {vs : List V} {ts ts' : List T}, Reps K ι H vs ts → T.mvs f ts = some ts' → Reps K ι' H vs ts'
  | _,_,_,.nil,e => by cases e; exact .nil
  | _,_,_,.cons r q,e => by
    simp only [T.mvs] at e
    split at e
    · rename_i u us e1 e2
      cases e
      exact .cons (Rep.mv hf r e1) (Reps.mv hf q e2)
    · cases e
end
theorem RepP.mv {κ : Type} (hf : ∀ i j a, f i = some j → ι[i]? = some a → ι'[j]? = some a) : ∀ {vs : List (κ × V)} {ts ts' : List (κ × T)}, RepP K ι H vs ts → mvP f ts = some ts' → RepP K ι' H vs ts'
  | _,_,_,.nil,e => by cases e; exact .nil
  | _,_,_,.cons r q,e => by
    simp only [mvP] at e
    split at e
    · rename_i u us e1 e2
      cases e
      exact .cons (Rep.mv hf r e1) (RepP.mv hf q e2)
    · cases e
theorem RepF.mv (hf : ∀ i j a, f i = some j → ι[i]? = some a → ι'[j]? = some a) : ∀ {vs : List (PySem.Str × V)} {ts ts' : List (String × T)}, RepF K ι H vs ts → mvP f ts = some ts' → RepF K ι' H vs ts'
  | _,_,_,.nil,e => by cases e; exact .nil
  | _,_,_,.cons r q,e => by
    simp only [mvP] at e
    split at e
    · rename_i u us e1 e2
      cases e
      exact .cons (Rep.mv hf r e1) (RepF.mv hf q e2)
    · cases e
theorem ObR.mv (hf : ∀ i j a, f i = some j → ι[i]? = some a → ι'[j]? = some a) {a : Addr} {o o' : O} (h : ObR K ι H a o) (e : O.mv f o = some o') : ObR K ι' H a o' := by
  cases o with
  | lst ts =>
    obtain ⟨us,e1,rfl⟩ := Option.map_eq_some_iff.mp e
    obtain ⟨vs,h,r⟩ := h
    exact ⟨vs,h,r.mv hf e1⟩
  | dk ts =>
    obtain ⟨us,e1,rfl⟩ := Option.map_eq_some_iff.mp e
    obtain ⟨vs,h,r⟩ := h
    exact ⟨vs,h,r.mv hf e1⟩
  | dt ts =>
    obtain ⟨us,e1,rfl⟩ := Option.map_eq_some_iff.mp e
    obtain ⟨vs,h,r⟩ := h
    exact ⟨vs,h,r.mv hf e1⟩
  | ins C ts =>
    obtain ⟨us,e1,rfl⟩ := Option.map_eq_some_iff.mp e
    obtain ⟨Ca,dx,vs,hn,h,r⟩ := h
    exact ⟨Ca,dx,vs,hn,h,r.mv hf e1⟩
end
section
variable {K : PySem.W.Frag} {n : Nat} {F : FF}
theorem Zbz {ι ι1 : List Addr} {H H1 : Hp} {Y Y' : Sto} (g : Gr ι ι1 H H1) (s : Sim K ι Y H) (s1 : Sim K ι1 Y' H1) : Y.length ≤ Y'.length := by
  rw [← s.len,← s1.len]
  cases h : ι.length with
  | zero => omega
  | succ m =>
    have hm : m < ι.length := by omega
    have := g.pre m _ (List.getElem?_eq_getElem hm)
    have := (List.getElem?_eq_some_iff.mp this).1
    omega
end
end Fx
set_option maxHeartbeats 4000000
namespace Fx
open PySem PySem.Spec PyProof.Rows L2 SX Ap
variable [Tb]
def gLeW : T → T → Sto → Option (T × Sto)
  | .int i,.int j,Z => some (.bl (decide (i ≤ j)),Z)
  | .str a,.str b,Z => some (.bl (!decide (b < a)),Z)
  | _,_,_ => none
def gGtW : T → T → Sto → Option (T × Sto)
  | .int i,.int j,Z => some (.bl (decide (j < i)),Z)
  | .str a,.str b,Z => some (.bl (decide (b < a)),Z)
  | _,_,_ => none
def gGeW : T → T → Sto → Option (T × Sto)
  | .int i,.int j,Z => some (.bl (decide (j ≤ i)),Z)
  | .str a,.str b,Z => some (.bl (!decide (a < b)),Z)
  | _,_,_ => none
section
variable {X : Cx} {K : PySem.W.Frag}
theorem Zap : OpF X K (compareOp .LtE) gLeW := by
  refine Xm (Qn op_le op_le_str) fun x y H Q h => ?_
  obtain ⟨ι,Z,tx,ty,s,rx,ry,p⟩ := h
  unfold gLeW at p
  split at p
  · cases rx; cases ry; exact .inl ⟨_,_,rfl,rfl,Zv p s (.bl _)⟩
  · cases rx; cases ry; exact .inr ⟨_,_,rfl,rfl,Zv p s (.bl _)⟩
  · exact p.elim
theorem Ze2 : OpF X K (compareOp .Gt) gGtW := by
  refine Xm (Qn op_gt op_gt_str) fun x y H Q h => ?_
  obtain ⟨ι,Z,tx,ty,s,rx,ry,p⟩ := h
  unfold gGtW at p
  split at p
  · cases rx; cases ry; exact .inl ⟨_,_,rfl,rfl,Zv p s (.bl _)⟩
  · cases rx; cases ry; exact .inr ⟨_,_,rfl,rfl,Zv p s (.bl _)⟩
  · exact p.elim
theorem o_geW : OpF X K (compareOp .GtE) gGeW := by
  refine Xm (Qn op_ge op_ge_str) fun x y H Q h => ?_
  obtain ⟨ι,Z,tx,ty,s,rx,ry,p⟩ := h
  unfold gGeW at p
  split at p
  · cases rx; cases ry; exact .inl ⟨_,_,rfl,rfl,Zv p s (.bl _)⟩
  · cases rx; cases ry; exact .inr ⟨_,_,rfl,rfl,Zv p s (.bl _)⟩
  · exact p.elim
end
def gPop : T → List T → Sto → Option (T × Sto)
  | .loc n,[],Z => match getL Z n with
    | some ts => match ts[ts.length - 1]? with
      | some t => some (t,Z.set n (.lst ts.dropLast))
      | none => none
    | none => none
  | _,_,_ => none
def gExtend : T → List T → Sto → Option (T × Sto)
  | .loc n,[.loc m],Z => match getL Z n,getL Z m with
    | some ts,some us => if ts.length + us.length ≤ Lim then some (.non,Z.set n (.lst (ts ++ us))) else none
    | _,_ => none
  | _,_,_ => none
theorem MtM.r {X : Cx} {id : String} {r : V → List V → Hp → VK → Prop} (h : MtM X id r) : MtR X id r := h
section
variable {X : Cx} {K : PySem.W.Frag}
theorem Reps.dropLast {ι : List Addr} {H : Hp} {vs : List V} {ts : List T} (r : Reps K ι H vs ts) : Reps K ι H vs.dropLast ts.dropLast := by
  rw [List.dropLast_eq_take,List.dropLast_eq_take,r.length]
  exact r.take _
theorem m_pop : MtR X "list.pop" (rFM K gPop) := Z6n (MtM.r mt_pop) fun x xs H Q h => by
  obtain ⟨ι,Z,tx,ts,s,rx,rs,p⟩ := h
  unfold gPop at p
  split at p
  · cases rs
    split at p
    · rename_i us e
      split at p
      · rename_i t et
        obtain ⟨a,vs,rfl,ha,h1,r⟩ := Ur s (W3 e) rx
        obtain ⟨y,ey,ry⟩ := r.get et
        refine ⟨a,vs,y,rfl,rfl,h1,by rw [r.length]; exact ey,?_⟩
        have g := Gr.mut (ι := ι) (o := .lst vs.dropLast) h1 trivial (List.mem_of_getElem? ha)
        exact p ι _ _ g (s.set ha ⟨_,upd_same,(r.gr g).dropLast⟩) (ry.gr g)
      · exact p.elim
    · exact p.elim
  · exact p.elim
theorem m_extend : MtR X "list.extend" (rFM K gExtend) := Z6n (MtM.r mt_extend) fun x xs H Q h => by
  obtain ⟨ι,Z,tx,ts,s,rx,rs,p⟩ := h
  unfold gExtend at p
  split at p
  · obtain ⟨y,rfl,ry⟩ := rs.one
    split at p
    · rename_i us ws e1 e2
      split at p
      · rename_i hl
        obtain ⟨a,vs,rfl,ha,h1,r⟩ := Ur s (W3 e1) rx
        obtain ⟨b,zs,rfl,hb,h2,r2⟩ := Ur s (W3 e2) ry
        refine ⟨a,b,vs,zs,rfl,rfl,h1,h2,by rw [r.length,r2.length]; exact Nat.le_trans hl Z2v,?_⟩
        have g := Gr.mut (ι := ι) (o := .lst (vs ++ zs)) h1 trivial (List.mem_of_getElem? ha)
        exact p ι _ _ g (s.set ha ⟨_,upd_same,(r.gr g).append (r2.gr g)⟩) .non
      · exact p.elim
    · exact p.elim
  · exact p.elim
end
def keyT : T → Option Key
  | .int i => some (.inl i)
  | .str l => some (.inr (S l))
  | _ => none
def keyEq : Key → Key → Bool
  | .inl i,.inl j => i == j
  | .inr a,.inr b => a.cps.toList == b.cps.toList
  | _,_ => false
theorem V1 (a b : Key) : keyEq a b = decide (a = b) := by
  cases a with
  | inl i => cases b with
    | inl j => by_cases h : i = j <;> simp [keyEq,h]
    | inr y => simp [keyEq]
  | inr x => cases b with
    | inl j => simp [keyEq]
    | inr y =>
      have : (x = y) ↔ x.cps.toList = y.cps.toList := ⟨fun h => by rw [h],fun h => by
        rw [← Z6q x,← Z6q y,h]⟩
      by_cases h : x.cps.toList = y.cps.toList
      · simp [keyEq,h,this.mpr h]
      · have h2 : ¬ x = y := fun z => h (this.mp z)
        have e1 : (x.cps.toList == y.cps.toList) = false := by simpa using h
        show (x.cps.toList == y.cps.toList) = _
        rw [e1,decide_eq_false (fun z => h2 (Sum.inr.inj z))]
def getK : List (Key × T) → Key → Option T
  | [],_ => none
  | (k,t) :: r,x => if keyEq k x = true then some t else getK r x
def hasK (kvs : List (Key × T)) (x : Key) : Bool := kvs.any fun p => keyEq p.1 x
def putKT (kvs : List (Key × T)) (x : Key) (y : T) : List (Key × T) := if hasK kvs x = true then kvs.map (fun p => if keyEq p.1 x = true then (p.1,y) else p) else kvs ++ [(x,y)]
def mergeKT (kvs more : List (Key × T)) : List (Key × T) := more.foldl (fun acc kv => putKT acc kv.1 kv.2) kvs
def getDK (Z : Sto) (i : Nat) : Option (List (Key × T)) := match Z[i]? with
  | some (.dk kvs) => some kvs
  | _ => none
theorem Z9r {Z : Sto} {i : Nat} {kvs : List (Key × T)} (h : getDK Z i = some kvs) : Z[i]? = some (.dk kvs) := by
  unfold getDK at h
  split at h
  · rename_i e; cases h; exact e
  · cases h
section
variable {K : PySem.W.Frag} {ι : List Addr} {H : Hp} {Z : Sto}
theorem Z62 {v : V} {t : T} {k : Key} (r : Rep K ι H v t) (e : keyT t = some k) : v = kV k := by
  cases r <;> first | (cases e; rfl) | (cases e)
theorem Zc0 : ∀ {vs : List (Key × V)} {ts : List (Key × T)} {k : Key},RepP K ι H vs ts → match getK ts k with
    | some t => ∃ v,valV vs k = some v ∧ Rep K ι H v t
    | none => valV vs k = none
  | _,_,k,.nil => rfl
  | _,_,k,.cons (k := k0) (v := v) (vs := vs) (t := t) (ts := ts) r q => by
    by_cases h : k0 = k
    · have e : keyEq k0 k = true := by rw [V1]; exact decide_eq_true h
      simp only [getK,e,if_true]
      exact ⟨v,valV_pos (p := (k0,v)) h,r⟩
    · have e : keyEq k0 k = false := by rw [V1]; exact decide_eq_false h
      have e2 : valV ((k0,v) :: vs) k = valV vs k := valV_neg (p := (k0,v)) h
      simp only [getK,e,Bool.false_eq_true,if_false,e2]
      exact Zc0 q
theorem Zf2 : ∀ {vs : List (Key × V)} {ts : List (Key × T)} {k : Key},RepP K ι H vs ts → (vs.any fun kv => decide (kv.1 = k)) = hasK ts k
  | _,_,k,.nil => rfl
  | _,_,k,.cons r q => by
    simp only [hasK,List.any_cons,V1]
    congr 1
    have := Zf2 (k := k) q
    simpa only [hasK,V1] using this
theorem Zc1 {k : Key} {y : V} {t : T} (ry : Rep K ι H y t) : ∀ {vs : List (Key × V)} {ts : List (Key × T)},RepP K ι H vs ts → RepP K ι H (vs.map fun kv => if kv.1 = k then (kv.1,y) else kv) (ts.map fun p => if keyEq p.1 k = true then (p.1,t) else p)
  | _,_,.nil => .nil
  | _,_,.cons (k := k0) r q => by
    simp only [List.map_cons,V1]
    by_cases h : k0 = k
    · simp only [h,if_true,decide_true]
      have := Zc1 ry q (k := k)
      simp only [V1] at this
      exact .cons ry this
    · simp only [h,if_false,decide_false,Bool.false_eq_true]
      have := Zc1 ry q (k := k)
      simp only [V1] at this
      exact .cons r this
theorem app_ok {k : Key} {y : V} {t : T} (ry : Rep K ι H y t) : ∀ {vs : List (Key × V)} {ts : List (Key × T)},RepP K ι H vs ts → RepP K ι H (vs ++ [(k,y)]) (ts ++ [(k,t)])
  | _,_,.nil => .cons ry .nil
  | _,_,.cons r q => .cons r (app_ok ry q)
theorem Zc2 {vs : List (Key × V)} {ts : List (Key × T)} {k : Key} {y : V} {t : T} (r : RepP K ι H vs ts) (ry : Rep K ι H y t) : RepP K ι H (putK vs k y) (putKT ts k t) := by
  unfold putK putKT
  rw [Zf2 r]
  split
  · exact Zc1 ry r
  · exact app_ok ry r
theorem Z9s : ∀ {more : List (Key × V)} {us : List (Key × T)} {vs : List (Key × V)} {ts : List (Key × T)},RepP K ι H more us → RepP K ι H vs ts → RepP K ι H (mergeK vs more) (mergeKT ts us)
  | _,_,_,_,.nil,r => r
  | _,_,vs,ts,.cons (k := k) (v := v) (vs := more) (t := y) (ts := us) ry q,r => by
    show RepP K ι H (mergeK (putK vs k v) more) (mergeKT (putKT ts k y) us)
    exact Z9s q (Zc2 r ry)
theorem Jl {i : Nat} {v : V} {kvs : List (Key × T)} (s : Sim K ι Z H) (r : Rep K ι H v (.loc i)) (e : getDK Z i = some kvs) : ∃ a vs,v = .ref a ∧ ι[i]? = some a ∧ H a = some (.dK vs) ∧ RepP K ι H vs kvs := by
  cases r with
  | loc h =>
    obtain ⟨a', h1, vs, h2, h3⟩ := s.at (Z9r e)
    rw [h] at h1; cases h1
    exact ⟨_,vs,rfl,h,h2,h3⟩
end
def gInW (x y : T) (Z : Sto) : Option (T × Sto) := match y with
  | .loc i => (match getDK Z i with
    | some kvs => (keyT x).map fun k => (.bl (getK kvs k).isSome,Z)
    | none => gIn x y Z)
  | _ => gIn x y Z
def gNotInW (x y : T) (Z : Sto) : Option (T × Sto) := match y with
  | .loc i => (match getDK Z i with
    | some kvs => (keyT x).map fun k => (.bl (!(getK kvs k).isSome),Z)
    | none => gNotIn x y Z)
  | _ => gNotIn x y Z
def gIxW (x y : T) (Z : Sto) : Option (T × Sto) := match x with
  | .loc i => (match getDK Z i with
    | some kvs => (match keyT y with
      | some k => (getK kvs k).map fun t => (t,Z)
      | none => none)
    | none => gIx x y Z)
  | _ => gIx x y Z
section
variable {X : Cx} {K : PySem.W.Frag}
theorem Z9t {ι : List Addr} {H : Hp} {vs : List (Key × V)} {ts : List (Key × T)} {k : Key} (r : RepP K ι H vs ts) : (valV vs k).isSome = (getK ts k).isSome := by
  have := Zc0 (k := k) r
  cases e : getK ts k with
  | none => rw [e] at this; rw [this]; rfl
  | some t => rw [e] at this; obtain ⟨v,h,_⟩ := this; rw [h]; rfl
theorem Zhy (hu : X.A.units + 1 < cLine) : OpR X (compareOp .In) (fun x y H Q => ∃ a o,y = .ref a ∧ DGet H a x o ∧ Q (.bl o.isSome) H) := by
  intro pins s σ H x y v u Q I rx ry h
  obtain ⟨a,o,rfl,g,q⟩ := h
  cases ry
  exact d_in hu I g rx fun s3 I3 => ⟨.bl o.isSome,H,I3,rfl,q⟩
theorem Zc3 (hu : X.A.units + 1 < cLine) : OpR X (compareOp .NotIn) (fun x y H Q => ∃ a o,y = .ref a ∧ DGet H a x o ∧ Q (.bl (!o.isSome)) H) := by
  intro pins s σ H x y v u Q I rx ry h
  obtain ⟨a,o,rfl,g,q⟩ := h
  cases ry
  exact d_notIn hu I g rx fun s3 I3 => ⟨.bl (!o.isSome),H,I3,rfl,q⟩
theorem o_inW (hu : X.A.units + 64 < cLine) (hK : X.K = K) : OpF X K (compareOp .In) gInW := by
  have h0 := o_in hK
  subst hK
  refine Xm (Qn h0 (Zhy (by omega))) fun x y H Q h => ?_
  obtain ⟨ι,Z,tx,ty,s,rx,ry,p⟩ := h
  unfold gInW at p
  split at p
  · split at p
    · rename_i i kvs e
      cases ek : keyT tx with
      | none => rw [ek] at p; exact p.elim
      | some k =>
        rw [ek,Option.map_some] at p
        obtain ⟨a,vs,rfl,_,h1,r⟩ := Jl s ry e
        have := Z62 rx ek
        subst this
        exact .inr ⟨a,valV vs k,rfl,DGet.k h1,by rw [Z9t r]; exact Zv p s (.bl _)⟩
    · exact .inl ⟨ι,Z,tx,_,s,rx,ry,p⟩
  · exact .inl ⟨ι,Z,tx,ty,s,rx,ry,p⟩
theorem Z9u (hu : X.A.units + 64 < cLine) (hK : X.K = K) : OpF X K (compareOp .NotIn) gNotInW := by
  have h0 := Zfv hK
  subst hK
  refine Xm (Qn h0 (Zc3 (by omega))) fun x y H Q h => ?_
  obtain ⟨ι,Z,tx,ty,s,rx,ry,p⟩ := h
  unfold gNotInW at p
  split at p
  · split at p
    · rename_i i kvs e
      cases ek : keyT tx with
      | none => rw [ek] at p; exact p.elim
      | some k =>
        rw [ek,Option.map_some] at p
        obtain ⟨a,vs,rfl,_,h1,r⟩ := Jl s ry e
        have := Z62 rx ek
        subst this
        exact .inr ⟨a,valV vs k,rfl,DGet.k h1,by rw [Z9t r]; exact Zv p s (.bl _)⟩
    · exact .inl ⟨ι,Z,tx,_,s,rx,ry,p⟩
  · exact .inl ⟨ι,Z,tx,ty,s,rx,ry,p⟩
theorem Zg9 (hu : X.A.units + 1 < cLine) : IxR X (fun x y H Q => ∃ a v,x = .ref a ∧ DGet H a y (some v) ∧ Q v H) := by
  intro value slice pins s σ H x y v u Q I rx ry h hs
  obtain ⟨a,r,rfl,g,q⟩ := h
  cases rx
  exact tail_any (dict_typeIs I g) slot_dict_getitem.lookup (d_getItem hu I g ry fun w' s3 I3 rw' => ⟨r, H, I3, rw', q⟩) hs
theorem Wh (hu : X.A.units + 64 < cLine) (hK : X.K = K) : IxR X (rF2 K gIxW) := by
  have h0 := i_ix hK
  subst hK
  refine Zbg (IxR.or h0 (Zg9 (by omega))) fun x y H Q h => ?_
  obtain ⟨ι,Z,tx,ty,s,rx,ry,p⟩ := h
  unfold gIxW at p
  split at p
  · split at p
    · rename_i i kvs e
      cases ek : keyT ty with
      | none => rw [ek] at p; exact p.elim
      | some k =>
        rw [ek] at p
        cases eg : getK kvs k with
        | none => simp only [eg] at p; exact p.elim
        | some t =>
          simp only [eg,Option.map_some] at p
          obtain ⟨a,vs,rfl,_,h1,r⟩ := Jl s rx e
          have := Z62 ry ek
          subst this
          have hv := Zc0 (k := k) r
          rw [eg] at hv
          obtain ⟨v,hv,rv⟩ := hv
          exact .inr ⟨a,v,rfl,hv ▸ DGet.k h1,Zv p s rv⟩
    · exact .inl ⟨ι,Z,_,ty,s,rx,ry,p⟩
  · exact .inl ⟨ι,Z,tx,ty,s,rx,ry,p⟩
end
def gSetW (x y t : T) (Z : Sto) : Option Sto := match x with
  | .loc i => (match getDK Z i with
    | some kvs => (match keyT y with
      | some k => if kvs.length < Lim then some (Z.set i (.dk (putKT kvs k t))) else none
      | none => none)
    | none => gSetL x y t Z)
  | _ => gSetL x y t Z
def gSubsW (fo fi : FE) : FG := fun t ρ Z => (fo ρ Z).bind fun x Z1 => (fi ρ Z1).bind fun y Z2 => match gSetW x y t Z2 with
  | some Z3 => .ok ρ Z3
  | none => .stuck
section
variable {X : Cx} {K : PySem.W.Frag} {W : WX} {o e : Expr} {pos : Pos} {fo fi : FE}
theorem Zhz {t t' : TSet} (h : PSet X t) (h' : PSet X t') : PSet X (fun o i v H Q => t o i v H Q ∨ t' o i v H Q) := fun pins s σ H o i v ov iv u Q I ro ri rv q => q.elim (h pins s σ H o i v ov iv u Q I ro ri rv) (h' pins s σ H o i v ov iv u Q I ro ri rv)
theorem Zga {ι : List Addr} {H : Hp} {Z Z3 : Sto} {x y v : V} {tx ty t : T} {Q : Hp → Prop} (s : Sim K ι Z H) (rx : Rep K ι H x tx) (ry : Rep K ι H y ty) (r : Rep K ι H v t) (e : gSetW tx ty t Z = some Z3) (q : ∀ H', Gr ι ι H H' → Sim K ι Z3 H' → Q H') : rSetL x y v H Q ∨ rSetD x y v H Q := by
  unfold gSetW at e
  split at e
  · split at e
    · rename_i i kvs eg
      split at e
      · rename_i k ek
        split at e
        · rename_i hz
          cases e
          obtain ⟨a,vs,rfl,hi,h1,rk⟩ := Jl s rx eg
          have := Z62 ry ek
          subst this
          have g := Gr.mut (ι := ι) (o := .dK (putK vs k v)) h1 trivial (List.mem_of_getElem? hi)
          refine .inr ⟨a,_,rfl,DPut.k h1 (by rw [rk.length]; exact Nat.lt_of_lt_of_le hz Z2v),q _ g (s.set hi ⟨_,upd_same,Zc2 (rk.gr g) (r.gr g)⟩)⟩
        · cases e
      · cases e
    · exact .inl (Zbk s rx ry r e q)
  · exact .inl (Zbk s rx ry r e q)
theorem Z8o (hu : X.A.units + 64 < cLine) (ho : FJ X K (Wt W) o fo) (hi : FJ X K (Wt W) e fi)
    (ha : ∀ v,assign (.Subscript o e pos) X.env v = (do
      let ov ← holding [v] (eval o X.env)
      let iv ← holding [v,ov] (eval e X.env)
      standAt pos
      holding [v,ov,iv] (setItem ov iv v)
      release [v,ov,iv] []) := by intro _; rfl) : PG X (.Subscript o e pos) (tG K W (gSubsW fo fi)) := Z9i (pg_sub ho hi (Zhz set_list (set_dict (by omega))) ha) fun v σ H Q h => by
  obtain ⟨ι,ρ,Z,t,is,r,p⟩ := h
  refine ⟨ι,ρ,Z,is.ie,(Zi (rep := Rep K) p).imp fun x H1 q => ?_⟩
  obtain ⟨ι1,Z1,tx,g1,s1,r1,p1⟩ := q
  refine ⟨ι1,ρ,Z1,(is.gr g1 s1).ie,(Zi (rep := Rep K) p1).imp fun y H2 q2 => ?_⟩
  obtain ⟨ι2,Z2,ty,g2,s2,r2,p2⟩ := q2
  split at p2
  · rename_i Z3 e3
    exact Zga s2 (r1.gr g2) r2 ((r.gr g1).gr g2) e3 fun H3 g3 s3 => p2 ι2 H3 σ g3 s3 ⟨is.len,((is.env.gr g1).gr g2).gr g3⟩
  · exact p2.elim
end
abbrev FP := Env → Sto → R (List (T × T))
def pNil : FP := fun _ Z => .ok [] Z
def pCons (fk fv : FE) (r : FP) : FP := fun ρ Z => (fk ρ Z).bind fun x Z1 => (fv ρ Z1).bind fun y Z2 => (r ρ Z2).bind fun xs Z3 => .ok ((x,y) :: xs) Z3
inductive RepQ (K : PySem.W.Frag) (ι : List Addr) (H : Hp) : List (V × V) → List (T × T) → Prop
  | nil : RepQ K ι H [] []
  | cons {v w : V} {vs : List (V × V)} {t u : T} {ts : List (T × T)} : Rep K ι H v t → Rep K ι H w u → RepQ K ι H vs ts → RepQ K ι H ((v,w) :: vs) ((t,u) :: ts)
theorem RepQ.gr {K : PySem.W.Frag} {ι ι' : List Addr} {H H' : Hp} (g : Gr ι ι' H H') : ∀ {vs : List (V × V)} {ts : List (T × T)}, RepQ K ι H vs ts → RepQ K ι' H' vs ts
  | _,_,.nil => .nil
  | _,_,.cons a b r => .cons (a.gr g) (b.gr g) (r.gr g)
def keysT : List (T × T) → Option (List (Key × T))
  | [] => some []
  | (x,y) :: r => match keyT x,keysT r with
    | some k,some ks => some ((k,y) :: ks)
    | _,_ => none
theorem Zc4 {K : PySem.W.Frag} {ι : List Addr} {H : Hp} : ∀ {vs : List (V × V)} {ts : List (T × T)} {ks : List (Key × T)},RepQ K ι H vs ts → keysT ts = some ks → ∃ ws : List (Key × V),vs = ws.map (fun kv => (kV kv.1,kv.2)) ∧ RepP K ι H ws ks
  | _,_,_,.nil,e => by cases e; exact ⟨[],rfl,.nil⟩
  | _,_,_,.cons a b r,e => by
    simp only [keysT] at e
    split at e
    · rename_i k ks e1 e2
      cases e
      obtain ⟨ws,rfl,r2⟩ := Zc4 r e2
      have := Z62 a e1
      subst this
      exact ⟨(k,_) :: ws,rfl,.cons b r2⟩
    · cases e
def tFP (K : PySem.W.Frag) (W : Wc) (f : FP) : L2.St → Hp → (List (V × V) → Hp → Prop) → Prop := fun σ H Q => ∃ ι ρ Z,Ie K W ι H σ ρ Z ∧ Post (RepQ K) K W.w σ ι H Q (f ρ Z)
def FPJ (X : Cx) (K : PySem.W.Frag) (W : Wc) (pos : Pos) (keys : List (Option Expr)) (values : List Expr) (f : FP) : Prop := ∃ trs,PPs X pos keys values trs ∧ ∀ σ H Q,tFP K W f σ H Q → tPairs trs σ H Q
def eDict (fp : FP) : FE := fun ρ Z => (fp ρ (Z ++ [.dk []])).bind fun ps Z1 => match keysT ps,getDK Z1 Z.length with
  | some ks,some [] => if ks.length ≤ 15 then .ok (.loc Z.length) (Z1.set Z.length (.dk (mergeKT [] ks))) else .stuck
  | _,_ => .stuck
section
variable {X : Cx} {K : PySem.W.Frag} {W : Wc} {pos : Pos}
theorem Zi0 : FPJ X K W pos [] [] pNil := ⟨[],pps_nil,fun σ H Q h => by
  obtain ⟨ι,ρ,Z,is,p⟩ := h
  exact p ι H [] Gr.refl is.sim .nil⟩
theorem Zc5 {k v : Expr} {ks : List (Option Expr)} {vs : List Expr} {fk fv : FE} {fr : FP} (hk : FJ X K W k fk) (hv : FJ X K W v fv) (hr : FPJ X K W pos ks vs fr) : FPJ X K W pos (some k :: ks) (v :: vs) (pCons fk fv fr) := by
  obtain ⟨trs,h,i⟩ := hr
  refine ⟨(tF K W fk,tF K W fv) :: trs,pps_cons hk hv h,fun σ H Q h => ?_⟩
  obtain ⟨ι,ρ,Z,is,p⟩ := h
  refine ⟨ι,ρ,Z,is,(Zi p).imp fun x H1 q => ?_⟩
  obtain ⟨ι1,Z1,tx,g1,s1,r1,p1⟩ := q
  refine ⟨ι1,ρ,Z1,is.gr g1 s1,(Zi p1).imp fun y H2 q2 => ?_⟩
  obtain ⟨ι2,Z2,ty,g2,s2,r2,p2⟩ := q2
  refine i σ H2 _ ⟨ι2,ρ,Z2,(is.gr g1 s1).gr g2 s2,(Zi (rep := RepQ K) p2).imp fun ps H3 q3 => ?_⟩
  obtain ⟨ι3,Z3,ts,g3,s3,r3,p3⟩ := q3
  exact p3 ι3 H3 _ Gr.refl s3 (.cons ((r1.gr g2).gr g3) (r2.gr g3) r3)
theorem Zi1 {keys : List (Option Expr)} {values : List Expr} {fp : FP} (h : FPJ X K W pos keys values fp) (hall : keys.all (·.isSome) = true := by rfl) (hl : keys.length = values.length := by rfl) (h0 : keys ≠ [] := by simp) (h15 : keys.length ≤ 15 := by decide) : FJ X K W (.Dict keys values pos) (eDict fp) := by
  obtain ⟨trs,h,i⟩ := h
  refine Xj (pe_disp h hall hl h0 h15) fun σ H Q q => ?_
  obtain ⟨ι,ρ,Z,is,p⟩ := q
  intro a ha
  have g0 : Gr ι (ι ++ [a]) H (upd H a (.dK [])) := Gr.new ha
  have s0 : Sim K (ι ++ [a]) (Z ++ [.dk []]) (upd H a (.dK [])) := is.sim.new ha ⟨[],upd_same,.nil⟩
  have hi : (ι ++ [a])[Z.length]? = some a := by rw [← is.sim.len]; simp
  refine i σ _ _ ⟨_,ρ,_,is.gr g0 s0,(Zi (rep := RepQ K) (p.shift g0)).imp fun ps H1 q1 => ?_⟩
  obtain ⟨ι1,Z1,ts,g1,s1,r1,p1⟩ := q1
  split at p1
  · rename_i ks e1 e2
    split at p1
    · rename_i hz
      obtain ⟨ws,rfl,r2⟩ := Zc4 r1 e1
      have hi1 := g1.pre _ _ hi
      obtain ⟨b,vs,eb,_,h2,r3⟩ := Jl s1 (.loc hi1) e2
      cases eb
      cases r3
      have g2 := Gr.mut (ι := ι1) (o := .dK (mergeK [] ws)) h2 trivial (List.mem_of_getElem? hi1)
      refine ⟨h2,ws,rfl,by rw [r2.length]; exact hz,?_⟩
      exact p1 ι1 _ _ g2 (s1.set hi1 ⟨_,upd_same,Z9s (r2.gr g2) .nil⟩) (.loc hi1)
    · exact p1.elim
  · exact p1.elim
end
end Fx
set_option maxHeartbeats 4000000
namespace Fx
open PySem PySem.Spec PyProof.Rows L2 SX Ap
variable [Tb]
def pickL {α : Type} (ts : List α) (lo hi st : Option Int) : List α := (sliceRange (sliceBounds lo hi st ts.length).1 (sliceBounds lo hi st ts.length).2.1 (sliceBounds lo hi st ts.length).2.2).filterMap (ts[·]?)
def gSlS (x : T) (lo hi st : Option Int) (Z : Sto) : Option (T × Sto) := match asList x Z with
  | some ts => if st = some 0 ∨ Lim < (pickL ts lo hi st).length then none else some (.loc Z.length,Z ++ [.lst (pickL ts lo hi st)])
  | none => none
def eSlS (f : FE) (lo hi st : FO) : FE := fun ρ Z => (f ρ Z).bind fun x Z1 => (lo ρ Z1).bind fun l Z2 => (hi ρ Z2).bind fun h Z3 => (st ρ Z3).bind fun k Z4 => lift (gSlS x l h k Z4)
theorem Reps.pick {K : PySem.W.Frag} {ι : List Addr} {H : Hp} {vs : List V} {ts : List T} (r : Reps K ι H vs ts) : ∀ js : List Nat,Reps K ι H (js.filterMap (vs[·]?)) (js.filterMap (ts[·]?))
  | [] => .nil
  | j :: js => by
    cases e : ts[j]? with
    | none =>
      have e2 : vs[j]? = none := by rw [List.getElem?_eq_none_iff] at e ⊢; rw [r.length]; exact e
      rw [List.filterMap_cons,List.filterMap_cons,e,e2]
      exact Reps.pick r js
    | some t =>
      obtain ⟨v,e2,rv⟩ := r.get e
      rw [List.filterMap_cons,List.filterMap_cons,e,e2]
      exact .cons rv (Reps.pick r js)
section
variable {X : Cx} {e : Expr} {lo hi : Option Expr} {st : Expr} {te : TE} {tl th ts : TO} {p2 pos : Pos}
def tSlS (K : PySem.W.Frag) (te : TE) (tl th ts : TO) : TE := fun σ H Q => te σ H fun x H1 => tl σ H1 fun l H2 => th σ H2 fun h H3 => ts σ H3 fun k H4 =>
  ∃ a xs,x = .ref a ∧ SqL K H4 a xs ∧ k ≠ some 0 ∧ (pickL xs l h k).length ≤ sizeLine ∧ ∀ p,H4 p = none → Q (.ref p) (upd H4 p (.lst (pickL xs l h k)))
theorem Zi2 (he : PE X e te) (hl : PO X lo tl) (hh : PO X hi th) (hs : PO X (some st) ts) : PE X (.Subscript e (.Slice lo hi (some st) p2) pos) (tSlS X.K te tl th ts) := by
  refine ⟨fun pins s σ H Q I h => ?_⟩
  refine Subscript_ (thn (he.run pins s σ H _ I h) fun v s1 ⟨x,H1,I1,r1,q1⟩ => ?_)
  refine wpAny_Slice (thn (hl.run pins s1 σ H1 _ I1 q1) fun vl s2 ⟨l,H2,I2,pl,q2⟩ => thn (hh.run pins s2 σ H2 _ I2 q2) fun vu s3 ⟨u,H3,I3,pu,q3⟩ => thn (hs.run pins s3 σ H3 _ I3 q3) fun vs s4 ⟨o,H4,I4,ps,q4⟩ => ?_)
  obtain ⟨a,xs,ex,hx,h0,hz2,q⟩ := q4
  subst ex
  cases r1
  have I5 : Inv X pins σ H4 { s4 with heap := s4.heap.push { cls := .type "slice", data := .fields #[vl, vu, vs] } } := I4.kept (t' := s4.toks) fun b ob q => Heap.get?_push_of_some _ q
  obtain ⟨its,r,ht,hz⟩ := I5.list hx
  have hlen := r.length
  show wpAny (model X.prog X.w) X.A (subscriptTail e (.Slice lo hi (some st) p2) (.ref a) (.ref s4.heap.objs.size)) (EP X pins σ Q) X.xe { s4 with heap := s4.heap.push { cls := .type "slice", data := .fields #[vl, vu, vs] } }
  refine tail_any (ops := [.ref a,.ref s4.heap.objs.size]) ht.isList.typeIs (PySem.slot_list_getitem.lookup) ?_ (by with_unfolding_all rfl)
  refine wpAny_getItem_list_slice ht.isList (Heap.IsSliceOf.new _ vl vu vs) pl pu ps h0 ?_ (by rw [List.size_toArray]; omega)
  have ep : (slicePick its.toArray l u o) = (pickL its l u o).toArray := by
    unfold slicePick pickL
    simp only [List.size_toArray,List.getElem?_toArray]
  rw [ep]
  have hp : Vals (pickL xs l u o) (pickL its l u o) := by
    unfold pickL
    rw [hlen]
    exact Z7m r _
  refine ⟨.ref _, _, I5.laid (t' := s4.toks) (o := .lst (pickL xs l u o)) (fun b ob q => Heap.get?_push_of_some _ q) (Nat.le_refl _) ?_, rfl, q _ (I5.hok.fresh (Nat.le_refl _))⟩
  exact ⟨hz2,_,0,hp,Heap.get?_push_size _ rfl⟩
end
section
variable {X : Cx} {K : PySem.W.Frag} {W : Wc} {a : Expr} {fa : FE} {pos p2 : Pos} {lo hi : Option Expr} {st : Expr} {fl fh fs : FO}
theorem Zi3 (hK : X.K = K) (ha : FJ X K W a fa) (hl : PO X lo (tFO K W fl)) (hh : PO X hi (tFO K W fh)) (hs : PO X (some st) (tFO K W fs)) : FJ X K W (.Subscript a (.Slice lo hi (some st) p2) pos) (eSlS fa fl fh fs) := by
  subst hK
  refine Xj (Zi2 ha hl hh hs) fun σ H Q h => ?_
  obtain ⟨ι,ρ,Z,is,p⟩ := h
  refine ⟨ι,ρ,Z,is,(Zi p).imp fun x H1 q => ?_⟩
  obtain ⟨ι1,Z1,tx,g1,s1,r1,p1⟩ := q
  refine ⟨ι1,ρ,Z1,is.gr g1 s1,(Zi (rep := oEq) p1).imp fun l H2 q2 => ?_⟩
  obtain ⟨ι2,Z2,tl,g2,s2,r2,p2⟩ := q2
  cases (show l = tl from r2)
  refine ⟨ι2,ρ,Z2,(is.gr g1 s1).gr g2 s2,(Zi (rep := oEq) p2).imp fun h H3 q3 => ?_⟩
  obtain ⟨ι3,Z3,th,g3,s3,r3,p3⟩ := q3
  cases (show h = th from r3)
  refine ⟨ι3,ρ,Z3,((is.gr g1 s1).gr g2 s2).gr g3 s3,(Zi (rep := oEq) p3).imp fun k H4 q4 => ?_⟩
  obtain ⟨ι4,Z4,tk,g4,s4,r4,p4⟩ := q4
  cases (show k = tk from r4)
  have p5 := U4 p4
  unfold gSlS at p5
  split at p5
  · rename_i us e
    split at p5
    · exact p5.elim
    · rename_i h0
      obtain ⟨b,vs,rfl,hq,r⟩ := Vo s4 (((r1.gr g2).gr g3).gr g4) e
      have hl : vs.length = us.length := r.length
      have rp : Reps X.K ι4 H4 (pickL vs l h k) (pickL us l h k) := by
        unfold pickL
        rw [hl]
        exact r.pick _
      refine ⟨b,vs,rfl,hq,fun z => h0 (.inl z),by rw [rp.length]; exact Nat.le_trans (Nat.le_of_not_lt fun z => h0 (.inr z)) Z2v,fun q hq => ?_⟩
      have g5 := Gr.new (ι := ι4) (o := .lst (pickL vs l h k)) hq
      have s5 : Sim X.K (ι4 ++ [q]) (Z4 ++ [.lst (pickL us l h k)]) (upd H4 q (.lst (pickL vs l h k))) := s4.newL rp hq
      exact p5 _ _ _ g5 s5 (.loc (by rw [← s4.len]; simp))
  · exact p5.elim
end
end Fx
set_option maxHeartbeats 4000000
namespace PySem.W
open PySem PySem.Calls PyProof.Rows Builtin
end PySem.W
namespace Fx
open PySem PySem.Spec PyProof.Rows L2
variable [Tb]
end Fx
set_option maxHeartbeats 4000000
namespace Fx
open PySem PySem.Spec PyProof.Rows L2 SX Ap
variable [Tb]
def neB (x : PySem.Str) (K : PySem.W.Frag) : Bool := He.eqO (PySem.W.findIn K (.ref (He.ga K x)) "__ne__") (some (some (.builtin "object.__ne__")))
def rRepW (K : PySem.W.Frag) : R2 := fun x y H Q => ∃ (l : Addr) (k : Nat) (xs : List V),x = .ref l ∧ y = .int (k : Int) ∧ SqT K H l xs ∧ xs ≠ [] ∧ 2 ≤ k ∧ k ≤ 2000 ∧ xs.length ≤ 100 ∧ ∀ p,H p = none → Q (.ref p) (upd H p (.tup (List.replicate k xs).flatten))
section
variable {X : Cx} {K : PySem.W.Frag}
theorem Zgb : OpR X (binaryOp .Mult) (rRepW X.K) := by
  intro pins s σ H x y v u Q I rx ry h
  obtain ⟨l,k,xs,rfl,rfl,sq,ne,k2,kM,xM,q⟩ := h
  cases rx
  obtain ⟨tk,rfl⟩ := ry
  obtain ⟨its,r,⟨⟨cls,dd,data,sl⟩,ho,hc,n,hd⟩,_⟩ := I.tuple sq
  dsimp only at hc hd
  subst hd
  subst hc
  have lens : its.length = xs.length := r.length.symm
  have full : its.toArray.isEmpty = false := by
    cases its with
    | cons a b => rfl
    | nil => exact absurd (List.eq_nil_of_length_eq_zero lens.symm) ne
  have asz : its.toArray.size = xs.length := by simpa using lens
  have few : xs.length * k ≤ 200000 := Nat.le_trans (Nat.mul_le_mul xM kM) (by decide)
  have few' : ((its.toArray.size : Nat) : Int) * (k : Int) ≤ 200000 := by
    have e : ((its.toArray.size : Nat) : Int) * (k : Int) = ((xs.length * k : Nat) : Int) := by rw [asz,Int.natCast_mul]
    rw [e]; omega
  have fl : (List.replicate k its).flatten.length ≤ sizeLine := by
    rw [lm_len_rep_flat,lens,sizeLine_eq,Nat.mul_comm]
    omega
  have b0 : (decide ((k : Int) < -(2 ^ 63)) || decide ((k : Int) ≥ 2 ^ 63)) = false := by
    rw [Bool.or_eq_false_iff]
    exact ⟨decide_eq_false (by omega),decide_eq_false (by omega)⟩
  have b1 : (its.toArray.isEmpty || (k : Int) == 1) = false := by
    rw [Bool.or_eq_false_iff]
    exact ⟨full,beq_eq_false_iff_ne.mpr (by omega)⟩
  have b2 : (decide ((k : Int) ≤ 0) || its.toArray.isEmpty) = false := by
    rw [Bool.or_eq_false_iff]
    exact ⟨decide_eq_false (by omega),full⟩
  have b4 : Builtin.Tuple.tupleTooMany (((its.toArray.size : Nat) : Int) * (k : Int)) = false := by
    unfold Builtin.Tuple.tupleTooMany
    rw [sizeLine_eq]; exact decide_eq_false (by omega)
  have tn : ((k : Int)).toNat = k := Int.toNat_natCast k
  have mul := tuple_mulW l its.toArray n dd sl (k : Int) tk b0 b1 b2 (by omega) b4 (by rw [tn,size_rep,List.size_toArray]; exact fl)
  rw [tn,size_rep] at mul
  have isT : s.TypeIs (.ref l) "tuple" := ⟨_, ho, rfl⟩
  refine wpAny_binaryOp_repeat_ref (U := "int") (T := "tuple") (by decide) ⟨_, ho, rfl⟩ (fun s' => typeIs_int s' _ tk) noFill_tuple_mul F.fills_int_mul F.slot_int_rmul repeat_tuple F.slot_int_index.lookup ?_
  refine call_meets F.slot_int_rmul (typeIs_int s _ tk) F.entry_int_rmul (F.args_int_rmul_2 _ _) (int_rmul_tuple _ tk l its.toArray n dd sl) ⟨ho,rfl,⟨_,ho,rfl⟩,?_⟩
  refine call_meets F.slot_tuple_mul ⟨_,ho,rfl⟩ F.entry_tuple_mul (F.args_tuple_mul_2 _ _) mul ⟨ho,?_⟩
  refine ⟨.ref s.heap.objs.size, _, I.laid (o := .tup (List.replicate k xs).flatten) (t' := s.toks) (fun b ob z => Heap.get?_push_of_some _ z) (Nat.le_refl _) ?_, rfl, q _ (I.hok.fresh (Nat.le_refl _))⟩
  refine ⟨?_,_,r.rep k,IsTup.new _ _⟩
  rw [lm_len_rep_flat,sizeLine_eq,Nat.mul_comm]
  omega
def gMulT : T → T → Sto → Option (T × Sto)
  | .tup ts,.int k,Z => if ts ≠ [] ∧ 2 ≤ k ∧ k ≤ 2000 ∧ ts.length ≤ 100 then some (.tup (List.replicate k.toNat ts).flatten,Z) else none
  | _,_,_ => none
theorem Zi4 (hK : X.K = K) : OpF X K (binaryOp .Mult) gMulT := by
  subst hK
  refine Xm Zgb fun x y H Q h => ?_
  obtain ⟨ι,Z,tx,ty,s,rx,ry,p⟩ := h
  unfold gMulT at p
  split at p
  · split at p
    · rename_i ts k hz
      obtain ⟨h0,h1,h2,h3⟩ := hz
      cases rx with
      | tup hs r =>
        cases ry
        obtain ⟨n,rfl⟩ : ∃ n : Nat,k = (n : Int) := ⟨k.toNat,by omega⟩
        rw [Int.toNat_natCast] at p
        rename_i a vs
        refine ⟨a,n,vs,rfl,rfl,hs,fun e => h0 ?_,by omega,by omega,by rw [r.length]; exact h3,fun d nd => ?_⟩
        · subst e; cases r; rfl
        · have g := Gr.new0 (ι := ι) (o := .tup (List.replicate n vs).flatten) nd
          exact p ι _ _ g (s.same (Qe nd)) (.tup (SqT.of upd_same) ((r.replicate n).gr g))
    · exact p.elim
  · exact p.elim
end
def gIsiI (C : String) : List T → Sto → Option (T × Sto)
  | [t, .tup [.ty "list", .ty "tuple"]], Z => if insC t Z = some C then some (.bl false, Z) else gIsi [t, .tup [.ty "list", .ty "tuple"]] Z
  | xs,Z => gIsi xs Z
def kitLT (x : PySem.Str) (K : PySem.W.Frag) : Bool := decide (PySem.W.kitAny K (.ref (He.ga K x)) [.type "list", .type "tuple"] = some false)
theorem Ze3 {x : PySem.Str} {K : PySem.W.Frag} (h : kitLT x K = true) : PySem.W.kitAny K (.ref (He.ga K x)) [.type "list", .type "tuple"] = some false := of_decide_eq_true h
section
variable {X : Cx} {K : PySem.W.Frag} {C : String} {Ca fe : Addr}
theorem Zi5 (hK : X.K = K) (oc : OC K C Ca fe) (hl : PySem.W.kitAny K (.ref Ca) [.type "list", .type "tuple"] = some false) : CallR X (.builtin "isinstance") (rFC K (gIsiI C)) := by
  subst hK
  refine W6 (Z3g (Z6m rfl) Z7j) fun xs H Q h => ?_
  obtain ⟨ι,Z,ts,s,r,p⟩ := h
  unfold gIsiI at p
  split at p
  · split at p
    · rename_i hc
      obtain ⟨v,w,rfl,r1,r2⟩ := r.two
      obtain ⟨b,vs,rfl,hq,rs⟩ := r2.tupE
      obtain ⟨a,dx,ws,i,rfl,rfl,ha⟩ := insC_at oc.cf s r1 hc
      obtain ⟨x1,x2,rfl,q1,q2⟩ := rs.two
      cases q1
      cases q2
      exact .inr ⟨_, b, _, _, [.type "list", .type "tuple"], false, rfl, hq, .cons (.ty _) (.cons (.ty _) .nil), .base (.ins ha oc.ins.cl oc.ins.ha oc.ins.hn oc.ins.htk oc.ins.hm), hl, Zv p s (.bl _)⟩
    · exact .inl ⟨ι,Z,_,s,r,p⟩
  · exact .inl ⟨ι,Z,_,s,r,p⟩
end
end Fx
set_option maxHeartbeats 4000000
namespace Ap
open PySem PySem.Spec PyProof.Rows L2 SX Fx
def topS (i : Nat) : Stmt := PySem.Challenge.pw_anchorpages_k40_trees_without_sharing.main.body.getD i (.Pass ⟨0,0,0,0⟩)
def clsS (s : Stmt) (j : Nat) : Stmt := match s with
  | .ClassDef _ _ _ b _ _ _ _ _ _ _ => b.getD j (.Pass ⟨0,0,0,0⟩)
  | _ => .Pass ⟨0,0,0,0⟩
abbrev V6 : Stmt := topS 28
abbrev Z8p : List Str := ["_law_cell"]
abbrev Z2a : List Str := ["_law_cell"]
theorem Z7o : FnScope Z8p Z2a (defScope V6) := ⟨rfl,rfl,rfl,by decide +kernel,rfl,by decide +kernel,by decide +kernel⟩
def Z3x : DefY := { at_ := (gY "_law_well"), name := "_law_well", qual := "_law_well", params := defArgs V6, body := defBody V6, scope := defScope V6, dfl := [], kwd := [] }
abbrev V7 : Stmt := topS 29
abbrev Z8q : List Str := ["_law_well_here", "_law_bound", "_law_digit", "_law_mixed"]
abbrev Z2b : List Str := ["_law_well_here", "_law_bound"]
theorem Jm : FnScope Z8q Z2b (defScope V7) := ⟨rfl,rfl,rfl,by decide +kernel,rfl,by decide +kernel,by decide +kernel⟩
def Z3y : DefY := { at_ := (gY "_law_draw"), name := "_law_draw", qual := "_law_draw", params := defArgs V7, body := defBody V7, scope := defScope V7, dfl := [], kwd := [] }
abbrev Us : Stmt := topS 30
abbrev Zaq : List Str := ["_law_well_here", "_law_some"]
abbrev Z3j : List Str := ["_law_well_here", "_law_some"]
theorem Z8r : FnScope Zaq Z3j (defScope Us) := ⟨rfl,rfl,rfl,by decide +kernel,rfl,by decide +kernel,by decide +kernel⟩
def Z4q : DefY := { at_ := (gY "_law_one"), name := "_law_one", qual := "_law_one", params := defArgs Us, body := defBody Us, scope := defScope Us, dfl := [], kwd := [] }
abbrev Xn : Stmt := topS 31
abbrev Z2c : List Str := ["_law_well_here", "_law_size", "_law_way", "_law_some", "_law_turn"]
abbrev Z2d : List Str := ["_law_well_here", "_law_size"]
theorem Vq : FnScope Z2c Z2d (defScope Xn) := ⟨rfl,rfl,rfl,by decide +kernel,rfl,by decide +kernel,by decide +kernel⟩
def Z3z : DefY := { at_ := (gY "_law_node"), name := "_law_node", qual := "_law_node", params := defArgs Xn, body := defBody Xn, scope := defScope Xn, dfl := [], kwd := [] }
abbrev W7 : Stmt := topS 32
abbrev Z7p : List Str := ["_law_well_here", "_law_size", "_law_found", "_law_k", "_law_again"]
abbrev Z10 : List Str := ["_law_well_here", "_law_size"]
theorem Qw : FnScope Z7p Z10 (defScope W7) := ⟨rfl,rfl,rfl,by decide +kernel,rfl,by decide +kernel,by decide +kernel⟩
def Z34 : DefY := { at_ := (gY "_law_nodes"), name := "_law_nodes", qual := "_law_nodes", params := defArgs W7, body := defBody W7, scope := defScope W7, dfl := [], kwd := [] }
abbrev Xd : Stmt := clsS (topS 2) 0
abbrev Z5u : List Str := ["self", "index"]
abbrev Qh : List Str := ["self", "index"]
theorem Z4r : FnScope Z5u Qh (defScope Xd) := ⟨rfl,rfl,rfl,by decide +kernel,rfl,by decide +kernel,by decide +kernel⟩
def Z11 : DefY := { at_ := (mY "NoGraph" "__init__"), name := "__init__", qual := "NoGraph.__init__", params := defArgs Xd, body := defBody Xd, scope := defScope Xd, dfl := [.non], kwd := [] }
abbrev Yu : Stmt := topS 19
abbrev Z48 : List Str := ["graphs", "graph"]
abbrev Z49 : List Str := ["graphs"]
theorem Nf : FnScope Z48 Z49 (defScope Yu) := ⟨rfl,rfl,rfl,by decide +kernel,rfl,by decide +kernel,by decide +kernel⟩
def Nh : DefY := { at_ := (gY "require_graphs"), name := "require_graphs", qual := "require_graphs", params := defArgs Yu, body := defBody Yu, scope := defScope Yu, dfl := [], kwd := [] }
abbrev Jc : Stmt := topS 15
abbrev Zc6 : List Str := ["value", "least", "most"]
abbrev Z4s : List Str := ["value", "least", "most"]
theorem Zar : FnScope Zc6 Z4s (defScope Jc) := ⟨rfl,rfl,rfl,by decide +kernel,rfl,by decide +kernel,by decide +kernel⟩
def Z63 : DefY := { at_ := (gY "is_from"), name := "is_from", qual := "is_from", params := defArgs Jc, body := defBody Jc, scope := defScope Jc, dfl := [], kwd := [] }
abbrev Xe : Stmt := clsS (topS 3) 0
abbrev Z5v : List Str := ["self", "depth"]
abbrev Qi : List Str := ["self", "depth"]
theorem Z4t : FnScope Z5v Qi (defScope Xe) := ⟨rfl,rfl,rfl,by decide +kernel,rfl,by decide +kernel,by decide +kernel⟩
def Z12 : DefY := { at_ := (mY "NoDepth" "__init__"), name := "__init__", qual := "NoDepth.__init__", params := defArgs Xe, body := defBody Xe, scope := defScope Xe, dfl := [.non], kwd := [] }
abbrev Yz : Stmt := topS 22
abbrev Z4u : List Str := ["depth", "most"]
abbrev Jd : List Str := ["depth", "most"]
theorem Z4a : FnScope Z4u Jd (defScope Yz) := ⟨rfl,rfl,rfl,by decide +kernel,rfl,by decide +kernel,by decide +kernel⟩
def Z0n : DefY := { at_ := (gY "require_depth"), name := "require_depth", qual := "require_depth", params := defArgs Yz, body := defBody Yz, scope := defScope Yz, dfl := [], kwd := [] }
abbrev U6 : Stmt := topS 24
abbrev Z4v : List Str := ["nodes", "number", "depth", "kind", "tag", "content", "pairs", "key", "value", "one"]
abbrev Nk : List Str := ["nodes", "number", "depth"]
theorem Wi : FnScope Z4v Nk (defScope U6) := ⟨rfl,rfl,rfl,by decide +kernel,rfl,by decide +kernel,by decide +kernel⟩
def Z64 : DefY := { at_ := (gY "tree_at"), name := "tree_at", qual := "tree_at", params := defArgs U6, body := defBody U6, scope := defScope U6, dfl := [], kwd := [] }
abbrev Z13 : Stmt := topS 20
abbrev Zc7 : List Str := ["node", "entry", "number"]
abbrev Z8s : List Str := ["node"]
theorem Z4f : FnScope Zc7 Z8s (defScope Z13) := ⟨rfl,rfl,rfl,by decide +kernel,rfl,by decide +kernel,by decide +kernel⟩
def Z9v : DefY := { at_ := (gY "inner"), name := "inner", qual := "inner", params := defArgs Z13, body := defBody Z13, scope := defScope Z13, dfl := [], kwd := [] }
abbrev Z8t : Stmt := topS 21
abbrev n_met : List Str := ["nodes", "begins", "found", "waiting", "number"]
abbrev Zgc : List Str := ["nodes", "begins"]
theorem Zc8 : FnScope n_met Zgc (defScope Z8t) := ⟨rfl,rfl,rfl,by decide +kernel,rfl,by decide +kernel,by decide +kernel⟩
def Zf3 : DefY := { at_ := (gY "met"), name := "met", qual := "met", params := defArgs Z8t, body := defBody Z8t, scope := defScope Z8t, dfl := [], kwd := [] }
abbrev Ym : Stmt := topS 23
abbrev W8 : List Str := ["graph", "depth", "order", "sizes", "turn", "number", "other"]
abbrev U7 : List Str := ["graph", "depth"]
theorem Zz : FnScope W8 U7 (defScope Ym) := ⟨rfl,rfl,rfl,by decide +kernel,rfl,by decide +kernel,by decide +kernel⟩
def Z0o : DefY := { at_ := (gY "unfolded_size"), name := "unfolded_size", qual := "unfolded_size", params := defArgs Ym, body := defBody Ym, scope := defScope Ym, dfl := [], kwd := [] }
abbrev X3 : Stmt := clsS (topS 4) 0
abbrev Z4w : List Str := ["self", "limit"]
abbrev U8 : List Str := ["self", "limit"]
theorem Z4b : FnScope Z4w U8 (defScope X3) := ⟨rfl,rfl,rfl,by decide +kernel,rfl,by decide +kernel,by decide +kernel⟩
def Z0p : DefY := { at_ := (mY "TooLarge" "__init__"), name := "__init__", qual := "TooLarge.__init__", params := defArgs X3, body := defBody X3, scope := defScope X3, dfl := [.non], kwd := [] }
abbrev Ut : Stmt := topS 25
abbrev Zas : List Str := ["graph", "depth"]
abbrev Z1p : List Str := ["graph", "depth"]
theorem Z8u : FnScope Zas Z1p (defScope Ut) := ⟨rfl,rfl,rfl,by decide +kernel,rfl,by decide +kernel,by decide +kernel⟩
def Z4x : DefY := { at_ := (gY "unfolded"), name := "unfolded", qual := "unfolded", params := defArgs Ut, body := defBody Ut, scope := defScope Ut, dfl := [], kwd := [] }
abbrev W9 : Stmt := topS 7
abbrev Z4y : List Str := ["text", "signs", "sign"]
abbrev Z2e : List Str := ["text", "signs"]
theorem Z14 : FnScope Z4y Z2e (defScope W9) := ⟨rfl,rfl,rfl,by decide +kernel,rfl,by decide +kernel,by decide +kernel⟩
def Z40 : DefY := { at_ := (gY "are_signs"), name := "are_signs", qual := "are_signs", params := defArgs W9, body := defBody W9, scope := defScope W9, dfl := [], kwd := [] }
abbrev Z03 : Stmt := topS 8
abbrev Ze4 : List Str := ["thing"]
abbrev Z6u : List Str := ["thing"]
theorem Zc9 : FnScope Ze4 Z6u (defScope Z03) := ⟨rfl,rfl,rfl,by decide +kernel,rfl,by decide +kernel,by decide +kernel⟩
def Z7q : DefY := { at_ := (gY "is_tag"), name := "is_tag", qual := "is_tag", params := defArgs Z03, body := defBody Z03, scope := defScope Z03, dfl := [], kwd := [] }
abbrev Vr : Stmt := topS 16
abbrev Z65 : List Str := ["value", "many", "one"]
abbrev Z3k : List Str := ["value", "many"]
theorem Z2f : FnScope Z65 Z3k (defScope Vr) := ⟨rfl,rfl,rfl,by decide +kernel,rfl,by decide +kernel,by decide +kernel⟩
def Z4z : DefY := { at_ := (gY "is_entry"), name := "is_entry", qual := "is_entry", params := defArgs Vr, body := defBody Vr, scope := defScope Vr, dfl := [], kwd := [] }
abbrev U9 : Stmt := topS 17
abbrev Z50 : List Str := ["value", "many", "kind", "tag", "content", "one"]
abbrev Z51 : List Str := ["value", "many"]
theorem Vs : FnScope Z50 Z51 (defScope U9) := ⟨rfl,rfl,rfl,by decide +kernel,rfl,by decide +kernel,by decide +kernel⟩
def Z66 : DefY := { at_ := (gY "is_node"), name := "is_node", qual := "is_node", params := defArgs U9, body := defBody U9, scope := defScope U9, dfl := [], kwd := [] }
abbrev Wb : Stmt := clsS (topS 18) 0
abbrev Z7r : List Str := ["self", "nodes", "top", "index", "node"]
abbrev Vt : List Str := ["self", "nodes", "top"]
theorem Z04 : FnScope Z7r Vt (defScope Wb) := ⟨rfl,rfl,rfl,by decide +kernel,rfl,by decide +kernel,by decide +kernel⟩
def Z35 : DefY := { at_ := (mY "Graph" "__init__"), name := "__init__", qual := "Graph.__init__", params := defArgs Wb, body := defBody Wb, scope := defScope Wb, dfl := [(.int 0)], kwd := [] }
abbrev Yv : Stmt := topS 36
abbrev Z05 : List Str := ["_law_ask", "e"]
abbrev Z52 : List Str := ["_law_ask"]
theorem Xk : FnScope Z05 Z52 (defScope Yv) := ⟨rfl,rfl,rfl,by decide +kernel,rfl,by decide +kernel,by decide +kernel⟩
def Z41 : DefY := { at_ := (gY "_law_said"), name := "_law_said", qual := "_law_said", params := defArgs Yv, body := defBody Yv, scope := defScope Yv, dfl := [], kwd := [] }
abbrev Zr : Stmt := topS 38
abbrev Uu : List Str := ["_law_well_here", "_law_deep", "_law_due", "_law_turn", "_law_line", "_law_tree_here", "_law_wide", "_law_twice", "_law_k"]
abbrev Uv : List Str := ["_law_well_here"]
theorem Zo : FnScope Uu Uv (defScope Zr) := ⟨rfl,rfl,rfl,by decide +kernel,rfl,by decide +kernel,by decide +kernel⟩
def Jo : DefY := { at_ := (gY "_law_hand_right"), name := "_law_hand_right", qual := "_law_hand_right", params := defArgs Zr, body := defBody Zr, scope := defScope Zr, dfl := [], kwd := [] }
abbrev Zt : Stmt := topS 39
abbrev V2 : List Str := ["_law_well_here", "_law_due", "_law_far", "_law_odd", "_law_twice"]
abbrev Qt : List Str := ["_law_well_here"]
theorem Xh : FnScope V2 Qt (defScope Zt) := ⟨rfl,rfl,rfl,by decide +kernel,rfl,by decide +kernel,by decide +kernel⟩
def Nm : DefY := { at_ := (gY "_law_odd_right"), name := "_law_odd_right", qual := "_law_odd_right", params := defArgs Zt, body := defBody Zt, scope := defScope Zt, dfl := [], kwd := [] }
abbrev Xo : Stmt := topS 33
abbrev Z6v : List Str := ["_law_node_here", "_law_found", "_law_pair"]
abbrev Z06 : List Str := ["_law_node_here"]
theorem Ql : FnScope Z6v Z06 (defScope Xo) := ⟨rfl,rfl,rfl,by decide +kernel,rfl,by decide +kernel,by decide +kernel⟩
def Z25 : DefY := { at_ := (gY "_law_within"), name := "_law_within", qual := "_law_within", params := defArgs Xo, body := defBody Xo, scope := defScope Xo, dfl := [], kwd := [] }
abbrev Xl : Stmt := topS 35
abbrev Jp : List Str := ["_law_nodes_here", "_law_deep", "_law_found", "_law_turn", "_law_node_here", "_law_one_here"]
abbrev Z15 : List Str := ["_law_nodes_here", "_law_deep"]
theorem Xb : FnScope Jp Z15 (defScope Xl) := ⟨rfl,rfl,rfl,by decide +kernel,rfl,by decide +kernel,by decide +kernel⟩
def Z36 : DefY := { at_ := (gY "_law_sizes"), name := "_law_sizes", qual := "_law_sizes", params := defArgs Xl, body := defBody Xl, scope := defScope Xl, dfl := [], kwd := [] }
abbrev Wd : Stmt := topS 34
abbrev Z53 : List Str := ["_law_nodes_here", "_law_number", "_law_deep", "_law_kind", "_law_tag", "_law_content", "_law_pairs", "_law_key", "_law_value", "_law_one_here"]
abbrev Uw : List Str := ["_law_nodes_here", "_law_number", "_law_deep"]
theorem Xc : FnScope Z53 Uw (defScope Wd) := ⟨rfl,rfl,rfl,by decide +kernel,rfl,by decide +kernel,by decide +kernel⟩
def Z42 : DefY := { at_ := (gY "_law_tree"), name := "_law_tree", qual := "_law_tree", params := defArgs Wd, body := defBody Wd, scope := defScope Wd, dfl := [], kwd := [] }
abbrev Ux : Stmt := clsS (topS 18) 1
abbrev Zat : List Str := ["self", "other"]
abbrev Z67 : List Str := ["self", "other"]
theorem Z8v : FnScope Zat Z67 (defScope Ux) := ⟨rfl,rfl,rfl,by decide +kernel,rfl,by decide +kernel,by decide +kernel⟩
def Z54 : DefY := { at_ := (mY "Graph" "__eq__"), name := "__eq__", qual := "Graph.__eq__", params := defArgs Ux, body := defBody Ux, scope := defScope Ux, dfl := [], kwd := [] }
abbrev Zq : Stmt := topS 37
abbrev Ua : List Str := ["_law_nodes_here", "_law_top", "_law_deep", "_law_size", "_law_told", "_law_whole"]
abbrev Ub : List Str := ["_law_nodes_here", "_law_top", "_law_deep"]
theorem Xp : FnScope Ua Ub (defScope Zq) := ⟨rfl,rfl,rfl,by decide +kernel,rfl,by decide +kernel,by decide +kernel⟩
def Je : DefY := { at_ := (gY "_law_depth_right"), name := "_law_depth_right", qual := "_law_depth_right", params := defArgs Zq, body := defBody Zq, scope := defScope Zq, dfl := [], kwd := [] }
abbrev Z8w : Stmt := topS 40
abbrev n_law : List Str := ["_law_script", "_law_cell", "_law_well_here", "_law_size", "_law_nodes_here", "_law_top", "_law_deep"]
abbrev Zgd : List Str := ["_law_script"]
theorem Z55 : FnScope n_law Zgd (defScope Z8w) := ⟨rfl,rfl,rfl,by decide +kernel,rfl,by decide +kernel,by decide +kernel⟩
def Zf4 : DefY := { at_ := (gY "law"), name := "law", qual := "law", params := defArgs Z8w, body := defBody Z8w, scope := defScope Z8w, dfl := [], kwd := [] }
def mks : List PySem.Str := ["_law_hand_right", "_law_odd_right", "_law_depth_right"]
theorem Uc : ("_law_hand_right" : PySem.Str) ∈ mks := by simp [mks]
theorem Yb : ("_law_odd_right" : PySem.Str) ∈ mks := by simp [mks]
theorem Yp : ("_law_depth_right" : PySem.Str) ∈ mks := by simp [mks]
def fns : List DefY := [Z3x,Z3y,Z4q,Z3z,Z34,Z11,Nh,Z63,Z12,Z0n,Z64,Z9v,Zf3,Z0o,Z0p,Z4x,Z40,Z7q,Z4z,Z66,Z35,Z41,Jo,Nm,Z25,Z36,Z42,Z54,Je,Zf4]
def tabs : List He.Tab := []
def exs : Exs := [
  mkB "_law_hand_right",
  mkB "_law_odd_right",
  mkB "_law_depth_right",
  fun K => (He.Fa.int "MOST_DEPTH" (100)).ok K,
  fun K => (He.Fa.int "MOST_UNFOLDED" (50)).ok K,
  fun K => (He.Fa.int "MOST_TREES" (3000)).ok K,
  fun K => (He.Fa.str "TAG_SIGNS" (S [97,98,99,100,101,102,103,104,105,106,107,108,109,110,111,112,113,114,115,116,117,118,119,120,121,122,65,66,67,68,69,70,71,72,73,74,75,76,77,78,79,80,81,82,83,84,85,86,87,88,89,90,48,49,50,51,52,53,54,55,56,57,45,35,59,47,63,58,64,38,61,43,36,95,46,126,42,39,40,41])).ok K,
  fun K => (He.Fa.int "MOST_NUMBERS" (1000)).ok K,
  fun K => (He.Fa.int "MOST_NODES" (200)).ok K,
  fun K => (He.Fa.glo "Graph").ok K,
  fun K => (He.Fa.cls "Graph").ok K,
  fun K => (He.Fa.mkr "Graph").ok K,
  fun K => (He.Fa.noat "Graph" "nodes").ok K,
  fun K => (He.Fa.noat "Graph" "top").ok K,
  kitLT "Graph",
  neB "Graph",
  eqB5 "Graph",
  insB "Graph",
  fun K => (He.Fa.glo "NoGraph").ok K,
  oexB "NoGraph",
  exCB "NoGraph",
  fun K => (He.Fa.noat "NoGraph" "index").ok K,
  initB "NoGraph",
  fun K => (He.Fa.exm "NoGraph" "NoGraph" true).ok K,
  kitB2 "NoGraph" (fun K => .ref (He.ga K "PageError")),
  kitB2 "NoGraph" (fun _ => .type "ValueError"),
  fun K => (He.Fa.glo "NoDepth").ok K,
  oexB "NoDepth",
  exCB "NoDepth",
  fun K => (He.Fa.noat "NoDepth" "depth").ok K,
  initB "NoDepth",
  fun K => (He.Fa.exm "NoDepth" "NoDepth" true).ok K,
  kitB2 "NoDepth" (fun K => .ref (He.ga K "PageError")),
  kitB2 "NoDepth" (fun _ => .type "ValueError"),
  fun K => (He.Fa.glo "TooLarge").ok K,
  oexB "TooLarge",
  exCB "TooLarge",
  fun K => (He.Fa.noat "TooLarge" "limit").ok K,
  initB "TooLarge",
  fun K => (He.Fa.exm "TooLarge" "TooLarge" true).ok K,
  kitB2 "TooLarge" (fun K => .ref (He.ga K "PageError")),
  kitB2 "TooLarge" (fun _ => .type "ValueError"),
  fun K => (He.Fa.exm "NoGraph" "NoDepth" false).ok K,
  fun K => (He.Fa.exm "NoGraph" "TooLarge" false).ok K,
  fun K => (He.Fa.exm "NoDepth" "TooLarge" false).ok K,
  fun K => (He.Fa.exm "TooLarge" "NoDepth" false).ok K,
  baseB "PageError",
  noDigB,
  fun K => (He.Fa.glo "_law_draw").ok K,
  fun K => (He.Fa.glo "_law_one").ok K,
  fun K => (He.Fa.glo "_law_node").ok K,
  fun K => (He.Fa.glo "is_from").ok K,
  fun K => (He.Fa.glo "tree_at").ok K,
  fun K => (He.Fa.glo "inner").ok K,
  fun K => (He.Fa.glo "require_graphs").ok K,
  fun K => (He.Fa.glo "require_depth").ok K,
  fun K => (He.Fa.glo "met").ok K,
  fun K => (He.Fa.glo "unfolded_size").ok K,
  fun K => (He.Fa.glo "are_signs").ok K,
  fun K => (He.Fa.glo "is_tag").ok K,
  fun K => (He.Fa.glo "is_entry").ok K,
  fun K => (He.Fa.glo "is_node").ok K,
  fun K => (He.Fa.glo "PageError").ok K,
  fun K => (He.Fa.glo "unfolded").ok K,
  fun K => (He.Fa.glo "_law_said").ok K,
  fun K => (He.Fa.glo "_law_within").ok K,
  fun K => (He.Fa.glo "_law_tree").ok K,
  fun K => (He.Fa.glo "_law_sizes").ok K,
  fun K => (He.Fa.glo "_law_well").ok K,
  fun K => (He.Fa.glo "_law_nodes").ok K,
  fun K => (He.Fa.glo "_law_depth_right").ok K,
  fun K => (He.Fa.glo "_law_odd_right").ok K,
  fun K => (He.Fa.glo "_law_hand_right").ok K,
  fun K => (He.Fa.glo "law").ok K,
  fun K => (He.Fa.free "int").ok K,
  fun K => (He.Fa.free "len").ok K,
  fun K => (He.Fa.free "range").ok K,
  fun K => (He.Fa.free "tuple").ok K,
  fun K => (He.Fa.free "isinstance").ok K,
  fun K => (He.Fa.free "bool").ok K,
  fun K => (He.Fa.free "list").ok K,
  fun K => (He.Fa.free "sum").ok K,
  fun K => (He.Fa.free "all").ok K,
  fun K => (He.Fa.free "str").ok K,
  fun K => (He.Fa.free "enumerate").ok K,
  fun K => (He.Fa.free "repr").ok K,
  fun K => decide ((mks.map fun m => tY m K).Nodup)]
abbrev GT [Tb] (P : Program) (w : World) (K : PySem.W.Frag) (mg : PySem.Str → Option Value) (base : Heap) (lv : Nat) (a : PySem.W.Frag → PySem.Addr) (p : List PySem.Str) (n : Nat) (F : FF) := FnG P w K mg base lv (a K) (fdOf K (a K)) p (spF K n F)
theorem tk {P : Program} {w : World} {K : PySem.W.Frag} {mg : PySem.Str → Option Value} {base : Heap} {n : List PySem.Str} {q : PySem.Str} {sc : Scope} {a : PySem.Addr} {cdv : Value} {A : Around} {outer : List PySem.Env} {s : Shared} {H : Hp} {E : XK} : Takes (cxOf (L2.CX P w) P w K mg base n q sc a cdv A outer s H E) (fun cls d _ H => E cls d H) := takes_of rfl rfl rfl rfl
end Ap
set_option maxHeartbeats 4000000
namespace Ap
open PySem PySem.W PySem.Calls PyProof.Rows
def nm0 : List PySem.Str := [PySem.Str.ofString "PageError", PySem.Str.ofString "NoGraph", PySem.Str.ofString "NoDepth", PySem.Str.ofString "TooLarge", PySem.Str.ofString "TAG_SIGNS", PySem.Str.ofString "are_signs", PySem.Str.ofString "is_tag", PySem.Str.ofString "MOST_NODES", PySem.Str.ofString "MOST_NUMBERS", PySem.Str.ofString "MOST_DEPTH", PySem.Str.ofString "MOST_UNFOLDED", PySem.Str.ofString "MOST_TREES", PySem.Str.ofString "is_from", PySem.Str.ofString "is_entry", PySem.Str.ofString "is_node", PySem.Str.ofString "Graph", PySem.Str.ofString "require_graphs", PySem.Str.ofString "inner", PySem.Str.ofString "met", PySem.Str.ofString "require_depth", PySem.Str.ofString "unfolded_size", PySem.Str.ofString "tree_at", PySem.Str.ofString "unfolded", PySem.Str.ofString "_law_cell_at", PySem.Str.ofString "_law_well", PySem.Str.ofString "_law_draw", PySem.Str.ofString "_law_one", PySem.Str.ofString "_law_node", PySem.Str.ofString "_law_nodes", PySem.Str.ofString "_law_within", PySem.Str.ofString "_law_tree", PySem.Str.ofString "_law_sizes", PySem.Str.ofString "_law_said"]
def nms : List PySem.Str := nm0
abbrev R5 : OpenRow := OpenLaw.row PySem.Challenge.rw_anchorpages_k40_trees_without_sharing
def ads : List PySem.Addr := [3,1399,1398,1397,1396,1395,1394,1393,1392,1391,1390,1389,1388,1387,1386,1385,1384,1383,1382,1381,1380,1379,1378,1377,1376,1375,1374,1373,1372,1371,1370,1369,1368,1367,1366,1365,1364,1363,1362,1361,1360,1359,1358,1357,1356,1355,1354,1353,1352,1351,1350,1349,1348,1347,1346,1345,1344,1343,1342,1341,1340,1339,1338,1337,1336,1335,1334,1333,1332,1331,1330,1329,1328,1327,1326,1325,1324,1323,1322,1321,1320,1319,1318,1317,1316,1315,1314,1313,1312,1311,1310,1309,1308,1307,1306,1305,1304,1303,1302,1301,1300,1299,1298,1297,1296,1295,1294,1293,1292,1291,1290,1289,1288,1287,1286,1285,1284,1283,1282,1281,1280,1279,1278,1277,1276,1275,1274,1273,1272,1271,1270,1269,1268,1267,1266,1265,1264,1263,1262,1261,1260,1259,1258,1257,1256,1255,1254,1253,1252,1251,1250,1249,1248,1247,1246,1245,1244,1243,1242,1241,1240,1239,1238,1237,1236,1235,1234,1233,1232,1231,1230,1229,1228,1227,1226,1225,1224,1223,1222,1221,1220,1219,1218,1217,1216,1215,1214,1213,1212,1211,1210,1209,1208,1207,1206,1205,1204,1203,1202,1201,1200,1199,1198,1197,1196,1195,1194,1193,1192,1191,1190,1189,1188,1187,1186,1185,1184,1183,1182,1181,1180,1179,1178,1177,1176,1175,1174,1173,1172,1171,1170,1169,1168,1167,1166,1165,1164,1163,1162,1161,1160,1159,1158,1157,1156,1155,1154,1153,1152,1151,1150,1149,1148,1147,1146,1145,1144,1143,1142,1141,1140,1139,1138,1137,1136,1135,1134,1133,1132,1131,1130,1129,1128,1127,1126,1125,1124,1123,1122,1121,1120,1119,1118,1117,1116,1115,1114,1113,1112,1111,1110,1109,1108,1107,1106,1105,1104,1103,1102,1101,1100,1099,1098,1097,1096,1095,1094,1093,1092,1091,1090,1089,1088,1087,1086,1085,1084,1083,1082,1081,1080,1079,1078,1077,1076,1075,1074,1073,1072,1071,1070,1069,1068,1067,1066,1065,1064,1063,1062,1061,1060,1059,1058,1057,1056,1055,1054,1053,1052,1051,1050,1049,1048,1047,1046,1045,1044,1043,1042,1041,1040,1039,1038,1037,1036,1035,1034,1033,1032,1031,1030,1029,1028,1027,1026,1025,1024,1023,1022,1021,1020,1019,1018,1017,1016,1015,1014,1013,1012,1011,1010,1009,1008,1007,1006,1005,1004,1003,1002,1001,1000,999,998,997,996,995,994,993,992,991,990,989,988,987,986,985,984,983,982,981,980,979,978,977,976,975,974,973,972,971,970,969,968,967,966,965,964,963,962,961,960,959,958,957,956,955,954,953,952,951,950,949,948,947,946,945,944,943,942,941,940,939,938,937,936,935,934,933,932,931,930,929,928,927,926,925,924,923,922,921,920,919,918,917,916,915,914,913,912,911,910,909,908,907,906,905,904,903,902,901,900,899,898,897,896,895,894,893,892,891,890,889,888,887,886,885,884,883,882,881,880,879,878,877,876,875,874,873,872,871,870,869,868,867,866,865,864,863,862,861,860,859,858,857,856,855,854,853,852,851,850,849,848,847,846,845,844,843,842,841,840,839,838,837,836,835,834,833,832,831,830,829,828,827,826,825,824,823,822,821,820,819,818,817,816,815,814,813,812,811,810,809,808,807,806,805,804,803,802,801,800,799,798,797,796,795,794,793,792,791,790,789,788,787,786,785,784,783,782,781,780,779,778,777,776,775,774,773,772,771,770,769,768,767,766,765,764,763,762,761,760,759,758,757,756,755,754,753,752,751,750,749,748,747,746,745,744,743,742,741,740,739,738,737,736,735,734,733,732,731,730,729,728,727,726,725,724,723,722,721,720,719,718,717,716,715,714,713,712,711,710,709,708,707,706,705,704,703,702,701,700,699,698,697,696,695,694,693,692,691,690,689,688,687,686,685,684,683,682,681,680,679,678,677,676,675,674,673,672,671,670,669,668,667,666,665,664,663,662,661,660,659,658,657,656,655,654,653,652,651,650,649,648,647,646,645,644,643,642,641,640,639,638,637,636,635,634,633,632,631,630,629,628,627,626,625,624,623,622,621,620,619,618,617,616,615,614,613,612,611,610,609,608,607,606,605,604,603,602,601,600,599,598,597,596,595,594,593,592,591,590,589,588,587,586,585,584,583,582,581,580,579,578,577,576,575,574,573,572,571,570,569,568,567,566,565,564,563,562,561,560,559,558,557,556,555,554,553,552,551,550,549,548,547,546,545,544,543,542,541,540,539,538,537,536,535,534,533,532,531,530,529,528,527,526,525,524,523,522,521,520,519,518,517,516,515,514,513,512,511,510,509,508,507,506,505,504,503,502,501,500,499,498,497,496,495,494,493,492,491,490,489,488,487,486,485,484,483,482,481,480,479,478,477,476,475,474,473,472,471,470,469,468,467,466,465,464,463,462,461,460,459,458,457,456,455,454,453,452,451,450,449,448,447,446,445,444,443,442,441,440,439,438,437,436,435,434,433,432,431,430,429,428,427,426,425,424,423,422,421,420,419,418,417,416,415,414,413,412,411,410,409,408,407,406,405,404,403,402,401,400,399,398,397,396,395,394,393,392,391,390,389,388,387,386,385,384,383,382,381,380,379,378,377,376,375,374,373,372,371,370,369,368,367,366,365,364,363,362,361,360,359,358,357,356,355,354,353,352,351,350,349,348,347,346,345,344,343,342,341,340,339,338,337,336,335,334,333,332,331,330,329,328,327,326,325,324,323,322,321,320,319,318,317,316,315,314,313,312,311,310,309,308,307,306,305,304,303,302,301,300,299,298,297,296,295,294,293,292,291,290,289,288,287,286,285,284,283,282,281,280,279,278,277,276,275,274,273,272,271,270,269,268,267,266,265,264,263,262,261,260,259,258,257,256,255,254,253,252,251,250,249,248,247,246,245,244,243,242,241,240,239,238,237,236,235,234,233,232,231,230,229,228,227,226,225,224,223,222,221,220,219,218,217,216,215,214,213,212,211,210,209,208,207,206,205,204,203,202,201,200,199,198,197,196,195,194,193,192,191,190,189,188,187,186,185,184,183,182,181,180,179,178,177,176,175,174,173,172,171,170,169,168,167,166,165,164,163,162,161,160,159,158,157,156,155,154,153,152,151,150,149,148,147,146,145,144,143,142,141,140,139,138,137,136,135,134,133,132,131,130,129,128,127,126,125,124,123,122,121,120,119,118,117,116,115,114,113,112,111,110,109,108,107,106,105,104,103,102,101,100,99,98,97,96,95,94,93,92,91,90,89,88,87,86,85,84,83,82,81,80,79,78,77,76,75,74,73,72,71,70,69,68,67,66,65,64,63,62,61,60,59,58,57,56,55,54,53,52,51,50,49,48,47,46,45,44,43,42,41,40,39,38,37,36,35,34,33,32,31,30,29,28,27,26,25,24,23,22,21,20,19,18,17,16,15,14,13,12,11,10,9,8,7,6,5,4,2,1,0]
abbrev hk5 : PySem.W.Hook := Fx.hookT ads fns tabs exs
def ob5 (s : PySem.W.SharedT) : Fx.AlY := Fx.obsT ads fns tabs exs (HandSHeadRun.getT s)
theorem Zi6 (s : PySem.W.SharedT) : ob5 s = hk5.obs s.abs := Fx.Zg8 (HandSHeadRun.getT_eq s)
def posOf : Stmt → Pos
  | .FunctionDef _ _ _ _ _ _ _ _ _ p => p
  | _ => ⟨0,0,0,0⟩
def Ud : DefRec := ⟨"_law_hand_right", L2.defArgs Zr, L2.defBody Zr, L2.defScope Zr, posOf Zr⟩
theorem Z37 : (recsOf (view R5.prog [37,38,39,40])).find? (fun e => e.name == Ud.name) = some Ud := by kernel_rfl
def Uy : DefRec := ⟨"_law_odd_right", L2.defArgs Zt, L2.defBody Zt, L2.defScope Zt, posOf Zt⟩
theorem Z3l : (recsOf (view R5.prog [37,38,39,40])).find? (fun e => e.name == Uy.name) = some Uy := by kernel_rfl
def V8 : DefRec := ⟨"_law_depth_right", L2.defArgs Zq, L2.defBody Zq, L2.defScope Zq, posOf Zq⟩
theorem Z2g : (recsOf (view R5.prog [37,38,39,40])).find? (fun e => e.name == V8.name) = some V8 := by kernel_rfl
theorem run0 (w : World) : HandSHeadRun.RunEq R5 (view R5.prog [37,38,39,40]) hk5 ob5 6460 nms (w.withFollow "special-get-raises" false) := by
  intro os
  kernel_rfl
theorem run1 (w : World) : HandSHeadRun.RunEq R5 (view R5.prog [37,38,39,40]) hk5 ob5 6460 nms (w.withFollow "special-get-raises" true) := by
  intro os
  kernel_rfl
theorem run5 (w : World) : HandSHeadRun.RunEq R5 (view R5.prog [37,38,39,40]) hk5 ob5 6460 nms w := byRow2 "special-get-raises" (P := fun w => HandSHeadRun.RunEq R5 (view R5.prog [37,38,39,40]) hk5 ob5 6460 nms w) run0 run1 w
end Ap
set_option maxHeartbeats 4000000
namespace Fx
open PySem PySem.Spec PyProof.Rows L2 SX Ap
variable [Tb]
def runS (n : Nat) (b : FS) : FF := fun ts Z => runF n b [.tup ts] Z
def spS (K : PySem.W.Frag) (F : FF) : Sp := fun vs H Q E => vs.length ≤ Lim ∧ ∃ ι Z ts,Sim K ι Z H ∧ Reps K ι H vs ts ∧ Post (Rep K) K (fun cls d _ H => E cls d H) [] ι H Q (F ts Z)
def FnS (P : Program) (w : World) (K : PySem.W.Frag) (mg : PySem.Str → Option Value) (base : Heap) (k : Nat) (f : Addr) (F : FF) : Prop :=
  ∀ (A : Around) (outer : List PySem.Env) (s : Shared) (H : Hp) (us : List Value) (vs : List V) (Q : VK) (E : XK),Room k A → A.guards = some [] → Env0 P w K mg base A outer s H → Vals vs us → spS K F vs H Q E →
    codeAny (model P w) A (.call (.ref f) ⟨us,[]⟩) (CR (L2.CX P w) outer P w H s Q E) s
section
variable {P : Program} {w : World} {K : PySem.W.Frag} {mg : PySem.Str → Option Value} {base : Heap}
theorem fnS {x qual pv : PySem.Str} {params : Arguments} {body : List Stmt} {scope : Scope} {kws : List (PySem.Str × V)} {f : Addr} {fd : FuncData} {N : List PySem.Str} {k : Nat} {b : FS} (D : FunD K x qual params body scope [] kws f fd) (S : FnScope N [pv] scope)
    (hbi : ∀ (kV doc pm : Value) (an : Option Addr) (cdv ct : Value) (us : List Value),bindArgs (PySem.W.fnOf x qual params body scope .none kV doc pm an cdv ct) ⟨us,[]⟩ = (newTuple us >>= fun t => pure [(pv,t)])) (hb : BodyJ P w K mg base k f N qual scope body b) :
    FnS P w K mg base (k + 1) f (runS N.length b) := by
  obtain ⟨oc,od,dV,kV,doc,pm,an,cdv,ct,osl,rfl,lk,hcd,hD,_⟩ := D.ex
  obtain rfl : dV = .none := by
    rcases hD with ⟨_,e⟩ | ⟨e,_⟩
    · exact e
    · exact absurd rfl e
  intro A outer s H us vs Q E hr hG e0 r hsp
  obtain ⟨hz,ι,Z,ts,sim,rr,p⟩ := hsp
  have free : H s.heap.objs.size = none := e0.hok.fresh (Nat.le_refl _)
  have small : vs.length ≤ sizeLine := Nat.le_trans hz Z2v
  have lay : ObjOk P w (upd H s.heap.objs.size (.tup vs)) (s.heap.push ({ cls := .type "tuple", data := .seq us.toArray } : Obj)) s.heap.objs.size (.tup vs) := ⟨small, us, r, ⟨_, Heap.get?_push_size _ rfl, rfl, _, rfl⟩⟩
  have grown := StX.un_laid (fs := frs outer) (s := s) (o := ({ cls := .type "tuple", data := .seq us.toArray } : Obj)) (u := .tup vs) free
  refine StX.run_bnd lk hcd S hr e0 (G := fun xs H2 => ∃ q, H q = none ∧ xs = [V.ref q] ∧ H2 = upd H q (.tup vs)) (fun A' Ex Q' h => ?_) fun s2 H2 xs g hr' => ?_
  · rw [hbi]
    refine wpAny_bind (wpAny_newTuple (wpAny_pure ?_) (by rw [← r.length]; exact small))
    exact h _ _ [V.ref s.heap.objs.size] [Value.ref s.heap.objs.size] (StX.env0_laid e0 lay) grown rfl (fun e s' => StX.cxUp outer s H _ _ E e s' grown (fun _ _ q => Heap.get?_push_of_some _ q) rfl) (.cons rfl .nil) rfl ⟨_, free, rfl, rfl⟩
  · obtain ⟨q,hq,rfl,rfl⟩ := g
    have gq : Gr ι ι H (upd H q (.tup vs)) := Gr.new0 hq
    exact Zey (n := 1) hb cdv A outer s2 _ _ Q E hr' hG ⟨rfl, ι, Z, [.tup ts], sim.same (Qe hq), .cons (.tup (SqT.of upd_same) (rr.gr gq)) .nil, p.shift gq⟩
end
section
variable {X : Cx} {K : PySem.W.Frag} {W : Wc} {x : PySem.Str} {p pos : Pos} {e : Expr} {es : List Expr} {fa : FA} {k : Nat} {f : Addr} {F : FF}
theorem Zca (hK : X.K = K) (G : FnS X.prog X.w X.K X.mg X.base k f F) (hr : Room k X.A) (hG : X.A.guards = some []) (hg : Gl X x) (hm : X.mg x = some (.ref f)) (hk : PySem.W.keepIn X.K (.ref f) = true) (tk : Takes X W.w)
    (ha : FAJ X K W (e :: es) fa) (hn : ofLen (e :: es) fa) (hz : (e :: es).length ≤ 1000 := by decide) (hdb : (x == ("__debug__" : PySem.Str)) = false := by decide) (he : starEach (e :: es) X.env = (false, eval e X.env) :: starEach es X.env := by rfl) (hpl : (backTo pos (starEach es X.env)).any (·.1) = false := by rfl) :
    FJ X K W (.Call (.Name x p) (e :: es) [] pos) (eCall F [] fa) := by
  subst hK
  refine ⟨fun pins s σ H Q I h => ?_⟩
  refine wpAny_Call_Name_kw (ld_glob I hg hm ?_ hdb)
  obtain ⟨ι,ρ,Z,is,q⟩ := h
  have told : tFA X.K W fa σ H (fun vs H1 => spS X.K F vs H1 Q (WE W.w σ)) := by
    refine ⟨ι,ρ,Z,is,?_⟩
    unfold eCall at q
    cases ea : fa ρ Z with
    | ok ts Z1 =>
      rw [ea,Yo,List.append_nil] at q
      refine fun ι1 H1 vs g1 s1 r1 => ⟨?_,ι1,Z1,ts,s1,r1,(q.shift g1).wx fun _ _ _ h => h⟩
      rw [r1.length,hn _ _ _ _ ea]
      unfold Lim; omega
    | exc y Z1 => rw [ea] at q; exact q
    | stuck => rw [ea] at q; exact q
  refine PySem.W.callWith_K (h₀ := X.base) I.ok.mod.kin hk (thn (ha.run pos pins s σ H _ I told) fun us s1 ⟨vs,H1,I1,r,q1⟩ => ⟨I1.kIn,?_⟩) he hpl
  refine wpAny_call (codeAny_mono (G X.A X.stack s1 H1 us vs Q (WE W.w σ) hr hG I1.env0 r q1) fun fin s' hq => ?_)
  cases fin with
  | ok fl =>
    cases fl with
    | ret u => exact I1.after hq
    | next => exact False.elim hq
    | brk => exact False.elim hq
    | cont => exact False.elim hq
  | error y => exact passAt tk σ pins H1 s1 y s' I1 hq
end
end Fx
set_option maxHeartbeats 4000000
namespace Fx
open PySem PySem.Spec PyProof.Rows L2 SX Ap
variable [Tb]
theorem Zcb {α β γ : Type} (r : R α) (k : α → Sto → R β) (l : β → Sto → R γ) : (r.bind k).bind l = r.bind fun a Z => (k a Z).bind l := by cases r <;> rfl
def loopC2 (it : ItF) (D : Nat) (put : T → Option Env) (fi1 : FI) (put1 : Env → T → Option Env) (e : FE) : Nat → Nat → Sto → R T
  | 0,_,_ => .stuck
  | n + 1,k,Z => match it k Z with
    | none => .stuck
    | some none => .ok (.loc D) Z
    | some (some t) => match put t with
      | none => .stuck
      | some ρ => (noX (fi1 ρ Z)).bind fun j Z1 => (loopC j D (put1 ρ) eYes e Fuel 0 Z1).bind fun _ Z2 => loopC2 it D put fi1 put1 e n (k + 1) Z2
def eLc2 (vs js : List Nat) (it : FI) (vs1 js1 : List Nat) (it1 : FI) (e : FE) : FE := fun ρ Z => (it ρ Z).bind fun j Z1 => loopC2 j Z1.length (fun t => putN js t (wipeR ρ vs)) it1 (fun ρ' t => putN js1 t (wipeR ρ' vs1)) e Fuel 0 (Z1 ++ [.lst []])
section
variable {X : Cx} {K : PySem.W.Frag} {W : Wc}
theorem Zi7 {fi fi1 : FI} {g g1 : TG} {fe : FE} {vs js vs1 js1 : List Nat} (hg : TgOk K js g) (hjs : ∀ j ∈ js,j ∈ vs) (hg1 : TgOk K js1 g1) (hjs1 : ∀ j ∈ js1,j ∈ vs1) {σ : L2.St} {H : Hp} {Q : VK} (hi : ∀ R,(∃ ι ρ Z,Ie K W ι H σ ρ Z ∧ Post (ItR K) K W.w σ ι H R (fi ρ Z)) → tI K W.w fi σ H R)
    (h : tF K W (eLc2 vs js fi vs1 js1 fi1 fe) σ H Q) : tLc2 (tI K W.w fi) g (tFT K W0 eYes) (tI K W0.w fi1) g1 (tFT K W0 eYes) (tF K W0 fe) vs vs1 σ H Q := by
  obtain ⟨ι,ρ,Z,is,p⟩ := h
  refine hi _ ⟨ι,ρ,Z,is,(Zi (rep := ItR K) p).imp fun J H1 q => ?_⟩
  obtain ⟨ι1, Z1, it, g1', s1, rJ, p1⟩ := q
  intro D hD
  have is1 := is.gr g1' s1
  have sD : Sim K (ι1 ++ [D]) (Z1 ++ [.lst []]) (upd H1 D (.lst [])) := s1.newL .nil hD
  have gD : Gr ι1 (ι1 ++ [D]) H1 (upd H1 D (.lst [])) := Gr.new hD
  have hDi : (ι1 ++ [D])[Z1.length]? = some D := by rw [← s1.len]; simp
  refine ⟨fun k m H' => ∃ ι' Z', Gr (ι1 ++ [D]) ι' (upd H1 D (.lst [])) H' ∧ Sim K ι' Z' H' ∧ Post (Rep K) K W.w σ ι' H' Q (loopC2 it Z1.length (fun t => putN js t (wipeR ρ vs)) fi1 (fun ρ' t => putN js1 t (wipeR ρ' vs1)) fe m k Z'), ⟨Fuel, ι1 ++ [D], _, Gr.refl, sD, p1.shift gD⟩, ?_⟩
  rintro k m H' ⟨ι', Z', g', s', p'⟩
  cases m with
  | zero => exact p'.elim
  | succ m =>
    have hj := rJ k ι' H' Z' (gD.trans g') s'
    unfold loopC2 at p'
    cases e : it k Z' with
    | none => rw [e] at p'; exact p'.elim
    | some o =>
      rw [e] at hj p'
      cases o with
      | none => exact .inl ⟨hj, p' ι' H' _ Gr.refl s' (.loc (g'.pre _ _ hDi))⟩
      | some t =>
        refine .inr ⟨hj.1, _, fun H2 n => ⟨m, Nat.lt_succ_self m, n⟩, fun x H'' y => ?_⟩
        obtain ⟨g2, s2, r2⟩ := hj.2 x H'' y
        simp only at p'
        cases e3 : putN js t (wipeR ρ vs) with
        | none => rw [e3] at p'; exact p'.elim
        | some ρ' =>
          rw [e3] at p'
          simp only at p'
          have env2 : Envs K ι' H'' (wipe σ vs) (wipeR ρ vs) := Z0z ((is1.env.gr (gD.trans g')).gr g2) is1.len vs
          refine hg x (wipe σ vs) H'' _ ι' _ ρ' t (by rw [wipe_length, Qo]; exact is1.len) env2 r2 e3 fun σ' hl' env' hw => ?_
          refine ⟨by rw [hw vs hjs, Z31], ι', ρ', Z', ⟨hl', env', s2, trivial⟩, fun ιa Ha ba ga sa hba => ?_⟩
          cases (show ba = true from hba)
          rw [if_pos rfl]
          have pa := p'.shift (g2.trans ga)
          refine ⟨ιa, ρ', Z', ⟨hl', env'.gr ga, sa⟩, Jk (W := W.w) (σ := σ) ((Zi (rep := ItR K) pa).imp fun J1 H4 q4 => ?_)⟩
          obtain ⟨ι4,Z4,it1,g4,s4,rJ1,p4⟩ := q4
          refine ⟨fun j m1 H5 => ∃ ι5 Z5, Gr ι4 ι5 H4 H5 ∧ Sim K ι5 Z5 H5 ∧ Post (Rep K) K W.w σ ι5 H5 Q ((loopC it1 Z1.length (fun t => putN js1 t (wipeR ρ' vs1)) eYes fe m1 j Z5).bind fun _ Z2 => loopC2 it Z1.length (fun t => putN js t (wipeR ρ vs)) fi1 (fun ρ' t => putN js1 t (wipeR ρ' vs1)) fe m (k + 1) Z2), ⟨Fuel, ι4, Z4, Gr.refl, s4, p4⟩, ?_⟩
          have gb := ((g'.trans g2).trans ga).trans g4
          rintro j m1 H5 ⟨ι5,Z5,g5,s5,p5⟩
          cases m1 with
          | zero => exact p5.elim
          | succ m1 =>
            have hj5 := rJ1 j ι5 H5 Z5 g5 s5
            unfold loopC at p5
            cases e5 : it1 j Z5 with
            | none => rw [e5] at p5; exact p5.elim
            | some o5 =>
              rw [e5] at hj5 p5
              cases o5 with
              | none => exact .inl ⟨hj5,ι5,Z5,gb.trans g5,s5,p5⟩
              | some t5 =>
                refine .inr ⟨hj5.1,_,fun H2 n => ⟨m1,Nat.lt_succ_self m1,n⟩,fun x5 H6 y5 => ?_⟩
                obtain ⟨g6,s6,r6⟩ := hj5.2 x5 H6 y5
                simp only at p5
                cases e6 : putN js1 t5 (wipeR ρ' vs1) with
                | none => rw [e6] at p5; exact p5.elim
                | some ρ6 =>
                  rw [e6] at p5
                  simp only at p5
                  have env6 : Envs K ι5 H6 (wipe σ' vs1) (wipeR ρ' vs1) := Z0z ((((env'.gr ga).gr g4).gr g5).gr g6) hl' vs1
                  refine hg1 x5 (wipe σ' vs1) H6 _ ι5 _ ρ6 t5 (by rw [wipe_length, Qo]; exact hl') env6 r6 e6 fun σ6 hl6 envN hw6 => ?_
                  refine ⟨by rw [hw6 vs1 hjs1,Z31],ι5,ρ6,Z5,⟨hl6,envN,s6,trivial⟩,fun ι7 H7 b7 g7 s7 hb7 => ?_⟩
                  cases (show b7 = true from hb7)
                  rw [if_pos rfl]
                  have p7 : Post (Rep K) K W.w σ ι7 H7 Q (((noX (fe ρ6 Z5)).bind fun y Z2 => (match getL Z2 Z1.length with
                      | some acc => if acc.length < Lim then loopC it1 Z1.length (fun t => putN js1 t (wipeR ρ' vs1)) eYes fe m1 (j + 1) (Z2.set Z1.length (.lst (acc ++ [y]))) else .stuck
                      | none => .stuck)).bind fun _ Z2 => loopC2 it Z1.length (fun t => putN js t (wipeR ρ vs)) fi1 (fun ρ' t => putN js1 t (wipeR ρ' vs1)) fe m (k + 1) Z2) := p5.shift (g6.trans g7)
                  refine ⟨ι7,ρ6,Z5,⟨hl6,envN.gr g7,s7,trivial⟩,Jk (W := W.w) (σ := σ) ((Zi (rep := Rep K) (by rw [Zcb] at p7; exact p7)).imp fun y8 H8 q8 => ?_)⟩
                  obtain ⟨ι8,Z8,ty,g8,s8,ry,p8⟩ := q8
                  have gz := (((gb.trans g5).trans g6).trans g7).trans g8
                  split at p8
                  · rename_i acc ea
                    split at p8
                    · rename_i hz
                      have hD8 : ι8[Z1.length]? = some D := gz.pre _ _ hDi
                      obtain ⟨a, ws, ea', _, h1, rw1⟩ := Ur s8 (W3 ea) (.loc hD8)
                      cases ea'
                      have g9 := Gr.mut (ι := ι8) (o := .lst (ws ++ [y8])) h1 trivial (List.mem_of_getElem? hD8)
                      refine ⟨ws,h1,by rw [rw1.length]; exact Nat.lt_of_lt_of_le hz Z2v,ι8,_,(((g5.trans g6).trans g7).trans g8).trans g9,s8.set (ob := .lst (acc ++ [ty])) hD8 ⟨_,upd_same,(rw1.gr g9).append (.cons (ry.gr g9) .nil)⟩,p8.shift g9⟩
                    · exact p8.elim
                  · exact p8.elim
theorem f_lc2 {elt tg iter tg1 iter1 : Expr} {scope : Scope} {own : List (PySem.Str × Nat)} {pos : Pos} {fi fi1 : FI} {g g1 : TG} {fe : FE} {js vs1 js1 : List Nat} (hg0 : TgOk K js g) (hjs : ∀ j ∈ js,j ∈ own.map (·.2)) (hg01 : TgOk K js1 g1) (hjs1 : ∀ j ∈ js1,j ∈ vs1) (hc : X.calm = true) (hN : X.N.Nodup) (hi : PI X tg iter (tI K W.w fi)) (ok : BlkOk X.N X.env.scope scope own) (hv : ∀ i ∈ vs1,i ∈ own.map (·.2))
    (hg : ∀ (s : Shared) (H : Hp) (C : Addr) (cl : List (PySem.Str × Addr)) (fp : List Addr),PG (X.blk s H scope (compEnvC scope cl C X.env) fp) tg g)
    (hi1 : ∀ (s : Shared) (H : Hp) (C : Addr) (cl : List (PySem.Str × Addr)) (fp : List Addr),PI (X.blk s H scope (compEnvC scope cl C X.env) fp) tg1 iter1 (tI K W0.w fi1))
    (hg1 : ∀ (s : Shared) (H : Hp) (C : Addr) (cl : List (PySem.Str × Addr)) (fp : List Addr),PG (X.blk s H scope (compEnvC scope cl C X.env) fp) tg1 g1)
    (he : ∀ (s : Shared) (H : Hp) (C : Addr) (cl : List (PySem.Str × Addr)) (fp : List Addr),FJ (X.blk s H scope (compEnvC scope cl C X.env) fp) K W0 elt fe) (hs : ∀ x,foldedSetIterable iter X.env x = pure x := by intro _; rfl) (hs1 : ∀ env x,foldedSetIterable iter1 env x = pure x := by intro _ _; rfl) :
    FJ X K W (.ListComp elt [⟨tg,iter,[],0⟩,⟨tg1,iter1,[],0⟩] scope pos) (eLc2 (own.map (·.2)) js fi vs1 js1 fi1 fe) :=
  Xj (pe_lc2 hc hN hi ok hv hg (fun _ _ _ _ _ => Ws) hi1 hg1 (fun _ _ _ _ _ => Ws) he hs hs1) fun σ H Q h => Zi7 hg0 hjs hg01 hjs1 (fun R q => Z9m q) h
end
end Fx
set_option maxHeartbeats 4000000
namespace Fx
open PySem PySem.Spec PyProof.Rows L2 SX Ap
variable [Tb]
def loopD (it : ItF) (D : Nat) (put : T → Option Env) (fk fv : FE) : Nat → Nat → Sto → R T
  | 0,_,_ => .stuck
  | n + 1,k,Z => match it k Z with
    | none => .stuck
    | some none => .ok (.loc D) Z
    | some (some t) => match put t with
      | none => .stuck
      | some ρ => (noX (fk ρ Z)).bind fun x Z1 => (noX (fv ρ Z1)).bind fun y Z2 => match getDK Z2 D,keyT x with
        | some kvs, some k' => if kvs.length < Lim then loopD it D put fk fv n (k + 1) (Z2.set D (.dk (putKT kvs k' y))) else .stuck
        | _,_ => .stuck
def eDc (vs js : List Nat) (it : FI) (fk fv : FE) : FE := fun ρ Z => (it ρ Z).bind fun j Z1 => loopD j Z1.length (fun t => putN js t (wipeR ρ vs)) fk fv Fuel 0 (Z1 ++ [.dk []])
def tKey : Key → Option T
  | .inl i => some (.int i)
  | .inr _ => none
def tKeys : List (Key × T) → Option (List T)
  | [] => some []
  | (k,_) :: r => match tKey k,tKeys r with
    | some t,some ts => some (t :: ts)
    | _,_ => none
def gListW : List T → Sto → Option (T × Sto)
  | [.loc i],Z => match getDK Z i with
    | some kvs => (tKeys kvs).map fun ts => (.loc Z.length,Z ++ [.lst ts])
    | none => gList [.loc i] Z
  | ts,Z => gList ts Z
section
variable {X : Cx} {K : PySem.W.Frag} {W : Wc}
theorem Sim.newK {ι : List Addr} {Z : Sto} {H : Hp} {vs : List (Key × V)} {ts : List (Key × T)} (s : Sim K ι Z H) (r : RepP K ι H vs ts) {p : Addr} (n : H p = none) : Sim K (ι ++ [p]) (Z ++ [.dk ts]) (upd H p (.dK vs)) := s.new n ⟨vs,upd_same,r.gr (Gr.new n)⟩
theorem tF_dc {fi : FI} {g : TG} {fk fv : FE} {vs js : List Nat} (hg : TgOk K js g) (hjs : ∀ j ∈ js,j ∈ vs) {σ : L2.St} {H : Hp} {Q : VK} (hi : ∀ R,(∃ ι ρ Z,Ie K W ι H σ ρ Z ∧ Post (ItR K) K W.w σ ι H R (fi ρ Z)) → tI K W.w fi σ H R) (h : tF K W (eDc vs js fi fk fv) σ H Q) : tDc (tI K W.w fi) g (tFT K W0 eYes) (tF K W0 fk) (tF K W0 fv) vs σ H Q := by
  obtain ⟨ι,ρ,Z,is,p⟩ := h
  refine hi _ ⟨ι,ρ,Z,is,(Zi (rep := ItR K) p).imp fun J H1 q => ?_⟩
  obtain ⟨ι1,Z1,it,g1,s1,rJ,p1⟩ := q
  intro D hD
  have is1 := is.gr g1 s1
  have sD : Sim K (ι1 ++ [D]) (Z1 ++ [.dk []]) (upd H1 D (.dK [])) := s1.newK .nil hD
  have gD : Gr ι1 (ι1 ++ [D]) H1 (upd H1 D (.dK [])) := Gr.new hD
  have hDi : (ι1 ++ [D])[Z1.length]? = some D := by rw [← s1.len]; simp
  refine ⟨fun k m H' => ∃ ι' Z', Gr (ι1 ++ [D]) ι' (upd H1 D (.dK [])) H' ∧ Sim K ι' Z' H' ∧ Post (Rep K) K W.w σ ι' H' Q (loopD it Z1.length (fun t => putN js t (wipeR ρ vs)) fk fv m k Z'), ⟨Fuel, ι1 ++ [D], _, Gr.refl, sD, p1.shift gD⟩, ?_⟩
  rintro k m H' ⟨ι', Z', g', s', p'⟩
  cases m with
  | zero => exact p'.elim
  | succ m =>
    have hj := rJ k ι' H' Z' (gD.trans g') s'
    unfold loopD at p'
    cases e : it k Z' with
    | none => rw [e] at p'; exact p'.elim
    | some o =>
      rw [e] at hj p'
      cases o with
      | none => exact .inl ⟨hj, p' ι' H' _ Gr.refl s' (.loc (g'.pre _ _ hDi))⟩
      | some t =>
        refine .inr ⟨hj.1, _, fun H2 n => ⟨m, Nat.lt_succ_self m, n⟩, fun x H'' y => ?_⟩
        obtain ⟨g2, s2, r2⟩ := hj.2 x H'' y
        simp only at p'
        cases e3 : putN js t (wipeR ρ vs) with
        | none => rw [e3] at p'; exact p'.elim
        | some ρ' =>
          rw [e3] at p'
          simp only at p'
          have env2 : Envs K ι' H'' (wipe σ vs) (wipeR ρ vs) := Z0z ((is1.env.gr (gD.trans g')).gr g2) is1.len vs
          refine hg x (wipe σ vs) H'' _ ι' _ ρ' t (by rw [wipe_length, Qo]; exact is1.len) env2 r2 e3 fun σ' hl' env' hw => ?_
          refine ⟨by rw [hw vs hjs, Z31], ι', ρ', Z', ⟨hl', env', s2, trivial⟩, fun ιa Ha ba ga sa hba => ?_⟩
          cases (show ba = true from hba)
          rw [if_pos rfl]
          refine ⟨ιa, ρ', Z', ⟨hl', env'.gr ga, sa, trivial⟩, Jk (W := W.w) (σ := σ) ((Zi (rep := Rep K) (p'.shift (g2.trans ga))).imp fun kk H3 q => ?_)⟩
          obtain ⟨ι3,Z3,tk,g3,s3,rk,p3⟩ := q
          refine ⟨ι3, ρ', Z3, ⟨hl', (env'.gr ga).gr g3, s3, trivial⟩, Jk (W := W.w) (σ := σ) ((Zi (rep := Rep K) p3).imp fun y H4 q => ?_)⟩
          obtain ⟨ι4,Z4,ty,g4,s4,ry,p4⟩ := q
          split at p4
          · rename_i kvs k' ea ek
            split at p4
            · rename_i hz
              have gb := (((g'.trans g2).trans ga).trans g3).trans g4
              have hD4 : ι4[Z1.length]? = some D := gb.pre _ _ hDi
              obtain ⟨a, ws, ea', _, h1, rw1⟩ := Jl s4 (.loc hD4) ea
              cases ea'
              have hkk := Z62 rk ek
              have g5 := Gr.mut (ι := ι4) (o := .dK (putK ws k' y)) h1 trivial (List.mem_of_getElem? hD4)
              exact ⟨ws, k', hkk, h1, by rw [rw1.length]; exact Nat.lt_of_lt_of_le hz Z2v, ι4, _, gb.trans g5, s4.set (ob := .dk (putKT kvs k' ty)) hD4 ⟨_, upd_same, Zc2 (rw1.gr g5) (ry.gr g5)⟩, p4.shift g5⟩
            · exact p4.elim
          · exact p4.elim
theorem f_dc {kx vx tg iter : Expr} {scope : Scope} {own : List (PySem.Str × Nat)} {pos : Pos} {fi : FI} {g : TG} {fk fv : FE} {js : List Nat} (hg0 : TgOk K js g) (hjs : ∀ j ∈ js,j ∈ own.map (·.2)) (hc : X.calm = true) (hN : X.N.Nodup) (hi : PI X tg iter (tI K W.w fi)) (ok : BlkOk X.N X.env.scope scope own)
    (hg : ∀ (s : Shared) (H : Hp) (C : Addr) (cl : List (PySem.Str × Addr)) (fp : List Addr),PG (X.blk s H scope (compEnvC scope cl C X.env) fp) tg g)
    (hk : ∀ (s : Shared) (H : Hp) (C : Addr) (cl : List (PySem.Str × Addr)) (fp : List Addr),FJ (X.blk s H scope (compEnvC scope cl C X.env) fp) K W0 kx fk)
    (he : ∀ (s : Shared) (H : Hp) (C : Addr) (cl : List (PySem.Str × Addr)) (fp : List Addr),FJ (X.blk s H scope (compEnvC scope cl C X.env) fp) K W0 vx fv) (hs : ∀ x,foldedSetIterable iter X.env x = pure x := by intro _; rfl) :
    FJ X K W (.DictComp kx vx [⟨tg,iter,[],0⟩] scope pos) (eDc (own.map (·.2)) js fi fk fv) := Xj (pe_dc hc hN hi ok hg (fun _ _ _ _ _ => Ws) hk he hs) fun σ H Q h => tF_dc hg0 hjs (fun R q => Z9m q) h
theorem Z9w {ι : List Addr} {H : Hp} : ∀ {vs : List (Key × V)} {ks : List (Key × T)} {ts : List T},RepP K ι H vs ks → tKeys ks = some ts → Reps K ι H (vs.map fun kv => kV kv.1) ts
  | _,_,_,.nil,e => by cases e; exact .nil
  | _,(k,_) :: _,_,.cons r q,e => by
    simp only [tKeys] at e
    split at e
    · rename_i t us et eu
      cases e
      cases k with
      | inl i => cases et; exact .cons (.int i) (Z9w q eu)
      | inr x => cases et
    · cases e
theorem Zcc (hK : X.K = K) (hc : X.calm = true) : CallR X (.type "list") (rFC K gListW) := by
  have h0 := Zbl (X := X) hK
  subst hK
  intro pins s σ H xs us Q I r h
  obtain ⟨ι,Z,ts,sm,rr,p⟩ := h
  unfold gListW at p
  split at p
  · split at p
    · rename_i i kvs e
      obtain ⟨v,rfl,r1⟩ := rr.one
      cases ek : tKeys kvs with
      | none => rw [ek] at p; exact p.elim
      | some ws =>
        rw [ek] at p
        obtain ⟨a,vs,rfl,_,h1,rp⟩ := Jl sm r1 e
        exact call_list_dK hc pins s σ H _ us Q I r ⟨a,vs,rfl,h1,Z4k p sm (Z9w rp ek)⟩
    · exact h0 pins s σ H xs us Q I r ⟨ι,Z,_,sm,rr,p⟩
  · exact h0 pins s σ H xs us Q I r ⟨ι,Z,_,sm,rr,p⟩
end
end Fx
set_option maxHeartbeats 4000000
namespace Fx
open PySem PySem.Spec PyProof.Rows L2 SX Ap
variable [Tb]
section
variable {P : Program} {w : World} {K : PySem.W.Frag} {mg : PySem.Str → Option Value} {base : Heap}
theorem Z7s {k : Nat} {f : Addr} {fd : FuncData} {ps : List PySem.Str} {n : Nat} (hn : n = ps.length) : FnG P w K mg base k f fd ps (spF K n (fun _ _ => .stuck)) :=
  ⟨fun vs H Q E h => hn ▸ h.1,fun A outer s H as us vs Q E _ _ _ _ _ h => by obtain ⟨_,_,_,_,_,_,p⟩ := h; exact p.elim⟩
theorem Z1q {x qual : PySem.Str} {st : Stmt} {f : Addr} {fd : FuncData} (F : FunD K x qual (defArgs st) (defBody st) (defScope st) [] [] f fd) : L2.Fun K x qual st f fd := by
  obtain ⟨⟨oc,od,dV,kV,doc,pm,an,cdv,ct,osl,e,lk,hcd,hd,_⟩,kp⟩ := F
  have : dV = .none := by
    rcases hd with ⟨_,h⟩ | ⟨h,_⟩
    · exact h
    · exact (h rfl).elim
  subst this
  exact ⟨⟨oc,od,kV,doc,pm,an,cdv,ct,osl,e,lk,hcd⟩,kp⟩
end
end Fx
set_option maxHeartbeats 4000000
namespace Fx
open PySem PySem.Spec PyProof.Rows L2 SX Ap
def rngOf (xs : List T) (Z1 : Sto) : R ItF := match xs with
  | [.int j] => if -(2 ^ 62) ≤ j ∧ j < 2 ^ 62 then .ok (itRng 0 j.toNat) Z1 else .stuck
  | [.int i,.int j] => if -(2 ^ 62) ≤ i ∧ i < 2 ^ 62 ∧ -(2 ^ 62) ≤ j ∧ j < 2 ^ 62 then .ok (itRng i (j - i).toNat) Z1 else .stuck
  | _ => .stuck
theorem rng1 {j : Int} {Z : Sto} (h1 : -1000000 ≤ j) (h2 : j ≤ 1000000) : rngOf [.int j] Z = .ok (itRng 0 j.toNat) Z := if_pos ⟨by omega,by omega⟩
theorem rngN {n : Nat} {Z : Sto} (h : n ≤ Lim) : rngOf [.int (n : Int)] Z = .ok (itRng 0 n) Z := by
  have h' : n ≤ 1000000 := h
  rw [rng1 (by omega) (by omega)]; rfl
section
variable (ρ : Env) (Z : Sto)
@[simp] theorem q_eC (t : T) : eC t ρ Z = .ok t Z := (rfl)
@[simp] theorem q_var0 (t : T) : eVar 0 (some t :: ρ) Z = .ok t Z := (rfl)
@[simp] theorem q_varS (i : Nat) (o : Option T) : eVar (i + 1) (o :: ρ) Z = eVar i ρ Z := (rfl)
@[simp] theorem q_var1 (o : Option T) : eVar 1 (o :: ρ) Z = eVar 0 ρ Z := (rfl)
@[simp] theorem q_var2 (o : Option T) : eVar 2 (o :: ρ) Z = eVar 1 ρ Z := (rfl)
@[simp] theorem q_var3 (o : Option T) : eVar 3 (o :: ρ) Z = eVar 2 ρ Z := (rfl)
@[simp] theorem q_var4 (o : Option T) : eVar 4 (o :: ρ) Z = eVar 3 ρ Z := (rfl)
@[simp] theorem q_var5 (o : Option T) : eVar 5 (o :: ρ) Z = eVar 4 ρ Z := (rfl)
@[simp] theorem q_var6 (o : Option T) : eVar 6 (o :: ρ) Z = eVar 5 ρ Z := (rfl)
@[simp] theorem q_var7 (o : Option T) : eVar 7 (o :: ρ) Z = eVar 6 ρ Z := (rfl)
@[simp] theorem q_var8 (o : Option T) : eVar 8 (o :: ρ) Z = eVar 7 ρ Z := (rfl)
@[simp] theorem q_var9 (o : Option T) : eVar 9 (o :: ρ) Z = eVar 8 ρ Z := (rfl)
@[simp] theorem q_var10 (o : Option T) : eVar 10 (o :: ρ) Z = eVar 9 ρ Z := (rfl)
@[simp] theorem q_var11 (o : Option T) : eVar 11 (o :: ρ) Z = eVar 10 ρ Z := (rfl)
@[simp] theorem q_var12 (o : Option T) : eVar 12 (o :: ρ) Z = eVar 11 ρ Z := (rfl)
@[simp] theorem q_var13 (o : Option T) : eVar 13 (o :: ρ) Z = eVar 12 ρ Z := (rfl)
@[simp] theorem q_var14 (o : Option T) : eVar 14 (o :: ρ) Z = eVar 13 ρ Z := (rfl)
@[simp] theorem q_bin (g : T → T → Sto → Option (T × Sto)) (a b : FE) : eBin g a b ρ Z = (a ρ Z).bind fun x Z1 => (b ρ Z1).bind fun y Z2 => lift (g x y Z2) := (rfl)
@[simp] theorem q_un (g : T → Sto → Option (T × Sto)) (a : FE) : eUn g a ρ Z = (a ρ Z).bind fun x Z1 => lift (g x Z1) := (rfl)
@[simp] theorem q_if (c : FT) (a b : FE) : eIf c a b ρ Z = (c ρ Z).bind fun x Z1 => if x = true then a ρ Z1 else b ρ Z1 := (rfl)
@[simp] theorem q_nil : aNil ρ Z = .ok [] Z := (rfl)
@[simp] theorem q_cons (a : FE) (r : FA) : aCons a r ρ Z = (a ρ Z).bind fun x Z1 => (r ρ Z1).bind fun xs Z2 => .ok (x :: xs) Z2 := (rfl)
@[simp] theorem q_tru (f : FE) : eTru f ρ Z = (f ρ Z).bind fun x Z1 => match truth x Z1 with | some b => .ok b Z1 | none => .stuck := (rfl)
@[simp] theorem q_tAnd (a b : FT) : Fx.tAnd a b ρ Z = (a ρ Z).bind fun x Z1 => if x = true then b ρ Z1 else .ok false Z1 := (rfl)
@[simp] theorem q_tOr (a b : FT) : Fx.tOr a b ρ Z = (a ρ Z).bind fun x Z1 => if x = true then .ok true Z1 else b ρ Z1 := (rfl)
@[simp] theorem q_tNot (a : FT) : Fx.tNot a ρ Z = (a ρ Z).bind fun x Z1 => .ok (!x) Z1 := (rfl)
@[simp] theorem q_and (a b : FE) : eAnd a b ρ Z = (a ρ Z).bind fun x Z1 => match truth x Z1 with | some true => b ρ Z1 | some false => .ok x Z1 | none => .stuck := (rfl)
@[simp] theorem q_or (a b : FE) : eOr a b ρ Z = (a ρ Z).bind fun x Z1 => match truth x Z1 with | some true => .ok x Z1 | some false => b ρ Z1 | none => .stuck := (rfl)
@[simp] theorem q_not (a : FE) : eNot a ρ Z = (a ρ Z).bind fun x Z1 => match truth x Z1 with | some b => .ok (.bl (!b)) Z1 | none => .stuck := (rfl)
@[simp] theorem q_bl (f : FE) : eBl f ρ Z = (f ρ Z).bind fun x Z1 => match x with | .bl b => .ok b Z1 | _ => .stuck := (rfl)
@[simp] theorem q_chain (g g' : T → T → Sto → Option (T × Sto)) (a b c : FE) : eChain g g' a b c ρ Z = (a ρ Z).bind fun x Z1 => (b ρ Z1).bind fun y Z2 => (lift (g x y Z2)).bind fun z Z3 => match z with | .bl true => (c ρ Z3).bind fun w Z4 => lift (g' y w Z4) | .bl false => .ok (.bl false) Z3 | _ => .stuck := (rfl)
@[simp] theorem q_oNone : oNone ρ Z = .ok none Z := (rfl)
@[simp] theorem q_oSome (f : FE) : oSome f ρ Z = (f ρ Z).bind fun x Z1 => match x with | .int i => .ok (some i) Z1 | _ => .stuck := (rfl)
@[simp] theorem q_sl (f : FE) (lo hi : FO) : eSl f lo hi ρ Z = (f ρ Z).bind fun x Z1 => (lo ρ Z1).bind fun l Z2 => (hi ρ Z2).bind fun h Z3 => lift (gSl x l h Z3) := (rfl)
@[simp] theorem q_tup (f : FA) : eTup f ρ Z = (f ρ Z).bind fun xs Z1 => .ok (.tup xs) Z1 := (rfl)
@[simp] theorem q_lst (f : FA) : eLst f ρ Z = (f ρ Z).bind fun xs Z1 => .ok (.loc Z1.length) (Z1 ++ [.lst xs]) := (rfl)
@[simp] theorem q_call (F : FF) (ds : List T) (fa : FA) : eCall F ds fa ρ Z = (fa ρ Z).bind fun ts Z1 => F (ts ++ ds) Z1 := (rfl)
@[simp] theorem q_callB (g : List T → Sto → Option (T × Sto)) (fa : FA) : eCallB g fa ρ Z = (fa ρ Z).bind fun xs Z1 => lift (g xs Z1) := (rfl)
@[simp] theorem q_bm (n : String) (g : T → List T → Sto → Option (T × Sto)) (fo : FE) (fa : FA) : eBM n g fo fa ρ Z = (fo ρ Z).bind fun x Z1 => if isTy n x Z1 = true then (fa ρ Z1).bind fun xs Z2 => lift (g x xs Z2) else .stuck := (rfl)
@[simp] theorem Zge : eDict0 ρ Z = .ok (.loc Z.length) (Z ++ [.dk []]) := (rfl)
@[simp] theorem q_yes : eYes ρ Z = .ok true Z := (rfl)
@[simp] theorem Zgf (i : Nat) (f : FE) : sSet i f ρ Z = bS ρ (f ρ Z) fun x Z1 => .nx (ρ.set i (some x)) Z1 := (rfl)
@[simp] theorem q_ret (f : FE) : sRet f ρ Z = bS ρ (f ρ Z) fun x Z1 => .rt x Z1 := (rfl)
@[simp] theorem q_retN : sRetN ρ Z = .rt .non Z := (rfl)
@[simp] theorem q_drop (f : FE) : sDrop f ρ Z = bS ρ (f ρ Z) fun _ Z1 => .nx ρ Z1 := (rfl)
@[simp] theorem q_pass : sPass ρ Z = .nx ρ Z := (rfl)
@[simp] theorem q_brk : sBrk ρ Z = .bk ρ Z := (rfl)
@[simp] theorem q_cnt : sCnt ρ Z = .ct ρ Z := (rfl)
@[simp] theorem q_sIf (c : FT) (a b : FS) : sIf c a b ρ Z = bS ρ (c ρ Z) fun x Z1 => if x = true then a ρ Z1 else b ρ Z1 := (rfl)
@[simp] theorem q_bCons (a b : FS) : bCons a b ρ Z = seqS (a ρ Z) b := (rfl)
@[simp] theorem q_par (ix : List Nat) (f : FA) : sPar ix f ρ Z = bS ρ (f ρ Z) fun xs Z1 => .nx ((ix.zip xs).foldl (fun r p => r.set p.1 (some p.2)) ρ) Z1 := (rfl)
@[simp] theorem q_asg (f : FE) (g : FG) : sAsg f g ρ Z = bS ρ (f ρ Z) fun x Z1 => bS ρ (g x ρ Z1) fun ρ2 Z2 => .nx ρ2 Z2 := (rfl)
@[simp] theorem Z7t (i : Nat) (t : T) : gNm i t ρ Z = .ok (ρ.set i (some t)) Z := (rfl)
@[simp] theorem q_gsNil : gsNil [] ρ Z = .ok ρ Z := (rfl)
@[simp] theorem q_gsCons (g : FG) (r : FGs) (t : T) (ts : List T) : gsCons g r (t :: ts) ρ Z = (noX (g t ρ Z)).bind fun ρ1 Z1 => noX (r ts ρ1 Z1) := (rfl)
@[simp] theorem q_gTp (n : Nat) (r : FGs) (ts : List T) : gTp n r (.tup ts) ρ Z = if ts.length = n then r ts ρ Z else .stuck := (rfl)
@[simp] theorem q_gSubs (fo fi : FE) (t : T) : gSubs fo fi t ρ Z = (fo ρ Z).bind fun o Z1 => (fi ρ Z1).bind fun i Z2 => match gSetL o i t Z2 with | some Z3 => .ok ρ Z3 | none => .stuck := (rfl)
@[simp] theorem Zcd (it : FI) (g : FG) (b : FS) : sFor it g b ρ Z = bS ρ (it ρ Z) fun j Z1 => loopN j (fun t ρ' Z' => bS ρ' (g t ρ' Z') b) Fuel 0 ρ Z1 := (rfl)
@[simp] theorem q_raise (nm f : PySem.Str) (ds : List T) (fa : FA) : sRaise nm f ds fa ρ Z = bS ρ (fa ρ Z) fun ts Z1 => match ts ++ ds with | [t] => .exc ⟨nm,[(f,t)]⟩ ρ Z1 | _ => .stuck := (rfl)
@[simp] theorem q_iAny (f : FE) : iAny f ρ Z = (f ρ Z).bind fun x Z1 => match x with | .frl ts => .ok (itSeq ts) Z1 | .loc i => (match getL Z1 i with | some _ => .ok (itLoc i) Z1 | none => .stuck) | .tup ts => .ok (itSeq ts) Z1 | .str l => .ok (itStr l) Z1 | _ => .stuck := (rfl)
@[simp] theorem Zgg (f : FA) : iEnmA f ρ Z = (f ρ Z).bind fun xs Z1 => match xs with | [.frl ts] => .ok (itEnum (itSeq ts)) Z1 | [.loc i] => (match getL Z1 i with | some _ => .ok (itEnum (itLoc i)) Z1 | none => .stuck) | [.tup ts] => .ok (itEnum (itSeqX ts)) Z1 | [.str l] => .ok (itEnum (itStrX l)) Z1 | _ => .stuck := (rfl)
@[simp] theorem q_iRng (f : FA) : iRng f ρ Z = (f ρ Z).bind fun xs Z1 => rngOf xs Z1 := (rfl)
@[simp] theorem q_lc (vs js : List Nat) (it : FI) (c : FT) (e : FE) : eLc vs js it c e ρ Z = (it ρ Z).bind fun j Z1 => loopC j Z1.length (fun t => putN js t (wipeR ρ vs)) c e Fuel 0 (Z1 ++ [.lst []]) := (rfl)
@[simp] theorem q_xf (y : Ex) (f : PySem.Str) : eXf y f ρ Z = match y.fs.lookup f with | some t => .ok t Z | none => .stuck := (rfl)
end
@[simp] theorem Z68 {α : Type} (a : α) (Z : Sto) : noX (.ok a Z) = .ok a Z := (rfl)
@[simp] theorem t_bl (b : Bool) (Z : Sto) : truth (.bl b) Z = some b := (rfl)
@[simp] theorem t_int (i : Int) (Z : Sto) : truth (.int i) Z = some (i != 0) := (rfl)
@[simp] theorem t_non (Z : Sto) : truth .non Z = some false := (rfl)
@[simp] theorem t_tup (ts : List T) (Z : Sto) : truth (.tup ts) Z = some (!ts.isEmpty) := (rfl)
@[simp] theorem add_ii (i j : Int) (Z : Sto) : gAdd (.int i) (.int j) Z = some (.int (i + j),Z) := (rfl)
@[simp] theorem add_ss (a b : List Nat) (Z : Sto) : gAdd (.str a) (.str b) Z = if a.length + b.length ≤ Lim then some (.str (a ++ b),Z) else none := (rfl)
@[simp] theorem add_tt (a b : List T) (Z : Sto) : gAdd (.tup a) (.tup b) Z = if a.length + b.length ≤ Lim then some (.tup (a ++ b),Z) else none := (rfl)
@[simp] theorem Z9x (i j : Nat) (Z : Sto) : gAdd (.loc i) (.loc j) Z = match getL Z i,getL Z j with | some a,some b => if a.length + b.length ≤ Lim then some (.loc Z.length,Z ++ [.lst (a ++ b)]) else none | _,_ => none := (rfl)
@[simp] theorem iadd_ii (i j : Int) (Z : Sto) : gIAdd (.int i) (.int j) Z = some (.int (i + j),Z) := (rfl)
@[simp] theorem iadd_ss (a b : List Nat) (Z : Sto) : gIAdd (.str a) (.str b) Z = if a.length + b.length ≤ Lim then some (.str (a ++ b),Z) else none := (rfl)
@[simp] theorem sub_ii (i j : Int) (Z : Sto) : gSub (.int i) (.int j) Z = some (.int (i - j),Z) := (rfl)
@[simp] theorem mul_ii (i j : Int) (Z : Sto) : gMul (.int i) (.int j) Z = if mulOk i j = true then some (.int (i * j),Z) else none := (rfl)
@[simp] theorem mul_si (l : List Nat) (k : Int) (Z : Sto) : gMul (.str l) (.int k) Z = if -100000 ≤ k ∧ k ≤ 100000 ∧ l.length * k.toNat ≤ 100000 then some (.str (repL k.toNat l),Z) else none := (rfl)
@[simp] theorem Zf5 (i : Nat) (k : Int) (Z : Sto) : gMul (.loc i) (.int k) Z = match getL Z i with | some a => if -100000 ≤ k ∧ k ≤ 100000 ∧ a.length * k.toNat ≤ Lim then some (.loc Z.length,Z ++ [.lst (List.replicate k.toNat a).flatten]) else none | _ => none := (rfl)
@[simp] theorem div_ii (i j : Int) (Z : Sto) : gDiv (.int i) (.int j) Z = if 0 < j ∧ j < 2 ^ 200 then some (.int (i / j),Z) else none := (rfl)
@[simp] theorem mod_ii (i j : Int) (Z : Sto) : gMod (.int i) (.int j) Z = if 0 < j then some (.int (i % j),Z) else none := (rfl)
@[simp] theorem pow_ii (i j : Int) (Z : Sto) : gPow (.int i) (.int j) Z = if 0 ≤ j ∧ j ≤ 1000000 ∧ i.natAbs < 2 ^ 64 then some (.int (i ^ j.toNat),Z) else none := (rfl)
@[simp] theorem neg_i (i : Int) (Z : Sto) : gNeg (.int i) Z = some (.int (-i),Z) := (rfl)
@[simp] theorem eq_ii (i j : Int) (Z : Sto) : gEq (.int i) (.int j) Z = some (.bl (decide (i = j)),Z) := (rfl)
@[simp] theorem eq_ss (i j : List Nat) (Z : Sto) : gEq (.str i) (.str j) Z = some (.bl (decide (i = j)),Z) := (rfl)
@[simp] theorem eq_bb (i j : Bool) (Z : Sto) : gEq (.bl i) (.bl j) Z = some (.bl (decide (i = j)),Z) := (rfl)
@[simp] theorem ne_ii (i j : Int) (Z : Sto) : gNe (.int i) (.int j) Z = some (.bl (!decide (i = j)),Z) := (rfl)
@[simp] theorem ne_ss (i j : List Nat) (Z : Sto) : gNe (.str i) (.str j) Z = some (.bl (!decide (i = j)),Z) := (rfl)
@[simp] theorem ne_bb (i j : Bool) (Z : Sto) : gNe (.bl i) (.bl j) Z = some (.bl (!decide (i = j)),Z) := (rfl)
@[simp] theorem lt_ii (i j : Int) (Z : Sto) : gLt (.int i) (.int j) Z = some (.bl (decide (i < j)),Z) := (rfl)
@[simp] theorem lt_ss (i j : List Nat) (Z : Sto) : gLt (.str i) (.str j) Z = some (.bl (decide (i < j)),Z) := (rfl)
@[simp] theorem le_ii (i j : Int) (Z : Sto) : gLe (.int i) (.int j) Z = some (.bl (decide (i ≤ j)),Z) := (rfl)
@[simp] theorem gt_ii (i j : Int) (Z : Sto) : gGt (.int i) (.int j) Z = some (.bl (decide (j < i)),Z) := (rfl)
@[simp] theorem ge_ii (i j : Int) (Z : Sto) : gGe (.int i) (.int j) Z = some (.bl (decide (j ≤ i)),Z) := (rfl)
@[simp] theorem is_n (x : T) (Z : Sto) : gIs x .non Z = some (.bl (isNon x),Z) := by cases x <;> rfl
@[simp] theorem isNot_n (x : T) (Z : Sto) : gIsNot x .non Z = some (.bl (!isNon x),Z) := by cases x <;> rfl
@[simp] theorem ix_tup (ts : List T) (i : Int) (Z : Sto) : gIx (.tup ts) (.int i) Z = (atI ts i).map fun t => (t,Z) := (rfl)
@[simp] theorem ix_frl (ts : List T) (i : Int) (Z : Sto) : gIx (.frl ts) (.int i) Z = (atI ts i).map fun t => (t,Z) := (rfl)
@[simp] theorem Zi8 (n : Nat) (i : Int) (Z : Sto) : gIx (.loc n) (.int i) Z = match getL Z n with | some ts => (atI ts i).map fun t => (t,Z) | none => none := by
  simp only [gIx,asSeq,asList,getL]
  all_goals (cases Z[n]? with
    | none => rfl
    | some o => cases o <;> rfl)
@[simp] theorem ix_str (l : List Nat) (i : Int) (Z : Sto) : gIx (.str l) (.int i) Z = if l.length ≤ Lim then (atI l i).map fun c => (.str [c],Z) else none := (rfl)
@[simp] theorem sl_s (l : List Nat) (lo hi : Option Int) (Z : Sto) : gSl (.str l) lo hi Z = if l.length ≤ Lim then some (.str (cutL l lo hi),Z) else none := (rfl)
@[simp] theorem sl_t (l : List T) (lo hi : Option Int) (Z : Sto) : gSl (.tup l) lo hi Z = some (.tup (cutL l lo hi),Z) := (rfl)
@[simp] theorem sl_f (l : List T) (lo hi : Option Int) (Z : Sto) : gSl (.frl l) lo hi Z = some (.loc Z.length,Z ++ [.lst (cutL l lo hi)]) := (rfl)
@[simp] theorem sl_l (n : Nat) (lo hi : Option Int) (Z : Sto) : gSl (.loc n) lo hi Z = match getL Z n with | some ts => some (.loc Z.length,Z ++ [.lst (cutL ts lo hi)]) | none => none := by
  simp only [gSl,asList,getL]
  all_goals (cases Z[n]? with
    | none => rfl
    | some o => cases o <;> rfl)
@[simp] theorem len_s (l : List Nat) (Z : Sto) : gLen [.str l] Z = if l.length ≤ Lim then some (.int l.length,Z) else none := (rfl)
@[simp] theorem len_t (l : List T) (Z : Sto) : gLen [.tup l] Z = some (.int l.length,Z) := (rfl)
@[simp] theorem len_f (l : List T) (Z : Sto) : gLen [.frl l] Z = some (.int l.length,Z) := (rfl)
@[simp] theorem len_l (n : Nat) (Z : Sto) : gLen [.loc n] Z = match getL Z n with | some ts => some (.int ts.length,Z) | none => none := by
  simp only [gLen,asSeq,asList,getL]
  cases Z[n]? with
  | none => rfl
  | some o => cases o <;> rfl
@[simp] theorem max_ii (i j : Int) (Z : Sto) : gMax [.int i,.int j] Z = some (.int (if j > i then j else i),Z) := (rfl)
@[simp] theorem min_ii (i j : Int) (Z : Sto) : gMin [.int i,.int j] Z = some (.int (if j < i then j else i),Z) := (rfl)
@[simp] theorem int_i (i : Int) (Z : Sto) : gInt [.int i] Z = some (.int i,Z) := (rfl)
@[simp] theorem int_b (b : Bool) (Z : Sto) : gInt [.bl b] Z = some (.int (if b then 1 else 0),Z) := (rfl)
@[simp] theorem tuple_l (n : Nat) (Z : Sto) : gTuple [.loc n] Z = match getL Z n with | some ts => some (.tup ts,Z) | none => none := by
  simp only [gTuple,asList,getL]
  cases Z[n]? with
  | none => rfl
  | some o => cases o <;> rfl
@[simp] theorem Zi9 (n : Nat) (t : T) (Z : Sto) : gAppend (.loc n) [t] Z = match getL Z n with | some ts => if ts.length < Lim then some (.non,Z.set n (.lst (ts ++ [t]))) else none | none => none := (rfl)
@[simp] theorem set_l (n : Nat) (i : Int) (t : T) (Z : Sto) : gSetL (.loc n) (.int i) t Z = match getL Z n with | some ts => (ixN ts.length i).map fun m => Z.set n (.lst (ts.set m t)) | none => none := (rfl)
theorem V3 {Z : Sto} {i : Nat} {ts : List T} : getL Z i = some ts ↔ Z[i]? = some (.lst ts) := ⟨W3,fun h => by unfold getL; rw [h]⟩
@[simp] theorem Zk (Z : Sto) (ts : List T) : getL (Z ++ [.lst ts]) Z.length = some ts := by simp [getL]
theorem Yx {Z Y : Sto} {i : Nat} {ts : List T} (h : getL Z i = some ts) : getL (Z ++ Y) i = some ts := by
  rw [V3] at h ⊢
  rw [List.getElem?_append_left (List.getElem?_eq_some_iff.mp h).1]; exact h
theorem Wj {Z : Sto} {i : Nat} {ts us : List T} (h : getL Z i = some ts) : getL (Z.set i (.lst us)) i = some us := by
  rw [V3] at h ⊢
  rw [List.getElem?_set_self (List.getElem?_eq_some_iff.mp h).1]
theorem Z56 {Z : Sto} {i j : Nat} {o : O} (h : i ≠ j) : getL (Z.set i o) j = getL Z j := by unfold getL; rw [List.getElem?_set_ne h]
theorem Zce {Z : Sto} {i : Nat} {ts : List T} (h : getL Z i = some ts) : i < Z.length := (List.getElem?_eq_some_iff.mp (W3 h)).1
theorem Z57 {Z : Sto} {i : Nat} {ts : List T} (h : getL Z i = some ts) : isTy "list" (.loc i) Z = true := by simp [isTy, W3 h]
@[simp] theorem isTy_s (l : List Nat) (Z : Sto) : isTy "str" (.str l) Z = true := (rfl)
@[simp] theorem atI_0 {α : Type} (a : α) (l : List α) : atI (a :: l) 0 = some a := by simp [atI,ixN]
@[simp] theorem atI_1 {α : Type} (a b : α) (l : List α) : atI (a :: b :: l) 1 = some b := by
  have h : (1 : Int) < ((a :: b :: l).length : Int) := by simp; omega
  simp only [atI,ixN]
  rw [if_pos (by decide),if_pos h]; rfl
@[simp] theorem atI_2 {α : Type} (a b c : α) (l : List α) : atI (a :: b :: c :: l) 2 = some c := by
  have h : (2 : Int) < ((a :: b :: c :: l).length : Int) := by simp; omega
  simp only [atI,ixN]
  rw [if_pos (by decide),if_pos h]; rfl
@[simp] theorem atI_3 {α : Type} (a b c d : α) (l : List α) : atI (a :: b :: c :: d :: l) 3 = some d := by
  have h : (3 : Int) < ((a :: b :: c :: d :: l).length : Int) := by simp; omega
  simp only [atI,ixN]
  rw [if_pos (by decide),if_pos h]; rfl
theorem atI_nat {α : Type} {l : List α} {k : Nat} {a : α} (h : l[k]? = some a) : atI l (k : Int) = some a := by
  have hk := (List.getElem?_eq_some_iff.mp h).1
  simp only [atI,ixN]
  rw [if_pos (Int.natCast_nonneg k),if_pos (by omega)]
  exact h
section
theorem kk (n : String) : True := trivial
@[simp] theorem kit_1 : kitB "int" "int" = some true := by decide +kernel
@[simp] theorem kit_2 : kitB "bool" "int" = some true := by decide +kernel
@[simp] theorem kit_3 : kitB "str" "int" = some false := by decide +kernel
@[simp] theorem kit_4 : kitB "NoneType" "int" = some false := by decide +kernel
@[simp] theorem kit_5 : kitB "tuple" "int" = some false := by decide +kernel
@[simp] theorem kit_6 : kitB "list" "int" = some false := by decide +kernel
@[simp] theorem kit_7 : kitB "dict" "int" = some false := by decide +kernel
@[simp] theorem kit_11 : kitB "int" "bool" = some false := by decide +kernel
@[simp] theorem kit_12 : kitB "bool" "bool" = some true := by decide +kernel
@[simp] theorem kit_13 : kitB "str" "bool" = some false := by decide +kernel
@[simp] theorem kit_14 : kitB "NoneType" "bool" = some false := by decide +kernel
@[simp] theorem kit_15 : kitB "tuple" "bool" = some false := by decide +kernel
@[simp] theorem kit_16 : kitB "list" "bool" = some false := by decide +kernel
@[simp] theorem kit_17 : kitB "dict" "bool" = some false := by decide +kernel
@[simp] theorem kit_21 : kitB "int" "str" = some false := by decide +kernel
@[simp] theorem kit_22 : kitB "bool" "str" = some false := by decide +kernel
@[simp] theorem kit_23 : kitB "str" "str" = some true := by decide +kernel
@[simp] theorem kit_24 : kitB "NoneType" "str" = some false := by decide +kernel
@[simp] theorem kit_25 : kitB "tuple" "str" = some false := by decide +kernel
@[simp] theorem kit_26 : kitB "list" "str" = some false := by decide +kernel
@[simp] theorem kit_27 : kitB "dict" "str" = some false := by decide +kernel
@[simp] theorem kit_31 : kitB "int" "tuple" = some false := by decide +kernel
@[simp] theorem kit_32 : kitB "bool" "tuple" = some false := by decide +kernel
@[simp] theorem kit_33 : kitB "str" "tuple" = some false := by decide +kernel
@[simp] theorem kit_34 : kitB "NoneType" "tuple" = some false := by decide +kernel
@[simp] theorem kit_35 : kitB "tuple" "tuple" = some true := by decide +kernel
@[simp] theorem kit_36 : kitB "list" "tuple" = some false := by decide +kernel
@[simp] theorem kit_37 : kitB "dict" "tuple" = some false := by decide +kernel
@[simp] theorem kit_41 : kitB "int" "list" = some false := by decide +kernel
@[simp] theorem kit_42 : kitB "bool" "list" = some false := by decide +kernel
@[simp] theorem kit_43 : kitB "str" "list" = some false := by decide +kernel
@[simp] theorem kit_44 : kitB "NoneType" "list" = some false := by decide +kernel
@[simp] theorem kit_45 : kitB "tuple" "list" = some false := by decide +kernel
@[simp] theorem kit_46 : kitB "list" "list" = some true := by decide +kernel
@[simp] theorem kit_47 : kitB "dict" "list" = some false := by decide +kernel
@[simp] theorem kit_51 : kitB "int" "dict" = some false := by decide +kernel
@[simp] theorem kit_52 : kitB "bool" "dict" = some false := by decide +kernel
@[simp] theorem kit_53 : kitB "str" "dict" = some false := by decide +kernel
@[simp] theorem kit_54 : kitB "NoneType" "dict" = some false := by decide +kernel
@[simp] theorem kit_55 : kitB "tuple" "dict" = some false := by decide +kernel
@[simp] theorem kit_56 : kitB "list" "dict" = some false := by decide +kernel
@[simp] theorem kit_57 : kitB "dict" "dict" = some true := by decide +kernel
end
@[simp] theorem ty_non (Z : Sto) : tyT .non Z = some "NoneType" := (rfl)
@[simp] theorem ty_bl (b : Bool) (Z : Sto) : tyT (.bl b) Z = some "bool" := (rfl)
@[simp] theorem ty_int (b : Int) (Z : Sto) : tyT (.int b) Z = some "int" := (rfl)
@[simp] theorem ty_str (b : List Nat) (Z : Sto) : tyT (.str b) Z = some "str" := (rfl)
@[simp] theorem ty_tup (b : List T) (Z : Sto) : tyT (.tup b) Z = some "tuple" := (rfl)
@[simp] theorem ty_frl (b : List T) (Z : Sto) : tyT (.frl b) Z = some "list" := (rfl)
@[simp] theorem isiB (t : T) (n : String) (Z : Sto) : gIsiB t (.ty n) Z = (tyT t Z).bind fun a => kitB a n := by
  simp only [gIsiB,clsT]
  cases tyT t Z <;> rfl
@[simp] theorem Zau (t : T) (n : String) (Z : Sto) : gIsi [t,.ty n] Z = ((tyT t Z).bind fun a => kitB a n).map fun b => (.bl b,Z) := by
  simp only [gIsi,isiB]
@[simp] theorem isi_2 (t : T) (n m : String) (Z : Sto) : gIsi [t,.tup [.ty n,.ty m]] Z = if (tyT t Z).isSome = true then (((tyT t Z).bind fun a => kitB a n).bind fun b => ((tyT t Z).bind fun a => kitB a m).map fun c => (.bl (b || c),Z)) else none := by
  simp only [gIsi,List.mapM_cons,List.mapM_nil,isiB]
  cases tyT t Z with
  | none => rfl
  | some a =>
    simp only [Option.bind_some,Option.isSome_some,if_true]
    cases kitB a n <;> cases kitB a m <;> simp
def loopF (body : T → FS) : List T → Env → Sto → RS
  | [],ρ,Z => .nx ρ Z
  | t :: ts, ρ, Z => seqL (body t ρ Z) fun ρ' Z' => loopF body ts ρ' Z'
theorem Z7u (ts : List T) (body : T → FS) : ∀ (n k : Nat) (ρ : Env) (Z : Sto),ts.length < n + k → k ≤ ts.length → loopN (itSeq ts) body n k ρ Z = loopF body (ts.drop k) ρ Z
  | 0,k,ρ,Z,h,_ => by omega
  | n + 1,k,ρ,Z,h,_ => by
    unfold loopN
    simp only [itSeq]
    cases e : ts[k]? with
    | none =>
      rw [List.drop_of_length_le (List.getElem?_eq_none_iff.mp e)]; rfl
    | some t =>
      have hk := (List.getElem?_eq_some_iff.mp e).1
      rw [List.drop_eq_getElem_cons hk]
      have e2 : ts[k] = t := (List.getElem?_eq_some_iff.mp e).2
      rw [e2]
      simp only [loopF]
      congr 1
      funext ρ' Z'
      exact Z7u ts body n (k + 1) ρ' Z' (by omega) hk
theorem Z7v (lo : Int) (m : Nat) (body : T → FS) : ∀ (n k : Nat) (ρ : Env) (Z : Sto), m < n + k → k ≤ m → loopN (itRng lo m) body n k ρ Z = loopF body ((List.range' k (m - k)).map fun (i : Nat) => T.int (lo + (i : Int))) ρ Z
  | 0,k,ρ,Z,h,_ => by omega
  | n + 1,k,ρ,Z,h,_ => by
    unfold loopN
    simp only [itRng]
    by_cases hk : k < m
    · rw [if_pos hk]
      have e : m - k = (m - (k + 1)) + 1 := by omega
      rw [e, List.range'_succ, List.map_cons]
      simp only [loopF]
      congr 1
      funext ρ' Z'
      exact Z7v lo m body n (k + 1) ρ' Z' (by omega) hk
    · rw [if_neg hk]
      have : m - k = 0 := by omega
      rw [this]; rfl
theorem Z58 {body : T → FS} {ts : List T} (I : List T → Env → Sto → Prop) (Rt : T → Sto → Prop) : ∀ {pre : List T} {post : List T} {ρ : Env} {Z : Sto},ts = pre ++ post → I pre ρ Z →
    (∀ pre x post ρ Z, ts = pre ++ x :: post → I pre ρ Z → (∃ ρ' Z', (body x ρ Z = .nx ρ' Z' ∨ body x ρ Z = .ct ρ' Z') ∧ I (pre ++ [x]) ρ' Z') ∨ (∃ t Z', body x ρ Z = .rt t Z' ∧ Rt t Z')) →
    (∃ ρ' Z', loopF body post ρ Z = .nx ρ' Z' ∧ I ts ρ' Z') ∨ (∃ t Z', loopF body post ρ Z = .rt t Z' ∧ Rt t Z') := by
  intro pre post
  induction post generalizing pre with
  | nil =>
    intro ρ Z e i _
    rw [List.append_nil] at e
    exact .inl ⟨ρ,Z,rfl,by rw [e]; exact i⟩
  | cons x post ih =>
    intro ρ Z e i h
    rcases h pre x post ρ Z e i with ⟨ρ', Z', hb, i'⟩ | ⟨t, Z', hb, hr⟩
    · have e2 : loopF body (x :: post) ρ Z = loopF body post ρ' Z' := by
        rcases hb with hb | hb <;> simp only [loopF,hb,Z6l,Zbh]
      rw [e2]
      exact ih (by rw [e, List.append_assoc]; rfl) i' h
    · refine .inr ⟨t, Z', ?_, hr⟩
      simp only [loopF,hb,Zfx]
theorem Z7w {body : T → FS} {ts : List T} (I : List T → Env → Sto → Prop) {ρ : Env} {Z : Sto} (h0 : I [] ρ Z) (h : ∀ pre x post ρ Z, ts = pre ++ x :: post → I pre ρ Z → ∃ ρ' Z', (body x ρ Z = .nx ρ' Z' ∨ body x ρ Z = .ct ρ' Z') ∧ I (pre ++ [x]) ρ' Z') :
    ∃ ρ' Z', loopF body ts ρ Z = .nx ρ' Z' ∧ I ts ρ' Z' := by
  rcases Z58 I (fun _ _ => False) (pre := []) (post := ts) rfl h0 (fun pre x post ρ Z e i => .inl (h pre x post ρ Z e i)) with h | ⟨_,_,_,h⟩
  · exact h
  · exact h.elim
@[simp] theorem mulOk_r (i j : Int) (h1 : -(2 ^ 64) < j) (h2 : j < 2 ^ 64) : mulOk i j = true := by simp only [mulOk,decide_eq_true h1,decide_eq_true h2,Bool.and_true,Bool.or_true]
@[simp] theorem Zcf (i j : Int) (h1 : -(2 ^ 64) < i) (h2 : i < 2 ^ 64) : mulOk i j = true := by simp only [mulOk,decide_eq_true h1,decide_eq_true h2,Bool.and_true,Bool.true_or]
@[simp] theorem Z69 (x y m : Int) (h1 : 0 < m) (h2 : m ≤ 2 ^ 64) : mulOk (x % m) y = true := Zcf _ _ (by have := Int.emod_nonneg x (Int.ne_of_gt h1); omega) (by have := Int.emod_lt_of_pos x h1; omega)
@[simp] theorem ixN3_0 : ixN 3 0 = some 0 := (rfl)
@[simp] theorem ixN3_1 : ixN 3 1 = some 1 := (rfl)
@[simp] theorem ixN3_2 : ixN 3 2 = some 2 := (rfl)
theorem modN (x : Int) {n : Nat} (h : 0 < n) : ∃ r : Nat,r < n ∧ x % (n : Int) = (r : Int) :=
  ⟨(x % n).toNat,by have := Int.emod_lt_of_pos x (by omega : (0 : Int) < n); have := Int.emod_nonneg x (by omega : (n : Int) ≠ 0); omega,by have := Int.emod_nonneg x (by omega : (n : Int) ≠ 0); omega⟩
def StayL (i : Nat) (us : List T) (body : T → FS) : List T → Env → Sto → Prop
  | [],_,Z => getL Z i = some us
  | t :: r,ρ,Z => getL Z i = some us ∧ match body t ρ Z with
    | .nx ρ' Z' => StayL i us body r ρ' Z'
    | .ct ρ' Z' => StayL i us body r ρ' Z'
    | _ => True
theorem Z3m {i : Nat} {ts : List T} {body : T → FS} : ∀ (n k : Nat) (ρ : Env) (Z : Sto),ts.length < n + k → k ≤ ts.length → StayL i ts body (ts.drop k) ρ Z → loopN (itLoc i) body n k ρ Z = loopF body (ts.drop k) ρ Z
  | 0,k,ρ,Z,h,_,_ => by omega
  | n + 1,k,ρ,Z,h,_,hs => by
    unfold loopN
    cases e : ts[k]? with
    | none =>
      rw [List.drop_of_length_le (List.getElem?_eq_none_iff.mp e)] at hs ⊢
      simp only [itLoc,show getL Z i = some ts from hs,Option.map_some,e]; rfl
    | some t =>
      have hk := (List.getElem?_eq_some_iff.mp e).1
      have e2 : ts[k] = t := (List.getElem?_eq_some_iff.mp e).2
      rw [List.drop_eq_getElem_cons hk,e2] at hs ⊢
      obtain ⟨h1,h2⟩ := hs
      simp only [itLoc,h1,Option.map_some,e,loopF]
      cases eb : body t ρ Z with
      | nx ρ' Z' => rw [eb] at h2; simp only [Z6l]; exact Z3m n (k + 1) ρ' Z' (by omega) hk h2
      | ct ρ' Z' => rw [eb] at h2; simp only [Zbh]; exact Z3m n (k + 1) ρ' Z' (by omega) hk h2
      | _ => rfl
theorem Zav {i : Nat} {ts : List T} {body : T → FS} {ρ : Env} {Z : Sto} (h : ts.length ≤ Lim) (hs : StayL i ts body ts ρ Z) : loopN (itLoc i) body Fuel 0 ρ Z = loopF body ts ρ Z := by
  rw [Qs]; exact Z3m (ts := ts) (Lim + 2) 0 ρ Z (by omega) (Nat.zero_le _) hs
theorem Zaw {ts : List T} {body : T → FS} {ρ : Env} {Z : Sto} (h : ts.length ≤ Lim) : loopN (itSeq ts) body Fuel 0 ρ Z = loopF body ts ρ Z := by
  rw [Qs]; exact Z7u ts body (Lim + 2) 0 ρ Z (by omega) (Nat.zero_le _)
theorem Z6a {lo : Int} {m : Nat} {body : T → FS} {ρ : Env} {Z : Sto} (h : m ≤ Lim) : loopN (itRng lo m) body Fuel 0 ρ Z = loopF body ((List.range m).map fun (i : Nat) => T.int (lo + (i : Int))) ρ Z := by
  rw [Qs, Z7v lo m body (Lim + 2) 0 ρ Z (by omega) (Nat.zero_le _), Nat.sub_zero, List.range_eq_range']
end Fx
set_option maxHeartbeats 4000000
namespace Fx
open PySem PySem.Spec PyProof.Rows L2 SX Ap
def Wel (Z : Sto) (w : Nat) : Prop := ∃ a b c : Int,getL Z w = some [.int a,.int b,.int c]
structure Kp (w : Nat) (Z Z' : Sto) : Prop where
  wel : Wel Z' w
  len : Z.length ≤ Z'.length
  keep : ∀ i, i < Z.length → i ≠ w → Z'[i]? = Z[i]?
theorem Wel.lt {Z : Sto} {w : Nat} (h : Wel Z w) : w < Z.length := by obtain ⟨_,_,_,h⟩ := h; exact Zce h
theorem Kp.refl {w : Nat} {Z : Sto} (h : Wel Z w) : Kp w Z Z := ⟨h,Nat.le_refl _,fun _ _ _ => rfl⟩
theorem Kp.trans {w : Nat} {Z Z1 Z2 : Sto} (a : Kp w Z Z1) (b : Kp w Z1 Z2) : Kp w Z Z2 :=
  ⟨b.wel,Nat.le_trans a.len b.len,fun i hi hn => (b.keep i (Nat.lt_of_lt_of_le hi a.len) hn).trans (a.keep i hi hn)⟩
theorem Kp.new {w : Nat} {Z Y : Sto} (h : Wel Z w) : Kp w Z (Z ++ Y) := by
  refine ⟨?_,by rw [List.length_append]; omega,fun i hi _ => List.getElem?_append_left hi⟩
  obtain ⟨a,b,c,e⟩ := h
  exact ⟨a,b,c,Yx e⟩
theorem Kp.turn {w : Nat} {Z : Sto} {a b c : Int} (h : Wel Z w) : Kp w Z (Z.set w (.lst [.int a,.int b,.int c])) := by
  obtain ⟨x,y,z,e⟩ := h
  exact ⟨⟨a,b,c,Wj e⟩,by rw [List.length_set]; omega,fun i _ hn => List.getElem?_set_ne (Ne.symm hn)⟩
theorem Kp.set {w i : Nat} {Z : Sto} {o : O} (h : Wel Z w) (hi : i ≠ w) : Wel (Z.set i o) w := by
  obtain ⟨x,y,z,e⟩ := h
  exact ⟨x,y,z,by rw [Z56 hi]; exact e⟩
theorem Kp.getL {w i : Nat} {Z Z' : Sto} {ts : List T} (k : Kp w Z Z') (hn : i ≠ w) (h : getL Z i = some ts) : getL Z' i = some ts := by
  rw [V3] at h ⊢
  rw [k.keep i (List.getElem?_eq_some_iff.mp h).1 hn]; exact h
@[simp] theorem Ze5 (Z Y : Sto) (k : Nat) : getL (Z ++ Y) (Z.length + k) = getL Y k := by
  unfold getL
  rw [List.getElem?_append_right (by omega),Nat.add_sub_cancel_left]
@[simp] theorem Zia (Z Y : Sto) : getL (Z ++ Y) Z.length = getL Y 0 := Ze5 Z Y 0
@[simp] theorem getL_c0 (ts : List T) (Y : Sto) : getL (.lst ts :: Y) 0 = some ts := (rfl)
@[simp] theorem getL_cS (o : O) (Y : Sto) (k : Nat) : getL (o :: Y) (k + 1) = getL Y k := (rfl)
@[simp] theorem getL_c1 (o : O) (Y : Sto) : getL (o :: Y) 1 = getL Y 0 := (rfl)
@[simp] theorem getL_c2 (o : O) (Y : Sto) : getL (o :: Y) 2 = getL Y 1 := (rfl)
@[simp] theorem getL_c3 (o : O) (Y : Sto) : getL (o :: Y) 3 = getL Y 2 := (rfl)
@[simp] theorem getL_c4 (o : O) (Y : Sto) : getL (o :: Y) 4 = getL Y 3 := (rfl)
@[simp] theorem getL_c5 (o : O) (Y : Sto) : getL (o :: Y) 5 = getL Y 4 := (rfl)
@[simp] theorem getL_c6 (o : O) (Y : Sto) : getL (o :: Y) 6 = getL Y 5 := (rfl)
@[simp] theorem getL_c7 (o : O) (Y : Sto) : getL (o :: Y) 7 = getL Y 6 := (rfl)
@[simp] theorem getL_c8 (o : O) (Y : Sto) : getL (o :: Y) 8 = getL Y 7 := (rfl)
@[simp] theorem getL_c9 (o : O) (Y : Sto) : getL (o :: Y) 9 = getL Y 8 := (rfl)
@[simp] theorem getL_c10 (o : O) (Y : Sto) : getL (o :: Y) 10 = getL Y 9 := (rfl)
@[simp] theorem getL_c11 (o : O) (Y : Sto) : getL (o :: Y) 11 = getL Y 10 := (rfl)
@[simp] theorem getL_c12 (o : O) (Y : Sto) : getL (o :: Y) 12 = getL Y 11 := (rfl)
@[simp] theorem Zgh (Z Y : Sto) (k : Nat) (o : O) : (Z ++ Y).set (Z.length + k) o = Z ++ Y.set k o := by
  rw [List.set_append_right _ _ (by omega),Nat.add_sub_cancel_left]
@[simp] theorem set_add0 (Z Y : Sto) (o : O) : (Z ++ Y).set Z.length o = Z ++ Y.set 0 o := Zgh Z Y 0 o
@[simp] theorem Ze6 (n : String) (Z Y : Sto) (k : Nat) : isTy n (.loc (Z.length + k)) (Z ++ Y) = isTy n (.loc k) Y := by
  simp only [isTy]
  rw [List.getElem?_append_right (by omega),Nat.add_sub_cancel_left]
@[simp] theorem Zib (n : String) (Z Y : Sto) : isTy n (.loc Z.length) (Z ++ Y) = isTy n (.loc 0) Y := Ze6 n Z Y 0
@[simp] theorem Zgi (Z Y : Sto) (k : Nat) : tyT (.loc (Z.length + k)) (Z ++ Y) = tyT (.loc k) Y := by
  simp only [tyT]
  rw [List.getElem?_append_right (by omega),Nat.add_sub_cancel_left]
@[simp] theorem tyT_add0 (Z Y : Sto) : tyT (.loc Z.length) (Z ++ Y) = tyT (.loc 0) Y := Zgi Z Y 0
theorem eq_self {x : T} {Z : Sto} {d : PyData} (hs : eqS x x = none) (h : toD 16 Z x = some d) (sh : SeqAt.shaped d = true) : gEqB x x Z = some true := by
  have e : PyData.eqv d d = true := SeqAt.eqv_refl d (SeqAt.canLay_of_shaped sh)
  simp only [gEqB,hs,gEqD,h,sh,and_self,if_true,e]
theorem Zgj {x : T} {Z : Sto} {d : PyData} (hs : eqS x x = none) (h : toD 16 Z x = some d) (sh : SeqAt.shaped d = true) : gNe x x Z = some (.bl false,Z) := by
  simp only [gNe,eq_self hs h sh,Option.map_some,Bool.not_true]
def OkW (r : R T) (P : T → Sto → Prop) : Prop := match r with
  | .ok t Z => P t Z
  | _ => False
@[simp] theorem okW_ok (t : T) (Z : Sto) (P : T → Sto → Prop) : OkW (.ok t Z) P = P t Z := (rfl)
theorem OkW.out {r : R T} {P : T → Sto → Prop} (h : OkW r P) : ∃ t Z,r = .ok t Z ∧ P t Z := by
  cases r with
  | ok t Z => exact ⟨t,Z,rfl,h⟩
  | _ => exact h.elim
@[simp] theorem lim_0 : (0 ≤ Lim) := by decide
@[simp] theorem limlt_0 : (0 < Lim) := by decide
@[simp] theorem lim_1 : (1 ≤ Lim) := by decide
@[simp] theorem limlt_1 : (1 < Lim) := by decide
@[simp] theorem lim_2 : (2 ≤ Lim) := by decide
@[simp] theorem limlt_2 : (2 < Lim) := by decide
@[simp] theorem lim_3 : (3 ≤ Lim) := by decide
@[simp] theorem limlt_3 : (3 < Lim) := by decide
@[simp] theorem lim_4 : (4 ≤ Lim) := by decide
@[simp] theorem limlt_4 : (4 < Lim) := by decide
@[simp] theorem lim_5 : (5 ≤ Lim) := by decide
@[simp] theorem limlt_5 : (5 < Lim) := by decide
@[simp] theorem lim_6 : (6 ≤ Lim) := by decide
@[simp] theorem limlt_6 : (6 < Lim) := by decide
@[simp] theorem lim_7 : (7 ≤ Lim) := by decide
@[simp] theorem limlt_7 : (7 < Lim) := by decide
@[simp] theorem lim_8 : (8 ≤ Lim) := by decide
@[simp] theorem limlt_8 : (8 < Lim) := by decide
@[simp] theorem lim_9 : (9 ≤ Lim) := by decide
@[simp] theorem limlt_9 : (9 < Lim) := by decide
@[simp] theorem lim_10 : (10 ≤ Lim) := by decide
@[simp] theorem limlt_10 : (10 < Lim) := by decide
@[simp] theorem lim_11 : (11 ≤ Lim) := by decide
@[simp] theorem limlt_11 : (11 < Lim) := by decide
@[simp] theorem lim_12 : (12 ≤ Lim) := by decide
@[simp] theorem limlt_12 : (12 < Lim) := by decide
@[simp] theorem lim_13 : (13 ≤ Lim) := by decide
@[simp] theorem limlt_13 : (13 < Lim) := by decide
@[simp] theorem lim_14 : (14 ≤ Lim) := by decide
@[simp] theorem limlt_14 : (14 < Lim) := by decide
@[simp] theorem lim_15 : (15 ≤ Lim) := by decide
@[simp] theorem limlt_15 : (15 < Lim) := by decide
@[simp] theorem lim_16 : (16 ≤ Lim) := by decide
@[simp] theorem limlt_16 : (16 < Lim) := by decide
@[simp] theorem lim_17 : (17 ≤ Lim) := by decide
@[simp] theorem limlt_17 : (17 < Lim) := by decide
@[simp] theorem lim_18 : (18 ≤ Lim) := by decide
@[simp] theorem limlt_18 : (18 < Lim) := by decide
@[simp] theorem lim_19 : (19 ≤ Lim) := by decide
@[simp] theorem limlt_19 : (19 < Lim) := by decide
@[simp] theorem lim_20 : (20 ≤ Lim) := by decide
@[simp] theorem limlt_20 : (20 < Lim) := by decide
@[simp] theorem lim_21 : (21 ≤ Lim) := by decide
@[simp] theorem limlt_21 : (21 < Lim) := by decide
@[simp] theorem lim_22 : (22 ≤ Lim) := by decide
@[simp] theorem limlt_22 : (22 < Lim) := by decide
@[simp] theorem lim_23 : (23 ≤ Lim) := by decide
@[simp] theorem limlt_23 : (23 < Lim) := by decide
@[simp] theorem lim_24 : (24 ≤ Lim) := by decide
@[simp] theorem limlt_24 : (24 < Lim) := by decide
@[simp] theorem lim_25 : (25 ≤ Lim) := by decide
@[simp] theorem limlt_25 : (25 < Lim) := by decide
@[simp] theorem lim_26 : (26 ≤ Lim) := by decide
@[simp] theorem limlt_26 : (26 < Lim) := by decide
@[simp] theorem lim_27 : (27 ≤ Lim) := by decide
@[simp] theorem limlt_27 : (27 < Lim) := by decide
@[simp] theorem lim_28 : (28 ≤ Lim) := by decide
@[simp] theorem limlt_28 : (28 < Lim) := by decide
@[simp] theorem lim_29 : (29 ≤ Lim) := by decide
@[simp] theorem limlt_29 : (29 < Lim) := by decide
@[simp] theorem lim_30 : (30 ≤ Lim) := by decide
@[simp] theorem limlt_30 : (30 < Lim) := by decide
@[simp] theorem lim_31 : (31 ≤ Lim) := by decide
@[simp] theorem limlt_31 : (31 < Lim) := by decide
@[simp] theorem lim_32 : (32 ≤ Lim) := by decide
@[simp] theorem limlt_32 : (32 < Lim) := by decide
@[simp] theorem lim_33 : (33 ≤ Lim) := by decide
@[simp] theorem limlt_33 : (33 < Lim) := by decide
@[simp] theorem lim_34 : (34 ≤ Lim) := by decide
@[simp] theorem limlt_34 : (34 < Lim) := by decide
@[simp] theorem lim_35 : (35 ≤ Lim) := by decide
@[simp] theorem limlt_35 : (35 < Lim) := by decide
@[simp] theorem lim_36 : (36 ≤ Lim) := by decide
@[simp] theorem limlt_36 : (36 < Lim) := by decide
@[simp] theorem lim_37 : (37 ≤ Lim) := by decide
@[simp] theorem limlt_37 : (37 < Lim) := by decide
@[simp] theorem lim_38 : (38 ≤ Lim) := by decide
@[simp] theorem limlt_38 : (38 < Lim) := by decide
@[simp] theorem lim_39 : (39 ≤ Lim) := by decide
@[simp] theorem limlt_39 : (39 < Lim) := by decide
@[simp] theorem lim_40 : (40 ≤ Lim) := by decide
@[simp] theorem limlt_40 : (40 < Lim) := by decide
@[simp] theorem lim_41 : (41 ≤ Lim) := by decide
@[simp] theorem limlt_41 : (41 < Lim) := by decide
@[simp] theorem lim_42 : (42 ≤ Lim) := by decide
@[simp] theorem limlt_42 : (42 < Lim) := by decide
@[simp] theorem lim_43 : (43 ≤ Lim) := by decide
@[simp] theorem limlt_43 : (43 < Lim) := by decide
@[simp] theorem lim_44 : (44 ≤ Lim) := by decide
@[simp] theorem limlt_44 : (44 < Lim) := by decide
@[simp] theorem lim_45 : (45 ≤ Lim) := by decide
@[simp] theorem limlt_45 : (45 < Lim) := by decide
@[simp] theorem lim_46 : (46 ≤ Lim) := by decide
@[simp] theorem limlt_46 : (46 < Lim) := by decide
@[simp] theorem lim_47 : (47 ≤ Lim) := by decide
@[simp] theorem limlt_47 : (47 < Lim) := by decide
@[simp] theorem lim_48 : (48 ≤ Lim) := by decide
@[simp] theorem limlt_48 : (48 < Lim) := by decide
@[simp] theorem isTy_c1 (n : String) (o : O) (Y : Sto) : isTy n (.loc 1) (o :: Y) = isTy n (.loc 0) Y := (rfl)
@[simp] theorem isTy_c2 (n : String) (o : O) (Y : Sto) : isTy n (.loc 2) (o :: Y) = isTy n (.loc 1) Y := (rfl)
@[simp] theorem isTy_c3 (n : String) (o : O) (Y : Sto) : isTy n (.loc 3) (o :: Y) = isTy n (.loc 2) Y := (rfl)
@[simp] theorem isTy_c4 (n : String) (o : O) (Y : Sto) : isTy n (.loc 4) (o :: Y) = isTy n (.loc 3) Y := (rfl)
@[simp] theorem isTy_c5 (n : String) (o : O) (Y : Sto) : isTy n (.loc 5) (o :: Y) = isTy n (.loc 4) Y := (rfl)
@[simp] theorem isTy_c6 (n : String) (o : O) (Y : Sto) : isTy n (.loc 6) (o :: Y) = isTy n (.loc 5) Y := (rfl)
@[simp] theorem isTy_c7 (n : String) (o : O) (Y : Sto) : isTy n (.loc 7) (o :: Y) = isTy n (.loc 6) Y := (rfl)
@[simp] theorem isTy_c8 (n : String) (o : O) (Y : Sto) : isTy n (.loc 8) (o :: Y) = isTy n (.loc 7) Y := (rfl)
@[simp] theorem isTy_c9 (n : String) (o : O) (Y : Sto) : isTy n (.loc 9) (o :: Y) = isTy n (.loc 8) Y := (rfl)
@[simp] theorem isTy_c10 (n : String) (o : O) (Y : Sto) : isTy n (.loc 10) (o :: Y) = isTy n (.loc 9) Y := (rfl)
@[simp] theorem isTy_c11 (n : String) (o : O) (Y : Sto) : isTy n (.loc 11) (o :: Y) = isTy n (.loc 10) Y := (rfl)
@[simp] theorem isTy_c12 (n : String) (o : O) (Y : Sto) : isTy n (.loc 12) (o :: Y) = isTy n (.loc 11) Y := (rfl)
@[simp] theorem tyT_c1 (o : O) (Y : Sto) : tyT (.loc 1) (o :: Y) = tyT (.loc 0) Y := (rfl)
@[simp] theorem tyT_c2 (o : O) (Y : Sto) : tyT (.loc 2) (o :: Y) = tyT (.loc 1) Y := (rfl)
@[simp] theorem tyT_c3 (o : O) (Y : Sto) : tyT (.loc 3) (o :: Y) = tyT (.loc 2) Y := (rfl)
@[simp] theorem tyT_c4 (o : O) (Y : Sto) : tyT (.loc 4) (o :: Y) = tyT (.loc 3) Y := (rfl)
@[simp] theorem tyT_c5 (o : O) (Y : Sto) : tyT (.loc 5) (o :: Y) = tyT (.loc 4) Y := (rfl)
@[simp] theorem tyT_c6 (o : O) (Y : Sto) : tyT (.loc 6) (o :: Y) = tyT (.loc 5) Y := (rfl)
@[simp] theorem tyT_c7 (o : O) (Y : Sto) : tyT (.loc 7) (o :: Y) = tyT (.loc 6) Y := (rfl)
@[simp] theorem tyT_c8 (o : O) (Y : Sto) : tyT (.loc 8) (o :: Y) = tyT (.loc 7) Y := (rfl)
@[simp] theorem tyT_c9 (o : O) (Y : Sto) : tyT (.loc 9) (o :: Y) = tyT (.loc 8) Y := (rfl)
@[simp] theorem tyT_c10 (o : O) (Y : Sto) : tyT (.loc 10) (o :: Y) = tyT (.loc 9) Y := (rfl)
@[simp] theorem tyT_c11 (o : O) (Y : Sto) : tyT (.loc 11) (o :: Y) = tyT (.loc 10) Y := (rfl)
@[simp] theorem tyT_c12 (o : O) (Y : Sto) : tyT (.loc 12) (o :: Y) = tyT (.loc 11) Y := (rfl)
@[simp] theorem isTy_c0 (ts : List T) (Y : Sto) : isTy "list" (.loc 0) (.lst ts :: Y) = true := (rfl)
@[simp] theorem tyT_c0 (ts : List T) (Y : Sto) : tyT (.loc 0) (.lst ts :: Y) = some "list" := (rfl)
@[simp] theorem tyT_c0k (ts : List (Key × T)) (Y : Sto) : tyT (.loc 0) (.dk ts :: Y) = some "dict" := (rfl)
abbrev StepI (body : T → FS) (ts : List T) (I : List T → Env → Sto → Prop) (Rt : T → Sto → Prop) : Prop :=
  ∀ pre x post ρ Z, ts = pre ++ x :: post → I pre ρ Z → (∃ ρ' Z', (body x ρ Z = .nx ρ' Z' ∨ body x ρ Z = .ct ρ' Z') ∧ I (pre ++ [x]) ρ' Z') ∨ (∃ t Z', body x ρ Z = .rt t Z' ∧ Rt t Z')
theorem Z9y {i : Nat} {ts : List T} {body : T → FS} {I : List T → Env → Sto → Prop} {Rt : T → Sto → Prop} (hI : ∀ pre ρ Z,I pre ρ Z → getL Z i = some ts) (h : StepI body ts I Rt) : ∀ (post : List T) {pre : List T} {ρ : Env} {Z : Sto},ts = pre ++ post → I pre ρ Z → StayL i ts body post ρ Z
  | [],pre,ρ,Z,e,k => hI _ _ _ k
  | x :: post,pre,ρ,Z,e,k => by
    refine ⟨hI _ _ _ k,?_⟩
    rcases h pre x post ρ Z e k with ⟨ρ', Z', hb, k'⟩ | ⟨t, Z', hb, _⟩
    · have := Z9y hI h post (by rw [e, List.append_assoc]; rfl) k'
      rcases hb with hb | hb <;> rw [hb] <;> exact this
    · rw [hb]; trivial
theorem Zcg {i : Nat} {ts : List T} {body : T → FS} {ρ : Env} {Z : Sto} (I : List T → Env → Sto → Prop) (Rt : T → Sto → Prop) (hl : ts.length ≤ Lim) (hI : ∀ pre ρ Z,I pre ρ Z → getL Z i = some ts) (h0 : I [] ρ Z) (h : StepI body ts I Rt) :
    (∃ ρ' Z', loopN (itLoc i) body Fuel 0 ρ Z = .nx ρ' Z' ∧ I ts ρ' Z') ∨ (∃ t Z', loopN (itLoc i) body Fuel 0 ρ Z = .rt t Z' ∧ Rt t Z') := by
  rw [Zav hl (Z9y hI h ts rfl h0)]
  exact Z58 I Rt (pre := []) rfl h0 h
theorem Zch {ts : List T} {body : T → FS} {ρ : Env} {Z : Sto} (I : List T → Env → Sto → Prop) (Rt : T → Sto → Prop) (hl : ts.length ≤ Lim) (h0 : I [] ρ Z) (h : StepI body ts I Rt) :
    (∃ ρ' Z', loopN (itSeq ts) body Fuel 0 ρ Z = .nx ρ' Z' ∧ I ts ρ' Z') ∨ (∃ t Z', loopN (itSeq ts) body Fuel 0 ρ Z = .rt t Z' ∧ Rt t Z') := by
  rw [Zaw hl]
  exact Z58 I Rt (pre := []) rfl h0 h
theorem Z7x {i : Nat} {ts : List T} {body : T → FS} {ρ : Env} {Z : Sto} (I : Env → Sto → Prop) (hl : ts.length ≤ Lim) (hI : ∀ ρ Z, I ρ Z → getL Z i = some ts) (h0 : I ρ Z) (h : ∀ x ∈ ts, ∀ ρ Z, I ρ Z → ∃ ρ' Z', body x ρ Z = .nx ρ' Z' ∧ I ρ' Z') :
    ∃ ρ' Z', loopN (itLoc i) body Fuel 0 ρ Z = .nx ρ' Z' ∧ I ρ' Z' := by
  rcases Zcg (ts := ts) (fun _ => I) (fun _ _ => False) hl (fun _ => hI) h0 (fun pre x post ρ Z e k => by
    obtain ⟨ρ', Z', hb, k'⟩ := h x (by rw [e]; simp) ρ Z k
    exact .inl ⟨ρ', Z', .inl hb, k'⟩) with r | ⟨_, _, _, r⟩
  · exact r
  · exact r.elim
theorem Zci {ts : List T} {body : T → FS} {ρ : Env} {Z : Sto} (I : Env → Sto → Prop) (hl : ts.length ≤ Lim) (h0 : I ρ Z) (h : ∀ x ∈ ts, ∀ ρ Z, I ρ Z → ∃ ρ' Z', body x ρ Z = .nx ρ' Z' ∧ I ρ' Z') :
    ∃ ρ' Z', loopN (itSeq ts) body Fuel 0 ρ Z = .nx ρ' Z' ∧ I ρ' Z' := by
  rcases Zch (ts := ts) (fun _ => I) (fun _ _ => False) hl h0 (fun pre x post ρ Z e k => by
    obtain ⟨ρ', Z', hb, k'⟩ := h x (by rw [e]; simp) ρ Z k
    exact .inl ⟨ρ', Z', .inl hb, k'⟩) with r | ⟨_, _, _, r⟩
  · exact r
  · exact r.elim
theorem Zcj {m : Nat} {body : T → FS} {ρ : Env} {Z : Sto} (I : Env → Sto → Prop) (hl : m ≤ Lim) (h0 : I ρ Z) (h : ∀ k < m, ∀ ρ Z, I ρ Z → ∃ ρ' Z', body (.int (k : Int)) ρ Z = .nx ρ' Z' ∧ I ρ' Z') :
    ∃ ρ' Z', loopN (itRng 0 m) body Fuel 0 ρ Z = .nx ρ' Z' ∧ I ρ' Z' := by
  rw [Z6a hl]
  refine Z7w (fun _ => I) h0 fun pre x post ρ Z e k => ?_
  have hx : x ∈ (List.range m).map fun (i : Nat) => T.int ((0 : Int) + (i : Int)) := by rw [e]; simp
  obtain ⟨j,hj,rfl⟩ := List.mem_map.mp hx
  obtain ⟨ρ', Z', hb, k'⟩ := h j (List.mem_range.mp hj) ρ Z k
  refine ⟨ρ', Z', .inl ?_, k'⟩
  rw [Int.zero_add]; exact hb
end Fx
set_option maxHeartbeats 4000000
namespace Fx
open PySem PySem.Spec PyProof.Rows L2 SX Ap
theorem Z3n {it : ItF} {D : Nat} {put : T → Option Env} {c : FT} {e : FE} {ts : List T} (I : List T → List T → Sto → Prop) (hit : ∀ pre acc Z,pre.length ≤ ts.length → I pre acc Z → it pre.length Z = some ts[pre.length]?) (hI : ∀ pre acc Z,I pre acc Z → getL Z D = some acc)
    (h : ∀ pre x post acc Z,ts = pre ++ x :: post → I pre acc Z → ∃ ρ,put x = some ρ ∧ ((∃ Z1,c ρ Z = .ok false Z1 ∧ I (pre ++ [x]) acc Z1) ∨ ∃ Z1 y Z2,c ρ Z = .ok true Z1 ∧ e ρ Z1 = .ok y Z2 ∧ getL Z2 D = some acc ∧ I (pre ++ [x]) (acc ++ [y]) (Z2.set D (.lst (acc ++ [y]))))) :
    ∀ (post pre acc : List T) (Z : Sto) (n : Nat), ts = pre ++ post → ts.length < n + pre.length → acc.length + post.length ≤ Lim → I pre acc Z → ∃ acc' Z', loopC it D put c e n pre.length Z = .ok (.loc D) Z' ∧ I ts acc' Z'
  | [],pre,acc,Z,n,et,hn,hl,hi => by
    rw [List.append_nil] at et
    subst et
    cases n with
    | zero => omega
    | succ n =>
      refine ⟨acc,Z,?_,hi⟩
      unfold loopC
      rw [hit _ _ _ (Nat.le_refl _) hi,List.getElem?_eq_none (Nat.le_refl _)]
  | x :: post,pre,acc,Z,n,et,hn,hl,hi => by
    cases n with
    | zero =>
      have : ts.length = pre.length + (post.length + 1) := by rw [et,List.length_append,List.length_cons]
      omega
    | succ n =>
      have hlen : ts.length = pre.length + (post.length + 1) := by rw [et,List.length_append,List.length_cons]
      have hx : ts[pre.length]? = some x := by rw [et,List.getElem?_append_right (Nat.le_refl _),Nat.sub_self]; rfl
      obtain ⟨ρ,hp,hh⟩ := h pre x post acc Z et hi
      have et2 : ts = (pre ++ [x]) ++ post := by rw [et,List.append_assoc]; rfl
      have hl2 : (pre ++ [x]).length = pre.length + 1 := by rw [List.length_append]; rfl
      unfold loopC
      rw [hit _ _ _ (by omega) hi,hx]
      simp only [hp]
      rcases hh with ⟨Z1,hc,i1⟩ | ⟨Z1,y,Z2,hc,he,hg,i1⟩
      · rw [hc]
        simp only [Z68,Yo,Bool.false_eq_true,if_false]
        rw [List.length_cons] at hl
        have := Z3n I hit hI h post (pre ++ [x]) acc Z1 n et2 (by omega) (by omega) i1
        rw [hl2] at this
        exact this
      · rw [hc]
        rw [List.length_cons] at hl
        simp only [Z68,Yo,if_true,he,hg]
        rw [if_pos (by omega)]
        have := Z3n I hit hI h post (pre ++ [x]) (acc ++ [y]) _ n et2 (by omega) (by rw [List.length_append,List.length_singleton]; omega) i1
        rw [hl2] at this
        exact this
theorem Z59 {it : ItF} {D : Nat} {put : T → Option Env} {c : FT} {e : FE} {ts : List T} (hit : ∀ k Z,k ≤ ts.length → it k Z = some ts[k]?) (I : List T → List T → Sto → Prop) (hI : ∀ pre acc Z,I pre acc Z → getL Z D = some acc)
    (h : ∀ pre x post acc Z, ts = pre ++ x :: post → I pre acc Z → ∃ ρ, put x = some ρ ∧ ((∃ Z1, c ρ Z = .ok false Z1 ∧ I (pre ++ [x]) acc Z1) ∨ ∃ Z1 y Z2, c ρ Z = .ok true Z1 ∧ e ρ Z1 = .ok y Z2 ∧ getL Z2 D = some acc ∧ I (pre ++ [x]) (acc ++ [y]) (Z2.set D (.lst (acc ++ [y]))))) (post pre acc : List T) (Z : Sto) (n : Nat) (e1 : ts = pre ++ post) (e2 : ts.length < n + pre.length) (e3 : acc.length + post.length ≤ Lim) (e4 : I pre acc Z) : ∃ acc' Z', loopC it D put c e n pre.length Z = .ok (.loc D) Z' ∧ I ts acc' Z' :=
  Z3n I (fun pre acc Z hl _ => hit _ _ hl) hI h post pre acc Z n e1 e2 e3 e4
theorem Z8x (ts : List T) : ∀ k Z,k ≤ ts.length → itSeq ts k Z = some ts[k]? := fun _ _ _ => rfl
theorem Zgk (l : List Nat) : ∀ k Z,k ≤ (l.map fun c => T.str [c]).length → itStr l k Z = some (l.map fun c => T.str [c])[k]? := fun k Z _ => by simp [itStr]
theorem Zgl (lo : Int) (m : Nat) : ∀ k Z,k ≤ ((List.range m).map fun (i : Nat) => T.int (lo + (i : Int))).length → itRng lo m k Z = some ((List.range m).map fun (i : Nat) => T.int (lo + (i : Int)))[k]? := fun k Z _ => by
  simp only [itRng,List.getElem?_map]
  by_cases h : k < m
  · rw [if_pos h,List.getElem?_range h]; rfl
  · rw [if_neg h,List.getElem?_eq_none (by rw [List.length_range]; omega)]; rfl
theorem Z9z {m : Nat} {lo : Int} {pre post : List T} {x : T} (h : ((List.range m).map fun (i : Nat) => T.int (lo + (i : Int))) = pre ++ x :: post) : x = .int (lo + (pre.length : Int)) ∧ pre.length < m := by
  have hx : (pre ++ x :: post)[pre.length]? = some x := by rw [List.getElem?_append_right (Nat.le_refl _),Nat.sub_self]; rfl
  have hl := congrArg List.length h
  rw [List.length_map,List.length_range,List.length_append,List.length_cons] at hl
  rw [← h,List.getElem?_map,List.getElem?_range (by omega)] at hx
  exact ⟨(Option.some.inj hx).symm,by omega⟩
theorem Z7y {m D : Nat} {put : T → Option Env} {c : FT} {e : FE} {Z : Sto} (J : Nat → List T → Sto → Prop) (hl : m ≤ Lim) (hJ : ∀ k acc Z,J k acc Z → getL Z D = some acc) (h0 : J 0 [] Z)
    (h : ∀ k < m,∀ acc Z,J k acc Z → ∃ ρ,put (.int (k : Int)) = some ρ ∧ ((∃ Z1,c ρ Z = .ok false Z1 ∧ J (k + 1) acc Z1) ∨ ∃ Z1 y Z2,c ρ Z = .ok true Z1 ∧ e ρ Z1 = .ok y Z2 ∧ getL Z2 D = some acc ∧ J (k + 1) (acc ++ [y]) (Z2.set D (.lst (acc ++ [y]))))) :
    ∃ acc Z', loopC (itRng 0 m) D put c e Fuel 0 Z = .ok (.loc D) Z' ∧ J m acc Z' := by
  have hlen : ((List.range m).map fun (i : Nat) => T.int (0 + (i : Int))).length = m := by rw [List.length_map,List.length_range]
  have := Z59 (Zgl 0 m) (D := D) (put := put) (c := c) (e := e) (fun pre acc Z => J pre.length acc Z) (fun pre acc Z => hJ _ acc Z) (fun pre x post acc Z et hi => by
    obtain ⟨rfl,hk⟩ := Z9z et
    rw [Int.zero_add]
    have := h pre.length hk acc Z hi
    simpa using this) ((List.range m).map fun (i : Nat) => T.int (0 + (i : Int))) [] [] Z Fuel rfl (by rw [hlen,Qs]; simp; omega) (by rw [hlen]; simpa using hl) h0
  rw [hlen] at this
  exact this
theorem Z3o {it : ItF} {put : T → Option Env} {c : FT} {e : FE} {ts : List T} {Z1 : Sto} (hit : ∀ k Z,k ≤ ts.length → it k Z = some ts[k]?) (hl : ts.length ≤ Lim) (p : T → Bool) (f : T → T)
    (h : ∀ x ∈ ts,∃ ρ,put x = some ρ ∧ ∀ acc,c ρ (Z1 ++ [.lst acc]) = .ok (p x) (Z1 ++ [.lst acc]) ∧ (p x = true → e ρ (Z1 ++ [.lst acc]) = .ok (f x) (Z1 ++ [.lst acc]))) :
    loopC it Z1.length put c e Fuel 0 (Z1 ++ [.lst []]) = .ok (.loc Z1.length) (Z1 ++ [.lst ((ts.filter p).map f)]) := by
  obtain ⟨acc, Z', e1, rfl, rfl⟩ := Z59 hit (D := Z1.length) (put := put) (c := c) (e := e) (fun pre acc Z => acc = (pre.filter p).map f ∧ Z = Z1 ++ [.lst acc]) (fun pre acc Z h => by obtain ⟨_, rfl⟩ := h; exact Zk _ _) (fun pre x post acc Z et hi => by
    obtain ⟨rfl,rfl⟩ := hi
    obtain ⟨ρ,hp,hc⟩ := h x (by rw [et]; simp)
    refine ⟨ρ,hp,?_⟩
    cases hx : p x with
    | false => exact .inl ⟨_,by rw [(hc _).1,hx],by simp [List.filter_append,hx]⟩
    | true => exact .inr ⟨_,f x,_,by rw [(hc _).1,hx],(hc _).2 hx,Zk _ _,by simp [List.filter_append,hx]⟩) ts [] [] (Z1 ++ [.lst []]) Fuel rfl (by rw [Qs]; simp; omega) (by simpa using hl) ⟨rfl,rfl⟩
  exact e1
theorem Xy (i : Nat) (Z : Sto) : asList (.loc i) Z = getL Z i := by
  simp only [asList,getL]
  all_goals (cases Z[i]? with
    | none => rfl
    | some o => cases o <;> rfl)
@[simp] theorem all_l (n : Nat) (Z : Sto) : gAll [.loc n] Z = (getL Z n).bind fun ts => (bools ts).map fun bs => (.bl (bs.all id),Z) := by
  simp only [gAll,Xy]
@[simp] theorem any_l (n : Nat) (Z : Sto) : gAny [.loc n] Z = (getL Z n).bind fun ts => (bools ts).map fun bs => (.bl (bs.any id),Z) := by
  simp only [gAny,Xy]
theorem Z38 {α : Type} (f : α → Bool) : ∀ l : List α,bools (l.map fun x => .bl (f x)) = some (l.map f)
  | [] => rfl
  | x :: l => by simp [bools,Z38 f l]
@[simp] theorem str_i (i : Int) (Z : Sto) : gStr [.int i] Z = if i.natAbs < 10 ^ 4300 then some (.str (dec i),Z) else none := (rfl)
@[simp] theorem abs_i (i : Int) (Z : Sto) : gAbs [.int i] Z = some (.int (if i < 0 then -i else i),Z) := (rfl)
@[simp] theorem intT_i (i : Int) (Z : Sto) : gIntT [.int i] Z = some (.int i,Z) := (rfl)
@[simp] theorem intT_b (b : Bool) (Z : Sto) : gIntT [.bl b] Z = some (.int (if b then 1 else 0),Z) := (rfl)
@[simp] theorem intT_s (l : List Nat) (Z : Sto) : gIntT [.str l] Z = if l.all (· < 128) = true ∧ l.length ≤ 100000 then (PySem.intText? (S l)).map fun n => (.int n,Z) else none := (rfl)
@[simp] theorem sw_s (a b : List Nat) (Z : Sto) : gStarts (.str a) [.str b] Z = some (.bl (b.isPrefixOf a),Z) := (rfl)
@[simp] theorem in_cs (c : Nat) (l : List Nat) (Z : Sto) : gIn (.str [c]) (.str l) Z = some (.bl (decide (c ∈ l)),Z) := (rfl)
@[simp] theorem nin_cs (c : Nat) (l : List Nat) (Z : Sto) : gNotIn (.str [c]) (.str l) Z = some (.bl (!decide (c ∈ l)),Z) := (rfl)
@[simp] theorem q_callK (F : FF) (g : List T → List T) (fa : FA) (ρ : Env) (Z : Sto) : eCallK F g fa ρ Z = (fa ρ Z).bind fun ts Z1 => F (g ts) Z1 := (rfl)
theorem Zck (x : T) (ts : List T) (Z : Sto) : gInB x (.tup ts) Z = if flatT x = true ∧ ts.all flatT = true then some (inT x ts) else none := by
  cases x with
  | str l => match l with
    | [] => rfl
    | [_] => rfl
    | _ :: _ :: _ => rfl
  | _ => rfl
@[simp] theorem in_tup (x : T) (ts : List T) (Z : Sto) : gIn x (.tup ts) Z = if flatT x = true ∧ ts.all flatT = true then some (.bl (inT x ts),Z) else none := by
  simp only [gIn,Zck]
  split <;> rfl
@[simp] theorem nin_tup (x : T) (ts : List T) (Z : Sto) : gNotIn x (.tup ts) Z = if flatT x = true ∧ ts.all flatT = true then some (.bl (!inT x ts),Z) else none := by
  simp only [gNotIn,Zck]
  split <;> rfl
def okS (l : List Nat) : Bool := l.all (· < 0x110000)
theorem Ze7 {l : List Nat} (h : okS l = true) : PyData.strOk (S l) = true := by
  unfold PyData.strOk
  rw [← Array.all_toList]
  exact h
theorem Kp.put {w D : Nat} {Z Z' : Sto} {o : O} (k : Kp w Z Z') (hD : Z.length ≤ D) (hw : w < Z.length) : Kp w Z (Z'.set D o) :=
  ⟨Kp.set k.wel (by omega),by rw [List.length_set]; exact k.len,fun i hi hn => by rw [List.getElem?_set_ne (by omega)]; exact k.keep i hi hn⟩
theorem Z8y (i j : Nat) (Z : Sto) {a b : List T} (h1 : getL Z i = some a) (h2 : getL Z j = some b) (h : a.length + b.length ≤ Lim) : gAdd (.loc i) (.loc j) Z = some (.loc Z.length,Z ++ [.lst (a ++ b)]) := by rw [Z9x,h1,h2]; exact if_pos h
theorem Za0 (n : Nat) (t : T) (Z : Sto) {ts : List T} (h1 : getL Z n = some ts) (h : ts.length < Lim) : gAppend (.loc n) [t] Z = some (.non,Z.set n (.lst (ts ++ [t]))) := by rw [Zi9,h1]; exact if_pos h
end Fx
set_option maxHeartbeats 4000000
namespace Fx
open PySem PySem.Spec PyProof.Rows L2 SX
section
variable (ρ : Env) (Z : Sto)
@[simp] theorem q_callN (F : FF) (g : List T → List T → List T) (fa fk : FA) : eCallN F g fa fk ρ Z = (fa ρ Z).bind fun ts Z1 => (fk ρ Z1).bind fun us Z2 => F (g ts us) Z2 := (rfl)
@[simp] theorem q_lam (F : (Sto → R T) → T → FF) (fb : FE) (fa : FA) : eLam F fb fa ρ Z = (fa ρ Z).bind fun ts Z1 => F (fun Z' => fb ρ Z') .non (.non :: ts) Z1 := (rfl)
@[simp] theorem q_ask0 (fl : Sto → R T) (lv : T) : eAsk fl lv 0 (some lv :: ρ) Z = fl Z := by
  unfold eAsk
  exact if_pos rfl
@[simp] theorem q_kdIx (l : List (List Nat × List Nat)) (fe : FE) : eKdIx l fe ρ Z = (fe ρ Z).bind fun x Z1 => match kdGet l x with | some v => .ok (.str v) Z1 | none => .stuck := (rfl)
@[simp] theorem Zic (l : List (List Nat × List Nat)) : iKdItems l ρ Z = .ok (itSeq (l.map fun x => .tup [.str x.1,.str x.2])) Z := (rfl)
end
@[simp] theorem pick_nil {α : Type} (l : List α) : pick [] l = [] := (rfl)
@[simp] theorem pick_c0 {α : Type} (ix : List Nat) (a : α) (l : List α) : pick (0 :: ix) (a :: l) = a :: pick ix (a :: l) := (rfl)
theorem lookup_at (f : PySem.Str) (t : T) (r : List (PySem.Str × T)) : List.lookup f ((f,t) :: r) = some t := by rw [List.lookup_cons,beq_self_eq_true]
@[simp] theorem ne_nn (Z : Sto) : gNe .non .non Z = some (.bl false,Z) := (rfl)
@[simp] theorem eq_nn (Z : Sto) : gEq .non .non Z = some (.bl true,Z) := (rfl)
@[simp] theorem eq_ns (l : List Nat) (Z : Sto) : gEq .non (.str l) Z = some (.bl false,Z) := (rfl)
@[simp] theorem eq_sn (l : List Nat) (Z : Sto) : gEq (.str l) .non Z = some (.bl false,Z) := (rfl)
@[simp] theorem ne_ns (l : List Nat) (Z : Sto) : gNe .non (.str l) Z = some (.bl true,Z) := (rfl)
@[simp] theorem ne_sn (l : List Nat) (Z : Sto) : gNe (.str l) .non Z = some (.bl true,Z) := (rfl)
end Fx
set_option maxHeartbeats 4000000
namespace Fx
open PySem PySem.Spec PyProof.Rows L2 SX Ap
theorem Zcl {Z : Sto} {i : Nat} {ts : List T} (h : getL Z i = some ts) : getDK Z i = none := by
  unfold getDK
  rw [V3.mp h]
@[simp] theorem ixW_s (l : List Nat) (y : T) (Z : Sto) : gIxW (.str l) y Z = gIx (.str l) y Z := (rfl)
@[simp] theorem ixW_t (l : List T) (y : T) (Z : Sto) : gIxW (.tup l) y Z = gIx (.tup l) y Z := (rfl)
@[simp] theorem ixW_f (l : List T) (y : T) (Z : Sto) : gIxW (.frl l) y Z = gIx (.frl l) y Z := (rfl)
theorem ixW_l {Z : Sto} {i : Nat} {ts : List T} (y : T) (h : getL Z i = some ts) : gIxW (.loc i) y Z = gIx (.loc i) y Z := by
  simp only [gIxW,Zcl h]
theorem Z5a {Z : Sto} {i : Nat} {ts : List T} (k : Int) (h : getL Z i = some ts) : gIxW (.loc i) (.int k) Z = (atI ts k).map fun t => (t,Z) := by
  rw [ixW_l _ h,Zi8,h]
theorem Zid {Z : Sto} {i : Nat} {ts : List T} (y t : T) (h : getL Z i = some ts) : gSetW (.loc i) y t Z = gSetL (.loc i) y t Z := by
  simp only [gSetW,Zcl h]
@[simp] theorem inW_t (x : T) (ts : List T) (Z : Sto) : gInW x (.tup ts) Z = gIn x (.tup ts) Z := (rfl)
@[simp] theorem inW_s (x : T) (l : List Nat) (Z : Sto) : gInW x (.str l) Z = gIn x (.str l) Z := (rfl)
@[simp] theorem notInW_t (x : T) (ts : List T) (Z : Sto) : gNotInW x (.tup ts) Z = gNotIn x (.tup ts) Z := (rfl)
@[simp] theorem notInW_s (x : T) (l : List Nat) (Z : Sto) : gNotInW x (.str l) Z = gNotIn x (.str l) Z := (rfl)
@[simp] theorem leW_ii (i j : Int) (Z : Sto) : gLeW (.int i) (.int j) Z = some (.bl (decide (i ≤ j)),Z) := (rfl)
@[simp] theorem gtW_ii (i j : Int) (Z : Sto) : gGtW (.int i) (.int j) Z = some (.bl (decide (j < i)),Z) := (rfl)
@[simp] theorem geW_ii (i j : Int) (Z : Sto) : gGeW (.int i) (.int j) Z = some (.bl (decide (j ≤ i)),Z) := (rfl)
section
variable (ρ : Env) (Z : Sto)
@[simp] theorem q_gSubsW (fo fi : FE) (t : T) : gSubsW fo fi t ρ Z = (fo ρ Z).bind fun x Z1 => (fi ρ Z1).bind fun y Z2 => match gSetW x y t Z2 with | some Z3 => .ok ρ Z3 | none => .stuck := (rfl)
end
theorem Zie {Z : Sto} {i : Nat} {ts : List T} (k : Int) (t : T) (h : getL Z i = some ts) : gSetL (.loc i) (.int k) t Z = (ixN ts.length k).map fun n => Z.set i (.lst (ts.set n t)) := by
  show (match getL Z i with | some ts => _ | none => none) = _
  rw [h]
theorem Zf6 {Z : Sto} {i : Nat} {ts : List T} (k : Int) (t : T) (h : getL Z i = some ts) : gSetW (.loc i) (.int k) t Z = (ixN ts.length k).map fun n => Z.set i (.lst (ts.set n t)) := by
  rw [Zid _ _ h,Zie k t h]
end Fx
set_option maxHeartbeats 4000000
namespace Fx
open PySem PySem.Spec PyProof.Rows L2 SX Ap
variable [Tb]
end Fx
set_option maxHeartbeats 4000000
namespace Fx
open PySem PySem.Spec PyProof.Rows L2 SX Ap
variable [Tb]
end Fx
set_option maxHeartbeats 4000000
namespace SrtO
open PySem PyProof.Rows Srt
def IsFst (h : Heap) (v : Value) (x : Int) : Prop := ∃ (a : Addr) (o : Obj) (t : Tok) (r : List Value) (n : Nat), v = .ref a ∧ h.get? a = some o ∧ o.cls = .type "tuple" ∧ o.data = .seq (Value.int x t :: r).toArray n
theorem IsFst.keeps {h h' : Heap} {v : Value} {x : Int} (p : IsFst h v x) (k : ∀ b o, h.get? b = some o → o.cls = .type "tuple" → h'.get? b = some o) : IsFst h' v x := by
  obtain ⟨a,o,t,r,n,e,ho,hc,hd⟩ := p
  exact ⟨a,o,t,r,n,e,k _ _ ho hc,hc,hd⟩
end SrtO
namespace Fx
open PySem PySem.Spec PyProof.Rows L2 SX Ap
end Fx
set_option maxHeartbeats 4000000
namespace Fx
open PySem PySem.Spec PyProof.Rows L2 SX Ap L2.DX
end Fx
set_option maxHeartbeats 4000000
namespace Fx
open PySem PySem.Spec PyProof.Rows L2 SX Ap
abbrev Cl := Value × Option Nat × (Addr → Value → Option Addr → TS)
def endA : Option Nat → Ends → Ends
  | none,D => D
  | some i,D => { nx := fun σ H => D.nx (σ.set i none) H,rt := D.rt,bk := fun σ H => D.bk (σ.set i none) H,ct := fun σ H => D.ct (σ.set i none) H }
def begA : Option Nat → Addr → L2.St → L2.St
  | none,_,σ => σ
  | some i,a,σ => σ.set i (some (.ref a))
def wAll (K : PySem.W.Frag) (Wout : WX) (D : Ends) : List Cl → WX
  | [] => Wout
  | (c,o,ts) :: r => fun cls d σ H => ∃ b,PySem.W.exmOne K cls c = some b ∧ (b = true → ∀ a,H a = none → ts a cls d (endA o D) (begA o a σ) H) ∧ (b = false → wAll K Wout D r cls d σ H)
inductive ClsOk (X : Cx) : List ExceptHandler → List Cl → Prop
  | nil : ClsOk X [] []
  | named {x n : PySem.Str} {c : Value} {i : Nat} {ts : Addr → Value → Option Addr → TS} {b₀ : Stmt} {suite : List Stmt} {np pos' : Pos} {hds : List ExceptHandler} {l : List Cl} (hN : X.N.Nodup) (hi : X.N[i]? = some n) (hln : X.env.kindOf n = some .local) (hc : Names X x c)
      (hsu : ∀ (a : Addr) (oe : Obj) (cls : Value) (d : Option Addr) (pn : List (Addr × Obj)),Zc cls d oe → (∃ vs,oe.data = .fields vs) → PSs (X.suite a ((a,oe) :: pn)) (b₀ :: suite) (ts a cls d)) (r : ClsOk X hds l) :
      ClsOk X (.ExceptHandler (some (.Name x np)) (some n) (b₀ :: suite) pos' :: hds) ((c, some i, ts) :: l)
  | bare {x : PySem.Str} {c : Value} {ts : Addr → Value → Option Addr → TS} {b₀ : Stmt} {suite : List Stmt} {np pos' : Pos} {hds : List ExceptHandler} {l : List Cl} (hc : Names X x c)
      (hsu : ∀ (a : Addr) (oe : Obj) (cls : Value) (d : Option Addr) (pn : List (Addr × Obj)),Zc cls d oe → (∃ vs,oe.data = .fields vs) → PSs (X.suite a ((a,oe) :: pn)) (b₀ :: suite) (ts a cls d)) (r : ClsOk X hds l) :
      ClsOk X (.ExceptHandler (some (.Name x np)) none (b₀ :: suite) pos' :: hds) ((c, none, ts) :: l)
section
variable {X : Cx} {body : List Stmt} {h₀ : ExceptHandler} {hds : List ExceptHandler} {l : List Cl} {pos : Pos} {tb : WX → TS} {Wout : WX}
theorem Zax (hs : X.stack = X.env :: X.outer) (hf : X.env.frame = some X.env.locals) (tk : Takes X Wout)
    (hb : ∀ (W : WX) (pn : List (Addr × Obj)) (xe : Value → Shared → Prop),Takes (X.tr pn xe) W → PassesOwn (model X.prog X.w) X.A X.env xe → PSs (X.tr pn xe) body (tb W))
    (hh : ClsOk X (h₀ :: hds) l) : PS X (.Try body (h₀ :: hds) [] [] pos) (fun D σ H => tb (wAll X.K Wout D l) D σ H) := by
  refine ⟨fun pins s σ H D I h => ?_⟩
  have ok := I.ok
  have hfr : X.A.frames = some (X.env :: X.outer) := by rw [ok.frames,hs]
  refine wpAny_Try_except ?_
  refine wpAny_mono ((hb (wAll X.K Wout D l) (X.pn ++ pins) (fun e s₁ => wpAny (model X.prog X.w) X.A (noteFrame e X.env) (fun _ s₂ => wpAny (model X.prog X.w) X.A (setFlight e none) (fun _ s₃ =>
    wpAny (model X.prog X.w) X.A (handleBy e X.env (h₀ :: hds)) (SP X pins D) X.xe s₃) X.xe s₂) X.xe s₁) (fun u s' xx => ?_) PassesOwn.looking).run [] s σ H D (I.toTry _) h) (fun f s1 hsp => ?_) (fun e s1 he => he)
  · obtain ⟨a, B, sI, pins', σ', H', cls, d, rfl, J', nb, up, sky, na, os, ag, w⟩ := xx
    have J : Inv X pins σ' H' sI := J'.ofTry ok
    have sky' : Sky B (X.env :: X.outer) a (Zc cls d) X.env.locals s'.heap := by rw [← hs]; exact sky
    show wpAny (model X.prog X.w) X.A (noteFrame (.ref a) X.env) _ _ _
    refine Sky.land Zc.steady hfr hf sky' fun h3 fl3 up3 => ?_
    have J3 : Inv X pins σ' H' { s' with heap := h3 } := J.landed nb fl3.1 (up.trans up3) os ag
    obtain ⟨oe3,vs3,he3,hz3,hd3⟩ := fl3.there
    have notFr : ∀ {h : Heap} {o : Obj} {vs : Array Value},h.FunFrames B (X.env :: X.outer) → h.get? a = some o → o.data = .fields vs → a ∉ frs (X.env :: X.outer) := fun {h o vs} ff e dd hm => by
      obtain ⟨_, o', e', hnf⟩ := ff.mem hm
      rw [e] at e'; cases e'
      exact hnf _ dd
    have nfr := notFr fl3.2.2.1 he3 hd3
    have nL : a ≠ X.env.locals := fun z => nfr (List.mem_filterMap.mpr ⟨X.env,List.mem_cons_self,by rw [hf,z]⟩)
    have nF : a ∉ X.fs := fun hm => by
      obtain ⟨e,he,q⟩ := List.mem_filterMap.mp hm
      exact nfr (List.mem_filterMap.mpr ⟨e,List.mem_cons_of_mem _ he,q⟩)
    have S3 := J3.suite he3 hd3 na nL nF
    have LT : PySem.W.Looks (model X.prog X.w) h3 (typeOf (.ref a)) cls := fun A Q E s k q => wpAny_typeOf_ref (k _ _ he3) (by rw [hz3.1]; exact q)
    have test : ∀ {x : PySem.Str} {c : Value} {np : Pos} {Q : Value → Shared → Prop} {E : Value → Shared → Prop}, Names X x c → Q c { s' with heap := h3 } → wpAny (model X.prog X.w) (X.A.mark (some (.ref a))) (eval (.Name x np) X.env) Q E { s' with heap := h3 } := fun {x c np Q E} hc q => by
      obtain ⟨hg,hdbg,hm | ⟨hm,hv,hnn⟩⟩ := hc
      · exact ld_glob (X := X.suite a ((a,oe3) :: (X.pn ++ pins))) S3 hg hm q hdbg
      · exact ld_blt (X := X.suite a ((a,oe3) :: (X.pn ++ pins))) S3 hg hm hv q hnn hdbg
    have go : ∀ {hds' : List ExceptHandler} {l' : List Cl}, ClsOk X hds' l' → wAll X.K Wout D l' cls d σ' H' → wpAny (model X.prog X.w) X.A (handleBy (.ref a) X.env hds') (SP X pins D) X.xe { s' with heap := h3 } := by
      intro hds' l' hk
      induction hk with
      | nil =>
        intro w
        refine wpAny_handleBy_nil ?_
        obtain ⟨k1, k2, k3, oe, vs, T, oT, ts', he, hz, hd, h1, hr⟩ := id fl3
        unfold PySem.passOn
        refine wpAny_bind (wpAny_field he hd h1 ?_)
        rw [if_neg (show ¬ ((Value.ref T == Value.none) = true) from by simp)]
        have fin : wpAny (model X.prog X.w) X.A (setFlight (.ref a) X.env.frame) (fun _ s4 => wpAny (model X.prog X.w) X.A (throw (.ref a) : Sem Flow) (SP X pins D) X.xe s4) X.xe { s' with heap := h3 } := by
          rw [hf]
          refine HandSPX.setFlight_upZ fl3 fun h4 hh4 up4 => wpAny_throw (tk _ _ ?_)
          exact ⟨a, B, sI, pins, σ', H', cls, d, rfl, J, nb, (up.trans up3).trans up4, .inr (.inr (by rw [hs]; exact hh4)), na, os, ag, w⟩
        first
          | exact wpAny_bind (wpAny_pure (wpAny_bind fin))
          | exact wpAny_bind fin
      | @named x n c i ts b₀ suite np pos' hds2 l2 hN hi hln hc hsu r ih =>
        intro w
        obtain ⟨b,hb1,hyes,hno⟩ := w
        refine wpAny_handleBy_cons (codeAny_handlers_test ?_) (by intro q; cases q)
        refine test hc ((PySem.W.exm_one (M := model X.prog X.w) (J3.kIn) LT hb1).here ?_)
        cases b with
        | true =>
          refine codeAny_handlers_suite_as ?_
          refine HandSPX.lands_againZ fl3 fun h4 fl4 up4 => ?_
          have J4 : Inv X pins σ' H' { s' with heap := h4 } := J.landed nb fl4.1 ((up.trans up3).trans up4) os ag
          obtain ⟨oe4,vs4,he4,hz4,hd4⟩ := fl4.there
          have S4 := J4.suite he4 hd4 na nL nF
          refine store_ok (X := X.suite a ((a,oe4) :: (X.pn ++ pins))) (v := .ref a) S4 hN hi (.inl hln) rfl (fun s5 S5 => ?_) (.inr hln)
          refine wpAny_mono ((hsu a oe4 cls d (X.pn ++ pins) hz4 ⟨_, hd4⟩).run [] s5 _ H' _ S5 (hyes rfl a na)) (fun f s6 hsp => ?_) (fun _ _ z => False.elim z)
          have end_ : ∀ {σ6 : L2.St} {H6 : Hp} {Q : Shared → Prop},Inv (X.suite a ((a,oe4) :: (X.pn ++ pins))) [] σ6 H6 s6 → (∀ s7,Inv X pins (σ6.set i none) H6 s7 → Q s7) →
              wpAny (model X.prog X.w) X.A (do bindName X.env n .none; unbindBehindTheSuite X.env n pos') (fun _ s7 => Q s7) X.xe s6 := fun {σ6 H6 Q} S6 hq => gone_ok (S6.unsuite ok) hN hi hln hq
          cases f with
          | next =>
            obtain ⟨σ6,H6,S6,q6⟩ := hsp
            exact end_ S6 fun s7 J7 => ⟨_,_,J7,q6⟩
          | brk =>
            obtain ⟨σ6,H6,S6,q6⟩ := hsp
            exact end_ S6 fun s7 J7 => ⟨_,_,J7,q6⟩
          | cont =>
            obtain ⟨σ6,H6,S6,q6⟩ := hsp
            exact end_ S6 fun s7 J7 => ⟨_,_,J7,q6⟩
          | ret u =>
            obtain ⟨v6,σ6,H6,S6,r6,q6⟩ := hsp
            exact end_ S6 fun s7 J7 => ⟨_,_,_,J7,r6,q6⟩
        | false =>
          show wpAny _ X.A (handleBy (.ref a) X.env hds2) _ _ _
          exact ih (hno rfl)
      | @bare x c ts b₀ suite np pos' hds2 l2 hc hsu r ih =>
        intro w
        obtain ⟨b,hb1,hyes,hno⟩ := w
        refine wpAny_handleBy_cons (codeAny_handlers_test ?_) (by intro q; cases q)
        refine test hc ((PySem.W.exm_one (M := model X.prog X.w) (J3.kIn) LT hb1).here ?_)
        cases b with
        | true =>
          refine codeAny_handlers_suite ?_
          refine HandSPX.lands_againZ fl3 fun h4 fl4 up4 => ?_
          have J4 : Inv X pins σ' H' { s' with heap := h4 } := J.landed nb fl4.1 ((up.trans up3).trans up4) os ag
          obtain ⟨oe4,vs4,he4,hz4,hd4⟩ := fl4.there
          have S4 := J4.suite he4 hd4 na nL nF
          refine wpAny_mono ((hsu a oe4 cls d (X.pn ++ pins) hz4 ⟨_, hd4⟩).run [] _ _ H' _ S4 (hyes rfl a na)) (fun f s6 hsp => ?_) (fun _ _ z => False.elim z)
          cases f with
          | next => obtain ⟨σ6,H6,S6,q6⟩ := hsp; exact ⟨_,_,S6.unsuite ok,q6⟩
          | brk => obtain ⟨σ6,H6,S6,q6⟩ := hsp; exact ⟨_,_,S6.unsuite ok,q6⟩
          | cont => obtain ⟨σ6,H6,S6,q6⟩ := hsp; exact ⟨_,_,S6.unsuite ok,q6⟩
          | ret u => obtain ⟨v6,σ6,H6,S6,r6,q6⟩ := hsp; exact ⟨_,_,_,S6.unsuite ok,r6,q6⟩
        | false =>
          show wpAny _ X.A (handleBy (.ref a) X.env hds2) _ _ _
          exact ih (hno rfl)
    exact go hh w
  · cases f with
    | next => obtain ⟨σ', H', J', q⟩ := hsp; exact wpAny_execs_nil ⟨σ', H', J'.ofTry ok, q⟩
    | brk => obtain ⟨σ', H', J', q⟩ := hsp; exact ⟨σ', H', J'.ofTry ok, q⟩
    | cont => obtain ⟨σ', H', J', q⟩ := hsp; exact ⟨σ', H', J'.ofTry ok, q⟩
    | ret u => obtain ⟨v, σ', H', J', r, q⟩ := hsp; exact ⟨v, σ', H', J'.ofTry ok, r, q⟩
end
end Fx
set_option maxHeartbeats 4000000
namespace Fx
open PySem PySem.Spec PyProof.Rows L2 SX Ap
variable [Tb]
end Fx
set_option maxHeartbeats 4000000
namespace Fx
open PySem PySem.Spec PyProof.Rows L2 SX Ap
variable [Tb]
def ltIx (n i : Nat) : Option Nat := if i < n then some i else none
mutual
def lcT (n : Nat) : T → Bool
  | .tup ts => lcTs n ts
  | .loc i => Nat.ble (i + 1) n
  | .frl ts => lcTs n ts
  | .lam _ _ _ _ => false
  | .ktp ts => lcTs n ts
  | .non => true
  | .bl _ => true
  | .int _ => true
  | .str _ => true
  | .ref _ => true
  | .ty _ => true
def lcTs (n : Nat) : List T → Bool
  | [] => true
  | t :: ts => lcT n t && lcTs n ts
end
mutual
theorem Zcm {n : Nat} : ∀ {t : T},lcT n t = true → T.mv (ltIx n) t = some t
  | .non,_ => rfl
  | .bl _,_ => rfl
  | .int _,_ => rfl
  | .str _,_ => rfl
  | .tup ts,h => by
    have h : lcTs n ts = true := h
    show (T.mvs (ltIx n) ts).map T.tup = _
    rw [Z5b h]; rfl
  | .loc i,h => by
    have h : i + 1 ≤ n := Nat.le_of_ble_eq_true h
    show (ltIx n i).map T.loc = _
    unfold ltIx
    rw [if_pos (show i < n from h)]; rfl
  | .frl ts,h => by
    have h : lcTs n ts = true := h
    show (T.mvs (ltIx n) ts).map T.frl = _
    rw [Z5b h]; rfl
  | .ref _,_ => rfl
  | .ty _,_ => rfl
  | .lam _ _ _ _,h => by cases h
  | .ktp ts,h => by
    have h : lcTs n ts = true := h
    show (T.mvs (ltIx n) ts).map T.ktp = _
    rw [Z5b h]; rfl
theorem Z5b {n : Nat} : ∀ {ts : List T},lcTs n ts = true → T.mvs (ltIx n) ts = some ts
  | [],_ => rfl
  | t :: ts,h => by
    have h : (lcT n t && lcTs n ts) = true := h
    rw [Bool.and_eq_true] at h
    simp only [T.mvs,Zcm h.1,Z5b h.2]
end
def lcP {κ : Type} (n : Nat) : List (κ × T) → Bool
  | [] => true
  | p :: r => lcT n p.2 && lcP n r
theorem Za1 {κ : Type} {n : Nat} : ∀ {l : List (κ × T)},lcP n l = true → mvP (ltIx n) l = some l
  | [],_ => rfl
  | (k,t) :: r,h => by
    have h : (lcT n t && lcP n r) = true := h
    rw [Bool.and_eq_true] at h
    simp only [mvP,Zcm h.1,Za1 h.2]
def lcO (n : Nat) : O → Bool
  | .lst ts => lcTs n ts
  | .dk l => lcP n l
  | .dt l => lcP n l
  | .ins _ l => lcP n l
theorem Zcn {n : Nat} {o : O} (h : lcO n o = true) : O.mv (ltIx n) o = some o := by
  cases o with
  | lst ts => show (T.mvs (ltIx n) ts).map O.lst = _; rw [Z5b h]; rfl
  | dk l => show (mvP (ltIx n) l).map O.dk = _; rw [Za1 h]; rfl
  | dt l => show (mvP (ltIx n) l).map O.dt = _; rw [Za1 h]; rfl
  | ins C l => show (mvP (ltIx n) l).map (O.ins C) = _; rw [Za1 h]; rfl
def selE : List Nat → Env → Nat → Env
  | _,[],_ => []
  | ks,o :: ρ,i => (if i ∈ ks then o else none) :: selE ks ρ (i + 1)
theorem Za2 (ks : List Nat) : ∀ (ρ : Env) (i : Nat),(selE ks ρ i).length = ρ.length
  | [],_ => rfl
  | _ :: ρ,i => congrArg (· + 1) (Za2 ks ρ (i + 1))
theorem Za3 {ks : List Nat} : ∀ {ρ : Env} {i k : Nat} {t : T},(selE ks ρ i)[k]? = some (some t) → ρ[k]? = some (some t)
  | [],_,_,_,h => by simp [selE] at h
  | o :: ρ,i,0,t,h => by
    simp only [selE,List.getElem?_cons_zero,Option.some.injEq] at h
    split at h
    · subst h; rfl
    · cases h
  | o :: ρ,i,k + 1,t,h => by
    simp only [selE,List.getElem?_cons_succ] at h
    simpa using Za3 h
def scE (n : Nat) : Env → Bool
  | [] => true
  | none :: ρ => scE n ρ
  | some t :: ρ => lcT n t && scE n ρ
theorem Z8z {n : Nat} : ∀ {ρ : Env} {k : Nat} {t : T},scE n ρ = true → ρ[k]? = some (some t) → lcT n t = true
  | [],_,_,_,h => by simp at h
  | none :: ρ,0,t,_,h => by simp at h
  | some u :: ρ,0,t,h0,h => by
    simp only [scE,Bool.and_eq_true] at h0
    simp at h; subst h; exact h0.1
  | none :: ρ,k + 1,t,h0,h => Z8z (ρ := ρ) (k := k) h0 (by simpa using h)
  | some u :: ρ,k + 1,t,h0,h => by
    simp only [scE,Bool.and_eq_true] at h0
    exact Z8z (ρ := ρ) (k := k) h0.2 (by simpa using h)
section
variable {X : Cx} {K : PySem.W.Frag} {W : WX} {ι ι1 : List Addr} {H H1 : Hp} {σ σ1 : L2.St} {ρ ρ1 : Env} {Z Y : Sto}
theorem Gr.drop (g : Gr ι ι1 H H1) : Gr ι ι H H1 := ⟨fun _ _ h => h,g.tup,g.frz,g.xd,g.ext,g.tab,fun _ _ h _ _ => h,g.out⟩
theorem drop_at (s : Sim K ι Z H) (g : Gr ι ι1 H H1) : ∀ i j a,ltIx Z.length i = some j → ι1[i]? = some a → ι[j]? = some a := fun i j a e h => by
  unfold ltIx at e
  split at e
  · rename_i hi
    cases e
    have hi : i < ι.length := by rw [s.len]; exact hi
    have h2 := g.pre i _ (List.getElem?_eq_getElem hi)
    rw [h] at h2; cases h2
    exact List.getElem?_eq_getElem hi
  · cases e
theorem Sim.drop (s : Sim K ι Z H) (g : Gr ι ι1 H H1) (s1 : Sim K ι1 Y H1) (h : (Y.take Z.length).all (lcO Z.length) = true) : Sim K ι (Y.take Z.length) H1 := by
  have hl := Zbz g s s1
  refine ⟨by rw [List.length_take,s.len]; omega,s.nd,fun i a o ha ho => ?_,s1.tab⟩
  have h1 := g.pre i a ha
  have h2 : Y[i]? = some o := by
    rw [List.getElem?_take] at ho
    split at ho
    · exact ho
    · cases ho
  have h3 : lcO Z.length o = true := by
    rw [List.all_eq_true] at h
    exact h o (List.mem_of_getElem? ho)
  exact (s1.ob i a o h1 h2).mv (drop_at s g) (Zcn h3)
theorem Is.drop {ks : List Nat} (s : Sim K ι Z H) (g : Gr ι ι1 H H1) (is : Is K ι1 H1 σ1 ρ1 Y) (h : (Y.take Z.length).all (lcO Z.length) = true) (he : scE Z.length (selE ks ρ1 0) = true) : Is K ι H1 σ1 (selE ks ρ1 0) (Y.take Z.length) :=
  ⟨by rw [Za2]; exact is.len,fun i t ht => by
    obtain ⟨v,h1,h2⟩ := is.env i t (Za3 ht)
    exact ⟨v,h1,h2.mv (drop_at s g) (Zcm (Z8z he ht))⟩,s.drop g is.sim h⟩
end
section
variable {K : PySem.W.Frag} {n : Nat} {F : FF}
theorem Gr.keep {ι ι1 : List Addr} {H H1 : Hp} {j : Nat} {a : Addr} (g : Gr ι ι1 H H1) (h : ι1[j]? = some a) : Gr ι (ι ++ [a]) H H1 :=
  ⟨fun i b hb => by rw [List.getElem?_append_left (List.getElem?_eq_some_iff.mp hb).1]; exact hb,g.tup,g.frz,g.xd,g.ext,g.tab,fun b u hb e m => (List.mem_append.mp hb).elim id fun k => g.fre b u (by rw [List.mem_singleton.mp k]; exact List.mem_of_getElem? h) e m,g.out⟩
theorem Sim.keep {ι ι1 : List Addr} {H H1 : Hp} {Z Y : Sto} {j : Nat} {a : Addr} {us : List T} (s : Sim K ι Z H) (g : Gr ι ι1 H H1) (s1 : Sim K ι1 Y H1) (h : (Y.take Z.length).all (lcO Z.length) = true) (ha : ι1[j]? = some a) (hj : Z.length ≤ j) (hy : Y[j]? = some (.lst us)) (hu : lcTs Z.length us = true) : Sim K (ι ++ [a]) (Y.take Z.length ++ [.lst us]) H1 := by
  have hl := Zbz g s s1
  have hat := drop_at s g
  have hf : ∀ i k x,ltIx Z.length i = some k → ι1[i]? = some x → (ι ++ [a])[k]? = some x := fun i k x e hx => by
    have h2 := hat i k x e hx
    rw [List.getElem?_append_left (List.getElem?_eq_some_iff.mp h2).1]; exact h2
  have hlt : (Y.take Z.length).length = Z.length := by rw [List.length_take]; omega
  refine ⟨by rw [List.length_append,List.length_append,hlt,s.len]; rfl,?_,fun i b o hb ho => ?_,s1.tab⟩
  · rw [List.nodup_append]
    refine ⟨s.nd,by simp,fun b hb c hc e => ?_⟩
    rw [List.mem_singleton] at hc
    subst e; subst hc
    obtain ⟨i,hi⟩ := List.mem_iff_getElem?.mp hb
    have h1 := g.pre i _ hi
    obtain ⟨k1,x1⟩ := List.getElem?_eq_some_iff.mp h1
    obtain ⟨k2,x2⟩ := List.getElem?_eq_some_iff.mp ha
    have h3 := (List.getElem_inj s1.nd).mp (x1.trans x2.symm)
    have h4 := (List.getElem?_eq_some_iff.mp hi).1
    rw [s.len] at h4
    omega
  · by_cases hi : i < Z.length
    · rw [List.getElem?_append_left (by rw [s.len]; exact hi)] at hb
      rw [List.getElem?_append_left (by rw [hlt]; exact hi)] at ho
      have h2 : Y[i]? = some o := by
        have ho2 := ho
        rw [List.getElem?_take,if_pos hi] at ho2
        exact ho2
      have h3 : lcO Z.length o = true := by
        rw [List.all_eq_true] at h
        exact h o (List.mem_of_getElem? ho)
      exact (s1.ob i b o (g.pre i b hb) h2).mv hf (Zcn h3)
    · have hi' : Z.length ≤ i := Nat.le_of_not_lt hi
      rw [List.getElem?_append_right (by rw [s.len]; exact hi'), s.len] at hb
      rw [List.getElem?_append_right (by rw [hlt]; exact hi'), hlt] at ho
      have h0 : i - Z.length = 0 := by simpa using (List.getElem?_eq_some_iff.mp hb).1
      rw [h0] at hb ho
      simp at hb ho
      subst hb ho
      exact (s1.ob j a _ ha hy).mv hf (Zcn hu)
end
end Fx
set_option maxHeartbeats 4000000
namespace Fx
open PySem PySem.Spec PyProof.Rows L2 SX Ap L2.DX
variable [Tb]
end Fx
set_option maxHeartbeats 4000000
namespace Fx
open PySem PySem.Spec PyProof.Rows L2 SX Ap
variable [Tb]
end Fx
set_option maxHeartbeats 4000000
namespace Fx
open PySem PySem.Spec PyProof.Rows L2 SX Ap
variable [Tb]
def lenDiff : T → T → Sto → Bool
  | .loc i,.loc j,Z => (match getL Z i,getL Z j with
    | some a,some b => !(a.length == b.length)
    | _,_ => false)
  | _,_,_ => false
def gNeL (x y : T) (Z : Sto) : Option (T × Sto) := if lenDiff x y Z = true then some (.bl true,Z) else gNe x y Z
section
variable {X : Cx} {K : PySem.W.Frag}
def rLen (K : PySem.W.Frag) (r : Bool) : R2 := fun x y H Q => ∃ a b xs ys,x = .ref a ∧ y = .ref b ∧ SqL K H a xs ∧ SqL K H b ys ∧ xs.length ≠ ys.length ∧ Q (.bl r) H
theorem Ze8 (hu : X.A.units + 64 < cLine) : OpR X (compareOp .NotEq) (rLen X.K true) := by
  intro pins s σ H x y v u Q I rx ry h
  obtain ⟨a,b,xs,ys,rfl,rfl,ha,hb,hn,q⟩ := h
  cases (show v = Value.ref a from rx)
  cases (show u = Value.ref b from ry)
  obtain ⟨us,r1,p1,_⟩ := I.list ha
  obtain ⟨ws,r2,p2,_⟩ := I.list hb
  exact PySem.SeqAt.RcNeAt.lists_lengths p1.isList p2.isList (by rw [List.size_toArray,List.size_toArray,← r1.length,← r2.length]; simpa using hn) (by omega) X.prog X.w _ _ ⟨.bl true,H,I,rfl,q⟩
theorem Zif {ι : List Addr} {H : Hp} {Z : Sto} {x y : V} {tx ty : T} (s : Sim K ι Z H) (rx : Rep K ι H x tx) (ry : Rep K ι H y ty) (e : lenDiff tx ty Z = true) : ∃ a b xs ys,x = .ref a ∧ y = .ref b ∧ SqL K H a xs ∧ SqL K H b ys ∧ xs.length ≠ ys.length := by
  unfold lenDiff at e
  split at e
  · split at e
    case h_2 => cases e
    rename_i ts us h1 h2
    obtain ⟨a,xs,rfl,h3,r1⟩ := Vo s rx (show asList (.loc _) Z = some ts by simp only [asList,W3 h1])
    obtain ⟨b,ys,rfl,h4,r2⟩ := Vo s ry (show asList (.loc _) Z = some us by simp only [asList,W3 h2])
    refine ⟨a,b,xs,ys,rfl,rfl,h3,h4,?_⟩
    rw [r1.length,r2.length]
    simpa using e
  · cases e
theorem Zig (hu : X.A.units + 64 < cLine) (hK : X.K = K) : OpF X K (compareOp .NotEq) gNeL := by
  subst hK
  refine Xm (Qn (Ze8 hu) (o_ne hu rfl)) fun x y H Q h => ?_
  obtain ⟨ι,Z,tx,ty,s,rx,ry,p⟩ := h
  unfold gNeL at p
  split at p
  · rename_i e
    obtain ⟨a,b,xs,ys,h1,h2,h3,h4,h5⟩ := Zif s rx ry e
    exact .inl ⟨a,b,xs,ys,h1,h2,h3,h4,h5,Zv p s (.bl _)⟩
  · exact .inr ⟨ι,Z,tx,ty,s,rx,ry,p⟩
end
end Fx
set_option maxHeartbeats 4000000
namespace Fx
open PySem PySem.Spec PyProof.Rows L2 SX Ap
variable [Tb]
def intsT : List T → Option (List Int)
  | [] => some []
  | .int i :: ts => (intsT ts).map (i :: ·)
  | _ :: _ => none
def gSum : List T → Sto → Option (T × Sto)
  | [t],Z => (asList t Z).bind fun ts => (intsT ts).map fun is => (.int is.sum,Z)
  | _,_ => none
theorem Z7z {K : PySem.W.Frag} {ι : List Addr} {H : Hp} : ∀ {vs : List V} {ts : List T} {bs : List Int},Reps K ι H vs ts → intsT ts = some bs → vs = bs.map V.int
  | _,[],bs,r,h => by
    cases r
    have : bs = [] := (Option.some.inj h).symm
    subst this; rfl
  | _,t :: ts,bs,r,h => by
    cases r with
    | cons r1 rs =>
      cases t with
      | int b =>
        simp only [intsT] at h
        cases e : intsT ts with
        | none => rw [e] at h; cases h
        | some cs =>
          rw [e] at h
          have : bs = b :: cs := (Option.some.inj h).symm
          subst this
          cases r1
          rw [Z7z rs e]; rfl
      | _ => simp [intsT] at h
theorem Zih {X : Cx} {K : PySem.W.Frag} (hK : X.K = K) (hc : X.calm = true) : CallR X (.builtin "sum") (rFC K gSum) := by
  subst hK
  refine W6 (cr_sum hc) fun xs H Q h => ?_
  obtain ⟨ι,Z,ts,s,r,p⟩ := h
  match ts,r,p with
  | [],_,p => exact p.elim
  | _ :: _ :: _,_,p => simp only [gSum] at p; exact p.elim
  | [t],r,p =>
    obtain ⟨v,rfl,rr⟩ := r.one
    simp only [gSum] at p
    cases e : asList t Z with
    | none => rw [e] at p; exact p.elim
    | some us =>
      rw [e] at p
      obtain ⟨a,vs,rfl,hq,rs⟩ := Vo s rr e
      cases eb : intsT us with
      | none => simp only [Option.bind_some,eb] at p; exact p.elim
      | some bs =>
        simp only [Option.bind_some,eb] at p
        have := Z7z rs eb
        subst this
        exact ⟨a,bs,rfl,hq,Zv p s (.int _)⟩
def gReprW : List T → Sto → Option (T × Sto)
  | [.non], Z => some (.str ("None" : PySem.Str).cps.toList, Z)
  | [.bl b], Z => some (.str (if b then "True" else "False" : PySem.Str).cps.toList, Z)
  | [.int i],Z => if i.natAbs.log2 < 1920 then some (.str (dec i),Z) else none
  | [.str l],Z => if (reprText (S l)).length ≤ sizeLine then some (.str (reprText (S l)).cps.toList,Z) else none
  | [.loc i],Z => match getDK Z i with
    | some [] => some (.str (PyData.dict []).shown.cps.toList,Z)
    | some _ => none
    | none => gRepr [.loc i] Z
  | ts,Z => gRepr ts Z
def reprV : V → Option PySem.Str
  | .non => some "None"
  | .bl b => some (if b then "True" else "False")
  | .int i => if i.natAbs.log2 < 1920 then some (toString i) else none
  | .str x => if (reprText x).length ≤ sizeLine then some (reprText x) else none
  | _ => none
theorem Zay {X : Cx} : CallR X (.builtin "repr") (fun xs H Q => ∃ v z, xs = [v] ∧ reprV v = some z ∧ Q (.str z) H) := by
  intro pins s σ H xs us Q I r h
  obtain ⟨v,z,rfl,e,q⟩ := h
  obtain ⟨u,rfl,ru⟩ := vals1 r
  cases v with
  | non =>
    cases e
    cases (show u = Value.none from ru)
    exact PySem.P.repr_of_none ⟨.str _,H,I.tok _,⟨_,rfl⟩,q⟩
  | bl b =>
    cases e
    cases (show u = Value.bool b from ru)
    exact PySem.P.repr_of_bool ⟨.str _,H,I.tok _,⟨_,rfl⟩,q⟩
  | int i =>
    obtain ⟨t,rfl⟩ := ru
    simp only [reprV] at e
    split at e
    · rename_i hz
      cases e
      exact PySem.P.repr_of_int hz ⟨.str _,H,I.tok _,⟨_,rfl⟩,q⟩
    · cases e
  | str x =>
    obtain ⟨t,rfl⟩ := ru
    simp only [reprV] at e
    split at e
    · rename_i hz
      cases e
      exact PySem.P.repr_of_str ⟨.str _,H,I.tok _,⟨_,rfl⟩,q⟩ hz
    · cases e
  | _ => cases e
theorem Zaz {X : Cx} (hG : X.A.guards = some []) (hu : X.A.units + 64 < cLine) :
    CallR X (.builtin "repr") (fun xs H Q => ∃ a : Addr, xs = [.ref a] ∧ H a = some (.dK []) ∧ Q (.str (PyData.dict []).shown) H) := by
  intro pins s σ H xs us Q I r h
  obtain ⟨a,rfl,ha,q⟩ := h
  obtain ⟨u,rfl,ru⟩ := vals1 r
  cases (show u = Value.ref a from ru)
  obtain ⟨_,hsm,vs,kv,o,es,ep,h1,h2,h3,h4,h5,h6⟩ := dk_of I.hok ha
  have hv : vs = [] := by cases kv; rfl
  subst hv
  have he : es.toList = [] := by
    have := h5.length
    simpa using this
  have rd : Reads s.heap (.ref a) (.dict []) ([a] ++ []) := .dict h1 h2.1 h3 (by rw [he]; exact .nil) (by rw [he]; exact .nil)
  have hdp : (PyData.dict []).depth ≤ 62 := by decide +kernel
  refine PySem.repr_of_reads' rd (by decide +kernel) (fun _ h => ?_) hG (by omega) (fun _ _ e => e) ?_ (by decide +kernel)
  · have : sysModules = a := by simpa using h
    subst this
    simp at hsm
  · intro h' u tk hk
    exact ⟨.str _,H,I.kept hk,⟨_,rfl⟩,q⟩
theorem Z6w {X : Cx} {K : PySem.W.Frag} (hK : X.K = K) (hG : X.A.guards = some []) (hu : X.A.units + 64 < cLine) : CallR X (.builtin "repr") (rFC K gReprW) := by
  subst hK
  refine W6 (Z3g Zay (Z3g (Zaz hG hu) (Zhr rfl hG hu))) fun xs H Q h => ?_
  obtain ⟨ι,Z,ts,s,r,p⟩ := h
  have old : ∀ {r' : Option (T × Sto)}, r' = gRepr ts Z → PostO (Rep X.K) X.K ι H Q r' → rOrC (fun xs H Q => ∃ v z, xs = [v] ∧ reprV v = some z ∧ Q (.str z) H) (rOrC (fun xs H Q => ∃ a : Addr, xs = [.ref a] ∧ H a = some (.dK []) ∧ Q (.str (PyData.dict []).shown) H) (rFC X.K gRepr)) xs H Q := fun e p => .inr (.inr ⟨ι, Z, ts, s, r, e ▸ p⟩)
  unfold gReprW at p
  split at p
  · obtain ⟨v,rfl,rr⟩ := r.one
    cases rr
    exact .inl ⟨_, _, rfl, rfl, Zv p s (by have := Rep.str (K := X.K) (ι := ι) (H := H) ("None" : PySem.Str).cps.toList; rw [Z6q] at this; exact this)⟩
  · rename_i b
    obtain ⟨v,rfl,rr⟩ := r.one
    cases rr
    exact .inl ⟨_, _, rfl, rfl, Zv p s (by have := Rep.str (K := X.K) (ι := ι) (H := H) (if b then "True" else "False" : PySem.Str).cps.toList; rw [Z6q] at this; exact this)⟩
  · obtain ⟨v,rfl,rr⟩ := r.one
    cases rr
    split at p
    · rename_i i hz
      exact .inl ⟨_,_,rfl,if_pos hz,by rw [Ap.Zfr]; exact Zv p s (.str _)⟩
    · exact p.elim
  · obtain ⟨v,rfl,rr⟩ := r.one
    cases rr
    split at p
    · rename_i l hz
      exact .inl ⟨_,_,rfl,if_pos hz,Zv p s (by have := Rep.str (K := X.K) (ι := ι) (H := H) (reprText (S l)).cps.toList; rw [Z6q] at this; exact this)⟩
    · exact p.elim
  · split at p
    · rename_i e
      obtain ⟨v,rfl,rr⟩ := r.one
      obtain ⟨a,vs,rfl,hi,h1,r2⟩ := Jl s rr e
      cases r2
      exact .inr (.inl ⟨a,rfl,h1,Zv p s (by have := Rep.str (K := X.K) (ι := ι) (H := H) (PyData.dict []).shown.cps.toList; rw [Z6q] at this; exact this)⟩)
    · exact p.elim
    · exact old rfl p
  · exact old rfl p
def gEqDQ (x y : T) (Z : Sto) : Option Bool := match toD 200 Z x,toD 200 Z y with
  | some d,some e => if d.canLay0 = true ∧ e.canLay0 = true ∧ d.depth ≤ 190 then some (PyData.eqv d e) else none
  | _,_ => none
def gEqBQ (x y : T) (Z : Sto) : Option Bool := match eqS x y with
  | some b => some b
  | none => gEqDQ x y Z
def gEqQ (x y : T) (Z : Sto) : Option (T × Sto) := (gEqBQ x y Z).map fun b => (.bl b,Z)
section
variable {X : Cx} {K : PySem.W.Frag} {ι : List Addr} {H : Hp}
def rEqQ (K : PySem.W.Frag) (neg : Bool) : R2 := fun x y H Q => ∃ d e,Dp K H x d ∧ Dp K H y e ∧ d.canLay0 = true ∧ e.canLay0 = true ∧ d.depth ≤ 190 ∧ Q (.bl (xor neg (PyData.eqv d e))) H
theorem Zii (hu : X.A.units + 200 < cLine) : OpR X (compareOp .Eq) (rEqQ X.K false) := by
  intro pins s σ H x y v u Q I rx ry h
  obtain ⟨d,e,hd,he,sd,se,hp,q⟩ := h
  obtain ⟨as,r1⟩ := Dp.reads I d x v hd rx
  obtain ⟨bs,r2⟩ := Dp.reads I e y u he ry
  exact SeqAt.compareEq_reads r1 r2 sd se (by have := Nat.min_le_left d.depth e.depth; omega) ⟨.bl _,H,I,rfl,by simpa using q⟩
theorem Zgm {x y : V} {tx ty : T} {Z : Sto} {b : Bool} (s : Sim K ι Z H) (rx : Rep K ι H x tx) (ry : Rep K ι H y ty) (e : gEqDQ tx ty Z = some b) : ∃ d e', Dp K H x d ∧ Dp K H y e' ∧ d.canLay0 = true ∧ e'.canLay0 = true ∧ d.depth ≤ 190 ∧ PyData.eqv d e' = b := by
  unfold gEqDQ at e
  split at e
  · rename_i d d' h1 h2
    split at e
    · rename_i h
      cases e
      exact ⟨d, d', Z5z s 200 rx h1, Z5z s 200 ry h2, h.1, h.2.1, h.2.2, rfl⟩
    · cases e
  · cases e
theorem Zgn (hu : X.A.units + 200 < cLine) (hK : X.K = K) : OpF X K (compareOp .Eq) gEqQ := by
  subst hK
  refine Xm (Qn op_eq (Zii hu)) fun x y H Q h => ?_
  obtain ⟨ι,Z,tx,ty,s,rx,ry,p⟩ := h
  cases e : gEqBQ tx ty Z with
  | none => simp only [gEqQ,e] at p; exact p.elim
  | some b =>
    simp only [gEqQ,e,Option.map_some] at p
    unfold gEqBQ at e
    split at e
    · rename_i b' e'
      cases e
      obtain ⟨h1, h2⟩ := Zbe rx ry e'
      exact .inl ⟨h1,by rw [h2]; exact Zv p s (.bl _)⟩
    · obtain ⟨d, d', h1, h2, h3, h4, h5, h6⟩ := Zgm s rx ry e
      exact .inr ⟨d, d', h1, h2, h3, h4, h5, by rw [h6, Bool.false_xor]; exact Zv p s (.bl _)⟩
end
theorem room200 {k : Nat} {A : Around} (r : Room k A) : A.units + 200 < cLine := by have := r.un; omega
end Fx
set_option maxHeartbeats 4000000
namespace Fx
open PySem PySem.Spec PyProof.Rows L2 SX Ap
variable [Tb]
end Fx
set_option maxHeartbeats 4000000
namespace Fx
open PySem PySem.Spec PyProof.Rows L2 SX Ap
variable [Tb]
section
variable {X : Cx} {K : PySem.W.Frag} {W : WX} {s : Stmt} {r sts : List Stmt} {f B g : FS}
def tSq (K : PySem.W.Frag) (W : WX) (B : FS) (k : TS) : TS := fun D σ H => ∃ ι ρ Z,Is K ι H σ ρ Z ∧ PostS K W ι H { D with nx := k D } (B ρ Z)
end
end Fx
set_option maxHeartbeats 4000000
namespace Fx
open PySem PySem.Spec PyProof.Rows L2 SX Ap
variable [Tb]
end Fx
set_option maxHeartbeats 4000000
namespace Fx
open PySem PySem.Spec PyProof.Rows L2 SX Ap
variable [Tb]
inductive Hn where
  | nmd (c : PySem.Str) (i : Nat) (fe : Ex → FE) | br (c : PySem.Str) (f : FS)
def lookX (l : List (PySem.Str × PySem.Str × Bool)) (n c : PySem.Str) : Option Bool := (l.find? fun p => decide (p.1 = n) && decide (p.2.1 = c)).map (·.2.2)
def XT (K : PySem.W.Frag) (l : List (PySem.Str × PySem.Str × Bool)) : Prop := ∀ p ∈ l,∃ A C : Addr,PySem.W.nsIn K mainGlobals p.1 = some (some (.ref A)) ∧ PySem.W.nsIn K mainGlobals p.2.1 = some (some (.ref C)) ∧ PySem.W.exmOne K (.ref A) (.ref C) = some p.2.2
theorem Ze9 {K : PySem.W.Frag} {l : List (PySem.Str × PySem.Str × Bool)} (h : XT K l) {n c : PySem.Str} {b : Bool} (e : lookX l n c = some b) {A C : Addr} (hA : PySem.W.nsIn K mainGlobals n = some (some (.ref A))) (hC : PySem.W.nsIn K mainGlobals c = some (some (.ref C))) : PySem.W.exmOne K (.ref A) (.ref C) = some b := by
  unfold lookX at e
  obtain ⟨p,e1,rfl⟩ := Option.map_eq_some_iff.mp e
  have h1 := List.find?_some e1
  simp only [Bool.and_eq_true,decide_eq_true_eq] at h1
  obtain ⟨A', C', a1, a2, a3⟩ := h p (List.mem_of_find?_eq_some e1)
  rw [h1.1,hA] at a1; cases a1
  rw [h1.2,hC] at a2; cases a2
  exact a3
def noE : RS → RS
  | .exc _ _ _ => .stuck
  | r => r
def pickH (l : List (PySem.Str × PySem.Str × Bool)) (y : Ex) (ρ : Env) (Z : Sto) : List Hn → RS
  | [] => .exc y ρ Z
  | .nmd c i fe :: r => (match lookX l y.cls c with
    | some true => if y.cls = c ∧ i < ρ.length ∧ y.fs.isEmpty = false then (match fe y (ρ.set i none) Z with
      | .ok t Z2 => .rt t Z2
      | _ => .stuck) else .stuck
    | some false => pickH l y ρ Z r
    | none => .stuck)
  | .br c f :: r => (match lookX l y.cls c with
    | some true => noE (f ρ Z)
    | some false => pickH l y ρ Z r
    | none => .stuck)
def sTryH (b : FS) (l : List (PySem.Str × PySem.Str × Bool)) (hs : List Hn) : FS := fun ρ Z => match b ρ Z with
  | .exc y ρ' Z' => pickH l y ρ' Z' hs
  | r => r
def HnJ (X : Cx) (K : PySem.W.Frag) (W : WX) (l : List (PySem.Str × PySem.Str × Bool)) (hds : List ExceptHandler) (hs : List Hn) : Prop := ∃ cs, ClsOk X hds cs ∧ ∀ (D : Ends) (y : Ex) (ρ' : Env) (Z' : Sto) (ι' : List Addr) (H' : Hp) (σ' : L2.St) (cls : Value) (d : Option Addr), Is K ι' H' σ' ρ' Z' → RepX K ι' H' cls d y →
  PostS K W ι' H' D (pickH l y ρ' Z' hs) → wAll K W D cs cls d σ' H'
section
variable {X : Cx} {K : PySem.W.Frag} {W : WX} {l : List (PySem.Str × PySem.Str × Bool)} {x n : PySem.Str} {C : Addr} {i : Nat} {e : Expr} {np pos' rpos pos : Pos} {hds : List ExceptHandler} {hs : List Hn} {fe : Ex → FE} {f b : FS} {b₀ : Stmt} {suite body : List Stmt} {h₀ : ExceptHandler}
theorem Zij : HnJ X K W l [] [] := ⟨[], .nil, fun D y ρ' Z' ι' H' σ' cls d is rx p => p ι' H' σ' cls d Gr.refl is rx⟩
theorem Zf7 (hK : X.K = K) (hN : X.N.Nodup) (hi : X.N[i]? = some n) (hln : X.env.kindOf n = some .local) (hc : Names X x (.ref C)) (hns : PySem.W.nsIn X.K mainGlobals x = some (some (.ref C))) (ht : XT X.K l)
    (hsu : ∀ (a : Addr) (oe : Obj) (cls : Value) (d : Option Addr) (pn : List (Addr × Obj)) (y : Ex),Zc cls d oe → (∃ vs,oe.data = .fields vs) → y.cls = x → y.fs.isEmpty = false → FJ (X.suite a ((a,oe) :: pn)) K (Wx K i a cls d y) e (fe y))
    (hr : HnJ X K W l hds hs) : HnJ X K W l (.ExceptHandler (some (.Name x np)) (some n) [.Return (some e) rpos] pos' :: hds) (.nmd x i fe :: hs) := by
  subst hK
  obtain ⟨cs,ok,im⟩ := hr
  refine ⟨(.ref C,some i,fun a cls d D σ H => ∃ y : Ex,y.cls = x ∧ y.fs.isEmpty = false ∧ tF X.K (Wx X.K i a cls d y) (fe y) σ H D.rt) :: cs,.named hN hi hln hc (fun a oe cls d pn hz hv => ⟨fun pins s σ H D I h => by
      obtain ⟨y,hy,hys,q⟩ := h
      exact (pss_one (ps_ret (hsu a oe cls d pn y hz hv hy hys))).run pins s σ H D I q⟩) ok, fun D y ρ' Z' ι' H' σ' cls d is rx p => ?_⟩
  obtain ⟨A,rfl,hA⟩ := id rx.1
  unfold pickH at p
  cases hb : lookX l y.cls x with
  | none => rw [hb] at p; exact p.elim
  | some bb =>
    rw [hb] at p
    refine ⟨bb,Ze9 ht hb hA hns,fun hbb a na => ?_,fun hbb => ?_⟩
    · subst hbb
      simp only at p
      split at p
      · rename_i hyl
        obtain ⟨hy,hil,hys⟩ := hyl
        refine ⟨y, hy, hys, ι', ρ'.set i none, Z', ⟨?_, ?_, is.sim, ?_, rx⟩, ?_⟩
        · show (σ'.set i (some (.ref a))).length = _
          rw [List.length_set,List.length_set]; exact is.len
        · intro j t hj
          show ∃ v, (σ'.set i (some (.ref a)))[j]? = _ ∧ _
          by_cases hji : j = i
          · subst hji
            rw [List.getElem?_set_self hil] at hj; cases hj
          · rw [List.getElem?_set_ne (Ne.symm hji)] at hj ⊢
            exact is.env j t hj
        · exact List.getElem?_set_self (by rw [is.len]; exact hil)
        · split at p
          · rename_i t Z2 e2
            rw [e2]
            exact fun ι2 H2 v g2 s2 r2 => p ι2 H2 v g2 s2 r2
          · exact p.elim
      · exact p.elim
    · subst hbb
      exact im D y ρ' Z' ι' H' σ' (.ref A) d is rx p
theorem Zgo (hK : X.K = K) (hs' : X.stack = X.env :: X.outer) (hf : X.env.frame = some X.env.locals) (tk : Takes X W)
    (hb : ∀ (W : WX) (pn : List (Addr × Obj)) (xe : Value → Shared → Prop),Takes (X.tr pn xe) W → PassesOwn (model X.prog X.w) X.A X.env xe → FBJ (X.tr pn xe) K W body b)
    (hh : HnJ X K W l (h₀ :: hds) hs) : FSJ X K W (.Try body (h₀ :: hds) [] [] pos) (sTryH b l hs) := by
  subst hK
  obtain ⟨cs,ok,im⟩ := hh
  refine Z0w (Zax hs' hf tk (fun W pn xe t pa => hb W pn xe t pa) ok) fun D σ H h => ?_
  obtain ⟨ι,ρ,Z,is,p⟩ := h
  refine ⟨ι,ρ,Z,is,?_⟩
  unfold sTryH at p
  cases e0 : b ρ Z with
  | exc y ρ' Z' =>
    rw [e0] at p
    intro ι' H' σ' cls d g' i' rx
    exact im D y ρ' Z' ι' H' σ' cls d i' rx (PostS.shift p g')
  | nx => rw [e0] at p; exact p
  | rt => rw [e0] at p; exact p
  | bk => rw [e0] at p; exact p
  | ct => rw [e0] at p; exact p
  | stuck => rw [e0] at p; exact p
end
def ignE : Hn → Prop
  | .nmd _ _ fe => ∀ y ρ ρ' Z, fe y ρ Z = fe y ρ' Z
  | .br _ f => ∀ (ρ ρ' : Env) (Z : Sto), ∃ t Z', f ρ Z = .rt t Z' ∧ f ρ' Z = .rt t Z'
def endR : RS → R T
  | .nx _ Z => .ok .non Z
  | .rt t Z => .ok t Z
  | .exc x _ Z => .exc x Z
  | _ => .stuck
theorem Za4 {n : Nat} {b : FS} {ts : List T} {Z : Sto} : runF n b ts Z = endR (b (ts.map some ++ List.replicate (n - ts.length) none) Z) := by
  unfold runF endR
  cases b (ts.map some ++ List.replicate (n - ts.length) none) Z <;> rfl
theorem Z5c {l : List (PySem.Str × PySem.Str × Bool)} {y : Ex} {Z : Sto} {ρ ρ' : Env} (hl : ρ.length = ρ'.length) : ∀ {hs : List Hn}, (∀ h ∈ hs, ignE h) → endR (pickH l y ρ Z hs) = endR (pickH l y ρ' Z hs)
  | [],_ => rfl
  | .nmd c i fe :: hs,h => by
    have h0 : ∀ y ρ ρ' Z, fe y ρ Z = fe y ρ' Z := h (.nmd c i fe) (by simp)
    have ih := Z5c hl (hs := hs) (l := l) (y := y) (Z := Z) fun g hg => h g (by simp [hg])
    simp only [pickH]
    cases lookX l y.cls c with
    | none => rfl
    | some b =>
      cases b with
      | true =>
        simp only [← hl, h0 y (ρ'.set i none) (ρ.set i none)]
      | false => exact ih
  | .br c f :: hs,h => by
    have h0 : ∀ (ρ ρ' : Env) (Z : Sto), ∃ t Z', f ρ Z = .rt t Z' ∧ f ρ' Z = .rt t Z' := h (.br c f) (by simp)
    have ih := Z5c hl (hs := hs) (l := l) (y := y) (Z := Z) fun g hg => h g (by simp [hg])
    simp only [pickH]
    cases lookX l y.cls c with
    | none => rfl
    | some b =>
      cases b with
      | true =>
        obtain ⟨t, Z', e1, e2⟩ := h0 ρ ρ' Z
        simp only [e1,e2]
      | false => exact ih
end Fx
set_option maxHeartbeats 4000000
namespace Ap
open PySem PySem.Spec PyProof.Rows L2 SX Fx
noncomputable section
def Yh : List Fx.T → List Fx.T
  | [x_graph,x_depth] => [x_graph,x_depth]
  | _ => []
def Zw : List Fx.T → List Fx.T
  | [x_graph,x_depth] => [x_graph,x_depth]
  | _ => []
def V9 : List Nat := [97,98,99,100,101,102,103,104,105,106,107,108,109,110,111,112,113,114,115,116,117,118,119,120,121,122,65,66,67,68,69,70,71,72,73,74,75,76,77,78,79,80,81,82,83,84,85,86,87,88,89,90,48,49,50,51,52,53,54,55,56,57,45,35,59,47,63,58,64,38,61,43,36,95,46,126,42,39,40,41]
def xlq : List (List Nat × List Nat × Bool) := [([78,111,71,114,97,112,104],[78,111,68,101,112,116,104],false),([78,111,71,114,97,112,104],[84,111,111,76,97,114,103,101],false),([78,111,68,101,112,116,104],[78,111,68,101,112,116,104],true),([78,111,68,101,112,116,104],[84,111,111,76,97,114,103,101],false),([84,111,111,76,97,114,103,101],[78,111,68,101,112,116,104],false),([84,111,111,76,97,114,103,101],[84,111,111,76,97,114,103,101],true)]
def xlw : List (PySem.Str × PySem.Str × Bool) := xlq.map fun p => (S p.1,S p.2.1,p.2.2)
def Z5d : FS :=
  (sRet (eLst (aCons (eBin gMul (eVar 0) (eCallB gIntT (aCons (eBin gGeW (eVar 0) (eBin gPow (eC (.int 10)) (eC (.int 18)))) aNil))) (aCons (eBin gMod (eCallB gIntT (aCons (eVar 0) aNil)) (eC (.int 2147483629))) (aCons (eC (.int 0)) aNil)))))
def Z07 : FF := runF 1 Z5d
def Z2h : FS :=
  (bCons (sIf (eBl (eBin gGtW (eBin gIxW (eVar 0) (eC (.int 0))) (eC (.int 0))))
      (bCons (sSet 2 (eBin gMod (eCallB gIntT (aCons (eBin gIxW (eVar 0) (eC (.int 0))) aNil)) (eVar 1)))
      (bCons (sAsg (eBin gDiv (eBin gIxW (eVar 0) (eC (.int 0))) (eVar 1)) (gSubsW (eVar 0) (eC (.int 0))))
      (sRet (eVar 2))))
      sPass)
    (bCons (sAsg (eBin gAdd (eBin gIxW (eVar 0) (eC (.int 2))) (eC (.int 1))) (gSubsW (eVar 0) (eC (.int 2))))
    (bCons (sSet 3 (eBin gMod (eCallB gIntT (aCons (eBin gMul (eBin gAdd (eBin gAdd (eBin gIxW (eVar 0) (eC (.int 1))) (eBin gMul (eC (.int 9973)) (eBin gIxW (eVar 0) (eC (.int 2))))) (eC (.int 17))) (eC (.int 48271))) aNil)) (eC (.int 2147483647))))
    (bCons (sSet 3 (eBin gMod (eCallB gIntT (aCons (eBin gMul (eVar 3) (eBin gAdd (eBin gAdd (eBin gDiv (eVar 3) (eC (.int 1021))) (eC (.int 69621))) (eBin gIxW (eVar 0) (eC (.int 2))))) aNil)) (eC (.int 2147483587))))
    (sRet (eBin gMod (eCallB gIntT (aCons (eBin gDiv (eBin gMod (eCallB gIntT (aCons (eBin gMul (eVar 3) (eBin gAdd (eBin gDiv (eVar 3) (eC (.int 2011))) (eC (.int 40692)))) aNil)) (eC (.int 2147483399))) (eC (.int 7))) aNil)) (eVar 1)))))))
def Zx : FF := runF 4 Z2h
def Z6b : FS :=
  (sRet (eBin gIxW (eVar 1) (eCall Zx [] (aCons (eVar 0) (aCons (eCallB gLen (aCons (eVar 1) aNil)) aNil)))))
def Wk : FF := runF 2 Z6b
def Z08 : FE :=
  (eCall Zx [] (aCons (eVar 0) (aCons (eVar 1) aNil)))
def Z09 : FE :=
  (eTup (aCons (eCall Zx [] (aCons (eVar 0) (aCons (eVar 1) aNil))) (aCons (eCall Zx [] (aCons (eVar 0) (aCons (eVar 1) aNil))) aNil)))
def Z0a : FS :=
  (bCons (sSet 2 (eCall Zx [] (aCons (eVar 0) (aCons (eC (.int 7)) aNil))))
    (bCons (sIf (eBl (eBin gLt (eVar 2) (eC (.int 2))))
      (sRet (eTup (aCons (eC (.str [115,99,97,108,97,114])) (aCons (eCall Wk [] (aCons (eVar 0) (aCons (eLst (aCons (eC (.str [33,33,115,116,114])) (aCons (eC (.str [33,33,115,116,114])) (aCons (eC (.str [33,120])) aNil)))) aNil))) (aCons (eCall Wk [] (aCons (eVar 0) (aCons (eLst (aCons (eC (.str [97])) (aCons (eC (.str [98])) (aCons (eC (.str [])) aNil)))) aNil))) aNil)))))
      sPass)
    (bCons (sIf (eBl (eBin gLt (eVar 2) (eC (.int 5))))
      (bCons (sSet 3 (eLc [4] [4] (iRng (aCons (eCall Zx [] (aCons (eVar 0) (aCons (eC (.int 4)) aNil))) aNil)) eYes Z08))
      (sRet (eTup (aCons (eC (.str [115,101,113,117,101,110,99,101])) (aCons (eCall Wk [] (aCons (eVar 0) (aCons (eLst (aCons (eC (.str [33,33,115,101,113])) (aCons (eC (.str [33,33,115,101,113])) (aCons (eC (.str [33,115])) aNil)))) aNil))) (aCons (eCallB gTuple (aCons (eVar 3) aNil)) aNil))))))
      sPass)
    (bCons (sSet 3 (eLc [4] [4] (iRng (aCons (eCall Zx [] (aCons (eVar 0) (aCons (eC (.int 3)) aNil))) aNil)) eYes Z09))
    (sRet (eTup (aCons (eC (.str [109,97,112,112,105,110,103])) (aCons (eCall Wk [] (aCons (eVar 0) (aCons (eLst (aCons (eC (.str [33,33,109,97,112])) (aCons (eC (.str [33,33,109,97,112])) (aCons (eC (.str [33,109])) aNil)))) aNil))) (aCons (eCallB gTuple (aCons (eVar 3) aNil)) aNil)))))))))
def Uz : FF := runF 5 Z0a
def Yy : FS :=
  (bCons (sSet 4 (eAnd (eBin gNeL (eVar 2) (eLst aNil)) (eBin gEq (eCall Zx [] (aCons (eVar 0) (aCons (eC (.int 4)) aNil))) (eC (.int 0)))))
      (sDrop (eBM "list" gAppend (eVar 2) (aCons (eIf (eTru (eVar 4)) (eCall Wk [] (aCons (eVar 0) (aCons (eVar 2) aNil))) (eCall Uz [] (aCons (eVar 0) (aCons (eVar 1) aNil)))) aNil))))
def Z16 : FS :=
  (bCons (sSet 2 (eLst aNil))
    (bCons (sFor (iRng (aCons (eVar 1) aNil)) (gNm 3) Yy)
    (sRet (eVar 2))))
def Jq : FF := runF 5 Z16
def Ue : FS :=
  (sIf (Fx.tNot (eTru (eIsC "Graph" (eVar 1))))
        (sRaise "NoGraph" "index" [] (aCons (eUn gNeg (eC (.int 3))) aNil))
        sPass)
def Z0q : FS :=
  (sFor (iAny (eVar 0)) (gNm 1) Ue)
def Xv : FF := runS 2 Z0q
def Z39 : FS :=
  (sRet (eAnd (eCallB gIsi (aCons (eVar 0) (aCons (eC (.ty "int")) aNil))) (eAnd (eNot (eCallB gIsi (aCons (eVar 0) (aCons (eC (.ty "bool")) aNil)))) (eChain gLeW gLeW (eVar 1) (eVar 0) (eVar 2)))))
def Ye : FF := runF 3 Z39
def Jf : FS :=
  (sIf (Fx.tNot (eTru (eCall Ye [] (aCons (eVar 0) (aCons (eC (.int 0)) (aCons (eVar 1) aNil))))))
      (sRaise "NoDepth" "depth" [] (aCons (eVar 0) aNil))
      sPass)
def X4 : FF := runF 2 Jf
structure Rc_0 where
  tree_at : FF
def Z2i (R : Rc_0) : FE :=
  (eCall R.tree_at [] (aCons (eVar 0) (aCons (eVar 9) (aCons (eBin gSub (eVar 2) (eC (.int 1))) aNil))))
def Z2j (R : Rc_0) : FE :=
  (eTup (aCons (eCall R.tree_at [] (aCons (eVar 0) (aCons (eVar 7) (aCons (eBin gSub (eVar 2) (eC (.int 1))) aNil)))) (aCons (eCall R.tree_at [] (aCons (eVar 0) (aCons (eVar 8) (aCons (eBin gSub (eVar 2) (eC (.int 1))) aNil)))) aNil)))
def Qp (R : Rc_0) : FS :=
  (bCons (sAsg (eBin gIxW (eVar 0) (eVar 1)) (gTp 3 (gsCons (gNm 3) (gsCons (gNm 4) (gsCons (gNm 5) gsNil)))))
    (bCons (sIf (eBl (eBin gEq (eVar 3) (eC (.str [115,99,97,108,97,114]))))
      (sRet (eTup (aCons (eVar 3) (aCons (eVar 4) (aCons (eVar 5) aNil)))))
      sPass)
    (bCons (sIf (eBl (eBin gEq (eVar 2) (eC (.int 0))))
      (sRet (eTup (aCons (eVar 3) (aCons (eVar 4) (aCons (eIf (eBl (eBin gEq (eVar 3) (eC (.str [115,101,113,117,101,110,99,101])))) (eCallB gLen (aCons (eVar 5) aNil)) (eC .non)) aNil)))))
      sPass)
    (bCons (sIf (eBl (eBin gEq (eVar 3) (eC (.str [115,101,113,117,101,110,99,101]))))
      (sRet (eTup (aCons (eVar 3) (aCons (eVar 4) (aCons (eCallB gTuple (aCons (eLc [9] [9] (iAny (eVar 5)) eYes (Z2i R)) aNil)) aNil)))))
      sPass)
    (bCons (sSet 6 (eLc [7,8] [7,8] (iAny (eVar 5)) eYes (Z2j R)))
    (sRet (eTup (aCons (eVar 3) (aCons (eVar 4) (aCons (eCallB gTuple (aCons (eVar 6) aNil)) aNil))))))))))
def stp_0 (R : Rc_0) : Rc_0 := ⟨runF 10 (Qp R)⟩
def Zb0 (n : Nat) : Rc_0 := Nat.rec (motive := fun _ => Rc_0) ⟨fun _ _ => .stuck⟩ (fun _ R => stp_0 R) n
def Z5e : FF := (Zb0 55).tree_at
def Z17 : FE :=
  (eVar 2)
def Z18 : FI :=
  (iAny (eVar 1))
def Z6x : FS :=
  (bCons (sIf (eBl (eBin gEq (eBin gIxW (eVar 0) (eC (.int 0))) (eC (.str [115,99,97,108,97,114]))))
      (sRet (eLst aNil))
      sPass)
    (bCons (sIf (eBl (eBin gEq (eBin gIxW (eVar 0) (eC (.int 0))) (eC (.str [115,101,113,117,101,110,99,101]))))
      (sRet (eCallB gList (aCons (eBin gIxW (eVar 0) (eC (.int 2))) aNil)))
      sPass)
    (sRet (eLc2 [1,2] [1] (iAny (eBin gIxW (eVar 0) (eC (.int 2)))) [2] [2] Z18 Z17))))
def Z19 : FF := runF 3 Z6x
def Z6y : FS :=
  (bCons (sSet 4 (eBM "list" gPop (eVar 3) aNil))
      (sIf (eBl (eBin gNotInW (eVar 4) (eVar 2)))
        (bCons (sAsg (eC (.bl true)) (gSubsW (eVar 2) (eVar 4)))
        (sDrop (eBM "list" gExtend (eVar 3) (aCons (eSlS (eCall Z19 [] (aCons (eBin gIxW (eVar 0) (eVar 4)) aNil)) oNone oNone (oSome (eUn gNeg (eC (.int 1))))) aNil))))
        sPass))
def Zgp : FS :=
  (bCons (sPar [2,3] (aCons eDict0 (aCons (eSlS (eCallB gListW (aCons (eVar 1) aNil)) oNone oNone (oSome (eUn gNeg (eC (.int 1))))) aNil)))
    (bCons (sWhile Lim (eBl (eBin gNeL (eVar 3) (eLst aNil))) Z6y)
    (sRet (eCallB gListW (aCons (eVar 2) aNil)))))
def Zgq : FF := runF 5 Zgp
def Np : FE :=
  (eVar 5)
def Nq : FE :=
  (eC (.int 1))
def Q3 : FE :=
  (eBin gIxW (eVar 3) (eVar 6))
def Nr : FE :=
  (eVar 5)
def Nt : FE :=
  (eBin gAdd (eC (.int 1)) (eCallB gSum (aCons (eLc [6] [6] (iAny (eCall Z19 [] (aCons (eBin gIxW (eFld ["Graph"] "nodes" (eVar 0)) (eVar 5)) aNil))) eYes Q3) aNil)))
def Q4 : FS :=
  (sSet 3 (eDc [5] [5] (iAny (eVar 2)) Nr Nt))
def Wl : FS :=
  (sRet (eBin gIxW (eVar 3) (eFld ["Graph"] "top" (eVar 0))))
def Q5 : FS :=
  (bCons (sFor (iRng (aCons (eVar 1) aNil)) (gNm 4) Q4)
    Wl)
def Q6 : FS :=
  (bCons (sSet 3 (eDc [5] [5] (iAny (eVar 2)) Np Nq))
    Q5)
def Q7 : FS :=
  (bCons (sSet 2 (eCall Zgq [] (aCons (eFld ["Graph"] "nodes" (eVar 0)) (aCons (eLst (aCons (eFld ["Graph"] "top" (eVar 0)) aNil)) aNil))))
    Q6)
def Wm : FS :=
  (bCons (sDrop (eCall X4 [] (aCons (eVar 1) (aCons (eC (.int (100))) aNil))))
    Q7)
def Jg : FS :=
  (bCons (sDrop (eCall Xv [] (aCons (eVar 0) aNil)))
    Wm)
def Y4 : FF := runF 7 Jg
def Z1r : FS :=
  (bCons (sDrop (eCall Xv [] (aCons (eVar 0) aNil)))
    (bCons (sDrop (eCall X4 [] (aCons (eVar 1) (aCons (eC (.int (50))) aNil))))
    (bCons (sIf (eBl (eBin gGtW (eCall Y4 [] (aCons (eVar 0) (aCons (eVar 1) aNil))) (eC (.int (3000)))))
      (sRaise "TooLarge" "limit" [] (aCons (eC (.int (3000))) aNil))
      sPass)
    (sRet (eCall Z5e [] (aCons (eFld ["Graph"] "nodes" (eVar 0)) (aCons (eFld ["Graph"] "top" (eVar 0)) (aCons (eVar 1) aNil))))))))
def Yc : FF := runF 2 Z1r
def Z0b : FE :=
  (eBin gInW (eVar 2) (eVar 1))
def Z2k : FS :=
  (sRet (eAnd (eBin gNe (eVar 0) (eC (.str []))) (eCallB gAll (aCons (eLc [2] [2] (iAny (eVar 0)) eYes Z0b) aNil))))
def Xq : FF := runF 3 Z2k
def Z4g : FS :=
  (bCons (sIf (Fx.tOr (Fx.tNot (eTru (eCallB gIsi (aCons (eVar 0) (aCons (eC (.ty "str")) aNil))))) (Fx.tNot (eTru (eBM "str" gStarts (eVar 0) (aCons (eC (.str [33])) aNil)))))
      (sRet (eC (.bl false)))
      sPass)
    (sRet (eCall Xq [] (aCons (eIf (eTru (eBM "str" gStarts (eVar 0) (aCons (eC (.str [33,33])) aNil))) (eSl (eVar 0) (oSome (eC (.int 2))) oNone) (eSl (eVar 0) (oSome (eC (.int 1))) oNone)) (aCons (eC (.str V9)) aNil)))))
def Z0c : FF := runF 1 Z4g
def Z1a : FE :=
  (eCall Ye [] (aCons (eVar 2) (aCons (eC (.int 0)) (aCons (eBin gSub (eVar 1) (eC (.int 1))) aNil))))
def Z6c : FS :=
  (sRet (eAnd (eCallB gIsi (aCons (eVar 0) (aCons (eC (.ty "tuple")) aNil))) (eAnd (eBin gEq (eCallB gLen (aCons (eVar 0) aNil)) (eC (.int 2))) (eCallB gAll (aCons (eLc [2] [2] (iAny (eVar 0)) eYes Z1a) aNil)))))
def Nu : FF := runF 3 Z6c
def Z2l : FE :=
  (eCall Ye [] (aCons (eVar 5) (aCons (eC (.int 0)) (aCons (eBin gSub (eVar 1) (eC (.int 1))) aNil))))
def Z2m : FE :=
  (eCall Nu [] (aCons (eVar 5) (aCons (eVar 1) aNil)))
def Nv : FS :=
  (bCons (sIf (Fx.tOr (Fx.tNot (eTru (eCallB gIsi (aCons (eVar 0) (aCons (eC (.ty "tuple")) aNil))))) (Fx.tOr (eBl (eBin gNe (eCallB gLen (aCons (eVar 0) aNil)) (eC (.int 3)))) (Fx.tOr (Fx.tNot (eTru (eCallB gIsi (aCons (eBin gIxW (eVar 0) (eC (.int 0))) (aCons (eC (.ty "str")) aNil))))) (Fx.tNot (eTru (eCall Z0c [] (aCons (eBin gIxW (eVar 0) (eC (.int 1))) aNil)))))))
      (sRet (eC (.bl false)))
      sPass)
    (bCons (sAsg (eVar 0) (gTp 3 (gsCons (gNm 2) (gsCons (gNm 3) (gsCons (gNm 4) gsNil)))))
    (bCons (sIf (eBl (eBin gEq (eVar 2) (eC (.str [115,99,97,108,97,114]))))
      (sRet (eCallB gIsi (aCons (eVar 4) (aCons (eC (.ty "str")) aNil))))
      sPass)
    (bCons (sIf (Fx.tOr (eBl (eBin gNotInW (eVar 2) (eTup (aCons (eC (.str [115,101,113,117,101,110,99,101])) (aCons (eC (.str [109,97,112,112,105,110,103])) aNil))))) (Fx.tNot (eTru (eCallB gIsi (aCons (eVar 4) (aCons (eC (.ty "tuple")) aNil))))))
      (sRet (eC (.bl false)))
      sPass)
    (bCons (sIf (eBl (eBin gEq (eVar 2) (eC (.str [115,101,113,117,101,110,99,101]))))
      (sRet (eAnd (eBin gLeW (eCallB gLen (aCons (eVar 4) aNil)) (eC (.int (1000)))) (eCallB gAll (aCons (eLc [5] [5] (iAny (eVar 4)) eYes Z2l) aNil))))
      sPass)
    (sRet (eAnd (eBin gLeW (eBin gMul (eC (.int 2)) (eCallB gLen (aCons (eVar 4) aNil))) (eC (.int (1000)))) (eCallB gAll (aCons (eLc [5] [5] (iAny (eVar 4)) eYes Z2m) aNil)))))))))
def Xw : FF := runF 6 Nv
def Xz : FS :=
  (sIf (Fx.tNot (eTru (eCall Xw [] (aCons (eVar 4) (aCons (eCallB gLen (aCons (eVar 1) aNil)) aNil)))))
        (sRaise "NoGraph" "index" [] (aCons (eVar 3) aNil))
        sPass)
def Z43 : FS :=
  (bCons (sIf (Fx.tOr (Fx.tNot (eTru (eCallB (gIsiI "Graph") (aCons (eVar 1) (aCons (eTup (aCons (eC (.ty "list")) (aCons (eC (.ty "tuple")) aNil))) aNil))))) (Fx.tNot (eBl (eChain gLeW gLeW (eC (.int 1)) (eCallB gLen (aCons (eVar 1) aNil)) (eC (.int (200)))))))
      (sRaise "NoGraph" "index" [] (aCons (eUn gNeg (eC (.int 1))) aNil))
      sPass)
    (bCons (sFor (iEnmA (aCons (eVar 1) aNil)) (gTp 2 (gsCons (gNm 3) (gsCons (gNm 4) gsNil))) Xz)
    (bCons (sIf (Fx.tNot (eTru (eCall Ye [] (aCons (eVar 2) (aCons (eC (.int 0)) (aCons (eBin gSub (eCallB gLen (aCons (eVar 1) aNil)) (eC (.int 1))) aNil))))))
      (sRaise "NoGraph" "index" [] (aCons (eUn gNeg (eC (.int 2))) aNil))
      sPass)
    (sAsg (eTup (aCons (eCallB gTuple (aCons (eVar 1) aNil)) (aCons (eVar 2) aNil))) (gTp 2 (gsCons (gFld ["Graph"] "nodes" (eVar 0)) (gsCons (gFld ["Graph"] "top" (eVar 0)) gsNil)))))))
def Y5 : FF := runF 5 Z43
def Yg (fl : Sto → R Fx.T) (lv : Fx.T) : FS :=
  (sTryH (sRet (eTup (aCons (eC (.str [116,111,108,100])) (aCons (eAsk fl lv 0) aNil)))) xlw [(.nmd "NoDepth" 1 (fun y => (eIf (eTru (eC (.bl true))) (eTup (aCons (eC (.str [100,101,112,116,104])) (aCons (eCallB gReprW (aCons (eXf y "depth") aNil)) aNil))) (eC .non)))),
      (.nmd "TooLarge" 1 (fun y => (eIf (eTru (eC (.bl true))) (eTup (aCons (eC (.str [108,97,114,103,101])) (aCons (eXf y "limit") aNil))) (eC .non))))])
def Zm (fl : Sto → R Fx.T) (lv : Fx.T) : FF := runF 2 (Yg fl lv)
def Va : FS :=
  (sSet 2 (eBin gAdd (eBin gMul (eC (.int 2)) (eVar 2)) (eC (.int 1))))
def Vb : FE :=
  (eTup (aCons (eC (.str [115,101,113,117,101,110,99,101])) (aCons (eC (.str [33,115])) (aCons (eTup (aCons (eBin gAdd (eVar 8) (eC (.int 1))) aNil)) aNil))))
def Vc : FS :=
  (bCons (sIf (Fx.tOr (eBl (eBin gNe (eSl (eVar 5) oNone (oSome (eC (.int 2)))) (eTup (aCons (eC (.str [115,101,113,117,101,110,99,101])) (aCons (eC (.str [33,115])) aNil))))) (eBl (eBin gNe (eCallB gLen (aCons (eBin gIxW (eVar 5) (eC (.int 2))) aNil)) (eC (.int 1)))))
        (sRet (eC (.bl false)))
        sPass)
      (sSet 5 (eBin gIxW (eBin gIxW (eVar 5) (eC (.int 2))) (eC (.int 0)))))
def Xr : FS :=
  (sRet (eAnd (eBin gEq (eVar 5) (eTup (aCons (eC (.str [115,99,97,108,97,114])) (aCons (eC (.str [33,33,115,116,114])) (aCons (eC (.str [101,110,100])) aNil))))) (eBin gEq (eCall Yc [] (aCons (eVar 6) (aCons (eC (.int 0)) aNil))) (eTup (aCons (eC (.str [109,97,112,112,105,110,103])) (aCons (eC (.str [33,33,109,97,112])) (aCons (eC .non) aNil)))))))
def Vd : FS :=
  (bCons (sIf (Fx.tOr (eBl (eBin gNe (eCall Y4 [] (aCons (eVar 6) (aCons (eC (.int 1)) aNil))) (eC (.int 1001)))) (Fx.tOr (eBl (eBin gNe (eCall Y4 [] (aCons (eVar 6) (aCons (eC (.int 2)) aNil))) (eC (.int 2501)))) (eBl (eBin gNe (eCallB gLen (aCons (eBin gIxW (eCall Yc [] (aCons (eVar 6) (aCons (eC (.int 2)) aNil))) (eC (.int 2))) aNil)) (eC (.int 500))))))
      (sRet (eC (.bl false)))
      sPass)
    Xr)
def Ve : FS :=
  (bCons (sSet 6 (eMake "Graph" Y5 [(.int (0))] (aCons (eLst (aCons (eTup (aCons (eC (.str [109,97,112,112,105,110,103])) (aCons (eC (.str [33,33,109,97,112])) (aCons (eBin gMulT (eTup (aCons (eTup (aCons (eC (.int 1)) (aCons (eC (.int 2)) aNil))) aNil)) (eC (.int 500))) aNil)))) (aCons (eTup (aCons (eC (.str [115,99,97,108,97,114])) (aCons (eC (.str [33,33,115,116,114])) (aCons (eC (.str [107])) aNil)))) (aCons (eTup (aCons (eC (.str [115,101,113,117,101,110,99,101])) (aCons (eC (.str [33,33,115,101,113])) (aCons (eTup (aCons (eC (.int 1)) (aCons (eC (.int 1)) (aCons (eC (.int 1)) aNil)))) aNil)))) aNil)))) aNil)))
    Vd)
def Vf : FS :=
  (bCons (sFor (iRng (aCons (eC (.int 50)) aNil)) (gNm 3) Vc)
    Ve)
def Vg : FS :=
  (bCons (sSet 5 (eCall Yc [] (aCons (eMake "Graph" Y5 [(.int (0))] (aCons (eVar 4) aNil)) (aCons (eC (.int 50)) aNil))))
    Vf)
def Vh : FS :=
  (bCons (sSet 4 (eBin gAdd (eLc [8] [8] (iRng (aCons (eC (.int 50)) aNil)) eYes Vb) (eLst (aCons (eTup (aCons (eC (.str [115,99,97,108,97,114])) (aCons (eC (.str [33,33,115,116,114])) (aCons (eC (.str [101,110,100])) aNil)))) aNil))))
    Vg)
def Vi : FS :=
  (bCons (sIf (Fx.tOr (eBl (eBin gNe (eLam Zm (eCall Yc [] (aCons (eVar 7) (aCons (eC (.int 11)) aNil))) aNil) (eTup (aCons (eC (.str [108,97,114,103,101])) (aCons (eC (.int 3000)) aNil))))) (eBl (eBin gNe (eCallB gLen (aCons (eBin gIxW (eCall Yc [] (aCons (eVar 7) (aCons (eC (.int 10)) aNil))) (eC (.int 2))) aNil)) (eC (.int 2)))))
      (sRet (eC (.bl false)))
      sPass)
    Vh)
def Vj : FS :=
  (bCons (sIf (Fx.tOr (eBl (eBin gNe (eCall Y4 [] (aCons (eVar 7) (aCons (eVar 1) aNil))) (eVar 2))) (eBl (eBin gLt (eCall Y4 [] (aCons (eMake "Graph" Y5 [(.int (0))] (aCons (eFld ["Graph"] "nodes" (eVar 7)) aNil)) (aCons (eC (.int 100)) aNil))) (eBin gPow (eC (.int 10)) (eC (.int 30))))))
      (sRet (eC (.bl false)))
      sPass)
    Vi)
def Vk : FS :=
  (bCons (sFor (iRng (aCons (eVar 1) aNil)) (gNm 3) Va)
    Vj)
def Ny : FS :=
  (bCons (sAsg (eTup (aCons (eMake "Graph" Y5 [(.int (0))] (aCons (eLst (aCons (eTup (aCons (eC (.str [115,101,113,117,101,110,99,101])) (aCons (eC (.str [33,33,115,101,113])) (aCons (eTup (aCons (eC (.int 0)) (aCons (eC (.int 0)) aNil))) aNil)))) aNil)) aNil)) (aCons (eCall Zx [] (aCons (eVar 0) (aCons (eC (.int 101)) aNil))) (aCons (eC (.int 1)) aNil)))) (gTp 3 (gsCons (gNm 7) (gsCons (gNm 1) (gsCons (gNm 2) gsNil)))))
    Vk)
def Q8 : FF := runF 9 Ny
def Ug : FS :=
  (bCons (sSet 1 (eTup (aCons (eC (.str [100,101,112,116,104])) (aCons (eCallB gReprW (aCons (eVar 3) aNil)) aNil))))
      (bCons (sIf (eBl (eBin gNe (eLam Zm (eCall Yc [] (aCons (eVar 4) (aCons (eVar 3) aNil))) aNil) (eVar 1)))
        (sRet (eC (.bl false)))
        sPass)
      (sIf (eBl (eBin gNe (eLam Zm (eCallK Y4 Yh (aCons (eVar 4) (aCons (eVar 3) aNil))) aNil) (eVar 1)))
        (sRet (eC (.bl false)))
        sPass)))
def Uh : FS :=
  (sRet (eBin gEq (eLam Zm (eCallK Yc Zw (aCons (eVar 4) (aCons (eVar 2) aNil))) aNil) (eTup (aCons (eC (.str [100,101,112,116,104])) (aCons (eCallB gReprW (aCons (eVar 2) aNil)) aNil)))))
def Ui : FS :=
  (bCons (sSet 2 (eBin gAdd (eC (.int 51)) (eCall Zx [] (aCons (eVar 0) (aCons (eC (.int 50)) aNil)))))
    Uh)
def Uj : FS :=
  (bCons (sFor (iAny (eTup (aCons (eC .non) (aCons (eBin gSub (eC (.int 0)) (eC (.int 1))) (aCons (eC (.int 101)) (aCons (eC (.bl true)) (aCons (eC (.str [49])) (aCons (eLst aNil) (aCons eDict0 (aCons (eTup (aCons (eC (.int 1)) aNil)) (aCons (eBin gPow (eC (.int 10)) (eC (.int 20))) aNil))))))))))) (gNm 3) Ug)
    Ui)
def Z0r : FS :=
  (bCons (sSet 4 (eMake "Graph" Y5 [(.int (0))] (aCons (eLst (aCons (eTup (aCons (eC (.str [115,101,113,117,101,110,99,101])) (aCons (eC (.str [33,33,115,101,113])) (aCons (eTup (aCons (eC (.int 0)) (aCons (eC (.int 0)) aNil))) aNil)))) aNil)) aNil)))
    Uj)
def Qu : FF := runF 5 Z0r
def Xi : FS :=
  (sSet 1 (eBin gAdd (eVar 1) (eLst (aCons (eBin gIxW (eVar 2) (eC (.int 0))) (aCons (eBin gIxW (eVar 2) (eC (.int 1))) aNil)))))
def Uk : FS :=
  (bCons (sIf (eBl (eBin gEq (eBin gIxW (eVar 0) (eC (.int 0))) (eC (.str [115,99,97,108,97,114]))))
      (sRet (eLst aNil))
      sPass)
    (bCons (sIf (eBl (eBin gEq (eBin gIxW (eVar 0) (eC (.int 0))) (eC (.str [115,101,113,117,101,110,99,101]))))
      (sRet (eCallB gList (aCons (eBin gIxW (eVar 0) (eC (.int 2))) aNil)))
      sPass)
    (bCons (sSet 1 (eLst aNil))
    (bCons (sFor (iAny (eBin gIxW (eVar 0) (eC (.int 2)))) (gNm 2) Xi)
    (sRet (eVar 1))))))
def Wn : FF := runF 3 Uk
def N5 : FE :=
  (eBin gIxW (eVar 2) (eVar 5))
def Qm : FE :=
  (eBin gAdd (eC (.int 1)) (eCallB gSum (aCons (eLc [5] [5] (iAny (eCall Wn [] (aCons (eVar 4) aNil))) eYes N5) aNil)))
def N6 : FS :=
  (sSet 2 (eLc [4] [4] (iAny (eVar 0)) eYes Qm))
def Z44 : FS :=
  (bCons (sSet 2 (eBin gMul (eLst (aCons (eC (.int 1)) aNil)) (eCallB gLen (aCons (eVar 0) aNil))))
    (bCons (sFor (iRng (aCons (eVar 1) aNil)) (gNm 3) N6)
    (sRet (eVar 2))))
def Jr : FF := runF 6 Z44
structure Rc_1 where
  _law_tree : FF
def Z0d (R : Rc_1) : FE :=
  (eCall R._law_tree [] (aCons (eVar 0) (aCons (eVar 9) (aCons (eBin gSub (eVar 2) (eC (.int 1))) aNil))))
def Z0e (R : Rc_1) : FS :=
  (sDrop (eBM "list" gAppend (eVar 6) (aCons (eTup (aCons (eCall R._law_tree [] (aCons (eVar 0) (aCons (eVar 7) (aCons (eBin gSub (eVar 2) (eC (.int 1))) aNil)))) (aCons (eCall R._law_tree [] (aCons (eVar 0) (aCons (eVar 8) (aCons (eBin gSub (eVar 2) (eC (.int 1))) aNil)))) aNil))) aNil)))
def We (R : Rc_1) : FS :=
  (bCons (sAsg (eBin gIxW (eVar 0) (eVar 1)) (gTp 3 (gsCons (gNm 3) (gsCons (gNm 4) (gsCons (gNm 5) gsNil)))))
    (bCons (sIf (eBl (eBin gEq (eVar 3) (eC (.str [115,99,97,108,97,114]))))
      (sRet (eTup (aCons (eC (.str [115,99,97,108,97,114])) (aCons (eVar 4) (aCons (eVar 5) aNil)))))
      sPass)
    (bCons (sIf (eBl (eBin gEq (eVar 2) (eC (.int 0))))
      (sRet (eTup (aCons (eVar 3) (aCons (eVar 4) (aCons (eBin gIxW (eDict (pCons (eC (.str [115,101,113,117,101,110,99,101])) (eCallB gLen (aCons (eVar 5) aNil)) (pCons (eC (.str [109,97,112,112,105,110,103])) (eC .non) pNil))) (eVar 3)) aNil)))))
      sPass)
    (bCons (sIf (eBl (eBin gEq (eVar 3) (eC (.str [115,101,113,117,101,110,99,101]))))
      (sRet (eTup (aCons (eC (.str [115,101,113,117,101,110,99,101])) (aCons (eVar 4) (aCons (eCallB gTuple (aCons (eLc [9] [9] (iAny (eVar 5)) eYes (Z0d R)) aNil)) aNil)))))
      sPass)
    (bCons (sSet 6 (eLst aNil))
    (bCons (sFor (iAny (eVar 5)) (gTp 2 (gsCons (gNm 7) (gsCons (gNm 8) gsNil))) (Z0e R))
    (sRet (eTup (aCons (eC (.str [109,97,112,112,105,110,103])) (aCons (eVar 4) (aCons (eCallB gTuple (aCons (eVar 6) aNil)) aNil)))))))))))
def stp_1 (R : Rc_1) : Rc_1 := ⟨runF 10 (We R)⟩
def Zb1 (n : Nat) : Rc_1 := Nat.rec (motive := fun _ => Rc_1) ⟨fun _ _ => .stuck⟩ (fun _ R => stp_1 R) n
def Z2n : FF := (Zb1 55)._law_tree
def Zb2 : FS :=
  (sRet (eAnd (eIsC "Graph" (eVar 1)) (eBin gEq (eTup (aCons (eFld ["Graph"] "nodes" (eVar 0)) (aCons (eFld ["Graph"] "top" (eVar 0)) aNil))) (eTup (aCons (eFld ["Graph"] "nodes" (eVar 1)) (aCons (eFld ["Graph"] "top" (eVar 1)) aNil))))))
def Zb3 : FF := runF 2 Zb2
def Qv : FS :=
  (sRet (eBin gEqQ (eVar 4) (eTup (aCons (eC (.str [116,111,108,100])) (aCons (eCall Z2n [] (aCons (eVar 0) (aCons (eVar 1) (aCons (eVar 2) aNil)))) aNil)))))
def Wu : FS :=
  (bCons (sIf (eBl (eBin gGtW (eVar 3) (eC (.int 3000))))
      (sRet (eBin gEqQ (eVar 4) (eTup (aCons (eC (.str [108,97,114,103,101])) (aCons (eC (.int 3000)) aNil)))))
      sPass)
    Qv)
def Yn : FS :=
  (bCons (sIf (eBl (eBin gGtW (eVar 2) (eC (.int 50))))
      (sRet (eBin gEqQ (eVar 4) (eTup (aCons (eC (.str [100,101,112,116,104])) (aCons (eCallB gReprW (aCons (eVar 2) aNil)) aNil)))))
      sPass)
    Wu)
def Wv : FS :=
  (bCons (sSet 4 (eLam Zm (eCall Yc [] (aCons (eVar 5) (aCons (eVar 2) aNil))) aNil))
    Yn)
def Ww : FS :=
  (bCons (sIf (eBl (eBin gNe (eLam Zm (eCall Y4 [] (aCons (eVar 5) (aCons (eVar 2) aNil))) aNil) (eTup (aCons (eC (.str [116,111,108,100])) (aCons (eVar 3) aNil)))))
      (sRet (eC (.bl false)))
      sPass)
    Wv)
def Jt : FS :=
  (bCons (sAsg (eTup (aCons (eMake "Graph" Y5 [] (aCons (eVar 0) (aCons (eVar 1) aNil))) (aCons (eBin gIxW (eCall Jr [] (aCons (eVar 0) (aCons (eVar 2) aNil))) (eVar 1)) aNil))) (gTp 2 (gsCons (gNm 5) (gsCons (gNm 3) gsNil))))
    Ww)
def Ul : FF := runF 6 Jt
def Z90 : FS :=
  (sIf (Fx.tNot (eTru (eCall Ul [] (aCons (eVar 4) (aCons (eVar 5) (aCons (eVar 6) aNil))))))
            (sRet (eC (.bl false)))
            sPass)
def Z6z : FS :=
  (sFor (iAny (eLst (aCons (eC (.int 0)) (aCons (eC (.int 1)) (aCons (eC (.int 2)) (aCons (eBin gAdd (eC (.int 3)) (eCall Zx [] (aCons (eVar 2) (aCons (eC (.int 5)) aNil)))) (aCons (eCall Zx [] (aCons (eVar 2) (aCons (eC (.int 101)) aNil))) aNil))))))) (gNm 6) Z90)
def Z5f : FS :=
  (bCons (sSet 2 (eCall Z07 [] (aCons (eVar 1) aNil)))
      (bCons (sSet 3 (eBin gAdd (eC (.int 1)) (eCall Zx [] (aCons (eVar 2) (aCons (eC (.int 8)) aNil)))))
      (bCons (sSet 4 (eCall Jq [] (aCons (eVar 2) (aCons (eVar 3) aNil))))
      (bCons (sFor (iRng (aCons (eVar 3) aNil)) (gNm 5) Z6z)
      (sIf (Fx.tOr (Fx.tNot (eTru (eCall Q8 [] (aCons (eVar 2) aNil)))) (Fx.tNot (eTru (eCall Qu [] (aCons (eVar 2) aNil)))))
        (sRet (eC (.bl false)))
        sPass)))))
def Zco : FS :=
  (sRet (eC (.bl true)))
def Zik : FS :=
  (bCons (sFor (iAny (eBin gAdd (eSl (eVar 0) oNone (oSome (eC (.int 5)))) (eLst (aCons (eC (.int 0)) aNil)))) (gNm 1) Z5f)
    Zco)
def Zgr : FF := runF 7 Zik
end
end Ap
set_option maxHeartbeats 4000000
namespace Ap
open PySem PySem.Spec PyProof.Rows L2 SX Fx
section
variable [Tb] {w : World} {K : PySem.W.Frag} {mg : PySem.Str → Option Value} (C : Cx5 fns tabs exs w K mg)
include C
theorem Z1b  : FunD K "_law_well" "_law_well" (defArgs V6) (defBody V6) (defScope V6) [] [] ((gY "_law_well") K) (fdOf K ((gY "_law_well") K)) := C.c.def_ 0 (d := Z3x)
theorem Z80  : Binds K (fdOf K ((gY "_law_well") K)) Z2a [] := FunD.bindsN (Z1b C) fun _ _ _ _ _ _ us hl => match us, hl with | [_], _ => rfl
theorem Y6  : FunD K "_law_draw" "_law_draw" (defArgs V7) (defBody V7) (defScope V7) [] [] ((gY "_law_draw") K) (fdOf K ((gY "_law_draw") K)) := C.c.def_ 1 (d := Z3y)
theorem Yi  : Binds K (fdOf K ((gY "_law_draw") K)) Z2b [] := FunD.bindsN (Y6 C) fun _ _ _ _ _ _ us hl => match us, hl with | [_, _], _ => rfl
theorem Vl  : FunD K "_law_one" "_law_one" (defArgs Us) (defBody Us) (defScope Us) [] [] ((gY "_law_one") K) (fdOf K ((gY "_law_one") K)) := C.c.def_ 2 (d := Z4q)
theorem Jh  : Binds K (fdOf K ((gY "_law_one") K)) Z3j [] := FunD.bindsN (Vl C) fun _ _ _ _ _ _ us hl => match us, hl with | [_, _], _ => rfl
theorem Z1c  : FunD K "_law_node" "_law_node" (defArgs Xn) (defBody Xn) (defScope Xn) [] [] ((gY "_law_node") K) (fdOf K ((gY "_law_node") K)) := C.c.def_ 3 (d := Z3z)
theorem Z81  : Binds K (fdOf K ((gY "_law_node") K)) Z2d [] := FunD.bindsN (Z1c C) fun _ _ _ _ _ _ us hl => match us, hl with | [_, _], _ => rfl
theorem Z0f  : FunD K "_law_nodes" "_law_nodes" (defArgs W7) (defBody W7) (defScope W7) [] [] ((gY "_law_nodes") K) (fdOf K ((gY "_law_nodes") K)) := C.c.def_ 4 (d := Z34)
theorem Z70  : Binds K (fdOf K ((gY "_law_nodes") K)) Z10 [] := FunD.bindsN (Z0f C) fun _ _ _ _ _ _ us hl => match us, hl with | [_, _], _ => rfl
theorem Z1d  : FunD K "__init__" "NoGraph.__init__" (defArgs Xd) (defBody Xd) (defScope Xd) [.non] [] ((mY "NoGraph" "__init__") K) (fdOf K ((mY "NoGraph" "__init__") K)) := C.c.def_ 5 (d := Z11)
theorem Nz  : ∃ ds, Vals (List.drop 1 [.non]) ds ∧ Binds K (fdOf K ((mY "NoGraph" "__init__") K)) Qh ds := FunD.binds1 (Z1d C) (ps := Qh) 2 1 (by simp) rfl fun _ _ _ _ _ _ _ us its hu hi => match us, its, hu, hi with | [_, _], [_], _, _ => ⟨_, rfl, rfl⟩
theorem Q9  : FunD K "require_graphs" "require_graphs" (defArgs Yu) (defBody Yu) (defScope Yu) [] [] ((gY "require_graphs") K) (fdOf K ((gY "require_graphs") K)) := C.c.def_ 6 (d := Nh)
theorem J5  : FunD K "is_from" "is_from" (defArgs Jc) (defBody Jc) (defScope Jc) [] [] ((gY "is_from") K) (fdOf K ((gY "is_from") K)) := C.c.def_ 7 (d := Z63)
theorem Z1s  : Binds K (fdOf K ((gY "is_from") K)) Z4s [] := FunD.bindsN (J5 C) fun _ _ _ _ _ _ us hl => match us, hl with | [_, _, _], _ => rfl
theorem Z1e  : FunD K "__init__" "NoDepth.__init__" (defArgs Xe) (defBody Xe) (defScope Xe) [.non] [] ((mY "NoDepth" "__init__") K) (fdOf K ((mY "NoDepth" "__init__") K)) := C.c.def_ 8 (d := Z12)
theorem Z3p  : ∃ ds, Vals (List.drop 1 [.non]) ds ∧ Binds K (fdOf K ((mY "NoDepth" "__init__") K)) Qi ds := FunD.binds1 (Z1e C) (ps := Qi) 2 1 (by simp) rfl fun _ _ _ _ _ _ _ us its hu hi => match us, its, hu, hi with | [_, _], [_], _, _ => ⟨_, rfl, rfl⟩
theorem V4  : FunD K "require_depth" "require_depth" (defArgs Yz) (defBody Yz) (defScope Yz) [] [] ((gY "require_depth") K) (fdOf K ((gY "require_depth") K)) := C.c.def_ 9 (d := Z0n)
theorem Z0s  : Binds K (fdOf K ((gY "require_depth") K)) Jd [] := FunD.bindsN (V4 C) fun _ _ _ _ _ _ us hl => match us, hl with | [_, _], _ => rfl
theorem J8  : FunD K "tree_at" "tree_at" (defArgs U6) (defBody U6) (defScope U6) [] [] ((gY "tree_at") K) (fdOf K ((gY "tree_at") K)) := C.c.def_ 10 (d := Z64)
theorem Z1t  : Binds K (fdOf K ((gY "tree_at") K)) Nk [] := FunD.bindsN (J8 C) fun _ _ _ _ _ _ us hl => match us, hl with | [_, _, _], _ => rfl
theorem Z4h  : FunD K "inner" "inner" (defArgs Z13) (defBody Z13) (defScope Z13) [] [] ((gY "inner") K) (fdOf K ((gY "inner") K)) := C.c.def_ 11 (d := Z9v)
theorem Za5  : Binds K (fdOf K ((gY "inner") K)) Z8s [] := FunD.bindsN (Z4h C) fun _ _ _ _ _ _ us hl => match us, hl with | [_], _ => rfl
theorem Zcp  : FunD K "met" "met" (defArgs Z8t) (defBody Z8t) (defScope Z8t) [] [] ((gY "met") K) (fdOf K ((gY "met") K)) := C.c.def_ 12 (d := Zf3)
theorem Zil  : Binds K (fdOf K ((gY "met") K)) Zgc [] := FunD.bindsN (Zcp C) fun _ _ _ _ _ _ us hl => match us, hl with | [_, _], _ => rfl
theorem Y7  : FunD K "unfolded_size" "unfolded_size" (defArgs Ym) (defBody Ym) (defScope Ym) [] [] ((gY "unfolded_size") K) (fdOf K ((gY "unfolded_size") K)) := C.c.def_ 13 (d := Z0o)
theorem Xa  : Binds K (fdOf K ((gY "unfolded_size") K)) U7 [] := FunD.bindsN (Y7 C) fun _ _ _ _ _ _ us hl => match us, hl with | [_, _], _ => rfl
theorem Z0t  : FunD K "__init__" "TooLarge.__init__" (defArgs X3) (defBody X3) (defScope X3) [.non] [] ((mY "TooLarge" "__init__") K) (fdOf K ((mY "TooLarge" "__init__") K)) := C.c.def_ 14 (d := Z0p)
theorem Z3a  : ∃ ds, Vals (List.drop 1 [.non]) ds ∧ Binds K (fdOf K ((mY "TooLarge" "__init__") K)) U8 ds := FunD.binds1 (Z0t C) (ps := U8) 2 1 (by simp) rfl fun _ _ _ _ _ _ _ us its hu hi => match us, its, hu, hi with | [_, _], [_], _, _ => ⟨_, rfl, rfl⟩
theorem X5  : FunD K "unfolded" "unfolded" (defArgs Ut) (defBody Ut) (defScope Ut) [] [] ((gY "unfolded") K) (fdOf K ((gY "unfolded") K)) := C.c.def_ 15 (d := Z4x)
theorem Vm  : Binds K (fdOf K ((gY "unfolded") K)) Z1p [] := FunD.bindsN (X5 C) fun _ _ _ _ _ _ us hl => match us, hl with | [_, _], _ => rfl
theorem Z1f  : FunD K "are_signs" "are_signs" (defArgs W9) (defBody W9) (defScope W9) [] [] ((gY "are_signs") K) (fdOf K ((gY "are_signs") K)) := C.c.def_ 16 (d := Z40)
theorem Z82  : Binds K (fdOf K ((gY "are_signs") K)) Z2e [] := FunD.bindsN (Z1f C) fun _ _ _ _ _ _ us hl => match us, hl with | [_, _], _ => rfl
theorem Z5g  : FunD K "is_tag" "is_tag" (defArgs Z03) (defBody Z03) (defScope Z03) [] [] ((gY "is_tag") K) (fdOf K ((gY "is_tag") K)) := C.c.def_ 17 (d := Z7q)
theorem Zcq  : Binds K (fdOf K ((gY "is_tag") K)) Z6u [] := FunD.bindsN (Z5g C) fun _ _ _ _ _ _ us hl => match us, hl with | [_], _ => rfl
theorem Z2o  : FunD K "is_entry" "is_entry" (defArgs Vr) (defBody Vr) (defScope Vr) [] [] ((gY "is_entry") K) (fdOf K ((gY "is_entry") K)) := C.c.def_ 18 (d := Z4z)
theorem Z91  : Binds K (fdOf K ((gY "is_entry") K)) Z3k [] := FunD.bindsN (Z2o C) fun _ _ _ _ _ _ us hl => match us, hl with | [_, _], _ => rfl
theorem Z3q  : FunD K "is_node" "is_node" (defArgs U9) (defBody U9) (defScope U9) [] [] ((gY "is_node") K) (fdOf K ((gY "is_node") K)) := C.c.def_ 19 (d := Z66)
theorem Zb4  : Binds K (fdOf K ((gY "is_node") K)) Z51 [] := FunD.bindsN (Z3q C) fun _ _ _ _ _ _ us hl => match us, hl with | [_, _], _ => rfl
theorem Z0g  : FunD K "__init__" "Graph.__init__" (defArgs Wb) (defBody Wb) (defScope Wb) [(.int 0)] [] ((mY "Graph" "__init__") K) (fdOf K ((mY "Graph" "__init__") K)) := C.c.def_ 20 (d := Z35)
theorem Z1g  : ∃ ds, Vals (List.drop 0 [(.int 0)]) ds ∧ Binds K (fdOf K ((mY "Graph" "__init__") K)) Vt ds := FunD.binds1 (Z0g C) (ps := Vt) 2 0 (by simp) rfl fun _ _ _ _ _ _ _ us its hu hi => match us, its, hu, hi with | [_, _], [_], _, _ => ⟨_, rfl, rfl⟩
theorem Z5h  : ∃ ds, Vals (List.drop 1 [(.int 0)]) ds ∧ Binds K (fdOf K ((mY "Graph" "__init__") K)) Vt ds := FunD.binds1 (Z0g C) (ps := Vt) 3 1 (by simp) rfl fun _ _ _ _ _ _ _ us its hu hi => match us, its, hu, hi with | [_, _, _], [_], _, _ => ⟨_, rfl, rfl⟩
theorem Wf  : FunD K "_law_said" "_law_said" (defArgs Yv) (defBody Yv) (defScope Yv) [] [] ((gY "_law_said") K) (fdOf K ((gY "_law_said") K)) := C.c.def_ 21 (d := Z41)
theorem Vu  : Binds K (fdOf K ((gY "_law_said") K)) Z52 [] := FunD.bindsN (Wf C) fun _ _ _ _ _ _ us hl => match us, hl with | [_], _ => rfl
theorem Um  : FunD K "_law_hand_right" "_law_hand_right" (defArgs Zr) (defBody Zr) (defScope Zr) [] [] ((gY "_law_hand_right") K) (fdOf K ((gY "_law_hand_right") K)) := C.c.def_ 22 (d := Jo)
theorem Z3b  : Binds K (fdOf K ((gY "_law_hand_right") K)) Uv [] := FunD.bindsN (Um C) fun _ _ _ _ _ _ us hl => match us, hl with | [_], _ => rfl
theorem Qa  : FunD K "_law_odd_right" "_law_odd_right" (defArgs Zt) (defBody Zt) (defScope Zt) [] [] ((gY "_law_odd_right") K) (fdOf K ((gY "_law_odd_right") K)) := C.c.def_ 23 (d := Nm)
theorem Z3r  : Binds K (fdOf K ((gY "_law_odd_right") K)) Qt [] := FunD.bindsN (Qa C) fun _ _ _ _ _ _ us hl => match us, hl with | [_], _ => rfl
theorem N7  : FunD K "_law_within" "_law_within" (defArgs Xo) (defBody Xo) (defScope Xo) [] [] ((gY "_law_within") K) (fdOf K ((gY "_law_within") K)) := C.c.def_ 24 (d := Z25)
theorem Z5w  : Binds K (fdOf K ((gY "_law_within") K)) Z06 [] := FunD.bindsN (N7 C) fun _ _ _ _ _ _ us hl => match us, hl with | [_], _ => rfl
theorem Z0h  : FunD K "_law_sizes" "_law_sizes" (defArgs Xl) (defBody Xl) (defScope Xl) [] [] ((gY "_law_sizes") K) (fdOf K ((gY "_law_sizes") K)) := C.c.def_ 25 (d := Z36)
theorem Z71  : Binds K (fdOf K ((gY "_law_sizes") K)) Z15 [] := FunD.bindsN (Z0h C) fun _ _ _ _ _ _ us hl => match us, hl with | [_, _], _ => rfl
theorem Vv  : FunD K "_law_tree" "_law_tree" (defArgs Wd) (defBody Wd) (defScope Wd) [] [] ((gY "_law_tree") K) (fdOf K ((gY "_law_tree") K)) := C.c.def_ 26 (d := Z42)
theorem Ju  : Binds K (fdOf K ((gY "_law_tree") K)) Uw [] := FunD.bindsN (Vv C) fun _ _ _ _ _ _ us hl => match us, hl with | [_, _, _], _ => rfl
theorem Z92  : FunD K "__eq__" "Graph.__eq__" (defArgs Ux) (defBody Ux) (defScope Ux) [] [] ((mY "Graph" "__eq__") K) (fdOf K ((mY "Graph" "__eq__") K)) := C.c.def_ 27 (d := Z54)
theorem Vn  : FunD K "_law_depth_right" "_law_depth_right" (defArgs Zq) (defBody Zq) (defScope Zq) [] [] ((gY "_law_depth_right") K) (fdOf K ((gY "_law_depth_right") K)) := C.c.def_ 28 (d := Je)
theorem Z2p  : Binds K (fdOf K ((gY "_law_depth_right") K)) Ub [] := FunD.bindsN (Vn C) fun _ _ _ _ _ _ us hl => match us, hl with | [_, _, _], _ => rfl
theorem Zf8  : FunD K "law" "law" (defArgs Z8w) (defBody Z8w) (defScope Z8w) [] [] ((gY "law") K) (fdOf K ((gY "law") K)) := C.c.def_ 29 (d := Zf4)
def Y0 (us ws : List Value) : List Value := match us,ws with
  | [],[x_graph,x_depth] => [x_graph,x_depth]
  | _,_ => []
def Xx (us ws : List V) : List V := match us,ws with
  | [],[x_graph,x_depth] => [x_graph,x_depth]
  | _,_ => []
theorem Qx : KBinds K (fdOf K ((gY "unfolded_size") K)) U7 ["graph", "depth"] Y0 Xx := by
  obtain ⟨oc,od,dV,kV,doc,pm,an,cdv,ct,osl,e,lk,hcd,hD,_⟩ := (Y7 C).ex
  rcases hD with ⟨_,rfl⟩ | ⟨e2,_⟩
  case inr => exact absurd rfl e2
  rw [e]
  refine ⟨fun s us ws X hl => ?_,fun {vs us zs ws} r1 r2 => ?_⟩
  · match us,ws,hl with
    | [],[x_graph,x_depth],_ => exact .of_eq rfl
    | [],[],h => exact absurd h (by simp [Y0])
    | [],[_],h => exact absurd h (by simp [Y0])
    | [],_ :: _ :: _ :: _,h => exact absurd h (by simp [Y0])
    | _ :: _,_,h => exact absurd h (by simp [Y0])
  · cases r1 with
    | cons a b => cases r2 <;> exact .nil
    | nil =>
      cases r2 with
      | nil => exact .nil
      | cons r10 r2 =>
        cases r2 with
        | nil => exact .nil
        | cons r11 r2 =>
          cases r2 with
          | cons _ _ => exact .nil
          | nil => exact (.cons r10 (.cons r11 .nil))
omit C in
theorem Qy {K : PySem.W.Frag} (ι : List Addr) (H : Hp) (zs : List V) (ts : List Fx.T) (r : Reps K ι H zs ts) (h : ts.length = 2) : Reps K ι H (Xx [] zs) (Yh ts) ∧ (Yh ts).length = 2 := by
  match ts,h with
  | [t0,t1],_ =>
    cases r with | cons r0 r =>
    cases r with | cons r1 r =>
    cases r with | nil =>
    exact ⟨(.cons r0 (.cons r1 .nil)),rfl⟩
def Yj (us ws : List Value) : List Value := match us,ws with
  | [],[x_graph,x_depth] => [x_graph,x_depth]
  | _,_ => []
def Vw (us ws : List V) : List V := match us,ws with
  | [],[x_graph,x_depth] => [x_graph,x_depth]
  | _,_ => []
theorem Z0i : KBinds K (fdOf K ((gY "unfolded") K)) Z1p ["graph", "depth"] Yj Vw := by
  obtain ⟨oc,od,dV,kV,doc,pm,an,cdv,ct,osl,e,lk,hcd,hD,_⟩ := (X5 C).ex
  rcases hD with ⟨_,rfl⟩ | ⟨e2,_⟩
  case inr => exact absurd rfl e2
  rw [e]
  refine ⟨fun s us ws X hl => ?_,fun {vs us zs ws} r1 r2 => ?_⟩
  · match us,ws,hl with
    | [],[x_graph,x_depth],_ => exact .of_eq rfl
    | [],[],h => exact absurd h (by simp [Yj])
    | [],[_],h => exact absurd h (by simp [Yj])
    | [],_ :: _ :: _ :: _,h => exact absurd h (by simp [Yj])
    | _ :: _,_,h => exact absurd h (by simp [Yj])
  · cases r1 with
    | cons a b => cases r2 <;> exact .nil
    | nil =>
      cases r2 with
      | nil => exact .nil
      | cons r10 r2 =>
        cases r2 with
        | nil => exact .nil
        | cons r11 r2 =>
          cases r2 with
          | cons _ _ => exact .nil
          | nil => exact (.cons r10 (.cons r11 .nil))
omit C in
theorem Z0j {K : PySem.W.Frag} (ι : List Addr) (H : Hp) (zs : List V) (ts : List Fx.T) (r : Reps K ι H zs ts) (h : ts.length = 2) : Reps K ι H (Vw [] zs) (Zw ts) ∧ (Zw ts).length = 2 := by
  match ts,h with
  | [t0,t1],_ =>
    cases r with | cons r0 r =>
    cases r with | cons r1 r =>
    cases r with | nil =>
    exact ⟨(.cons r0 (.cons r1 .nil)),rfl⟩
theorem Z72  : ∃ t, mg "MOST_DEPTH" = some (.int (100) t) := C.int 3
theorem Z4c  : ∃ t, mg "MOST_UNFOLDED" = some (.int (50) t) := C.int 4
theorem Z73  : ∃ t, mg "MOST_TREES" = some (.int (3000) t) := C.int 5
theorem Z83  : ∃ t, mg "TAG_SIGNS" = some (.str (S V9) t) := C.str 6
theorem Z5i  : ∃ t, mg "MOST_NUMBERS" = some (.int (1000) t) := C.int 7
theorem Z74  : ∃ t, mg "MOST_NODES" = some (.int (200) t) := C.int 8
theorem Yr  : CF K "Graph" (He.ga K "Graph") := ⟨C.ns 9, He.cls_ok (C.c.fact 10)⟩
theorem Z1u  : Mk K (He.ga K "Graph") (mY "Graph" "__init__" K) := He.mkr_ok (C.c.fact 11)
theorem Xf  : NoAttr K (He.ga K "Graph") "nodes" := He.noat_ok (C.c.fact 12)
theorem Vx  : NoAttr K (He.ga K "Graph") "top" := He.noat_ok (C.c.fact 13)
theorem Zea  : PySem.W.kitAny K (.ref (He.ga K "Graph")) [.type "list", .type "tuple"] = some false := Ze3 (C.c.fact 14)
theorem Z75  : OC K "Graph" (He.ga K "Graph") (mY "Graph" "__eq__" K) := by
  obtain ⟨h1, h⟩ := He.ba (C.c.fact 16 : eqB5 "Graph" K = true)
  obtain ⟨h2,h⟩ := He.ba h
  obtain ⟨h3,h4⟩ := He.ba h
  exact ⟨Yr C,Zg7 (Yr C).cls (C.c.fact 17),He.eqO_ok h1,h2,h3,h4⟩
theorem J9  : PySem.W.nsIn K mainGlobals "NoGraph" = some (some (.ref (He.ga K "NoGraph"))) := C.ns 18
theorem Qc  : OexC K (He.ga K "NoGraph") := Z8m (C.c.fact 19)
theorem Zb5  : PySem.W.findIn K (.ref (He.ga K "NoGraph")) "index" = some none := He.noat_ok (C.c.fact 21)
theorem Vy  : PySem.W.findIn K (.ref (He.ga K "NoGraph")) "__init__" = some (some (.ref (mY "NoGraph" "__init__" K))) ∧ PySem.W.typeIn K (.ref (mY "NoGraph" "__init__" K)) = some (.type "function") := Z6t (C.c.fact 22)
theorem Wo  : PySem.W.nsIn K mainGlobals "NoDepth" = some (some (.ref (He.ga K "NoDepth"))) := C.ns 26
theorem Z2q  : OexC K (He.ga K "NoDepth") := Z8m (C.c.fact 27)
theorem Z5j  : XfC K (He.ga K "NoDepth") ∧ ExcC K (He.ga K "NoDepth") := Zbw (C.c.fact 28)
theorem Z6d  : PySem.W.findIn K (.ref (He.ga K "NoDepth")) "depth" = some none := He.noat_ok (C.c.fact 29)
theorem Z6e  : PySem.W.findIn K (.ref (He.ga K "NoDepth")) "__init__" = some (some (.ref (mY "NoDepth" "__init__" K))) ∧ PySem.W.typeIn K (.ref (mY "NoDepth" "__init__" K)) = some (.type "function") := Z6t (C.c.fact 30)
theorem Zb6  : PySem.W.kitOne K (.ref (He.ga K "NoDepth")) (.ref (He.ga K "PageError")) = some true := Z9q (v := fun K => .ref (He.ga K "PageError")) (C.c.fact 32)
theorem Xu  : PySem.W.nsIn K mainGlobals "TooLarge" = some (some (.ref (He.ga K "TooLarge"))) := C.ns 34
theorem Z1h  : OexC K (He.ga K "TooLarge") := Z8m (C.c.fact 35)
theorem Z45  : XfC K (He.ga K "TooLarge") ∧ ExcC K (He.ga K "TooLarge") := Zbw (C.c.fact 36)
theorem Z5k  : PySem.W.findIn K (.ref (He.ga K "TooLarge")) "limit" = some none := He.noat_ok (C.c.fact 37)
theorem Z5l  : PySem.W.findIn K (.ref (He.ga K "TooLarge")) "__init__" = some (some (.ref (mY "TooLarge" "__init__" K))) ∧ PySem.W.typeIn K (.ref (mY "TooLarge" "__init__" K)) = some (.type "function") := Z6t (C.c.fact 38)
theorem Z93  : PySem.W.kitOne K (.ref (He.ga K "TooLarge")) (.ref (He.ga K "PageError")) = some true := Z9q (v := fun K => .ref (He.ga K "PageError")) (C.c.fact 40)
theorem xt_ : XT K xlw := by
  intro p hp
  simp only [xlw,xlq,List.map_cons,List.map_nil,List.mem_cons,List.not_mem_nil,or_false] at hp
  rcases hp with rfl | rfl | rfl | rfl | rfl | rfl
  · exact ⟨_,_,J9 C,Wo C,He.exm_ok (C.c.fact 42)⟩
  · exact ⟨_,_,J9 C,Xu C,He.exm_ok (C.c.fact 43)⟩
  · exact ⟨_,_,Wo C,Wo C,He.exm_ok (C.c.fact 31)⟩
  · exact ⟨_,_,Wo C,Xu C,He.exm_ok (C.c.fact 44)⟩
  · exact ⟨_,_,Xu C,Wo C,He.exm_ok (C.c.fact 45)⟩
  · exact ⟨_,_,Xu C,Xu C,He.exm_ok (C.c.fact 39)⟩
theorem bs_  : BaseC K (He.ga K "PageError") := Ze0 (C.c.fact 46)
theorem nd_  : NoDig K := Zbx (C.c.fact 47)
theorem Yk  : mg "_law_draw" = some (.ref (He.ga K "_law_draw")) := C.glo 48
theorem Ji  : mg "_law_one" = some (.ref (He.ga K "_law_one")) := C.glo 49
theorem Z84  : mg "_law_node" = some (.ref (He.ga K "_law_node")) := C.glo 50
theorem Jv  : mg "Graph" = some (.ref (He.ga K "Graph")) := C.glo 9
theorem Z1v  : mg "NoGraph" = some (.ref (He.ga K "NoGraph")) := C.glo 18
theorem Z1w  : mg "is_from" = some (.ref (He.ga K "is_from")) := C.glo 51
theorem Z6f  : mg "NoDepth" = some (.ref (He.ga K "NoDepth")) := C.glo 26
theorem Z1x  : mg "tree_at" = some (.ref (He.ga K "tree_at")) := C.glo 52
theorem Za6  : mg "inner" = some (.ref (He.ga K "inner")) := C.glo 53
theorem Z00  : mg "require_graphs" = some (.ref (He.ga K "require_graphs")) := C.glo 54
theorem Z0u  : mg "require_depth" = some (.ref (He.ga K "require_depth")) := C.glo 55
theorem Zim  : mg "met" = some (.ref (He.ga K "met")) := C.glo 56
theorem Yw  : mg "unfolded_size" = some (.ref (He.ga K "unfolded_size")) := C.glo 57
theorem Z5m  : mg "TooLarge" = some (.ref (He.ga K "TooLarge")) := C.glo 34
theorem Z85  : mg "are_signs" = some (.ref (He.ga K "are_signs")) := C.glo 58
theorem Zcr  : mg "is_tag" = some (.ref (He.ga K "is_tag")) := C.glo 59
theorem Z94  : mg "is_entry" = some (.ref (He.ga K "is_entry")) := C.glo 60
theorem Zb7  : mg "is_node" = some (.ref (He.ga K "is_node")) := C.glo 61
theorem Qq  : mg "PageError" = some (.ref (He.ga K "PageError")) := C.glo 62
theorem Wg  : mg "unfolded" = some (.ref (He.ga K "unfolded")) := C.glo 63
theorem Vz  : mg "_law_said" = some (.ref (He.ga K "_law_said")) := C.glo 64
theorem Z5x  : mg "_law_within" = some (.ref (He.ga K "_law_within")) := C.glo 65
theorem Jw  : mg "_law_tree" = some (.ref (He.ga K "_law_tree")) := C.glo 66
theorem Z76  : mg "_law_sizes" = some (.ref (He.ga K "_law_sizes")) := C.glo 67
theorem Z86  : mg "_law_well" = some (.ref (He.ga K "_law_well")) := C.glo 68
theorem Z77  : mg "_law_nodes" = some (.ref (He.ga K "_law_nodes")) := C.glo 69
theorem Z2r  : mg "_law_depth_right" = some (.ref (He.ga K "_law_depth_right")) := C.glo 70
theorem Z3s  : mg "_law_odd_right" = some (.ref (He.ga K "_law_odd_right")) := C.glo 71
theorem Z3c  : mg "_law_hand_right" = some (.ref (He.ga K "_law_hand_right")) := C.glo 72
theorem Zin  : mg "law" = some (.ref (He.ga K "law")) := C.glo 73
theorem Z46  : mg "int" = none := C.free 74
theorem Jx  : mg "len" = none := C.free 75
theorem Qz  : mg "range" = none := C.free 76
theorem Uo  : mg "tuple" = none := C.free 77
theorem Yd  : mg "isinstance" = none := C.free 78
theorem Zgs  : mg "bool" = none := C.free 79
theorem Z5n  : mg "list" = none := C.free 80
theorem Zf9  : mg "sum" = none := C.free 81
theorem fr_all  : mg "all" = none := C.free 82
theorem Zcs  : mg "str" = none := C.free 83
theorem Z87  : mg "enumerate" = none := C.free 84
theorem Z78  : mg "repr" = none := C.free 85
end
section
variable {P : Program} {base : Heap}
variable [Tb] {w : World} {K : PySem.W.Frag} {mg : PySem.Str → Option Value} (C : Cx5 fns tabs exs w K mg) (B : LmY mks base mg K)
include C B
theorem Z88 : GT P w K mg base 1 (gY "_law_well") Z2a 1 Z07 := by
  refine fnFD (Z1b C) Z7o fun cdv A outer s H E hr hG => ?_
  exact (Zj (Zy (Jj (Za (f_op Z7h (Zf (pv 0)) (X8 (Z4o (nd_ C)) (by rfl) (Z46 C) (by decide +kernel) (Za (Z26 o_geW (Zf (pv 0)) (f_op Zft f_int f_int) (nomark _)) Zg))) (Za (f_op Zal (X8 (Z4o (nd_ C)) (by rfl) (Z46 C) (by decide +kernel) (Za (Zf (pv 0)) Zg)) f_int) (Za f_int Zg))) (Z6 (Z6 (Z6 Zb))))))
theorem U0 : GT P w K mg base 1 (gY "_law_draw") Z2b 2 Zx := by
  refine fnFD (Y6 C) Jm fun cdv A outer s H E hr hG => ?_
  exact (Zh (W4 (Ys Ze2 (f_ix (Wh hr.units rfl) (Zf (pv 0)) f_int (fun _ _ => rfl)) f_int (nomark _))
      (Zh (Xg (i := 2) Jm.nd rfl (Or.inl rfl) (f_op Zal (X8 (Z4o (nd_ C)) (by rfl) (Z46 C) (by decide +kernel) (Za (f_ix (Wh hr.units rfl) (Zf (pv 0)) f_int (fun _ _ => rfl)) Zg)) (Zf (pv 1))))
      (Zh (Z2y (f_op Zdm (f_ix (Wh hr.units rfl) (Zf (pv 0)) f_int (fun _ _ => rfl)) (Zf (pv 1))) (Z8o hr.units (Zf (pv 0)) f_int))
      (Zj (Zy (Zf (pv 2))))))
      Yq)
    (Zh (Z2y (f_op (Z21 rfl) (f_ix (Wh hr.units rfl) (Zf (pv 0)) f_int (fun _ _ => rfl)) f_int) (Z8o hr.units (Zf (pv 0)) f_int))
    (Zh (Xg (i := 3) Jm.nd rfl (Or.inl rfl) (f_op Zal (X8 (Z4o (nd_ C)) (by rfl) (Z46 C) (by decide +kernel) (Za (f_op Z7h (f_op (Z21 rfl) (f_op (Z21 rfl) (f_ix (Wh hr.units rfl) (Zf (pv 0)) f_int (fun _ _ => rfl)) (f_op Z7h f_int (f_ix (Wh hr.units rfl) (Zf (pv 0)) f_int (fun _ _ => rfl)))) f_int) f_int) Zg)) f_int))
    (Zh (Xg (i := 3) Jm.nd rfl (Or.inl rfl) (f_op Zal (X8 (Z4o (nd_ C)) (by rfl) (Z46 C) (by decide +kernel) (Za (f_op Z7h (Zf (pv 3)) (f_op (Z21 rfl) (f_op (Z21 rfl) (f_op Zdm (Zf (pv 3)) f_int) f_int) (f_ix (Wh hr.units rfl) (Zf (pv 0)) f_int (fun _ _ => rfl)))) Zg)) f_int))
    (Zj (Zy (f_op Zal (X8 (Z4o (nd_ C)) (by rfl) (Z46 C) (by decide +kernel) (Za (f_op Zdm (f_op Zal (X8 (Z4o (nd_ C)) (by rfl) (Z46 C) (by decide +kernel) (Za (f_op Z7h (Zf (pv 3)) (f_op (Z21 rfl) (f_op Zdm (Zf (pv 3)) f_int) f_int)) Zg)) f_int) f_int) Zg)) (Zf (pv 1)))))))))
theorem Z5o : GT P w K mg base 2 (gY "_law_one") Z3j 2 Wk := by
  have G__law_draw := U0 (P := P) (base := base) C B
  refine fnFD (Vl C) Z8r fun cdv A outer s H E hr hG => ?_
  exact (Zj (Zy (f_ix (Wh hr.units rfl) (Zf (pv 1)) (Zu rfl G__law_draw (hr.mono (by omega)) hG (by rfl) (Yk C) (Y6 C).kp (Yi C) .nil Dfl.nil tk (Za (Zf (pv 0)) (Za (Y9 (Z2z rfl) (by rfl) (Jx C) (by decide +kernel) (Za (Zf (pv 1)) Zg)) Zg)) (Z6 (Z6 Zb))) (fun _ _ => rfl))))
theorem Z89 : GT P w K mg base 3 (gY "_law_node") Z2d 2 Uz := by
  have G__law_draw := U0 (P := P) (base := base) C B
  have G__law_one := Z5o (P := P) (base := base) C B
  refine fnFD (Z1c C) Vq fun cdv A outer s H E hr hG => ?_
  exact (Zh (Xg (i := 2) Vq.nd rfl (Or.inl rfl) (Zu rfl G__law_draw (hr.mono (by omega)) hG (by rfl) (Yk C) (Y6 C).kp (Yi C) .nil Dfl.nil tk (Za (Zf (pv 0)) (Za f_int Zg)) (Z6 (Z6 Zb))))
    (Zh (W4 (Ys o_lt (Zf (pv 2)) f_int (nomark _))
      (Zj (Zy (f_tup (Za (Y8 [115,99,97,108,97,114]) (Za (Zu rfl G__law_one (hr.mono (by omega)) hG (by rfl) (Ji C) (Vl C).kp (Jh C) .nil Dfl.nil tk (Za (Zf (pv 0)) (Za (Jj (Za (Y8 [33,33,115,116,114]) (Za (Y8 [33,33,115,116,114]) (Za (Y8 [33,120]) Zg))) (Z6 (Z6 (Z6 Zb)))) Zg)) (Z6 (Z6 Zb))) (Za (Zu rfl G__law_one (hr.mono (by omega)) hG (by rfl) (Ji C) (Vl C).kp (Jh C) .nil Dfl.nil tk (Za (Zf (pv 0)) (Za (Jj (Za (Y8 [97]) (Za (Y8 [98]) (Za (Y8 []) Zg))) (Z6 (Z6 (Z6 Zb)))) Zg)) (Z6 (Z6 Zb))) Zg))) (Z6 (Z6 (Z6 Zb))))))
      Yq)
    (Zh (W4 (Ys o_lt (Zf (pv 2)) f_int (nomark _))
      (Zh (Z6p (i := 3) (own := [("_law_turn", 4)]) (Wr 4) (by decide) rfl Vq.nd rfl rfl (sw_true rfl rfl rfl (by decide +kernel)) (U5 (by rfl) (Qz C) (Za (Zu rfl G__law_draw (hr.mono (by omega)) hG (by rfl) (Yk C) (Y6 C).kp (Yi C) .nil Dfl.nil tk (Za (Zf (pv 0)) (Za f_int Zg)) (Z6 (Z6 Zb))) Zg) (Z6 Zb)) (blkOk_by (N := Z2c) (sc := defScope Xn) (by decide +kernel)) (fun _ _ _ _ _ => (pg_name (i := 4) Vq.nd rfl (Or.inl rfl))) (fun _ _ _ _ _ => Ws) (fun _ _ _ _ _ => (Zu rfl G__law_draw (hr.mono (by omega)) hG (by rfl) (Yk C) (Y6 C).kp (Yi C) .nil Dfl.nil Wz (Za (Zf (pv 0)) (Za (Zf (pv 1)) Zg)) (Z6 (Z6 Zb)))))
      (Zj (Zy (f_tup (Za (Y8 [115,101,113,117,101,110,99,101]) (Za (Zu rfl G__law_one (hr.mono (by omega)) hG (by rfl) (Ji C) (Vl C).kp (Jh C) .nil Dfl.nil tk (Za (Zf (pv 0)) (Za (Jj (Za (Y8 [33,33,115,101,113]) (Za (Y8 [33,33,115,101,113]) (Za (Y8 [33,115]) Zg))) (Z6 (Z6 (Z6 Zb)))) Zg)) (Z6 (Z6 Zb))) (Za (X8 (Z28 rfl) (by rfl) (Uo C) (by decide +kernel) (Za (Zf (pv 3)) Zg)) Zg))) (Z6 (Z6 (Z6 Zb)))))))
      Yq)
    (Zh (Z6p (i := 3) (own := [("_law_turn", 4)]) (Wr 4) (by decide) rfl Vq.nd rfl rfl (sw_true rfl rfl rfl (by decide +kernel)) (U5 (by rfl) (Qz C) (Za (Zu rfl G__law_draw (hr.mono (by omega)) hG (by rfl) (Yk C) (Y6 C).kp (Yi C) .nil Dfl.nil tk (Za (Zf (pv 0)) (Za f_int Zg)) (Z6 (Z6 Zb))) Zg) (Z6 Zb)) (blkOk_by (N := Z2c) (sc := defScope Xn) (by decide +kernel)) (fun _ _ _ _ _ => (pg_name (i := 4) Vq.nd rfl (Or.inl rfl))) (fun _ _ _ _ _ => Ws) (fun _ _ _ _ _ => (f_tup (Za (Zu rfl G__law_draw (hr.mono (by omega)) hG (by rfl) (Yk C) (Y6 C).kp (Yi C) .nil Dfl.nil Wz (Za (Zf (pv 0)) (Za (Zf (pv 1)) Zg)) (Z6 (Z6 Zb))) (Za (Zu rfl G__law_draw (hr.mono (by omega)) hG (by rfl) (Yk C) (Y6 C).kp (Yi C) .nil Dfl.nil Wz (Za (Zf (pv 0)) (Za (Zf (pv 1)) Zg)) (Z6 (Z6 Zb))) Zg)) (Z6 (Z6 Zb)))))
    (Zj (Zy (f_tup (Za (Y8 [109,97,112,112,105,110,103]) (Za (Zu rfl G__law_one (hr.mono (by omega)) hG (by rfl) (Ji C) (Vl C).kp (Jh C) .nil Dfl.nil tk (Za (Zf (pv 0)) (Za (Jj (Za (Y8 [33,33,109,97,112]) (Za (Y8 [33,33,109,97,112]) (Za (Y8 [33,109]) Zg))) (Z6 (Z6 (Z6 Zb)))) Zg)) (Z6 (Z6 Zb))) (Za (X8 (Z28 rfl) (by rfl) (Uo C) (by decide +kernel) (Za (Zf (pv 3)) Zg)) Zg))) (Z6 (Z6 (Z6 Zb))))))))))
theorem Z79 : GT P w K mg base 4 (gY "_law_nodes") Z10 2 Jq := by
  have G__law_draw := U0 (P := P) (base := base) C B
  have G__law_one := Z5o (P := P) (base := base) C B
  have G__law_node := Z89 (P := P) (base := base) C B
  refine fnFD (Z0f C) Qw fun cdv A outer s H E hr hG => ?_
  exact (Zh (Xg (i := 2) Qw.nd rfl (Or.inl rfl) (Jj Zg Zb))
    (Zh (N8 (passes_of rfl) rfl (U5 (by rfl) (Qz C) (Za (Zf (pv 1)) Zg) (Z6 Zb)) (Yl (i := 3) Qw.nd rfl (Or.inl rfl))
      (Zh (Xg (i := 4) Qw.nd rfl (Or.inl rfl) (Z5s rfl (Z26 (Zig hr.units rfl) (Zf (pv 2)) (Jj Zg Zb) (nomark _)) (Z4j (Z26 (o_eq hr.units rfl) (Zu rfl G__law_draw (hr.mono (by omega)) hG (by rfl) (Yk C) (Y6 C).kp (Yi C) .nil Dfl.nil tk (Za (Zf (pv 0)) (Za f_int Zg)) (Z6 (Z6 Zb))) f_int (nomark _)))))
      (Zj (Z27 (f_bm rfl PySem.F.plainAttrs_list PySem.F.slot_list_append PySem.F.type_list_append m_append (Zf (pv 2)) (Za (f_if (Uq rfl (Zf (pv 4))) (Zu rfl G__law_one (hr.mono (by omega)) hG (by rfl) (Ji C) (Vl C).kp (Jh C) .nil Dfl.nil tk (Za (Zf (pv 0)) (Za (Zf (pv 2)) Zg)) (Z6 (Z6 Zb))) (Zu rfl G__law_node (hr.mono (by omega)) hG (by rfl) (Z84 C) (Z1c C).kp (Z81 C) .nil Dfl.nil tk (Za (Zf (pv 0)) (Za (Zf (pv 1)) Zg)) (Z6 (Z6 Zb)))) Zg))))))
    (Zj (Zy (Zf (pv 2))))))
theorem Z1i : FnOk P w K mg base CX0 1 ((mY "NoGraph" "__init__") K) (fdOf K ((mY "NoGraph" "__init__") K)) Qh (spI (He.ga K "NoGraph") "index") := by
  refine Zbc (Z1d C) Z4r (fun vs H Q E h => ?_) (fun cdv A outer s H vs Q E hr h => ?_)
  · obtain ⟨a,v,rfl,_⟩ := h; rfl
  · obtain ⟨a,v,rfl,ha,hq⟩ := h
    exact ⟨_, (pss_cons (ps_expr (Z4n (by rfl) (Qq C) (bs_ C) (by decide) (pa_cons (pv 0) (pa_cons pe_str pa_nil)))) (pss_one (ps_ost (pv 0) (pv 1)))), ⟨_, rfl, ⟨a, He.ga K "NoGraph", _, rfl, by decide, Qc C, ha, ⟨v, rfl, _, rfl, a, He.ga K "NoGraph", rfl, Qc C, Zb5 C, .inl ⟨ha, fun dx nd ne => hq dx nd ne⟩⟩⟩⟩⟩
theorem Z01 : FnS P w K mg base 3 ((gY "require_graphs") K) Xv := by
  have I_NoGraph_init := Z1i (P := P) (base := base) C B
  obtain ⟨ds_NoGraph_init_1,dv_NoGraph_init_1,db_NoGraph_init_1⟩ := Nz C
  refine fnS (Q9 C) Nf (fun _ _ _ _ _ _ us => match us with | [] => rfl | _ :: _ => rfl) fun cdv A outer s H E hr hG => ?_
  exact (Zj (N8 (passes_of rfl) rfl (Vp rfl (Zf (pv 0))) (Yl (i := 1) Nf.nd rfl (Or.inl rfl))
      (Zj (W4 (Jb (Uq rfl (Zhx rfl (Z75 C) (by rfl) (Yd C) (by decide +kernel) (by rfl) (Jv C) (Zf (pv 1)))))
        (Zj (Z1o rfl rfl tk (Qc C) (Vy C).1 (Vy C).2 I_NoGraph_init (hr.mono (by omega)) db_NoGraph_init_1 dv_NoGraph_init_1 (fun _ _ => .nil) (by rfl) (Z1v C) (Za (Zbr f_int) Zg) (Z6 Zb) (J9 C)))
        Yq))))
theorem Z1y : GT P w K mg base 1 (gY "is_from") Z4s 3 Ye := by
  refine fnFD (J5 C) Zar fun cdv A outer s H E hr hG => ?_
  exact (Zj (Zy (Z5s rfl (Y9 (Z6m rfl) (by rfl) (Yd C) (by decide +kernel) (Za (Zf (pv 0)) (Za (f_c (pe_bltn (v := .ty "int") (by rfl) (Z46 C) (by decide +kernel) rfl) (fun _ _ => .ty _)) Zg))) (Z5s rfl (f_not rfl (Y9 (Z6m rfl) (by rfl) (Yd C) (by decide +kernel) (Za (Zf (pv 0)) (Za (f_c (pe_bltn (v := .ty "bool") (by rfl) (Zgs C) (by decide +kernel) rfl) (fun _ _ => .ty _)) Zg)))) (Z4j (Zfw Zap Zap (Zf (pv 1)) (Zf (pv 0)) (Zf (pv 2))))))))
theorem Z5p : FnOk P w K mg base CX0 1 ((mY "NoDepth" "__init__") K) (fdOf K ((mY "NoDepth" "__init__") K)) Qi (spI (He.ga K "NoDepth") "depth") := by
  refine Zbc (Z1e C) Z4t (fun vs H Q E h => ?_) (fun cdv A outer s H vs Q E hr h => ?_)
  · obtain ⟨a,v,rfl,_⟩ := h; rfl
  · obtain ⟨a,v,rfl,ha,hq⟩ := h
    exact ⟨_, (pss_cons (ps_expr (Z4n (by rfl) (Qq C) (bs_ C) (by decide) (pa_cons (pv 0) (pa_cons pe_str pa_nil)))) (pss_one (ps_ost (pv 0) (pv 1)))), ⟨_, rfl, ⟨a, He.ga K "NoDepth", _, rfl, by decide, Z2q C, ha, ⟨v, rfl, _, rfl, a, He.ga K "NoDepth", rfl, Z2q C, Z6d C, .inl ⟨ha, fun dx nd ne => hq dx nd ne⟩⟩⟩⟩⟩
theorem Z0v : GT P w K mg base 3 (gY "require_depth") Jd 2 X4 := by
  have G_is_from := Z1y (P := P) (base := base) C B
  have I_NoDepth_init := Z5p (P := P) (base := base) C B
  obtain ⟨ds_NoDepth_init_1,dv_NoDepth_init_1,db_NoDepth_init_1⟩ := Z3p C
  refine fnFD (V4 C) Z4a fun cdv A outer s H E hr hG => ?_
  exact (Zj (W4 (Jb (Uq rfl (Zu rfl G_is_from (hr.mono (by omega)) hG (by rfl) (Z1w C) (J5 C).kp (Z1s C) .nil Dfl.nil tk (Za (Zf (pv 0)) (Za f_int (Za (Zf (pv 1)) Zg))) (Z6 (Z6 (Z6 Zb))))))
      (Zj (Z1o rfl rfl tk (Z2q C) (Z6e C).1 (Z6e C).2 I_NoDepth_init (hr.mono (by omega)) db_NoDepth_init_1 dv_NoDepth_init_1 (fun _ _ => .nil) (by rfl) (Z6f C) (Za (Zf (pv 0)) Zg) (Z6 Zb) (Wo C)))
      Yq))
theorem Zb8 (n : Nat) (R : Rc_0) (G_tree_at : GT P w K mg base (0 + n) (gY "tree_at") Nk 3 R.tree_at) : GT P w K mg base (0 + n + 1) (gY "tree_at") Nk 3 (runF 10 (Qp R)) := by
  refine fnFD (J8 C) Wi fun cdv A outer s H E hr hG => ?_
  exact (Zh (Z2y (f_ix (Wh hr.units rfl) (Zf (pv 0)) (Zf (pv 1)) (fun _ _ => rfl)) (Z3u rfl rfl (Yt (Yl (i := 3) Wi.nd rfl (Or.inl rfl)) (Yt (Yl (i := 4) Wi.nd rfl (Or.inl rfl)) (Yt (Yl (i := 5) Wi.nd rfl (Or.inl rfl)) Z0y)))))
    (Zh (W4 (Ys (o_eq hr.units rfl) (Zf (pv 3)) (Y8 [115,99,97,108,97,114]) (nomark _))
      (Zj (Zy (f_tup (Za (Zf (pv 3)) (Za (Zf (pv 4)) (Za (Zf (pv 5)) Zg))) (Z6 (Z6 (Z6 Zb))))))
      Yq)
    (Zh (W4 (Ys (o_eq hr.units rfl) (Zf (pv 2)) f_int (nomark _))
      (Zj (Zy (f_tup (Za (Zf (pv 3)) (Za (Zf (pv 4)) (Za (f_if (Ys (o_eq hr.units rfl) (Zf (pv 3)) (Y8 [115,101,113,117,101,110,99,101]) (nomark _)) (Y9 (Z2z rfl) (by rfl) (Jx C) (by decide +kernel) (Za (Zf (pv 5)) Zg)) Zak) Zg))) (Z6 (Z6 (Z6 Zb))))))
      Yq)
    (Zh (W4 (Ys (o_eq hr.units rfl) (Zf (pv 3)) (Y8 [115,101,113,117,101,110,99,101]) (nomark _))
      (Zj (Zy (f_tup (Za (Zf (pv 3)) (Za (Zf (pv 4)) (Za (X8 (Z28 rfl) (by rfl) (Uo C) (by decide +kernel) (Za (f_lc (own := [("one", 9)]) (Wr 9) (by decide) rfl Wi.nd (Vp rfl (Zf (pv 5))) (blkOk_by (N := Z4v) (sc := defScope U6) (by decide +kernel)) (fun _ _ _ _ _ => (pg_name (i := 9) Wi.nd rfl (Or.inl rfl))) (fun _ _ _ _ _ => Ws) (fun _ _ _ _ _ => (Zu rfl G_tree_at (hr.mono (by omega)) hG (by rfl) (Z1x C) (J8 C).kp (Z1t C) .nil Dfl.nil Wz (Za (Zf (pv 0)) (Za (Zf (pv 9)) (Za (f_op Z5t (Zf (pv 2)) f_int) Zg))) (Z6 (Z6 (Z6 Zb)))))) Zg)) Zg))) (Z6 (Z6 (Z6 Zb))))))
      Yq)
    (Zh (Z6p (i := 6) (own := [("key", 7), ("value", 8)]) (Zho 7 8) (by decide) rfl Wi.nd rfl rfl (sw_true rfl rfl rfl (by decide +kernel)) (Vp rfl (Zf (pv 5))) (blkOk_by (N := Z4v) (sc := defScope U6) (by decide +kernel)) (fun _ _ _ _ _ => (pg_tup rfl (pgs_cons (pg_name (i := 7) Wi.nd rfl (Or.inl rfl)) (pgs_cons (pg_name (i := 8) Wi.nd rfl (Or.inl rfl)) pgs_nil)))) (fun _ _ _ _ _ => Ws) (fun _ _ _ _ _ => (f_tup (Za (Zu rfl G_tree_at (hr.mono (by omega)) hG (by rfl) (Z1x C) (J8 C).kp (Z1t C) .nil Dfl.nil Wz (Za (Zf (pv 0)) (Za (Zf (pv 7)) (Za (f_op Z5t (Zf (pv 2)) f_int) Zg))) (Z6 (Z6 (Z6 Zb)))) (Za (Zu rfl G_tree_at (hr.mono (by omega)) hG (by rfl) (Z1x C) (J8 C).kp (Z1t C) .nil Dfl.nil Wz (Za (Zf (pv 0)) (Za (Zf (pv 8)) (Za (f_op Z5t (Zf (pv 2)) f_int) Zg))) (Z6 (Z6 (Z6 Zb)))) Zg)) (Z6 (Z6 Zb)))))
    (Zj (Zy (f_tup (Za (Zf (pv 3)) (Za (Zf (pv 4)) (Za (X8 (Z28 rfl) (by rfl) (Uo C) (by decide +kernel) (Za (Zf (pv 6)) Zg)) Zg))) (Z6 (Z6 (Z6 Zb)))))))))))
theorem fam_0 : ∀ n : Nat, GT P w K mg base (0 + n) (gY "tree_at") Nk 3 (Zb0 n).tree_at := by
  intro n
  induction n with
  | zero => exact Z7s rfl
  | succ n ih =>
    have h_tree_at := ih
    exact Zb8 C B n _ h_tree_at
theorem Zb9 : GT P w K mg base 55 (gY "tree_at") Nk 3 Z5e := (fam_0 C B 55)
theorem Za7 : GT P w K mg base 1 (gY "inner") Z8s 1 Z19 := by
  refine fnFD (Z4h C) Z4f fun cdv A outer s H E hr hG => ?_
  exact (Zh (W4 (Ys (o_eq hr.units rfl) (f_ix (Wh hr.units rfl) (Zf (pv 0)) f_int (fun _ _ => rfl)) (Y8 [115,99,97,108,97,114]) (nomark _))
      (Zj (Zy (Jj Zg Zb)))
      Yq)
    (Zh (W4 (Ys (o_eq hr.units rfl) (f_ix (Wh hr.units rfl) (Zf (pv 0)) f_int (fun _ _ => rfl)) (Y8 [115,101,113,117,101,110,99,101]) (nomark _))
      (Zj (Zy (X8 (Zbl rfl) (by rfl) (Z5n C) (by decide +kernel) (Za (f_ix (Wh hr.units rfl) (Zf (pv 0)) f_int (fun _ _ => rfl)) Zg))))
      Yq)
    (Zj (Zy (f_lc2 (own := [("entry", 1), ("number", 2)]) (vs1 := [2]) (Wr 1) (by decide) (Wr 2) (by decide) rfl Z4f.nd (Vp rfl (f_ix (Wh hr.units rfl) (Zf (pv 0)) f_int (fun _ _ => rfl))) (blkOk_by (N := Zc7) (sc := defScope Z13) (by decide +kernel)) (by decide) (fun _ _ _ _ _ => (pg_name (i := 1) Z4f.nd rfl (Or.inl rfl))) (fun _ _ _ _ _ => (Vp rfl (Zf (pv 1)))) (fun _ _ _ _ _ => (pg_name (i := 2) Z4f.nd rfl (Or.inl rfl))) (fun _ _ _ _ _ => (Zf (pv 2))))))))
theorem Zio : GT P w K mg base 2 (gY "met") Zgc 2 Zgq := by
  have G_inner := Za7 (P := P) (base := base) C B
  refine fnFD (Zcp C) Zc8 fun cdv A outer s H E hr hG => ?_
  exact (Zh (Zhj (i := 2) (j := 3) rfl Zc8.nd rfl rfl (by decide) rfl rfl (Za (Zbq pe_dnewK) (Za (Zi3 rfl (X8 (Zcc rfl rfl) (by rfl) (Z5n C) (by decide +kernel) (Za (Zf (pv 1)) Zg)) Z0x Z0x (Z3h (Zbr f_int))) Zg)) (Z6 (Z6 Zb)) (by rfl))
    (Zh (Zdp (passes_of rfl) (Ys (Zig hr.units rfl) (Zf (pv 3)) (Jj Zg Zb) (nomark _))
      (Zh (Xg (i := 4) Zc8.nd rfl (Or.inl rfl) (f_bm0 rfl PySem.F.plainAttrs_list PySem.F.slot_list_pop PySem.F.type_list_pop m_pop (Zf (pv 3))))
      (Zj (W4 (Ys (Z9u hr.units rfl) (Zf (pv 4)) (Zf (pv 2)) rfl)
        (Zh (Z2y f_bl (Z8o hr.units (Zf (pv 2)) (Zf (pv 4))))
        (Zj (Z27 (f_bm rfl PySem.F.plainAttrs_list PySem.F.slot_list_extend PySem.F.type_list_extend m_extend (Zf (pv 3)) (Za (Zi3 rfl (Zu rfl G_inner (hr.mono (by omega)) hG (by rfl) (Za6 C) (Z4h C).kp (Za5 C) .nil Dfl.nil tk (Za (f_ix (Wh hr.units rfl) (Zf (pv 0)) (Zf (pv 4)) (fun _ _ => rfl)) Zg) (Z6 Zb)) Z0x Z0x (Z3h (Zbr f_int))) Zg)))))
        Yq))))
    (Zj (Zy (X8 (Zcc rfl rfl) (by rfl) (Z5n C) (by decide +kernel) (Za (Zf (pv 2)) Zg))))))
theorem V5 : GT P w K mg base 4 (gY "unfolded_size") U7 2 Y4 := by
  have G_require_graphs := Z01 (P := P) (base := base) C B
  have G_require_depth := Z0v (P := P) (base := base) C B
  have G_met := Zio (P := P) (base := base) C B
  have G_inner := Za7 (P := P) (base := base) C B
  obtain ⟨t_MOST_DEPTH,g_MOST_DEPTH⟩ := Z72 C
  refine fnFD (Y7 C) Zz fun cdv A outer s H E hr hG => ?_
  exact (Zh (Z27 (Zca rfl G_require_graphs (hr.mono (by omega)) hG (by rfl) (Z00 C) (Q9 C).kp tk (Za (Zf (pv 0)) Zg) (Z6 Zb)))
    (Zh (Z27 (Zu rfl G_require_depth (hr.mono (by omega)) hG (by rfl) (Z0u C) (V4 C).kp (Z0s C) .nil Dfl.nil tk (Za (Zf (pv 1)) (Za (f_c (pe_glob (v := .int (100)) rfl g_MOST_DEPTH ⟨_,rfl⟩) (fun _ _ => .int _)) Zg)) (Z6 (Z6 Zb))))
    (Zh (Xg (i := 2) Zz.nd rfl (Or.inl rfl) (Zu rfl G_met (hr.mono (by omega)) hG (by rfl) (Zim C) (Zcp C).kp (Zil C) .nil Dfl.nil tk (Za (Z4p rfl (Fx.FldOk.cons (Yr C) (Xf C) .nil) (Zf (pv 0))) (Za (Jj (Za (Z4p rfl (Fx.FldOk.cons (Yr C) (Vx C) .nil) (Zf (pv 0))) Zg) (Z6 Zb)) Zg)) (Z6 (Z6 Zb))))
    (Zh (Xg (i := 3) Zz.nd rfl (Or.inr rfl) (f_dc (own := [("number", 5)]) (Wr 5) (by decide) rfl Zz.nd (Vp rfl (Zf (pv 2))) (blkOk_by (N := W8) (sc := defScope Ym) (by decide +kernel)) (fun _ _ _ _ _ => (pg_name (i := 5) Zz.nd rfl (Or.inl rfl))) (fun _ _ _ _ _ => (Zf (pv 5))) (fun _ _ _ _ _ => f_int)))
    (Zh (N8 (passes_of rfl) rfl (U5 (by rfl) (Qz C) (Za (Zf (pv 1)) Zg) (Z6 Zb)) (Yl (i := 4) Zz.nd rfl (Or.inl rfl))
      (Zj (Xg (i := 3) Zz.nd rfl (Or.inr rfl) (f_dc (own := [("number", 5)]) (Wr 5) (by decide) rfl Zz.nd (Vp rfl (Zf (pv 2))) (blkOk_by (N := W8) (sc := defScope Ym) (by decide +kernel)) (fun _ _ _ _ _ => (pg_name (i := 5) Zz.nd rfl (Or.inl rfl))) (fun _ _ _ _ _ => (Zf (pv 5))) (fun _ _ _ _ _ => (f_op (Z21 rfl) f_int (Y9 (Zih rfl rfl) (by rfl) (Zf9 C) (by decide +kernel) (Za (f_lc (own := [("other", 6)]) (Wr 6) (by decide) rfl Zz.nd (Vp rfl (Zu rfl G_inner (hr.mono (by omega)) hG (by rfl) (Za6 C) (Z4h C).kp (Za5 C) .nil Dfl.nil Wz (Za (f_ix (Wh hr.units rfl) (Z4p rfl (Fx.FldOk.cons (Yr C) (Xf C) .nil) (Zf (pv 0))) (Zf (pv 5)) (fun _ _ => rfl)) Zg) (Z6 Zb))) (by first | exact (blkOk_by (N := W8) (sc := { kind := .function, names := [(".0", .local), ("number", .local), ("sum", .globalImplicit), ("inner", .globalImplicit), ("graph", .free), ("sizes", .free)], isGenerator := false, isCoroutine := false }) (by decide +kernel)) | exact (blkOk_by (N := W8) (sc := { kind := .function, names := [(".0", .local), ("number", .local), ("sum", .globalImplicit), ("inner", .globalImplicit), ("graph", .cell), ("sizes", .cell)], isGenerator := false, isCoroutine := false }) (by decide +kernel))) (fun _ _ _ _ _ => (pg_name (i := 6) Zz.nd rfl (Or.inl rfl))) (fun _ _ _ _ _ => Ws) (fun _ _ _ _ _ => (f_ix (Wh hr.units rfl) (Zf (pv 3)) (Zf (pv 6)) (fun _ _ => rfl)))) Zg))))))))
    (Zj (Zy (f_ix (Wh hr.units rfl) (Zf (pv 3)) (Z4p rfl (Fx.FldOk.cons (Yr C) (Vx C) .nil) (Zf (pv 0))) (fun _ _ => rfl)))))))))
theorem Z4d : FnOk P w K mg base CX0 1 ((mY "TooLarge" "__init__") K) (fdOf K ((mY "TooLarge" "__init__") K)) U8 (spI (He.ga K "TooLarge") "limit") := by
  refine Zbc (Z0t C) Z4b (fun vs H Q E h => ?_) (fun cdv A outer s H vs Q E hr h => ?_)
  · obtain ⟨a,v,rfl,_⟩ := h; rfl
  · obtain ⟨a,v,rfl,ha,hq⟩ := h
    exact ⟨_, (pss_cons (ps_expr (Z4n (by rfl) (Qq C) (bs_ C) (by decide) (pa_cons (pv 0) (pa_cons pe_str pa_nil)))) (pss_one (ps_ost (pv 0) (pv 1)))), ⟨_, rfl, ⟨a, He.ga K "TooLarge", _, rfl, by decide, Z1h C, ha, ⟨v, rfl, _, rfl, a, He.ga K "TooLarge", rfl, Z1h C, Z5k C, .inl ⟨ha, fun dx nd ne => hq dx nd ne⟩⟩⟩⟩⟩
theorem Z2s : GT P w K mg base 56 (gY "unfolded") Z1p 2 Yc := by
  have G_require_graphs := Z01 (P := P) (base := base) C B
  have G_require_depth := Z0v (P := P) (base := base) C B
  have G_tree_at := Zb9 (P := P) (base := base) C B
  have G_unfolded_size := V5 (P := P) (base := base) C B
  have I_TooLarge_init := Z4d (P := P) (base := base) C B
  obtain ⟨ds_TooLarge_init_1,dv_TooLarge_init_1,db_TooLarge_init_1⟩ := Z3a C
  obtain ⟨t_MOST_UNFOLDED,g_MOST_UNFOLDED⟩ := Z4c C
  obtain ⟨t_MOST_TREES,g_MOST_TREES⟩ := Z73 C
  refine fnFD (X5 C) Z8u fun cdv A outer s H E hr hG => ?_
  exact (Zh (Z27 (Zca rfl G_require_graphs (hr.mono (by omega)) hG (by rfl) (Z00 C) (Q9 C).kp tk (Za (Zf (pv 0)) Zg) (Z6 Zb)))
    (Zh (Z27 (Zu rfl G_require_depth (hr.mono (by omega)) hG (by rfl) (Z0u C) (V4 C).kp (Z0s C) .nil Dfl.nil tk (Za (Zf (pv 1)) (Za (f_c (pe_glob (v := .int (50)) rfl g_MOST_UNFOLDED ⟨_,rfl⟩) (fun _ _ => .int _)) Zg)) (Z6 (Z6 Zb))))
    (Zh (W4 (Ys Ze2 (Zu rfl G_unfolded_size (hr.mono (by omega)) hG (by rfl) (Yw C) (Y7 C).kp (Xa C) .nil Dfl.nil tk (Za (Zf (pv 0)) (Za (Zf (pv 1)) Zg)) (Z6 (Z6 Zb))) (f_c (pe_glob (v := .int (3000)) rfl g_MOST_TREES ⟨_,rfl⟩) (fun _ _ => .int _)) (nomark _))
      (Zj (Z1o rfl rfl tk (Z1h C) (Z5l C).1 (Z5l C).2 I_TooLarge_init (hr.mono (by omega)) db_TooLarge_init_1 dv_TooLarge_init_1 (fun _ _ => .nil) (by rfl) (Z5m C) (Za (f_c (pe_glob (v := .int (3000)) rfl g_MOST_TREES ⟨_,rfl⟩) (fun _ _ => .int _)) Zg) (Z6 Zb) (Xu C)))
      Yq)
    (Zj (Zy (Zu rfl G_tree_at (hr.mono (by omega)) hG (by rfl) (Z1x C) (J8 C).kp (Z1t C) .nil Dfl.nil tk (Za (Z4p rfl (Fx.FldOk.cons (Yr C) (Xf C) .nil) (Zf (pv 0))) (Za (Z4p rfl (Fx.FldOk.cons (Yr C) (Vx C) .nil) (Zf (pv 0))) (Za (Zf (pv 1)) Zg))) (Z6 (Z6 (Z6 Zb)))))))))
theorem Z8a : GT P w K mg base 1 (gY "are_signs") Z2e 2 Xq := by
  refine fnFD (Z1f C) Z14 fun cdv A outer s H E hr hG => ?_
  exact (Zj (Zy (Z5s rfl (Z26 (o_ne hr.units rfl) (Zf (pv 0)) (Y8 []) (nomark _)) (Z4j (Y9 (Zdv rfl rfl) (by rfl) (fr_all C) (by decide +kernel) (Za (f_lc (own := [("sign", 2)]) (Wr 2) (by decide) rfl Z14.nd (Vp rfl (Zf (pv 0))) (blkOk_by (N := Z4y) (sc := defScope W9) (by decide +kernel)) (fun _ _ _ _ _ => (pg_name (i := 2) Z14.nd rfl (Or.inl rfl))) (fun _ _ _ _ _ => Ws) (fun _ _ _ _ _ => (Z26 (o_inW hr.units rfl) (Zf (pv 2)) (Zf (pv 1)) rfl))) Zg))))))
theorem Zct : GT P w K mg base 2 (gY "is_tag") Z6u 1 Z0c := by
  have G_are_signs := Z8a (P := P) (base := base) C B
  obtain ⟨t_TAG_SIGNS,g_TAG_SIGNS⟩ := Z83 C
  refine fnFD (Z5g C) Zc9 fun cdv A outer s H E hr hG => ?_
  exact (Zh (W4 (PW.pt (Z47 (Jb (Uq rfl (Y9 (Z6m rfl) (by rfl) (Yd C) (by decide +kernel) (Za (Zf (pv 0)) (Za (f_c (pe_bltn (v := .ty "str") (by rfl) (Zcs C) (by decide +kernel) rfl) (fun _ _ => .ty _)) Zg))))) (Z2w (Jb (Uq rfl (f_bm rfl PySem.F.plainAttrs_str PySem.F.slot_str_startswith PySem.F.type_str_startswith (Z9l rfl) (Zf (pv 0)) (Za (Y8 [33]) Zg)))))))
      (Zj (Zy f_bl))
      Yq)
    (Zj (Zy (Zu rfl G_are_signs (hr.mono (by omega)) hG (by rfl) (Z85 C) (Z1f C).kp (Z82 C) .nil Dfl.nil tk (Za (f_if (Uq rfl (f_bm rfl PySem.F.plainAttrs_str PySem.F.slot_str_startswith PySem.F.type_str_startswith (Z9l rfl) (Zf (pv 0)) (Za (Y8 [33,33]) Zg))) (f_sl rfl (Zf (pv 0)) (Z3h f_int) Z0x) (f_sl rfl (Zf (pv 0)) (Z3h f_int) Z0x)) (Za (f_c (pe_glob (v := .str (S V9)) rfl g_TAG_SIGNS ⟨_,rfl⟩) (fun _ _ => .str _)) Zg)) (Z6 (Z6 Zb))))))
theorem Z95 : GT P w K mg base 2 (gY "is_entry") Z3k 2 Nu := by
  have G_is_from := Z1y (P := P) (base := base) C B
  refine fnFD (Z2o C) Z2f fun cdv A outer s H E hr hG => ?_
  exact (Zj (Zy (Z5s rfl (Y9 (Z6m rfl) (by rfl) (Yd C) (by decide +kernel) (Za (Zf (pv 0)) (Za (f_c (pe_bltn (v := .ty "tuple") (by rfl) (Uo C) (by decide +kernel) rfl) (fun _ _ => .ty _)) Zg))) (Z5s rfl (Z26 (o_eq hr.units rfl) (Y9 (Z2z rfl) (by rfl) (Jx C) (by decide +kernel) (Za (Zf (pv 0)) Zg)) f_int (nomark _)) (Z4j (Y9 (Zdv rfl rfl) (by rfl) (fr_all C) (by decide +kernel) (Za (f_lc (own := [("one", 2)]) (Wr 2) (by decide) rfl Z2f.nd (Vp rfl (Zf (pv 0))) (blkOk_by (N := Z65) (sc := defScope Vr) (by decide +kernel)) (fun _ _ _ _ _ => (pg_name (i := 2) Z2f.nd rfl (Or.inl rfl))) (fun _ _ _ _ _ => Ws) (fun _ _ _ _ _ => (Zu rfl G_is_from (hr.mono (by omega)) hG (by rfl) (Z1w C) (J5 C).kp (Z1s C) .nil Dfl.nil Wz (Za (Zf (pv 2)) (Za f_int (Za (f_op Z5t (Zf (pv 1)) f_int) Zg))) (Z6 (Z6 (Z6 Zb)))))) Zg)))))))
theorem Zba : GT P w K mg base 3 (gY "is_node") Z51 2 Xw := by
  have G_is_tag := Zct (P := P) (base := base) C B
  have G_is_entry := Z95 (P := P) (base := base) C B
  have G_is_from := Z1y (P := P) (base := base) C B
  obtain ⟨t_MOST_NUMBERS,g_MOST_NUMBERS⟩ := Z5i C
  refine fnFD (Z3q C) Vs fun cdv A outer s H E hr hG => ?_
  exact (Zh (W4 (PW.pt (Z47 (Jb (Uq rfl (Y9 (Z6m rfl) (by rfl) (Yd C) (by decide +kernel) (Za (Zf (pv 0)) (Za (f_c (pe_bltn (v := .ty "tuple") (by rfl) (Uo C) (by decide +kernel) rfl) (fun _ _ => .ty _)) Zg))))) (Z47 (Ys (o_ne hr.units rfl) (Y9 (Z2z rfl) (by rfl) (Jx C) (by decide +kernel) (Za (Zf (pv 0)) Zg)) f_int (nomark _)) (Z47 (Jb (Uq rfl (Y9 (Z6m rfl) (by rfl) (Yd C) (by decide +kernel) (Za (f_ix (Wh hr.units rfl) (Zf (pv 0)) f_int (fun _ _ => rfl)) (Za (f_c (pe_bltn (v := .ty "str") (by rfl) (Zcs C) (by decide +kernel) rfl) (fun _ _ => .ty _)) Zg))))) (Z2w (Jb (Uq rfl (Zu rfl G_is_tag (hr.mono (by omega)) hG (by rfl) (Zcr C) (Z5g C).kp (Zcq C) .nil Dfl.nil tk (Za (f_ix (Wh hr.units rfl) (Zf (pv 0)) f_int (fun _ _ => rfl)) Zg) (Z6 Zb)))))))))
      (Zj (Zy f_bl))
      Yq)
    (Zh (Z2y (Zf (pv 0)) (Z3u rfl rfl (Yt (Yl (i := 2) Vs.nd rfl (Or.inl rfl)) (Yt (Yl (i := 3) Vs.nd rfl (Or.inl rfl)) (Yt (Yl (i := 4) Vs.nd rfl (Or.inl rfl)) Z0y)))))
    (Zh (W4 (Ys (o_eq hr.units rfl) (Zf (pv 2)) (Y8 [115,99,97,108,97,114]) (nomark _))
      (Zj (Zy (Y9 (Z6m rfl) (by rfl) (Yd C) (by decide +kernel) (Za (Zf (pv 4)) (Za (f_c (pe_bltn (v := .ty "str") (by rfl) (Zcs C) (by decide +kernel) rfl) (fun _ _ => .ty _)) Zg)))))
      Yq)
    (Zh (W4 (PW.pt (Z47 (Ys (Z9u hr.units rfl) (Zf (pv 2)) (f_tup (Za (Y8 [115,101,113,117,101,110,99,101]) (Za (Y8 [109,97,112,112,105,110,103]) Zg)) (Z6 (Z6 Zb))) rfl) (Z2w (Jb (Uq rfl (Y9 (Z6m rfl) (by rfl) (Yd C) (by decide +kernel) (Za (Zf (pv 4)) (Za (f_c (pe_bltn (v := .ty "tuple") (by rfl) (Uo C) (by decide +kernel) rfl) (fun _ _ => .ty _)) Zg))))))))
      (Zj (Zy f_bl))
      Yq)
    (Zh (W4 (Ys (o_eq hr.units rfl) (Zf (pv 2)) (Y8 [115,101,113,117,101,110,99,101]) (nomark _))
      (Zj (Zy (Z5s rfl (Z26 Zap (Y9 (Z2z rfl) (by rfl) (Jx C) (by decide +kernel) (Za (Zf (pv 4)) Zg)) (f_c (pe_glob (v := .int (1000)) rfl g_MOST_NUMBERS ⟨_, rfl⟩) (fun _ _ => .int _)) (nomark _)) (Z4j (Y9 (Zdv rfl rfl) (by rfl) (fr_all C) (by decide +kernel) (Za (f_lc (own := [("one", 5)]) (Wr 5) (by decide) rfl Vs.nd (Vp rfl (Zf (pv 4))) (blkOk_by (N := Z50) (sc := defScope U9) (by decide +kernel)) (fun _ _ _ _ _ => (pg_name (i := 5) Vs.nd rfl (Or.inl rfl))) (fun _ _ _ _ _ => Ws) (fun _ _ _ _ _ => (Zu rfl G_is_from (hr.mono (by omega)) hG (by rfl) (Z1w C) (J5 C).kp (Z1s C) .nil Dfl.nil Wz (Za (Zf (pv 5)) (Za f_int (Za (f_op Z5t (Zf (pv 1)) f_int) Zg))) (Z6 (Z6 (Z6 Zb)))))) Zg))))))
      Yq)
    (Zj (Zy (Z5s rfl (Z26 Zap (f_op Z7h f_int (Y9 (Z2z rfl) (by rfl) (Jx C) (by decide +kernel) (Za (Zf (pv 4)) Zg))) (f_c (pe_glob (v := .int (1000)) rfl g_MOST_NUMBERS ⟨_, rfl⟩) (fun _ _ => .int _)) (nomark _)) (Z4j (Y9 (Zdv rfl rfl) (by rfl) (fr_all C) (by decide +kernel) (Za (f_lc (own := [("one", 5)]) (Wr 5) (by decide) rfl Vs.nd (Vp rfl (Zf (pv 4))) (blkOk_by (N := Z50) (sc := defScope U9) (by decide +kernel)) (fun _ _ _ _ _ => (pg_name (i := 5) Vs.nd rfl (Or.inl rfl))) (fun _ _ _ _ _ => Ws) (fun _ _ _ _ _ => (Zu rfl G_is_entry (hr.mono (by omega)) hG (by rfl) (Z94 C) (Z2o C).kp (Z91 C) .nil Dfl.nil Wz (Za (Zf (pv 5)) (Za (Zf (pv 1)) Zg)) (Z6 (Z6 Zb))))) Zg)))))))))))
theorem Z0k : GT P w K mg base 4 (mY "Graph" "__init__") Vt 3 Y5 := by
  have I_NoGraph_init := Z1i (P := P) (base := base) C B
  obtain ⟨ds_NoGraph_init_1,dv_NoGraph_init_1,db_NoGraph_init_1⟩ := Nz C
  have G_is_from := Z1y (P := P) (base := base) C B
  have G_is_node := Zba (P := P) (base := base) C B
  obtain ⟨t_MOST_NODES,g_MOST_NODES⟩ := Z74 C
  refine fnFD (Z0g C) Z04 fun cdv A outer s H E hr hG => ?_
  exact (Zh (W4 (PW.pt (Z47 (Jb (Uq rfl (Y9 (Zi5 rfl (Z75 C) (Zea C)) (by rfl) (Yd C) (by decide +kernel) (Za (Zf (pv 1)) (Za (f_tup (Za (f_c (pe_bltn (v := .ty "list") (by rfl) (Z5n C) (by decide +kernel) rfl) (fun _ _ => .ty _)) (Za (f_c (pe_bltn (v := .ty "tuple") (by rfl) (Uo C) (by decide +kernel) rfl) (fun _ _ => .ty _)) Zg)) (Z6 (Z6 Zb))) Zg))))) (Z2w (Jb (Zdn Zap Zap f_int (Y9 (Z2z rfl) (by rfl) (Jx C) (by decide +kernel) (Za (Zf (pv 1)) Zg)) (f_c (pe_glob (v := .int (200)) rfl g_MOST_NODES ⟨_, rfl⟩) (fun _ _ => .int _)))))))
      (Zj (Z1o rfl rfl tk (Qc C) (Vy C).1 (Vy C).2 I_NoGraph_init (hr.mono (by omega)) db_NoGraph_init_1 dv_NoGraph_init_1 (fun _ _ => .nil) (by rfl) (Z1v C) (Za (Zbr f_int) Zg) (Z6 Zb) (J9 C)))
      Yq)
    (Zh (N8 (passes_of rfl) rfl (Zdu rfl (by rfl) (Z87 C) (Za (Zf (pv 1)) Zg) (Z6 Zb)) (Z3u rfl rfl (Yt (Yl (i := 3) Z04.nd rfl (Or.inl rfl)) (Yt (Yl (i := 4) Z04.nd rfl (Or.inl rfl)) Z0y)))
      (Zj (W4 (Jb (Uq rfl (Zu rfl G_is_node (hr.mono (by omega)) hG (by rfl) (Zb7 C) (Z3q C).kp (Zb4 C) .nil Dfl.nil tk (Za (Zf (pv 4)) (Za (Y9 (Z2z rfl) (by rfl) (Jx C) (by decide +kernel) (Za (Zf (pv 1)) Zg)) Zg)) (Z6 (Z6 Zb)))))
        (Zj (Z1o rfl rfl tk (Qc C) (Vy C).1 (Vy C).2 I_NoGraph_init (hr.mono (by omega)) db_NoGraph_init_1 dv_NoGraph_init_1 (fun _ _ => .nil) (by rfl) (Z1v C) (Za (Zf (pv 3)) Zg) (Z6 Zb) (J9 C)))
        Yq)))
    (Zh (W4 (Jb (Uq rfl (Zu rfl G_is_from (hr.mono (by omega)) hG (by rfl) (Z1w C) (J5 C).kp (Z1s C) .nil Dfl.nil tk (Za (Zf (pv 2)) (Za f_int (Za (f_op Z5t (Y9 (Z2z rfl) (by rfl) (Jx C) (by decide +kernel) (Za (Zf (pv 1)) Zg)) f_int) Zg))) (Z6 (Z6 (Z6 Zb))))))
      (Zj (Z1o rfl rfl tk (Qc C) (Vy C).1 (Vy C).2 I_NoGraph_init (hr.mono (by omega)) db_NoGraph_init_1 dv_NoGraph_init_1 (fun _ _ => .nil) (by rfl) (Z1v C) (Za (Zbr f_int) Zg) (Z6 Zb) (J9 C)))
      Yq)
    (Zj (Z2y (f_tup (Za (X8 (Z28 rfl) (by rfl) (Uo C) (by decide +kernel) (Za (Zf (pv 1)) Zg)) (Za (Zf (pv 2)) Zg)) (Z6 (Z6 Zb))) (Z3u rfl rfl (Yt (Zf1 rfl (Fx.FldOk.cons (Yr C) (Xf C) .nil) (Zf (pv 0))) (Yt (Zf1 rfl (Fx.FldOk.cons (Yr C) (Vx C) .nil) (Zf (pv 0))) Z0y))))))))
theorem Wq {A : Around} {outer : List PySem.Env} {s : Shared} {H : Hp} {E : XK} {k : Nat} (cdv : Value) (fl : Sto → R Fx.T) (lv : Fx.T) (hr : Room k (A.deeper (envOfC "_law_said" (defScope Yv) s.heap.objs.size ((gY "_law_said") K) cdv))) (hG : A.guards = some [])
    (act : ∀ (W' : WX) (pn : List (Addr × Obj)) (xe : Value → Shared → Prop) (p1 p2 : Pos), Takes ((cxOf (L2.CX P w) P w K mg base Z05 "_law_said" (defScope Yv) ((gY "_law_said") K) cdv A outer s H E).tr pn xe) W' → FJ ((cxOf (L2.CX P w) P w K mg base Z05 "_law_said" (defScope Yv) ((gY "_law_said") K) cdv A outer s H E).tr pn xe) K (Wt W') (.Call (.Name "_law_ask" p1) [] [] p2) (eAsk fl lv 0)) :
    FBJ (cxOf (L2.CX P w) P w K mg base Z05 "_law_said" (defScope Yv) ((gY "_law_said") K) cdv A outer s H E) K (fun cls d _ H => E cls d H) (defBody Yv) (Yg fl lv) := by
  exact (Zj (Zgo rfl rfl rfl tk (fun W2 pn xe tk2 pa2 => (Zj (Zy (f_tup (Za (Y8 [116,111,108,100]) (Za (act _ _ _ _ _ tk2) Zg)) (Z6 (Z6 Zb))))))
      (Zf7 rfl Xk.nd (i := 1) rfl rfl ⟨rfl,by decide,.inl (Z6f C)⟩ (Wo C) (xt_ C) (fun a oe cls d pn y hz hf hy hys => (f_if (Uq rfl (Zhq rfl hy hys (Wo C) (Z5j C).2 (Zb6 C) hz hf (by rfl) (Yd C) (pv 1) (by rfl) (Qq C))) (f_tup (Za (Y8 [100,101,112,116,104]) (Za (Y9 (Z6w rfl hG hr.units) (by rfl) (Z78 C) (by decide +kernel) (Za (f_xf rfl hy (Wo C) (Z5j C).1 (Z6d C) hz hf (pv 1)) Zg)) Zg)) (Z6 (Z6 Zb))) Zak))
      (Zf7 rfl Xk.nd (i := 1) rfl rfl ⟨rfl,by decide,.inl (Z5m C)⟩ (Xu C) (xt_ C) (fun a oe cls d pn y hz hf hy hys => (f_if (Uq rfl (Zhq rfl hy hys (Xu C) (Z45 C).2 (Z93 C) hz hf (by rfl) (Yd C) (pv 1) (by rfl) (Qq C))) (f_tup (Za (Y8 [108,97,114,103,101]) (Za (f_xf rfl hy (Xu C) (Z45 C).1 (Z5k C) hz hf (pv 1)) Zg)) (Z6 (Z6 Zb))) Zak))
      Zij))))
omit C B in
theorem U3 : ∀ (fl : Sto → R Fx.T) (lv : Fx.T) (ts : List Fx.T),ts.length = 0 → Zm fl lv (lv :: ts) = Zm fl .non (.non :: ts) := fun fl lv ts h => by
  obtain rfl : ts = [] := List.eq_nil_of_length_eq_zero h
  funext Z
  have e1 : eAsk fl lv 0 [some lv,none] Z = fl Z := if_pos rfl
  have e2 : eAsk fl .non 0 [some .non,none] Z = fl Z := if_pos rfl
  cases e : fl Z with
  | ok t Z' => simp [Zm, runF, Yg, sTryH, e1, e2, e]
  | exc y Z' =>
    unfold Zm
    rw [Za4,Za4]
    show endR (Yg fl lv [some lv,none] Z) = endR (Yg fl .non [some .non,none] Z)
    unfold Yg sTryH
    have s1 : ∀ u : Fx.T, eAsk fl u 0 [some u, none] Z = fl Z → sRet (eTup (aCons (eC (.str [116,111,108,100])) (aCons (eAsk fl u 0) aNil))) [some u, none] Z = .exc y [some u, none] Z' := fun u hu => by simp [hu, e]
    rw [s1 _ e1,s1 _ e2]
    show endR (pickH xlw y [some lv, none] Z' _) = endR (pickH xlw y [some .non, none] Z' _)
    refine Z5c (by simp) ?_
    intro g hg
    rcases List.mem_cons.mp hg with hg | hg
    · subst hg
      exact fun _ _ _ _ => rfl
    · obtain hg := List.mem_singleton.mp hg
      subst hg
      exact fun _ _ _ _ => rfl
  | stuck => simp [Zm,runF,Yg,sTryH,e1,e2,e]
theorem Z3d : GT P w K mg base 60 (gY "_law_hand_right") Uv 1 Q8 := by
  have G_unfolded := Z2s (P := P) (base := base) C B
  have G_Graph_init := Z0k (P := P) (base := base) C B
  obtain ⟨ds_Graph_init_0,dv_Graph_init_0,db_Graph_init_0⟩ := Z1g C
  have G__law_draw := U0 (P := P) (base := base) C B
  have G_unfolded_size := V5 (P := P) (base := base) C B
  refine fnFC (Z8n (Um C) (Z7n (C.c.fact 0)).2.2) Zo fun A outer s H E hr hG => ?_
  exact (Zh (Z2y (f_tup (Za (Z61 rfl (Yr C) (Z1u C) G_Graph_init (hr.mono (by omega)) hG (by rfl) (Jv C) db_Graph_init_0 dv_Graph_init_0 (fun _ _ => (.cons (.int _) .nil)) tk (Za (Jj (Za (f_tup (Za (Y8 [115,101,113,117,101,110,99,101]) (Za (Y8 [33,33,115,101,113]) (Za (f_tup (Za f_int (Za f_int Zg)) (Z6 (Z6 Zb))) Zg))) (Z6 (Z6 (Z6 Zb)))) Zg) (Z6 Zb)) Zg) (Z6 Zb)) (Za (Zu rfl G__law_draw (hr.mono (by omega)) hG (by rfl) (Yk C) (Y6 C).kp (Yi C) .nil Dfl.nil tk (Za (Zf (pv 0)) (Za f_int Zg)) (Z6 (Z6 Zb))) (Za f_int Zg))) (Z6 (Z6 (Z6 Zb)))) (Z3u rfl rfl (Yt (Yl (i := 7) Zo.nd rfl (Or.inr rfl)) (Yt (Yl (i := 1) Zo.nd rfl (Or.inl rfl)) (Yt (Yl (i := 2) Zo.nd rfl (Or.inl rfl)) Z0y)))))
    (Zh (N8 (passes_of rfl) rfl (U5 (by rfl) (Qz C) (Za (Zf (pv 1)) Zg) (Z6 Zb)) (Yl (i := 3) Zo.nd rfl (Or.inl rfl))
      (Zj (Xg (i := 2) Zo.nd rfl (Or.inl rfl) (f_op (Z21 rfl) (f_op Z7h f_int (Zf (pv 2))) f_int))))
    (Zh (W4 (PW.pt (Z47 (Ys (o_ne hr.units rfl) (Zu rfl G_unfolded_size (hr.mono (by omega)) hG (by rfl) (Yw C) (Y7 C).kp (Xa C) .nil Dfl.nil tk (Za (Zf (pv 7)) (Za (Zf (pv 1)) Zg)) (Z6 (Z6 Zb))) (Zf (pv 2)) (nomark _)) (Z2w (Ys o_lt (Zu rfl G_unfolded_size (hr.mono (by omega)) hG (by rfl) (Yw C) (Y7 C).kp (Xa C) .nil Dfl.nil tk (Za (Z61 rfl (Yr C) (Z1u C) G_Graph_init (hr.mono (by omega)) hG (by rfl) (Jv C) db_Graph_init_0 dv_Graph_init_0 (fun _ _ => (.cons (.int _) .nil)) tk (Za (Z4p rfl (Fx.FldOk.cons (Yr C) (Xf C) .nil) (Zf (pv 7))) Zg) (Z6 Zb)) (Za f_int Zg)) (Z6 (Z6 Zb))) (f_op Zft f_int f_int) (nomark _)))))
      (Zj (Zy f_bl))
      Yq)
    (Zh (W4 (PW.pt (Z47 (Ys (o_ne hr.units rfl) (Nb (k := 56) (dn := none) (F := Zm) (B := Yg) rfl (by rfl) (Vz C) (Z1q (Wf C)) (Vu C) Xk rfl (.inl rfl) (fun _ _ => rfl) U3
      (fun cdv A2 outer2 s2 H2 E2 fl lv hr2 hG2 act _ _ => Wq C B cdv fl lv hr2 hG2 act) (B.b _ Uc) rfl (B.hm Uc) (B.hu Uc) (Z3i (sc := defScope Zr) (N := Uu) (by decide +kernel)) (.non rfl (fun _ _ _ _ _ => rfl)) (hr.mono (by omega)) hG tk
      (fun A2 outer2 s2 H2 E2 f2 c2 hr hG => (Zu rfl G_unfolded (hr.mono (by omega)) hG (by rfl) (Wg C) (X5 C).kp (Vm C) .nil Dfl.nil (takes_of rfl rfl rfl rfl) (Za (Zf (pv 7)) (Za f_int Zg)) (Z6 (Z6 Zb)))) Zg Zb) (f_tup (Za (Y8 [108,97,114,103,101]) (Za f_int Zg)) (Z6 (Z6 Zb))) (nomark _)) (Z2w (Ys (o_ne hr.units rfl) (Y9 (Z2z rfl) (by rfl) (Jx C) (by decide +kernel) (Za (f_ix (Wh hr.units rfl) (Zu rfl G_unfolded (hr.mono (by omega)) hG (by rfl) (Wg C) (X5 C).kp (Vm C) .nil Dfl.nil tk (Za (Zf (pv 7)) (Za f_int Zg)) (Z6 (Z6 Zb))) f_int (fun _ _ => rfl)) Zg)) f_int (nomark _)))))
      (Zj (Zy f_bl))
      Yq)
    (Zh (Xg (i := 4) Zo.nd rfl (Or.inl rfl) (f_op (Z21 rfl) (f_lc (own := [("_law_k", 8)]) (Wr 8) (by decide) rfl Zo.nd (U5 (by rfl) (Qz C) (Za f_int Zg) (Z6 Zb)) (blkOk_by (N := Uu) (sc := defScope Zr) (by decide +kernel)) (fun _ _ _ _ _ => (pg_name (i := 8) Zo.nd rfl (Or.inl rfl))) (fun _ _ _ _ _ => Ws) (fun _ _ _ _ _ => (f_tup (Za (Y8 [115,101,113,117,101,110,99,101]) (Za (Y8 [33,115]) (Za (f_tup (Za (f_op (Z21 rfl) (Zf (pv 8)) f_int) Zg) (Z6 Zb)) Zg))) (Z6 (Z6 (Z6 Zb)))))) (Jj (Za (f_tup (Za (Y8 [115,99,97,108,97,114]) (Za (Y8 [33,33,115,116,114]) (Za (Y8 [101,110,100]) Zg))) (Z6 (Z6 (Z6 Zb)))) Zg) (Z6 Zb))))
    (Zh (Xg (i := 5) Zo.nd rfl (Or.inl rfl) (Zu rfl G_unfolded (hr.mono (by omega)) hG (by rfl) (Wg C) (X5 C).kp (Vm C) .nil Dfl.nil tk (Za (Z61 rfl (Yr C) (Z1u C) G_Graph_init (hr.mono (by omega)) hG (by rfl) (Jv C) db_Graph_init_0 dv_Graph_init_0 (fun _ _ => (.cons (.int _) .nil)) tk (Za (Zf (pv 4)) Zg) (Z6 Zb)) (Za f_int Zg)) (Z6 (Z6 Zb))))
    (Zh (N8 (passes_of rfl) rfl (U5 (by rfl) (Qz C) (Za f_int Zg) (Z6 Zb)) (Yl (i := 3) Zo.nd rfl (Or.inl rfl))
      (Zh (W4 (PW.pt (Z47 (Ys (o_ne hr.units rfl) (f_sl rfl (Zf (pv 5)) Z0x (Z3h f_int)) (f_tup (Za (Y8 [115,101,113,117,101,110,99,101]) (Za (Y8 [33,115]) Zg)) (Z6 (Z6 Zb))) (nomark _)) (Z2w (Ys (o_ne hr.units rfl) (Y9 (Z2z rfl) (by rfl) (Jx C) (by decide +kernel) (Za (f_ix (Wh hr.units rfl) (Zf (pv 5)) f_int (fun _ _ => rfl)) Zg)) f_int (nomark _)))))
        (Zj (Zy f_bl))
        Yq)
      (Zj (Xg (i := 5) Zo.nd rfl (Or.inl rfl) (f_ix (Wh hr.units rfl) (f_ix (Wh hr.units rfl) (Zf (pv 5)) f_int (fun _ _ => rfl)) f_int (fun _ _ => rfl))))))
    (Zh (Xg (i := 6) Zo.nd rfl (Or.inl rfl) (Z61 rfl (Yr C) (Z1u C) G_Graph_init (hr.mono (by omega)) hG (by rfl) (Jv C) db_Graph_init_0 dv_Graph_init_0 (fun _ _ => (.cons (.int _) .nil)) tk (Za (Jj (Za (f_tup (Za (Y8 [109,97,112,112,105,110,103]) (Za (Y8 [33,33,109,97,112]) (Za (f_op (Zi4 rfl) (f_tup (Za (f_tup (Za f_int (Za f_int Zg)) (Z6 (Z6 Zb))) Zg) (Z6 Zb)) f_int) Zg))) (Z6 (Z6 (Z6 Zb)))) (Za (f_tup (Za (Y8 [115,99,97,108,97,114]) (Za (Y8 [33,33,115,116,114]) (Za (Y8 [107]) Zg))) (Z6 (Z6 (Z6 Zb)))) (Za (f_tup (Za (Y8 [115,101,113,117,101,110,99,101]) (Za (Y8 [33,33,115,101,113]) (Za (f_tup (Za f_int (Za f_int (Za f_int Zg))) (Z6 (Z6 (Z6 Zb)))) Zg))) (Z6 (Z6 (Z6 Zb)))) Zg))) (Z6 (Z6 (Z6 Zb)))) Zg) (Z6 Zb)))
    (Zh (W4 (PW.pt (Z47 (Ys (o_ne hr.units rfl) (Zu rfl G_unfolded_size (hr.mono (by omega)) hG (by rfl) (Yw C) (Y7 C).kp (Xa C) .nil Dfl.nil tk (Za (Zf (pv 6)) (Za f_int Zg)) (Z6 (Z6 Zb))) f_int (nomark _)) (Z47 (Ys (o_ne hr.units rfl) (Zu rfl G_unfolded_size (hr.mono (by omega)) hG (by rfl) (Yw C) (Y7 C).kp (Xa C) .nil Dfl.nil tk (Za (Zf (pv 6)) (Za f_int Zg)) (Z6 (Z6 Zb))) f_int (nomark _)) (Z2w (Ys (o_ne hr.units rfl) (Y9 (Z2z rfl) (by rfl) (Jx C) (by decide +kernel) (Za (f_ix (Wh hr.units rfl) (Zu rfl G_unfolded (hr.mono (by omega)) hG (by rfl) (Wg C) (X5 C).kp (Vm C) .nil Dfl.nil tk (Za (Zf (pv 6)) (Za f_int Zg)) (Z6 (Z6 Zb))) f_int (fun _ _ => rfl)) Zg)) f_int (nomark _))))))
      (Zj (Zy f_bl))
      Yq)
    (Zj (Zy (Z5s rfl (Z26 (o_eq hr.units rfl) (Zf (pv 5)) (f_tup (Za (Y8 [115,99,97,108,97,114]) (Za (Y8 [33,33,115,116,114]) (Za (Y8 [101,110,100]) Zg))) (Z6 (Z6 (Z6 Zb)))) (nomark _)) (Z4j (Z26 (o_eq hr.units rfl) (Zu rfl G_unfolded (hr.mono (by omega)) hG (by rfl) (Wg C) (X5 C).kp (Vm C) .nil Dfl.nil tk (Za (Zf (pv 6)) (Za f_int Zg)) (Z6 (Z6 Zb))) (f_tup (Za (Y8 [109,97,112,112,105,110,103]) (Za (Y8 [33,33,109,97,112]) (Za Zak Zg))) (Z6 (Z6 (Z6 Zb)))) (nomark _)))))))))))))))
theorem Z3t : GT P w K mg base 60 (gY "_law_odd_right") Qt 1 Qu := by
  have G_Graph_init := Z0k (P := P) (base := base) C B
  obtain ⟨ds_Graph_init_0,dv_Graph_init_0,db_Graph_init_0⟩ := Z1g C
  have G__law_draw := U0 (P := P) (base := base) C B
  have G_unfolded := Z2s (P := P) (base := base) C B
  have G_unfolded_size := V5 (P := P) (base := base) C B
  refine fnFC (Z8n (Qa C) (Z7n (C.c.fact 1)).2.2) Xh fun A outer s H E hr hG => ?_
  exact (Zh (Xg (i := 4) Xh.nd rfl (Or.inr rfl) (Z61 rfl (Yr C) (Z1u C) G_Graph_init (hr.mono (by omega)) hG (by rfl) (Jv C) db_Graph_init_0 dv_Graph_init_0 (fun _ _ => (.cons (.int _) .nil)) tk (Za (Jj (Za (f_tup (Za (Y8 [115,101,113,117,101,110,99,101]) (Za (Y8 [33,33,115,101,113]) (Za (f_tup (Za f_int (Za f_int Zg)) (Z6 (Z6 Zb))) Zg))) (Z6 (Z6 (Z6 Zb)))) Zg) (Z6 Zb)) Zg) (Z6 Zb)))
    (Zh (N8 (passes_of rfl) rfl (Vp rfl (f_tup (Za Zak (Za (f_op Z5t f_int f_int) (Za f_int (Za f_bl (Za (Y8 [49]) (Za (Jj Zg Zb) (Za (Zbq pe_dnewK) (Za (f_tup (Za f_int Zg) (Z6 Zb)) (Za (f_op Zft f_int f_int) Zg))))))))) (Z6 (Z6 (Z6 (Z6 (Z6 (Z6 (Z6 (Z6 (Z6 Zb))))))))))) (Yl (i := 3) Xh.nd rfl (Or.inr rfl))
      (Zh (Xg (i := 1) Xh.nd rfl (Or.inl rfl) (f_tup (Za (Y8 [100,101,112,116,104]) (Za (Y9 (Z6w rfl hG hr.units) (by rfl) (Z78 C) (by decide +kernel) (Za (Zf (pv 3)) Zg)) Zg)) (Z6 (Z6 Zb))))
      (Zh (W4 (Ys (o_ne hr.units rfl) (Nb (k := 56) (dn := none) (F := Zm) (B := Yg) rfl (by rfl) (Vz C) (Z1q (Wf C)) (Vu C) Xk rfl (.inl rfl) (fun _ _ => rfl) U3
      (fun cdv A2 outer2 s2 H2 E2 fl lv hr2 hG2 act _ _ => Wq C B cdv fl lv hr2 hG2 act) (B.b _ Yb) rfl (B.hm Yb) (B.hu Yb) (Z3i (sc := defScope Zt) (N := V2) (by decide +kernel)) (.non rfl (fun _ _ _ _ _ => rfl)) (hr.mono (by omega)) hG tk
      (fun A2 outer2 s2 H2 E2 f2 c2 hr hG => (Zu rfl G_unfolded (hr.mono (by omega)) hG (by rfl) (Wg C) (X5 C).kp (Vm C) .nil Dfl.nil (takes_of rfl rfl rfl rfl) (Za (Zf (pv 4)) (Za (Zf (pv 3)) Zg)) (Z6 (Z6 Zb)))) Zg Zb) (Zf (pv 1)) (nomark _))
        (Zj (Zy f_bl))
        Yq)
      (Zj (W4 (Ys (o_ne hr.units rfl) (Nb (k := 4) (dn := none) (F := Zm) (B := Yg) rfl (by rfl) (Vz C) (Z1q (Wf C)) (Vu C) Xk rfl (.inl rfl) (fun _ _ => rfl) U3
      (fun cdv A2 outer2 s2 H2 E2 fl lv hr2 hG2 act _ _ => Wq C B cdv fl lv hr2 hG2 act) (B.b _ Yb) rfl (B.hm Yb) (B.hu Yb) (Z3i (sc := defScope Zt) (N := V2) (by decide +kernel)) (.non rfl (fun _ _ _ _ _ => rfl)) (hr.mono (by omega)) hG tk
      (fun A2 outer2 s2 H2 E2 f2 c2 hr hG => (Z9o rfl G_unfolded_size (hr.mono (by omega)) hG (by rfl) (Yw C) (Y7 C).kp (Qx C) (takes_of rfl rfl rfl rfl) Qy (Z6s (Zf (pv 4)) (Z6s (Zf (pv 3)) Zf0)) (Z33 (Z33 Z9n)))) Zg Zb) (Zf (pv 1)) (nomark _))
        (Zj (Zy f_bl))
        Yq)))))
    (Zh (Xg (i := 2) Xh.nd rfl (Or.inr rfl) (f_op (Z21 rfl) f_int (Zu rfl G__law_draw (hr.mono (by omega)) hG (by rfl) (Yk C) (Y6 C).kp (Yi C) .nil Dfl.nil tk (Za (Zf (pv 0)) (Za f_int Zg)) (Z6 (Z6 Zb)))))
    (Zj (Zy (Z26 (o_eq hr.units rfl) (Nb (k := 56) (dn := none) (F := Zm) (B := Yg) rfl (by rfl) (Vz C) (Z1q (Wf C)) (Vu C) Xk rfl (.inl rfl) (fun _ _ => rfl) U3
      (fun cdv A2 outer2 s2 H2 E2 fl lv hr2 hG2 act _ _ => Wq C B cdv fl lv hr2 hG2 act) (B.b _ Yb) rfl (B.hm Yb) (B.hu Yb) (Z3i (sc := defScope Zt) (N := V2) (by decide +kernel)) (.non rfl (fun _ _ _ _ _ => rfl)) (hr.mono (by omega)) hG tk
      (fun A2 outer2 s2 H2 E2 f2 c2 hr hG => (Z9o rfl G_unfolded (hr.mono (by omega)) hG (by rfl) (Wg C) (X5 C).kp (Z0i C) (takes_of rfl rfl rfl rfl) Z0j (Z6s (Zf (pv 4)) (Z6s (Zf (pv 2)) Zf0)) (Z33 (Z33 Z9n)))) Zg Zb) (f_tup (Za (Y8 [100,101,112,116,104]) (Za (Y9 (Z6w rfl hG hr.units) (by rfl) (Z78 C) (by decide +kernel) (Za (Zf (pv 2)) Zg)) Zg)) (Z6 (Z6 Zb))) (nomark _)))))))
theorem Z5y : GT P w K mg base 1 (gY "_law_within") Z06 1 Wn := by
  refine fnFD (N7 C) Ql fun cdv A outer s H E hr hG => ?_
  exact (Zh (W4 (Ys (o_eq hr.units rfl) (f_ix (Wh hr.units rfl) (Zf (pv 0)) f_int (fun _ _ => rfl)) (Y8 [115,99,97,108,97,114]) (nomark _))
      (Zj (Zy (Jj Zg Zb)))
      Yq)
    (Zh (W4 (Ys (o_eq hr.units rfl) (f_ix (Wh hr.units rfl) (Zf (pv 0)) f_int (fun _ _ => rfl)) (Y8 [115,101,113,117,101,110,99,101]) (nomark _))
      (Zj (Zy (X8 (Zbl rfl) (by rfl) (Z5n C) (by decide +kernel) (Za (f_ix (Wh hr.units rfl) (Zf (pv 0)) f_int (fun _ _ => rfl)) Zg))))
      Yq)
    (Zh (Xg (i := 1) Ql.nd rfl (Or.inl rfl) (Jj Zg Zb))
    (Zh (N8 (passes_of rfl) rfl (Vp rfl (f_ix (Wh hr.units rfl) (Zf (pv 0)) f_int (fun _ _ => rfl))) (Yl (i := 2) Ql.nd rfl (Or.inl rfl))
      (Zj (Xg (i := 1) Ql.nd rfl (Or.inl rfl) (f_op (Z21 rfl) (Zf (pv 1)) (Jj (Za (f_ix (Wh hr.units rfl) (Zf (pv 2)) f_int (fun _ _ => rfl)) (Za (f_ix (Wh hr.units rfl) (Zf (pv 2)) f_int (fun _ _ => rfl)) Zg)) (Z6 (Z6 Zb)))))))
    (Zj (Zy (Zf (pv 1))))))))
theorem Z7a : GT P w K mg base 2 (gY "_law_sizes") Z15 2 Jr := by
  have G__law_within := Z5y (P := P) (base := base) C B
  refine fnFD (Z0h C) Xb fun cdv A outer s H E hr hG => ?_
  exact (Zh (Xg (i := 2) Xb.nd rfl (Or.inr rfl) (f_op Z7h (Jj (Za f_int Zg) (Z6 Zb)) (Y9 (Z2z rfl) (by rfl) (Jx C) (by decide +kernel) (Za (Zf (pv 0)) Zg))))
    (Zh (N8 (passes_of rfl) rfl (U5 (by rfl) (Qz C) (Za (Zf (pv 1)) Zg) (Z6 Zb)) (Yl (i := 3) Xb.nd rfl (Or.inl rfl))
      (Zj (Xg (i := 2) Xb.nd rfl (Or.inr rfl) (f_lc (own := [("_law_node_here", 4)]) (Wr 4) (by decide) rfl Xb.nd (Vp rfl (Zf (pv 0))) (blkOk_by (N := Jp) (sc := defScope Xl) (by decide +kernel)) (fun _ _ _ _ _ => (pg_name (i := 4) Xb.nd rfl (Or.inl rfl))) (fun _ _ _ _ _ => Ws) (fun _ _ _ _ _ => (f_op (Z21 rfl) f_int (Y9 (Zih rfl rfl) (by rfl) (Zf9 C) (by decide +kernel) (Za (f_lc (own := [("_law_one_here", 5)]) (Wr 5) (by decide) rfl Xb.nd (Vp rfl (Zu rfl G__law_within (hr.mono (by omega)) hG (by rfl) (Z5x C) (N7 C).kp (Z5w C) .nil Dfl.nil Wz (Za (Zf (pv 4)) Zg) (Z6 Zb))) (by first | exact (blkOk_by (N := Jp) (sc := { kind := .function, names := [(".0", .local), ("_law_node_here", .local), ("sum", .globalImplicit), ("_law_within", .globalImplicit), ("_law_found", .free)], isGenerator := false, isCoroutine := false }) (by decide +kernel)) | exact (blkOk_by (N := Jp) (sc := { kind := .function, names := [(".0", .local), ("_law_node_here", .local), ("sum", .globalImplicit), ("_law_within", .globalImplicit), ("_law_found", .cell)], isGenerator := false, isCoroutine := false }) (by decide +kernel))) (fun _ _ _ _ _ => (pg_name (i := 5) Xb.nd rfl (Or.inl rfl))) (fun _ _ _ _ _ => Ws) (fun _ _ _ _ _ => (f_ix (Wh hr.units rfl) (Zf (pv 2)) (Zf (pv 5)) (fun _ _ => rfl)))) Zg))))))))
    (Zj (Zy (Zf (pv 2))))))
theorem Z8b (n : Nat) (R : Rc_1) (G__law_tree : GT P w K mg base (0 + n) (gY "_law_tree") Uw 3 R._law_tree) : GT P w K mg base (0 + n + 1) (gY "_law_tree") Uw 3 (runF 10 (We R)) := by
  refine fnFD (Vv C) Xc fun cdv A outer s H E hr hG => ?_
  exact (Zh (Z2y (f_ix (Wh hr.units rfl) (Zf (pv 0)) (Zf (pv 1)) (fun _ _ => rfl)) (Z3u rfl rfl (Yt (Yl (i := 3) Xc.nd rfl (Or.inl rfl)) (Yt (Yl (i := 4) Xc.nd rfl (Or.inl rfl)) (Yt (Yl (i := 5) Xc.nd rfl (Or.inl rfl)) Z0y)))))
    (Zh (W4 (Ys (o_eq hr.units rfl) (Zf (pv 3)) (Y8 [115,99,97,108,97,114]) (nomark _))
      (Zj (Zy (f_tup (Za (Y8 [115,99,97,108,97,114]) (Za (Zf (pv 4)) (Za (Zf (pv 5)) Zg))) (Z6 (Z6 (Z6 Zb))))))
      Yq)
    (Zh (W4 (Ys (o_eq hr.units rfl) (Zf (pv 2)) f_int (nomark _))
      (Zj (Zy (f_tup (Za (Zf (pv 3)) (Za (Zf (pv 4)) (Za (f_ix (Wh hr.units rfl) (Zi1 (Zc5 (Y8 [115,101,113,117,101,110,99,101]) (Y9 (Z2z rfl) (by rfl) (Jx C) (by decide +kernel) (Za (Zf (pv 5)) Zg)) (Zc5 (Y8 [109,97,112,112,105,110,103]) Zak Zi0))) (Zf (pv 3)) (fun _ _ => rfl)) Zg))) (Z6 (Z6 (Z6 Zb))))))
      Yq)
    (Zh (W4 (Ys (o_eq hr.units rfl) (Zf (pv 3)) (Y8 [115,101,113,117,101,110,99,101]) (nomark _))
      (Zj (Zy (f_tup (Za (Y8 [115,101,113,117,101,110,99,101]) (Za (Zf (pv 4)) (Za (X8 (Z28 rfl) (by rfl) (Uo C) (by decide +kernel) (Za (f_lc (own := [("_law_one_here", 9)]) (Wr 9) (by decide) rfl Xc.nd (Vp rfl (Zf (pv 5))) (blkOk_by (N := Z53) (sc := defScope Wd) (by decide +kernel)) (fun _ _ _ _ _ => (pg_name (i := 9) Xc.nd rfl (Or.inl rfl))) (fun _ _ _ _ _ => Ws) (fun _ _ _ _ _ => (Zu rfl G__law_tree (hr.mono (by omega)) hG (by rfl) (Jw C) (Vv C).kp (Ju C) .nil Dfl.nil Wz (Za (Zf (pv 0)) (Za (Zf (pv 9)) (Za (f_op Z5t (Zf (pv 2)) f_int) Zg))) (Z6 (Z6 (Z6 Zb)))))) Zg)) Zg))) (Z6 (Z6 (Z6 Zb))))))
      Yq)
    (Zh (Xg (i := 6) Xc.nd rfl (Or.inl rfl) (Jj Zg Zb))
    (Zh (N8 (passes_of rfl) rfl (Vp rfl (Zf (pv 5))) (Z3u rfl rfl (Yt (Yl (i := 7) Xc.nd rfl (Or.inl rfl)) (Yt (Yl (i := 8) Xc.nd rfl (Or.inl rfl)) Z0y)))
      (Zj (Z27 (f_bm rfl PySem.F.plainAttrs_list PySem.F.slot_list_append PySem.F.type_list_append m_append (Zf (pv 6)) (Za (f_tup (Za (Zu rfl G__law_tree (hr.mono (by omega)) hG (by rfl) (Jw C) (Vv C).kp (Ju C) .nil Dfl.nil tk (Za (Zf (pv 0)) (Za (Zf (pv 7)) (Za (f_op Z5t (Zf (pv 2)) f_int) Zg))) (Z6 (Z6 (Z6 Zb)))) (Za (Zu rfl G__law_tree (hr.mono (by omega)) hG (by rfl) (Jw C) (Vv C).kp (Ju C) .nil Dfl.nil tk (Za (Zf (pv 0)) (Za (Zf (pv 8)) (Za (f_op Z5t (Zf (pv 2)) f_int) Zg))) (Z6 (Z6 (Z6 Zb)))) Zg)) (Z6 (Z6 Zb))) Zg)))))
    (Zj (Zy (f_tup (Za (Y8 [109,97,112,112,105,110,103]) (Za (Zf (pv 4)) (Za (X8 (Z28 rfl) (by rfl) (Uo C) (by decide +kernel) (Za (Zf (pv 6)) Zg)) Zg))) (Z6 (Z6 (Z6 Zb))))))))))))
theorem fam_1 : ∀ n : Nat, GT P w K mg base (0 + n) (gY "_law_tree") Uw 3 (Zb1 n)._law_tree := by
  intro n
  induction n with
  | zero => exact Z7s rfl
  | succ n ih =>
    have h__law_tree := ih
    exact Z8b C B n _ h__law_tree
theorem Z8c : GT P w K mg base 55 (gY "_law_tree") Uw 3 Z2n := (fam_1 C B 55)
theorem Z96 : GT P w K mg base 1 (mY "Graph" "__eq__") Z67 2 Zb3 := by
  refine fnFD (Z92 C) Z8v fun cdv A outer s H E hr hG => ?_
  exact (Zj (Zy (Z5s rfl (Zhx rfl (Z75 C) (by rfl) (Yd C) (by decide +kernel) (by rfl) (Jv C) (Zf (pv 1))) (Z4j (Z26 (o_eq hr.units rfl) (f_tup (Za (Z4p rfl (Fx.FldOk.cons (Yr C) (Xf C) .nil) (Zf (pv 0))) (Za (Z4p rfl (Fx.FldOk.cons (Yr C) (Vx C) .nil) (Zf (pv 0))) Zg)) (Z6 (Z6 Zb))) (f_tup (Za (Z4p rfl (Fx.FldOk.cons (Yr C) (Xf C) .nil) (Zf (pv 1))) (Za (Z4p rfl (Fx.FldOk.cons (Yr C) (Vx C) .nil) (Zf (pv 1))) Zg)) (Z6 (Z6 Zb))) (nomark _))))))
theorem Z2t : GT P w K mg base 60 (gY "_law_depth_right") Ub 3 Ul := by
  have G_Graph_init := Z0k (P := P) (base := base) C B
  obtain ⟨ds_Graph_init_1,dv_Graph_init_1,db_Graph_init_1⟩ := Z5h C
  have G__law_sizes := Z7a (P := P) (base := base) C B
  have G_unfolded := Z2s (P := P) (base := base) C B
  have G__law_tree := Z8c (P := P) (base := base) C B
  have G_unfolded_size := V5 (P := P) (base := base) C B
  have G_Graph_eq := Z96 (P := P) (base := base) C B
  refine fnFC (Z8n (Vn C) (Z7n (C.c.fact 2)).2.2) Xp fun A outer s H E hr hG => ?_
  exact (Zh (Z2y (f_tup (Za (Z61 rfl (Yr C) (Z1u C) G_Graph_init (hr.mono (by omega)) hG (by rfl) (Jv C) db_Graph_init_1 dv_Graph_init_1 (fun _ _ => .nil) tk (Za (Zf (pv 0)) (Za (Zf (pv 1)) Zg)) (Z6 (Z6 Zb))) (Za (f_ix (Wh hr.units rfl) (Zu rfl G__law_sizes (hr.mono (by omega)) hG (by rfl) (Z76 C) (Z0h C).kp (Z71 C) .nil Dfl.nil tk (Za (Zf (pv 0)) (Za (Zf (pv 2)) Zg)) (Z6 (Z6 Zb))) (Zf (pv 1)) (fun _ _ => rfl)) Zg)) (Z6 (Z6 Zb))) (Z3u rfl rfl (Yt (Yl (i := 5) Xp.nd rfl (Or.inr rfl)) (Yt (Yl (i := 3) Xp.nd rfl (Or.inl rfl)) Z0y))))
    (Zh (W4 (Ys (o_ne hr.units rfl) (Nb (k := 4) (dn := none) (F := Zm) (B := Yg) rfl (by rfl) (Vz C) (Z1q (Wf C)) (Vu C) Xk rfl (.inl rfl) (fun _ _ => rfl) U3
      (fun cdv A2 outer2 s2 H2 E2 fl lv hr2 hG2 act _ _ => Wq C B cdv fl lv hr2 hG2 act) (B.b _ Yp) rfl (B.hm Yp) (B.hu Yp) (Z3i (sc := defScope Zq) (N := Ua) (by decide +kernel)) (.non rfl (fun _ _ _ _ _ => rfl)) (hr.mono (by omega)) hG tk
      (fun A2 outer2 s2 H2 E2 f2 c2 hr hG => (Zu rfl G_unfolded_size (hr.mono (by omega)) hG (by rfl) (Yw C) (Y7 C).kp (Xa C) .nil Dfl.nil (takes_of rfl rfl rfl rfl) (Za (Zf (pv 5)) (Za (Zf (pv 2)) Zg)) (Z6 (Z6 Zb)))) Zg Zb) (f_tup (Za (Y8 [116,111,108,100]) (Za (Zf (pv 3)) Zg)) (Z6 (Z6 Zb))) (nomark _))
      (Zj (Zy f_bl))
      Yq)
    (Zh (Xg (i := 4) Xp.nd rfl (Or.inl rfl) (Nb (k := 56) (dn := none) (F := Zm) (B := Yg) rfl (by rfl) (Vz C) (Z1q (Wf C)) (Vu C) Xk rfl (.inl rfl) (fun _ _ => rfl) U3
      (fun cdv A2 outer2 s2 H2 E2 fl lv hr2 hG2 act _ _ => Wq C B cdv fl lv hr2 hG2 act) (B.b _ Yp) rfl (B.hm Yp) (B.hu Yp) (Z3i (sc := defScope Zq) (N := Ua) (by decide +kernel)) (.non rfl (fun _ _ _ _ _ => rfl)) (hr.mono (by omega)) hG tk
      (fun A2 outer2 s2 H2 E2 f2 c2 hr hG => (Zu rfl G_unfolded (hr.mono (by omega)) hG (by rfl) (Wg C) (X5 C).kp (Vm C) .nil Dfl.nil (takes_of rfl rfl rfl rfl) (Za (Zf (pv 5)) (Za (Zf (pv 2)) Zg)) (Z6 (Z6 Zb)))) Zg Zb))
    (Zh (W4 (Ys Ze2 (Zf (pv 2)) f_int (nomark _))
      (Zj (Zy (Z26 (Zgn (room200 hr) rfl) (Zf (pv 4)) (f_tup (Za (Y8 [100,101,112,116,104]) (Za (Y9 (Z6w rfl hG hr.units) (by rfl) (Z78 C) (by decide +kernel) (Za (Zf (pv 2)) Zg)) Zg)) (Z6 (Z6 Zb))) (nomark _))))
      Yq)
    (Zh (W4 (Ys Ze2 (Zf (pv 3)) f_int (nomark _))
      (Zj (Zy (Z26 (Zgn (room200 hr) rfl) (Zf (pv 4)) (f_tup (Za (Y8 [108,97,114,103,101]) (Za f_int Zg)) (Z6 (Z6 Zb))) (nomark _))))
      Yq)
    (Zj (Zy (Z26 (Zgn (room200 hr) rfl) (Zf (pv 4)) (f_tup (Za (Y8 [116,111,108,100]) (Za (Zu rfl G__law_tree (hr.mono (by omega)) hG (by rfl) (Jw C) (Vv C).kp (Ju C) .nil Dfl.nil tk (Za (Zf (pv 0)) (Za (Zf (pv 1)) (Za (Zf (pv 2)) Zg))) (Z6 (Z6 (Z6 Zb)))) Zg)) (Z6 (Z6 Zb))) (nomark _)))))))))
theorem Ziq : GT P w K mg base 61 (gY "law") Zgd 1 Zgr := by
  have G__law_well := Z88 (P := P) (base := base) C B
  have G__law_nodes := Z79 (P := P) (base := base) C B
  have G__law_draw := U0 (P := P) (base := base) C B
  have G__law_hand_right := Z3d (P := P) (base := base) C B
  have G__law_odd_right := Z3t (P := P) (base := base) C B
  have G__law_depth_right := Z2t (P := P) (base := base) C B
  refine fnFD (Zf8 C) Z55 fun cdv A outer s H E hr hG => ?_
  exact (Zh (N8 (passes_of rfl) rfl (Vp rfl (f_op (Z21 rfl) (f_sl rfl (Zf (pv 0)) Z0x (Z3h f_int)) (Jj (Za f_int Zg) (Z6 Zb)))) (Yl (i := 1) Z55.nd rfl (Or.inl rfl))
      (Zh (Xg (i := 2) Z55.nd rfl (Or.inl rfl) (Zu rfl G__law_well (hr.mono (by omega)) hG (by rfl) (Z86 C) (Z1b C).kp (Z80 C) .nil Dfl.nil tk (Za (Zf (pv 1)) Zg) (Z6 Zb)))
      (Zh (Xg (i := 3) Z55.nd rfl (Or.inl rfl) (f_op (Z21 rfl) f_int (Zu rfl G__law_draw (hr.mono (by omega)) hG (by rfl) (Yk C) (Y6 C).kp (Yi C) .nil Dfl.nil tk (Za (Zf (pv 2)) (Za f_int Zg)) (Z6 (Z6 Zb)))))
      (Zh (Xg (i := 4) Z55.nd rfl (Or.inl rfl) (Zu rfl G__law_nodes (hr.mono (by omega)) hG (by rfl) (Z77 C) (Z0f C).kp (Z70 C) .nil Dfl.nil tk (Za (Zf (pv 2)) (Za (Zf (pv 3)) Zg)) (Z6 (Z6 Zb))))
      (Zh (N8 (passes_of rfl) rfl (U5 (by rfl) (Qz C) (Za (Zf (pv 3)) Zg) (Z6 Zb)) (Yl (i := 5) Z55.nd rfl (Or.inl rfl))
        (Zj (N8 (passes_of rfl) rfl (Vp rfl (Jj (Za f_int (Za f_int (Za f_int (Za (f_op (Z21 rfl) f_int (Zu rfl G__law_draw (hr.mono (by omega)) hG (by rfl) (Yk C) (Y6 C).kp (Yi C) .nil Dfl.nil tk (Za (Zf (pv 2)) (Za f_int Zg)) (Z6 (Z6 Zb)))) (Za (Zu rfl G__law_draw (hr.mono (by omega)) hG (by rfl) (Yk C) (Y6 C).kp (Yi C) .nil Dfl.nil tk (Za (Zf (pv 2)) (Za f_int Zg)) (Z6 (Z6 Zb))) Zg))))) (Z6 (Z6 (Z6 (Z6 (Z6 Zb))))))) (Yl (i := 6) Z55.nd rfl (Or.inl rfl))
          (Zj (W4 (Jb (Uq rfl (Zu rfl G__law_depth_right (hr.mono (by omega)) hG (by rfl) (Z2r C) (Vn C).kp (Z2p C) .nil Dfl.nil tk (Za (Zf (pv 4)) (Za (Zf (pv 5)) (Za (Zf (pv 6)) Zg))) (Z6 (Z6 (Z6 Zb))))))
            (Zj (Zy f_bl))
            Yq)))))
      (Zj (W4 (PW.pt (Z47 (Jb (Uq rfl (Zu rfl G__law_hand_right (hr.mono (by omega)) hG (by rfl) (Z3c C) (Um C).kp (Z3b C) .nil Dfl.nil tk (Za (Zf (pv 2)) Zg) (Z6 Zb)))) (Z2w (Jb (Uq rfl (Zu rfl G__law_odd_right (hr.mono (by omega)) hG (by rfl) (Z3s C) (Qa C).kp (Z3r C) .nil Dfl.nil tk (Za (Zf (pv 2)) Zg) (Z6 Zb)))))))
        (Zj (Zy f_bl))
        Yq)))))))
    (Zj (Zy f_bl)))
end
end Ap
set_option maxHeartbeats 4000000
namespace Ap
open PySem PySem.Spec PyProof.Rows L2 SX Fx
theorem Z8d {Z : Sto} {w : Nat} (hw : Wel Z w) (n : Nat) (h0 : 0 < n) (h1 : n < 2 ^ 200) :
    ∃ (r : Nat) (Z' : Sto), r < n ∧ Zx [.loc w, .int n] Z = .ok (.int r) Z' ∧ Kp w Z Z' := by
  have hw' := hw
  obtain ⟨a,b,c,hw⟩ := hw
  have hn : (0 : Int) < (n : Int) := by omega
  have hn2 : ((n : Int) < 1606938044258990275541962092341162602522202993782792835301376) := by omega
  by_cases ha : 0 < a
  · obtain ⟨r,hr,e⟩ := modN a h0
    refine ⟨r, Z.set w (.lst [.int (a / n), .int b, .int c]), hr, ?_, Kp.turn hw'⟩
    simp [Zx,runF,Z2h,Z5a _ hw,Zf6 _ _ hw,hw,ha,h0,h1,hn2,e,ixN]
  · have e1 := Wj (us := [.int a,.int b,.int (c + 1)]) hw
    generalize hx : ((b + 9973 * (c + 1) + 17) * 48271 : Int) % 2147483647 = x
    generalize hy : (x * (x / 1021 + 69621 + (c + 1)) : Int) % 2147483587 = y
    have mx : ∀ z,mulOk x z = true := fun z => hx ▸ Z69 _ _ _ (by decide) (by decide)
    have my : ∀ z,mulOk y z = true := fun z => hy ▸ Z69 _ _ _ (by decide) (by decide)
    obtain ⟨r,hr,e⟩ := modN (y * (y / 2011 + 40692) % 2147483399 / 7) h0
    refine ⟨r, Z.set w (.lst [.int a, .int b, .int (c + 1)]), hr, ?_, Kp.turn hw'⟩
    simp [Zx,runF,Z2h,Z5a _ hw,Zf6 _ _ hw,Z5a _ e1,hw,ha,h0,h1,hn2,e,e1,hx,hy,mx,my,ixN]
theorem Z0l {Z : Sto} {w : Nat} (hw : Wel Z w) (n : Nat) (i : Int) (hi : i = (n : Int)) (h0 : 0 < n) (h1 : n < 2 ^ 200) :
    ∃ (r : Nat) (Z' : Sto), r < n ∧ Zx [.loc w, .int i] Z = .ok (.int r) Z' ∧ Kp w Z Z' := by
  subst hi; exact Z8d hw n h0 h1
theorem Z4j {Z : Sto} {w l : Nat} {xs : List Fx.T} (hw : Wel Z w) (hl : getL Z l = some xs) (hn : l ≠ w) (h0 : 0 < xs.length) (h1 : xs.length < 2 ^ 200) :
    ∃ t ∈ xs, ∃ Z', Wk [.loc w, .loc l] Z = .ok t Z' ∧ Kp w Z Z' := by
  obtain ⟨r, Z', hr, e, k⟩ := Z8d hw xs.length h0 h1
  have ex : xs[r]? = some xs[r] := List.getElem?_eq_getElem hr
  refine ⟨xs[r], List.getElem_mem hr, Z', ?_, k⟩
  simp [Wk,runF,Z6b,hl,e,Z5a _ (k.getL hn hl),Fx.atI_nat ex]
theorem Za8 {Z : Sto} {w : Nat} {xs : List Fx.T} (hw : Wel Z w) (h0 : 0 < xs.length) (h1 : xs.length < 2 ^ 200) :
    ∃ t ∈ xs, ∃ Z', Wk [.loc w, .loc Z.length] (Z ++ [.lst xs]) = .ok t Z' ∧ Kp w Z Z' := by
  have k := Kp.new (Y := [.lst xs]) hw
  obtain ⟨t, ht, Z', e, k2⟩ := Z4j k.wel (Zk Z xs) (Nat.ne_of_gt hw.lt) h0 h1
  exact ⟨t, ht, Z', e, k.trans k2⟩
theorem Zir (c : Int) (Z : Sto) : ∃ a b d : Int,Z07 [.int c] Z = .ok (.loc Z.length) (Z ++ [.lst [.int a,.int b,.int d]]) := by
  by_cases hb : (1000000000000000000 : Int) ≤ c <;> simp [Z07,runF,Z5d,hb]
def numOk (m : Int) : Fx.T → Bool
  | .int n => decide (0 ≤ n) && decide (n ≤ m)
  | _ => false
theorem Z6g (n m : Int) (Z : Sto) : Ye [.int n,.int 0,.int m] Z = .ok (.bl (numOk m (.int n))) Z := by
  have g1 : ∀ Z, gIsi [.int n, .ty "int"] Z = some (.bl true, Z) := fun Z => rfl
  have g2 : ∀ Z, gIsi [.int n, .ty "bool"] Z = some (.bl false, Z) := fun Z => rfl
  by_cases h : 0 ≤ n <;> simp [Ye,runF,Z39,g1,g2,numOk,h]
theorem Jy {t : Fx.T} {m : Int} {Z : Sto} (h : gIsi [t, .ty "int"] Z = some (.bl false, Z)) : Ye [t, .int 0, .int m] Z = .ok (.bl false) Z := by
  simp [Ye,runF,Z39,h]
theorem Zcu (b : Bool) (m : Int) (Z : Sto) : Ye [.bl b,.int 0,.int m] Z = .ok (.bl false) Z := by
  have g1 : ∀ Z, gIsi [.bl b, .ty "int"] Z = some (.bl true, Z) := fun Z => rfl
  have g2 : ∀ Z, gIsi [.bl b, .ty "bool"] Z = some (.bl true, Z) := fun Z => rfl
  simp [Ye,runF,Z39,g1,g2]
theorem Zfa {t : Fx.T} (h : ∀ i,t ≠ .loc i) (h2 : tyT t [] ≠ none) (m : Int) (Z : Sto) : Ye [t,.int 0,.int m] Z = .ok (.bl (numOk m t)) Z := by
  cases t with
  | int n => exact Z6g n m Z
  | bl b => exact Zcu b m Z
  | loc i => exact absurd rfl (h i)
  | non => exact Jy rfl
  | str l => exact Jy rfl
  | tup l => exact Jy rfl
  | frl l => exact Jy rfl
  | _ => exact absurd rfl h2
theorem Zis {t s : List Nat} (h0 : t ≠ []) (hl : t.length ≤ Lim) (Z : Sto) : Xq [.str t,.str s] Z = .ok (.bl (t.all fun c => decide (c ∈ s))) (Z ++ [.lst (t.map fun c => .bl (decide (c ∈ s)))]) := by
  have e := Z3o (Z1 := Z) (it := itStr t) (ts := t.map fun c => Fx.T.str [c]) (put := fun x => putN [2] x (wipeR [some (.str t),some (.str s),none] [2])) (c := eYes) (e := Z0b) (Zgk t) (by rw [List.length_map]; exact hl) (fun _ => true) (fun x => match x with | .str [c] => .bl (decide (c ∈ s)) | _ => .non) (fun x hx => by
    obtain ⟨c,hc,rfl⟩ := List.mem_map.mp hx
    refine ⟨_,rfl,fun acc => ⟨rfl,fun _ => ?_⟩⟩
    simp [Z0b,wipeR,putN])
  have em : ((t.map fun c => Fx.T.str [c]).filter (fun _ => true)).map (fun x => match x with | .str [c] => Fx.T.bl (decide (c ∈ s)) | _ => .non) = t.map fun c => Fx.T.bl (decide (c ∈ s)) := by
    rw [List.filter_eq_self.mpr (fun _ _ => rfl),List.map_map]; rfl
  rw [em] at e
  have hb := Z38 (fun c => decide (c ∈ s)) t
  simp [Xq,runF,Z2k,h0,e,hb]
def isT (t : List Nat) : Bool := List.isPrefixOf [33] t && (let r := if List.isPrefixOf [33,33] t = true then t.drop 2 else t.drop 1; !decide (r = []) && r.all fun c => decide (c ∈ V9))
theorem are_0 (s : List Nat) (Z : Sto) : Xq [.str [],.str s] Z = .ok (.bl false) Z := by
  simp [Xq,runF,Z2k]
theorem Zcv (t : List Nat) (hl : t.length ≤ Lim) (Z : Sto) : ∃ Y,Z0c [.str t] Z = .ok (.bl (isT t)) (Z ++ Y) := by
  have g1 : ∀ Z, gIsi [.str t, .ty "str"] Z = some (.bl true, Z) := fun Z => rfl
  unfold isT
  by_cases h1 : List.isPrefixOf [33] t = true
  · obtain ⟨r,hr,hrl,he⟩ : ∃ r,(if List.isPrefixOf [33,33] t = true then t.drop 2 else t.drop 1) = r ∧ r.length ≤ Lim ∧ ∀ q,Xq [.str r,.str V9] Z = q → Z0c [.str t] Z = q := by
      refine ⟨_,rfl,?_,fun q hq => ?_⟩
      · split
        · rw [List.length_drop]; omega
        · rw [List.length_drop]; omega
      · by_cases h2 : List.isPrefixOf [33,33] t = true
        · rw [if_pos h2] at hq
          have s2 : cutL t (some 2) none = t.drop 2 := Z9d t 2
          cases hF : Xq [.str (t.drop 2),.str V9] Z <;> (rw [hF] at hq; subst hq; simp [Z0c,runF,Z4g,g1,h1,h2,s2,hl,hF])
        · rw [if_neg h2] at hq
          have s1 : cutL t (some 1) none = t.drop 1 := Z9d t 1
          generalize t.drop 1 = D at *
          cases hF : Xq [.str D,.str V9] Z <;> (rw [hF] at hq; subst hq; simp [Z0c,runF,Z4g,g1,h1,h2,s1,hl,hF])
    simp only [h1,hr,Bool.true_and]
    by_cases h0 : r = []
    · subst h0
      refine ⟨[],?_⟩
      rw [he _ (are_0 _ _),List.append_nil]; rfl
    · rw [he _ (Zis h0 hrl Z),decide_eq_false h0]
      exact ⟨_,rfl⟩
  · refine ⟨[],?_⟩
    have h1' : List.isPrefixOf [33] t = false := Bool.eq_false_iff.mpr h1
    simp [Z0c, runF, Z4g, g1, h1']
end Ap
set_option maxHeartbeats 4000000
namespace Ap
open PySem PySem.Spec PyProof.Rows L2 SX Fx
theorem set_mid {α : Type} : ∀ (A : List α) (x y : α) (B : List α),(A ++ x :: B).set A.length y = A ++ y :: B
  | [],_,_,_ => rfl
  | a :: A,x,y,B => congrArg (a :: ·) (set_mid A x y B)
theorem Z7b (A : Sto) (ts : List Fx.T) (B : Sto) : getL (A ++ .lst ts :: B) A.length = some ts := by simp [getL]
theorem Zgt {a b : Fx.T} (ha : ∀ i,a ≠ .loc i) (ha2 : tyT a [] ≠ none) (hb : ∀ i,b ≠ .loc i) (hb2 : tyT b [] ≠ none) (size : Int) (Z : Sto) : Nu [.tup [a,b],.int size] Z = .ok (.bl (numOk (size - 1) a && numOk (size - 1) b)) (Z ++ [.lst [.bl (numOk (size - 1) a),.bl (numOk (size - 1) b)]]) := by
  have e := Z3o (Z1 := Z) (ts := [a,b]) (put := fun x => putN [2] x (wipeR [some (.tup [a,b]),some (.int size),none] [2])) (c := eYes) (e := Z1a) (Z8x _) (by simp [Lim]) (fun _ => true) (fun x => .bl (numOk (size - 1) x)) (fun x hx => by
    refine ⟨_,rfl,fun acc => ⟨rfl,fun _ => ?_⟩⟩
    have hf : Ye [x,.int 0,.int (size - 1)] (Z ++ [.lst acc]) = .ok (.bl (numOk (size - 1) x)) (Z ++ [.lst acc]) := by
      simp only [List.mem_cons,List.not_mem_nil,or_false] at hx
      rcases hx with rfl | rfl
      · exact Zfa ha ha2 _ _
      · exact Zfa hb hb2 _ _
    simp [Z1a,wipeR,putN,hf])
  have em : (([a,b]).filter (fun _ => true)).map (fun x => Fx.T.bl (numOk (size - 1) x)) = [.bl (numOk (size - 1) a),.bl (numOk (size - 1) b)] := rfl
  rw [em] at e
  have g1 : ∀ Z, gIsi [.tup [a, b], .ty "tuple"] Z = some (.bl true, Z) := fun Z => rfl
  generalize numOk (size - 1) a = A at *
  generalize numOk (size - 1) b = B at *
  simp [-Zau,Nu,runF,Z6c,g1,e,bools]
def sSc : List Nat := [115,99,97,108,97,114]
def sSeq : List Nat := [115,101,113,117,101,110,99,101]
def sMap : List Nat := [109,97,112,112,105,110,103]
theorem Zeb {tag : List Nat} {ts : List Fx.T} {size : Int} (g : Fx.T → Bool) (ht : isT tag = true) (htl : tag.length ≤ Lim) (hl : ts.length ≤ Lim) (Z : Sto) (hg : ∀ t ∈ ts,∀ Y,Ye [t,.int 0,.int (size - 1)] (Z ++ Y) = .ok (.bl (g t)) (Z ++ Y)) :
    ∃ Y,Xw [.tup [.str sSeq,.str tag,.tup ts],.int size] Z = .ok (.bl (decide (ts.length ≤ 1000) && ts.all g)) (Z ++ Y) := by
  obtain ⟨Y1,e1⟩ := Zcv tag htl Z
  rw [ht] at e1
  have g1 : ∀ Z, gIsi [.tup [.str sSeq, .str tag, .tup ts], .ty "tuple"] Z = some (.bl true, Z) := fun Z => rfl
  have g2 : ∀ Z, gIsi [.str sSeq, .ty "str"] Z = some (.bl true, Z) := fun Z => rfl
  have g3 : ∀ Z, gIsi [.tup ts, .ty "tuple"] Z = some (.bl true, Z) := fun Z => rfl
  have e := Z3o (Z1 := Z ++ Y1) (ts := ts) (put := fun x => putN [5] x (wipeR [some (.tup [.str sSeq,.str tag,.tup ts]),some (.int size),some (.str sSeq),some (.str tag),some (.tup ts),none] [5])) (c := eYes) (e := Z2l) (Z8x _) hl (fun _ => true) (fun x => .bl (g x)) (fun x hx => by
    refine ⟨_,rfl,fun acc => ⟨rfl,fun _ => ?_⟩⟩
    have hf := hg x hx (Y1 ++ [.lst acc])
    rw [← List.append_assoc] at hf
    generalize hzz : Z ++ Y1 ++ [O.lst acc] = ZZ at hf ⊢
    simp [Z2l,wipeR,putN,hf])
  have em : (ts.filter (fun _ => true)).map (fun x => Fx.T.bl (g x)) = ts.map fun x => .bl (g x) := by rw [List.filter_eq_self.mpr (fun _ _ => rfl)]
  rw [em] at e
  have hb := Z38 g ts
  by_cases hk : ts.length ≤ 1000
  · refine ⟨Y1 ++ [.lst (ts.map fun x => .bl (g x))],?_⟩
    have hk' : ((ts.length : Nat) : Int) ≤ 1000 := by omega
    have ea : ∀ W,getL (Z ++ Y1 ++ [O.lst W]) (Z ++ Y1).length = some W := fun W => Zk _ _
    rw [← List.append_assoc,decide_eq_true hk,Bool.true_and]
    simp only [sSeq] at *
    generalize hZ1 : Z ++ Y1 = Z1 at *
    simp [-Zau, Xw, runF, Nv, flatT, inT, Fx.eqT, g1, g2, g3, e1, hl, hk', e, hb]
  · refine ⟨Y1,?_⟩
    have hk' : ¬ ((ts.length : Nat) : Int) ≤ 1000 := by omega
    rw [decide_eq_false hk,Bool.false_and]
    simp only [sSeq] at *
    generalize hZ1 : Z ++ Y1 = Z1 at *
    simp [-Zau, Xw, runF, Nv, flatT, inT, Fx.eqT, g1, g2, g3, e1, hl, hk']
theorem Zec {tag : List Nat} {ts : List Fx.T} {size : Int} (g : Fx.T → Bool) (ht : isT tag = true) (htl : tag.length ≤ Lim) (hl : ts.length ≤ 100000) (Z : Sto) (hg : ∀ t ∈ ts, ∀ Y, ∃ Y', Nu [t, .int size] (Z ++ Y) = .ok (.bl (g t)) (Z ++ Y ++ Y')) :
    ∃ Y,Xw [.tup [.str sMap,.str tag,.tup ts],.int size] Z = .ok (.bl (decide (2 * ts.length ≤ 1000) && ts.all g)) (Z ++ Y) := by
  obtain ⟨Y1,e1⟩ := Zcv tag htl Z
  rw [ht] at e1
  have hlL : ts.length ≤ Lim := by unfold Lim; omega
  have g1 : ∀ Z, gIsi [.tup [.str sMap, .str tag, .tup ts], .ty "tuple"] Z = some (.bl true, Z) := fun Z => rfl
  have g2 : ∀ Z, gIsi [.str sMap, .ty "str"] Z = some (.bl true, Z) := fun Z => rfl
  have g3 : ∀ Z, gIsi [.tup ts, .ty "tuple"] Z = some (.bl true, Z) := fun Z => rfl
  obtain ⟨acc, Z', e, rfl, W, rfl⟩ := Z59 (Z8x ts) (D := (Z ++ Y1).length) (put := fun x => putN [5] x (wipeR [some (.tup [.str sMap, .str tag, .tup ts]), some (.int size), some (.str sMap), some (.str tag), some (.tup ts), none] [5])) (c := eYes) (e := Z2m)
    (fun pre acc Z' => acc = pre.map (fun x => Fx.T.bl (g x)) ∧ ∃ W, Z' = (Z ++ Y1) ++ .lst acc :: W) (fun pre acc Z' h => by obtain ⟨_, W, rfl⟩ := h; exact Z7b _ _ _)
    (fun pre x post acc Z' et h => by
      obtain ⟨rfl,W,rfl⟩ := h
      obtain ⟨Y', hf⟩ := hg x (by rw [et]; simp) (Y1 ++ .lst (pre.map fun x => Fx.T.bl (g x)) :: W)
      rw [← List.append_assoc] at hf
      refine ⟨_, rfl, .inr ⟨_, .bl (g x), (Z ++ Y1) ++ .lst (pre.map fun x => Fx.T.bl (g x)) :: (W ++ Y'), rfl, ?_, Z7b _ _ _, by simp, W ++ Y', set_mid _ _ _ _⟩⟩
      have es : Z ++ Y1 ++ O.lst (pre.map fun x => Fx.T.bl (g x)) :: (W ++ Y') = Z ++ Y1 ++ O.lst (pre.map fun x => Fx.T.bl (g x)) :: W ++ Y' := by simp
      rw [es]
      generalize Z ++ Y1 ++ O.lst (pre.map fun x => Fx.T.bl (g x)) :: W = ZZ at *
      simp [Z2m,wipeR,putN,hf]) ts [] [] ((Z ++ Y1) ++ [.lst []]) Fuel (by simp) (by rw [Qs]; unfold Lim; simp; omega) (by simp; exact hlL) ⟨rfl,[],rfl⟩
  have hb := Z38 g ts
  by_cases hk : 2 * ts.length ≤ 1000
  · refine ⟨Y1 ++ .lst (ts.map fun x => .bl (g x)) :: W,?_⟩
    have hk' : 2 * ((ts.length : Nat) : Int) ≤ 1000 := by omega
    have ea := Z7b (Z ++ Y1) (ts.map fun x => Fx.T.bl (g x)) W
    rw [← List.append_assoc,decide_eq_true hk,Bool.true_and]
    simp only [sMap] at *
    generalize hZ2 : Z ++ Y1 ++ O.lst (ts.map fun x => Fx.T.bl (g x)) :: W = Z2 at *
    generalize hZ1 : Z ++ Y1 = Z1 at *
    simp only [List.length_nil] at e
    simp [-Zau, Xw, runF, Nv, flatT, inT, Fx.eqT, g1, g2, g3, e1, hlL, hk', e, ea, hb]
  · refine ⟨Y1,?_⟩
    have hk' : ¬ 2 * ((ts.length : Nat) : Int) ≤ 1000 := by omega
    rw [decide_eq_false hk,Bool.false_and]
    simp only [sMap] at *
    generalize hZ1 : Z ++ Y1 = Z1 at *
    simp [-Zau, Xw, runF, Nv, flatT, inT, Fx.eqT, g1, g2, g3, e1, hlL, hk']
theorem Zgu {tag : List Nat} (ht : isT tag = true) (htl : tag.length ≤ Lim) (c : Fx.T) {b : Bool} (size : Int) (Z : Sto) (hc : ∀ Y, gIsi [c, .ty "str"] (Z ++ Y) = some (.bl b, Z ++ Y)) : ∃ Y, Xw [.tup [.str sSc, .str tag, c], .int size] Z = .ok (.bl b) (Z ++ Y) := by
  obtain ⟨Y1,e1⟩ := Zcv tag htl Z
  rw [ht] at e1
  have g1 : ∀ Z, gIsi [.tup [.str sSc, .str tag, c], .ty "tuple"] Z = some (.bl true, Z) := fun Z => rfl
  have g2 : ∀ Z, gIsi [.str sSc, .ty "str"] Z = some (.bl true, Z) := fun Z => rfl
  have hc := hc Y1
  refine ⟨Y1,?_⟩
  simp only [sSc] at *
  generalize hZ1 : Z ++ Y1 = Z1 at *
  simp [-Zau,Xw,runF,Nv,flatT,inT,Fx.eqT,g1,g2,e1,hc]
end Ap
set_option maxHeartbeats 4000000
namespace Ap
open PySem PySem.Spec PyProof.Rows L2 SX Fx
structure NV (Z : Sto) (nv : Fx.T) (ts : List Fx.T) (it : ItF) : Prop where
  len : ∀ Y,gLen [nv] (Z ++ Y) = some (.int (ts.length : Int),Z ++ Y)
  isi : ∀ Y, gIsiI "Graph" [nv, .tup [.ty "list", .ty "tuple"]] (Z ++ Y) = some (.bl true, Z ++ Y)
  enm : ∀ (ρ : Fx.Env) (fa : FA) (Z0 : Sto) Y,fa ρ Z0 = .ok [nv] (Z ++ Y) → iEnmA fa ρ Z0 = .ok it (Z ++ Y)
  hit : ∀ k Y,k ≤ ts.length → it k (Z ++ Y) = some ((ts[k]?).map fun t => .tup [.int (k : Int),t])
  tup : ∀ Y,gTuple [nv] (Z ++ Y) = some (.tup ts,Z ++ Y)
theorem NV.app {Z : Sto} {nv : Fx.T} {ts : List Fx.T} {it : ItF} (h : NV Z nv ts it) (W : Sto) : NV (Z ++ W) nv ts it :=
  ⟨fun Y => by rw [List.append_assoc]; exact h.len _,fun Y => by rw [List.append_assoc]; exact h.isi _,fun ρ fa Z0 Y e => by rw [List.append_assoc] at e ⊢; exact h.enm ρ fa Z0 _ e,fun k Y hk => by rw [List.append_assoc]; exact h.hit k _ hk,fun Y => by rw [List.append_assoc]; exact h.tup _⟩
theorem Zit (Z : Sto) (ts : List Fx.T) : NV Z (.tup ts) ts (itEnum (itSeqX ts)) where
  len Y := rfl
  isi Y := by
    have h3 : insC (.tup ts) (Z ++ Y) = none := rfl
    show (if insC (.tup ts) (Z ++ Y) = some "Graph" then some (Fx.T.bl false, Z ++ Y) else gIsi [.tup ts, .tup [.ty "list", .ty "tuple"]] (Z ++ Y)) = _
    rw [h3]
    rfl
  enm ρ fa Z0 Y h := by simp [h]
  hit k Y hk := by simp [itEnum,itSeqX,hk]
  tup Y := rfl
theorem Ziu {Z : Sto} {l : Nat} {ts : List Fx.T} (h : getL Z l = some ts) : NV Z (.loc l) ts (itEnum (itLoc l)) where
  len Y := by simp [Yx h]
  isi Y := by
    have h2 := V3.mp (Yx (Y := Y) h)
    have h3 : insC (.loc l) (Z ++ Y) = none := by simp [insC,getI,h2]
    have ty : tyT (.loc l) (Z ++ Y) = some "list" := by simp only [tyT, h2]
    have gb : ∀ n, gIsiB (.loc l) (.ty n) (Z ++ Y) = kitB "list" n := fun n => by simp only [gIsiB, ty, clsT]
    have k1 : kitB "list" "list" = some true := rfl
    have k2 : kitB "list" "tuple" = some false := rfl
    refine (if_neg (by rw [h3]; simp)).trans ?_
    show (if (tyT (.loc l) (Z ++ Y)).isSome = true then ((([.ty "list", .ty "tuple"] : List Fx.T).mapM fun c => gIsiB (.loc l) c (Z ++ Y)).map fun bs => (Fx.T.bl (bs.any id), Z ++ Y)) else none) = _
    simp only [ty,gb,k1,k2,List.mapM_cons,List.mapM_nil]
    rfl
  enm ρ fa Z0 Y e := by simp [e,Yx h]
  hit k Y hk := by simp [itEnum,itLoc,Yx h]
  tup Y := by simp [Yx h]
theorem Zed {it : ItF} {us : Nat → Option Fx.T} {body : Fx.T → FS} {Z0 : Sto} (P : Fx.Env → Prop) (j : Nat) (hit : ∀ k Y,k < j → it k (Z0 ++ Y) = some (us k))
    (hb : ∀ k, k < j → ∃ u, us k = some u ∧ ∀ ρ Y, P ρ → ∃ ρ' Y', body u ρ (Z0 ++ Y) = .nx ρ' (Z0 ++ Y') ∧ P ρ') :
    ∀ n k ρ Y, P ρ → k ≤ j → j < n + k → ∃ ρ' Y' n', 0 < n' ∧ loopN it body n k ρ (Z0 ++ Y) = loopN it body n' j ρ' (Z0 ++ Y') ∧ P ρ' := by
  intro n
  induction n with
  | zero => intro k ρ Y _ h1 h2; omega
  | succ n ih =>
    intro k ρ Y hP h1 h2
    by_cases hk : k = j
    · subst hk; exact ⟨ρ,Y,n + 1,by omega,rfl,hP⟩
    · obtain ⟨u,hu,hbu⟩ := hb k (by omega)
      obtain ⟨ρ', Y', e, hP'⟩ := hbu ρ Y hP
      obtain ⟨ρ2, Y2, n2, h0, e2, hP2⟩ := ih (k + 1) ρ' Y' hP' (by omega) (by omega)
      refine ⟨ρ2,Y2,n2,h0,?_,hP2⟩
      rw [← e2]
      conv => lhs; unfold loopN
      rw [hit k Y (by omega),hu]
      simp only [e,Z6l]
theorem Zee {it : ItF} {body : Fx.T → FS} {n k : Nat} {ρ : Fx.Env} {Z : Sto} (h : 0 < n) (e : it k Z = some none) : loopN it body n k ρ Z = .nx ρ Z := by
  cases n with
  | zero => omega
  | succ n =>
    unfold loopN
    rw [e]
def grF (ts : List Fx.T) (top : Int) : List (String × Fx.T) := [("nodes", .tup ts), ("top", .int top)]
def GN (size : Int) (Z : Sto) (t : Fx.T) : Prop := ∀ Y, ∃ Y', Xw [t, .int size] (Z ++ Y) = .ok (.bl true) (Z ++ Y ++ Y')
def BN (size : Int) (Z : Sto) (t : Fx.T) : Prop := ∀ Y, ∃ Y', Xw [t, .int size] (Z ++ Y) = .ok (.bl false) (Z ++ Y ++ Y')
theorem GN.app {size : Int} {Z : Sto} {t : Fx.T} (h : GN size Z t) (W : Sto) : GN size (Z ++ W) t := fun Y => by
  obtain ⟨Y', e⟩ := h (W ++ Y)
  exact ⟨Y', by rw [List.append_assoc Z W Y]; exact e⟩
theorem BN.app {size : Int} {Z : Sto} {t : Fx.T} (h : BN size Z t) (W : Sto) : BN size (Z ++ W) t := fun Y => by
  obtain ⟨Y', e⟩ := h (W ++ Y)
  exact ⟨Y', by rw [List.append_assoc Z W Y]; exact e⟩
theorem Za9 (A : Sto) (C : String) (fs : List (String × Fx.T)) (B : Sto) : getI (A ++ .ins C fs :: B) A.length = some (C,fs) := by simp [getI]
section
variable {Z : Sto} {nv : Fx.T} {ts : List Fx.T} {it : ItF}
theorem Zef {j L : Nat} {tv : Fx.T} (hnv : NV Z nv ts it) (hj : j ≤ ts.length) (hlL : ts.length ≤ 200) (hg : ∀ k t,k < j → ts[k]? = some t → GN (ts.length : Int) Z t) :
    ∃ o3 o4 Y n', 0 < n' ∧ loopN it (fun t ρ' Z' => bS ρ' ((gTp 2 (gsCons (gNm 3) (gsCons (gNm 4) gsNil))) t ρ' Z') Xz) Fuel 0 [some (.loc L), some nv, some tv, none, none] (Z ++ []) = loopN it (fun t ρ' Z' => bS ρ' ((gTp 2 (gsCons (gNm 3) (gsCons (gNm 4) gsNil))) t ρ' Z') Xz) n' j [some (.loc L), some nv, some tv, o3, o4] (Z ++ Y) := by
  obtain ⟨ρ', Y', n', h0, e, o3, o4, rfl⟩ := Zed (it := it) (us := fun k => (ts[k]?).map fun t => .tup [.int (k : Int), t]) (body := (fun t ρ' Z' => bS ρ' ((gTp 2 (gsCons (gNm 3) (gsCons (gNm 4) gsNil))) t ρ' Z') Xz)) (Z0 := Z) (fun ρ => ∃ o3 o4, ρ = [some (.loc L), some nv, some tv, o3, o4]) j (fun k Y hk => hnv.hit k Y (by omega))
    (fun k hk => by
      have hkt : k < ts.length := by omega
      refine ⟨.tup [.int (k : Int),ts[k]],by simp [hkt],fun ρ Y h => ?_⟩
      obtain ⟨o3,o4,rfl⟩ := h
      obtain ⟨Y', e⟩ := hg k ts[k] hk (List.getElem?_eq_getElem hkt) Y
      have hl := hnv.len Y
      refine ⟨[some (.loc L), some nv, some tv, some (.int (k : Int)), some ts[k]], Y ++ Y', ?_, _, _, rfl⟩
      rw [← List.append_assoc]
      generalize ts[k] = T at *
      generalize hzz : Z ++ Y = ZZ at *
      simp [Xz,hl,e]) Fuel 0 [some (.loc L),some nv,some tv,none,none] [] ⟨_,_,rfl⟩ (Nat.zero_le _) (by rw [Qs]; unfold Lim; omega)
  exact ⟨o3, o4, Y', n', h0, e⟩
theorem Zgv {L : Nat} {top : Int} (hnv : NV Z nv ts it) (hins : ∃ A B, Z = A ++ .ins "Graph" [] :: B ∧ A.length = L) (h1 : 1 ≤ ts.length) (hlL : ts.length ≤ 200) (hg : ∀ t ∈ ts, GN (ts.length : Int) Z t) (ht : 0 ≤ top ∧ top < (ts.length : Int)) :
    ∃ Y, Y5 [.loc L, nv, .int top] Z = .ok .non ((Z ++ Y).set L (.ins "Graph" (grF ts top))) := by
  obtain ⟨o3, o4, Y, n', h0, e⟩ := Zef (L := L) (tv := .int top) hnv (Nat.le_refl _) hlL (fun k t _ hk => hg t (List.mem_of_getElem? hk))
  have he := Zee (body := (fun t ρ' Z' => bS ρ' ((gTp 2 (gsCons (gNm 3) (gsCons (gNm 4) gsNil))) t ρ' Z') Xz)) (ρ := [some (.loc L), some nv, some (.int top), o3, o4]) (Z := Z ++ Y) (n := n') (k := ts.length) (it := it) h0 (by rw [hnv.hit _ _ (Nat.le_refl _)]; simp)
  rw [he,List.append_nil] at e
  have l0 := hnv.len []
  have i0 := hnv.isi []
  have en := hnv.enm [some (.loc L),some nv,some (.int top),none,none] (aCons (eVar 1) aNil) Z []
  rw [List.append_nil] at l0 i0 en
  have en' := en (by simp)
  have l1 := hnv.len Y
  have t1 := hnv.tup Y
  have ff : Ye [.int top,.int 0,.int ((ts.length : Int) - 1)] (Z ++ Y) = .ok (.bl true) (Z ++ Y) := by
    rw [Z6g]
    have : numOk ((ts.length : Int) - 1) (.int top) = true := by
      show (decide (0 ≤ top) && decide (top ≤ (ts.length : Int) - 1)) = true
      rw [decide_eq_true ht.1,decide_eq_true (by omega)]; rfl
    rw [this]
  obtain ⟨A,B,hZ,hL⟩ := hins
  have gi : getI (Z ++ Y) L = some ("Graph", []) := by
    rw [hZ,List.append_assoc,List.cons_append,← hL]; exact Za9 _ _ _ _
  have hLt : L < (Z ++ Y).length := by rw [hZ,← hL]; simp
  have gi2 : getI ((Z ++ Y).set L (.ins "Graph" [("nodes", .tup ts)])) L = some ("Graph", [("nodes", .tup ts)]) := by
    unfold getI
    rw [List.getElem?_set_self hLt]
  refine ⟨Y,?_⟩
  have c1 : (1 : Int) ≤ (ts.length : Int) := by omega
  have c2 : (ts.length : Int) ≤ 200 := by omega
  generalize hzz : Z ++ Y = ZZ at *
  simp [-Zgg, Y5, runF, Z43, l0, i0, c1, c2, en', e, l1, t1, ff, sFldS, gFld, setF, gi, gi2, putS, grF]
end
theorem Zcw {ds : List Fx.T} {fa : FA} {ρ : Fx.Env} {Z Z1 : Sto} {as ts : List Fx.T} {nv : Fx.T} {top : Int} {it : ItF} (ha : fa ρ Z = .ok as Z1) (has : as ++ ds = [nv,.int top]) (hnv : NV Z1 nv ts it) (h1 : 1 ≤ ts.length) (hlL : ts.length ≤ 200) (hg : ∀ t ∈ ts,GN (ts.length : Int) Z1 t) (ht : 0 ≤ top ∧ top < (ts.length : Int)) :
    ∃ Y, eMake "Graph" Y5 ds fa ρ Z = .ok (.loc Z1.length) (Z1 ++ .ins "Graph" (grF ts top) :: Y) := by
  obtain ⟨Y, e⟩ := Zgv (L := Z1.length) (hnv.app [.ins "Graph" []]) ⟨Z1, [], rfl, rfl⟩ h1 hlL (fun t h => (hg t h).app _) ht
  refine ⟨Y,?_⟩
  rw [List.append_assoc,List.singleton_append,set_mid] at e
  unfold eMake
  rw [ha]
  show (Y5 (.loc Z1.length :: (as ++ ds)) (Z1 ++ [.ins "Graph" []])).bind _ = _
  rw [has,e]
  rfl
def GrAt (Z : Sto) (i : Nat) (ts : List Fx.T) (top : Int) : Prop := getI Z i = some ("Graph", grF ts top)
theorem Zfb (Z : Sto) (ts : List Fx.T) (top : Int) (Y : Sto) : GrAt (Z ++ .ins "Graph" (grF ts top) :: Y) Z.length ts top := Za9 _ _ _ _
theorem Ziv {Z : Sto} {i : Nat} {ts : List Fx.T} {top : Int} (h : GrAt Z i ts top) (Y : Sto) : GrAt (Z ++ Y) i ts top := by
  unfold GrAt at h ⊢
  have h1 := Z29 h
  have hl : i < Z.length := (List.getElem?_eq_some_iff.mp h1).1
  unfold getI
  rw [List.getElem?_append_left hl,h1]
theorem Zeg {Z : Sto} {i : Nat} {ts : List Fx.T} {top : Int} (h : GrAt Z i ts top) : fldT ["Graph"] "nodes" (.loc i) Z = some (.tup ts) := by
  unfold GrAt at h
  simp [fldT,h,grF]
theorem Zgw {Z : Sto} {i : Nat} {ts : List Fx.T} {top : Int} (h : GrAt Z i ts top) : fldT ["Graph"] "top" (.loc i) Z = some (.int top) := by
  unfold GrAt at h
  simp [fldT,h,grF,List.lookup_cons]
end Ap
set_option maxHeartbeats 4000000
namespace Ap
open PySem PySem.Spec PyProof.Rows L2 SX Fx
def dOf (t : Fx.T) : PyData := (toD 16 [] t).getD .none
structure PT (t : Fx.T) : Prop where
  d : ∀ n Z,toD (n + 3) Z t = some (dOf t)
  lay : (dOf t).canLay0 = true
  deep : (dOf t).depth ≤ 5
theorem pt_of {t : Fx.T} {d : PyData} (h : ∀ n Z,toD (n + 3) Z t = some d) (h1 : d.canLay0 = true) (h2 : d.depth ≤ 5) : PT t ∧ dOf t = d := by
  have e : dOf t = d := by unfold dOf; rw [h 13 []]; rfl
  exact ⟨⟨by rw [e]; exact h,by rw [e]; exact h1,by rw [e]; exact h2⟩,e⟩
theorem Z97 (n : Nat) (Z : Sto) (ts : List Fx.T) : toD (n + 1) Z (.tup ts) = (ts.mapM (toD n Z)).map .tuple := rfl
structure NT (t : Fx.T) (tag : List Nat) : Prop where
  pt : PT t
  shape : ∃ k dc,dOf t = .tuple [.str (S k),.str (S tag),dc]
theorem Zgx {k tag : List Nat} {c : Fx.T} {dc : PyData} (h : ∀ n Z,toD (n + 2) Z c = some dc) (h1 : dc.canLay0 = true) (h2 : dc.depth ≤ 3) (hk : okS k = true) (ht : okS tag = true) : NT (.tup [.str k,.str tag,c]) tag := by
  have e : ∀ n Z,toD (n + 3) Z (.tup [.str k,.str tag,c]) = some (.tuple [.str (S k),.str (S tag),dc]) := fun n Z => by
    rw [Z97,List.mapM_cons,List.mapM_cons,List.mapM_cons,h n Z]; rfl
  obtain ⟨p,e2⟩ := pt_of e (by
    show (PyData.strOk (S k) && (PyData.strOk (S tag) && (dc.canLay0 && true))) = true
    rw [Ze7 hk,Ze7 ht,h1]; rfl) (by
    simp only [PyData.depth,PyData.depthAll]; omega)
  exact ⟨p,k,dc,e2⟩
theorem Zfc (n : Nat) (Z : Sto) : ∀ ns : List Int,(ns.map Fx.T.int).mapM (toD n Z) = some (ns.map PyData.int)
  | [] => rfl
  | i :: ns => by
    rw [List.map_cons,List.mapM_cons,Zfc n Z ns]
    cases n <;> rfl
theorem Z7c : ∀ ns : List Int,PyData.canLayAll0 (ns.map PyData.int) = true ∧ PyData.depthAll (ns.map PyData.int) ≤ 1
  | [] => ⟨rfl,by decide⟩
  | i :: ns => by
    obtain ⟨a,b⟩ := Z7c ns
    refine ⟨a,?_⟩
    show max (PyData.depth (.int i)) (PyData.depthAll (ns.map PyData.int)) ≤ 1
    have : PyData.depth (.int i) ≤ 1 := by simp [PyData.depth]
    omega
def pairT (p : Int × Int) : Fx.T := .tup [.int p.1,.int p.2]
def pairD (p : Int × Int) : PyData := .tuple [.int p.1,.int p.2]
theorem Zcx (n : Nat) (Z : Sto) : ∀ ps : List (Int × Int),(ps.map pairT).mapM (toD (n + 1) Z) = some (ps.map pairD)
  | [] => rfl
  | p :: ps => by
    rw [List.map_cons,List.mapM_cons,Zcx n Z ps]
    cases n <;> rfl
theorem Z5q : ∀ ps : List (Int × Int),PyData.canLayAll0 (ps.map pairD) = true ∧ PyData.depthAll (ps.map pairD) ≤ 2
  | [] => ⟨rfl,by decide⟩
  | p :: ps => by
    obtain ⟨a,b⟩ := Z5q ps
    refine ⟨a,?_⟩
    show max (PyData.depth (pairD p)) (PyData.depthAll (ps.map pairD)) ≤ 2
    have : PyData.depth (pairD p) ≤ 2 := by simp [pairD,PyData.depth,PyData.depthAll]
    omega
structure ND (size : Nat) (t : Fx.T) : Prop where
  good : ∀ Z,GN (size : Int) Z t
  tag : ∃ a,NT t a ∧ a ≠ [33,111,116,104,101,114]
theorem ND.pt {size : Nat} {t : Fx.T} (h : ND size t) : PT t := by obtain ⟨_,h,_⟩ := h.tag; exact h.pt
theorem Zgy {tag text : List Nat} (ht : isT tag = true) (htl : tag.length ≤ Lim) (size : Int) (Z : Sto) : GN size Z (.tup [.str sSc,.str tag,.str text]) := fun Y => Zgu ht htl (.str text) size (Z ++ Y) fun _ => rfl
theorem nd_sc {size : Nat} {tag text : List Nat} (ht : isT tag = true) (htl : tag.length ≤ Lim) (ok : okS tag = true) (ok2 : okS text = true) (hn : tag ≠ [33,111,116,104,101,114]) : ND size (.tup [.str sSc,.str tag,.str text]) :=
  ⟨fun Z => Zgy ht htl _ Z,tag,Zgx (dc := .str (S text)) (fun n Z => rfl) (Ze7 ok2) (by simp [PyData.depth]) (by decide) ok,hn⟩
theorem Z98 {m n : Int} (h : 0 ≤ n ∧ n ≤ m) : numOk m (.int n) = true := by
  show (decide (0 ≤ n) && decide (n ≤ m)) = true
  rw [decide_eq_true h.1,decide_eq_true h.2]; rfl
theorem Ziw {size : Nat} {tag : List Nat} {ns : List Int} (ht : isT tag = true) (htl : tag.length ≤ Lim) (ok : okS tag = true) (hn : tag ≠ [33,111,116,104,101,114]) (hl : ns.length ≤ 1000) (hns : ∀ n ∈ ns,0 ≤ n ∧ n < (size : Int)) : ND size (.tup [.str sSeq,.str tag,.tup (ns.map .int)]) := by
  refine ⟨fun Z Y => ?_,tag,Zgx (dc := .tuple (ns.map .int)) (fun n Z => by rw [Z97,Zfc]; rfl) (Z7c ns).1 (by have := (Z7c ns).2; simp only [PyData.depth]; omega) (by decide) ok,hn⟩
  obtain ⟨Y', e⟩ := Zeb (size := (size : Int)) (ts := ns.map .int) (numOk ((size : Int) - 1)) ht htl (by rw [List.length_map]; unfold Lim; omega) (Z ++ Y) (fun t h W => by
    obtain ⟨n,hn,rfl⟩ := List.mem_map.mp h
    exact Z6g n _ _)
  have h1 : (decide ((ns.map Fx.T.int).length ≤ 1000) && (ns.map Fx.T.int).all (numOk ((size : Int) - 1))) = true := by
    rw [List.length_map,decide_eq_true hl,Bool.true_and,List.all_eq_true]
    intro t h
    obtain ⟨n,hn,rfl⟩ := List.mem_map.mp h
    have := hns n hn
    exact Z98 ⟨this.1,by omega⟩
  rw [h1] at e
  exact ⟨Y', e⟩
theorem Zix {size : Nat} {tag : List Nat} {ps : List (Int × Int)} (ht : isT tag = true) (htl : tag.length ≤ Lim) (ok : okS tag = true) (hn : tag ≠ [33,111,116,104,101,114]) (hl : ps.length ≤ 500) (hns : ∀ p ∈ ps,(0 ≤ p.1 ∧ p.1 < (size : Int)) ∧ 0 ≤ p.2 ∧ p.2 < (size : Int)) : ND size (.tup [.str sMap,.str tag,.tup (ps.map pairT)]) := by
  refine ⟨fun Z Y => ?_,tag,Zgx (dc := .tuple (ps.map pairD)) (fun n Z => by rw [Z97,Zcx]; rfl) (Z5q ps).1 (by have := (Z5q ps).2; simp only [PyData.depth]; omega) (by decide) ok,hn⟩
  obtain ⟨Y', e⟩ := Zec (size := (size : Int)) (ts := ps.map pairT) (fun _ => true) ht htl (by rw [List.length_map]; omega) (Z ++ Y) (fun t h W => by
    obtain ⟨p,hp,rfl⟩ := List.mem_map.mp h
    have e := Zgt (a := .int p.1) (b := .int p.2) (fun _ h => by cases h) (by simp [tyT]) (fun _ h => by cases h) (by simp [tyT]) (size : Int) (Z ++ Y ++ W)
    have := hns p hp
    rw [Z98 ⟨this.1.1,by omega⟩,Z98 ⟨this.2.1,by omega⟩] at e
    exact ⟨_,e⟩)
  have h1 : (decide (2 * (ps.map pairT).length ≤ 1000) && (ps.map pairT).all (fun _ => true)) = true := by
    rw [List.length_map,decide_eq_true (by omega),Bool.true_and,List.all_eq_true]
    intro _ _; rfl
  rw [h1] at e
  exact ⟨Y', e⟩
end Ap
set_option maxHeartbeats 4000000
namespace Ap
open PySem PySem.Spec PyProof.Rows L2 SX Fx
theorem Z1j {m : Nat} {body : Fx.T → FS} {ρ : Fx.Env} {Z : Sto} (I : Nat → Fx.Env → Sto → Prop) (hl : m ≤ Lim) (h0 : I 0 ρ Z) (h : ∀ k < m, ∀ ρ Z, I k ρ Z → ∃ ρ' Z', body (.int (k : Int)) ρ Z = .nx ρ' Z' ∧ I (k + 1) ρ' Z') :
    ∃ ρ' Z', loopN (itRng 0 m) body Fuel 0 ρ Z = .nx ρ' Z' ∧ I m ρ' Z' := by
  rw [Z6a hl]
  obtain ⟨ρ', Z', e, hi⟩ := Z7w (body := body) (ts := (List.range m).map fun (i : Nat) => Fx.T.int ((0 : Int) + (i : Int))) (Z := Z) (ρ := ρ) (fun pre ρ Z => I pre.length ρ Z) h0 (fun pre x post ρ Z et hi => by
    obtain ⟨rfl,hk⟩ := Z9z et
    obtain ⟨ρ', Z', e, hi'⟩ := h pre.length hk ρ Z hi
    refine ⟨ρ', Z', .inl ?_, by simpa using hi'⟩
    rw [Int.zero_add]; exact e)
  exact ⟨ρ', Z', e, by simpa using hi⟩
theorem lt200 {n : Nat} (h : n ≤ 1000) : n < 2 ^ 200 := Nat.lt_of_le_of_lt h (by decide)
theorem Ziy {Z : Sto} {i j : Nat} {ts : List Fx.T} (h : getL Z i = some ts) (h2 : getL Z j = some []) : gNeL (.loc i) (.loc j) Z = some (.bl (!decide (ts = [])),Z) := by
  by_cases h0 : ts = []
  · subst h0
    have e1 : toD 16 Z (.loc i) = some (.list []) := by
      show ((getL Z i).bind fun ts => (ts.mapM (toD 15 Z)).map PyData.list) = _
      rw [h]; rfl
    have e2 : toD 16 Z (.loc j) = some (.list []) := by
      show ((getL Z j).bind fun ts => (ts.mapM (toD 15 Z)).map PyData.list) = _
      rw [h2]; rfl
    have e : gEqB (.loc i) (.loc j) Z = some true := by
      show gEqD _ _ _ = _
      have sh : SeqAt.shaped (.list []) = true := by decide
      simp only [gEqD,e1,e2,sh,and_self,if_true]
      rfl
    have hd : lenDiff (.loc i) (.loc j) Z = false := by simp [lenDiff,h,h2]
    unfold gNeL
    rw [hd]
    simp only [gNe,e,Option.map_some]
    rfl
  · have hd : lenDiff (.loc i) (.loc j) Z = true := by
      cases ts with
      | nil => exact absurd rfl h0
      | cons a l => simp [lenDiff,h,h2]
    unfold gNeL
    rw [hd,if_pos rfl,decide_eq_false h0]
    rfl
end Ap
set_option maxHeartbeats 4000000
namespace Ap
open PySem PySem.Spec PyProof.Rows L2 SX Fx
theorem X6 {a b : FS} {ρ ρ' : Fx.Env} {Z Z' : Sto} {r : RS} (h : a ρ Z = .nx ρ' Z') (h2 : b ρ' Z' = r) : bCons a b ρ Z = r := by
  show seqS (a ρ Z) b = r
  rw [h]; exact h2
theorem Z1k {n : Nat} {B : FS} {as : List Fx.T} {Z Z' : Sto} {t : Fx.T} (h : B (as.map some ++ List.replicate (n - as.length) none) Z = .rt t Z') : runF n B as Z = .ok t Z' := by
  unfold runF
  rw [h]
theorem Zcy {w size : Nat} {Z Z1 : Sto} {o3 o4 : Option Fx.T} (hf : sFor (iRng (aCons (eVar 1) aNil)) (gNm 3) Yy [some (.loc w),some (.int (size : Int)),some (.loc Z.length),none,none] (Z ++ [.lst []]) = .nx [some (.loc w),some (.int (size : Int)),some (.loc Z.length),o3,o4] Z1) : Jq [.loc w,.int (size : Int)] Z = .ok (.loc Z.length) Z1 := by
  have t1 : sSet 2 (eLst aNil) [some (.loc w),some (.int (size : Int)),none,none,none] Z = .nx [some (.loc w),some (.int (size : Int)),some (.loc Z.length),none,none] (Z ++ [.lst []]) := by rfl
  have hB : Z16 [some (.loc w),some (.int (size : Int)),none,none,none] Z = .rt (.loc Z.length) Z1 := by
    unfold Z16
    exact X6 t1 (X6 hf rfl)
  exact Z1k (n := 5) (as := [.loc w,.int (size : Int)]) hB
end Ap
set_option maxHeartbeats 4000000
namespace Ap
inductive Nd where
  | sc (tag text : List Nat) | sq (tag : List Nat) (ns : List Int) | mp (tag : List Nat) (ps : List (Int × Int))
def Nd.inn : Nd → List Int
  | .sc _ _ => []
  | .sq _ ns => ns
  | .mp _ ps => ps.flatMap fun p => [p.1,p.2]
section
variable {gs : List Nd}
def innA (gs : List Nd) (x : Int) : List Int := ((gs[x.toNat]?).map Nd.inn).getD []
def InG (gs : List Nd) (x : Int) : Prop := 0 ≤ x ∧ x < (gs.length : Int)
def ClG (gs : List Nd) : Prop := ∀ x,InG gs x → ∀ y ∈ innA gs x,InG gs y
theorem Z7d {x : Int} (h : InG gs x) : ∃ g ∈ gs,gs[x.toNat]? = some g ∧ innA gs x = g.inn := by
  have hl : x.toNat < gs.length := by have := h.1; have := h.2; omega
  refine ⟨gs[x.toNat],List.getElem_mem hl,List.getElem?_eq_getElem hl,?_⟩
  unfold innA
  rw [List.getElem?_eq_getElem hl]; rfl
inductive Met (gs : List Nd) : Nat → List Int → List Int → List Int → Prop
  | nil (f : List Int) : Met gs 0 f [] f
  | skip {k : Nat} {f : List Int} {x : Int} {st r : List Int} : x ∈ f → Met gs k f st r → Met gs (k + 1) f (x :: st) r
  | new {k : Nat} {f : List Int} {x : Int} {st r : List Int} : x ∉ f → Met gs k (f ++ [x]) (innA gs x ++ st) r → Met gs (k + 1) f (x :: st) r
def wk (gs : List Nd) : Nat → Int → List Int → List Int
  | 0,_,f => f
  | d + 1,x,f => if x ∈ f then f else (innA gs x).foldl (fun f y => wk gs d y f) (f ++ [x])
def nf (f : List Int) (i : Nat) : Bool := decide ((i : Int) ∉ f)
def unl (gs : List Nd) (f : List Int) : List Nat := (List.range gs.length).filter (nf f)
def un (gs : List Nd) (f : List Int) : Nat := (unl gs f).length
theorem Zcz {α : Type} (p q : α → Bool) (h : ∀ a,p a = true → q a = true) : ∀ l : List α,(l.filter p).length ≤ (l.filter q).length
  | [] => Nat.le_refl _
  | a :: l => by
    have ih := Zcz p q h l
    cases hp : p a with
    | true => rw [List.filter_cons_of_pos hp,List.filter_cons_of_pos (h a hp)]; exact Nat.succ_le_succ ih
    | false =>
      rw [List.filter_cons_of_neg (by rw [hp]; exact Bool.false_ne_true)]
      cases hq : q a with
      | true => rw [List.filter_cons_of_pos hq]; exact Nat.le_succ_of_le ih
      | false => rw [List.filter_cons_of_neg (by rw [hq]; exact Bool.false_ne_true)]; exact ih
theorem un_le {f f' : List Int} (h : ∀ x ∈ f, x ∈ f') : un gs f' ≤ un gs f := Zcz (nf f') (nf f) (fun i hi => by
    unfold nf at *
    simp at hi ⊢
    exact fun z => hi (h _ z)) _
theorem wsum {w : Nat → Nat} {f : List Int} {x : Nat} (hx : (x : Int) ∉ f) : ∀ l : List Nat,l.Nodup → x ∈ l → ((l.filter (nf (f ++ [(x : Int)]))).map w).sum + w x = ((l.filter (nf f)).map w).sum
  | [],_,h => by cases h
  | a :: l,nd,h => by
    obtain ⟨na, nd'⟩ := List.nodup_cons.mp nd
    by_cases hax : a = x
    · subst hax
      have e1 : nf (f ++ [(a : Int)]) a = false := by simp [nf]
      have e2 : nf f a = true := by simp [nf,hx]
      have e3 : (l.filter (nf (f ++ [(a : Int)]))) = l.filter (nf f) := by
        refine List.filter_congr fun i hi => ?_
        have hne : i ≠ a := fun e => na (e ▸ hi)
        have : ¬ (i : Int) = (a : Int) := by omega
        simp [nf,this]
      rw [List.filter_cons_of_neg (by rw [e1]; exact Bool.false_ne_true),List.filter_cons_of_pos e2,List.map_cons,List.sum_cons,e3]
      omega
    · have hl : x ∈ l := by
        rcases List.mem_cons.mp h with e | e
        · exact absurd e.symm hax
        · exact e
      have ih := wsum (w := w) hx l nd' hl
      have ee : nf (f ++ [(x : Int)]) a = nf f a := by
        have : ¬ (a : Int) = (x : Int) := by omega
        simp [nf,this]
      cases hq : nf f a with
      | true => rw [List.filter_cons_of_pos (by rw [ee,hq]),List.filter_cons_of_pos hq,List.map_cons,List.map_cons,List.sum_cons,List.sum_cons]; omega
      | false => rw [List.filter_cons_of_neg (by rw [ee,hq]; exact Bool.false_ne_true),List.filter_cons_of_neg (by rw [hq]; exact Bool.false_ne_true)]; exact ih
def wt (gs : List Nd) (f : List Int) : Nat := ((unl gs f).map fun (i : Nat) => (innA gs (i : Int)).length).sum
theorem Zfd {f : List Int} {x : Int} (h : InG gs x) (hx : x ∉ f) : wt gs (f ++ [x]) + (innA gs x).length = wt gs f := by
  obtain ⟨n,rfl⟩ : ∃ n : Nat,x = (n : Int) := ⟨x.toNat,by have := h.1; omega⟩
  exact wsum (w := fun (i : Nat) => (innA gs (i : Int)).length) hx _ List.nodup_range (List.mem_range.mpr (by have := h.2; omega))
theorem Ziz {f : List Int} {x : Int} (h : InG gs x) (hx : x ∉ f) : un gs (f ++ [x]) + 1 = un gs f := by
  obtain ⟨n,rfl⟩ : ∃ n : Nat,x = (n : Int) := ⟨x.toNat,by have := h.1; omega⟩
  have := wsum (w := fun _ => 1) hx (List.range gs.length) List.nodup_range (List.mem_range.mpr (by have := h.2; omega))
  have e : ∀ l : List Nat,(l.map fun _ => 1).sum = l.length := fun l => by
    induction l with
    | nil => rfl
    | cons a l ih => rw [List.map_cons,List.sum_cons,ih,List.length_cons]; omega
  rw [e,e] at this
  exact this
theorem Zaa {g : List Int → Int → List Int} (h : ∀ f y,∀ x ∈ f,x ∈ g f y) : ∀ (ys f : List Int),∀ x ∈ f,x ∈ ys.foldl g f
  | [],_,_,hx => hx
  | y :: ys,f,x,hx => Zaa h ys (g f y) x (h f y x hx)
theorem Zfe : ∀ (d : Nat) (x : Int) (f : List Int),∀ z ∈ f,z ∈ wk gs d x f
  | 0,_,_,_,h => h
  | d + 1,x,f,z,h => by
    unfold wk
    by_cases hx : x ∈ f
    · rw [if_pos hx]; exact h
    · rw [if_neg hx]
      exact Zaa (fun f y z hz => Zfe d y f z hz) _ _ z (List.mem_append_left _ h)
theorem Zab {d : Nat} (hd : ∀ (x : Int) (f : List Int), InG gs x → un gs f < d → ∀ (k : Nat) (st r : List Int), Met gs k (wk gs d x f) st r → ∃ k', Met gs k' f (x :: st) r) : ∀ (ys f : List Int), (∀ y ∈ ys, InG gs y) → un gs f < d → ∀ (k : Nat) (st r : List Int), Met gs k (ys.foldl (fun f y => wk gs d y f) f) st r → ∃ k', Met gs k' f (ys ++ st) r
  | [],f,_,_,k,st,r,h => ⟨k,h⟩
  | y :: ys,f,hy,hu,k,st,r,h => by
    have hs : un gs (wk gs d y f) ≤ un gs f := un_le fun x hx => Zfe d y f x hx
    obtain ⟨k1,h1⟩ := Zab hd ys (wk gs d y f) (fun z hz => hy z (List.mem_cons_of_mem _ hz)) (by omega) k st r h
    exact hd y f (hy y List.mem_cons_self) hu k1 (ys ++ st) r h1
theorem Zff (hc : ClG gs) : ∀ (d : Nat) (x : Int) (f : List Int), InG gs x → un gs f < d → ∀ (k : Nat) (st r : List Int), Met gs k (wk gs d x f) st r → ∃ k', Met gs k' f (x :: st) r
  | 0,_,_,_,h,_,_,_,_ => by omega
  | d + 1,x,f,hx,hu,k,st,r,h => by
    unfold wk at h
    by_cases hm : x ∈ f
    · rw [if_pos hm] at h
      exact ⟨_,.skip hm h⟩
    · rw [if_neg hm] at h
      have := Ziz hx hm
      obtain ⟨k', h'⟩ := Zab (Zff hc d) (innA gs x) (f ++ [x]) (hc x hx) (by omega) k st r h
      exact ⟨_, .new hm h'⟩
theorem Zeh (hc : ClG gs) {x : Int} {d : Nat} (hx : InG gs x) (hd : gs.length < d) : ∃ k,Met gs k [] [x] (wk gs d x []) :=
  Zff hc d x [] hx (by
    have : un gs [] ≤ gs.length := by
      unfold un unl
      exact Nat.le_trans (List.length_filter_le _ _) (Nat.le_of_eq List.length_range)
    omega) 0 [] _ (.nil _)
theorem Met.steps (hc : ClG gs) {k : Nat} {f st r : List Int} (h : Met gs k f st r) : (∀ x ∈ st,InG gs x) → k ≤ st.length + wt gs f := by
  induction h with
  | nil f => intro _; exact Nat.zero_le _
  | skip hx _ ih =>
    intro hs
    have := ih fun x hx => hs x (List.mem_cons_of_mem _ hx)
    rw [List.length_cons]; omega
  | @new k f x st r hx _ ih =>
    intro hs
    have hi := hs x List.mem_cons_self
    have := ih fun y hy => by
      rcases List.mem_append.mp hy with hy | hy
      · exact hc x hi y hy
      · exact hs y (List.mem_cons_of_mem _ hy)
    have := Zfd hi hx
    rw [List.length_append] at *
    rw [List.length_cons]; omega
theorem Met.sub {k : Nat} {f st r : List Int} (h : Met gs k f st r) : (∀ x ∈ f,x ∈ r) ∧ ∀ x ∈ st,x ∈ r := by
  induction h with
  | nil f => exact ⟨fun _ h => h,fun _ h => by cases h⟩
  | skip hx _ ih =>
    exact ⟨ih.1,fun y hy => by
      rcases List.mem_cons.mp hy with e | e
      · rw [e]; exact ih.1 _ hx
      · exact ih.2 y e⟩
  | new hx _ ih =>
    exact ⟨fun y hy => ih.1 y (List.mem_append_left _ hy),fun y hy => by
      rcases List.mem_cons.mp hy with e | e
      · rw [e]; exact ih.1 _ (List.mem_append_right _ (List.mem_singleton.mpr rfl))
      · exact ih.2 y (List.mem_append_right _ e)⟩
theorem Met.nodup {k : Nat} {f st r : List Int} (h : Met gs k f st r) : f.Nodup → r.Nodup := by
  induction h with
  | nil f => exact id
  | skip hx _ ih =>
    exact ih
  | new hx _ ih =>
    exact fun nf => ih (List.nodup_append.mpr ⟨nf,by simp,fun a ha b hb => by
      rw [List.mem_singleton.mp hb]
      exact fun e => hx (e ▸ ha)⟩)
theorem Met.inG (hc : ClG gs) {k : Nat} {f st r : List Int} (h : Met gs k f st r) : (∀ x ∈ f,InG gs x) → (∀ x ∈ st,InG gs x) → ∀ x ∈ r,InG gs x := by
  induction h with
  | nil f => exact fun h _ => h
  | skip hx _ ih =>
    exact fun hf hs => ih hf fun x hx => hs x (List.mem_cons_of_mem _ hx)
  | @new k f x st r hx _ ih =>
    exact fun hf hs => ih (fun y hy => by
      rcases List.mem_append.mp hy with e | e
      · exact hf y e
      · rw [List.mem_singleton.mp e]; exact hs x List.mem_cons_self) fun y hy => by
      rcases List.mem_append.mp hy with e | e
      · exact hc x (hs x List.mem_cons_self) y e
      · exact hs y (List.mem_cons_of_mem _ e)
theorem Met.closed {k : Nat} {f st r : List Int} (h : Met gs k f st r) : (∀ x ∈ f,∀ y ∈ innA gs x,y ∈ f ∨ y ∈ st) → ∀ x ∈ r,∀ y ∈ innA gs x,y ∈ r := by
  induction h with
  | nil f => exact fun h x hx y hy => (h x hx y hy).elim id fun e => by cases e
  | skip hm _ ih =>
    exact fun h => ih fun x hx y hy => by
      rcases h x hx y hy with e | e
      · exact .inl e
      · rcases List.mem_cons.mp e with e | e
        · rw [e]; exact .inl hm
        · exact .inr e
  | @new k f x st r hm _ ih =>
    exact fun h => ih fun z hz y hy => by
      rcases List.mem_append.mp hz with e | e
      · rcases h z e y hy with e | e
        · exact .inl (List.mem_append_left _ e)
        · rcases List.mem_cons.mp e with e | e
          · rw [e]; exact .inl (List.mem_append_right _ (List.mem_singleton.mpr rfl))
          · exact .inr (List.mem_append_right _ e)
      · rw [List.mem_singleton.mp e] at hy
        exact .inr (List.mem_append_left _ hy)
theorem Met.map {gs' : List Nd} {h : Int → Int} {k : Nat} {f st r : List Int} (m : Met gs k f st r) (hi : ∀ x ∈ r, ∀ y ∈ r, h x = h y → x = y) (he : ∀ x ∈ r, innA gs' (h x) = (innA gs x).map h) : Met gs' k (f.map h) (st.map h) (r.map h) := by
  induction m with
  | nil f => exact .nil _
  | skip hx _ ih =>
    exact .skip (List.mem_map_of_mem hx) (ih hi he)
  | @new k f x st r hx m' ih =>
    have hs := m'.sub
    have hxr : x ∈ r := hs.1 x (List.mem_append_right _ (List.mem_singleton.mpr rfl))
    refine .new (fun hm => ?_) ?_
    · obtain ⟨z,hz,e⟩ := List.mem_map.mp hm
      have := hi z (hs.1 z (List.mem_append_left _ hz)) x hxr e
      exact hx (this ▸ hz)
    · have := ih hi he
      rw [List.map_append,List.map_append,← he x hxr] at this
      exact this
end
end Ap
set_option maxHeartbeats 4000000
namespace Ap
open PySem PySem.Spec PyProof.Rows L2 SX Fx
def nT : Nd → Fx.T
  | .sc a b => .tup [.str sSc,.str a,.str b]
  | .sq a ns => .tup [.str sSeq,.str a,.tup (ns.map .int)]
  | .mp a ps => .tup [.str sMap,.str a,.tup (ps.map pairT)]
def Tg (a : List Nat) : Prop := isT a = true ∧ a.length ≤ Lim ∧ okS a = true ∧ a ≠ [33,111,116,104,101,114]
def NdOk (size : Nat) : Nd → Prop
  | .sc a b => Tg a ∧ okS b = true
  | .sq a ns => Tg a ∧ ns.length ≤ 1000 ∧ ∀ n ∈ ns,0 ≤ n ∧ n < (size : Int)
  | .mp a ps => Tg a ∧ ps.length ≤ 500 ∧ ∀ p ∈ ps,(0 ≤ p.1 ∧ p.1 < (size : Int)) ∧ 0 ≤ p.2 ∧ p.2 < (size : Int)
theorem nd_ok {size : Nat} : ∀ {g : Nd},NdOk size g → ND size (nT g)
  | .sc _ _,⟨⟨h1,h2,h3,h4⟩,h⟩ => nd_sc h1 h2 h3 h h4
  | .sq _ _,⟨⟨h1,h2,h3,h4⟩,h,hb⟩ => Ziw h1 h2 h3 h4 h hb
  | .mp _ _,⟨⟨h1,h2,h3,h4⟩,h,hb⟩ => Zix h1 h2 h3 h4 h hb
theorem Z3e {size : Nat} : ∀ {g : Nd},NdOk size g → (∀ y ∈ g.inn,0 ≤ y ∧ y < (size : Int)) ∧ g.inn.length ≤ 1000
  | .sc _ _,_ => ⟨fun y hy => (by cases hy),Nat.zero_le _⟩
  | .sq _ _,⟨_,h,hb⟩ => ⟨hb,h⟩
  | .mp _ ps,⟨_,h,hb⟩ => ⟨fun y hy => by
      obtain ⟨p,hp,hy⟩ := List.mem_flatMap.mp hy
      have := hb p hp
      simp only [List.mem_cons,List.not_mem_nil,or_false] at hy
      rcases hy with e | e
      · rw [e]; exact this.1
      · rw [e]; exact this.2,by
      have e : ∀ l : List (Int × Int),(l.flatMap fun p => [p.1,p.2]).length = 2 * l.length := fun l => by
        induction l with
        | nil => rfl
        | cons p l ih => rw [List.flatMap_cons,List.length_append,ih,List.length_cons]; simp; omega
      show (ps.flatMap _).length ≤ 1000
      rw [e]; omega⟩
def GsOk (gs : List Nd) : Prop := ∀ g ∈ gs,NdOk gs.length g
theorem Z99 {gs : List Nd} (h : GsOk gs) : ClG gs := fun x hx y hy => by
  obtain ⟨g,hg,_,e⟩ := Z7d hx
  rw [e] at hy
  exact (Z3e (h g hg)).1 y hy
theorem wt_le {gs : List Nd} (h : GsOk gs) (f : List Int) : wt gs f ≤ 1000 * gs.length := by
  have e : ∀ l : List Nat,(∀ i ∈ l,i < gs.length) → (l.map fun (i : Nat) => (innA gs (i : Int)).length).sum ≤ 1000 * l.length := fun l => by
    induction l with
    | nil => intro _; exact Nat.le_refl _
    | cons i l ih =>
      intro hl
      have h1 := ih fun j hj => hl j (List.mem_cons_of_mem _ hj)
      have hi := hl i List.mem_cons_self
      obtain ⟨g,hg,_,e⟩ := Z7d (gs := gs) (x := (i : Int)) ⟨by omega,by omega⟩
      have h2 := (Z3e (h g hg)).2
      rw [List.map_cons,List.sum_cons,List.length_cons,e]
      omega
  have h1 := e (unl gs f) fun i hi => List.mem_range.mp (List.mem_filter.mp hi).1
  have h2 : (unl gs f).length ≤ gs.length := Nat.le_trans (List.length_filter_le _ _) (Nat.le_of_eq List.length_range)
  unfold wt
  have := Nat.mul_le_mul_left 1000 h2
  omega
def NG (size : Nat) (t : Fx.T) : Prop := ∃ g,NdOk size g ∧ t = nT g
theorem Zfg {size : Nat} : ∀ {ts : List Fx.T},(∀ t ∈ ts,NG size t) → ∃ gs : List Nd,ts = gs.map nT ∧ ∀ g ∈ gs,NdOk size g
  | [],_ => ⟨[],rfl,fun _ h => by cases h⟩
  | t :: ts,h => by
    obtain ⟨g,hg,rfl⟩ := h t List.mem_cons_self
    obtain ⟨gs,rfl,hgs⟩ := Zfg fun u hu => h u (List.mem_cons_of_mem _ hu)
    exact ⟨g :: gs,rfl,fun x hx => by
      rcases List.mem_cons.mp hx with e | e
      · rw [e]; exact hg
      · exact hgs x e⟩
theorem Zd0 {Z : Sto} {w : Nat} (hw : Wel Z w) {size : Nat} (h1 : 1 ≤ size) (h9 : size ≤ 14) : ∃ (t : Fx.T) (Z' : Sto), NG size t ∧ Uz [.loc w, .int (size : Int)] Z = .ok t Z' ∧ Kp w Z Z' := by
  obtain ⟨r,Z1,hr,e1,k1⟩ := Z0l hw 7 7 rfl (by decide) (by decide)
  by_cases h2 : r < 2
  · obtain ⟨t2,m2,Z2,e2,k2⟩ := Za8 (xs := [.str [33,33,115,116,114],.str [33,33,115,116,114],.str [33,120]]) k1.wel (by decide) (by decide)
    obtain ⟨t3,m3,Z3,e3,k3⟩ := Za8 (xs := [.str [97],.str [98],.str []]) k2.wel (by decide) (by decide)
    obtain ⟨tag,rfl,ht1,ht2,ht3,ht4⟩ : ∃ tag,t2 = .str tag ∧ isT tag = true ∧ tag.length ≤ Lim ∧ okS tag = true ∧ tag ≠ [33,111,116,104,101,114] := by
      simp at m2
      rcases m2 with rfl | rfl <;> exact ⟨_,rfl,by decide +kernel,by decide,by decide,by decide⟩
    obtain ⟨tx,rfl,hx⟩ : ∃ tx,t3 = .str tx ∧ okS tx = true := by
      simp at m3
      rcases m3 with rfl | rfl | rfl <;> exact ⟨_,rfl,by decide⟩
    refine ⟨.tup [.str sSc,.str tag,.str tx],Z3,⟨.sc tag tx,⟨⟨ht1,ht2,ht3,ht4⟩,hx⟩,rfl⟩,?_,(k1.trans k2).trans k3⟩
    have h2' : (r : Int) < 2 := by omega
    simp [Uz, runF, Z0a, e1, h2', e2, e3, sSc]
  · have h2' : ¬ (r : Int) < 2 := by omega
    by_cases h5 : r < 5
    · have h5' : (r : Int) < 5 := by omega
      obtain ⟨q,Z2,hq,e2,k2⟩ := Z0l k1.wel 4 4 rfl (by decide) (by decide)
      have hw2 := k2.wel.lt
      obtain ⟨acc,Z3,e3,ns,rfl,hl,hb,hg,hk3⟩ := Z7y (m := q) (D := Z2.length) (put := fun t => putN [4] t (wipeR [some (.loc w),some (.int (size : Int)),some (.int (r : Int)),none,none] [4])) (c := eYes) (e := Z08) (Z := Z2 ++ [.lst []])
        (fun j acc Z' => ∃ ns : List Int, acc = ns.map .int ∧ ns.length = j ∧ (∀ n ∈ ns, 0 ≤ n ∧ n < (size : Int)) ∧ getL Z' Z2.length = some acc ∧ Kp w Z2 Z')
        (by unfold Lim; omega) (fun _ _ _ h => by obtain ⟨_,_,_,_,h,_⟩ := h; exact h) ⟨[],rfl,rfl,by simp,Zk _ _,Kp.new k2.wel⟩
        (fun j hj acc Z' h => by
          obtain ⟨ns,rfl,hl,hb,hg,hk⟩ := h
          obtain ⟨c,Z4,hc,e4,k4⟩ := Z8d hk.wel size h1 (lt200 (by omega))
          have hg2 := k4.getL (by omega) hg
          refine ⟨_, rfl, .inr ⟨Z', .int (c : Int), Z4, rfl, ?_, hg2, ns ++ [(c : Int)], by simp, by simp [hl], ?_, Wj hg2, (hk.trans k4).put (Nat.le_refl _) hw2⟩⟩
          · simp [Z08,wipeR,putN,e4]
          · intro n hn
            rcases List.mem_append.mp hn with h | h
            · exact hb n h
            · rw [List.mem_singleton.mp h]; omega)
      obtain ⟨t4,m4,Z4,e4,k4⟩ := Za8 (xs := [.str [33,33,115,101,113],.str [33,33,115,101,113],.str [33,115]]) hk3.wel (by decide) (by decide)
      obtain ⟨tag,rfl,ht1,ht2,ht3,ht4⟩ : ∃ tag,t4 = .str tag ∧ isT tag = true ∧ tag.length ≤ Lim ∧ okS tag = true ∧ tag ≠ [33,111,116,104,101,114] := by
        simp at m4
        rcases m4 with rfl | rfl <;> exact ⟨_,rfl,by decide +kernel,by decide,by decide,by decide⟩
      have hg4 := k4.getL (by omega) hg
      refine ⟨.tup [.str sSeq,.str tag,.tup (ns.map .int)],Z4,⟨.sq tag ns,⟨⟨ht1,ht2,ht3,ht4⟩,by omega,hb⟩,rfl⟩,?_,(k1.trans k2).trans (hk3.trans k4)⟩
      have hqL : q ≤ Lim := by unfold Lim; omega
      generalize ns.map Fx.T.int = NS at *
      simp [Uz, runF, Z0a, e1, h2', h5', e2, rngN hqL, e3, e4, hg4, sSeq]
    · have h5' : ¬ (r : Int) < 5 := by omega
      obtain ⟨q,Z2,hq,e2,k2⟩ := Z0l k1.wel 3 3 rfl (by decide) (by decide)
      have hw2 := k2.wel.lt
      obtain ⟨acc,Z3,e3,ps,rfl,hl,hb,hg,hk3⟩ := Z7y (m := q) (D := Z2.length) (put := fun t => putN [4] t (wipeR [some (.loc w),some (.int (size : Int)),some (.int (r : Int)),none,none] [4])) (c := eYes) (e := Z09) (Z := Z2 ++ [.lst []])
        (fun j acc Z' => ∃ ps : List (Int × Int), acc = ps.map pairT ∧ ps.length = j ∧ (∀ p ∈ ps, (0 ≤ p.1 ∧ p.1 < (size : Int)) ∧ 0 ≤ p.2 ∧ p.2 < (size : Int)) ∧ getL Z' Z2.length = some acc ∧ Kp w Z2 Z')
        (by unfold Lim; omega) (fun _ _ _ h => by obtain ⟨_,_,_,_,h,_⟩ := h; exact h) ⟨[],rfl,rfl,by simp,Zk _ _,Kp.new k2.wel⟩
        (fun j hj acc Z' h => by
          obtain ⟨ps,rfl,hl,hb,hg,hk⟩ := h
          obtain ⟨c,Z4,hc,e4,k4⟩ := Z8d hk.wel size h1 (lt200 (by omega))
          obtain ⟨d,Z5,hd,e5,k5⟩ := Z8d k4.wel size h1 (lt200 (by omega))
          have hg2 := (k4.trans k5).getL (by omega) hg
          refine ⟨_, rfl, .inr ⟨Z', pairT ((c : Int), (d : Int)), Z5, rfl, ?_, hg2, ps ++ [((c : Int), (d : Int))], by simp, by simp [hl], ?_, Wj hg2, (hk.trans (k4.trans k5)).put (Nat.le_refl _) hw2⟩⟩
          · simp [Z09,wipeR,putN,e4,e5,pairT]
          · intro p hp
            rcases List.mem_append.mp hp with h | h
            · exact hb p h
            · rw [List.mem_singleton.mp h]; exact ⟨by omega,by omega⟩)
      obtain ⟨t4,m4,Z4,e4,k4⟩ := Za8 (xs := [.str [33,33,109,97,112],.str [33,33,109,97,112],.str [33,109]]) hk3.wel (by decide) (by decide)
      obtain ⟨tag,rfl,ht1,ht2,ht3,ht4⟩ : ∃ tag,t4 = .str tag ∧ isT tag = true ∧ tag.length ≤ Lim ∧ okS tag = true ∧ tag ≠ [33,111,116,104,101,114] := by
        simp at m4
        rcases m4 with rfl | rfl <;> exact ⟨_,rfl,by decide +kernel,by decide,by decide,by decide⟩
      have hg4 := k4.getL (by omega) hg
      refine ⟨.tup [.str sMap,.str tag,.tup (ps.map pairT)],Z4,⟨.mp tag ps,⟨⟨ht1,ht2,ht3,ht4⟩,by omega,hb⟩,rfl⟩,?_,(k1.trans k2).trans (hk3.trans k4)⟩
      have hqL : q ≤ Lim := by unfold Lim; omega
      generalize ps.map pairT = NS at *
      simp [Uz, runF, Z0a, e1, h2', h5', e2, rngN hqL, e3, e4, hg4, sMap]
def NIG (w size b : Nat) (Z : Sto) (k : Nat) (ρ : Fx.Env) (Z' : Sto) : Prop := (∃ o3 o4, ρ = [some (.loc w), some (.int (size : Int)), some (.loc b), o3, o4]) ∧ ∃ ts, getL Z' b = some ts ∧ ts.length = k ∧ (∀ t ∈ ts, NG size t) ∧ Kp w Z Z'
theorem Z9a {Z : Sto} {w size : Nat} (hw0 : w < Z.length) (h1 : 1 ≤ size) (h9 : size ≤ 14) (k : Nat) (hkm : k < size) (ρ : Fx.Env) (Z' : Sto) (h : NIG w size Z.length Z k ρ Z') : ∃ ρ' Z'', bS ρ (gNm 3 (.int (k : Int)) ρ Z') Yy = .nx ρ' Z'' ∧ NIG w size Z.length Z (k + 1) ρ' Z'' := by
  obtain ⟨⟨o3,o4,rfl⟩,ts,hg,hl,hn,hk⟩ := h
  have hne := Ziy (Z := Z' ++ [.lst []]) (Yx hg) (Zk _ _)
  have kN : Kp w Z (Z' ++ [.lst []]) := hk.trans (Kp.new hk.wel)
  have hgN : getL (Z' ++ [.lst []]) Z.length = some ts := Yx hg
  have hi : Z.length ≠ w := by omega
  by_cases h0 : ts = []
  · rw [decide_eq_true h0] at hne
    obtain ⟨t,Z2,ht,e2,k2⟩ := Zd0 kN.wel h1 h9
    have hg2 := k2.getL hi hgN
    have hlt : ts.length < Lim := by unfold Lim; omega
    have ea := Za0 Z.length t Z2 hg2 hlt
    refine ⟨[some (.loc w),some (.int (size : Int)),some (.loc Z.length),some (.int (k : Int)),some (.bl false)],Z2.set Z.length (.lst (ts ++ [t])),?_,⟨_,_,rfl⟩,ts ++ [t],Wj hg2,by simp [hl],?_,(kN.trans k2).put (Nat.le_refl _) hw0⟩
    · simp [Yy,hne,e2,Z57 hgN,ea]
    · intro u hu
      rcases List.mem_append.mp hu with h | h
      · exact hn u h
      · rw [List.mem_singleton.mp h]; exact ht
  · rw [decide_eq_false h0] at hne
    obtain ⟨r,Z2,hr,e2,k2⟩ := Z0l kN.wel 4 4 rfl (by decide) (by decide)
    have hg2 := k2.getL hi hgN
    have hlt : ts.length < Lim := by unfold Lim; omega
    by_cases hr0 : r = 0
    · subst hr0
      have hp : 0 < ts.length := List.length_pos_iff.mpr h0
      obtain ⟨t,ht,Z3,e3,k3⟩ := Z4j k2.wel hg2 hi hp (lt200 (by omega))
      have hg3 := k3.getL hi hg2
      have ea := Za0 Z.length t Z3 hg3 hlt
      refine ⟨[some (.loc w),some (.int (size : Int)),some (.loc Z.length),some (.int (k : Int)),some (.bl true)],Z3.set Z.length (.lst (ts ++ [t])),?_,⟨_,_,rfl⟩,ts ++ [t],Wj hg3,by simp [hl],?_,(kN.trans (k2.trans k3)).put (Nat.le_refl _) hw0⟩
      · simp [Yy,hne,e2,e3,Z57 hg2,ea]
      · intro u hu
        rcases List.mem_append.mp hu with h | h
        · exact hn u h
        · rw [List.mem_singleton.mp h]; exact hn t ht
    · obtain ⟨t,Z3,ht,e3,k3⟩ := Zd0 k2.wel h1 h9
      have hg3 := k3.getL hi hg2
      have ea := Za0 Z.length t Z3 hg3 hlt
      refine ⟨[some (.loc w),some (.int (size : Int)),some (.loc Z.length),some (.int (k : Int)),some (.bl false)],Z3.set Z.length (.lst (ts ++ [t])),?_,⟨_,_,rfl⟩,ts ++ [t],Wj hg3,by simp [hl],?_,(kN.trans (k2.trans k3)).put (Nat.le_refl _) hw0⟩
      · simp [Yy,hne,e2,hr0,e3,Z57 hg2,ea]
      · intro u hu
        rcases List.mem_append.mp hu with h | h
        · exact hn u h
        · rw [List.mem_singleton.mp h]; exact ht
theorem Zei {Z : Sto} {w : Nat} (hw : Wel Z w) {size : Nat} (h1 : 1 ≤ size) (h9 : size ≤ 14) : ∃ (i : Nat) (ts : List Fx.T) (Z' : Sto), Jq [.loc w, .int (size : Int)] Z = .ok (.loc i) Z' ∧ getL Z' i = some ts ∧ ts.length = size ∧ (∀ t ∈ ts, NG size t) ∧ Z.length ≤ i ∧ Kp w Z Z' := by
  have hw0 := hw.lt
  obtain ⟨ρ1, Z1, e1, ⟨o3, o4, rfl⟩, ts, hg, hl, hn, hk⟩ := Z1j (m := size) (body := fun t ρ' Z' => bS ρ' (gNm 3 t ρ' Z') Yy) (Z := Z ++ [.lst []]) (ρ := [some (.loc w), some (.int (size : Int)), some (.loc Z.length), none, none])
    (fun k ρ Z' => NIG w size Z.length Z k ρ Z')
    (by unfold Lim; omega) ⟨⟨_,_,rfl⟩,[],Zk _ _,rfl,by simp,Kp.new hw⟩
    (fun k hkm ρ Z' h => Z9a hw0 h1 h9 k hkm ρ Z' h)
  have hsL : size ≤ Lim := by unfold Lim; omega
  have hf : sFor (iRng (aCons (eVar 1) aNil)) (gNm 3) Yy [some (.loc w),some (.int (size : Int)),some (.loc Z.length),none,none] (Z ++ [.lst []]) = .nx [some (.loc w),some (.int (size : Int)),some (.loc Z.length),o3,o4] Z1 := by
    have hi : iRng (aCons (eVar 1) aNil) [some (.loc w),some (.int (size : Int)),some (.loc Z.length),none,none] (Z ++ [.lst []]) = .ok (itRng 0 size) (Z ++ [.lst []]) := by
      generalize Z ++ [O.lst []] = ZZ
      simp [rngN hsL]
    rw [Zcd,hi,Z22]
    exact e1
  refine ⟨Z.length,ts,Z1,?_,hg,hl,hn,Nat.le_refl _,hk⟩
  exact Zcy hf
end Ap
set_option maxHeartbeats 8000000
namespace Ap
open PySem PySem.Spec PyProof.Rows L2 SX Fx
theorem Zgz {α : Type} (ts : List α) : pickL ts none none (some (-1)) = ts.reverse := by
  unfold pickL
  have e0 : sliceBounds none none (some (-1)) ts.length = ((ts.length : Int) - 1,-1,-1) := rfl
  rw [e0]
  show (sliceRange ((ts.length : Int) - 1) (-1) (-1)).filterMap _ = _
  have e1 : sliceRange ((ts.length : Int) - 1) (-1) (-1) = (List.range ts.length).map fun (k : Nat) => ts.length - 1 - k := by
    show (List.range (if (-1 : Int) > 0 then (if (ts.length : Int) - 1 < -1 then (-1 - ((ts.length : Int) - 1) + -1 - 1) / -1 else 0) else (if (ts.length : Int) - 1 > -1 then ((ts.length : Int) - 1 - -1 - -1 - 1) / (- -1) else 0)).toNat).map (fun (k : Nat) => ((ts.length : Int) - 1 + -1 * (k : Int)).toNat) = _
    have e2 : (if (-1 : Int) > 0 then (if (ts.length : Int) - 1 < -1 then (-1 - ((ts.length : Int) - 1) + -1 - 1) / -1 else 0) else (if (ts.length : Int) - 1 > -1 then ((ts.length : Int) - 1 - -1 - -1 - 1) / (- -1) else 0)) = (ts.length : Int) := by
      rw [if_neg (by decide),show (- -1 : Int) = 1 from rfl,Int.ediv_one]
      split <;> omega
    rw [e2,Int.toNat_natCast]
    refine List.map_congr_left fun k hk => ?_
    have := List.mem_range.mp hk
    omega
  rw [e1]
  apply List.ext_getElem?
  intro i
  have e3 : ((List.range ts.length).map fun (k : Nat) => ts.length - 1 - k).filterMap (ts[·]?) = (List.range ts.length).attach.map (fun k => ts[ts.length - 1 - k.1]'(by have := List.mem_range.mp k.2; omega)) := by
    rw [List.filterMap_map]
    have : ∀ l : List Nat, (hl : ∀ k ∈ l, k < ts.length) → l.filterMap ((ts[·]?) ∘ fun k => ts.length - 1 - k) = l.attach.map (fun k => ts[ts.length - 1 - k.1]'(by have := hl k.1 k.2; omega)) := fun l => by
      induction l with
      | nil => intro _; rfl
      | cons a l ih =>
        intro hl
        have ha := hl a List.mem_cons_self
        have h1 : ts.length - 1 - a < ts.length := by omega
        have h2 : ((ts[·]?) ∘ fun k => ts.length - 1 - k) a = some (ts[ts.length - 1 - a]) := by
          show ts[ts.length - 1 - a]? = _
          rw [List.getElem?_eq_getElem h1]
        rw [List.filterMap_cons,h2,ih fun k hk => hl k (List.mem_cons_of_mem _ hk)]
        simp
    exact this _ fun k hk => List.mem_range.mp hk
  rw [e3]
  by_cases hi : i < ts.length
  · rw [List.getElem?_reverse hi]
    simp [hi]
  · rw [List.getElem?_eq_none (by simp; omega),List.getElem?_eq_none (by simp; omega)]
theorem Zac {Z : Sto} {i : Nat} {ts : List Fx.T} (h : getL Z i = some ts) (hl : ts.length ≤ Lim) : gSlS (.loc i) none none (some (-1)) Z = some (.loc Z.length,Z ++ [.lst ts.reverse]) := by
  unfold gSlS
  rw [Xy,h]
  simp only [Zgz]
  rw [if_neg]
  rintro (e | e)
  · cases e
  · rw [List.length_reverse] at e; omega
def tI (ns : List Int) : List Fx.T := ns.map .int
theorem Fuel3 : ∃ m,Fuel = m + 3 := ⟨Lim - 1,by rw [Qs]; unfold Lim; rfl⟩
theorem Zd1 {D : Nat} {ρ : Fx.Env} {a b : Int} {acc : List Fx.T} {Z : Sto} (h0 : ∃ o0 o1,ρ = [o0,o1,none]) (hg : getL Z D = some acc) (hl : acc.length + 2 ≤ Lim) :
    loopC (itSeq [.int a,.int b]) D (fun t => putN [2] t (wipeR ρ [2])) eYes Z17 Fuel 0 Z = .ok (.loc D) (Z.set D (.lst (acc ++ [.int a,.int b]))) := by
  obtain ⟨o0,o1,rfl⟩ := h0
  obtain ⟨m,hm⟩ := Fuel3
  rw [hm]
  have h1 : acc.length < Lim := by omega
  have h2 : (acc ++ [Fx.T.int a]).length < Lim := by rw [List.length_append]; simp; omega
  have g2 := Wj (us := acc ++ [Fx.T.int a]) hg
  simp [loopC,itSeq,wipeR,putN,Z17,hg,h1,g2,h2,eYes,noX]
  try omega
theorem Z6h {D : Nat} {o0 : Option Fx.T} {ps : List (Int × Int)} : ∀ (post pre : List (Int × Int)) (n : Nat) (acc : List Fx.T) (Z : Sto),ps = pre ++ post → getL Z D = some acc → post.length < n → acc.length + 2 * post.length ≤ Lim →
    loopC2 (itSeq (ps.map pairT)) D (fun t => putN [1] t [o0, none, none]) Z18 (fun ρ' t => putN [2] t (wipeR ρ' [2])) Z17 n pre.length Z = .ok (.loc D) (Z.set D (.lst (acc ++ tI (post.flatMap fun p => [p.1, p.2]))))
  | [],pre,n + 1,acc,Z,hp,hg,_,_ => by
    unfold loopC2
    have : (itSeq (ps.map pairT)) pre.length Z = some none := by
      rw [hp]; simp [itSeq]
    rw [this]
    have e : Z.set D (.lst (acc ++ tI ([] : List Int))) = Z := by
      rw [show acc ++ tI [] = acc from List.append_nil _]
      rw [V3] at hg
      obtain ⟨h1,h2⟩ := List.getElem?_eq_some_iff.mp hg
      apply List.ext_getElem?
      intro j
      by_cases hj : j = D
      · subst hj; rw [List.getElem?_set_self h1,hg]
      · rw [List.getElem?_set_ne (Ne.symm hj)]
    simp only [List.flatMap_nil,e]
  | p :: post,pre,n + 1,acc,Z,hp,hg,hn,hl => by
    unfold loopC2
    have e1 : (itSeq (ps.map pairT)) pre.length Z = some (some (pairT p)) := by
      rw [hp]; simp [itSeq]
    rw [List.length_cons] at hn hl
    have e2 := Zd1 (D := D) (ρ := [o0,some (pairT p),none]) (a := p.1) (b := p.2) (Z := Z) ⟨_,_,rfl⟩ hg (by omega)
    have e3 := Z6h (ps := ps) (o0 := o0) post (pre ++ [p]) n (acc ++ [.int p.1,.int p.2]) (Z.set D (.lst (acc ++ [.int p.1,.int p.2]))) (by rw [hp]; simp) (Wj hg) (by omega) (by rw [List.length_append]; simp; omega)
    rw [List.length_append] at e3
    have e4 : putN [1] (pairT p) [o0,none,none] = some [o0,some (pairT p),none] := by rw [Qg]; rfl
    have e5 : ∀ Z,Z18 [o0,some (pairT p),none] Z = .ok (itSeq [.int p.1,.int p.2]) Z := fun Z => by simp [Z18,pairT]
    simp only [e1,e4,e5,Z68,Yo,e2]
    show loopC2 _ _ _ _ _ _ n (pre.length + 1) _ = _
    have e6 : (pre.length + [p].length) = pre.length + 1 := rfl
    rw [e6] at e3
    rw [e3,List.set_set,List.append_assoc]
    rfl
theorem Zd2 {g : Nd} {size : Nat} (h : NdOk size g) (Z : Sto) : Z19 [nT g] Z = .ok (.loc Z.length) (Z ++ [.lst (tI g.inn)]) := by
  cases g with
  | sc a b => simp [Z19,runF,Z6x,nT,sSc,tI,Nd.inn]
  | sq a ns =>
    simp only [nT,sSeq]
    have : asSeq (.tup (ns.map Fx.T.int)) Z = some (tI ns) := rfl
    simp [Z19,runF,Z6x,Nd.inn,gList,asSeq,tI]
  | mp a ps =>
    obtain ⟨_,hl,_⟩ := h
    have e := Z6h (D := Z.length) (o0 := some (nT (.mp a ps))) (ps := ps) ps [] Fuel [] (Z ++ [.lst []]) rfl (Zk _ _) (by rw [Qs]; unfold Lim; omega) (by simp [Lim]; omega)
    rw [List.nil_append] at e
    have e2 : (Z ++ [O.lst []]).set Z.length (.lst (tI (ps.flatMap fun p => [p.1,p.2]))) = Z ++ [.lst (tI (ps.flatMap fun p => [p.1,p.2]))] := set_mid Z _ _ []
    rw [e2] at e
    have e3 : eLc2 [1,2] [1] (iAny (eBin gIxW (eVar 0) (eC (.int 2)))) [2] [2] Z18 Z17 [some (nT (.mp a ps)),none,none] Z = .ok (.loc Z.length) (Z ++ [.lst (tI (Nd.mp a ps).inn)]) := by
      have hi : iAny (eBin gIxW (eVar 0) (eC (.int 2))) [some (nT (.mp a ps)),none,none] Z = .ok (itSeq (ps.map pairT)) Z := by
        simp only [nT]
        generalize ps.map pairT = PS
        have a2 : atI [Fx.T.str sMap,.str a,.tup PS] 2 = some (.tup PS) := atI_nat (k := 2) rfl
        simp [a2]
      unfold eLc2
      rw [hi,Yo]
      exact e
    simp only [nT,sMap] at e3 ⊢
    generalize ps.map pairT = PS at e3 ⊢
    simp [Z19,runF,Z6x,e3]
end Ap
set_option maxHeartbeats 8000000
namespace Ap
open PySem PySem.Spec PyProof.Rows L2 SX Fx
def fD (f : List Int) : List (Key × Fx.T) := f.map fun x => (.inl x,.bl true)
theorem Zd3 (y : Int) : ∀ f : List Int,getK (fD f) (.inl y) = if y ∈ f then some (.bl true) else none
  | [] => by simp [fD,getK]
  | x :: f => by
    have ih := Zd3 y f
    show (if keyEq (.inl x) (.inl y) = true then _ else getK (fD f) (.inl y)) = _
    rw [ih]
    by_cases h : x = y
    · subst h; simp [keyEq]
    · have h' : ¬ y = x := fun e => h e.symm
      simp [keyEq, h, h']
theorem Zfh (y : Int) : ∀ f : List Int,hasK (fD f) (.inl y) = decide (y ∈ f)
  | [] => by simp [fD,hasK]
  | x :: f => by
    have ih := Zfh y f
    show (keyEq (.inl x) (.inl y) || hasK (fD f) (.inl y)) = _
    rw [ih]
    by_cases h : x = y
    · subst h; simp [keyEq]
    · have h' : ¬ y = x := fun e => h e.symm
      simp [keyEq, h, h']
theorem Zj0 {f : List Int} {x : Int} (h : x ∉ f) : putKT (fD f) (.inl x) (.bl true) = fD (f ++ [x]) := by
  unfold putKT
  rw [Zfh,decide_eq_false h]
  simp [fD]
theorem Zd4 : ∀ f : List Int,tKeys (fD f) = some (tI f)
  | [] => rfl
  | x :: f => by
    show (match tKey (.inl x),tKeys (fD f) with | some t,some ts => some (t :: ts) | _,_ => none) = _
    rw [Zd4 f]; rfl
theorem Zj1 (f : List Int) : (fD f).length = f.length := List.length_map _
theorem Z8e (f : List Int) : (tI f).length = f.length := List.length_map _
theorem Z1l {Z : Sto} {i : Nat} {k : List (Key × Fx.T)} : getDK Z i = some k ↔ Z[i]? = some (.dk k) := ⟨Z9r,fun h => by unfold getDK; rw [h]⟩
theorem Wy {Z Y : Sto} {i : Nat} {k : List (Key × Fx.T)} (h : getDK Z i = some k) : getDK (Z ++ Y) i = some k := by
  rw [Z1l] at h ⊢
  rw [List.getElem?_append_left (List.getElem?_eq_some_iff.mp h).1]; exact h
theorem Zd5 {Z : Sto} {i : Nat} {k k' : List (Key × Fx.T)} (h : getDK Z i = some k) : getDK (Z.set i (.dk k')) i = some k' := by
  rw [Z1l] at h ⊢
  rw [List.getElem?_set_self (List.getElem?_eq_some_iff.mp h).1]
theorem Zad {Z : Sto} {i j : Nat} {o : O} (h : i ≠ j) : getDK (Z.set i o) j = getDK Z j := by unfold getDK; rw [List.getElem?_set_ne h]
def Ext (Z Z' : Sto) : Prop := ∃ Y, Z' = Z ++ Y
theorem Ext.refl (Z : Sto) : Ext Z Z := ⟨[],(List.append_nil _).symm⟩
theorem Ext.app {Z Z' : Sto} (h : Ext Z Z') (Y : Sto) : Ext Z (Z' ++ Y) := by
  obtain ⟨X,rfl⟩ := h
  exact ⟨X ++ Y,List.append_assoc _ _ _⟩
theorem Ext.trans {Z Z1 Z2 : Sto} (h : Ext Z Z1) (h2 : Ext Z1 Z2) : Ext Z Z2 := by
  obtain ⟨X,rfl⟩ := h2
  exact h.app X
theorem Ext.set {Z Z' : Sto} (h : Ext Z Z') {i : Nat} {o : O} (hi : Z.length ≤ i) : Ext Z (Z'.set i o) := by
  obtain ⟨X,rfl⟩ := h
  exact ⟨X.set (i - Z.length) o,List.set_append_right _ _ hi⟩
theorem Ext.len {Z Z' : Sto} (h : Ext Z Z') : Z.length ≤ Z'.length := by
  obtain ⟨X,rfl⟩ := h
  rw [List.length_append]; omega
theorem Ext.getL {Z Z' : Sto} (h : Ext Z Z') {i : Nat} {ts : List Fx.T} (e : Fx.getL Z i = some ts) : Fx.getL Z' i = some ts := by
  obtain ⟨X,rfl⟩ := h
  exact Yx e
section
variable {gs : List Nd}
def nsT (gs : List Nd) : Fx.T := .tup (gs.map nT)
theorem Zh0 {x : Int} (h : InG gs x) {g : Nd} (e : gs[x.toNat]? = some g) (Z : Sto) : gIxW (nsT gs) (.int x) Z = some (nT g,Z) := by
  obtain ⟨n,rfl⟩ : ∃ n : Nat,x = (n : Int) := ⟨x.toNat,by have := h.1; omega⟩
  have : atI (gs.map nT) (n : Int) = some (nT g) := Fx.atI_nat (by rw [List.getElem?_map,show gs[n]? = some g from e]; rfl)
  unfold nsT
  simp [this]
def mE (N : Fx.T) (b D W : Nat) (o4 : Option Fx.T) : Fx.Env := [some N,some (.loc b),some (.loc D),some (.loc W),o4]
structure MS (Z : Sto) (D W : Nat) (f st : List Int) (Z' : Sto) : Prop where
  ext : Ext Z Z'
  hD : Z.length ≤ D
  hW : Z.length ≤ W
  ne : D ≠ W
  d : getDK Z' D = some (fD f)
  w : getL Z' W = some (tI st.reverse)
theorem Z7e {N : Fx.T} {b D W : Nat} {o4 : Option Fx.T} {Z Z' : Sto} {f st : List Int} (s : MS Z D W f st Z') : eBl (eBin gNeL (eVar 3) (eLst aNil)) (mE N b D W o4) Z' = .ok (!decide (st = [])) (Z' ++ [O.lst []]) := by
  have e := Ziy (Z := Z' ++ [O.lst []]) (Yx s.w) (Zk Z' [])
  have e2 : decide (tI st.reverse = []) = decide (st = []) := by
    cases st with
    | nil => rfl
    | cons a l => simp [tI]
  rw [e2] at e
  simp [mE,e]
theorem Zd6 {N : Fx.T} {b D W : Nat} {o4 : Option Fx.T} {Z Z' : Sto} {f st : List Int} {x : Int} (s : MS Z D W f (x :: st) Z') : sSet 4 (eBM "list" gPop (eVar 3) aNil) (mE N b D W o4) (Z' ++ [O.lst []]) = .nx (mE N b D W (some (.int x))) ((Z' ++ [O.lst []]).set W (.lst (tI st.reverse))) ∧ MS Z D W f st ((Z' ++ [O.lst []]).set W (.lst (tI st.reverse))) := by
  have hw : getL (Z' ++ [O.lst []]) W = some (tI st.reverse ++ [.int x]) := by
    rw [Yx s.w]
    simp [tI]
  have hp : gPop (.loc W) [] (Z' ++ [O.lst []]) = some (.int x, (Z' ++ [O.lst []]).set W (.lst (tI st.reverse))) := by
    simp only [gPop,hw]
    have e1 : (tI st.reverse ++ [Fx.T.int x])[(tI st.reverse ++ [Fx.T.int x]).length - 1]? = some (.int x) := by simp
    simp only [e1,List.dropLast_concat]
  refine ⟨?_,(s.ext.app _).set s.hW,s.hD,s.hW,s.ne,?_,Wj hw⟩
  · simp [mE,Z57 hw,hp]
  · rw [Zad (Ne.symm s.ne)]
    exact Wy s.d
theorem Zej (hgs : GsOk gs) {b D W : Nat} {Z : Sto} {k : Nat} {f st r : List Int} (m : Met gs k f st r) : ∀ (n : Nat) (o4 : Option Fx.T) (Z' : Sto), k < n → (∀ x ∈ st, InG gs x) → f.length + st.length + wt gs f ≤ 500000 → MS Z D W f st Z' →
    ∃ o4' Z'', loopW (eBl (eBin gNeL (eVar 3) (eLst aNil))) Z6y n (mE (nsT gs) b D W o4) Z' = .nx (mE (nsT gs) b D W o4') Z'' ∧ Ext Z Z'' ∧ getDK Z'' D = some (fD r) := by
  induction m with
  | nil f =>
    intro n o4 Z' hn hs hb s
    obtain ⟨n, rfl⟩ : ∃ n', n = n' + 1 := ⟨n - 1, by omega⟩
    unfold loopW
    rw [Z7e s,Z22,if_neg (by simp)]
    exact ⟨o4,_,rfl,s.ext.app _,Wy s.d⟩
  | @skip k f x st r hx m ih =>
    intro n o4 Z' hn hs hb s
    obtain ⟨n, rfl⟩ : ∃ n', n = n' + 1 := ⟨n - 1, by omega⟩
    obtain ⟨e1,s1⟩ := Zd6 (N := nsT gs) (b := b) (o4 := o4) s
    rw [List.length_cons] at hb
    obtain ⟨o', Z'', e2, h2⟩ := ih n (some (.int x)) _ (by omega) (fun y hy => hs y (List.mem_cons_of_mem _ hy)) (by omega) s1
    refine ⟨o', Z'', ?_, h2⟩
    unfold loopW
    rw [Z7e s,Z22,if_pos (by simp)]
    have hb1 : Z6y (mE (nsT gs) b D W o4) (Z' ++ [O.lst []]) = .nx (mE (nsT gs) b D W (some (.int x))) ((Z' ++ [O.lst []]).set W (.lst (tI st.reverse))) := by
      refine X6 e1 ?_
      have hd := s1.d
      generalize (Z' ++ [O.lst []]).set W (.lst (tI st.reverse)) = Z1 at *
      have hg : gNotInW (.int x) (.loc D) Z1 = some (.bl false,Z1) := by
        simp only [gNotInW,hd,keyT,Option.map_some,Zd3,if_pos hx]; rfl
      simp [mE,hg]
    rw [hb1]
    exact e2
  | @new k f x st r hx m ih =>
    intro n o4 Z' hn hs hb s
    obtain ⟨n, rfl⟩ : ∃ n', n = n' + 1 := ⟨n - 1, by omega⟩
    obtain ⟨e1,s1⟩ := Zd6 (N := nsT gs) (b := b) (o4 := o4) s
    have hi := hs x List.mem_cons_self
    have hw := Zfd hi hx
    obtain ⟨g,hg,hgx,hinn⟩ := Z7d hi
    have hil := (Z3e (hgs g hg)).2
    rw [List.length_cons] at hb
    obtain ⟨Z1, hZ1⟩ : ∃ Z1, Z1 = (Z' ++ [O.lst []]).set W (.lst (tI st.reverse)) := ⟨_, rfl⟩
    rw [← hZ1] at e1 s1
    -- the dict
    obtain ⟨Z2,hZ2⟩ : ∃ Z2,Z2 = Z1.set D (.dk (fD (f ++ [x]))) := ⟨_,rfl⟩
    have d1 : gSetW (.loc D) (.int x) (.bl true) Z1 = some Z2 := by
      simp only [gSetW,s1.d,keyT]
      rw [if_pos (by rw [Zj1]; unfold Lim; omega),Zj0 hx,hZ2]
    have d2 : getDK Z2 D = some (fD (f ++ [x])) := by rw [hZ2]; exact Zd5 s1.d
    have w2 : getL Z2 W = some (tI st.reverse) := by rw [hZ2,Z56 s1.ne]; exact s1.w
    -- the numbers within
    have i1 := Zd2 (hgs g hg) Z2
    obtain ⟨Z3,hZ3⟩ : ∃ Z3,Z3 = Z2 ++ [O.lst (tI g.inn)] := ⟨_,rfl⟩
    rw [← hZ3] at i1
    have l3 : getL Z3 Z2.length = some (tI g.inn) := by rw [hZ3]; exact Zk _ _
    have r3 := Zac l3 (by rw [Z8e]; unfold Lim; omega)
    obtain ⟨Z4,hZ4⟩ : ∃ Z4,Z4 = Z3 ++ [O.lst (tI g.inn).reverse] := ⟨_,rfl⟩
    rw [← hZ4] at r3
    have l4 : getL Z4 Z3.length = some (tI g.inn).reverse := by rw [hZ4]; exact Zk _ _
    have w4 : getL Z4 W = some (tI st.reverse) := by rw [hZ4,hZ3]; exact Yx (Yx w2)
    obtain ⟨Z5,hZ5⟩ : ∃ Z5,Z5 = Z4.set W (.lst (tI st.reverse ++ (tI g.inn).reverse)) := ⟨_,rfl⟩
    have x5 : gExtend (.loc W) [.loc Z3.length] Z4 = some (.non,Z5) := by
      simp only [gExtend,w4,l4]
      rw [if_pos (by rw [List.length_reverse,Z8e,Z8e,List.length_reverse]; unfold Lim; omega),hZ5]
    have hD4 : D < Z4.length := by
      have := (List.getElem?_eq_some_iff.mp (Z1l.mp d2)).1
      rw [hZ4,hZ3]; simp; omega
    have s5 : MS Z D W (f ++ [x]) (innA gs x ++ st) Z5 := by
      refine ⟨?_,s.hD,s.hW,s.ne,?_,?_⟩
      · rw [hZ5,hZ4,hZ3,hZ2]
        exact ((((s1.ext).set s.hD).app _).app _).set s.hW
      · rw [hZ5,Zad (Ne.symm s.ne),hZ4,hZ3]
        exact Wy (Wy d2)
      · rw [hZ5]
        have e := Wj (us := tI st.reverse ++ (tI g.inn).reverse) w4
        rw [e,hinn]
        simp [tI]
    have hc := Z99 hgs
    obtain ⟨o', Z'', e2, h2⟩ := ih n (some (.int x)) Z5 (by omega) (fun y hy => by
      rcases List.mem_append.mp hy with hy | hy
      · exact hc x hi y hy
      · exact hs y (List.mem_cons_of_mem _ hy)) (by rw [List.length_append,List.length_append]; simp; omega) s5
    refine ⟨o', Z'', ?_, h2⟩
    unfold loopW
    rw [Z7e s,Z22,if_pos (by simp)]
    have hb1 : Z6y (mE (nsT gs) b D W o4) (Z' ++ [O.lst []]) = .nx (mE (nsT gs) b D W (some (.int x))) Z5 := by
      refine X6 e1 ?_
      have hg1 : gNotInW (.int x) (.loc D) Z1 = some (.bl true,Z1) := by
        simp only [gNotInW,s1.d,keyT,Option.map_some,Zd3,if_neg hx]; rfl
      have n2 := Zh0 hi hgx Z2
      have t4 := Z57 w2
      simp [mE,hg1,d1,n2,i1,eSlS,oNone,oSome,r3,t4,x5]
    rw [hb1]
    exact e2
theorem f_met (hgs : GsOk gs) (hN : gs.length ≤ 200) {Z : Sto} {b k : Nat} {bs r : List Int} (hb : getL Z b = some (tI bs)) (hbi : ∀ x ∈ bs,InG gs x) (hbl : bs.length ≤ 1000) (m : Met gs k [] bs r) :
    ∃ i Z', Zgq [nsT gs, .loc b] Z = .ok (.loc i) Z' ∧ Ext Z Z' ∧ Z.length ≤ i ∧ getL Z' i = some (tI r) := by
  have hwt := wt_le hgs []
  have hk := m.steps (Z99 hgs) hbi
  obtain ⟨Z1,hZ1⟩ : ∃ Z1,Z1 = Z ++ [O.dk []] := ⟨_,rfl⟩
  have b1 : getL Z1 b = some (tI bs) := by rw [hZ1]; exact Yx hb
  have c1 : getDK Z1 b = none := by unfold getDK; rw [V3.mp b1]
  obtain ⟨Z2,hZ2⟩ : ∃ Z2,Z2 = Z1 ++ [O.lst (tI bs)] := ⟨_,rfl⟩
  have g1 : gListW [.loc b] Z1 = some (.loc Z1.length,Z2) := by
    show (match getDK Z1 b with | some kvs => (tKeys kvs).map fun ts => (Fx.T.loc Z1.length,Z1 ++ [O.lst ts]) | none => gList [.loc b] Z1) = _
    rw [c1]
    simp [gList,asSeq,Xy,b1,hZ2]
  have r2 := Zac (Z := Z2) (i := Z1.length) (ts := tI bs) (by rw [hZ2]; exact Zk _ _) (by rw [Z8e]; unfold Lim; omega)
  obtain ⟨Z3,hZ3⟩ : ∃ Z3,Z3 = Z2 ++ [O.lst (tI bs).reverse] := ⟨_,rfl⟩
  rw [← hZ3] at r2
  have hl1 : Z1.length = Z.length + 1 := by rw [hZ1]; simp
  have hl2 : Z2.length = Z.length + 2 := by rw [hZ2]; simp [hl1]
  have s3 : MS Z Z.length Z2.length [] bs Z3 := by
    refine ⟨?_,Nat.le_refl _,by omega,by omega,?_,?_⟩
    · rw [hZ3,hZ2,hZ1]
      exact (((Ext.refl Z).app _).app _).app _
    · rw [hZ3,hZ2,hZ1]
      exact Wy (Wy (by unfold getDK; simp [fD]))
    · rw [hZ3,Zk]
      simp [tI]
  obtain ⟨o4,Z4,e4,x4,d4⟩ := Zej (b := b) hgs m Lim none Z3 (by unfold Lim; omega) hbi (by simp; omega) s3
  have hf : gListW [.loc Z.length] Z4 = some (.loc Z4.length,Z4 ++ [.lst (tI r)]) := by
    show (match getDK Z4 Z.length with | some kvs => (tKeys kvs).map fun ts => (Fx.T.loc Z4.length,Z4 ++ [O.lst ts]) | none => gList [.loc Z.length] Z4) = _
    rw [d4]
    simp only [Zd4,Option.map_some]
  refine ⟨Z4.length,Z4 ++ [.lst (tI r)],?_,x4.app _,x4.len,Zk _ _⟩
  have hB : Zgp [some (nsT gs),some (.loc b),none,none,none] Z = .rt (.loc Z4.length) (Z4 ++ [.lst (tI r)]) := by
    unfold Zgp
    have e1 : sPar [2,3] (aCons eDict0 (aCons (eSlS (eCallB gListW (aCons (eVar 1) aNil)) oNone oNone (oSome (eUn gNeg (eC (.int 1))))) aNil)) [some (nsT gs),some (.loc b),none,none,none] Z = .nx (mE (nsT gs) b Z.length Z2.length none) Z3 := by
      have e0 : ∀ ρ,eDict0 ρ Z = .ok (.loc Z.length) Z1 := fun ρ => by rw [hZ1]; rfl
      simp [-Zge,e0,eSlS,oNone,oSome,g1,r2,mE]
    refine X6 e1 (X6 e4 ?_)
    simp [mE,hf]
  exact Z1k (n := 5) (as := [nsT gs,.loc b]) hB
end
end Ap
set_option maxHeartbeats 4000000
namespace Ap
open PySem PySem.Spec PyProof.Rows L2 SX Fx
theorem Zj2 {Z : Sto} {i : Nat} {ts : List Fx.T} {top : Int} (h : GrAt Z i ts top) : okY "Graph" (.loc i) Z = true ∧ insC (.loc i) Z = some "Graph" := by
  have h2 := Z29 (show getI Z i = _ from h)
  have h3 : insC (.loc i) Z = some "Graph" := by
    show (getI Z i).map (·.1) = _
    rw [show getI Z i = _ from h]; rfl
  refine ⟨?_,h3⟩
  have : tyT (.loc i) Z = none := by simp only [tyT,h2]
  unfold okY
  rw [this,h3]
  simp
end Ap
set_option maxHeartbeats 8000000
namespace Ap
open PySem PySem.Spec PyProof.Rows L2 SX Fx
theorem Zek {it : ItF} {m : Nat} {u : Nat → Fx.T} {body : Fx.T → FS} {ρ : Fx.Env} {Z : Sto} (I : Nat → Fx.Env → Sto → Prop) (hl : m ≤ Lim) (hit : ∀ k ρ Z, I k ρ Z → k ≤ m → it k Z = some (if k < m then some (u k) else none)) (h0 : I 0 ρ Z) (h : ∀ k < m, ∀ ρ Z, I k ρ Z → ∃ ρ' Z', body (u k) ρ Z = .nx ρ' Z' ∧ I (k + 1) ρ' Z') :
    ∃ ρ' Z', loopN it body Fuel 0 ρ Z = .nx ρ' Z' ∧ I m ρ' Z' := by
  have key : ∀ n k ρ Z, I k ρ Z → k ≤ m → m < n + k → ∃ ρ' Z', loopN it body n k ρ Z = .nx ρ' Z' ∧ I m ρ' Z' := by
    intro n
    induction n with
    | zero => intro k ρ Z _ h1 h2; omega
    | succ n ih =>
      intro k ρ Z hi h1 h2
      by_cases hk : k < m
      · obtain ⟨ρ', Z', e, hi'⟩ := h k hk ρ Z hi
        obtain ⟨ρ2, Z2, e2, hi2⟩ := ih (k + 1) ρ' Z' hi' (by omega) (by omega)
        refine ⟨ρ2,Z2,?_,hi2⟩
        rw [← e2]
        conv => lhs; unfold loopN
        rw [hit k ρ Z hi h1,if_pos hk]
        simp only [e,Z6l]
      · have : k = m := by omega
        subst this
        refine ⟨ρ,Z,?_,hi⟩
        unfold loopN
        rw [hit k ρ Z hi h1,if_neg hk]
  exact key Fuel 0 ρ Z h0 (Nat.zero_le _) (by rw [Qs]; omega)
theorem Z8f {ts : List Fx.T} {body : Fx.T → FS} {ρ : Fx.Env} {Z : Sto} (I : Nat → Fx.Env → Sto → Prop) (hl : ts.length ≤ Lim) (h0 : I 0 ρ Z) (h : ∀ k (hk : k < ts.length) ρ Z, I k ρ Z → ∃ ρ' Z', body ts[k] ρ Z = .nx ρ' Z' ∧ I (k + 1) ρ' Z') :
    ∃ ρ' Z', loopN (itSeq ts) body Fuel 0 ρ Z = .nx ρ' Z' ∧ I ts.length ρ' Z' :=
  Zek (u := fun k => ts[k]?.getD .non) I hl (fun k ρ Z hi _ => by
    simp only [itSeq]
    by_cases hk : k < ts.length
    · rw [if_pos hk,List.getElem?_eq_getElem hk]; rfl
    · rw [if_neg hk,List.getElem?_eq_none (by omega)]) h0 (fun k hk ρ Z hi => by
    rw [List.getElem?_eq_getElem hk]
    exact h k hk ρ Z hi)
theorem Zel {g : Nd} {size : Nat} (h : NdOk size g) (Z : Sto) : ∃ i Z', Wn [nT g] Z = .ok (.loc i) Z' ∧ Ext Z Z' ∧ Z.length ≤ i ∧ getL Z' i = some (tI g.inn) := by
  cases g with
  | sc a b =>
    refine ⟨Z.length,Z ++ [.lst []],?_,(Ext.refl Z).app _,Nat.le_refl _,Zk _ _⟩
    simp [Wn,runF,Uk,nT,sSc]
  | sq a ns =>
    refine ⟨Z.length,Z ++ [.lst (tI ns)],?_,(Ext.refl Z).app _,Nat.le_refl _,Zk _ _⟩
    simp only [nT,sSeq]
    simp [Wn,runF,Uk,gList,asSeq,tI]
  | mp a ps =>
    obtain ⟨_,hl,_⟩ := h
    obtain ⟨ρ', Z1, e1, i, o2, rfl, x1, hi, g1⟩ := Z8f (ts := ps.map pairT) (body := fun t ρ' Z' => bS ρ' (gNm 2 t ρ' Z') Xi) (ρ := [some (nT (.mp a ps)), some (.loc Z.length), none]) (Z := Z ++ [.lst []])
      (fun k ρ Z' => ∃ i o2, ρ = [some (nT (.mp a ps)), some (.loc i), o2] ∧ Ext Z Z' ∧ Z.length ≤ i ∧ getL Z' i = some (tI ((ps.take k).flatMap fun p => [p.1, p.2])))
      (by rw [List.length_map]; unfold Lim; omega) ⟨Z.length,none,rfl,(Ext.refl Z).app _,Nat.le_refl _,Zk _ _⟩
      (fun k hk ρ Z' h => by
        obtain ⟨i,o2,rfl,x,hi,gi⟩ := h
        rw [List.length_map] at hk
        have e0 : (ps.map pairT)[k] = pairT ps[k] := by simp
        have tk : ps.take (k + 1) = ps.take k ++ [ps[k]] := List.take_succ_eq_append_getElem hk
        have tl : ((ps.take k).flatMap fun p => [p.1,p.2]).length ≤ 2 * k := by
          have e : ∀ l : List (Int × Int),(l.flatMap fun p => [p.1,p.2]).length = 2 * l.length := fun l => by
            induction l with
            | nil => rfl
            | cons p l ih => rw [List.flatMap_cons,List.length_append,ih,List.length_cons]; simp; omega
          rw [e,List.length_take]; omega
        have ad := Z8y i Z'.length (Z' ++ [O.lst [.int ps[k].1, .int ps[k].2]]) (Yx gi) (Zk _ _) (by rw [Z8e]; show _ + 2 ≤ Lim; unfold Lim; omega)
        refine ⟨[some (nT (.mp a ps)), some (.loc (Z' ++ [O.lst [.int ps[k].1, .int ps[k].2]]).length), some (pairT ps[k])], _, ?_, (Z' ++ [O.lst [.int ps[k].1, .int ps[k].2]]).length, some (pairT ps[k]), rfl, (x.app [O.lst [.int ps[k].1, .int ps[k].2]]).app [O.lst (tI ((ps.take k).flatMap fun p => [p.1, p.2]) ++ [.int ps[k].1, .int ps[k].2])], by simp; have := x.len; omega, ?_⟩
        · rw [e0]
          generalize hN : nT (.mp a ps) = N at *
          simp only [pairT]
          generalize hZ2 : Z' ++ [O.lst [.int ps[k].1, .int ps[k].2]] = Z2 at *
          simp [-Z9x,Xi,hZ2,ad]
        · rw [Zk,tk,List.flatMap_append]
          simp [tI])
    refine ⟨i,Z1,?_,x1,hi,?_⟩
    · have hi2 : iAny (eBin gIxW (eVar 0) (eC (.int 2))) [some (nT (.mp a ps)),some (.loc Z.length),none] (Z ++ [.lst []]) = .ok (itSeq (ps.map pairT)) (Z ++ [.lst []]) := by
        simp only [nT]
        generalize ps.map pairT = PS
        have a2 : atI [Fx.T.str sMap,.str a,.tup PS] 2 = some (.tup PS) := Fx.atI_nat (k := 2) rfl
        simp [a2]
      have hf : sFor (iAny (eBin gIxW (eVar 0) (eC (.int 2)))) (gNm 2) Xi [some (nT (.mp a ps)),some (.loc Z.length),none] (Z ++ [.lst []]) = .nx [some (nT (.mp a ps)),some (.loc i),o2] Z1 := by
        rw [Zcd,hi2,Z22]
        exact e1
      have e0 : Uk [some (nT (.mp a ps)),none,none] Z = bCons (sSet 1 (eLst aNil)) (bCons (sFor (iAny (eBin gIxW (eVar 0) (eC (.int 2)))) (gNm 2) Xi) (sRet (eVar 1))) [some (nT (.mp a ps)),none,none] Z := by
        generalize hL : bCons (sSet 1 (eLst aNil)) (bCons (sFor (iAny (eBin gIxW (eVar 0) (eC (.int 2)))) (gNm 2) Xi) (sRet (eVar 1))) = R
        simp only [Uk,hL]
        simp only [nT]
        generalize ps.map pairT = PS
        simp [sMap]
      refine Z1k (n := 3) (as := [nT (.mp a ps)]) (e0.trans ?_)
      exact X6 (ρ' := [some (nT (.mp a ps)), some (.loc Z.length), none]) (Z' := Z ++ [.lst []]) (by simp) (X6 hf (by simp))
    · rw [g1,List.length_map,List.take_length]; rfl
theorem Ja {α : Type} {it : ItF} {put : Fx.T → Option Fx.Env} {c : FT} {e : FE} {l : List α} {u : α → Fx.T} {p : α → Bool} {fv : α → Fx.T} {Z1 : Sto} (hl : l.length ≤ Lim) (hit : ∀ k Z,Ext Z1 Z → k ≤ l.length → it k Z = some ((l[k]?).map u))
    (h : ∀ x ∈ l,∀ Z,Ext Z1 Z → ∃ ρ Z2,put (u x) = some ρ ∧ c ρ Z = .ok (p x) Z2 ∧ Ext Z Z2 ∧ (p x = true → ∃ Z3,e ρ Z2 = .ok (fv x) Z3 ∧ Ext Z2 Z3)) :
    ∃ Z', loopC it Z1.length put c e Fuel 0 (Z1 ++ [.lst []]) = .ok (.loc Z1.length) Z' ∧ Ext Z1 Z' ∧ getL Z' Z1.length = some ((l.filter p).map fv) := by
  have key : ∀ (post pre : List α) (n : Nat) (acc : List Fx.T) (Z : Sto), l = pre ++ post → post.length < n → Ext Z1 Z → getL Z Z1.length = some acc → acc.length ≤ pre.length → ∃ Z', loopC it Z1.length put c e n pre.length Z = .ok (.loc Z1.length) Z' ∧ Ext Z1 Z' ∧ getL Z' Z1.length = some (acc ++ (post.filter p).map fv) := by
    intro post
    induction post with
    | nil =>
      intro pre n acc Z hp hn hx hg ha
      obtain ⟨n, rfl⟩ : ∃ n', n = n' + 1 := ⟨n - 1, by omega⟩
      refine ⟨Z,?_,hx,by rw [hg]; simp⟩
      unfold loopC
      rw [hit _ Z hx (by rw [hp]; simp),hp]
      simp
    | cons x post ih =>
      intro pre n acc Z hp hn hx hg ha
      obtain ⟨n, rfl⟩ : ∃ n', n = n' + 1 := ⟨n - 1, by omega⟩
      rw [List.length_cons] at hn
      obtain ⟨ρ,Z2,h1,h2,h3,h4⟩ := h x (by rw [hp]; simp) Z hx
      have hx2 := hx.trans h3
      have hg2 := h3.getL hg
      have hpl : pre.length < l.length := by rw [hp]; simp
      have e0 : it pre.length Z = some (some (u x)) := by
        rw [hit _ Z hx (by omega),hp]; simp
      have hp2 : l = (pre ++ [x]) ++ post := by rw [hp]; simp
      unfold loopC
      simp only [e0,h1,h2,Z68,Yo]
      cases hpx : p x with
      | false =>
        rw [if_neg Bool.false_ne_true]
        obtain ⟨Z', e1, x1, g1⟩ := ih (pre ++ [x]) n acc Z2 hp2 (by omega) hx2 hg2 (by rw [List.length_append]; omega)
        rw [List.length_append] at e1
        exact ⟨Z', e1, x1, by rw [g1, List.filter_cons_of_neg (by rw [hpx]; exact Bool.false_ne_true)]⟩
      | true =>
        rw [if_pos rfl]
        obtain ⟨Z3,h5,h6⟩ := h4 hpx
        have hx3 := hx2.trans h6
        have hg3 := h6.getL hg2
        obtain ⟨Z', e1, x1, g1⟩ := ih (pre ++ [x]) n (acc ++ [fv x]) (Z3.set Z1.length (.lst (acc ++ [fv x]))) hp2 (by omega) (hx3.set (Nat.le_refl _)) (Wj hg3) (by rw [List.length_append, List.length_append, List.length_singleton, List.length_singleton]; omega)
        rw [List.length_append] at e1
        refine ⟨Z', ?_, x1, by rw [g1, List.filter_cons_of_pos hpx]; simp⟩
        simp only [h5,Z68,Yo,hg3]
        rw [if_pos (by omega)]
        exact e1
  obtain ⟨Z', e1, x1, g1⟩ := key l [] Fuel [] (Z1 ++ [.lst []]) rfl (by rw [Qs]; omega) ((Ext.refl Z1).app _) (Zk _ _) (Nat.le_refl _)
  exact ⟨Z', e1, x1, by rw [g1, List.nil_append]⟩
theorem Zd7 (x : Key) : ∀ l : List (Key × Fx.T),(∀ p ∈ l,p.1 ≠ x) → hasK l x = false
  | [],_ => rfl
  | (k,t) :: l,h => by
    show (keyEq k x || hasK l x) = _
    rw [Zd7 x l fun p hp => h p (List.mem_cons_of_mem _ hp),V1,decide_eq_false (h (k,t) List.mem_cons_self)]
    rfl
theorem Z1z {α : Type} (l : List α) : l.filter (fun _ => true) = l := List.filter_eq_self.mpr fun _ _ => rfl
theorem GrAt.ext {Z Z' : Sto} {i : Nat} {ts : List Fx.T} {top : Int} (h : GrAt Z i ts top) (x : Ext Z Z') : GrAt Z' i ts top := by
  obtain ⟨Y,rfl⟩ := x
  exact Ziv h Y
theorem Zd8 {Z : Sto} {i : Nat} {ts : List Fx.T} {top : Int} (h : GrAt Z i ts top) : Xv [.loc i] Z = .ok .non Z := by
  obtain ⟨h1,h2⟩ := Zj2 h
  have e : ∀ ρ, loopN (itSeq [.loc i]) (fun t ρ' Z' => bS ρ' (gNm 1 t ρ' Z') Ue) Fuel 0 [ρ, none] Z = .nx [ρ, some (.loc i)] Z := fun ρ => by
    obtain ⟨m,hm⟩ := Fuel3
    rw [hm]
    simp [loopN,itSeq,Ue,eIsC,h1,h2]
  simp only [Z7t,Z22] at e
  simp [Xv,runS,runF,Z0q,e]
section
variable {gs : List Nd}
def ndA (gs : List Nd) (x : Int) : Nd := (gs[x.toNat]?).getD (.sc [] [])
theorem Z6i {x : Int} (h : InG gs x) : ndA gs x ∈ gs ∧ gs[x.toNat]? = some (ndA gs x) ∧ innA gs x = (ndA gs x).inn := by
  obtain ⟨g,hg,e,hi⟩ := Z7d h
  have : ndA gs x = g := by unfold ndA; rw [e]; rfl
  rw [this]
  exact ⟨hg,e,hi⟩
theorem nl_at {Z : Sto} {nl : Nat} (hn : getL Z nl = some (gs.map nT)) {x : Int} (h : InG gs x) {g : Nd} (e : gs[x.toNat]? = some g) : gIxW (.loc nl) (.int x) Z = some (nT g,Z) := by
  obtain ⟨n,rfl⟩ : ∃ n : Nat,x = (n : Int) := ⟨x.toNat,by have := h.1; omega⟩
  rw [Z5a _ hn]
  have : atI (gs.map nT) (n : Int) = some (nT g) := Fx.atI_nat (by rw [List.getElem?_map,show gs[n]? = some g from e]; rfl)
  rw [this]; rfl
theorem Zj3 (hgs : GsOk gs) (Z : Sto) : ∀ t ∈ gs.map nT,GN ((gs.map nT).length : Int) Z t := fun t ht => by
  obtain ⟨g,hg,rfl⟩ := List.mem_map.mp ht
  rw [List.length_map]
  exact (nd_ok (hgs g hg)).good Z
end
theorem hit_R {Z1 : Sto} (m : Nat) : ∀ k Z,Ext Z1 Z → k ≤ (List.range m).length → itRng 0 m k Z = some (((List.range m)[k]?).map fun (i : Nat) => Fx.T.int (i : Int)) := fun k Z _ _ => by
  simp only [itRng]
  by_cases h : k < m
  · rw [if_pos h,List.getElem?_range h,Int.zero_add]; rfl
  · rw [if_neg h,List.getElem?_eq_none (by rw [List.length_range]; omega)]; rfl
theorem Zem {gs : List Nd} (hgs : GsOk gs) (h1 : 1 ≤ gs.length) (hN : gs.length ≤ 200) {ds : List Fx.T} {fa : FA} {ρ : Fx.Env} {Z Z0 : Sto} {as : List Fx.T} {nl : Nat} {top : Int} (ha : fa ρ Z = .ok as Z0) (has : as ++ ds = [.loc nl,.int top]) (hn : getL Z0 nl = some (gs.map nT)) (ht : InG gs top) :
    ∃ Z1, eMake "Graph" Y5 ds fa ρ Z = .ok (.loc Z0.length) Z1 ∧ Ext Z0 Z1 ∧ GrAt Z1 Z0.length (gs.map nT) top := by
  obtain ⟨Y,e⟩ := Zcw ha has (Ziu hn) (by rw [List.length_map]; exact h1) (by rw [List.length_map]; exact hN) (Zj3 hgs Z0) (by rw [List.length_map]; exact ht)
  exact ⟨_,e,⟨_,rfl⟩,Zfb _ _ _ _⟩
end Ap
set_option maxHeartbeats 8000000
namespace Ap
open PySem PySem.Spec PyProof.Rows L2 SX Fx
section
variable {gs : List Nd}
def uzA (gs : List Nd) : Nat → Int → Int
  | 0,_ => 1
  | d + 1,x => 1 + ((innA gs x).map (uzA gs d)).sum
def tr0 : Nd → Fx.T
  | .sc a b => nT (.sc a b)
  | .sq a ns => .tup [.str sSeq,.str a,.int (ns.length : Int)]
  | .mp a _ => .tup [.str sMap,.str a,.non]
def trS (f : Int → Fx.T) : Nd → Fx.T
  | .sc a b => nT (.sc a b)
  | .sq a ns => .tup [.str sSeq,.str a,.tup (ns.map f)]
  | .mp a ps => .tup [.str sMap,.str a,.tup (ps.map fun p => .tup [f p.1,f p.2])]
def trA (gs : List Nd) : Nat → Int → Fx.T
  | 0,x => tr0 (ndA gs x)
  | d + 1,x => trS (trA gs d) (ndA gs x)
theorem Z3f (hgs : GsOk gs) : ∀ (d m : Nat) (x : Int) (Z : Sto), InG gs x → d < m → ∃ Z', (Zb0 m).tree_at [nsT gs, .int x, .int (d : Int)] Z = .ok (trA gs d x) Z' ∧ Ext Z Z'
  | _,0,_,_,_,h => by omega
  | d,m + 1,x,Z,hx,h => by
    obtain ⟨hm,hgx,hi⟩ := Z6i hx
    have n1 := Zh0 hx hgx
    have hok := hgs _ hm
    have hcl := Z99 hgs x hx
    rw [hi] at hcl
    show ∃ Z', runF 10 (Qp (Zb0 m)) _ Z = _ ∧ _
    generalize hN : nsT gs = N at *
    have h0 : trA gs 0 x = tr0 (ndA gs x) := rfl
    have hS : ∀ d,trA gs (d + 1) x = trS (trA gs d) (ndA gs x) := fun d => rfl
    generalize ndA gs x = g at *
    cases g with
    | sc a b =>
      refine ⟨Z,?_,Ext.refl Z⟩
      have e : trA gs d x = nT (.sc a b) := by
        cases d with
        | zero => exact h0
        | succ d => exact hS d
      rw [e]
      simp only [nT,sSc] at n1 ⊢
      simp [runF,Qp,n1]
    | sq a ns =>
      obtain ⟨_,hl,_⟩ := hok
      simp only [nT,sSeq] at n1
      cases d with
      | zero =>
        refine ⟨Z,?_,Ext.refl Z⟩
        rw [h0]
        have hl2 : (ns.map Fx.T.int).length = ns.length := List.length_map _
        generalize ns.map Fx.T.int = M at *
        simp [runF,Qp,n1,tr0,sSeq,hl2]
      | succ d =>
        obtain ⟨Z1,e1,x1,g1⟩ := Ja (it := itSeq (ns.map Fx.T.int)) (put := fun t => putN [9] t (wipeR [some N,some (.int x),some (.int ((d + 1 : Nat) : Int)),some (.str sSeq),some (.str a),some (.tup (ns.map Fx.T.int)),none,none,none,none] [9])) (c := eYes) (e := Z2i (Zb0 m)) (l := ns) (u := Fx.T.int) (p := fun _ => true) (fv := trA gs d) (Z1 := Z) (by unfold Lim; omega) (fun k Z _ _ => by simp [itSeq])
          (fun y hy Zc xc => by
            obtain ⟨Z2,e2,x2⟩ := Z3f hgs d m y Zc (hcl y hy) (by omega)
            rw [hN] at e2
            refine ⟨[some N,some (.int x),some (.int ((d + 1 : Nat) : Int)),some (.str sSeq),some (.str a),some (.tup (ns.map Fx.T.int)),none,none,none,some (.int y)],Zc,by rw [Qg]; rfl,rfl,Ext.refl Zc,fun _ => ⟨Z2,?_,x2⟩⟩
            have hs : ((d + 1 : Nat) : Int) - 1 = (d : Int) := by omega
            generalize ns.map Fx.T.int = M at *
            simp [Z2i,hs,e2])
        rw [Z1z] at g1
        refine ⟨Z1,?_,x1⟩
        rw [hS]
        have hz : ¬ ((d + 1 : Nat) : Int) = 0 := by omega
        have hz2 : ¬ (d : Int) + 1 = 0 := by omega
        simp only [sSeq] at e1
        generalize hM : ns.map Fx.T.int = M at *
        have t1 : gTuple [.loc Z.length] Z1 = some (.tup (ns.map (trA gs d)),Z1) := by simp [gTuple,asSeq,Xy,g1]
        rw [show trS (trA gs d) (.sq a ns) = .tup [.str sSeq,.str a,.tup (ns.map (trA gs d))] from rfl]
        generalize ns.map (trA gs d) = R at *
        generalize ((d + 1 : Nat) : Int) = D at *
        simp [runF,Qp,n1,hz,e1,g1,sSeq]
    | mp a ps =>
      obtain ⟨_,hl,_⟩ := hok
      simp only [nT,sMap] at n1
      cases d with
      | zero =>
        refine ⟨Z,?_,Ext.refl Z⟩
        rw [h0]
        generalize ps.map pairT = M at *
        simp [runF,Qp,n1,tr0,sMap]
      | succ d =>
        obtain ⟨Z1,e1,x1,g1⟩ := Ja (it := itSeq (ps.map pairT)) (put := fun t => putN [7,8] t (wipeR [some N,some (.int x),some (.int ((d + 1 : Nat) : Int)),some (.str sMap),some (.str a),some (.tup (ps.map pairT)),none,none,none,none] [7,8])) (c := eYes) (e := Z2j (Zb0 m)) (l := ps) (u := pairT) (p := fun _ => true) (fv := fun p => .tup [trA gs d p.1,trA gs d p.2]) (Z1 := Z) (by unfold Lim; omega) (fun k Z _ _ => by simp [itSeq])
          (fun y hy Zc xc => by
            obtain ⟨Z2,e2,x2⟩ := Z3f hgs d m y.1 Zc (hcl y.1 (List.mem_flatMap.mpr ⟨y,hy,by simp⟩)) (by omega)
            obtain ⟨Z3,e3,x3⟩ := Z3f hgs d m y.2 Z2 (hcl y.2 (List.mem_flatMap.mpr ⟨y,hy,by simp⟩)) (by omega)
            rw [hN] at e2 e3
            refine ⟨[some N,some (.int x),some (.int ((d + 1 : Nat) : Int)),some (.str sMap),some (.str a),some (.tup (ps.map pairT)),none,some (.int y.1),some (.int y.2),none],Zc,by simp [putN,pairT,wipeR],rfl,Ext.refl Zc,fun _ => ⟨Z3,?_,x2.trans x3⟩⟩
            have hs : ((d + 1 : Nat) : Int) - 1 = (d : Int) := by omega
            generalize ps.map pairT = M at *
            simp [Z2j,hs,e2,e3])
        rw [Z1z] at g1
        refine ⟨Z1,?_,x1⟩
        rw [hS]
        have hz : ¬ ((d + 1 : Nat) : Int) = 0 := by omega
        simp only [sMap] at e1
        generalize hM : ps.map pairT = M at *
        have t1 : gTuple [.loc Z.length] Z1 = some (.tup (ps.map fun p => .tup [trA gs d p.1,trA gs d p.2]),Z1) := by simp [gTuple,asSeq,Xy,g1]
        rw [show trS (trA gs d) (.mp a ps) = .tup [.str sMap,.str a,.tup (ps.map fun p => .tup [trA gs d p.1,trA gs d p.2])] from rfl]
        generalize (ps.map fun p => Fx.T.tup [trA gs d p.1,trA gs d p.2]) = R at *
        generalize ((d + 1 : Nat) : Int) = D at *
        simp [runF,Qp,n1,hz,e1,g1,gTuple,asSeq,Xy,sMap]
end
end Ap
set_option maxHeartbeats 8000000
namespace Ap
open PySem PySem.Spec PyProof.Rows L2 SX Fx
section
variable {gs : List Nd}
def kSq : L2.Key := .inr (S [115,101,113,117,101,110,99,101])
def kMp : L2.Key := .inr (S [109,97,112,112,105,110,103])
def dkP (ta tb : Fx.T) : List (L2.Key × Fx.T) := [(kSq,ta),(kMp,tb)]
theorem Zd9 {fa fb : FE} {ρ : Fx.Env} {Z : Sto} {ta tb : Fx.T} (ha : ∀ Y,fa ρ (Z ++ Y) = .ok ta (Z ++ Y)) (hb : ∀ Y,fb ρ (Z ++ Y) = .ok tb (Z ++ Y)) {k : List Nat} (hk : ∀ Y,eVar 3 ρ (Z ++ Y) = .ok (.str k) (Z ++ Y)) {t : Fx.T} (ht : (k = [115,101,113,117,101,110,99,101] ∧ t = ta) ∨ (k = [109,97,112,112,105,110,103] ∧ t = tb)) :
    eBin gIxW (eDict (pCons (eC (.str [115,101,113,117,101,110,99,101])) fa (pCons (eC (.str [109,97,112,112,105,110,103])) fb pNil))) (eVar 3) ρ Z = .ok t (Z ++ [.dk (dkP ta tb)]) := by
  have hm : mergeKT [] [(kSq,ta),(kMp,tb)] = dkP ta tb := by
    have h1 : keyEq kSq kMp = false := by rw [V1]; exact decide_eq_false (by decide +kernel)
    simp [mergeKT,putKT,hasK,h1,dkP]
  have e : eDict (pCons (eC (.str [115,101,113,117,101,110,99,101])) fa (pCons (eC (.str [109,97,112,112,105,110,103])) fb pNil)) ρ Z = .ok (.loc Z.length) (Z ++ [.dk (dkP ta tb)]) := by
    have hd : getDK (Z ++ [O.dk []]) Z.length = some [] := by unfold getDK; simp
    have hs := set_mid Z (O.dk []) (O.dk (dkP ta tb)) []
    have a1 := ha [O.dk []]
    have b1 := hb [O.dk []]
    have k1 : keyT (.str [115,101,113,117,101,110,99,101]) = some kSq := rfl
    have k2 : keyT (.str [109,97,112,112,105,110,103]) = some kMp := rfl
    simp [eDict,pCons,pNil,a1,b1,keysT,k1,k2,hd,hm]
  have hg : getDK (Z ++ [O.dk (dkP ta tb)]) Z.length = some (dkP ta tb) := by unfold getDK; simp
  have hv := hk [O.dk (dkP ta tb)]
  have hi : gIxW (.loc Z.length) (.str k) (Z ++ [O.dk (dkP ta tb)]) = some (t,Z ++ [O.dk (dkP ta tb)]) := by
    simp only [gIxW,hg]
    rcases ht with ⟨rfl,rfl⟩ | ⟨rfl,rfl⟩
    · have : getK (dkP t tb) kSq = some t := by
        have h1 : keyEq kSq kSq = true := by rw [V1]; exact decide_eq_true rfl
        simp [getK,dkP,h1]
      show (getK (dkP t tb) kSq).map _ = _
      rw [this]; rfl
    · have : getK (dkP ta t) kMp = some t := by
        have h1 : keyEq kSq kMp = false := by rw [V1]; exact decide_eq_false (by decide +kernel)
        have h2 : keyEq kMp kMp = true := by rw [V1]; exact decide_eq_true rfl
        simp [getK,dkP,h1,h2]
      show (getK (dkP ta t) kMp).map _ = _
      rw [this]; rfl
  generalize Z ++ [O.dk (dkP ta tb)] = ZZ at *
  show (eDict _ ρ Z).bind _ = _
  rw [e]
  show ((eVar 3 ρ ZZ).bind _ : Fx.R Fx.T) = _
  rw [hv]
  show lift (gIxW _ _ _) = _
  rw [hi]; rfl
theorem Z20 (hgs : GsOk gs) : ∀ (d m : Nat) (x : Int) (Z : Sto) (nl : Nat), getL Z nl = some (gs.map nT) → InG gs x → d < m → ∃ Z', (Zb1 m)._law_tree [.loc nl, .int x, .int (d : Int)] Z = .ok (trA gs d x) Z' ∧ Ext Z Z'
  | _,0,_,_,_,_,_,h => by omega
  | d,m + 1,x,Z,nl,hn,hx,h => by
    obtain ⟨hm,hgx,hi⟩ := Z6i hx
    have n1 := nl_at hn hx hgx
    have hok := hgs _ hm
    have hcl := Z99 hgs x hx
    rw [hi] at hcl
    show ∃ Z', runF 10 (We (Zb1 m)) _ Z = _ ∧ _
    have h0 : trA gs 0 x = tr0 (ndA gs x) := rfl
    have hS : ∀ d,trA gs (d + 1) x = trS (trA gs d) (ndA gs x) := fun d => rfl
    generalize ndA gs x = g at *
    cases g with
    | sc a b =>
      refine ⟨Z,?_,Ext.refl Z⟩
      have e : trA gs d x = nT (.sc a b) := by
        cases d with
        | zero => exact h0
        | succ d => exact hS d
      rw [e]
      simp only [nT,sSc] at n1 ⊢
      simp [runF,We,n1]
    | sq a ns =>
      obtain ⟨_,hl,_⟩ := hok
      simp only [nT,sSeq] at n1
      cases d with
      | zero =>
        rw [h0]
        have hl2 : (ns.map Fx.T.int).length = ns.length := List.length_map _
        have e := Zd9 (Z := Z) (fa := eCallB gLen (aCons (eVar 5) aNil)) (fb := eC .non) (ρ := [some (.loc nl),some (.int x),some (.int 0),some (.str [115,101,113,117,101,110,99,101]),some (.str a),some (.tup (ns.map Fx.T.int)),none,none,none,none]) (ta := .int (ns.length : Int)) (tb := .non) (fun Y => by simp) (fun Y => rfl) (fun Y => rfl) (.inl ⟨rfl,rfl⟩)
        refine ⟨Z ++ [.dk (dkP (.int (ns.length : Int)) .non)],?_,(Ext.refl Z).app _⟩
        generalize ns.map Fx.T.int = M at *
        generalize dkP (.int (ns.length : Int)) .non = DK at *
        have z0 : ((0 : Nat) : Int) = 0 := rfl
        rw [z0]
        generalize hE : eBin gIxW (eDict (pCons (eC (.str [115,101,113,117,101,110,99,101])) (eCallB gLen (aCons (eVar 5) aNil)) (pCons (eC (.str [109,97,112,112,105,110,103])) (eC .non) pNil))) (eVar 3) = EE at *
        simp [runF,We,n1,tr0,sSeq,hE,e]
      | succ d =>
        obtain ⟨Z1,e1,x1,g1⟩ := Ja (it := itSeq (ns.map Fx.T.int)) (put := fun t => putN [9] t (wipeR [some (.loc nl),some (.int x),some (.int ((d + 1 : Nat) : Int)),some (.str sSeq),some (.str a),some (.tup (ns.map Fx.T.int)),none,none,none,none] [9])) (c := eYes) (e := Z0d (Zb1 m)) (l := ns) (u := Fx.T.int) (p := fun _ => true) (fv := trA gs d) (Z1 := Z) (by unfold Lim; omega) (fun k Z _ _ => by simp [itSeq])
          (fun y hy Zc xc => by
            obtain ⟨Z2,e2,x2⟩ := Z20 hgs d m y Zc nl (xc.getL hn) (hcl y hy) (by omega)
            refine ⟨[some (.loc nl),some (.int x),some (.int ((d + 1 : Nat) : Int)),some (.str sSeq),some (.str a),some (.tup (ns.map Fx.T.int)),none,none,none,some (.int y)],Zc,by rw [Qg]; rfl,rfl,Ext.refl Zc,fun _ => ⟨Z2,?_,x2⟩⟩
            have hs : ((d + 1 : Nat) : Int) - 1 = (d : Int) := by omega
            generalize ns.map Fx.T.int = M at *
            simp [Z0d,hs,e2])
        rw [Z1z] at g1
        refine ⟨Z1,?_,x1⟩
        rw [hS]
        have hz : ¬ ((d + 1 : Nat) : Int) = 0 := by omega
        simp only [sSeq] at e1
        generalize hM : ns.map Fx.T.int = M at *
        rw [show trS (trA gs d) (.sq a ns) = .tup [.str sSeq,.str a,.tup (ns.map (trA gs d))] from rfl]
        generalize ns.map (trA gs d) = R at *
        generalize ((d + 1 : Nat) : Int) = D at *
        simp [runF,We,n1,hz,e1,g1,gTuple,asSeq,Xy,sSeq]
    | mp a ps =>
      obtain ⟨_,hl,_⟩ := hok
      simp only [nT,sMap] at n1
      cases d with
      | zero =>
        rw [h0]
        have e := Zd9 (Z := Z) (fa := eCallB gLen (aCons (eVar 5) aNil)) (fb := eC .non) (ρ := [some (.loc nl),some (.int x),some (.int 0),some (.str [109,97,112,112,105,110,103]),some (.str a),some (.tup (ps.map pairT)),none,none,none,none]) (ta := .int (ps.length : Int)) (tb := .non) (fun Y => by simp) (fun Y => rfl) (fun Y => rfl) (.inr ⟨rfl,rfl⟩)
        refine ⟨Z ++ [.dk (dkP (.int (ps.length : Int)) .non)],?_,(Ext.refl Z).app _⟩
        generalize ps.map pairT = M at *
        generalize dkP (.int (ps.length : Int)) .non = DK at *
        have z0 : ((0 : Nat) : Int) = 0 := rfl
        rw [z0]
        generalize hE : eBin gIxW (eDict (pCons (eC (.str [115,101,113,117,101,110,99,101])) (eCallB gLen (aCons (eVar 5) aNil)) (pCons (eC (.str [109,97,112,112,105,110,103])) (eC .non) pNil))) (eVar 3) = EE at *
        simp [runF,We,n1,tr0,sMap,hE,e]
      | succ d =>
        obtain ⟨ρ1, Z1, e1, o7, o8, rfl, x1, g1⟩ := Z8f (ts := ps.map pairT) (body := fun t ρ' Z' => bS ρ' ((gTp 2 (gsCons (gNm 7) (gsCons (gNm 8) gsNil))) t ρ' Z') (Z0e (Zb1 m))) (ρ := [some (.loc nl), some (.int x), some (.int ((d + 1 : Nat) : Int)), some (.str sMap), some (.str a), some (.tup (ps.map pairT)), some (.loc Z.length), none, none, none]) (Z := Z ++ [.lst []])
          (fun k ρ Z' => ∃ o7 o8, ρ = [some (.loc nl), some (.int x), some (.int ((d + 1 : Nat) : Int)), some (.str sMap), some (.str a), some (.tup (ps.map pairT)), some (.loc Z.length), o7, o8, none] ∧ Ext Z Z' ∧ getL Z' Z.length = some ((ps.take k).map fun p => .tup [trA gs d p.1, trA gs d p.2]))
          (by rw [List.length_map]; unfold Lim; omega) ⟨none,none,rfl,(Ext.refl Z).app _,Zk _ _⟩
          (fun k hk ρ Z' hI => by
            obtain ⟨o7,o8,rfl,xc,gc⟩ := hI
            rw [List.length_map] at hk
            have e0 : (ps.map pairT)[k]'(by rw [List.length_map]; exact hk) = pairT ps[k] := by simp
            have hmem : ps[k] ∈ ps := List.getElem_mem hk
            obtain ⟨Z2, e2, x2⟩ := Z20 hgs d m ps[k].1 Z' nl (xc.getL hn) (hcl ps[k].1 (List.mem_flatMap.mpr ⟨ps[k], hmem, by simp⟩)) (by omega)
            obtain ⟨Z3,e3,x3⟩ := Z20 hgs d m ps[k].2 Z2 nl ((xc.trans x2).getL hn) (hcl ps[k].2 (List.mem_flatMap.mpr ⟨ps[k],hmem,by simp⟩)) (by omega)
            have hs : ((d + 1 : Nat) : Int) - 1 = (d : Int) := by omega
            have g3 := x3.getL (x2.getL gc)
            have ap := Za0 Z.length (.tup [trA gs d ps[k].1,trA gs d ps[k].2]) Z3 g3 (by rw [List.length_map,List.length_take]; unfold Lim; omega)
            have tk : ps.take (k + 1) = ps.take k ++ [ps[k]] := List.take_succ_eq_append_getElem hk
            refine ⟨[some (.loc nl),some (.int x),some (.int ((d + 1 : Nat) : Int)),some (.str sMap),some (.str a),some (.tup (ps.map pairT)),some (.loc Z.length),some (.int ps[k].1),some (.int ps[k].2),none],_,?_,some (.int ps[k].1),some (.int ps[k].2),rfl,((xc.trans x2).trans x3).set (i := Z.length) (o := .lst (((ps.take k).map fun p => Fx.T.tup [trA gs d p.1,trA gs d p.2]) ++ [.tup [trA gs d ps[k].1,trA gs d ps[k].2]])) (Nat.le_refl _),?_⟩
            · rw [e0]
              clear e0
              have tl := Z57 gc
              generalize ((ps.take k).map fun p => Fx.T.tup [trA gs d p.1,trA gs d p.2]) = R at *
              generalize ps.map pairT = M
              simp [-Zi9,Z0e,pairT,hs,e2,e3,ap,tl]
            · rw [Wj g3,tk,List.map_append]; rfl)
        rw [List.length_map,List.take_length] at g1
        refine ⟨Z1,?_,x1⟩
        rw [hS]
        have hz : ¬ ((d + 1 : Nat) : Int) = 0 := by omega
        have hz2 : ¬ (d : Int) + 1 = 0 := by omega
        simp only [sMap] at e1
        generalize hM : ps.map pairT = M at *
        rw [show trS (trA gs d) (.mp a ps) = .tup [.str sMap,.str a,.tup (ps.map fun p => .tup [trA gs d p.1,trA gs d p.2])] from rfl]
        generalize (ps.map fun p => Fx.T.tup [trA gs d p.1,trA gs d p.2]) = R at *
        generalize ((d + 1 : Nat) : Int) = D at *
        simp [runF,We,n1,hz,e1,g1,gTuple,asSeq,Xy,sMap]
end
end Ap
set_option maxHeartbeats 8000000
namespace Ap
open PySem PySem.Spec PyProof.Rows L2 SX Fx
theorem Zen {α : Type} {Z1 : Sto} {i : Nat} {l : List α} {u : α → Fx.T} (g : getL Z1 i = some (l.map u)) : ∀ k Z,Ext Z1 Z → k ≤ l.length → itLoc i k Z = some ((l[k]?).map u) := fun k Z x _ => by
  simp only [itLoc,x.getL g,Option.map_some,List.getElem?_map]
theorem Zda : ∀ ns : List Int,intsT (tI ns) = some ns
  | [] => rfl
  | n :: ns => by
    show (intsT (tI ns)).map _ = _
    rw [Zda ns]; rfl
theorem sum_I {Z : Sto} {D : Nat} {ns : List Int} (h : getL Z D = some (tI ns)) : gSum [.loc D] Z = some (.int ns.sum,Z) := by
  simp only [gSum,Xy,h,Option.bind_some,Zda,Option.map_some]
theorem Zfi {ρ : Fx.Env} {v : Nat} {fi : FI} {fe : FE} {ns : List Int} {f : Int → Int} {Z Z1 : Sto} {i : Nat} (hi : fi ρ Z = .ok (itLoc i) Z1) (x1 : Ext Z Z1) (g1 : getL Z1 i = some (tI ns)) (hl : ns.length ≤ Lim) (he : ∀ y ∈ ns,∀ Zc,Ext Z1 Zc → ∃ ρ2,putN [v] (.int y) (wipeR ρ [v]) = some ρ2 ∧ fe ρ2 Zc = .ok (.int (f y)) Zc) :
    ∃ Z', eBin gAdd (eC (.int 1)) (eCallB gSum (aCons (eLc [v] [v] fi eYes fe) aNil)) ρ Z = .ok (.int (1 + (ns.map f).sum)) Z' ∧ Ext Z Z' := by
  obtain ⟨Z', e1, x2, g2⟩ := Ja (it := itLoc i) (put := fun t => putN [v] t (wipeR ρ [v])) (c := eYes) (e := fe) (l := ns) (u := Fx.T.int) (p := fun _ => true) (fv := fun y => .int (f y)) (Z1 := Z1) hl (Zen g1)
    (fun y hy Zc xc => by
      obtain ⟨ρ2,h1,h2⟩ := he y hy Zc xc
      exact ⟨ρ2,Zc,h1,rfl,Ext.refl Zc,fun _ => ⟨Zc,h2,Ext.refl Zc⟩⟩)
  rw [Z1z] at g2
  have hs := sum_I (ns := ns.map f) (Z := Z') (D := Z1.length) (by rw [g2]; unfold tI; rw [List.map_map]; rfl)
  refine ⟨Z', ?_, x1.trans x2⟩
  simp [hi,e1,hs]
section
variable {gs : List Nd}
def uL (f : Int → Int) (n : Nat) : List Int := (List.range n).map fun (i : Nat) => f (i : Int)
theorem Zj4 {f : Int → Int} {n : Nat} {y : Int} (h0 : 0 ≤ y) (h1 : y < (n : Int)) : atI (tI (uL f n)) y = some (.int (f y)) := by
  obtain ⟨k,rfl⟩ : ∃ k : Nat,y = (k : Int) := ⟨y.toNat,by omega⟩
  refine Fx.atI_nat ?_
  unfold uL tI
  rw [List.map_map,List.getElem?_map,List.getElem?_range (by omega)]; rfl
theorem Zh1 (hgs : GsOk gs) (hN : gs.length ≤ 200) {Z : Sto} {nl j d : Nat} (hn : getL Z nl = some (gs.map nT)) (hj : getL Z j = some (tI (uL (uzA gs d) gs.length))) (o1 o3 o4 o5 : Option Fx.T) :
    ∃ D Z', eLc [4] [4] (iAny (eVar 0)) eYes Qm [some (.loc nl), o1, some (.loc j), o3, o4, o5] Z = .ok (.loc D) Z' ∧ Ext Z Z' ∧ getL Z' D = some (tI (uL (uzA gs (d + 1)) gs.length)) := by
  have hr : gs.map nT = (List.range gs.length).map fun (i : Nat) => nT (ndA gs (i : Int)) := by
    apply List.ext_getElem?
    intro k
    rw [List.getElem?_map,List.getElem?_map]
    by_cases hk : k < gs.length
    · rw [List.getElem?_range hk,List.getElem?_eq_getElem hk]
      show _ = some (nT (ndA gs (k : Int)))
      unfold ndA
      rw [show ((k : Int)).toNat = k by omega,List.getElem?_eq_getElem hk]; rfl
    · rw [List.getElem?_eq_none (by omega),List.getElem?_eq_none (by rw [List.length_range]; omega)]; rfl
  obtain ⟨Z', e1, x2, g2⟩ := Ja (it := itLoc nl) (put := fun t => putN [4] t (wipeR [some (.loc nl), o1, some (.loc j), o3, o4, o5] [4])) (c := eYes) (e := Qm) (l := List.range gs.length) (u := fun (i : Nat) => nT (ndA gs (i : Int))) (p := fun _ => true) (fv := fun (i : Nat) => .int (uzA gs (d + 1) (i : Int))) (Z1 := Z) (by rw [List.length_range]; unfold Lim; omega) (Zen (by rw [hn, hr]))
    (fun i hi Zc xc => by
      have hx : InG gs (i : Int) := ⟨by omega,by have := List.mem_range.mp hi; omega⟩
      obtain ⟨hm,hgx,hin⟩ := Z6i hx
      have hok := hgs _ hm
      obtain ⟨hcl,hll⟩ := Z3e hok
      obtain ⟨iw,Z2,e2,x2,_,g2⟩ := Zel hok Zc
      have hu : uzA gs (d + 1) (i : Int) = 1 + ((ndA gs (i : Int)).inn.map (uzA gs d)).sum := by
        show 1 + ((innA gs (i : Int)).map (uzA gs d)).sum = _
        rw [hin]
      rw [hu]
      generalize ndA gs (i : Int) = g at *
      obtain ⟨Z3,e3,x3⟩ := Zfi (ρ := [some (.loc nl),o1,some (.loc j),o3,some (nT g),o5]) (v := 5) (fi := iAny (eCall Wn [] (aCons (eVar 4) aNil))) (fe := N5) (f := uzA gs d) (Z := Zc) (Z1 := Z2) (i := iw) (by simp [e2,g2]) x2 g2 (by unfold Lim; omega) (fun y hy Zd xd => by
        have gj := xd.getL (x2.getL (xc.getL hj))
        have a := Zj4 (f := uzA gs d) (hcl y hy).1 (hcl y hy).2
        exact ⟨[some (.loc nl),o1,some (.loc j),o3,some (nT g),some (.int y)],by rw [Qg]; rfl,by simp [N5,Z5a _ gj,a]⟩)
      exact ⟨[some (.loc nl),o1,some (.loc j),o3,some (nT g),o5],Zc,by rw [Qg]; rfl,rfl,Ext.refl Zc,fun _ => ⟨Z3,e3,x3⟩⟩)
  rw [Z1z] at g2
  refine ⟨Z.length, Z', ?_, x2, by rw [g2]; unfold uL tI; rw [List.map_map]; rfl⟩
  simp [hn,e1]
theorem Zh2 (hgs : GsOk gs) (hN : gs.length ≤ 200) {Z : Sto} {nl d : Nat} (hd : d ≤ 200) (hn : getL Z nl = some (gs.map nT)) :
    ∃ D Z', Jr [.loc nl, .int (d : Int)] Z = .ok (.loc D) Z' ∧ Ext Z Z' ∧ getL Z' D = some (tI (uL (uzA gs d) gs.length)) := by
  have hl : (gs.map nT).length = gs.length := List.length_map _
  have h1 : (List.replicate gs.length [Fx.T.int 1]).flatten = tI (uL (uzA gs 0) gs.length) := by
    rw [List.flatten_replicate_singleton]
    unfold uL tI
    rw [List.map_map]
    apply List.ext_getElem?
    intro k
    rw [List.getElem?_map]
    by_cases hk : k < gs.length
    · rw [List.getElem?_range hk,List.getElem?_replicate,if_pos hk]; rfl
    · rw [List.getElem?_eq_none (by rw [List.length_replicate]; omega),List.getElem?_eq_none (by rw [List.length_range]; omega)]; rfl
  obtain ⟨Z1,hZ1⟩ : ∃ Z1,Z1 = Z ++ [O.lst [.int 1]] ++ [O.lst (tI (uL (uzA gs 0) gs.length))] := ⟨_,rfl⟩
  have hlen : (Z ++ [O.lst [Fx.T.int 1]]).length = Z.length + 1 := by simp
  have mu : gMul (.loc Z.length) (.int (gs.length : Int)) (Z ++ [O.lst [.int 1]]) = some (.loc (Z.length + 1),Z1) := by
    rw [Zf5,Zk]
    show (if -100000 ≤ (gs.length : Int) ∧ (gs.length : Int) ≤ 100000 ∧ ([Fx.T.int 1] : List Fx.T).length * (gs.length : Int).toNat ≤ Lim then some (Fx.T.loc (Z ++ [O.lst [Fx.T.int 1]]).length,Z ++ [O.lst [Fx.T.int 1]] ++ [O.lst (List.replicate (gs.length : Int).toNat [Fx.T.int 1]).flatten]) else none) = _
    rw [if_pos ⟨by omega,by omega,by simp [Lim]; omega⟩,show ((gs.length : Int)).toNat = gs.length by omega,h1,hlen,← hZ1]
  obtain ⟨ρ2, Z2, e2, D, o3, rfl, x2, g2⟩ := Z1j (m := d) (body := fun t ρ' Z' => bS ρ' (gNm 3 t ρ' Z') N6) (ρ := [some (.loc nl), some (.int (d : Int)), some (.loc (Z.length + 1)), none, none, none]) (Z := Z1)
    (fun k ρ Z' => ∃ D o3, ρ = [some (.loc nl), some (.int (d : Int)), some (.loc D), o3, none, none] ∧ Ext Z Z' ∧ getL Z' D = some (tI (uL (uzA gs k) gs.length))) (by unfold Lim; omega)
    ⟨Z.length + 1,none,rfl,by rw [hZ1]; exact ((Ext.refl Z).app _).app _,by rw [hZ1,← hlen]; exact Zk _ _⟩
    (fun k hk ρ Z' hI => by
      obtain ⟨D,o3,rfl,xc,gc⟩ := hI
      obtain ⟨D2,Z3,e3,x3,g3⟩ := Zh1 hgs hN (xc.getL hn) gc (some (.int (d : Int))) (some (.int (k : Int))) none none
      exact ⟨[some (.loc nl),some (.int (d : Int)),some (.loc D2),some (.int (k : Int)),none,none],Z3,by
        generalize hE : eLc [4] [4] (iAny (eVar 0)) eYes Qm = EE at *
        simp [N6,hE,e3],D2,some (.int (k : Int)),rfl,xc.trans x3,g3⟩)
  simp only [Z7t,Z22] at e2
  refine ⟨D,Z2,?_,x2,g2⟩
  have r3 : ∀ Z,rngOf [.int (d : Int)] Z = .ok (itRng 0 d) Z := fun Z => rngN (n := d) (by unfold Lim; omega)
  generalize gs.map nT = G at *
  simp [-Zf5,Jr,runF,Z44,Yx hn,hl,mu,r3,e2]
end
end Ap
set_option maxHeartbeats 8000000
namespace Ap
open PySem PySem.Spec PyProof.Rows L2 SX Fx
theorem Z8g {α : Type} {it : ItF} {put : Fx.T → Option Fx.Env} {fk fv : FE} {l : List α} {u : α → Fx.T} {key : α → L2.Key} {vl : α → Fx.T} {Z1 : Sto} (hl : l.length ≤ 100000) (hit : ∀ k Z,Ext Z1 Z → k ≤ l.length → it k Z = some ((l[k]?).map u)) (hnd : (l.map key).Nodup)
    (h : ∀ x ∈ l,∀ Z,Ext Z1 Z → ∃ ρ t Z2,put (u x) = some ρ ∧ fk ρ Z = .ok t Z ∧ keyT t = some (key x) ∧ fv ρ Z = .ok (vl x) Z2 ∧ Ext Z Z2) :
    ∃ Z', loopD it Z1.length put fk fv Fuel 0 (Z1 ++ [.dk []]) = .ok (.loc Z1.length) Z' ∧ Ext Z1 Z' ∧ getDK Z' Z1.length = some (l.map fun x => (key x, vl x)) := by
  have go : ∀ (post pre : List α) (n : Nat) (Z : Sto), l = pre ++ post → post.length < n → Ext Z1 Z → getDK Z Z1.length = some (pre.map fun x => (key x, vl x)) → ∃ Z', loopD it Z1.length put fk fv n pre.length Z = .ok (.loc Z1.length) Z' ∧ Ext Z1 Z' ∧ getDK Z' Z1.length = some (l.map fun x => (key x, vl x)) := by
    intro post
    induction post with
    | nil =>
      intro pre n Z hp hn hx hd
      obtain ⟨n, rfl⟩ : ∃ n', n = n' + 1 := ⟨n - 1, by omega⟩
      rw [List.append_nil] at hp
      subst hp
      refine ⟨Z,?_,hx,hd⟩
      unfold loopD
      rw [hit _ _ hx (Nat.le_refl _)]
      simp
    | cons x post ih =>
      intro pre n Z hp hn hx hd
      obtain ⟨n, rfl⟩ : ∃ n', n = n' + 1 := ⟨n - 1, by omega⟩
      rw [List.length_cons] at hn
      obtain ⟨ρ,t,Z2,h1,h2,h3,h4,h5⟩ := h x (by rw [hp]; simp) _ hx
      have hpl : pre.length < l.length := by rw [hp]; simp
      have e0 : it pre.length Z = some (some (u x)) := by
        rw [hit _ _ hx (by omega),hp]; simp
      have hd2 : getDK Z2 Z1.length = some (pre.map fun x => (key x,vl x)) := by
        obtain ⟨Y,rfl⟩ := h5
        exact Wy hd
      have hk : key x ∉ (pre.map fun x => (key x,vl x)).map (·.1) := by
        rw [List.map_map]
        rw [hp,List.map_append,List.nodup_append] at hnd
        intro hm
        exact hnd.2.2 (key x) hm (key x) (by simp) rfl
      have hput : putKT (pre.map fun x => (key x,vl x)) (key x) (vl x) = (pre ++ [x]).map fun x => (key x,vl x) := by
        unfold putKT
        rw [Zd7 _ _ fun p hp e => hk (by rw [← e]; exact List.mem_map_of_mem hp)]
        simp
      have hlt : Z1.length < Z2.length := by
        have := Z1l.mp hd2
        exact (List.getElem?_eq_some_iff.mp this).1
      obtain ⟨Z', e1, x1, g1⟩ := ih (pre ++ [x]) n (Z2.set Z1.length (.dk ((pre ++ [x]).map fun x => (key x, vl x)))) (by rw [hp]; simp) (by omega) ((hx.trans h5).set (Nat.le_refl _)) (by unfold getDK; rw [List.getElem?_set_self hlt])
      rw [List.length_append] at e1
      refine ⟨Z', ?_, x1, g1⟩
      unfold loopD
      simp only [e0,h1,h2,Z68,Yo,h4,hd2,h3]
      rw [if_pos (by rw [List.length_map]; unfold Lim; omega),hput]
      exact e1
  exact go l [] Fuel (Z1 ++ [.dk []]) rfl (by rw [Qs]; unfold Lim; omega) ((Ext.refl Z1).app _) (by unfold getDK; simp)
def uD (f : Int → Int) (r : List Int) : List (L2.Key × Fx.T) := r.map fun x => ((.inl x : L2.Key),Fx.T.int (f x))
theorem Zfj {f : Int → Int} {y : Int} : ∀ {r : List Int},y ∈ r → getK (uD f r) (.inl y) = some (.int (f y))
  | [],h => by cases h
  | x :: r,h => by
    show (if keyEq (.inl x) (.inl y) = true then _ else _) = _
    by_cases e : x = y
    · subst e
      rw [if_pos (by simp [keyEq])]
    · rw [if_neg (by simp [keyEq,e])]
      exact Zfj ((List.mem_cons.mp h).resolve_left fun z => e z.symm)
theorem Zj5 {Z : Sto} {D : Nat} {f : Int → Int} {r : List Int} (h : getDK Z D = some (uD f r)) {y : Int} (hy : y ∈ r) : gIxW (.loc D) (.int y) Z = some (.int (f y),Z) := by
  simp only [gIxW,h,keyT,Zfj hy,Option.map_some]
theorem Zfk {r : List Int} (h : r.Nodup) : (r.map fun x => (.inl x : L2.Key)).Nodup := by
  unfold List.Nodup at *
  rw [List.pairwise_map]
  exact h.imp fun h e => h (Sum.inl.inj e)
def NoD (t : Fx.T) : Ex := ⟨"NoDepth", [("depth", t)]⟩
theorem Zh3 {d most : Int} {Z : Sto} (h0 : 0 ≤ d) (h1 : d ≤ most) : X4 [.int d,.int most] Z = .ok .non Z := by
  have e := Z6g d most Z
  have hn : numOk most (.int d) = true := by simp [numOk,h0,h1]
  rw [hn] at e
  simp [X4,runF,Jf,e]
theorem Zfl {t : Fx.T} {most : Int} {Z : Sto} (e : Ye [t,.int 0,.int most] Z = .ok (.bl false) Z) : X4 [t,.int most] Z = .exc (NoD t) Z := by
  simp [X4,runF,Jf,e,sRaise,NoD]
section
variable {gs : List Nd}
def sE (i : Nat) (d : Nat) (o2 o3 o4 : Option Fx.T) : Fx.Env := [some (.loc i),some (.int (d : Int)),o2,o3,o4,none,none]
theorem Z2u (hgs : GsOk gs) (hN : gs.length ≤ 200) {Z : Sto} {i d : Nat} {top : Int} (hg : GrAt Z i (gs.map nT) top) (ht : InG gs top) (hd : d ≤ 100) :
    ∃ Z', Y4 [.loc i, .int (d : Int)] Z = .ok (.int (uzA gs d top)) Z' ∧ Ext Z Z' := by
  obtain ⟨k,m⟩ := Zeh (Z99 hgs) (d := gs.length + 1) ht (by omega)
  generalize wk gs (gs.length + 1) top [] = r at *
  have rnd := m.nodup List.nodup_nil
  have rin := m.inG (Z99 hgs) (fun x hx => by cases hx) (fun x hx => by rw [List.mem_singleton.mp hx]; exact ht)
  have rcl := m.closed (fun x hx => by cases hx)
  have rt : top ∈ r := m.sub.2 top List.mem_cons_self
  have rl : r.length ≤ 100000 := by
    have := List.Nodup.length_le_of_subset rnd (l₂ := (List.range gs.length).map fun (i : Nat) => (i : Int)) (fun x hx => by
      have h1 := (rin x hx).1
      have h2 := (rin x hx).2
      exact List.mem_map.mpr ⟨x.toNat,List.mem_range.mpr (by omega),by omega⟩)
    rw [List.length_map,List.length_range] at this
    omega
  have s0 : Jg (sE i d none none none) Z = Wm (sE i d none none none) Z := by
    refine X6 (ρ' := sE i d none none none) ?_ rfl
    simp [sE,Zd8 hg]
  have s1 : Wm (sE i d none none none) Z = Q7 (sE i d none none none) Z := by
    refine X6 (ρ' := sE i d none none none) ?_ rfl
    simp [sE,Zh3 (d := (d : Int)) (most := 100) (Z := Z) (by omega) (by omega)]
  obtain ⟨j,Z1,e1,x1,hj,g1⟩ := f_met hgs hN (Z := Z ++ [.lst (tI [top])]) (b := Z.length) (bs := [top]) (Zk _ _) (fun y hy => by rw [List.mem_singleton.mp hy]; exact ht) (by simp) m
  have x01 : Ext Z Z1 := ((Ext.refl Z).app _).trans x1
  have s2 : Q7 (sE i d none none none) Z = Q6 (sE i d (some (.loc j)) none none) Z1 := by
    refine X6 (ρ' := sE i d (some (.loc j)) none none) ?_ rfl
    have f1 := Zeg hg
    have f2 := Zgw hg
    have e3 : nsT gs = .tup (gs.map nT) := rfl
    rw [e3] at e1
    simp only [tI,List.map_cons,List.map_nil] at e1
    simp [sE,eFld,f1,f2,e1]
  obtain ⟨Z2,e2,x2,g2⟩ := Z8g (it := itLoc j) (put := fun t => putN [5] t (wipeR (sE i d (some (.loc j)) none none) [5])) (fk := Np) (fv := Nq) (l := r) (u := Fx.T.int) (key := fun x => .inl x) (vl := fun _ => .int 1) (Z1 := Z1) rl (Zen g1) (Zfk rnd)
    (fun x hx Zc xc => ⟨[some (.loc i),some (.int (d : Int)),some (.loc j),none,none,some (.int x),none],.int x,Zc,by rw [Qg]; rfl,rfl,rfl,rfl,Ext.refl Zc⟩)
  have s3 : Q6 (sE i d (some (.loc j)) none none) Z1 = Q5 (sE i d (some (.loc j)) (some (.loc Z1.length)) none) Z2 := by
    refine X6 (ρ' := sE i d (some (.loc j)) (some (.loc Z1.length)) none) ?_ rfl
    simp only [sE] at e2 ⊢
    simp [eDc,g1,e2]
  obtain ⟨ρ4, Z4, e4, D, o4, rfl, x4, g4⟩ := Z1j (m := d) (body := fun t ρ' Z' => bS ρ' (gNm 4 t ρ' Z') Q4) (ρ := sE i d (some (.loc j)) (some (.loc Z1.length)) none) (Z := Z2)
    (fun k ρ Z' => ∃ D o4, ρ = sE i d (some (.loc j)) (some (.loc D)) o4 ∧ Ext Z1 Z' ∧ getDK Z' D = some (uD (uzA gs k) r)) (by unfold Lim; omega)
    ⟨Z1.length,none,rfl,x2,by rw [g2]; rfl⟩
    (fun k hk ρ Z' hI => by
      obtain ⟨D,o4,rfl,xc,gc⟩ := hI
      obtain ⟨Z3, e3, x3, g3⟩ := Z8g (it := itLoc j) (put := fun t => putN [5] t (wipeR (sE i d (some (.loc j)) (some (.loc D)) (some (.int (k : Int)))) [5])) (fk := Nr) (fv := Nt) (l := r) (u := Fx.T.int) (key := fun x => .inl x) (vl := fun x => .int (uzA gs (k + 1) x)) (Z1 := Z') rl (Zen (xc.getL g1)) (Zfk rnd)
        (fun x hx Zd xd => by
          obtain ⟨hm,hgx,hin⟩ := Z6i (rin x hx)
          have hok := hgs _ hm
          have hll := (Z3e hok).2
          have hu : uzA gs (k + 1) x = 1 + ((ndA gs x).inn.map (uzA gs k)).sum := by
            show 1 + ((innA gs x).map (uzA gs k)).sum = _
            rw [hin]
          have hcl := rcl x hx
          rw [hin] at hcl
          have n1 := Zh0 (rin x hx) hgx Zd
          have e5 := Zd2 hok Zd
          rw [hu]
          have f1 := Zeg (hg.ext ((x01.trans xc).trans xd))
          have e6 : nsT gs = .tup (gs.map nT) := rfl
          rw [e6] at n1
          generalize ndA gs x = g at *
          obtain ⟨Z5, e7, x5⟩ := Zfi (ρ := [some (.loc i), some (.int (d : Int)), some (.loc j), some (.loc D), some (.int (k : Int)), some (.int x), none]) (v := 6) (fi := iAny (eCall Z19 [] (aCons (eBin gIxW (eFld ["Graph"] "nodes" (eVar 0)) (eVar 5)) aNil))) (fe := Q3) (f := uzA gs k) (Z := Zd) (Z1 := Zd ++ [.lst (tI g.inn)]) (i := Zd.length) (by
              generalize gs.map nT = G at *
              simp [eFld,f1,n1,e5,Zk]) ((Ext.refl Zd).app _) (Zk _ _) (by unfold Lim; omega) (fun y hy Ze xe => by
            have gd : getDK Ze D = some (uD (uzA gs k) r) := by
              obtain ⟨Y1,rfl⟩ := xd
              obtain ⟨Y2,rfl⟩ := xe
              exact Wy (Wy (Wy gc))
            have a := Zj5 gd (hcl y hy)
            exact ⟨[some (.loc i),some (.int (d : Int)),some (.loc j),some (.loc D),some (.int (k : Int)),some (.int x),some (.int y)],by rw [Qg]; rfl,by simp [Q3,a]⟩)
          exact ⟨[some (.loc i),some (.int (d : Int)),some (.loc j),some (.loc D),some (.int (k : Int)),some (.int x),none],.int x,Z5,by rw [Qg]; rfl,rfl,rfl,e7,x5⟩)
      refine ⟨sE i d (some (.loc j)) (some (.loc Z'.length)) (some (.int (k : Int))), Z3, ?_, Z'.length, some (.int (k : Int)), rfl, xc.trans x3, g3⟩
      have gl := xc.getL g1
      simp only [sE] at e3 ⊢
      simp [Q4,eDc,gl,e3])
  simp only [Z7t,Z22] at e4
  have r3 : ∀ Z,rngOf [.int (d : Int)] Z = .ok (itRng 0 d) Z := fun Z => rngN (n := d) (by unfold Lim; omega)
  have s4 : Q5 (sE i d (some (.loc j)) (some (.loc Z1.length)) none) Z2 = Wl (sE i d (some (.loc j)) (some (.loc D)) o4) Z4 := by
    refine X6 (ρ' := sE i d (some (.loc j)) (some (.loc D)) o4) ?_ rfl
    simp only [sE] at e4 ⊢
    simp [r3,e4]
  have s5 : Wl (sE i d (some (.loc j)) (some (.loc D)) o4) Z4 = .rt (.int (uzA gs d top)) Z4 := by
    have f2 := Zgw (hg.ext (x01.trans x4))
    have a := Zj5 g4 rt
    simp [Wl,sE,eFld,f2,a]
  exact ⟨Z4,Z1k (n := 7) (as := [.loc i,.int (d : Int)]) (s0.trans (s1.trans (s2.trans (s3.trans (s4.trans s5))))),x01.trans x4⟩
theorem Zdb {Z : Sto} {i : Nat} {ts : List Fx.T} {top : Int} {t : Fx.T} (hg : GrAt Z i ts top) (e : Ye [t,.int 0,.int 100] Z = .ok (.bl false) Z) : Y4 [.loc i,t] Z = .exc (NoD t) Z := by
  have e1 := Zfl e
  have e2 := Zd8 hg
  simp [Y4,runF,Jg,Wm,e1,e2]
def Big : Ex := ⟨"TooLarge", [("limit", .int 3000)]⟩
theorem Z9b {Z : Sto} {i : Nat} {ts : List Fx.T} {top : Int} {t : Fx.T} (hg : GrAt Z i ts top) (e : Ye [t,.int 0,.int 50] Z = .ok (.bl false) Z) : Yc [.loc i,t] Z = .exc (NoD t) Z := by
  have e1 := Zfl e
  have e2 := Zd8 hg
  simp [Yc,runF,Z1r,e1,e2]
theorem Zdc (hgs : GsOk gs) (hN : gs.length ≤ 200) {Z : Sto} {i d : Nat} {top : Int} (hg : GrAt Z i (gs.map nT) top) (ht : InG gs top) (hd : d ≤ 50) (hs : 3000 < uzA gs d top) : ∃ Z', Yc [.loc i, .int (d : Int)] Z = .exc Big Z' ∧ Ext Z Z' := by
  obtain ⟨Z1,e1,x1⟩ := Z2u hgs hN hg ht (show d ≤ 100 by omega)
  have e2 := Zd8 hg
  have e3 := Zh3 (d := (d : Int)) (most := 50) (Z := Z) (by omega) (by omega)
  refine ⟨Z1,?_,x1⟩
  simp [Yc,runF,Z1r,e1,e2,e3,hs,sRaise,Big]
theorem Z8h (hgs : GsOk gs) (hN : gs.length ≤ 200) {Z : Sto} {i d : Nat} {top : Int} (hg : GrAt Z i (gs.map nT) top) (ht : InG gs top) (hd : d ≤ 50) (hs : uzA gs d top ≤ 3000) : ∃ Z', Yc [.loc i, .int (d : Int)] Z = .ok (trA gs d top) Z' ∧ Ext Z Z' := by
  obtain ⟨Z1,e1,x1⟩ := Z2u hgs hN hg ht (show d ≤ 100 by omega)
  have e2 := Zd8 hg
  have e3 := Zh3 (d := (d : Int)) (most := 50) (Z := Z) (by omega) (by omega)
  have hg1 := hg.ext x1
  have f1 := Zeg hg1
  have f2 := Zgw hg1
  obtain ⟨Z2,e4,x2⟩ := Z3f hgs d 55 top Z1 ht (by omega)
  refine ⟨Z2,?_,x1.trans x2⟩
  have e5 : Z5e [.tup (gs.map nT),.int top,.int (d : Int)] Z1 = .ok (trA gs d top) Z2 := e4
  have hn : ¬ 3000 < uzA gs d top := by omega
  generalize gs.map nT = G at *
  simp [Yc,runF,Z1r,e1,e2,e3,hn,eFld,f1,f2,e5]
end
end Ap
set_option maxHeartbeats 8000000
namespace Ap
open PySem PySem.Spec PyProof.Rows L2 SX Fx
def DQ (m K : Nat) (t : Fx.T) : Prop := ∃ D,(∀ n Z,m ≤ n → toD n Z t = some D) ∧ D.canLay0 = true ∧ D.depth ≤ K
theorem DQ.mono {m m' K K' : Nat} {t : Fx.T} (h : DQ m K t) (h1 : m ≤ m') (h2 : K ≤ K') : DQ m' K' t := by
  obtain ⟨D,a,b,c⟩ := h
  exact ⟨D,fun n Z hn => a n Z (Nat.le_trans h1 hn),b,Nat.le_trans c h2⟩
theorem X7 {l : List Nat} (h : okS l = true) : DQ 0 0 (.str l) := ⟨.str (S l),fun n Z _ => by cases n <;> rfl,Ze7 h,Nat.le_refl _⟩
theorem Zae (i : Int) : DQ 0 0 (.int i) := ⟨.int i,fun n Z _ => by cases n <;> rfl,rfl,Nat.le_refl _⟩
theorem Zfm : DQ 0 0 .non := ⟨.none,fun n Z _ => by cases n <;> rfl,rfl,Nat.le_refl _⟩
theorem Zfn {m K : Nat} : ∀ {l : List Fx.T},(∀ t ∈ l,DQ m K t) → ∃ Ds,(∀ n Z,m ≤ n → l.mapM (toD n Z) = some Ds) ∧ PyData.canLayAll0 Ds = true ∧ PyData.depthAll Ds ≤ K
  | [],_ => ⟨[],fun n Z _ => rfl,rfl,Nat.zero_le _⟩
  | t :: l,h => by
    obtain ⟨D,a,b,c⟩ := h t List.mem_cons_self
    obtain ⟨Ds,a2,b2,c2⟩ := Zfn (l := l) fun u hu => h u (List.mem_cons_of_mem _ hu)
    refine ⟨D :: Ds,fun n Z hn => ?_,?_,?_⟩
    · rw [List.mapM_cons,a n Z hn,a2 n Z hn]; rfl
    · show (D.canLay0 && PyData.canLayAll0 Ds) = true
      rw [b,b2]; rfl
    · show max D.depth (PyData.depthAll Ds) ≤ K
      omega
theorem Zaf {m K : Nat} {l : List Fx.T} (h : ∀ t ∈ l,DQ m K t) : DQ (m + 1) (K + 1) (.tup l) := by
  obtain ⟨Ds,a,b,c⟩ := Zfn h
  refine ⟨.tuple Ds,fun n Z hn => ?_,b,Nat.succ_le_succ c⟩
  obtain ⟨n,rfl⟩ : ∃ k,n = k + 1 := ⟨n - 1,by omega⟩
  show (l.mapM (toD n Z)).map _ = _
  rw [a n Z (by omega)]; rfl
theorem Zeo {m K : Nat} {l : List Fx.T} (h : DQ m K (.tup l)) (hm : m ≤ 16) (hK : K ≤ 64) (Z : Sto) : gNe (.tup l) (.tup l) Z = some (.bl false,Z) := by
  obtain ⟨D,a,b,c⟩ := h
  refine Zgj (d := D) rfl (a 16 Z hm) ?_
  unfold SeqAt.shaped
  rw [b,decide_eq_true (Nat.le_trans c hK)]; rfl
theorem Zdd {m K : Nat} {l : List Fx.T} (h : DQ m K (.tup l)) (hm : m ≤ 200) (hK : K ≤ 190) (Z : Sto) : gEqQ (.tup l) (.tup l) Z = some (.bl true,Z) := by
  obtain ⟨D,a,b,c⟩ := h
  have e1 : eqS (.tup l) (.tup l) = none := rfl
  have e2 : gEqDQ (.tup l) (.tup l) Z = some true := by
    unfold gEqDQ
    rw [a 200 Z hm]
    simp only
    rw [if_pos ⟨b,b,by omega⟩,SeqAt.eqv_refl D b]
  unfold gEqQ gEqBQ
  rw [e1,e2]; rfl
theorem Z0m {m K : Nat} {a b : Fx.T} (ha : DQ m K a) (hb : DQ m K b) : DQ (m + 1) (K + 1) (.tup [a,b]) := Zaf fun t ht => by
  rcases List.mem_cons.mp ht with h | h
  · rw [h]; exact ha
  · rw [List.mem_singleton.mp h]; exact hb
theorem Jz {m K : Nat} {a b c : Fx.T} (ha : DQ m K a) (hb : DQ m K b) (hc : DQ m K c) : DQ (m + 1) (K + 1) (.tup [a,b,c]) := Zaf fun t ht => by
  rcases List.mem_cons.mp ht with h | h
  · rw [h]; exact ha
  · rcases List.mem_cons.mp h with h | h
    · rw [h]; exact hb
    · rw [List.mem_singleton.mp h]; exact hc
theorem Zj6 {size : Nat} : ∀ {g : Nd},NdOk size g → DQ 1 1 (tr0 g)
  | .sc _ _,⟨⟨_,_,h,_⟩,h2⟩ => Jz (X7 (by decide)) (X7 h) (X7 h2)
  | .sq _ _,⟨⟨_,_,h,_⟩,_⟩ => Jz (X7 (by decide)) (X7 h) (Zae _)
  | .mp _ _,⟨⟨_,_,h,_⟩,_⟩ => Jz (X7 (by decide)) (X7 h) Zfm
theorem Zj7 {size m : Nat} {f : Int → Fx.T} : ∀ {g : Nd},NdOk size g → (∀ y ∈ g.inn,DQ m m (f y)) → DQ (m + 3) (m + 3) (trS f g)
  | .sc _ _,⟨⟨_,_,h,_⟩,h2⟩,_ => (Jz (X7 (by decide)) (X7 h) (X7 h2)).mono (by omega) (by omega)
  | .sq _ ns,⟨⟨_,_,h,_⟩,_⟩,hf => (Jz (m := m + 1) (K := m + 1) ((X7 (by decide)).mono (Nat.zero_le _) (Nat.zero_le _)) ((X7 h).mono (Nat.zero_le _) (Nat.zero_le _)) (Zaf fun t ht => by
      obtain ⟨y,hy,rfl⟩ := List.mem_map.mp ht
      exact hf y hy)).mono (by omega) (by omega)
  | .mp _ ps,⟨⟨_,_,h,_⟩,_⟩,hf => Jz (m := m + 2) (K := m + 2) ((X7 (by decide)).mono (Nat.zero_le _) (Nat.zero_le _)) ((X7 h).mono (Nat.zero_le _) (Nat.zero_le _)) (Zaf fun t ht => by
      obtain ⟨p,hp,rfl⟩ := List.mem_map.mp ht
      exact Z0m (hf p.1 (List.mem_flatMap.mpr ⟨p,hp,by simp⟩)) (hf p.2 (List.mem_flatMap.mpr ⟨p,hp,by simp⟩)))
section
variable {gs : List Nd}
theorem Zfo (hgs : GsOk gs) : ∀ (d : Nat) (x : Int),InG gs x → DQ (3 * d + 1) (3 * d + 1) (trA gs d x)
  | 0,x,hx => Zj6 (hgs _ (Z6i hx).1)
  | d + 1,x,hx => by
    obtain ⟨hm,_,hi⟩ := Z6i hx
    have hcl := Z99 hgs x hx
    rw [hi] at hcl
    exact (Zj7 (m := 3 * d + 1) (hgs _ hm) fun y hy => Zfo hgs d y (hcl y hy)).mono (by omega) (by omega)
end
def sTold : List Nat := [116,111,108,100]
def sDep : List Nat := [100,101,112,116,104]
def sLar : List Nat := [108,97,114,103,101]
section
variable {fl : Sto → Fx.R Fx.T} {Z Z' : Sto}
theorem Z8i {t : Fx.T} (h : fl Z = .ok t Z') : Zm fl .non [.non] Z = .ok (.tup [.str sTold, t]) Z' := by
  have e2 : eAsk fl .non 0 [some .non,none] Z = fl Z := if_pos rfl
  simp [Zm,runF,Yg,sTryH,e2,h,sTold]
theorem Zj8 : lookX xlw "NoDepth" "NoDepth" = some true := by decide +kernel
theorem Zj9 : lookX xlw "TooLarge" "NoDepth" = some false := by decide +kernel
theorem Zja : lookX xlw "TooLarge" "TooLarge" = some true := by decide +kernel
theorem Z4i {t : Fx.T} {s : List Nat} (h : fl Z = .exc (NoD t) Z') (hr : gReprW [t] Z' = some (.str s, Z')) : Zm fl .non [.non] Z = .ok (.tup [.str sDep, .str s]) Z' := by
  have e2 : eAsk fl .non 0 [some .non,none] Z = fl Z := if_pos rfl
  have hl : (NoD t).fs.lookup ("depth" : PySem.Str) = some t := by unfold NoD; exact lookup_at _ _ _
  simp [Zm, runF, Yg, sTryH, e2, h, pickH, Zj8, eXf, hl, hr, sDep, show (NoD t).cls = "NoDepth" from rfl, show (NoD t).fs.isEmpty = false from rfl]
theorem Zag (h : fl Z = .exc Big Z') : Zm fl .non [.non] Z = .ok (.tup [.str sLar, .int 3000]) Z' := by
  have e2 : eAsk fl .non 0 [some .non,none] Z = fl Z := if_pos rfl
  have hl : Big.fs.lookup ("limit" : PySem.Str) = some (Fx.T.int 3000) := by unfold Big; exact lookup_at _ _ _
  simp [Zm, runF, Yg, sTryH, e2, h, pickH, Zj9, Zja, eXf, hl, sLar, show Big.cls = "TooLarge" from rfl, show Big.fs.isEmpty = false from rfl]
end
theorem Zh4 {fa fb : FE} {s : FS} {ρ : Fx.Env} {Z Z1 Z2 : Sto} {u v : Fx.T} (h1 : fa ρ Z = .ok u Z1) (h2 : fb ρ Z1 = .ok v Z2) (h3 : gNe u v Z2 = some (.bl false,Z2)) : sIf (eBl (eBin gNe fa fb)) s sPass ρ Z = .nx ρ Z2 := by
  simp [h1,h2,h3]
theorem Zde : ∀ d : Nat,d < 102 → okS (dec (d : Int)) = true ∧ ((d : Nat) : Int).natAbs.log2 < 1920 := by decide +kernel
theorem Zfp {d : Nat} (h : d < 102) (Z : Sto) : gReprW [.int (d : Int)] Z = some (.str (dec (d : Int)),Z) := if_pos (Zde d h).2
section
variable {gs : List Nd}
def dE (nl : Nat) (top : Int) (d : Nat) (o3 o4 o5 : Option Fx.T) : Fx.Env := [some (.loc nl),some (.int top),some (.int (d : Int)),o3,o4,o5]
theorem Zh5 (hgs : GsOk gs) (hN : gs.length ≤ 200) {Z : Sto} {nl d : Nat} {top : Int} (hn : getL Z nl = some (gs.map nT)) (ht : InG gs top) (hd : d ≤ 100) :
    ∃ Z', Ul [.loc nl, .int top, .int (d : Int)] Z = .ok (.bl true) Z' ∧ Ext Z Z' := by
  have h1 : 1 ≤ gs.length := by have := ht.1; have := ht.2; omega
  obtain ⟨Z1,e1,x1,g1⟩ := Zem hgs h1 hN (ds := []) (fa := aCons (eVar 0) (aCons (eVar 1) aNil)) (ρ := dE nl top d none none none) (Z := Z) (Z0 := Z) (as := [.loc nl,.int top]) (by simp [dE]) rfl hn ht
  obtain ⟨D,Z2,e2,x2,g2⟩ := Zh2 hgs hN (d := d) (by omega) (x1.getL hn)
  have a := Zj4 (f := uzA gs d) ht.1 ht.2
  have s0 : Jt (dE nl top d none none none) Z = Ww (dE nl top d (some (.int (uzA gs d top))) none (some (.loc Z.length))) Z2 := by
    refine X6 (ρ' := dE nl top d (some (.int (uzA gs d top))) none (some (.loc Z.length))) ?_ rfl
    have e3 := Z5a top g2
    rw [a] at e3
    simp only [dE] at e1 ⊢
    simp [e1,e2,e3]
  have g12 := g1.ext x2
  obtain ⟨Z3,e3,x3⟩ := Z2u hgs hN g12 ht hd
  obtain ⟨u,hu⟩ : ∃ u,u = uzA gs d top := ⟨_,rfl⟩
  have s1 : Ww (dE nl top d (some (.int u)) none (some (.loc Z.length))) Z2 = Wv (dE nl top d (some (.int u)) none (some (.loc Z.length))) Z3 := by
    refine X6 (Zh4 (Z8i (t := .int u) (Z' := Z3) ?_) (v := .tup [.str sTold, .int u]) ?_ (Zeo (Z0m (X7 (by decide)) (Zae _)) (by decide) (by decide) _)) rfl
    · rw [hu]; simp [dE,e3]
    · simp [dE,sTold]
  have g13 := g12.ext x3
  rw [← hu] at s0
  suffices H : ∃ w Z4,eLam Zm (eCall Yc [] (aCons (eVar 5) (aCons (eVar 2) aNil))) aNil (dE nl top d (some (.int u)) none (some (.loc Z.length))) Z3 = .ok w Z4 ∧ Ext Z3 Z4 ∧ ∃ Z5,Yn (dE nl top d (some (.int u)) (some w) (some (.loc Z.length))) Z4 = .rt (.bl true) Z5 ∧ Ext Z4 Z5 by
    obtain ⟨w,Z4,e4,x4,Z5,e5,x5⟩ := H
    have s2 : Wv (dE nl top d (some (.int u)) none (some (.loc Z.length))) Z3 = Yn (dE nl top d (some (.int u)) (some w) (some (.loc Z.length))) Z4 := by
      refine X6 (ρ' := dE nl top d (some (.int u)) (some w) (some (.loc Z.length))) ?_ rfl
      rw [Zgf,e4]; rfl
    exact ⟨Z5,Z1k (n := 6) (as := [.loc nl,.int top,.int (d : Int)]) (s0.trans (s1.trans (s2.trans e5))),x1.trans (x2.trans (x3.trans (x4.trans x5)))⟩
  have rd := Zfp (d := d) (by omega)
  by_cases h5 : 50 < d
  · have hb : Ye [.int (d : Int),.int 0,.int 50] Z3 = .ok (.bl false) Z3 := by
      have := Z6g (d : Int) 50 Z3
      rw [this]
      have : numOk 50 (.int (d : Int)) = false := by
        show (decide ((0 : Int) ≤ (d : Int)) && decide ((d : Int) ≤ 50)) = false
        rw [decide_eq_false (show ¬ (d : Int) ≤ 50 by omega),Bool.and_false]
      rw [this]
    have e4 := Z9b g13 hb
    refine ⟨.tup [.str sDep,.str (dec (d : Int))],Z3,?_,Ext.refl _,Z3,?_,Ext.refl _⟩
    · exact Z4i (t := .int (d : Int)) (by simp [dE,e4]) (rd Z3)
    · have hq := Zdd (Z0m (X7 (l := sDep) (by decide)) (X7 (Zde d (by omega)).1)) (by decide) (by decide) Z3
      have hd50 : (50 : Int) < (d : Int) := by omega
      have rd3 := rd Z3
      simp only [sDep] at hq ⊢
      generalize dec (d : Int) = dd at *
      simp [Yn,dE,hd50,rd3,hq]
  · have hd50 : ¬ (50 : Int) < (d : Int) := by omega
    by_cases hs : 3000 < u
    · obtain ⟨Z4,e4,x4⟩ := Zdc hgs hN g13 ht (d := d) (by omega) (by rw [← hu]; exact hs)
      refine ⟨.tup [.str sLar,.int 3000],Z4,Zag (by simp [dE,e4]),x4,Z4,?_,Ext.refl _⟩
      have hq := Zdd (Z0m (X7 (l := sLar) (by decide)) (Zae 3000)) (by decide) (by decide) Z4
      simp only [sLar] at hq ⊢
      simp [Yn,Wu,dE,hd50,hs,hq]
    · obtain ⟨Z4,e4,x4⟩ := Z8h hgs hN g13 ht (d := d) (by omega) (by rw [← hu]; omega)
      have xn := x1.trans (x2.trans (x3.trans x4))
      obtain ⟨Z5,e5,x5⟩ := Z20 hgs d 55 top Z4 nl (xn.getL hn) ht (by omega)
      have e6 : Z2n [.loc nl,.int top,.int (d : Int)] Z4 = .ok (trA gs d top) Z5 := e5
      refine ⟨.tup [.str sTold,trA gs d top],Z4,Z8i (by simp [dE,e4]),x4,Z5,?_,x5⟩
      have hq := Zdd (Z0m (m := 3 * d + 1) (K := 3 * d + 1) ((X7 (l := sTold) (by decide)).mono (Nat.zero_le _) (Nat.zero_le _)) (Zfo hgs d top ht)) (by omega) (by omega) Z5
      simp only [sTold] at hq ⊢
      generalize trA gs d top = TT at *
      simp [Yn,Wu,Qv,dE,hd50,hs,e6,hq]
end
end Ap
set_option maxHeartbeats 8000000
namespace Ap
open PySem PySem.Spec PyProof.Rows L2 SX Fx
def tSq : List Nat := [33,33,115,101,113]
def tMp : List Nat := [33,33,109,97,112]
def tSt : List Nat := [33,33,115,116,114]
def tS1 : List Nat := [33,115]
theorem Zjb : Tg tSq := ⟨by decide +kernel,by decide,by decide,by decide⟩
theorem tg_mp : Tg tMp := ⟨by decide +kernel,by decide,by decide,by decide⟩
theorem Zjc : Tg tSt := ⟨by decide +kernel,by decide,by decide,by decide⟩
theorem tg_s1 : Tg tS1 := ⟨by decide +kernel,by decide,by decide,by decide⟩
def twG : List Nd := [.sq tSq [0,0]]
theorem Z6j : GsOk twG := fun g hg => by
  rw [List.mem_singleton.mp hg]
  exact ⟨Zjb,by decide,by decide⟩
def dueN : Nat → Int
  | 0 => 1
  | k + 1 => 2 * dueN k + 1
theorem Zh6 : ∀ d,uzA twG d 0 = dueN d
  | 0 => rfl
  | d + 1 => by
    show 1 + (uzA twG d 0 + (uzA twG d 0 + 0)) = 2 * dueN d + 1
    rw [Zh6 d]; omega
theorem Zh7 : (10 : Int) ^ 30 ≤ dueN 100 := by decide +kernel
theorem Zbb : InG twG 0 := ⟨by decide,by decide⟩
def lnG : List Nd := (List.range 50).map (fun (k : Nat) => Nd.sq tS1 [(k : Int) + 1]) ++ [.sc tSt [101,110,100]]
theorem Z7f : lnG.length = 51 := by unfold lnG; simp
theorem Zfq : GsOk lnG := fun g hg => by
  rw [Z7f]
  rcases List.mem_append.mp hg with h | h
  · obtain ⟨k,hk,rfl⟩ := List.mem_map.mp h
    have := List.mem_range.mp hk
    exact ⟨tg_s1,by simp,fun n hn => by rw [List.mem_singleton.mp hn]; omega⟩
  · rw [List.mem_singleton.mp h]
    exact ⟨Zjc,by decide⟩
theorem Zjd {k : Nat} (h : k < 50) : ndA lnG (k : Int) = .sq tS1 [(k : Int) + 1] := by
  unfold ndA lnG
  rw [show ((k : Int)).toNat = k by omega,List.getElem?_append_left (by simp; omega),List.getElem?_map,List.getElem?_range h]; rfl
theorem Zh8 : ndA lnG 50 = .sc tSt [101,110,100] := by rfl
theorem ln_sz : uzA lnG 50 0 ≤ 3000 := by decide +kernel
theorem ln_tr {d k : Nat} (h : k < 50) : trA lnG (d + 1) (k : Int) = .tup [.str sSeq,.str tS1,.tup [trA lnG d ((k + 1 : Nat) : Int)]] := by
  show trS (trA lnG d) (ndA lnG (k : Int)) = _
  rw [Zjd h]; rfl
theorem Zh9 : trA lnG 0 50 = .tup [.str sSc,.str tSt,.str [101,110,100]] := by
  show tr0 (ndA lnG 50) = _
  rw [Zh8]; rfl
def wdG : List Nd := [.mp tMp (List.replicate 500 (1,2)),.sc tSt [107],.sq tSq [1,1,1]]
theorem Z8j : GsOk wdG := fun g hg => by
  unfold wdG at hg
  simp only [List.mem_cons,List.not_mem_nil,or_false] at hg
  rcases hg with rfl | rfl | rfl
  · exact ⟨tg_mp,by rw [List.length_replicate]; decide,fun p hp => by rw [(List.mem_replicate.mp hp).2]; decide⟩
  · exact ⟨Zjc,by decide⟩
  · exact ⟨Zjb,by decide,by decide⟩
theorem wd_1 : uzA wdG 1 0 = 1001 := by decide +kernel
theorem wd_2 : uzA wdG 2 0 = 2501 := by decide +kernel
theorem Zdf : InG wdG 0 := ⟨by decide,by decide⟩
theorem wd_tr : ∃ l : List Fx.T,trA wdG 2 0 = .tup [.str sMap,.str tMp,.tup l] ∧ l.length = 500 :=
  ⟨_,rfl,by rw [List.length_map,List.length_replicate]⟩
theorem Zje : trA wdG 0 0 = .tup [.str sMap,.str tMp,.non] := rfl
theorem Zjf (Z : Sto) : gMulT (.tup [.tup [.int 1,.int 2]]) (.int 500) Z = some (.tup ((List.replicate 500 ((1 : Int),(2 : Int))).map pairT),Z) := by
  have e : gMulT (.tup [.tup [.int 1,.int 2]]) (.int 500) Z = some (.tup (List.replicate (500 : Int).toNat [Fx.T.tup [.int 1,.int 2]]).flatten,Z) := by
    unfold gMulT
    exact if_pos ⟨by simp,by decide,by decide,by simp⟩
  rw [e,List.flatten_replicate_singleton,List.map_replicate]; rfl
theorem Zjg {ds : List Fx.T} (hds : ds = [.int 0]) (ρ : Fx.Env) (Z : Sto) : ∃ i Z1, eMake "Graph" Y5 ds (aCons (eLst (aCons (eTup (aCons (eC (.str [115,101,113,117,101,110,99,101])) (aCons (eC (.str [33,33,115,101,113])) (aCons (eTup (aCons (eC (.int 0)) (aCons (eC (.int 0)) aNil))) aNil)))) aNil)) aNil) ρ Z = .ok (.loc i) Z1 ∧ Ext Z Z1 ∧ GrAt Z1 i (twG.map nT) 0 := by
  subst hds
  obtain ⟨Z1,e1,x1,g1⟩ := Zem Z6j (by decide) (by decide) (ds := [.int 0]) (fa := (aCons (eLst (aCons (eTup (aCons (eC (.str [115,101,113,117,101,110,99,101])) (aCons (eC (.str [33,33,115,101,113])) (aCons (eTup (aCons (eC (.int 0)) (aCons (eC (.int 0)) aNil))) aNil)))) aNil)) aNil)) (ρ := ρ) (Z := Z) (Z0 := Z ++ [.lst (twG.map nT)]) (as := [.loc Z.length]) (nl := Z.length) (top := 0) (by simp [twG,nT,sSeq,tSq]) rfl (Zk _ _) Zbb
  exact ⟨_,Z1,e1,((Ext.refl Z).app _).trans x1,g1⟩
theorem Zha {A B : FT} {s : FS} {ρ : Fx.Env} {Z Z1 Z2 : Sto} (hA : A ρ Z = .ok false Z1) (hB : B ρ Z1 = .ok false Z2) : sIf (Fx.tOr A B) s sPass ρ Z = .nx ρ Z2 := by
  simp [hA,hB]
theorem or_no {A B : FT} {ρ : Fx.Env} {Z Z1 Z2 : Sto} (hA : A ρ Z = .ok false Z1) (hB : B ρ Z1 = .ok false Z2) : Fx.tOr A B ρ Z = .ok false Z2 := by
  simp [hA,hB]
theorem t_ne {fa fb : FE} {ρ : Fx.Env} {Z Z1 Z2 : Sto} {u v : Fx.T} (h1 : fa ρ Z = .ok u Z1) (h2 : fb ρ Z1 = .ok v Z2) (h3 : gNe u v Z2 = some (.bl false,Z2)) : eBl (eBin gNe fa fb) ρ Z = .ok false Z2 := by
  simp [h1,h2,h3]
theorem ne_int (i : Int) (Z : Sto) : gNe (.int i) (.int i) Z = some (.bl false,Z) := by simp [gNe,gEqB,eqS]
theorem Zhb {m K : Nat} {l : List Fx.T} (h : DQ m K (.tup l)) (hm : m ≤ 16) (hK : K ≤ 64) (Z : Sto) : gEq (.tup l) (.tup l) Z = some (.bl true,Z) := by
  obtain ⟨D,a,b,c⟩ := h
  have e := eq_self (x := .tup l) (Z := Z) (d := D) rfl (a 16 Z hm) (by unfold SeqAt.shaped; rw [b,decide_eq_true (Nat.le_trans c hK)]; rfl)
  unfold gEq
  rw [e]; rfl
end Ap
set_option maxHeartbeats 8000000
namespace Ap
open PySem PySem.Spec PyProof.Rows L2 SX Fx
def hE (w : Nat) (o1 o2 o3 o4 o5 o6 o7 : Option Fx.T) : Fx.Env := [some (.loc w),o1,o2,o3,o4,o5,o6,o7,none]
section
variable {Z : Sto} {w : Nat}
theorem Zjh (hw : Wel Z w) : ∃ (d i : Nat) (Z' : Sto), d ≤ 100 ∧ GrAt Z' i (twG.map nT) 0 ∧ Kp w Z Z' ∧ Ny (hE w none none none none none none none) Z = Vk (hE w (some (.int (d : Int))) (some (.int 1)) none none none none (some (.loc i))) Z' := by
  obtain ⟨i,Z1,e1,x1,g1⟩ := Zjg (ds := [(.int (0))]) rfl (hE w none none none none none none none) Z
  have k1 : Kp w Z Z1 := by obtain ⟨Y,rfl⟩ := x1; exact Kp.new hw
  obtain ⟨d,Z2,hd,e2,k2⟩ := Z0l k1.wel 101 101 rfl (by decide) (by decide)
  have g2 : GrAt Z2 i (twG.map nT) 0 := by
    have hi : i < Z1.length := by
      have := Z29 (show getI Z1 i = _ from g1)
      exact (List.getElem?_eq_some_iff.mp this).1
    have hne : i ≠ w := by
      intro e
      subst e
      obtain ⟨_,_,_,h⟩ := k1.wel
      have h1 := Z29 (show getI Z1 i = _ from g1)
      rw [V3] at h
      rw [h] at h1; cases h1
    have h2 := k2.keep i hi hne
    have h1 := Z29 (show getI Z1 i = _ from g1)
    rw [h1] at h2
    show getI Z2 i = _
    unfold getI
    rw [h2]
  refine ⟨d,i,Z2,by omega,g2,k1.trans k2,?_⟩
  refine X6 (ρ' := hE w (some (.int (d : Int))) (some (.int 1)) none none none none (some (.loc i))) ?_ rfl
  simp only [hE] at e1 ⊢
  generalize hM : eMake "Graph" Y5 [(.int (0))] (aCons (eLst (aCons (eTup (aCons (eC (.str [115,101,113,117,101,110,99,101])) (aCons (eC (.str [33,33,115,101,113])) (aCons (eTup (aCons (eC (.int 0)) (aCons (eC (.int 0)) aNil))) aNil)))) aNil)) aNil) = M at *
  simp [e1,e2]
theorem Zji {d : Nat} {o7 : Option Fx.T} (hd : d ≤ 100) : ∃ o3,Vk (hE w (some (.int (d : Int))) (some (.int 1)) none none none none o7) Z = Vj (hE w (some (.int (d : Int))) (some (.int (dueN d))) o3 none none none o7) Z := by
  obtain ⟨ρ4, Z4, e4, o3, rfl, rfl⟩ := Z1j (m := d) (body := fun t ρ' Z' => bS ρ' (gNm 3 t ρ' Z') Va) (ρ := hE w (some (.int (d : Int))) (some (.int 1)) none none none none o7) (Z := Z)
    (fun k ρ Z' => ∃ o3, ρ = hE w (some (.int (d : Int))) (some (.int (dueN k))) o3 none none none o7 ∧ Z' = Z) (by unfold Lim; omega) ⟨none, rfl, rfl⟩
    (fun k hk ρ Z' hI => by
      obtain ⟨o3,rfl,rfl⟩ := hI
      have hu : dueN (k + 1) = 2 * dueN k + 1 := rfl
      refine ⟨hE w (some (.int (d : Int))) (some (.int (dueN (k + 1)))) (some (.int (k : Int))) none none none o7, Z', ?_, some (.int (k : Int)), rfl, rfl⟩
      rw [hu]
      generalize dueN k = u
      have mo : mulOk 2 u = true := Zcf _ _ (by decide) (by decide)
      simp [Va,hE,mo])
  simp only [Z7t,Z22] at e4
  have r3 : ∀ Z,rngOf [.int (d : Int)] Z = .ok (itRng 0 d) Z := fun Z => rngN (n := d) (by unfold Lim; omega)
  refine ⟨o3, X6 (ρ' := hE w (some (.int (d : Int))) (some (.int (dueN d))) o3 none none none o7) ?_ rfl⟩
  simp only [hE] at e4 ⊢
  simp [r3,e4]
theorem Zjj {gs : List Nd} (hgs : GsOk gs) (h1 : 1 ≤ gs.length) (hN : gs.length ≤ 200) {ds : List Fx.T} {fa : FA} {ρ : Fx.Env} {Z Z0 : Sto} {as : List Fx.T} {top : Int} (ha : fa ρ Z = .ok as Z0) (has : as ++ ds = [.tup (gs.map nT),.int top]) (ht : InG gs top) :
    ∃ Z1, eMake "Graph" Y5 ds fa ρ Z = .ok (.loc Z0.length) Z1 ∧ Ext Z0 Z1 ∧ GrAt Z1 Z0.length (gs.map nT) top := by
  obtain ⟨Y,e⟩ := Zcw ha has (Zit Z0 _) (by rw [List.length_map]; exact h1) (by rw [List.length_map]; exact hN) (Zj3 hgs Z0) (by rw [List.length_map]; exact ht)
  exact ⟨_,e,⟨_,rfl⟩,Zfb _ _ _ _⟩
theorem Zjk {d i : Nat} {o3 : Option Fx.T} (hd : d ≤ 100) (g : GrAt Z i (twG.map nT) 0) : ∃ Z', Ext Z Z' ∧ Vj (hE w (some (.int (d : Int))) (some (.int (dueN d))) o3 none none none (some (.loc i))) Z = Vi (hE w (some (.int (d : Int))) (some (.int (dueN d))) o3 none none none (some (.loc i))) Z' := by
  obtain ⟨Z1,e1,x1⟩ := Z2u Z6j (by decide) g Zbb hd
  rw [Zh6] at e1
  have g1 := g.ext x1
  obtain ⟨Z2, e2, x2, g2⟩ := Zjj Z6j (by decide) (by decide) (ds := [(.int (0))]) (fa := aCons (eFld ["Graph"] "nodes" (eVar 7)) aNil) (ρ := hE w (some (.int (d : Int))) (some (.int (dueN d))) o3 none none none (some (.loc i))) (Z := Z1) (Z0 := Z1) (as := [.tup (twG.map nT)]) (top := 0) (by simp [hE, eFld, Zeg g1]) rfl Zbb
  obtain ⟨Z3,e3,x3⟩ := Z2u Z6j (by decide) g2 Zbb (d := 100) (by decide)
  rw [Zh6] at e3
  have h100 : ((100 : Nat) : Int) = 100 := rfl
  rw [h100] at e3
  refine ⟨Z3,x1.trans (x2.trans x3),?_⟩
  refine X6 (Zha (Z1 := Z1) (t_ne (u := .int (dueN d)) (v := .int (dueN d)) (Z1 := Z1) ?_ ?_ (ne_int _ _)) (Z2 := Z3) ?_) rfl
  · simp [hE,e1]
  · simp [hE]
  · have pw : ∀ Z,gPow (.int 10) (.int 30) Z = some (.int ((10 : Int) ^ 30),Z) := fun Z => by simp [gPow]
    have hlt : ¬ dueN 100 < (10 : Int) ^ 30 := by have := Zh7; omega
    generalize hP : (10 : Int) ^ 30 = P at *
    generalize hU : dueN 100 = U at *
    simp only [hE] at e2 ⊢
    simp [e2,e3,pw,hlt]
theorem Zjl {d i : Nat} {o1 o2 o3 : Option Fx.T} (g : GrAt Z i (twG.map nT) 0) : ∃ Z', Ext Z Z' ∧ Vi (hE w o1 o2 o3 none none none (some (.loc i))) Z = Vh (hE w o1 o2 o3 none none none (some (.loc i))) Z' := by
  obtain ⟨Z1,e1,x1⟩ := Zdc Z6j (by decide) g Zbb (d := 11) (by decide) (by decide +kernel)
  have h11 : ((11 : Nat) : Int) = 11 := rfl
  rw [h11] at e1
  have g1 := g.ext x1
  obtain ⟨Z2,e2,x2⟩ := Z8h Z6j (by decide) g1 Zbb (d := 10) (by decide) (by decide +kernel)
  have h10 : ((10 : Nat) : Int) = 10 := rfl
  rw [h10] at e2
  have ht : ∃ T,trA twG 10 0 = .tup [.str sSeq,.str tSq,.tup [T,T]] := ⟨_,rfl⟩
  obtain ⟨T,hT⟩ := ht
  rw [hT] at e2
  refine ⟨Z2,x1.trans x2,?_⟩
  refine X6 (Zha (Z1 := Z1) (t_ne (Zag (Z' := Z1) ?_) (v := .tup [.str sLar, .int 3000]) ?_ (Zeo (Z0m (X7 (by decide)) (Zae _)) (by decide) (by decide) _)) (Z2 := Z2) ?_) rfl
  · simp [hE,e1]
  · simp [sLar]
  · have a2 : atI [Fx.T.str sSeq,.str tSq,.tup [T,T]] 2 = some (.tup [T,T]) := Fx.atI_nat (k := 2) rfl
    simp [hE,e2,a2]
theorem Zjm {o1 o2 o3 o7 : Option Fx.T} : ∃ l Z', Ext Z Z' ∧ getL Z' l = some (lnG.map nT) ∧ Vh (hE w o1 o2 o3 none none none o7) Z = Vg (hE w o1 o2 o3 (some (.loc l)) none none o7) Z' := by
  obtain ⟨Z1,e1,x1,g1⟩ := Ja (it := itRng 0 50) (put := fun t => putN [8] t (wipeR (hE w o1 o2 o3 none none none o7) [8])) (c := eYes) (e := Vb) (l := List.range 50) (u := fun (i : Nat) => Fx.T.int (i : Int)) (p := fun _ => true) (fv := fun (i : Nat) => nT (.sq tS1 [(i : Int) + 1])) (Z1 := Z) (by rw [List.length_range]; unfold Lim; omega) (hit_R 50)
    (fun i hi Zc x => ⟨[some (.loc w),o1,o2,o3,none,none,none,o7,some (.int (i : Int))],Zc,by rw [Qg]; rfl,rfl,Ext.refl Zc,fun _ => ⟨Zc,by simp [Vb,nT,sSeq,tS1],Ext.refl Zc⟩⟩)
  rw [Z1z] at g1
  have hl : ((List.range 50).map fun (i : Nat) => nT (.sq tS1 [(i : Int) + 1])).length = 50 := by rw [List.length_map,List.length_range]
  have ad := Z8y Z.length Z1.length (Z1 ++ [O.lst [nT (.sc tSt [101,110,100])]]) (Yx g1) (Zk _ _) (by rw [hl]; show _ + 1 ≤ Lim; unfold Lim; omega)
  have er : ((List.range 50).map fun (i : Nat) => nT (.sq tS1 [(i : Int) + 1])) ++ [nT (.sc tSt [101,110,100])] = lnG.map nT := by
    unfold lnG
    rw [List.map_append,List.map_map]; rfl
  rw [er] at ad
  obtain ⟨Z2,hZ2⟩ : ∃ Z2,Z2 = Z1 ++ [O.lst [nT (.sc tSt [101,110,100])]] := ⟨_,rfl⟩
  rw [← hZ2] at ad
  obtain ⟨Z3,hZ3⟩ : ∃ Z3,Z3 = Z2 ++ [O.lst (lnG.map nT)] := ⟨_,rfl⟩
  rw [← hZ3] at ad
  refine ⟨Z2.length,Z3,?_,by rw [hZ3]; exact Zk _ _,?_⟩
  · rw [hZ3,hZ2]; exact (x1.app _).app _
  · refine X6 (ρ' := hE w o1 o2 o3 (some (.loc Z2.length)) none none o7) ?_ rfl
    have r3 : ∀ Z,rngOf [.int 50] Z = .ok (itRng 0 50) Z := fun Z => rngN (n := 50) (by decide)
    have hz : Z1 ++ [O.lst [.tup [.str [115,99,97,108,97,114],.str [33,33,115,116,114],.str [101,110,100]]]] = Z2 := hZ2.symm
    generalize lnG.map nT = LL at *
    simp only [hE] at e1 ⊢
    simp [-Z9x,r3,e1,hz,ad]
theorem Zjn {l : Nat} {o1 o2 o3 o7 : Option Fx.T} (hl : getL Z l = some (lnG.map nT)) : ∃ Z', Ext Z Z' ∧ Vg (hE w o1 o2 o3 (some (.loc l)) none none o7) Z = Vf (hE w o1 o2 o3 (some (.loc l)) (some (trA lnG 50 0)) none o7) Z' := by
  have l1 : 1 ≤ lnG.length := by rw [Z7f]; decide
  have l2 : lnG.length ≤ 200 := by rw [Z7f]; decide
  have hin : InG lnG 0 := ⟨by decide,by rw [Z7f]; decide⟩
  obtain ⟨Z1,e1,x1,g1⟩ := Zem Zfq l1 l2 (ds := [(.int (0))]) (fa := aCons (eVar 4) aNil) (ρ := hE w o1 o2 o3 (some (.loc l)) none none o7) (Z := Z) (Z0 := Z) (as := [.loc l]) (nl := l) (top := 0) (by simp [hE]) rfl hl hin
  obtain ⟨Z2,e2,x2⟩ := Z8h Zfq l2 g1 hin (d := 50) (by decide) ln_sz
  have h50 : ((50 : Nat) : Int) = 50 := rfl
  rw [h50] at e2
  refine ⟨Z2,x1.trans x2,?_⟩
  refine X6 (ρ' := hE w o1 o2 o3 (some (.loc l)) (some (trA lnG 50 0)) none o7) ?_ rfl
  generalize trA lnG 50 0 = TT at *
  simp only [hE] at e1 ⊢
  simp [e1,e2]
theorem Zjo {l : Nat} {o1 o2 o3 o7 : Option Fx.T} : ∃ o3', Vf (hE w o1 o2 o3 (some (.loc l)) (some (trA lnG 50 0)) none o7) Z = Ve (hE w o1 o2 o3' (some (.loc l)) (some (trA lnG 0 50)) none o7) Z := by
  obtain ⟨ρ4, Z4, e4, o3', rfl, rfl⟩ := Z1j (m := 50) (body := fun t ρ' Z' => bS ρ' (gNm 3 t ρ' Z') Vc) (ρ := hE w o1 o2 o3 (some (.loc l)) (some (trA lnG 50 0)) none o7) (Z := Z)
    (fun k ρ Z' => ∃ o3', ρ = hE w o1 o2 o3' (some (.loc l)) (some (trA lnG (50 - k) ((k : Nat) : Int))) none o7 ∧ Z' = Z) (by decide) ⟨o3, rfl, rfl⟩
    (fun k hk ρ Z' hI => by
      obtain ⟨o3', rfl, rfl⟩ := hI
      obtain ⟨d,hd⟩ : ∃ d,50 - k = d + 1 := ⟨50 - k - 1,by omega⟩
      have hd2 : 50 - (k + 1) = d := by omega
      rw [hd,hd2,ln_tr hk]
      refine ⟨hE w o1 o2 (some (.int (k : Int))) (some (.loc l)) (some (trA lnG d ((k + 1 : Nat) : Int))) none o7, Z', ?_, some (.int (k : Int)), rfl, rfl⟩
      generalize trA lnG d ((k + 1 : Nat) : Int) = X
      have cu : cutL [Fx.T.str sSeq,.str tS1,.tup [X]] none (some 2) = [.str sSeq,.str tS1] := Zeq _ 2
      have a2 : atI [Fx.T.str sSeq,.str tS1,.tup [X]] 2 = some (.tup [X]) := Fx.atI_nat (k := 2) rfl
      have a0 : atI [X] 0 = some X := Fx.atI_nat (k := 0) rfl
      have nn := Zeo (Z0m (X7 (l := sSeq) (by decide)) (X7 (l := tS1) (by decide))) (by decide) (by decide) Z'
      simp only [sSeq,tS1] at cu a2 nn ⊢
      simp [Vc,hE,cu,a2,a0,nn])
  simp only [Z7t,Z22] at e4
  have r3 : ∀ Z,rngOf [.int 50] Z = .ok (itRng 0 50) Z := fun Z => rngN (n := 50) (by decide)
  have e5 : trA lnG (50 - 50) ((50 : Nat) : Int) = trA lnG 0 50 := rfl
  rw [e5] at e4
  refine ⟨o3', X6 (ρ' := hE w o1 o2 o3' (some (.loc l)) (some (trA lnG 0 50)) none o7) ?_ rfl⟩
  generalize trA lnG 0 50 = T1 at *
  generalize trA lnG 50 0 = T2 at *
  simp only [hE] at e4 ⊢
  simp [r3,e4]
theorem Zjp {o1 o2 o3 o4 o5 o7 : Option Fx.T} : ∃ i Z', Ext Z Z' ∧ GrAt Z' i (wdG.map nT) 0 ∧ Ve (hE w o1 o2 o3 o4 o5 none o7) Z = Vd (hE w o1 o2 o3 o4 o5 (some (.loc i)) o7) Z' := by
  obtain ⟨Z1,e1,x1,g1⟩ := Zem Z8j (by decide) (by decide) (ds := [(.int (0))]) (fa := (aCons (eLst (aCons (eTup (aCons (eC (.str [109,97,112,112,105,110,103])) (aCons (eC (.str [33,33,109,97,112])) (aCons (eBin gMulT (eTup (aCons (eTup (aCons (eC (.int 1)) (aCons (eC (.int 2)) aNil))) aNil)) (eC (.int 500))) aNil)))) (aCons (eTup (aCons (eC (.str [115,99,97,108,97,114])) (aCons (eC (.str [33,33,115,116,114])) (aCons (eC (.str [107])) aNil)))) (aCons (eTup (aCons (eC (.str [115,101,113,117,101,110,99,101])) (aCons (eC (.str [33,33,115,101,113])) (aCons (eTup (aCons (eC (.int 1)) (aCons (eC (.int 1)) (aCons (eC (.int 1)) aNil)))) aNil)))) aNil)))) aNil)) (ρ := hE w o1 o2 o3 o4 o5 none o7) (Z := Z) (Z0 := Z ++ [.lst (wdG.map nT)]) (as := [.loc Z.length]) (nl := Z.length) (top := 0) (by
      have hW : wdG.map nT = [.tup [.str sMap,.str tMp,.tup ((List.replicate 500 ((1 : Int),(2 : Int))).map pairT)],.tup [.str sSc,.str tSt,.str [107]],.tup [.str sSeq,.str tSq,.tup [.int 1,.int 1,.int 1]]] := rfl
      have mu := Zjf Z
      rw [hW]
      generalize (List.replicate 500 ((1 : Int),(2 : Int))).map pairT = RR at *
      simp only [sMap,tMp,sSc,tSt,sSeq,tSq]
      simp [mu]) rfl (Zk _ _) Zdf
  refine ⟨_,Z1,((Ext.refl Z).app _).trans x1,g1,?_⟩
  refine X6 (ρ' := hE w o1 o2 o3 o4 o5 (some (.loc (Z ++ [O.lst (wdG.map nT)]).length)) o7) ?_ rfl
  rw [Zgf,e1]; rfl
theorem Zjq {i : Nat} {o1 o2 o3 o4 o5 o7 : Option Fx.T} (g : GrAt Z i (wdG.map nT) 0) : ∃ Z', Ext Z Z' ∧ Vd (hE w o1 o2 o3 o4 o5 (some (.loc i)) o7) Z = Xr (hE w o1 o2 o3 o4 o5 (some (.loc i)) o7) Z' := by
  obtain ⟨Z1,e1,x1⟩ := Z2u Z8j (by decide) g Zdf (d := 1) (by decide)
  obtain ⟨Z2,e2,x2⟩ := Z2u Z8j (by decide) (g.ext x1) Zdf (d := 2) (by decide)
  obtain ⟨Z3,e3,x3⟩ := Z8h Z8j (by decide) (g.ext (x1.trans x2)) Zdf (d := 2) (by decide) (by rw [wd_2]; decide)
  rw [wd_1,show ((1 : Nat) : Int) = 1 from rfl] at e1
  rw [wd_2,show ((2 : Nat) : Int) = 2 from rfl] at e2
  obtain ⟨L,hL,hl⟩ := wd_tr
  rw [hL,show ((2 : Nat) : Int) = 2 from rfl] at e3
  refine ⟨Z3,x1.trans (x2.trans x3),?_⟩
  refine X6 (Zha (Z1 := Z1) (t_ne (u := .int 1001) (v := .int 1001) (Z1 := Z1) ?_ ?_ (ne_int _ _)) (or_no (Z1 := Z2) (t_ne (u := .int 2501) (v := .int 2501) (Z1 := Z2) ?_ ?_ (ne_int _ _)) (Z2 := Z3) (t_ne (u := .int 500) (v := .int 500) (Z1 := Z3) ?_ ?_ (ne_int _ _)))) rfl
  · simp [hE,e1]
  · simp [hE]
  · simp [hE,e2]
  · simp [hE]
  · have a2 : atI [Fx.T.str sMap,.str tMp,.tup L] 2 = some (.tup L) := Fx.atI_nat (k := 2) rfl
    simp [hE,e3,a2,hl]
  · simp [hE]
theorem Zjr {i : Nat} {o1 o2 o3 o4 o7 : Option Fx.T} (g : GrAt Z i (wdG.map nT) 0) : ∃ Z', Ext Z Z' ∧ Xr (hE w o1 o2 o3 o4 (some (trA lnG 0 50)) (some (.loc i)) o7) Z = .rt (.bl true) Z' := by
  obtain ⟨Z1,e1,x1⟩ := Z8h Z8j (by decide) g Zdf (d := 0) (by decide) (by decide)
  rw [Zje,show ((0 : Nat) : Int) = 0 from rfl] at e1
  rw [Zh9]
  have q1 := Zhb (Jz (X7 (l := sSc) (by decide)) (X7 (l := tSt) (by decide)) (X7 (l := [101,110,100]) (by decide))) (by decide) (by decide) Z
  have q2 := Zhb (Jz (X7 (l := sMap) (by decide)) (X7 (l := tMp) (by decide)) Zfm) (by decide) (by decide) Z1
  refine ⟨Z1,x1,?_⟩
  simp only [sSc,tSt,sMap,tMp] at *
  simp [Xr,hE,e1,q1,q2]
theorem Z1m {Z0 Z1 Z2 : Sto} (k : Kp w Z0 Z1) (x : Ext Z1 Z2) : Kp w Z0 Z2 := by
  obtain ⟨Y,rfl⟩ := x
  exact k.trans (Kp.new k.wel)
theorem Zjs (hw : Wel Z w) : ∃ Z', Q8 [.loc w] Z = .ok (.bl true) Z' ∧ Kp w Z Z' := by
  obtain ⟨d,i,Z1,hd,g1,k1,s0⟩ := Zjh hw
  obtain ⟨o3,s1⟩ := Zji (Z := Z1) (w := w) (o7 := some (.loc i)) hd
  obtain ⟨Z2,x2,s2⟩ := Zjk (w := w) (o3 := o3) hd g1
  obtain ⟨Z3,x3,s3⟩ := Zjl (w := w) (d := d) (o1 := some (.int (d : Int))) (o2 := some (.int (dueN d))) (o3 := o3) (g1.ext x2)
  obtain ⟨l,Z4,x4,g4,s4⟩ := Zjm (Z := Z3) (w := w) (o1 := some (.int (d : Int))) (o2 := some (.int (dueN d))) (o3 := o3) (o7 := some (.loc i))
  obtain ⟨Z5,x5,s5⟩ := Zjn (w := w) (o1 := some (.int (d : Int))) (o2 := some (.int (dueN d))) (o3 := o3) (o7 := some (.loc i)) g4
  obtain ⟨o3', s6⟩ := Zjo (Z := Z5) (w := w) (l := l) (o1 := some (.int (d : Int))) (o2 := some (.int (dueN d))) (o3 := o3) (o7 := some (.loc i))
  obtain ⟨j, Z7, x7, g7, s7⟩ := Zjp (Z := Z5) (w := w) (o1 := some (.int (d : Int))) (o2 := some (.int (dueN d))) (o3 := o3') (o4 := some (.loc l)) (o5 := some (trA lnG 0 50)) (o7 := some (.loc i))
  obtain ⟨Z8, x8, s8⟩ := Zjq (w := w) (o1 := some (.int (d : Int))) (o2 := some (.int (dueN d))) (o3 := o3') (o4 := some (.loc l)) (o5 := some (trA lnG 0 50)) (o7 := some (.loc i)) g7
  obtain ⟨Z9, x9, s9⟩ := Zjr (w := w) (o1 := some (.int (d : Int))) (o2 := some (.int (dueN d))) (o3 := o3') (o4 := some (.loc l)) (o7 := some (.loc i)) (g7.ext x8)
  exact ⟨Z9,Z1k (n := 9) (as := [.loc w]) (s0.trans (s1.trans (s2.trans (s3.trans (s4.trans (s5.trans (s6.trans (s7.trans (s8.trans s9))))))))),Z1m (Z1m (Z1m (Z1m (Z1m (Z1m (Z1m k1 x2) x3) x4) x5) x7) x8) x9⟩
end
end Ap
set_option maxHeartbeats 8000000
namespace Ap
open PySem PySem.Spec PyProof.Rows L2 SX Fx
def OddAt (x : Fx.T) (Z : Sto) : Prop := (Ye [x,.int 0,.int 50] Z = .ok (.bl false) Z ∧ Ye [x,.int 0,.int 100] Z = .ok (.bl false) Z) ∧ ∃ s,okS s = true ∧ gReprW [x] Z = some (.str s,Z)
theorem Zdg {d m : Int} {Z : Sto} (h : ¬ (0 ≤ d ∧ d ≤ m)) : Ye [.int d,.int 0,.int m] Z = .ok (.bl false) Z := by
  rw [Z6g]
  have : numOk m (.int d) = false := by
    show (decide ((0 : Int) ≤ d) && decide (d ≤ m)) = false
    by_cases h0 : (0 : Int) ≤ d
    · rw [decide_eq_false (fun h1 => h ⟨h0,h1⟩),Bool.and_false]
    · rw [decide_eq_false h0,Bool.false_and]
  rw [this]
theorem Z9c {d : Int} (h : ¬ (0 ≤ d ∧ d ≤ 100)) (h2 : d.natAbs.log2 < 1920) (h3 : okS (dec d) = true) (Z : Sto) : OddAt (.int d) Z := ⟨⟨Zdg (by omega),Zdg h⟩,dec d,h3,if_pos h2⟩
theorem odd_1 (Z : Sto) : OddAt .non Z := ⟨⟨Jy rfl,Jy rfl⟩,_,by decide +kernel,rfl⟩
theorem odd_2 (Z : Sto) : OddAt (.int (-1)) Z := Z9c (by decide) (by decide +kernel) (by decide +kernel) Z
theorem odd_3 (Z : Sto) : OddAt (.int 101) Z := Z9c (by decide) (by decide +kernel) (by decide +kernel) Z
theorem odd_4 (Z : Sto) : OddAt (.bl true) Z := ⟨⟨Zcu _ _ _,Zcu _ _ _⟩,_,by decide +kernel,rfl⟩
theorem odd_5 (Z : Sto) : OddAt (.str [49]) Z := ⟨⟨Jy rfl,Jy rfl⟩,(reprText (S [49])).cps.toList,by decide +kernel,if_pos (by decide +kernel)⟩
theorem odd_9 (Z : Sto) : OddAt (.int 100000000000000000000) Z := Z9c (by decide) (by decide +kernel) (by decide +kernel) Z
theorem odd_8 (Z : Sto) : OddAt (.tup [.int 1]) Z := by
  refine ⟨⟨Jy rfl,Jy rfl⟩,(PyData.tuple [.int 1]).shown.cps.toList,by decide +kernel,?_⟩
  have e : toD 16 Z (.tup [.int 1]) = some (.tuple [.int 1]) := rfl
  show gRepr [.tup [.int 1]] Z = _
  simp only [gRepr,e]
  exact if_pos (by decide +kernel)
theorem odd_6 {Z : Sto} {a : Nat} (h : getL Z a = some []) : OddAt (.loc a) Z := by
  have t := Z57 h
  have hi : gIsi [.loc a, .ty "int"] Z = some (.bl false, Z) := by
    have h1 := V3.mp h
    simp [gIsi,tyT,h1]
  refine ⟨⟨Jy hi,Jy hi⟩,(PyData.list []).shown.cps.toList,by decide +kernel,?_⟩
  have hd : getDK Z a = none := by unfold getDK; rw [V3.mp h]
  have e : toD 16 Z (.loc a) = some (.list []) := by
    show (getL Z a).bind _ = _
    rw [h]; rfl
  show (match getDK Z a with | some [] => some (Fx.T.str (PyData.dict []).shown.cps.toList,Z) | some _ => none | none => gRepr [.loc a] Z) = _
  rw [hd]
  simp only [gRepr,e]
  exact if_pos (by decide +kernel)
theorem odd_7 {Z : Sto} {a : Nat} (h : getDK Z a = some []) : OddAt (.loc a) Z := by
  have hi : gIsi [.loc a, .ty "int"] Z = some (.bl false, Z) := by
    have h1 := Z1l.mp h
    simp [gIsi,tyT,h1]
  refine ⟨⟨Jy hi,Jy hi⟩,(PyData.dict []).shown.cps.toList,by decide +kernel,?_⟩
  show (match getDK Z a with | some [] => some (Fx.T.str (PyData.dict []).shown.cps.toList,Z) | some _ => none | none => gRepr [.loc a] Z) = _
  rw [h]
def oE (w : Nat) (o1 o2 o3 o4 : Option Fx.T) : Fx.Env := [some (.loc w),o1,o2,o3,o4]
section
variable {Z : Sto} {w : Nat}
theorem Zep {i : Nat} {o1 o2 : Option Fx.T} {x : Fx.T} (g : GrAt Z i (twG.map nT) 0) (h : OddAt x Z) : ∃ o1', Ug (oE w o1 o2 (some x) (some (.loc i))) Z = .nx (oE w o1' o2 (some x) (some (.loc i))) Z := by
  obtain ⟨⟨f1,f2⟩,s,hs,hr⟩ := h
  have e1 := Z9b g f1
  have e2 := Zdb g f2
  have nn := Zeo (Z0m (X7 (l := sDep) (by decide)) (X7 hs)) (by decide) (by decide) Z
  refine ⟨some (.tup [.str sDep,.str s]),?_⟩
  refine X6 (ρ' := oE w (some (.tup [.str sDep, .str s])) o2 (some x) (some (.loc i))) (Z' := Z) ?_ (X6 (Zh4 (Z4i (t := x) (s := s) (Z' := Z) ?_ hr) (v := .tup [.str sDep, .str s]) ?_ nn) (Zh4 (Z4i (t := x) (s := s) (Z' := Z) ?_ hr) (v := .tup [.str sDep, .str s]) ?_ nn))
  · simp [oE,hr,sDep]
  · simp [oE,e1]
  · simp [oE]
  · simp [oE,eCallK,Yh,e2]
  · simp [oE]
theorem gr_kp {i : Nat} {ts : List Fx.T} {top : Int} {Z1 : Sto} (k : Kp w Z Z1) (hw : Wel Z w) (g : GrAt Z i ts top) : GrAt Z1 i ts top := by
  have h1 := Z29 (show getI Z i = _ from g)
  have hi : i < Z.length := (List.getElem?_eq_some_iff.mp h1).1
  have hne : i ≠ w := by
    intro e
    subst e
    obtain ⟨_,_,_,h⟩ := hw
    rw [V3] at h
    rw [h] at h1; cases h1
  have h2 := k.keep i hi hne
  rw [h1] at h2
  show getI Z1 i = _
  unfold getI
  rw [h2]
theorem f_odd (hw : Wel Z w) : ∃ Z', Qu [.loc w] Z = .ok (.bl true) Z' ∧ Kp w Z Z' := by
  obtain ⟨i,Z1,e1,x1,g1⟩ := Zjg (ds := [(.int (0))]) rfl (oE w none none none none) Z
  have k1 : Kp w Z Z1 := Z1m (Kp.refl hw) x1
  have s0 : Z0r (oE w none none none none) Z = Uj (oE w none none none (some (.loc i))) Z1 := by
    refine X6 (ρ' := oE w none none none (some (.loc i))) ?_ rfl
    rw [Zgf,e1]; rfl
  obtain ⟨Z2,hZ2⟩ : ∃ Z2,Z2 = Z1 ++ [O.lst []] := ⟨_,rfl⟩
  obtain ⟨Z3,hZ3⟩ : ∃ Z3,Z3 = Z2 ++ [O.dk []] := ⟨_,rfl⟩
  have x3 : Ext Z1 Z3 := by rw [hZ3,hZ2]; exact ((Ext.refl _).app _).app _
  have gl : getL Z3 Z1.length = some [] := by rw [hZ3,hZ2]; exact Yx (Zk _ _)
  have gd : getDK Z3 Z2.length = some [] := by rw [hZ3]; unfold getDK; simp
  have g3 := g1.ext x3
  obtain ⟨ρ4, Z4, e4, o1, o3, rfl, rfl⟩ := Zci (ts := [.non, .int (-1), .int 101, .bl true, .str [49], .loc Z1.length, .loc Z2.length, .tup [.int 1], .int 100000000000000000000]) (body := fun t ρ' Z' => bS ρ' (gNm 3 t ρ' Z') Ug) (ρ := oE w none none none (some (.loc i))) (Z := Z3)
    (fun ρ Z' => ∃ o1 o3, ρ = oE w o1 none o3 (some (.loc i)) ∧ Z' = Z3) (by simp [Lim]) ⟨none, none, rfl, rfl⟩
    (fun x hx ρ Z' hI => by
      obtain ⟨o1,o3,rfl,rfl⟩ := hI
      have ho : OddAt x Z' := by
        simp only [List.mem_cons,List.not_mem_nil,or_false] at hx
        rcases hx with rfl | rfl | rfl | rfl | rfl | rfl | rfl | rfl | rfl
        · exact odd_1 _
        · exact odd_2 _
        · exact odd_3 _
        · exact odd_4 _
        · exact odd_5 _
        · exact odd_6 gl
        · exact odd_7 gd
        · exact odd_8 _
        · exact odd_9 _
      obtain ⟨o1', e⟩ := Zep (w := w) (o1 := o1) (o2 := none) g3 ho
      exact ⟨oE w o1' none (some x) (some (.loc i)), Z', by
        simp only [oE] at e ⊢
        simp [e], o1', some x, rfl, rfl⟩)
  simp only [Z7t,Z22] at e4
  have s1 : Uj (oE w none none none (some (.loc i))) Z1 = Ui (oE w o1 none o3 (some (.loc i))) Z4 := by
    refine X6 (ρ' := oE w o1 none o3 (some (.loc i))) ?_ rfl
    have hi : iAny (eTup (aCons (eC .non) (aCons (eBin gSub (eC (.int 0)) (eC (.int 1))) (aCons (eC (.int 101)) (aCons (eC (.bl true)) (aCons (eC (.str [49])) (aCons (eLst aNil) (aCons eDict0 (aCons (eTup (aCons (eC (.int 1)) aNil)) (aCons (eBin gPow (eC (.int 10)) (eC (.int 20))) aNil)))))))))) (oE w none none none (some (.loc i))) Z1 = .ok (itSeq [.non,.int (-1),.int 101,.bl true,.str [49],.loc Z1.length,.loc Z2.length,.tup [.int 1],.int 100000000000000000000]) Z4 := by
      have hd : ∀ ρ,eDict0 ρ Z2 = .ok (.loc Z2.length) Z4 := fun ρ => by rw [hZ3]; rfl
      have hl : ∀ ρ,eLst aNil ρ Z1 = .ok (.loc Z1.length) Z2 := fun ρ => by rw [hZ2]; rfl
      have pw : ∀ Z,gPow (.int 10) (.int 20) Z = some (.int 100000000000000000000,Z) := fun Z => by simp [gPow]
      generalize eDict0 = D0 at *
      generalize eLst aNil = L0 at *
      simp [hl,hd,pw]
    rw [Zcd,hi,Z22]
    exact e4
  have k3 : Kp w Z Z4 := Z1m k1 x3
  obtain ⟨r,Z5,hr,e5,k5⟩ := Z0l k3.wel 50 50 rfl (by decide) (by decide)
  have g5 := gr_kp k5 k3.wel g3
  have s2 : Ui (oE w o1 none o3 (some (.loc i))) Z4 = Uh (oE w o1 (some (.int (51 + (r : Int)))) o3 (some (.loc i))) Z5 := by
    refine X6 (ρ' := oE w o1 (some (.int (51 + (r : Int)))) o3 (some (.loc i))) ?_ rfl
    simp [oE,e5]
  have hc : ((51 + r : Nat) : Int) = 51 + (r : Int) := by omega
  have rd := Zfp (d := 51 + r) (by omega) Z5
  have hs := (Zde (51 + r) (by omega)).1
  rw [hc] at rd hs
  have e6 := Z9b g5 (Zdg (Z := Z5) (d := 51 + (r : Int)) (m := 50) (by omega))
  have e7 := Z4i (fl := fun Z' => eCallK Yc Zw (aCons (eVar 4) (aCons (eVar 2) aNil)) (oE w o1 (some (.int (51 + (r : Int)))) o3 (some (.loc i))) Z') (t := .int (51 + (r : Int))) (Z := Z5) (Z' := Z5) (by simp [oE, eCallK, Zw, e6]) rd
  have qq := Zhb (Z0m (X7 (l := sDep) (by decide)) (X7 hs)) (by decide) (by decide) Z5
  refine ⟨Z5,Z1k (n := 5) (as := [.loc w]) (s0.trans (s1.trans (s2.trans ?_))),k3.trans k5⟩
  have e8 : eLam Zm (eCallK Yc Zw (aCons (eVar 4) (aCons (eVar 2) aNil))) aNil (oE w o1 (some (.int (51 + (r : Int)))) o3 (some (.loc i))) Z5 = .ok (.tup [.str sDep,.str (dec (51 + (r : Int)))]) Z5 := e7
  generalize hL : eLam Zm (eCallK Yc Zw (aCons (eVar 4) (aCons (eVar 2) aNil))) aNil = LL at *
  unfold Uh
  rw [hL]
  generalize dec (51 + (r : Int)) = dd at *
  simp only [oE,sDep] at e8 qq ⊢
  simp [e8,rd,qq]
end
end Ap
set_option maxHeartbeats 8000000
namespace Ap
open PySem PySem.Spec PyProof.Rows L2 SX Fx
theorem lcat (Z : Sto) (A B : Sto) : Z ++ A ++ B = Z ++ (A ++ B) := List.append_assoc _ _ _
theorem f_top {gs : List Nd} (hgs : GsOk gs) (hN : gs.length ≤ 200) {Z : Sto} {w nl k : Nat} (hw : Wel Z w) (hne : nl ≠ w) (hn : getL Z nl = some (gs.map nT)) (ht : InG gs (k : Int)) (o0 o1 o3 o6 : Option Fx.T) :
    ∃ o6' Z', Z6z [o0, o1, some (.loc w), o3, some (.loc nl), some (.int (k : Int)), o6] Z = .nx [o0, o1, some (.loc w), o3, some (.loc nl), some (.int (k : Int)), o6'] Z' ∧ Kp w Z Z' := by
  obtain ⟨r,Z1,hr,e1,k1⟩ := Z0l hw 5 5 rfl (by decide) (by decide)
  obtain ⟨s,Z2,hs,e2,k2⟩ := Z0l k1.wel 101 101 rfl (by decide) (by decide)
  have n2 := (k1.trans k2).getL hne hn
  obtain ⟨Z3,hZ3⟩ : ∃ Z3,Z3 = Z2 ++ [O.lst ([0,1,2,3 + r,s].map fun (d : Nat) => Fx.T.int (d : Int))] := ⟨_,rfl⟩
  have g3 : getL Z3 Z2.length = some ([0,1,2,3 + r,s].map fun (d : Nat) => Fx.T.int (d : Int)) := by rw [hZ3]; exact Zk _ _
  have k3 : Kp w Z Z3 := by rw [hZ3]; exact Z1m (k1.trans k2) ((Ext.refl _).app _)
  have n3 : getL Z3 nl = some (gs.map nT) := by rw [hZ3]; exact Yx n2
  obtain ⟨ρ4, Z4, e4, x4, o6', rfl⟩ := Z7x (i := Z2.length) (ts := [0,1,2,3 + r, s].map fun (d : Nat) => Fx.T.int (d : Int)) (body := fun t ρ' Z' => bS ρ' (gNm 6 t ρ' Z') Z90) (ρ := [o0, o1, some (.loc w), o3, some (.loc nl), some (.int (k : Int)), o6]) (Z := Z3)
    (fun ρ Z' => Ext Z3 Z' ∧ ∃ o6', ρ = [o0, o1, some (.loc w), o3, some (.loc nl), some (.int (k : Int)), o6']) (by simp [Lim]) (fun ρ Z' h => h.1.getL g3) ⟨Ext.refl _, _, rfl⟩
    (fun x hx ρ Z' h => by
      obtain ⟨xc, o6', rfl⟩ := h
      obtain ⟨d,hd,rfl⟩ := List.mem_map.mp hx
      have hd2 : d ≤ 100 := by
        simp only [List.mem_cons,List.not_mem_nil,or_false] at hd
        omega
      obtain ⟨Z5,e5,x5⟩ := Zh5 hgs hN (xc.getL n3) ht hd2
      exact ⟨[o0,o1,some (.loc w),o3,some (.loc nl),some (.int (k : Int)),some (.int (d : Int))],Z5,by simp [Z90,e5],xc.trans x5,_,rfl⟩)
  simp only [Z7t,Z22] at e4
  refine ⟨o6', Z4, ?_, Z1m k3 x4⟩
  have hl : ([0,1,2,3 + r,s].map fun (d : Nat) => Fx.T.int (d : Int)) = [.int 0,.int 1,.int 2,.int (3 + (r : Int)),.int (s : Int)] := by simp
  rw [hl] at g3 hZ3
  have hi : iAny (eLst (aCons (eC (.int 0)) (aCons (eC (.int 1)) (aCons (eC (.int 2)) (aCons (eBin gAdd (eC (.int 3)) (eCall Zx [] (aCons (eVar 2) (aCons (eC (.int 5)) aNil)))) (aCons (eCall Zx [] (aCons (eVar 2) (aCons (eC (.int 101)) aNil))) aNil)))))) [o0,o1,some (.loc w),o3,some (.loc nl),some (.int (k : Int)),o6] Z = .ok (itLoc Z2.length) Z3 := by
    have hc : ∀ ρ,aCons (eC (.int 3)) aNil ρ Z = .ok [.int 3] Z := fun _ => rfl
    simp [e1,e2,← hZ3,g3]
  unfold Z6z
  rw [Zcd,hi,Z22]
  exact e4
theorem Zjt {Z : Sto} (c : Int) (o0 o2 o3 o4 o5 o6 : Option Fx.T) : ∃ p2 p3 p4 p5 p6 Z', (∀ j < Z.length, Z'[j]? = Z[j]?) ∧ Z5f [o0, some (.int c), o2, o3, o4, o5, o6] Z = .nx [o0, some (.int c), p2, p3, p4, p5, p6] Z' := by
  obtain ⟨a,b,d,ew⟩ := Zir c Z
  have hw : Wel (Z ++ [.lst [.int a,.int b,.int d]]) Z.length := ⟨a,b,d,Zk _ _⟩
  obtain ⟨r,Z1,hr,e1,k1⟩ := Z0l hw 8 8 rfl (by decide) (by decide)
  obtain ⟨i,ts,Z2,e2,g2,hl,hn,hi,k2⟩ := Zei k1.wel (size := 1 + r) (by omega) (by omega)
  obtain ⟨gs,rfl,hg⟩ := Zfg hn
  rw [List.length_map] at hl
  have hgs : GsOk gs := fun g h => by rw [hl]; exact hg g h
  have hc : ((1 + r : Nat) : Int) = 1 + (r : Int) := by omega
  have hne : i ≠ Z.length := by
    have := k1.len
    simp at this
    omega
  obtain ⟨ρ2, Z3, e3, x3, q5, q6, rfl⟩ := Zcj (m := 1 + r) (body := fun t ρ' Z' => bS ρ' (gNm 5 t ρ' Z') Z6z) (Z := Z2) (ρ := [o0, some (.int c), some (.loc Z.length), some (.int (1 + (r : Int))), some (.loc i), o5, o6])
    (fun ρ Z' => Kp Z.length Z2 Z' ∧ ∃ q5 q6, ρ = [o0, some (.int c), some (.loc Z.length), some (.int (1 + (r : Int))), some (.loc i), q5, q6]) (by unfold Lim; omega) ⟨Kp.refl k2.wel, _, _, rfl⟩
    (fun j hj ρ Z' h => by
      obtain ⟨x,q5,q6,rfl⟩ := h
      obtain ⟨q6', Z'', er, x'⟩ := f_top hgs (by omega) (k := j) x.wel hne (x.getL hne g2) ⟨by omega, by omega⟩ o0 (some (.int c)) (some (.int (1 + (r : Int)))) q6
      exact ⟨[o0, some (.int c), some (.loc Z.length), some (.int (1 + (r : Int))), some (.loc i), some (.int (j : Int)), q6'], Z'', by simp [er], x.trans x', _, _, rfl⟩)
  simp only [Z7t,Z22] at e3
  have r3 : ∀ Z,rngOf [.int (1 + (r : Int))] Z = .ok (itRng 0 (1 + r)) Z := fun Z => by rw [← hc]; exact rngN (n := 1 + r) (by unfold Lim; omega)
  rw [hc] at e2
  obtain ⟨Z4,e4,k4⟩ := Zjs x3.wel
  obtain ⟨Z5,e5,k5⟩ := f_odd k4.wel
  have k := k1.trans (k2.trans (x3.trans (k4.trans k5)))
  refine ⟨some (.loc Z.length),some (.int (1 + (r : Int))),some (.loc i),q5,q6,Z5,fun j hj => ?_,?_⟩
  · rw [k.keep j (by simp; omega) (by omega),List.getElem?_append_left hj]
  · simp [Z5f,ew,e1,e2,e3,r3,e4,e5]
section
variable {o1 o2 o3 o4 o5 o6 : Option Fx.T}
theorem law_0 {Z : Sto} (ns : List Int) : ∃ p1 p2 p3 p4 p5 p6 Z', Zik [some (.frl (ns.map .int)), o1, o2, o3, o4, o5, o6] Z = Zco [some (.frl (ns.map .int)), p1, p2, p3, p4, p5, p6] Z' := by
  obtain ⟨s,hs⟩ : ∃ s,s = some (Fx.T.frl (ns.map .int)) := ⟨_,rfl⟩
  have cu : cutL (ns.map Fx.T.int) none (some 5) = (ns.take 5).map .int := by
    have := Zeq (ns.map Fx.T.int) 5
    rw [List.map_take]
    exact this
  have ad := Z8y Z.length (Z.length + 1) (Z ++ [O.lst ((ns.take 5).map .int)] ++ [O.lst [.int 0]]) (a := (ns.take 5).map .int) (b := [.int 0]) (by simp [getL]) (by simp [getL]) (by simp [Lim]; omega)
  obtain ⟨Z1,hZ1⟩ : ∃ Z1,Z1 = Z ++ [O.lst ((ns.take 5).map .int)] ++ [O.lst [.int 0]] ++ [O.lst ((ns.take 5).map .int ++ [.int 0])] := ⟨_,rfl⟩
  have hl : (Z ++ [O.lst ((ns.take 5).map Fx.T.int)] ++ [O.lst [.int 0]]).length = Z.length + 2 := by simp
  have g1 : getL Z1 (Z.length + 2) = some ((ns.take 5).map .int ++ [.int 0]) := by
    rw [hZ1,← hl]; exact Zk _ _
  obtain ⟨ρ2, Z2, e2, p1, p2, p3, p4, p5, p6, rfl, _⟩ := Z7x (i := Z.length + 2) (ts := (ns.take 5).map .int ++ [.int 0]) (body := fun t ρ' Z' => bS ρ' (gNm 1 t ρ' Z') Z5f) (ρ := [s, o1, o2, o3, o4, o5, o6]) (Z := Z1)
    (fun ρ Z' => ∃ p1 p2 p3 p4 p5 p6, ρ = [s, p1, p2, p3, p4, p5, p6] ∧ getL Z' (Z.length + 2) = some ((ns.take 5).map .int ++ [.int 0])) (by simp [Lim]; omega) (fun ρ Z' h => by obtain ⟨_, _, _, _, _, _, _, h⟩ := h; exact h) ⟨_, _, _, _, _, _, rfl, g1⟩
    (fun x hx ρ Z' h => by
      obtain ⟨p1,p2,p3,p4,p5,p6,rfl,g⟩ := h
      obtain ⟨c,rfl⟩ : ∃ c,x = .int c := by
        rcases List.mem_append.mp hx with h | h
        · obtain ⟨c,_,rfl⟩ := List.mem_map.mp h
          exact ⟨c,rfl⟩
        · exact ⟨0,List.mem_singleton.mp h⟩
      obtain ⟨q2, q3, q4, q5, q6, Z'', hk, e⟩ := Zjt (Z := Z') c s p2 p3 p4 p5 p6
      refine ⟨[s, some (.int c), q2, q3, q4, q5, q6], Z'', by simp [e], _, _, _, _, _, _, rfl, ?_⟩
      have hlt := Zce g
      rw [V3] at g ⊢
      rw [hk _ hlt]; exact g)
  refine ⟨p1,p2,p3,p4,p5,p6,Z2,?_⟩
  have hf : sFor (iAny (eBin gAdd (eSl (eVar 0) oNone (oSome (eC (.int 5)))) (eLst (aCons (eC (.int 0)) aNil)))) (gNm 1) Z5f [s,o1,o2,o3,o4,o5,o6] Z = .nx [s,p1,p2,p3,p4,p5,p6] Z2 := by
    have hi : iAny (eBin gAdd (eSl (eVar 0) oNone (oSome (eC (.int 5)))) (eLst (aCons (eC (.int 0)) aNil))) [s,o1,o2,o3,o4,o5,o6] Z = .ok (itLoc (Z.length + 2)) Z1 := by
      rw [hl] at ad
      rw [hZ1] at g1 ⊢
      generalize (ns.take 5).map Fx.T.int = M at *
      generalize ns.map Fx.T.int = N at *
      simp only [lcat,List.cons_append,List.nil_append] at ad g1 ⊢
      simp [-Z9x,hs,cu,ad,g1]
    rw [Zcd,hi,Z22]
    exact e2
  rw [← hs]
  exact X6 hf rfl
end
theorem law_true (ns : List Int) (hn : ns.length ≤ 63) : ∃ Z,Zgr [.frl (ns.map .int)] [] = .ok (.bl true) Z := by
  obtain ⟨p1,p2,p3,p4,p5,p6,Z1,e1⟩ := law_0 (o1 := none) (o2 := none) (o3 := none) (o4 := none) (o5 := none) (o6 := none) (Z := []) ns
  exact ⟨Z1,Z1k (n := 7) (as := [.frl (ns.map .int)]) (e1.trans rfl)⟩
end Ap
set_option maxHeartbeats 4000000
open PySem PySem.W PySem.Calls PyProof.Rows
set_option maxHeartbeats 0 in
theorem PySem.Challenge.cw_anchorpages_k40_trees_without_sharing_holds : PySem.Challenge.rw_anchorpages_k40_trees_without_sharing.Holds := by
  refine Ap.pre_law ?_
  refine HandSHeadRun.head_any (r := OpenLaw.row PySem.Challenge.rw_anchorpages_k40_trees_without_sharing) (q := view (OpenLaw.row PySem.Challenge.rw_anchorpages_k40_trees_without_sharing).prog [37,38,39,40]) (H := Ap.hk5) (ob := Ap.ob5) (M := 6460) (loose := Ap.nms) (d := HandSHeadRun.topDef (OpenLaw.row PySem.Challenge.rw_anchorpages_k40_trees_without_sharing).prog 40) (kwd := []) Ap.Zi6
    (by kernel_rfl) (fun s => by kernel_rfl) Ap.run5 (by kernel_rfl) (by kernel_rfl) (by kernel_rfl) (by rfl) (by first | assumption | decide +kernel) (by decide +kernel) ⟨rfl,rfl,rfl,rfl,rfl,by decide +kernel⟩ ?hw ?hc
  case hw => w_witness2
  case hc =>
    refine Fx.Ze1 (l := PySem.Challenge.rw_anchorpages_k40_trees_without_sharing) (n := 63) (k := 61) (x := "_law_script") (F := Ap.Zgr) [Ap.Ud, Ap.Uy, Ap.V8] rfl (by decide) (by kernel_rfl) ⟨rfl, by decide, by decide⟩ (fun m hm => ?R) ?F Ap.law_true
    case R =>
      simp only [List.mem_cons,List.not_mem_nil,or_false] at hm
      rcases hm with rfl | rfl | rfl
      · exact Ap.Z37
      · exact Ap.Z3l
      · exact Ap.Z2g
    intro w mg K C
    have e : (HandSHeadRun.topDef (OpenLaw.row PySem.Challenge.rw_anchorpages_k40_trees_without_sharing).prog 40).name = ("law" : PySem.Str) := by kernel_rfl
    rw [e]
    refine ⟨fun m hm => ?_,of_decide_eq_true (C.c.fact 86),_,Ap.Zin C,fun s v => L2.FunD.bindsA (ps := Ap.Zgd) (Ap.Zf8 C) (fun _ _ _ _ _ _ us hl => match us,hl with | [_],_ => rfl) s [v] rfl,fun base B => @Ap.Ziq _ base ⟨Fx.tbY Ap.mks K⟩ w K mg C B⟩
    simp only [List.mem_cons,List.not_mem_nil,or_false] at hm
    rcases hm with rfl | rfl | rfl
    · exact C.c.fact 0
    · exact C.c.fact 1
    · exact C.c.fact 2
#print axioms PySem.Challenge.cw_anchorpages_k40_trees_without_sharing_holds

