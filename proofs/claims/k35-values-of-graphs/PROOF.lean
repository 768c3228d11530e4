import PyProof.Rows.All
import Wide.All
import OpenK.AllK
import Wide.FinOn
import HandS.ForMost
import HandS.IsInst
import HandS.StrMore
import HandS.More
import HandS.Codes
import HandS.Flow
import HandS.Style
import HandS.Walk
import HandS.RaiseMore
import HandS.Defaults
import HandS.Evl
import HandS.ReplaceLit
import HandS.ReplaceList
import HandS.ReplaceDef
import HandS.ForExc
import HandS.CallSlots
import HandS.TupAny
import HandS.Lambda
import HandS.Wide
import HandS.ExcInit
import HandS.ExcField
import HandS.ExcIs
import KE.GoesMore
import KE.KIntText
import PyProof.Rows.StrOr
import PyProof.Rows.Digits
import HandS.Replace
import HandS.Property
import HandS.Zip
import HandS.TupLe
import PyProof.DefCall
import HandS.ClsMeth
import HandS.EndTab
import HandS.HeadWalk
import HandS.Head0
import HandS.Head1
import HandS.Head2
import HandS.HeadEnd
import HandS.HeadHook1
import HandS.HeadHook2
import HandS.HeadHook3
import HandS.HeadHook4
import Wide.Once
import HandS.NoneIn
import HandS.Small
import PyProof.InstEq
import HandS.TupMul
import HandS.Iter
import HandS.ExcOwn
import HandS.SortRule
import HandS.SortInts
import HandS.DictTup
import HandS.TryMany
import PySem.Challenge.RW_anchorpages_k35_values_of_graphs
set_option Elab.async false
set_option linter.all false
set_option maxRecDepth 100000
set_option maxHeartbeats 4000000
namespace Ap
open PySem PySem.Spec PyProof.Rows L2 SX
theorem Ud {H : Hp} {p : Addr} {o : HO} (h : H p = none) : Same H (upd H p o) := fun b x e => by
  rw [upd_ne (ne_of_none e h)]
  exact e
theorem fin {Q : VK} {H H' : Hp} {b b' : Bool} (q : ∀ H', Same H H' → Q (.bl b) H') (sm : Same H H') (e : b' = b) : Q (.bl b') H' := by
  rw [e]; exact q H' sm
def cutL {α : Type} (l : List α) (lo hi : Option Int) : List α := (l.drop (HT.sIx l.length 0 lo)).take (HT.sIx l.length l.length hi - HT.sIx l.length 0 lo)
theorem Zcs (l : List Nat) (lo hi : Option Int) : cutS (S l) lo hi = S (cutL l lo hi) := rfl
theorem Zct {α : Type} (l : List α) (n : Nat) : cutL l none (some (n : Int)) = l.take n := by
  unfold cutL
  rw [HT.sIx_nat,HT.sIx_none,Nat.sub_zero,List.drop_zero]
  by_cases h : n ≤ l.length
  · rw [Nat.min_eq_left h]
  · rw [Nat.min_eq_right (by omega),List.take_of_length_le (Nat.le_refl _),List.take_of_length_le (by omega)]
theorem Z5v {α : Type} (l : List α) (n : Nat) : cutL l (some (n : Int)) none = l.drop n := by
  unfold cutL
  rw [HT.sIx_nat,HT.sIx_none]
  by_cases h : n ≤ l.length
  · rw [Nat.min_eq_left h,List.take_of_length_le (by rw [List.length_drop]; exact Nat.le_refl _)]
  · rw [Nat.min_eq_right (by omega),List.drop_of_length_le (Nat.le_refl _),List.drop_of_length_le (by omega)]
    exact List.take_nil
theorem szS {l : List Nat} (h : l.length ≤ 100000) : (S l).length ≤ sizeLine := by
  rw [S_len]; exact Nat.le_trans h (by decide)
theorem sz (n : Nat) (h : n ≤ 100000) : n ≤ sizeLine := Nat.le_trans h (by decide)
theorem eqV_S (a b : List Nat) : eqV (.str (S a)) (.str (S b)) = decide (b = a) := by
  show (S a == S b) = _
  rw [S_beq_eq]
  by_cases h : a = b
  · rw [decide_eq_true h,decide_eq_true h.symm]
  · rw [decide_eq_false h,decide_eq_false (Ne.symm h)]
def SameX (a : Addr) (H H' : Hp) : Prop := ∀ b o, b ≠ a → H b = some o → H' b = some o
theorem SameX.refl (a : Addr) (H : Hp) : SameX a H H := fun _ _ _ h => h
theorem SameX.of {a : Addr} {H H' : Hp} (s : Same H H') : SameX a H H' := fun b o _ h => s b o h
theorem SameX.trans {a : Addr} {H H1 H2 : Hp} (s : SameX a H H1) (t : SameX a H1 H2) : SameX a H H2 := fun b o n h => t b o n (s b o n h)
theorem SameX.upd {a : Addr} {H H' : Hp} {o : HO} (s : SameX a H H') : SameX a H (L2.upd H' a o) := fun b u n h => by
  rw [upd_ne n]; exact s b u n h
theorem SameX.thn {a : Addr} {H H1 H2 : Hp} (s : SameX a H H1) (t : Same H1 H2) : SameX a H H2 := s.trans (.of t)
theorem SameX.seqL {K : PySem.W.Frag} {a b : Addr} {H H' : Hp} {xs : List V} (s : SameX a H H') (hn : b ≠ a) (h : SqL K H b xs) : SqL K H' b xs := by
  rcases h with (h | ⟨o,h⟩) | h
  · exact .inl (.inl (s _ _ hn h))
  · exact .inl (.inr ⟨o,s _ _ hn h⟩)
  · exact .inr h
def StOk (ns : List Int) : Prop := ns.length = 1 ∨ ns.length = 3
def DrAt (a : Addr) (H : Hp) : Prop := ∃ ns : List Int,H a = some (.lst (ns.map V.int)) ∧ StOk ns
theorem DrAt.same {a : Addr} {H H' : Hp} (d : DrAt a H) (s : Same H H') : DrAt a H' := let ⟨ns, h, k⟩ := d; ⟨ns, s _ _ h, k⟩
theorem DrAt.ne {a p : Addr} {H : Hp} (d : DrAt a H) (h : H p = none) : p ≠ a := fun e => by
  obtain ⟨ns,ha,_⟩ := d
  rw [e,ha] at h; cases h
theorem DrAt.upd {a p : Addr} {H : Hp} {o : HO} (d : DrAt a H) (h : p ≠ a) : DrAt a (upd H p o) := by
  obtain ⟨ns,ha,k⟩ := d
  exact ⟨ns,by rw [upd_ne (Ne.symm h)]; exact ha,k⟩
theorem SameX.new {a p : Addr} {H H' : Hp} {o : HO} (s : SameX a H H') (h : H' p = none) : SameX a H (L2.upd H' p o) := s.thn (Ud h)
theorem SameX.mut {a p : Addr} {H H' : Hp} {o : HO} (s : SameX a H H') (h : H p = none) : SameX a H (L2.upd H' p o) := fun b u n e => by
  rw [upd_ne (ne_of_none e h)]; exact s b u n e
end Ap
set_option maxHeartbeats 4000000
namespace Ap
open PySem PySem.Spec PyProof.Rows L2 SX
structure GOk (P : Program) (w : World) (K : PySem.W.Frag) (mg : Str → Option Value) (base : Heap) (C : CXT) (k : Nat)
    (f : Addr) (fd : FuncData) (ps : List Str) (sp : Sp) : Prop where
  len : ∀ vs H Q E,sp vs H Q E → vs.length = ps.length
  run : ∀ (A : Around) (outer : List Env) (s : Shared) (H : Hp) (as : Args) (us : List Value) (vs : List V) (Q : VK) (E : XK),
    Room k A → A.guards = some [] → Env0 P w K mg base A outer s H → BindsTo s fd as (ps.zip us) → Vals vs us →
    sp vs H Q E → codeAny (model P w) A (.call (.ref f) as) (CR C outer P w H s Q E) s
theorem GOk.of {P : Program} {w : World} {K : PySem.W.Frag} {mg : Str → Option Value} {base : Heap} {C : CXT} {k : Nat}
    {f : Addr} {fd : FuncData} {ps : List Str} {sp : Sp} (F : FnOk P w K mg base C k f fd ps sp) : GOk P w K mg base C k f fd ps sp :=
  ⟨F.len,fun A outer s H as us vs Q E r _ => F.run A outer s H as us vs Q E r⟩
end Ap
set_option maxHeartbeats 4000000
namespace Ap
open PySem PySem.Spec PyProof.Rows L2 SX
def repL (n : Nat) (l : List Nat) : List Nat := (List.replicate n l).flatten
theorem Z5w (a : Array Nat) : ∀ (n : Nat) (b : Array Nat),((List.replicate n a).foldl (· ++ ·) b).toList = b.toList ++ repL n a.toList
  | 0,b => by simp [repL]
  | n + 1,b => by
    rw [List.replicate_succ,List.foldl_cons,Z5w a n]
    unfold repL
    rw [List.replicate_succ,List.flatten_cons,Array.toList_append,List.append_assoc]
theorem Z9k (n : Nat) : repL n [] = [] := by
  induction n with
  | zero => rfl
  | succ n ih => unfold repL at *; rw [List.replicate_succ,List.flatten_cons,ih]; rfl
theorem Z9l (n : Nat) (l : List Nat) : (repL n l).length = n * l.length := by
  induction n with
  | zero => simp [repL]
  | succ n ih => unfold repL at *; rw [List.replicate_succ,List.flatten_cons,List.length_append,ih,Nat.succ_mul,Nat.add_comm]
def rMulS : R2 := fun x y H Q => ∃ (l : List Nat) (k : Int),x = .str (S l) ∧ y = .int k ∧ -100000 ≤ k ∧ k ≤ 100000 ∧ l.length * k.toNat ≤ 100000 ∧ Q (.str (S (repL k.toNat l))) H
theorem Z72 {X : Cx} : OpR X (binaryOp .Mult) rMulS := by
  intro pins s σ H x y v u Q I rx ry h
  obtain ⟨l,k,rfl,rfl,k0,k1,hz,q⟩ := h
  obtain ⟨t,rfl⟩ := rx
  obtain ⟨t2,rfl⟩ := ry
  have hl : (S l).length = l.length := S_len l
  refine PySem.P.mul_str ?_ (fun h1 h2 => ?_) (fun h1 h2 => ?_) ?_
  · rw [decide_eq_false (by omega),decide_eq_false (by omega)]; rfl
  · rw [hl]
    obtain ⟨m,rfl⟩ : ∃ m : Nat,k = (m : Int) := ⟨k.toNat,by omega⟩
    have hm : 0 < m := by omega
    have : l.length ≤ 100000 := by
      have : l.length * 1 ≤ l.length * m := Nat.mul_le_mul_left _ hm
      simp only [Int.toNat_natCast] at hz
      omega
    have h3 : (100000 : Int) ≤ (2 ^ 63 - 1) / (m : Int) := by
      rw [Int.le_ediv_iff_mul_le (by omega)]
      have : (m : Int) ≤ 100000 := k1
      omega
    omega
  · rw [hl]
    unfold Builtin.Str.tooLong
    exact decide_eq_false (by have := sizeLine_eq; omega)
  · by_cases h1 : k < 1
    · rw [if_pos h1]
      have e : k.toNat = 0 := by omega
      rw [e] at q
      exact ⟨by decide,⟨.str (S []),H,I.tok _,⟨_,rfl⟩,q⟩⟩
    · rw [if_neg h1]
      by_cases h2 : (k == 1 || (S l).length == 0) = true
      · rw [if_pos h2]
        have e : repL k.toNat l = l := by
          rw [hl,Bool.or_eq_true,beq_iff_eq,beq_iff_eq] at h2
          rcases h2 with rfl | h2
          · show repL 1 l = l
            simp [repL]
          · rw [List.length_eq_zero_iff.mp h2]; exact Z9k _
        rw [e] at q
        exact ⟨.str (S l),H,I,⟨t,rfl⟩,q⟩
      · rw [if_neg h2]
        have e : (⟨(List.replicate k.toNat (S l).cps).foldl (· ++ ·) #[]⟩ : Str) = S (repL k.toNat l) := by
          have := Z5w (S l).cps k.toNat #[]
          rw [show (S l).cps.toList = l from rfl] at this
          show Str.mk _ = Str.mk _
          congr 1
          apply Array.ext'
          rw [this]; rfl
        rw [e]
        refine ⟨?_,⟨.str _,H,I.tok _,⟨_,rfl⟩,q⟩⟩
        rw [S_len,Z9l,Nat.mul_comm]
        have := sizeLine_eq
        omega
def IteS (x : Str) : It :=
  ⟨fun i _ => i < x.cps.size, fun i H v H' => ∃ T c, v = .ref T ∧ H T = none ∧ H' = upd H T (.tup [.int (i : Nat), .str ⟨#[c]⟩]) ∧ x.cps[i]? = some c, fun i _ => i = x.cps.size⟩
theorem Z45 {P : Program} {w : World} {A : Around} (hh : A.handled = none) (it : Addr) (x : Str) (t : Tok) :
    Draws P w A it [it] x.cps.size (fun i v => ∃ c u,x.cps[i]? = some c ∧ v = .str ⟨#[c]⟩ u) (fun i h => h.IsStrIter it (strIterType x) x t i) := by
  unfold strIterType
  split
  · exact Draws.strAscii hh it x t
  · exact Draws.strWide hh it x t
theorem Z73 {P : Program} {w : World} {K : PySem.W.Frag} {elts : List Expr} {kk : Nat} {tpos : Pos} (x : Str) (t : Tok) (e it : Addr) :
    Turn P w K (.Tuple elts kk tpos) (IteS x) [e,it] e (fun i h => (∃ old,IsEnum h e it ((i : Nat) : Int) old) ∧ h.IsStrIter it (strIterType x) x t i ∧ e ≠ it) where
  mem := List.mem_cons_self
  obj := by
    intro i h ⟨⟨old,he⟩,⟨o,ho,hc,hd⟩,_⟩ b hb
    rcases List.mem_cons.mp hb with rfl | hb
    · exact ⟨_,he,fun v q => nomatch q⟩
    · cases List.mem_singleton.mp hb
      exact ⟨o,ho,fun v q => by rw [hd] at q; cases q⟩
  keep := by
    intro i h h' ⟨⟨old, he⟩, ⟨o, ho, r⟩, hne⟩ k
    exact ⟨⟨old,k e List.mem_cons_self _ he⟩,⟨o,k it (List.mem_cons_of_mem _ List.mem_cons_self) o ho,r⟩,hne⟩
  item := by
    intro X hP hw hK hc i pins s σ H E I hf ⟨⟨old,he⟩,hit,hne⟩ hg
    cases hP; cases hw; cases hK
    have le : e < s.heap.objs.size := Heap.lt_size he
    have li : it < s.heap.objs.size := Heap.lt_size hit.choose_spec.1
    refine wpAny_pyNext_enum_itemD (Z45 (A := X.A.in1) (I.ok.hd hc) it x t) he hit hg hne (by simpa using hne) ?_
    rintro v h' tk ⟨c, u, hx, rfl⟩ ho st hT hsz hk
    refine ⟨_, rfl, wpAny_letOwnedTupleGo_enum (s := { s with heap := h', toks := tk + 1 }) ho ?_⟩
    intro h'' he' sb
    have hT2 := (sb.2 s.heap.objs.size (Nat.ne_of_gt le)).trans hT
    have new : ObjOk X.prog X.w (upd H s.heap.objs.size (.tup [.int (i : Nat), .str ⟨#[c]⟩])) h'' s.heap.objs.size (.tup [.int (i : Nat), .str ⟨#[c]⟩]) :=
      ⟨by show 2 ≤ sizeLine; decide,[.int i tk,.str ⟨#[c]⟩ u],.cons ⟨_,rfl⟩ (.cons ⟨_,rfl⟩ .nil),⟨_,hT2,rfl,_,rfl⟩⟩
    have I1 := I.turnedNew (t' := tk + 1) (ch := [e, it]) (fun b ob hb q => (sb.2 b (fun z => hb (by simp [z]))).trans (hk b ob (fun z => hb (by simp [z])) (fun z => hb (by simp [z])) q)) hf (Nat.le_refl _) new
    refine ⟨.ref s.heap.objs.size,_,I1,rfl,⟨_,c,rfl,I.hok.fresh (Nat.le_refl _),rfl,hx⟩,⟨⟨.str ⟨#[c]⟩ u,?_⟩,?_,hne⟩,?_⟩
    · rw [show ((i + 1 : Nat) : Int) = (i : Int) + 1 by omega]; exact he'
    · obtain ⟨o,o1,o2⟩ := st
      exact ⟨o,(sb.2 it (Ne.symm hne)).trans o1,o2⟩
    · intro b hb
      have : b < s.heap.objs.size := by
        rcases List.mem_cons.mp hb with rfl | hb
        · exact le
        · cases List.mem_singleton.mp hb; exact li
      rw [upd_ne (Nat.ne_of_lt this)]
      exact (hf b hb).1
  done := by
    intro X hP hw hK hc i pins s σ H E I hf ⟨⟨old,he⟩,hit,hne⟩ hg
    cases hP; cases hw; cases hK
    cases (show i = x.cps.size from hg)
    obtain ⟨f0,f1,f2,f3,f4,f5⟩ := hf it (List.mem_cons_of_mem _ List.mem_cons_self)
    refine wpAny_pyNext_enum_endD (Z45 (A := X.A.in1) (I.ok.hd hc) it x t) he hit ?_
    intro h' eb
    exact ⟨rfl, I.turned (t' := s.toks) (fun b o hb q => eb b o hb q) f0 f1 f3 f4 f5⟩
  self := by
    intro A i s Q E ⟨⟨_,he⟩,_⟩ h
    exact wpAny_pyIter_enum he h
def iEnumS (ta : TA) : TI := fun σ H R => ta σ H fun vs H1 => ∃ x : Str,vs = [.str x] ∧ R (IteS x) H1
theorem Z9m {X : Cx} {e : Expr} {ta : TA} {p pos tpos : Pos} {elts : List Expr} {kk : Nat} (hg : Gl X "enumerate") (hm : X.mg "enumerate" = none)
    (ha : PA X [e] ta) (hs : starEach [e] X.env = [(false,eval e X.env)] := by rfl) :
    PI X (.Tuple elts kk tpos) (.Call (.Name "enumerate" p) [e] [] pos) (iEnumS ta) := by
  constructor
  intro pins s σ H R I h
  refine Call_ (ld_blt I hg hm boot_enumerate (PyProof.Rows.callWith_type1 ?_ hs rfl))
  refine thn (ha.run pos pins s σ H _ I h) ?_
  rintro us s1 ⟨vs,H1,I1,r1,x,rfl,q⟩
  obtain ⟨u,rfl,t,rfl⟩ := vals1 r1
  refine call_enumerate_str ?_
  intro h' he hit hsz hk
  refine wpAny_pyIter_enum he ?_
  have I2 : Inv X pins σ H1 { s1 with heap := h' } := I1.kept (t' := s1.toks) hk
  refine ⟨s1.heap.objs.size + 1,[s1.heap.objs.size + 1,s1.heap.objs.size],_,_,H1,rfl,I2,Z73 x t _ _,⟨⟨.none,he⟩,hit,Nat.succ_ne_self _⟩,?_,q⟩
  intro b hb
  have hle : s1.heap.objs.size ≤ b := by
    rcases List.mem_cons.mp hb with rfl | hb
    · exact Nat.le_add_right _ _
    · cases List.mem_singleton.mp hb; exact Nat.le_refl _
  exact I1.fpOk hle (I1.hok.fresh hle)
end Ap
set_option maxHeartbeats 4000000
namespace Ap
open PySem PySem.Spec PyProof.Rows L2 SX
end Ap
set_option maxHeartbeats 4000000
namespace Ap
open PySem PySem.Spec PyProof.Rows L2 SX
def lst (c : Nat) (l : List Nat) : List Nat := l.drop (l.takeWhile (· == c)).length
def dec (i : Int) : List Nat := (toString i : Str).cps.toList
theorem Zcu (i : Int) : (toString i : Str) = S (dec i) := (S_tl _).symm
theorem Zcv {P : Program} {w : World} {K : PySem.W.Frag} {mg : Str → Option Value} {base : Heap} {x qual : Str} {params : Arguments} {body : List Stmt} {scope : Scope} {dvs : List V} {kws : List (Str × V)} {f : Addr} {fd : FuncData}
    {N ps : List Str} {k : Nat} {sp : Sp} (F : FunD K x qual params body scope dvs kws f fd) (S : FnScope N ps scope) (len : ∀ vs H Q E,sp vs H Q E → vs.length = ps.length)
    (hbody : ∀ (cdv : Value) (A : Around) (outer : List Env) (s : Shared) (H : Hp) (vs : List V) (Q : VK) (E : XK),Room k (A.deeper (envOfC qual scope s.heap.objs.size f cdv)) → sp vs H Q E →
      ∃ t, PSs (cxOf CX0 P w K mg base N qual scope f cdv A outer s H E).nox body t ∧ t { nx := fun _ H' => Q .non H', rt := Q } (start N vs) H) : FnOk P w K mg base CX0 (k + 1) f fd ps sp :=
  F.ok S len fun cdv A outer s H vs Q E hr h => let ⟨t,p,q⟩ := hbody cdv A outer s H vs Q E hr h; ⟨t,p.nox,q⟩
def LsAll (H : Hp) : List Addr → List (List V) → Prop
  | [],[] => True
  | q :: qs,y :: ys => H q = some (.lst y) ∧ LsAll H qs ys
  | _,_ => False
theorem LsAll.to {H H' : Hp} : ∀ {qs : List Addr} {yss : List (List V)}, LsAll H qs yss → (∀ q y, q ∈ qs → H q = some (.lst y) → H' q = some (.lst y)) → LsAll H' qs yss
  | [],[],_,_ => trivial
  | q :: qs, y :: ys, h, k => ⟨k q y List.mem_cons_self h.1, h.2.to fun q' y' hq => k q' y' (List.mem_cons_of_mem _ hq)⟩
  | [],_ :: _,h,_ => h
  | _ :: _,[],h,_ => h
theorem LsAll.same {H H' : Hp} {qs : List Addr} {yss : List (List V)} (h : LsAll H qs yss) (s : Same H H') : LsAll H' qs yss := h.to fun q y _ e => s q _ e
theorem LsAll.ne {H : Hp} {p : Addr} (hp : H p = none) : ∀ {qs : List Addr} {yss : List (List V)},LsAll H qs yss → ∀ q ∈ qs,q ≠ p
  | q :: qs,y :: ys,h,x,hx => by
    rcases List.mem_cons.mp hx with rfl | hx
    · intro e
      have h1 := h.1
      rw [e,hp] at h1
      cases h1
    · exact h.2.ne hp x hx
  | [],_,_,_,hx => nomatch hx
  | _ :: _,[],h,_,_ => h.elim
theorem LsAll.len {H : Hp} : ∀ {qs : List Addr} {yss : List (List V)},LsAll H qs yss → qs.length = yss.length
  | [],[],_ => rfl
  | _ :: _,_ :: _,h => by rw [List.length_cons,List.length_cons,h.2.len]
  | [],_ :: _,h => h.elim
  | _ :: _,[],h => h.elim
theorem LsAll.get {H : Hp} : ∀ {qs : List Addr} {yss : List (List V)} {i : Nat} {x : V},LsAll H qs yss → (qs.map V.ref)[i]? = some x → ∃ q y,x = .ref q ∧ yss[i]? = some y ∧ H q = some (.lst y)
  | q :: qs,y :: ys,0,x,h,e => ⟨q,y,(Option.some.inj e).symm,rfl,h.1⟩
  | q :: qs,y :: ys,i + 1,x,h,e => by
    obtain ⟨q', y', e1, e2, e3⟩ := LsAll.get (i := i) h.2 (by simpa using e)
    exact ⟨q', y', e1, by simpa using e2, e3⟩
  | [],[],i,x,h,e => by simp at e
  | [],_ :: _,_,_,h,_ => h.elim
  | _ :: _,[],_,_,h,_ => h.elim
def cont (H : Hp) : V → List V
  | .ref q => match H q with
    | some (.lst y) => y
    | _ => []
  | _ => []
theorem LsAll.cont {H : Hp} {α : Type} (f : List V → α) : ∀ {qs : List Addr} {yss : List (List V)},LsAll H qs yss → (qs.map V.ref).map (fun x => f (cont H x)) = yss.map f
  | [],[],_ => rfl
  | q :: qs,y :: ys,h => by
    rw [List.map_cons,List.map_cons,List.map_cons,h.2.cont f]
    have e : Ap.cont H (.ref q) = y := by
      show (match H q with
        | some (.lst y) => y
        | _ => []) = y
      rw [h.1]
    rw [e]
  | [],_ :: _,h => h.elim
  | _ :: _,[],h => h.elim
def EvLL (te : TE) (σ : L2.St) (H : Hp) (yss : List (List V)) : Prop :=
  ∀ H1,Same H H1 → ∀ Q : VK,(∀ p qs H2,H1 p = none → Same H1 H2 → H2 p = some (.lst (qs.map V.ref)) → LsAll H2 qs yss → Q (.ref p) H2) → te σ H1 Q
theorem EvLL.is {te : TE} {σ : L2.St} {H : Hp} {a b : List (List V)} (h : EvLL te σ H a) (e : a = b) : EvLL te σ H b := e ▸ h
end Ap
set_option maxHeartbeats 4000000
namespace Ap
open PySem PySem.Spec PyProof.Rows L2 SX
def rOr (r1 r2 : R2) : R2 := fun x y H Q => r1 x y H Q ∨ r2 x y H Q
def rOrC (r1 r2 : List V → Hp → VK → Prop) : List V → Hp → VK → Prop := fun xs H Q => r1 xs H Q ∨ r2 xs H Q
theorem Z0j {X : Cx} {f : Value} {r1 r2 : List V → Hp → VK → Prop} (h1 : CallR X f r1) (h2 : CallR X f r2) : CallR X f (rOrC r1 r2) := fun pins s σ H xs us Q I rs h =>
  h.elim (h1 pins s σ H xs us Q I rs) (h2 pins s σ H xs us Q I rs)
open PySem.Builtin PySem.Builtin.Str in
theorem Zbl (x : Str) (t : Tok) (a : Addr) : ∃ other : Sem Fin,«str.startswith» ⟨[.str x t,.ref a],[]⟩ = (do
    if let some p ← asStr? (.ref a) then return ← ret (.bool (0 + p.length ≤ min x.length x.length && subAt x p 0))
    if ← isInstance (.ref a) (.type "tuple") then
      rule s!"str.startswith.tuple"
      let some items ← seqItems? (.ref a) | unsupported s!"internal:str.startswith"
      for y in items do
        match ← asStr? y with
        | some p => if 0 + p.length ≤ min x.length x.length && subAt x p 0 then return ← ret (.bool true)
        | none =>
          rule s!"str.startswith.tuple-item-not-str"
          raiseError "TypeError" s!"tuple for startswith must only contain str, not {← typeNameOf y}"
      return ← ret (.bool false)
    other) := ⟨_,rfl⟩
open PySem.Builtin PySem.Builtin.Str in
theorem Z9n (x : Str) (t : Tok) (a : Addr) (l : List (Str × Tok)) :
    Meets («str.startswith» ⟨[.str x t, .ref a], []⟩) (fun _ R s => (∃ o n, s.heap.get? a = some o ∧ o.cls = .type "tuple" ∧ o.data = .seq (strValues l).toArray n) ∧ R (.ok (.ret (.bool (l.any fun p => Txt.startswith x p.1)))) s) := by
  obtain ⟨other,htree⟩ := Zbl x t a
  intro prog w A R s ⟨⟨o,n,ho,hc,hdata⟩,hpost⟩
  rw [htree]
  refine wpAny_bind ?_
  unfold asStr?
  refine wpAny_bind (wpAny_load ho ?_)
  rw [hdata]
  refine wpAny_pure ?_
  refine wpAny_bind (wpAny_isInstance (T := "tuple") ⟨o, ho, hc⟩ isSubtype_tuple_tuple ?_)
  refine wpAny_bind (wpAny_rule ?_)
  refine wpAny_bind (wpAny_seqItems ho hdata ?_)
  refine wpAny_bind ?_
  rw [← Array.forIn_toList,List.toList_toArray]
  refine wpAny_forIn_list _ (fun rest r s' => r.1 = none ∧ s' = s ∧ ∃ m : List (Str × Tok), rest = strValues m ∧ (l.any fun p => Txt.startswith x p.1) = (m.any fun p => Txt.startswith x p.1)) _ ?_ ?_ _ _ ⟨rfl, rfl, l, rfl, rfl⟩
  · rintro v rest r s' ⟨hr, rfl, m, hm, e⟩
    match m,hm with
    | (y,u) :: m,hm =>
      cases hm
      refine wpAny_bind (wpAny_pure ?_)
      cases hb : Txt.startswith x y
      · have hb' := hb
        unfold Txt.startswith at hb'
        simp only [Nat.min_self, hb']
        refine wpAny_pure ⟨rfl,rfl,m,rfl,?_⟩
        rw [e,List.any_cons,hb,Bool.false_or]
      · have hb' := hb
        unfold Txt.startswith at hb'
        simp only [Nat.min_self, hb']
        rw [if_pos trivial]
        refine wpAny_bind (wpAny_pure (wpAny_pure (wpAny_pure ?_)))
        rw [e,List.any_cons,hb,Bool.true_or] at hpost
        exact hpost
  · rintro ⟨r1, r2⟩ s' ⟨hr, rfl, m, hm, e⟩
    simp only at hr
    subst hr
    match m,hm with
    | [],_ =>
      rw [e] at hpost
      exact wpAny_pure hpost
abbrev rSwT (K : PySem.W.Frag) : V → List V → Hp → VK → Prop := fun x xs H Q => ∃ (a : Str) (p : Addr) (ys : List Str),x = .str a ∧ xs = [.ref p] ∧ SqT K H p (ys.map V.str) ∧ Q (.bl (ys.any fun y => Txt.startswith a y)) H
theorem Z2o {X : Cx} : MtR X "str.startswith" (rSwT X.K) := by
  intro pins s σ H x xs v us Q I rx rs h
  obtain ⟨a,p,ys,rfl,rfl,hp,q⟩ := h
  obtain ⟨t,rfl⟩ := rx
  cases rs with
  | cons r1 rs =>
    cases rs
    cases r1
    obtain ⟨its,r,ht,_⟩ := I.tuple hp
    obtain ⟨l,hv,hy⟩ := strsAre_values (strs_of_vals r)
    obtain ⟨o,ho,hc,n,hd⟩ := ht
    refine call_meets F.slot_str_startswith (typeIs_str _ _ _) F.entry_str_startswith (F.args_str_startswith_2 _ _) (Z9n a t p l) ⟨⟨o,n,ho,hc,by rw [hd,hv]⟩,.bl (ys.any fun y => Txt.startswith a y),H,I,?_,q⟩
    rw [← hy,List.any_map]
    rfl
end Ap
set_option maxHeartbeats 4000000
namespace Fx
class Tb where
  T : List (PySem.Addr × PySem.Str)
instance (priority := low) tb0 : Tb := ⟨[]⟩
open PySem PySem.Spec PyProof.Rows L2 SX Ap
variable [Tb]
inductive T where
  | non | bl (b : Bool) | int (i : Int) | str (l : List Nat) | tup (ts : List T) | loc (i : Nat) | frl (ts : List T) | ref (a : Addr) | ty (n : String) | lam (f c : Addr) (q : PySem.Str) (J : List Addr → Hp → Prop) | ktp (ts : List T)
inductive O where
  | lst (ts : List T) | dk (kvs : List (Key × T)) | dt (kvs : List (List Key × T)) | ins (C : String) (fs : List (String × T))
abbrev Sto := List O
structure Ex where
  cls : PySem.Str
  fs : List (PySem.Str × T)
inductive R (α : Type) where
  | ok (a : α) (S : Sto) | exc (x : Ex) (S : Sto) | stuck
def R.bind {α β : Type} : R α → (α → Sto → R β) → R β
  | .ok a S,k => k a S
  | .exc x S,_ => .exc x S
  | .stuck,_ => .stuck
def lift {α : Type} : Option (α × Sto) → R α
  | some (a,S) => .ok a S
  | none => .stuck
@[simp] theorem Yk {α β : Type} (a : α) (S : Sto) (k : α → Sto → R β) : (R.ok a S).bind k = k a S := (rfl)
@[simp] theorem bind_exc {α β : Type} (x : Ex) (S : Sto) (k : α → Sto → R β) : (R.exc x S).bind k = .exc x S := (rfl)
@[simp] theorem Zcr {α β : Type} (k : α → Sto → R β) : (R.stuck (α := α)).bind k = .stuck := (rfl)
@[simp] theorem Zcw {α : Type} (a : α) (S : Sto) : lift (some (a,S)) = .ok a S := (rfl)
@[simp] theorem Zcx {α : Type} : lift (none : Option (α × Sto)) = .stuck := (rfl)
def FrL (K : PySem.W.Frag) (H : Hp) (a : Addr) (xs : List V) : Prop :=
  (∃ o,H a = some (.frz o (.lst xs))) ∨
    ∃ (o : Obj) (its : Array Value) (n : Nat), K.lookup a = some o ∧ o.cls = .type "list" ∧ o.dict = none ∧ o.data = .seq its n ∧ its.size ≤ sizeLine ∧ Vals xs its.toList
theorem FrL.sq {K : PySem.W.Frag} {H : Hp} {a : Addr} {xs : List V} (h : FrL K H a xs) : SqL K H a xs := h.elim (fun ⟨o,e⟩ => .inl (.inr ⟨o,e⟩)) .inr
def HMut : HO → Prop
  | .lst _ => True | .dK _ => True | .dT _ => True | .ins _ _ _ => True | _ => False
structure Gr (ι ι' : List Addr) (H H' : Hp) : Prop where
  pre : ∀ (i : Nat) a, ι[i]? = some a → ι'[i]? = some a
  tup : ∀ a xs, H a = some (.tup xs) → H' a = some (.tup xs)
  frz : ∀ a o u, H a = some (.frz o u) → H' a = some (.frz o u)
  xd : ∀ a fs, H a = some (.xd fs) → H' a = some (.xd fs)
  ext : ∀ a φ, H a = some (.ext φ) → H' a = some (.ext φ)
  tab : LamX.Tabs Tb.T H → LamX.Tabs Tb.T H'
  fre : ∀ a u, a ∈ ι' → H a = some u → HMut u → a ∈ ι
  out : ∀ a u, H a = some u → HMut u → a ∉ ι → H' a = some u
theorem Gr.refl {ι : List Addr} {H : Hp} : Gr ι ι H H := ⟨fun _ _ h => h,fun _ _ h => h,fun _ _ _ h => h,fun _ _ h => h,fun _ _ h => h,fun h => h,fun _ _ h _ _ => h,fun _ _ h _ _ => h⟩
theorem Gr.trans {ι ι1 ι2 : List Addr} {H H1 H2 : Hp} (a : Gr ι ι1 H H1) (b : Gr ι1 ι2 H1 H2) : Gr ι ι2 H H2 :=
  ⟨fun i x h => b.pre i x (a.pre i x h),fun x xs h => b.tup x xs (a.tup x xs h),fun x o u h => b.frz x o u (a.frz x o u h),fun x fs h => b.xd x fs (a.xd x fs h),fun x φ h => b.ext x φ (a.ext x φ h),fun h => b.tab (a.tab h),fun x u hx h m => Classical.byContradiction fun n => n (a.fre x u (b.fre x u hx (a.out x u h m n) m) h m),fun x u h m n => b.out x u (a.out x u h m n) m fun hx => n (a.fre x u hx h m)⟩
theorem Gr.same {ι : List Addr} {H H' : Hp} (s : Same H H') : Gr ι ι H H' := ⟨fun _ _ h => h, fun _ _ h => s _ _ h, fun _ _ _ h => s _ _ h, fun _ _ h => s _ _ h, fun _ _ h => s _ _ h, fun h => h.ext s, fun _ _ h _ _ => h, fun _ _ h _ _ => s _ _ h⟩
mutual
inductive Rep (K : PySem.W.Frag) (ι : List Addr) (H : Hp) : V → T → Prop
  | non : Rep K ι H .non .non
  | bl (b : Bool) : Rep K ι H (.bl b) (.bl b)
  | int (i : Int) : Rep K ι H (.int i) (.int i)
  | str (l : List Nat) : Rep K ι H (.str (S l)) (.str l)
  | tup {a : Addr} {vs : List V} {ts : List T} : SqT K H a vs → Reps K ι H vs ts → Rep K ι H (.ref a) (.tup ts)
  | loc {i : Nat} {a : Addr} : ι[i]? = some a → Rep K ι H (.ref a) (.loc i)
  | frl {a : Addr} {vs : List V} {ts : List T} : FrL K H a vs → Reps K ι H vs ts → Rep K ι H (.ref a) (.frl ts)
  | ref (a : Addr) : Rep K ι H (.ref a) (.ref a)
  | ty (n : String) : Rep K ι H (.ty n) (.ty n)
  | lam {f c : Addr} {q : PySem.Str} {J : List Addr → Hp → Prop} : H c = some (LamX.CodeO c q) → (∀ ι' H', Gr ι ι' H H' → J ι' H') → Rep K ι H (.ref f) (.lam f c q J)
  | ktp {a : Addr} {vs : List V} {ts : List T} : H a = some (.tup vs) → Reps K ι H vs ts → Rep K ι H (.ref a) (.ktp ts)
inductive Reps (K : PySem.W.Frag) (ι : List Addr) (H : Hp) : List V → List T → Prop
  | nil : Reps K ι H [] []
  | cons {v : V} {vs : List V} {t : T} {ts : List T} : Rep K ι H v t → Reps K ι H vs ts → Reps K ι H (v :: vs) (t :: ts)
end
theorem SqT.gr {K : PySem.W.Frag} {ι ι' : List Addr} {H H' : Hp} {a : Addr} {xs : List V} (g : Gr ι ι' H H') (h : SqT K H a xs) : SqT K H' a xs := by
  rcases h with (h | ⟨o,h⟩) | h
  · exact .inl (.inl (g.tup _ _ h))
  · exact .inl (.inr ⟨o,g.frz _ _ _ h⟩)
  · exact .inr h
theorem FrL.gr {K : PySem.W.Frag} {ι ι' : List Addr} {H H' : Hp} {a : Addr} {xs : List V} (g : Gr ι ι' H H') (h : FrL K H a xs) : FrL K H' a xs := by
  rcases h with ⟨o,h⟩ | h
  · exact .inl ⟨o,g.frz _ _ _ h⟩
  · exact .inr h
mutual
theorem Rep.gr {K : PySem.W.Frag} {ι ι' : List Addr} {H H' : Hp} (g : Gr ι ι' H H') : ∀ {v : V} {t : T}, Rep K ι H v t → Rep K ι' H' v t
  | _,_,.non => .non
  | _,_,.bl b => .bl b
  | _,_,.int i => .int i
  | _,_,.str l => .str l
  | _,_,.tup h r => .tup (SqT.gr g h) (Reps.gr g r)
  | _,_,.loc h => .loc (g.pre _ _ h)
  | _,_,.frl h r => .frl (h.gr g) (Reps.gr g r)
  | _,_,.ref a => .ref a
  | _,_,.ty n => .ty n
  | _, _, .lam h j => .lam (g.ext _ _ h) fun ι' H' g' => j ι' H' (g.trans g')
  | _,_,.ktp h r => .ktp (g.tup _ _ h) (Reps.gr g r)
theorem Reps.gr {K : PySem.W.Frag} {ι ι' : List Addr} {H H' : Hp} (g : Gr ι ι' H H') : ∀ {vs : List V} {ts : List T}, Reps K ι H vs ts → Reps K ι' H' vs ts
  | _,_,.nil => .nil
  | _,_,.cons h r => .cons (Rep.gr g h) (Reps.gr g r)
end
section
variable {K : PySem.W.Frag} {ι : List Addr} {H : Hp}
theorem Reps.length : ∀ {vs : List V} {ts : List T},Reps K ι H vs ts → vs.length = ts.length
  | _,_,.nil => rfl
  | _,_,.cons _ r => congrArg (· + 1) r.length
theorem Reps.get : ∀ {vs : List V} {ts : List T} {i : Nat} {t : T},Reps K ι H vs ts → ts[i]? = some t → ∃ v,vs[i]? = some v ∧ Rep K ι H v t
  | _,_,_,_,.nil,e => by simp at e
  | _,_,0,_,.cons r _,e => by simp at e; subst e; exact ⟨_,rfl,r⟩
  | _,_,i + 1,t,.cons _ q,e => by
    obtain ⟨v,h1,h2⟩ := Reps.get (i := i) (t := t) q (by simpa using e)
    exact ⟨v,by simpa using h1,h2⟩
theorem Reps.append : ∀ {vs ws : List V} {ts us : List T},Reps K ι H vs ts → Reps K ι H ws us → Reps K ι H (vs ++ ws) (ts ++ us)
  | _,_,_,_,.nil,s => s
  | _,_,_,_,.cons r t,s => .cons r (Reps.append t s)
theorem Reps.take : ∀ {vs : List V} {ts : List T} (n : Nat),Reps K ι H vs ts → Reps K ι H (vs.take n) (ts.take n)
  | _,_,0,_ => by simpa using Reps.nil
  | _,_,_ + 1,.nil => by simpa using Reps.nil
  | _,_,n + 1,.cons r t => .cons r (Reps.take n t)
theorem Reps.drop : ∀ {vs : List V} {ts : List T} (n : Nat),Reps K ι H vs ts → Reps K ι H (vs.drop n) (ts.drop n)
  | _,_,0,r => r
  | _,_,_ + 1,.nil => .nil
  | _,_,n + 1,.cons _ t => Reps.drop n t
theorem Reps.set {v : V} {t : T} (r : Rep K ι H v t) : ∀ {vs : List V} {ts : List T} (i : Nat),Reps K ι H vs ts → Reps K ι H (vs.set i v) (ts.set i t)
  | _,_,_,.nil => .nil
  | _,_,0,.cons _ q => .cons r q
  | _,_,i + 1,.cons p q => .cons p (Reps.set r i q)
theorem Reps.reverse : ∀ {vs : List V} {ts : List T},Reps K ι H vs ts → Reps K ι H vs.reverse ts.reverse
  | _,_,.nil => .nil
  | _,_,.cons r t => by
    rw [List.reverse_cons,List.reverse_cons]
    exact (Reps.reverse t).append (.cons r .nil)
end
inductive RepP {κ : Type} (K : PySem.W.Frag) (ι : List Addr) (H : Hp) : List (κ × V) → List (κ × T) → Prop
  | nil : RepP K ι H [] []
  | cons {k : κ} {v : V} {vs : List (κ × V)} {t : T} {ts : List (κ × T)} : Rep K ι H v t → RepP K ι H vs ts → RepP K ι H ((k,v) :: vs) ((k,t) :: ts)
theorem RepP.gr {κ : Type} {K : PySem.W.Frag} {ι ι' : List Addr} {H H' : Hp} (g : Gr ι ι' H H') : ∀ {vs : List (κ × V)} {ts : List (κ × T)}, RepP K ι H vs ts → RepP K ι' H' vs ts
  | _,_,.nil => .nil
  | _,_,.cons h r => .cons (Rep.gr g h) (RepP.gr g r)
theorem RepP.length {κ : Type} {K : PySem.W.Frag} {ι : List Addr} {H : Hp} : ∀ {vs : List (κ × V)} {ts : List (κ × T)},RepP K ι H vs ts → vs.length = ts.length
  | _,_,.nil => rfl
  | _,_,.cons _ r => congrArg (· + 1) r.length
inductive RepF (K : PySem.W.Frag) (ι : List Addr) (H : Hp) : List (PySem.Str × V) → List (String × T) → Prop
  | nil : RepF K ι H [] []
  | cons {k : String} {v : V} {vs : List (PySem.Str × V)} {t : T} {ts : List (String × T)} : Rep K ι H v t → RepF K ι H vs ts → RepF K ι H ((PySem.Str.ofString k,v) :: vs) ((k,t) :: ts)
theorem RepF.gr {K : PySem.W.Frag} {ι ι' : List Addr} {H H' : Hp} (g : Gr ι ι' H H') : ∀ {vs : List (PySem.Str × V)} {ts : List (String × T)}, RepF K ι H vs ts → RepF K ι' H' vs ts
  | _,_,.nil => .nil
  | _,_,.cons h r => .cons (Rep.gr g h) (RepF.gr g r)
def ObR (K : PySem.W.Frag) (ι : List Addr) (H : Hp) (a : Addr) : O → Prop
  | .lst ts => ∃ vs,H a = some (.lst vs) ∧ Reps K ι H vs ts
  | .dk kvs => ∃ vs,H a = some (.dK vs) ∧ RepP K ι H vs kvs
  | .dt kvs => ∃ vs,H a = some (.dT vs) ∧ RepP K ι H vs kvs
  | .ins C fs => ∃ Ca dx vs,PySem.W.nsIn K mainGlobals (PySem.Str.ofString C) = some (some (.ref Ca)) ∧ H a = some (.ins Ca dx vs) ∧ RepF K ι H vs fs
structure Sim (K : PySem.W.Frag) (ι : List Addr) (S : Sto) (H : Hp) : Prop where
  len : ι.length = S.length
  nd : ι.Nodup
  ob : ∀ (i : Nat) a o,ι[i]? = some a → S[i]? = some o → ObR K ι H a o
  tab : LamX.Tabs Tb.T H
theorem ObR.gr {K : PySem.W.Frag} {ι ι' : List Addr} {H H' : Hp} {a : Addr} {o : O} (g : Gr ι ι' H H') (e : H' a = H a) (h : ObR K ι H a o) : ObR K ι' H' a o := by
  cases o with
  | lst ts => obtain ⟨vs,h,r⟩ := h; exact ⟨vs,e.trans h,r.gr g⟩
  | dk ts => obtain ⟨vs,h,r⟩ := h; exact ⟨vs,e.trans h,r.gr g⟩
  | dt ts => obtain ⟨vs,h,r⟩ := h; exact ⟨vs,e.trans h,r.gr g⟩
  | ins C ts => obtain ⟨Ca,dx,vs,hn,h,r⟩ := h; exact ⟨Ca,dx,vs,hn,e.trans h,r.gr g⟩
theorem ObR.has {K : PySem.W.Frag} {ι : List Addr} {H : Hp} {a : Addr} {o : O} (h : ObR K ι H a o) : ∃ u,H a = some u := by
  cases o with
  | lst ts => obtain ⟨vs,h,r⟩ := h; exact ⟨_,h⟩
  | dk ts => obtain ⟨vs,h,r⟩ := h; exact ⟨_,h⟩
  | dt ts => obtain ⟨vs,h,r⟩ := h; exact ⟨_,h⟩
  | ins C ts => obtain ⟨Ca,dx,vs,hn,h,r⟩ := h; exact ⟨_,h⟩
theorem ObR.mut {K : PySem.W.Frag} {ι : List Addr} {H : Hp} {a : Addr} {o : O} (h : ObR K ι H a o) : ∃ u,H a = some u ∧ HMut u := by
  cases o with
  | lst ts => obtain ⟨vs,h,r⟩ := h; exact ⟨_,h,trivial⟩
  | dk ts => obtain ⟨vs,h,r⟩ := h; exact ⟨_,h,trivial⟩
  | dt ts => obtain ⟨vs,h,r⟩ := h; exact ⟨_,h,trivial⟩
  | ins C ts => obtain ⟨Ca,dx,vs,hn,h,r⟩ := h; exact ⟨_,h,trivial⟩
section
variable {K : PySem.W.Frag} {ι : List Addr} {H H' : Hp} {Z : Sto}
theorem Sim.same (s : Sim K ι Z H) (m : Same H H') : Sim K ι Z H' := ⟨s.len, s.nd, fun i a o e1 e2 => by
  have h := s.ob i a o e1 e2
  obtain ⟨u,hu⟩ := h.has
  exact h.gr (Gr.same m) ((m _ _ hu).trans hu.symm),s.tab.ext m⟩
theorem Sim.at (s : Sim K ι Z H) {i : Nat} {o : O} (e : Z[i]? = some o) : ∃ a,ι[i]? = some a ∧ ObR K ι H a o := by
  have h1 : i < Z.length := (List.getElem?_eq_some_iff.mp e).1
  have h2 : i < ι.length := by rw [s.len]; exact h1
  exact ⟨ι[i],List.getElem?_eq_getElem h2,s.ob i _ o (List.getElem?_eq_getElem h2) e⟩
theorem Gr.new {p : Addr} {o : HO} (n : H p = none) : Gr ι (ι ++ [p]) H (upd H p o) :=
  ⟨fun i a h => by rw [List.getElem?_append_left (List.getElem?_eq_some_iff.mp h).1]; exact h,fun a xs h => by rw [upd_ne (ne_of_none h n)]; exact h,fun a o u h => by rw [upd_ne (ne_of_none h n)]; exact h,fun a fs h => by rw [upd_ne (ne_of_none h n)]; exact h,fun a φ h => by rw [upd_ne (ne_of_none h n)]; exact h,fun h => h.ext fun b o e => by rw [upd_ne (ne_of_none e n)]; exact e,fun a u h e m => (List.mem_append.mp h).elim id fun k => absurd e (by rw [List.mem_singleton.mp k,n]; intro z; cases z),fun a u h _ _ => by rw [upd_ne (ne_of_none h n)]; exact h⟩
theorem Gr.new0 {p : Addr} {o : HO} (n : H p = none) : Gr ι ι H (upd H p o) := Gr.same (Ud n)
theorem Sim.new (s : Sim K ι Z H) {p : Addr} {o : HO} {ob : O} (n : H p = none) (r : ObR K (ι ++ [p]) (upd H p o) p ob) : Sim K (ι ++ [p]) (Z ++ [ob]) (upd H p o) := by
  refine ⟨by rw [List.length_append,List.length_append,s.len]; rfl,?_,fun i a x e1 e2 => ?_,(Gr.new (ι := ι) n).tab s.tab⟩
  · rw [List.nodup_append]
    refine ⟨s.nd,by simp,fun a ha b hb => ?_⟩
    rw [List.mem_singleton.mp hb]
    intro e
    obtain ⟨i,h1,h2⟩ := List.mem_iff_getElem.mp ha
    have h3 : i < Z.length := by rw [← s.len]; exact h1
    obtain ⟨u,hu⟩ := (s.ob i a _ (by rw [← h2]; exact List.getElem?_eq_getElem h1) (List.getElem?_eq_getElem h3)).has
    rw [e,n] at hu
    cases hu
  · by_cases hi : i < Z.length
    · rw [List.getElem?_append_left hi] at e2
      rw [List.getElem?_append_left (by rw [s.len]; exact hi)] at e1
      have h := s.ob i a x e1 e2
      obtain ⟨u,hu⟩ := h.has
      exact h.gr (Gr.new n) (by rw [upd_ne (ne_of_none hu n)])
    · have hi' : Z.length ≤ i := Nat.le_of_not_lt hi
      rw [List.getElem?_append_right hi'] at e2
      rw [List.getElem?_append_right (by rw [s.len]; exact hi'), s.len] at e1
      obtain ⟨h1,h2⟩ := List.getElem?_eq_some_iff.mp e2
      have h0 : i - Z.length = 0 := by simpa using h1
      rw [h0] at e1 e2
      simp at e1 e2
      subst e1 e2
      exact r
theorem Gr.mut {a : Addr} {u o : HO} (h : H a = some u) (m : HMut u) (hi : a ∈ ι) : Gr ι ι H (upd H a o) := by
  have ne : ∀ b x,H b = some x → ¬ HMut x → b ≠ a := fun b x e nm z => by subst z; rw [h] at e; cases e; exact nm m
  exact ⟨fun _ _ h => h,fun b xs e => by rw [upd_ne (ne b _ e fun z => z)]; exact e,fun b o u e => by rw [upd_ne (ne b _ e fun z => z)]; exact e,fun b fs e => by rw [upd_ne (ne b _ e fun z => z)]; exact e,fun b φ e => by rw [upd_ne (ne b _ e fun z => z)]; exact e,fun t p hp => by
    obtain ⟨ps,h1,h2,h3⟩ := t p hp
    refine ⟨ps,by rw [upd_ne (ne _ _ h1 fun z => z)]; exact h1,h2,fun pos cv hc => ?_⟩
    obtain ⟨c,e1,e2⟩ := h3 pos cv hc
    exact ⟨c, e1, by rw [upd_ne (ne c _ e2 fun z => z)]; exact e2⟩, fun _ _ k _ _ => k, fun b u' e _ nb => by
    have hb : b ≠ a := fun z => nb (by rw [z]; exact hi)
    rw [upd_ne hb]; exact e⟩
theorem Sim.set (s : Sim K ι Z H) {i : Nat} {a : Addr} {o : HO} {ob : O} (hi : ι[i]? = some a) (r : ObR K ι (upd H a o) a ob) : Sim K ι (Z.set i ob) (upd H a o) := by
  have h1 : i < ι.length := (List.getElem?_eq_some_iff.mp hi).1
  have h2 : i < Z.length := by rw [← s.len]; exact h1
  obtain ⟨u,hu,mu⟩ := (s.ob i a _ hi (List.getElem?_eq_getElem h2)).mut
  refine ⟨by rw [List.length_set]; exact s.len,s.nd,fun j b x e1 e2 => ?_,(Gr.mut (ι := ι) hu mu (List.mem_of_getElem? hi)).tab s.tab⟩
  by_cases hj : j = i
  · subst hj
    rw [hi] at e1; cases e1
    rw [List.getElem?_set_self h2] at e2
    cases e2
    exact r
  · rw [List.getElem?_set_ne (Ne.symm hj)] at e2
    have hb : b ≠ a := fun z => by
      subst z
      obtain ⟨k1,k2⟩ := List.getElem?_eq_some_iff.mp e1
      obtain ⟨k3,k4⟩ := List.getElem?_eq_some_iff.mp hi
      exact hj ((List.getElem_inj s.nd).mp (k2.trans k4.symm))
    exact (s.ob j b x e1 e2).gr (Gr.mut hu mu (List.mem_of_getElem? hi)) (upd_ne hb)
end
abbrev Env := List (Option T)
def Envs (K : PySem.W.Frag) (ι : List Addr) (H : Hp) (σ : L2.St) (ρ : Env) : Prop := ∀ (i : Nat) t,ρ[i]? = some (some t) → ∃ v,σ[i]? = some (some v) ∧ Rep K ι H v t
theorem Envs.gr {K : PySem.W.Frag} {ι ι' : List Addr} {H H' : Hp} {σ : L2.St} {ρ : Env} (e : Envs K ι H σ ρ) (g : Gr ι ι' H H') : Envs K ι' H' σ ρ := fun i t h => by
  obtain ⟨v,h1,h2⟩ := e i t h
  exact ⟨v,h1,h2.gr g⟩
theorem Envs.set {K : PySem.W.Frag} {ι : List Addr} {H : Hp} {σ : L2.St} {ρ : Env} (e : Envs K ι H σ ρ) {v : V} {t : T} (r : Rep K ι H v t) (i : Nat) (hl : σ.length = ρ.length) : Envs K ι H (σ.set i (some v)) (ρ.set i (some t)) := fun j u h => by
  by_cases hj : j = i
  · subst hj
    by_cases hlt : j < ρ.length
    · rw [List.getElem?_set_self hlt] at h
      cases h
      exact ⟨v,List.getElem?_set_self (by rw [hl]; exact hlt),r⟩
    · rw [List.getElem?_eq_none (by rw [List.length_set]; omega)] at h
      cases h
  · rw [List.getElem?_set_ne (Ne.symm hj)] at h
    obtain ⟨w,h1,h2⟩ := e j u h
    exact ⟨w,by rw [List.getElem?_set_ne (Ne.symm hj)]; exact h1,h2⟩
def RepX (K : PySem.W.Frag) (ι : List Addr) (H : Hp) (cls : Value) (d : Option Addr) (x : Ex) : Prop :=
  (∃ c,cls = .ref c ∧ PySem.W.nsIn K mainGlobals x.cls = some (some (.ref c))) ∧ (match x.fs with
    | [] => d = none
    | fs => ∃ dd vs,d = some dd ∧ H dd = some (.xd vs) ∧ RepP K ι H vs fs)
section
variable {α β γ δ : Type}
def Post (rep : List Addr → Hp → β → α → Prop) (K : PySem.W.Frag) (W : WX) (σ : L2.St) (ι : List Addr) (H : Hp) (Q : β → Hp → Prop) : R α → Prop
  | .ok a S' => ∀ ι' H' b, Gr ι ι' H H' → Sim K ι' S' H' → rep ι' H' b a → Q b H'
  | .exc x S' => ∀ ι' H' cls d, Gr ι ι' H H' → Sim K ι' S' H' → RepX K ι' H' cls d x → W cls d σ H'
  | .stuck => False
def PostO (rep : List Addr → Hp → β → α → Prop) (K : PySem.W.Frag) (ι : List Addr) (H : Hp) (Q : β → Hp → Prop) : Option (α × Sto) → Prop
  | some (a, S') => ∀ ι' H' b, Gr ι ι' H H' → Sim K ι' S' H' → rep ι' H' b a → Q b H'
  | none => False
variable {rep : List Addr → Hp → β → α → Prop} {rep' : List Addr → Hp → δ → γ → Prop} {K : PySem.W.Frag} {W : WX} {σ : L2.St} {ι ι1 : List Addr} {H H1 : Hp} {Q : β → Hp → Prop} {Q' : δ → Hp → Prop}
theorem Post.shift {r : R α} (h : Post rep K W σ ι H Q r) (g : Gr ι ι1 H H1) : Post rep K W σ ι1 H1 Q r := by
  cases r with
  | ok a S => exact fun ι' H' b g' => h ι' H' b (g.trans g')
  | exc x S => exact fun ι' H' c d g' => h ι' H' c d (g.trans g')
  | stuck => exact h
theorem PostO.shift {r : Option (α × Sto)} (h : PostO rep K ι H Q r) (g : Gr ι ι1 H H1) : PostO rep K ι1 H1 Q r := by
  cases r with
  | some a => exact fun ι' H' b g' => h ι' H' b (g.trans g')
  | none => exact h
theorem Ve {r : Option (α × Sto)} (h : Post rep K W σ ι H Q (lift r)) : PostO rep K ι H Q r := by
  cases r with
  | some a => exact h
  | none => exact h
theorem Zi {r : R α} {k : α → Sto → R γ} (h : Post rep' K W σ ι H Q' (r.bind k)) :
    Post rep K W σ ι H (fun b H1 => ∃ ι1 S1 a, Gr ι ι1 H H1 ∧ Sim K ι1 S1 H1 ∧ rep ι1 H1 b a ∧ Post rep' K W σ ι1 H1 Q' (k a S1)) r := by
  cases r with
  | ok a S => exact fun ι1 H1 b g s r => ⟨ι1,S,a,g,s,r,h.shift g⟩
  | exc x S => exact h
  | stuck => exact h
theorem Post.imp {r : R α} {Q2 : β → Hp → Prop} (h : Post rep K W σ ι H Q r) (i : ∀ b H,Q b H → Q2 b H) : Post rep K W σ ι H Q2 r := by
  cases r with
  | ok a S => exact fun ι1 H1 b g s r => i _ _ (h ι1 H1 b g s r)
  | exc x S => exact h
  | stuck => exact h
end
abbrev FE := Env → Sto → R T
abbrev FT := Env → Sto → R Bool
abbrev FA := Env → Sto → R (List T)
def bEq (_ : List Addr) (_ : Hp) (b c : Bool) : Prop := b = c
structure Wc where
  w : WX
  j : L2.St → List Addr → Hp → Prop
  st : ∀ σ ι ι' H H', Gr ι ι' H H' → j σ ι H → j σ ι' H'
def Wt (W : WX) : Wc := ⟨W,fun _ _ _ => True,fun _ _ _ _ _ _ _ => trivial⟩
structure Ie (K : PySem.W.Frag) (W : Wc) (ι : List Addr) (H : Hp) (σ : L2.St) (ρ : Env) (Z : Sto) : Prop where
  len : σ.length = ρ.length
  env : Envs K ι H σ ρ
  sim : Sim K ι Z H
  jj : W.j σ ι H
theorem Ie.gr {K : PySem.W.Frag} {W : Wc} {ι ι' : List Addr} {H H' : Hp} {σ : L2.St} {ρ : Env} {Z Z' : Sto} (h : Ie K W ι H σ ρ Z) (g : Gr ι ι' H H') (s : Sim K ι' Z' H') : Ie K W ι' H' σ ρ Z' := ⟨h.len, h.env.gr g, s, W.st _ _ _ _ _ g h.jj⟩
def tF (K : PySem.W.Frag) (W : Wc) (f : FE) : TE := fun σ H Q => ∃ ι ρ Z,Ie K W ι H σ ρ Z ∧ Post (Rep K) K W.w σ ι H Q (f ρ Z)
def tFT (K : PySem.W.Frag) (W : Wc) (f : FT) : TT := fun σ H Q => ∃ ι ρ Z,Ie K W ι H σ ρ Z ∧ Post bEq K W.w σ ι H Q (f ρ Z)
def tFA (K : PySem.W.Frag) (W : Wc) (f : FA) : TA := fun σ H Q => ∃ ι ρ Z,Ie K W ι H σ ρ Z ∧ Post (Reps K) K W.w σ ι H Q (f ρ Z)
abbrev FJ (X : Cx) (K : PySem.W.Frag) (W : Wc) (e : Expr) (f : FE) : Prop := PE X e (tF K W f)
abbrev FTJ (X : Cx) (K : PySem.W.Frag) (W : Wc) (e : Expr) (f : FT) : Prop := PT X e (tFT K W f)
abbrev FWJ (X : Cx) (K : PySem.W.Frag) (W : Wc) (e : Expr) (f : FT) : Prop := PW X e (tFT K W f)
abbrev FAJ (X : Cx) (K : PySem.W.Frag) (W : Wc) (es : List Expr) (f : FA) : Prop := PA X es (tFA K W f)
theorem Xj {X : Cx} {e : Expr} {t t' : TE} (h : PE X e t) (i : ∀ σ H Q, t' σ H Q → t σ H Q) : PE X e t' := ⟨fun pins s σ H Q I q => h.run pins s σ H Q I (i _ _ _ q)⟩
theorem Z5x {X : Cx} {e : Expr} {t t' : TT} (h : PT X e t) (i : ∀ σ H Q, t' σ H Q → t σ H Q) : PT X e t' := ⟨fun pins s σ H Q I q => h.run pins s σ H Q I (i _ _ _ q)⟩
theorem Zas {X : Cx} {e : Expr} {t t' : TT} (h : PW X e t) (i : ∀ σ H Q, t' σ H Q → t σ H Q) : PW X e t' := ⟨fun w pins s σ H Q I q => h.run w pins s σ H Q I (i _ _ _ q)⟩
theorem Zat {X : Cx} {es : List Expr} {t t' : TA} (h : PA X es t) (i : ∀ σ H Q, t' σ H Q → t σ H Q) : PA X es t' := ⟨fun p pins s σ H Q I q => h.run p pins s σ H Q I (i _ _ _ q)⟩
theorem Jx {X : Cx} {st : Stmt} {t t' : TS} (h : PS X st t) (i : ∀ D σ H, t' D σ H → t D σ H) : PS X st t' := ⟨fun pins s σ H D I q => h.run pins s σ H D I (i _ _ _ q)⟩
theorem Z7k {X : Cx} {st : List Stmt} {t t' : TS} (h : PSs X st t) (i : ∀ D σ H, t' D σ H → t D σ H) : PSs X st t' := ⟨fun pins s σ H D I q => h.run pins s σ H D I (i _ _ _ q)⟩
def eVar (i : Nat) : FE := fun ρ Z => match ρ[i]? with
  | some (some t) => .ok t Z
  | _ => .stuck
def eC (t : T) : FE := fun _ Z => .ok t Z
def eBin (g : T → T → Sto → Option (T × Sto)) (a b : FE) : FE := fun ρ Z => (a ρ Z).bind fun x Z1 => (b ρ Z1).bind fun y Z2 => lift (g x y Z2)
def eUn (g : T → Sto → Option (T × Sto)) (a : FE) : FE := fun ρ Z => (a ρ Z).bind fun x Z1 => lift (g x Z1)
def eIf (c : FT) (a b : FE) : FE := fun ρ Z => (c ρ Z).bind fun x Z1 => if x = true then a ρ Z1 else b ρ Z1
def aNil : FA := fun _ Z => .ok [] Z
def aCons (a : FE) (r : FA) : FA := fun ρ Z => (a ρ Z).bind fun x Z1 => (r ρ Z1).bind fun xs Z2 => .ok (x :: xs) Z2
section
variable {X : Cx} {K : PySem.W.Frag} {W : Wc} {a b c : Expr} {fa fb fc : FE} {pos : Pos}
theorem Zf {i : Nat} {x : PySem.Str} (h : PE X (.Name x pos) (tVar i)) : FJ X K W (.Name x pos) (eVar i) := Xj h fun σ H Q q => by
  obtain ⟨ι,ρ,Z,is,p⟩ := q
  unfold eVar at p
  split at p
  · rename_i t e
    obtain ⟨v,h1,h2⟩ := is.env i t e
    exact ⟨v,h1,p ι H v Gr.refl is.sim h2⟩
  · exact p.elim
theorem f_c {v : V} {t : T} (h : PE X a (tC v)) (r : ∀ ι H,Rep K ι H v t) : FJ X K W a (eC t) := Xj h fun σ H Q q => by
  obtain ⟨ι,ρ,Z,is,p⟩ := q
  exact p ι H v Gr.refl is.sim (r ι H)
theorem f_int {i j} : FJ X K W (.Constant (.int i) j pos) (eC (.int i)) := f_c pe_int fun _ _ => .int i
theorem f_bl {i j} : FJ X K W (.Constant (.bool i) j pos) (eC (.bl i)) := f_c pe_bl fun _ _ => .bl i
theorem Z1h {j} : FJ X K W (.Constant .none j pos) (eC .non) := f_c pe_non fun _ _ => .non
theorem Zr {x j} (l : List Nat) (e : x = S l := by rfl) : FJ X K W (.Constant (.str x) j pos) (eC (.str l)) := f_c pe_str fun _ _ => by rw [e]; exact .str l
def rF2 (K : PySem.W.Frag) (g : T → T → Sto → Option (T × Sto)) : R2 := fun x y H Q => ∃ ι Z tx ty,Sim K ι Z H ∧ Rep K ι H x tx ∧ Rep K ι H y ty ∧ PostO (Rep K) K ι H Q (g tx ty Z)
def rFC (K : PySem.W.Frag) (g : List T → Sto → Option (T × Sto)) : List V → Hp → VK → Prop := fun xs H Q => ∃ ι Z ts,Sim K ι Z H ∧ Reps K ι H xs ts ∧ PostO (Rep K) K ι H Q (g ts Z)
theorem Z9o {r : R2} {g : T → T → Sto → Option (T × Sto)} (hr : ∀ x y H Q,rF2 K g x y H Q → r x y H Q) {σ : L2.St} {H : Hp} {Q : VK} (h : tF K W (eBin g fa fb) σ H Q) : tOp r (tF K W fa) (tF K W fb) σ H Q := by
  obtain ⟨ι,ρ,Z,is,p⟩ := h
  refine ⟨ι,ρ,Z,is,(Zi p).imp fun x H1 q => ?_⟩
  obtain ⟨ι1,Z1,tx,g1,s1,r1,p1⟩ := q
  refine ⟨ι1,ρ,Z1,is.gr g1 s1,(Zi p1).imp fun y H2 q2 => ?_⟩
  obtain ⟨ι2,Z2,ty,g2,s2,r2,p2⟩ := q2
  exact hr _ _ _ _ ⟨ι2,Z2,tx,ty,s2,r1.gr g2,r2,Ve p2⟩
def OpF (X : Cx) (K : PySem.W.Frag) (f : Value → Value → Sem Value) (g : T → T → Sto → Option (T × Sto)) : Prop := OpR X f (rF2 K g)
theorem Xy {f : Value → Value → Sem Value} {r r' : R2} (h : OpR X f r) (i : ∀ x y H Q, r' x y H Q → r x y H Q) : OpR X f r' := fun pins s σ H x y v u Q I rx ry q => h pins s σ H x y v u Q I rx ry (i _ _ _ _ q)
theorem Vf {f : Value} {r r' : List V → Hp → VK → Prop} (h : CallR X f r) (i : ∀ xs H Q, r' xs H Q → r xs H Q) : CallR X f r' := fun pins s σ H xs us Q I rs q => h pins s σ H xs us Q I rs (i _ _ _ q)
theorem U9 {f : Value → Value → Sem Value} {r r' : R2} (h : OpR X f r) (h' : OpR X f r') : OpR X f (rOr r r') := fun pins s σ H x y v u Q I rx ry q => q.elim (h pins s σ H x y v u Q I rx ry) (h' pins s σ H x y v u Q I rx ry)
theorem f_op {op : Operator} {g : T → T → Sto → Option (T × Sto)} (ho : OpF X K (binaryOp op) g) (ha : FJ X K W a fa) (hb : FJ X K W b fb) : FJ X K W (.BinOp a op b pos) (eBin g fa fb) :=
  Xj (pe_op ho ha hb) fun _ _ _ h => Z9o (fun _ _ _ _ h => h) h
theorem Nz {op : CmpOp} {g : T → T → Sto → Option (T × Sto)} (ho : OpF X K (compareOp op) g) (ha : FJ X K W a fa) (hb : FJ X K W b fb) (hm : behindInMarks op b = false) : FJ X K W (.Compare a [op] [b] pos) (eBin g fa fb) :=
  Xj (pe_cmpR ho ha hb hm) fun _ _ _ h => Z9o (fun _ _ _ _ h => h) h
theorem f_ix {g : T → T → Sto → Option (T × Sto)} (hr : IxR X (rF2 K g)) (ha : FJ X K W a fa) (hb : FJ X K W b fb) (hs : PlainIx b) : FJ X K W (.Subscript a b pos) (eBin g fa fb) :=
  Xj (pe_ix hr ha hb hs) fun _ _ _ h => Z9o (fun _ _ _ _ h => h) h
theorem f_if {t : FT} (hc : FTJ X K W c t) (ha : FJ X K W a fa) (hb : FJ X K W b fb) : FJ X K W (.IfExp c a b pos) (eIf t fa fb) := Xj (pe_ifExp hc ha hb) fun σ H Q h => by
  obtain ⟨ι,ρ,Z,is,p⟩ := h
  refine ⟨ι,ρ,Z,is,(Zi p).imp fun x H1 q => ?_⟩
  obtain ⟨ι1,Z1,tx,g1,s1,r1,p1⟩ := q
  cases (show x = tx from r1)
  cases x with
  | true => exact ⟨ι1,ρ,Z1,is.gr g1 s1,p1⟩
  | false => exact ⟨ι1,ρ,Z1,is.gr g1 s1,p1⟩
theorem Ze : FAJ X K W [] aNil := Zat pa_nil fun σ H Q h => by
  obtain ⟨ι,ρ,Z,is,p⟩ := h
  exact p ι H [] Gr.refl is.sim .nil
theorem Zb {es : List Expr} {fr : FA} (ha : FJ X K W a fa) (hr : FAJ X K W es fr) (hs : starEach (a :: es) X.env = (false,eval a X.env) :: starEach es X.env := by rfl) : FAJ X K W (a :: es) (aCons fa fr) := Zat (pa_cons ha hr hs) fun σ H Q h => by
  obtain ⟨ι,ρ,Z,is,p⟩ := h
  refine ⟨ι,ρ,Z,is,(Zi p).imp fun x H1 q => ?_⟩
  obtain ⟨ι1,Z1,tx,g1,s1,r1,p1⟩ := q
  refine ⟨ι1,ρ,Z1,is.gr g1 s1,(Zi p1).imp fun y H2 q2 => ?_⟩
  obtain ⟨ι2,Z2,ty,g2,s2,r2,p2⟩ := q2
  exact p2 ι2 H2 _ Gr.refl s2 (.cons (r1.gr g2) r2)
end
def Lim : Nat := 1000000
theorem Z46 : Lim ≤ sizeLine := by decide
@[irreducible] def Fuel : Nat := Lim + 2
theorem Q7 : Fuel = Lim + 2 := by unfold Fuel; rfl
theorem Jy {n : Nat} (h : n ≤ Lim) : n ≤ sizeLine := Nat.le_trans h Z46
def asList : T → Sto → Option (List T)
  | .loc i,Z => match Z[i]? with
    | some (.lst ts) => some ts
    | _ => none
  | .frl ts,_ => some ts
  | _,_ => none
theorem Vn {K : PySem.W.Frag} {ι : List Addr} {H : Hp} {Z : Sto} {v : V} {t : T} {ts : List T} (s : Sim K ι Z H) (r : Rep K ι H v t) (e : asList t Z = some ts) : ∃ a vs,v = .ref a ∧ SqL K H a vs ∧ Reps K ι H vs ts := by
  cases r with
  | loc h =>
    simp only [asList] at e
    split at e
    · rename_i ts' hz
      obtain ⟨a', h1, h2⟩ := s.at hz
      rw [h] at h1
      cases h1
      cases e
      obtain ⟨vs,h3,h4⟩ := h2
      exact ⟨_,vs,rfl,SqL.of h3,h4⟩
    · cases e
  | frl h r => cases e; exact ⟨_,_,rfl,h.sq,r⟩
  | _ => cases e
def truth : T → Sto → Option Bool
  | .bl b,_ => some b
  | .int i,_ => some (i != 0)
  | .non,_ => some false
  | .str l,_ => if l.length ≤ Lim then some (!l.isEmpty) else none
  | .tup ts,_ => some (!ts.isEmpty)
  | .loc i,Z => match Z[i]? with
    | some (.lst ts) => some (!ts.isEmpty)
    | some (.dk ts) => some (!ts.isEmpty)
    | _ => none
  | .frl ts,_ => some (!ts.isEmpty)
  | _,_ => none
theorem Q8 {α β : Type} {a : List α} {b : List β} (h : a.length = b.length) : a.isEmpty = b.isEmpty := by
  cases a <;> cases b <;> first | rfl | (simp at h)
theorem Jj {K : PySem.W.Frag} {ι : List Addr} {H : Hp} {Z : Sto} {v : V} {t : T} {k : Bool} (s : Sim K ι Z H) (r : Rep K ι H v t) (e : truth t Z = some k) : TruV K v H k := by
  cases r with
  | non => cases e; rfl
  | bl b => cases e; rfl
  | int i => cases e; rfl
  | str l =>
    simp only [truth] at e
    split at e
    · rename_i h
      cases e
      refine ⟨by rw [S_len]; exact Jy h,?_⟩
      rw [S_len]
      cases l with
      | nil => rfl
      | cons c l => simp; omega
    · cases e
  | tup h r => cases e; exact .inr (.inl ⟨_,h,by rw [Q8 r.length]⟩)
  | loc h =>
    simp only [truth] at e
    split at e
    · rename_i ts' hz
      obtain ⟨a', h1, h2⟩ := s.at hz
      rw [h] at h1
      cases h1
      cases e
      obtain ⟨vs,h3,h4⟩ := h2
      exact .inl ⟨vs,SqL.of h3,by rw [Q8 h4.length]⟩
    · rename_i ts' hz
      obtain ⟨a', h1, h2⟩ := s.at hz
      rw [h] at h1
      cases h1
      cases e
      obtain ⟨vs,h3,h4⟩ := h2
      exact .inr (.inr ⟨vs,h3,by rw [Q8 h4.length]⟩)
    · cases e
  | frl h r => cases e; exact .inl ⟨_,h.sq,by rw [Q8 r.length]⟩
  | ref a => cases e
  | ty n => cases e
  | lam h j => cases e
  | ktp h r => cases e
def eTru (f : FE) : FT := fun ρ Z => (f ρ Z).bind fun x Z1 => match truth x Z1 with
  | some b => .ok b Z1
  | none => .stuck
def tAnd (a b : FT) : FT := fun ρ Z => (a ρ Z).bind fun x Z1 => if x = true then b ρ Z1 else .ok false Z1
def tOr (a b : FT) : FT := fun ρ Z => (a ρ Z).bind fun x Z1 => if x = true then .ok true Z1 else b ρ Z1
def tNot (a : FT) : FT := fun ρ Z => (a ρ Z).bind fun x Z1 => .ok (!x) Z1
def eAnd (a b : FE) : FE := fun ρ Z => (a ρ Z).bind fun x Z1 => match truth x Z1 with
  | some true => b ρ Z1
  | some false => .ok x Z1
  | none => .stuck
def eOr (a b : FE) : FE := fun ρ Z => (a ρ Z).bind fun x Z1 => match truth x Z1 with
  | some true => .ok x Z1
  | some false => b ρ Z1
  | none => .stuck
def eNot (a : FE) : FE := fun ρ Z => (a ρ Z).bind fun x Z1 => match truth x Z1 with
  | some b => .ok (.bl (!b)) Z1
  | none => .stuck
section
variable {X : Cx} {K : PySem.W.Frag} {W : Wc} {a b c : Expr} {fa fb fc : FE} {ta tb : FT} {pos : Pos} {rest : List Expr}
theorem Ua (hK : X.K = K) (ha : FJ X K W a fa) (he : ∀ whole,isTrue a X.env whole = (do let v ← whole; standAt a.pos; holding [v] (truthy v)) := by intro _; rfl) : FTJ X K W a (eTru fa) := by
  subst hK
  refine Z5x (pt_truth ha he) fun σ H Q h => ?_
  obtain ⟨ι,ρ,Z,is,p⟩ := h
  refine ⟨ι,ρ,Z,is,(Zi p).imp fun x H1 q => ?_⟩
  obtain ⟨ι1,Z1,tx,g1,s1,r1,p1⟩ := q
  split at p1
  · rename_i k e
    exact ⟨k,Jj s1 r1 e,p1 ι1 H1 k Gr.refl s1 rfl⟩
  · exact p1.elim
def eBl (f : FE) : FT := fun ρ Z => (f ρ Z).bind fun x Z1 => match x with
  | .bl b => .ok b Z1
  | _ => .stuck
theorem W3 {op : CmpOp} {g : T → T → Sto → Option (T × Sto)} (ho : OpF X K (compareOp op) g) (ha : FJ X K W a fa) (hb : FJ X K W b fb) (hm : behindInMarks op b = false) : FTJ X K W (.Compare a [op] [b] pos) (eBl (eBin g fa fb)) := by
  refine Z5x (pt_cmpR ho ha hb hm) fun σ H Q h => ?_
  obtain ⟨ι,ρ,Z,is,p⟩ := h
  refine Z9o (fun _ _ _ _ h => h) ⟨ι,ρ,Z,is,(Zi p).imp fun x H1 q => ?_⟩
  obtain ⟨ι1,Z1,tx,g1,s1,r1,p1⟩ := q
  cases r1 with
  | bl b => exact ⟨b,rfl,p1 ι1 H1 b Gr.refl s1 rfl⟩
  | _ => exact p1.elim
theorem Zbm (ha : FTJ X K W a ta) : FWJ X K W (.BoolOp .And [a] pos) ta := pw_and1 ha
theorem Jz (ha : FTJ X K W a ta) : FWJ X K W (.BoolOp .Or [a] pos) ta := pw_or1 ha
theorem Zcy (ha : FTJ X K W a ta) (hb : FWJ X K W (.BoolOp .And (b :: rest) pos) tb) : FWJ X K W (.BoolOp .And (a :: b :: rest) pos) (tAnd ta tb) := Zas (pw_and ha hb) fun σ H Q h => by
  obtain ⟨ι,ρ,Z,is,p⟩ := h
  refine ⟨ι,ρ,Z,is,(Zi p).imp fun x H1 q => ?_⟩
  obtain ⟨ι1,Z1,tx,g1,s1,r1,p1⟩ := q
  cases (show x = tx from r1)
  cases x with
  | true => exact ⟨ι1,ρ,Z1,is.gr g1 s1,p1⟩
  | false => exact p1 ι1 H1 _ Gr.refl s1 rfl
theorem N5 (ha : FTJ X K W a ta) (hb : FWJ X K W (.BoolOp .Or (b :: rest) pos) tb) : FWJ X K W (.BoolOp .Or (a :: b :: rest) pos) (tOr ta tb) := Zas (pw_or ha hb) fun σ H Q h => by
  obtain ⟨ι,ρ,Z,is,p⟩ := h
  refine ⟨ι,ρ,Z,is,(Zi p).imp fun x H1 q => ?_⟩
  obtain ⟨ι1,Z1,tx,g1,s1,r1,p1⟩ := q
  cases (show x = tx from r1)
  cases x with
  | true => exact p1 ι1 H1 _ Gr.refl s1 rfl
  | false => exact ⟨ι1,ρ,Z1,is.gr g1 s1,p1⟩
theorem Uu (ha : FTJ X K W a ta) : FTJ X K W (.UnaryOp .Not a pos) (tNot ta) := Z5x (pt_not ha) fun σ H Q h => by
  obtain ⟨ι,ρ,Z,is,p⟩ := h
  refine ⟨ι,ρ,Z,is,(Zi p).imp fun x H1 q => ?_⟩
  obtain ⟨ι1,Z1,tx,g1,s1,r1,p1⟩ := q
  cases (show x = tx from r1)
  exact p1 ι1 H1 _ Gr.refl s1 rfl
theorem Z1i {op} (h : FJ X K W a fa) : FJ X K W (.BoolOp op [a] pos) fa := pe_one h
theorem Z3b (hK : X.K = K) (ha : FJ X K W a fa) (hb : FJ X K W (.BoolOp .And (b :: rest) pos) fb) : FJ X K W (.BoolOp .And (a :: b :: rest) pos) (eAnd fa fb) := by
  subst hK
  refine Xj (pe_andT ha hb) fun σ H Q h => ?_
  obtain ⟨ι,ρ,Z,is,p⟩ := h
  refine ⟨ι,ρ,Z,is,(Zi p).imp fun x H1 q => ?_⟩
  obtain ⟨ι1,Z1,tx,g1,s1,r1,p1⟩ := q
  split at p1
  · rename_i e; exact ⟨true,Jj s1 r1 e,ι1,ρ,Z1,is.gr g1 s1,p1⟩
  · rename_i e; exact ⟨false,Jj s1 r1 e,p1 ι1 H1 _ Gr.refl s1 r1⟩
  · exact p1.elim
theorem f_or (hK : X.K = K) (ha : FJ X K W a fa) (hb : FJ X K W (.BoolOp .Or (b :: rest) pos) fb) : FJ X K W (.BoolOp .Or (a :: b :: rest) pos) (eOr fa fb) := by
  subst hK
  refine Xj (pe_orT ha hb) fun σ H Q h => ?_
  obtain ⟨ι,ρ,Z,is,p⟩ := h
  refine ⟨ι,ρ,Z,is,(Zi p).imp fun x H1 q => ?_⟩
  obtain ⟨ι1,Z1,tx,g1,s1,r1,p1⟩ := q
  split at p1
  · rename_i e; exact ⟨true,Jj s1 r1 e,p1 ι1 H1 _ Gr.refl s1 r1⟩
  · rename_i e; exact ⟨false,Jj s1 r1 e,ι1,ρ,Z1,is.gr g1 s1,p1⟩
  · exact p1.elim
theorem f_not (hK : X.K = K) (ha : FJ X K W a fa) : FJ X K W (.UnaryOp .Not a pos) (eNot fa) := by
  subst hK
  refine Xj (pe_notT ha) fun σ H Q h => ?_
  obtain ⟨ι,ρ,Z,is,p⟩ := h
  refine ⟨ι,ρ,Z,is,(Zi p).imp fun x H1 q => ?_⟩
  obtain ⟨ι1,Z1,tx,g1,s1,r1,p1⟩ := q
  split at p1
  · rename_i k e; exact ⟨k,Jj s1 r1 e,p1 ι1 H1 _ Gr.refl s1 (.bl _)⟩
  · exact p1.elim
end
end Fx
set_option maxHeartbeats 4000000
namespace Fx
open PySem PySem.Spec PyProof.Rows L2 SX Ap
variable [Tb]
section
variable {K : PySem.W.Frag} {ι : List Addr} {H : Hp} {Q : VK} {Z : Sto} {t : T} {ts : List T} {v : V} {vs : List V}
theorem Y7 (p : PostO (Rep K) K ι H Q (some (t,Z))) (s : Sim K ι Z H) (r : Rep K ι H v t) : Q v H := p ι H v Gr.refl s r
theorem Sim.newL (s : Sim K ι Z H) (r : Reps K ι H vs ts) {p : Addr} (n : H p = none) : Sim K (ι ++ [p]) (Z ++ [.lst ts]) (upd H p (.lst vs)) := s.new n ⟨vs,upd_same,r.gr (Gr.new n)⟩
theorem Z3c (s : Sim K ι Z H) {p : Addr} {H' : Hp} : Rep K (ι ++ [p]) H' (.ref p) (.loc Z.length) := .loc (by rw [← s.len]; simp)
theorem N6 (q : PostO (Rep K) K ι H Q (some (.loc Z.length,Z ++ [.lst ts]))) (s : Sim K ι Z H) (r : Reps K ι H vs ts) : ∀ p,H p = none → Q (.ref p) (upd H p (.lst vs)) := fun p n =>
  q (ι ++ [p]) _ _ (Gr.new n) (s.newL r n) (Z3c s)
theorem Z55 (q : PostO (Rep K) K ι H Q (some (.tup ts,Z))) (s : Sim K ι Z H) (r : Reps K ι H vs ts) : ∀ p,H p = none → Q (.ref p) (upd H p (.tup vs)) := fun p n =>
  q ι _ _ (Gr.new0 n) (s.same (Ud n)) (.tup (SqT.of upd_same) (r.gr (Gr.new0 n)))
theorem Rep.tupE (r : Rep K ι H v (.tup ts)) : ∃ a vs,v = .ref a ∧ SqT K H a vs ∧ Reps K ι H vs ts := by
  cases r with
  | tup h r => exact ⟨_,_,rfl,h,r⟩
theorem Uh {i : Nat} {ts : List T} (s : Sim K ι Z H) (e : Z[i]? = some (.lst ts)) (r : Rep K ι H v (.loc i)) : ∃ a vs,v = .ref a ∧ ι[i]? = some a ∧ H a = some (.lst vs) ∧ Reps K ι H vs ts := by
  cases r with
  | loc h =>
    obtain ⟨a,h1,vs,h2,h3⟩ := s.at e
    rw [h] at h1; cases h1
    exact ⟨_,vs,rfl,h,h2,h3⟩
end
def getL (Z : Sto) (i : Nat) : Option (List T) := match Z[i]? with
  | some (.lst ts) => some ts
  | _ => none
theorem Ws {Z : Sto} {i : Nat} {ts : List T} (h : getL Z i = some ts) : Z[i]? = some (.lst ts) := by
  unfold getL at h
  split at h
  · rename_i ts' e; cases h; exact e
  · cases h
def gAdd : T → T → Sto → Option (T × Sto)
  | .int i,.int j,Z => some (.int (i + j),Z)
  | .str a,.str b,Z => if a.length + b.length ≤ Lim then some (.str (a ++ b),Z) else none
  | .tup a,.tup b,Z => if a.length + b.length ≤ Lim then some (.tup (a ++ b),Z) else none
  | .loc i,.loc j,Z => match getL Z i,getL Z j with
    | some a,some b => if a.length + b.length ≤ Lim then some (.loc Z.length,Z ++ [.lst (a ++ b)]) else none
    | _,_ => none
  | _,_,_ => none
def gSub : T → T → Sto → Option (T × Sto)
  | .int i,.int j,Z => some (.int (i - j),Z)
  | _,_,_ => none
def mulOk (i j : Int) : Bool := (decide (-(2 ^ 64) < i) && decide (i < 2 ^ 64)) || (decide (-(2 ^ 64) < j) && decide (j < 2 ^ 64))
def gMul : T → T → Sto → Option (T × Sto)
  | .int i,.int j,Z => if mulOk i j = true then some (.int (i * j),Z) else none
  | .str l,.int k,Z => if -100000 ≤ k ∧ k ≤ 100000 ∧ l.length * k.toNat ≤ 100000 then some (.str (repL k.toNat l),Z) else none
  | .loc i,.int k,Z => match getL Z i with
    | some a => if -100000 ≤ k ∧ k ≤ 100000 ∧ a.length * k.toNat ≤ Lim then some (.loc Z.length,Z ++ [.lst (List.replicate k.toNat a).flatten]) else none
    | _ => none
  | _,_,_ => none
def gDiv : T → T → Sto → Option (T × Sto)
  | .int i,.int j,Z => if 0 < j ∧ j < 2 ^ 200 then some (.int (i / j),Z) else none
  | _,_,_ => none
def gMod : T → T → Sto → Option (T × Sto)
  | .int i,.int j,Z => if 0 < j then some (.int (i % j),Z) else none
  | _,_,_ => none
def gPow : T → T → Sto → Option (T × Sto)
  | .int i,.int j,Z => if 0 ≤ j ∧ j ≤ 1000000 ∧ i.natAbs < 2 ^ 64 then some (.int (i ^ j.toNat),Z) else none
  | _,_,_ => none
theorem Reps.replicate {K : PySem.W.Frag} {ι : List Addr} {H : Hp} {vs : List V} {ts : List T} (r : Reps K ι H vs ts) : ∀ n : Nat,Reps K ι H (List.replicate n vs).flatten (List.replicate n ts).flatten
  | 0 => .nil
  | n + 1 => by
    rw [List.replicate_succ,List.replicate_succ,List.flatten_cons,List.flatten_cons]
    exact r.append (r.replicate n)
theorem S_app (a b : List Nat) : S a ++ S b = S (a ++ b) := by
  show (⟨a.toArray ++ b.toArray⟩ : PySem.Str) = ⟨(a ++ b).toArray⟩
  simp
section
variable {X : Cx} {K : PySem.W.Frag}
theorem Z47 : OpF X K (binaryOp .Sub) gSub := Xy op_sub fun x y H Q h => by
  obtain ⟨ι,Z,tx,ty,s,rx,ry,p⟩ := h
  unfold gSub at p
  split at p
  · cases rx; cases ry; exact ⟨_,_,rfl,rfl,Y7 p s (.int _)⟩
  · exact p.elim
theorem Z56 : OpF X K (binaryOp .Mod) gMod := Xy op_mod fun x y H Q h => by
  obtain ⟨ι,Z,tx,ty,s,rx,ry,p⟩ := h
  unfold gMod at p
  split at p
  · split at p
    · cases rx; cases ry; exact ⟨_,_,rfl,rfl,by assumption,Y7 p s (.int _)⟩
    · exact p.elim
  · exact p.elim
theorem Z7l : OpF X K (binaryOp .FloorDiv) gDiv := Xy op_fdivW fun x y H Q h => by
  obtain ⟨ι,Z,tx,ty,s,rx,ry,p⟩ := h
  unfold gDiv at p
  split at p
  · split at p
    · rename_i hj
      cases rx; cases ry; exact ⟨_,_,rfl,rfl,wide_div (b := 200) hj.1 (by have := hj.1; have := hj.2; omega) (by decide) (by decide),Y7 p s (.int _)⟩
    · exact p.elim
  · exact p.elim
theorem o_pow : OpF X K (binaryOp .Pow) gPow := Xy op_pow fun x y H Q h => by
  obtain ⟨ι,Z,tx,ty,s,rx,ry,p⟩ := h
  unfold gPow at p
  split at p
  · split at p
    · cases rx; cases ry; exact ⟨_,_,rfl,rfl,by assumption,Y7 p s (.int _)⟩
    · exact p.elim
  · exact p.elim
theorem Q3 (hK : X.K = K) : OpF X K (binaryOp .Add) gAdd := by
  subst hK
  refine Xy (U9 (U9 op_add op_add_str) (U9 op_catA op_cat)) fun x y H Q h => ?_
  obtain ⟨ι,Z,tx,ty,s,rx,ry,p⟩ := h
  unfold gAdd at p
  split at p
  · cases rx; cases ry; exact .inl (.inl ⟨_,_,rfl,rfl,Y7 p s (.int _)⟩)
  · split at p
    · rename_i hz
      cases rx; cases ry
      exact .inl (.inr ⟨_,_,rfl,rfl,by rw [S_len,S_len]; exact Jy hz,by rw [S_app]; exact Y7 p s (.str _)⟩)
    · exact p.elim
  · split at p
    · rename_i hz
      obtain ⟨a,xs,rfl,ha,ra⟩ := rx.tupE
      obtain ⟨b,ys,rfl,hb,rb⟩ := ry.tupE
      refine .inr (.inl ⟨a,b,xs,ys,rfl,rfl,ha,hb,by rw [ra.length,rb.length]; exact Jy hz,fun e => ?_,fun _ e => ?_,fun _ _ => Z55 p s (ra.append rb)⟩)
      · subst e; cases ra; exact Y7 p s (by rw [List.nil_append]; exact ry)
      · subst e; cases rb; exact Y7 p s (by rw [List.append_nil]; exact rx)
    · exact p.elim
  · split at p
    · rename_i a b e1 e2
      split at p
      · rename_i hz
        obtain ⟨x,xs,rfl,_,hx,r1⟩ := Uh s (Ws e1) rx
        obtain ⟨y,ys,rfl,_,hy,r2⟩ := Uh s (Ws e2) ry
        exact .inr (.inr ⟨x,y,xs,ys,rfl,rfl,hx,hy,by rw [r1.length,r2.length]; exact Jy hz,N6 p s (r1.append r2)⟩)
      · exact p.elim
    · exact p.elim
  · exact p.elim
theorem Zbn {i j : Int} (h : mulOk i j = true) : CMul i j := by
  unfold mulOk at h
  rw [Bool.or_eq_true,Bool.and_eq_true,Bool.and_eq_true] at h
  rcases h with ⟨a,b⟩ | ⟨a,b⟩
  · exact .inl ⟨of_decide_eq_true a,of_decide_eq_true b⟩
  · exact .inr ⟨of_decide_eq_true a,of_decide_eq_true b⟩
theorem Z48 : OpF X K (binaryOp .Mult) gMul := by
  refine Xy (U9 op_mul (U9 Z72 op_rep)) fun x y H Q h => ?_
  obtain ⟨ι,Z,tx,ty,s,rx,ry,p⟩ := h
  unfold gMul at p
  split at p
  · split at p
    · rename_i hc
      cases rx; cases ry; exact .inl ⟨_,_,rfl,rfl,Zbn hc,Y7 p s (.int _)⟩
    · exact p.elim
  · split at p
    · rename_i hz
      cases rx; cases ry
      exact .inr (.inl ⟨_,_,rfl,rfl,hz.1,hz.2.1,hz.2.2,Y7 p s (.str _)⟩)
    · exact p.elim
  · split at p
    · rename_i a e1
      split at p
      · rename_i hz
        obtain ⟨x,xs,rfl,_,hx,r1⟩ := Uh s (Ws e1) rx
        cases ry
        refine .inr (.inr ⟨x,_,xs,rfl,rfl,hx,by omega,by omega,by rw [r1.length]; exact Jy hz.2.2,N6 p s (r1.replicate _)⟩)
      · exact p.elim
    · exact p.elim
  · exact p.elim
end
def eqS : T → T → Option Bool
  | .non,.non => some true | .non,.int _ => some false | .int _,.non => some false | .non,.bl _ => some false | .bl _,.non => some false | .non,.str _ => some false | .str _,.non => some false
  | .int a,.int b => some (decide (a = b)) | .bl a,.bl b => some (decide (a = b)) | .str a,.str b => some (decide (a = b))
  | .int _,.str _ => some false | .str _,.int _ => some false | .bl _,.str _ => some false | .str _,.bl _ => some false
  | _,_ => none
def toD : Nat → Sto → T → Option PyData
  | _,_,.non => some .none
  | _,_,.bl b => some (.bool b)
  | _,_,.int i => some (.int i)
  | _,_,.str l => some (.str (S l))
  | 0,_,_ => none
  | n + 1,Z,.tup ts => (ts.mapM (toD n Z)).map .tuple
  | n + 1,Z,.frl ts => (ts.mapM (toD n Z)).map .list
  | n + 1,Z,.loc i => (getL Z i).bind fun ts => (ts.mapM (toD n Z)).map .list
  | _ + 1,_,_ => none
theorem Jk {α β : Type} {f : α → Option β} : ∀ {l : List α} {m : List β},l.mapM f = some m → Paired (fun a b => f a = some b) l m
  | [],m,h => by
    have : m = [] := by simpa using h.symm
    subst this; exact .nil
  | a :: l,m,h => by
    rw [List.mapM_cons] at h
    cases h1 : f a with
    | none => rw [h1] at h; cases h
    | some b =>
      rw [h1] at h
      cases h2 : l.mapM f with
      | none => rw [h2] at h; cases h
      | some m' =>
        rw [h2] at h
        have : m = b :: m' := (Option.some.inj h).symm
        subst this
        exact .cons h1 (Jk h2)
section
variable {K : PySem.W.Frag} {ι : List Addr} {H : Hp} {Z : Sto}
theorem Z7m (s : Sim K ι Z H) : ∀ (n : Nat) {v : V} {t : T} {d : PyData},Rep K ι H v t → toD n Z t = some d → Dp K H v d
  | n,v,t,d,r,e => by
    have all : ∀ m,n = m + 1 → ∀ {vs : List V} {ts : List T} {ds : List PyData},Reps K ι H vs ts → Paired (fun a b => toD m Z a = some b) ts ds → DpAll K H vs ds := by
      intro m hm vs ts ds r p
      induction p generalizing vs with
      | nil => cases r; exact .nil
      | cons h _ ih =>
        cases r with
        | cons r1 r2 => exact .cons (Z7m s m r1 h) (ih r2)
    cases r with
    | non => simp only [toD,Option.some.injEq] at e; subst e; exact .non
    | bl b => simp only [toD,Option.some.injEq] at e; subst e; exact .bl b
    | int i => simp only [toD,Option.some.injEq] at e; subst e; exact .int i
    | str l => simp only [toD,Option.some.injEq] at e; subst e; exact .str _
    | tup h r =>
      cases n with
      | zero => simp [toD] at e
      | succ n =>
        simp only [toD] at e
        obtain ⟨ds,h1,rfl⟩ := Option.map_eq_some_iff.mp e
        exact .tup h (all n rfl r (Jk h1))
    | frl h r =>
      cases n with
      | zero => simp [toD] at e
      | succ n =>
        simp only [toD] at e
        obtain ⟨ds,h1,rfl⟩ := Option.map_eq_some_iff.mp e
        exact .lst h.sq (all n rfl r (Jk h1))
    | loc h =>
      cases n with
      | zero => simp [toD] at e
      | succ n =>
        simp only [toD] at e
        obtain ⟨ts,h0,e⟩ := Option.bind_eq_some_iff.mp e
        obtain ⟨ds,h1,rfl⟩ := Option.map_eq_some_iff.mp e
        obtain ⟨a,vs,hv,_,h2,r⟩ := Uh s (Ws h0) (.loc h)
        cases hv
        exact .lst (SqL.of h2) (all n rfl r (Jk h1))
    | ref a => cases n <;> simp [toD] at e
    | ty n' => cases n <;> simp [toD] at e
    | lam h j => cases n <;> simp [toD] at e
    | ktp h r => cases n <;> simp [toD] at e
  termination_by n => n
end
def gEqD (x y : T) (Z : Sto) : Option Bool := match toD 16 Z x,toD 16 Z y with
  | some d,some e => if SeqAt.shaped d = true ∧ SeqAt.shaped e = true then some (PyData.eqv d e) else none
  | _,_ => none
def gEqB (x y : T) (Z : Sto) : Option Bool := match eqS x y with
  | some b => some b
  | none => gEqD x y Z
def gEq (x y : T) (Z : Sto) : Option (T × Sto) := (gEqB x y Z).map fun b => (.bl b,Z)
def gNe (x y : T) (Z : Sto) : Option (T × Sto) := (gEqB x y Z).map fun b => (.bl (!b),Z)
section
variable {X : Cx} {K : PySem.W.Frag} {ι : List Addr} {H : Hp}
theorem Zcu {a b : List Nat} : decide (V.str (S a) = V.str (S b)) = decide (a = b) := by
  by_cases h : a = b
  · rw [h]; simp
  · rw [decide_eq_false h,decide_eq_false]
    intro e
    exact h (S_inj (V.str.inj e))
theorem Zau {x y : V} {tx ty : T} {b : Bool} (rx : Rep K ι H x tx) (ry : Rep K ι H y ty) (e : eqS tx ty = some b) : scal x y = true ∧ decide (x = y) = b := by
  cases rx <;> cases ry <;> simp only [eqS,Option.some.injEq] at e <;> first | (subst e; refine ⟨rfl,?_⟩; first | exact Zcu | simp) | (cases e)
theorem Zav {x y : V} {tx ty : T} {Z : Sto} {b : Bool} (s : Sim K ι Z H) (rx : Rep K ι H x tx) (ry : Rep K ι H y ty) (e : gEqD tx ty Z = some b) : ∃ d e', Dp K H x d ∧ Dp K H y e' ∧ SeqAt.shaped d = true ∧ SeqAt.shaped e' = true ∧ PyData.eqv d e' = b := by
  unfold gEqD at e
  split at e
  · rename_i d d' h1 h2
    split at e
    · rename_i h
      cases e
      exact ⟨d, d', Z7m s 16 rx h1, Z7m s 16 ry h2, h.1, h.2, rfl⟩
    · cases e
  · cases e
theorem o_eq (hu : X.A.units + 64 < cLine) (hK : X.K = K) : OpF X K (compareOp .Eq) gEq := by
  subst hK
  refine Xy (U9 op_eq (op_eqD hu)) fun x y H Q h => ?_
  obtain ⟨ι,Z,tx,ty,s,rx,ry,p⟩ := h
  cases e : gEqB tx ty Z with
  | none => simp only [gEq,e] at p; exact p.elim
  | some b =>
    simp only [gEq,e,Option.map_some] at p
    unfold gEqB at e
    split at e
    · rename_i b' e'
      cases e
      obtain ⟨h1, h2⟩ := Zau rx ry e'
      exact .inl ⟨h1,by rw [h2]; exact Y7 p s (.bl _)⟩
    · obtain ⟨d, d', h1, h2, h3, h4, h5⟩ := Zav s rx ry e
      exact .inr ⟨d, d', h1, h2, h3, h4, by rw [h5]; exact Y7 p s (.bl _)⟩
theorem o_ne (hu : X.A.units + 64 < cLine) (hK : X.K = K) : OpF X K (compareOp .NotEq) gNe := by
  subst hK
  refine Xy (U9 op_ne (op_neD hu)) fun x y H Q h => ?_
  obtain ⟨ι,Z,tx,ty,s,rx,ry,p⟩ := h
  cases e : gEqB tx ty Z with
  | none => simp only [gNe,e] at p; exact p.elim
  | some b =>
    simp only [gNe,e,Option.map_some] at p
    unfold gEqB at e
    split at e
    · rename_i b' e'
      cases e
      obtain ⟨h1, h2⟩ := Zau rx ry e'
      exact .inl ⟨h1,by rw [h2]; exact Y7 p s (.bl _)⟩
    · obtain ⟨d, d', h1, h2, h3, h4, h5⟩ := Zav s rx ry e
      exact .inr ⟨d, d', h1, h2, h3, h4, by rw [h5]; exact Y7 p s (.bl _)⟩
end
def gLt : T → T → Sto → Option (T × Sto)
  | .int i,.int j,Z => some (.bl (decide (i < j)),Z)
  | .str a,.str b,Z => some (.bl (decide (a < b)),Z)
  | _,_,_ => none
def gLe : T → T → Sto → Option (T × Sto)
  | .int i,.int j,Z => some (.bl (decide (i ≤ j)),Z)
  | _,_,_ => none
def gGt : T → T → Sto → Option (T × Sto)
  | .int i,.int j,Z => some (.bl (decide (j < i)),Z)
  | _,_,_ => none
def gGe : T → T → Sto → Option (T × Sto)
  | .int i,.int j,Z => some (.bl (decide (j ≤ i)),Z)
  | _,_,_ => none
def isNon : T → Bool
  | .non => true
  | _ => false
def gIs : T → T → Sto → Option (T × Sto)
  | x,.non,Z => some (.bl (isNon x),Z)
  | _,_,_ => none
def gIsNot : T → T → Sto → Option (T × Sto)
  | x,.non,Z => some (.bl (!isNon x),Z)
  | _,_,_ => none
def flatT : T → Bool
  | .non => true | .bl _ => true | .int _ => true | .str _ => true | _ => false
def eqT : T → T → Bool
  | .non,.non => true
  | .bl a,.bl b => a == b
  | .bl a,.int b => (if a then 1 else 0) == b
  | .int a,.bl b => a == (if b then 1 else 0)
  | .int a,.int b => a == b
  | .str a,.str b => decide (b = a)
  | _,_ => false
def inT (x : T) (ts : List T) : Bool := ts.any fun y => eqT y x
def asSeq : T → Sto → Option (List T)
  | .tup ts,_ => some ts
  | t,Z => asList t Z
def gInB : T → T → Sto → Option Bool
  | .str [c],.str l,_ => some (decide (c ∈ l))
  | x,y,Z => match asSeq y Z with
    | some ts => if flatT x = true ∧ ts.all flatT = true then some (inT x ts) else none
    | none => none
def gIn (x y : T) (Z : Sto) : Option (T × Sto) := (gInB x y Z).map fun b => (.bl b,Z)
def gNotIn (x y : T) (Z : Sto) : Option (T × Sto) := (gInB x y Z).map fun b => (.bl (!b),Z)
section
variable {K : PySem.W.Frag} {ι : List Addr} {H : Hp} {Z : Sto}
theorem Z00 {v : V} {t : T} {ts : List T} (s : Sim K ι Z H) (r : Rep K ι H v t) (e : asSeq t Z = some ts) : ∃ a vs,v = .ref a ∧ (SqL K H a vs ∨ SqT K H a vs) ∧ Reps K ι H vs ts := by
  cases t with
  | tup us =>
    cases e
    obtain ⟨a,vs,rfl,h,r⟩ := r.tupE
    exact ⟨a,vs,rfl,.inr h,r⟩
  | _ =>
    obtain ⟨a,vs,rfl,h,r⟩ := Vn s r (by simpa [asSeq] using e)
    exact ⟨a,vs,rfl,.inl h,r⟩
theorem Z7n {v : V} {t : T} (r : Rep K ι H v t) : flatV v = flatT t := by cases r <;> rfl
theorem Zcz {v w : V} {t u : T} (r : Rep K ι H v t) (q : Rep K ι H w u) (h : flatT t = true) (h2 : flatT u = true) : eqV v w = eqT t u := by
  cases r <;> cases q <;> first | rfl | (exact eqV_S _ _) | (exact absurd h Bool.false_ne_true) | (exact absurd h2 Bool.false_ne_true)
theorem Z5y : ∀ {vs : List V} {ts : List T},Reps K ι H vs ts → vs.all flatV = ts.all flatT
  | _,_,.nil => rfl
  | _,_,.cons r q => by rw [List.all_cons,List.all_cons,Z7n r,Z5y q]
theorem Zaw {x : V} {t : T} (r : Rep K ι H x t) (h : flatT t = true) : ∀ {vs : List V} {ts : List T},Reps K ι H vs ts → ts.all flatT = true → inV x vs = inT t ts
  | _,_,.nil,_ => rfl
  | _, _, .cons r' q, hh => by
    rw [List.all_cons,Bool.and_eq_true] at hh
    show (eqV _ x || inV x _) = (eqT _ t || inT t _)
    rw [Zcz r' r hh.1 h, Zaw r h q hh.2]
theorem Zax {x y : V} {tx ty : T} {b : Bool} (s : Sim K ι Z H) (rx : Rep K ι H x tx) (ry : Rep K ι H y ty) (e : gInB tx ty Z = some b) :
    (∃ (c : Nat) (z : PySem.Str),x = .str ⟨#[c]⟩ ∧ y = .str z ∧ decide (c ∈ z.cps.toList) = b) ∨ ∃ p xs,y = .ref p ∧ (SqL K H p xs ∨ SqT K H p xs) ∧ flatV x = true ∧ xs.all flatV = true ∧ inV x xs = b := by
  unfold gInB at e
  split at e
  · cases e; cases rx; cases ry
    exact .inl ⟨_,_,rfl,rfl,by simp [S]⟩
  · split at e
    · rename_i ts h
      split at e
      · rename_i hf
        cases e
        obtain ⟨a,vs,rfl,hq,r⟩ := Z00 s ry h
        exact .inr ⟨a,vs,rfl,hq,(Z7n rx).trans hf.1,(Z5y r).trans hf.2,Zaw rx hf.1 r hf.2⟩
      · cases e
    · cases e
end
section
variable {X : Cx} {K : PySem.W.Frag}
theorem o_lt : OpF X K (compareOp .Lt) gLt := by
  refine Xy (U9 op_lt op_lt_str) fun x y H Q h => ?_
  obtain ⟨ι,Z,tx,ty,s,rx,ry,p⟩ := h
  unfold gLt at p
  split at p
  · cases rx; cases ry; exact .inl ⟨_,_,rfl,rfl,Y7 p s (.bl _)⟩
  · cases rx; cases ry; exact .inr ⟨_,_,rfl,rfl,Y7 p s (.bl _)⟩
  · exact p.elim
theorem o_in (hK : X.K = K) : OpF X K (compareOp .In) gIn := by
  subst hK
  refine Xy (U9 op_in_sign op_in_seq) fun x y H Q h => ?_
  obtain ⟨ι,Z,tx,ty,s,rx,ry,p⟩ := h
  cases e : gInB tx ty Z with
  | none => simp only [gIn,e] at p; exact p.elim
  | some b =>
    simp only [gIn,e,Option.map_some] at p
    have q := Y7 p s (.bl b)
    rcases Zax s rx ry e with ⟨c,z,rfl,rfl,hb⟩ | ⟨a,xs,rfl,h1,h2,h3,hb⟩
    · exact .inl ⟨c,z,rfl,rfl,by rw [hb]; exact q⟩
    · exact .inr ⟨a,xs,rfl,h1,h2,h3,by rw [hb]; exact q⟩
theorem Zbo (hK : X.K = K) : OpF X K (compareOp .NotIn) gNotIn := by
  subst hK
  refine Xy (U9 op_notIn_sign op_notIn_seq) fun x y H Q h => ?_
  obtain ⟨ι,Z,tx,ty,s,rx,ry,p⟩ := h
  cases e : gInB tx ty Z with
  | none => simp only [gNotIn,e] at p; exact p.elim
  | some b =>
    simp only [gNotIn,e,Option.map_some] at p
    have q := Y7 p s (.bl (!b))
    rcases Zax s rx ry e with ⟨c,z,rfl,rfl,hb⟩ | ⟨a,xs,rfl,h1,h2,h3,hb⟩
    · exact .inl ⟨c,z,rfl,rfl,by rw [hb]; exact q⟩
    · exact .inr ⟨a,xs,rfl,h1,h2,h3,by rw [hb]; exact q⟩
end
def eChain (g g' : T → T → Sto → Option (T × Sto)) (a b c : FE) : FE := fun ρ Z => (a ρ Z).bind fun x Z1 => (b ρ Z1).bind fun y Z2 => (lift (g x y Z2)).bind fun z Z3 => match z with
  | .bl true => (c ρ Z3).bind fun w Z4 => lift (g' y w Z4)
  | .bl false => .ok (.bl false) Z3
  | _ => .stuck
section
variable {X : Cx} {K : PySem.W.Frag} {W : Wc} {a b c : Expr} {fa fb fc : FE} {pos : Pos} {op op' : CmpOp} {g g' : T → T → Sto → Option (T × Sto)}
theorem Z5z {σ : L2.St} {H : Hp} {Q : VK} (h : tF K W (eChain g g' fa fb fc) σ H Q) : tChain (rF2 K g) (rF2 K g') (tF K W fa) (tF K W fb) (tF K W fc) σ H Q := by
  obtain ⟨ι,ρ,Z,is,p⟩ := h
  refine ⟨ι,ρ,Z,is,(Zi p).imp fun x H1 q => ?_⟩
  obtain ⟨ι1,Z1,tx,g1,s1,r1,p1⟩ := q
  refine ⟨ι1,ρ,Z1,is.gr g1 s1,(Zi p1).imp fun y H2 q2 => ?_⟩
  obtain ⟨ι2,Z2,ty,g2,s2,r2,p2⟩ := q2
  refine ⟨ι2,Z2,tx,ty,s2,r1.gr g2,r2,Ve (W := W.w) (σ := σ) ((Zi p2).imp fun z H3 q3 => ?_)⟩
  obtain ⟨ι3,Z3,tz,g3,s3,r3,p3⟩ := q3
  split at p3
  · cases r3
    refine ⟨true,rfl,?_⟩
    rw [if_pos rfl]
    refine ⟨ι3,ρ,Z3,is.gr ((g1.trans g2).trans g3) s3,(Zi p3).imp fun w H4 q4 => ?_⟩
    obtain ⟨ι4,Z4,tw,g4,s4,r4,p4⟩ := q4
    exact ⟨ι4,Z4,ty,tw,s4,(r2.gr g3).gr g4,r4,Ve p4⟩
  · cases r3
    refine ⟨false,rfl,?_⟩
    rw [if_neg Bool.false_ne_true]
    exact p3 ι3 H3 _ Gr.refl s3 (.bl false)
  · exact p3.elim
theorem Zbp (ho : OpF X K (compareOp op) g) (ho' : OpF X K (compareOp op') g') (ha : FJ X K W a fa) (hb : FJ X K W b fb) (hc : FJ X K W c fc) (hm : lastMarks [op, op'] [b, c] = false := by with_unfolding_all rfl) :
    FJ X K W (.Compare a [op, op'] [b, c] pos) (eChain g g' fa fb fc) := Xj (pe_chain ho ho' ha hb hc hm) fun _ _ _ h => Z5z h
theorem Z9p (ho : OpF X K (compareOp op) g) (ho' : OpF X K (compareOp op') g') (ha : FJ X K W a fa) (hb : FJ X K W b fb) (hc : FJ X K W c fc) (hm : lastMarks [op, op'] [b, c] = false := by with_unfolding_all rfl) :
    FTJ X K W (.Compare a [op, op'] [b, c] pos) (eBl (eChain g g' fa fb fc)) := by
  refine Z5x (pt_chain ho ho' ha hb hc hm) fun σ H Q h => ?_
  obtain ⟨ι,ρ,Z,is,p⟩ := h
  refine Z5z ⟨ι,ρ,Z,is,(Zi p).imp fun x H1 q => ?_⟩
  obtain ⟨ι1,Z1,tx,g1,s1,r1,p1⟩ := q
  cases r1 with
  | bl b => exact ⟨b,rfl,p1 ι1 H1 b Gr.refl s1 rfl⟩
  | _ => exact p1.elim
end
def gIx : T → T → Sto → Option (T × Sto)
  | .str l,.int i,Z => if l.length ≤ Lim then (atI l i).map fun c => (.str [c],Z) else none
  | x,.int i,Z => match asSeq x Z with
    | some ts => (atI ts i).map fun t => (t,Z)
    | none => none
  | _,_,_ => none
def gSl : T → Option Int → Option Int → Sto → Option (T × Sto)
  | .str l,lo,hi,Z => if l.length ≤ Lim then some (.str (cutL l lo hi),Z) else none
  | .tup ts,lo,hi,Z => some (.tup (cutL ts lo hi),Z)
  | x,lo,hi,Z => match asList x Z with
    | some ts => some (.loc Z.length,Z ++ [.lst (cutL ts lo hi)])
    | none => none
abbrev FO := Env → Sto → R (Option Int)
def oNone : FO := fun _ Z => .ok none Z
def oSome (f : FE) : FO := fun ρ Z => (f ρ Z).bind fun x Z1 => match x with
  | .int i => .ok (some i) Z1
  | _ => .stuck
def eSl (f : FE) (lo hi : FO) : FE := fun ρ Z => (f ρ Z).bind fun x Z1 => (lo ρ Z1).bind fun l Z2 => (hi ρ Z2).bind fun h Z3 => lift (gSl x l h Z3)
def oEq (_ : List Addr) (_ : Hp) (b c : Option Int) : Prop := b = c
def tFO (K : PySem.W.Frag) (W : Wc) (f : FO) : TO := fun σ H Q => ∃ ι ρ Z,Ie K W ι H σ ρ Z ∧ Post oEq K W.w σ ι H Q (f ρ Z)
theorem Reps.cut {K : PySem.W.Frag} {ι : List Addr} {H : Hp} {vs : List V} {ts : List T} (r : Reps K ι H vs ts) (lo hi : Option Int) : Reps K ι H (cutV vs lo hi) (cutL ts lo hi) := by
  unfold cutV cutL
  rw [r.length]
  exact (r.drop _).take _
theorem Zd0 {K : PySem.W.Frag} {ι : List Addr} {H : Hp} {vs : List V} {ts : List T} {i : Int} {t : T} (r : Reps K ι H vs ts) (e : atI ts i = some t) : ∃ v,atI vs i = some v ∧ Rep K ι H v t := by
  unfold atI at e ⊢
  rw [r.length]
  obtain ⟨j,h1,h2⟩ := Option.bind_eq_some_iff.mp e
  rw [h1]
  exact r.get h2
section
variable {X : Cx} {K : PySem.W.Frag} {W : Wc} {a : Expr} {fa : FE} {pos p2 : Pos} {lo hi : Option Expr} {fl fh : FO}
theorem Z7o {r r' : R2} (h : IxR X r) (i : ∀ x y H Q, r' x y H Q → r x y H Q) : IxR X r' := fun value slice pins s σ H x y v u Q I rx ry q => h value slice pins s σ H x y v u Q I rx ry (i _ _ _ _ q)
theorem i_ix (hK : X.K = K) : IxR X (rF2 K gIx) := by
  subst hK
  refine Z7o ix_seq fun x y H Q h => ?_
  obtain ⟨ι,Z,tx,ty,s,rx,ry,p⟩ := h
  unfold gIx at p
  split at p
  · split at p
    · rename_i hz
      cases rx; cases ry
      cases e : atI _ _ with
      | none => rw [e] at p; exact p.elim
      | some c =>
        rw [e] at p
        exact .inr (.inr ⟨_,_,c,rfl,rfl,by rw [S_len]; exact Jy hz,e,Y7 p s (.str [c])⟩)
    · exact p.elim
  · cases ry
    split at p
    · rename_i ts hs
      obtain ⟨a,vs,rfl,hq,r⟩ := Z00 s rx hs
      cases e : atI ts _ with
      | none => rw [e] at p; exact p.elim
      | some t =>
        rw [e] at p
        obtain ⟨v,h1,h2⟩ := Zd0 r e
        rcases hq with hq | hq
        · exact .inl ⟨a,vs,_,v,rfl,rfl,hq,h1,Y7 p s h2⟩
        · exact .inr (.inl ⟨a,vs,_,v,rfl,rfl,hq,h1,Y7 p s h2⟩)
    · exact p.elim
  · exact p.elim
theorem Z1q : PO X none (tFO K W oNone) := ⟨fun pins s σ H Q I h => by
  obtain ⟨ι,ρ,Z,is,p⟩ := h
  exact po_none.run pins s σ H Q I (p ι H none Gr.refl is.sim rfl)⟩
theorem Z0k (h : FJ X K W a fa) : PO X (some a) (tFO K W (oSome fa)) := ⟨fun pins s σ H Q I q => by
  obtain ⟨ι,ρ,Z,is,p⟩ := q
  refine (po_some h).run pins s σ H Q I ⟨ι,ρ,Z,is,(Zi p).imp fun x H1 q => ?_⟩
  obtain ⟨ι1,Z1,tx,g1,s1,r1,p1⟩ := q
  cases r1 with
  | int i => exact ⟨i,rfl,p1 ι1 H1 (some i) Gr.refl s1 rfl⟩
  | _ => exact p1.elim⟩
theorem f_sl (hK : X.K = K) (ha : FJ X K W a fa) (hl : PO X lo (tFO K W fl)) (hh : PO X hi (tFO K W fh)) : FJ X K W (.Subscript a (.Slice lo hi none p2) pos) (eSl fa fl fh) := by
  subst hK
  refine Xj (pe_slice ((sl_list (X := X)).or ((sl_tupA (X := X)).or sl_str)) ha hl hh) fun σ H Q h => ?_
  obtain ⟨ι,ρ,Z,is,p⟩ := h
  refine ⟨ι,ρ,Z,is,(Zi p).imp fun x H1 q => ?_⟩
  obtain ⟨ι1,Z1,tx,g1,s1,r1,p1⟩ := q
  refine ⟨ι1,ρ,Z1,is.gr g1 s1,(Zi p1).imp fun l H2 q2 => ?_⟩
  obtain ⟨ι2, Z2, l', g2, s2, r2, p2⟩ := q2
  cases (show l = l' from r2)
  refine ⟨ι2,ρ,Z2,is.gr (g1.trans g2) s2,(Zi p2).imp fun u H3 q3 => ?_⟩
  obtain ⟨ι3, Z3, u', g3, s3, r3, p3⟩ := q3
  cases (show u = u' from r3)
  have rx := (r1.gr g2).gr g3
  have p4 := Ve p3
  unfold gSl at p4
  split at p4
  · split at p4
    · rename_i hz
      cases rx
      exact .inr (.inr ⟨_,rfl,by rw [S_len]; exact Jy hz,by rw [Zcs]; exact Y7 p4 s3 (.str _)⟩)
    · exact p4.elim
  · obtain ⟨a,vs,rfl,hq,r⟩ := rx.tupE
    refine .inr (.inl ⟨a,vs,rfl,hq,fun e => ?_,fun _ => Z55 p4 s3 (r.cut _ _)⟩)
    refine Y7 p4 s3 ?_
    have h := r.cut l u
    have e3 : cutV vs l u = vs := by
      unfold cutV
      rw [e.1,e.2,List.drop_zero,Nat.sub_zero]
      exact List.take_of_length_le (Nat.le_refl _)
    rw [e3] at h
    exact .tup hq h
  · split at p4
    · rename_i ts hs
      obtain ⟨a,vs,rfl,hq,r⟩ := Vn s3 rx hs
      exact .inl ⟨a,vs,rfl,hq,N6 p4 s3 (r.cut _ _)⟩
    · exact p4.elim
end
def eTup (f : FA) : FE := fun ρ Z => (f ρ Z).bind fun xs Z1 => .ok (.tup xs) Z1
def eLst (f : FA) : FE := fun ρ Z => (f ρ Z).bind fun xs Z1 => .ok (.loc Z1.length) (Z1 ++ [.lst xs])
section
variable {X : Cx} {K : PySem.W.Frag} {W : Wc} {es : List Expr} {f : FA} {pos : Pos}
def ofLen (es : List Expr) (f : FA) : Prop := ∀ ρ Z xs Z1,f ρ Z = .ok xs Z1 → xs.length = es.length
theorem Zd : ofLen [] aNil := fun ρ Z xs Z1 h => by
  unfold aNil at h
  injection h with h1 h2
  subst h1; rfl
theorem Za {a : Expr} {fa : FE} (h : ofLen es f) : ofLen (a :: es) (aCons fa f) := fun ρ Z xs Z1 e => by
  unfold aCons at e
  cases e1 : fa ρ Z with
  | ok x Z2 =>
    rw [e1,Yk] at e
    cases e2 : f ρ Z2 with
    | ok ys Z3 =>
      rw [e2,Yk] at e
      injection e with h1 h2
      subst h1
      rw [List.length_cons,List.length_cons,h _ _ _ _ e2]
    | exc _ _ => rw [e2] at e; cases e
    | stuck => rw [e2] at e; cases e
  | exc _ _ => rw [e1] at e; cases e
  | stuck => rw [e1] at e; cases e
theorem f_tup {k} (ha : FAJ X K W es f) (hn : ofLen es f) (hz : es.length ≤ 1000 := by decide) : FJ X K W (.Tuple es k pos) (eTup f) := by
  refine Xj (pe_tup ha) fun σ H Q h => ?_
  obtain ⟨ι,ρ,Z,is,p⟩ := h
  refine ⟨ι,ρ,Z,is,?_⟩
  unfold eTup at p
  cases e : f ρ Z with
  | ok ts Z1 =>
    rw [e,Yk] at p
    intro ι1 H1 vs g1 s1 r1
    refine ⟨?_,fun q n => ?_⟩
    · rw [r1.length,hn _ _ _ _ e]; exact Jy (by unfold Lim; omega)
    · exact p ι1 _ _ (g1.trans (Gr.new0 n)) (s1.same (Ud n)) (.tup (SqT.of upd_same) (r1.gr (Gr.new0 n)))
  | exc x Z1 => rw [e] at p; exact p
  | stuck => rw [e] at p; exact p
theorem Wz (ha : FAJ X K W es f) (hn : ofLen es f) (hz : es.length ≤ 1000 := by decide) : FJ X K W (.List es pos) (eLst f) := by
  refine Xj (pe_lst ha) fun σ H Q h => ?_
  obtain ⟨ι,ρ,Z,is,p⟩ := h
  refine ⟨ι,ρ,Z,is,?_⟩
  unfold eLst at p
  cases e : f ρ Z with
  | ok ts Z1 =>
    rw [e,Yk] at p
    intro ι1 H1 vs g1 s1 r1
    refine ⟨?_,fun q n => ?_⟩
    · rw [r1.length,hn _ _ _ _ e]; exact Jy (by unfold Lim; omega)
    · exact p (ι1 ++ [q]) _ _ (g1.trans (Gr.new n)) (s1.newL r1 n) (Z3c s1)
  | exc x Z1 => rw [e] at p; exact p
  | stuck => rw [e] at p; exact p
end
end Fx
set_option maxHeartbeats 4000000
namespace Fx
open PySem PySem.Spec PyProof.Rows L2 SX Ap
variable [Tb]
inductive RS where
  | nx (ρ : Env) (Z : Sto) | rt (t : T) (Z : Sto) | bk (ρ : Env) (Z : Sto) | ct (ρ : Env) (Z : Sto) | exc (x : Ex) (ρ : Env) (Z : Sto) | stuck
abbrev FS := Env → Sto → RS
def bS {α : Type} (ρ : Env) : R α → (α → Sto → RS) → RS
  | .ok a Z,k => k a Z
  | .exc x Z,_ => .exc x ρ Z
  | .stuck,_ => .stuck
def seqS : RS → (Env → Sto → RS) → RS
  | .nx ρ Z,k => k ρ Z
  | r,_ => r
def seqL : RS → (Env → Sto → RS) → RS
  | .nx ρ Z,k => k ρ Z
  | .ct ρ Z,k => k ρ Z
  | .bk ρ Z,_ => .nx ρ Z
  | r,_ => r
@[simp] theorem Z7p {α : Type} (ρ : Env) (a : α) (Z : Sto) (k : α → Sto → RS) : bS ρ (.ok a Z) k = k a Z := (rfl)
@[simp] theorem bS_exc {α : Type} (ρ : Env) (x : Ex) (Z : Sto) (k : α → Sto → RS) : bS ρ (.exc x Z) k = .exc x ρ Z := (rfl)
@[simp] theorem bS_stuck {α : Type} (ρ : Env) (k : α → Sto → RS) : bS ρ (.stuck : R α) k = .stuck := (rfl)
@[simp] theorem seqS_nx (ρ : Env) (Z : Sto) (k : Env → Sto → RS) : seqS (.nx ρ Z) k = k ρ Z := (rfl)
@[simp] theorem seqS_rt (t : T) (Z : Sto) (k : Env → Sto → RS) : seqS (.rt t Z) k = .rt t Z := (rfl)
@[simp] theorem seqS_bk (ρ : Env) (Z : Sto) (k : Env → Sto → RS) : seqS (.bk ρ Z) k = .bk ρ Z := (rfl)
@[simp] theorem seqS_ct (ρ : Env) (Z : Sto) (k : Env → Sto → RS) : seqS (.ct ρ Z) k = .ct ρ Z := (rfl)
@[simp] theorem seqS_exc (x : Ex) (ρ : Env) (Z : Sto) (k : Env → Sto → RS) : seqS (.exc x ρ Z) k = .exc x ρ Z := (rfl)
@[simp] theorem Z3d (ρ : Env) (Z : Sto) (k : Env → Sto → RS) : seqL (.nx ρ Z) k = k ρ Z := (rfl)
@[simp] theorem Z7q (ρ : Env) (Z : Sto) (k : Env → Sto → RS) : seqL (.ct ρ Z) k = k ρ Z := (rfl)
@[simp] theorem seqL_bk (ρ : Env) (Z : Sto) (k : Env → Sto → RS) : seqL (.bk ρ Z) k = .nx ρ Z := (rfl)
@[simp] theorem Zbq (t : T) (Z : Sto) (k : Env → Sto → RS) : seqL (.rt t Z) k = .rt t Z := (rfl)
@[simp] theorem seqL_exc (x : Ex) (ρ : Env) (Z : Sto) (k : Env → Sto → RS) : seqL (.exc x ρ Z) k = .exc x ρ Z := (rfl)
structure Is (K : PySem.W.Frag) (ι : List Addr) (H : Hp) (σ : L2.St) (ρ : Env) (Z : Sto) : Prop where
  len : σ.length = ρ.length
  env : Envs K ι H σ ρ
  sim : Sim K ι Z H
theorem Is.ie {K : PySem.W.Frag} {W : WX} {ι : List Addr} {H : Hp} {σ : L2.St} {ρ : Env} {Z : Sto} (h : Is K ι H σ ρ Z) : Ie K (Wt W) ι H σ ρ Z := ⟨h.len,h.env,h.sim,trivial⟩
theorem Is.gr {K : PySem.W.Frag} {ι ι' : List Addr} {H H' : Hp} {σ : L2.St} {ρ : Env} {Z Z' : Sto} (h : Is K ι H σ ρ Z) (g : Gr ι ι' H H') (s : Sim K ι' Z' H') : Is K ι' H' σ ρ Z' := ⟨h.len, h.env.gr g, s⟩
def PostS (K : PySem.W.Frag) (W : WX) (ι : List Addr) (H : Hp) (D : Ends) : RS → Prop
  | .nx ρ' Z' => ∀ ι' H' σ', Gr ι ι' H H' → Is K ι' H' σ' ρ' Z' → D.nx σ' H'
  | .rt t Z' => ∀ ι' H' v, Gr ι ι' H H' → Sim K ι' Z' H' → Rep K ι' H' v t → D.rt v H'
  | .bk ρ' Z' => ∀ ι' H' σ', Gr ι ι' H H' → Is K ι' H' σ' ρ' Z' → D.bk σ' H'
  | .ct ρ' Z' => ∀ ι' H' σ', Gr ι ι' H H' → Is K ι' H' σ' ρ' Z' → D.ct σ' H'
  | .exc x ρ' Z' => ∀ ι' H' σ' cls d, Gr ι ι' H H' → Is K ι' H' σ' ρ' Z' → RepX K ι' H' cls d x → W cls d σ' H'
  | .stuck => False
def tS (K : PySem.W.Frag) (W : WX) (g : FS) : TS := fun D σ H => ∃ ι ρ Z,Is K ι H σ ρ Z ∧ PostS K W ι H D (g ρ Z)
abbrev FSJ (X : Cx) (K : PySem.W.Frag) (W : WX) (st : Stmt) (g : FS) : Prop := PS X st (tS K W g)
abbrev FBJ (X : Cx) (K : PySem.W.Frag) (W : WX) (st : List Stmt) (g : FS) : Prop := PSs X st (tS K W g)
section
variable {α β : Type} {K : PySem.W.Frag} {W : WX} {ι ι1 : List Addr} {H H1 : Hp} {σ : L2.St} {ρ : Env} {Z : Sto} {D : Ends}
theorem PostS.shift {r : RS} (h : PostS K W ι H D r) (g : Gr ι ι1 H H1) : PostS K W ι1 H1 D r := by
  cases r with
  | nx => exact fun ι' H' σ' g' => h ι' H' σ' (g.trans g')
  | rt => exact fun ι' H' σ' g' => h ι' H' σ' (g.trans g')
  | bk => exact fun ι' H' σ' g' => h ι' H' σ' (g.trans g')
  | ct => exact fun ι' H' σ' g' => h ι' H' σ' (g.trans g')
  | exc => exact fun ι' H' σ' c d g' => h ι' H' σ' c d (g.trans g')
  | stuck => exact h
theorem Z1r {rep : List Addr → Hp → β → α → Prop} {r : R α} {k : α → Sto → RS} (is : Is K ι H σ ρ Z) (h : PostS K W ι H D (bS ρ r k)) :
    Post rep K W σ ι H (fun b H1 => ∃ ι1 Z1 a,Gr ι ι1 H H1 ∧ Sim K ι1 Z1 H1 ∧ rep ι1 H1 b a ∧ PostS K W ι1 H1 D (k a Z1)) r := by
  cases r with
  | ok a S => exact fun ι1 H1 b g s r => ⟨ι1,S,a,g,s,r,PostS.shift h g⟩
  | exc x S => exact fun ι' H' cls d g s rx => h ι' H' σ cls d g (is.gr g s) rx
  | stuck => exact h
theorem Z9q {r : RS} {k : Env → Sto → RS} (h : PostS K W ι H D (seqS r k)) :
    PostS K W ι H { D with nx := fun σ' H' => ∃ ι' ρ' Z', Gr ι ι' H H' ∧ Is K ι' H' σ' ρ' Z' ∧ PostS K W ι' H' D (k ρ' Z') } r := by
  cases r with
  | nx ρ' Z' => exact fun ι' H' σ' g i => ⟨ι', ρ', Z', g, i, PostS.shift h g⟩
  | rt => exact h
  | bk => exact h
  | ct => exact h
  | exc => exact h
  | stuck => exact h
theorem Z7r {r : RS} {k : Env → Sto → RS} (h : PostS K W ι H D (seqL r k)) :
    PostS K W ι H { D with nx := fun σ' H' => ∃ ι' ρ' Z', Gr ι ι' H H' ∧ Is K ι' H' σ' ρ' Z' ∧ PostS K W ι' H' D (k ρ' Z'), ct := fun σ' H' => ∃ ι' ρ' Z', Gr ι ι' H H' ∧ Is K ι' H' σ' ρ' Z' ∧ PostS K W ι' H' D (k ρ' Z'), bk := D.nx } r := by
  cases r with
  | nx ρ' Z' => exact fun ι' H' σ' g i => ⟨ι', ρ', Z', g, i, PostS.shift h g⟩
  | rt => exact h
  | bk => exact h
  | ct ρ' Z' => exact fun ι' H' σ' g i => ⟨ι', ρ', Z', g, i, PostS.shift h g⟩
  | exc => exact h
  | stuck => exact h
theorem PostS.imp {r : RS} {D2 : Ends} (h : PostS K W ι H D r) (h1 : ∀ σ H,D.nx σ H → D2.nx σ H) (h2 : ∀ σ H,D.rt σ H → D2.rt σ H) (h3 : ∀ σ H,D.bk σ H → D2.bk σ H) (h4 : ∀ σ H,D.ct σ H → D2.ct σ H) : PostS K W ι H D2 r := by
  cases r with
  | nx => exact fun ι' H' σ' g i => h1 _ _ (h ι' H' σ' g i)
  | rt => exact fun ι' H' σ' g i r => h2 _ _ (h ι' H' σ' g i r)
  | bk => exact fun ι' H' σ' g i => h3 _ _ (h ι' H' σ' g i)
  | ct => exact fun ι' H' σ' g i => h4 _ _ (h ι' H' σ' g i)
  | exc => exact h
  | stuck => exact h
end
def sSet (i : Nat) (f : FE) : FS := fun ρ Z => bS ρ (f ρ Z) fun x Z1 => .nx (ρ.set i (some x)) Z1
def sRet (f : FE) : FS := fun ρ Z => bS ρ (f ρ Z) fun x Z1 => .rt x Z1
def sRetN : FS := fun _ Z => .rt .non Z
def sDrop (f : FE) : FS := fun ρ Z => bS ρ (f ρ Z) fun _ Z1 => .nx ρ Z1
def sPass : FS := fun ρ Z => .nx ρ Z
def sBrk : FS := fun ρ Z => .bk ρ Z
def sCnt : FS := fun ρ Z => .ct ρ Z
def sIf (c : FT) (a b : FS) : FS := fun ρ Z => bS ρ (c ρ Z) fun x Z1 => if x = true then a ρ Z1 else b ρ Z1
def bCons (a b : FS) : FS := fun ρ Z => seqS (a ρ Z) b
section
variable {X : Cx} {K : PySem.W.Frag} {W : WX} {e c : Expr} {fe : FE} {ft : FT} {st : Stmt} {sts a b : List Stmt} {g g' : FS} {pos : Pos} {i : Nat} {x : PySem.Str}
theorem Z7s {k : T → Sto → RS} {σ : L2.St} {ρ : Env} {ι : List Addr} {H : Hp} {Z : Sto} {D : Ends} {Q : VK} (is : Is K ι H σ ρ Z) (h : PostS K W ι H D (bS ρ (fe ρ Z) k)) (hq : ∀ v H1 ι1 Z1 t,Gr ι ι1 H H1 → Is K ι1 H1 σ ρ Z1 → Rep K ι1 H1 v t → PostS K W ι1 H1 D (k t Z1) → Q v H1) : tF K (Wt W) fe σ H Q :=
  ⟨ι,ρ,Z,is.ie,(Z1r (rep := Rep K) is h).imp fun v H1 ⟨ι1,Z1,t,g1,s1,r1,p1⟩ => hq v H1 ι1 Z1 t g1 (is.gr g1 s1) r1 p1⟩
theorem Zd1 {k : Bool → Sto → RS} {σ : L2.St} {ρ : Env} {ι : List Addr} {H : Hp} {Z : Sto} {D : Ends} {Q : Bool → Hp → Prop} (is : Is K ι H σ ρ Z) (h : PostS K W ι H D (bS ρ (ft ρ Z) k)) (hq : ∀ v H1 ι1 Z1,Gr ι ι1 H H1 → Is K ι1 H1 σ ρ Z1 → PostS K W ι1 H1 D (k v Z1) → Q v H1) : tFT K (Wt W) ft σ H Q :=
  ⟨ι,ρ,Z,is.ie,(Z1r (rep := bEq) is h).imp fun v H1 ⟨ι1,Z1,t,g1,s1,r1,p1⟩ => hq v H1 ι1 Z1 g1 (is.gr g1 s1) (by cases (show v = t from r1); exact p1)⟩
theorem Is.set {ι : List Addr} {H : Hp} {σ : L2.St} {ρ : Env} {Z : Sto} {v : V} {t : T} (h : Is K ι H σ ρ Z) (r : Rep K ι H v t) (i : Nat) : Is K ι H (σ.set i (some v)) (ρ.set i (some t)) Z :=
  ⟨by rw [List.length_set,List.length_set]; exact h.len,h.env.set r i h.len,h.sim⟩
theorem Xg {pos' : Pos} (hN : X.N.Nodup) (hi : X.N[i]? = some x) (hx : Loc X.env.scope x) (he : FJ X K (Wt W) e fe) (hs : swapsWith e (some (.Name x pos')) pos.line X.env = pure false := by rfl) (hf : X.fn x = true ∨ X.env.scope.names.lookup x = some .local := by first | exact .inl rfl | exact .inr rfl | assumption) :
    FSJ X K W (.Assign [.Name x pos'] e pos) (sSet i fe) := Jx (ps_set hN hi hx he hs hf) fun D σ H h => by
  obtain ⟨ι,ρ,Z,is,p⟩ := h
  exact Z7s is p fun v H1 ι1 Z1 t g1 i1 r1 p1 => p1 ι1 H1 _ Gr.refl (i1.set r1 i)
theorem Ys (he : FJ X K (Wt W) e fe) : FSJ X K W (.Return (some e) pos) (sRet fe) := Jx (ps_ret he) fun D σ H h => by
  obtain ⟨ι,ρ,Z,is,p⟩ := h
  exact Z7s is p fun v H1 ι1 Z1 t g1 i1 r1 p1 => p1 ι1 H1 v Gr.refl i1.sim r1
theorem Z7t (he : FJ X K (Wt W) e fe) (hs : swapsWith e none pos.line X.env = pure false := by rfl) : FSJ X K W (.Expr e pos) (sDrop fe) := Jx (ps_expr he hs) fun D σ H h => by
  obtain ⟨ι,ρ,Z,is,p⟩ := h
  exact Z7s is p fun v H1 ι1 Z1 t g1 i1 r1 p1 => p1 ι1 H1 σ Gr.refl i1
theorem Q4 (hc : FTJ X K (Wt W) c ft) (ha : FBJ X K W a g) (hb : FBJ X K W b g') : FSJ X K W (.If c a b pos) (sIf ft g g') := Jx (ps_if hc ha hb) fun D σ H h => by
  obtain ⟨ι,ρ,Z,is,p⟩ := h
  refine Zd1 is p fun v H1 ι1 Z1 g1 i1 p1 => ?_
  cases v with
  | true => exact ⟨ι1,ρ,Z1,i1,p1⟩
  | false => exact ⟨ι1,ρ,Z1,i1,p1⟩
theorem V7 : FBJ X K W [] sPass := Z7k pss_nil fun D σ H h => by
  obtain ⟨ι,ρ,Z,is,p⟩ := h
  exact p ι H σ Gr.refl is
theorem Yb (h : FSJ X K W st g) : FBJ X K W [st] g := pss_one h
theorem Zk (h : FSJ X K W st g) (h2 : FBJ X K W sts g') : FBJ X K W (st :: sts) (bCons g g') := Z7k (pss_cons h h2) fun D σ H h => by
  obtain ⟨ι,ρ,Z,is,p⟩ := h
  refine ⟨ι, ρ, Z, is, (Z9q p).imp (fun σ' H' q => ?_) (fun _ _ q => q) (fun _ _ q => q) (fun _ _ q => q)⟩
  obtain ⟨ι', ρ', Z', _, i', p'⟩ := q
  exact ⟨ι', ρ', Z', i', p'⟩
end
def sPar (ix : List Nat) (f : FA) : FS := fun ρ Z => bS ρ (f ρ Z) fun xs Z1 => .nx ((ix.zip xs).foldl (fun r p => r.set p.1 (some p.2)) ρ) Z1
section
variable {X : Cx} {K : PySem.W.Frag} {W : WX} {fa : FA}
theorem Zay {k : List T → Sto → RS} {σ : L2.St} {ρ : Env} {ι : List Addr} {H : Hp} {Z : Sto} {D : Ends} {Q : List V → Hp → Prop} (is : Is K ι H σ ρ Z) (h : PostS K W ι H D (bS ρ (fa ρ Z) k)) (hq : ∀ v H1 ι1 Z1 t,fa ρ Z = .ok t Z1 → Gr ι ι1 H H1 → Is K ι1 H1 σ ρ Z1 → Reps K ι1 H1 v t → PostS K W ι1 H1 D (k t Z1) → Q v H1) : tFA K (Wt W) fa σ H Q := by
  refine ⟨ι,ρ,Z,is.ie,?_⟩
  cases e : fa ρ Z with
  | ok a S =>
    rw [e] at h
    exact fun ι1 H1 b g s r => hq b H1 ι1 S a e g (is.gr g s) r (PostS.shift h g)
  | exc x S =>
    rw [e] at h
    exact fun ι' H' cls d g s rx => h ι' H' σ cls d g (is.gr g s) rx
  | stuck => rw [e] at h; exact h
theorem Zaz {i j : Nat} {x y : PySem.Str} {a b : Expr} {px py pt pos : Pos} {kt k2 pt2} (hc : X.calm = true) (hN : X.N.Nodup) (hi : X.N[i]? = some x) (hj : X.N[j]? = some y) (hij : i ≠ j)
    (hx : X.env.scope.names.lookup x = some .local) (hy : X.env.scope.names.lookup y = some .local) (ha : FAJ X K (Wt W) [a,b] fa) (hn : ofLen [a,b] fa)
    (hw : swappedStores [.Tuple [.Name x px,.Name y py] kt pt] (.Tuple [a,b] k2 pt2) X.env = pure (some [x,y]))
    (hs : swapsWithSole [.Tuple [.Name x px,.Name y py] kt pt] (.Tuple [a,b] k2 pt2) pos.line X.env = pure false := by rfl) :
    FSJ X K W (.Assign [.Tuple [.Name x px,.Name y py] kt pt] (.Tuple [a,b] k2 pt2) pos) (sPar [i,j] fa) := Jx (ps_par hc hN hi hj hij hx hy ha hw hs) fun D σ H h => by
  obtain ⟨ι,ρ,Z,is,p⟩ := h
  refine Zay is p fun v H1 ι1 Z1 t e g1 i1 r1 p1 => ?_
  have hl := hn _ _ _ _ e
  match t,r1,hl with
  | [t1,t2],.cons r1 (.cons r2 .nil),_ => exact ⟨_,_,rfl,p1 ι1 H1 _ Gr.refl ((i1.set r1 i).set r2 j)⟩
end
abbrev FG := T → Env → Sto → R Env
abbrev FGs := List T → Env → Sto → R Env
def rEnv (K : PySem.W.Frag) (ι : List Addr) (H : Hp) (σ : L2.St) (ρ : Env) : Prop := σ.length = ρ.length ∧ Envs K ι H σ ρ
def tG (K : PySem.W.Frag) (W : WX) (g : FG) : TG := fun v σ H Q => ∃ ι ρ Z t,Is K ι H σ ρ Z ∧ Rep K ι H v t ∧ Post (rEnv K) K W σ ι H Q (g t ρ Z)
def tGs (K : PySem.W.Frag) (W : WX) (g : FGs) : TGs := fun v σ H Q => ∃ ι ρ Z t,Is K ι H σ ρ Z ∧ Reps K ι H v t ∧ Post (rEnv K) K W σ ι H Q (g t ρ Z)
def gNm (i : Nat) : FG := fun t ρ Z => .ok (ρ.set i (some t)) Z
def gsNil : FGs := fun ts ρ Z => match ts with
  | [] => .ok ρ Z
  | _ => .stuck
def noX {α : Type} : R α → R α
  | .exc _ _ => .stuck
  | r => r
def gsCons (g : FG) (r : FGs) : FGs := fun ts ρ Z => match ts with
  | t :: ts => (noX (g t ρ Z)).bind fun ρ1 Z1 => noX (r ts ρ1 Z1)
  | _ => .stuck
def gTp (n : Nat) (r : FGs) : FG := fun t ρ Z => match t with
  | .tup ts => if ts.length = n then r ts ρ Z else .stuck
  | _ => .stuck
theorem Z1n {α β : Type} {rep : List Addr → Hp → β → α → Prop} {K : PySem.W.Frag} {W W' : WX} {σ σ' : L2.St} {ι : List Addr} {H : Hp} {Q : β → Hp → Prop} {r : R α} (h : Post rep K W σ ι H Q (noX r)) : Post rep K W' σ' ι H Q r := by
  cases r with
  | ok => exact h
  | exc => exact h.elim
  | stuck => exact h
section
variable {X : Cx} {K : PySem.W.Frag} {W : WX} {pos : Pos} {e : Expr} {es : List Expr}
theorem Z60 {tg : Expr} {t t' : TG} (h : PG X tg t) (i : ∀ v σ H Q, t' v σ H Q → t v σ H Q) : PG X tg t' := ⟨fun pins s σ H v u Q I r q => h.run pins s σ H v u Q I r (i _ _ _ _ q)⟩
theorem Z7u {tg : List Expr} {t t' : TGs} (h : PGs X tg t) (i : ∀ v σ H Q, t' v σ H Q → t v σ H Q) : PGs X tg t' := ⟨fun pins s σ H v u Q I r q => h.run pins s σ H v u Q I r (i _ _ _ _ q)⟩
theorem Vo {i : Nat} {x : PySem.Str} (hN : X.N.Nodup) (hi : X.N[i]? = some x) (hx : Loc X.env.scope x) (hf : X.fn x = true ∨ X.env.scope.names.lookup x = some .local := by first | exact .inl rfl | exact .inr rfl | assumption) : PG X (.Name x pos) (tG K W (gNm i)) :=
  Z60 (pg_name hN hi hx hf) fun v σ H Q h => by
    obtain ⟨ι,ρ,Z,t,is,r,p⟩ := h
    have i2 := is.set r i
    exact p ι H _ Gr.refl is.sim ⟨i2.len,i2.env⟩
theorem Z1s : PGs X [] (tGs K W gsNil) := Z7u pgs_nil fun v σ H Q h => by
  obtain ⟨ι,ρ,Z,t,is,r,p⟩ := h
  cases r with
  | nil => exact ⟨rfl,p ι H _ Gr.refl is.sim ⟨is.len,is.env⟩⟩
  | cons _ _ => exact p.elim
theorem Vg {g : FG} {gs : FGs} (h1 : PG X e (tG K W g)) (h2 : PGs X es (tGs K W gs)) (hs : (assignEach (e :: es) X.env).map (·.2) = assign e X.env :: (assignEach es X.env).map (·.2) := by rfl) : PGs X (e :: es) (tGs K W (gsCons g gs)) := Z7u (pgs_cons h1 h2 hs) fun v σ H Q h => by
  obtain ⟨ι,ρ,Z,t,is,r,p⟩ := h
  cases r with
  | nil => exact p.elim
  | cons r1 r2 =>
    refine ⟨_,_,rfl,ι,ρ,Z,_,is,r1,Z1n (W := W) (σ := σ) ((Zi (rep := rEnv K) p).imp fun σ1 H1 q => ?_)⟩
    obtain ⟨ι1,Z1,ρ1,g1,s1,⟨hl,he⟩,p1⟩ := q
    exact ⟨ι1,ρ1,Z1,_,⟨hl,he,s1⟩,r2.gr g1,Z1n p1⟩
theorem Z49 {k : Nat} {gs : FGs} {n : Nat} (hK : X.K = K) (hc : X.calm = true) (h : PGs X es (tGs K W gs)) (hn : (assignEach es X.env).length = n := by rfl) (hst : (assignEach es X.env).findIdx? (·.1) = none := by rfl) : PG X (.Tuple es k pos) (tG K W (gTp n gs)) := by
  subst hK
  refine Z60 (pg_tup hc h hn hst) fun v σ H Q h => ?_
  obtain ⟨ι,ρ,Z,t,is,r,p⟩ := h
  cases t with
  | tup ts =>
    obtain ⟨a,vs,rfl,hq,r⟩ := r.tupE
    simp only [gTp] at p
    split at p
    · rename_i hl
      exact ⟨a,vs,rfl,hq,by rw [r.length]; exact hl,ι,ρ,Z,ts,is,r,p⟩
    · exact p.elim
  | _ => exact p.elim
def sAsg (f : FE) (g : FG) : FS := fun ρ Z => bS ρ (f ρ Z) fun x Z1 => bS ρ (g x ρ Z1) fun ρ2 Z2 => .nx ρ2 Z2
theorem Z1t {tg : Expr} {fe : FE} {g : FG} (he : FJ X K (Wt W) e fe) (hg : PG X tg (tG K W g)) (hs : swapsWithSole [tg] e pos.line X.env = pure false := by rfl) (hw : swappedStores [tg] e X.env = pure none := by rfl)
    (h1 : (assignEach [tg] X.env).map (·.2) = [assign tg X.env] := by rfl) : FSJ X K W (.Assign [tg] e pos) (sAsg fe g) := Jx (ps_asg he hg hs hw h1) fun D σ H h => by
  obtain ⟨ι,ρ,Z,is,p⟩ := h
  refine Z7s is p fun v H1 ι1 Z1 t g1 i1 r1 p1 => ?_
  refine ⟨ι1,ρ,Z1,t,i1,r1,(Z1r (rep := rEnv K) i1 p1).imp fun σ2 H2 q => ?_⟩
  obtain ⟨ι2,Z2,ρ2,g2,s2,⟨hl,he⟩,p2⟩ := q
  exact p2 ι2 H2 σ2 Gr.refl ⟨hl,he,s2⟩
end
def gSetL : T → T → T → Sto → Option Sto
  | .loc j,.int k,t,Z => match getL Z j with
    | some ts => (ixN ts.length k).map fun n => Z.set j (.lst (ts.set n t))
    | none => none
  | _,_,_,_ => none
def gSubs (fo fi : FE) : FG := fun t ρ Z => (fo ρ Z).bind fun o Z1 => (fi ρ Z1).bind fun i Z2 => match gSetL o i t Z2 with
  | some Z3 => .ok ρ Z3
  | none => .stuck
section
variable {X : Cx} {K : PySem.W.Frag} {W : WX} {pos : Pos} {o e : Expr} {fo fi fe : FE}
theorem Z7v {ι : List Addr} {H : Hp} {Z Z3 : Sto} {x y v : V} {tx ty t : T} {Q : Hp → Prop} (s : Sim K ι Z H) (rx : Rep K ι H x tx) (ry : Rep K ι H y ty) (r : Rep K ι H v t) (e : gSetL tx ty t Z = some Z3) (q : ∀ H', Gr ι ι H H' → Sim K ι Z3 H' → Q H') : rSetL x y v H Q := by
  unfold gSetL at e
  split at e
  · split at e
    · rename_i ts h
      obtain ⟨n,h1,rfl⟩ := Option.map_eq_some_iff.mp e
      obtain ⟨a,vs,rfl,ha,hl,rl⟩ := Uh s (Ws h) rx
      cases ry
      refine ⟨a,vs,_,n,rfl,rfl,hl,by rw [rl.length]; exact h1,?_⟩
      have g := Gr.mut (ι := ι) (o := .lst (vs.set n v)) hl trivial (List.mem_of_getElem? ha)
      exact q _ g (s.set ha ⟨_,upd_same,(rl.gr g).set (r.gr g) n⟩)
    · cases e
  · cases e
def gIAdd : T → T → Sto → Option (T × Sto)
  | .int i,.int j,Z => some (.int (i + j),Z)
  | .str a,.str b,Z => if a.length + b.length ≤ Lim then some (.str (a ++ b),Z) else none
  | _,_,_ => none
end
abbrev ItF := Nat → Sto → Option (Option T)
abbrev FI := Env → Sto → R ItF
def loopN (it : ItF) (body : T → FS) : Nat → Nat → Env → Sto → RS
  | 0,_,_,_ => .stuck
  | n + 1,k,ρ,Z => match it k Z with
    | none => .stuck
    | some none => .nx ρ Z
    | some (some t) => seqL (body t ρ Z) fun ρ' Z' => loopN it body n (k + 1) ρ' Z'
def sFor (it : FI) (g : FG) (b : FS) : FS := fun ρ Z => bS ρ (it ρ Z) fun j Z1 => loopN j (fun t ρ' Z' => bS ρ' (g t ρ' Z') b) Fuel 0 ρ Z1
def ItR (K : PySem.W.Frag) (ι : List Addr) (H : Hp) (J : It) (it : ItF) : Prop := ∀ k ι' H' Z', Gr ι ι' H H' → Sim K ι' Z' H' → match it k Z' with
  | none => True
  | some none => J.stop k H'
  | some (some t) => J.go k H' ∧ ∀ x H'', J.yld k H' x H'' → Gr ι' ι' H' H'' ∧ Sim K ι' Z' H'' ∧ Rep K ι' H'' x t
def tI (K : PySem.W.Frag) (W : WX) (f : FI) : TI := fun σ H Q => ∃ ι ρ Z,Is K ι H σ ρ Z ∧ Post (ItR K) K W σ ι H Q (f ρ Z)
section
variable {X : Cx} {K : PySem.W.Frag} {W : WX} {pos : Pos} {tg iter c : Expr} {body : List Stmt} {fi : FI} {g : FG} {b : FS} {ft : FT}
theorem Z2q (hp : PassesOwn (model X.prog X.w) X.A X.env X.xe) (hc : X.calm = true) (hi : PI X tg iter (tI K W fi)) (hg : PG X tg (tG K W g)) (hb : FBJ X K W body b) (hs : ∀ x,foldedSetIterable iter X.env x = pure x := by intro _; rfl) :
    FSJ X K W (.For tg iter body [] pos) (sFor fi g b) := Jx (ps_for hp hc hi hg hb hs) fun D σ H h => by
  obtain ⟨ι,ρ,Z,is,p⟩ := h
  refine ⟨ι,ρ,Z,is,(Z1r (rep := ItR K) is p).imp fun J H1 q => ?_⟩
  obtain ⟨ι1,Z1,it,g1,s1,rJ,p1⟩ := q
  refine ⟨fun k m σ' H' => ∃ ι' ρ' Z', Gr ι1 ι' H1 H' ∧ Is K ι' H' σ' ρ' Z' ∧ PostS K W ι' H' D (loopN it (fun t ρ' Z' => bS ρ' (g t ρ' Z') b) m k ρ' Z'), ⟨Fuel, ι1, ρ, Z1, Gr.refl, is.gr g1 s1, p1⟩, ?_⟩
  rintro k m σ' H' ⟨ι', ρ', Z', g', i', p'⟩
  cases m with
  | zero => exact p'.elim
  | succ m =>
    have hj := rJ k ι' H' Z' g' i'.sim
    unfold loopN at p'
    cases e : it k Z' with
    | none => rw [e] at p'; exact p'.elim
    | some o =>
      rw [e] at hj p'
      cases o with
      | none => exact .inl ⟨hj, p' ι' H' σ' Gr.refl i'⟩
      | some t =>
        refine .inr ⟨hj.1, _, fun σ2 H2 n => ⟨m, Nat.lt_succ_self m, n⟩, fun x H'' y => ?_⟩
        obtain ⟨g2, s2, r2⟩ := hj.2 x H'' y
        have i2 := i'.gr g2 s2
        have p2 := Z7r (PostS.shift p' g2)
        refine ⟨ι', ρ', Z', t, i2, r2, (Z1r (rep := rEnv K) i2 p2).imp fun σ3 H3 q => ?_⟩
        obtain ⟨ι3,Z3,ρ3,g3,s3,⟨hl,he⟩,p3⟩ := q
        have hN : ∀ σ4 H4, (∃ ι4 ρ4 Z4, Gr ι' ι4 H'' H4 ∧ Is K ι4 H4 σ4 ρ4 Z4 ∧ PostS K W ι4 H4 D (loopN it (fun t ρ' Z' => bS ρ' (g t ρ' Z') b) m (k + 1) ρ4 Z4)) → ∃ ι4 ρ4 Z4, Gr ι1 ι4 H1 H4 ∧ Is K ι4 H4 σ4 ρ4 Z4 ∧ PostS K W ι4 H4 D (loopN it (fun t ρ' Z' => bS ρ' (g t ρ' Z') b) m (k + 1) ρ4 Z4) :=
          fun σ4 H4 ⟨ι4, ρ4, Z4, g4, i4, p4⟩ => ⟨ι4, ρ4, Z4, (g'.trans g2).trans g4, i4, p4⟩
        exact ⟨ι3,ρ3,Z3,⟨hl,he,s3⟩,p3.imp hN (fun _ _ q => q) (fun _ _ q => q) hN⟩
end
def itSeq (ts : List T) : ItF := fun k _ => some ts[k]?
def itLoc (i : Nat) : ItF := fun k Z => (getL Z i).map fun ts => ts[k]?
def itEnum (it : ItF) : ItF := fun k Z => (it k Z).map fun o => o.map fun t => .tup [.int (k : Int),t]
def itRng (lo : Int) (n : Nat) : ItF := fun k _ => some (if k < n then some (.int (lo + k)) else none)
def itStr (l : List Nat) : ItF := fun k _ => some (l[k]?.map fun c => .str [c])
def iSeqT (f : FE) : FI := fun ρ Z => (f ρ Z).bind fun x Z1 => match x with
  | .tup ts => .ok (itSeq ts) Z1
  | _ => .stuck
def iSeqL (f : FE) : FI := fun ρ Z => (f ρ Z).bind fun x Z1 => match x with
  | .frl ts => .ok (itSeq ts) Z1
  | .loc i => match getL Z1 i with
    | some _ => .ok (itLoc i) Z1
    | none => .stuck
  | _ => .stuck
def iStr (f : FE) : FI := fun ρ Z => (f ρ Z).bind fun x Z1 => match x with
  | .str l => .ok (itStr l) Z1
  | _ => .stuck
def iRng (f : FA) : FI := fun ρ Z => (f ρ Z).bind fun xs Z1 => match xs with
  | [.int j] => if -(2 ^ 62) ≤ j ∧ j < 2 ^ 62 then .ok (itRng 0 j.toNat) Z1 else .stuck
  | [.int i,.int j] => if -(2 ^ 62) ≤ i ∧ i < 2 ^ 62 ∧ -(2 ^ 62) ≤ j ∧ j < 2 ^ 62 then .ok (itRng i (j - i).toNat) Z1 else .stuck
  | _ => .stuck
section
variable {X : Cx} {K : PySem.W.Frag} {W : WX} {pos p : Pos} {tg l a b : Expr} {fl : FE} {fa : FA}
theorem Z1u {t t' : TI} (h : PI X tg l t) (i : ∀ σ H Q, t' σ H Q → t σ H Q) : PI X tg l t' := ⟨fun pins s σ H R I q => h.run pins s σ H R I (i _ _ _ q)⟩
theorem Z61 {ι : List Addr} {H : Hp} {Z : Sto} {v : V} {t : T} {it : ItF} (s : Sim K ι Z H) (r : Rep K ι H v t) (e : (match t with
  | .frl ts => some (itSeq ts)
  | .loc i => match getL Z i with
    | some _ => some (itLoc i)
    | none => none
  | _ => none) = some it) : ∃ a,v = .ref a ∧ (∃ xs,SqL K H a xs) ∧ ItR K ι H (Itl K a) it := by
  cases t with
  | frl ts =>
    cases e
    cases r with
    | frl hq rs =>
      refine ⟨_, rfl, ⟨_, hq.sq⟩, fun k ι' H' Z' g' s' => ?_⟩
      have hq' := (hq.gr g').sq
      show match (itSeq ts k Z') with | none => True | some none => _ | some (some t) => _
      simp only [itSeq]
      cases e : ts[k]? with
      | none => exact ⟨_, hq', by rw [rs.length]; exact List.getElem?_eq_none_iff.mp e⟩
      | some u =>
        obtain ⟨x,h1,h2⟩ := rs.get e
        refine ⟨⟨_, x, hq', h1⟩, fun y H'' hy => ?_⟩
        obtain ⟨rfl,hy⟩ := hy
        have := hy _ hq'
        rw [h1] at this; cases this
        exact ⟨Gr.refl, s', h2.gr g'⟩
  | loc i =>
    simp only at e
    split at e
    · rename_i ts hl
      cases e
      obtain ⟨a,vs,rfl,ha,h1,h2⟩ := Uh s (Ws hl) r
      refine ⟨a, rfl, ⟨vs, SqL.of h1⟩, fun k ι' H' Z' g' s' => ?_⟩
      simp only [itLoc]
      cases e : getL Z' i with
      | none => exact trivial
      | some ts' =>
        obtain ⟨a', vs', ea, ha', h1', h2'⟩ := Uh s' (Ws e) (.loc (g'.pre _ _ ha))
        cases ea
        simp only [Option.map_some]
        cases e2 : ts'[k]? with
        | none => exact ⟨_, SqL.of h1', by rw [h2'.length]; exact List.getElem?_eq_none_iff.mp e2⟩
        | some u =>
          obtain ⟨x, h3, h4⟩ := h2'.get e2
          refine ⟨⟨_, x, SqL.of h1', h3⟩, fun y H'' hy => ?_⟩
          obtain ⟨rfl,hy⟩ := hy
          have := hy _ (SqL.of h1')
          rw [h3] at this; cases this
          exact ⟨Gr.refl, s', h4⟩
    · cases e
  | _ => cases e
theorem Zbr (hK : X.K = K) (hl : FJ X K (Wt W) l fl) : PI X tg l (tI K W (iSeqL fl)) := by
  subst hK
  refine Z1u (pi_list hl) fun σ H Q h => ?_
  obtain ⟨ι,ρ,Z,is,p⟩ := h
  refine ⟨ι,ρ,Z,is.ie,(Zi (rep := Rep X.K) p).imp fun v H1 q => ?_⟩
  obtain ⟨ι1,Z1,t,g1,s1,r1,p1⟩ := q
  cases t with
  | frl ts =>
    obtain ⟨a,rfl,hx,hI⟩ := Z61 (it := itSeq ts) s1 r1 rfl
    exact ⟨a,rfl,hx,p1 ι1 H1 _ Gr.refl s1 hI⟩
  | loc i =>
    simp only at p1
    split at p1
    · rename_i ts e
      obtain ⟨a,rfl,hx,hI⟩ := Z61 (it := itLoc i) s1 r1 (by simp only [e])
      exact ⟨a,rfl,hx,p1 ι1 H1 _ Gr.refl s1 hI⟩
    · exact p1.elim
  | _ => exact p1.elim
theorem Zd2 (hK : X.K = K) (hl : FJ X K (Wt W) l fl) : PI X tg l (tI K W (iSeqT fl)) := by
  subst hK
  refine Z1u (pi_tup hl) fun σ H Q h => ?_
  obtain ⟨ι,ρ,Z,is,p⟩ := h
  refine ⟨ι,ρ,Z,is.ie,(Zi (rep := Rep X.K) p).imp fun v H1 q => ?_⟩
  obtain ⟨ι1,Z1,t,g1,s1,r1,p1⟩ := q
  cases t with
  | tup ts =>
    obtain ⟨a,vs,rfl,hq,rs⟩ := r1.tupE
    refine ⟨a, rfl, ⟨_, hq⟩, p1 ι1 H1 _ Gr.refl s1 fun k ι' H' Z' g' s' => ?_⟩
    have hq' := SqT.gr g' hq
    show match (itSeq ts k Z') with | none => True | some none => _ | some (some t) => _
    simp only [itSeq]
    cases e : ts[k]? with
    | none => exact ⟨_, hq', by rw [rs.length]; exact List.getElem?_eq_none_iff.mp e⟩
    | some u =>
      obtain ⟨x,h1,h2⟩ := rs.get e
      refine ⟨⟨_, x, hq', h1⟩, fun y H'' hy => ?_⟩
      obtain ⟨rfl,hy⟩ := hy
      have := hy _ hq'
      rw [h1] at this; cases this
      exact ⟨Gr.refl, s', h2.gr g'⟩
  | _ => exact p1.elim
theorem Zd3 (hl : FJ X K (Wt W) l fl) : PI X tg l (tI K W (iStr fl)) := by
  refine Z1u (pi_str hl) fun σ H Q h => ?_
  obtain ⟨ι,ρ,Z,is,p⟩ := h
  refine ⟨ι,ρ,Z,is.ie,(Zi (rep := Rep K) p).imp fun v H1 q => ?_⟩
  obtain ⟨ι1,Z1,t,g1,s1,r1,p1⟩ := q
  cases t with
  | str u =>
    cases r1
    refine ⟨_, rfl, p1 ι1 H1 _ Gr.refl s1 fun k ι' H' Z' g' s' => ?_⟩
    simp only [itStr]
    cases e : u[k]? with
    | none => exact show (S u).cps.size ≤ k by simpa [S] using e
    | some c =>
      have hk : k < u.length := (List.getElem?_eq_some_iff.mp e).1
      refine ⟨show k < (S u).cps.size by simpa [S] using hk, fun y H'' hy => ?_⟩
      obtain ⟨rfl, c', hc', rfl⟩ := hy
      have : c' = c := by
        have h2 : u[k]? = some c' := by simpa [S] using hc'
        rw [e] at h2; exact (Option.some.inj h2).symm
      subst this
      exact ⟨Gr.refl, s', .str [c']⟩
  | _ => exact p1.elim
theorem Zd4 {ι : List Addr} {H : Hp} (lo : Int) (n : Nat) : ItR K ι H (Itr lo n) (itRng lo n) := fun k ι' H' Z' g' s' => by
  simp only [itRng]
  by_cases h : k < n
  · rw [if_pos h]
    refine ⟨h, fun y H'' hy => ?_⟩
    obtain ⟨rfl,rfl⟩ := hy
    exact ⟨Gr.refl, s', .int _⟩
  · rw [if_neg h]
    exact Nat.le_of_not_lt h
theorem Qw (hg : Gl X "range") (hm : X.mg "range" = none) (ha : FAJ X K (Wt W) [a] fa) (hn : ofLen [a] fa) (hs : starEach [a] X.env = [(false, eval a X.env)] := by rfl) : PI X tg (.Call (.Name "range" p) [a] [] pos) (tI K W (iRng fa)) := by
  refine Z1u (pi_range1 hg hm ha hs) fun σ H Q h => ?_
  obtain ⟨ι,ρ,Z,is,p⟩ := h
  refine ⟨ι,ρ,Z,is.ie,?_⟩
  unfold iRng at p
  cases e : fa ρ Z with
  | ok ts Z1 =>
    rw [e,Yk] at p
    have hl := hn _ _ _ _ e
    intro ι1 H1 vs g1 s1 r1
    match ts,r1,hl with
    | [t],.cons r .nil,_ =>
      cases t with
      | int j =>
        simp only at p
        split at p
        · rename_i hb
          cases r
          exact ⟨j,rfl,hb.1,hb.2,p ι1 H1 _ g1 s1 (Zd4 _ _)⟩
        · exact p.elim
      | _ => exact p.elim
  | exc x Z1 => rw [e] at p; exact p
  | stuck => rw [e] at p; exact p
def iEnm (f : FA) : FI := fun ρ Z => (f ρ Z).bind fun xs Z1 => match xs with
  | [.frl ts] => .ok (itEnum (itSeq ts)) Z1
  | [.loc i] => match getL Z1 i with
    | some _ => .ok (itEnum (itLoc i)) Z1
    | none => .stuck
  | _ => .stuck
theorem Zb0 {ι : List Addr} {H : Hp} {a : Addr} {it : ItF} (h : ItR K ι H (Itl K a) it) : ItR K ι H (Ite K a) (itEnum it) := fun k ι' H' Z' g' s' => by
  have h' := h k ι' H' Z' g' s'
  simp only [itEnum]
  cases e : it k Z' with
  | none => exact trivial
  | some o =>
    rw [e] at h'
    cases o with
    | none => exact h'
    | some t =>
      refine ⟨h'.1, fun x H'' y => ?_⟩
      obtain ⟨p,v,rfl,np,rfl,hv⟩ := y
      obtain ⟨_, _, r⟩ := h'.2 v H' ⟨rfl, hv⟩
      exact ⟨Gr.new0 np, s'.same (Ud np), .tup (SqT.of upd_same) (.cons (.int _) (.cons (r.gr (Gr.new0 np)) .nil))⟩
theorem Zbs {tpos : Pos} {elts : List Expr} {kk : Nat} (hK : X.K = K) (hg : Gl X "enumerate") (hm : X.mg "enumerate" = none) (ha : FAJ X K (Wt W) [a] fa) (hn : ofLen [a] fa) (hs : starEach [a] X.env = [(false, eval a X.env)] := by rfl) : PI X (.Tuple elts kk tpos) (.Call (.Name "enumerate" p) [a] [] pos) (tI K W (iEnm fa)) := by
  subst hK
  refine Z1u (pi_enum hg hm ha hs) fun σ H Q h => ?_
  obtain ⟨ι,ρ,Z,is,p⟩ := h
  refine ⟨ι,ρ,Z,is.ie,?_⟩
  unfold iEnm at p
  cases e : fa ρ Z with
  | ok ts Z1 =>
    rw [e,Yk] at p
    have hl := hn _ _ _ _ e
    intro ι1 H1 vs g1 s1 r1
    match ts,r1,hl with
    | [t],.cons r .nil,_ =>
      cases t with
      | frl us =>
        obtain ⟨b,rfl,⟨xs,hx⟩,hI⟩ := Z61 (it := itSeq us) s1 r rfl
        exact ⟨b,xs,rfl,hx,p ι1 H1 _ g1 s1 (Zb0 hI)⟩
      | loc i =>
        simp only at p
        split at p
        · rename_i us e
          obtain ⟨b,rfl,⟨xs,hx⟩,hI⟩ := Z61 (it := itLoc i) s1 r (by simp only [e])
          exact ⟨b,xs,rfl,hx,p ι1 H1 _ g1 s1 (Zb0 hI)⟩
        · exact p.elim
      | _ => exact p.elim
  | exc x Z1 => rw [e] at p; exact p
  | stuck => rw [e] at p; exact p
end
end Fx
set_option maxHeartbeats 4000000
namespace Fx
open PySem PySem.Spec PyProof.Rows L2 SX Ap
variable [Tb]
abbrev FF := List T → Sto → R T
def spF (K : PySem.W.Frag) (n : Nat) (F : FF) : Sp := fun vs H Q E => vs.length = n ∧ ∃ ι Z ts,Sim K ι Z H ∧ Reps K ι H vs ts ∧ Post (Rep K) K (fun cls d _ H => E cls d H) [] ι H Q (F ts Z)
def runF (n : Nat) (b : FS) : FF := fun ts Z => match b (ts.map some ++ List.replicate (n - ts.length) none) Z with
  | .nx _ Z' => .ok .non Z'
  | .rt t Z' => .ok t Z'
  | .exc x _ Z' => .exc x Z'
  | _ => .stuck
theorem Z2r {K : PySem.W.Frag} {ι : List Addr} {H : Hp} {vs : List V} {ts : List T} (r : Reps K ι H vs ts) (m : Nat) : Envs K ι H (vs.map some ++ List.replicate m none) (ts.map some ++ List.replicate m none) := fun i t h => by
  by_cases hi : i < ts.length
  · rw [List.getElem?_append_left (by rw [List.length_map]; exact hi),List.getElem?_map] at h
    cases e : ts[i]? with
    | none => rw [e] at h; cases h
    | some u =>
      rw [e] at h
      cases h
      obtain ⟨v,h1,h2⟩ := r.get e
      exact ⟨v,by rw [List.getElem?_append_left (by rw [List.length_map,r.length]; exact hi),List.getElem?_map,h1]; rfl,h2⟩
  · rw [List.getElem?_append_right (by rw [List.length_map]; omega)] at h
    rw [List.getElem?_replicate] at h
    split at h <;> cases h
abbrev FnG (P : Program) (w : World) (K : PySem.W.Frag) (mg : PySem.Str → Option Value) (base : Heap) (k : Nat) (f : Addr) (fd : FuncData) (ps : List PySem.Str) (sp : Sp) : Prop := GOk P w K mg base (L2.CX P w) k f fd ps sp
section
variable {P : Program} {w : World} {K : PySem.W.Frag} {mg : PySem.Str → Option Value} {base : Heap}
theorem Zd5 {k : Nat} {f : Addr} {name qual : PySem.Str} {params : Arguments} {body : List Stmt} {scope : Scope} {dV kV doc pm cdv ct oc : Value} {an od : Option Addr}
    {osl : Array (Option Value)} {N ps : List PySem.Str} {sp : Sp} (lk : K.lookup f = some ⟨oc,od,.func (PySem.W.fnOf name qual params body scope dV kV doc pm an cdv ct),osl⟩) (hcd : PySem.W.codeIn K cdv qual = true) (S : FnScope N ps scope)
    (len : ∀ vs H Q E,sp vs H Q E → vs.length = ps.length)
    (hbody : ∀ (A : Around) (outer : List PySem.Env) (s : Shared) (H : Hp) (vs : List V) (Q : VK) (E : XK),Room k (A.deeper (envOfC qual scope s.heap.objs.size f cdv)) → A.guards = some [] → sp vs H Q E →
      ∃ t, PSs (cxOf (L2.CX P w) P w K mg base N qual scope f cdv A outer s H E) body t ∧ t { nx := fun _ H' => Q .non H', rt := Q } (L2.start N vs) H) :
    FnG P w K mg base (k + 1) f (PySem.W.fnOf name qual params body scope dV kV doc pm an cdv ct) ps sp := by
  refine ⟨len,fun A outer s H args us vs Q E hr hG e0 hb r hsp => ?_⟩
  have hl := len _ _ _ _ hsp
  have KX : K.In s.heap := e0.mod.kin.keeps fun b o e => (e0.bs b o e).1
  have lim : s.heap.NoLimit := e0.mod.nolimit.keeps fun b o e => (e0.bs b o e).1
  have hkind : ∀ y ∈ ps.zip us,scope.names.lookup y.1 = some .local ∨ (scope.names.lookup y.1 = some .cell ∧ ((cellsFrom (s.heap.objs.size + 1) scope.names []).lookup y.1).isSome = true) := fun ⟨n,v⟩ hy => by
    rcases S.par n (List.of_mem_zip hy).1 with q | q
    · exact .inl q
    · exact .inr ⟨q,PySem.W.cellsFrom_some _ _ _ (.inl q)⟩
  refine codeAny_call_function hr.depth (KX _ _ lk) rfl S.co S.gen rfl (PySem.W.codeRec_of KX hcd) (hb _ _ _ _ ?_)
  refine wpAny_newFunctionEnv_cells S.kind hkind fun env he s1 x => ?_
  subst he
  refine ⟨lim.keeps x.toInCall.keep,codeAny_func ?_⟩
  obtain ⟨t,ht,hq⟩ := hbody A outer s H vs Q E (hr.deeper _) hG hsp
  have I : Inv (cxOf (L2.CX P w) P w K mg base N qual scope f cdv A outer s H E) [] (L2.start N vs) H s1 := inv_start S hr.hd e0 hl r x
  refine wpAny_mono (ht.run [] s1 (L2.start N vs) H _ I hq) (fun fl s' hs => ?_) fun e s' hs => hs
  have fin : ∀ {σ' : L2.St} {H' : Hp} {v : V} {u : Value}, Inv (cxOf (L2.CX P w) P w K mg base N qual scope f cdv A outer s H E) [] σ' H' s' → RelV v u → Q v H' → CE outer P w H s Q u s' :=
    fun {σ' H' v u} J rv q => ⟨v, H', J.os, J.bare, J.base, J.hok, rv, q⟩
  cases fl with
  | ret u =>
    obtain ⟨v, σ', H', J, rv, q⟩ := hs
    exact fin J rv q
  | next =>
    obtain ⟨σ', H', J, q⟩ := hs
    exact fin (v := V.non) (u := Value.none) J rfl q
  | brk =>
    obtain ⟨_,_,_,q⟩ := hs
    exact False.elim q
  | cont =>
    obtain ⟨_,_,_,q⟩ := hs
    exact False.elim q
def BodyJ (P : Program) (w : World) (K : PySem.W.Frag) (mg : PySem.Str → Option Value) (base : Heap) (k : Nat) (f : Addr) (N : List PySem.Str) (qual : PySem.Str) (scope : Scope) (body : List Stmt) (b : FS) : Prop :=
  ∀ (cdv : Value) (A : Around) (outer : List PySem.Env) (s : Shared) (H : Hp) (E : XK),Room k (A.deeper (envOfC qual scope s.heap.objs.size f cdv)) → A.guards = some [] →
    FBJ (cxOf (L2.CX P w) P w K mg base N qual scope f cdv A outer s H E) K (fun cls d _ H => E cls d H) body b
theorem Zd6 {k : Nat} {f : Addr} {N : List PySem.Str} {qual : PySem.Str} {scope : Scope} {body : List Stmt} {b : FS} {n : Nat} (hb : BodyJ P w K mg base k f N qual scope body b) (cdv : Value) (A : Around) (outer : List PySem.Env) (s : Shared) (H : Hp) (vs : List V) (Q : VK) (E : XK) (hr : Room k (A.deeper (envOfC qual scope s.heap.objs.size f cdv))) (hG : A.guards = some []) (h : spF K n (runF N.length b) vs H Q E) :
      ∃ t, PSs (cxOf (L2.CX P w) P w K mg base N qual scope f cdv A outer s H E) body t ∧ t { nx := fun _ H' => Q .non H', rt := Q } (L2.start N vs) H := by
  refine ⟨_,hb cdv A outer s H E hr hG,?_⟩
  obtain ⟨hl,ι,Z,ts,sim,r,p⟩ := h
  have hl2 := r.length
  refine ⟨ι,ts.map some ++ List.replicate (N.length - ts.length) none,Z,⟨by simp only [L2.start,List.length_append,List.length_map,List.length_replicate]; omega,?_,sim⟩,?_⟩
  · have := Z2r r (N.length - ts.length)
    unfold L2.start
    rw [hl2]
    exact this
  · unfold runF at p
    split at p
    · rename_i e; rw [e]; exact fun ι' H' σ' g is => p ι' H' _ g is.sim .non
    · rename_i e; rw [e]; exact p
    · rename_i e; rw [e]; exact fun ι' H' σ' cls d g is rx => p ι' H' cls d g is.sim rx
    · exact p.elim
theorem fnFD {x qual : PySem.Str} {params : Arguments} {body : List Stmt} {scope : Scope} {dvs : List V} {kws : List (PySem.Str × V)} {f : Addr} {fd : FuncData} {N ps : List PySem.Str} {k : Nat} {b : FS} (F : FunD K x qual params body scope dvs kws f fd) (S : FnScope N ps scope) (hb : BodyJ P w K mg base k f N qual scope body b) :
    FnG P w K mg base (k + 1) f fd ps (spF K ps.length (runF N.length b)) := by
  obtain ⟨oc,od,dV,kV,doc,pm,an,cdv,ct,osl,rfl,lk,hcd,_,_⟩ := F.ex
  exact Zd5 lk hcd S (fun vs H Q E h => h.1) fun A outer s H vs Q E hr hG h => Zd6 hb cdv A outer s H vs Q E hr hG h
end
def eCall (F : FF) (ds : List T) (fa : FA) : FE := fun ρ Z => (fa ρ Z).bind fun ts Z1 => F (ts ++ ds) Z1
def eCallB (g : List T → Sto → Option (T × Sto)) (fa : FA) : FE := fun ρ Z => (fa ρ Z).bind fun xs Z1 => lift (g xs Z1)
def Dfl (K : PySem.W.Frag) (vs : List V) (ts : List T) : Prop := ∀ ι H,Reps K ι H vs ts
theorem Dfl.nil {K : PySem.W.Frag} : Dfl K [] [] := fun _ _ => .nil
section
variable {X : Cx} {K : PySem.W.Frag} {W : Wc} {x : PySem.Str} {p pos : Pos} {e : Expr} {es : List Expr} {fa : FA} {k n : Nat} {f : Addr} {fd : FuncData} {ps : List PySem.Str} {F : FF} {dvs : List V} {ds : List Value} {dts : List T}
theorem Zd7 {pins : List (Addr × Obj)} {σ : L2.St} {H : Hp} {s : Shared} {Q : VK} {us : List Value} {vs : List V} {sp : Sp} (G : FnG X.prog X.w X.K X.mg X.base k f fd ps sp) (hr : Room k X.A) (hG : X.A.guards = some []) (hb : Binds X.K fd ps ds) (hd : Vals dvs ds) (tk : Takes X W.w)
    (I : Inv X pins σ H s) (r : Vals vs us) (h : sp (vs ++ dvs) H Q (WE W.w σ)) : wpAny (model X.prog X.w) X.A (call (.ref f) us) (EP X pins σ Q) X.xe s := by
  have r2 : Vals (vs ++ dvs) (us ++ ds) := r.append hd
  have hl : (us ++ ds).length = ps.length := by rw [← r2.length]; exact G.len _ _ _ _ h
  refine wpAny_call (codeAny_mono (G.run X.A X.stack s H ⟨us, []⟩ (us ++ ds) (vs ++ dvs) Q (WE W.w σ) hr hG I.env0 (hb s us I.kIn hl) r2 h) fun r s' hq => ?_)
  cases r with
  | error e => exact passAt tk σ pins H s e s' I hq
  | ok fl =>
    cases fl with
    | ret u => exact I.after hq
    | next => exact False.elim hq
    | brk => exact False.elim hq
    | cont => exact False.elim hq
theorem Post.wx {α β : Type} {rep : List Addr → Hp → β → α → Prop} {W W' : WX} {σ σ' : L2.St} {ι : List Addr} {H : Hp} {Q : β → Hp → Prop} {r : R α} (h : Post rep K W σ ι H Q r) (i : ∀ cls d H, W cls d σ H → W' cls d σ' H) : Post rep K W' σ' ι H Q r := by
  cases r with
  | ok => exact h
  | exc => exact fun ι' H' cls d g s rx => i _ _ _ (h ι' H' cls d g s rx)
  | stuck => exact h
theorem Yl (hK : X.K = K) (G : FnG X.prog X.w X.K X.mg X.base k f fd ps (spF X.K n F)) (hr : Room k X.A) (hG : X.A.guards = some []) (hg : Gl X x) (hm : X.mg x = some (.ref f)) (hk : PySem.W.keepIn X.K (.ref f) = true) (hb : Binds X.K fd ps ds) (hd : Vals dvs ds) (hdf : Dfl K dvs dts) (tk : Takes X W.w)
    (ha : FAJ X K W (e :: es) fa) (hn : ofLen (e :: es) fa) (hln : (e :: es).length + dts.length = n := by rfl) (hdb : (x == ("__debug__" : PySem.Str)) = false := by decide) (he : starEach (e :: es) X.env = (false, eval e X.env) :: starEach es X.env := by rfl) (hpl : (backTo pos (starEach es X.env)).any (·.1) = false := by rfl) :
    FJ X K W (.Call (.Name x p) (e :: es) [] pos) (eCall F dts fa) := by
  subst hK
  refine ⟨fun pins s σ H Q I h => ?_⟩
  refine wpAny_Call_Name_kw (ld_glob I hg hm ?_ hdb)
  obtain ⟨ι,ρ,Z,is,p⟩ := h
  have t : tFA X.K W fa σ H (fun vs H1 => spF X.K n F (vs ++ dvs) H1 Q (WE W.w σ)) := by
    refine ⟨ι,ρ,Z,is,?_⟩
    unfold eCall at p
    cases e : fa ρ Z with
    | ok ts Z1 =>
      rw [e,Yk] at p
      refine fun ι1 H1 vs g1 s1 r1 => ?_
      have r2 := r1.append (hdf ι1 H1)
      refine ⟨?_,ι1,Z1,_,s1,r2,(p.shift g1).wx fun _ _ _ h => h⟩
      rw [r2.length,List.length_append,hn _ _ _ _ e]
      exact hln
    | exc y Z1 => rw [e] at p; exact p
    | stuck => rw [e] at p; exact p
  refine PySem.W.callWith_K (h₀ := X.base) I.ok.mod.kin hk (thn (ha.run pos pins s σ H _ I t) fun us s1 ⟨vs,H1,I1,r,q⟩ => ⟨I1.kIn,?_⟩) he hpl
  exact Zd7 G hr hG hb hd tk I1 r q
theorem Z62 {r : List V → Hp → VK → Prop} {g : List T → Sto → Option (T × Sto)} (hr : ∀ xs H Q,rFC K g xs H Q → r xs H Q) {σ : L2.St} {H : Hp} {Q : VK} (h : tF K W (eCallB g fa) σ H Q) : tCB r (tFA K W fa) σ H Q := by
  obtain ⟨ι,ρ,Z,is,p⟩ := h
  refine ⟨ι,ρ,Z,is,(Zi (rep := Reps K) p).imp fun xs H1 q => ?_⟩
  obtain ⟨ι1,Z1,ts,g1,s1,r1,p1⟩ := q
  exact hr _ _ _ ⟨ι1,Z1,ts,s1,r1,Ve p1⟩
theorem Yn {id : String} {g : List T → Sto → Option (T × Sto)} (hc : CallR X (.builtin id) (rFC K g)) (hg : Gl X x) (hm : X.mg x = none) (hv : bootBuiltins x = some (.builtin id)) (ha : FAJ X K W (e :: es) fa) (hn : x ≠ "__name__" := by decide) (hdb : (x == ("__debug__" : PySem.Str)) = false := by decide)
    (he : starEach (e :: es) X.env = (false,eval e X.env) :: starEach es X.env := by rfl) (hpl : (backTo pos (starEach es X.env)).any (·.1) = false := by rfl) : FJ X K W (.Call (.Name x p) (e :: es) [] pos) (eCallB g fa) :=
  Xj (pe_callB hc hg hm hv ha hn hdb he hpl) fun _ _ _ h => Z62 (fun _ _ _ h => h) h
theorem Yh {id : String} {g : List T → Sto → Option (T × Sto)} (hc : CallR X (.type id) (rFC K g)) (hg : Gl X x) (hm : X.mg x = none) (hv : bootBuiltins x = some (.type id)) (ha : FAJ X K W (e :: es) fa) (hn : x ≠ "__name__" := by decide) (hdb : (x == ("__debug__" : PySem.Str)) = false := by decide)
    (he : starEach (e :: es) X.env = (false,eval e X.env) :: starEach es X.env := by rfl) (hpl : (backTo pos (starEach es X.env)).any (·.1) = false := by rfl) : FJ X K W (.Call (.Name x p) (e :: es) [] pos) (eCallB g fa) :=
  Xj (pe_callTy hc hg hm hv ha hn hdb he hpl) fun _ _ _ h => Z62 (fun _ _ _ h => h) h
end
def gLen : List T → Sto → Option (T × Sto)
  | [.str l],Z => if l.length ≤ Lim then some (.int l.length,Z) else none
  | [t],Z => (asSeq t Z).map fun ts => (.int ts.length,Z)
  | _,_ => none
def gMax : List T → Sto → Option (T × Sto)
  | [.int i,.int j],Z => some (.int (if j > i then j else i),Z)
  | _,_ => none
def gMin : List T → Sto → Option (T × Sto)
  | [.int i,.int j],Z => some (.int (if j < i then j else i),Z)
  | _,_ => none
def gAbs : List T → Sto → Option (T × Sto)
  | [.int i],Z => some (.int (if i < 0 then -i else i),Z)
  | _,_ => none
def gInt : List T → Sto → Option (T × Sto)
  | [.int i],Z => some (.int i,Z)
  | [.bl b],Z => some (.int (if b then 1 else 0),Z)
  | _,_ => none
def gList : List T → Sto → Option (T × Sto)
  | [t],Z => (asSeq t Z).map fun ts => (.loc Z.length,Z ++ [.lst ts])
  | _,_ => none
def gTuple : List T → Sto → Option (T × Sto)
  | [.tup ts],Z => some (.tup ts,Z)
  | [t],Z => (asList t Z).map fun ts => (.tup ts,Z)
  | _,_ => none
def tyT : T → Sto → Option String
  | .non, _ => some "NoneType" | .bl _, _ => some "bool" | .int _, _ => some "int" | .str _, _ => some "str" | .tup _, _ => some "tuple" | .frl _, _ => some "list"
  | .loc i,Z => match Z[i]? with
    | some (.lst _) => some "list"
    | some (.dk _) => some "dict"
    | some (.dt _) => some "dict"
    | _ => none
  | _,_ => none
def clsT : T → Option String
  | .ty n => some n
  | _ => none
def gIsiB (t : T) (c : T) (Z : Sto) : Option Bool := match tyT t Z,clsT c with
  | some a,some b => kitB a b
  | _,_ => none
def gIsi : List T → Sto → Option (T × Sto)
  | [t,.ty n],Z => (gIsiB t (.ty n) Z).map fun b => (.bl b,Z)
  | [t,.tup cs],Z => if (tyT t Z).isSome = true then ((cs.mapM fun c => gIsiB t c Z).map fun bs => (.bl (bs.any id),Z)) else none
  | _,_ => none
section
variable {X : Cx} {K : PySem.W.Frag}
theorem Reps.one {ι : List Addr} {H : Hp} {vs : List V} {t : T} (r : Reps K ι H vs [t]) : ∃ v,vs = [v] ∧ Rep K ι H v t := by
  cases r with
  | cons r q => cases q; exact ⟨_,rfl,r⟩
theorem Reps.two {ι : List Addr} {H : Hp} {vs : List V} {t u : T} (r : Reps K ι H vs [t,u]) : ∃ v w,vs = [v,w] ∧ Rep K ι H v t ∧ Rep K ι H w u := by
  cases r with
  | cons r q =>
    obtain ⟨w,rfl,r2⟩ := q.one
    exact ⟨_,_,rfl,r,r2⟩
theorem Z1v (hK : X.K = K) : CallR X (.builtin "len") (rFC K gLen) := by
  subst hK
  refine Vf (Z0j call_len_str call_len_seq) fun xs H Q h => ?_
  obtain ⟨ι,Z,ts,s,r,p⟩ := h
  match ts,r,p with
  | [],_,p => exact p.elim
  | _ :: _ :: _,_,p => simp only [gLen] at p; exact p.elim
  | [t],r,p =>
    obtain ⟨v,rfl,rr⟩ := r.one
    by_cases hs : ∃ l,t = .str l
    · obtain ⟨l,rfl⟩ := hs
      simp only [gLen] at p
      split at p
      · rename_i hz
        cases rr
        exact .inl ⟨_,rfl,by rw [S_len]; exact Jy hz,by rw [S_len]; exact Y7 p s (.int _)⟩
      · exact p.elim
    · have e0 : gLen [t] Z = (asSeq t Z).map fun ts => (.int ts.length,Z) := by
        cases t <;> first | rfl | exact absurd ⟨_,rfl⟩ hs
      rw [e0] at p
      cases e : asSeq t Z with
      | none => rw [e] at p; exact p.elim
      | some us =>
        rw [e] at p
        obtain ⟨a,vs,rfl,hq,rs⟩ := Z00 s rr e
        exact .inr ⟨a,vs,rfl,hq,by rw [rs.length]; exact Y7 p s (.int _)⟩
theorem Z4a (hK : X.K = K) : CallR X (.type "list") (rFC K gList) := by
  subst hK
  refine Vf call_list_of fun xs H Q h => ?_
  obtain ⟨ι,Z,ts,s,r,p⟩ := h
  unfold gList at p
  split at p
  · obtain ⟨v,rfl,rr⟩ := r.one
    rename_i t
    cases e : asSeq t Z with
    | none => rw [e] at p; exact p.elim
    | some us =>
      rw [e] at p
      obtain ⟨a,vs,rfl,hq,rs⟩ := Z00 s rr e
      exact ⟨a,vs,rfl,hq,N6 p s rs⟩
  · exact p.elim
theorem Uz (hK : X.K = K) : CallR X (.type "tuple") (rFC K gTuple) := by
  subst hK
  refine Vf call_tuple_of fun xs H Q h => ?_
  obtain ⟨ι,Z,ts,s,r,p⟩ := h
  match ts,r,p with
  | [],_,p => exact p.elim
  | _ :: _ :: _,_,p => simp only [gTuple] at p; exact p.elim
  | [t],r,p =>
    obtain ⟨v,rfl,rr⟩ := r.one
    by_cases hs : ∃ l,t = .tup l
    · obtain ⟨l,rfl⟩ := hs
      have r' := rr
      obtain ⟨a, vs, rfl, hq, rs⟩ := r'.tupE
      exact ⟨a,vs,rfl,.inr ⟨hq,Y7 p s rr⟩⟩
    · have e0 : gTuple [t] Z = (asList t Z).map fun ts => (.tup ts,Z) := by
        cases t <;> first | rfl | exact absurd ⟨_,rfl⟩ hs
      rw [e0] at p
      cases e : asList t Z with
      | none => rw [e] at p; exact p.elim
      | some us =>
        rw [e] at p
        obtain ⟨a,vs,rfl,hq,rs⟩ := Vn s rr e
        exact ⟨a,vs,rfl,.inl ⟨hq,Z55 p s rs⟩⟩
theorem Z4b {ι : List Addr} {H : Hp} {Z : Sto} {v : V} {t : T} {n : String} (s : Sim K ι Z H) (r : Rep K ι H v t) (e : tyT t Z = some n) : TyX K H v (.type n) := by
  cases r with
  | non => cases e; exact .base .non
  | bl b => cases e; exact .base (.bl b)
  | int i => cases e; exact .base (.int i)
  | str l => cases e; exact .base (.str _)
  | tup h r =>
    cases e
    rcases h with (h | ⟨o,h⟩) | ⟨o,its,n,h,hc,_⟩
    · exact .base (.tup h)
    · exact .fTuple h
    · exact .kTuple h hc
  | loc h =>
    simp only [tyT] at e
    split at e
    · rename_i hz
      obtain ⟨a', h1, vs, h2, _⟩ := s.at hz
      rw [h] at h1; cases h1; cases e
      exact .base (.lst h2)
    · rename_i hz
      obtain ⟨a', h1, vs, h2, _⟩ := s.at hz
      rw [h] at h1; cases h1; cases e
      exact .base (.dK h2)
    · rename_i hz
      obtain ⟨a', h1, vs, h2, _⟩ := s.at hz
      rw [h] at h1; cases h1; cases e
      exact .base (.dT h2)
    · cases e
  | frl h r =>
    cases e
    rcases h with ⟨o,h⟩ | ⟨o,its,n,h,hc,_⟩
    · exact .base (.frz h)
    · exact .kList h hc
  | ref a => cases e
  | ty m => cases e
  | lam h j => cases e
  | ktp h r => cases e
def rIsiU (K : PySem.W.Frag) : List V → Hp → VK → Prop := fun xs H Q => ∃ (x : V) (tp : Addr) (cs : List V) (t : Value) (us : List Value) (b : Bool),xs = [x,.ref tp] ∧ SqT K H tp cs ∧ Paired ClsV cs us ∧ TyX K H x t ∧ PySem.W.kitAny K t us = some b ∧ Q (.bl b) H
theorem Z4c : CallR X (.builtin "isinstance") (rIsiU X.K) := by
  intro pins s σ H xs us Q I r h
  obtain ⟨x,tp,cs,t,ws,b,rfl,hT,k,ty,e,q⟩ := h
  obtain ⟨u1,u2,rfl,r1,r2⟩ := vals2 r
  cases (show u2 = Value.ref tp from r2)
  obtain ⟨P,Z,p,hx⟩ := kit_of I r1 ty
  obtain ⟨its,rv,⟨o,h1,h2,n,h3⟩,_⟩ := I.tuple hT
  have e3 := ClsV.all k rv
  subst e3
  obtain ⟨oc,od,dt,sl⟩ := o
  simp only at h2 h3
  subst h2 h3
  exact PySem.W.kia_tup Z I.kIn p h1 e hx fun tk => ⟨.bl b,H,I.tok tk,rfl,q⟩
theorem isiAll {ι : List Addr} {H : Hp} {Z : Sto} {t : T} {n : String} (e : tyT t Z = some n) : ∀ {cs : List T} {vs : List V} {bs : List Bool},Reps K ι H vs cs → Paired (fun c b => gIsiB t c Z = some b) cs bs → ∃ us,Paired ClsV vs us ∧ PySem.W.kitAny K (.type n) us = some (bs.any id)
  | _,_,_,.nil,.nil => ⟨[],.nil,rfl⟩
  | _,_,_,.cons r q,.cons h p => by
    obtain ⟨us,h1,h2⟩ := isiAll e q p
    unfold gIsiB at h
    rw [e] at h
    rename_i v vs c cs b bs
    cases c with
    | ty m =>
      cases r
      refine ⟨.type m :: us,.cons (.ty m) h1,?_⟩
      refine kitAny_cons (kit_ty (show kitB n m = some b from h)) (fun hb => ?_) (fun hb => ?_)
      · rw [h2,List.any_cons,hb]; rfl
      · rw [List.any_cons,hb]; rfl
    | _ => cases h
theorem Z3e (hK : X.K = K) : CallR X (.builtin "isinstance") (rFC K gIsi) := by
  subst hK
  refine Vf (Z0j call_isi Z4c) fun xs H Q h => ?_
  obtain ⟨ι,Z,ts,s,r,p⟩ := h
  unfold gIsi at p
  split at p
  · obtain ⟨v,w,rfl,r1,r2⟩ := r.two
    cases r2
    rename_i t n
    cases e : gIsiB t (.ty n) Z with
    | none => rw [e] at p; exact p.elim
    | some b =>
      rw [e] at p
      unfold gIsiB at e
      split at e
      · rename_i a b' e1 e2
        cases e2
        exact .inl ⟨v,_,_,_,b,rfl,.ty _,Z4b s r1 e1,kit_ty e,Y7 p s (.bl _)⟩
      · cases e
  · obtain ⟨v,w,rfl,r1,r2⟩ := r.two
    rename_i t cs
    obtain ⟨a,vs,rfl,hq,rs⟩ := r2.tupE
    split at p
    case isFalse => exact p.elim
    rename_i hty
    cases e : cs.mapM fun c => gIsiB t c Z with
    | none => rw [e] at p; exact p.elim
    | some bs =>
      rw [e] at p
      have pa := Jk e
      cases et : tyT t Z with
      | none => rw [et] at hty; cases hty
      | some n =>
        obtain ⟨us,h1,h2⟩ := isiAll et rs pa
        exact .inr ⟨v,a,vs,_,us,_,rfl,hq,h1,Z4b s r1 et,h2,Y7 p s (.bl _)⟩
  · exact p.elim
end
end Fx
set_option maxHeartbeats 4000000
namespace Ap
open PySem PySem.Spec PyProof.Rows L2 SX
structure BaseC (K : PySem.W.Frag) (C0 : Addr) : Prop where
  ga : PySem.W.specialIn K (.ref C0) "__getattribute__" = some (some (.builtin "type.__getattribute__"))
  rd : PySem.W.readsIn K C0 (.type "type") = true
  iv : PySem.W.findCls K (.ref C0) (.type "type") "__init__" = some (.val (.builtin "ValueError.__init__"))
section
variable {X : Cx} {e : Expr} {es : List Expr} {ta : TA} {p1 p2 pos : Pos} {x : PySem.Str} {C0 : Addr}
theorem Z7w {pl : Sem Bool} (hg : Gl X x) (hm : X.mg x = some (.ref C0)) (B : BaseC X.K C0) (hd : (x == ("__debug__" : PySem.Str)) = false) (ha : PA X (e :: es) ta)
    (hc : eval (.Call (.Attribute (.Name x p1) "__init__" p2) (e :: es) [] pos) X.env = (do
      let ov ← eval (.Name x p1) X.env
      standAt p2.atName
      let (f, first) ← holding [ov] (getMethod ov "__init__" pl)
      callWith pos f first (backTo pos (starEach (e :: es) X.env)) (backToKw pos (keywordEach [] X.env))) := by rfl)
    (he : starEach (e :: es) X.env = (false,eval e X.env) :: starEach es X.env := by rfl) (hpl : (backTo pos (starEach es X.env)).any (·.1) = false := by rfl) :
    PE X (.Call (.Attribute (.Name x p1) "__init__" p2) (e :: es) [] pos) (tVeI X.K ta) := by
  refine ⟨fun pins s σ H Q I h => ?_⟩
  refine PySem.W.methodCall_KW (ld_glob I hg hm ?_ hd) hc
  refine PySem.W.method_cls I.kIn B.ga (PySem.W.cls_value I.kIn B.rd B.iv (by decide +kernel) ?_)
  show wpAny _ _ (callWith pos (Value.builtin "ValueError.__init__") [] (backTo pos (starEach (e :: es) X.env)) []) _ _ _
  refine PyProof.Rows.callWith_method1 (thn (ha.run pos pins _ σ H _ (I.tok _) h) fun us s1 ⟨vs,H1,I1,r1,a,C,ws,ev,hl,T,ea,q⟩ => ?_) he hpl
  subst ev
  cases r1 with
  | @cons _ u0 _ ur ra rw' =>
    obtain rfl : u0 = Value.ref a := ra
    have hlen : ur.length ≤ sizeLine := by
      rw [← Paired.length rw', sizeLine_eq]
      omega
    exact oinit_ok T I1 ea hlen fun s' J => ⟨.non, H1, J, rfl, q⟩
end
end Ap
set_option maxHeartbeats 4000000
namespace Ap
open PySem PySem.Spec PySem.Calls PyProof.Rows PySem.W
section
variable {prog : Program} {w : World} {A : Around} {E : Value → Shared → Prop} {s : Shared} {K : Frag} {x D : Addr} {ox od : Obj}
theorem Z74 {Q : Option Value → Shared → Prop} (C : L2.ExcC K D) (X : K.In s.heap) (I : InstAt s.heap x ox D (some od)) (h : Q (some (.ref D)) { s with toks := s.toks + 1 }) : wpAny (model prog w) A (getAttr? (.ref x) "__class__") Q E s := by
  have hf : findObj K D (some od) "__class__" = some (.bind (.builtin "getset_descriptor.__get__") (.builtin "object.__class__")) := findObj_data (by obtain ⟨cd, hc, _⟩ := any_some C.hd; rw [hc]; rfl) C.ha C.hn C.ht
  obtain ⟨hp,g,d,t,os⟩ := s
  have L0 := I.type (M := model prog w)
  have L1 := looks_findIn (M := model prog w) X C.hg
  have L2 := looks_findIn (M := model prog w) X C.hk
  have L3 := looks_find (M := model prog w) X I hf
  have sub : Looks (model prog w) hp (isInstance (.ref x) (.type "BaseException")) true := L0.andThen (looks_subIn X C.hs)
  have hx0 : (false && onTheHeap (Value.builtin "BaseException.__getattribute__")) = false := rfl
  have hx2 : (Value.builtin "BaseException.__getattribute__" == Value.builtin "object.__getattribute__") = false := by decide +kernel
  have hx1 : (onTheHeap (Value.ref D) && Value.builtin "BaseException.__getattribute__" == Value.builtin "object.__getattribute__") = false := by rw [hx2]; rfl
  unfold getAttr? getAttrBy? getAttrBy
  refine wpAny_bind (wpAny_mkText (wpAny_bind (wpAny_attempt (wpAny_holding (wpAny_bind (L0.at (wpAny_bind (L1.at ?_))))))))
  show wpAny _ _ (if (onTheHeap (Value.ref D) && Value.builtin "BaseException.__getattribute__" == Value.builtin "object.__getattribute__") = true then _ else _) _ _ _
  rw [hx1,if_neg Bool.false_ne_true]
  unfold getAttrByItsOwn hookBefore
  refine wpAny_bind ?_
  rw [if_pos (show onTheHeap (Value.ref D) = true from rfl)]
  refine L2.at ?_
  refine wpAny_bind (wpAny_attempt (wpAny_holding ?_))
  unfold callGetattribute
  rw [hx0,if_neg Bool.false_ne_true]
  unfold boundAndCalled
  rw [PySem.F.excAttr_ValueError.ga.bind (.ref x)]
  refine wpAny_bind (wpAny_pure ?_)
  show wpAny _ _ (call (.builtin "BaseException.__getattribute__") [.ref x, .str "__class__" t]) _ _ _
  refine wpAny_call (codeAny_call_builtin PySem.F.excAttr_ValueError.ga.plain PySem.F.entry_bexc_ga ?_)
  refine @check_slot (model prog w) _ _ ⟨hp, g, d, t + 1, os⟩ "BaseException.__getattribute__" "BaseException" "__getattribute__" (.ref x) [.str "__class__" t] [] _ (by decide +kernel) (by decide +kernel) sub (PySem.F.args_bexc_ga (.ref x) (.str "__class__" t)) ?_
  unfold Builtin.«object.__getattribute__»
  refine wpAny_bind (wpAny_of_eq (a := ((Value.ref x : Value), [Value.str "__class__" t])) (by first | rfl | (simp only [slotArgs]; rfl)) ?_)
  refine wpAny_bind (wpAny_pure (wpAny_bind (L0.at (wpAny_bind (L3.at ?_)))))
  show wpAny _ _ (holding [Value.builtin "object.__class__"] (call (.builtin "getset_descriptor.__get__") [.builtin "object.__class__", .ref x, .ref D]) >>= ret) _ _ _
  refine wpAny_bind (wpAny_holding (wpAny_call (class_get (s := ⟨hp,g,d,t + 1,os⟩) (ox := ox) (od := some od) X I C.hm ?_)))
  refine wpAny_pure ?_
  show wpAny _ _ (handedOut (.ref D)) _ _ _
  rw [handedOut_of (v := .ref D) rfl]
  first
    | exact wpAny_pure (wpAny_pure h)
    | exact wpAny_pure h
    | exact wpAny_pure (wpAny_bind (wpAny_pure (wpAny_pure h)))
theorem Z7x (C : L2.ExcC K D) : KitX K (.ref x) (.ref D) (fun h => InstAt h x ox D (some od)) where
  ty := fun _ _ _ I => I.type
  it := fun _ _ X _ => by
    obtain ⟨cdD,hcD,_⟩ := any_some C.hd
    unfold clsIn at hcD
    split at hcD
    · rename_i c' d' cd' sl' ho
      intro A' Q' E' s' k q
      unfold isType loadHead
      exact wpAny_bind (wpAny_loadPart (k _ _ (X _ _ ho)) (wpAny_pure q))
    · cases hcD
  ne := fun h tp dd its n sl X htp => by
    obtain ⟨cdD,hcD,_⟩ := any_some C.hd
    refine Bool.eq_false_iff.mpr fun q => ?_
    have e : D = tp := Value.ref.inj (beq_iff_eq.mp q)
    subst e
    unfold clsIn at hcD
    split at hcD
    · rename_i c' d' cd' sl' ho
      have z := (X _ _ ho).symm.trans htp
      cases z
    · cases hcD
  ca := fun X I k => Z74 C X I k
end
def rIsD (K : PySem.W.Frag) (D a : Addr) (cls : Value) (d : Option Addr) : List L2.V → L2.Hp → L2.VK → Prop := fun xs H Q => ∃ (c : L2.V) (cv : Value) (b : Bool) (dd : Addr) (fs : List (PySem.Str × L2.V)),xs = [.ref a,c] ∧ cls = .ref D ∧ d = some dd ∧ H dd = some (.xd fs) ∧ (∀ u,L2.RelV c u → u = cv) ∧ PySem.W.kitOne K (.ref D) cv = some b ∧ Q (.bl b) H
theorem Z63 {X : L2.Cx} {a D : Addr} {oe : Obj} {cls : Value} {d : Option Addr} {pn : List (Addr × Obj)} (C : L2.ExcC X.K D) (hz : L2.Zc cls d oe) (hf : ∃ vs, oe.data = .fields vs) : L2.CallR (X.suite a ((a, oe) :: pn)) (.builtin "isinstance") (rIsD X.K D a cls d) := by
  intro pins s σ H xs us Q I r h
  obtain ⟨c,cv,b,dd,fs,rfl,rfl,rfl,hdd,hcv,e,q⟩ := h
  cases r with
  | cons rx rr =>
    cases rr with
    | cons rt rr =>
      cases rr
      cases rx
      have ec := hcv _ rt
      subst ec
      obtain ⟨hget,_⟩ := I.pin (a,oe) (List.mem_append.mpr (.inl List.mem_cons_self))
      obtain ⟨vs,hv⟩ := hf
      have hx : L2.ObjOk X.prog X.w H s.heap dd (.xd fs) := I.hok dd _ hdd
      obtain ⟨mA,hns,hr⟩ := hx
      obtain ⟨od,ho,hl⟩ := L2.lookIn_ns hns
      have J : PySem.W.InstAt s.heap a oe D (some od) := ⟨hget,hz.1,by unfold PySem.W.notCls; rw [hv] <;> rfl,by rw [hz.2]; exact ho⟩
      exact PySem.W.kia_one (Z7x C) I.kIn J e (fun z => nomatch z) fun tk => ⟨.bl b, H, I.kept (t' := tk) fun _ _ z => z, rfl, q⟩
end Ap
set_option maxHeartbeats 4000000
namespace Ap
open PySem PySem.Spec PyProof.Rows L2 SX
theorem Z11 (a b : List Nat) : Txt.startswith (S a) (S b) = b.isPrefixOf a := by
  have e : (S a).cps.toList = a := rfl
  have e2 : (S b).cps.toList = b := rfl
  unfold Txt.startswith
  rw [S_len,S_len,Nat.zero_add]
  by_cases h : b.length ≤ a.length
  · rw [decide_eq_true h,Bool.true_and]
    have : PySem.Builtin.Str.subAt (S a) (S b) 0 = true ↔ (a.drop 0).take b.length = b := by
      constructor
      · intro k
        have := PySem.StrLaws.at_take (x := S a) (y := S b) (k := 0) ⟨by rw [S_len,S_len]; omega,k⟩
        exact this
      · intro k
        by_cases hb : b = []
        · subst hb; unfold PySem.Builtin.Str.subAt; simp [S,Str.length]
        · exact (PySem.StrLaws.take_at (x := S a) (y := S b) (k := 0) (by rw [S_len]; exact List.length_pos_iff.mpr hb) k).2
    rw [Bool.eq_iff_iff,this,List.drop_zero,List.isPrefixOf_iff_prefix]
    constructor
    · intro k; have q := List.take_append_drop b.length a; rw [k] at q; exact ⟨_,q⟩
    · rintro ⟨r,rfl⟩; rw [List.take_append_of_le_length (Nat.le_refl _),List.take_of_length_le (Nat.le_refl _)]
  · rw [decide_eq_false h,Bool.false_and]
    cases hp : b.isPrefixOf a
    · rfl
    · exact absurd (List.isPrefixOf_iff_prefix.mp hp).length_le h
end Ap
set_option maxHeartbeats 4000000
namespace Fx
open PySem PySem.Spec PyProof.Rows L2 SX Ap
variable [Tb]
def isTy (n : String) : T → Sto → Bool
  | .str _, _ => n == "str"
  | .frl _, _ => n == "list"
  | .loc i,Z => match Z[i]? with
    | some (.lst _) => n == "list"
    | some (.dk _) => n == "dict"
    | some (.dt _) => n == "dict"
    | _ => false
  | _,_ => false
theorem Z7y {K : PySem.W.Frag} {ι : List Addr} {H : Hp} {Z : Sto} {v : V} {t : T} {n : String} (s : Sim K ι Z H) (r : Rep K ι H v t) (e : isTy n t Z = true) : tyV K n v H := by
  cases r with
  | str l => exact beq_iff_eq.mp e
  | frl h r => exact .inl ⟨beq_iff_eq.mp e,_,h.sq⟩
  | loc h =>
    simp only [isTy] at e
    split at e
    · rename_i hz
      obtain ⟨a', h1, vs, h2, _⟩ := s.at hz
      rw [h] at h1; cases h1
      exact .inl ⟨beq_iff_eq.mp e,_,SqL.of h2⟩
    · rename_i hz
      obtain ⟨a', h1, vs, h2, _⟩ := s.at hz
      rw [h] at h1; cases h1
      exact .inr (.inr (.inl ⟨beq_iff_eq.mp e,.inl ⟨_,h2⟩⟩))
    · rename_i hz
      obtain ⟨a', h1, vs, h2, _⟩ := s.at hz
      rw [h] at h1; cases h1
      exact .inr (.inr (.inl ⟨beq_iff_eq.mp e,.inr ⟨_,h2⟩⟩))
    · cases e
  | _ => cases e
def eBM (n : String) (g : T → List T → Sto → Option (T × Sto)) (fo : FE) (fa : FA) : FE := fun ρ Z => (fo ρ Z).bind fun x Z1 => if isTy n x Z1 = true then (fa ρ Z1).bind fun xs Z2 => lift (g x xs Z2) else .stuck
def rFM (K : PySem.W.Frag) (g : T → List T → Sto → Option (T × Sto)) : V → List V → Hp → VK → Prop := fun x xs H Q => ∃ ι Z tx ts,Sim K ι Z H ∧ Rep K ι H x tx ∧ Reps K ι H xs ts ∧ PostO (Rep K) K ι H Q (g tx ts Z)
section
variable {X : Cx} {K : PySem.W.Frag} {W : Wc} {o e : Expr} {es : List Expr} {fo : FE} {fa : FA} {name : PySem.Str} {apos cpos : Pos} {n id : String} {g : T → List T → Sto → Option (T × Sto)}
theorem Z57 {r r' : V → List V → Hp → VK → Prop} (h : MtR X id r) (i : ∀ x xs H Q, r' x xs H Q → r x xs H Q) : MtR X id r' := fun pins s σ H x xs v us Q I rx rs q => h pins s σ H x xs v us Q I rx rs (i _ _ _ _ q)
theorem f_bm (hK : X.K = K) (pa : PlainAttrs n) (slot : Slot n name id) (hty : typeOf (.builtin id) = pure (.type "method_descriptor")) (hm : MtR X id (rFM K g)) (ho : FJ X K W o fo) (ha : FAJ X K W (e :: es) fa)
    (hbase : attributeBase o name X.env (eval o X.env) = eval o X.env := by rfl)
    (hfew : ((backTo cpos (starEach (e :: es) X.env)).all (fun x => !x.1) && (backToKw cpos (keywordEach [] X.env)).all (fun x => x.1.isSome)
      && decide ((e :: es).length + ([] : List Keyword).length + (if ([] : List Keyword).isEmpty then 0 else 1) < 30)) = true := by rfl)
    (hline : (apos.endLine == cpos.line) = true := by rfl) (hs : starEach (e :: es) X.env = (false,eval e X.env) :: starEach es X.env := by rfl) (hplain : (backTo cpos (starEach es X.env)).any (·.1) = false := by rfl) :
    FJ X K W (.Call (.Attribute o name apos) (e :: es) [] cpos) (eBM n g fo fa) := by
  subst hK
  refine Xj (pe_bm pa slot hty hm ho ha hbase hfew hline hs hplain) fun σ H Q h => ?_
  obtain ⟨ι,ρ,Z,is,p⟩ := h
  refine ⟨ι,ρ,Z,is,(Zi p).imp fun x H1 q => ?_⟩
  obtain ⟨ι1,Z1,tx,g1,s1,r1,p1⟩ := q
  split at p1
  · rename_i ht
    refine ⟨Z7y s1 r1 ht,ι1,ρ,Z1,is.gr g1 s1,(Zi (rep := Reps X.K) p1).imp fun xs H2 q => ?_⟩
    obtain ⟨ι2,Z2,ts,g2,s2,r2,p2⟩ := q
    exact ⟨ι2,Z2,tx,ts,s2,r1.gr g2,r2,Ve p2⟩
  · exact p1.elim
theorem f_bm0 (hK : X.K = K) (pa : PlainAttrs n) (slot : Slot n name id) (hty : typeOf (.builtin id) = pure (.type "method_descriptor")) (hm : MtR X id (rFM K g)) (ho : FJ X K W o fo)
    (hbase : attributeBase o name X.env (eval o X.env) = eval o X.env := by rfl) (hline : (apos.endLine == cpos.line) = true := by rfl) : FJ X K W (.Call (.Attribute o name apos) [] [] cpos) (eBM n g fo aNil) := by
  subst hK
  refine Xj (pe_bm0 pa slot hty hm ho hbase hline) fun σ H Q h => ?_
  obtain ⟨ι,ρ,Z,is,p⟩ := h
  refine ⟨ι,ρ,Z,is,(Zi p).imp fun x H1 q => ?_⟩
  obtain ⟨ι1,Z1,tx,g1,s1,r1,p1⟩ := q
  split at p1
  · rename_i ht
    exact ⟨Z7y s1 r1 ht,ι1,Z1,tx,[],s1,r1,.nil,Ve p1⟩
  · exact p1.elim
end
def gAppend : T → List T → Sto → Option (T × Sto)
  | .loc i,[t],Z => match getL Z i with
    | some ts => if ts.length < Lim then some (.non,Z.set i (.lst (ts ++ [t]))) else none
    | none => none
  | _,_,_ => none
def asStr : T → Option (List Nat)
  | .str l => some l
  | _ => none
def gStarts : T → List T → Sto → Option (T × Sto)
  | .str a,[.str b],Z => some (.bl (b.isPrefixOf a),Z)
  | .str a,[.tup ts],Z => (ts.mapM asStr).map fun ys => (.bl (ys.any fun y => y.isPrefixOf a),Z)
  | _,_,_ => none
section
variable {X : Cx} {K : PySem.W.Frag}
theorem m_append : MtR X "list.append" (rFM K gAppend) := Z57 mt_append fun x xs H Q h => by
  obtain ⟨ι,Z,tx,ts,s,rx,rs,p⟩ := h
  unfold gAppend at p
  split at p
  · obtain ⟨y,rfl,ry⟩ := rs.one
    split at p
    · rename_i us e
      split at p
      · rename_i hl
        obtain ⟨a,vs,rfl,ha,h1,r⟩ := Uh s (Ws e) rx
        refine ⟨a,vs,y,rfl,rfl,h1,by rw [r.length]; exact Nat.lt_of_lt_of_le hl Z46,?_⟩
        have g := Gr.mut (ι := ι) (o := .lst (vs ++ [y])) h1 trivial (List.mem_of_getElem? ha)
        exact p ι _ _ g (s.set ha ⟨_,upd_same,(r.gr g).append (.cons (ry.gr g) .nil)⟩) .non
      · exact p.elim
    · exact p.elim
  · exact p.elim
theorem Z7z {ι : List Addr} {H : Hp} : ∀ {vs : List V} {ts : List T} {ys : List (List Nat)},Reps K ι H vs ts → Paired (fun t y => asStr t = some y) ts ys → vs = (ys.map S).map V.str
  | _,_,_,.nil,.nil => rfl
  | _,_,_,.cons r q,.cons h p => by
    rename_i v vs t ts y ys
    cases t with
    | str l =>
      cases h
      cases r
      rw [Z7z q p]; rfl
    | _ => cases h
theorem Z64 (hK : X.K = K) : MtR X "str.startswith" (rFM K gStarts) := by
  subst hK
  refine Z57 (mt_startswith.or Z2o) fun x xs H Q h => ?_
  obtain ⟨ι,Z,tx,ts,s,rx,rs,p⟩ := h
  unfold gStarts at p
  split at p
  · obtain ⟨y,rfl,ry⟩ := rs.one
    cases rx; cases ry
    exact .inl ⟨_,_,rfl,rfl,by rw [Z11]; exact Y7 p s (.bl _)⟩
  · obtain ⟨y,rfl,ry⟩ := rs.one
    cases rx
    rename_i l0 us
    obtain ⟨a,vs,rfl,hq,r⟩ := ry.tupE
    cases e : us.mapM asStr with
    | none => rw [e] at p; exact p.elim
    | some ys =>
      rw [e] at p
      have ev := Z7z r (Jk e)
      subst ev
      refine .inr ⟨_,a,ys.map S,rfl,rfl,hq,?_⟩
      have e2 : ((ys.map S).any fun y => Txt.startswith (S l0) y) = ys.any fun y => y.isPrefixOf l0 := by
        rw [List.any_map]
        congr 1
        funext y
        exact Z11 _ _
      rw [e2]
      exact Y7 p s (.bl _)
  · exact p.elim
end
end Fx
set_option maxHeartbeats 4000000
namespace Fx
open PySem PySem.Spec PyProof.Rows L2 SX Ap
variable [Tb]
def wipeR (ρ : Env) : List Nat → Env
  | [] => ρ
  | v :: vs => (wipeR ρ vs).set v none
def putN : List Nat → T → Env → Option Env
  | [j],t,ρ => some (ρ.set j (some t))
  | js,.tup ts,ρ => if ts.length = js.length then some ((js.zip ts).foldl (fun r p => r.set p.1 (some p.2)) ρ) else none
  | _,_,_ => none
def loopC (it : ItF) (D : Nat) (put : T → Option Env) (c : FT) (e : FE) : Nat → Nat → Sto → R T
  | 0,_,_ => .stuck
  | n + 1,k,Z => match it k Z with
    | none => .stuck
    | some none => .ok (.loc D) Z
    | some (some t) => match put t with
      | none => .stuck
      | some ρ => (noX (c ρ Z)).bind fun b Z1 => if b = true then (noX (e ρ Z1)).bind fun y Z2 => (match getL Z2 D with
          | some acc => if acc.length < Lim then loopC it D put c e n (k + 1) (Z2.set D (.lst (acc ++ [y]))) else .stuck
          | none => .stuck) else loopC it D put c e n (k + 1) Z1
def eLc (vs js : List Nat) (it : FI) (c : FT) (e : FE) : FE := fun ρ Z => (it ρ Z).bind fun j Z1 => loopC j Z1.length (fun t => putN js t (wipeR ρ vs)) c e Fuel 0 (Z1 ++ [.lst []])
def eYes : FT := fun _ Z => .ok true Z
section
variable {X : Cx} {K : PySem.W.Frag} {W : Wc}
theorem Z12 (ρ : Env) : ∀ vs : List Nat,(wipeR ρ vs).length = ρ.length
  | [] => rfl
  | v :: vs => by show ((wipeR ρ vs).set v none).length = _; rw [List.length_set,Z12 ρ vs]
theorem Z4d {ι : List Addr} {H : Hp} {σ : L2.St} {ρ : Env} (e : Envs K ι H σ ρ) (hl : σ.length = ρ.length) : ∀ vs : List Nat,Envs K ι H (wipe σ vs) (wipeR ρ vs)
  | [] => e
  | v :: vs => fun i t h => by
    have h' : ((wipeR ρ vs).set v none)[i]? = some (some t) := h
    show ∃ w,((wipe σ vs).set v none)[i]? = some (some w) ∧ _
    by_cases hi : i = v
    · subst hi
      by_cases hlt : i < (wipeR ρ vs).length
      · rw [List.getElem?_set_self hlt] at h'; cases h'
      · rw [List.getElem?_eq_none (by rw [List.length_set]; omega)] at h'; cases h'
    · rw [List.getElem?_set_ne (Ne.symm hi)] at h'
      rw [List.getElem?_set_ne (Ne.symm hi)]
      exact Z4d e hl vs i t h'
theorem Z01 (σ : L2.St) : ∀ (vs : List Nat) (i : Nat),i < σ.length → i ∈ vs → (wipe σ vs)[i]? = some none
  | v :: vs,i,hl,hm => by
    show ((wipe σ vs).set v none)[i]? = some none
    by_cases hi : i = v
    · subst hi
      rw [List.getElem?_set_self (by rw [wipe_length]; exact hl)]
    · rw [List.getElem?_set_ne (Ne.symm hi)]
      exact Z01 σ vs i hl ((List.mem_cons.mp hm).resolve_left hi)
theorem Z9r (σ : L2.St) (vs : List Nat) (x : Option V) {j : Nat} (hj : j ∈ vs) : wipe (σ.set j x) vs = wipe σ vs := by
  apply List.ext_getElem?
  intro i
  by_cases hi : i ∈ vs
  · by_cases hlt : i < σ.length
    · rw [Z01 _ vs i (by rw [List.length_set]; exact hlt) hi,Z01 σ vs i hlt hi]
    · rw [List.getElem?_eq_none (by rw [wipe_length,List.length_set]; omega),List.getElem?_eq_none (by rw [wipe_length]; omega)]
  · rw [wipe_out hi,wipe_out hi,List.getElem?_set_ne (fun e => hi (by rw [← e]; exact hj))]
theorem Z80 (σ : L2.St) (vs : List Nat) : wipe (wipe σ vs) vs = wipe σ vs := by
  apply List.ext_getElem?
  intro i
  by_cases hi : i ∈ vs
  · by_cases hlt : i < σ.length
    · rw [Z01 _ vs i (by rw [wipe_length]; exact hlt) hi,Z01 σ vs i hlt hi]
    · rw [List.getElem?_eq_none (by rw [wipe_length,wipe_length]; omega),List.getElem?_eq_none (by rw [wipe_length]; omega)]
  · rw [wipe_out hi]
abbrev W0 : Wc := Wt (fun _ _ _ _ => False)
def TgOk (K : PySem.W.Frag) (js : List Nat) (g : TG) : Prop := ∀ (x : V) (σ : L2.St) (H : Hp) (Q : L2.St → Hp → Prop) ι ρ ρ' t, σ.length = ρ.length → Envs K ι H σ ρ → Rep K ι H x t → putN js t ρ = some ρ' →
  (∀ σ', σ'.length = ρ'.length → Envs K ι H σ' ρ' → (∀ vs, (∀ j ∈ js, j ∈ vs) → wipe σ' vs = wipe σ vs) → Q σ' H) → g x σ H Q
theorem Z9s (j : Nat) (t : T) (ρ : Env) : putN [j] t ρ = some (ρ.set j (some t)) := by cases t <;> rfl
theorem U6 (j : Nat) : TgOk K [j] (gName j) := fun x σ H Q ι ρ ρ' t hl env r e q => by
  rw [Z9s] at e
  have e' := Option.some.inj e
  subst e'
  exact q _ (by rw [List.length_set,List.length_set]; exact hl) (env.set r j hl) fun vs h => Z9r σ vs _ (h j List.mem_cons_self)
theorem Zd8 {fi : FI} {g : TG} {ft : FT} {fe : FE} {vs js : List Nat} (hg : TgOk K js g) (hjs : ∀ j ∈ js,j ∈ vs) {σ : L2.St} {H : Hp} {Q : VK} (hi : ∀ R,(∃ ι ρ Z,Ie K W ι H σ ρ Z ∧ Post (ItR K) K W.w σ ι H R (fi ρ Z)) → tI K W.w fi σ H R) (h : tF K W (eLc vs js fi ft fe) σ H Q) : tLc (tI K W.w fi) g (tFT K W0 ft) (tF K W0 fe) vs σ H Q := by
  obtain ⟨ι,ρ,Z,is,p⟩ := h
  refine hi _ ⟨ι,ρ,Z,is,(Zi (rep := ItR K) p).imp fun J H1 q => ?_⟩
  obtain ⟨ι1,Z1,it,g1,s1,rJ,p1⟩ := q
  intro D hD
  have is1 := is.gr g1 s1
  have sD : Sim K (ι1 ++ [D]) (Z1 ++ [.lst []]) (upd H1 D (.lst [])) := s1.newL .nil hD
  have gD : Gr ι1 (ι1 ++ [D]) H1 (upd H1 D (.lst [])) := Gr.new hD
  have hDi : (ι1 ++ [D])[Z1.length]? = some D := by rw [← s1.len]; simp
  refine ⟨fun k m H' => ∃ ι' Z', Gr (ι1 ++ [D]) ι' (upd H1 D (.lst [])) H' ∧ Sim K ι' Z' H' ∧ Post (Rep K) K W.w σ ι' H' Q (loopC it Z1.length (fun t => putN js t (wipeR ρ vs)) ft fe m k Z'), ⟨Fuel, ι1 ++ [D], _, Gr.refl, sD, p1.shift gD⟩, ?_⟩
  rintro k m H' ⟨ι', Z', g', s', p'⟩
  cases m with
  | zero => exact p'.elim
  | succ m =>
    have hj := rJ k ι' H' Z' (gD.trans g') s'
    unfold loopC at p'
    cases e : it k Z' with
    | none => rw [e] at p'; exact p'.elim
    | some o =>
      rw [e] at hj p'
      cases o with
      | none => exact .inl ⟨hj, p' ι' H' _ Gr.refl s' (.loc (g'.pre _ _ hDi))⟩
      | some t =>
        refine .inr ⟨hj.1, _, fun H2 n => ⟨m, Nat.lt_succ_self m, n⟩, fun x H'' y => ?_⟩
        obtain ⟨g2, s2, r2⟩ := hj.2 x H'' y
        simp only at p'
        cases e3 : putN js t (wipeR ρ vs) with
        | none => rw [e3] at p'; exact p'.elim
        | some ρ' =>
          rw [e3] at p'
          have env2 : Envs K ι' H'' (wipe σ vs) (wipeR ρ vs) := Z4d ((is1.env.gr (gD.trans g')).gr g2) is1.len vs
          refine hg x (wipe σ vs) H'' _ ι' _ ρ' t (by rw [wipe_length, Z12]; exact is1.len) env2 r2 e3 fun σ' hl' env' hw => ?_
          refine ⟨by rw [hw vs hjs, Z80], ι', ρ', Z', ⟨hl', env', s2, trivial⟩, Z1n (W := W.w) (σ := σ) ((Zi (rep := bEq) (p'.shift g2)).imp fun b H3 q => ?_)⟩
          obtain ⟨ι3, Z3, b', g3, s3, rb, p3⟩ := q
          cases (show b = b' from rb)
          cases b with
          | false =>
            rw [if_neg Bool.false_ne_true] at p3 ⊢
            exact ⟨ι3, Z3, (g'.trans g2).trans g3, s3, p3⟩
          | true =>
            rw [if_pos rfl] at p3 ⊢
            refine ⟨ι3, ρ', Z3, ⟨hl', env'.gr g3, s3, trivial⟩, Z1n (W := W.w) (σ := σ) ((Zi (rep := Rep K) p3).imp fun y H4 q => ?_)⟩
            obtain ⟨ι4,Z4,ty,g4,s4,ry,p4⟩ := q
            split at p4
            · rename_i acc ea
              split at p4
              · rename_i hz
                have hD4 : ι4[Z1.length]? = some D := g4.pre _ _ (g3.pre _ _ (g'.pre _ _ hDi))
                obtain ⟨a, ws, ea', _, h1, rw1⟩ := Uh s4 (Ws ea) (.loc hD4)
                cases ea'
                have g5 := Gr.mut (ι := ι4) (o := .lst (ws ++ [y])) h1 trivial (List.mem_of_getElem? hD4)
                refine ⟨ws, h1, by rw [rw1.length]; exact Nat.lt_of_lt_of_le hz Z46, ι4, _, (((g'.trans g2).trans g3).trans g4).trans g5, s4.set (ob := .lst (acc ++ [ty])) hD4 ⟨_, upd_same, (rw1.gr g5).append (.cons (ry.gr g5) .nil)⟩, p4.shift g5⟩
              · exact p4.elim
            · exact p4.elim
theorem Zb1 {fi : FI} {σ : L2.St} {H : Hp} {R : It → Hp → Prop} (h : ∃ ι ρ Z,Ie K W ι H σ ρ Z ∧ Post (ItR K) K W.w σ ι H R (fi ρ Z)) : tI K W.w fi σ H R := by
  obtain ⟨ι,ρ,Z,is,p⟩ := h
  exact ⟨ι,ρ,Z,⟨is.len,is.env,is.sim⟩,p⟩
theorem U7 : PTs X [] (tFT K W0 eYes) := ⟨fun pins s σ H Q I h => by
  obtain ⟨ι,ρ,Z,is,p⟩ := h
  exact pts_nil.run pins s σ H Q I (p ι H true Gr.refl is.sim rfl)⟩
theorem f_lc {elt tg iter : Expr} {ifs : List Expr} {scope : Scope} {own : List (PySem.Str × Nat)} {pos : Pos} {fi : FI} {g : TG} {ft : FT} {fe : FE} {js : List Nat} (hg0 : TgOk K js g) (hjs : ∀ j ∈ js,j ∈ own.map (·.2)) (hc : X.calm = true) (hN : X.N.Nodup) (hi : PI X tg iter (tI K W.w fi)) (ok : BlkOk X.N X.env.scope scope own)
    (hg : ∀ (s : Shared) (H : Hp) (C : Addr) (cl : List (PySem.Str × Addr)) (fp : List Addr),PG (X.blk s H scope (compEnvC scope cl C X.env) fp) tg g) (ht : ∀ (s : Shared) (H : Hp) (C : Addr) (cl : List (PySem.Str × Addr)) (fp : List Addr),PTs (X.blk s H scope (compEnvC scope cl C X.env) fp) ifs (tFT K W0 ft))
    (he : ∀ (s : Shared) (H : Hp) (C : Addr) (cl : List (PySem.Str × Addr)) (fp : List Addr),FJ (X.blk s H scope (compEnvC scope cl C X.env) fp) K W0 elt fe) (hs : ∀ x,foldedSetIterable iter X.env x = pure x := by intro _; rfl) :
    FJ X K W (.ListComp elt [⟨tg,iter,ifs,0⟩] scope pos) (eLc (own.map (·.2)) js fi ft fe) := Xj (pe_lc hc hN hi ok hg ht he hs) fun σ H Q h => Zd8 hg0 hjs (fun R q => Zb1 q) h
theorem Z65 {W : WX} {i : Nat} {y : PySem.Str} {py : Pos} {elt tg iter : Expr} {ifs : List Expr} {scope : Scope} {own : List (PySem.Str × Nat)} {pos spos : Pos} {fi : FI} {g : TG} {ft : FT} {fe : FE} {js : List Nat} (hg0 : TgOk K js g) (hjs : ∀ j ∈ js,j ∈ own.map (·.2)) (hc : X.calm = true) (hN : X.N.Nodup) (hy : X.N[i]? = some y) (hyl : X.env.scope.names.lookup y = some .local)
    (hsw : swapsWith (.ListComp elt [⟨tg,iter,ifs,0⟩] scope pos) (some (.Name y py)) spos.line X.env = pure true) (hi : PI X tg iter (tI K W fi)) (ok : BlkOk X.N X.env.scope scope own)
    (hg : ∀ (s : Shared) (H : Hp) (C : Addr) (cl : List (PySem.Str × Addr)) (fp : List Addr),PG (X.blk s H scope (compEnvC scope cl C X.env) fp) tg g) (ht : ∀ (s : Shared) (H : Hp) (C : Addr) (cl : List (PySem.Str × Addr)) (fp : List Addr),PTs (X.blk s H scope (compEnvC scope cl C X.env) fp) ifs (tFT K W0 ft))
    (he : ∀ (s : Shared) (H : Hp) (C : Addr) (cl : List (PySem.Str × Addr)) (fp : List Addr),FJ (X.blk s H scope (compEnvC scope cl C X.env) fp) K W0 elt fe) (hs : ∀ x,foldedSetIterable iter X.env x = pure x := by intro _; rfl) :
    FSJ X K W (.Assign [.Name y py] (.ListComp elt [⟨tg,iter,ifs,0⟩] scope pos) spos) (sSet i (eLc (own.map (·.2)) js fi ft fe)) := Jx (ps_setLc hc hN hy hyl hsw hi ok hg ht he hs) fun D σ H h => by
  obtain ⟨ι,ρ,Z,is,p⟩ := h
  refine Zd8 (W := Wt W) hg0 hjs (fun R q => Zb1 q) (Z7s is p fun v H1 ι1 Z1 t g1 i1 r1 p1 => ?_)
  exact p1 ι1 H1 _ Gr.refl (i1.set r1 i)
theorem Q9 {X : Cx} : Takes X W0.w := takes0
end
end Fx
set_option maxHeartbeats 4000000
namespace Fx
open PySem PySem.Spec PyProof.Rows L2 SX Ap
variable [Tb]
def spI (C : Addr) (f : PySem.Str) : Sp := fun vs H Q _ => ∃ (a : Addr) (v : V),vs = [.ref a,v] ∧ H a = some (exo a C none) ∧ ∀ dx,H dx = none → dx ≠ a → Q .non (upd (upd H dx (exd dx [(f,v)])) a (exo a C (some dx)))
def sRaise (nm f : PySem.Str) (ds : List T) (fa : FA) : FS := fun ρ Z => bS ρ (fa ρ Z) fun ts Z1 => match ts ++ ds with
  | [t] => .exc ⟨nm,[(f,t)]⟩ ρ Z1
  | _ => .stuck
section
variable {X : Cx} {K : PySem.W.Frag} {W : WX} {x : PySem.Str} {p pos rpos : Pos} {e : Expr} {es : List Expr} {fa : FA} {k : Nat} {C fI : Addr} {fd : FuncData} {ps : List PySem.Str} {f : PySem.Str} {dvs : List V} {ds : List Value} {dts : List T}
theorem Z3f (hK : X.K = K) (hc : X.calm = true) (tk : Takes X W) (T : OexC X.K C) (iC : PySem.W.findIn X.K (.ref C) "__init__" = some (some (.ref fI))) (tI : PySem.W.typeIn X.K (.ref fI) = some (.type "function"))
    (F1 : FnOk X.prog X.w X.K X.mg X.base CX0 k fI fd ps (spI C f)) (hr : Room (k + 1) X.A) (hb : Binds X.K fd ps ds) (hd : Vals dvs ds) (hdf : Dfl K dvs dts) (hg : Gl X x) (hm : X.mg x = some (.ref C)) (ha : FAJ X K (Wt W) (e :: es) fa) (hn : ofLen (e :: es) fa) (hns : PySem.W.nsIn X.K mainGlobals x = some (some (.ref C))) (hln : (e :: es).length + dts.length = 1 := by rfl)
    (hdb : (x == ("__debug__" : PySem.Str)) = false := by decide) (he : starEach (e :: es) X.env = (false, eval e X.env) :: starEach es X.env := by rfl) (hpl : (backTo pos (starEach es X.env)).any (·.1) = false := by rfl) :
    FSJ X K W (.Raise (some (.Call (.Name x p) (e :: es) [] pos)) none rpos) (sRaise x f dts fa) := by
  subst hK
  refine Jx (ps_raise hc tk (pmk_oex T iC tI F1 hr hb hd pass0 hg hm ha hdb he hpl)) fun D σ H h => ?_
  obtain ⟨ι,ρ,Z,is,q⟩ := h
  refine Zay is q fun vs H1 ι1 Z1 ts e1 g1 i1 r1 p1 => ?_
  have r2 := r1.append (hdf ι1 H1)
  have hl := r2.length
  have hl2 : (ts ++ dts).length = 1 := by rw [List.length_append,hn _ _ _ _ e1]; exact hln
  refine ⟨?_,fun a na => ?_⟩
  · rw [List.length_append,r1.length] at *; omega
  match hts : ts ++ dts,r2,hl2 with
  | [t],r2,_ =>
    obtain ⟨v,ev,rv⟩ := r2.one
    rw [hts] at p1
    rw [ev]
    refine ⟨a,v,rfl,upd_same,fun dx nd ne => ⟨rfl,dx,[(f,v)],?_,?_,?_,?_⟩⟩
    · exact upd_same
    · rw [upd_ne ne,upd_same]
    · rw [upd_ne ne] at nd; exact nd
    · have hd1 : H1 dx = none := by rw [upd_ne ne] at nd; exact nd
      have eH : ∀ b,b ≠ dx → upd (del (upd (upd (upd H1 a (exo a C none)) dx (exd dx [(f,v)])) a (exo a C (some dx))) a) dx (.xd [(f,v)]) b = H1 b := fun b hb => by
        rw [upd_ne hb]
        by_cases hba : b = a
        · subst hba; rw [del_same,na]
        · rw [del_ne hba,upd_ne hba,upd_ne hb,upd_ne hba]
      have sm : Same H1 (upd (del (upd (upd (upd H1 a (exo a C none)) dx (exd dx [(f,v)])) a (exo a C (some dx))) a) dx (.xd [(f,v)])) := fun b o ho => by
        rw [eH b (ne_of_none ho hd1)]; exact ho
      refine p1 ι1 _ σ (.ref C) (some dx) (Gr.same sm) (i1.gr (Gr.same sm) (i1.sim.same sm)) ⟨⟨C,rfl,hns⟩,dx,[(f,v)],rfl,upd_same,.cons (rv.gr (Gr.same sm)) .nil⟩
end
theorem RepX.gr {K : PySem.W.Frag} {ι ι' : List Addr} {H H' : Hp} {cls : Value} {d : Option Addr} {x : Ex} (g : Gr ι ι' H H') (h : RepX K ι H cls d x) : RepX K ι' H' cls d x := by
  obtain ⟨h1,h2⟩ := h
  refine ⟨h1,?_⟩
  split at h2
  · rename_i e; exact h2
  · obtain ⟨dd,vs,e,h,r⟩ := h2
    exact ⟨dd,vs,e,g.xd _ _ h,r.gr g⟩
def Wx (K : PySem.W.Frag) (i : Nat) (a : Addr) (cls : Value) (d : Option Addr) (x : Ex) : Wc := ⟨fun _ _ _ _ => False,fun σ ι H => σ[i]? = some (some (.ref a)) ∧ RepX K ι H cls d x,fun _ _ _ _ _ g h => ⟨h.1,h.2.gr g⟩⟩
def eXf (x : Ex) (f : PySem.Str) : FE := fun _ Z => match x.fs.lookup f with
  | some t => .ok t Z
  | none => .stuck
def sTryAs (nm : PySem.Str) (i : Nat) (b : FS) (fe : Ex → FE) : FS := fun ρ Z => match b ρ Z with
  | .exc x ρ' Z' => if x.cls = nm ∧ i < ρ'.length ∧ x.fs.isEmpty = false then (match fe x (ρ'.set i none) Z' with
    | .ok t Z2 => .rt t Z2
    | _ => .stuck) else .stuck
  | r => r
theorem RepP.lookup {K : PySem.W.Frag} {ι : List Addr} {H : Hp} {f : PySem.Str} {t : T} : ∀ {vs : List (PySem.Str × V)} {fs : List (PySem.Str × T)},RepP K ι H vs fs → fs.lookup f = some t → ∃ v,vs.lookup f = some v ∧ Rep K ι H v t
  | _,_,.nil,e => by cases e
  | _,_,.cons r q,e => by
    rename_i k v vs t' ts
    rw [List.lookup_cons] at e ⊢
    cases h : f == k with
    | true => rw [h] at e; cases e; exact ⟨v,rfl,r⟩
    | false => rw [h] at e; exact RepP.lookup q e
section
variable {X : Cx} {K : PySem.W.Frag} {W : WX} {x : PySem.Str} {n : PySem.Str} {C : Addr} {i : Nat} {body : List Stmt} {e : Expr} {np pos pos' rpos : Pos} {b : FS} {fe : Ex → FE}
theorem f_xf {a : Addr} {oe : Obj} {cls : Value} {d : Option Addr} {pn : List (Addr × Obj)} {y : Ex} {nm f : PySem.Str} {vp : Pos} (hK : X.K = K) (hx : y.cls = nm) (hns : PySem.W.nsIn X.K mainGlobals nm = some (some (.ref C))) (T : XfC X.K C) (hno : PySem.W.findIn X.K (.ref C) f = some none) (hz : Zc cls d oe) (hf : ∃ vs,oe.data = .fields vs) (he : PE (X.suite a ((a,oe) :: pn)) (.Name n vp) (tVar i))
    (hb : attributeBase (.Name n vp) f X.env (eval (.Name n vp) X.env) = eval (.Name n vp) X.env := by rfl) : FJ (X.suite a ((a,oe) :: pn)) K (Wx K i a cls d y) (.Attribute (.Name n vp) f pos) (eXf y f) := by
  subst hK
  refine Xj (pe_xf T hno hz hf he hb) fun σ H Q h => ?_
  obtain ⟨ι,ρ,Z,is,p⟩ := h
  obtain ⟨h1,⟨c,hc,hn⟩,h2⟩ := is.jj
  rw [hx,hns] at hn
  cases hn
  unfold eXf at p
  split at p
  · rename_i t et
    refine ⟨_,h1,rfl,hc,?_⟩
    split at h2
    · rename_i e0; rw [e0] at et; cases et
    · obtain ⟨dd,vs,ed,hd,r⟩ := h2
      obtain ⟨v,hv,rv⟩ := r.lookup et
      exact ⟨dd,vs,v,ed,hd,hv,p ι H v Gr.refl is.sim rv⟩
  · exact p.elim
theorem f_isX {a B : Addr} {oe : Obj} {cls : Value} {d : Option Addr} {pn : List (Addr × Obj)} {y : Ex} {nm xb : PySem.Str} {vp bp fp : Pos} {bb : Bool} (hK : X.K = K) (hx : y.cls = nm) (hfs : y.fs.isEmpty = false) (hns : PySem.W.nsIn X.K mainGlobals nm = some (some (.ref C))) (T : ExcC X.K C) (hk : PySem.W.kitOne X.K (.ref C) (.ref B) = some bb) (hz : Zc cls d oe) (hf : ∃ vs, oe.data = .fields vs) (hg : Gl X "isinstance") (hm : X.mg "isinstance" = none) (he : PE (X.suite a ((a, oe) :: pn)) (.Name n vp) (tVar i)) (hgb : Gl X xb) (hmb : X.mg xb = some (.ref B)) (hdb : (xb == ("__debug__" : PySem.Str)) = false := by decide)
    (hs1 : starEach [.Name n vp,.Name xb bp] X.env = (false,eval (.Name n vp) X.env) :: starEach [.Name xb bp] X.env := by rfl) (hs2 : starEach [.Name xb bp] X.env = (false,eval (.Name xb bp) X.env) :: starEach [] X.env := by rfl) :
    FJ (X.suite a ((a, oe) :: pn)) K (Wx K i a cls d y) (.Call (.Name "isinstance" fp) [.Name n vp, .Name xb bp] [] pos) (eC (.bl bb)) := by
  subst hK
  refine Xj (pe_callB (X := X.suite a ((a,oe) :: pn)) (Z63 (X := X) T hz hf) hg hm (by decide +kernel) (pa_cons he (pa_cons (pe_glob (X := X.suite a ((a,oe) :: pn)) (v := .ref B) hgb hmb rfl hdb) pa_nil hs2) hs1)) fun σ H Q h => ?_
  obtain ⟨ι,ρ,Z,is,p⟩ := h
  obtain ⟨h1,⟨c,hc,hn⟩,h2⟩ := is.jj
  rw [hx,hns] at hn
  cases hn
  refine ⟨_,h1,?_⟩
  split at h2
  · rename_i e0; rw [e0] at hfs; exact Bool.noConfusion hfs
  · obtain ⟨dd,vs,ed,hd,r⟩ := h2
    exact ⟨.ref B,.ref B,bb,dd,vs,rfl,hc,ed,hd,fun u hu => hu,hk,p ι H _ Gr.refl is.sim (.bl bb)⟩
theorem PostS.wx {K : PySem.W.Frag} {W W' : WX} {ι : List Addr} {H : Hp} {D : Ends} {r : RS} (h : PostS K W ι H D r) (i : ∀ x ρ Z, r ≠ .exc x ρ Z) : PostS K W' ι H D r := by
  cases r with
  | nx => exact h
  | rt => exact h
  | bk => exact h
  | ct => exact h
  | exc x ρ Z => exact absurd rfl (i x ρ Z)
  | stuck => exact h
theorem Z81 (hK : X.K = K) (hs : X.stack = X.env :: X.outer) (hf : X.env.frame = some X.env.locals) (hN : X.N.Nodup) (hi : X.N[i]? = some n) (hln : X.env.kindOf n = some .local) (hc : Names X x (.ref C)) (hns : PySem.W.nsIn X.K mainGlobals x = some (some (.ref C))) (hex : PySem.W.exmOne X.K (.ref C) (.ref C) = some true) (tk : Takes X W)
    (hb : ∀ (W : WX) (pn : List (Addr × Obj)) (xe : Value → Shared → Prop),Takes (X.tr pn xe) W → PassesOwn (model X.prog X.w) X.A X.env xe → FBJ (X.tr pn xe) K W body b)
    (hsu : ∀ (a : Addr) (oe : Obj) (cls : Value) (d : Option Addr) (pn : List (Addr × Obj)) (y : Ex),Zc cls d oe → (∃ vs,oe.data = .fields vs) → y.cls = x → y.fs.isEmpty = false → FJ (X.suite a ((a,oe) :: pn)) K (Wx K i a cls d y) e (fe y)) :
    FSJ X K W (.Try body [.ExceptHandler (some (.Name x np)) (some n) [.Return (some e) rpos] pos'] [] [] pos) (sTryAs x i b fe) := by
  subst hK
  have su : ∀ (a : Addr) (oe : Obj) (cls : Value) (d : Option Addr) (pn : List (Addr × Obj)),Zc cls d oe → (∃ vs,oe.data = .fields vs) → PSs (X.suite a ((a,oe) :: pn)) [.Return (some e) rpos] (fun D σ H => ∃ y : Ex,y.cls = x ∧ y.fs.isEmpty = false ∧ tF X.K (Wx X.K i a cls d y) (fe y) σ H D.rt) := fun a oe cls d pn hz hv =>
    ⟨fun pins s σ H D I h => by
      obtain ⟨y,hy,hys,q⟩ := h
      exact (pss_one (ps_ret (hsu a oe cls d pn y hz hv hy hys))).run pins s σ H D I q⟩
  refine Jx (ps_try_as hs hf hN hi hln hc tk (fun W pn xe t pa => hb W pn xe t pa) su) fun D σ H h => ?_
  obtain ⟨ι,ρ,Z,is,p⟩ := h
  refine ⟨ι,ρ,Z,is,?_⟩
  unfold sTryAs at p
  cases e0 : b ρ Z with
  | exc y ρ' Z' =>
    rw [e0] at p
    simp only at p
    intro ι' H' σ' cls d g' i' rx
    split at p
    · rename_i hyl
      obtain ⟨hy,hil,hys⟩ := hyl
      obtain ⟨c,rfl,hn⟩ := id rx.1
      rw [hy,hns] at hn
      cases hn
      refine ⟨true, hex, fun _ a na => ⟨y, hy, hys, ι', ρ'.set i none, Z', ⟨?_, ?_, i'.sim, ?_, rx⟩, ?_⟩, fun z => Bool.noConfusion z⟩
      · rw [List.length_set, List.length_set]; exact i'.len
      · intro j t hj
        by_cases hji : j = i
        · subst hji
          by_cases hlt : j < ρ'.length
          · rw [List.getElem?_set_self hlt] at hj; cases hj
          · rw [List.getElem?_eq_none (by rw [List.length_set]; omega)] at hj; cases hj
        · rw [List.getElem?_set_ne (Ne.symm hji)] at hj ⊢
          exact i'.env j t hj
      · exact List.getElem?_set_self (by rw [i'.len]; exact hil)
      · split at p
        · rename_i t Z2 e2
          rw [e2]
          exact fun ι2 H2 v g2 s2 r2 => p ι2 H2 v (g'.trans g2) s2 r2
        · exact p.elim
    · exact p.elim
  | nx => rw [e0] at p; exact p
  | rt => rw [e0] at p; exact p
  | bk => rw [e0] at p; exact p
  | ct => rw [e0] at p; exact p
  | stuck => rw [e0] at p; exact p
end
end Fx
set_option maxHeartbeats 4000000
namespace PySem
set_option maxHeartbeats 1000000 in
theorem Jr (l : Addr) (items : Array Value) (n : Nat) (dct : Option Addr) (sl : Array (Option Value)) :
    Meets (Builtin.«enumerate.__new__» ⟨[.type "enumerate", .ref l], []⟩) (fun _ R s =>
      s.heap.get? l = some { cls := .type "tuple", dict := dct, data := .seq items n, slots := sl } ∧
      R (.ok (.ret (.ref (s.heap.push { cls := .type "tuple_iterator", data := .fields #[.ref l, .int 0 0] }).objs.size)))
        { s with heap := (s.heap.push { cls := .type "tuple_iterator", data := .fields #[.ref l, .int 0 0] }).push { cls := .type "enumerate", data := .fields #[.none, .bool false, .ref s.heap.objs.size, rawInt 0, .none, .none] } }) :=
  .of_wp fun prog w A R s h => by
    obtain ⟨hl,h⟩ := h
    obtain ⟨hp,g,d,tk,os⟩ := s
    have hL : hp.IsTuple l items := ⟨_,hl,rfl,n,rfl⟩
    have hsub := sub_enumerate
    wp_walk using wpAny_loadPart' hl
    refine wpAny_stack_any fun st => wpAny_pure ?_
    split
    · rename_i c _ _ _ _ _
      cases (c == Value.type "enumerate")
      · wp_walk using wpAny_loadPart' hl, wpAny_pyIter_tuple hL
        exact ⟨_,rfl,h⟩
      · wp_walk using wpAny_loadPart' hl, wpAny_pyIter_tuple hL
        exact ⟨_,rfl,h⟩
    · wp_walk using wpAny_loadPart' hl, wpAny_pyIter_tuple hL
      exact ⟨_,rfl,h⟩
end PySem
namespace PySem
section
variable {prog : Program} {w : World} {A : Around} {E : Value → Shared → Prop} {s : Shared}
theorem Z02 {l : Addr} {items : Array Value} {Q : Value → Shared → Prop} (hL : s.heap.IsTuple l items)
    (k : ∀ h', IsEnum h' (s.heap.objs.size + 1) s.heap.objs.size 0 .none → h'.IsTupleIter s.heap.objs.size l 0 → (∀ b o, s.heap.get? b = some o → h'.get? b = some o) → Q (.ref (s.heap.objs.size + 1)) { s with heap := h' }) :
    wpAny (model prog w) A (call (.type "enumerate") [.ref l]) Q E s := by
  obtain ⟨⟨c,dct,dt,sl⟩,hl,hc,n,hd⟩ := hL
  obtain rfl : c = .type "tuple" := hc
  obtain rfl : dt = .seq items n := hd
  refine callType_new F.called_enumerate (by decide) (F.typeCall_enumerate_1 _) (F.newCall_enumerate_1 _) (fun obj => F.args_object_init_2 obj _) F.entry_enumerate_new (Jr l items n dct sl) ⟨hl,?_⟩
  have hz : (s.heap.push { cls := .type "tuple_iterator", data := .fields #[.ref l, .int 0 0] }).objs.size = s.heap.objs.size + 1 := Heap.size_push ..
  show _ ∧ _
  rw [hz]
  have he : IsEnum ((s.heap.push { cls := .type "tuple_iterator", data := .fields #[.ref l, .int 0 0] }).push
      { cls := .type "enumerate", data := .fields #[.none, .bool false, .ref s.heap.objs.size, rawInt 0, .none, .none] }) (s.heap.objs.size + 1) s.heap.objs.size 0 .none := by
    have q := Heap.get?_push_size (s.heap.push { cls := .type "tuple_iterator", data := .fields #[.ref l, .int 0 0] })
      (o := { cls := .type "enumerate", data := .fields #[.none, .bool false, .ref s.heap.objs.size, rawInt 0, .none, .none] }) rfl
    rw [hz] at q; exact q
  exact ⟨⟨_,he,rfl⟩,k _ he ⟨_,Heap.get?_push_of_some _ (Heap.get?_push_size _ rfl),rfl,rfl⟩ fun b o x => Heap.get?_push_of_some _ (Heap.get?_push_of_some _ x)⟩
end
end PySem
namespace Fx
open PySem PySem.Spec PyProof.Rows L2 SX Ap
variable [Tb]
def IteT (K : PySem.W.Frag) (a : Addr) : It :=
  ⟨fun i H => ∃ (xs : List V) (x : V), SqT K H a xs ∧ xs[i]? = some x, fun i H v H' => ∃ T x, v = .ref T ∧ H T = none ∧ H' = upd H T (.tup [.int (i : Nat), x]) ∧ ∀ xs, SqT K H a xs → xs[i]? = some x, fun i H => ∃ xs : List V, SqT K H a xs ∧ xs.length = i⟩
theorem Z75 {P : Program} {w : World} {K : PySem.W.Frag} {elts : List Expr} {kk : Nat} {tpos : Pos} (a e it : Addr) :
    Turn P w K (.Tuple elts kk tpos) (IteT K a) [e,it] e (fun i h => (∃ old,IsEnum h e it ((i : Nat) : Int) old) ∧ h.IsTupleIter it a i ∧ e ≠ it ∧ a ≠ it) where
  mem := List.mem_cons_self
  obj := by
    intro i h ⟨⟨old,he⟩,⟨o,ho,hc,hd⟩,_⟩ b hb
    rcases List.mem_cons.mp hb with rfl | hb
    · exact ⟨_,he,fun v q => nomatch q⟩
    · cases List.mem_singleton.mp hb
      exact ⟨o,ho,fun v q => by rw [hd] at q; cases q⟩
  keep := by
    intro i h h' ⟨⟨old, he⟩, ⟨o, ho, r⟩, hne⟩ k
    exact ⟨⟨old,k e List.mem_cons_self _ he⟩,⟨o,k it (List.mem_cons_of_mem _ List.mem_cons_self) o ho,r⟩,hne⟩
  item := by
    intro X hP hw hK hc i pins s σ H E I hf ⟨⟨old,he⟩,hit,hne,hai⟩ hg
    cases hP; cases hw; cases hK
    have le : e < s.heap.objs.size := Heap.lt_size he
    have li : it < s.heap.objs.size := Heap.lt_size hit.choose_spec.1
    obtain ⟨xs,x,hq,hx⟩ := hg
    obtain ⟨its,rv,pt,hz⟩ := I.tuple hq
    obtain ⟨u,hu,ru⟩ := rv.get hx
    have hil : i < its.toArray.size := by
      have := (List.getElem?_eq_some_iff.mp hu).1
      simpa using this
    have hae : a ≠ e := fun z => by
      obtain ⟨o,h1,h2,_⟩ := pt
      rw [z] at h1
      have h3 := he.symm.trans h1
      cases h3
      exact absurd (Value.type.inj h2) (by decide)
    refine wpAny_pyNext_enum_itemD (Draws.tuple (A := X.A.in1) (I.ok.hd hc) it a hai its.toArray) he ⟨hit,pt⟩ hil hne (by simp [hne,Ne.symm hae]) ?_
    rintro v h' tk hv ho ⟨st, _⟩ hT hsz hk
    have hv' : v = u := by
      have h0 : its.toArray[i]? = some v := hv
      have : its[i]? = some v := by simpa using h0
      rw [hu] at this; exact (Option.some.inj this).symm
    subst hv'
    refine ⟨_, rfl, wpAny_letOwnedTupleGo_enum (s := { s with heap := h', toks := tk + 1 }) ho ?_⟩
    intro h'' he' sb
    have hT2 := (sb.2 s.heap.objs.size (Nat.ne_of_gt le)).trans hT
    have new : ObjOk X.prog X.w (upd H s.heap.objs.size (.tup [.int (i : Nat), x])) h'' s.heap.objs.size (.tup [.int (i : Nat), x]) :=
      ⟨by show 2 ≤ sizeLine; decide,[.int i tk,v],.cons ⟨_,rfl⟩ (.cons ru .nil),⟨_,hT2,rfl,_,rfl⟩⟩
    have I1 := I.turnedNew (t' := tk + 1) (ch := [e, it]) (fun b ob hb q => (sb.2 b (fun z => hb (by simp [z]))).trans (hk b ob (fun z => hb (by simp [z])) (fun z => hb (by simp [z])) q)) hf (Nat.le_refl _) new
    refine ⟨.ref s.heap.objs.size,_,I1,rfl,⟨_,x,rfl,I.hok.fresh (Nat.le_refl _),rfl,fun ys hy => by rw [I.tuple_inj hy hq]; exact hx⟩,⟨⟨v,?_⟩,?_,hne,hai⟩,?_⟩
    · rw [show ((i + 1 : Nat) : Int) = (i : Int) + 1 by omega]; exact he'
    · obtain ⟨o,o1,o2⟩ := st
      exact ⟨o,(sb.2 it (Ne.symm hne)).trans o1,o2⟩
    · intro b hb
      have : b < s.heap.objs.size := by
        rcases List.mem_cons.mp hb with rfl | hb
        · exact le
        · cases List.mem_singleton.mp hb; exact li
      rw [upd_ne (Nat.ne_of_lt this)]
      exact (hf b hb).1
  done := by
    intro X hP hw hK hc i pins s σ H E I hf ⟨⟨old,he⟩,hit,hne,hai⟩ hg
    cases hP; cases hw; cases hK
    obtain ⟨xs,hq,rfl⟩ := hg
    obtain ⟨its,rv,pt,hz⟩ := I.tuple hq
    obtain ⟨f0,f1,f2,f3,f4,f5⟩ := hf it (List.mem_cons_of_mem _ List.mem_cons_self)
    have hsz : its.toArray.size = xs.length := by rw [List.size_toArray,rv.length]
    refine wpAny_pyNext_enum_endD (Draws.tuple (A := X.A.in1) (I.ok.hd hc) it a hai its.toArray) he (by rw [hsz]; exact ⟨hit,pt⟩) ?_
    intro h' eb
    exact ⟨rfl, I.turned (t' := s.toks) (fun b o hb q => eb b o hb q) f0 f1 f3 f4 f5⟩
  self := by
    intro A i s Q E ⟨⟨_,he⟩,_⟩ h
    exact wpAny_pyIter_enum he h
def iEnumT (K : PySem.W.Frag) (ta : TA) : TI := fun σ H R => ta σ H fun vs H1 => ∃ a xs,vs = [.ref a] ∧ SqT K H1 a xs ∧ R (IteT K a) H1
theorem Z9t {X : Cx} {e : Expr} {ta : TA} {p pos tpos : Pos} {elts : List Expr} {kk : Nat} (hg : Gl X "enumerate") (hm : X.mg "enumerate" = none)
    (ha : PA X [e] ta) (hs : starEach [e] X.env = [(false,eval e X.env)] := by rfl) :
    PI X (.Tuple elts kk tpos) (.Call (.Name "enumerate" p) [e] [] pos) (iEnumT X.K ta) := by
  constructor
  intro pins s σ H R I h
  refine Call_ (ld_blt I hg hm boot_enumerate (PyProof.Rows.callWith_type1 ?_ hs rfl))
  refine thn (ha.run pos pins s σ H _ I h) ?_
  rintro us s1 ⟨vs,H1,I1,r1,a,xs,rfl,hq,q⟩
  obtain ⟨u,rfl,ru⟩ := vals1 r1
  cases (show u = Value.ref a from ru)
  obtain ⟨its,rv,pt,hz⟩ := I1.tuple hq
  refine Z02 (show s1.heap.IsTuple a its.toArray from pt) ?_
  intro h' he hit hk
  refine wpAny_pyIter_enum he ?_
  have I2 : Inv X pins σ H1 { s1 with heap := h' } := I1.kept (t' := s1.toks) hk
  have la : a < s1.heap.objs.size := by obtain ⟨o,h1,_⟩ := pt; exact Heap.lt_size h1
  refine ⟨s1.heap.objs.size + 1,[s1.heap.objs.size + 1,s1.heap.objs.size],_,_,H1,rfl,I2,Z75 a _ _,⟨⟨.none,he⟩,hit,Nat.succ_ne_self _,Nat.ne_of_lt la⟩,?_,q⟩
  intro b hb
  have hle : s1.heap.objs.size ≤ b := by
    rcases List.mem_cons.mp hb with rfl | hb
    · exact Nat.le_add_right _ _
    · cases List.mem_singleton.mp hb; exact Nat.le_refl _
  exact I1.fpOk hle (I1.hok.fresh hle)
def itSeqX (ts : List T) : ItF := fun k _ => if k ≤ ts.length then some ts[k]? else none
def itStrX (l : List Nat) : ItF := fun k _ => if k ≤ l.length then some (l[k]?.map fun c => .str [c]) else none
def iAny (f : FE) : FI := fun ρ Z => (f ρ Z).bind fun x Z1 => match x with
  | .frl ts => .ok (itSeq ts) Z1
  | .loc i => match getL Z1 i with
    | some _ => .ok (itLoc i) Z1
    | none => .stuck
  | .tup ts => .ok (itSeq ts) Z1
  | .str l => .ok (itStr l) Z1
  | _ => .stuck
def iEnmA (f : FA) : FI := fun ρ Z => (f ρ Z).bind fun xs Z1 => match xs with
  | [.frl ts] => .ok (itEnum (itSeq ts)) Z1
  | [.loc i] => match getL Z1 i with
    | some _ => .ok (itEnum (itLoc i)) Z1
    | none => .stuck
  | [.tup ts] => .ok (itEnum (itSeqX ts)) Z1
  | [.str l] => .ok (itEnum (itStrX l)) Z1
  | _ => .stuck
section
variable {X : Cx} {K : PySem.W.Frag} {W : WX} {pos p : Pos} {tg l a : Expr} {fl : FE} {fa : FA}
theorem Z9u {t1 t2 : TI} (h1 : PI X tg l t1) (h2 : PI X tg l t2) : PI X tg l (fun σ H R => t1 σ H R ∨ t2 σ H R) := ⟨fun pins s σ H R I q => q.elim (h1.run pins s σ H R I) (h2.run pins s σ H R I)⟩
theorem Qx (hK : X.K = K) (hl : FJ X K (Wt W) l fl) : PI X tg l (tI K W (iAny fl)) := by
  refine Z1u (Z9u (Zbr hK hl) (Z9u (Zd2 hK hl) (Zd3 hl))) fun σ H Q h => ?_
  obtain ⟨ι,ρ,Z,is,p⟩ := h
  cases e : fl ρ Z with
  | ok t Z1 =>
    unfold iAny at p
    rw [e,Yk] at p
    cases t with
    | tup ts => exact .inr (.inl ⟨ι,ρ,Z,is,by unfold iSeqT; rw [e,Yk]; exact p⟩)
    | str u => exact .inr (.inr ⟨ι,ρ,Z,is,by unfold iStr; rw [e,Yk]; exact p⟩)
    | frl ts => exact .inl ⟨ι,ρ,Z,is,by unfold iSeqL; rw [e,Yk]; exact p⟩
    | loc i => exact .inl ⟨ι,ρ,Z,is,by unfold iSeqL; rw [e,Yk]; exact p⟩
    | _ => exact p.elim
  | exc x Z1 =>
    unfold iAny at p
    rw [e] at p
    exact .inl ⟨ι,ρ,Z,is,by unfold iSeqL; rw [e]; exact p⟩
  | stuck => unfold iAny at p; rw [e] at p; exact p.elim
theorem Z66 {tpos : Pos} {elts : List Expr} {kk : Nat} (hK : X.K = K) (hg : Gl X "enumerate") (hm : X.mg "enumerate" = none) (ha : FAJ X K (Wt W) [a] fa) (hn : ofLen [a] fa) (hs : starEach [a] X.env = [(false, eval a X.env)] := by rfl) : PI X (.Tuple elts kk tpos) (.Call (.Name "enumerate" p) [a] [] pos) (tI K W (iEnmA fa)) := by
  subst hK
  refine Z1u (Z9u (Zbs rfl hg hm ha hn hs) (Z9u (Z9t hg hm ha hs) (Z9m hg hm ha hs))) fun σ H Q h => ?_
  obtain ⟨ι,ρ,Z,is,p⟩ := h
  unfold iEnmA at p
  cases e : fa ρ Z with
  | ok ts Z1 =>
    rw [e,Yk] at p
    have hl := hn _ _ _ _ e
    match ts,hl,p with
    | [t],_,p =>
      cases t with
      | frl us => exact .inl ⟨ι,ρ,Z,is,by unfold iEnm; rw [e,Yk]; exact p⟩
      | loc i => exact .inl ⟨ι,ρ,Z,is,by unfold iEnm; rw [e,Yk]; exact p⟩
      | tup us =>
        refine .inr (.inl ⟨ι,ρ,Z,is.ie,?_⟩)
        rw [e]
        intro ι1 H1 vs g1 s1 r1
        obtain ⟨v,rfl,r⟩ := r1.one
        obtain ⟨b,xs,rfl,hq,rs⟩ := r.tupE
        refine ⟨b, xs, rfl, hq, p ι1 H1 _ g1 s1 fun k ι' H' Z' g' s' => ?_⟩
        simp only [itEnum,itSeqX]
        by_cases hk : k ≤ us.length
        · rw [if_pos hk]
          simp only [Option.map_some]
          cases eu : us[k]? with
          | none => exact ⟨xs, SqT.gr g' hq, by rw [rs.length]; have := List.getElem?_eq_none_iff.mp eu; omega⟩
          | some u =>
            obtain ⟨x,h1,h2⟩ := rs.get eu
            refine ⟨⟨xs, x, SqT.gr g' hq, h1⟩, fun y H'' hy => ?_⟩
            obtain ⟨q, x', rfl, nq, rfl, hx'⟩ := hy
            have := hx' xs (SqT.gr g' hq)
            rw [h1] at this; cases this
            exact ⟨Gr.new0 nq, s'.same (Ud nq), .tup (SqT.of upd_same) (.cons (.int _) (.cons ((h2.gr g').gr (Gr.new0 nq)) .nil))⟩
        · rw [if_neg hk]; exact trivial
      | str u =>
        refine .inr (.inr ⟨ι,ρ,Z,is.ie,?_⟩)
        rw [e]
        intro ι1 H1 vs g1 s1 r1
        obtain ⟨v,rfl,r⟩ := r1.one
        cases r
        refine ⟨S u, rfl, p ι1 H1 _ g1 s1 fun k ι' H' Z' g' s' => ?_⟩
        have hsz : (S u).cps.size = u.length := by simp [S]
        simp only [itEnum,itStrX]
        by_cases hk : k ≤ u.length
        · rw [if_pos hk]
          simp only [Option.map_some]
          cases eu : u[k]? with
          | none => exact show k = (S u).cps.size by rw [hsz]; have := List.getElem?_eq_none_iff.mp eu; omega
          | some c =>
            have hlt : k < u.length := (List.getElem?_eq_some_iff.mp eu).1
            refine ⟨show k < (S u).cps.size by rw [hsz]; exact hlt, fun y H'' hy => ?_⟩
            obtain ⟨q, c', rfl, nq, rfl, hc'⟩ := hy
            have : c' = c := by
              have h2 : u[k]? = some c' := by simpa [S] using hc'
              rw [eu] at h2; exact (Option.some.inj h2).symm
            subst this
            exact ⟨Gr.new0 nq, s'.same (Ud nq), .tup (SqT.of upd_same) (.cons (.int _) (.cons (.str [c']) .nil))⟩
        · rw [if_neg hk]; exact trivial
      | _ => exact p.elim
  | exc x Z1 => rw [e] at p; exact .inl ⟨ι,ρ,Z,is,by unfold iEnm; rw [e]; exact p⟩
  | stuck => rw [e] at p; exact p.elim
end
end Fx
set_option maxHeartbeats 4000000
namespace Ap
open PySem PySem.Spec PyProof.Rows L2 SX
end Ap
namespace Fx
open PySem PySem.Spec PyProof.Rows L2 SX Ap
variable [Tb]
theorem Zbt {K : PySem.W.Frag} {H : Hp} {a : Addr} {ns : List Int} (h : FrL K H a (ns.map V.int)) : Rep K [] H (.ref a) (.frl (ns.map .int)) := by
  refine .frl h ?_
  clear h
  induction ns with
  | nil => exact .nil
  | cons n ns ih => exact .cons (.int n) ih
theorem fnG_0 {P : Program} {w : World} {K : PySem.W.Frag} {mg : PySem.Str → Option Value} {base : Heap} {k : Nat} {f : Addr} {fd : FuncData} {ps : List PySem.Str} {n : Nat} {F : FF} (G : FnG P w K mg base k f fd ps (spF K n F)) : GOk P w K mg base CX0 k f fd ps (fun vs H Q _ => spF K n F vs H Q (fun _ _ _ => False)) :=
  ⟨fun vs H Q E h => G.len vs H Q _ h, fun A outer s H as us vs Q E hr hG e0 hb rv h => codeAny_mono (G.run A outer s H as us vs Q _ hr hG e0 hb rv h) fun r s' z => by
    cases r with
    | error e =>
      obtain ⟨_,_,_,_,_,_,_,_,_,_,_,_,q⟩ := z
      exact q.elim
    | ok fl => cases fl <;> exact z⟩
theorem Zd9 (z : PySem.Str) : S z.cps.toList = z := by
  show (⟨z.cps.toList.toArray⟩ : PySem.Str) = z
  rw [Array.toArray_toList]
def eDict0 : FE := fun _ Z => .ok (.loc Z.length) (Z ++ [.dk []])
theorem Z1w {X : Cx} {K : PySem.W.Frag} {W : Wc} {e : Expr} (h : PE X e tDNewK) : FJ X K W e eDict0 := Xj h fun σ H Q q => by
  obtain ⟨ι,ρ,Z,is,p⟩ := q
  intro a na
  exact p (ι ++ [a]) _ _ (Gr.new na) (is.sim.new na ⟨[],upd_same,.nil⟩) (Z3c is.sim)
def gNeg : T → Sto → Option (T × Sto)
  | .int i,Z => some (.int (-i),Z)
  | _,_ => none
theorem Zbu {X : Cx} {K : PySem.W.Frag} {W : Wc} {a : Expr} {fa : FE} {pos : Pos} (ha : FJ X K W a fa) : FJ X K W (.UnaryOp .USub a pos) (eUn gNeg fa) := Xj (pe_un un_neg ha) fun σ H Q h => by
  obtain ⟨ι,ρ,Z,is,p⟩ := h
  refine ⟨ι,ρ,Z,is,(Zi p).imp fun x H1 q => ?_⟩
  obtain ⟨ι1,Z1,tx,g1,s1,r1,p1⟩ := q
  have p2 := Ve p1
  unfold gNeg at p2
  split at p2
  · cases r1; exact ⟨_,rfl,Y7 p2 s1 (.int _)⟩
  · exact p2.elim
end Fx
set_option maxHeartbeats 4000000
namespace Ap
open PySem PySem.Spec PyProof.Rows L2 SX
def NoDig (K : PySem.W.Frag) : Prop := PySem.W.nsIn K cStatics "sys.int_max_str_digits" = some none
theorem Zbv {K : PySem.W.Frag} {h : Heap} {a : Addr} {mg : Str → Option Value} {n : Str} (X : K.In h) (G : h.Ns a mg) (e : PySem.W.nsIn K a n = some none) : mg n = none := by
  obtain ⟨o,es,ep,ho,hd,_,hf⟩ := G
  unfold PySem.W.nsIn at e
  split at e
  · rename_i c d es' n' sl q
    have := X _ _ q
    rw [ho] at this
    cases this
    cases hd
    split at e
    · cases e
    · rename_i he
      rw [← hf]
      unfold nsFind findBy
      rw [← Array.find?_toList,he]
      rfl
  · cases e
open PySem.NumText in
theorem wp_textB {M : Model} {A : Around} {E : Value → Shared → Prop} {s : Shared} {Q : Value → Shared → Prop} {v : Value} {text : List Nat} {n : Int} (hn : s.heap.NoDigits)
    (hs : ¬ (text.takeWhile (· != 0)).length ≤ 640) (hr : (int_private% "readNumeral") 4300 10 (text.takeWhile (· != 0)) = (int_private% "Numeral.value") n)
    (ha : ((text.takeWhile (· != 0)).length == text.length) = true) (h : Q (.int n s.toks) { s with toks := s.toks + 1 }) :
    wpAny M A ((int_private% "intFromText") v text 10) Q E s := by
  obtain ⟨mc,hns,hnone⟩ := hn
  obtain ⟨hp,g,d,tk,os⟩ := s
  wp_step
  wp_step
  unfold Builtin.intMaxStrDigits
  refine wpAny_bind (wpAny_bind (wpAny_nsGet hns ?_))
  rw [hnone]
  refine wpAny_pure ?_
  dsimp only
  rw [hr]
  dsimp only
  rw [if_pos ha]
  exact wpAny_mkInt h
open PySem.NumText PySem.W PySem.W.KIN in
theorem Z58 {x : PySem.Str} {u : Tok} {n : Int} (hs : ¬ (numSeenOf x).length ≤ 640) (hr : (int_private% "readNumeral") 4300 10 (numSeenOf x) = (int_private% "Numeral.value") n) (ha : ((numSeenOf x).length == (numTextOf x).length) = true) :
    Meets (Builtin.«int.__new__» ⟨[.type "int", .str x u], []⟩) (fun _ R s => s.heap.NoDigits ∧ R (.ok (.ret (.int n s.toks))) { s with toks := s.toks + 1 }) :=
  .of_wp fun prog w A R s hh => by
    obtain ⟨hp,g,d,tk,os⟩ := s
    have hN : hp.NoDigits := hh.1
    have h := hh.2
    clear hh
    have f1 := F.conv_sub_int
    have f2 := F.madeHere_int
    have f3 := str_int
    have f4 := str_idx
    have f5 := str_trunc
    have f6 : typeOf (.str x u) = pure (.type "str") := rfl
    have hk := Hid.mk (And.intro hs (And.intro hr (And.intro ha hN)))
    clear hs hr ha hN
    repeat (any_goals (first
      | assumption
      | ((with_reducible show wpAny _ _ ((int_private% "intFromText") _ _ _) _ _ _); refine wp_textB hk.out.2.2.2 hk.out.1 hk.out.2.1 hk.out.2.2.1 ?_)
      | wp_step))
    all_goals first | exact ⟨_,rfl,h⟩ | skip
open PySem.NumText in
theorem Z76 {prog : Program} {w : World} {A : Around} {E : Value → Shared → Prop} {s : Shared} {Q : Value → Shared → Prop} {x : PySem.Str} {t : Tok} {n : Int} (hd : s.heap.NoDigits) (hA : x.cps.all (· < 128) = true) (hn : PySem.intText? x = some n) (hl : x.length ≤ sizeLine)
    (h : Q (.int n s.toks) { s with toks := s.toks + 1 }) : wpAny (model prog w) A (call (.type "int") [.str x t]) Q E s := by
  by_cases hs : (numSeenOf x).length ≤ 640
  · by_cases hl2 : x.length ≤ 640
    · exact PySem.W.KIN.call_text hn hl2 h
    · exfalso
      have e1 : numTextOf x = x.cps.toList := if_pos hA
      by_cases k : ((numSeenOf x).length == (numTextOf x).length) = true
      · have k' := beq_iff_eq.mp k
        have e2 : (numTextOf x).length = x.length := by rw [e1]; exact Array.length_toList
        rw [e2] at k'
        omega
      · unfold intText? at hn
        rw [if_neg k] at hn
        cases hn
  · rcases read4300 x hl with ⟨m,h1,h2,h3⟩ | ⟨h1,_⟩
    · rw [hn] at h1
      cases h1
      exact call_int_1 (Z58 hs h3 h2) ⟨hd,typeIs_int _ _ _,h⟩
    · rw [hn] at h1
      cases h1
section
variable {X : Cx}
theorem noDig {pins : List (Addr × Obj)} {σ : L2.St} {H : Hp} {s : Shared} (I : Inv X pins σ H s) (h : NoDig X.K) : s.heap.NoDigits := by
  obtain ⟨mc,a,_⟩ := I.nolimit
  exact ⟨mc,a,Zbv I.kIn a h⟩
abbrev rIntStrB : List V → Hp → VK → Prop := fun xs H Q => ∃ (l : List Nat) (n : Int),xs = [.str (S l)] ∧ l.all (· < 128) = true ∧ PySem.intText? (S l) = some n ∧ l.length ≤ 100000 ∧ Q (.int n) H
theorem Z3g (hD : NoDig X.K) : CallR X (.type "int") rIntStrB := by
  intro pins s σ H xs us Q I rs h
  obtain ⟨l,n,rfl,hA,hn,hl,h⟩ := h
  cases rs with
  | cons r1 rs =>
    cases rs
    obtain ⟨t,rfl⟩ := r1
    exact Z76 (noDig I hD) (by simpa [S] using hA) hn (szS hl) ⟨.int n,H,I.tok _,⟨_,rfl⟩,h⟩
end
end Ap
set_option maxHeartbeats 4000000
namespace Fx
open PySem PySem.Spec PyProof.Rows L2 SX Ap
variable [Tb]
def bools : List T → Option (List Bool)
  | [] => some []
  | .bl b :: ts => (bools ts).map (b :: ·)
  | _ :: _ => none
def gAll : List T → Sto → Option (T × Sto)
  | [t],Z => (asList t Z).bind fun ts => (bools ts).map fun bs => (.bl (bs.all id),Z)
  | _,_ => none
def gAny : List T → Sto → Option (T × Sto)
  | [t],Z => (asList t Z).bind fun ts => (bools ts).map fun bs => (.bl (bs.any id),Z)
  | _,_ => none
theorem Z4e {K : PySem.W.Frag} {ι : List Addr} {H : Hp} : ∀ {vs : List V} {ts : List T} {bs : List Bool},Reps K ι H vs ts → bools ts = some bs → vs = bs.map V.bl
  | _,[],bs,r,h => by
    cases r
    have : bs = [] := (Option.some.inj h).symm
    subst this; rfl
  | _,t :: ts,bs,r,h => by
    cases r with
    | cons r1 rs =>
      cases t with
      | bl b =>
        simp only [bools] at h
        cases e : bools ts with
        | none => rw [e] at h; cases h
        | some cs =>
          rw [e] at h
          have : bs = b :: cs := (Option.some.inj h).symm
          subst this
          cases r1
          rw [Z4e rs e]; rfl
      | _ => simp [bools] at h
theorem Z9v {X : Cx} {K : PySem.W.Frag} (hK : X.K = K) (hc : X.calm = true) : CallR X (.builtin "all") (rFC K gAll) := by
  subst hK
  refine Vf (cr_all hc) fun xs H Q h => ?_
  obtain ⟨ι,Z,ts,s,r,p⟩ := h
  match ts,r,p with
  | [],_,p => exact p.elim
  | _ :: _ :: _,_,p => simp only [gAll] at p; exact p.elim
  | [t],r,p =>
    obtain ⟨v,rfl,rr⟩ := r.one
    simp only [gAll] at p
    cases e : asList t Z with
    | none => rw [e] at p; exact p.elim
    | some us =>
      rw [e] at p
      obtain ⟨a,vs,rfl,hq,rs⟩ := Vn s rr e
      cases eb : bools us with
      | none => simp only [Option.bind_some,eb] at p; exact p.elim
      | some bs =>
        simp only [Option.bind_some,eb,Option.map_some] at p
        have := Z4e rs eb
        subst this
        exact ⟨a,bs,rfl,hq,Y7 p s (.bl _)⟩
def gStr : List T → Sto → Option (T × Sto)
  | [.int i],Z => if i.natAbs < 10 ^ 4300 then some (.str (dec i),Z) else none
  | _,_ => none
def gIntT : List T → Sto → Option (T × Sto)
  | [.int i],Z => some (.int i,Z)
  | [.bl b],Z => some (.int (if b then 1 else 0),Z)
  | [.str l],Z => if l.all (· < 128) = true ∧ l.length ≤ 100000 then (PySem.intText? (S l)).map fun n => (.int n,Z) else none
  | _,_ => none
theorem Z13 {X : Cx} {K : PySem.W.Frag} (hD : NoDig X.K) : CallR X (.type "int") (rFC K gIntT) := Vf (Z0j call_int1 (Z3g hD)) fun xs H Q h => by
  obtain ⟨ι,Z,ts,s,r,p⟩ := h
  unfold gIntT at p
  split at p
  · obtain ⟨v,rfl,rr⟩ := r.one
    cases rr
    exact .inl (.inl ⟨_,rfl,Y7 p s (.int _)⟩)
  · obtain ⟨v,rfl,rr⟩ := r.one
    cases rr
    exact .inl (.inr ⟨_,rfl,Y7 p s (.int _)⟩)
  · obtain ⟨v,rfl,rr⟩ := r.one
    cases rr
    split at p
    · rename_i hz
      cases e : PySem.intText? (S _) with
      | none => rw [e] at p; exact p.elim
      | some n =>
        rw [e] at p
        exact .inr ⟨_,n,rfl,hz.1,e,hz.2,Y7 p s (.int _)⟩
    · exact p.elim
  · exact p.elim
end Fx
set_option maxHeartbeats 4000000
namespace Fx
open PySem PySem.Spec PyProof.Rows L2 SX Ap
variable [Tb]
def eCallK (F : FF) (g : List T → List T) (fa : FA) : FE := fun ρ Z => (fa ρ Z).bind fun ts Z1 => F (g ts) Z1
end Fx
set_option maxHeartbeats 4000000
namespace Fx
open PySem PySem.Spec PyProof.Rows L2 SX
variable [Tb]
end Fx
set_option maxHeartbeats 4000000
namespace Fx
open PySem PySem.Spec PyProof.Rows L2 SX Ap
variable [Tb]
theorem Z14 {a b : String} (h : PySem.Str.ofString a = PySem.Str.ofString b) : a = b := by
  have e : a.toList.map Char.toNat = b.toList.map Char.toNat := by rw [← signs_ofString,← signs_ofString,h]
  have key : ∀ (l m : List Char),l.map Char.toNat = m.map Char.toNat → l = m := by
    intro l
    induction l with
    | nil => intro m h; cases m with
      | nil => rfl
      | cons c m => cases h
    | cons c l ih => intro m h; cases m with
      | nil => cases h
      | cons d m =>
        rw [List.map_cons,List.map_cons] at h
        have h1 := (List.cons.inj h).1
        have h2 := ih m (List.cons.inj h).2
        have : c = d := by
          apply Char.ext
          apply UInt32.toNat_inj.mp
          exact h1
        rw [this,h2]
  exact String.toList_inj.mp (key _ _ e)
theorem Zbw {a b : String} : (PySem.Str.ofString a == PySem.Str.ofString b) = (a == b) := by
  by_cases h : a = b
  · subst h; rw [beq_self_eq_true,beq_self_eq_true]
  · rw [beq_eq_false_iff_ne.mpr h,beq_eq_false_iff_ne.mpr fun e => h (Z14 e)]
theorem RepF.lookup {K : PySem.W.Frag} {ι : List Addr} {H : Hp} {f : String} : ∀ {vs : List (PySem.Str × V)} {fs : List (String × T)},RepF K ι H vs fs →
    (∀ t,fs.lookup f = some t → ∃ v,vs.lookup (PySem.Str.ofString f) = some v ∧ Rep K ι H v t) ∧ (fs.lookup f = none → vs.lookup (PySem.Str.ofString f) = none)
  | _,_,.nil => ⟨fun t e => (nomatch e),fun _ => rfl⟩
  | _,_,.cons r q => by
    rename_i k v vs t ts
    obtain ⟨h1,h2⟩ := RepF.lookup (f := f) q
    rw [List.lookup_cons,List.lookup_cons,Zbw]
    cases h : f == k with
    | true => exact ⟨fun u e => by cases e; exact ⟨v,rfl,r⟩,fun e => nomatch e⟩
    | false => exact ⟨h1,h2⟩
theorem RepF.length {K : PySem.W.Frag} {ι : List Addr} {H : Hp} : ∀ {vs : List (PySem.Str × V)} {fs : List (String × T)},RepF K ι H vs fs → vs.length = fs.length
  | _,_,.nil => rfl
  | _,_,.cons _ r => congrArg (· + 1) r.length
def putS (f : String) (t : T) : List (String × T) → List (String × T)
  | [] => [(f,t)]
  | (g,x) :: r => if g = f then (g,t) :: r else (g,x) :: putS f t r
theorem RepF.put {K : PySem.W.Frag} {ι : List Addr} {H : Hp} {f : String} {v : V} {t : T} (rv : Rep K ι H v t) : ∀ {vs : List (PySem.Str × V)} {fs : List (String × T)},RepF K ι H vs fs → RepF K ι H (putF (PySem.Str.ofString f) v vs) (putS f t fs)
  | _,_,.nil => .cons rv .nil
  | _,_,.cons r q => by
    rename_i k x vs u ts
    unfold putF putS
    by_cases h : k = f
    · rw [if_pos h,if_pos (by rw [h])]; exact .cons rv q
    · rw [if_neg h,if_neg fun e => h (Z14 e)]; exact .cons r (RepF.put rv q)
def getI (Z : Sto) (i : Nat) : Option (String × List (String × T)) := match Z[i]? with
  | some (.ins C fs) => some (C,fs)
  | _ => none
theorem Z0l {Z : Sto} {i : Nat} {C : String} {fs : List (String × T)} (h : getI Z i = some (C,fs)) : Z[i]? = some (.ins C fs) := by
  unfold getI at h
  split at h
  · rename_i e; cases h; exact e
  · cases h
structure CF (K : PySem.W.Frag) (C : String) (Ca : Addr) : Prop where
  ns : PySem.W.nsIn K mainGlobals (PySem.Str.ofString C) = some (some (.ref Ca))
  cls : Cls K Ca
def FldOk (K : PySem.W.Frag) (cs : List String) (f : String) : Prop := ∀ C ∈ cs,∃ Ca,CF K C Ca ∧ NoAttr K Ca (PySem.Str.ofString f)
theorem FldOk.nil {K : PySem.W.Frag} {f : String} : FldOk K [] f := fun _ h => nomatch h
theorem FldOk.cons {K : PySem.W.Frag} {C : String} {Ca : Addr} {cs : List String} {f : String} (c : CF K C Ca) (n : NoAttr K Ca (PySem.Str.ofString f)) (h : FldOk K cs f) : FldOk K (C :: cs) f := fun D hD => by
  rcases List.mem_cons.mp hD with rfl | k
  · exact ⟨Ca,c,n⟩
  · exact h D k
theorem Z82 {K : PySem.W.Frag} {ι : List Addr} {H : Hp} {Z : Sto} {v : V} {i : Nat} {C : String} {fs : List (String × T)} (s : Sim K ι Z H) (r : Rep K ι H v (.loc i)) (e : getI Z i = some (C,fs)) :
    ∃ a Ca dx vs,v = .ref a ∧ ι[i]? = some a ∧ PySem.W.nsIn K mainGlobals (PySem.Str.ofString C) = some (some (.ref Ca)) ∧ H a = some (.ins Ca dx vs) ∧ RepF K ι H vs fs := by
  cases r with
  | loc h =>
    obtain ⟨a,h1,Ca,dx,vs,hn,h2,h3⟩ := s.at (Z0l e)
    rw [h] at h1; cases h1
    exact ⟨_,Ca,dx,vs,rfl,h,hn,h2,h3⟩
def fldT (cs : List String) (f : String) (x : T) (Z : Sto) : Option T := match x with
  | .loc i => match getI Z i with
    | some (C,fs) => if C ∈ cs then fs.lookup f else none
    | none => none
  | _ => none
def eFld (cs : List String) (f : String) (fe : FE) : FE := fun ρ Z => (fe ρ Z).bind fun x Z1 => match fldT cs f x Z1 with
  | some t => .ok t Z1
  | none => .stuck
def setF (cs : List String) (f : String) (x y : T) (Z : Sto) : Option Sto := match x with
  | .loc i => match getI Z i with
    | some (C,fs) => if C ∈ cs ∧ fs.length < 1000 then some (Z.set i (.ins C (putS f y fs))) else none
    | none => none
  | _ => none
def sFldS (cs : List String) (f : String) (fo fv : FE) : FS := fun ρ Z => bS ρ (fv ρ Z) fun y Z1 => bS ρ (fo ρ Z1) fun x Z2 => match setF cs f x y Z2 with
  | some Z3 => .nx ρ Z3
  | none => .stuck
def gFld (cs : List String) (f : String) (fo : FE) : FG := fun y ρ Z => (fo ρ Z).bind fun x Z1 => match setF cs f x y Z1 with
  | some Z2 => .ok ρ Z2
  | none => .stuck
def insC (x : T) (Z : Sto) : Option String := match x with
  | .loc i => (getI Z i).map (·.1)
  | _ => none
section
variable {X : Cx} {K : PySem.W.Frag} {cs : List String} {f : String} {o e value : Expr} {pos pos' tpos : Pos} {fo fv fe : FE}
theorem Zda {ι : List Addr} {H : Hp} {Z : Sto} {x : V} {tx t : T} (hc : FldOk K cs f) (s : Sim K ι Z H) (r : Rep K ι H x tx) (h : fldT cs f tx Z = some t) :
    ∃ a Ca dx vs v,x = .ref a ∧ H a = some (.ins Ca dx vs) ∧ Cls K Ca ∧ NoAttr K Ca (PySem.Str.ofString f) ∧ vs.lookup (PySem.Str.ofString f) = some v ∧ Rep K ι H v t ∧ ∃ C,insC tx Z = some C ∧ PySem.W.nsIn K mainGlobals (PySem.Str.ofString C) = some (some (.ref Ca)) := by
  unfold fldT at h
  split at h
  · split at h
    · rename_i C fs eg
      split at h
      · rename_i hC
        obtain ⟨a,Ca,dx,vs,rfl,hi,hn,ha,hf⟩ := Z82 s r eg
        obtain ⟨Cb,cf,na⟩ := hc C hC
        have e2 := hn.symm.trans cf.ns
        cases e2
        obtain ⟨v,hv,rv⟩ := hf.lookup.1 t h
        exact ⟨a,_,dx,vs,v,rfl,ha,cf.cls,na,hv,rv,C,by simp only [insC,eg,Option.map_some],hn⟩
      · cases h
    · cases h
  · cases h
theorem Zbx {ι : List Addr} {H : Hp} {Z Z' : Sto} {x y : V} {tx ty : T} (hc : FldOk K cs f) (s : Sim K ι Z H) (r : Rep K ι H x tx) (ry : Rep K ι H y ty) (h : setF cs f tx ty Z = some Z') :
    ∃ a Ca dx vs,x = .ref a ∧ H a = some (.ins Ca dx vs) ∧ Cls K Ca ∧ NoAttr K Ca (PySem.Str.ofString f) ∧ vs.length < 1000 ∧
      Gr ι ι H (upd H a (.ins Ca dx (putF (PySem.Str.ofString f) y vs))) ∧ Sim K ι Z' (upd H a (.ins Ca dx (putF (PySem.Str.ofString f) y vs))) ∧ ∃ C, insC tx Z = some C ∧ PySem.W.nsIn K mainGlobals (PySem.Str.ofString C) = some (some (.ref Ca)) := by
  unfold setF at h
  split at h
  · split at h
    · rename_i C fs eg
      split at h
      · rename_i hC
        cases h
        obtain ⟨a,Ca,dx,vs,rfl,hi,hn,ha,hf⟩ := Z82 s r eg
        obtain ⟨Cb,cf,na⟩ := hc C hC.1
        have e2 := hn.symm.trans cf.ns
        cases e2
        have g := Gr.mut (ι := ι) (o := .ins Ca dx (putF (PySem.Str.ofString f) y vs)) ha trivial (List.mem_of_getElem? hi)
        exact ⟨a,_,dx,vs,rfl,ha,cf.cls,na,by rw [hf.length]; exact hC.2,g,s.set hi ⟨Ca,dx,_,hn,upd_same,(hf.gr g).put (ry.gr g)⟩,C,by simp only [insC,eg,Option.map_some],hn⟩
      · cases h
    · cases h
  · cases h
theorem Z3h {W : Wc} (hK : X.K = K) (hc : FldOk K cs f) (he : FJ X K W e fe) (hb : attributeBase e (PySem.Str.ofString f) X.env (eval e X.env) = eval e X.env := by rfl) : FJ X K W (.Attribute e (PySem.Str.ofString f) pos) (eFld cs f fe) := by
  subst hK
  refine Xj (pe_fld he hb) fun σ H Q h => ?_
  obtain ⟨ι,ρ,Z,is,p⟩ := h
  refine ⟨ι,ρ,Z,is,(Zi p).imp fun x H1 q => ?_⟩
  obtain ⟨ι1,Z1,tx,g1,s1,r1,p1⟩ := q
  split at p1
  · rename_i t et
    obtain ⟨a,Ca,dx,vs,v,rfl,ha,hcl,na,hv,rv,_⟩ := Zda hc s1 r1 et
    exact ⟨a,Ca,dx,vs,v,rfl,ha,hcl,na,hv,p1 ι1 H1 _ Gr.refl s1 rv⟩
  · exact p1.elim
variable {W : WX}
end
def eMake (C : String) (F : FF) (ds : List T) (fa : FA) : FE := fun ρ Z => (fa ρ Z).bind fun ts Z1 => (F (.loc Z1.length :: (ts ++ ds)) (Z1 ++ [.ins C []])).bind fun r Z2 => match r with
  | .non => .ok (.loc Z1.length) Z2
  | _ => .stuck
section
variable {X : Cx} {K : PySem.W.Frag} {W : Wc} {x : PySem.Str} {m C : String} {p pos apos : Pos} {o e : Expr} {es : List Expr} {fo : FE} {fa : FA} {k n : Nat} {Ca f : Addr} {fd : FuncData} {ps : List PySem.Str} {F : FF} {dvs : List V} {ds : List Value} {dts : List T}
theorem Zdb {pins : List (Addr × Obj)} {σ : L2.St} {H : Hp} {s : Shared} {Q : VK} {us : List Value} {vs : List V} {sp : Sp} (M : Mk X.K Ca f) (G : FnG X.prog X.w X.K X.mg X.base k f fd ps sp) (hr : Room (k + 1) X.A) (hG : X.A.guards = some []) (hb : Binds X.K fd ps ds) (hd : Vals dvs ds) (tk : Takes X W.w)
    (I : Inv X pins σ H s) (r : Vals vs us)
    (h : ∀ a dx,H a = none → H dx = none → dx ≠ a → sp (.ref a :: (vs ++ dvs)) (upd (upd H dx (.own a)) a (.ins Ca dx [])) (fun v H2 => v = .non ∧ Q (.ref a) H2) (WE W.w σ)) :
    wpAny (model X.prog X.w) X.A (call (.ref Ca) us) (EP X pins σ Q) X.xe s := by
  have n1 := I.hok.fresh (Nat.le_succ s.heap.objs.size)
  have n0 := I.hok.fresh (Nat.le_refl s.heap.objs.size)
  have q0 := h _ _ n1 n0 (Nat.ne_of_lt (Nat.lt_succ_self _))
  have J := Inv.made (C := Ca) I
  have rr : Vals (V.ref (s.heap.objs.size + 1) :: (vs ++ dvs)) (Value.ref (s.heap.objs.size + 1) :: (us ++ ds)) := .cons rfl (r.append hd)
  have hl : (Value.ref (s.heap.objs.size + 1) :: us ++ ds).length = ps.length := (rr.length.symm.trans (G.len _ _ _ _ q0))
  have body := G.run (X.A.under (.builtin "type.__call__" ⟨.ref Ca :: us, []⟩)) X.stack _ _ ⟨Value.ref (s.heap.objs.size + 1) :: us, []⟩ _ _ _ _
    (hr.make Ca us []) hG (J.env0.make Ca us []) (hb _ (Value.ref (s.heap.objs.size + 1) :: us) J.kIn hl) rr q0
  refine wpAny_call (make_map (f := f) I.kIn M.makes M.init (beq_iff_eq.mp M.fn) (codeAny_mono body fun z s' hz => ?_))
  cases z with
  | error e => exact passAt tk σ pins _ _ e s' J hz
  | ok fl =>
    cases fl with
    | ret u =>
      obtain ⟨v, H', I3, rv, ev, q3⟩ := J.after hz
      subst ev
      exact ⟨rv, V.ref (s.heap.objs.size + 1), H', I3, rfl, q3⟩
    | next => exact hz.elim
    | brk => exact hz.elim
    | cont => exact hz.elim
theorem Z9w {ι : List Addr} {H : Hp} {Z : Sto} {a dx : Addr} (cf : CF K C Ca) (s : Sim K ι Z H) (na : H a = none) (nd : H dx = none) (ne : dx ≠ a) :
    Gr ι (ι ++ [a]) H (upd (upd H dx (.own a)) a (.ins Ca dx [])) ∧ Sim K (ι ++ [a]) (Z ++ [.ins C []]) (upd (upd H dx (.own a)) a (.ins Ca dx [])) := by
  have g1 : Gr ι ι H (upd H dx (.own a)) := Gr.new0 nd
  have s1 := s.same (Ud (o := .own a) nd)
  have na2 : upd H dx (.own a) a = none := by rw [upd_ne (Ne.symm ne)]; exact na
  exact ⟨g1.trans (Gr.new na2),s1.new na2 ⟨Ca,dx,[],cf.ns,upd_same,.nil⟩⟩
theorem made_post {ι : List Addr} {H : Hp} {Z : Sto} {Q : VK} {σ : L2.St} {a : Addr} {ts : List T} (s : Sim K ι Z H) {H2 : Hp} (g2 : Gr ι (ι ++ [a]) H H2)
    (p : Post (Rep K) K W.w σ ι H Q ((F ts (Z ++ [.ins C []])).bind fun r Z2 => match r with | .non => .ok (.loc Z.length) Z2 | _ => .stuck)) : Post (Rep K) K W.w σ (ι ++ [a]) H2 (fun v H3 => v = .non ∧ Q (.ref a) H3) (F ts (Z ++ [.ins C []])) := by
  cases e : F ts (Z ++ [.ins C []]) with
  | ok t Z2 =>
    rw [e,Yk] at p
    intro ι3 H3 v g3 s3 r3
    cases t with
    | non =>
      cases r3
      have hi : (ι ++ [a])[Z.length]? = some a := by rw [← s.len]; simp
      exact ⟨rfl,p ι3 H3 (.ref a) (g2.trans g3) s3 (.loc (g3.pre _ _ hi))⟩
    | _ => exact p.elim
  | exc x Z2 => rw [e] at p; exact fun ι3 H3 cls d g3 s3 rx => p ι3 H3 cls d (g2.trans g3) s3 rx
  | stuck => rw [e] at p; exact p
theorem U0 (hK : X.K = K) (cf : CF X.K C Ca) (M : Mk X.K Ca f) (G : FnG X.prog X.w X.K X.mg X.base k f fd ps (spF X.K n F)) (hr : Room (k + 1) X.A) (hG : X.A.guards = some []) (hg : Gl X x) (hm : X.mg x = some (.ref Ca)) (hb : Binds X.K fd ps ds) (hd : Vals dvs ds) (hdf : Dfl K dvs dts) (tk : Takes X W.w)
    (ha : FAJ X K W (e :: es) fa) (hn : ofLen (e :: es) fa) (hln : (e :: es).length + dts.length + 1 = n := by rfl) (hdb : (x == ("__debug__" : PySem.Str)) = false := by decide) (he : starEach (e :: es) X.env = (false, eval e X.env) :: starEach es X.env := by rfl) (hpl : (backTo pos (starEach es X.env)).any (·.1) = false := by rfl) :
    FJ X K W (.Call (.Name x p) (e :: es) [] pos) (eMake C F dts fa) := by
  subst hK
  refine ⟨fun pins s σ H Q I h => ?_⟩
  refine wpAny_Call_Name_kw (ld_glob I hg hm ?_ hdb)
  obtain ⟨ι,ρ,Z,is,p⟩ := h
  have t : tFA X.K W fa σ H (fun vs H1 => ∀ a dx,H1 a = none → H1 dx = none → dx ≠ a → spF X.K n F (.ref a :: (vs ++ dvs)) (upd (upd H1 dx (.own a)) a (.ins Ca dx [])) (fun v H2 => v = .non ∧ Q (.ref a) H2) (WE W.w σ)) := by
    refine ⟨ι,ρ,Z,is,?_⟩
    unfold eMake at p
    cases e : fa ρ Z with
    | ok ts Z1 =>
      rw [e,Yk] at p
      refine fun ι1 H1 vs g1 s1 r1 a dx na nd ne => ?_
      obtain ⟨g2,s2⟩ := Z9w cf s1 na nd ne
      have hi : (ι1 ++ [a])[Z1.length]? = some a := by rw [← s1.len]; simp
      have r2 : Reps X.K (ι1 ++ [a]) (upd (upd H1 dx (.own a)) a (.ins Ca dx [])) (V.ref a :: (vs ++ dvs)) (.loc Z1.length :: (ts ++ dts)) := .cons (.loc hi) ((r1.gr g2).append (hdf _ _))
      refine ⟨?_,_,_,_,s2,r2,(made_post s1 g2 (p.shift g1)).wx fun _ _ _ h => h⟩
      rw [r2.length,List.length_cons,List.length_append,hn _ _ _ _ e]
      exact hln
    | exc y Z1 => rw [e] at p; exact p
    | stuck => rw [e] at p; exact p
  refine PySem.W.callWith_K (h₀ := X.base) I.ok.mod.kin M.kp (thn (ha.run pos pins s σ H _ I t) fun us s1 ⟨vs,H1,I1,r,q⟩ => ⟨I1.kIn,?_⟩) he hpl
  exact Zdb M G hr hG hb hd tk I1 r q
end
end Fx
set_option maxHeartbeats 4000000
namespace Fx
open PySem PySem.Spec PyProof.Rows L2 SX Ap
variable [Tb]
section
variable {X : Cx} {K : PySem.W.Frag} {W : WX} {cs : List String} {f : String} {o : Expr} {pos : Pos} {fo : FE}
def gFldV (K : PySem.W.Frag) (ta : TE) (f : PySem.Str) : TG := fun y σ H Q => ta σ H fun x H2 => ∃ a C dx fs,x = .ref a ∧ H2 a = some (.ins C dx fs) ∧ Cls K C ∧ NoAttr K C f ∧ fs.length < 1000 ∧ Q σ (upd H2 a (.ins C dx (putF f y fs)))
theorem Zdc {f : PySem.Str} {ta : TE} (ha : PE X o ta) (he : ∀ v,assign (.Attribute o f pos) X.env v = (do
    let ov ← holding [v] (eval o X.env)
    standAt pos.atName
    holding [v,ov] (setAttr ov f v)
    release [v,ov] []) := by intro _; rfl) : PG X (.Attribute o f pos) (gFldV X.K ta f) := by
  refine ⟨fun pins s σ H v u Q I r h => ?_⟩
  rw [he]
  refine wpAny_bind (wpAny_holding (thn (ha.run pins s σ H _ I h) fun ov s2 ⟨x,H2,I2,rx,a,C,dx,fs,ex,ea,c,n,l,q2⟩ => ?_))
  subst ex
  obtain rfl : ov = Value.ref a := rx
  refine wpAny_bind (wpAny_standAt (wpAny_bind (wpAny_holding (setattr_ok I2 ea c n l r fun s3 I3 => ?_))))
  exact wpAny_release ⟨σ,_,I3,q2⟩
theorem Zb2 (hK : X.K = K) (hc : FldOk K cs f) (ho : FJ X K (Wt W) o fo) (he : ∀ v,assign (.Attribute o (PySem.Str.ofString f) pos) X.env v = (do
    let ov ← holding [v] (eval o X.env)
    standAt pos.atName
    holding [v,ov] (setAttr ov (PySem.Str.ofString f) v)
    release [v,ov] []) := by intro _; rfl) : PG X (.Attribute o (PySem.Str.ofString f) pos) (tG K W (gFld cs f fo)) := by
  subst hK
  refine Z60 (Zdc ho he) fun v σ H Q h => ?_
  obtain ⟨ι,ρ,Z,t,is,r,p⟩ := h
  refine ⟨ι,ρ,Z,is.ie,(Zi (rep := Rep X.K) p).imp fun x H1 q => ?_⟩
  obtain ⟨ι1,Z1,tx,g1,s1,r1,p1⟩ := q
  split at p1
  · rename_i Z2 e2
    obtain ⟨a,Ca,dx,vs,ex,ea,c,n,l,g2,s2,_⟩ := Zbx hc s1 r1 (r.gr g1) e2
    refine ⟨a,Ca,dx,vs,ex,ea,c,n,l,?_⟩
    have i2 := (is.gr g1 s1).gr g2 s2
    exact p1 ι1 _ _ g2 s2 ⟨i2.len,i2.env⟩
  · exact p1.elim
end
end Fx
set_option maxHeartbeats 4000000
namespace Fx
open PySem PySem.Spec PyProof.Rows L2 SX Ap
def bTypes : List String := ["NoneType", "bool", "int", "str", "tuple", "list", "dict"]
structure OC (K : PySem.W.Frag) (C : String) (Ca fe : Addr) : Prop where
  cf : CF K C Ca
  ins : C8.InsC K Ca
  eq : PySem.W.findIn K (.ref Ca) "__eq__" = some (some (.ref fe))
  fn : PySem.W.isFn K (.ref fe) = true
  nf : (bTypes.all fun n => PySem.W.notFirst K Ca (.type n)) = true
  no : (bTypes.all fun n => decide (PySem.W.kitOne K (.type n) (.ref Ca) = some false)) = true
variable [Tb]
def okY (C : String) (t : T) (Z : Sto) : Bool := match tyT t Z with
  | some n => decide (n ∈ bTypes)
  | none => decide (insC t Z = some C)
def isBl : T → Bool
  | .bl _ => true
  | _ => false
def gOwnEq (C : String) (F : FF) (x y : T) (Z : Sto) : Option (T × Sto) := if insC x Z = some C ∧ okY C y Z = true then (match F [x,y] Z with
  | .ok t Z' => if isBl t = true then some (t, Z') else none
  | _ => none) else none
theorem insC_at {K : PySem.W.Frag} {ι : List Addr} {H : Hp} {Z : Sto} {v : V} {tx : T} {C : String} {Ca : Addr} (cf : CF K C Ca) (s : Sim K ι Z H) (r : Rep K ι H v tx) (e : insC tx Z = some C) :
    ∃ a dx vs i,v = .ref a ∧ tx = .loc i ∧ H a = some (.ins Ca dx vs) := by
  unfold insC at e
  split at e
  · rename_i i
    cases eg : getI Z i with
    | none => rw [eg] at e; cases e
    | some p =>
      obtain ⟨C', fs⟩ := p
      rw [eg] at e
      cases e
      obtain ⟨a,Cb,dx,vs,rfl,hi,hn,ha,hf⟩ := Z82 s r eg
      have e2 := hn.symm.trans cf.ns
      cases e2
      exact ⟨a,dx,vs,i,rfl,rfl,ha⟩
  · cases e
section
variable {X : Cx} {K : PySem.W.Frag} {C : String} {Ca fe : Addr} {k : Nat} {fd : FuncData} {ps : List PySem.Str} {F : FF}
theorem Z1x (hK : X.K = K) (oc : OC K C Ca fe) (G : FnG X.prog X.w X.K X.mg X.base k fe fd ps (spF X.K 2 F)) (hr : Room k X.A) (hG : X.A.guards = some []) (hb : Binds X.K fd ps []) : OpF X K (compareOp .Eq) (gOwnEq C F) := by
  subst hK
  intro pins s σ H x y v u Q I rx ry h
  obtain ⟨ι,Z,tx,ty,is,r1,r2,p⟩ := h
  unfold gOwnEq at p
  split at p
  · rename_i hc
    obtain ⟨a,dx,vs,i,rfl,rfl,ha⟩ := insC_at oc.cf is r1 hc.1
    obtain rfl : v = Value.ref a := rx
    obtain ⟨mA,J,_⟩ := ins_get I.hok ha
    obtain ⟨od,J,_⟩ := J.look
    obtain ⟨m,hF⟩ := I.fr
    have hty : ∃ tb : Value,PySem.W.Looks (model X.prog X.w) s.heap (typeOf u) tb ∧ PySem.W.notFirst X.K Ca tb = true := by
      have h2 := hc.2
      unfold okY at h2
      split at h2
      · rename_i n en
        obtain ⟨P,KX,hP,_⟩ := kit_of I ry (Z4b is r2 en)
        exact ⟨_,KX.ty _ _ I.kIn hP,List.all_eq_true.mp oc.nf n (of_decide_eq_true h2)⟩
      · obtain ⟨b,dy,ws,j,rfl,rfl,hb2⟩ := insC_at oc.cf is r2 (of_decide_eq_true h2)
        obtain rfl : u = Value.ref b := ry
        obtain ⟨mB, J', _⟩ := ins_get I.hok hb2
        obtain ⟨od', J', _⟩ := J'.look
        exact ⟨_, J'.type, by simp [PySem.W.notFirst]⟩
    obtain ⟨tb,hL,hN⟩ := hty
    show wpAny (model X.prog X.w) X.A (richCompare .Eq (.ref a) u) (EP X pins σ Q) X.xe s
    refine PySem.W.cmp_K (op := .Eq) hr.units0 hF I.ok.mod.kin J hL hN oc.eq oc.fn ?_
    have tk : Takes X (Wt (fun _ _ _ _ => False)).w := fun _ _ ⟨_,_,_,_,_,_,_,_,_,_,_,_,_,_,_,_,w⟩ => w.elim
    refine wpAny_mono (Zd7 (W := Wt fun _ _ _ _ => False) (us := [.ref a, u]) (vs := [.ref a, y]) (Q := fun z H' => (∃ b, z = .bl b) ∧ Q z H') G hr hG hb .nil tk I (.cons rfl (.cons ry .nil)) ?_) (fun z s' hz => ?_) fun _ _ e => e
    · refine ⟨rfl,ι,Z,[.loc i,ty],is,.cons r1 (.cons r2 .nil),?_⟩
      cases e : F [.loc i,ty] Z with
      | ok t Z' =>
        rw [e] at p
        simp only at p
        split at p
        · rename_i hbl
          intro ι2 H2 z g2 s2 r3
          refine ⟨?_,p ι2 H2 z g2 s2 r3⟩
          cases t <;> first | (cases r3; exact ⟨_,rfl⟩) | cases hbl
        · exact p.elim
      | exc _ _ => rw [e] at p; exact p.elim
      | stuck => rw [e] at p; exact p.elim
    · obtain ⟨z', H', I', rz, ⟨b, rfl⟩, q⟩ := hz
      cases rz
      exact ⟨.bl b, H', I', rfl, q⟩
  · exact p.elim
def gIsC2 (C : String) (Ca : Addr) : List T → Sto → Option (T × Sto)
  | [t,.ref c],Z => if c = Ca ∧ okY C t Z = true then some (.bl (decide (insC t Z = some C)),Z) else none
  | _,_ => none
theorem Z9x {t : T} {Z : Sto} {n : String} (h : tyT t Z = some n) : insC t Z = none := by
  unfold insC
  split
  · rename_i i
    unfold tyT at h
    unfold getI
    split
    · rename_i C fs e
      simp only [e] at h
      cases h
    · rfl
  · rfl
theorem Zdd (hK : X.K = K) (oc : OC K C Ca fe) : CallR X (.builtin "isinstance") (rFC K (gIsC2 C Ca)) := by
  subst hK
  refine Vf call_isi fun xs H Q h => ?_
  obtain ⟨ι,Z,ts,s,r,p⟩ := h
  unfold gIsC2 at p
  split at p
  · obtain ⟨v,w,rfl,r1,r2⟩ := r.two
    rename_i t c
    cases r2
    split at p
    · rename_i hc
      obtain ⟨rfl,hy⟩ := hc
      unfold okY at hy
      split at hy
      · rename_i n en
        have hno := of_decide_eq_true (List.all_eq_true.mp oc.no n (of_decide_eq_true hy))
        rw [Z9x en] at p
        exact ⟨v,_,_,_,false,rfl,.own _,Z4b s r1 en,hno,Y7 p s (.bl _)⟩
      · have e2 := of_decide_eq_true hy
        obtain ⟨a,dx,vs,i,rfl,rfl,ha⟩ := insC_at oc.cf s r1 e2
        rw [decide_eq_true e2] at p
        exact ⟨_,_,_,_,true,rfl,.own _,.base (.ins ha oc.ins.cl oc.ins.ha oc.ins.hn oc.ins.htk oc.ins.hm),oc.ins.me,Y7 p s (.bl _)⟩
    · exact p.elim
  · exact p.elim
def eIsC (C : String) (fe : FE) : FE := fun ρ Z => (fe ρ Z).bind fun x Z1 => if okY C x Z1 = true then .ok (.bl (decide (insC x Z1 = some C))) Z1 else .stuck
theorem f_isC {W : Wc} {x y : PySem.Str} {e : Expr} {fx : FE} {p p2 pos : Pos} (hK : X.K = K) (oc : OC K C Ca fe) (hg : Gl X x) (hm : X.mg x = none) (hv : bootBuiltins x = some (.builtin "isinstance")) (hg2 : Gl X y) (hm2 : X.mg y = some (.ref Ca)) (he1 : FJ X K W e fx)
    (hn : x ≠ "__name__" := by decide) (hdb : (x == ("__debug__" : PySem.Str)) = false := by decide) (hd2 : (y == ("__debug__" : PySem.Str)) = false := by decide)
    (he : starEach [e,.Name y p2] X.env = (false,eval e X.env) :: starEach [.Name y p2] X.env := by rfl) (hpl : (backTo pos (starEach [.Name y p2] X.env)).any (·.1) = false := by rfl) :
    FJ X K W (.Call (.Name x p) [e,.Name y p2] [] pos) (eIsC C fx) := by
  have hy : FJ X K W (.Name y p2) (eC (.ref Ca)) := f_c (C8.pe_gc (v := .ref Ca) hg2 ⟨_,hm2,rfl⟩ hd2) fun _ _ => .ref _
  have := Yn (p := p) (pos := pos) (Zdd hK oc) hg hm hv (Zb he1 (Zb hy Ze) he) hn hdb he hpl
  have e2 : eCallB (gIsC2 C Ca) (aCons fx (aCons (eC (.ref Ca)) aNil)) = eIsC C fx := by
    funext ρ Z
    show ((fx ρ Z).bind fun x Z1 => R.ok [x,.ref Ca] Z1).bind (fun xs Z1 => lift (gIsC2 C Ca xs Z1)) = (fx ρ Z).bind fun x Z1 => if okY C x Z1 = true then .ok (.bl (decide (insC x Z1 = some C))) Z1 else .stuck
    cases fx ρ Z with
    | ok t Z' =>
      show lift (if Ca = Ca ∧ okY C t Z' = true then some (T.bl (decide (insC t Z' = some C)), Z') else none) = if okY C t Z' = true then _ else _
      cases okY C t Z' <;> simp [lift]
    | exc x Z' => rfl
    | stuck => rfl
  rwa [e2] at this
end
end Fx
set_option maxHeartbeats 4000000
namespace Fx
open PySem PySem.Spec PyProof.Rows L2 SX Ap
variable [Tb]
def lt2 (a : Int) (s : List Nat) (b : Int) (t : List Nat) : Bool := if a = b then (if s = t then false else decide (s < t)) else decide (a < b)
end Fx
set_option maxHeartbeats 4000000
namespace Fx
open PySem PySem.Spec PyProof.Rows L2 SX Ap
variable [Tb]
abbrev lamF (qual : PySem.Str) (params : Arguments) (body : Expr) (scope : Scope) (cl : List (PySem.Str × Addr)) (pm cdv ct dV : Value) : FuncData := { PySem.W.kla_fn "<lambda>" qual params body scope cl pm cdv ct with defaults := dV }
abbrev lamO (qual : PySem.Str) (params : Arguments) (body : Expr) (scope : Scope) (cl : List (PySem.Str × Addr)) (pm cdv ct dV : Value) : Obj := { cls := .type "function", data := .func (lamF qual params body scope cl pm cdv ct dV) }
section
variable {M : Model} {A : Around} {E : Value → Shared → Prop} {s : Shared} {qual : PySem.Str} {params : Arguments} {body : Expr} {scope : Scope} {env : PySem.Env} {c P : Addr} {ps : Array Value} {pos : Pos} {n1 : Nat} {mg : PySem.Str → Option Value} {clos : List (PySem.Str × Addr)} {dV : Value}
theorem Zby {Q : Value → Shared → Prop} (hcl : closureFor scope env = pure clos) (hg0 : env.globals = mainGlobals) (hcode : env.code = .ref c) (hg : s.heap.Ns mainGlobals mg) (C : PySem.W.CodeHd s.heap c P) (hP : s.heap.get? P = some { cls := .none,data := .fields ps }) (ht : TriplesOk ps.toList)
    (hnf : codeAmong pos ps.toList = none) (hgP : mainGlobals ≠ P) (hb : s.heap.BuiltinsAt mg P)
    (h : ∀ c' ctv h' tk, Heap.ExtBut P s.heap h' → s.heap.objs.size ≤ c' → c' < h'.objs.size → h'.CodeRec (.ref c') qual → h'.get? P = some { cls := .none, data := .fields (ps ++ #[rawInt pos.line, rawInt pos.col, .ref c']) } →
      Q (.ref h'.objs.size) { s with heap := h'.push (lamO qual params body scope clos ((mg "__name__").getD .none) (.ref c') ctv dV), toks := tk }) :
    wpAny M A (makeTail "<lambda>" qual params (.expr body) scope env dV .none none pos n1) Q E s := by
  obtain ⟨bm,ob,b1,b2,_,b4,b5,b6,b7,b8⟩ := hb
  unfold makeTail
  rw [hcl,hg0]
  refine wpAny_bind (wpAny_pure ?_)
  cases clos with
  | nil =>
    simp only [List.isEmpty_nil,if_true]
    refine wpAny_bind (wpAny_pure (wpAny_bind (wpAny_functionCodeX hcode (C.code hP ht) (C.tab hP) hnf fun c' h' tk x1 x2 x3 _ x4 x5 _ => ?_)))
    have g1 := hg.extBut x1 hgP
    exact wpAny_bind (wpAny_builtinsFor g1 b1 b2 (x1 _ _ b4 b5) b6 b7 b8 (wpAny_bind (wpAny_nsGet g1 (wpAny_bind (wpAny_pure (wpAny_newObj_type (h c' .none h' tk x1 x2 x3 x4 x5.2) (by size_fits)))))))
  | cons q r =>
    simp only [List.isEmpty_cons,Bool.false_eq_true,if_false]
    refine wpAny_bind (wpAny_newTextTuple (wpAny_bind (wpAny_functionCodeX hcode ((C.keeps fun b o e => Heap.get?_push_of_some _ e).code (Heap.get?_push_of_some _ hP) ht) ((C.keeps fun b o e => Heap.get?_push_of_some _ e).tab (Heap.get?_push_of_some _ hP)) hnf fun c' h' tk x1 x2 x3 _ x4 x5 _ => ?_)))
    have g1 := (hg.push _).extBut x1 hgP
    have y1 : Heap.ExtBut P s.heap h' := fun b o nb e => x1 b o nb (Heap.get?_push_of_some _ e)
    have y2 : s.heap.objs.size ≤ c' := Nat.le_trans (by rw [Heap.size_push]; omega) x2
    exact wpAny_bind (wpAny_builtinsFor g1 b1 b2 (y1 _ _ b4 b5) b6 b7 b8 (wpAny_bind (wpAny_nsGet g1 (wpAny_bind (wpAny_pure (wpAny_newObj_type (h c' _ h' tk y1 y2 x3 x4 x5.2) (by size_fits)))))))
theorem Zbz {Q : Value → Shared → Prop} {cv : Value} (hcl : closureFor scope env = pure clos) (hg0 : env.globals = mainGlobals) (hcode : env.code = .ref c) (hg : s.heap.Ns mainGlobals mg) (C : PySem.W.CodeHd s.heap c P) (hP : s.heap.get? P = some { cls := .none,data := .fields ps }) (ht : TriplesOk ps.toList)
    (hf : codeAmong pos ps.toList = some cv) (hb : s.heap.BuiltinsAt mg P)
    (h : ∀ (ctv : Value) (h' : Heap) (tk : Tok), (∀ b o, s.heap.get? b = some o → h'.get? b = some o) → s.heap.objs.size ≤ h'.objs.size →
      Q (.ref h'.objs.size) { s with heap := h'.push (lamO qual params body scope clos ((mg "__name__").getD .none) cv ctv dV), toks := tk }) :
    wpAny M A (makeTail "<lambda>" qual params (.expr body) scope env dV .none none pos n1) Q E s := by
  obtain ⟨bm,ob,b1,b2,_,b4,b5,b6,b7,b8⟩ := hb
  unfold makeTail
  rw [hcl,hg0]
  refine wpAny_bind (wpAny_pure ?_)
  cases clos with
  | nil =>
    simp only [List.isEmpty_nil,if_true]
    refine wpAny_bind (wpAny_pure (wpAny_bind (wpAny_functionCode_hit hcode (C.code hP ht) hf ?_)))
    exact wpAny_bind (wpAny_builtinsFor hg b1 b2 b5 b6 b7 b8 (wpAny_bind (wpAny_nsGet hg (wpAny_bind (wpAny_pure (wpAny_newObj_type (h .none s.heap s.toks (fun _ _ e => e) (Nat.le_refl _)) (by size_fits)))))))
  | cons q r =>
    simp only [List.isEmpty_cons,Bool.false_eq_true,if_false]
    refine wpAny_bind (wpAny_newTextTuple (wpAny_bind (wpAny_functionCode_hit hcode ((C.keeps fun b o e => Heap.get?_push_of_some _ e).code (Heap.get?_push_of_some _ hP) ht) hf ?_)))
    have sz : ∀ oT : Obj,s.heap.objs.size ≤ (s.heap.push oT).objs.size := fun oT => by rw [Heap.size_push]; omega
    exact wpAny_bind (wpAny_builtinsFor (hg.push _) b1 b2 (Heap.get?_push_of_some _ b5) b6 b7 b8 (wpAny_bind (wpAny_nsGet (hg.push _) (wpAny_bind (wpAny_pure (wpAny_newObj_type (h _ _ s.toks (fun b o e => Heap.get?_push_of_some _ e) (sz _)) (by size_fits)))))))
end
section
variable {X : Cx} {pins : List (Addr × Obj)} {σ : L2.St} {H : Hp} {s : Shared}
theorem Z67 {T : List (Addr × PySem.Str)} {c P : Addr} {params : Arguments} {body : Expr} {scope : Scope} {pos : Pos} {n1 : Nat} {dV : Value} {E : Value → Shared → Prop} {Q : Value → Shared → Prop} (I : Inv X pins σ H s) (TB : LamX.TabB X.base X.mg c P) (hcode : X.env.code = .ref c)
    (hm : (P, X.env.qual ++ "<lambda>") ∈ T) (hu : ∀ p ∈ T, p.1 = P → p.2 = X.env.qual ++ "<lambda>") (hT : LamX.Tabs T H) (hfree : ∀ y ∈ scope.names, y.2 = .free → ∃ c, X.env.cells.lookup y.1 = some c)
    (h : ∀ (f c' : Addr) (pm ctv : Value) (H1 : Hp) (s' : Shared), Inv X ((f, lamO (X.env.qual ++ "<lambda>") params body scope (cloFrom X.env.cells scope.names []) pm (.ref c') ctv dV) :: pins) σ H1 s' → LamX.ExtN H H1 → LamX.Tabs T H1 → H1 c' = some (LamX.CodeO c' (X.env.qual ++ "<lambda>")) →
      (∀ P' q', LamX.TabS H P' q' → P' ≠ P → LamX.TabS H1 P' q') → Q (.ref f) s') :
    wpAny (model X.prog X.w) X.A (makeTail "<lambda>" (X.env.qual ++ "<lambda>") params (.expr body) scope X.env dV .none none pos n1) Q E s := by
  obtain ⟨ps,hP,ht,ha⟩ := hT _ hm
  have bP : s.heap.BuiltinsAt X.mg P := TB.bm.keeps I.bk
  have hP' : s.heap.get? P = some { cls := .none, data := .fields ps } := I.hok P _ hP
  have nf : ∀ (pm cv ctv : Value) v, (lamO (X.env.qual ++ "<lambda>") params body scope (cloFrom X.env.cells scope.names []) pm cv ctv dV).data ≠ .cell v := fun _ _ _ v z => nomatch z
  cases hc : codeAmong pos ps.toList with
  | none =>
    refine Zby (L2.closure_ok hfree) I.ok.glob hcode (I.mod.glob.keeps I.bk) (TB.code.keeps I.bk) hP' ht hc TB.gP bP fun c' ctv h' tk hx hge hlt hrec htb => ?_
    obtain ⟨c2,oc,vs,t,e2,hoc,hd,hv⟩ := hrec
    cases e2
    have nC : H c' = none := I.hok.fresh hge
    have I0 := LamX.inv_table (t' := tk) (more := #[rawInt pos.line, rawInt pos.col, .ref c']) (h' := h') I hP (fun b o hb e => hx b o hb e) htb hge ⟨oc, vs, t, hoc, hd, hv⟩
    have I1 := ClX.pin_new (t' := tk) I0 (h' := h'.push (lamO (X.env.qual ++ "<lambda>") params body scope (cloFrom X.env.cells scope.names []) ((X.mg "__name__").getD .none) (.ref c') ctv dV)) (a := h'.objs.size) (fun b u e => Heap.get?_push_of_some _ e) (Nat.le_refl _) (Heap.get?_push_size _ rfl) (nf _ _ _)
    have hE : LamX.ExtN H (upd (upd H P (.tbl (ps ++ #[rawInt pos.line, rawInt pos.col, .ref c']))) c' (LamX.CodeO c' (X.env.qual ++ "<lambda>"))) := fun b o e n => by
      rw [upd_ne (ne_of_none e nC),upd_ne (fun z => n ps (Option.some.inj (e.symm.trans (by rw [z]; exact hP))))]
      exact e
    have eL : (ps ++ #[rawInt pos.line, rawInt pos.col, .ref c']).toList = ps.toList ++ [rawInt pos.line, rawInt pos.col, .ref c'] := by simp
    have other : ∀ P' q', LamX.TabS H P' q' → P' ≠ P → LamX.TabS (upd (upd H P (.tbl (ps ++ #[rawInt pos.line, rawInt pos.col, .ref c']))) c' (LamX.CodeO c' (X.env.qual ++ "<lambda>"))) P' q' := fun P' q' ⟨ps', a1, a2, a3⟩ hb => by
      refine ⟨ps', by rw [upd_ne (ne_of_none a1 nC), upd_ne hb]; exact a1, a2, fun p' cv hcv => ?_⟩
      obtain ⟨c0, e1, e2⟩ := a3 p' cv hcv
      exact ⟨c0,e1,hE _ _ e2 LamX.codeO_ne⟩
    refine h h'.objs.size c' ((X.mg "__name__").getD .none) ctv _ _ I1 hE (fun p hp => ?_) upd_same other
    by_cases hb : p.1 = P
    · rw [hu p hp hb,hb]
      refine ⟨_, by rw [upd_ne (ne_of_none hP nC), upd_same], by rw [eL]; exact PySem.TriplesOk_snoc _ _ _ _ ht, fun p' cv hcv => ?_⟩
      rw [eL] at hcv
      rcases LamX.among_app _ ht hcv with z | z
      · obtain ⟨c0, e1, e2⟩ := ha p' cv z
        exact ⟨c0,e1,hE _ _ e2 LamX.codeO_ne⟩
      · exact ⟨c', z, upd_same⟩
    · exact other _ _ (hT p hp) hb
  | some cv =>
    obtain ⟨c', e, hco⟩ := ha pos cv hc
    subst e
    refine Zbz (L2.closure_ok hfree) I.ok.glob hcode (I.mod.glob.keeps I.bk) (TB.code.keeps I.bk) hP' ht hc bP fun ctv h' tk hx hsz => ?_
    have I1 := ClX.pin_new (t' := tk) I (h' := h'.push (lamO (X.env.qual ++ "<lambda>") params body scope (cloFrom X.env.cells scope.names []) ((X.mg "__name__").getD .none) (.ref c') ctv dV)) (a := h'.objs.size) (fun b u e => Heap.get?_push_of_some _ (hx b u e)) hsz (Heap.get?_push_size _ rfl) (nf _ _ _)
    exact h h'.objs.size c' ((X.mg "__name__").getD .none) ctv H _ I1 (LamX.ExtN.refl H) hT hco fun _ _ t _ => t
end
inductive LamD (X : Cx) (params : Arguments) (body : Expr) (scope : Scope) : Option (PySem.Str × Int) → Prop
  | non : defaultsOf params X.env = ([],[]) → (∀ qual cl pm cdv ct,bindArgs (lamF qual params body scope cl pm cdv ct .none) ⟨[],[]⟩ = pure []) → LamD X params body scope none
  | one {y : PySem.Str} {i : Int} {j : Nat} {p : Pos} : defaultsOf params X.env = ([eval (.Constant (.int i) j p) X.env],[]) →
      (∀ qual cl pm cdv ct t,∃ k,bindArgs (lamF qual params body scope cl pm cdv ct (.ref t)) ⟨[],[]⟩ = seqItems? (.ref t) >>= k ∧ ∀ v,k (some #[v]) = pure [(y,v)]) → LamD X params body scope (some (y,i))
inductive DefAt : Option (PySem.Str × Int) → Value → List (Addr × Obj) → List (PySem.Str × Value) → Prop
  | non : DefAt none .none [] []
  | one {y : PySem.Str} {i : Int} {t : Addr} {v : Value} : DefAt (some (y, i)) (.ref t) [(t, { cls := .type "tuple", data := .seq #[v] })] [(y, v)]
theorem Z9y {X : Cx} {pins : List (Addr × Obj)} {σ : L2.St} {H : Hp} {s : Shared} {T : List (Addr × PySem.Str)} {c P : Addr} {params : Arguments} {body : Expr} {scope : Scope} {pos : Pos} {dn : Option (PySem.Str × Int)} {Q : Value → Shared → Prop} (I : Inv X pins σ H s) (TB : LamX.TabB X.base X.mg c P) (hcode : X.env.code = .ref c)
    (hm : (P, X.env.qual ++ "<lambda>") ∈ T) (hu : ∀ p ∈ T, p.1 = P → p.2 = X.env.qual ++ "<lambda>") (hT : LamX.Tabs T H) (hfree : ∀ y ∈ scope.names, y.2 = .free → ∃ c, X.env.cells.lookup y.1 = some c) (hd : LamD X params body scope dn)
    (h : ∀ (f c' : Addr) (pm ctv dV : Value) (dp : List (Addr × Obj)) (bs : List (PySem.Str × Value)) (H1 : Hp) (s' : Shared), DefAt dn dV dp bs → Inv X ((f, lamO (X.env.qual ++ "<lambda>") params body scope (cloFrom X.env.cells scope.names []) pm (.ref c') ctv dV) :: (dp ++ pins)) σ H1 s' → LamX.ExtN H H1 → LamX.Tabs T H1 → H1 c' = some (LamX.CodeO c' (X.env.qual ++ "<lambda>")) →
      (∀ P' q', LamX.TabS H P' q' → P' ≠ P → LamX.TabS H1 P' q') → Q (.ref f) s') :
    wpAny (model X.prog X.w) X.A (eval (.Lambda params body scope pos) X.env) Q X.xe s := by
  cases hd with
  | non hdef hb =>
    rw [arm_eval_Lambda,hdef]
    show wpAny _ _ (do let dv ← evalAll []; let kdv ← holding dv (evalAllOpt []); makeFunction "<lambda>" (X.env.qual ++ "<lambda>") params (.expr body) scope X.env dv kdv [] pos pos.line) _ _ _
    refine wpAny_bind (wpAny_pure (wpAny_bind (wpAny_holding (wpAny_pure ?_))))
    rw [makeFunction_eq]
    simp only [List.zip_nil_right,List.filterMap_nil,List.isEmpty_nil,if_true,pure_bind]
    exact Z67 I TB hcode hm hu hT hfree fun f c' pm ctv H1 s' I1 e1 t1 c1 o1 => h f c' pm ctv .none [] [] H1 s' .non I1 e1 t1 c1 o1
  | one hdef hb =>
    rename_i y i j p
    rw [arm_eval_Lambda,hdef]
    show wpAny _ _ (do let dv ← evalAll [eval (.Constant (.int i) j p) X.env]; let kdv ← holding dv (evalAllOpt []); makeFunction "<lambda>" (X.env.qual ++ "<lambda>") params (.expr body) scope X.env dv kdv [] pos pos.line) _ _ _
    refine wpAny_bind (wpAny_evalAll_cons (thn (pe_int.run pins s σ H (fun v H1 => H1 = H) I rfl) fun v s1 ⟨w1,H1,I1,r1,e1⟩ => ?_))
    subst e1
    refine wpAny_evalAll_nil ?_
    refine wpAny_bind (wpAny_holding (wpAny_pure ?_))
    rw [makeFunction_eq]
    simp only [List.zip_nil_right,List.filterMap_nil,List.isEmpty_nil,List.isEmpty_cons,Bool.false_eq_true,if_false,if_true,pure_bind]
    refine wpAny_bind (wpAny_newTextTuple ?_)
    have I2 := ClX.pin_new (t' := s1.toks) I1 (h' := s1.heap.push { cls := .type "tuple", data := .seq #[v] }) (o := { cls := .type "tuple", data := .seq #[v] }) (a := s1.heap.objs.size) (fun b u e => Heap.get?_push_of_some _ e) (Nat.le_refl _) (Heap.get?_push_size _ rfl) (fun w z => nomatch z)
    exact Z67 I2 TB hcode hm hu hT hfree fun f c' pm ctv H1 s' I3 e3 t3 c3 o3 => h f c' pm ctv _ _ _ H1 s' .one I3 e3 t3 c3 o3
structure LamP (sc scope : Scope) (N : List PySem.Str) (dn : Option (PySem.Str × Int)) : Prop where
  kind : scope.kind = .function
  co : scope.isCoroutine = false
  gen : scope.isGenerator = false
  own : ∀ y ∈ scope.names,y.2 ≠ .cell
  loc : ∀ y ∈ scope.names,y.2 = .local → y.1 ∉ N
  free : ∀ y ∈ scope.names,y.2 = .free → sc.names.lookup y.1 = some .cell ∨ sc.names.lookup y.1 = some .free
  par : ∀ y i,dn = some (y,i) → scope.names.lookup y = some .local
def lamPB (sc scope : Scope) (N : List PySem.Str) (dn : Option (PySem.Str × Int)) : Bool :=
  decide (scope.kind = .function) && !scope.isCoroutine && !scope.isGenerator && (scope.names.all fun y => !decide (y.2 = .cell) && (!decide (y.2 = .local) || !decide (y.1 ∈ N)) && (!decide (y.2 = .free) || decide (sc.names.lookup y.1 = some .cell) || decide (sc.names.lookup y.1 = some .free))) &&
    match dn with | none => true | some (y,_) => decide (scope.names.lookup y = some .local)
theorem Qy {sc scope : Scope} {N : List PySem.Str} {dn : Option (PySem.Str × Int)} (h : lamPB sc scope N dn = true) : LamP sc scope N dn := by
  unfold lamPB at h
  simp only [Bool.and_eq_true, Bool.or_eq_true, Bool.not_eq_true', decide_eq_true_eq, decide_eq_false_iff_not, List.all_eq_true] at h
  obtain ⟨⟨⟨⟨h1,h2⟩,h3⟩,h4⟩,h5⟩ := h
  refine ⟨h1,h2,h3,fun y hy => (h4 y hy).1.1,fun y hy e => ?_,fun y hy e => ?_,fun y i e => ?_⟩
  · rcases (h4 y hy).1.2 with z | z
    · exact absurd e z
    · exact z
  · rcases (h4 y hy).2 with (z | z) | z
    · exact absurd e z
    · exact .inl z
    · exact .inr z
  · subst e; simpa using h5
theorem LamP.has {X : Cx} {scope : Scope} {N : List PySem.Str} {dn : Option (PySem.Str × Int)} (L : LamP X.env.scope scope N dn) (ok : X.Ok) : ∀ y ∈ scope.names,y.2 = .free → ∃ c,X.env.cells.lookup y.1 = some c := fun y hy e => by
  rcases L.free y hy e with k | k
  · exact ok.has _ (.inl k)
  · exact ok.has _ (.inr k)
theorem Z83 {X : Cx} {pins : List (Addr × Obj)} {σ : L2.St} {H HZ : Hp} {s s1 : Shared} {A : Around} {outer : List PySem.Env} {E : XK} {scope : Scope} {dn : Option (PySem.Str × Int)} {f c' : Addr} {h₁ : Heap} {tk : Nat} {m : PySem.Str → Option Value} (I : Inv X pins σ H s) (L : LamP X.env.scope scope X.N dn) (e0 : Env0 X.prog X.w X.K X.mg X.base A outer s1 HZ) (hd : A.handled = none)
    (un : Un (frs X.stack) [] H HZ s.heap s1.heap) (hns : h₁.Ns s1.heap.objs.size m) (kp : ∀ b o,s1.heap.get? b = some o → h₁.get? b = some o) :
    Inv (LamX.lamCx X A outer s1 HZ E scope f c') [] σ HZ { s1 with heap := h₁, toks := tk } := by
  have hfree := L.has I.ok
  have cm : ∀ {y c},(cloFrom X.env.cells scope.names []).lookup y = some c → X.env.cells.lookup y = some c := fun {y c} e => by
    rcases cloFrom_mem (PySem.mem_of_lookup e) with hm | ⟨h1,h2⟩
    · cases hm
    · obtain ⟨c1,hc⟩ := hfree _ h1 rfl
      have hc : X.env.cells.lookup y = some c1 := hc
      have e2 : c = c1 := by rw [h2,hc] <;> rfl
      rw [e2]; exact hc
  have look : ∀ {y},scope.names.lookup y = some .free → ∃ c,(cloFrom X.env.cells scope.names []).lookup y = some c := fun {y} hl => by
    have hy : (y,NameKind.free) ∈ scope.names := PySem.mem_of_lookup hl
    exact mem_lookup (cloFrom_has (cells := X.env.cells) (acc := []) hy)
  have cellK : ∀ {c : Addr} {v : Option Value},H c = none → s.heap.IsCell c v → h₁.IsCell c v := fun {c v} n ⟨o,ho,hd⟩ => by
    obtain ⟨sl,q⟩ := un.any ho n (by simp)
    exact ⟨_,kp _ _ q,hd⟩
  have noA : ∀ b : Addr, b ∉ (LamX.lamCx X A outer s1 HZ E scope f c').ex := fun b z => absurd (show b ∈ ([] : List Addr) from z) (by simp)
  refine ⟨⟨e0.mod,L.kind,rfl,rfl,Nat.le_refl _,fun y z c e1 e2 => I.ok.inj y z c (cm e1) (cm e2),fun y hy => ?_,fun y c z _ => ?_,fun _ => hd,Around.frames_deeper e0.frames,.inr ⟨rfl,rfl⟩,fun b z => absurd z (noA b),e0.bs,e0.bsz,fun b _ _ => noA b,
      fun b z => absurd z (noA b),e0.funs,e0.frf⟩,
    rfl,e0.bare,Un.kept kp,⟨_,hns,fun i y v e1 e2 e3 => ?_⟩,fun y c e => ?_,e0.hok.fresh (Nat.le_refl _),fun y c e => ?_,fun q hq => absurd (show q ∈ ([] : List (Addr × Obj)) ++ [] from hq) (by simp),e0.hok.kept kp,I.len⟩
  · have hy : scope.names.lookup y = some .cell ∨ scope.names.lookup y = some .free := hy
    rcases hy with hy | hy
    · exact absurd rfl (L.own _ (PySem.mem_of_lookup hy))
    · exact look hy
  · have z : false = true := z
    cases z
  · have e3 : Vis scope y := e3
    rcases e3 with k | k | k
    · exact absurd (List.mem_of_getElem? (show X.N[i]? = some y from e1)) (L.loc _ (PySem.mem_of_lookup k) rfl)
    · exact absurd rfl (L.own _ (PySem.mem_of_lookup k))
    · obtain ⟨m', hn, hl⟩ := I.loc
      have hvis : Vis X.env.scope y := (L.free _ (PySem.mem_of_lookup k) rfl).elim (fun k => .inr (.inl k)) (fun k => .inr (.inr k))
      obtain ⟨w', r, q⟩ := hl i y v e1 e2 hvis
      obtain ⟨c2,h2⟩ := look k
      refine ⟨w', r, .inr ⟨.inr k, c2, h2, ?_⟩⟩
      have c1 := cm h2
      rcases q with ⟨k', _⟩ | ⟨_, c3, e', z⟩
      · have k' : X.env.scope.names.lookup y = some .local := k'
        rcases L.free _ (PySem.mem_of_lookup k) rfl with k2 | k2 <;> rw [show X.env.scope.names.lookup y = _ from k2] at k' <;> cases k'
      · rw [c1] at e'
        cases e'
        exact cellK (I.freeC y _ c1) z
  · obtain ⟨w', z⟩ := I.cell y c (cm e)
    exact ⟨w', cellK (I.freeC y c (cm e)) z⟩
  · obtain ⟨v,o,ho,hd⟩ := I.cell y c (cm e)
    exact un.free c o ho (I.freeC y c (cm e)) (by simp)
open Classical in
noncomputable def eAsk (fl : Sto → R T) (lv : T) (i : Nat) : FE := fun ρ Z => if ρ[i]? = some (some lv) then fl Z else .stuck
def eLam (F : (Sto → R T) → T → FF) (fb : FE) (fa : FA) : FE := fun ρ Z => (fa ρ Z).bind fun ts Z1 => F (fun Z' => fb ρ Z') .non (.non :: ts) Z1
section
variable {X : Cx} {K : PySem.W.Frag} {pins : List (Addr × Obj)} {σ : L2.St} {H : Hp} {s : Shared}
theorem Z84 {ι : List Addr} {H H1 : Hp} (e : LamX.ExtN H H1) (t1 : LamX.Tabs Tb.T H1) : Gr ι ι H H1 :=
  ⟨fun _ _ h => h,fun a xs h => e a _ h (fun _ z => by cases z),fun a o u h => e a _ h (fun _ z => by cases z),fun a fs h => e a _ h (fun _ z => by cases z),fun a φ h => e a _ h (fun _ z => by cases z),fun _ => t1,fun _ _ h _ _ => h,fun a u h m _ => e a u h fun ps z => by rw [z] at m; exact m⟩
theorem Z9z {ι : List Addr} {Z : Sto} {H H1 : Hp} (e : LamX.ExtN H H1) (t1 : LamX.Tabs Tb.T H1) (s : Sim K ι Z H) : Sim K ι Z H1 :=
  ⟨s.len,s.nd,fun i a o e1 e2 => by
    have h := s.ob i a o e1 e2
    obtain ⟨u,hu,mu⟩ := h.mut
    exact h.gr (Z84 e t1) ((e a u hu fun ps z => by rw [z] at mu; exact mu).trans hu.symm),t1⟩
theorem f_ask {Eg : XK} {Ng : List PySem.Str} {qg : PySem.Str} {sg : Scope} {g f c' : Addr} {cdg pm ctv dV : Value} {dp : List (Addr × Obj)} {bs : List (PySem.Str × Value)} {params : Arguments} {body : Expr} {scope : Scope} {dn : Option (PySem.Str × Int)} {k : Nat} {a : PySem.Str} {pn : List (Addr × Obj)} {xe : Value → Shared → Prop} {W : WX} {p1 p2 : Pos} {fb : FE} {ρ : Env}
    (hK : X.K = K) (I : Inv X ((f, lamO (X.env.qual ++ "<lambda>") params body scope (cloFrom X.env.cells scope.names []) pm (.ref c') ctv dV) :: (dp ++ pins)) σ H s) (L : LamP X.env.scope scope X.N dn) (hd : LamD X params body scope dn) (da : DefAt dn dV dp bs) (hl : σ.length = ρ.length)
    (tk : Takes ((cxOf (L2.CX X.prog X.w) X.prog X.w X.K X.mg X.base Ng qg sg g cdg X.A X.stack s H Eg).tr pn xe) W) (hr : Room (k + 1) (X.A.deeper (envOfC qg sg s.heap.objs.size g cdg))) (hG : X.A.guards = some [])
    (hbody : ∀ (A : Around) (outer : List PySem.Env) (s : Shared) (H : Hp) (E : XK), Room k (A.deeper (LamX.lamEnv X scope s.heap.objs.size f c')) → A.guards = some [] → FJ (LamX.lamCx X A outer s H E scope f c') K (Wt fun cls d _ H => E cls d H) body fb)
    (hN : Ng[0]? = some a) (hv : Vis sg a) (hdb : (a == ("__debug__" : PySem.Str)) = false := by decide) (hcd : (a == ("__classdict__" : PySem.Str)) = false := by decide) :
    FJ ((cxOf (L2.CX X.prog X.w) X.prog X.w X.K X.mg X.base Ng qg sg g cdg X.A X.stack s H Eg).tr pn xe) K (Wt W) (.Call (.Name a p1) [] [] p2)
      (eAsk (fun Z => fb ρ Z) (.lam f c' (X.env.qual ++ "<lambda>") fun ι' H' => Envs K ι' H' σ ρ) 0) := by
  subst hK
  refine ⟨fun pinsZ sZ σZ HZ Q IZ h => ?_⟩
  obtain ⟨ι,ρZ,Z,is,p⟩ := h
  unfold eAsk at p
  split at p
  case isFalse => exact p.elim
  rename_i h0
  obtain ⟨v0,hs,rv⟩ := is.env 0 _ h0
  cases rv
  rename_i hco hJ
  have hEnv := hJ ι HZ Gr.refl
  refine wpAny_Call_Name_kw (thn ((pe_var (pos := p1) (i := 0) hN hv hdb hcd).run pinsZ sZ σZ HZ (fun v H1 => v = .ref f ∧ H1 = HZ) IZ ⟨.ref f,hs,rfl,rfl⟩) fun u s1 ⟨v,H1,I1,r1,q1⟩ => ?_)
  obtain ⟨ev,eH⟩ := q1
  subst ev
  rw [eH] at I1
  obtain rfl : u = Value.ref f := r1
  have stay : ∀ q ∈ (f, lamO (X.env.qual ++ "<lambda>") params body scope (cloFrom X.env.cells scope.names []) pm (.ref c') ctv dV) :: (dp ++ pins), s1.heap.get? q.1 = some q.2 := fun q hq => by
    obtain ⟨h1,h2,h3,h4,_⟩ := I.pin q (List.mem_append_right _ hq)
    refine I1.base.keep q.1 _ h1 h2 (fun z => ?_) (fun z => nomatch (show q.1 ∈ ([] : List Addr) from z))
    rcases List.mem_cons.mp (I.stkSub _ z) with z | z
    · exact h3 z
    · exact h4 z
  have of1 := stay _ List.mem_cons_self
  refine PySem.W.callWith_F0 ⟨_,_,_,_,of1⟩ ?_
  have un : Un (frs X.stack) [] H HZ s.heap s1.heap := I1.base
  obtain ⟨⟨oc, vs, t, hoc, hdc, hvc⟩, _, _⟩ := I1.hok c' _ hco
  have rc : codeAny (model X.prog X.w) (X.A.deeper (envOfC qg sg s.heap.objs.size g cdg)) (.call (.ref f) ⟨[], []⟩) (CR (L2.CX X.prog X.w) (envOfC qg sg s.heap.objs.size g cdg :: X.stack) X.prog X.w HZ s1 Q (fun cls d H' => W cls d σZ H')) s1 := by
    refine PySem.W.kla_callFunE hr.depth of1 rfl L.co L.gen rfl ⟨c', oc, vs, t, rfl, hoc, hdc, hvc⟩ ?_
    have go : ∀ bs : List (PySem.Str × Value), (∀ y ∈ bs, scope.names.lookup y.1 = some .local) → wpAny (model X.prog X.w) (X.A.deeper (envOfC qg sg s.heap.objs.size g cdg)).in1 (newFunctionEnv scope mainGlobals (cloFrom X.env.cells scope.names []) bs (X.env.qual ++ "<lambda>" ++ ".<locals>.") (some f) (.ref c') none builtinsNs)
        (fun env s₂ => s₂.heap.NoLimit ∧ codeAny (model X.prog X.w) (X.A.deeper (envOfC qg sg s.heap.objs.size g cdg)) (.expr body env) (CR (L2.CX X.prog X.w) (envOfC qg sg s.heap.objs.size g cdg :: X.stack) X.prog X.w HZ s1 Q (fun cls d H' => W cls d σZ H')) s₂) (fun e s' => CR (L2.CX X.prog X.w) (envOfC qg sg s.heap.objs.size g cdg :: X.stack) X.prog X.w HZ s1 Q (fun cls d H' => W cls d σZ H') (.error e) s') s1 := fun bs hloc => by
      refine wpAny_newFunctionEnv (fun y hy => L.own y hy) hloc (fun h₁ hns hsb => ⟨I1.nolimit.fresh _ hsb,?_⟩) L.kind
      show codeAny _ _ (.expr body (LamX.lamEnv X scope s1.heap.objs.size f c')) _ _
      have kp : ∀ b o,s1.heap.get? b = some o → h₁.get? b = some o := fun b o e => hsb.extBut b o (Nat.ne_of_lt (Heap.lt_size e)) (Heap.get?_push_of_some _ e)
      have J := Z83 (A := X.A.deeper (envOfC qg sg s.heap.objs.size g cdg)) (outer := envOfC qg sg s.heap.objs.size g cdg :: X.stack) (E := fun cls d H' => W cls d σZ H') (f := f) (c' := c') (tk := s1.toks + bs.length) I L I1.env0 hr.hd un hns kp
      refine PySem.W.kla_codeExpr (wpAny_mono ((hbody _ _ s1 HZ (fun cls d H' => W cls d σZ H') (hr.deeper _) hG).run [] _ _ HZ Q J ⟨ι, ρ, Z, ⟨hl, hEnv, is.sim, trivial⟩, ?_⟩) (fun v s' hq => ?_) fun e s' hq => hq)
      · exact p.wx fun _ _ _ h => h
      · obtain ⟨w', H', J', rv, q⟩ := hq
        exact ⟨w', H', J'.os, J'.bare, J'.base, J'.hok, rv, q⟩
    cases da with
    | non =>
      cases hd with
      | non hdef hb =>
        rw [hb]
        exact wpAny_pure (go [] (fun y hy => absurd hy (by simp)))
    | one =>
      cases hd with
      | one hdef hb =>
        rename_i y i t0 v0 j0 p0
        obtain ⟨kk, e1, e2⟩ := hb (X.env.qual ++ "<lambda>") (cloFrom X.env.cells scope.names []) pm (.ref c') ctv t0
        rw [e1]
        have ot := stay _ (List.mem_cons_of_mem _ (List.mem_append_left _ List.mem_cons_self))
        refine wpAny_bind (wpAny_seqItems ot rfl ?_)
        rw [e2]
        exact wpAny_pure (go [(y,v0)] fun z hz => by rw [List.mem_singleton.mp hz]; exact L.par _ _ rfl)
  refine wpAny_call (codeAny_mono rc fun r s' hq => ?_)
  cases r with
  | error e => exact passAt tk σZ pinsZ HZ s1 e s' I1 hq
  | ok fl =>
    cases fl with
    | ret u => exact I1.after hq
    | next => exact False.elim hq
    | brk => exact False.elim hq
    | cont => exact False.elim hq
theorem Z85 {E : XK} {N : List PySem.Str} {b : FS} {vs : List V} {ts : List T} {Q : VK} {ι : List Addr} {Z : Sto} (sim : Sim K ι Z H) (r : Reps K ι H vs ts) (hl : vs.length ≤ N.length) (p : Post (Rep K) K (fun cls d _ H => E cls d H) [] ι H Q (runF N.length b ts Z)) :
    tS K (fun cls d _ H => E cls d H) b { nx := fun _ H' => Q .non H', rt := Q } (L2.start N vs) H := by
  have hl2 := r.length
  refine ⟨ι,ts.map some ++ List.replicate (N.length - ts.length) none,Z,⟨by simp only [L2.start,List.length_append,List.length_map,List.length_replicate]; omega,?_,sim⟩,?_⟩
  · have := Z2r r (N.length - ts.length)
    unfold L2.start
    rw [hl2]
    exact this
  · unfold runF at p
    split at p
    · rename_i e; rw [e]; exact fun ι' H' σ' g is => p ι' H' _ g is.sim .non
    · rename_i e; rw [e]; exact p
    · rename_i e; rw [e]; exact fun ι' H' σ' cls d g is rx => p ι' H' cls d g is.sim rx
    · exact p.elim
theorem U3 {W : Wc} {F : (Sto → R T) → T → FF} {B : (Sto → R T) → T → FS} {Ng ps : List PySem.Str} {x a : PySem.Str} {g c P : Addr} {st : Stmt} {fd : FuncData} {params : Arguments} {body : Expr} {scope : Scope} {dn : Option (PySem.Str × Int)} {k : Nat} {es : List Expr} {fa : FA} {fb : FE} {p lpos pos : Pos}
    (hK : X.K = K) (hg : Gl X x) (hm : X.mg x = some (.ref g)) (Fg : L2.Fun X.K x x st g fd) (hb : Binds X.K fd (a :: ps) []) (Sg : FnScope Ng (a :: ps) (defScope st)) (hN : Ng[0]? = some a) (hva : Vis (defScope st) a)
    (hF : ∀ fl lv,F fl lv = runF Ng.length (B fl lv)) (hind : ∀ fl lv ts,ts.length = ps.length → F fl lv (lv :: ts) = F fl .non (.non :: ts))
    (hB : ∀ (cdv : Value) (A : Around) (outer : List PySem.Env) (s : Shared) (H : Hp) (E : XK) (fl : Sto → R T) (lv : T),Room (k + 1) (A.deeper (envOfC x (defScope st) s.heap.objs.size g cdv)) → A.guards = some [] →
      (∀ (W' : WX) (pn : List (Addr × Obj)) (xe : Value → Shared → Prop) (p1 p2 : Pos), Takes ((cxOf (L2.CX X.prog X.w) X.prog X.w X.K X.mg X.base Ng x (defScope st) g cdv A outer s H E).tr pn xe) W' → FJ ((cxOf (L2.CX X.prog X.w) X.prog X.w X.K X.mg X.base Ng x (defScope st) g cdv A outer s H E).tr pn xe) K (Wt W') (.Call (.Name a p1) [] [] p2) (eAsk fl lv 0)) →
      A = X.A → outer = X.stack → FBJ (cxOf (L2.CX X.prog X.w) X.prog X.w X.K X.mg X.base Ng x (defScope st) g cdv A outer s H E) K (fun cls d _ H => E cls d H) (defBody st) (B fl lv))
    (TB : LamX.TabB X.base X.mg c P) (hcode : X.env.code = .ref c) (hmT : (P, X.env.qual ++ "<lambda>") ∈ Tb.T) (hu : ∀ p ∈ Tb.T, p.1 = P → p.2 = X.env.qual ++ "<lambda>") (L : LamP X.env.scope scope X.N dn) (hd : LamD X params body scope dn)
    (hr : Room (k + 2) X.A) (hG : X.A.guards = some []) (tk : Takes X W.w)
    (hbody : ∀ (A : Around) (outer : List PySem.Env) (s : Shared) (H : Hp) (E : XK) (f c' : Addr), Room k (A.deeper (LamX.lamEnv X scope s.heap.objs.size f c')) → A.guards = some [] → FJ (LamX.lamCx X A outer s H E scope f c') K (Wt fun cls d _ H => E cls d H) body fb)
    (ha : FAJ X K W es fa) (hn : ofLen es fa) (hln : es.length = ps.length := by rfl) (hdb : (x == ("__debug__" : PySem.Str)) = false := by decide) (hda : (a == ("__debug__" : PySem.Str)) = false := by decide) (hca : (a == ("__classdict__" : PySem.Str)) = false := by decide)
    (he : starEach (.Lambda params body scope lpos :: es) X.env = (false,eval (.Lambda params body scope lpos) X.env) :: starEach es X.env := by rfl) (hpl : (backTo pos (starEach es X.env)).any (·.1) = false := by rfl) :
    FJ X K W (.Call (.Name x p) (.Lambda params body scope lpos :: es) [] pos) (eLam F fb fa) := by
  subst hK
  refine ⟨fun pins s σ H Q I h => ?_⟩
  refine wpAny_Call_Name_kw (ld_glob I hg hm ?_ hdb)
  obtain ⟨oc,od,kV,doc,pm,an,cdv,ct,osl,rfl,lk,hcd⟩ := Fg.ex
  obtain ⟨ι,ρ,Z,is,p0⟩ := h
  refine PySem.W.callWith_K (h₀ := X.base) I.ok.mod.kin Fg.kp ?_ he hpl
  show wpAny _ _ (spliced ((false,eval (.Lambda params body scope lpos) X.env) :: backTo pos (starEach es X.env))) _ _ s
  refine Calls.spliced_cons (Z9y I TB hcode hmT hu is.sim.tab (L.has I.ok) hd fun f c' pm' ctv dV dp bs H1 s' da I1 eN T1 hco o1 => ?_)
  have g1 : Gr ι ι H H1 := Z84 eN T1
  have s1 := Z9z eN T1 is.sim
  have t : tFA X.K W fa σ H1 (fun ws H2 => ws.length = ps.length ∧ ∃ ι2 Z2 ts, Gr ι ι2 H1 H2 ∧ Sim X.K ι2 Z2 H2 ∧ Reps X.K ι2 H2 ws ts ∧ Post (Rep X.K) X.K W.w σ ι2 H2 Q (F (fun Z' => fb ρ Z') .non (.non :: ts) Z2)) := by
    refine ⟨ι,ρ,Z,is.gr g1 s1,?_⟩
    unfold eLam at p0
    have p1 := p0.shift g1
    cases e : fa ρ Z with
    | ok ts Z2 =>
      rw [e,Yk] at p1
      exact fun ι2 H2 ws g2 s2 r2 => ⟨by rw [r2.length,hn _ _ _ _ e,hln],ι2,Z2,ts,g2,s2,r2,p1.shift g2⟩
    | exc y Z2 => rw [e] at p1; exact p1
    | stuck => rw [e] at p1; exact p1
  refine thn (ha.run pos _ s' σ H1 _ I1 t) fun us s2 ⟨ws, H2, I2, r, q⟩ => ⟨I2.kIn, ?_⟩
  obtain ⟨hwl, ι2, Z2, ts, g2, s2', r2, p2⟩ := q
  have rl : Rep X.K ι2 H2 (.ref f) (.lam f c' (X.env.qual ++ "<lambda>") fun ι' H' => Envs X.K ι' H' σ ρ) := .lam (g2.ext _ _ hco) fun ι' H' g' => ((is.env.gr g1).gr g2).gr g'
  have hlt : ts.length = ps.length := by rw [← r2.length]; exact hwl
  have rr : Reps X.K ι2 H2 (V.ref f :: ws) ((.lam f c' (X.env.qual ++ "<lambda>") fun ι' H' => Envs X.K ι' H' σ ρ) :: ts) := .cons rl r2
  have rc : codeAny (model X.prog X.w) X.A (.call (.ref g) ⟨.ref f :: us,[]⟩) (CR (L2.CX X.prog X.w) X.stack X.prog X.w H2 s2 Q (WE W.w σ)) s2 := by
    refine LamX.run_ofS (N := Ng) (ps := a :: ps) (us := .ref f :: us) (vs := .ref f :: ws) lk hcd Sg hr I2.env0 (by
      have := hb s2 (.ref f :: us) I2.kIn (by rw [List.append_nil,List.length_cons,List.length_cons,← r.length,hwl])
      rwa [List.append_nil] at this) (.cons rfl r) (by rw [List.length_cons, List.length_cons, hwl]) fun hr' => ?_
    have hBB := hB cdv X.A X.stack s2 H2 (WE W.w σ) (fun Z' => fb ρ Z') (.lam f c' (X.env.qual ++ "<lambda>") fun ι' H' => Envs X.K ι' H' σ ρ) hr' hG (fun W' pn xe p1 p2 tk' => f_ask (dn := dn) rfl I2 L hd da is.len tk' hr' hG (fun A outer s H E => hbody A outer s H E f c') hN hva hda hca) rfl rfl
    refine ⟨_, hBB, Z85 (ts := _ :: ts) s2' rr ?_ ?_⟩
    · have h1 := congrArg List.length Sg.pre
      rw [List.length_take] at h1
      rw [List.length_cons,hwl]
      simp only [List.length_cons] at h1
      omega
    · have p3 := p2
      rw [← hind (fun Z' => fb ρ Z') (.lam f c' (X.env.qual ++ "<lambda>") fun ι' H' => Envs X.K ι' H' σ ρ) ts hlt, hF] at p3
      exact p3.wx fun _ _ _ h => h
  refine wpAny_call (codeAny_mono rc fun r3 s3 hq => ?_)
  cases r3 with
  | error e => exact passAt tk σ _ H2 s2 e s3 I2 hq
  | ok fl =>
    cases fl with
    | ret u =>
      obtain ⟨v, H', I', rv, q⟩ := I2.after hq
      exact ⟨v, H', I'.pins_of (fun z hz => I'.pin z (List.mem_append_right _ (List.mem_cons_of_mem _ (List.mem_append_right _ hz)))), rv, q⟩
    | next => exact False.elim hq
    | brk => exact False.elim hq
    | cont => exact False.elim hq
end
structure FunC (K : PySem.W.Frag) (x qual : PySem.Str) (st : Stmt) (f : Addr) (fd : FuncData) (c : Addr) : Prop where
  ex : ∃ (oc : Value) (od : Option Addr) (kV doc pm : Value) (an : Option Addr) (ct : Value) (osl : Array (Option Value)),
    fd = PySem.W.fnOf x qual (defArgs st) (defBody st) (defScope st) .none kV doc pm an (.ref c) ct ∧ K.lookup f = some ⟨oc,od,.func fd,osl⟩ ∧ PySem.W.codeIn K (.ref c) qual = true
theorem fnFC {P : Program} {w : World} {K : PySem.W.Frag} {mg : PySem.Str → Option Value} {base : Heap} {x qual : PySem.Str} {st : Stmt} {f c : Addr} {fd : FuncData} {N ps : List PySem.Str} {k : Nat} {b : FS} (F : FunC K x qual st f fd c) (S : FnScope N ps (defScope st))
    (hb : ∀ (A : Around) (outer : List PySem.Env) (s : Shared) (H : Hp) (E : XK),Room k (A.deeper (envOfC qual (defScope st) s.heap.objs.size f (.ref c))) → A.guards = some [] →
      FBJ (cxOf (L2.CX P w) P w K mg base N qual (defScope st) f (.ref c) A outer s H E) K (fun cls d _ H => E cls d H) (defBody st) b) :
    FnG P w K mg base (k + 1) f fd ps (spF K ps.length (runF N.length b)) := by
  obtain ⟨oc,od,kV,doc,pm,an,ct,osl,rfl,lk,hcd⟩ := F.ex
  refine Zd5 lk hcd S (fun vs H Q E h => h.1) fun A outer s H vs Q E hr hG h => ?_
  refine ⟨_,hb A outer s H E hr hG,?_⟩
  obtain ⟨hl,ι,Z,ts,sim,r,p⟩ := h
  have h1 := congrArg List.length S.pre
  rw [List.length_take] at h1
  exact Z85 sim r (by rw [hl]; omega) p
end Fx
set_option maxHeartbeats 4000000
namespace Ap
open PySem PySem.Spec PyProof.Rows L2 SX
end Ap
set_option maxHeartbeats 4000000
namespace Fx
open PySem PySem.Spec PyProof.Rows L2 SX Ap
variable [Tb]
def kdGet (l : List (List Nat × List Nat)) : T → Option (List Nat)
  | .str k => l.lookup k
  | _ => none
def eKdIx (l : List (List Nat × List Nat)) (fe : FE) : FE := fun ρ Z => (fe ρ Z).bind fun x Z1 => match kdGet l x with
  | some v => .ok (.str v) Z1
  | none => .stuck
def iKdItems (l : List (List Nat × List Nat)) : FI := fun _ Z => .ok (itSeq (l.map fun x => .tup [.str x.1,.str x.2])) Z
def eCallN (F : FF) (g : List T → List T → List T) (fa fk : FA) : FE := fun ρ Z => (fa ρ Z).bind fun ts Z1 => (fk ρ Z1).bind fun us Z2 => F (g ts us) Z2
def pick {α : Type} (ix : List Nat) (l : List α) : List α := ix.filterMap fun i => l[i]?
theorem Z4f {α : Type} (i : Nat) (ix : List Nat) (l : List α) : pick (i :: ix) l = l[i]?.toList ++ pick ix l := by
  unfold pick
  rw [List.filterMap_cons]
  cases l[i]? <;> rfl
theorem Z4g {vs : List V} {us : List Value} (r : Vals vs us) : ∀ ix : List Nat,Vals (pick ix vs) (pick ix us)
  | [] => .nil
  | i :: ix => by
    rw [Z4f,Z4f]
    refine Vals.append ?_ (Z4g r ix)
    cases e : vs[i]? with
    | none =>
      have h1 := List.getElem?_eq_none_iff.mp e
      rw [List.getElem?_eq_none (by rw [← Paired.length r]; exact h1)]; exact .nil
    | some v =>
      obtain ⟨u,hu,ru⟩ := Vals.get r e
      rw [hu]; exact .cons ru .nil
end Fx
set_option maxHeartbeats 4000000
namespace Fx
open PySem PySem.Spec PyProof.Rows L2 SX Ap
variable [Tb]
theorem Zc0 {P : Program} {w : World} {K : PySem.W.Frag} {mg mb : PySem.Str → Option Value} {k : Nat} {fa a : Addr} {cs : List (Addr × Addr)}
    {fd : FuncData} {x : PySem.Str} {sp : Sp} {s₁ : Shared} {vs : List Value} {ns : List Int}
    (KX : K.In s₁.heap) (hns : s₁.heap.Ns mainGlobals mg) (hb : s₁.heap.Ns builtinsNs mb)
    (hbb : ∀ x : PySem.Str, x ≠ "__name__" → mb x = bootBuiltins x) (hlim : s₁.heap.NoLimit) (hg : s₁.gens = #[])
    (hT : ∀ p ∈ cs,s₁.heap.get? p.2 = some { cls := .none,data := .fields #[] }) (nT : ∀ p ∈ cs,K.lookup p.2 = none) (C : ∀ p ∈ cs,PySem.W.CodeHd s₁.heap p.1 p.2)
    (hbm : ∃ (bm : Addr) (ob : Obj), mg "__builtins__" = some (.ref bm) ∧ bm ≠ builtinsNs ∧ s₁.heap.get? bm = some ob ∧ ob.cls = .type "module" ∧ ob.dict = some builtinsNs ∧ ob.data = .plain)
    (ha : s₁.heap.get? a = some { cls := .type "list", data := .seq vs.toArray }) (hi : IntsAre vs ns) (hl : ns.length ≤ sizeLine)
    (hr : Room k callerA)
    (F : ∀ base : Heap,K.In base → base.Ns mainGlobals mg → (∀ p ∈ cs,LamX.TabB base mg p.1 p.2) → GOk P w K mg base CX0 k fa fd [x] sp)
    (hbind : ∀ (s : Shared) (u : Value),BindsTo s fd ⟨[u],[]⟩ [(x,u)])
    (hsp : ∀ H : Hp,(∀ p ∈ cs,H p.2 = some (.tbl #[])) → Fx.FrL K H a (ns.map V.int) → sp [.ref a] H (fun v _ => v = .bl true) fun _ _ _ => False) :
    codeAny (model P w) callerA (.call (.ref fa) ⟨[.ref a],[]⟩)
      (fun r s' => r = .ok (.ret (.bool true)) ∧ OldK s₁.heap s'.heap ∧ s'.os = s₁.os ∧ AllBare s'.gens) s₁ := by
  have rv := vals_ints hi
  have lenV := hi.length
  have tabAt : ∀ {b : Addr},b ∈ cs.map (·.2) → s₁.heap.get? b = some { cls := .none,data := .fields #[] } := fun {b} hb => by
    obtain ⟨p,hp,rfl⟩ := List.mem_map.mp hb
    exact hT p hp
  have aNo : a ∉ cs.map (·.2) := fun z => by
    have q := tabAt z
    rw [ha] at q
    have := congrArg Obj.data (Option.some.inj q)
    cases this
  have inT : ∀ p ∈ cs,p.2 ∈ cs.map (·.2) := fun p hp => List.mem_map.mpr ⟨p,hp,rfl⟩
  suffices core : ∀ H : Hp,(∀ p ∈ cs,H p.2 = some (.tbl #[])) → Fx.FrL K H a (ns.map V.int) → HOk P w H s₁.heap →
      (∀ b u,H b = some u → (b = a ∧ K.lookup a = none ∧ ∃ o xs,u = .frz o (.lst xs)) ∨ (b ∈ cs.map (·.2) ∧ u = .tbl #[])) →
      codeAny (model P w) callerA (.call (.ref fa) ⟨[.ref a],[]⟩)
        (fun r s' => r = .ok (.ret (.bool true)) ∧ OldK s₁.heap s'.heap ∧ s'.os = s₁.os ∧ AllBare s'.gens) s₁ by
    cases hk : K.lookup a with
    | some o =>
      have e := KX a o hk
      rw [ha] at e
      cases e
      have at0 : ∀ b u,(fun b => if b ∈ cs.map (·.2) then some (.tbl #[]) else none : Hp) b = some u → b ∈ cs.map (·.2) ∧ u = .tbl #[] := by
        intro b u z
        dsimp only at z
        split at z
        · cases z; exact ⟨by assumption,rfl⟩
        · cases z
      refine core (fun b => if b ∈ cs.map (·.2) then some (.tbl #[]) else none) (fun p hp => if_pos (inT p hp)) (.inr ⟨_,vs.toArray,_,hk,rfl,rfl,rfl,?_,?_⟩) ?_ ?_
      · rw [List.size_toArray,lenV]; exact hl
      · simpa using rv
      · intro b u z
        obtain ⟨h1,rfl⟩ := at0 b u z
        exact tabAt h1
      · intro b u z
        exact .inr (at0 b u z)
    | none =>
      let o0 : HO := .frz { cls := .type "list", data := .seq vs.toArray } (.lst (ns.map V.int))
      have at0 : ∀ b u,(fun b => if b = a then some o0 else if b ∈ cs.map (·.2) then some (.tbl #[]) else none : Hp) b = some u → (b = a ∧ u = o0) ∨ (b ∈ cs.map (·.2) ∧ u = .tbl #[]) := by
        intro b u z
        dsimp only at z
        split at z
        · cases z; exact .inl ⟨by assumption,rfl⟩
        · split at z
          · cases z; exact .inr ⟨by assumption,rfl⟩
          · cases z
      refine core (fun b => if b = a then some o0 else if b ∈ cs.map (·.2) then some (.tbl #[]) else none) (fun p hp => ?_) (.inl ⟨{ cls := .type "list", data := .seq vs.toArray }, if_pos rfl⟩) ?_ ?_
      · show (if p.2 = a then some o0 else if p.2 ∈ cs.map (·.2) then some (HO.tbl #[]) else none) = _
        rw [if_neg (fun z => aNo (by rw [← z]; exact inT p hp)),if_pos (inT p hp)]
      · intro b u z
        rcases at0 b u z with ⟨rfl,rfl⟩ | ⟨h1,rfl⟩
        · exact ⟨ha,by rw [List.length_map]; exact hl,vs,_,rv,ha⟩
        · exact tabAt h1
      · intro b u z
        rcases at0 b u z with ⟨rfl,rfl⟩ | h1
        · exact .inl ⟨rfl,hk,_,_,rfl⟩
        · exact .inr h1
  intro H hH hS hok hA
  have free : ∀ {b : Addr},(∀ u,H b ≠ some u) → H b = none := fun {b} z => by
    cases q : H b with
    | none => rfl
    | some u => exact absurd q (z u)
  have noD : ∀ {b : Addr} {o : Obj},s₁.heap.get? b = some o → (∀ vs n,o.data ≠ .seq vs n) → o.data ≠ .fields #[] → H b = none := fun {b o} e h1 h2 => by
    apply free
    intro u q
    rcases hA b u q with ⟨rfl,_⟩ | ⟨h3,_⟩
    · rw [ha] at e
      cases e
      exact h1 _ _ rfl
    · rw [tabAt h3] at e
      cases e
      exact h2 rfl
  have dictFree : ∀ {b : Addr} {o : Obj} {es : Array DictEntry} {ep : Nat},s₁.heap.get? b = some o → o.data = .dict es ep → H b = none := fun e d =>
    noD e (fun vs n z => by rw [d] at z; cases z) (fun z => by rw [d] at z; cases z)
  have nsOf : ∀ {b : Addr} {m : PySem.Str → Option Value},s₁.heap.Ns b m → (hidT s₁.heap H).Ns b m := by
    intro b m ⟨o,es,ep,e,d,r⟩
    exact ⟨o,es,ep,hidT_get e (dictFree e d),d,r⟩
  have inB : K.In (hidT s₁.heap H) := by
    intro b o e
    refine hidT_get (KX b o e) (free ?_)
    intro u q
    rcases hA b u q with ⟨rfl,n,_⟩ | ⟨h3,_⟩
    · rw [n] at e
      cases e
    · obtain ⟨p,hp,rfl⟩ := List.mem_map.mp h3
      rw [nT p hp] at e
      cases e
  obtain ⟨mc,c1,c2⟩ := hlim
  have M : Mod K mg (hidT s₁.heap H) := ⟨inB,nsOf hns,⟨mb,nsOf hb,hbb⟩,⟨mc,nsOf c1,c2⟩⟩
  have e0 : Env0 P w K mg (hidT s₁.heap H) callerA [] s₁ H :=
    ⟨rfl,M,fun _ _ e => of_hidT e,Nat.le_of_eq (hidT_size _ _),trivial,fun b z => absurd (show b ∈ ([] : List Addr) from z) (by simp),hok,.of_eq hg⟩
  have TB : ∀ p ∈ cs,LamX.TabB (hidT s₁.heap H) mg p.1 p.2 := fun p hp => by
    have hTp := hT p hp
    refine ⟨?_,?_,fun z => ?_⟩
    · obtain ⟨o,us,file,tf,flags,tg,inF,text,tt,e1,r1,r2,r3,r⟩ := C p hp
      refine ⟨o,us,file,tf,flags,tg,inF,text,tt,hidT_get e1 (noD e1 (fun vs n z => ?_) fun z => ?_),r1,r2,r3,r⟩
      · rw [r2] at z; cases z
      · rw [r2] at z; cases z; simp at r3
    · obtain ⟨bm,ob,b1,b2,b3,b4,b5,b6⟩ := hbm
      have nG : bm ≠ mainGlobals := fun q => by
        obtain ⟨o,es,ep,e,hd,_⟩ := hns
        rw [q,e] at b3; cases b3; rw [hd] at b6; cases b6
      have nP : bm ≠ p.2 := fun q => by
        rw [q,hTp] at b3; cases b3; cases b6
      exact ⟨bm,ob,b1,b2,nG,nP,hidT_get b3 (noD b3 (fun vs n z => by rw [b6] at z; cases z) fun z => by rw [b6] at z; cases z),b4,b5,b6⟩
    · obtain ⟨o,es,ep,e,hd,_⟩ := hns
      rw [z,hTp] at e; cases e; cases hd
  have run := (F _ inB (nsOf hns) TB).run callerA [] s₁ H ⟨[.ref a],[]⟩ [.ref a] [.ref a] _ _ hr rfl e0 (hbind s₁ (.ref a)) (.cons rfl .nil) (hsp H hH hS)
  refine codeAny_mono run ?_
  intro r s' h
  match r,h with
  | .error e,h => exact False.elim h
  | .ok .next,h => exact False.elim h
  | .ok .brk,h => exact False.elim h
  | .ok .cont,h => exact False.elim h
  | .ok (.ret u), ⟨v, H', os, bare, un, hok', r', q⟩ =>
    cases (show v = .bl true from q)
    cases (show u = Value.bool true from r')
    have key : ∀ b o, b ∉ cs.map (·.2) → s₁.heap.get? b = some o → s'.heap.get? b = some o := fun b o nb e => by
      cases q : H b with
      | none => exact un.keep b o e q (fun z => absurd (show b ∈ ([] : List Addr) from z) (by simp)) (by simp)
      | some u =>
        rcases hA b u q with ⟨rfl,_,ob,xs,rfl⟩ | ⟨h3,_⟩
        · obtain ⟨e1,_⟩ := hok _ _ q
          obtain ⟨e2, _⟩ := hok' _ _ (un.frzs _ ob _ q)
          rw [e] at e1
          cases e1
          exact e2
        · exact absurd h3 nb
    have grown : ∀ p ∈ cs, ∃ more : Array Value, s'.heap.get? p.2 = some { cls := .none, data := .fields more } := fun p hp => by
      obtain ⟨more,z⟩ := un.tbls p.2 #[] (hH p hp)
      exact ⟨_, hok' p.2 _ z⟩
    refine ⟨rfl,⟨fun b o e => ?_,fun b o e => ?_⟩,os,bare⟩
    · by_cases hb : b ∈ cs.map (·.2)
      · obtain ⟨p,hp,rfl⟩ := List.mem_map.mp hb
        obtain ⟨more,hm⟩ := grown p hp
        rw [hT p hp] at e
        cases e
        exact .inr (.inl ⟨((C p hp).tab (hT p hp)).isCodeTable,rfl,#[],more,rfl,by rw [Array.empty_append]; exact hm⟩)
      · exact .inl (key b o hb e)
    · by_cases hb : b ∈ cs.map (·.2)
      · obtain ⟨p,hp,rfl⟩ := List.mem_map.mp hb
        obtain ⟨more,hm⟩ := grown p hp
        exact ⟨_,hm⟩
      · exact ⟨o,key b o hb e⟩
end Fx
namespace Fx
open PySem PySem.Spec PyProof.Rows L2 SX Ap
end Fx
set_option maxHeartbeats 4000000
namespace Fx
open PySem PySem.Spec PyProof.Rows L2 SX Ap
structure DefY where
  at_ : PySem.W.Frag → Addr
  name : PySem.Str
  qual : PySem.Str
  params : Arguments
  body : List Stmt
  scope : Scope
  dfl : List He.Dv := []
  kwd : List (PySem.Str × He.Dv) := []
def fnY (K : PySem.W.Frag) (a : Addr) : He.FnW := match K.lookup a with
  | some ⟨_,_,.func fd,_⟩ => some (fd.name,fd.qualname,fd.params,fd.body,fd.scope,fd.globals,fd.closure,fd.builtins)
  | _ => none
def fdOf (K : PySem.W.Frag) (a : Addr) : FuncData := match K.lookup a with
  | some ⟨_,_,.func fd,_⟩ => fd
  | _ => default
def DefY.val (d : DefY) : He.FnW := some (d.name,d.qual,d.params,.stmts d.body,d.scope,mainGlobals,[],builtinsNs)
def DefY.dvs (K : PySem.W.Frag) (d : DefY) : List V := d.dfl.map (He.Dv.v K)
def DefY.kws (K : PySem.W.Frag) (d : DefY) : List (PySem.Str × V) := d.kwd.map fun q => (q.1,q.2.v K)
def DefY.ok (K : PySem.W.Frag) (d : DefY) : Bool := PySem.W.keepIn K (.ref (d.at_ K)) && (match K.lookup (d.at_ K) with
  | some ⟨_,_,.func fd,_⟩ => PySem.W.codeIn K fd.code d.qual && (He.dflB K fd.defaults (d.dvs K) && He.kwdB K fd.kwdefaults (d.kws K))
  | _ => false)
theorem DefY.funD {K : PySem.W.Frag} {d : DefY} (e : fnY K (d.at_ K) = d.val) (c : d.ok K = true) : FunD K d.name d.qual d.params d.body d.scope (d.dvs K) (d.kws K) (d.at_ K) (fdOf K (d.at_ K)) := by
  obtain ⟨kp,c2⟩ := He.ba c
  unfold fnY at e
  unfold fdOf
  cases q : K.lookup (d.at_ K) with
  | none => rw [q] at c2; cases c2
  | some o =>
    obtain ⟨oc,od,dt,osl⟩ := o
    rw [q] at c2 e
    cases dt with
    | func fd =>
      obtain ⟨n1,n2,n3,n4,n5,n6,n7,n8,n9,n10,n11,n12,n13,n14,n15⟩ := fd
      have e2 : (some (n1,n2,n3,n4,n5,n6,n7,n15) : He.FnW) = some (d.name,d.qual,d.params,.stmts d.body,d.scope,mainGlobals,[],builtinsNs) := e
      simp only [Option.some.injEq,Prod.mk.injEq] at e2
      obtain ⟨h1,h2,h3,h4,h5,h6,h7,h8⟩ := e2
      subst h1 h2 h3 h4 h5 h6 h7 h8
      have c3 : (PySem.W.codeIn K n13 d.qual && (He.dflB K n8 (d.dvs K) && He.kwdB K n9 (d.kws K))) = true := c2
      obtain ⟨k1,k2⟩ := He.ba c3
      obtain ⟨k3,k4⟩ := He.ba k2
      exact ⟨⟨oc,od,n8,n9,n10,n11,n12,n13,n14,osl,rfl,q,k1,He.dflB_ok k3,He.kwdB_ok k4⟩,kp⟩
    | _ => cases c2
abbrev Exs : Type := List (PySem.W.Frag → Bool)
structure Says (fn : List DefY) (ts : List He.Tab) (ex : Exs) (w : World) (K : PySem.W.Frag) : Prop where
  df : fn.map (fun d => fnY K (d.at_ K)) = fn.map DefY.val
  dk : ts.map (fun t => He.dicW K (t.1 K)) = ts.map fun t => some (He.keysIn w.params t.2)
  ok : ((fn.all fun d => d.ok K) && ex.all fun e => e K) = true
abbrev AlY : Type := List He.FnW × List (Option (List (Option (PySem.Str × Int)))) × Bool
def obsK (fn : List DefY) (ts : List He.Tab) (ex : Exs) (K : PySem.W.Frag) : AlY := (fn.map (fun d => fnY K (d.at_ K)),ts.map (fun t => He.dicW K (t.1 K)),(fn.all fun d => d.ok K) && ex.all fun e => e K)
def valY (fn : List DefY) (ts : List He.Tab) (w : World) : AlY := (fn.map DefY.val,ts.map fun t => some (He.keysIn w.params t.2),true)
section
variable {fn : List DefY} {ts : List He.Tab} {ex : Exs} {w : World} {K : PySem.W.Frag}
theorem Says.fact (c : Says fn ts ex w K) (i : Nat) {e : PySem.W.Frag → Bool} (h : ex[i]? = some e := by rfl) : e K = true := by
  have := (He.ba c.ok).2
  exact List.all_eq_true.mp this e (List.mem_of_getElem? h)
theorem Says.def_ (c : Says fn ts ex w K) (i : Nat) {d : DefY} (h : fn[i]? = some d := by rfl) : FunD K d.name d.qual d.params d.body d.scope (d.dvs K) (d.kws K) (d.at_ K) (fdOf K (d.at_ K)) := by
  have h1 := List.all_eq_true.mp (He.ba c.ok).1 d (List.mem_of_getElem? h)
  refine DefY.funD ?_ h1
  have h2 := congrArg (fun l => l[i]?) c.df
  simp only [List.getElem?_map,h,Option.map_some] at h2
  exact Option.some.inj h2
theorem Says.tab (c : Says fn ts ex w K) (i : Nat) {t : He.Tab} (h : ts[i]? = some t := by rfl) : ∃ es n,KDict K w (t.1 K) es n := by
  have h2 := congrArg (fun l => l[i]?) c.dk
  simp only [List.getElem?_map,h,Option.map_some] at h2
  exact He.dicW_ok (Option.some.inj h2)
end
structure Cx5 (fn : List DefY) (ts : List He.Tab) (ex : Exs) (w : World) (K : PySem.W.Frag) (mg : PySem.Str → Option Value) : Prop where
  c : Says fn ts ex w K
  kx : ∃ h : Heap,K.In h ∧ h.Ns mainGlobals mg
section
variable {fn : List DefY} {ts : List He.Tab} {ex : Exs} {w : World} {K : PySem.W.Frag} {mg : PySem.Str → Option Value}
theorem Cx5.glo (C : Cx5 fn ts ex w K mg) (i : Nat) {x : PySem.Str} (h : ex[i]? = some (fun K => (He.Fa.glo x).ok K) := by rfl) : mg x = some (.ref (He.ga K x)) := by
  obtain ⟨h', X, G⟩ := C.kx
  exact He.glo_ok X G (C.c.fact i h)
theorem Cx5.free (C : Cx5 fn ts ex w K mg) (i : Nat) {x : PySem.Str} (h : ex[i]? = some (fun K => (He.Fa.free x).ok K) := by rfl) : mg x = none := by
  obtain ⟨h', X, G⟩ := C.kx
  exact He.free_ok X G (C.c.fact i h)
theorem Cx5.str (C : Cx5 fn ts ex w K mg) (i : Nat) {x z : PySem.Str} (h : ex[i]? = some (fun K => (He.Fa.str x z).ok K) := by rfl) : ∃ t,mg x = some (.str z t) := by
  obtain ⟨h', X, G⟩ := C.kx
  exact He.str_ok X G (C.c.fact i h)
theorem Cx5.int (C : Cx5 fn ts ex w K mg) (i : Nat) {x : PySem.Str} {z : Int} (h : ex[i]? = some (fun K => (He.Fa.int x z).ok K) := by rfl) : ∃ t,mg x = some (.int z t) := by
  obtain ⟨h', X, G⟩ := C.kx
  exact He.int_ok X G (C.c.fact i h)
theorem Cx5.ns (C : Cx5 fn ts ex w K mg) (i : Nat) {x : PySem.Str} (h : ex[i]? = some (fun K => (He.Fa.glo x).ok K) := by rfl) : PySem.W.nsIn K mainGlobals x = some (some (.ref (He.ga K x))) := He.eqO_ok (C.c.fact i h)
end
def gY (x : PySem.Str) (K : PySem.W.Frag) : Addr := He.ga K x
def mY (c m : PySem.Str) (K : PySem.W.Frag) : Addr := He.ma K (He.ga K c) m
def oexB (x : PySem.Str) (K : PySem.W.Frag) : Bool := (match K.lookup (He.ga K x) with
  | some ⟨.type t, _, .cls ⟨_, _, .ref C :: bm, _, _, hd, _, _, _, _, hdel⟩, ⟨[_, _, _, _, some (.builtin n), _]⟩⟩ => decide (t = "type") && (decide (C = He.ga K x) && (hd && (!hdel && (decide (n = "ValueError.__new__") && PySem.HandSPX.refsVE bm))))
  | _ => false) && (He.eqO (PySem.W.findIn K (.ref (He.ga K x)) "__setattr__") (some (some (.builtin "object.__setattr__"))) && (decide (PySem.W.subIn K (.ref (He.ga K x)) (.type "BaseException") = some true) && (decide (PySem.W.typeIn K (.ref (He.ga K x)) = some (.type "type")) && PySem.W.keepIn K (.ref (He.ga K x)))))
theorem Zc1 {x : PySem.Str} {K : PySem.W.Frag} (h : oexB x K = true) : OexC K (He.ga K x) := by
  obtain ⟨h0,h⟩ := He.ba h
  obtain ⟨h1,h⟩ := He.ba h
  obtain ⟨h2,h⟩ := He.ba h
  obtain ⟨h3,h4⟩ := He.ba h
  refine ⟨?_,He.eqO_ok h1,of_decide_eq_true h2,of_decide_eq_true h3,h4⟩
  split at h0
  · rename_i t dd nm bs C bm ns qn hd sn sub ab col hdel k0 k1 k2 k3 n k5 e
    obtain ⟨a1,h0⟩ := He.ba h0
    obtain ⟨a2,h0⟩ := He.ba h0
    obtain ⟨a3,h0⟩ := He.ba h0
    obtain ⟨a4,h0⟩ := He.ba h0
    obtain ⟨a5,a6⟩ := He.ba h0
    have b1 := of_decide_eq_true a1
    have b2 := of_decide_eq_true a2
    have b5 := of_decide_eq_true a5
    have b4 : hdel = false := by cases hdel <;> simp_all
    subst b1 b4 b5
    refine ⟨nm,qn,ns,bs,bm,sn,sub,ab,col,dd,k0,k1,k2,k3,k5,?_,a6⟩
    rw [e,b2,a3]
  · cases h0
def exCB (x : PySem.Str) (K : PySem.W.Frag) : Bool := xfB K (He.ga K x) && (He.eqO (PySem.W.findIn K (.ref (He.ga K x)) "__class__") (some (some (.builtin "object.__class__"))) && (He.eqO (PySem.W.specialIn K (.builtin "object.__class__") "__get__") (some (some (.builtin "getset_descriptor.__get__"))) && (decide (PySem.W.takesIn K (.builtin "object.__class__") = some true) && decide (PySem.W.mroIn K (He.ga K x) (.type "object") = some true))))
theorem Zc2 {x : PySem.Str} {K : PySem.W.Frag} (h : exCB x K = true) : XfC K (He.ga K x) ∧ ExcC K (He.ga K x) := by
  obtain ⟨h0,h⟩ := He.ba h
  obtain ⟨h1,h⟩ := He.ba h
  obtain ⟨h2,h⟩ := He.ba h
  obtain ⟨h3,h4⟩ := He.ba h
  have X := xfB_ok h0
  exact ⟨X,⟨X.ga,X.gg,X.exC,X.hdC,He.eqO_ok h1,He.eqO_ok h2,of_decide_eq_true h3,of_decide_eq_true h4⟩⟩
def baseB (x : PySem.Str) (K : PySem.W.Frag) : Bool := He.eqO (PySem.W.specialIn K (.ref (He.ga K x)) "__getattribute__") (some (some (.builtin "type.__getattribute__"))) && (PySem.W.readsIn K (He.ga K x) (.type "type") && (match PySem.W.findCls K (.ref (He.ga K x)) (.type "type") "__init__" with
  | some (.val (.builtin n)) => decide (n = "ValueError.__init__")
  | _ => false))
theorem Za0 {x : PySem.Str} {K : PySem.W.Frag} (h : baseB x K = true) : BaseC K (He.ga K x) := by
  obtain ⟨h1,h⟩ := He.ba h
  obtain ⟨h2,h3⟩ := He.ba h
  refine ⟨He.eqO_ok h1,h2,?_⟩
  split at h3
  · rename_i n e; rw [e,of_decide_eq_true h3]
  · cases h3
def kitB2 (x : PySem.Str) (v : PySem.W.Frag → Value) (K : PySem.W.Frag) : Bool := decide (PySem.W.kitOne K (.ref (He.ga K x)) (v K) = some true)
theorem Z68 {x : PySem.Str} {v : PySem.W.Frag → Value} {K : PySem.W.Frag} (h : kitB2 x v K = true) : PySem.W.kitOne K (.ref (He.ga K x)) (v K) = some true := of_decide_eq_true h
def initB (x : PySem.Str) (K : PySem.W.Frag) : Bool := He.eqO (PySem.W.findIn K (.ref (He.ga K x)) "__init__") (some (some (.ref (mY x "__init__" K)))) && decide (PySem.W.typeIn K (.ref (mY x "__init__" K)) = some (.type "function"))
theorem Za1 {x : PySem.Str} {K : PySem.W.Frag} (h : initB x K = true) : PySem.W.findIn K (.ref (He.ga K x)) "__init__" = some (some (.ref (mY x "__init__" K))) ∧ PySem.W.typeIn K (.ref (mY x "__init__" K)) = some (.type "function") := by
  obtain ⟨h1,h2⟩ := He.ba h
  exact ⟨He.eqO_ok h1,of_decide_eq_true h2⟩
def insB (x : PySem.Str) (K : PySem.W.Frag) : Bool := He.eqO (PySem.W.findIn K (.ref (He.ga K x)) "__class__") (some (some (.builtin "object.__class__"))) && (He.eqO (PySem.W.specialIn K (.builtin "object.__class__") "__get__") (some (some (.builtin "getset_descriptor.__get__"))) && (decide (PySem.W.takesIn K (.builtin "object.__class__") = some true) && (decide (PySem.W.mroIn K (He.ga K x) (.type "object") = some true) && decide (PySem.W.kitOne K (.ref (He.ga K x)) (.ref (He.ga K x)) = some true))))
theorem Zc3 {x : PySem.Str} {K : PySem.W.Frag} (cl : Cls K (He.ga K x)) (h : insB x K = true) : C8.InsC K (He.ga K x) := by
  obtain ⟨h1,h⟩ := He.ba h
  obtain ⟨h2,h⟩ := He.ba h
  obtain ⟨h3,h⟩ := He.ba h
  obtain ⟨h4,h5⟩ := He.ba h
  exact ⟨cl,He.eqO_ok h1,He.eqO_ok h2,of_decide_eq_true h3,of_decide_eq_true h4,of_decide_eq_true h5⟩
def eqB5 (x : PySem.Str) (K : PySem.W.Frag) : Bool := He.eqO (PySem.W.findIn K (.ref (He.ga K x)) "__eq__") (some (some (.ref (mY x "__eq__" K)))) && (PySem.W.isFn K (.ref (mY x "__eq__" K)) && ((bTypes.all fun n => PySem.W.notFirst K (He.ga K x) (.type n)) && (bTypes.all fun n => decide (PySem.W.kitOne K (.type n) (.ref (He.ga K x)) = some false))))
def noDigB (K : PySem.W.Frag) : Bool := He.eqO (PySem.W.nsIn K cStatics "sys.int_max_str_digits") (some none)
theorem Z86 {K : PySem.W.Frag} (h : noDigB K = true) : NoDig K := He.eqO_ok h
end Fx
set_option maxHeartbeats 4000000
set_option maxHeartbeats 0
section
open PySem PySem.W PySem.Calls PyProof.Rows
theorem Ap.pre_law : (OpenLaw.row PySem.Challenge.rw_anchorpages_k35_values_of_graphs).Holds → PySem.Challenge.rw_anchorpages_k35_values_of_graphs.Holds := by
  intro h
  w_on; o_law
  exact h
end
set_option maxHeartbeats 4000000
namespace Fx
open PySem PySem.Spec PyProof.Rows L2 SX Ap
section
open HandSHeadRun PySem.W
end
end Fx
set_option maxHeartbeats 4000000
namespace Fx
open PySem PySem.Spec PyProof.Rows L2 SX Ap
def notT (g : Addr → Option Obj) (a : Addr) : Bool := match g a with
  | some ⟨.none,_,.fields _,_⟩ => false
  | _ => true
def obsT (as : List Addr) (fn : List DefY) (ts : List He.Tab) (ex : Exs) (g : Addr → Option Obj) : AlY := obsK fn ts ex (He.frG g (as.filter (notT g)))
def hookT (as : List Addr) (fn : List DefY) (ts : List He.Tab) (ex : Exs) : PySem.W.Hook where
  α := AlY
  obs := fun s => obsT as fn ts ex s.heap.get?
  val := fun w => valY fn ts w
  says := fun w h => ∃ K : PySem.W.Frag,K.In h ∧ Says fn ts ex w K
  of := fun _ _ e => ⟨_,He.frG_in,⟨congrArg (fun z : AlY => z.1) e,congrArg (fun z : AlY => z.2.1) e,congrArg (fun z : AlY => z.2.2) e⟩⟩
  keeps := fun _ _ _ ⟨K,hK,c⟩ k => ⟨K,PySem.W.Frag.In.keeps hK k,c⟩
theorem Zc4 {as : List Addr} {fn : List DefY} {ts : List He.Tab} {ex : Exs} {g : Addr → Option Obj} {s : Shared} (h : ∀ a,g a = s.heap.get? a) : obsT as fn ts ex g = (hookT as fn ts ex).obs s := by
  have e : g = s.heap.get? := funext h
  rw [e] <;> rfl
def cY (x : PySem.Str) (K : PySem.W.Frag) : Addr := match PySem.W.tabIn K x with
  | some p => p.1
  | none => 0
def tY (x : PySem.Str) (K : PySem.W.Frag) : Addr := match PySem.W.tabIn K x with
  | some p => p.2
  | none => 0
def mkB (x : PySem.Str) (K : PySem.W.Frag) : Bool := (PySem.W.tabIn K x).isSome && ((K.lookup (tY x K)).isNone && (match K.lookup (He.ga K x) with
  | some ⟨_,_,.func fd,_⟩ => (match fd.code with
    | .ref c => decide (c = cY x K)
    | _ => false)
  | _ => false))
theorem Z4h {x : PySem.Str} {K : PySem.W.Frag} (h : mkB x K = true) : PySem.W.tabIn K x = some (cY x K,tY x K) ∧ K.lookup (tY x K) = none ∧ (fdOf K (He.ga K x)).code = .ref (cY x K) := by
  obtain ⟨h1,h⟩ := He.ba h
  obtain ⟨h2,h3⟩ := He.ba h
  refine ⟨?_,by simpa using h2,?_⟩
  · unfold cY tY
    cases e : PySem.W.tabIn K x with
    | none => rw [e] at h1; cases h1
    | some p => rfl
  · cases e : K.lookup (He.ga K x) with
    | none => rw [e] at h3; cases h3
    | some o =>
      rw [e] at h3
      obtain ⟨oc,od,dat,sl⟩ := o
      have hf : ∀ fd : FuncData,dat = .func fd → fdOf K (He.ga K x) = fd := fun fd q => by
        subst q; unfold fdOf; rw [e]
      cases dat with
      | func fd =>
        rw [hf fd rfl]
        have h3 : (match fd.code with | .ref c => decide (c = cY x K) | _ => false) = true := h3
        cases e2 : fd.code with
        | ref c =>
          rw [e2] at h3
          rw [of_decide_eq_true (show decide (c = cY x K) = true from h3)]
        | _ => rw [e2] at h3; cases h3
      | _ => cases h3
theorem Z59 {K : PySem.W.Frag} {x q : PySem.Str} {st : Stmt} {f c : Addr} {fd : FuncData} (F : FunD K x q (defArgs st) (defBody st) (defScope st) [] [] f fd) (h : fd.code = .ref c) : FunC K x q st f fd c := by
  obtain ⟨oc,od,dV,kV,doc,pm,an,cdv,ct,osl,e1,e2,e3,e4,e5⟩ := F.ex
  subst e1
  have hc : cdv = .ref c := h
  subst hc
  have hd : dV = .none := by
    rcases e4 with ⟨_,e⟩ | ⟨h1,_⟩
    · exact e
    · exact absurd rfl h1
  subst hd
  exact ⟨oc,od,kV,doc,pm,an,ct,osl,rfl,e2,e3⟩
def tbY (ms : List PySem.Str) (K : PySem.W.Frag) : List (Addr × PySem.Str) := ms.map fun m => (tY m K, m ++ ".<locals>." ++ "<lambda>")
structure LmY [Tb] (ms : List PySem.Str) (base : Heap) (mg : PySem.Str → Option Value) (K : PySem.W.Frag) : Prop where
  T : Tb.T = tbY ms K
  b : ∀ m ∈ ms,LamX.TabB base mg (cY m K) (tY m K)
  d : (ms.map fun m => tY m K).Nodup
theorem LmY.hm [Tb] {ms : List PySem.Str} {base : Heap} {mg : PySem.Str → Option Value} {K : PySem.W.Frag} (B : LmY ms base mg K) {m : PySem.Str} (h : m ∈ ms) : (tY m K, m ++ ".<locals>." ++ "<lambda>") ∈ Tb.T := by
  rw [B.T]; exact List.mem_map.mpr ⟨m,h,rfl⟩
theorem Z87 {K : PySem.W.Frag} : ∀ {ms : List PySem.Str},(ms.map fun m => tY m K).Nodup → ∀ a ∈ ms,∀ b ∈ ms,tY a K = tY b K → a = b
  | [],_,a,h,_,_,_ => by simp at h
  | x :: ms,d,a,ha,b,hb,e => by
    simp only [List.map_cons,List.nodup_cons] at d
    rcases List.mem_cons.mp ha with h1 | h1
    · rcases List.mem_cons.mp hb with h2 | h2
      · rw [h1,h2]
      · subst h1; exact absurd (List.mem_map.mpr ⟨b,h2,e.symm⟩) d.1
    · rcases List.mem_cons.mp hb with h2 | h2
      · subst h2; exact absurd (List.mem_map.mpr ⟨a,h1,e⟩) d.1
      · exact Z87 d.2 a h1 b h2 e
theorem LmY.hu [Tb] {ms : List PySem.Str} {base : Heap} {mg : PySem.Str → Option Value} {K : PySem.W.Frag} (B : LmY ms base mg K) {m : PySem.Str} (h : m ∈ ms) : ∀ p ∈ Tb.T, p.1 = tY m K → p.2 = m ++ ".<locals>." ++ "<lambda>" := by
  intro p hp e
  rw [B.T] at hp
  obtain ⟨m', hm', rfl⟩ := List.mem_map.mp hp
  rw [Z87 B.d m' hm' m h e]
theorem Za2 {l : PySem.W.OpenLaw} {n k : Nat} {q : Program} {loose : List PySem.Str} {XP : (PySem.Str → Option Value) → Heap → Prop} {as : List Addr} {fn : List DefY} {ts : List He.Tab} {ex : Exs} {d : DefRec} {F : FF} {x : PySem.Str} (ms : List DefRec)
    (hn : l.most = some n) (hn2 : n ≤ sizeLine) (hdf : d.params.defaults = []) (hr : Room k callerA) (hrec : ∀ m ∈ ms,(recsOf q).find? (fun e => e.name == m.name) = some m)
    (hG : ∀ (w : World) (mg : PySem.Str → Option Value) (K : PySem.W.Frag),Cx5 fn ts ex w K mg → (∀ m ∈ ms,mkB m.name K = true) ∧ ((ms.map DefRec.name).map fun m => tY m K).Nodup ∧ ∃ fd : FuncData,mg d.name = some (.ref (He.ga K d.name)) ∧ (∀ (s : Shared) (u : Value),BindsTo s fd ⟨[u],[]⟩ [(x,u)]) ∧
        ∀ base : Heap,(@LmY ⟨tbY (ms.map DefRec.name) K⟩ (ms.map DefRec.name) base mg K) → @FnG l.prog w K mg base k (He.ga K d.name) fd [x] (@spF ⟨tbY (ms.map DefRec.name) K⟩ K 1 F))
    (hF : ∀ ns : List Int,ns.length ≤ n → ∃ Z,F [.frl (ns.map .int)] [] = .ok (.bl true) Z) :
    PySem.W.WalkO q loose XP (hookT as fn ts ex).says l.row.toRowW d [] (fun f vs => PySem.call f vs) := by
  apply Att.attach_call hn hdf
  intro w s₀ s₁ mg mb fa o pm cd doc a vs ns G Y ho hd hcd hmg hobj hints hlen hg
  obtain ⟨K,KX,c⟩ := Y
  obtain ⟨hmk,hnd,fd,h0,hb,hf⟩ := hG w mg K ⟨c,_,KX,G.T.g⟩
  have e := hmg.symm.trans h0
  cases e
  have tabs : ∀ m ∈ ms,PySem.W.CodeHd s₁.heap (cY m.name K) (tY m.name K) ∧ s₁.heap.get? (tY m.name K) = some { cls := .none,data := .fields #[] } := fun m hm =>
    PySem.W.tab_of G.T KX (hrec m hm) (Z4h (hmk m hm)).1
  letI tb : Tb := ⟨tbY (ms.map DefRec.name) K⟩
  let cs : List (Addr × Addr) := ms.map fun m => (cY m.name K,tY m.name K)
  have mem : ∀ p ∈ cs,∃ m ∈ ms,(cY m.name K,tY m.name K) = p := fun p hp => List.mem_map.mp hp
  refine Zc0 (cs := cs) (sp := fun vs H Q _ => spF K 1 F vs H Q (fun _ _ _ => False)) KX G.T.g G.T.b G.T.builtins G.T.nolimit hg (fun p hp => ?_) (fun p hp => ?_) (fun p hp => ?_) G.T.bmain hobj hints (Nat.le_trans hlen hn2) hr (fun base b1 b2 b3 => ?_) hb (fun H hH hS => ?_)
  · obtain ⟨m,hm,rfl⟩ := mem p hp; exact (tabs m hm).2
  · obtain ⟨m,hm,rfl⟩ := mem p hp; exact (Z4h (hmk m hm)).2.1
  · obtain ⟨m,hm,rfl⟩ := mem p hp; exact (tabs m hm).1
  · refine fnG_0 (hf base ⟨rfl,fun m hm => ?_,hnd⟩)
    obtain ⟨r,hr,rfl⟩ := List.mem_map.mp hm
    exact b3 (cY r.name K,tY r.name K) (List.mem_map.mpr ⟨r,hr,rfl⟩)
  · obtain ⟨Z,e⟩ := hF ns hlen
    refine ⟨rfl,[],[],[.frl (ns.map .int)],⟨rfl,List.nodup_nil,fun i a o h => by simp at h,fun p hp => ?_⟩,.cons (Zbt hS) .nil,?_⟩
    · obtain ⟨m,hm,rfl⟩ := List.mem_map.mp hp
      obtain ⟨r,hr,rfl⟩ := List.mem_map.mp hm
      exact LamX.TabS.nil (hH (cY r.name K,tY r.name K) (List.mem_map.mpr ⟨r,hr,rfl⟩))
    · rw [e]
      intro ι' H' b g s r
      cases r
      rfl
end Fx
set_option maxHeartbeats 4000000
namespace Fx
open PySem PySem.Spec PyProof.Rows L2 SX Ap
variable [Tb]
mutual
def T.mv (f : Nat → Option Nat) : T → Option T
  | .non => some .non
  | .bl b => some (.bl b)
  | .int i => some (.int i)
  | .str l => some (.str l)
  | .tup ts => (T.mvs f ts).map .tup
  | .loc i => (f i).map .loc
  | .frl ts => (T.mvs f ts).map .frl
  | .ref a => some (.ref a)
  | .ty n => some (.ty n)
  | .lam _ _ _ _ => none
  | .ktp ts => (T.mvs f ts).map .ktp
def T.mvs (f : Nat → Option Nat) : List T → Option (List T)
  | [] => some []
  | t :: ts => match T.mv f t,T.mvs f ts with
    | some u,some us => some (u :: us)
    | _,_ => none
end
def mvP {κ : Type} (f : Nat → Option Nat) : List (κ × T) → Option (List (κ × T))
  | [] => some []
  | (k,t) :: ts => match T.mv f t,mvP f ts with
    | some u,some us => some ((k,u) :: us)
    | _,_ => none
def O.mv (f : Nat → Option Nat) : O → Option O
  | .lst ts => (T.mvs f ts).map .lst
  | .dk ts => (mvP f ts).map .dk
  | .dt ts => (mvP f ts).map .dt
  | .ins C ts => (mvP f ts).map (.ins C)
section
variable {K : PySem.W.Frag} {ι ι' : List Addr} {H : Hp} {f : Nat → Option Nat}
mutual
theorem Rep.mv (hf : ∀ i j a, f i = some j → ι[i]? = some a → ι'[j]? = some a) : ∀ {v : V} {t t' : T}, Rep K ι H v t → T.mv f t = some t' → Rep K ι' H v t'
  | _,_,_,.non,e => by cases e; exact .non
  | _,_,_,.bl b,e => by cases e; exact .bl b
  | _,_,_,.int i,e => by cases e; exact .int i
  | _,_,_,.str l,e => by cases e; exact .str l
  | _,_,_,.tup h r,e => by
    simp only [T.mv] at e
    obtain ⟨us,e1,rfl⟩ := Option.map_eq_some_iff.mp e
    exact .tup h (Reps.mv hf r e1)
  | _,_,_,.loc h,e => by
    simp only [T.mv] at e
    obtain ⟨j,e1,rfl⟩ := Option.map_eq_some_iff.mp e
    exact .loc (hf _ _ _ e1 h)
  | _,_,_,.frl h r,e => by
    simp only [T.mv] at e
    obtain ⟨us,e1,rfl⟩ := Option.map_eq_some_iff.mp e
    exact .frl h (Reps.mv hf r e1)
  | _,_,_,.ref a,e => by cases e; exact .ref a
  | _,_,_,.ty n,e => by cases e; exact .ty n
  | _,_,_,.lam _ _,e => by cases e
  | _,_,_,.ktp h r,e => by
    simp only [T.mv] at e
    obtain ⟨us,e1,rfl⟩ := Option.map_eq_some_iff.mp e
    exact .ktp h (Reps.mv hf r e1)
theorem Reps.mv (hf : ∀ i j a, f i = some j → ι[i]? = some a → ι'[j]? = some a) : ∀ {vs : List V} {ts ts' : List T}, Reps K ι H vs ts → T.mvs f ts = some ts' → Reps K ι' H vs ts'
  | _,_,_,.nil,e => by cases e; exact .nil
  | _,_,_,.cons r q,e => by
    simp only [T.mvs] at e
    split at e
    · rename_i u us e1 e2
      cases e
      exact .cons (Rep.mv hf r e1) (Reps.mv hf q e2)
    · cases e
end
theorem RepP.mv {κ : Type} (hf : ∀ i j a, f i = some j → ι[i]? = some a → ι'[j]? = some a) : ∀ {vs : List (κ × V)} {ts ts' : List (κ × T)}, RepP K ι H vs ts → mvP f ts = some ts' → RepP K ι' H vs ts'
  | _,_,_,.nil,e => by cases e; exact .nil
  | _,_,_,.cons r q,e => by
    simp only [mvP] at e
    split at e
    · rename_i u us e1 e2
      cases e
      exact .cons (Rep.mv hf r e1) (RepP.mv hf q e2)
    · cases e
theorem RepF.mv (hf : ∀ i j a, f i = some j → ι[i]? = some a → ι'[j]? = some a) : ∀ {vs : List (PySem.Str × V)} {ts ts' : List (String × T)}, RepF K ι H vs ts → mvP f ts = some ts' → RepF K ι' H vs ts'
  | _,_,_,.nil,e => by cases e; exact .nil
  | _,_,_,.cons r q,e => by
    simp only [mvP] at e
    split at e
    · rename_i u us e1 e2
      cases e
      exact .cons (Rep.mv hf r e1) (RepF.mv hf q e2)
    · cases e
theorem ObR.mv (hf : ∀ i j a, f i = some j → ι[i]? = some a → ι'[j]? = some a) {a : Addr} {o o' : O} (h : ObR K ι H a o) (e : O.mv f o = some o') : ObR K ι' H a o' := by
  cases o with
  | lst ts =>
    obtain ⟨us,e1,rfl⟩ := Option.map_eq_some_iff.mp e
    obtain ⟨vs,h,r⟩ := h
    exact ⟨vs,h,r.mv hf e1⟩
  | dk ts =>
    obtain ⟨us,e1,rfl⟩ := Option.map_eq_some_iff.mp e
    obtain ⟨vs,h,r⟩ := h
    exact ⟨vs,h,r.mv hf e1⟩
  | dt ts =>
    obtain ⟨us,e1,rfl⟩ := Option.map_eq_some_iff.mp e
    obtain ⟨vs,h,r⟩ := h
    exact ⟨vs,h,r.mv hf e1⟩
  | ins C ts =>
    obtain ⟨us,e1,rfl⟩ := Option.map_eq_some_iff.mp e
    obtain ⟨Ca,dx,vs,hn,h,r⟩ := h
    exact ⟨Ca,dx,vs,hn,h,r.mv hf e1⟩
end
section
variable {K : PySem.W.Frag} {n : Nat} {F : FF}
theorem Z88 {ι ι1 : List Addr} {H H1 : Hp} {Y Y' : Sto} (g : Gr ι ι1 H H1) (s : Sim K ι Y H) (s1 : Sim K ι1 Y' H1) : Y.length ≤ Y'.length := by
  rw [← s.len,← s1.len]
  cases h : ι.length with
  | zero => omega
  | succ m =>
    have hm : m < ι.length := by omega
    have := g.pre m _ (List.getElem?_eq_getElem hm)
    have := (List.getElem?_eq_some_iff.mp this).1
    omega
end
end Fx
set_option maxHeartbeats 4000000
namespace Fx
open PySem PySem.Spec PyProof.Rows L2 SX Ap
variable [Tb]
def gLeW : T → T → Sto → Option (T × Sto)
  | .int i,.int j,Z => some (.bl (decide (i ≤ j)),Z)
  | .str a,.str b,Z => some (.bl (!decide (b < a)),Z)
  | _,_,_ => none
def gGtW : T → T → Sto → Option (T × Sto)
  | .int i,.int j,Z => some (.bl (decide (j < i)),Z)
  | .str a,.str b,Z => some (.bl (decide (b < a)),Z)
  | _,_,_ => none
def gGeW : T → T → Sto → Option (T × Sto)
  | .int i,.int j,Z => some (.bl (decide (j ≤ i)),Z)
  | .str a,.str b,Z => some (.bl (!decide (a < b)),Z)
  | _,_,_ => none
section
variable {X : Cx} {K : PySem.W.Frag}
theorem Z77 : OpF X K (compareOp .LtE) gLeW := by
  refine Xy (U9 op_le op_le_str) fun x y H Q h => ?_
  obtain ⟨ι,Z,tx,ty,s,rx,ry,p⟩ := h
  unfold gLeW at p
  split at p
  · cases rx; cases ry; exact .inl ⟨_,_,rfl,rfl,Y7 p s (.bl _)⟩
  · cases rx; cases ry; exact .inr ⟨_,_,rfl,rfl,Y7 p s (.bl _)⟩
  · exact p.elim
theorem o_gtW : OpF X K (compareOp .Gt) gGtW := by
  refine Xy (U9 op_gt op_gt_str) fun x y H Q h => ?_
  obtain ⟨ι,Z,tx,ty,s,rx,ry,p⟩ := h
  unfold gGtW at p
  split at p
  · cases rx; cases ry; exact .inl ⟨_,_,rfl,rfl,Y7 p s (.bl _)⟩
  · cases rx; cases ry; exact .inr ⟨_,_,rfl,rfl,Y7 p s (.bl _)⟩
  · exact p.elim
theorem o_geW : OpF X K (compareOp .GtE) gGeW := by
  refine Xy (U9 op_ge op_ge_str) fun x y H Q h => ?_
  obtain ⟨ι,Z,tx,ty,s,rx,ry,p⟩ := h
  unfold gGeW at p
  split at p
  · cases rx; cases ry; exact .inl ⟨_,_,rfl,rfl,Y7 p s (.bl _)⟩
  · cases rx; cases ry; exact .inr ⟨_,_,rfl,rfl,Y7 p s (.bl _)⟩
  · exact p.elim
end
theorem MtM.r {X : Cx} {id : String} {r : V → List V → Hp → VK → Prop} (h : MtM X id r) : MtR X id r := h
def keyT : T → Option Key
  | .int i => some (.inl i)
  | .str l => some (.inr (S l))
  | _ => none
def keyEq : Key → Key → Bool
  | .inl i,.inl j => i == j
  | .inr a,.inr b => a.cps.toList == b.cps.toList
  | _,_ => false
theorem Qa (a b : Key) : keyEq a b = decide (a = b) := by
  cases a with
  | inl i => cases b with
    | inl j => by_cases h : i = j <;> simp [keyEq,h]
    | inr y => simp [keyEq]
  | inr x => cases b with
    | inl j => simp [keyEq]
    | inr y =>
      have : (x = y) ↔ x.cps.toList = y.cps.toList := ⟨fun h => by rw [h],fun h => by
        rw [← Zd9 x,← Zd9 y,h]⟩
      by_cases h : x.cps.toList = y.cps.toList
      · simp [keyEq,h,this.mpr h]
      · have h2 : ¬ x = y := fun z => h (this.mp z)
        have e1 : (x.cps.toList == y.cps.toList) = false := by simpa using h
        show (x.cps.toList == y.cps.toList) = _
        rw [e1,decide_eq_false (fun z => h2 (Sum.inr.inj z))]
def getK : List (Key × T) → Key → Option T
  | [],_ => none
  | (k,t) :: r,x => if keyEq k x = true then some t else getK r x
def hasK (kvs : List (Key × T)) (x : Key) : Bool := kvs.any fun p => keyEq p.1 x
def putKT (kvs : List (Key × T)) (x : Key) (y : T) : List (Key × T) := if hasK kvs x = true then kvs.map (fun p => if keyEq p.1 x = true then (p.1,y) else p) else kvs ++ [(x,y)]
def mergeKT (kvs more : List (Key × T)) : List (Key × T) := more.foldl (fun acc kv => putKT acc kv.1 kv.2) kvs
def getDK (Z : Sto) (i : Nat) : Option (List (Key × T)) := match Z[i]? with
  | some (.dk kvs) => some kvs
  | _ => none
theorem Za3 {Z : Sto} {i : Nat} {kvs : List (Key × T)} (h : getDK Z i = some kvs) : Z[i]? = some (.dk kvs) := by
  unfold getDK at h
  split at h
  · rename_i e; cases h; exact e
  · cases h
section
variable {K : PySem.W.Frag} {ι : List Addr} {H : Hp} {Z : Sto}
theorem Z4i {v : V} {t : T} {k : Key} (r : Rep K ι H v t) (e : keyT t = some k) : v = kV k := by
  cases r <;> first | (cases e; rfl) | (cases e)
theorem Z89 : ∀ {vs : List (Key × V)} {ts : List (Key × T)} {k : Key},RepP K ι H vs ts → match getK ts k with
    | some t => ∃ v,valV vs k = some v ∧ Rep K ι H v t
    | none => valV vs k = none
  | _,_,k,.nil => rfl
  | _,_,k,.cons (k := k0) (v := v) (vs := vs) (t := t) (ts := ts) r q => by
    by_cases h : k0 = k
    · have e : keyEq k0 k = true := by rw [Qa]; exact decide_eq_true h
      simp only [getK,e,if_true]
      exact ⟨v,valV_pos (p := (k0,v)) h,r⟩
    · have e : keyEq k0 k = false := by rw [Qa]; exact decide_eq_false h
      have e2 : valV ((k0,v) :: vs) k = valV vs k := valV_neg (p := (k0,v)) h
      simp only [getK,e,Bool.false_eq_true,if_false,e2]
      exact Z89 q
theorem Zb3 : ∀ {vs : List (Key × V)} {ts : List (Key × T)} {k : Key},RepP K ι H vs ts → (vs.any fun kv => decide (kv.1 = k)) = hasK ts k
  | _,_,k,.nil => rfl
  | _,_,k,.cons r q => by
    simp only [hasK,List.any_cons,Qa]
    congr 1
    have := Zb3 (k := k) q
    simpa only [hasK,Qa] using this
theorem Z8a {k : Key} {y : V} {t : T} (ry : Rep K ι H y t) : ∀ {vs : List (Key × V)} {ts : List (Key × T)},RepP K ι H vs ts → RepP K ι H (vs.map fun kv => if kv.1 = k then (kv.1,y) else kv) (ts.map fun p => if keyEq p.1 k = true then (p.1,t) else p)
  | _,_,.nil => .nil
  | _,_,.cons (k := k0) r q => by
    simp only [List.map_cons,Qa]
    by_cases h : k0 = k
    · simp only [h,if_true,decide_true]
      have := Z8a ry q (k := k)
      simp only [Qa] at this
      exact .cons ry this
    · simp only [h,if_false,decide_false,Bool.false_eq_true]
      have := Z8a ry q (k := k)
      simp only [Qa] at this
      exact .cons r this
theorem app_ok {k : Key} {y : V} {t : T} (ry : Rep K ι H y t) : ∀ {vs : List (Key × V)} {ts : List (Key × T)},RepP K ι H vs ts → RepP K ι H (vs ++ [(k,y)]) (ts ++ [(k,t)])
  | _,_,.nil => .cons ry .nil
  | _,_,.cons r q => .cons r (app_ok ry q)
theorem Zb4 {vs : List (Key × V)} {ts : List (Key × T)} {k : Key} {y : V} {t : T} (r : RepP K ι H vs ts) (ry : Rep K ι H y t) : RepP K ι H (putK vs k y) (putKT ts k t) := by
  unfold putK putKT
  rw [Zb3 r]
  split
  · exact Z8a ry r
  · exact app_ok ry r
theorem Z69 : ∀ {more : List (Key × V)} {us : List (Key × T)} {vs : List (Key × V)} {ts : List (Key × T)},RepP K ι H more us → RepP K ι H vs ts → RepP K ι H (mergeK vs more) (mergeKT ts us)
  | _,_,_,_,.nil,r => r
  | _,_,vs,ts,.cons (k := k) (v := v) (vs := more) (t := y) (ts := us) ry q,r => by
    show RepP K ι H (mergeK (putK vs k v) more) (mergeKT (putKT ts k y) us)
    exact Z69 q (Zb4 r ry)
theorem Jl {i : Nat} {v : V} {kvs : List (Key × T)} (s : Sim K ι Z H) (r : Rep K ι H v (.loc i)) (e : getDK Z i = some kvs) : ∃ a vs,v = .ref a ∧ ι[i]? = some a ∧ H a = some (.dK vs) ∧ RepP K ι H vs kvs := by
  cases r with
  | loc h =>
    obtain ⟨a', h1, vs, h2, h3⟩ := s.at (Za3 e)
    rw [h] at h1; cases h1
    exact ⟨_,vs,rfl,h,h2,h3⟩
end
def gInW (x y : T) (Z : Sto) : Option (T × Sto) := match y with
  | .loc i => (match getDK Z i with
    | some kvs => (keyT x).map fun k => (.bl (getK kvs k).isSome,Z)
    | none => gIn x y Z)
  | _ => gIn x y Z
def gNotInW (x y : T) (Z : Sto) : Option (T × Sto) := match y with
  | .loc i => (match getDK Z i with
    | some kvs => (keyT x).map fun k => (.bl (!(getK kvs k).isSome),Z)
    | none => gNotIn x y Z)
  | _ => gNotIn x y Z
def gIxW (x y : T) (Z : Sto) : Option (T × Sto) := match x with
  | .loc i => (match getDK Z i with
    | some kvs => (match keyT y with
      | some k => (getK kvs k).map fun t => (t,Z)
      | none => none)
    | none => gIx x y Z)
  | _ => gIx x y Z
section
variable {X : Cx} {K : PySem.W.Frag}
theorem Z6a {ι : List Addr} {H : Hp} {vs : List (Key × V)} {ts : List (Key × T)} {k : Key} (r : RepP K ι H vs ts) : (valV vs k).isSome = (getK ts k).isSome := by
  have := Z89 (k := k) r
  cases e : getK ts k with
  | none => rw [e] at this; rw [this]; rfl
  | some t => rw [e] at this; obtain ⟨v,h,_⟩ := this; rw [h]; rfl
theorem Zde (hu : X.A.units + 1 < cLine) : OpR X (compareOp .In) (fun x y H Q => ∃ a o,y = .ref a ∧ DGet H a x o ∧ Q (.bl o.isSome) H) := by
  intro pins s σ H x y v u Q I rx ry h
  obtain ⟨a,o,rfl,g,q⟩ := h
  cases ry
  exact d_in hu I g rx fun s3 I3 => ⟨.bl o.isSome,H,I3,rfl,q⟩
theorem Z8b (hu : X.A.units + 1 < cLine) : OpR X (compareOp .NotIn) (fun x y H Q => ∃ a o,y = .ref a ∧ DGet H a x o ∧ Q (.bl (!o.isSome)) H) := by
  intro pins s σ H x y v u Q I rx ry h
  obtain ⟨a,o,rfl,g,q⟩ := h
  cases ry
  exact d_notIn hu I g rx fun s3 I3 => ⟨.bl (!o.isSome),H,I3,rfl,q⟩
theorem o_inW (hu : X.A.units + 64 < cLine) (hK : X.K = K) : OpF X K (compareOp .In) gInW := by
  have h0 := o_in hK
  subst hK
  refine Xy (U9 h0 (Zde (by omega))) fun x y H Q h => ?_
  obtain ⟨ι,Z,tx,ty,s,rx,ry,p⟩ := h
  unfold gInW at p
  split at p
  · split at p
    · rename_i i kvs e
      cases ek : keyT tx with
      | none => rw [ek] at p; exact p.elim
      | some k =>
        rw [ek,Option.map_some] at p
        obtain ⟨a,vs,rfl,_,h1,r⟩ := Jl s ry e
        have := Z4i rx ek
        subst this
        exact .inr ⟨a,valV vs k,rfl,DGet.k h1,by rw [Z6a r]; exact Y7 p s (.bl _)⟩
    · exact .inl ⟨ι,Z,tx,_,s,rx,ry,p⟩
  · exact .inl ⟨ι,Z,tx,ty,s,rx,ry,p⟩
theorem Za4 (hu : X.A.units + 64 < cLine) (hK : X.K = K) : OpF X K (compareOp .NotIn) gNotInW := by
  have h0 := Zbo hK
  subst hK
  refine Xy (U9 h0 (Z8b (by omega))) fun x y H Q h => ?_
  obtain ⟨ι,Z,tx,ty,s,rx,ry,p⟩ := h
  unfold gNotInW at p
  split at p
  · split at p
    · rename_i i kvs e
      cases ek : keyT tx with
      | none => rw [ek] at p; exact p.elim
      | some k =>
        rw [ek,Option.map_some] at p
        obtain ⟨a,vs,rfl,_,h1,r⟩ := Jl s ry e
        have := Z4i rx ek
        subst this
        exact .inr ⟨a,valV vs k,rfl,DGet.k h1,by rw [Z6a r]; exact Y7 p s (.bl _)⟩
    · exact .inl ⟨ι,Z,tx,_,s,rx,ry,p⟩
  · exact .inl ⟨ι,Z,tx,ty,s,rx,ry,p⟩
theorem Zc5 (hu : X.A.units + 1 < cLine) : IxR X (fun x y H Q => ∃ a v,x = .ref a ∧ DGet H a y (some v) ∧ Q v H) := by
  intro value slice pins s σ H x y v u Q I rx ry h hs
  obtain ⟨a,r,rfl,g,q⟩ := h
  cases rx
  exact tail_any (dict_typeIs I g) slot_dict_getitem.lookup (d_getItem hu I g ry fun w' s3 I3 rw' => ⟨r, H, I3, rw', q⟩) hs
theorem Z1j (hu : X.A.units + 64 < cLine) (hK : X.K = K) : IxR X (rF2 K gIxW) := by
  have h0 := i_ix hK
  subst hK
  refine Z7o (IxR.or h0 (Zc5 (by omega))) fun x y H Q h => ?_
  obtain ⟨ι,Z,tx,ty,s,rx,ry,p⟩ := h
  unfold gIxW at p
  split at p
  · split at p
    · rename_i i kvs e
      cases ek : keyT ty with
      | none => rw [ek] at p; exact p.elim
      | some k =>
        rw [ek] at p
        cases eg : getK kvs k with
        | none => simp only [eg] at p; exact p.elim
        | some t =>
          simp only [eg,Option.map_some] at p
          obtain ⟨a,vs,rfl,_,h1,r⟩ := Jl s rx e
          have := Z4i ry ek
          subst this
          have hv := Z89 (k := k) r
          rw [eg] at hv
          obtain ⟨v,hv,rv⟩ := hv
          exact .inr ⟨a,v,rfl,hv ▸ DGet.k h1,Y7 p s rv⟩
    · exact .inl ⟨ι,Z,_,ty,s,rx,ry,p⟩
  · exact .inl ⟨ι,Z,tx,ty,s,rx,ry,p⟩
end
def gSetW (x y t : T) (Z : Sto) : Option Sto := match x with
  | .loc i => (match getDK Z i with
    | some kvs => (match keyT y with
      | some k => if kvs.length < Lim then some (Z.set i (.dk (putKT kvs k t))) else none
      | none => none)
    | none => gSetL x y t Z)
  | _ => gSetL x y t Z
def gSubsW (fo fi : FE) : FG := fun t ρ Z => (fo ρ Z).bind fun x Z1 => (fi ρ Z1).bind fun y Z2 => match gSetW x y t Z2 with
  | some Z3 => .ok ρ Z3
  | none => .stuck
section
variable {X : Cx} {K : PySem.W.Frag} {W : WX} {o e : Expr} {pos : Pos} {fo fi : FE}
theorem Zdf {t t' : TSet} (h : PSet X t) (h' : PSet X t') : PSet X (fun o i v H Q => t o i v H Q ∨ t' o i v H Q) := fun pins s σ H o i v ov iv u Q I ro ri rv q => q.elim (h pins s σ H o i v ov iv u Q I ro ri rv) (h' pins s σ H o i v ov iv u Q I ro ri rv)
theorem Zc6 {ι : List Addr} {H : Hp} {Z Z3 : Sto} {x y v : V} {tx ty t : T} {Q : Hp → Prop} (s : Sim K ι Z H) (rx : Rep K ι H x tx) (ry : Rep K ι H y ty) (r : Rep K ι H v t) (e : gSetW tx ty t Z = some Z3) (q : ∀ H', Gr ι ι H H' → Sim K ι Z3 H' → Q H') : rSetL x y v H Q ∨ rSetD x y v H Q := by
  unfold gSetW at e
  split at e
  · split at e
    · rename_i i kvs eg
      split at e
      · rename_i k ek
        split at e
        · rename_i hz
          cases e
          obtain ⟨a,vs,rfl,hi,h1,rk⟩ := Jl s rx eg
          have := Z4i ry ek
          subst this
          have g := Gr.mut (ι := ι) (o := .dK (putK vs k v)) h1 trivial (List.mem_of_getElem? hi)
          refine .inr ⟨a,_,rfl,DPut.k h1 (by rw [rk.length]; exact Nat.lt_of_lt_of_le hz Z46),q _ g (s.set hi ⟨_,upd_same,Zb4 (rk.gr g) (r.gr g)⟩)⟩
        · cases e
      · cases e
    · exact .inl (Z7v s rx ry r e q)
  · exact .inl (Z7v s rx ry r e q)
theorem Z3i (hu : X.A.units + 64 < cLine) (ho : FJ X K (Wt W) o fo) (hi : FJ X K (Wt W) e fi)
    (ha : ∀ v,assign (.Subscript o e pos) X.env v = (do
      let ov ← holding [v] (eval o X.env)
      let iv ← holding [v,ov] (eval e X.env)
      standAt pos
      holding [v,ov,iv] (setItem ov iv v)
      release [v,ov,iv] []) := by intro _; rfl) : PG X (.Subscript o e pos) (tG K W (gSubsW fo fi)) := Z60 (pg_sub ho hi (Zdf set_list (set_dict (by omega))) ha) fun v σ H Q h => by
  obtain ⟨ι,ρ,Z,t,is,r,p⟩ := h
  refine ⟨ι,ρ,Z,is.ie,(Zi (rep := Rep K) p).imp fun x H1 q => ?_⟩
  obtain ⟨ι1,Z1,tx,g1,s1,r1,p1⟩ := q
  refine ⟨ι1,ρ,Z1,(is.gr g1 s1).ie,(Zi (rep := Rep K) p1).imp fun y H2 q2 => ?_⟩
  obtain ⟨ι2,Z2,ty,g2,s2,r2,p2⟩ := q2
  split at p2
  · rename_i Z3 e3
    exact Zc6 s2 (r1.gr g2) r2 ((r.gr g1).gr g2) e3 fun H3 g3 s3 => p2 ι2 H3 σ g3 s3 ⟨is.len,((is.env.gr g1).gr g2).gr g3⟩
  · exact p2.elim
end
abbrev FP := Env → Sto → R (List (T × T))
def pNil : FP := fun _ Z => .ok [] Z
def pCons (fk fv : FE) (r : FP) : FP := fun ρ Z => (fk ρ Z).bind fun x Z1 => (fv ρ Z1).bind fun y Z2 => (r ρ Z2).bind fun xs Z3 => .ok ((x,y) :: xs) Z3
inductive RepQ (K : PySem.W.Frag) (ι : List Addr) (H : Hp) : List (V × V) → List (T × T) → Prop
  | nil : RepQ K ι H [] []
  | cons {v w : V} {vs : List (V × V)} {t u : T} {ts : List (T × T)} : Rep K ι H v t → Rep K ι H w u → RepQ K ι H vs ts → RepQ K ι H ((v,w) :: vs) ((t,u) :: ts)
theorem RepQ.gr {K : PySem.W.Frag} {ι ι' : List Addr} {H H' : Hp} (g : Gr ι ι' H H') : ∀ {vs : List (V × V)} {ts : List (T × T)}, RepQ K ι H vs ts → RepQ K ι' H' vs ts
  | _,_,.nil => .nil
  | _,_,.cons a b r => .cons (a.gr g) (b.gr g) (r.gr g)
def keysT : List (T × T) → Option (List (Key × T))
  | [] => some []
  | (x,y) :: r => match keyT x,keysT r with
    | some k,some ks => some ((k,y) :: ks)
    | _,_ => none
theorem Z8c {K : PySem.W.Frag} {ι : List Addr} {H : Hp} : ∀ {vs : List (V × V)} {ts : List (T × T)} {ks : List (Key × T)},RepQ K ι H vs ts → keysT ts = some ks → ∃ ws : List (Key × V),vs = ws.map (fun kv => (kV kv.1,kv.2)) ∧ RepP K ι H ws ks
  | _,_,_,.nil,e => by cases e; exact ⟨[],rfl,.nil⟩
  | _,_,_,.cons a b r,e => by
    simp only [keysT] at e
    split at e
    · rename_i k ks e1 e2
      cases e
      obtain ⟨ws,rfl,r2⟩ := Z8c r e2
      have := Z4i a e1
      subst this
      exact ⟨(k,_) :: ws,rfl,.cons b r2⟩
    · cases e
def tFP (K : PySem.W.Frag) (W : Wc) (f : FP) : L2.St → Hp → (List (V × V) → Hp → Prop) → Prop := fun σ H Q => ∃ ι ρ Z,Ie K W ι H σ ρ Z ∧ Post (RepQ K) K W.w σ ι H Q (f ρ Z)
def FPJ (X : Cx) (K : PySem.W.Frag) (W : Wc) (pos : Pos) (keys : List (Option Expr)) (values : List Expr) (f : FP) : Prop := ∃ trs,PPs X pos keys values trs ∧ ∀ σ H Q,tFP K W f σ H Q → tPairs trs σ H Q
def eDict (fp : FP) : FE := fun ρ Z => (fp ρ (Z ++ [.dk []])).bind fun ps Z1 => match keysT ps,getDK Z1 Z.length with
  | some ks,some [] => if ks.length ≤ 15 then .ok (.loc Z.length) (Z1.set Z.length (.dk (mergeKT [] ks))) else .stuck
  | _,_ => .stuck
section
variable {X : Cx} {K : PySem.W.Frag} {W : Wc} {pos : Pos}
theorem Zdg : FPJ X K W pos [] [] pNil := ⟨[],pps_nil,fun σ H Q h => by
  obtain ⟨ι,ρ,Z,is,p⟩ := h
  exact p ι H [] Gr.refl is.sim .nil⟩
theorem Zc7 {k v : Expr} {ks : List (Option Expr)} {vs : List Expr} {fk fv : FE} {fr : FP} (hk : FJ X K W k fk) (hv : FJ X K W v fv) (hr : FPJ X K W pos ks vs fr) : FPJ X K W pos (some k :: ks) (v :: vs) (pCons fk fv fr) := by
  obtain ⟨trs,h,i⟩ := hr
  refine ⟨(tF K W fk,tF K W fv) :: trs,pps_cons hk hv h,fun σ H Q h => ?_⟩
  obtain ⟨ι,ρ,Z,is,p⟩ := h
  refine ⟨ι,ρ,Z,is,(Zi p).imp fun x H1 q => ?_⟩
  obtain ⟨ι1,Z1,tx,g1,s1,r1,p1⟩ := q
  refine ⟨ι1,ρ,Z1,is.gr g1 s1,(Zi p1).imp fun y H2 q2 => ?_⟩
  obtain ⟨ι2,Z2,ty,g2,s2,r2,p2⟩ := q2
  refine i σ H2 _ ⟨ι2,ρ,Z2,(is.gr g1 s1).gr g2 s2,(Zi (rep := RepQ K) p2).imp fun ps H3 q3 => ?_⟩
  obtain ⟨ι3,Z3,ts,g3,s3,r3,p3⟩ := q3
  exact p3 ι3 H3 _ Gr.refl s3 (.cons ((r1.gr g2).gr g3) (r2.gr g3) r3)
theorem Zdh {keys : List (Option Expr)} {values : List Expr} {fp : FP} (h : FPJ X K W pos keys values fp) (hall : keys.all (·.isSome) = true := by rfl) (hl : keys.length = values.length := by rfl) (h0 : keys ≠ [] := by simp) (h15 : keys.length ≤ 15 := by decide) : FJ X K W (.Dict keys values pos) (eDict fp) := by
  obtain ⟨trs,h,i⟩ := h
  refine Xj (pe_disp h hall hl h0 h15) fun σ H Q q => ?_
  obtain ⟨ι,ρ,Z,is,p⟩ := q
  intro a ha
  have g0 : Gr ι (ι ++ [a]) H (upd H a (.dK [])) := Gr.new ha
  have s0 : Sim K (ι ++ [a]) (Z ++ [.dk []]) (upd H a (.dK [])) := is.sim.new ha ⟨[],upd_same,.nil⟩
  have hi : (ι ++ [a])[Z.length]? = some a := by rw [← is.sim.len]; simp
  refine i σ _ _ ⟨_,ρ,_,is.gr g0 s0,(Zi (rep := RepQ K) (p.shift g0)).imp fun ps H1 q1 => ?_⟩
  obtain ⟨ι1,Z1,ts,g1,s1,r1,p1⟩ := q1
  split at p1
  · rename_i ks e1 e2
    split at p1
    · rename_i hz
      obtain ⟨ws,rfl,r2⟩ := Z8c r1 e1
      have hi1 := g1.pre _ _ hi
      obtain ⟨b,vs,eb,_,h2,r3⟩ := Jl s1 (.loc hi1) e2
      cases eb
      cases r3
      have g2 := Gr.mut (ι := ι1) (o := .dK (mergeK [] ws)) h2 trivial (List.mem_of_getElem? hi1)
      refine ⟨h2,ws,rfl,by rw [r2.length]; exact hz,?_⟩
      exact p1 ι1 _ _ g2 (s1.set hi1 ⟨_,upd_same,Z69 (r2.gr g2) .nil⟩) (.loc hi1)
    · exact p1.elim
  · exact p1.elim
end
end Fx
set_option maxHeartbeats 4000000
namespace Fx
open PySem PySem.Spec PyProof.Rows L2 SX Ap
variable [Tb]
def pickL {α : Type} (ts : List α) (lo hi st : Option Int) : List α := (sliceRange (sliceBounds lo hi st ts.length).1 (sliceBounds lo hi st ts.length).2.1 (sliceBounds lo hi st ts.length).2.2).filterMap (ts[·]?)
def gSlS (x : T) (lo hi st : Option Int) (Z : Sto) : Option (T × Sto) := match asList x Z with
  | some ts => if st = some 0 ∨ Lim < (pickL ts lo hi st).length then none else some (.loc Z.length,Z ++ [.lst (pickL ts lo hi st)])
  | none => none
def eSlS (f : FE) (lo hi st : FO) : FE := fun ρ Z => (f ρ Z).bind fun x Z1 => (lo ρ Z1).bind fun l Z2 => (hi ρ Z2).bind fun h Z3 => (st ρ Z3).bind fun k Z4 => lift (gSlS x l h k Z4)
theorem Reps.pick {K : PySem.W.Frag} {ι : List Addr} {H : Hp} {vs : List V} {ts : List T} (r : Reps K ι H vs ts) : ∀ js : List Nat,Reps K ι H (js.filterMap (vs[·]?)) (js.filterMap (ts[·]?))
  | [] => .nil
  | j :: js => by
    cases e : ts[j]? with
    | none =>
      have e2 : vs[j]? = none := by rw [List.getElem?_eq_none_iff] at e ⊢; rw [r.length]; exact e
      rw [List.filterMap_cons,List.filterMap_cons,e,e2]
      exact Reps.pick r js
    | some t =>
      obtain ⟨v,e2,rv⟩ := r.get e
      rw [List.filterMap_cons,List.filterMap_cons,e,e2]
      exact .cons rv (Reps.pick r js)
section
variable {X : Cx} {e : Expr} {lo hi : Option Expr} {st : Expr} {te : TE} {tl th ts : TO} {p2 pos : Pos}
def tSlS (K : PySem.W.Frag) (te : TE) (tl th ts : TO) : TE := fun σ H Q => te σ H fun x H1 => tl σ H1 fun l H2 => th σ H2 fun h H3 => ts σ H3 fun k H4 =>
  ∃ a xs,x = .ref a ∧ SqL K H4 a xs ∧ k ≠ some 0 ∧ (pickL xs l h k).length ≤ sizeLine ∧ ∀ p,H4 p = none → Q (.ref p) (upd H4 p (.lst (pickL xs l h k)))
theorem Zdi (he : PE X e te) (hl : PO X lo tl) (hh : PO X hi th) (hs : PO X (some st) ts) : PE X (.Subscript e (.Slice lo hi (some st) p2) pos) (tSlS X.K te tl th ts) := by
  refine ⟨fun pins s σ H Q I h => ?_⟩
  refine Subscript_ (thn (he.run pins s σ H _ I h) fun v s1 ⟨x,H1,I1,r1,q1⟩ => ?_)
  refine wpAny_Slice (thn (hl.run pins s1 σ H1 _ I1 q1) fun vl s2 ⟨l,H2,I2,pl,q2⟩ => thn (hh.run pins s2 σ H2 _ I2 q2) fun vu s3 ⟨u,H3,I3,pu,q3⟩ => thn (hs.run pins s3 σ H3 _ I3 q3) fun vs s4 ⟨o,H4,I4,ps,q4⟩ => ?_)
  obtain ⟨a,xs,ex,hx,h0,hz2,q⟩ := q4
  subst ex
  cases r1
  have I5 : Inv X pins σ H4 { s4 with heap := s4.heap.push { cls := .type "slice", data := .fields #[vl, vu, vs] } } := I4.kept (t' := s4.toks) fun b ob q => Heap.get?_push_of_some _ q
  obtain ⟨its,r,ht,hz⟩ := I5.list hx
  have hlen := r.length
  show wpAny (model X.prog X.w) X.A (subscriptTail e (.Slice lo hi (some st) p2) (.ref a) (.ref s4.heap.objs.size)) (EP X pins σ Q) X.xe { s4 with heap := s4.heap.push { cls := .type "slice", data := .fields #[vl, vu, vs] } }
  refine tail_any (ops := [.ref a,.ref s4.heap.objs.size]) ht.isList.typeIs (PySem.slot_list_getitem.lookup) ?_ (by with_unfolding_all rfl)
  refine wpAny_getItem_list_slice ht.isList (Heap.IsSliceOf.new _ vl vu vs) pl pu ps h0 ?_ (by rw [List.size_toArray]; omega)
  have ep : (slicePick its.toArray l u o) = (pickL its l u o).toArray := by
    unfold slicePick pickL
    simp only [List.size_toArray,List.getElem?_toArray]
  rw [ep]
  have hp : Vals (pickL xs l u o) (pickL its l u o) := by
    unfold pickL
    rw [hlen]
    exact Z4g r _
  refine ⟨.ref _, _, I5.laid (t' := s4.toks) (o := .lst (pickL xs l u o)) (fun b ob q => Heap.get?_push_of_some _ q) (Nat.le_refl _) ?_, rfl, q _ (I5.hok.fresh (Nat.le_refl _))⟩
  exact ⟨hz2,_,0,hp,Heap.get?_push_size _ rfl⟩
end
section
variable {X : Cx} {K : PySem.W.Frag} {W : Wc} {a : Expr} {fa : FE} {pos p2 : Pos} {lo hi : Option Expr} {st : Expr} {fl fh fs : FO}
theorem f_slS (hK : X.K = K) (ha : FJ X K W a fa) (hl : PO X lo (tFO K W fl)) (hh : PO X hi (tFO K W fh)) (hs : PO X (some st) (tFO K W fs)) : FJ X K W (.Subscript a (.Slice lo hi (some st) p2) pos) (eSlS fa fl fh fs) := by
  subst hK
  refine Xj (Zdi ha hl hh hs) fun σ H Q h => ?_
  obtain ⟨ι,ρ,Z,is,p⟩ := h
  refine ⟨ι,ρ,Z,is,(Zi p).imp fun x H1 q => ?_⟩
  obtain ⟨ι1,Z1,tx,g1,s1,r1,p1⟩ := q
  refine ⟨ι1,ρ,Z1,is.gr g1 s1,(Zi (rep := oEq) p1).imp fun l H2 q2 => ?_⟩
  obtain ⟨ι2,Z2,tl,g2,s2,r2,p2⟩ := q2
  cases (show l = tl from r2)
  refine ⟨ι2,ρ,Z2,(is.gr g1 s1).gr g2 s2,(Zi (rep := oEq) p2).imp fun h H3 q3 => ?_⟩
  obtain ⟨ι3,Z3,th,g3,s3,r3,p3⟩ := q3
  cases (show h = th from r3)
  refine ⟨ι3,ρ,Z3,((is.gr g1 s1).gr g2 s2).gr g3 s3,(Zi (rep := oEq) p3).imp fun k H4 q4 => ?_⟩
  obtain ⟨ι4,Z4,tk,g4,s4,r4,p4⟩ := q4
  cases (show k = tk from r4)
  have p5 := Ve p4
  unfold gSlS at p5
  split at p5
  · rename_i us e
    split at p5
    · exact p5.elim
    · rename_i h0
      obtain ⟨b,vs,rfl,hq,r⟩ := Vn s4 (((r1.gr g2).gr g3).gr g4) e
      have hl : vs.length = us.length := r.length
      have rp : Reps X.K ι4 H4 (pickL vs l h k) (pickL us l h k) := by
        unfold pickL
        rw [hl]
        exact r.pick _
      refine ⟨b,vs,rfl,hq,fun z => h0 (.inl z),by rw [rp.length]; exact Nat.le_trans (Nat.le_of_not_lt fun z => h0 (.inr z)) Z46,fun q hq => ?_⟩
      have g5 := Gr.new (ι := ι4) (o := .lst (pickL vs l h k)) hq
      have s5 : Sim X.K (ι4 ++ [q]) (Z4 ++ [.lst (pickL us l h k)]) (upd H4 q (.lst (pickL vs l h k))) := s4.newL rp hq
      exact p5 _ _ _ g5 s5 (.loc (by rw [← s4.len]; simp))
  · exact p5.elim
end
end Fx
set_option maxHeartbeats 4000000
namespace PySem.W
open PySem PySem.Calls PyProof.Rows Builtin
section
variable {prog : Program} {w : World} {A : Around} {E : Value → Shared → Prop} {s : Shared} {h₀ : Heap} {K : Frag} {x C f : Addr} {ox : Obj} {od : Option Obj} {b tb : Value}
theorem cmpNe_X {Q : Value → Shared → Prop} (hu : A.units + 1 < cLine) (X : K.In s.heap) (I : InstAt s.heap x ox C od) (hb : Looks (model prog w) s.heap (typeOf b) tb) (hn : notFirst K C tb = true)
    (hs : findIn K (.ref C) "__ne__" = some (some (.builtin "object.__ne__"))) (he : findIn K (.ref C) "__eq__" = some (some (.ref f))) (hf : isFn K (.ref f) = true) (hm : makesIn K C = true)
    (h : wpAny (model prog w) A.in1 (call (.ref f) [.ref x, b]) (fun v s' => ∃ c, v = .bool c ∧ Q (.bool (!c)) s') E s) : wpAny (model prog w) A (richCompare .NotEq (.ref x) b) Q E s := by
  have FB := PySem.F.cmp_object
  have isi : Looks (model prog w) s.heap (isInstance (.ref x) (.type "object")) true := I.type.andThen (makes_of X hm).top
  have hu1 : A.in1.units < cLine := hu
  have body : wpAny (model prog w) A.in1 (Builtin.«object.__ne__» ⟨[.ref x, b], []⟩) (fun fin s' => ∃ c, fin = .done (.ret (.bool (!c))) ∧ Q (.bool (!c)) s') E s := by
    unfold Builtin.«object.__ne__»
    repeat (first | with_reducible refine wpAny_cRoomFor hu1 ?_ | (with_reducible refine ifBound_K X I he hf (wpAny_mono h (fun v s' hv => ?_) fun _ _ e => e); obtain ⟨c, rfl, hq⟩ := hv) | wp_step)
    exact ⟨c,rfl,hq⟩
  have one : wpAny (model prog w) A (tryCompare (.ref x) (cmpInfo .NotEq).2.1 b) (fun r s' => ∃ v, r = some v ∧ Q v s') E s := by
    have hcall : wpAny (model prog w) A (call (.builtin "object.__ne__") [.ref x, b]) (fun v s' => ∃ c, v = .bool (!c) ∧ Q (.bool (!c)) s') E s :=
      wpAny_call (codeAny_call_builtin FB.ne.plain PySem.F.cmpEntry_ne (check_slot PySem.F.cmpKind_ne PySem.F.cmpSplit_ne isi (PySem.F.cmpArgs_ne _ _) (wpAny_mono body (fun fin s' hz => by
        obtain ⟨c,rfl,hq⟩ := hz
        exact ⟨c,rfl,hq⟩) fun _ _ e => e)))
    have fin : wpAny (model prog w) A (call (.builtin "object.__ne__") ([.ref x] ++ [b]) >>= fun v => pure (some v)) (fun r s' => ∃ c, r = some (.bool (!c)) ∧ Q (.bool (!c)) s') E s :=
      wpAny_bind (wpAny_mono hcall (fun v s' hz => by obtain ⟨c, rfl, hq⟩ := hz; exact wpAny_pure ⟨c, rfl, hq⟩) fun _ _ e => e)
    unfold tryCompare
    refine wpAny_bind ?_
    have spec : wpAny (model prog w) A (callSpecialIfBound? (.ref x) (cmpInfo .NotEq).2.1 [b]) (fun r s' => ∃ c, r = some (.bool (!c)) ∧ Q (.bool (!c)) s') E s := by
      simp only [callSpecialIfBound?,bindSpecialIfBound?]
      refine wpAny_holding (wpAny_bind (wpAny_bind (wpAny_bind (I.type.here ((looks_findIn X hs).here ?_)))))
      simp only [FB.ne.bind]
      refine wpAny_bind (wpAny_askSetting (wpAny_ite ?_))
      split
      · exact wpAny_bind (wpAny_pure (wpAny_pure fin))
      · exact wpAny_tryCatch (wpAny_bind (wpAny_pure (wpAny_pure fin)))
    refine wpAny_mono spec (fun r s' hz => ?_) fun _ _ e => e
    obtain ⟨c,rfl,hq⟩ := hz
    exact wpAny_pure ⟨_,rfl,hq⟩
  have hu0 : A.units < cLine := Nat.lt_of_succ_lt hu
  unfold richCompare
  simp only [oneThing_ref]
  refine wpAny_holding (wpAny_bind (wpAny_cRoomFor hu0 ?_))
  refine wpAny_bind (I.type.here (wpAny_bind (hb.here ?_)))
  split
  · rename_i q
    have e : subIn K tb (.ref C) = some false := by
      rcases Bool.or_eq_true_iff.mp hn with e | e
      · rw [beq_iff_eq.mp e] at q; simp at q
      · exact beq_iff_eq.mp e
    refine wpAny_bind ((looks_subIn X e).here ?_)
    simp only [Bool.false_eq_true,if_false]
    refine wpAny_bind (wpAny_mono one (fun r s' z => ?_) fun _ _ e => e)
    obtain ⟨v,rfl,hq⟩ := z
    exact wpAny_pure hq
  · refine wpAny_bind (wpAny_pure ?_)
    simp only [Bool.false_eq_true,if_false]
    refine wpAny_bind (wpAny_mono one (fun r s' z => ?_) fun _ _ e => e)
    obtain ⟨v,rfl,hq⟩ := z
    exact wpAny_pure hq
end
end PySem.W
namespace Fx
open PySem PySem.Spec PyProof.Rows L2
variable [Tb]
def gOwnNe (C : String) (F : FF) (x y : T) (Z : Sto) : Option (T × Sto) := if insC x Z = some C ∧ okY C y Z = true then (match F [x,y] Z with
  | .ok (.bl b) Z' => some (.bl (!b), Z')
  | _ => none) else none
section
variable {X : Cx} {K : PySem.W.Frag} {C : String} {Ca fe : Addr} {k : Nat} {fd : FuncData} {ps : List PySem.Str} {F : FF} {ds : List Value} {dvs : List V} {f : Addr} {W : Wc}
theorem Zdj {pins : List (Addr × Obj)} {σ : L2.St} {H : Hp} {s : Shared} {Q : VK} {us : List Value} {vs : List V} {sp : Sp} (G : FnG X.prog X.w X.K X.mg X.base k f fd ps sp) (hr : Room (k + 1) X.A) (hG : X.A.guards = some []) (hb : Binds X.K fd ps ds) (hd : Vals dvs ds) (tk : Takes X W.w)
    (I : Inv X pins σ H s) (r : Vals vs us) (h : sp (vs ++ dvs) H Q (WE W.w σ)) : wpAny (model X.prog X.w) X.A.in1 (call (.ref f) us) (EP X pins σ Q) X.xe s := by
  have r2 : Vals (vs ++ dvs) (us ++ ds) := r.append hd
  have hl : (us ++ ds).length = ps.length := by rw [← r2.length]; exact G.len _ _ _ _ h
  refine wpAny_call (codeAny_mono (G.run X.A.in1 X.stack s H ⟨us, []⟩ (us ++ ds) (vs ++ dvs) Q (WE W.w σ) hr.in1 hG I.env0.in1 (hb s us I.kIn hl) r2 h) fun r s' hq => ?_)
  cases r with
  | error e => exact passAt tk σ pins H s e s' I hq
  | ok fl =>
    cases fl with
    | ret u => exact I.after hq
    | next => exact False.elim hq
    | brk => exact False.elim hq
    | cont => exact False.elim hq
theorem Z5a (hK : X.K = K) (oc : OC K C Ca fe) (M : Mk X.K Ca f) (hs : PySem.W.findIn K (.ref Ca) "__ne__" = some (some (.builtin "object.__ne__"))) (G : FnG X.prog X.w X.K X.mg X.base k fe fd ps (spF X.K 2 F)) (hr : Room (k + 1) X.A) (hG : X.A.guards = some []) (hb : Binds X.K fd ps []) : OpF X K (compareOp .NotEq) (gOwnNe C F) := by
  subst hK
  intro pins s σ H x y v u Q I rx ry h
  obtain ⟨ι,Z,tx,ty,is,r1,r2,p⟩ := h
  unfold gOwnNe at p
  split at p
  · rename_i hc
    obtain ⟨a,dx,vs,i,rfl,rfl,ha⟩ := insC_at oc.cf is r1 hc.1
    obtain rfl : v = Value.ref a := rx
    obtain ⟨mA,J,_⟩ := ins_get I.hok ha
    obtain ⟨od,J,_⟩ := J.look
    have hty : ∃ tb : Value,PySem.W.Looks (model X.prog X.w) s.heap (typeOf u) tb ∧ PySem.W.notFirst X.K Ca tb = true := by
      have h2 := hc.2
      unfold okY at h2
      split at h2
      · rename_i n en
        obtain ⟨P,KX,hP,_⟩ := kit_of I ry (Z4b is r2 en)
        exact ⟨_,KX.ty _ _ I.kIn hP,List.all_eq_true.mp oc.nf n (of_decide_eq_true h2)⟩
      · obtain ⟨b,dy,ws,j,rfl,rfl,hb2⟩ := insC_at oc.cf is r2 (of_decide_eq_true h2)
        obtain rfl : u = Value.ref b := ry
        obtain ⟨mB, J', _⟩ := ins_get I.hok hb2
        obtain ⟨od', J', _⟩ := J'.look
        exact ⟨_, J'.type, by simp [PySem.W.notFirst]⟩
    obtain ⟨tb,hL,hN⟩ := hty
    show wpAny (model X.prog X.w) X.A (richCompare .NotEq (.ref a) u) (EP X pins σ Q) X.xe s
    refine PySem.W.cmpNe_X (by have := hr.units; omega) I.kIn J hL hN hs oc.eq oc.fn M.makes ?_
    have tk : Takes X (Wt (fun _ _ _ _ => False)).w := fun _ _ ⟨_,_,_,_,_,_,_,_,_,_,_,_,_,_,_,_,w⟩ => w.elim
    refine wpAny_mono (Zdj (W := Wt fun _ _ _ _ => False) (us := [.ref a, u]) (vs := [.ref a, y]) (Q := fun z H' => ∃ b, z = .bl b ∧ Q (.bl (!b)) H') G hr hG hb .nil tk I (.cons rfl (.cons ry .nil)) ?_) (fun z s' hz => ?_) fun _ _ e => e
    · refine ⟨rfl,ι,Z,[.loc i,ty],is,.cons r1 (.cons r2 .nil),?_⟩
      cases e : F [.loc i,ty] Z with
      | ok t Z' =>
        rw [e] at p
        cases t with
        | bl b =>
          intro ι2 H2 z g2 s2 r3
          cases r3
          exact ⟨b,rfl,p ι2 H2 (.bl (!b)) g2 s2 (.bl _)⟩
        | _ => exact p.elim
      | exc _ _ => rw [e] at p; exact p.elim
      | stuck => rw [e] at p; exact p.elim
    · obtain ⟨z', H', I', rz, b, rfl, q⟩ := hz
      cases rz
      exact ⟨b, rfl, .bl (!b), H', I', rfl, q⟩
  · exact p.elim
end
end Fx
set_option maxHeartbeats 4000000
namespace Fx
open PySem PySem.Spec PyProof.Rows L2 SX Ap
variable [Tb]
def neB (x : PySem.Str) (K : PySem.W.Frag) : Bool := He.eqO (PySem.W.findIn K (.ref (He.ga K x)) "__ne__") (some (some (.builtin "object.__ne__")))
theorem Zdk {x : PySem.Str} {K : PySem.W.Frag} (h : neB x K = true) : PySem.W.findIn K (.ref (He.ga K x)) "__ne__" = some (some (.builtin "object.__ne__")) := He.eqO_ok h
def gReverse : T → List T → Sto → Option (T × Sto)
  | .loc n,[],Z => match getL Z n with
    | some ts => some (.non,Z.set n (.lst ts.reverse))
    | none => none
  | _,_,_ => none
section
variable {X : Cx} {K : PySem.W.Frag}
theorem Z8d : MtR X "list.reverse" (rFM K gReverse) := Z57 (MtM.r mt_reverse) fun x xs H Q h => by
  obtain ⟨ι,Z,tx,ts,s,rx,rs,p⟩ := h
  unfold gReverse at p
  split at p
  · cases rs
    split at p
    · rename_i us e
      obtain ⟨a,vs,rfl,ha,h1,r⟩ := Uh s (Ws e) rx
      refine ⟨a,vs,rfl,rfl,h1,?_⟩
      have g := Gr.mut (ι := ι) (o := .lst vs.reverse) h1 trivial (List.mem_of_getElem? ha)
      exact p ι _ _ g (s.set ha ⟨_,upd_same,(r.gr g).reverse⟩) .non
    · exact p.elim
  · exact p.elim
end
def rRepW (K : PySem.W.Frag) : R2 := fun x y H Q => ∃ (l : Addr) (k : Nat) (xs : List V),x = .ref l ∧ y = .int (k : Int) ∧ SqT K H l xs ∧ xs ≠ [] ∧ 2 ≤ k ∧ k ≤ 2000 ∧ xs.length ≤ 100 ∧ ∀ p,H p = none → Q (.ref p) (upd H p (.tup (List.replicate k xs).flatten))
section
variable {X : Cx} {K : PySem.W.Frag}
theorem Zc8 : OpR X (binaryOp .Mult) (rRepW X.K) := by
  intro pins s σ H x y v u Q I rx ry h
  obtain ⟨l,k,xs,rfl,rfl,sq,ne,k2,kM,xM,q⟩ := h
  cases rx
  obtain ⟨tk,rfl⟩ := ry
  obtain ⟨its,r,⟨⟨cls,dd,data,sl⟩,ho,hc,n,hd⟩,_⟩ := I.tuple sq
  dsimp only at hc hd
  subst hd
  subst hc
  have lens : its.length = xs.length := r.length.symm
  have full : its.toArray.isEmpty = false := by
    cases its with
    | cons a b => rfl
    | nil => exact absurd (List.eq_nil_of_length_eq_zero lens.symm) ne
  have asz : its.toArray.size = xs.length := by simpa using lens
  have few : xs.length * k ≤ 200000 := Nat.le_trans (Nat.mul_le_mul xM kM) (by decide)
  have few' : ((its.toArray.size : Nat) : Int) * (k : Int) ≤ 200000 := by
    have e : ((its.toArray.size : Nat) : Int) * (k : Int) = ((xs.length * k : Nat) : Int) := by rw [asz,Int.natCast_mul]
    rw [e]; omega
  have fl : (List.replicate k its).flatten.length ≤ sizeLine := by
    rw [lm_len_rep_flat,lens,sizeLine_eq,Nat.mul_comm]
    omega
  have b0 : (decide ((k : Int) < -(2 ^ 63)) || decide ((k : Int) ≥ 2 ^ 63)) = false := by
    rw [Bool.or_eq_false_iff]
    exact ⟨decide_eq_false (by omega),decide_eq_false (by omega)⟩
  have b1 : (its.toArray.isEmpty || (k : Int) == 1) = false := by
    rw [Bool.or_eq_false_iff]
    exact ⟨full,beq_eq_false_iff_ne.mpr (by omega)⟩
  have b2 : (decide ((k : Int) ≤ 0) || its.toArray.isEmpty) = false := by
    rw [Bool.or_eq_false_iff]
    exact ⟨decide_eq_false (by omega),full⟩
  have b4 : Builtin.Tuple.tupleTooMany (((its.toArray.size : Nat) : Int) * (k : Int)) = false := by
    unfold Builtin.Tuple.tupleTooMany
    rw [sizeLine_eq]; exact decide_eq_false (by omega)
  have tn : ((k : Int)).toNat = k := Int.toNat_natCast k
  have mul := tuple_mulW l its.toArray n dd sl (k : Int) tk b0 b1 b2 (by omega) b4 (by rw [tn,size_rep,List.size_toArray]; exact fl)
  rw [tn,size_rep] at mul
  have isT : s.TypeIs (.ref l) "tuple" := ⟨_, ho, rfl⟩
  refine wpAny_binaryOp_repeat_ref (U := "int") (T := "tuple") (by decide) ⟨_, ho, rfl⟩ (fun s' => typeIs_int s' _ tk) noFill_tuple_mul F.fills_int_mul F.slot_int_rmul repeat_tuple F.slot_int_index.lookup ?_
  refine call_meets F.slot_int_rmul (typeIs_int s _ tk) F.entry_int_rmul (F.args_int_rmul_2 _ _) (int_rmul_tuple _ tk l its.toArray n dd sl) ⟨ho,rfl,⟨_,ho,rfl⟩,?_⟩
  refine call_meets F.slot_tuple_mul ⟨_,ho,rfl⟩ F.entry_tuple_mul (F.args_tuple_mul_2 _ _) mul ⟨ho,?_⟩
  refine ⟨.ref s.heap.objs.size, _, I.laid (o := .tup (List.replicate k xs).flatten) (t' := s.toks) (fun b ob z => Heap.get?_push_of_some _ z) (Nat.le_refl _) ?_, rfl, q _ (I.hok.fresh (Nat.le_refl _))⟩
  refine ⟨?_,_,r.rep k,IsTup.new _ _⟩
  rw [lm_len_rep_flat,sizeLine_eq,Nat.mul_comm]
  omega
def gMulT : T → T → Sto → Option (T × Sto)
  | .tup ts,.int k,Z => if ts ≠ [] ∧ 2 ≤ k ∧ k ≤ 2000 ∧ ts.length ≤ 100 then some (.tup (List.replicate k.toNat ts).flatten,Z) else none
  | _,_,_ => none
theorem Z2s (hK : X.K = K) : OpF X K (binaryOp .Mult) gMulT := by
  subst hK
  refine Xy Zc8 fun x y H Q h => ?_
  obtain ⟨ι,Z,tx,ty,s,rx,ry,p⟩ := h
  unfold gMulT at p
  split at p
  · split at p
    · rename_i ts k hz
      obtain ⟨h0,h1,h2,h3⟩ := hz
      cases rx with
      | tup hs r =>
        cases ry
        obtain ⟨n,rfl⟩ : ∃ n : Nat,k = (n : Int) := ⟨k.toNat,by omega⟩
        rw [Int.toNat_natCast] at p
        rename_i a vs
        refine ⟨a,n,vs,rfl,rfl,hs,fun e => h0 ?_,by omega,by omega,by rw [r.length]; exact h3,fun d nd => ?_⟩
        · subst e; cases r; rfl
        · have g := Gr.new0 (ι := ι) (o := .tup (List.replicate n vs).flatten) nd
          exact p ι _ _ g (s.same (Ud nd)) (.tup (SqT.of upd_same) ((r.replicate n).gr g))
    · exact p.elim
  · exact p.elim
end
section
variable {X : Cx} {K : PySem.W.Frag} {C : Addr} {i : Nat} {n : PySem.Str} {pos : Pos}
theorem Zdl {a : Addr} {oe : Obj} {cls : Value} {d : Option Addr} {pn : List (Addr × Obj)} {y : Ex} {nm xb : PySem.Str} {vp bp fp : Pos} {bb : Bool} {tn : String} (hK : X.K = K) (hx : y.cls = nm) (hfs : y.fs.isEmpty = false) (hns : PySem.W.nsIn X.K mainGlobals nm = some (some (.ref C))) (xc : ExcC X.K C)
    (hk : PySem.W.kitOne X.K (.ref C) (.type tn) = some bb) (hz : Zc cls d oe) (hf : ∃ vs, oe.data = .fields vs) (hg : Gl X "isinstance") (hm : X.mg "isinstance" = none) (he : PE (X.suite a ((a, oe) :: pn)) (.Name n vp) (tVar i)) (hgb : Gl X xb) (hmb : X.mg xb = none) (hbb : bootBuiltins xb = some (.type tn))
    (hnn : xb ≠ "__name__" := by decide) (hdb : (xb == ("__debug__" : PySem.Str)) = false := by decide)
    (s1 : starEach [.Name n vp,.Name xb bp] X.env = (false,eval (.Name n vp) X.env) :: starEach [.Name xb bp] X.env := by rfl) (s2 : starEach [.Name xb bp] X.env = (false,eval (.Name xb bp) X.env) :: starEach [] X.env := by rfl) :
    FJ (X.suite a ((a, oe) :: pn)) K (Wx K i a cls d y) (.Call (.Name "isinstance" fp) [.Name n vp, .Name xb bp] [] pos) (eC (.bl bb)) := by
  subst hK
  have nb : PE (X.suite a ((a,oe) :: pn)) (.Name xb bp) (fun _ H Q => Q (.ty tn) H) := pe_bltn (X := X.suite a ((a,oe) :: pn)) (v := .ty tn) hgb hmb hbb rfl (hn := hnn) (hd := hdb)
  refine Xj (pe_callB (X := X.suite a ((a,oe) :: pn)) (Z63 (X := X) xc hz hf) hg hm (by decide +kernel) (pa_cons he (pa_cons nb pa_nil s2) s1)) fun σ H Q h => ?_
  obtain ⟨ι,ρ,Z,is,p⟩ := h
  obtain ⟨h1,⟨c,hc,hn⟩,h2⟩ := is.jj
  rw [hx,hns] at hn
  cases hn
  refine ⟨_,h1,?_⟩
  split at h2
  · rename_i e0; rw [e0] at hfs; cases hfs
  · obtain ⟨dd,vs,ed,hd,r⟩ := h2
    exact ⟨.ty tn,.type tn,bb,dd,vs,rfl,hc,ed,hd,fun u hu => hu,hk,p ι H _ Gr.refl is.sim (.bl bb)⟩
end
def gIsiI (C : String) : List T → Sto → Option (T × Sto)
  | [t, .tup [.ty "list", .ty "tuple"]], Z => if insC t Z = some C then some (.bl false, Z) else gIsi [t, .tup [.ty "list", .ty "tuple"]] Z
  | xs,Z => gIsi xs Z
def kitLT (x : PySem.Str) (K : PySem.W.Frag) : Bool := decide (PySem.W.kitAny K (.ref (He.ga K x)) [.type "list", .type "tuple"] = some false)
theorem Za5 {x : PySem.Str} {K : PySem.W.Frag} (h : kitLT x K = true) : PySem.W.kitAny K (.ref (He.ga K x)) [.type "list", .type "tuple"] = some false := of_decide_eq_true h
section
variable {X : Cx} {K : PySem.W.Frag} {C : String} {Ca fe : Addr}
theorem Zdm (hK : X.K = K) (oc : OC K C Ca fe) (hl : PySem.W.kitAny K (.ref Ca) [.type "list", .type "tuple"] = some false) : CallR X (.builtin "isinstance") (rFC K (gIsiI C)) := by
  subst hK
  refine Vf (Z0j (Z3e rfl) Z4c) fun xs H Q h => ?_
  obtain ⟨ι,Z,ts,s,r,p⟩ := h
  unfold gIsiI at p
  split at p
  · split at p
    · rename_i hc
      obtain ⟨v,w,rfl,r1,r2⟩ := r.two
      obtain ⟨b,vs,rfl,hq,rs⟩ := r2.tupE
      obtain ⟨a,dx,ws,i,rfl,rfl,ha⟩ := insC_at oc.cf s r1 hc
      obtain ⟨x1,x2,rfl,q1,q2⟩ := rs.two
      cases q1
      cases q2
      exact .inr ⟨_, b, _, _, [.type "list", .type "tuple"], false, rfl, hq, .cons (.ty _) (.cons (.ty _) .nil), .base (.ins ha oc.ins.cl oc.ins.ha oc.ins.hn oc.ins.htk oc.ins.hm), hl, Y7 p s (.bl _)⟩
    · exact .inl ⟨ι,Z,_,s,r,p⟩
  · exact .inl ⟨ι,Z,_,s,r,p⟩
end
end Fx
set_option maxHeartbeats 4000000
namespace Ap
open PySem PySem.Spec PyProof.Rows L2 SX Fx
def topS (i : Nat) : Stmt := PySem.Challenge.pw_anchorpages_k35_values_of_graphs.main.body.getD i (.Pass ⟨0,0,0,0⟩)
def clsS (s : Stmt) (j : Nat) : Stmt := match s with
  | .ClassDef _ _ _ b _ _ _ _ _ _ _ => b.getD j (.Pass ⟨0,0,0,0⟩)
  | _ => .Pass ⟨0,0,0,0⟩
abbrev Yq : Stmt := topS 22
abbrev Qc : List Str := ["_law_ask", "_law_told", "e"]
abbrev Z1y : List Str := ["_law_ask"]
theorem Yu : FnScope Qc Z1y (defScope Yq) := ⟨rfl,rfl,rfl,by decide +kernel,rfl,by decide +kernel,by decide +kernel⟩
def Z15 : DefY := { at_ := (gY "_law_said"), name := "_law_said", qual := "_law_said", params := defArgs Yq, body := defBody Yq, scope := defScope Yq, dfl := [], kwd := [] }
abbrev V1 : Stmt := topS 16
abbrev Z5b : List Str := ["_law_cell"]
abbrev N7 : List Str := ["_law_cell"]
theorem Z4j : FnScope Z5b N7 (defScope V1) := ⟨rfl,rfl,rfl,by decide +kernel,rfl,by decide +kernel,by decide +kernel⟩
def Z16 : DefY := { at_ := (gY "_law_well"), name := "_law_well", qual := "_law_well", params := defArgs V1, body := defBody V1, scope := defScope V1, dfl := [], kwd := [] }
abbrev Xd : Stmt := clsS (topS 2) 0
abbrev Z2p : List Str := ["self", "index"]
abbrev Vx : List Str := ["self", "index"]
theorem Z1z : FnScope Z2p Vx (defScope Xd) := ⟨rfl,rfl,rfl,by decide +kernel,rfl,by decide +kernel,by decide +kernel⟩
def Qz : DefY := { at_ := (mY "NoGraph" "__init__"), name := "__init__", qual := "NoGraph.__init__", params := defArgs Xd, body := defBody Xd, scope := defScope Xd, dfl := [.non], kwd := [] }
abbrev Ui : Stmt := topS 10
abbrev Z8e : List Str := ["value", "least", "most"]
abbrev Z20 : List Str := ["value", "least", "most"]
theorem Z78 : FnScope Z8e Z20 (defScope Ui) := ⟨rfl,rfl,rfl,by decide +kernel,rfl,by decide +kernel,by decide +kernel⟩
def Z2t : DefY := { at_ := (gY "is_from"), name := "is_from", qual := "is_from", params := defArgs Ui, body := defBody Ui, scope := defScope Ui, dfl := [], kwd := [] }
abbrev W4 : Stmt := topS 5
abbrev Z21 : List Str := ["text", "signs", "sign"]
abbrev N8 : List Str := ["text", "signs"]
theorem J5 : FnScope Z21 N8 (defScope W4) := ⟨rfl,rfl,rfl,by decide +kernel,rfl,by decide +kernel,by decide +kernel⟩
def Z17 : DefY := { at_ := (gY "are_signs"), name := "are_signs", qual := "are_signs", params := defArgs W4, body := defBody W4, scope := defScope W4, dfl := [], kwd := [] }
abbrev Qe : Stmt := topS 6
abbrev Za6 : List Str := ["thing"]
abbrev Z3j : List Str := ["thing"]
theorem Z8f : FnScope Za6 Z3j (defScope Qe) := ⟨rfl,rfl,rfl,by decide +kernel,rfl,by decide +kernel,by decide +kernel⟩
def Z4k : DefY := { at_ := (gY "is_tag"), name := "is_tag", qual := "is_tag", params := defArgs Qe, body := defBody Qe, scope := defScope Qe, dfl := [], kwd := [] }
abbrev V8 : Stmt := topS 11
abbrev Z2u : List Str := ["value", "many", "one"]
abbrev Z0m : List Str := ["value", "many"]
theorem Nb : FnScope Z2u Z0m (defScope V8) := ⟨rfl,rfl,rfl,by decide +kernel,rfl,by decide +kernel,by decide +kernel⟩
def Z22 : DefY := { at_ := (gY "is_entry"), name := "is_entry", qual := "is_entry", params := defArgs V8, body := defBody V8, scope := defScope V8, dfl := [], kwd := [] }
abbrev Vh : Stmt := topS 12
abbrev Z23 : List Str := ["value", "many", "kind", "tag", "content", "one"]
abbrev Z24 : List Str := ["value", "many"]
theorem V9 : FnScope Z23 Z24 (defScope Vh) := ⟨rfl,rfl,rfl,by decide +kernel,rfl,by decide +kernel,by decide +kernel⟩
def Z2v : DefY := { at_ := (gY "is_node"), name := "is_node", qual := "is_node", params := defArgs Vh, body := defBody Vh, scope := defScope Vh, dfl := [], kwd := [] }
abbrev W6 : Stmt := clsS (topS 13) 0
abbrev Z4l : List Str := ["self", "nodes", "top", "index", "node"]
abbrev Va : List Str := ["self", "nodes", "top"]
theorem Qg : FnScope Z4l Va (defScope W6) := ⟨rfl,rfl,rfl,by decide +kernel,rfl,by decide +kernel,by decide +kernel⟩
def Z03 : DefY := { at_ := (mY "Graph" "__init__"), name := "__init__", qual := "Graph.__init__", params := defArgs W6, body := defBody W6, scope := defScope W6, dfl := [(.int 0)], kwd := [] }
abbrev V2 : Stmt := topS 17
abbrev Z5c : List Str := ["_law_well_here", "_law_bound", "_law_digit", "_law_mixed"]
abbrev Nf : List Str := ["_law_well_here", "_law_bound"]
theorem Uv : FnScope Z5c Nf (defScope V2) := ⟨rfl,rfl,rfl,by decide +kernel,rfl,by decide +kernel,by decide +kernel⟩
def Z18 : DefY := { at_ := (gY "_law_draw"), name := "_law_draw", qual := "_law_draw", params := defArgs V2, body := defBody V2, scope := defScope V2, dfl := [], kwd := [] }
abbrev Vp : Stmt := topS 18
abbrev Z79 : List Str := ["_law_well_here", "_law_some"]
abbrev Z0n : List Str := ["_law_well_here", "_law_some"]
theorem Z5d : FnScope Z79 Z0n (defScope Vp) := ⟨rfl,rfl,rfl,by decide +kernel,rfl,by decide +kernel,by decide +kernel⟩
def Z25 : DefY := { at_ := (gY "_law_one"), name := "_law_one", qual := "_law_one", params := defArgs Vp, body := defBody Vp, scope := defScope Vp, dfl := [], kwd := [] }
abbrev Xn : Stmt := topS 19
abbrev Nh : List Str := ["_law_well_here", "_law_size", "_law_way", "_law_some", "_law_turn"]
abbrev Nk : List Str := ["_law_well_here", "_law_size"]
theorem Vb : FnScope Nh Nk (defScope Xn) := ⟨rfl,rfl,rfl,by decide +kernel,rfl,by decide +kernel,by decide +kernel⟩
def Z19 : DefY := { at_ := (gY "_law_node"), name := "_law_node", qual := "_law_node", params := defArgs Xn, body := defBody Xn, scope := defScope Xn, dfl := [], kwd := [] }
abbrev W7 : Stmt := topS 20
abbrev Z4m : List Str := ["_law_well_here", "_law_size", "_law_found", "_law_k", "_law_again"]
abbrev J8 : List Str := ["_law_well_here", "_law_size"]
theorem Ue : FnScope Z4m J8 (defScope W7) := ⟨rfl,rfl,rfl,by decide +kernel,rfl,by decide +kernel,by decide +kernel⟩
def Z04 : DefY := { at_ := (gY "_law_nodes"), name := "_law_nodes", qual := "_law_nodes", params := defArgs W7, body := defBody W7, scope := defScope W7, dfl := [], kwd := [] }
abbrev Vq : Stmt := clsS (topS 13) 1
abbrev Z7a : List Str := ["self", "other"]
abbrev Z0o : List Str := ["self", "other"]
theorem Z5e : FnScope Z7a Z0o (defScope Vq) := ⟨rfl,rfl,rfl,by decide +kernel,rfl,by decide +kernel,by decide +kernel⟩
def Z26 : DefY := { at_ := (mY "Graph" "__eq__"), name := "__eq__", qual := "Graph.__eq__", params := defArgs Vq, body := defBody Vq, scope := defScope Vq, dfl := [], kwd := [] }
abbrev Zu : Stmt := topS 24
abbrev Q5 : List Str := ["_law_well_here", "_law_some", "_law_top", "_law_one_here", "_law_two", "_law_handed", "_law_kept", "_law_bent", "_law_at", "_law_size"]
abbrev Vr : List Str := ["_law_well_here", "_law_some", "_law_top"]
theorem Yi : FnScope Q5 Vr (defScope Zu) := ⟨rfl,rfl,rfl,by decide +kernel,rfl,by decide +kernel,by decide +kernel⟩
def Uw : DefY := { at_ := (gY "_law_good_right"), name := "_law_good_right", qual := "_law_good_right", params := defArgs Zu, body := defBody Zu, scope := defScope Zu, dfl := [], kwd := [] }
abbrev Zx : Stmt := topS 23
abbrev Xi : List Str := ["_law_well_here", "_law_size", "_law_great", "_law_row", "_law_pairs", "_law_odd", "_law_some", "_law_tag", "_law_one_here"]
abbrev Uj : List Str := ["_law_well_here", "_law_size", "_law_great"]
theorem Zh : FnScope Xi Uj (defScope Zx) := ⟨rfl,rfl,rfl,by decide +kernel,rfl,by decide +kernel,by decide +kernel⟩
def Qt : DefY := { at_ := (gY "_law_odd_node"), name := "_law_odd_node", qual := "_law_odd_node", params := defArgs Zx, body := defBody Zx, scope := defScope Zx, dfl := [], kwd := [] }
abbrev Zj : Stmt := topS 25
abbrev Yx : List Str := ["_law_well_here", "_law_some", "_law_top", "_law_size", "_law_places", "_law_k", "_law_at", "_law_bent", "_law_odd", "_law_odd_top", "_law_turn"]
abbrev V3 : List Str := ["_law_well_here", "_law_some", "_law_top"]
theorem Zt : FnScope Yx V3 (defScope Zj) := ⟨rfl,rfl,rfl,by decide +kernel,rfl,by decide +kernel,by decide +kernel⟩
def Ub : DefY := { at_ := (gY "_law_spoilt_right"), name := "_law_spoilt_right", qual := "_law_spoilt_right", params := defArgs Zj, body := defBody Zj, scope := defScope Zj, dfl := [], kwd := [] }
abbrev Nm : Stmt := topS 26
abbrev Z8g : List Str := ["_law_script", "_law_cell", "_law_well_here", "_law_turn", "_law_size", "_law_some", "_law_top", "_law_odd", "_law_wide"]
abbrev Zc9 : List Str := ["_law_script"]
theorem Z1a : FnScope Z8g Zc9 (defScope Nm) := ⟨rfl,rfl,rfl,by decide +kernel,rfl,by decide +kernel,by decide +kernel⟩
def Zb5 : DefY := { at_ := (gY "law"), name := "law", qual := "law", params := defArgs Nm, body := defBody Nm, scope := defScope Nm, dfl := [], kwd := [] }
def mks : List PySem.Str := ["_law_good_right", "_law_spoilt_right", "law"]
theorem Vi : ("_law_good_right" : PySem.Str) ∈ mks := by simp [mks]
theorem Zv : ("_law_spoilt_right" : PySem.Str) ∈ mks := by simp [mks]
theorem Qu : ("law" : PySem.Str) ∈ mks := by simp [mks]
def fns : List DefY := [Z15,Z16,Qz,Z2t,Z17,Z4k,Z22,Z2v,Z03,Z18,Z25,Z19,Z04,Z26,Uw,Qt,Ub,Zb5]
def tabs : List He.Tab := []
def exs : Exs := [
  mkB "_law_good_right",
  mkB "_law_spoilt_right",
  mkB "law",
  fun K => (He.Fa.str "TAG_SIGNS" (S [97,98,99,100,101,102,103,104,105,106,107,108,109,110,111,112,113,114,115,116,117,118,119,120,121,122,65,66,67,68,69,70,71,72,73,74,75,76,77,78,79,80,81,82,83,84,85,86,87,88,89,90,48,49,50,51,52,53,54,55,56,57,45,35,59,47,63,58,64,38,61,43,36,95,46,126,42,39,40,41])).ok K,
  fun K => (He.Fa.int "MOST_NUMBERS" (1000)).ok K,
  fun K => (He.Fa.int "MOST_NODES" (200)).ok K,
  fun K => (He.Fa.glo "Graph").ok K,
  fun K => (He.Fa.cls "Graph").ok K,
  fun K => (He.Fa.mkr "Graph").ok K,
  fun K => (He.Fa.noat "Graph" "nodes").ok K,
  fun K => (He.Fa.noat "Graph" "top").ok K,
  kitLT "Graph",
  neB "Graph",
  eqB5 "Graph",
  insB "Graph",
  fun K => (He.Fa.glo "NoGraph").ok K,
  oexB "NoGraph",
  exCB "NoGraph",
  fun K => (He.Fa.noat "NoGraph" "index").ok K,
  initB "NoGraph",
  fun K => (He.Fa.exm "NoGraph" "NoGraph" true).ok K,
  kitB2 "NoGraph" (fun K => .ref (He.ga K "PageError")),
  kitB2 "NoGraph" (fun _ => .type "ValueError"),
  baseB "PageError",
  noDigB,
  fun K => (He.Fa.glo "PageError").ok K,
  fun K => (He.Fa.glo "are_signs").ok K,
  fun K => (He.Fa.glo "is_from").ok K,
  fun K => (He.Fa.glo "is_tag").ok K,
  fun K => (He.Fa.glo "is_entry").ok K,
  fun K => (He.Fa.glo "is_node").ok K,
  fun K => (He.Fa.glo "_law_draw").ok K,
  fun K => (He.Fa.glo "_law_one").ok K,
  fun K => (He.Fa.glo "_law_node").ok K,
  fun K => (He.Fa.glo "_law_said").ok K,
  fun K => (He.Fa.glo "_law_odd_node").ok K,
  fun K => (He.Fa.glo "_law_well").ok K,
  fun K => (He.Fa.glo "_law_nodes").ok K,
  fun K => (He.Fa.glo "_law_spoilt_right").ok K,
  fun K => (He.Fa.glo "_law_good_right").ok K,
  fun K => (He.Fa.glo "law").ok K,
  fun K => (He.Fa.free "isinstance").ok K,
  fun K => (He.Fa.free "ValueError").ok K,
  fun K => (He.Fa.free "int").ok K,
  fun K => (He.Fa.free "bool").ok K,
  fun K => (He.Fa.free "all").ok K,
  fun K => (He.Fa.free "str").ok K,
  fun K => (He.Fa.free "len").ok K,
  fun K => (He.Fa.free "tuple").ok K,
  fun K => (He.Fa.free "list").ok K,
  fun K => (He.Fa.free "enumerate").ok K,
  fun K => (He.Fa.free "range").ok K,
  fun K => (He.Fa.free "sorted").ok K,
  fun K => decide ((mks.map fun m => tY m K).Nodup)]
abbrev GT [Tb] (P : Program) (w : World) (K : PySem.W.Frag) (mg : PySem.Str → Option Value) (base : Heap) (lv : Nat) (a : PySem.W.Frag → PySem.Addr) (p : List PySem.Str) (n : Nat) (F : FF) := FnG P w K mg base lv (a K) (fdOf K (a K)) p (spF K n F)
theorem tk {P : Program} {w : World} {K : PySem.W.Frag} {mg : PySem.Str → Option Value} {base : Heap} {n : List PySem.Str} {q : PySem.Str} {sc : Scope} {a : PySem.Addr} {cdv : Value} {A : Around} {outer : List PySem.Env} {s : Shared} {H : Hp} {E : XK} : Takes (cxOf (L2.CX P w) P w K mg base n q sc a cdv A outer s H E) (fun cls d _ H => E cls d H) := takes_of rfl rfl rfl rfl
end Ap
set_option maxHeartbeats 4000000
namespace Ap
open PySem PySem.W PySem.Calls PyProof.Rows
def nm0 : List PySem.Str := [PySem.Str.ofString "PageError", PySem.Str.ofString "NoGraph", PySem.Str.ofString "TAG_SIGNS", PySem.Str.ofString "are_signs", PySem.Str.ofString "is_tag", PySem.Str.ofString "MOST_NODES", PySem.Str.ofString "MOST_NUMBERS", PySem.Str.ofString "is_from", PySem.Str.ofString "is_entry", PySem.Str.ofString "is_node", PySem.Str.ofString "Graph", PySem.Str.ofString "_law_cell_at", PySem.Str.ofString "_law_well", PySem.Str.ofString "_law_draw", PySem.Str.ofString "_law_one", PySem.Str.ofString "_law_node", PySem.Str.ofString "_law_nodes", PySem.Str.ofString "_law_within", PySem.Str.ofString "_law_said", PySem.Str.ofString "_law_odd_node"]
def nms : List PySem.Str := nm0
abbrev R5 : OpenRow := OpenLaw.row PySem.Challenge.rw_anchorpages_k35_values_of_graphs
def ads : List PySem.Addr := [3,1399,1398,1397,1396,1395,1394,1393,1392,1391,1390,1389,1388,1387,1386,1385,1384,1383,1382,1381,1380,1379,1378,1377,1376,1375,1374,1373,1372,1371,1370,1369,1368,1367,1366,1365,1364,1363,1362,1361,1360,1359,1358,1357,1356,1355,1354,1353,1352,1351,1350,1349,1348,1347,1346,1345,1344,1343,1342,1341,1340,1339,1338,1337,1336,1335,1334,1333,1332,1331,1330,1329,1328,1327,1326,1325,1324,1323,1322,1321,1320,1319,1318,1317,1316,1315,1314,1313,1312,1311,1310,1309,1308,1307,1306,1305,1304,1303,1302,1301,1300,1299,1298,1297,1296,1295,1294,1293,1292,1291,1290,1289,1288,1287,1286,1285,1284,1283,1282,1281,1280,1279,1278,1277,1276,1275,1274,1273,1272,1271,1270,1269,1268,1267,1266,1265,1264,1263,1262,1261,1260,1259,1258,1257,1256,1255,1254,1253,1252,1251,1250,1249,1248,1247,1246,1245,1244,1243,1242,1241,1240,1239,1238,1237,1236,1235,1234,1233,1232,1231,1230,1229,1228,1227,1226,1225,1224,1223,1222,1221,1220,1219,1218,1217,1216,1215,1214,1213,1212,1211,1210,1209,1208,1207,1206,1205,1204,1203,1202,1201,1200,1199,1198,1197,1196,1195,1194,1193,1192,1191,1190,1189,1188,1187,1186,1185,1184,1183,1182,1181,1180,1179,1178,1177,1176,1175,1174,1173,1172,1171,1170,1169,1168,1167,1166,1165,1164,1163,1162,1161,1160,1159,1158,1157,1156,1155,1154,1153,1152,1151,1150,1149,1148,1147,1146,1145,1144,1143,1142,1141,1140,1139,1138,1137,1136,1135,1134,1133,1132,1131,1130,1129,1128,1127,1126,1125,1124,1123,1122,1121,1120,1119,1118,1117,1116,1115,1114,1113,1112,1111,1110,1109,1108,1107,1106,1105,1104,1103,1102,1101,1100,1099,1098,1097,1096,1095,1094,1093,1092,1091,1090,1089,1088,1087,1086,1085,1084,1083,1082,1081,1080,1079,1078,1077,1076,1075,1074,1073,1072,1071,1070,1069,1068,1067,1066,1065,1064,1063,1062,1061,1060,1059,1058,1057,1056,1055,1054,1053,1052,1051,1050,1049,1048,1047,1046,1045,1044,1043,1042,1041,1040,1039,1038,1037,1036,1035,1034,1033,1032,1031,1030,1029,1028,1027,1026,1025,1024,1023,1022,1021,1020,1019,1018,1017,1016,1015,1014,1013,1012,1011,1010,1009,1008,1007,1006,1005,1004,1003,1002,1001,1000,999,998,997,996,995,994,993,992,991,990,989,988,987,986,985,984,983,982,981,980,979,978,977,976,975,974,973,972,971,970,969,968,967,966,965,964,963,962,961,960,959,958,957,956,955,954,953,952,951,950,949,948,947,946,945,944,943,942,941,940,939,938,937,936,935,934,933,932,931,930,929,928,927,926,925,924,923,922,921,920,919,918,917,916,915,914,913,912,911,910,909,908,907,906,905,904,903,902,901,900,899,898,897,896,895,894,893,892,891,890,889,888,887,886,885,884,883,882,881,880,879,878,877,876,875,874,873,872,871,870,869,868,867,866,865,864,863,862,861,860,859,858,857,856,855,854,853,852,851,850,849,848,847,846,845,844,843,842,841,840,839,838,837,836,835,834,833,832,831,830,829,828,827,826,825,824,823,822,821,820,819,818,817,816,815,814,813,812,811,810,809,808,807,806,805,804,803,802,801,800,799,798,797,796,795,794,793,792,791,790,789,788,787,786,785,784,783,782,781,780,779,778,777,776,775,774,773,772,771,770,769,768,767,766,765,764,763,762,761,760,759,758,757,756,755,754,753,752,751,750,749,748,747,746,745,744,743,742,741,740,739,738,737,736,735,734,733,732,731,730,729,728,727,726,725,724,723,722,721,720,719,718,717,716,715,714,713,712,711,710,709,708,707,706,705,704,703,702,701,700,699,698,697,696,695,694,693,692,691,690,689,688,687,686,685,684,683,682,681,680,679,678,677,676,675,674,673,672,671,670,669,668,667,666,665,664,663,662,661,660,659,658,657,656,655,654,653,652,651,650,649,648,647,646,645,644,643,642,641,640,639,638,637,636,635,634,633,632,631,630,629,628,627,626,625,624,623,622,621,620,619,618,617,616,615,614,613,612,611,610,609,608,607,606,605,604,603,602,601,600,599,598,597,596,595,594,593,592,591,590,589,588,587,586,585,584,583,582,581,580,579,578,577,576,575,574,573,572,571,570,569,568,567,566,565,564,563,562,561,560,559,558,557,556,555,554,553,552,551,550,549,548,547,546,545,544,543,542,541,540,539,538,537,536,535,534,533,532,531,530,529,528,527,526,525,524,523,522,521,520,519,518,517,516,515,514,513,512,511,510,509,508,507,506,505,504,503,502,501,500,499,498,497,496,495,494,493,492,491,490,489,488,487,486,485,484,483,482,481,480,479,478,477,476,475,474,473,472,471,470,469,468,467,466,465,464,463,462,461,460,459,458,457,456,455,454,453,452,451,450,449,448,447,446,445,444,443,442,441,440,439,438,437,436,435,434,433,432,431,430,429,428,427,426,425,424,423,422,421,420,419,418,417,416,415,414,413,412,411,410,409,408,407,406,405,404,403,402,401,400,399,398,397,396,395,394,393,392,391,390,389,388,387,386,385,384,383,382,381,380,379,378,377,376,375,374,373,372,371,370,369,368,367,366,365,364,363,362,361,360,359,358,357,356,355,354,353,352,351,350,349,348,347,346,345,344,343,342,341,340,339,338,337,336,335,334,333,332,331,330,329,328,327,326,325,324,323,322,321,320,319,318,317,316,315,314,313,312,311,310,309,308,307,306,305,304,303,302,301,300,299,298,297,296,295,294,293,292,291,290,289,288,287,286,285,284,283,282,281,280,279,278,277,276,275,274,273,272,271,270,269,268,267,266,265,264,263,262,261,260,259,258,257,256,255,254,253,252,251,250,249,248,247,246,245,244,243,242,241,240,239,238,237,236,235,234,233,232,231,230,229,228,227,226,225,224,223,222,221,220,219,218,217,216,215,214,213,212,211,210,209,208,207,206,205,204,203,202,201,200,199,198,197,196,195,194,193,192,191,190,189,188,187,186,185,184,183,182,181,180,179,178,177,176,175,174,173,172,171,170,169,168,167,166,165,164,163,162,161,160,159,158,157,156,155,154,153,152,151,150,149,148,147,146,145,144,143,142,141,140,139,138,137,136,135,134,133,132,131,130,129,128,127,126,125,124,123,122,121,120,119,118,117,116,115,114,113,112,111,110,109,108,107,106,105,104,103,102,101,100,99,98,97,96,95,94,93,92,91,90,89,88,87,86,85,84,83,82,81,80,79,78,77,76,75,74,73,72,71,70,69,68,67,66,65,64,63,62,61,60,59,58,57,56,55,54,53,52,51,50,49,48,47,46,45,44,43,42,41,40,39,38,37,36,35,34,33,32,31,30,29,28,27,26,25,24,23,22,21,20,19,18,17,16,15,14,13,12,11,10,9,8,7,6,5,4,2,1,0]
abbrev hk5 : PySem.W.Hook := Fx.hookT ads fns tabs exs
def ob5 (s : PySem.W.SharedT) : Fx.AlY := Fx.obsT ads fns tabs exs (HandSHeadRun.getT s)
theorem Zdn (s : PySem.W.SharedT) : ob5 s = hk5.obs s.abs := Fx.Zc4 (HandSHeadRun.getT_eq s)
def posOf : Stmt → Pos
  | .FunctionDef _ _ _ _ _ _ _ _ _ p => p
  | _ => ⟨0,0,0,0⟩
def Vj : DefRec := ⟨"_law_good_right", L2.defArgs Zu, L2.defBody Zu, L2.defScope Zu, posOf Zu⟩
theorem Z05 : (recsOf (view R5.prog [24,25,26])).find? (fun e => e.name == Vj.name) = some Vj := by kernel_rfl
def Wu : DefRec := ⟨"_law_spoilt_right", L2.defArgs Zj, L2.defBody Zj, L2.defScope Zj, posOf Zj⟩
theorem Jt : (recsOf (view R5.prog [24,25,26])).find? (fun e => e.name == Wu.name) = some Wu := by kernel_rfl
def Z8h : DefRec := ⟨"law", L2.defArgs Nm, L2.defBody Nm, L2.defScope Nm, posOf Nm⟩
theorem Zdo : (recsOf (view R5.prog [24,25,26])).find? (fun e => e.name == Z8h.name) = some Z8h := by kernel_rfl
theorem run0 (w : World) : HandSHeadRun.RunEq R5 (view R5.prog [24,25,26]) hk5 ob5 5620 nms (w.withFollow "special-get-raises" false) := by
  intro os
  kernel_rfl
theorem run1 (w : World) : HandSHeadRun.RunEq R5 (view R5.prog [24,25,26]) hk5 ob5 5620 nms (w.withFollow "special-get-raises" true) := by
  intro os
  kernel_rfl
theorem run5 (w : World) : HandSHeadRun.RunEq R5 (view R5.prog [24,25,26]) hk5 ob5 5620 nms w := byRow2 "special-get-raises" (P := fun w => HandSHeadRun.RunEq R5 (view R5.prog [24,25,26]) hk5 ob5 5620 nms w) run0 run1 w
end Ap
set_option maxHeartbeats 4000000
namespace Fx
open PySem PySem.Spec PyProof.Rows L2 SX Ap
variable [Tb]
section
variable {P : Program} {w : World} {K : PySem.W.Frag} {mg : PySem.Str → Option Value} {base : Heap}
theorem Ux {x qual : PySem.Str} {st : Stmt} {f : Addr} {fd : FuncData} (F : FunD K x qual (defArgs st) (defBody st) (defScope st) [] [] f fd) : L2.Fun K x qual st f fd := by
  obtain ⟨⟨oc,od,dV,kV,doc,pm,an,cdv,ct,osl,e,lk,hcd,hd,_⟩,kp⟩ := F
  have : dV = .none := by
    rcases hd with ⟨_,h⟩ | ⟨h,_⟩
    · exact h
    · exact (h rfl).elim
  subst this
  exact ⟨⟨oc,od,kV,doc,pm,an,cdv,ct,osl,e,lk,hcd⟩,kp⟩
end
end Fx
set_option maxHeartbeats 4000000
namespace Fx
open PySem PySem.Spec PyProof.Rows L2 SX Ap
def rngOf (xs : List T) (Z1 : Sto) : R ItF := match xs with
  | [.int j] => if -(2 ^ 62) ≤ j ∧ j < 2 ^ 62 then .ok (itRng 0 j.toNat) Z1 else .stuck
  | [.int i,.int j] => if -(2 ^ 62) ≤ i ∧ i < 2 ^ 62 ∧ -(2 ^ 62) ≤ j ∧ j < 2 ^ 62 then .ok (itRng i (j - i).toNat) Z1 else .stuck
  | _ => .stuck
theorem rng1 {j : Int} {Z : Sto} (h1 : -1000000 ≤ j) (h2 : j ≤ 1000000) : rngOf [.int j] Z = .ok (itRng 0 j.toNat) Z := if_pos ⟨by omega,by omega⟩
theorem rngN {n : Nat} {Z : Sto} (h : n ≤ Lim) : rngOf [.int (n : Int)] Z = .ok (itRng 0 n) Z := by
  have h' : n ≤ 1000000 := h
  rw [rng1 (by omega) (by omega)]; rfl
section
variable (ρ : Env) (Z : Sto)
@[simp] theorem q_eC (t : T) : eC t ρ Z = .ok t Z := (rfl)
@[simp] theorem q_var0 (t : T) : eVar 0 (some t :: ρ) Z = .ok t Z := (rfl)
@[simp] theorem q_varS (i : Nat) (o : Option T) : eVar (i + 1) (o :: ρ) Z = eVar i ρ Z := (rfl)
@[simp] theorem q_var1 (o : Option T) : eVar 1 (o :: ρ) Z = eVar 0 ρ Z := (rfl)
@[simp] theorem q_var2 (o : Option T) : eVar 2 (o :: ρ) Z = eVar 1 ρ Z := (rfl)
@[simp] theorem q_var3 (o : Option T) : eVar 3 (o :: ρ) Z = eVar 2 ρ Z := (rfl)
@[simp] theorem q_var4 (o : Option T) : eVar 4 (o :: ρ) Z = eVar 3 ρ Z := (rfl)
@[simp] theorem q_var5 (o : Option T) : eVar 5 (o :: ρ) Z = eVar 4 ρ Z := (rfl)
@[simp] theorem q_var6 (o : Option T) : eVar 6 (o :: ρ) Z = eVar 5 ρ Z := (rfl)
@[simp] theorem q_var7 (o : Option T) : eVar 7 (o :: ρ) Z = eVar 6 ρ Z := (rfl)
@[simp] theorem q_var8 (o : Option T) : eVar 8 (o :: ρ) Z = eVar 7 ρ Z := (rfl)
@[simp] theorem q_var9 (o : Option T) : eVar 9 (o :: ρ) Z = eVar 8 ρ Z := (rfl)
@[simp] theorem q_var10 (o : Option T) : eVar 10 (o :: ρ) Z = eVar 9 ρ Z := (rfl)
@[simp] theorem q_var11 (o : Option T) : eVar 11 (o :: ρ) Z = eVar 10 ρ Z := (rfl)
@[simp] theorem q_var12 (o : Option T) : eVar 12 (o :: ρ) Z = eVar 11 ρ Z := (rfl)
@[simp] theorem q_var13 (o : Option T) : eVar 13 (o :: ρ) Z = eVar 12 ρ Z := (rfl)
@[simp] theorem q_var14 (o : Option T) : eVar 14 (o :: ρ) Z = eVar 13 ρ Z := (rfl)
@[simp] theorem q_bin (g : T → T → Sto → Option (T × Sto)) (a b : FE) : eBin g a b ρ Z = (a ρ Z).bind fun x Z1 => (b ρ Z1).bind fun y Z2 => lift (g x y Z2) := (rfl)
@[simp] theorem q_un (g : T → Sto → Option (T × Sto)) (a : FE) : eUn g a ρ Z = (a ρ Z).bind fun x Z1 => lift (g x Z1) := (rfl)
@[simp] theorem q_if (c : FT) (a b : FE) : eIf c a b ρ Z = (c ρ Z).bind fun x Z1 => if x = true then a ρ Z1 else b ρ Z1 := (rfl)
@[simp] theorem q_nil : aNil ρ Z = .ok [] Z := (rfl)
@[simp] theorem q_cons (a : FE) (r : FA) : aCons a r ρ Z = (a ρ Z).bind fun x Z1 => (r ρ Z1).bind fun xs Z2 => .ok (x :: xs) Z2 := (rfl)
@[simp] theorem q_tru (f : FE) : eTru f ρ Z = (f ρ Z).bind fun x Z1 => match truth x Z1 with | some b => .ok b Z1 | none => .stuck := (rfl)
@[simp] theorem q_tAnd (a b : FT) : Fx.tAnd a b ρ Z = (a ρ Z).bind fun x Z1 => if x = true then b ρ Z1 else .ok false Z1 := (rfl)
@[simp] theorem q_tOr (a b : FT) : Fx.tOr a b ρ Z = (a ρ Z).bind fun x Z1 => if x = true then .ok true Z1 else b ρ Z1 := (rfl)
@[simp] theorem q_tNot (a : FT) : Fx.tNot a ρ Z = (a ρ Z).bind fun x Z1 => .ok (!x) Z1 := (rfl)
@[simp] theorem q_and (a b : FE) : eAnd a b ρ Z = (a ρ Z).bind fun x Z1 => match truth x Z1 with | some true => b ρ Z1 | some false => .ok x Z1 | none => .stuck := (rfl)
@[simp] theorem q_or (a b : FE) : eOr a b ρ Z = (a ρ Z).bind fun x Z1 => match truth x Z1 with | some true => .ok x Z1 | some false => b ρ Z1 | none => .stuck := (rfl)
@[simp] theorem q_not (a : FE) : eNot a ρ Z = (a ρ Z).bind fun x Z1 => match truth x Z1 with | some b => .ok (.bl (!b)) Z1 | none => .stuck := (rfl)
@[simp] theorem q_bl (f : FE) : eBl f ρ Z = (f ρ Z).bind fun x Z1 => match x with | .bl b => .ok b Z1 | _ => .stuck := (rfl)
@[simp] theorem q_chain (g g' : T → T → Sto → Option (T × Sto)) (a b c : FE) : eChain g g' a b c ρ Z = (a ρ Z).bind fun x Z1 => (b ρ Z1).bind fun y Z2 => (lift (g x y Z2)).bind fun z Z3 => match z with | .bl true => (c ρ Z3).bind fun w Z4 => lift (g' y w Z4) | .bl false => .ok (.bl false) Z3 | _ => .stuck := (rfl)
@[simp] theorem q_oNone : oNone ρ Z = .ok none Z := (rfl)
@[simp] theorem q_oSome (f : FE) : oSome f ρ Z = (f ρ Z).bind fun x Z1 => match x with | .int i => .ok (some i) Z1 | _ => .stuck := (rfl)
@[simp] theorem q_sl (f : FE) (lo hi : FO) : eSl f lo hi ρ Z = (f ρ Z).bind fun x Z1 => (lo ρ Z1).bind fun l Z2 => (hi ρ Z2).bind fun h Z3 => lift (gSl x l h Z3) := (rfl)
@[simp] theorem q_tup (f : FA) : eTup f ρ Z = (f ρ Z).bind fun xs Z1 => .ok (.tup xs) Z1 := (rfl)
@[simp] theorem q_lst (f : FA) : eLst f ρ Z = (f ρ Z).bind fun xs Z1 => .ok (.loc Z1.length) (Z1 ++ [.lst xs]) := (rfl)
@[simp] theorem q_call (F : FF) (ds : List T) (fa : FA) : eCall F ds fa ρ Z = (fa ρ Z).bind fun ts Z1 => F (ts ++ ds) Z1 := (rfl)
@[simp] theorem q_callB (g : List T → Sto → Option (T × Sto)) (fa : FA) : eCallB g fa ρ Z = (fa ρ Z).bind fun xs Z1 => lift (g xs Z1) := (rfl)
@[simp] theorem q_bm (n : String) (g : T → List T → Sto → Option (T × Sto)) (fo : FE) (fa : FA) : eBM n g fo fa ρ Z = (fo ρ Z).bind fun x Z1 => if isTy n x Z1 = true then (fa ρ Z1).bind fun xs Z2 => lift (g x xs Z2) else .stuck := (rfl)
@[simp] theorem Zca : eDict0 ρ Z = .ok (.loc Z.length) (Z ++ [.dk []]) := (rfl)
@[simp] theorem q_yes : eYes ρ Z = .ok true Z := (rfl)
@[simp] theorem q_set (i : Nat) (f : FE) : sSet i f ρ Z = bS ρ (f ρ Z) fun x Z1 => .nx (ρ.set i (some x)) Z1 := (rfl)
@[simp] theorem q_ret (f : FE) : sRet f ρ Z = bS ρ (f ρ Z) fun x Z1 => .rt x Z1 := (rfl)
@[simp] theorem q_retN : sRetN ρ Z = .rt .non Z := (rfl)
@[simp] theorem q_drop (f : FE) : sDrop f ρ Z = bS ρ (f ρ Z) fun _ Z1 => .nx ρ Z1 := (rfl)
@[simp] theorem q_pass : sPass ρ Z = .nx ρ Z := (rfl)
@[simp] theorem q_brk : sBrk ρ Z = .bk ρ Z := (rfl)
@[simp] theorem q_cnt : sCnt ρ Z = .ct ρ Z := (rfl)
@[simp] theorem q_sIf (c : FT) (a b : FS) : sIf c a b ρ Z = bS ρ (c ρ Z) fun x Z1 => if x = true then a ρ Z1 else b ρ Z1 := (rfl)
@[simp] theorem q_bCons (a b : FS) : bCons a b ρ Z = seqS (a ρ Z) b := (rfl)
@[simp] theorem q_par (ix : List Nat) (f : FA) : sPar ix f ρ Z = bS ρ (f ρ Z) fun xs Z1 => .nx ((ix.zip xs).foldl (fun r p => r.set p.1 (some p.2)) ρ) Z1 := (rfl)
@[simp] theorem q_asg (f : FE) (g : FG) : sAsg f g ρ Z = bS ρ (f ρ Z) fun x Z1 => bS ρ (g x ρ Z1) fun ρ2 Z2 => .nx ρ2 Z2 := (rfl)
@[simp] theorem q_gNm (i : Nat) (t : T) : gNm i t ρ Z = .ok (ρ.set i (some t)) Z := (rfl)
@[simp] theorem q_gsNil : gsNil [] ρ Z = .ok ρ Z := (rfl)
@[simp] theorem q_gsCons (g : FG) (r : FGs) (t : T) (ts : List T) : gsCons g r (t :: ts) ρ Z = (noX (g t ρ Z)).bind fun ρ1 Z1 => noX (r ts ρ1 Z1) := (rfl)
@[simp] theorem q_gTp (n : Nat) (r : FGs) (ts : List T) : gTp n r (.tup ts) ρ Z = if ts.length = n then r ts ρ Z else .stuck := (rfl)
@[simp] theorem q_gSubs (fo fi : FE) (t : T) : gSubs fo fi t ρ Z = (fo ρ Z).bind fun o Z1 => (fi ρ Z1).bind fun i Z2 => match gSetL o i t Z2 with | some Z3 => .ok ρ Z3 | none => .stuck := (rfl)
@[simp] theorem Za7 (it : FI) (g : FG) (b : FS) : sFor it g b ρ Z = bS ρ (it ρ Z) fun j Z1 => loopN j (fun t ρ' Z' => bS ρ' (g t ρ' Z') b) Fuel 0 ρ Z1 := (rfl)
@[simp] theorem q_raise (nm f : PySem.Str) (ds : List T) (fa : FA) : sRaise nm f ds fa ρ Z = bS ρ (fa ρ Z) fun ts Z1 => match ts ++ ds with | [t] => .exc ⟨nm,[(f,t)]⟩ ρ Z1 | _ => .stuck := (rfl)
@[simp] theorem q_iAny (f : FE) : iAny f ρ Z = (f ρ Z).bind fun x Z1 => match x with | .frl ts => .ok (itSeq ts) Z1 | .loc i => (match getL Z1 i with | some _ => .ok (itLoc i) Z1 | none => .stuck) | .tup ts => .ok (itSeq ts) Z1 | .str l => .ok (itStr l) Z1 | _ => .stuck := (rfl)
@[simp] theorem Z5f (f : FA) : iEnmA f ρ Z = (f ρ Z).bind fun xs Z1 => match xs with | [.frl ts] => .ok (itEnum (itSeq ts)) Z1 | [.loc i] => (match getL Z1 i with | some _ => .ok (itEnum (itLoc i)) Z1 | none => .stuck) | [.tup ts] => .ok (itEnum (itSeqX ts)) Z1 | [.str l] => .ok (itEnum (itStrX l)) Z1 | _ => .stuck := (rfl)
@[simp] theorem q_iRng (f : FA) : iRng f ρ Z = (f ρ Z).bind fun xs Z1 => rngOf xs Z1 := (rfl)
@[simp] theorem q_lc (vs js : List Nat) (it : FI) (c : FT) (e : FE) : eLc vs js it c e ρ Z = (it ρ Z).bind fun j Z1 => loopC j Z1.length (fun t => putN js t (wipeR ρ vs)) c e Fuel 0 (Z1 ++ [.lst []]) := (rfl)
@[simp] theorem q_xf (y : Ex) (f : PySem.Str) : eXf y f ρ Z = match y.fs.lookup f with | some t => .ok t Z | none => .stuck := (rfl)
end
@[simp] theorem Zb6 {α : Type} (a : α) (Z : Sto) : noX (.ok a Z) = .ok a Z := (rfl)
@[simp] theorem t_bl (b : Bool) (Z : Sto) : truth (.bl b) Z = some b := (rfl)
@[simp] theorem t_int (i : Int) (Z : Sto) : truth (.int i) Z = some (i != 0) := (rfl)
@[simp] theorem t_non (Z : Sto) : truth .non Z = some false := (rfl)
@[simp] theorem t_tup (ts : List T) (Z : Sto) : truth (.tup ts) Z = some (!ts.isEmpty) := (rfl)
@[simp] theorem add_ii (i j : Int) (Z : Sto) : gAdd (.int i) (.int j) Z = some (.int (i + j),Z) := (rfl)
@[simp] theorem add_ss (a b : List Nat) (Z : Sto) : gAdd (.str a) (.str b) Z = if a.length + b.length ≤ Lim then some (.str (a ++ b),Z) else none := (rfl)
@[simp] theorem add_tt (a b : List T) (Z : Sto) : gAdd (.tup a) (.tup b) Z = if a.length + b.length ≤ Lim then some (.tup (a ++ b),Z) else none := (rfl)
@[simp] theorem Z6b (i j : Nat) (Z : Sto) : gAdd (.loc i) (.loc j) Z = match getL Z i,getL Z j with | some a,some b => if a.length + b.length ≤ Lim then some (.loc Z.length,Z ++ [.lst (a ++ b)]) else none | _,_ => none := (rfl)
@[simp] theorem iadd_ii (i j : Int) (Z : Sto) : gIAdd (.int i) (.int j) Z = some (.int (i + j),Z) := (rfl)
@[simp] theorem iadd_ss (a b : List Nat) (Z : Sto) : gIAdd (.str a) (.str b) Z = if a.length + b.length ≤ Lim then some (.str (a ++ b),Z) else none := (rfl)
@[simp] theorem sub_ii (i j : Int) (Z : Sto) : gSub (.int i) (.int j) Z = some (.int (i - j),Z) := (rfl)
@[simp] theorem mul_ii (i j : Int) (Z : Sto) : gMul (.int i) (.int j) Z = if mulOk i j = true then some (.int (i * j),Z) else none := (rfl)
@[simp] theorem mul_si (l : List Nat) (k : Int) (Z : Sto) : gMul (.str l) (.int k) Z = if -100000 ≤ k ∧ k ≤ 100000 ∧ l.length * k.toNat ≤ 100000 then some (.str (repL k.toNat l),Z) else none := (rfl)
@[simp] theorem Z8i (i : Nat) (k : Int) (Z : Sto) : gMul (.loc i) (.int k) Z = match getL Z i with | some a => if -100000 ≤ k ∧ k ≤ 100000 ∧ a.length * k.toNat ≤ Lim then some (.loc Z.length,Z ++ [.lst (List.replicate k.toNat a).flatten]) else none | _ => none := (rfl)
@[simp] theorem div_ii (i j : Int) (Z : Sto) : gDiv (.int i) (.int j) Z = if 0 < j ∧ j < 2 ^ 200 then some (.int (i / j),Z) else none := (rfl)
@[simp] theorem mod_ii (i j : Int) (Z : Sto) : gMod (.int i) (.int j) Z = if 0 < j then some (.int (i % j),Z) else none := (rfl)
@[simp] theorem pow_ii (i j : Int) (Z : Sto) : gPow (.int i) (.int j) Z = if 0 ≤ j ∧ j ≤ 1000000 ∧ i.natAbs < 2 ^ 64 then some (.int (i ^ j.toNat),Z) else none := (rfl)
@[simp] theorem neg_i (i : Int) (Z : Sto) : gNeg (.int i) Z = some (.int (-i),Z) := (rfl)
@[simp] theorem eq_ii (i j : Int) (Z : Sto) : gEq (.int i) (.int j) Z = some (.bl (decide (i = j)),Z) := (rfl)
@[simp] theorem eq_ss (i j : List Nat) (Z : Sto) : gEq (.str i) (.str j) Z = some (.bl (decide (i = j)),Z) := (rfl)
@[simp] theorem eq_bb (i j : Bool) (Z : Sto) : gEq (.bl i) (.bl j) Z = some (.bl (decide (i = j)),Z) := (rfl)
@[simp] theorem ne_ii (i j : Int) (Z : Sto) : gNe (.int i) (.int j) Z = some (.bl (!decide (i = j)),Z) := (rfl)
@[simp] theorem ne_ss (i j : List Nat) (Z : Sto) : gNe (.str i) (.str j) Z = some (.bl (!decide (i = j)),Z) := (rfl)
@[simp] theorem ne_bb (i j : Bool) (Z : Sto) : gNe (.bl i) (.bl j) Z = some (.bl (!decide (i = j)),Z) := (rfl)
@[simp] theorem lt_ii (i j : Int) (Z : Sto) : gLt (.int i) (.int j) Z = some (.bl (decide (i < j)),Z) := (rfl)
@[simp] theorem lt_ss (i j : List Nat) (Z : Sto) : gLt (.str i) (.str j) Z = some (.bl (decide (i < j)),Z) := (rfl)
@[simp] theorem le_ii (i j : Int) (Z : Sto) : gLe (.int i) (.int j) Z = some (.bl (decide (i ≤ j)),Z) := (rfl)
@[simp] theorem gt_ii (i j : Int) (Z : Sto) : gGt (.int i) (.int j) Z = some (.bl (decide (j < i)),Z) := (rfl)
@[simp] theorem ge_ii (i j : Int) (Z : Sto) : gGe (.int i) (.int j) Z = some (.bl (decide (j ≤ i)),Z) := (rfl)
@[simp] theorem is_n (x : T) (Z : Sto) : gIs x .non Z = some (.bl (isNon x),Z) := by cases x <;> rfl
@[simp] theorem isNot_n (x : T) (Z : Sto) : gIsNot x .non Z = some (.bl (!isNon x),Z) := by cases x <;> rfl
@[simp] theorem ix_tup (ts : List T) (i : Int) (Z : Sto) : gIx (.tup ts) (.int i) Z = (atI ts i).map fun t => (t,Z) := (rfl)
@[simp] theorem ix_frl (ts : List T) (i : Int) (Z : Sto) : gIx (.frl ts) (.int i) Z = (atI ts i).map fun t => (t,Z) := (rfl)
@[simp] theorem Zdp (n : Nat) (i : Int) (Z : Sto) : gIx (.loc n) (.int i) Z = match getL Z n with | some ts => (atI ts i).map fun t => (t,Z) | none => none := by
  simp only [gIx,asSeq,asList,getL]
  all_goals (cases Z[n]? with
    | none => rfl
    | some o => cases o <;> rfl)
@[simp] theorem ix_str (l : List Nat) (i : Int) (Z : Sto) : gIx (.str l) (.int i) Z = if l.length ≤ Lim then (atI l i).map fun c => (.str [c],Z) else none := (rfl)
@[simp] theorem sl_s (l : List Nat) (lo hi : Option Int) (Z : Sto) : gSl (.str l) lo hi Z = if l.length ≤ Lim then some (.str (cutL l lo hi),Z) else none := (rfl)
@[simp] theorem sl_t (l : List T) (lo hi : Option Int) (Z : Sto) : gSl (.tup l) lo hi Z = some (.tup (cutL l lo hi),Z) := (rfl)
@[simp] theorem sl_f (l : List T) (lo hi : Option Int) (Z : Sto) : gSl (.frl l) lo hi Z = some (.loc Z.length,Z ++ [.lst (cutL l lo hi)]) := (rfl)
@[simp] theorem sl_l (n : Nat) (lo hi : Option Int) (Z : Sto) : gSl (.loc n) lo hi Z = match getL Z n with | some ts => some (.loc Z.length,Z ++ [.lst (cutL ts lo hi)]) | none => none := by
  simp only [gSl,asList,getL]
  all_goals (cases Z[n]? with
    | none => rfl
    | some o => cases o <;> rfl)
@[simp] theorem len_s (l : List Nat) (Z : Sto) : gLen [.str l] Z = if l.length ≤ Lim then some (.int l.length,Z) else none := (rfl)
@[simp] theorem len_t (l : List T) (Z : Sto) : gLen [.tup l] Z = some (.int l.length,Z) := (rfl)
@[simp] theorem len_f (l : List T) (Z : Sto) : gLen [.frl l] Z = some (.int l.length,Z) := (rfl)
@[simp] theorem len_l (n : Nat) (Z : Sto) : gLen [.loc n] Z = match getL Z n with | some ts => some (.int ts.length,Z) | none => none := by
  simp only [gLen,asSeq,asList,getL]
  cases Z[n]? with
  | none => rfl
  | some o => cases o <;> rfl
@[simp] theorem max_ii (i j : Int) (Z : Sto) : gMax [.int i,.int j] Z = some (.int (if j > i then j else i),Z) := (rfl)
@[simp] theorem min_ii (i j : Int) (Z : Sto) : gMin [.int i,.int j] Z = some (.int (if j < i then j else i),Z) := (rfl)
@[simp] theorem int_i (i : Int) (Z : Sto) : gInt [.int i] Z = some (.int i,Z) := (rfl)
@[simp] theorem int_b (b : Bool) (Z : Sto) : gInt [.bl b] Z = some (.int (if b then 1 else 0),Z) := (rfl)
@[simp] theorem tuple_l (n : Nat) (Z : Sto) : gTuple [.loc n] Z = match getL Z n with | some ts => some (.tup ts,Z) | none => none := by
  simp only [gTuple,asList,getL]
  cases Z[n]? with
  | none => rfl
  | some o => cases o <;> rfl
@[simp] theorem app_l (n : Nat) (t : T) (Z : Sto) : gAppend (.loc n) [t] Z = match getL Z n with | some ts => if ts.length < Lim then some (.non,Z.set n (.lst (ts ++ [t]))) else none | none => none := (rfl)
@[simp] theorem set_l (n : Nat) (i : Int) (t : T) (Z : Sto) : gSetL (.loc n) (.int i) t Z = match getL Z n with | some ts => (ixN ts.length i).map fun m => Z.set n (.lst (ts.set m t)) | none => none := (rfl)
theorem Xo {Z : Sto} {i : Nat} {ts : List T} : getL Z i = some ts ↔ Z[i]? = some (.lst ts) := ⟨Ws,fun h => by unfold getL; rw [h]⟩
@[simp] theorem Zm (Z : Sto) (ts : List T) : getL (Z ++ [.lst ts]) Z.length = some ts := by simp [getL]
theorem Zo {Z Y : Sto} {i : Nat} {ts : List T} (h : getL Z i = some ts) : getL (Z ++ Y) i = some ts := by
  rw [Xo] at h ⊢
  rw [List.getElem?_append_left (List.getElem?_eq_some_iff.mp h).1]; exact h
theorem Vk {Z : Sto} {i : Nat} {ts us : List T} (h : getL Z i = some ts) : getL (Z.set i (.lst us)) i = some us := by
  rw [Xo] at h ⊢
  rw [List.getElem?_set_self (List.getElem?_eq_some_iff.mp h).1]
theorem Z5g {Z : Sto} {i j : Nat} {o : O} (h : i ≠ j) : getL (Z.set i o) j = getL Z j := by unfold getL; rw [List.getElem?_set_ne h]
theorem Z27 {Z : Sto} {i : Nat} {ts : List T} (h : getL Z i = some ts) : i < Z.length := (List.getElem?_eq_some_iff.mp (Ws h)).1
theorem Z6c {Z : Sto} {i : Nat} {ts : List T} (h : getL Z i = some ts) : isTy "list" (.loc i) Z = true := by simp [isTy, Ws h]
@[simp] theorem isTy_s (l : List Nat) (Z : Sto) : isTy "str" (.str l) Z = true := (rfl)
@[simp] theorem atI_0 {α : Type} (a : α) (l : List α) : atI (a :: l) 0 = some a := by simp [atI,ixN]
@[simp] theorem atI_1 {α : Type} (a b : α) (l : List α) : atI (a :: b :: l) 1 = some b := by
  have h : (1 : Int) < ((a :: b :: l).length : Int) := by simp; omega
  simp only [atI,ixN]
  rw [if_pos (by decide),if_pos h]; rfl
@[simp] theorem atI_2 {α : Type} (a b c : α) (l : List α) : atI (a :: b :: c :: l) 2 = some c := by
  have h : (2 : Int) < ((a :: b :: c :: l).length : Int) := by simp; omega
  simp only [atI,ixN]
  rw [if_pos (by decide),if_pos h]; rfl
@[simp] theorem atI_3 {α : Type} (a b c d : α) (l : List α) : atI (a :: b :: c :: d :: l) 3 = some d := by
  have h : (3 : Int) < ((a :: b :: c :: d :: l).length : Int) := by simp; omega
  simp only [atI,ixN]
  rw [if_pos (by decide),if_pos h]; rfl
theorem atI_nat {α : Type} {l : List α} {k : Nat} {a : α} (h : l[k]? = some a) : atI l (k : Int) = some a := by
  have hk := (List.getElem?_eq_some_iff.mp h).1
  simp only [atI,ixN]
  rw [if_pos (Int.natCast_nonneg k),if_pos (by omega)]
  exact h
section
theorem kk (n : String) : True := trivial
@[simp] theorem kit_1 : kitB "int" "int" = some true := by decide +kernel
@[simp] theorem kit_2 : kitB "bool" "int" = some true := by decide +kernel
@[simp] theorem kit_3 : kitB "str" "int" = some false := by decide +kernel
@[simp] theorem kit_4 : kitB "NoneType" "int" = some false := by decide +kernel
@[simp] theorem kit_5 : kitB "tuple" "int" = some false := by decide +kernel
@[simp] theorem kit_6 : kitB "list" "int" = some false := by decide +kernel
@[simp] theorem kit_7 : kitB "dict" "int" = some false := by decide +kernel
@[simp] theorem kit_11 : kitB "int" "bool" = some false := by decide +kernel
@[simp] theorem kit_12 : kitB "bool" "bool" = some true := by decide +kernel
@[simp] theorem kit_13 : kitB "str" "bool" = some false := by decide +kernel
@[simp] theorem kit_14 : kitB "NoneType" "bool" = some false := by decide +kernel
@[simp] theorem kit_15 : kitB "tuple" "bool" = some false := by decide +kernel
@[simp] theorem kit_16 : kitB "list" "bool" = some false := by decide +kernel
@[simp] theorem kit_17 : kitB "dict" "bool" = some false := by decide +kernel
@[simp] theorem kit_21 : kitB "int" "str" = some false := by decide +kernel
@[simp] theorem kit_22 : kitB "bool" "str" = some false := by decide +kernel
@[simp] theorem kit_23 : kitB "str" "str" = some true := by decide +kernel
@[simp] theorem kit_24 : kitB "NoneType" "str" = some false := by decide +kernel
@[simp] theorem kit_25 : kitB "tuple" "str" = some false := by decide +kernel
@[simp] theorem kit_26 : kitB "list" "str" = some false := by decide +kernel
@[simp] theorem kit_27 : kitB "dict" "str" = some false := by decide +kernel
@[simp] theorem kit_31 : kitB "int" "tuple" = some false := by decide +kernel
@[simp] theorem kit_32 : kitB "bool" "tuple" = some false := by decide +kernel
@[simp] theorem kit_33 : kitB "str" "tuple" = some false := by decide +kernel
@[simp] theorem kit_34 : kitB "NoneType" "tuple" = some false := by decide +kernel
@[simp] theorem kit_35 : kitB "tuple" "tuple" = some true := by decide +kernel
@[simp] theorem kit_36 : kitB "list" "tuple" = some false := by decide +kernel
@[simp] theorem kit_37 : kitB "dict" "tuple" = some false := by decide +kernel
@[simp] theorem kit_41 : kitB "int" "list" = some false := by decide +kernel
@[simp] theorem kit_42 : kitB "bool" "list" = some false := by decide +kernel
@[simp] theorem kit_43 : kitB "str" "list" = some false := by decide +kernel
@[simp] theorem kit_44 : kitB "NoneType" "list" = some false := by decide +kernel
@[simp] theorem kit_45 : kitB "tuple" "list" = some false := by decide +kernel
@[simp] theorem kit_46 : kitB "list" "list" = some true := by decide +kernel
@[simp] theorem kit_47 : kitB "dict" "list" = some false := by decide +kernel
@[simp] theorem kit_51 : kitB "int" "dict" = some false := by decide +kernel
@[simp] theorem kit_52 : kitB "bool" "dict" = some false := by decide +kernel
@[simp] theorem kit_53 : kitB "str" "dict" = some false := by decide +kernel
@[simp] theorem kit_54 : kitB "NoneType" "dict" = some false := by decide +kernel
@[simp] theorem kit_55 : kitB "tuple" "dict" = some false := by decide +kernel
@[simp] theorem kit_56 : kitB "list" "dict" = some false := by decide +kernel
@[simp] theorem kit_57 : kitB "dict" "dict" = some true := by decide +kernel
end
@[simp] theorem ty_non (Z : Sto) : tyT .non Z = some "NoneType" := (rfl)
@[simp] theorem ty_bl (b : Bool) (Z : Sto) : tyT (.bl b) Z = some "bool" := (rfl)
@[simp] theorem ty_int (b : Int) (Z : Sto) : tyT (.int b) Z = some "int" := (rfl)
@[simp] theorem ty_str (b : List Nat) (Z : Sto) : tyT (.str b) Z = some "str" := (rfl)
@[simp] theorem ty_tup (b : List T) (Z : Sto) : tyT (.tup b) Z = some "tuple" := (rfl)
@[simp] theorem ty_frl (b : List T) (Z : Sto) : tyT (.frl b) Z = some "list" := (rfl)
@[simp] theorem isiB (t : T) (n : String) (Z : Sto) : gIsiB t (.ty n) Z = (tyT t Z).bind fun a => kitB a n := by
  simp only [gIsiB,clsT]
  cases tyT t Z <;> rfl
@[simp] theorem Z06 (t : T) (n : String) (Z : Sto) : gIsi [t,.ty n] Z = ((tyT t Z).bind fun a => kitB a n).map fun b => (.bl b,Z) := by
  simp only [gIsi,isiB]
@[simp] theorem isi_2 (t : T) (n m : String) (Z : Sto) : gIsi [t,.tup [.ty n,.ty m]] Z = if (tyT t Z).isSome = true then (((tyT t Z).bind fun a => kitB a n).bind fun b => ((tyT t Z).bind fun a => kitB a m).map fun c => (.bl (b || c),Z)) else none := by
  simp only [gIsi,List.mapM_cons,List.mapM_nil,isiB]
  cases tyT t Z with
  | none => rfl
  | some a =>
    simp only [Option.bind_some,Option.isSome_some,if_true]
    cases kitB a n <;> cases kitB a m <;> simp
def loopF (body : T → FS) : List T → Env → Sto → RS
  | [],ρ,Z => .nx ρ Z
  | t :: ts, ρ, Z => seqL (body t ρ Z) fun ρ' Z' => loopF body ts ρ' Z'
theorem Z4n (ts : List T) (body : T → FS) : ∀ (n k : Nat) (ρ : Env) (Z : Sto),ts.length < n + k → k ≤ ts.length → loopN (itSeq ts) body n k ρ Z = loopF body (ts.drop k) ρ Z
  | 0,k,ρ,Z,h,_ => by omega
  | n + 1,k,ρ,Z,h,_ => by
    unfold loopN
    simp only [itSeq]
    cases e : ts[k]? with
    | none =>
      rw [List.drop_of_length_le (List.getElem?_eq_none_iff.mp e)]; rfl
    | some t =>
      have hk := (List.getElem?_eq_some_iff.mp e).1
      rw [List.drop_eq_getElem_cons hk]
      have e2 : ts[k] = t := (List.getElem?_eq_some_iff.mp e).2
      rw [e2]
      simp only [loopF]
      congr 1
      funext ρ' Z'
      exact Z4n ts body n (k + 1) ρ' Z' (by omega) hk
theorem Z4o (lo : Int) (m : Nat) (body : T → FS) : ∀ (n k : Nat) (ρ : Env) (Z : Sto), m < n + k → k ≤ m → loopN (itRng lo m) body n k ρ Z = loopF body ((List.range' k (m - k)).map fun (i : Nat) => T.int (lo + (i : Int))) ρ Z
  | 0,k,ρ,Z,h,_ => by omega
  | n + 1,k,ρ,Z,h,_ => by
    unfold loopN
    simp only [itRng]
    by_cases hk : k < m
    · rw [if_pos hk]
      have e : m - k = (m - (k + 1)) + 1 := by omega
      rw [e, List.range'_succ, List.map_cons]
      simp only [loopF]
      congr 1
      funext ρ' Z'
      exact Z4o lo m body n (k + 1) ρ' Z' (by omega) hk
    · rw [if_neg hk]
      have : m - k = 0 := by omega
      rw [this]; rfl
theorem Z28 {body : T → FS} {ts : List T} (I : List T → Env → Sto → Prop) (Rt : T → Sto → Prop) : ∀ {pre : List T} {post : List T} {ρ : Env} {Z : Sto},ts = pre ++ post → I pre ρ Z →
    (∀ pre x post ρ Z, ts = pre ++ x :: post → I pre ρ Z → (∃ ρ' Z', (body x ρ Z = .nx ρ' Z' ∨ body x ρ Z = .ct ρ' Z') ∧ I (pre ++ [x]) ρ' Z') ∨ (∃ t Z', body x ρ Z = .rt t Z' ∧ Rt t Z')) →
    (∃ ρ' Z', loopF body post ρ Z = .nx ρ' Z' ∧ I ts ρ' Z') ∨ (∃ t Z', loopF body post ρ Z = .rt t Z' ∧ Rt t Z') := by
  intro pre post
  induction post generalizing pre with
  | nil =>
    intro ρ Z e i _
    rw [List.append_nil] at e
    exact .inl ⟨ρ,Z,rfl,by rw [e]; exact i⟩
  | cons x post ih =>
    intro ρ Z e i h
    rcases h pre x post ρ Z e i with ⟨ρ', Z', hb, i'⟩ | ⟨t, Z', hb, hr⟩
    · have e2 : loopF body (x :: post) ρ Z = loopF body post ρ' Z' := by
        rcases hb with hb | hb <;> simp only [loopF,hb,Z3d,Z7q]
      rw [e2]
      exact ih (by rw [e, List.append_assoc]; rfl) i' h
    · refine .inr ⟨t, Z', ?_, hr⟩
      simp only [loopF,hb,Zbq]
theorem Z4p {body : T → FS} {ts : List T} (I : List T → Env → Sto → Prop) {ρ : Env} {Z : Sto} (h0 : I [] ρ Z) (h : ∀ pre x post ρ Z, ts = pre ++ x :: post → I pre ρ Z → ∃ ρ' Z', (body x ρ Z = .nx ρ' Z' ∨ body x ρ Z = .ct ρ' Z') ∧ I (pre ++ [x]) ρ' Z') :
    ∃ ρ' Z', loopF body ts ρ Z = .nx ρ' Z' ∧ I ts ρ' Z' := by
  rcases Z28 I (fun _ _ => False) (pre := []) (post := ts) rfl h0 (fun pre x post ρ Z e i => .inl (h pre x post ρ Z e i)) with h | ⟨_,_,_,h⟩
  · exact h
  · exact h.elim
@[simp] theorem mulOk_r (i j : Int) (h1 : -(2 ^ 64) < j) (h2 : j < 2 ^ 64) : mulOk i j = true := by simp only [mulOk,decide_eq_true h1,decide_eq_true h2,Bool.and_true,Bool.or_true]
@[simp] theorem Zcb (i j : Int) (h1 : -(2 ^ 64) < i) (h2 : i < 2 ^ 64) : mulOk i j = true := by simp only [mulOk,decide_eq_true h1,decide_eq_true h2,Bool.and_true,Bool.true_or]
@[simp] theorem Z2w (x y m : Int) (h1 : 0 < m) (h2 : m ≤ 2 ^ 64) : mulOk (x % m) y = true := Zcb _ _ (by have := Int.emod_nonneg x (Int.ne_of_gt h1); omega) (by have := Int.emod_lt_of_pos x h1; omega)
@[simp] theorem ixN3_0 : ixN 3 0 = some 0 := (rfl)
@[simp] theorem ixN3_1 : ixN 3 1 = some 1 := (rfl)
@[simp] theorem ixN3_2 : ixN 3 2 = some 2 := (rfl)
theorem modN (x : Int) {n : Nat} (h : 0 < n) : ∃ r : Nat,r < n ∧ x % (n : Int) = (r : Int) :=
  ⟨(x % n).toNat,by have := Int.emod_lt_of_pos x (by omega : (0 : Int) < n); have := Int.emod_nonneg x (by omega : (n : Int) ≠ 0); omega,by have := Int.emod_nonneg x (by omega : (n : Int) ≠ 0); omega⟩
def StayL (i : Nat) (us : List T) (body : T → FS) : List T → Env → Sto → Prop
  | [],_,Z => getL Z i = some us
  | t :: r,ρ,Z => getL Z i = some us ∧ match body t ρ Z with
    | .nx ρ' Z' => StayL i us body r ρ' Z'
    | .ct ρ' Z' => StayL i us body r ρ' Z'
    | _ => True
theorem Z0p {i : Nat} {ts : List T} {body : T → FS} : ∀ (n k : Nat) (ρ : Env) (Z : Sto),ts.length < n + k → k ≤ ts.length → StayL i ts body (ts.drop k) ρ Z → loopN (itLoc i) body n k ρ Z = loopF body (ts.drop k) ρ Z
  | 0,k,ρ,Z,h,_,_ => by omega
  | n + 1,k,ρ,Z,h,_,hs => by
    unfold loopN
    cases e : ts[k]? with
    | none =>
      rw [List.drop_of_length_le (List.getElem?_eq_none_iff.mp e)] at hs ⊢
      simp only [itLoc,show getL Z i = some ts from hs,Option.map_some,e]; rfl
    | some t =>
      have hk := (List.getElem?_eq_some_iff.mp e).1
      have e2 : ts[k] = t := (List.getElem?_eq_some_iff.mp e).2
      rw [List.drop_eq_getElem_cons hk,e2] at hs ⊢
      obtain ⟨h1,h2⟩ := hs
      simp only [itLoc,h1,Option.map_some,e,loopF]
      cases eb : body t ρ Z with
      | nx ρ' Z' => rw [eb] at h2; simp only [Z3d]; exact Z0p n (k + 1) ρ' Z' (by omega) hk h2
      | ct ρ' Z' => rw [eb] at h2; simp only [Z7q]; exact Z0p n (k + 1) ρ' Z' (by omega) hk h2
      | _ => rfl
theorem Z7b {i : Nat} {ts : List T} {body : T → FS} {ρ : Env} {Z : Sto} (h : ts.length ≤ Lim) (hs : StayL i ts body ts ρ Z) : loopN (itLoc i) body Fuel 0 ρ Z = loopF body ts ρ Z := by
  rw [Q7]; exact Z0p (ts := ts) (Lim + 2) 0 ρ Z (by omega) (Nat.zero_le _) hs
theorem Z7c {ts : List T} {body : T → FS} {ρ : Env} {Z : Sto} (h : ts.length ≤ Lim) : loopN (itSeq ts) body Fuel 0 ρ Z = loopF body ts ρ Z := by
  rw [Q7]; exact Z4n ts body (Lim + 2) 0 ρ Z (by omega) (Nat.zero_le _)
theorem Z2x {lo : Int} {m : Nat} {body : T → FS} {ρ : Env} {Z : Sto} (h : m ≤ Lim) : loopN (itRng lo m) body Fuel 0 ρ Z = loopF body ((List.range m).map fun (i : Nat) => T.int (lo + (i : Int))) ρ Z := by
  rw [Q7, Z4o lo m body (Lim + 2) 0 ρ Z (by omega) (Nat.zero_le _), Nat.sub_zero, List.range_eq_range']
end Fx
set_option maxHeartbeats 4000000
namespace Fx
open PySem PySem.Spec PyProof.Rows L2 SX Ap
def Wel (Z : Sto) (w : Nat) : Prop := ∃ a b c : Int,getL Z w = some [.int a,.int b,.int c]
structure Kp (w : Nat) (Z Z' : Sto) : Prop where
  wel : Wel Z' w
  len : Z.length ≤ Z'.length
  keep : ∀ i, i < Z.length → i ≠ w → Z'[i]? = Z[i]?
theorem Wel.lt {Z : Sto} {w : Nat} (h : Wel Z w) : w < Z.length := by obtain ⟨_,_,_,h⟩ := h; exact Z27 h
theorem Kp.refl {w : Nat} {Z : Sto} (h : Wel Z w) : Kp w Z Z := ⟨h,Nat.le_refl _,fun _ _ _ => rfl⟩
theorem Kp.trans {w : Nat} {Z Z1 Z2 : Sto} (a : Kp w Z Z1) (b : Kp w Z1 Z2) : Kp w Z Z2 :=
  ⟨b.wel,Nat.le_trans a.len b.len,fun i hi hn => (b.keep i (Nat.lt_of_lt_of_le hi a.len) hn).trans (a.keep i hi hn)⟩
theorem Kp.new {w : Nat} {Z Y : Sto} (h : Wel Z w) : Kp w Z (Z ++ Y) := by
  refine ⟨?_,by rw [List.length_append]; omega,fun i hi _ => List.getElem?_append_left hi⟩
  obtain ⟨a,b,c,e⟩ := h
  exact ⟨a,b,c,Zo e⟩
theorem Kp.turn {w : Nat} {Z : Sto} {a b c : Int} (h : Wel Z w) : Kp w Z (Z.set w (.lst [.int a,.int b,.int c])) := by
  obtain ⟨x,y,z,e⟩ := h
  exact ⟨⟨a,b,c,Vk e⟩,by rw [List.length_set]; omega,fun i _ hn => List.getElem?_set_ne (Ne.symm hn)⟩
theorem Kp.set {w i : Nat} {Z : Sto} {o : O} (h : Wel Z w) (hi : i ≠ w) : Wel (Z.set i o) w := by
  obtain ⟨x,y,z,e⟩ := h
  exact ⟨x,y,z,by rw [Z5g hi]; exact e⟩
theorem Kp.getL {w i : Nat} {Z Z' : Sto} {ts : List T} (k : Kp w Z Z') (hn : i ≠ w) (h : getL Z i = some ts) : getL Z' i = some ts := by
  rw [Xo] at h ⊢
  rw [k.keep i (List.getElem?_eq_some_iff.mp h).1 hn]; exact h
@[simp] theorem Z3k (Z Y : Sto) (k : Nat) : getL (Z ++ Y) (Z.length + k) = getL Y k := by
  unfold getL
  rw [List.getElem?_append_right (by omega),Nat.add_sub_cancel_left]
@[simp] theorem Zdq (Z Y : Sto) : getL (Z ++ Y) Z.length = getL Y 0 := Z3k Z Y 0
@[simp] theorem getL_c0 (ts : List T) (Y : Sto) : getL (.lst ts :: Y) 0 = some ts := (rfl)
@[simp] theorem getL_cS (o : O) (Y : Sto) (k : Nat) : getL (o :: Y) (k + 1) = getL Y k := (rfl)
@[simp] theorem getL_c1 (o : O) (Y : Sto) : getL (o :: Y) 1 = getL Y 0 := (rfl)
@[simp] theorem getL_c2 (o : O) (Y : Sto) : getL (o :: Y) 2 = getL Y 1 := (rfl)
@[simp] theorem getL_c3 (o : O) (Y : Sto) : getL (o :: Y) 3 = getL Y 2 := (rfl)
@[simp] theorem getL_c4 (o : O) (Y : Sto) : getL (o :: Y) 4 = getL Y 3 := (rfl)
@[simp] theorem getL_c5 (o : O) (Y : Sto) : getL (o :: Y) 5 = getL Y 4 := (rfl)
@[simp] theorem getL_c6 (o : O) (Y : Sto) : getL (o :: Y) 6 = getL Y 5 := (rfl)
@[simp] theorem getL_c7 (o : O) (Y : Sto) : getL (o :: Y) 7 = getL Y 6 := (rfl)
@[simp] theorem getL_c8 (o : O) (Y : Sto) : getL (o :: Y) 8 = getL Y 7 := (rfl)
@[simp] theorem getL_c9 (o : O) (Y : Sto) : getL (o :: Y) 9 = getL Y 8 := (rfl)
@[simp] theorem getL_c10 (o : O) (Y : Sto) : getL (o :: Y) 10 = getL Y 9 := (rfl)
@[simp] theorem getL_c11 (o : O) (Y : Sto) : getL (o :: Y) 11 = getL Y 10 := (rfl)
@[simp] theorem getL_c12 (o : O) (Y : Sto) : getL (o :: Y) 12 = getL Y 11 := (rfl)
@[simp] theorem Zcc (Z Y : Sto) (k : Nat) (o : O) : (Z ++ Y).set (Z.length + k) o = Z ++ Y.set k o := by
  rw [List.set_append_right _ _ (by omega),Nat.add_sub_cancel_left]
@[simp] theorem set_add0 (Z Y : Sto) (o : O) : (Z ++ Y).set Z.length o = Z ++ Y.set 0 o := Zcc Z Y 0 o
@[simp] theorem Za8 (n : String) (Z Y : Sto) (k : Nat) : isTy n (.loc (Z.length + k)) (Z ++ Y) = isTy n (.loc k) Y := by
  simp only [isTy]
  rw [List.getElem?_append_right (by omega),Nat.add_sub_cancel_left]
@[simp] theorem Zdr (n : String) (Z Y : Sto) : isTy n (.loc Z.length) (Z ++ Y) = isTy n (.loc 0) Y := Za8 n Z Y 0
@[simp] theorem Zcd (Z Y : Sto) (k : Nat) : tyT (.loc (Z.length + k)) (Z ++ Y) = tyT (.loc k) Y := by
  simp only [tyT]
  rw [List.getElem?_append_right (by omega),Nat.add_sub_cancel_left]
@[simp] theorem tyT_add0 (Z Y : Sto) : tyT (.loc Z.length) (Z ++ Y) = tyT (.loc 0) Y := Zcd Z Y 0
theorem eq_self {x : T} {Z : Sto} {d : PyData} (hs : eqS x x = none) (h : toD 16 Z x = some d) (sh : SeqAt.shaped d = true) : gEqB x x Z = some true := by
  have e : PyData.eqv d d = true := SeqAt.eqv_refl d (SeqAt.canLay_of_shaped sh)
  simp only [gEqB,hs,gEqD,h,sh,and_self,if_true,e]
theorem Z8j {x : T} {Z : Sto} {d : PyData} (hs : eqS x x = none) (h : toD 16 Z x = some d) (sh : SeqAt.shaped d = true) : gNe x x Z = some (.bl false,Z) := by
  simp only [gNe,eq_self hs h sh,Option.map_some,Bool.not_true]
def OkW (r : R T) (P : T → Sto → Prop) : Prop := match r with
  | .ok t Z => P t Z
  | _ => False
@[simp] theorem okW_ok (t : T) (Z : Sto) (P : T → Sto → Prop) : OkW (.ok t Z) P = P t Z := (rfl)
theorem OkW.out {r : R T} {P : T → Sto → Prop} (h : OkW r P) : ∃ t Z,r = .ok t Z ∧ P t Z := by
  cases r with
  | ok t Z => exact ⟨t,Z,rfl,h⟩
  | _ => exact h.elim
@[simp] theorem lim_0 : (0 ≤ Lim) := by decide
@[simp] theorem limlt_0 : (0 < Lim) := by decide
@[simp] theorem lim_1 : (1 ≤ Lim) := by decide
@[simp] theorem limlt_1 : (1 < Lim) := by decide
@[simp] theorem lim_2 : (2 ≤ Lim) := by decide
@[simp] theorem limlt_2 : (2 < Lim) := by decide
@[simp] theorem lim_3 : (3 ≤ Lim) := by decide
@[simp] theorem limlt_3 : (3 < Lim) := by decide
@[simp] theorem lim_4 : (4 ≤ Lim) := by decide
@[simp] theorem limlt_4 : (4 < Lim) := by decide
@[simp] theorem lim_5 : (5 ≤ Lim) := by decide
@[simp] theorem limlt_5 : (5 < Lim) := by decide
@[simp] theorem lim_6 : (6 ≤ Lim) := by decide
@[simp] theorem limlt_6 : (6 < Lim) := by decide
@[simp] theorem lim_7 : (7 ≤ Lim) := by decide
@[simp] theorem limlt_7 : (7 < Lim) := by decide
@[simp] theorem lim_8 : (8 ≤ Lim) := by decide
@[simp] theorem limlt_8 : (8 < Lim) := by decide
@[simp] theorem lim_9 : (9 ≤ Lim) := by decide
@[simp] theorem limlt_9 : (9 < Lim) := by decide
@[simp] theorem lim_10 : (10 ≤ Lim) := by decide
@[simp] theorem limlt_10 : (10 < Lim) := by decide
@[simp] theorem lim_11 : (11 ≤ Lim) := by decide
@[simp] theorem limlt_11 : (11 < Lim) := by decide
@[simp] theorem lim_12 : (12 ≤ Lim) := by decide
@[simp] theorem limlt_12 : (12 < Lim) := by decide
@[simp] theorem lim_13 : (13 ≤ Lim) := by decide
@[simp] theorem limlt_13 : (13 < Lim) := by decide
@[simp] theorem lim_14 : (14 ≤ Lim) := by decide
@[simp] theorem limlt_14 : (14 < Lim) := by decide
@[simp] theorem lim_15 : (15 ≤ Lim) := by decide
@[simp] theorem limlt_15 : (15 < Lim) := by decide
@[simp] theorem lim_16 : (16 ≤ Lim) := by decide
@[simp] theorem limlt_16 : (16 < Lim) := by decide
@[simp] theorem lim_17 : (17 ≤ Lim) := by decide
@[simp] theorem limlt_17 : (17 < Lim) := by decide
@[simp] theorem lim_18 : (18 ≤ Lim) := by decide
@[simp] theorem limlt_18 : (18 < Lim) := by decide
@[simp] theorem lim_19 : (19 ≤ Lim) := by decide
@[simp] theorem limlt_19 : (19 < Lim) := by decide
@[simp] theorem lim_20 : (20 ≤ Lim) := by decide
@[simp] theorem limlt_20 : (20 < Lim) := by decide
@[simp] theorem lim_21 : (21 ≤ Lim) := by decide
@[simp] theorem limlt_21 : (21 < Lim) := by decide
@[simp] theorem lim_22 : (22 ≤ Lim) := by decide
@[simp] theorem limlt_22 : (22 < Lim) := by decide
@[simp] theorem lim_23 : (23 ≤ Lim) := by decide
@[simp] theorem limlt_23 : (23 < Lim) := by decide
@[simp] theorem lim_24 : (24 ≤ Lim) := by decide
@[simp] theorem limlt_24 : (24 < Lim) := by decide
@[simp] theorem lim_25 : (25 ≤ Lim) := by decide
@[simp] theorem limlt_25 : (25 < Lim) := by decide
@[simp] theorem lim_26 : (26 ≤ Lim) := by decide
@[simp] theorem limlt_26 : (26 < Lim) := by decide
@[simp] theorem lim_27 : (27 ≤ Lim) := by decide
@[simp] theorem limlt_27 : (27 < Lim) := by decide
@[simp] theorem lim_28 : (28 ≤ Lim) := by decide
@[simp] theorem limlt_28 : (28 < Lim) := by decide
@[simp] theorem lim_29 : (29 ≤ Lim) := by decide
@[simp] theorem limlt_29 : (29 < Lim) := by decide
@[simp] theorem lim_30 : (30 ≤ Lim) := by decide
@[simp] theorem limlt_30 : (30 < Lim) := by decide
@[simp] theorem lim_31 : (31 ≤ Lim) := by decide
@[simp] theorem limlt_31 : (31 < Lim) := by decide
@[simp] theorem lim_32 : (32 ≤ Lim) := by decide
@[simp] theorem limlt_32 : (32 < Lim) := by decide
@[simp] theorem lim_33 : (33 ≤ Lim) := by decide
@[simp] theorem limlt_33 : (33 < Lim) := by decide
@[simp] theorem lim_34 : (34 ≤ Lim) := by decide
@[simp] theorem limlt_34 : (34 < Lim) := by decide
@[simp] theorem lim_35 : (35 ≤ Lim) := by decide
@[simp] theorem limlt_35 : (35 < Lim) := by decide
@[simp] theorem lim_36 : (36 ≤ Lim) := by decide
@[simp] theorem limlt_36 : (36 < Lim) := by decide
@[simp] theorem lim_37 : (37 ≤ Lim) := by decide
@[simp] theorem limlt_37 : (37 < Lim) := by decide
@[simp] theorem lim_38 : (38 ≤ Lim) := by decide
@[simp] theorem limlt_38 : (38 < Lim) := by decide
@[simp] theorem lim_39 : (39 ≤ Lim) := by decide
@[simp] theorem limlt_39 : (39 < Lim) := by decide
@[simp] theorem lim_40 : (40 ≤ Lim) := by decide
@[simp] theorem limlt_40 : (40 < Lim) := by decide
@[simp] theorem lim_41 : (41 ≤ Lim) := by decide
@[simp] theorem limlt_41 : (41 < Lim) := by decide
@[simp] theorem lim_42 : (42 ≤ Lim) := by decide
@[simp] theorem limlt_42 : (42 < Lim) := by decide
@[simp] theorem lim_43 : (43 ≤ Lim) := by decide
@[simp] theorem limlt_43 : (43 < Lim) := by decide
@[simp] theorem lim_44 : (44 ≤ Lim) := by decide
@[simp] theorem limlt_44 : (44 < Lim) := by decide
@[simp] theorem lim_45 : (45 ≤ Lim) := by decide
@[simp] theorem limlt_45 : (45 < Lim) := by decide
@[simp] theorem lim_46 : (46 ≤ Lim) := by decide
@[simp] theorem limlt_46 : (46 < Lim) := by decide
@[simp] theorem lim_47 : (47 ≤ Lim) := by decide
@[simp] theorem limlt_47 : (47 < Lim) := by decide
@[simp] theorem lim_48 : (48 ≤ Lim) := by decide
@[simp] theorem limlt_48 : (48 < Lim) := by decide
@[simp] theorem isTy_c1 (n : String) (o : O) (Y : Sto) : isTy n (.loc 1) (o :: Y) = isTy n (.loc 0) Y := (rfl)
@[simp] theorem isTy_c2 (n : String) (o : O) (Y : Sto) : isTy n (.loc 2) (o :: Y) = isTy n (.loc 1) Y := (rfl)
@[simp] theorem isTy_c3 (n : String) (o : O) (Y : Sto) : isTy n (.loc 3) (o :: Y) = isTy n (.loc 2) Y := (rfl)
@[simp] theorem isTy_c4 (n : String) (o : O) (Y : Sto) : isTy n (.loc 4) (o :: Y) = isTy n (.loc 3) Y := (rfl)
@[simp] theorem isTy_c5 (n : String) (o : O) (Y : Sto) : isTy n (.loc 5) (o :: Y) = isTy n (.loc 4) Y := (rfl)
@[simp] theorem isTy_c6 (n : String) (o : O) (Y : Sto) : isTy n (.loc 6) (o :: Y) = isTy n (.loc 5) Y := (rfl)
@[simp] theorem isTy_c7 (n : String) (o : O) (Y : Sto) : isTy n (.loc 7) (o :: Y) = isTy n (.loc 6) Y := (rfl)
@[simp] theorem isTy_c8 (n : String) (o : O) (Y : Sto) : isTy n (.loc 8) (o :: Y) = isTy n (.loc 7) Y := (rfl)
@[simp] theorem isTy_c9 (n : String) (o : O) (Y : Sto) : isTy n (.loc 9) (o :: Y) = isTy n (.loc 8) Y := (rfl)
@[simp] theorem isTy_c10 (n : String) (o : O) (Y : Sto) : isTy n (.loc 10) (o :: Y) = isTy n (.loc 9) Y := (rfl)
@[simp] theorem isTy_c11 (n : String) (o : O) (Y : Sto) : isTy n (.loc 11) (o :: Y) = isTy n (.loc 10) Y := (rfl)
@[simp] theorem isTy_c12 (n : String) (o : O) (Y : Sto) : isTy n (.loc 12) (o :: Y) = isTy n (.loc 11) Y := (rfl)
@[simp] theorem tyT_c1 (o : O) (Y : Sto) : tyT (.loc 1) (o :: Y) = tyT (.loc 0) Y := (rfl)
@[simp] theorem tyT_c2 (o : O) (Y : Sto) : tyT (.loc 2) (o :: Y) = tyT (.loc 1) Y := (rfl)
@[simp] theorem tyT_c3 (o : O) (Y : Sto) : tyT (.loc 3) (o :: Y) = tyT (.loc 2) Y := (rfl)
@[simp] theorem tyT_c4 (o : O) (Y : Sto) : tyT (.loc 4) (o :: Y) = tyT (.loc 3) Y := (rfl)
@[simp] theorem tyT_c5 (o : O) (Y : Sto) : tyT (.loc 5) (o :: Y) = tyT (.loc 4) Y := (rfl)
@[simp] theorem tyT_c6 (o : O) (Y : Sto) : tyT (.loc 6) (o :: Y) = tyT (.loc 5) Y := (rfl)
@[simp] theorem tyT_c7 (o : O) (Y : Sto) : tyT (.loc 7) (o :: Y) = tyT (.loc 6) Y := (rfl)
@[simp] theorem tyT_c8 (o : O) (Y : Sto) : tyT (.loc 8) (o :: Y) = tyT (.loc 7) Y := (rfl)
@[simp] theorem tyT_c9 (o : O) (Y : Sto) : tyT (.loc 9) (o :: Y) = tyT (.loc 8) Y := (rfl)
@[simp] theorem tyT_c10 (o : O) (Y : Sto) : tyT (.loc 10) (o :: Y) = tyT (.loc 9) Y := (rfl)
@[simp] theorem tyT_c11 (o : O) (Y : Sto) : tyT (.loc 11) (o :: Y) = tyT (.loc 10) Y := (rfl)
@[simp] theorem tyT_c12 (o : O) (Y : Sto) : tyT (.loc 12) (o :: Y) = tyT (.loc 11) Y := (rfl)
@[simp] theorem isTy_c0 (ts : List T) (Y : Sto) : isTy "list" (.loc 0) (.lst ts :: Y) = true := (rfl)
@[simp] theorem tyT_c0 (ts : List T) (Y : Sto) : tyT (.loc 0) (.lst ts :: Y) = some "list" := (rfl)
@[simp] theorem tyT_c0k (ts : List (Key × T)) (Y : Sto) : tyT (.loc 0) (.dk ts :: Y) = some "dict" := (rfl)
abbrev StepI (body : T → FS) (ts : List T) (I : List T → Env → Sto → Prop) (Rt : T → Sto → Prop) : Prop :=
  ∀ pre x post ρ Z, ts = pre ++ x :: post → I pre ρ Z → (∃ ρ' Z', (body x ρ Z = .nx ρ' Z' ∨ body x ρ Z = .ct ρ' Z') ∧ I (pre ++ [x]) ρ' Z') ∨ (∃ t Z', body x ρ Z = .rt t Z' ∧ Rt t Z')
theorem Z6d {i : Nat} {ts : List T} {body : T → FS} {I : List T → Env → Sto → Prop} {Rt : T → Sto → Prop} (hI : ∀ pre ρ Z,I pre ρ Z → getL Z i = some ts) (h : StepI body ts I Rt) : ∀ (post : List T) {pre : List T} {ρ : Env} {Z : Sto},ts = pre ++ post → I pre ρ Z → StayL i ts body post ρ Z
  | [],pre,ρ,Z,e,k => hI _ _ _ k
  | x :: post,pre,ρ,Z,e,k => by
    refine ⟨hI _ _ _ k,?_⟩
    rcases h pre x post ρ Z e k with ⟨ρ', Z', hb, k'⟩ | ⟨t, Z', hb, _⟩
    · have := Z6d hI h post (by rw [e, List.append_assoc]; rfl) k'
      rcases hb with hb | hb <;> rw [hb] <;> exact this
    · rw [hb]; trivial
theorem Z8k {i : Nat} {ts : List T} {body : T → FS} {ρ : Env} {Z : Sto} (I : List T → Env → Sto → Prop) (Rt : T → Sto → Prop) (hl : ts.length ≤ Lim) (hI : ∀ pre ρ Z,I pre ρ Z → getL Z i = some ts) (h0 : I [] ρ Z) (h : StepI body ts I Rt) :
    (∃ ρ' Z', loopN (itLoc i) body Fuel 0 ρ Z = .nx ρ' Z' ∧ I ts ρ' Z') ∨ (∃ t Z', loopN (itLoc i) body Fuel 0 ρ Z = .rt t Z' ∧ Rt t Z') := by
  rw [Z7b hl (Z6d hI h ts rfl h0)]
  exact Z28 I Rt (pre := []) rfl h0 h
theorem Z8l {ts : List T} {body : T → FS} {ρ : Env} {Z : Sto} (I : List T → Env → Sto → Prop) (Rt : T → Sto → Prop) (hl : ts.length ≤ Lim) (h0 : I [] ρ Z) (h : StepI body ts I Rt) :
    (∃ ρ' Z', loopN (itSeq ts) body Fuel 0 ρ Z = .nx ρ' Z' ∧ I ts ρ' Z') ∨ (∃ t Z', loopN (itSeq ts) body Fuel 0 ρ Z = .rt t Z' ∧ Rt t Z') := by
  rw [Z7c hl]
  exact Z28 I Rt (pre := []) rfl h0 h
theorem Z8m {i : Nat} {ts : List T} {body : T → FS} {ρ : Env} {Z : Sto} (I : Env → Sto → Prop) (hl : ts.length ≤ Lim) (hI : ∀ ρ Z, I ρ Z → getL Z i = some ts) (h0 : I ρ Z) (h : ∀ x ∈ ts, ∀ ρ Z, I ρ Z → ∃ ρ' Z', body x ρ Z = .nx ρ' Z' ∧ I ρ' Z') :
    ∃ ρ' Z', loopN (itLoc i) body Fuel 0 ρ Z = .nx ρ' Z' ∧ I ρ' Z' := by
  rcases Z8k (ts := ts) (fun _ => I) (fun _ _ => False) hl (fun _ => hI) h0 (fun pre x post ρ Z e k => by
    obtain ⟨ρ', Z', hb, k'⟩ := h x (by rw [e]; simp) ρ Z k
    exact .inl ⟨ρ', Z', .inl hb, k'⟩) with r | ⟨_, _, _, r⟩
  · exact r
  · exact r.elim
theorem Z8n {ts : List T} {body : T → FS} {ρ : Env} {Z : Sto} (I : Env → Sto → Prop) (hl : ts.length ≤ Lim) (h0 : I ρ Z) (h : ∀ x ∈ ts, ∀ ρ Z, I ρ Z → ∃ ρ' Z', body x ρ Z = .nx ρ' Z' ∧ I ρ' Z') :
    ∃ ρ' Z', loopN (itSeq ts) body Fuel 0 ρ Z = .nx ρ' Z' ∧ I ρ' Z' := by
  rcases Z8l (ts := ts) (fun _ => I) (fun _ _ => False) hl h0 (fun pre x post ρ Z e k => by
    obtain ⟨ρ', Z', hb, k'⟩ := h x (by rw [e]; simp) ρ Z k
    exact .inl ⟨ρ', Z', .inl hb, k'⟩) with r | ⟨_, _, _, r⟩
  · exact r
  · exact r.elim
theorem Z8o {m : Nat} {body : T → FS} {ρ : Env} {Z : Sto} (I : Env → Sto → Prop) (hl : m ≤ Lim) (h0 : I ρ Z) (h : ∀ k < m, ∀ ρ Z, I ρ Z → ∃ ρ' Z', body (.int (k : Int)) ρ Z = .nx ρ' Z' ∧ I ρ' Z') :
    ∃ ρ' Z', loopN (itRng 0 m) body Fuel 0 ρ Z = .nx ρ' Z' ∧ I ρ' Z' := by
  rw [Z2x hl]
  refine Z4p (fun _ => I) h0 fun pre x post ρ Z e k => ?_
  have hx : x ∈ (List.range m).map fun (i : Nat) => T.int ((0 : Int) + (i : Int)) := by rw [e]; simp
  obtain ⟨j,hj,rfl⟩ := List.mem_map.mp hx
  obtain ⟨ρ', Z', hb, k'⟩ := h j (List.mem_range.mp hj) ρ Z k
  refine ⟨ρ', Z', .inl ?_, k'⟩
  rw [Int.zero_add]; exact hb
end Fx
set_option maxHeartbeats 4000000
namespace Fx
open PySem PySem.Spec PyProof.Rows L2 SX Ap
theorem Jm {it : ItF} {D : Nat} {put : T → Option Env} {c : FT} {e : FE} {ts : List T} (I : List T → List T → Sto → Prop) (hit : ∀ pre acc Z,pre.length ≤ ts.length → I pre acc Z → it pre.length Z = some ts[pre.length]?) (hI : ∀ pre acc Z,I pre acc Z → getL Z D = some acc)
    (h : ∀ pre x post acc Z,ts = pre ++ x :: post → I pre acc Z → ∃ ρ,put x = some ρ ∧ ((∃ Z1,c ρ Z = .ok false Z1 ∧ I (pre ++ [x]) acc Z1) ∨ ∃ Z1 y Z2,c ρ Z = .ok true Z1 ∧ e ρ Z1 = .ok y Z2 ∧ getL Z2 D = some acc ∧ I (pre ++ [x]) (acc ++ [y]) (Z2.set D (.lst (acc ++ [y]))))) :
    ∀ (post pre acc : List T) (Z : Sto) (n : Nat), ts = pre ++ post → ts.length < n + pre.length → acc.length + post.length ≤ Lim → I pre acc Z → ∃ acc' Z', loopC it D put c e n pre.length Z = .ok (.loc D) Z' ∧ I ts acc' Z'
  | [],pre,acc,Z,n,et,hn,hl,hi => by
    rw [List.append_nil] at et
    subst et
    cases n with
    | zero => omega
    | succ n =>
      refine ⟨acc,Z,?_,hi⟩
      unfold loopC
      rw [hit _ _ _ (Nat.le_refl _) hi,List.getElem?_eq_none (Nat.le_refl _)]
  | x :: post,pre,acc,Z,n,et,hn,hl,hi => by
    cases n with
    | zero =>
      have : ts.length = pre.length + (post.length + 1) := by rw [et,List.length_append,List.length_cons]
      omega
    | succ n =>
      have hlen : ts.length = pre.length + (post.length + 1) := by rw [et,List.length_append,List.length_cons]
      have hx : ts[pre.length]? = some x := by rw [et,List.getElem?_append_right (Nat.le_refl _),Nat.sub_self]; rfl
      obtain ⟨ρ,hp,hh⟩ := h pre x post acc Z et hi
      have et2 : ts = (pre ++ [x]) ++ post := by rw [et,List.append_assoc]; rfl
      have hl2 : (pre ++ [x]).length = pre.length + 1 := by rw [List.length_append]; rfl
      unfold loopC
      rw [hit _ _ _ (by omega) hi,hx]
      simp only [hp]
      rcases hh with ⟨Z1,hc,i1⟩ | ⟨Z1,y,Z2,hc,he,hg,i1⟩
      · rw [hc]
        simp only [Zb6,Yk,Bool.false_eq_true,if_false]
        rw [List.length_cons] at hl
        have := Jm I hit hI h post (pre ++ [x]) acc Z1 n et2 (by omega) (by omega) i1
        rw [hl2] at this
        exact this
      · rw [hc]
        rw [List.length_cons] at hl
        simp only [Zb6,Yk,if_true,he,hg]
        rw [if_pos (by omega)]
        have := Jm I hit hI h post (pre ++ [x]) (acc ++ [y]) _ n et2 (by omega) (by rw [List.length_append,List.length_singleton]; omega) i1
        rw [hl2] at this
        exact this
theorem Z29 {it : ItF} {D : Nat} {put : T → Option Env} {c : FT} {e : FE} {ts : List T} (hit : ∀ k Z,k ≤ ts.length → it k Z = some ts[k]?) (I : List T → List T → Sto → Prop) (hI : ∀ pre acc Z,I pre acc Z → getL Z D = some acc)
    (h : ∀ pre x post acc Z, ts = pre ++ x :: post → I pre acc Z → ∃ ρ, put x = some ρ ∧ ((∃ Z1, c ρ Z = .ok false Z1 ∧ I (pre ++ [x]) acc Z1) ∨ ∃ Z1 y Z2, c ρ Z = .ok true Z1 ∧ e ρ Z1 = .ok y Z2 ∧ getL Z2 D = some acc ∧ I (pre ++ [x]) (acc ++ [y]) (Z2.set D (.lst (acc ++ [y]))))) (post pre acc : List T) (Z : Sto) (n : Nat) (e1 : ts = pre ++ post) (e2 : ts.length < n + pre.length) (e3 : acc.length + post.length ≤ Lim) (e4 : I pre acc Z) : ∃ acc' Z', loopC it D put c e n pre.length Z = .ok (.loc D) Z' ∧ I ts acc' Z' :=
  Jm I (fun pre acc Z hl _ => hit _ _ hl) hI h post pre acc Z n e1 e2 e3 e4
theorem Np (ts : List T) : ∀ k Z,k ≤ ts.length → itSeq ts k Z = some ts[k]? := fun _ _ _ => rfl
theorem Zce (l : List Nat) : ∀ k Z,k ≤ (l.map fun c => T.str [c]).length → itStr l k Z = some (l.map fun c => T.str [c])[k]? := fun k Z _ => by simp [itStr]
theorem Zcf (lo : Int) (m : Nat) : ∀ k Z,k ≤ ((List.range m).map fun (i : Nat) => T.int (lo + (i : Int))).length → itRng lo m k Z = some ((List.range m).map fun (i : Nat) => T.int (lo + (i : Int)))[k]? := fun k Z _ => by
  simp only [itRng,List.getElem?_map]
  by_cases h : k < m
  · rw [if_pos h,List.getElem?_range h]; rfl
  · rw [if_neg h,List.getElem?_eq_none (by rw [List.length_range]; omega)]; rfl
theorem Z6e {m : Nat} {lo : Int} {pre post : List T} {x : T} (h : ((List.range m).map fun (i : Nat) => T.int (lo + (i : Int))) = pre ++ x :: post) : x = .int (lo + (pre.length : Int)) ∧ pre.length < m := by
  have hx : (pre ++ x :: post)[pre.length]? = some x := by rw [List.getElem?_append_right (Nat.le_refl _),Nat.sub_self]; rfl
  have hl := congrArg List.length h
  rw [List.length_map,List.length_range,List.length_append,List.length_cons] at hl
  rw [← h,List.getElem?_map,List.getElem?_range (by omega)] at hx
  exact ⟨(Option.some.inj hx).symm,by omega⟩
theorem Z2a {m D : Nat} {put : T → Option Env} {c : FT} {e : FE} {Z : Sto} (J : Nat → List T → Sto → Prop) (hl : m ≤ Lim) (hJ : ∀ k acc Z,J k acc Z → getL Z D = some acc) (h0 : J 0 [] Z)
    (h : ∀ k < m,∀ acc Z,J k acc Z → ∃ ρ,put (.int (k : Int)) = some ρ ∧ ((∃ Z1,c ρ Z = .ok false Z1 ∧ J (k + 1) acc Z1) ∨ ∃ Z1 y Z2,c ρ Z = .ok true Z1 ∧ e ρ Z1 = .ok y Z2 ∧ getL Z2 D = some acc ∧ J (k + 1) (acc ++ [y]) (Z2.set D (.lst (acc ++ [y]))))) :
    ∃ acc Z', loopC (itRng 0 m) D put c e Fuel 0 Z = .ok (.loc D) Z' ∧ J m acc Z' := by
  have hlen : ((List.range m).map fun (i : Nat) => T.int (0 + (i : Int))).length = m := by rw [List.length_map,List.length_range]
  have := Z29 (Zcf 0 m) (D := D) (put := put) (c := c) (e := e) (fun pre acc Z => J pre.length acc Z) (fun pre acc Z => hJ _ acc Z) (fun pre x post acc Z et hi => by
    obtain ⟨rfl,hk⟩ := Z6e et
    rw [Int.zero_add]
    have := h pre.length hk acc Z hi
    simpa using this) ((List.range m).map fun (i : Nat) => T.int (0 + (i : Int))) [] [] Z Fuel rfl (by rw [hlen,Q7]; simp; omega) (by rw [hlen]; simpa using hl) h0
  rw [hlen] at this
  exact this
theorem Vs {it : ItF} {put : T → Option Env} {c : FT} {e : FE} {ts : List T} {Z1 : Sto} (hit : ∀ k Z,k ≤ ts.length → it k Z = some ts[k]?) (hl : ts.length ≤ Lim) (p : T → Bool) (f : T → T)
    (h : ∀ x ∈ ts,∃ ρ,put x = some ρ ∧ ∀ acc,c ρ (Z1 ++ [.lst acc]) = .ok (p x) (Z1 ++ [.lst acc]) ∧ (p x = true → e ρ (Z1 ++ [.lst acc]) = .ok (f x) (Z1 ++ [.lst acc]))) :
    loopC it Z1.length put c e Fuel 0 (Z1 ++ [.lst []]) = .ok (.loc Z1.length) (Z1 ++ [.lst ((ts.filter p).map f)]) := by
  obtain ⟨acc, Z', e1, rfl, rfl⟩ := Z29 hit (D := Z1.length) (put := put) (c := c) (e := e) (fun pre acc Z => acc = (pre.filter p).map f ∧ Z = Z1 ++ [.lst acc]) (fun pre acc Z h => by obtain ⟨_, rfl⟩ := h; exact Zm _ _) (fun pre x post acc Z et hi => by
    obtain ⟨rfl,rfl⟩ := hi
    obtain ⟨ρ,hp,hc⟩ := h x (by rw [et]; simp)
    refine ⟨ρ,hp,?_⟩
    cases hx : p x with
    | false => exact .inl ⟨_,by rw [(hc _).1,hx],by simp [List.filter_append,hx]⟩
    | true => exact .inr ⟨_,f x,_,by rw [(hc _).1,hx],(hc _).2 hx,Zm _ _,by simp [List.filter_append,hx]⟩) ts [] [] (Z1 ++ [.lst []]) Fuel rfl (by rw [Q7]; simp; omega) (by simpa using hl) ⟨rfl,rfl⟩
  exact e1
theorem Z5h {i : Nat} {put : T → Option Env} {c : FT} {e : FE} {ts : List T} {Z1 : Sto} (hg : getL Z1 i = some ts) (hl : ts.length ≤ Lim) (p : T → Bool) (f : T → T)
    (h : ∀ x ∈ ts,∃ ρ,put x = some ρ ∧ ∀ acc,c ρ (Z1 ++ [.lst acc]) = .ok (p x) (Z1 ++ [.lst acc]) ∧ (p x = true → e ρ (Z1 ++ [.lst acc]) = .ok (f x) (Z1 ++ [.lst acc]))) :
    loopC (itLoc i) Z1.length put c e Fuel 0 (Z1 ++ [.lst []]) = .ok (.loc Z1.length) (Z1 ++ [.lst ((ts.filter p).map f)]) := by
  obtain ⟨acc, Z', e1, rfl, rfl⟩ := Jm (it := itLoc i) (ts := ts) (D := Z1.length) (put := put) (c := c) (e := e) (fun pre acc Z => acc = (pre.filter p).map f ∧ Z = Z1 ++ [.lst acc]) (fun pre acc Z hl h => by obtain ⟨_, rfl⟩ := h; simp only [itLoc, Zo hg, Option.map_some]) (fun pre acc Z h => by obtain ⟨_, rfl⟩ := h; exact Zm _ _) (fun pre x post acc Z et hi => by
    obtain ⟨rfl,rfl⟩ := hi
    obtain ⟨ρ,hp,hc⟩ := h x (by rw [et]; simp)
    refine ⟨ρ,hp,?_⟩
    cases hx : p x with
    | false => exact .inl ⟨_,by rw [(hc _).1,hx],by simp [List.filter_append,hx]⟩
    | true => exact .inr ⟨_,f x,_,by rw [(hc _).1,hx],(hc _).2 hx,Zm _ _,by simp [List.filter_append,hx]⟩) ts [] [] (Z1 ++ [.lst []]) Fuel rfl (by rw [Q7]; simp; omega) (by simpa using hl) ⟨rfl,rfl⟩
  exact e1
theorem Vc (i : Nat) (Z : Sto) : asList (.loc i) Z = getL Z i := by
  simp only [asList,getL]
  all_goals (cases Z[i]? with
    | none => rfl
    | some o => cases o <;> rfl)
@[simp] theorem all_l (n : Nat) (Z : Sto) : gAll [.loc n] Z = (getL Z n).bind fun ts => (bools ts).map fun bs => (.bl (bs.all id),Z) := by
  simp only [gAll,Vc]
@[simp] theorem any_l (n : Nat) (Z : Sto) : gAny [.loc n] Z = (getL Z n).bind fun ts => (bools ts).map fun bs => (.bl (bs.any id),Z) := by
  simp only [gAny,Vc]
theorem Z07 {α : Type} (f : α → Bool) : ∀ l : List α,bools (l.map fun x => .bl (f x)) = some (l.map f)
  | [] => rfl
  | x :: l => by simp [bools,Z07 f l]
@[simp] theorem str_i (i : Int) (Z : Sto) : gStr [.int i] Z = if i.natAbs < 10 ^ 4300 then some (.str (dec i),Z) else none := (rfl)
@[simp] theorem abs_i (i : Int) (Z : Sto) : gAbs [.int i] Z = some (.int (if i < 0 then -i else i),Z) := (rfl)
@[simp] theorem intT_i (i : Int) (Z : Sto) : gIntT [.int i] Z = some (.int i,Z) := (rfl)
@[simp] theorem intT_b (b : Bool) (Z : Sto) : gIntT [.bl b] Z = some (.int (if b then 1 else 0),Z) := (rfl)
@[simp] theorem intT_s (l : List Nat) (Z : Sto) : gIntT [.str l] Z = if l.all (· < 128) = true ∧ l.length ≤ 100000 then (PySem.intText? (S l)).map fun n => (.int n,Z) else none := (rfl)
@[simp] theorem sw_s (a b : List Nat) (Z : Sto) : gStarts (.str a) [.str b] Z = some (.bl (b.isPrefixOf a),Z) := (rfl)
@[simp] theorem in_cs (c : Nat) (l : List Nat) (Z : Sto) : gIn (.str [c]) (.str l) Z = some (.bl (decide (c ∈ l)),Z) := (rfl)
@[simp] theorem nin_cs (c : Nat) (l : List Nat) (Z : Sto) : gNotIn (.str [c]) (.str l) Z = some (.bl (!decide (c ∈ l)),Z) := (rfl)
@[simp] theorem q_callK (F : FF) (g : List T → List T) (fa : FA) (ρ : Env) (Z : Sto) : eCallK F g fa ρ Z = (fa ρ Z).bind fun ts Z1 => F (g ts) Z1 := (rfl)
theorem Z8p (x : T) (ts : List T) (Z : Sto) : gInB x (.tup ts) Z = if flatT x = true ∧ ts.all flatT = true then some (inT x ts) else none := by
  cases x with
  | str l => match l with
    | [] => rfl
    | [_] => rfl
    | _ :: _ :: _ => rfl
  | _ => rfl
@[simp] theorem in_tup (x : T) (ts : List T) (Z : Sto) : gIn x (.tup ts) Z = if flatT x = true ∧ ts.all flatT = true then some (.bl (inT x ts),Z) else none := by
  simp only [gIn,Z8p]
  split <;> rfl
@[simp] theorem nin_tup (x : T) (ts : List T) (Z : Sto) : gNotIn x (.tup ts) Z = if flatT x = true ∧ ts.all flatT = true then some (.bl (!inT x ts),Z) else none := by
  simp only [gNotIn,Z8p]
  split <;> rfl
def okS (l : List Nat) : Bool := l.all (· < 0x110000)
theorem Za9 {l : List Nat} (h : okS l = true) : PyData.strOk (S l) = true := by
  unfold PyData.strOk
  rw [← Array.all_toList]
  exact h
theorem Kp.put {w D : Nat} {Z Z' : Sto} {o : O} (k : Kp w Z Z') (hD : Z.length ≤ D) (hw : w < Z.length) : Kp w Z (Z'.set D o) :=
  ⟨Kp.set k.wel (by omega),by rw [List.length_set]; exact k.len,fun i hi hn => by rw [List.getElem?_set_ne (by omega)]; exact k.keep i hi hn⟩
theorem Z3l (i j : Nat) (Z : Sto) {a b : List T} (h1 : getL Z i = some a) (h2 : getL Z j = some b) (h : a.length + b.length ≤ Lim) : gAdd (.loc i) (.loc j) Z = some (.loc Z.length,Z ++ [.lst (a ++ b)]) := by rw [Z6b,h1,h2]; exact if_pos h
theorem Z8q (n : Nat) (t : T) (Z : Sto) {ts : List T} (h1 : getL Z n = some ts) (h : ts.length < Lim) : gAppend (.loc n) [t] Z = some (.non,Z.set n (.lst (ts ++ [t]))) := by rw [app_l,h1]; exact if_pos h
end Fx
set_option maxHeartbeats 4000000
namespace Fx
open PySem PySem.Spec PyProof.Rows L2 SX
section
variable (ρ : Env) (Z : Sto)
@[simp] theorem q_callN (F : FF) (g : List T → List T → List T) (fa fk : FA) : eCallN F g fa fk ρ Z = (fa ρ Z).bind fun ts Z1 => (fk ρ Z1).bind fun us Z2 => F (g ts us) Z2 := (rfl)
@[simp] theorem q_lam (F : (Sto → R T) → T → FF) (fb : FE) (fa : FA) : eLam F fb fa ρ Z = (fa ρ Z).bind fun ts Z1 => F (fun Z' => fb ρ Z') .non (.non :: ts) Z1 := (rfl)
@[simp] theorem q_ask0 (fl : Sto → R T) (lv : T) : eAsk fl lv 0 (some lv :: ρ) Z = fl Z := by
  unfold eAsk
  exact if_pos rfl
@[simp] theorem q_kdIx (l : List (List Nat × List Nat)) (fe : FE) : eKdIx l fe ρ Z = (fe ρ Z).bind fun x Z1 => match kdGet l x with | some v => .ok (.str v) Z1 | none => .stuck := (rfl)
@[simp] theorem Zds (l : List (List Nat × List Nat)) : iKdItems l ρ Z = .ok (itSeq (l.map fun x => .tup [.str x.1,.str x.2])) Z := (rfl)
theorem Z8r (nm : PySem.Str) (i : Nat) (b : FS) (fe : Ex → FE) : sTryAs nm i b fe ρ Z = match b ρ Z with
  | .exc x ρ' Z' => if x.cls = nm ∧ i < ρ'.length ∧ x.fs.isEmpty = false then (match fe x (ρ'.set i none) Z' with
    | .ok t Z2 => .rt t Z2
    | _ => .stuck) else .stuck
  | r => r := (rfl)
end
@[simp] theorem pick_nil {α : Type} (l : List α) : pick [] l = [] := (rfl)
@[simp] theorem pick_c0 {α : Type} (ix : List Nat) (a : α) (l : List α) : pick (0 :: ix) (a :: l) = a :: pick ix (a :: l) := (rfl)
theorem lookup_at (f : PySem.Str) (t : T) (r : List (PySem.Str × T)) : List.lookup f ((f,t) :: r) = some t := by rw [List.lookup_cons,beq_self_eq_true]
@[simp] theorem ne_nn (Z : Sto) : gNe .non .non Z = some (.bl false,Z) := (rfl)
@[simp] theorem eq_nn (Z : Sto) : gEq .non .non Z = some (.bl true,Z) := (rfl)
@[simp] theorem eq_ns (l : List Nat) (Z : Sto) : gEq .non (.str l) Z = some (.bl false,Z) := (rfl)
@[simp] theorem eq_sn (l : List Nat) (Z : Sto) : gEq (.str l) .non Z = some (.bl false,Z) := (rfl)
@[simp] theorem ne_ns (l : List Nat) (Z : Sto) : gNe .non (.str l) Z = some (.bl true,Z) := (rfl)
@[simp] theorem ne_sn (l : List Nat) (Z : Sto) : gNe (.str l) .non Z = some (.bl true,Z) := (rfl)
end Fx
set_option maxHeartbeats 4000000
namespace Fx
open PySem PySem.Spec PyProof.Rows L2 SX Ap
theorem Z8s {Z : Sto} {i : Nat} {ts : List T} (h : getL Z i = some ts) : getDK Z i = none := by
  unfold getDK
  rw [Xo.mp h]
@[simp] theorem ixW_s (l : List Nat) (y : T) (Z : Sto) : gIxW (.str l) y Z = gIx (.str l) y Z := (rfl)
@[simp] theorem ixW_t (l : List T) (y : T) (Z : Sto) : gIxW (.tup l) y Z = gIx (.tup l) y Z := (rfl)
@[simp] theorem ixW_f (l : List T) (y : T) (Z : Sto) : gIxW (.frl l) y Z = gIx (.frl l) y Z := (rfl)
theorem ixW_l {Z : Sto} {i : Nat} {ts : List T} (y : T) (h : getL Z i = some ts) : gIxW (.loc i) y Z = gIx (.loc i) y Z := by
  simp only [gIxW,Z8s h]
theorem Z2y {Z : Sto} {i : Nat} {ts : List T} (k : Int) (h : getL Z i = some ts) : gIxW (.loc i) (.int k) Z = (atI ts k).map fun t => (t,Z) := by
  rw [ixW_l _ h,Zdp,h]
theorem Zdt {Z : Sto} {i : Nat} {ts : List T} (y t : T) (h : getL Z i = some ts) : gSetW (.loc i) y t Z = gSetL (.loc i) y t Z := by
  simp only [gSetW,Z8s h]
@[simp] theorem inW_t (x : T) (ts : List T) (Z : Sto) : gInW x (.tup ts) Z = gIn x (.tup ts) Z := (rfl)
@[simp] theorem inW_s (x : T) (l : List Nat) (Z : Sto) : gInW x (.str l) Z = gIn x (.str l) Z := (rfl)
@[simp] theorem notInW_t (x : T) (ts : List T) (Z : Sto) : gNotInW x (.tup ts) Z = gNotIn x (.tup ts) Z := (rfl)
@[simp] theorem notInW_s (x : T) (l : List Nat) (Z : Sto) : gNotInW x (.str l) Z = gNotIn x (.str l) Z := (rfl)
@[simp] theorem leW_ii (i j : Int) (Z : Sto) : gLeW (.int i) (.int j) Z = some (.bl (decide (i ≤ j)),Z) := (rfl)
@[simp] theorem gtW_ii (i j : Int) (Z : Sto) : gGtW (.int i) (.int j) Z = some (.bl (decide (j < i)),Z) := (rfl)
@[simp] theorem geW_ii (i j : Int) (Z : Sto) : gGeW (.int i) (.int j) Z = some (.bl (decide (j ≤ i)),Z) := (rfl)
section
variable (ρ : Env) (Z : Sto)
@[simp] theorem q_gSubsW (fo fi : FE) (t : T) : gSubsW fo fi t ρ Z = (fo ρ Z).bind fun x Z1 => (fi ρ Z1).bind fun y Z2 => match gSetW x y t Z2 with | some Z3 => .ok ρ Z3 | none => .stuck := (rfl)
end
theorem Zdu {Z : Sto} {i : Nat} {ts : List T} (k : Int) (t : T) (h : getL Z i = some ts) : gSetL (.loc i) (.int k) t Z = (ixN ts.length k).map fun n => Z.set i (.lst (ts.set n t)) := by
  show (match getL Z i with | some ts => _ | none => none) = _
  rw [h]
theorem Z6f {Z : Sto} {i : Nat} {ts : List T} (k : Int) (t : T) (h : getL Z i = some ts) : gSetW (.loc i) (.int k) t Z = (ixN ts.length k).map fun n => Z.set i (.lst (ts.set n t)) := by
  rw [Zdt _ _ h,Zdu k t h]
end Fx
set_option maxHeartbeats 4000000
namespace Fx
open PySem PySem.Spec PyProof.Rows L2 SX Ap
variable [Tb]
end Fx
set_option maxHeartbeats 4000000
namespace Fx
open PySem PySem.Spec PyProof.Rows L2 SX Ap
variable [Tb]
end Fx
set_option maxHeartbeats 4000000
namespace Fx
open PySem PySem.Spec PyProof.Rows L2 SX Ap
variable [Tb]
def ltIx (n i : Nat) : Option Nat := if i < n then some i else none
mutual
def lcT (n : Nat) : T → Bool
  | .tup ts => lcTs n ts
  | .loc i => Nat.ble (i + 1) n
  | .frl ts => lcTs n ts
  | .lam _ _ _ _ => false
  | .ktp ts => lcTs n ts
  | .non => true
  | .bl _ => true
  | .int _ => true
  | .str _ => true
  | .ref _ => true
  | .ty _ => true
def lcTs (n : Nat) : List T → Bool
  | [] => true
  | t :: ts => lcT n t && lcTs n ts
end
mutual
theorem Z8t {n : Nat} : ∀ {t : T},lcT n t = true → T.mv (ltIx n) t = some t
  | .non,_ => rfl
  | .bl _,_ => rfl
  | .int _,_ => rfl
  | .str _,_ => rfl
  | .tup ts,h => by
    have h : lcTs n ts = true := h
    show (T.mvs (ltIx n) ts).map T.tup = _
    rw [Z2b h]; rfl
  | .loc i,h => by
    have h : i + 1 ≤ n := Nat.le_of_ble_eq_true h
    show (ltIx n i).map T.loc = _
    unfold ltIx
    rw [if_pos (show i < n from h)]; rfl
  | .frl ts,h => by
    have h : lcTs n ts = true := h
    show (T.mvs (ltIx n) ts).map T.frl = _
    rw [Z2b h]; rfl
  | .ref _,_ => rfl
  | .ty _,_ => rfl
  | .lam _ _ _ _,h => by cases h
  | .ktp ts,h => by
    have h : lcTs n ts = true := h
    show (T.mvs (ltIx n) ts).map T.ktp = _
    rw [Z2b h]; rfl
theorem Z2b {n : Nat} : ∀ {ts : List T},lcTs n ts = true → T.mvs (ltIx n) ts = some ts
  | [],_ => rfl
  | t :: ts,h => by
    have h : (lcT n t && lcTs n ts) = true := h
    rw [Bool.and_eq_true] at h
    simp only [T.mvs,Z8t h.1,Z2b h.2]
end
def lcP {κ : Type} (n : Nat) : List (κ × T) → Bool
  | [] => true
  | p :: r => lcT n p.2 && lcP n r
theorem Z6g {κ : Type} {n : Nat} : ∀ {l : List (κ × T)},lcP n l = true → mvP (ltIx n) l = some l
  | [],_ => rfl
  | (k,t) :: r,h => by
    have h : (lcT n t && lcP n r) = true := h
    rw [Bool.and_eq_true] at h
    simp only [mvP,Z8t h.1,Z6g h.2]
def lcO (n : Nat) : O → Bool
  | .lst ts => lcTs n ts
  | .dk l => lcP n l
  | .dt l => lcP n l
  | .ins _ l => lcP n l
theorem Z8u {n : Nat} {o : O} (h : lcO n o = true) : O.mv (ltIx n) o = some o := by
  cases o with
  | lst ts => show (T.mvs (ltIx n) ts).map O.lst = _; rw [Z2b h]; rfl
  | dk l => show (mvP (ltIx n) l).map O.dk = _; rw [Z6g h]; rfl
  | dt l => show (mvP (ltIx n) l).map O.dt = _; rw [Z6g h]; rfl
  | ins C l => show (mvP (ltIx n) l).map (O.ins C) = _; rw [Z6g h]; rfl
def selE : List Nat → Env → Nat → Env
  | _,[],_ => []
  | ks,o :: ρ,i => (if i ∈ ks then o else none) :: selE ks ρ (i + 1)
theorem Z6h (ks : List Nat) : ∀ (ρ : Env) (i : Nat),(selE ks ρ i).length = ρ.length
  | [],_ => rfl
  | _ :: ρ,i => congrArg (· + 1) (Z6h ks ρ (i + 1))
theorem Z6i {ks : List Nat} : ∀ {ρ : Env} {i k : Nat} {t : T},(selE ks ρ i)[k]? = some (some t) → ρ[k]? = some (some t)
  | [],_,_,_,h => by simp [selE] at h
  | o :: ρ,i,0,t,h => by
    simp only [selE,List.getElem?_cons_zero,Option.some.injEq] at h
    split at h
    · subst h; rfl
    · cases h
  | o :: ρ,i,k + 1,t,h => by
    simp only [selE,List.getElem?_cons_succ] at h
    simpa using Z6i h
def scE (n : Nat) : Env → Bool
  | [] => true
  | none :: ρ => scE n ρ
  | some t :: ρ => lcT n t && scE n ρ
theorem Z5i {n : Nat} : ∀ {ρ : Env} {k : Nat} {t : T},scE n ρ = true → ρ[k]? = some (some t) → lcT n t = true
  | [],_,_,_,h => by simp at h
  | none :: ρ,0,t,_,h => by simp at h
  | some u :: ρ,0,t,h0,h => by
    simp only [scE,Bool.and_eq_true] at h0
    simp at h; subst h; exact h0.1
  | none :: ρ,k + 1,t,h0,h => Z5i (ρ := ρ) (k := k) h0 (by simpa using h)
  | some u :: ρ,k + 1,t,h0,h => by
    simp only [scE,Bool.and_eq_true] at h0
    exact Z5i (ρ := ρ) (k := k) h0.2 (by simpa using h)
section
variable {X : Cx} {K : PySem.W.Frag} {W : WX} {ι ι1 : List Addr} {H H1 : Hp} {σ σ1 : L2.St} {ρ ρ1 : Env} {Z Y : Sto}
theorem Gr.drop (g : Gr ι ι1 H H1) : Gr ι ι H H1 := ⟨fun _ _ h => h,g.tup,g.frz,g.xd,g.ext,g.tab,fun _ _ h _ _ => h,g.out⟩
theorem drop_at (s : Sim K ι Z H) (g : Gr ι ι1 H H1) : ∀ i j a,ltIx Z.length i = some j → ι1[i]? = some a → ι[j]? = some a := fun i j a e h => by
  unfold ltIx at e
  split at e
  · rename_i hi
    cases e
    have hi : i < ι.length := by rw [s.len]; exact hi
    have h2 := g.pre i _ (List.getElem?_eq_getElem hi)
    rw [h] at h2; cases h2
    exact List.getElem?_eq_getElem hi
  · cases e
theorem Sim.drop (s : Sim K ι Z H) (g : Gr ι ι1 H H1) (s1 : Sim K ι1 Y H1) (h : (Y.take Z.length).all (lcO Z.length) = true) : Sim K ι (Y.take Z.length) H1 := by
  have hl := Z88 g s s1
  refine ⟨by rw [List.length_take,s.len]; omega,s.nd,fun i a o ha ho => ?_,s1.tab⟩
  have h1 := g.pre i a ha
  have h2 : Y[i]? = some o := by
    rw [List.getElem?_take] at ho
    split at ho
    · exact ho
    · cases ho
  have h3 : lcO Z.length o = true := by
    rw [List.all_eq_true] at h
    exact h o (List.mem_of_getElem? ho)
  exact (s1.ob i a o h1 h2).mv (drop_at s g) (Z8u h3)
theorem Is.drop {ks : List Nat} (s : Sim K ι Z H) (g : Gr ι ι1 H H1) (is : Is K ι1 H1 σ1 ρ1 Y) (h : (Y.take Z.length).all (lcO Z.length) = true) (he : scE Z.length (selE ks ρ1 0) = true) : Is K ι H1 σ1 (selE ks ρ1 0) (Y.take Z.length) :=
  ⟨by rw [Z6h]; exact is.len,fun i t ht => by
    obtain ⟨v,h1,h2⟩ := is.env i t (Z6i ht)
    exact ⟨v,h1,h2.mv (drop_at s g) (Z8t (Z5i he ht))⟩,s.drop g is.sim h⟩
end
section
variable {K : PySem.W.Frag} {n : Nat} {F : FF}
theorem Gr.keep {ι ι1 : List Addr} {H H1 : Hp} {j : Nat} {a : Addr} (g : Gr ι ι1 H H1) (h : ι1[j]? = some a) : Gr ι (ι ++ [a]) H H1 :=
  ⟨fun i b hb => by rw [List.getElem?_append_left (List.getElem?_eq_some_iff.mp hb).1]; exact hb,g.tup,g.frz,g.xd,g.ext,g.tab,fun b u hb e m => (List.mem_append.mp hb).elim id fun k => g.fre b u (by rw [List.mem_singleton.mp k]; exact List.mem_of_getElem? h) e m,g.out⟩
theorem Sim.keep {ι ι1 : List Addr} {H H1 : Hp} {Z Y : Sto} {j : Nat} {a : Addr} {us : List T} (s : Sim K ι Z H) (g : Gr ι ι1 H H1) (s1 : Sim K ι1 Y H1) (h : (Y.take Z.length).all (lcO Z.length) = true) (ha : ι1[j]? = some a) (hj : Z.length ≤ j) (hy : Y[j]? = some (.lst us)) (hu : lcTs Z.length us = true) : Sim K (ι ++ [a]) (Y.take Z.length ++ [.lst us]) H1 := by
  have hl := Z88 g s s1
  have hat := drop_at s g
  have hf : ∀ i k x,ltIx Z.length i = some k → ι1[i]? = some x → (ι ++ [a])[k]? = some x := fun i k x e hx => by
    have h2 := hat i k x e hx
    rw [List.getElem?_append_left (List.getElem?_eq_some_iff.mp h2).1]; exact h2
  have hlt : (Y.take Z.length).length = Z.length := by rw [List.length_take]; omega
  refine ⟨by rw [List.length_append,List.length_append,hlt,s.len]; rfl,?_,fun i b o hb ho => ?_,s1.tab⟩
  · rw [List.nodup_append]
    refine ⟨s.nd,by simp,fun b hb c hc e => ?_⟩
    rw [List.mem_singleton] at hc
    subst e; subst hc
    obtain ⟨i,hi⟩ := List.mem_iff_getElem?.mp hb
    have h1 := g.pre i _ hi
    obtain ⟨k1,x1⟩ := List.getElem?_eq_some_iff.mp h1
    obtain ⟨k2,x2⟩ := List.getElem?_eq_some_iff.mp ha
    have h3 := (List.getElem_inj s1.nd).mp (x1.trans x2.symm)
    have h4 := (List.getElem?_eq_some_iff.mp hi).1
    rw [s.len] at h4
    omega
  · by_cases hi : i < Z.length
    · rw [List.getElem?_append_left (by rw [s.len]; exact hi)] at hb
      rw [List.getElem?_append_left (by rw [hlt]; exact hi)] at ho
      have h2 : Y[i]? = some o := by
        have ho2 := ho
        rw [List.getElem?_take,if_pos hi] at ho2
        exact ho2
      have h3 : lcO Z.length o = true := by
        rw [List.all_eq_true] at h
        exact h o (List.mem_of_getElem? ho)
      exact (s1.ob i b o (g.pre i b hb) h2).mv hf (Z8u h3)
    · have hi' : Z.length ≤ i := Nat.le_of_not_lt hi
      rw [List.getElem?_append_right (by rw [s.len]; exact hi'), s.len] at hb
      rw [List.getElem?_append_right (by rw [hlt]; exact hi'), hlt] at ho
      have h0 : i - Z.length = 0 := by simpa using (List.getElem?_eq_some_iff.mp hb).1
      rw [h0] at hb ho
      simp at hb ho
      subst hb ho
      exact (s1.ob j a _ ha hy).mv hf (Z8u hu)
end
end Fx
set_option maxHeartbeats 4000000
namespace Fx
open PySem PySem.Spec PyProof.Rows L2 SX Ap
variable [Tb]
def lenDiff : T → T → Sto → Bool
  | .loc i,.loc j,Z => (match getL Z i,getL Z j with
    | some a,some b => !(a.length == b.length)
    | _,_ => false)
  | _,_,_ => false
def gNeL (x y : T) (Z : Sto) : Option (T × Sto) := if lenDiff x y Z = true then some (.bl true,Z) else gNe x y Z
section
variable {X : Cx} {K : PySem.W.Frag}
def rLen (K : PySem.W.Frag) (r : Bool) : R2 := fun x y H Q => ∃ a b xs ys,x = .ref a ∧ y = .ref b ∧ SqL K H a xs ∧ SqL K H b ys ∧ xs.length ≠ ys.length ∧ Q (.bl r) H
theorem Zaa (hu : X.A.units + 64 < cLine) : OpR X (compareOp .NotEq) (rLen X.K true) := by
  intro pins s σ H x y v u Q I rx ry h
  obtain ⟨a,b,xs,ys,rfl,rfl,ha,hb,hn,q⟩ := h
  cases (show v = Value.ref a from rx)
  cases (show u = Value.ref b from ry)
  obtain ⟨us,r1,p1,_⟩ := I.list ha
  obtain ⟨ws,r2,p2,_⟩ := I.list hb
  exact PySem.SeqAt.RcNeAt.lists_lengths p1.isList p2.isList (by rw [List.size_toArray,List.size_toArray,← r1.length,← r2.length]; simpa using hn) (by omega) X.prog X.w _ _ ⟨.bl true,H,I,rfl,q⟩
theorem Zdv {ι : List Addr} {H : Hp} {Z : Sto} {x y : V} {tx ty : T} (s : Sim K ι Z H) (rx : Rep K ι H x tx) (ry : Rep K ι H y ty) (e : lenDiff tx ty Z = true) : ∃ a b xs ys,x = .ref a ∧ y = .ref b ∧ SqL K H a xs ∧ SqL K H b ys ∧ xs.length ≠ ys.length := by
  unfold lenDiff at e
  split at e
  · split at e
    case h_2 => cases e
    rename_i ts us h1 h2
    obtain ⟨a,xs,rfl,h3,r1⟩ := Vn s rx (show asList (.loc _) Z = some ts by simp only [asList,Ws h1])
    obtain ⟨b,ys,rfl,h4,r2⟩ := Vn s ry (show asList (.loc _) Z = some us by simp only [asList,Ws h2])
    refine ⟨a,b,xs,ys,rfl,rfl,h3,h4,?_⟩
    rw [r1.length,r2.length]
    simpa using e
  · cases e
theorem o_neL (hu : X.A.units + 64 < cLine) (hK : X.K = K) : OpF X K (compareOp .NotEq) gNeL := by
  subst hK
  refine Xy (U9 (Zaa hu) (o_ne hu rfl)) fun x y H Q h => ?_
  obtain ⟨ι,Z,tx,ty,s,rx,ry,p⟩ := h
  unfold gNeL at p
  split at p
  · rename_i e
    obtain ⟨a,b,xs,ys,h1,h2,h3,h4,h5⟩ := Zdv s rx ry e
    exact .inl ⟨a,b,xs,ys,h1,h2,h3,h4,h5,Y7 p s (.bl _)⟩
  · exact .inr ⟨ι,Z,tx,ty,s,rx,ry,p⟩
end
end Fx
set_option maxHeartbeats 4000000
namespace Fx
open PySem PySem.Spec PyProof.Rows L2 SX Ap
variable [Tb]
end Fx
set_option maxHeartbeats 4000000
namespace Fx
open PySem PySem.Spec PyProof.Rows L2 SX Ap
variable [Tb]
end Fx
set_option maxHeartbeats 4000000
namespace Fx
open PySem PySem.Spec PyProof.Rows L2 SX Ap
variable [Tb]
end Fx
set_option maxHeartbeats 4000000
namespace SrtO
open PySem PyProof.Rows Srt
def IsFst (h : Heap) (v : Value) (x : Int) : Prop := ∃ (a : Addr) (o : Obj) (t : Tok) (r : List Value) (n : Nat), v = .ref a ∧ h.get? a = some o ∧ o.cls = .type "tuple" ∧ o.data = .seq (Value.int x t :: r).toArray n
theorem IsFst.keeps {h h' : Heap} {v : Value} {x : Int} (p : IsFst h v x) (k : ∀ b o, h.get? b = some o → o.cls = .type "tuple" → h'.get? b = some o) : IsFst h' v x := by
  obtain ⟨a,o,t,r,n,e,ho,hc,hd⟩ := p
  exact ⟨a,o,t,r,n,e,k _ _ ho hc,hc,hd⟩
theorem IsFst.uniq {h : Heap} {v : Value} {x y : Int} (p : IsFst h v x) (q : IsFst h v y) : x = y := by
  obtain ⟨a,o,t,r,n,rfl,ho,hc,hd⟩ := p
  obtain ⟨a', o', t', r', n', e, ho', hc', hd'⟩ := q
  cases e
  rw [ho] at ho'; cases ho'
  rw [hd] at hd'
  injection hd' with e1 e2
  have h2 : (Value.int x t :: r) = (Value.int y t' :: r') := by
    have := congrArg Array.toList e1
    simpa using this
  injection h2 with h3 _
  injection h3
section
variable {prog : Program} {w : World} {A : Around} {E : Value → Shared → Prop} {s : Shared}
theorem Z6j {b fin : Bool} {Q : Bool → Shared → Prop} : ∀ (r : List Value) (i : Nat),Q fin s → PySem.W.KatLex prog w A b fin Q (r.zip r) i s
  | [],_,h => PySem.W.kat_nil h
  | v :: r,i,h => PySem.W.kat_cons (SeqAt.EqAt.same v prog w _ _ (PySem.W.kat_yes (Z6j r (i + 1) h)))
theorem Zcg {vs : List Value} {k : Value → Int} (hp : ∀ v ∈ vs, IsFst s.heap v (k v)) (hi : ∀ v ∈ vs, ∀ u ∈ vs, k v = k u → v = u) : Cmp prog w A s (tuples' true) (fun p => p.1 ∈ vs) (lt2 fun v u => decide (k v < k u)) := by
  intro p q hm hm'
  have h1 := hp _ hm
  have h2 := hp _ hm'
  show wpAny (model prog w) A (keyLt' (tuples' true) p.1 q.1) (fun r s' => s' = s ∧ r = decide (k p.1 < k q.1)) (fun _ _ => False) s
  have h3 := hi _ hm _ hm'
  generalize k p.1 = x at h1 h3 ⊢
  generalize k q.1 = x' at h2 h3 ⊢
  obtain ⟨a,o,t,r,n,e,ho,hc,hd⟩ := h1
  obtain ⟨a', o', t', r', n', e', ho', hc', hd'⟩ := h2
  by_cases hx : x = x'
  · have e3 := h3 hx
    rw [e, e'] at e3
    cases e3
    rw [e, e']
    refine PySem.W.kat_lt ho hd ho hd ?_
    have hsz : decide ((Value.int x t :: r).toArray.size < (Value.int x t :: r).toArray.size) = false := decide_eq_false (Nat.lt_irrefl _)
    rw [hsz]
    have hl : (Value.int x t :: r).toArray.toList = Value.int x t :: r := by simp
    rw [hl]
    exact Z6j _ _ ⟨rfl,by rw [hx]; exact (decide_eq_false (Int.lt_irrefl _)).symm⟩
  · rw [e, e']
    refine PySem.W.kat_lt ho hd ho' hd' ?_
    have hl : (Value.int x t :: r).toArray.toList = Value.int x t :: r := by simp
    have hl' : (Value.int x' t' :: r').toArray.toList = Value.int x' t' :: r' := by simp
    rw [hl, hl']
    show PySem.W.KatLex prog w A true _ _ ((.int x t, .int x' t') :: r.zip r') 0 s
    refine PySem.W.kat_cons (SeqAt.EqAt.int_int x t x' t' prog w _ _ ?_)
    refine PySem.W.kat_go (fun e1 => ?_) (fun e1 => ?_)
    · exact absurd (by simpa using e1) hx
    · exact PySem.W.kat_no (oneLt_int ⟨rfl,rfl⟩)
theorem Z2z {h : Heap} : ∀ {vs : List Value},(∀ v ∈ vs,∃ x,IsFst h v x) → ∃ fs : List Value,PySem.W.KatTups h vs fs ∧ fs.length = vs.length ∧ ∀ f ∈ fs,∃ x t,f = Value.int x t
  | [],_ => ⟨[],PySem.W.KatTups.nil,rfl,fun _ hm => by simp at hm⟩
  | v :: vs,hp => by
    obtain ⟨fs, h1, h2, h3⟩ := Z2z (vs := vs) fun v' hm => hp v' (List.mem_cons_of_mem _ hm)
    obtain ⟨x,a,o,t,r,n,e,ho,hc,hd⟩ := hp v (List.mem_cons_self ..)
    subst e
    refine ⟨.int x t :: fs,PySem.W.KatTups.cons ho hc hd (by simp) h1,by rw [List.length_cons,List.length_cons,h2],fun f hm => ?_⟩
    rcases List.mem_cons.mp hm with rfl | hm
    · exact ⟨x,t,rfl⟩
    · exact h3 f hm
theorem Zch (k : Value → Int) : Swo fun v u => decide (k v < k u) := by
  refine ⟨fun x y h => ?_,fun x y z h1 h2 => ?_⟩
  · have a := of_decide_eq_true (p := k x < k y) h
    exact decide_eq_false (p := k y < k x) (by omega)
  · have a := of_decide_eq_false (p := k y < k x) h1
    have b := of_decide_eq_false (p := k z < k y) h2
    exact decide_eq_false (p := k z < k x) (by omega)
theorem Z4q {a : Addr} {vs : List Value} {k : Value → Int} (h0 : 0 < vs.length) (hp : ∀ v ∈ vs, IsFst s.heap v (k v)) (hi : ∀ v ∈ vs, ∀ u ∈ vs, k v = k u → v = u) (ha : ∀ o, s.heap.get? a = some o → o.cls ≠ .type "tuple") : SortableO prog w A s a vs fun v u => decide (k v < k u) := by
  intro h' keep
  have hp' : ∀ v ∈ vs, IsFst h' v (k v) := fun v hm => (hp v hm).keeps fun b o e c => keep b o (fun z => by subst z; exact ha o e c) e
  obtain ⟨fs, h1, h2, h3⟩ := Z2z fun v hm => ⟨_, hp' v hm⟩
  refine ⟨tuples' true, fun Q E hq => ?_, Zcg hp' hi⟩
  refine PySem.W.kat_kind (T := .type "int") h1 (by omega) (fun f hm => ?_) (by rfl) ?_
  · obtain ⟨x,t,rfl⟩ := h3 f hm
    exact PySem.W.Looks.now
  · have e : (Value.type "int" != Value.type "tuple") = true := by first | decide +kernel | rfl | decide
    rw [e]
    exact hq
theorem sorted_fst {l : Addr} {vs : List Value} {k : Value → Int} {Q : Value → Shared → Prop} (hl : s.heap.IsList l vs.toArray) (hz : vs.length ≤ sizeLine) (hp : ∀ v ∈ vs,IsFst s.heap v (k v)) (hi : ∀ v ∈ vs,∀ u ∈ vs,k v = k u → v = u)
    (h : ∀ (h' : Heap) (d : Addr) (out : List Value), Srtd (fun v u => decide (k v < k u)) out → Stb (fun v u => decide (k v < k u)) out vs → (∀ b o, s.heap.get? b = some o → h'.get? b = some o) → s.heap.objs.size ≤ d → (∃ n, h'.get? d = some (seqObj "list" out.toArray n)) → Q (.ref d) { s with heap := h' }) :
    wpAny (model prog w) A (call (.builtin "sorted") [.ref l]) Q E s := by
  refine sorted_ord (Zch k) hl hz (fun h2 h₁ a ha kk => ?_) fun out hs hb => ?_
  · refine Z4q (s := { s with heap := h₁ }) (by omega) (fun v hm => (hp v hm).keeps fun b o e _ => (kk b o e).2) hi fun o e => ?_
    have e' : some o = some (seqObj "list" vs.toArray 0) := e.symm.trans ha
    cases e'
    intro c
    exact absurd (Value.type.inj c) (by decide)
  · exact h _ _ out hs hb (fun b o e => sortedAll_old e) (Nat.le_succ _) (sortedAll_at s.heap vs out.toArray)
end
end SrtO
namespace Fx
open PySem PySem.Spec PyProof.Rows L2 SX Ap
abbrev KE := Addr × Int × List V
theorem Z6k {α : Type} {k : α → Int} : ∀ {l m : List α},l.Pairwise (fun x y => k x < k y) → m.Pairwise (fun x y => k x < k y) → l.Perm m → l = m
  | [],m,_,_,p => by have := p.length_eq; cases m with | nil => rfl | cons _ _ => simp at this
  | x :: l,[],_,_,p => by have := p.length_eq; simp at this
  | x :: l,y :: m,hl,hm,p => by
    rw [List.pairwise_cons] at hl hm
    have e : x = y := by
      rcases List.mem_cons.mp (p.mem_iff.mp (List.mem_cons_self (a := x) (l := l))) with e | h1
      · exact e
      · rcases List.mem_cons.mp (p.mem_iff.mpr (List.mem_cons_self (a := y) (l := m))) with e | h2
        · exact e.symm
        · have a := hm.1 x h1
          have b := hl.1 y h2
          omega
    subst e
    rw [Z6k hl.2 hm.2 p.cons_inv]
theorem key_inj : ∀ {ps : List KE},(ps.map fun p => p.2.1).Nodup → ∀ p ∈ ps,∀ q ∈ ps,p.2.1 = q.2.1 → p = q
  | [],_,p,hp,_,_,_ => by simp at hp
  | x :: ps,hd,p,hp,q,hq,e => by
    simp only [List.map_cons,List.nodup_cons] at hd
    rcases List.mem_cons.mp hp with h1 | h1
    · rcases List.mem_cons.mp hq with h2 | h2
      · rw [h1,h2]
      · subst h1; exact absurd (List.mem_map.mpr ⟨q,h2,e.symm⟩) hd.1
    · rcases List.mem_cons.mp hq with h2 | h2
      · subst h2; exact absurd (List.mem_map.mpr ⟨p,h1,e⟩) hd.1
      · exact key_inj hd.2 p h1 q h2 e
theorem Zab {ps : List KE} {out vs : List Value} {k : Value → Int} (hvs : vs = ps.map fun p => Value.ref p.1) (hk : ∀ p ∈ ps,k (.ref p.1) = p.2.1) (hd : (ps.map fun p => p.2.1).Nodup)
    (h1 : SrtO.Srtd (fun v u => decide (k v < k u)) out) (h2 : out.Perm vs) : ∃ qs : List KE,qs.Perm ps ∧ qs.Pairwise (fun p q => p.2.1 < q.2.1) ∧ out = qs.map fun p => Value.ref p.1 := by
  have inj := key_inj hd
  let g : Value → KE := fun v => (ps.find? fun p => decide (p.2.1 = k v)).getD (0,0,[])
  have hg : ∀ p ∈ ps,g (.ref p.1) = p := fun p hp => by
    show (ps.find? fun q => decide (q.2.1 = k (.ref p.1))).getD (0,0,[]) = p
    cases e : ps.find? fun q => decide (q.2.1 = k (.ref p.1)) with
    | none =>
      have := List.find?_eq_none.mp e p hp
      simp [hk p hp] at this
    | some q =>
      have a := List.find?_some e
      have b := List.mem_of_find?_eq_some e
      have a := of_decide_eq_true a
      rw [hk p hp] at a
      exact inj q b p hp a
  have hmem : ∀ v ∈ out,∃ p ∈ ps,v = .ref p.1 := fun v hv => by
    have := h2.mem_iff.mp hv
    rw [hvs] at this
    obtain ⟨p,hp,e⟩ := List.mem_map.mp this
    exact ⟨p,hp,e.symm⟩
  have hperm : (out.map g).Perm ps := by
    have := h2.map g
    rw [hvs,List.map_map] at this
    have e : ps.map (g ∘ fun p => Value.ref p.1) = ps := by
      conv => rhs; rw [← List.map_id ps]
      exact List.map_congr_left fun p hp => hg p hp
    rw [e] at this
    exact this
  have hkey : ∀ v ∈ out,(g v).2.1 = k v := fun v hv => by
    obtain ⟨p,hp,rfl⟩ := hmem v hv
    rw [hg p hp,hk p hp]
  refine ⟨out.map g,hperm,?_,?_⟩
  · have nd : ((out.map g).map fun p => p.2.1).Nodup := (hperm.map _).nodup_iff.mpr hd
    rw [List.map_map] at nd
    rw [List.pairwise_map]
    have nd2 : out.Pairwise (fun v u => (g v).2.1 ≠ (g u).2.1) := by
      have := List.pairwise_map.mp nd
      exact this
    refine List.Pairwise.imp_of_mem ?_ (List.Pairwise.and h1 nd2)
    intro v u hv hu h
    have a := hkey v hv
    have b := hkey u hu
    have c := of_decide_eq_false (p := k u < k v) h.1
    have d := h.2
    omega
  · rw [List.map_map]
    conv => lhs; rw [← List.map_id out]
    refine List.map_congr_left fun v hv => ?_
    obtain ⟨p,hp,rfl⟩ := hmem v hv
    show Value.ref p.1 = Value.ref (g (.ref p.1)).1
    rw [hg p hp]
section
variable {X : Cx}
def rSortF (K : PySem.W.Frag) : List V → Hp → VK → Prop := fun vs H Q => ∃ (a : Addr) (ps : List KE),vs = [V.ref a] ∧ SqL K H a (ps.map fun p => V.ref p.1) ∧ (∀ p ∈ ps,SqT K H p.1 (.int p.2.1 :: p.2.2)) ∧ (ps.map fun p => p.2.1).Nodup ∧
  ∀ (qs : List KE) (d : Addr),qs.Perm ps → qs.Pairwise (fun p q => p.2.1 < q.2.1) → H d = none → Q (.ref d) (upd H d (.lst (qs.map fun p => V.ref p.1)))
theorem vals_refs : ∀ {ps : List KE} {its : List Value},Vals (ps.map fun p => V.ref p.1) its → its = ps.map fun p => Value.ref p.1
  | [],_,.nil => rfl
  | p :: ps,_,.cons r t => by
    cases r
    rw [vals_refs t]; rfl
theorem Z4r : ∀ (ps : List KE),Vals (ps.map fun p => V.ref p.1) (ps.map fun p => Value.ref p.1)
  | [] => .nil
  | p :: ps => .cons rfl (Z4r ps)
theorem Zac : CallR X (.builtin "sorted") (rSortF X.K) := by
  intro pins s σ H vs us Q I r h
  obtain ⟨a,ps,rfl,hs,hx,hd,q⟩ := h
  obtain ⟨its,rv,hl,hz⟩ := I.list hs
  obtain ⟨u,rfl,ru⟩ := vals1 r
  obtain rfl : u = Value.ref a := ru
  have ev := vals_refs rv
  have hf : ∀ p ∈ ps,SrtO.IsFst s.heap (.ref p.1) p.2.1 := fun p hp => by
    obtain ⟨its2,r2,pl,hz2⟩ := I.tuple (hx p hp)
    obtain ⟨o,ho,hc,n,hdd⟩ := pl
    cases r2 with
    | cons ri rt =>
      obtain ⟨t,rfl⟩ := ri
      exact ⟨p.1,o,t,_,n,rfl,ho,hc,hdd⟩
  obtain ⟨k,hk⟩ : ∃ k : Value → Int,∀ v x,SrtO.IsFst s.heap v x → k v = x := by
    classical
    refine ⟨fun v => if h : ∃ x,SrtO.IsFst s.heap v x then h.choose else 0,fun v x hv => ?_⟩
    have h : ∃ x,SrtO.IsFst s.heap v x := ⟨x,hv⟩
    show (if h : ∃ x,SrtO.IsFst s.heap v x then h.choose else 0) = x
    rw [dif_pos h]
    exact h.choose_spec.uniq hv
  have hkp : ∀ p ∈ ps,k (.ref p.1) = p.2.1 := fun p hp => hk _ _ (hf p hp)
  have mem : ∀ v ∈ its,∃ p ∈ ps,v = .ref p.1 := fun v hv => by
    rw [ev] at hv
    obtain ⟨p,hp,e⟩ := List.mem_map.mp hv
    exact ⟨p,hp,e.symm⟩
  refine SrtO.sorted_fst (k := k) hl.isList (by rw [← rv.length]; exact hz) (fun v hv => ?_) (fun v hv u hu e => ?_) fun h' d out h1 h2 kp hd2 hn => ?_
  · obtain ⟨p,hp,rfl⟩ := mem v hv
    rw [hkp p hp]; exact hf p hp
  · obtain ⟨p,hp,rfl⟩ := mem v hv
    obtain ⟨p', hp', rfl⟩ := mem u hu
    rw [hkp p hp, hkp p' hp'] at e
    have : p = p' := key_inj hd p hp p' hp' e
    rw [this]
  · obtain ⟨qs,g1,g2,g3⟩ := Zab ev hkp hd h1 h2.perm
    obtain ⟨n,hn⟩ := hn
    refine ⟨.ref d, upd H d (.lst (qs.map fun p => V.ref p.1)), I.laid (t' := s.toks) kp hd2 ⟨?_, out, n, by rw [g3]; exact Z4r qs, hn⟩, rfl, q qs d g1 g2 (I.hok.fresh hd2)⟩
    rw [List.length_map,g1.length_eq]
    rw [List.length_map] at hz
    exact hz
end
end Fx
set_option maxHeartbeats 4000000
namespace Fx
open PySem PySem.Spec PyProof.Rows L2 SX Ap L2.DX
end Fx
set_option maxHeartbeats 4000000
namespace Fx
open PySem PySem.Spec PyProof.Rows L2 SX Ap
end Fx
set_option maxHeartbeats 4000000
namespace Fx
open PySem PySem.Spec PyProof.Rows L2 SX Ap L2.DX
variable [Tb]
def isrK {α : Type} (k : Int) (x : α) : List (Int × α) → List (Int × α)
  | [] => [(k,x)]
  | p :: r => if k ≤ p.1 then (k,x) :: p :: r else p :: isrK k x r
def srtK {α : Type} : List (Int × α) → List (Int × α)
  | [] => []
  | p :: r => isrK p.1 p.2 (srtK r)
def risF {α : Type} (k : Int) : List (Int × α) → Bool
  | [] => true
  | p :: r => decide (k < p.1) && risF p.1 r
def risK {α : Type} : List (Int × α) → Bool
  | [] => true
  | p :: r => risF p.1 r
theorem Z2c {α : Type} (k : Int) (x : α) : ∀ l : List (Int × α),(isrK k x l).Perm ((k,x) :: l)
  | [] => .refl _
  | p :: r => by
    unfold isrK
    split
    · exact .refl _
    · exact ((Z2c k x r).cons p).trans (List.Perm.swap ..)
theorem Wy {α : Type} : ∀ l : List (Int × α),(srtK l).Perm l
  | [] => .refl _
  | p :: r => (Z2c p.1 p.2 (srtK r)).trans ((Wy r).cons _)
theorem Z8v {α : Type} {k : Int} {x : α} : ∀ {l : List (Int × α)},l.Pairwise (fun p q => p.1 ≤ q.1) → (isrK k x l).Pairwise (fun p q => p.1 ≤ q.1)
  | [],_ => List.pairwise_singleton _ _
  | p :: r,h => by
    unfold isrK
    rw [List.pairwise_cons] at h
    split
    · rename_i hk
      refine List.pairwise_cons.mpr ⟨fun q hq => ?_,List.pairwise_cons.mpr h⟩
      rcases List.mem_cons.mp hq with rfl | hq
      · exact hk
      · exact Int.le_trans hk (h.1 q hq)
    · rename_i hk
      refine List.pairwise_cons.mpr ⟨fun q hq => ?_,Z8v h.2⟩
      rcases List.mem_cons.mp ((Z2c k x r).mem_iff.mp hq) with rfl | hq
      · show p.1 ≤ k; omega
      · exact h.1 q hq
theorem Z3m {α : Type} : ∀ l : List (Int × α),(srtK l).Pairwise (fun p q => p.1 ≤ q.1)
  | [] => List.Pairwise.nil
  | p :: r => Z8v (Z3m r)
theorem Z6l {α β : Type} (f : α → β) (k : Int) (x : α) : ∀ l : List (Int × α),isrK k (f x) (l.map fun p => (p.1,f p.2)) = (isrK k x l).map fun p => (p.1,f p.2)
  | [] => rfl
  | p :: r => by
    simp only [List.map_cons,isrK]
    split
    · rfl
    · rw [Z6l f k x r]; rfl
theorem Z3n {α β : Type} (f : α → β) : ∀ l : List (Int × α),srtK (l.map fun p => (p.1,f p.2)) = (srtK l).map fun p => (p.1,f p.2)
  | [] => rfl
  | p :: r => by
    show isrK p.1 (f p.2) (srtK (r.map fun p => (p.1,f p.2))) = _
    rw [Z3n f r,Z6l]; rfl
theorem Z6m {α : Type} : ∀ {l : List (Int × α)} {k : Int},risF k l = true → (∀ p ∈ l,k < p.1) ∧ l.Pairwise (fun p q => p.1 < q.1)
  | [],_,_ => ⟨fun _ h => by simp at h,.nil⟩
  | p :: r,k,h => by
    simp only [risF,Bool.and_eq_true,decide_eq_true_eq] at h
    obtain ⟨h1,h2⟩ := Z6m h.2
    refine ⟨fun q hq => ?_,List.pairwise_cons.mpr ⟨h1,h2⟩⟩
    rcases List.mem_cons.mp hq with rfl | hq
    · exact h.1
    · have := h1 q hq; omega
theorem Zad {α : Type} {l : List (Int × α)} (h : risK l = true) : l.Pairwise (fun p q => p.1 < q.1) := by
  cases l with
  | nil => exact .nil
  | cons p r => obtain ⟨h1,h2⟩ := Z6m (show risF p.1 r = true from h); exact List.pairwise_cons.mpr ⟨h1,h2⟩
theorem Z5j : ∀ {l m : List Int},l.Pairwise (· ≤ ·) → m.Pairwise (· ≤ ·) → l.Perm m → l = m
  | [],m,_,_,p => by have := p.length_eq; cases m with | nil => rfl | cons _ _ => simp at this
  | x :: l,[],_,_,p => by have := p.length_eq; simp at this
  | x :: l,y :: m,hl,hm,p => by
    rw [List.pairwise_cons] at hl hm
    have e : x = y := by
      have a : x ≤ y := by
        rcases List.mem_cons.mp (p.mem_iff.mpr (List.mem_cons_self (a := y) (l := m))) with e | h
        · omega
        · exact hl.1 y h
      have b : y ≤ x := by
        rcases List.mem_cons.mp (p.mem_iff.mp (List.mem_cons_self (a := x) (l := l))) with e | h
        · omega
        · exact hm.1 x h
      omega
    subst e
    rw [Z5j hl.2 hm.2 p.cons_inv]
def intsOf : List T → Option (List (Int × Unit))
  | [] => some []
  | .int i :: r => (intsOf r).map fun l => (i,()) :: l
  | _ => none
def fstsOf : List T → Option (List (Int × T))
  | [] => some []
  | .tup (.int k :: us) :: r => (fstsOf r).map fun l => (k,.tup (.int k :: us)) :: l
  | _ => none
def keysI : List (Key × T) → Option (List (Int × T))
  | [] => some []
  | (.inl k,t) :: r => (keysI r).map fun l => (k,t) :: l
  | _ => none
def gSorted : List T → Sto → Option (T × Sto)
  | [.loc i],Z => match getL Z i with
    | some ts => (match intsOf ts with
      | some l => some (.loc Z.length,Z ++ [.lst ((srtK l).map fun p => .int p.1)])
      | none => match fstsOf ts with
        | some l => if risK (srtK l) = true then some (.loc Z.length,Z ++ [.lst ((srtK l).map fun p => p.2)]) else none
        | none => none)
    | none => match getDK Z i with
      | some kvs => (match keysI kvs with
        | some l => if l.length < 64 then some (.loc Z.length,Z ++ [.lst ((srtK l).map fun p => .int p.1)]) else none
        | none => none)
      | none => none
  | _,_ => none
theorem Z30 {K : PySem.W.Frag} {ι : List Addr} {H : Hp} : ∀ {vs : List V} {ts : List T} {l : List (Int × Unit)},Reps K ι H vs ts → intsOf ts = some l → vs = l.map fun p => V.int p.1
  | _,_,_,.nil,e => by cases e; rfl
  | _,_,l,.cons r q,e => by
    cases r with
    | int i =>
      simp only [intsOf] at e
      obtain ⟨l', e1, rfl⟩ := Option.map_eq_some_iff.mp e
      rw [Z30 q e1]; rfl
    | _ => cases e
theorem Z31 {K : PySem.W.Frag} {ι : List Addr} {H : Hp} : ∀ {vs : List V} {ts : List T} {l : List (Int × T)},Reps K ι H vs ts → fstsOf ts = some l →
    ∃ cs : List (Int × (KE × T)),l = cs.map (fun c => (c.1,c.2.2)) ∧ vs = cs.map (fun c => V.ref c.2.1.1) ∧ (∀ c ∈ cs,c.2.1.2.1 = c.1 ∧ Rep K ι H (.ref c.2.1.1) c.2.2 ∧ SqT K H c.2.1.1 (.int c.1 :: c.2.1.2.2))
  | _,_,_,.nil,e => by cases e; exact ⟨[],rfl,rfl,fun _ h => by simp at h⟩
  | _,_,l,.cons r q,e => by
    cases r with
    | tup h r2 =>
      cases r2 with
      | nil => cases e
      | cons r3 r4 =>
        cases r3 with
        | int k =>
          simp only [fstsOf] at e
          obtain ⟨l', e1, rfl⟩ := Option.map_eq_some_iff.mp e
          obtain ⟨cs,h1,h2,h3⟩ := Z31 q e1
          rename_i a vs' us'
          refine ⟨(k, ((a, k, vs'), .tup (.int k :: us'))) :: cs, by rw [h1]; rfl, by rw [h2]; rfl, fun c hc => ?_⟩
          rcases List.mem_cons.mp hc with rfl | hc
          · exact ⟨rfl,.tup h (.cons (.int k) r4),h⟩
          · exact h3 c hc
        | _ => cases e
    | _ => cases e
theorem Z4s {K : PySem.W.Frag} {ι : List Addr} {H : Hp} : ∀ {vs : List (Key × V)} {ts : List (Key × T)} {l : List (Int × T)},RepP K ι H vs ts → keysI ts = some l →
    ∃ cs : List (Int × (V × T)),l = cs.map (fun c => (c.1,c.2.2)) ∧ vs = cs.map (fun c => (Sum.inl c.1,c.2.1)) ∧ ∀ c ∈ cs,Rep K ι H c.2.1 c.2.2
  | _,_,_,.nil,e => by cases e; exact ⟨[],rfl,rfl,fun _ h => by simp at h⟩
  | _,_,l,.cons (k := k) (v := v) (t := t) r q,e => by
    cases k with
    | inl i =>
      simp only [keysI] at e
      obtain ⟨l', e1, rfl⟩ := Option.map_eq_some_iff.mp e
      obtain ⟨cs,h1,h2,h3⟩ := Z4s q e1
      refine ⟨(i,(v,t)) :: cs,by rw [h1]; rfl,by rw [h2]; rfl,fun c hc => ?_⟩
      rcases List.mem_cons.mp hc with rfl | hc
      · exact r
      · exact h3 c hc
    | inr x => cases e
theorem Z1o {K : PySem.W.Frag} {ι : List Addr} {H : Hp} {α : Type} {f : α → V} {g : α → T} : ∀ {l : List α},(∀ c ∈ l,Rep K ι H (f c) (g c)) → Reps K ι H (l.map f) (l.map g)
  | [],_ => .nil
  | c :: l,h => .cons (h c (by simp)) (Z1o fun d hd => h d (by simp [hd]))
section
variable {X : Cx} {K : PySem.W.Frag}
theorem Zae (hc : X.calm = true) (hK : X.K = K) : CallR X (.builtin "sorted") (rFC K gSorted) := by
  subst hK
  refine Vf (Z0j cr_sortedI (Z0j Zac (call_sortedDI hc))) fun xs H Q h => ?_
  obtain ⟨ι,Z,ts,s,r,p⟩ := h
  unfold gSorted at p
  split at p
  · obtain ⟨v,rfl,rr⟩ := r.one
    split at p
    · rename_i i us eg
      obtain ⟨a,vs,rfl,hi,h1,r2⟩ := Uh s (Ws eg) rr
      split at p
      · rename_i l el
        refine .inl ⟨a, l.map (·.1), rfl, ?_, fun ns' d pm pl nd => ?_⟩
        · have := Z30 r2 el
          rw [this] at h1
          rw [List.map_map]
          exact SqL.of h1
        · have e : ns' = (srtK l).map (·.1) := Z5j pl (by rw [List.pairwise_map]; exact Z3m l) (pm.trans ((Wy l).map _).symm)
          rw [e,List.map_map]
          refine N6 p s ?_ d nd
          exact Z1o (f := fun c : Int × Unit => V.int c.1) (g := fun c => T.int c.1) fun c _ => .int c.1
      · split at p
        · rename_i l el
          split at p
          · rename_i hr
            obtain ⟨cs,e1,e2,e3⟩ := Z31 r2 el
            have hrs : (srtK cs).Pairwise (fun p q => p.1 < q.1) := by
              have := Zad hr
              rw [e1,Z3n (fun c : KE × T => c.2) cs,List.pairwise_map] at this
              exact this
            have hq1 : ((srtK cs).map fun c => c.2.1).Pairwise (fun p q : KE => p.2.1 < q.2.1) := by
              rw [List.pairwise_map]
              refine List.Pairwise.imp_of_mem (fun {x y} hx hy h => ?_) hrs
              rw [(e3 x ((Wy cs).mem_iff.mp hx)).1,(e3 y ((Wy cs).mem_iff.mp hy)).1]
              exact h
            refine .inr (.inl ⟨a,cs.map (fun c => c.2.1),rfl,?_,fun p hp => ?_,?_,fun qs d pm pl nd => ?_⟩)
            · rw [e2] at h1
              rw [List.map_map]
              exact SqL.of h1
            · obtain ⟨c,hc,rfl⟩ := List.mem_map.mp hp
              obtain ⟨a1,a2,a3⟩ := e3 c hc
              rw [a1]; exact a3
            · have : (((srtK cs).map fun c => c.2.1).map fun p : KE => p.2.1).Nodup := by
                refine List.Pairwise.imp (fun h => Int.ne_of_lt h) ?_
                rw [List.pairwise_map]; exact hq1
              exact ((((Wy cs).map _).map _).nodup_iff).mp this
            · have e : qs = (srtK cs).map fun c => c.2.1 := Z6k (k := fun p : KE => p.2.1) pl hq1 (pm.trans ((Wy cs).map _).symm)
              rw [e,List.map_map]
              refine N6 p s ?_ d nd
              rw [e1,Z3n (fun c : KE × T => c.2) cs,List.map_map]
              exact Z1o (f := fun c : Int × (KE × T) => V.ref c.2.1.1) (g := fun c => c.2.2) fun c hc => (e3 c ((Wy cs).mem_iff.mp hc)).2.1
          · exact p.elim
        · exact p.elim
    · split at p
      · rename_i kvs eg
        split at p
        · rename_i l el
          split at p
          · rename_i hz
            obtain ⟨a,vs,rfl,hi,h1,r2⟩ := Jl s rr eg
            obtain ⟨cs,e1,e2,e3⟩ := Z4s r2 el
            refine .inr (.inr ⟨a, vs, l.map (·.1), rfl, .inl h1, ?_, by rw [List.length_map]; exact hz, fun ns' d pm pl nd => ?_⟩)
            · rw [e2,e1,List.map_map,List.map_map,List.map_map]; rfl
            · have e : ns' = (srtK l).map (·.1) := Z5j pl (by rw [List.pairwise_map]; exact Z3m l) (pm.trans ((Wy l).map _).symm)
              rw [e,List.map_map]
              refine N6 p s ?_ d nd
              exact Z1o (f := fun c : Int × T => V.int c.1) (g := fun c => T.int c.1) fun c _ => .int c.1
          · exact p.elim
        · exact p.elim
      · exact p.elim
  · exact p.elim
end
end Fx
set_option maxHeartbeats 4000000
namespace Fx
open PySem PySem.Spec PyProof.Rows L2 SX Ap
variable [Tb]
end Fx
set_option maxHeartbeats 4000000
namespace Fx
open PySem PySem.Spec PyProof.Rows L2 SX Ap
variable [Tb]
end Fx
set_option maxHeartbeats 4000000
namespace Fx
open PySem PySem.Spec PyProof.Rows L2 SX Ap
variable [Tb]
end Fx
set_option maxHeartbeats 4000000
namespace Ap
open PySem PySem.Spec PyProof.Rows L2 SX Fx
noncomputable section
def V4 : List Nat := [97,98,99,100,101,102,103,104,105,106,107,108,109,110,111,112,113,114,115,116,117,118,119,120,121,122,65,66,67,68,69,70,71,72,73,74,75,76,77,78,79,80,81,82,83,84,85,86,87,88,89,90,48,49,50,51,52,53,54,55,56,57,45,35,59,47,63,58,64,38,61,43,36,95,46,126,42,39,40,41]
def Yd (fl : Sto → R Fx.T) (lv : Fx.T) : FS :=
  (sTryAs "NoGraph" 2 (bCons (sSet 1 (eAsk fl lv 0))
      (sRet (eTup (aCons (eFld ["Graph"] "nodes" (eVar 1)) (aCons (eFld ["Graph"] "top" (eVar 1)) aNil)))))
      (fun y => (eIf (Fx.tAnd (eTru (eC (.bl true))) (eTru (eC (.bl true)))) (eXf y "index") (eC .non))))
def Zq (fl : Sto → R Fx.T) (lv : Fx.T) : FF := runF 3 (Yd fl lv)
def Z2d : FS :=
  (sRet (eLst (aCons (eBin gMul (eVar 0) (eCallB gIntT (aCons (eBin gGeW (eVar 0) (eBin gPow (eC (.int 10)) (eC (.int 18)))) aNil))) (aCons (eBin gMod (eCallB gIntT (aCons (eVar 0) aNil)) (eC (.int 2147483629))) (aCons (eC (.int 0)) aNil)))))
def Qh : FF := runF 1 Z2d
def Z08 : FS :=
  (sRet (eAnd (eCallB gIsi (aCons (eVar 0) (aCons (eC (.ty "int")) aNil))) (eAnd (eNot (eCallB gIsi (aCons (eVar 0) (aCons (eC (.ty "bool")) aNil)))) (eChain gLeW gLeW (eVar 1) (eVar 0) (eVar 2)))))
def Yt : FF := runF 3 Z08
def Qi : FE :=
  (eBin gInW (eVar 2) (eVar 1))
def Nq : FS :=
  (sRet (eAnd (eBin gNe (eVar 0) (eC (.str []))) (eCallB gAll (aCons (eLc [2] [2] (iAny (eVar 0)) eYes Qi) aNil))))
def Xp : FF := runF 3 Nq
def Z09 : FS :=
  (bCons (sIf (Fx.tOr (Fx.tNot (eTru (eCallB gIsi (aCons (eVar 0) (aCons (eC (.ty "str")) aNil))))) (Fx.tNot (eTru (eBM "str" gStarts (eVar 0) (aCons (eC (.str [33])) aNil)))))
      (sRet (eC (.bl false)))
      sPass)
    (sRet (eCall Xp [] (aCons (eIf (eTru (eBM "str" gStarts (eVar 0) (aCons (eC (.str [33,33])) aNil))) (eSl (eVar 0) (oSome (eC (.int 2))) oNone) (eSl (eVar 0) (oSome (eC (.int 1))) oNone)) (aCons (eC (.str V4)) aNil)))))
def Vy : FF := runF 1 Z09
def J9 : FE :=
  (eCall Yt [] (aCons (eVar 2) (aCons (eC (.int 0)) (aCons (eBin gSub (eVar 1) (eC (.int 1))) aNil))))
def Jo : FS :=
  (sRet (eAnd (eCallB gIsi (aCons (eVar 0) (aCons (eC (.ty "tuple")) aNil))) (eAnd (eBin gEq (eCallB gLen (aCons (eVar 0) aNil)) (eC (.int 2))) (eCallB gAll (aCons (eLc [2] [2] (iAny (eVar 0)) eYes J9) aNil)))))
def X3 : FF := runF 3 Jo
def Nr : FE :=
  (eCall Yt [] (aCons (eVar 5) (aCons (eC (.int 0)) (aCons (eBin gSub (eVar 1) (eC (.int 1))) aNil))))
def Nt : FE :=
  (eCall X3 [] (aCons (eVar 5) (aCons (eVar 1) aNil)))
def Xw : FS :=
  (bCons (sIf (Fx.tOr (Fx.tNot (eTru (eCallB gIsi (aCons (eVar 0) (aCons (eC (.ty "tuple")) aNil))))) (Fx.tOr (eBl (eBin gNe (eCallB gLen (aCons (eVar 0) aNil)) (eC (.int 3)))) (Fx.tOr (Fx.tNot (eTru (eCallB gIsi (aCons (eBin gIxW (eVar 0) (eC (.int 0))) (aCons (eC (.ty "str")) aNil))))) (Fx.tNot (eTru (eCall Vy [] (aCons (eBin gIxW (eVar 0) (eC (.int 1))) aNil)))))))
      (sRet (eC (.bl false)))
      sPass)
    (bCons (sAsg (eVar 0) (gTp 3 (gsCons (gNm 2) (gsCons (gNm 3) (gsCons (gNm 4) gsNil)))))
    (bCons (sIf (eBl (eBin gEq (eVar 2) (eC (.str [115,99,97,108,97,114]))))
      (sRet (eCallB gIsi (aCons (eVar 4) (aCons (eC (.ty "str")) aNil))))
      sPass)
    (bCons (sIf (Fx.tOr (eBl (eBin gNotInW (eVar 2) (eTup (aCons (eC (.str [115,101,113,117,101,110,99,101])) (aCons (eC (.str [109,97,112,112,105,110,103])) aNil))))) (Fx.tNot (eTru (eCallB gIsi (aCons (eVar 4) (aCons (eC (.ty "tuple")) aNil))))))
      (sRet (eC (.bl false)))
      sPass)
    (bCons (sIf (eBl (eBin gEq (eVar 2) (eC (.str [115,101,113,117,101,110,99,101]))))
      (sRet (eAnd (eBin gLeW (eCallB gLen (aCons (eVar 4) aNil)) (eC (.int (1000)))) (eCallB gAll (aCons (eLc [5] [5] (iAny (eVar 4)) eYes Nr) aNil))))
      sPass)
    (sRet (eAnd (eBin gLeW (eBin gMul (eC (.int 2)) (eCallB gLen (aCons (eVar 4) aNil))) (eC (.int (1000)))) (eCallB gAll (aCons (eLc [5] [5] (iAny (eVar 4)) eYes Nt) aNil)))))))))
def Zw : FF := runF 6 Xw
def Ym : FS :=
  (sIf (Fx.tNot (eTru (eCall Zw [] (aCons (eVar 4) (aCons (eCallB gLen (aCons (eVar 1) aNil)) aNil)))))
        (sRaise "NoGraph" "index" [] (aCons (eVar 3) aNil))
        sPass)
def W8 : FS :=
  (bCons (sIf (Fx.tOr (Fx.tNot (eTru (eCallB (gIsiI "Graph") (aCons (eVar 1) (aCons (eTup (aCons (eC (.ty "list")) (aCons (eC (.ty "tuple")) aNil))) aNil))))) (Fx.tNot (eBl (eChain gLeW gLeW (eC (.int 1)) (eCallB gLen (aCons (eVar 1) aNil)) (eC (.int (200)))))))
      (sRaise "NoGraph" "index" [] (aCons (eUn gNeg (eC (.int 1))) aNil))
      sPass)
    (bCons (sFor (iEnmA (aCons (eVar 1) aNil)) (gTp 2 (gsCons (gNm 3) (gsCons (gNm 4) gsNil))) Ym)
    (bCons (sIf (Fx.tNot (eTru (eCall Yt [] (aCons (eVar 2) (aCons (eC (.int 0)) (aCons (eBin gSub (eCallB gLen (aCons (eVar 1) aNil)) (eC (.int 1))) aNil))))))
      (sRaise "NoGraph" "index" [] (aCons (eUn gNeg (eC (.int 2))) aNil))
      sPass)
    (sAsg (eTup (aCons (eCallB gTuple (aCons (eVar 1) aNil)) (aCons (eVar 2) aNil))) (gTp 2 (gsCons (gFld ["Graph"] "nodes" (eVar 0)) (gsCons (gFld ["Graph"] "top" (eVar 0)) gsNil)))))))
def Zg : FF := runF 5 W8
def Nu : FS :=
  (bCons (sIf (eBl (eBin gGtW (eBin gIxW (eVar 0) (eC (.int 0))) (eC (.int 0))))
      (bCons (sSet 2 (eBin gMod (eCallB gIntT (aCons (eBin gIxW (eVar 0) (eC (.int 0))) aNil)) (eVar 1)))
      (bCons (sAsg (eBin gDiv (eBin gIxW (eVar 0) (eC (.int 0))) (eVar 1)) (gSubsW (eVar 0) (eC (.int 0))))
      (sRet (eVar 2))))
      sPass)
    (bCons (sAsg (eBin gAdd (eBin gIxW (eVar 0) (eC (.int 2))) (eC (.int 1))) (gSubsW (eVar 0) (eC (.int 2))))
    (bCons (sSet 3 (eBin gMod (eCallB gIntT (aCons (eBin gMul (eBin gAdd (eBin gAdd (eBin gIxW (eVar 0) (eC (.int 1))) (eBin gMul (eC (.int 9973)) (eBin gIxW (eVar 0) (eC (.int 2))))) (eC (.int 17))) (eC (.int 48271))) aNil)) (eC (.int 2147483647))))
    (bCons (sSet 3 (eBin gMod (eCallB gIntT (aCons (eBin gMul (eVar 3) (eBin gAdd (eBin gAdd (eBin gDiv (eVar 3) (eC (.int 1021))) (eC (.int 69621))) (eBin gIxW (eVar 0) (eC (.int 2))))) aNil)) (eC (.int 2147483587))))
    (sRet (eBin gMod (eCallB gIntT (aCons (eBin gDiv (eBin gMod (eCallB gIntT (aCons (eBin gMul (eVar 3) (eBin gAdd (eBin gDiv (eVar 3) (eC (.int 2011))) (eC (.int 40692)))) aNil)) (eC (.int 2147483399))) (eC (.int 7))) aNil)) (eVar 1)))))))
def Zz : FF := runF 4 Nu
def Z32 : FS :=
  (sRet (eBin gIxW (eVar 1) (eCall Zz [] (aCons (eVar 0) (aCons (eCallB gLen (aCons (eVar 1) aNil)) aNil)))))
def Y9 : FF := runF 2 Z32
def Ql : FE :=
  (eCall Zz [] (aCons (eVar 0) (aCons (eVar 1) aNil)))
def Qm : FE :=
  (eTup (aCons (eCall Zz [] (aCons (eVar 0) (aCons (eVar 1) aNil))) (aCons (eCall Zz [] (aCons (eVar 0) (aCons (eVar 1) aNil))) aNil)))
def Qn : FS :=
  (bCons (sSet 2 (eCall Zz [] (aCons (eVar 0) (aCons (eC (.int 7)) aNil))))
    (bCons (sIf (eBl (eBin gLt (eVar 2) (eC (.int 2))))
      (sRet (eTup (aCons (eC (.str [115,99,97,108,97,114])) (aCons (eCall Y9 [] (aCons (eVar 0) (aCons (eLst (aCons (eC (.str [33,33,115,116,114])) (aCons (eC (.str [33,33,115,116,114])) (aCons (eC (.str [33,120])) aNil)))) aNil))) (aCons (eCall Y9 [] (aCons (eVar 0) (aCons (eLst (aCons (eC (.str [97])) (aCons (eC (.str [98])) (aCons (eC (.str [])) aNil)))) aNil))) aNil)))))
      sPass)
    (bCons (sIf (eBl (eBin gLt (eVar 2) (eC (.int 5))))
      (bCons (sSet 3 (eLc [4] [4] (iRng (aCons (eCall Zz [] (aCons (eVar 0) (aCons (eC (.int 4)) aNil))) aNil)) eYes Ql))
      (sRet (eTup (aCons (eC (.str [115,101,113,117,101,110,99,101])) (aCons (eCall Y9 [] (aCons (eVar 0) (aCons (eLst (aCons (eC (.str [33,33,115,101,113])) (aCons (eC (.str [33,33,115,101,113])) (aCons (eC (.str [33,115])) aNil)))) aNil))) (aCons (eCallB gTuple (aCons (eVar 3) aNil)) aNil))))))
      sPass)
    (bCons (sSet 3 (eLc [4] [4] (iRng (aCons (eCall Zz [] (aCons (eVar 0) (aCons (eC (.int 3)) aNil))) aNil)) eYes Qm))
    (sRet (eTup (aCons (eC (.str [109,97,112,112,105,110,103])) (aCons (eCall Y9 [] (aCons (eVar 0) (aCons (eLst (aCons (eC (.str [33,33,109,97,112])) (aCons (eC (.str [33,33,109,97,112])) (aCons (eC (.str [33,109])) aNil)))) aNil))) (aCons (eCallB gTuple (aCons (eVar 3) aNil)) aNil)))))))))
def Vt : FF := runF 5 Qn
def Yv : FS :=
  (bCons (sSet 4 (eAnd (eBin gNeL (eVar 2) (eLst aNil)) (eBin gEq (eCall Zz [] (aCons (eVar 0) (aCons (eC (.int 4)) aNil))) (eC (.int 0)))))
      (sDrop (eBM "list" gAppend (eVar 2) (aCons (eIf (eTru (eVar 4)) (eCall Y9 [] (aCons (eVar 0) (aCons (eVar 2) aNil))) (eCall Vt [] (aCons (eVar 0) (aCons (eVar 1) aNil)))) aNil))))
def Ja : FS :=
  (bCons (sSet 2 (eLst aNil))
    (bCons (sFor (iRng (aCons (eVar 1) aNil)) (gNm 3) Yv)
    (sRet (eVar 2))))
def Uy : FF := runF 5 Ja
def Z0q : FS :=
  (sRet (eAnd (eIsC "Graph" (eVar 1)) (eBin gEq (eTup (aCons (eFld ["Graph"] "nodes" (eVar 0)) (aCons (eFld ["Graph"] "top" (eVar 0)) aNil))) (eTup (aCons (eFld ["Graph"] "nodes" (eVar 1)) (aCons (eFld ["Graph"] "top" (eVar 1)) aNil))))))
def Yj : FF := runF 2 Z0q
def Wv : FS :=
  (sRet (eOr (eBin gEq (eVar 9) (eC (.int 1))) (eBin (gOwnNe "Graph" Yj) (eMake "Graph" Zg [] (aCons (eVar 1) (aCons (eBin gMod (eCallB gIntT (aCons (eBin gAdd (eVar 2) (eC (.int 1))) aNil)) (eVar 9)) aNil))) (eVar 3))))
def Xh : FS :=
  (bCons (sSet 9 (eCallB gLen (aCons (eVar 1) aNil)))
    Wv)
def Uc : FS :=
  (bCons (sIf (Fx.tOr (eBl (eBin (gOwnEq "Graph" Yj) (eMake "Graph" Zg [] (aCons (eVar 7) (aCons (eVar 2) aNil))) (eVar 3))) (Fx.tNot (eBl (eBin (gOwnNe "Graph" Yj) (eMake "Graph" Zg [] (aCons (eVar 7) (aCons (eVar 2) aNil))) (eVar 3)))))
      (sRet (eC (.bl false)))
      sPass)
    Xh)
def Uk : FS :=
  (bCons (sAsg (eTup (aCons (eC (.str [115,99,97,108,97,114])) (aCons (eC (.str [33,111,116,104,101,114])) (aCons (eC (.str [99])) aNil)))) (gSubsW (eVar 7) (eVar 8)))
    Uc)
def Ul : FS :=
  (bCons (sSet 8 (eCall Zz [] (aCons (eVar 0) (aCons (eCallB gLen (aCons (eVar 7) aNil)) aNil))))
    Uk)
def Yy : FS :=
  (bCons (sSet 7 (eCallB gList (aCons (eVar 1) aNil)))
    Ul)
def Xq : FS :=
  (bCons (sIf (Fx.tOr (eBl (eBin gNe (eFld ["Graph"] "nodes" (eMake "Graph" Zg [] (aCons (eVar 5) (aCons (eVar 2) aNil)))) (eCallB gTuple (aCons (eSlS (eVar 1) oNone oNone (oSome (eUn gNeg (eC (.int 1))))) aNil)))) (eBl (eBin gNe (eFld ["Graph"] "nodes" (eVar 6)) (eCallB gTuple (aCons (eVar 1) aNil)))))
      (sRet (eC (.bl false)))
      sPass)
    Yy)
def Um : FS :=
  (bCons (sDrop (eBM "list" gReverse (eVar 5) aNil))
    Xq)
def Uo : FS :=
  (bCons (sSet 6 (eMake "Graph" Zg [] (aCons (eVar 5) (aCons (eVar 2) aNil))))
    Um)
def Xr : FS :=
  (bCons (sSet 5 (eCallB gList (aCons (eVar 1) aNil)))
    Uo)
def Xu : FS :=
  (bCons (sIf (Fx.tOr (Fx.tNot (eBl (eBin (gOwnEq "Graph" Yj) (eVar 3) (eVar 4)))) (Fx.tOr (eBl (eBin (gOwnNe "Graph" Yj) (eVar 3) (eVar 4))) (Fx.tOr (eBl (eBin (gOwnEq "Graph" Yj) (eVar 3) (eTup (aCons (eCallB gTuple (aCons (eVar 1) aNil)) (aCons (eVar 2) aNil))))) (Fx.tOr (eBl (eBin (gOwnEq "Graph" Yj) (eVar 3) (eC .non))) (eBl (eBin (gOwnEq "Graph" Yj) (eVar 3) (eVar 1)))))))
      (sRet (eC (.bl false)))
      sPass)
    Xr)
def Xv : FS :=
  (bCons (sPar [3,4] (aCons (eMake "Graph" Zg [] (aCons (eCallB gTuple (aCons (eVar 1) aNil)) (aCons (eVar 2) aNil))) (aCons (eMake "Graph" Zg [] (aCons (eCallB gList (aCons (eVar 1) aNil)) (aCons (eVar 2) aNil))) aNil)))
    Xu)
def Vu : FS :=
  (bCons (sIf (Fx.tOr (eBl (eBin gNe (eLam Zq (eMake "Graph" Zg [] (aCons (eCallB gList (aCons (eVar 1) aNil)) (aCons (eVar 2) aNil))) aNil) (eTup (aCons (eCallB gTuple (aCons (eVar 1) aNil)) (aCons (eVar 2) aNil))))) (eBl (eBin gNe (eFld ["Graph"] "top" (eMake "Graph" Zg [] (aCons (eVar 1) (aCons (eVar 2) aNil)))) (eVar 2))))
      (sRet (eC (.bl false)))
      sPass)
    Xv)
def Vv : FF := runF 10 Vu
def We : FE :=
  (eTup (aCons (eC (.str [115,99,97,108,97,114])) (aCons (eVar 7) (aCons (eC (.str [97])) aNil))))
def Wf : FE :=
  (eTup (aCons (eC (.str [115,99,97,108,97,114])) (aCons (eC (.str [33,33,115,116,114])) (aCons (eVar 8) aNil))))
def Wg : FE :=
  (eTup (aCons (eC (.str [115,101,113,117,101,110,99,101])) (aCons (eC (.str [33,33,115,101,113])) (aCons (eVar 8) aNil))))
def Wh : FE :=
  (eTup (aCons (eC (.str [109,97,112,112,105,110,103])) (aCons (eC (.str [33,33,109,97,112])) (aCons (eVar 8) aNil))))
def Yw : FE :=
  (eTup (aCons (eC (.str [109,97,112,112,105,110,103])) (aCons (eC (.str [33,33,109,97,112])) (aCons (eVar 8) aNil))))
def Wi : FS :=
  (sRet (eCall Y9 [] (aCons (eVar 0) (aCons (eBin gAdd (eVar 5) (eLc [8] [8] (iAny (eVar 6)) eYes Yw)) aNil))))
def Wj : FS :=
  (bCons (sSet 6 (eLst (aCons (eTup (aCons (eTup (aCons (eC (.int 0)) (aCons (eVar 1) aNil))) aNil)) (aCons (eTup (aCons (eTup (aCons (eBin gSub (eC (.int 0)) (eC (.int 1))) (aCons (eC (.int 0)) aNil))) aNil)) (aCons (eTup (aCons (eTup (aCons (eC (.int 0)) (aCons (eC (.bl true)) aNil))) aNil)) (aCons (eVar 4) (aCons (eTup (aCons (eTup (aCons (eC (.int 0)) (aCons (eC .non) aNil))) aNil)) (aCons (eTup (aCons (eTup (aCons (eC (.int 0)) (aCons (eC (.int 0)) aNil))) (aCons (eTup (aCons (eVar 1) (aCons (eC (.int 0)) aNil))) aNil))) aNil))))))))
    Wi)
def Wk : FS :=
  (bCons (sSet 5 (eBin gAdd (eVar 5) (eLc [8] [8] (iAny (eTup (aCons (eC .non) (aCons (eC (.str [97,98])) (aCons (eLst (aCons (eTup (aCons (eC (.int 0)) (aCons (eC (.int 0)) aNil))) aNil)) (aCons (eTup (aCons (eC (.int 0)) (aCons (eC (.int 0)) aNil))) (aCons (eTup (aCons (eTup (aCons (eC (.int 0)) aNil)) aNil)) (aCons (eTup (aCons (eTup (aCons (eC (.int 0)) (aCons (eC (.int 0)) (aCons (eC (.int 0)) aNil)))) aNil)) (aCons (eTup (aCons (eLst (aCons (eC (.int 0)) (aCons (eC (.int 0)) aNil))) aNil)) aNil))))))))) eYes Wh)))
    Wj)
def Wl : FS :=
  (bCons (sSet 5 (eBin gAdd (eVar 5) (eLst (aCons (eTup (aCons (eC (.str [115,101,113,117,101,110,99,101])) (aCons (eC (.str [33,33,115,101,113])) (aCons (eTup (aCons (eC (.int 0)) (aCons (eVar 1) aNil))) aNil)))) (aCons (eTup (aCons (eC (.str [115,101,113,117,101,110,99,101])) (aCons (eC (.str [33,33,115,101,113])) (aCons (eTup (aCons (eBin gSub (eC (.int 0)) (eC (.int 1))) aNil)) aNil)))) (aCons (eTup (aCons (eC (.str [115,101,113,117,101,110,99,101])) (aCons (eC (.str [33,33,115,101,113])) (aCons (eVar 3) aNil)))) aNil))))))
    Wk)
def Wm : FS :=
  (bCons (sSet 5 (eBin gAdd (eVar 5) (eLc [8] [8] (iAny (eTup (aCons (eC .non) (aCons (eC (.str [97,98])) (aCons (eLst (aCons (eC (.int 0)) aNil)) (aCons (eC (.int 0)) (aCons eDict0 (aCons (eTup (aCons (eC .non) aNil)) (aCons (eTup (aCons (eC (.str [48])) aNil)) (aCons (eTup (aCons (eC (.bl true)) aNil)) (aCons (eTup (aCons (eTup (aCons (eC (.int 0)) aNil)) aNil)) aNil))))))))))) eYes Wg)))
    Wl)
def Wn : FS :=
  (bCons (sSet 5 (eBin gAdd (eVar 5) (eLc [8] [8] (iAny (eTup (aCons (eC .non) (aCons (eC (.int 5)) (aCons (eC (.bl true)) (aCons (eTup (aCons (eC (.str [97])) aNil)) (aCons (eLst (aCons (eC (.str [97])) aNil)) (aCons eDict0 aNil)))))))) eYes Wf)))
    Wm)
def Wo : FS :=
  (bCons (sSet 5 (eBin gAdd (eVar 5) (eLc [7] [7] (iAny (eTup (aCons (eC (.str [])) (aCons (eC (.str [33])) (aCons (eC (.str [33,33])) (aCons (eC (.str [120])) (aCons (eC (.str [33,97,44,98])) (aCons (eC (.str [33,97,32,98])) (aCons (eC (.str [33,97,33,98])) (aCons (eC (.str [33,33,97,91])) (aCons (eC .non) (aCons (eC (.int 5)) (aCons (eLst (aCons (eC (.str [33,97])) aNil)) aNil))))))))))))) eYes We)))
    Wn)
def Wq : FS :=
  (bCons (sSet 5 (eBin gAdd (eVar 5) (eLst (aCons (eTup (aCons (eC (.str [83,99,97,108,97,114])) (aCons (eC (.str [33,33,115,116,114])) (aCons (eC (.str [97])) aNil)))) (aCons (eTup (aCons (eC (.int 5)) (aCons (eC (.str [33,33,115,116,114])) (aCons (eC (.str [97])) aNil)))) (aCons (eTup (aCons (eC (.str [97,108,105,97,115])) (aCons (eC (.str [33,33,115,116,114])) (aCons (eC (.str [97])) aNil)))) (aCons (eTup (aCons (eLst (aCons (eC (.str [115,99,97,108,97,114])) aNil)) (aCons (eC (.str [33,33,115,116,114])) (aCons (eC (.str [97])) aNil)))) aNil)))))))
    Wo)
def Wr : FS :=
  (bCons (sSet 5 (eLst (aCons (eC .non) (aCons (eC (.int 5)) (aCons (eC (.str [115,99,97,108,97,114])) (aCons (eLst aNil) (aCons eDict0 (aCons (eTup aNil) (aCons (eTup (aCons (eC (.str [115,99,97,108,97,114])) (aCons (eC (.str [33,33,115,116,114])) aNil))) (aCons (eTup (aCons (eC (.str [115,99,97,108,97,114])) (aCons (eC (.str [33,33,115,116,114])) (aCons (eC (.str [97])) (aCons (eC (.int 1)) aNil))))) (aCons (eLst (aCons (eC (.str [115,99,97,108,97,114])) (aCons (eC (.str [33,33,115,116,114])) (aCons (eC (.str [97])) aNil)))) aNil)))))))))))
    Wq)
def Vl : FS :=
  (bCons (sAsg (eIf (eTru (eVar 2)) (eTup (aCons (eBin gMulT (eTup (aCons (eC (.int 0)) aNil)) (eC (.int 1001))) (aCons (eBin gMulT (eTup (aCons (eTup (aCons (eC (.int 0)) (aCons (eC (.int 0)) aNil))) aNil)) (eC (.int 501))) aNil))) (eTup (aCons (eTup (aCons (eVar 1) aNil)) (aCons (eTup (aCons (eTup (aCons (eVar 1) (aCons (eC (.int 0)) aNil))) aNil)) aNil)))) (gTp 2 (gsCons (gNm 3) (gsCons (gNm 4) gsNil))))
    Wr)
def Uq : FF := runF 9 Vl
def W9 : FE :=
  (eCall Zz [] (aCons (eVar 0) (aCons (eVar 3) aNil)))
def Yo : FS :=
  (sAsg (eCall Uq [] (aCons (eVar 0) (aCons (eVar 3) (aCons (eBin gEq (eVar 5) (eC (.int 0))) aNil)))) (gSubsW (eVar 7) (eVar 6)))
def X4 : FS :=
  (sRet (eBin gEq (eLam Zq (eMake "Graph" Zg [] (aCons (eVar 8) (aCons (eCall Y9 [] (aCons (eVar 0) (aCons (eLst (aCons (eC (.int 0)) (aCons (eC .non) aNil))) aNil))) aNil))) aNil) (eBin gSub (eC (.int 0)) (eC (.int 1)))))
def X5 : FS :=
  (bCons (sSet 8 (eCall Y9 [] (aCons (eVar 0) (aCons (eLst (aCons (eC .non) (aCons (eC (.int 5)) (aCons (eC (.str [110,111,100,101,115])) (aCons eDict0 (aCons (eDict (pCons (eC (.int 0)) (eBin gIxW (eVar 1) (eC (.int 0))) pNil)) (aCons (eTup aNil) (aCons (eLst aNil) (aCons (eBin gMul (eVar 1) (eBin gAdd (eBin gDiv (eC (.int 200)) (eVar 3)) (eC (.int 1)))) (aCons (eMake "Graph" Zg [] (aCons (eVar 1) (aCons (eVar 2) aNil))) aNil)))))))))) aNil))))
    X4)
def X6 : FS :=
  (bCons (sIf (eBl (eBin gNe (eLam Zq (eMake "Graph" Zg [] (aCons (eCallB gTuple (aCons (eVar 7) aNil)) (aCons (eCall Y9 [] (aCons (eVar 0) (aCons (eLst (aCons (eVar 2) (aCons (eVar 9) aNil))) aNil))) aNil))) aNil) (eBin gIxW (eVar 4) (eC (.int 0)))))
      (sRet (eC (.bl false)))
      sPass)
    X5)
def Wb : FS :=
  (bCons (sFor (iEnmA (aCons (eVar 4) aNil)) (gTp 2 (gsCons (gNm 5) (gsCons (gNm 6) gsNil))) Yo)
    X6)
def X7 : FS :=
  (bCons (sSet 7 (eCallB gList (aCons (eVar 1) aNil)))
    Wb)
def X8 : FS :=
  (bCons (sSet 4 (eCallB gSorted (aCons (eLc [10] [10] (iRng (aCons (eBin gAdd (eC (.int 1)) (eCall Zz [] (aCons (eVar 0) (aCons (eC (.int 3)) aNil)))) aNil)) eYes W9) aNil)))
    X7)
def Xa : FS :=
  (bCons (sIf (eBl (eBin gNe (eLam Zq (eMake "Graph" Zg [] (aCons (eVar 1) (aCons (eVar 9) aNil))) aNil) (eBin gSub (eC (.int 0)) (eC (.int 2)))))
      (sRet (eC (.bl false)))
      sPass)
    X8)
def U4 : FS :=
  (bCons (sSet 9 (eCall Y9 [] (aCons (eVar 0) (aCons (eLst (aCons (eVar 3) (aCons (eBin gSub (eC (.int 0)) (eC (.int 1))) (aCons (eC .non) (aCons (eC (.bl true)) (aCons (eC (.str [48])) (aCons (eTup (aCons (eC (.int 0)) aNil)) (aCons (eLst aNil) (aCons eDict0 aNil))))))))) aNil))))
    Xa)
def V5 : FS :=
  (bCons (sSet 3 (eCallB gLen (aCons (eVar 1) aNil)))
    U4)
def V6 : FF := runF 11 V5
def Z2e : FS :=
  (sIf (Fx.tOr (eBl (eBin gNe (eLam Zq (eMake "Graph" Zg [(.int (0))] (aCons (eLst (aCons (eVar 7) aNil)) aNil)) aNil) (eC (.int 0)))) (eBl (eBin gNe (eLam Zq (eMake "Graph" Zg [(.int (0))] (aCons (eBin gAdd (eSl (eVar 8) (oSome (eC (.int 2))) (oSome (eC (.int 3)))) (eLst (aCons (eVar 7) aNil))) aNil)) aNil) (eC (.int 1)))))
        (sRet (eC (.bl false)))
        sPass)
def Z3o : FS :=
  (bCons (sSet 4 (eBin gAdd (eC (.int 1)) (eCall Zz [] (aCons (eVar 2) (aCons (eC (.int 9)) aNil)))))
        (bCons (sPar [5,6] (aCons (eCall Uy [] (aCons (eVar 2) (aCons (eVar 4) aNil))) (aCons (eCall Zz [] (aCons (eVar 2) (aCons (eVar 4) aNil))) aNil)))
        (sIf (Fx.tOr (Fx.tNot (eTru (eCall Vv [] (aCons (eVar 2) (aCons (eVar 5) (aCons (eVar 6) aNil)))))) (Fx.tNot (eTru (eCall V6 [] (aCons (eVar 2) (aCons (eVar 5) (aCons (eVar 6) aNil)))))))
          (sRet (eC (.bl false)))
          sPass)))
def Z2f : FS :=
  (bCons (sSet 2 (eCall Qh [] (aCons (eVar 1) aNil)))
      (sFor (iRng (aCons (eC (.int 3)) aNil)) (gNm 3) Z3o))
def Z3p : FS :=
  (sRet (eBin gEq (eLam Zq (eMake "Graph" Zg [(.int (0))] (aCons (eLst (aCons (eTup (aCons (eC (.str [115,99,97,108,97,114])) (aCons (eC (.str [33,33,115,116,114])) (aCons (eC (.str [97])) aNil)))) aNil)) aNil)) aNil) (eTup (aCons (eTup (aCons (eTup (aCons (eC (.str [115,99,97,108,97,114])) (aCons (eC (.str [33,33,115,116,114])) (aCons (eC (.str [97])) aNil)))) aNil)) (aCons (eC (.int 0)) aNil)))))
def Z5k : FS :=
  (bCons (sFor (iAny (eBin gAdd (eSl (eVar 0) oNone (oSome (eC (.int 6)))) (eLst (aCons (eC (.int 0)) aNil)))) (gNm 1) Z2f)
    Z3p)
def Z5l : FS :=
  (bCons (sFor (iAny (eTup (aCons (eTup (aCons (eC (.str [115,101,113,117,101,110,99,101])) (aCons (eC (.str [33,33,115,101,113])) (aCons (eBin gMulT (eTup (aCons (eC (.int 0)) aNil)) (eC (.int 1001))) aNil)))) (aCons (eTup (aCons (eC (.str [109,97,112,112,105,110,103])) (aCons (eC (.str [33,33,109,97,112])) (aCons (eBin gMulT (eTup (aCons (eTup (aCons (eC (.int 0)) (aCons (eC (.int 0)) aNil))) aNil)) (eC (.int 501))) aNil)))) aNil)))) (gNm 7) Z2e)
    Z5k)
def Z3q : FS :=
  (bCons (sIf (eBl (eBin gNe (eLam Zq (eMake "Graph" Zg [] (aCons (eVar 8) (aCons (eC (.int 199)) aNil))) aNil) (eTup (aCons (eCallB gTuple (aCons (eVar 8) aNil)) (aCons (eC (.int 199)) aNil)))))
      (sRet (eC (.bl false)))
      sPass)
    Z5l)
def Zci : FS :=
  (bCons (sSet 8 (eBin gAdd (eLst (aCons (eTup (aCons (eC (.str [115,101,113,117,101,110,99,101])) (aCons (eC (.str [33,33,115,101,113])) (aCons (eBin gMulT (eTup (aCons (eC (.int 0)) aNil)) (eC (.int 1000))) aNil)))) (aCons (eTup (aCons (eC (.str [109,97,112,112,105,110,103])) (aCons (eC (.str [33,33,109,97,112])) (aCons (eBin gMulT (eTup (aCons (eTup (aCons (eC (.int 0)) (aCons (eC (.int 0)) aNil))) aNil)) (eC (.int 500))) aNil)))) aNil))) (eBin gMul (eLst (aCons (eTup (aCons (eC (.str [115,99,97,108,97,114])) (aCons (eC (.str [33,115])) (aCons (eC (.str [])) aNil)))) aNil)) (eC (.int 198)))))
    Z3q)
def Zcj : FF := runF 9 Zci
end
end Ap
set_option maxHeartbeats 4000000
namespace Ap
open PySem PySem.Spec PyProof.Rows L2 SX Fx
section
variable [Tb] {w : World} {K : PySem.W.Frag} {mg : PySem.Str → Option Value} (C : Cx5 fns tabs exs w K mg)
include C
theorem Xb  : FunD K "_law_said" "_law_said" (defArgs Yq) (defBody Yq) (defScope Yq) [] [] ((gY "_law_said") K) (fdOf K ((gY "_law_said") K)) := C.c.def_ 0 (d := Z15)
theorem Xk  : Binds K (fdOf K ((gY "_law_said") K)) Z1y [] := FunD.bindsN (Xb C) fun _ _ _ _ _ _ us hl => match us, hl with | [_], _ => rfl
theorem Jb  : FunD K "_law_well" "_law_well" (defArgs V1) (defBody V1) (defScope V1) [] [] ((gY "_law_well") K) (fdOf K ((gY "_law_well") K)) := C.c.def_ 1 (d := Z16)
theorem Z4t  : Binds K (fdOf K ((gY "_law_well") K)) N7 [] := FunD.bindsN (Jb C) fun _ _ _ _ _ _ us hl => match us, hl with | [_], _ => rfl
theorem Jc  : FunD K "__init__" "NoGraph.__init__" (defArgs Xd) (defBody Xd) (defScope Xd) [.non] [] ((mY "NoGraph" "__init__") K) (fdOf K ((mY "NoGraph" "__init__") K)) := C.c.def_ 2 (d := Qz)
theorem Z0r  : ∃ ds, Vals (List.drop 1 [.non]) ds ∧ Binds K (fdOf K ((mY "NoGraph" "__init__") K)) Vx ds := FunD.binds1 (Jc C) (ps := Vx) 2 1 (by simp) rfl fun _ _ _ _ _ _ _ us its hu hi => match us, its, hu, hi with | [_, _], [_], _, _ => ⟨_, rfl, rfl⟩
theorem Q6  : FunD K "is_from" "is_from" (defArgs Ui) (defBody Ui) (defScope Ui) [] [] ((gY "is_from") K) (fdOf K ((gY "is_from") K)) := C.c.def_ 3 (d := Z2t)
theorem Z0s  : Binds K (fdOf K ((gY "is_from") K)) Z20 [] := FunD.bindsN (Q6 C) fun _ _ _ _ _ _ us hl => match us, hl with | [_, _, _], _ => rfl
theorem Jd  : FunD K "are_signs" "are_signs" (defArgs W4) (defBody W4) (defScope W4) [] [] ((gY "are_signs") K) (fdOf K ((gY "are_signs") K)) := C.c.def_ 4 (d := Z17)
theorem Z4u  : Binds K (fdOf K ((gY "are_signs") K)) N8 [] := FunD.bindsN (Jd C) fun _ _ _ _ _ _ us hl => match us, hl with | [_, _], _ => rfl
theorem Z2g  : FunD K "is_tag" "is_tag" (defArgs Qe) (defBody Qe) (defScope Qe) [] [] ((gY "is_tag") K) (fdOf K ((gY "is_tag") K)) := C.c.def_ 5 (d := Z4k)
theorem Z8w  : Binds K (fdOf K ((gY "is_tag") K)) Z3j [] := FunD.bindsN (Z2g C) fun _ _ _ _ _ _ us hl => match us, hl with | [_], _ => rfl
theorem Nv  : FunD K "is_entry" "is_entry" (defArgs V8) (defBody V8) (defScope V8) [] [] ((gY "is_entry") K) (fdOf K ((gY "is_entry") K)) := C.c.def_ 6 (d := Z22)
theorem Z5m  : Binds K (fdOf K ((gY "is_entry") K)) Z0m [] := FunD.bindsN (Nv C) fun _ _ _ _ _ _ us hl => match us, hl with | [_, _], _ => rfl
theorem Z0t  : FunD K "is_node" "is_node" (defArgs Vh) (defBody Vh) (defScope Vh) [] [] ((gY "is_node") K) (fdOf K ((gY "is_node") K)) := C.c.def_ 7 (d := Z2v)
theorem Z7d  : Binds K (fdOf K ((gY "is_node") K)) Z24 [] := FunD.bindsN (Z0t C) fun _ _ _ _ _ _ us hl => match us, hl with | [_, _], _ => rfl
theorem Qo  : FunD K "__init__" "Graph.__init__" (defArgs W6) (defBody W6) (defScope W6) [(.int 0)] [] ((mY "Graph" "__init__") K) (fdOf K ((mY "Graph" "__init__") K)) := C.c.def_ 8 (d := Z03)
theorem Z2h  : ∃ ds, Vals (List.drop 0 [(.int 0)]) ds ∧ Binds K (fdOf K ((mY "Graph" "__init__") K)) Va ds := FunD.binds1 (Qo C) (ps := Va) 2 0 (by simp) rfl fun _ _ _ _ _ _ _ us its hu hi => match us, its, hu, hi with | [_, _], [_], _, _ => ⟨_, rfl, rfl⟩
theorem Ur  : ∃ ds, Vals (List.drop 1 [(.int 0)]) ds ∧ Binds K (fdOf K ((mY "Graph" "__init__") K)) Va ds := FunD.binds1 (Qo C) (ps := Va) 3 1 (by simp) rfl fun _ _ _ _ _ _ _ us its hu hi => match us, its, hu, hi with | [_, _, _], [_], _, _ => ⟨_, rfl, rfl⟩
theorem Y8  : FunD K "_law_draw" "_law_draw" (defArgs V2) (defBody V2) (defScope V2) [] [] ((gY "_law_draw") K) (fdOf K ((gY "_law_draw") K)) := C.c.def_ 9 (d := Z18)
theorem Ye  : Binds K (fdOf K ((gY "_law_draw") K)) Nf [] := FunD.bindsN (Y8 C) fun _ _ _ _ _ _ us hl => match us, hl with | [_, _], _ => rfl
theorem Yr  : FunD K "_law_one" "_law_one" (defArgs Vp) (defBody Vp) (defScope Vp) [] [] ((gY "_law_one") K) (fdOf K ((gY "_law_one") K)) := C.c.def_ 10 (d := Z25)
theorem Xe  : Binds K (fdOf K ((gY "_law_one") K)) Z0n [] := FunD.bindsN (Yr C) fun _ _ _ _ _ _ us hl => match us, hl with | [_, _], _ => rfl
theorem Je  : FunD K "_law_node" "_law_node" (defArgs Xn) (defBody Xn) (defScope Xn) [] [] ((gY "_law_node") K) (fdOf K ((gY "_law_node") K)) := C.c.def_ 11 (d := Z19)
theorem Z4v  : Binds K (fdOf K ((gY "_law_node") K)) Nk [] := FunD.bindsN (Je C) fun _ _ _ _ _ _ us hl => match us, hl with | [_, _], _ => rfl
theorem Qp  : FunD K "_law_nodes" "_law_nodes" (defArgs W7) (defBody W7) (defScope W7) [] [] ((gY "_law_nodes") K) (fdOf K ((gY "_law_nodes") K)) := C.c.def_ 12 (d := Z04)
theorem Z3r  : Binds K (fdOf K ((gY "_law_nodes") K)) J8 [] := FunD.bindsN (Qp C) fun _ _ _ _ _ _ us hl => match us, hl with | [_, _], _ => rfl
theorem Z2i  : FunD K "__eq__" "Graph.__eq__" (defArgs Vq) (defBody Vq) (defScope Vq) [] [] ((mY "Graph" "__eq__") K) (fdOf K ((mY "Graph" "__eq__") K)) := C.c.def_ 13 (d := Z26)
theorem Wd  : Binds K (fdOf K ((mY "Graph" "__eq__") K)) Z0o [] := FunD.bindsN (Z2i C) fun _ _ _ _ _ _ us hl => match us, hl with | [_, _], _ => rfl
theorem Vm  : FunD K "_law_good_right" "_law_good_right" (defArgs Zu) (defBody Zu) (defScope Zu) [] [] ((gY "_law_good_right") K) (fdOf K ((gY "_law_good_right") K)) := C.c.def_ 14 (d := Uw)
theorem Z0a  : Binds K (fdOf K ((gY "_law_good_right") K)) Vr [] := FunD.bindsN (Vm C) fun _ _ _ _ _ _ us hl => match us, hl with | [_, _, _], _ => rfl
theorem U8  : FunD K "_law_odd_node" "_law_odd_node" (defArgs Zx) (defBody Zx) (defScope Zx) [] [] ((gY "_law_odd_node") K) (fdOf K ((gY "_law_odd_node") K)) := C.c.def_ 15 (d := Qt)
theorem Z1k  : Binds K (fdOf K ((gY "_law_odd_node") K)) Uj [] := FunD.bindsN (U8 C) fun _ _ _ _ _ _ us hl => match us, hl with | [_, _, _], _ => rfl
theorem Ww  : FunD K "_law_spoilt_right" "_law_spoilt_right" (defArgs Zj) (defBody Zj) (defScope Zj) [] [] ((gY "_law_spoilt_right") K) (fdOf K ((gY "_law_spoilt_right") K)) := C.c.def_ 16 (d := Ub)
theorem Ju  : Binds K (fdOf K ((gY "_law_spoilt_right") K)) V3 [] := FunD.bindsN (Ww C) fun _ _ _ _ _ _ us hl => match us, hl with | [_, _, _], _ => rfl
theorem Zb7  : FunD K "law" "law" (defArgs Nm) (defBody Nm) (defScope Nm) [] [] ((gY "law") K) (fdOf K ((gY "law") K)) := C.c.def_ 17 (d := Zb5)
theorem Z4w  : ∃ t, mg "TAG_SIGNS" = some (.str (S V4) t) := C.str 3
theorem Z2j  : ∃ t, mg "MOST_NUMBERS" = some (.int (1000) t) := C.int 4
theorem Z3s  : ∃ t, mg "MOST_NODES" = some (.int (200) t) := C.int 5
theorem Zy  : CF K "Graph" (He.ga K "Graph") := ⟨C.ns 6, He.cls_ok (C.c.fact 7)⟩
theorem Yp  : Mk K (He.ga K "Graph") (mY "Graph" "__init__" K) := He.mkr_ok (C.c.fact 8)
theorem Xx  : NoAttr K (He.ga K "Graph") "nodes" := He.noat_ok (C.c.fact 9)
theorem U5  : NoAttr K (He.ga K "Graph") "top" := He.noat_ok (C.c.fact 10)
theorem Zaf  : PySem.W.kitAny K (.ref (He.ga K "Graph")) [.type "list", .type "tuple"] = some false := Za5 (C.c.fact 11)
theorem Z3t  : PySem.W.findIn K (.ref (He.ga K "Graph")) "__ne__" = some (some (.builtin "object.__ne__")) := Zdk (C.c.fact 12)
theorem Vz  : OC K "Graph" (He.ga K "Graph") (mY "Graph" "__eq__" K) := by
  obtain ⟨h1, h⟩ := He.ba (C.c.fact 13 : eqB5 "Graph" K = true)
  obtain ⟨h2,h⟩ := He.ba h
  obtain ⟨h3,h4⟩ := He.ba h
  exact ⟨Zy C,Zc3 (Zy C).cls (C.c.fact 14),He.eqO_ok h1,h2,h3,h4⟩
theorem Vw  : PySem.W.nsIn K mainGlobals "NoGraph" = some (some (.ref (He.ga K "NoGraph"))) := C.ns 15
theorem Us  : OexC K (He.ga K "NoGraph") := Zc1 (C.c.fact 16)
theorem Ny  : XfC K (He.ga K "NoGraph") ∧ ExcC K (He.ga K "NoGraph") := Zc2 (C.c.fact 17)
theorem Z33  : PySem.W.findIn K (.ref (He.ga K "NoGraph")) "index" = some none := He.noat_ok (C.c.fact 18)
theorem Ug  : PySem.W.findIn K (.ref (He.ga K "NoGraph")) "__init__" = some (some (.ref (mY "NoGraph" "__init__" K))) ∧ PySem.W.typeIn K (.ref (mY "NoGraph" "__init__" K)) = some (.type "function") := Za1 (C.c.fact 19)
theorem Z7e  : PySem.W.exmOne K (.ref (He.ga K "NoGraph")) (.ref (He.ga K "NoGraph")) = some true := He.exm_ok (C.c.fact 20)
theorem Z7f  : PySem.W.kitOne K (.ref (He.ga K "NoGraph")) (.ref (He.ga K "PageError")) = some true := Z68 (v := fun K => .ref (He.ga K "PageError")) (C.c.fact 21)
theorem Z7g  : PySem.W.kitOne K (.ref (He.ga K "NoGraph")) (.type "ValueError") = some true := Z68 (v := fun _ => .type "ValueError") (C.c.fact 22)
theorem bs_  : BaseC K (He.ga K "PageError") := Za0 (C.c.fact 23)
theorem nd_  : NoDig K := Z86 (C.c.fact 24)
theorem Z1b  : mg "PageError" = some (.ref (He.ga K "PageError")) := C.glo 25
theorem Jp  : mg "NoGraph" = some (.ref (He.ga K "NoGraph")) := C.glo 15
theorem Z4x  : mg "are_signs" = some (.ref (He.ga K "are_signs")) := C.glo 26
theorem Z0u  : mg "is_from" = some (.ref (He.ga K "is_from")) := C.glo 27
theorem Z8x  : mg "is_tag" = some (.ref (He.ga K "is_tag")) := C.glo 28
theorem Z5n  : mg "is_entry" = some (.ref (He.ga K "is_entry")) := C.glo 29
theorem Z7h  : mg "is_node" = some (.ref (He.ga K "is_node")) := C.glo 30
theorem Yg  : mg "_law_draw" = some (.ref (He.ga K "_law_draw")) := C.glo 31
theorem Xf  : mg "_law_one" = some (.ref (He.ga K "_law_one")) := C.glo 32
theorem Z4y  : mg "_law_node" = some (.ref (He.ga K "_law_node")) := C.glo 33
theorem Yz  : mg "Graph" = some (.ref (He.ga K "Graph")) := C.glo 6
theorem Xl  : mg "_law_said" = some (.ref (He.ga K "_law_said")) := C.glo 34
theorem Z1l  : mg "_law_odd_node" = some (.ref (He.ga K "_law_odd_node")) := C.glo 35
theorem Z4z  : mg "_law_well" = some (.ref (He.ga K "_law_well")) := C.glo 36
theorem Z3u  : mg "_law_nodes" = some (.ref (He.ga K "_law_nodes")) := C.glo 37
theorem Jv  : mg "_law_spoilt_right" = some (.ref (He.ga K "_law_spoilt_right")) := C.glo 38
theorem Z0b  : mg "_law_good_right" = some (.ref (He.ga K "_law_good_right")) := C.glo 39
theorem Zdw  : mg "law" = some (.ref (He.ga K "law")) := C.glo 40
theorem Yc  : mg "isinstance" = none := C.free 41
theorem Z3v  : mg "ValueError" = none := C.free 42
theorem Z0c  : mg "int" = none := C.free 43
theorem Zck  : mg "bool" = none := C.free 44
theorem fr_all  : mg "all" = none := C.free 45
theorem Z8y  : mg "str" = none := C.free 46
theorem Jf  : mg "len" = none := C.free 47
theorem Xz  : mg "tuple" = none := C.free 48
theorem Z0v  : mg "list" = none := C.free 49
theorem Z1c  : mg "enumerate" = none := C.free 50
theorem Z0d  : mg "range" = none := C.free 51
theorem Z8z  : mg "sorted" = none := C.free 52
end
section
variable {P : Program} {base : Heap}
variable [Tb] {w : World} {K : PySem.W.Frag} {mg : PySem.Str → Option Value} (C : Cx5 fns tabs exs w K mg) (B : LmY mks base mg K)
include C B
theorem Xc {A : Around} {outer : List PySem.Env} {s : Shared} {H : Hp} {E : XK} {k : Nat} (cdv : Value) (fl : Sto → R Fx.T) (lv : Fx.T) (hr : Room k (A.deeper (envOfC "_law_said" (defScope Yq) s.heap.objs.size ((gY "_law_said") K) cdv))) (hG : A.guards = some [])
    (act : ∀ (W' : WX) (pn : List (Addr × Obj)) (xe : Value → Shared → Prop) (p1 p2 : Pos), Takes ((cxOf (L2.CX P w) P w K mg base Qc "_law_said" (defScope Yq) ((gY "_law_said") K) cdv A outer s H E).tr pn xe) W' → FJ ((cxOf (L2.CX P w) P w K mg base Qc "_law_said" (defScope Yq) ((gY "_law_said") K) cdv A outer s H E).tr pn xe) K (Wt W') (.Call (.Name "_law_ask" p1) [] [] p2) (eAsk fl lv 0)) :
    FBJ (cxOf (L2.CX P w) P w K mg base Qc "_law_said" (defScope Yq) ((gY "_law_said") K) cdv A outer s H E) K (fun cls d _ H => E cls d H) (defBody Yq) (Yd fl lv) := by
  exact (Yb (Z81 rfl rfl rfl Yu.nd (i := 2) rfl rfl ⟨rfl,by decide,.inl (Jp C)⟩ (Vw C) (Z7e C) tk (fun W2 pn xe tk2 pa2 => (Zk (Xg (i := 1) Yu.nd rfl (Or.inl rfl) (act _ _ _ _ _ tk2))
      (Yb (Ys (f_tup (Zb (Z3h rfl (Fx.FldOk.cons (Zy C) (Xx C) .nil) (Zf (pv 1))) (Zb (Z3h rfl (Fx.FldOk.cons (Zy C) (U5 C) .nil) (Zf (pv 1))) Ze)) (Za (Za Zd)))))))
      (fun a oe cls d pn y hz hf hy hys => (f_if (PW.pt (Zcy (Ua rfl (f_isX rfl hy hys (Vw C) (Ny C).2 (Z7f C) hz hf (by rfl) (Yc C) (pv 2) (by rfl) (Z1b C))) (Zbm (Ua rfl (Zdl rfl hy hys (Vw C) (Ny C).2 (Z7g C) hz hf (by rfl) (Yc C) (pv 2) (by rfl) (Z3v C) (by decide +kernel)))))) (f_xf rfl hy (Vw C) (Ny C).1 (Z33 C) hz hf (pv 2)) Z1h))))
omit C B in
theorem Xm : ∀ (fl : Sto → R Fx.T) (lv : Fx.T) (ts : List Fx.T),ts.length = 0 → Zq fl lv (lv :: ts) = Zq fl .non (.non :: ts) := fun fl lv ts h => by
  obtain rfl : ts = [] := List.eq_nil_of_length_eq_zero h
  funext Z
  have e1 : eAsk fl lv 0 [some lv,none,none] Z = fl Z := if_pos rfl
  have e2 : eAsk fl .non 0 [some .non,none,none] Z = fl Z := if_pos rfl
  cases e : fl Z with
  | ok t Z' => cases e3 : fldT ["Graph"] "nodes" t Z' <;> cases e4 : fldT ["Graph"] "top" t Z' <;> simp [Zq, runF, Yd, sTryAs, eFld, e1, e2, e, e3, e4]
  | exc y Z' => simp [Zq, runF, Yd, sTryAs, e1, e2, e]
  | stuck => simp [Zq,runF,Yd,sTryAs,e1,e2,e]
theorem Z50 : GT P w K mg base 1 (gY "_law_well") N7 1 Qh := by
  refine fnFD (Jb C) Z4j fun cdv A outer s H E hr hG => ?_
  exact (Yb (Ys (Wz (Zb (f_op Z48 (Zf (pv 0)) (Yh (Z13 (nd_ C)) (by rfl) (Z0c C) (by decide +kernel) (Zb (Nz o_geW (Zf (pv 0)) (f_op o_pow f_int f_int) (nomark _)) Ze))) (Zb (f_op Z56 (Yh (Z13 (nd_ C)) (by rfl) (Z0c C) (by decide +kernel) (Zb (Zf (pv 0)) Ze)) f_int) (Zb f_int Ze))) (Za (Za (Za Zd))))))
theorem Z2k : FnOk P w K mg base CX0 1 ((mY "NoGraph" "__init__") K) (fdOf K ((mY "NoGraph" "__init__") K)) Vx (spI (He.ga K "NoGraph") "index") := by
  refine Zcv (Jc C) Z1z (fun vs H Q E h => ?_) (fun cdv A outer s H vs Q E hr h => ?_)
  · obtain ⟨a,v,rfl,_⟩ := h; rfl
  · obtain ⟨a,v,rfl,ha,hq⟩ := h
    exact ⟨_, (pss_cons (ps_expr (Z7w (by rfl) (Z1b C) (bs_ C) (by decide) (pa_cons (pv 0) (pa_cons pe_str pa_nil)))) (pss_one (ps_ost (pv 0) (pv 1)))), ⟨_, rfl, ⟨a, He.ga K "NoGraph", _, rfl, by decide, Us C, ha, ⟨v, rfl, _, rfl, a, He.ga K "NoGraph", rfl, Us C, Z33 C, .inl ⟨ha, fun dx nd ne => hq dx nd ne⟩⟩⟩⟩⟩
theorem Z0w : GT P w K mg base 1 (gY "is_from") Z20 3 Yt := by
  refine fnFD (Q6 C) Z78 fun cdv A outer s H E hr hG => ?_
  exact (Yb (Ys (Z3b rfl (Yn (Z3e rfl) (by rfl) (Yc C) (by decide +kernel) (Zb (Zf (pv 0)) (Zb (f_c (pe_bltn (v := .ty "int") (by rfl) (Z0c C) (by decide +kernel) rfl) (fun _ _ => .ty _)) Ze))) (Z3b rfl (f_not rfl (Yn (Z3e rfl) (by rfl) (Yc C) (by decide +kernel) (Zb (Zf (pv 0)) (Zb (f_c (pe_bltn (v := .ty "bool") (by rfl) (Zck C) (by decide +kernel) rfl) (fun _ _ => .ty _)) Ze)))) (Z1i (Zbp Z77 Z77 (Zf (pv 1)) (Zf (pv 0)) (Zf (pv 2))))))))
theorem Z51 : GT P w K mg base 1 (gY "are_signs") N8 2 Xp := by
  refine fnFD (Jd C) J5 fun cdv A outer s H E hr hG => ?_
  exact (Yb (Ys (Z3b rfl (Nz (o_ne hr.units rfl) (Zf (pv 0)) (Zr []) (nomark _)) (Z1i (Yn (Z9v rfl rfl) (by rfl) (fr_all C) (by decide +kernel) (Zb (f_lc (own := [("sign", 2)]) (U6 2) (by decide) rfl J5.nd (Qx rfl (Zf (pv 0))) (blkOk_by (N := Z21) (sc := defScope W4) (by decide +kernel)) (fun _ _ _ _ _ => (pg_name (i := 2) J5.nd rfl (Or.inl rfl))) (fun _ _ _ _ _ => U7) (fun _ _ _ _ _ => (Nz (o_inW hr.units rfl) (Zf (pv 2)) (Zf (pv 1)) rfl))) Ze))))))
theorem Z90 : GT P w K mg base 2 (gY "is_tag") Z3j 1 Vy := by
  have G_are_signs := Z51 (P := P) (base := base) C B
  obtain ⟨t_TAG_SIGNS,g_TAG_SIGNS⟩ := Z4w C
  refine fnFD (Z2g C) Z8f fun cdv A outer s H E hr hG => ?_
  exact (Zk (Q4 (PW.pt (N5 (Uu (Ua rfl (Yn (Z3e rfl) (by rfl) (Yc C) (by decide +kernel) (Zb (Zf (pv 0)) (Zb (f_c (pe_bltn (v := .ty "str") (by rfl) (Z8y C) (by decide +kernel) rfl) (fun _ _ => .ty _)) Ze))))) (Jz (Uu (Ua rfl (f_bm rfl PySem.F.plainAttrs_str PySem.F.slot_str_startswith PySem.F.type_str_startswith (Z64 rfl) (Zf (pv 0)) (Zb (Zr [33]) Ze)))))))
      (Yb (Ys f_bl))
      V7)
    (Yb (Ys (Yl rfl G_are_signs (hr.mono (by omega)) hG (by rfl) (Z4x C) (Jd C).kp (Z4u C) .nil Dfl.nil tk (Zb (f_if (Ua rfl (f_bm rfl PySem.F.plainAttrs_str PySem.F.slot_str_startswith PySem.F.type_str_startswith (Z64 rfl) (Zf (pv 0)) (Zb (Zr [33,33]) Ze))) (f_sl rfl (Zf (pv 0)) (Z0k f_int) Z1q) (f_sl rfl (Zf (pv 0)) (Z0k f_int) Z1q)) (Zb (f_c (pe_glob (v := .str (S V4)) rfl g_TAG_SIGNS ⟨_,rfl⟩) (fun _ _ => .str _)) Ze)) (Za (Za Zd))))))
theorem Z5o : GT P w K mg base 2 (gY "is_entry") Z0m 2 X3 := by
  have G_is_from := Z0w (P := P) (base := base) C B
  refine fnFD (Nv C) Nb fun cdv A outer s H E hr hG => ?_
  exact (Yb (Ys (Z3b rfl (Yn (Z3e rfl) (by rfl) (Yc C) (by decide +kernel) (Zb (Zf (pv 0)) (Zb (f_c (pe_bltn (v := .ty "tuple") (by rfl) (Xz C) (by decide +kernel) rfl) (fun _ _ => .ty _)) Ze))) (Z3b rfl (Nz (o_eq hr.units rfl) (Yn (Z1v rfl) (by rfl) (Jf C) (by decide +kernel) (Zb (Zf (pv 0)) Ze)) f_int (nomark _)) (Z1i (Yn (Z9v rfl rfl) (by rfl) (fr_all C) (by decide +kernel) (Zb (f_lc (own := [("one", 2)]) (U6 2) (by decide) rfl Nb.nd (Qx rfl (Zf (pv 0))) (blkOk_by (N := Z2u) (sc := defScope V8) (by decide +kernel)) (fun _ _ _ _ _ => (pg_name (i := 2) Nb.nd rfl (Or.inl rfl))) (fun _ _ _ _ _ => U7) (fun _ _ _ _ _ => (Yl rfl G_is_from (hr.mono (by omega)) hG (by rfl) (Z0u C) (Q6 C).kp (Z0s C) .nil Dfl.nil Q9 (Zb (Zf (pv 2)) (Zb f_int (Zb (f_op Z47 (Zf (pv 1)) f_int) Ze))) (Za (Za (Za Zd)))))) Ze)))))))
theorem Z7i : GT P w K mg base 3 (gY "is_node") Z24 2 Zw := by
  have G_is_tag := Z90 (P := P) (base := base) C B
  have G_is_entry := Z5o (P := P) (base := base) C B
  have G_is_from := Z0w (P := P) (base := base) C B
  obtain ⟨t_MOST_NUMBERS,g_MOST_NUMBERS⟩ := Z2j C
  refine fnFD (Z0t C) V9 fun cdv A outer s H E hr hG => ?_
  exact (Zk (Q4 (PW.pt (N5 (Uu (Ua rfl (Yn (Z3e rfl) (by rfl) (Yc C) (by decide +kernel) (Zb (Zf (pv 0)) (Zb (f_c (pe_bltn (v := .ty "tuple") (by rfl) (Xz C) (by decide +kernel) rfl) (fun _ _ => .ty _)) Ze))))) (N5 (W3 (o_ne hr.units rfl) (Yn (Z1v rfl) (by rfl) (Jf C) (by decide +kernel) (Zb (Zf (pv 0)) Ze)) f_int (nomark _)) (N5 (Uu (Ua rfl (Yn (Z3e rfl) (by rfl) (Yc C) (by decide +kernel) (Zb (f_ix (Z1j hr.units rfl) (Zf (pv 0)) f_int (fun _ _ => rfl)) (Zb (f_c (pe_bltn (v := .ty "str") (by rfl) (Z8y C) (by decide +kernel) rfl) (fun _ _ => .ty _)) Ze))))) (Jz (Uu (Ua rfl (Yl rfl G_is_tag (hr.mono (by omega)) hG (by rfl) (Z8x C) (Z2g C).kp (Z8w C) .nil Dfl.nil tk (Zb (f_ix (Z1j hr.units rfl) (Zf (pv 0)) f_int (fun _ _ => rfl)) Ze) (Za Zd)))))))))
      (Yb (Ys f_bl))
      V7)
    (Zk (Z1t (Zf (pv 0)) (Z49 rfl rfl (Vg (Vo (i := 2) V9.nd rfl (Or.inl rfl)) (Vg (Vo (i := 3) V9.nd rfl (Or.inl rfl)) (Vg (Vo (i := 4) V9.nd rfl (Or.inl rfl)) Z1s)))))
    (Zk (Q4 (W3 (o_eq hr.units rfl) (Zf (pv 2)) (Zr [115,99,97,108,97,114]) (nomark _))
      (Yb (Ys (Yn (Z3e rfl) (by rfl) (Yc C) (by decide +kernel) (Zb (Zf (pv 4)) (Zb (f_c (pe_bltn (v := .ty "str") (by rfl) (Z8y C) (by decide +kernel) rfl) (fun _ _ => .ty _)) Ze)))))
      V7)
    (Zk (Q4 (PW.pt (N5 (W3 (Za4 hr.units rfl) (Zf (pv 2)) (f_tup (Zb (Zr [115,101,113,117,101,110,99,101]) (Zb (Zr [109,97,112,112,105,110,103]) Ze)) (Za (Za Zd))) rfl) (Jz (Uu (Ua rfl (Yn (Z3e rfl) (by rfl) (Yc C) (by decide +kernel) (Zb (Zf (pv 4)) (Zb (f_c (pe_bltn (v := .ty "tuple") (by rfl) (Xz C) (by decide +kernel) rfl) (fun _ _ => .ty _)) Ze))))))))
      (Yb (Ys f_bl))
      V7)
    (Zk (Q4 (W3 (o_eq hr.units rfl) (Zf (pv 2)) (Zr [115,101,113,117,101,110,99,101]) (nomark _))
      (Yb (Ys (Z3b rfl (Nz Z77 (Yn (Z1v rfl) (by rfl) (Jf C) (by decide +kernel) (Zb (Zf (pv 4)) Ze)) (f_c (pe_glob (v := .int (1000)) rfl g_MOST_NUMBERS ⟨_, rfl⟩) (fun _ _ => .int _)) (nomark _)) (Z1i (Yn (Z9v rfl rfl) (by rfl) (fr_all C) (by decide +kernel) (Zb (f_lc (own := [("one", 5)]) (U6 5) (by decide) rfl V9.nd (Qx rfl (Zf (pv 4))) (blkOk_by (N := Z23) (sc := defScope Vh) (by decide +kernel)) (fun _ _ _ _ _ => (pg_name (i := 5) V9.nd rfl (Or.inl rfl))) (fun _ _ _ _ _ => U7) (fun _ _ _ _ _ => (Yl rfl G_is_from (hr.mono (by omega)) hG (by rfl) (Z0u C) (Q6 C).kp (Z0s C) .nil Dfl.nil Q9 (Zb (Zf (pv 5)) (Zb f_int (Zb (f_op Z47 (Zf (pv 1)) f_int) Ze))) (Za (Za (Za Zd)))))) Ze))))))
      V7)
    (Yb (Ys (Z3b rfl (Nz Z77 (f_op Z48 f_int (Yn (Z1v rfl) (by rfl) (Jf C) (by decide +kernel) (Zb (Zf (pv 4)) Ze))) (f_c (pe_glob (v := .int (1000)) rfl g_MOST_NUMBERS ⟨_, rfl⟩) (fun _ _ => .int _)) (nomark _)) (Z1i (Yn (Z9v rfl rfl) (by rfl) (fr_all C) (by decide +kernel) (Zb (f_lc (own := [("one", 5)]) (U6 5) (by decide) rfl V9.nd (Qx rfl (Zf (pv 4))) (blkOk_by (N := Z23) (sc := defScope Vh) (by decide +kernel)) (fun _ _ _ _ _ => (pg_name (i := 5) V9.nd rfl (Or.inl rfl))) (fun _ _ _ _ _ => U7) (fun _ _ _ _ _ => (Yl rfl G_is_entry (hr.mono (by omega)) hG (by rfl) (Z5n C) (Nv C).kp (Z5m C) .nil Dfl.nil Q9 (Zb (Zf (pv 5)) (Zb (Zf (pv 1)) Ze)) (Za (Za Zd))))) Ze)))))))))))
theorem Qq : GT P w K mg base 4 (mY "Graph" "__init__") Va 3 Zg := by
  have I_NoGraph_init := Z2k (P := P) (base := base) C B
  obtain ⟨ds_NoGraph_init_1,dv_NoGraph_init_1,db_NoGraph_init_1⟩ := Z0r C
  have G_is_from := Z0w (P := P) (base := base) C B
  have G_is_node := Z7i (P := P) (base := base) C B
  obtain ⟨t_MOST_NODES,g_MOST_NODES⟩ := Z3s C
  refine fnFD (Qo C) Qg fun cdv A outer s H E hr hG => ?_
  exact (Zk (Q4 (PW.pt (N5 (Uu (Ua rfl (Yn (Zdm rfl (Vz C) (Zaf C)) (by rfl) (Yc C) (by decide +kernel) (Zb (Zf (pv 1)) (Zb (f_tup (Zb (f_c (pe_bltn (v := .ty "list") (by rfl) (Z0v C) (by decide +kernel) rfl) (fun _ _ => .ty _)) (Zb (f_c (pe_bltn (v := .ty "tuple") (by rfl) (Xz C) (by decide +kernel) rfl) (fun _ _ => .ty _)) Ze)) (Za (Za Zd))) Ze))))) (Jz (Uu (Z9p Z77 Z77 f_int (Yn (Z1v rfl) (by rfl) (Jf C) (by decide +kernel) (Zb (Zf (pv 1)) Ze)) (f_c (pe_glob (v := .int (200)) rfl g_MOST_NODES ⟨_, rfl⟩) (fun _ _ => .int _)))))))
      (Yb (Z3f rfl rfl tk (Us C) (Ug C).1 (Ug C).2 I_NoGraph_init (hr.mono (by omega)) db_NoGraph_init_1 dv_NoGraph_init_1 (fun _ _ => .nil) (by rfl) (Jp C) (Zb (Zbu f_int) Ze) (Za Zd) (Vw C)))
      V7)
    (Zk (Z2q (passes_of rfl) rfl (Z66 rfl (by rfl) (Z1c C) (Zb (Zf (pv 1)) Ze) (Za Zd)) (Z49 rfl rfl (Vg (Vo (i := 3) Qg.nd rfl (Or.inl rfl)) (Vg (Vo (i := 4) Qg.nd rfl (Or.inl rfl)) Z1s)))
      (Yb (Q4 (Uu (Ua rfl (Yl rfl G_is_node (hr.mono (by omega)) hG (by rfl) (Z7h C) (Z0t C).kp (Z7d C) .nil Dfl.nil tk (Zb (Zf (pv 4)) (Zb (Yn (Z1v rfl) (by rfl) (Jf C) (by decide +kernel) (Zb (Zf (pv 1)) Ze)) Ze)) (Za (Za Zd)))))
        (Yb (Z3f rfl rfl tk (Us C) (Ug C).1 (Ug C).2 I_NoGraph_init (hr.mono (by omega)) db_NoGraph_init_1 dv_NoGraph_init_1 (fun _ _ => .nil) (by rfl) (Jp C) (Zb (Zf (pv 3)) Ze) (Za Zd) (Vw C)))
        V7)))
    (Zk (Q4 (Uu (Ua rfl (Yl rfl G_is_from (hr.mono (by omega)) hG (by rfl) (Z0u C) (Q6 C).kp (Z0s C) .nil Dfl.nil tk (Zb (Zf (pv 2)) (Zb f_int (Zb (f_op Z47 (Yn (Z1v rfl) (by rfl) (Jf C) (by decide +kernel) (Zb (Zf (pv 1)) Ze)) f_int) Ze))) (Za (Za (Za Zd))))))
      (Yb (Z3f rfl rfl tk (Us C) (Ug C).1 (Ug C).2 I_NoGraph_init (hr.mono (by omega)) db_NoGraph_init_1 dv_NoGraph_init_1 (fun _ _ => .nil) (by rfl) (Jp C) (Zb (Zbu f_int) Ze) (Za Zd) (Vw C)))
      V7)
    (Yb (Z1t (f_tup (Zb (Yh (Uz rfl) (by rfl) (Xz C) (by decide +kernel) (Zb (Zf (pv 1)) Ze)) (Zb (Zf (pv 2)) Ze)) (Za (Za Zd))) (Z49 rfl rfl (Vg (Zb2 rfl (Fx.FldOk.cons (Zy C) (Xx C) .nil) (Zf (pv 0))) (Vg (Zb2 rfl (Fx.FldOk.cons (Zy C) (U5 C) .nil) (Zf (pv 0))) Z1s))))))))
theorem Vd : GT P w K mg base 1 (gY "_law_draw") Nf 2 Zz := by
  refine fnFD (Y8 C) Uv fun cdv A outer s H E hr hG => ?_
  exact (Zk (Q4 (W3 o_gtW (f_ix (Z1j hr.units rfl) (Zf (pv 0)) f_int (fun _ _ => rfl)) f_int (nomark _))
      (Zk (Xg (i := 2) Uv.nd rfl (Or.inl rfl) (f_op Z56 (Yh (Z13 (nd_ C)) (by rfl) (Z0c C) (by decide +kernel) (Zb (f_ix (Z1j hr.units rfl) (Zf (pv 0)) f_int (fun _ _ => rfl)) Ze)) (Zf (pv 1))))
      (Zk (Z1t (f_op Z7l (f_ix (Z1j hr.units rfl) (Zf (pv 0)) f_int (fun _ _ => rfl)) (Zf (pv 1))) (Z3i hr.units (Zf (pv 0)) f_int))
      (Yb (Ys (Zf (pv 2))))))
      V7)
    (Zk (Z1t (f_op (Q3 rfl) (f_ix (Z1j hr.units rfl) (Zf (pv 0)) f_int (fun _ _ => rfl)) f_int) (Z3i hr.units (Zf (pv 0)) f_int))
    (Zk (Xg (i := 3) Uv.nd rfl (Or.inl rfl) (f_op Z56 (Yh (Z13 (nd_ C)) (by rfl) (Z0c C) (by decide +kernel) (Zb (f_op Z48 (f_op (Q3 rfl) (f_op (Q3 rfl) (f_ix (Z1j hr.units rfl) (Zf (pv 0)) f_int (fun _ _ => rfl)) (f_op Z48 f_int (f_ix (Z1j hr.units rfl) (Zf (pv 0)) f_int (fun _ _ => rfl)))) f_int) f_int) Ze)) f_int))
    (Zk (Xg (i := 3) Uv.nd rfl (Or.inl rfl) (f_op Z56 (Yh (Z13 (nd_ C)) (by rfl) (Z0c C) (by decide +kernel) (Zb (f_op Z48 (Zf (pv 3)) (f_op (Q3 rfl) (f_op (Q3 rfl) (f_op Z7l (Zf (pv 3)) f_int) f_int) (f_ix (Z1j hr.units rfl) (Zf (pv 0)) f_int (fun _ _ => rfl)))) Ze)) f_int))
    (Yb (Ys (f_op Z56 (Yh (Z13 (nd_ C)) (by rfl) (Z0c C) (by decide +kernel) (Zb (f_op Z7l (f_op Z56 (Yh (Z13 (nd_ C)) (by rfl) (Z0c C) (by decide +kernel) (Zb (f_op Z48 (Zf (pv 3)) (f_op (Q3 rfl) (f_op Z7l (Zf (pv 3)) f_int) f_int)) Ze)) f_int) f_int) Ze)) (Zf (pv 1)))))))))
theorem Qs : GT P w K mg base 2 (gY "_law_one") Z0n 2 Y9 := by
  have G__law_draw := Vd (P := P) (base := base) C B
  refine fnFD (Yr C) Z5d fun cdv A outer s H E hr hG => ?_
  exact (Yb (Ys (f_ix (Z1j hr.units rfl) (Zf (pv 1)) (Yl rfl G__law_draw (hr.mono (by omega)) hG (by rfl) (Yg C) (Y8 C).kp (Ye C) .nil Dfl.nil tk (Zb (Zf (pv 0)) (Zb (Yn (Z1v rfl) (by rfl) (Jf C) (by decide +kernel) (Zb (Zf (pv 1)) Ze)) Ze)) (Za (Za Zd))) (fun _ _ => rfl))))
theorem Z52 : GT P w K mg base 3 (gY "_law_node") Nk 2 Vt := by
  have G__law_draw := Vd (P := P) (base := base) C B
  have G__law_one := Qs (P := P) (base := base) C B
  refine fnFD (Je C) Vb fun cdv A outer s H E hr hG => ?_
  exact (Zk (Xg (i := 2) Vb.nd rfl (Or.inl rfl) (Yl rfl G__law_draw (hr.mono (by omega)) hG (by rfl) (Yg C) (Y8 C).kp (Ye C) .nil Dfl.nil tk (Zb (Zf (pv 0)) (Zb f_int Ze)) (Za (Za Zd))))
    (Zk (Q4 (W3 o_lt (Zf (pv 2)) f_int (nomark _))
      (Yb (Ys (f_tup (Zb (Zr [115,99,97,108,97,114]) (Zb (Yl rfl G__law_one (hr.mono (by omega)) hG (by rfl) (Xf C) (Yr C).kp (Xe C) .nil Dfl.nil tk (Zb (Zf (pv 0)) (Zb (Wz (Zb (Zr [33,33,115,116,114]) (Zb (Zr [33,33,115,116,114]) (Zb (Zr [33,120]) Ze))) (Za (Za (Za Zd)))) Ze)) (Za (Za Zd))) (Zb (Yl rfl G__law_one (hr.mono (by omega)) hG (by rfl) (Xf C) (Yr C).kp (Xe C) .nil Dfl.nil tk (Zb (Zf (pv 0)) (Zb (Wz (Zb (Zr [97]) (Zb (Zr [98]) (Zb (Zr []) Ze))) (Za (Za (Za Zd)))) Ze)) (Za (Za Zd))) Ze))) (Za (Za (Za Zd))))))
      V7)
    (Zk (Q4 (W3 o_lt (Zf (pv 2)) f_int (nomark _))
      (Zk (Z65 (i := 3) (own := [("_law_turn", 4)]) (U6 4) (by decide) rfl Vb.nd rfl rfl (sw_true rfl rfl rfl (by decide +kernel)) (Qw (by rfl) (Z0d C) (Zb (Yl rfl G__law_draw (hr.mono (by omega)) hG (by rfl) (Yg C) (Y8 C).kp (Ye C) .nil Dfl.nil tk (Zb (Zf (pv 0)) (Zb f_int Ze)) (Za (Za Zd))) Ze) (Za Zd)) (blkOk_by (N := Nh) (sc := defScope Xn) (by decide +kernel)) (fun _ _ _ _ _ => (pg_name (i := 4) Vb.nd rfl (Or.inl rfl))) (fun _ _ _ _ _ => U7) (fun _ _ _ _ _ => (Yl rfl G__law_draw (hr.mono (by omega)) hG (by rfl) (Yg C) (Y8 C).kp (Ye C) .nil Dfl.nil Q9 (Zb (Zf (pv 0)) (Zb (Zf (pv 1)) Ze)) (Za (Za Zd)))))
      (Yb (Ys (f_tup (Zb (Zr [115,101,113,117,101,110,99,101]) (Zb (Yl rfl G__law_one (hr.mono (by omega)) hG (by rfl) (Xf C) (Yr C).kp (Xe C) .nil Dfl.nil tk (Zb (Zf (pv 0)) (Zb (Wz (Zb (Zr [33,33,115,101,113]) (Zb (Zr [33,33,115,101,113]) (Zb (Zr [33,115]) Ze))) (Za (Za (Za Zd)))) Ze)) (Za (Za Zd))) (Zb (Yh (Uz rfl) (by rfl) (Xz C) (by decide +kernel) (Zb (Zf (pv 3)) Ze)) Ze))) (Za (Za (Za Zd)))))))
      V7)
    (Zk (Z65 (i := 3) (own := [("_law_turn", 4)]) (U6 4) (by decide) rfl Vb.nd rfl rfl (sw_true rfl rfl rfl (by decide +kernel)) (Qw (by rfl) (Z0d C) (Zb (Yl rfl G__law_draw (hr.mono (by omega)) hG (by rfl) (Yg C) (Y8 C).kp (Ye C) .nil Dfl.nil tk (Zb (Zf (pv 0)) (Zb f_int Ze)) (Za (Za Zd))) Ze) (Za Zd)) (blkOk_by (N := Nh) (sc := defScope Xn) (by decide +kernel)) (fun _ _ _ _ _ => (pg_name (i := 4) Vb.nd rfl (Or.inl rfl))) (fun _ _ _ _ _ => U7) (fun _ _ _ _ _ => (f_tup (Zb (Yl rfl G__law_draw (hr.mono (by omega)) hG (by rfl) (Yg C) (Y8 C).kp (Ye C) .nil Dfl.nil Q9 (Zb (Zf (pv 0)) (Zb (Zf (pv 1)) Ze)) (Za (Za Zd))) (Zb (Yl rfl G__law_draw (hr.mono (by omega)) hG (by rfl) (Yg C) (Y8 C).kp (Ye C) .nil Dfl.nil Q9 (Zb (Zf (pv 0)) (Zb (Zf (pv 1)) Ze)) (Za (Za Zd))) Ze)) (Za (Za Zd)))))
    (Yb (Ys (f_tup (Zb (Zr [109,97,112,112,105,110,103]) (Zb (Yl rfl G__law_one (hr.mono (by omega)) hG (by rfl) (Xf C) (Yr C).kp (Xe C) .nil Dfl.nil tk (Zb (Zf (pv 0)) (Zb (Wz (Zb (Zr [33,33,109,97,112]) (Zb (Zr [33,33,109,97,112]) (Zb (Zr [33,109]) Ze))) (Za (Za (Za Zd)))) Ze)) (Za (Za Zd))) (Zb (Yh (Uz rfl) (by rfl) (Xz C) (by decide +kernel) (Zb (Zf (pv 3)) Ze)) Ze))) (Za (Za (Za Zd))))))))))
theorem Z3w : GT P w K mg base 4 (gY "_law_nodes") J8 2 Uy := by
  have G__law_draw := Vd (P := P) (base := base) C B
  have G__law_one := Qs (P := P) (base := base) C B
  have G__law_node := Z52 (P := P) (base := base) C B
  refine fnFD (Qp C) Ue fun cdv A outer s H E hr hG => ?_
  exact (Zk (Xg (i := 2) Ue.nd rfl (Or.inl rfl) (Wz Ze Zd))
    (Zk (Z2q (passes_of rfl) rfl (Qw (by rfl) (Z0d C) (Zb (Zf (pv 1)) Ze) (Za Zd)) (Vo (i := 3) Ue.nd rfl (Or.inl rfl))
      (Zk (Xg (i := 4) Ue.nd rfl (Or.inl rfl) (Z3b rfl (Nz (o_neL hr.units rfl) (Zf (pv 2)) (Wz Ze Zd) (nomark _)) (Z1i (Nz (o_eq hr.units rfl) (Yl rfl G__law_draw (hr.mono (by omega)) hG (by rfl) (Yg C) (Y8 C).kp (Ye C) .nil Dfl.nil tk (Zb (Zf (pv 0)) (Zb f_int Ze)) (Za (Za Zd))) f_int (nomark _)))))
      (Yb (Z7t (f_bm rfl PySem.F.plainAttrs_list PySem.F.slot_list_append PySem.F.type_list_append m_append (Zf (pv 2)) (Zb (f_if (Ua rfl (Zf (pv 4))) (Yl rfl G__law_one (hr.mono (by omega)) hG (by rfl) (Xf C) (Yr C).kp (Xe C) .nil Dfl.nil tk (Zb (Zf (pv 0)) (Zb (Zf (pv 2)) Ze)) (Za (Za Zd))) (Yl rfl G__law_node (hr.mono (by omega)) hG (by rfl) (Z4y C) (Je C).kp (Z4v C) .nil Dfl.nil tk (Zb (Zf (pv 0)) (Zb (Zf (pv 1)) Ze)) (Za (Za Zd)))) Ze))))))
    (Yb (Ys (Zf (pv 2))))))
theorem Z5p : GT P w K mg base 1 (mY "Graph" "__eq__") Z0o 2 Yj := by
  refine fnFD (Z2i C) Z5e fun cdv A outer s H E hr hG => ?_
  exact (Yb (Ys (Z3b rfl (f_isC rfl (Vz C) (by rfl) (Yc C) (by decide +kernel) (by rfl) (Yz C) (Zf (pv 1))) (Z1i (Nz (o_eq hr.units rfl) (f_tup (Zb (Z3h rfl (Fx.FldOk.cons (Zy C) (Xx C) .nil) (Zf (pv 0))) (Zb (Z3h rfl (Fx.FldOk.cons (Zy C) (U5 C) .nil) (Zf (pv 0))) Ze)) (Za (Za Zd))) (f_tup (Zb (Z3h rfl (Fx.FldOk.cons (Zy C) (Xx C) .nil) (Zf (pv 1))) (Zb (Z3h rfl (Fx.FldOk.cons (Zy C) (U5 C) .nil) (Zf (pv 1))) Ze)) (Za (Za Zd))) (nomark _))))))
theorem Z0e : GT P w K mg base 9 (gY "_law_good_right") Vr 3 Vv := by
  have G_Graph_eq := Z5p (P := P) (base := base) C B
  have G_Graph_init := Qq (P := P) (base := base) C B
  obtain ⟨ds_Graph_init_1,dv_Graph_init_1,db_Graph_init_1⟩ := Ur C
  have G__law_draw := Vd (P := P) (base := base) C B
  refine fnFC (Z59 (Vm C) (Z4h (C.c.fact 0)).2.2) Yi fun A outer s H E hr hG => ?_
  exact (Zk (Q4 (PW.pt (N5 (W3 (o_ne hr.units rfl) (U3 (k := 5) (dn := none) (F := Zq) (B := Yd) rfl (by rfl) (Xl C) (Ux (Xb C)) (Xk C) Yu rfl (.inl rfl) (fun _ _ => rfl) Xm
      (fun cdv A2 outer2 s2 H2 E2 fl lv hr2 hG2 act _ _ => Xc C B cdv fl lv hr2 hG2 act) (B.b _ Vi) rfl (B.hm Vi) (B.hu Vi) (Qy (sc := defScope Zu) (N := Q5) (by decide +kernel)) (.non rfl (fun _ _ _ _ _ => rfl)) (hr.mono (by omega)) hG tk
      (fun A2 outer2 s2 H2 E2 f2 c2 hr hG => (U0 rfl (Zy C) (Yp C) G_Graph_init (hr.mono (by omega)) hG (by rfl) (Yz C) db_Graph_init_1 dv_Graph_init_1 (fun _ _ => .nil) (takes_of rfl rfl rfl rfl) (Zb (Yh (Z4a rfl) (by rfl) (Z0v C) (by decide +kernel) (Zb (Zf (pv 1)) Ze)) (Zb (Zf (pv 2)) Ze)) (Za (Za Zd)))) Ze Zd) (f_tup (Zb (Yh (Uz rfl) (by rfl) (Xz C) (by decide +kernel) (Zb (Zf (pv 1)) Ze)) (Zb (Zf (pv 2)) Ze)) (Za (Za Zd))) (nomark _)) (Jz (W3 (o_ne hr.units rfl) (Z3h rfl (Fx.FldOk.cons (Zy C) (U5 C) .nil) (U0 rfl (Zy C) (Yp C) G_Graph_init (hr.mono (by omega)) hG (by rfl) (Yz C) db_Graph_init_1 dv_Graph_init_1 (fun _ _ => .nil) tk (Zb (Zf (pv 1)) (Zb (Zf (pv 2)) Ze)) (Za (Za Zd)))) (Zf (pv 2)) (nomark _)))))
      (Yb (Ys f_bl))
      V7)
    (Zk (Zaz (i := 3) (j := 4) rfl Yi.nd rfl rfl (by decide) rfl rfl (Zb (U0 rfl (Zy C) (Yp C) G_Graph_init (hr.mono (by omega)) hG (by rfl) (Yz C) db_Graph_init_1 dv_Graph_init_1 (fun _ _ => .nil) tk (Zb (Yh (Uz rfl) (by rfl) (Xz C) (by decide +kernel) (Zb (Zf (pv 1)) Ze)) (Zb (Zf (pv 2)) Ze)) (Za (Za Zd))) (Zb (U0 rfl (Zy C) (Yp C) G_Graph_init (hr.mono (by omega)) hG (by rfl) (Yz C) db_Graph_init_1 dv_Graph_init_1 (fun _ _ => .nil) tk (Zb (Yh (Z4a rfl) (by rfl) (Z0v C) (by decide +kernel) (Zb (Zf (pv 1)) Ze)) (Zb (Zf (pv 2)) Ze)) (Za (Za Zd))) Ze)) (Za (Za Zd)) (by rfl))
    (Zk (Q4 (PW.pt (N5 (Uu (W3 (Z1x rfl (Vz C) G_Graph_eq (hr.mono (by omega)) hG (Wd C)) (Zf (pv 3)) (Zf (pv 4)) (nomark _))) (N5 (W3 (Z5a rfl (Vz C) (Yp C) (Z3t C) G_Graph_eq (hr.mono (by omega)) hG (Wd C)) (Zf (pv 3)) (Zf (pv 4)) (nomark _)) (N5 (W3 (Z1x rfl (Vz C) G_Graph_eq (hr.mono (by omega)) hG (Wd C)) (Zf (pv 3)) (f_tup (Zb (Yh (Uz rfl) (by rfl) (Xz C) (by decide +kernel) (Zb (Zf (pv 1)) Ze)) (Zb (Zf (pv 2)) Ze)) (Za (Za Zd))) (nomark _)) (N5 (W3 (Z1x rfl (Vz C) G_Graph_eq (hr.mono (by omega)) hG (Wd C)) (Zf (pv 3)) Z1h (nomark _)) (Jz (W3 (Z1x rfl (Vz C) G_Graph_eq (hr.mono (by omega)) hG (Wd C)) (Zf (pv 3)) (Zf (pv 1)) (nomark _))))))))
      (Yb (Ys f_bl))
      V7)
    (Zk (Xg (i := 5) Yi.nd rfl (Or.inl rfl) (Yh (Z4a rfl) (by rfl) (Z0v C) (by decide +kernel) (Zb (Zf (pv 1)) Ze)))
    (Zk (Xg (i := 6) Yi.nd rfl (Or.inl rfl) (U0 rfl (Zy C) (Yp C) G_Graph_init (hr.mono (by omega)) hG (by rfl) (Yz C) db_Graph_init_1 dv_Graph_init_1 (fun _ _ => .nil) tk (Zb (Zf (pv 5)) (Zb (Zf (pv 2)) Ze)) (Za (Za Zd))))
    (Zk (Z7t (f_bm0 rfl PySem.F.plainAttrs_list PySem.F.slot_list_reverse PySem.F.type_list_reverse Z8d (Zf (pv 5))))
    (Zk (Q4 (PW.pt (N5 (W3 (o_ne hr.units rfl) (Z3h rfl (Fx.FldOk.cons (Zy C) (Xx C) .nil) (U0 rfl (Zy C) (Yp C) G_Graph_init (hr.mono (by omega)) hG (by rfl) (Yz C) db_Graph_init_1 dv_Graph_init_1 (fun _ _ => .nil) tk (Zb (Zf (pv 5)) (Zb (Zf (pv 2)) Ze)) (Za (Za Zd)))) (Yh (Uz rfl) (by rfl) (Xz C) (by decide +kernel) (Zb (f_slS rfl (Zf (pv 1)) Z1q Z1q (Z0k (Zbu f_int))) Ze)) (nomark _)) (Jz (W3 (o_ne hr.units rfl) (Z3h rfl (Fx.FldOk.cons (Zy C) (Xx C) .nil) (Zf (pv 6))) (Yh (Uz rfl) (by rfl) (Xz C) (by decide +kernel) (Zb (Zf (pv 1)) Ze)) (nomark _)))))
      (Yb (Ys f_bl))
      V7)
    (Zk (Xg (i := 7) Yi.nd rfl (Or.inl rfl) (Yh (Z4a rfl) (by rfl) (Z0v C) (by decide +kernel) (Zb (Zf (pv 1)) Ze)))
    (Zk (Xg (i := 8) Yi.nd rfl (Or.inl rfl) (Yl rfl G__law_draw (hr.mono (by omega)) hG (by rfl) (Yg C) (Y8 C).kp (Ye C) .nil Dfl.nil tk (Zb (Zf (pv 0)) (Zb (Yn (Z1v rfl) (by rfl) (Jf C) (by decide +kernel) (Zb (Zf (pv 7)) Ze)) Ze)) (Za (Za Zd))))
    (Zk (Z1t (f_tup (Zb (Zr [115,99,97,108,97,114]) (Zb (Zr [33,111,116,104,101,114]) (Zb (Zr [99]) Ze))) (Za (Za (Za Zd)))) (Z3i hr.units (Zf (pv 7)) (Zf (pv 8))))
    (Zk (Q4 (PW.pt (N5 (W3 (Z1x rfl (Vz C) G_Graph_eq (hr.mono (by omega)) hG (Wd C)) (U0 rfl (Zy C) (Yp C) G_Graph_init (hr.mono (by omega)) hG (by rfl) (Yz C) db_Graph_init_1 dv_Graph_init_1 (fun _ _ => .nil) tk (Zb (Zf (pv 7)) (Zb (Zf (pv 2)) Ze)) (Za (Za Zd))) (Zf (pv 3)) (nomark _)) (Jz (Uu (W3 (Z5a rfl (Vz C) (Yp C) (Z3t C) G_Graph_eq (hr.mono (by omega)) hG (Wd C)) (U0 rfl (Zy C) (Yp C) G_Graph_init (hr.mono (by omega)) hG (by rfl) (Yz C) db_Graph_init_1 dv_Graph_init_1 (fun _ _ => .nil) tk (Zb (Zf (pv 7)) (Zb (Zf (pv 2)) Ze)) (Za (Za Zd))) (Zf (pv 3)) (nomark _))))))
      (Yb (Ys f_bl))
      V7)
    (Zk (Xg (i := 9) Yi.nd rfl (Or.inl rfl) (Yn (Z1v rfl) (by rfl) (Jf C) (by decide +kernel) (Zb (Zf (pv 1)) Ze)))
    (Yb (Ys (f_or rfl (Nz (o_eq hr.units rfl) (Zf (pv 9)) f_int (nomark _)) (Z1i (Nz (Z5a rfl (Vz C) (Yp C) (Z3t C) G_Graph_eq (hr.mono (by omega)) hG (Wd C)) (U0 rfl (Zy C) (Yp C) G_Graph_init (hr.mono (by omega)) hG (by rfl) (Yz C) db_Graph_init_1 dv_Graph_init_1 (fun _ _ => .nil) tk (Zb (Zf (pv 1)) (Zb (f_op Z56 (Yh (Z13 (nd_ C)) (by rfl) (Z0c C) (by decide +kernel) (Zb (f_op (Q3 rfl) (Zf (pv 2)) f_int) Ze)) (Zf (pv 9))) Ze)) (Za (Za Zd))) (Zf (pv 3)) (nomark _))))))))))))))))))
theorem Z1m : GT P w K mg base 3 (gY "_law_odd_node") Uj 3 Uq := by
  have G__law_one := Qs (P := P) (base := base) C B
  refine fnFD (U8 C) Zh fun cdv A outer s H E hr hG => ?_
  exact (Zk (Z1t (f_if (Ua rfl (Zf (pv 2))) (f_tup (Zb (f_op (Z2s rfl) (f_tup (Zb f_int Ze) (Za Zd)) f_int) (Zb (f_op (Z2s rfl) (f_tup (Zb (f_tup (Zb f_int (Zb f_int Ze)) (Za (Za Zd))) Ze) (Za Zd)) f_int) Ze)) (Za (Za Zd))) (f_tup (Zb (f_tup (Zb (Zf (pv 1)) Ze) (Za Zd)) (Zb (f_tup (Zb (f_tup (Zb (Zf (pv 1)) (Zb f_int Ze)) (Za (Za Zd))) Ze) (Za Zd)) Ze)) (Za (Za Zd)))) (Z49 rfl rfl (Vg (Vo (i := 3) Zh.nd rfl (Or.inl rfl)) (Vg (Vo (i := 4) Zh.nd rfl (Or.inl rfl)) Z1s))))
    (Zk (Xg (i := 5) Zh.nd rfl (Or.inl rfl) (Wz (Zb Z1h (Zb f_int (Zb (Zr [115,99,97,108,97,114]) (Zb (Wz Ze Zd) (Zb (Z1w pe_dnewK) (Zb (f_tup Ze Zd) (Zb (f_tup (Zb (Zr [115,99,97,108,97,114]) (Zb (Zr [33,33,115,116,114]) Ze)) (Za (Za Zd))) (Zb (f_tup (Zb (Zr [115,99,97,108,97,114]) (Zb (Zr [33,33,115,116,114]) (Zb (Zr [97]) (Zb f_int Ze)))) (Za (Za (Za (Za Zd))))) (Zb (Wz (Zb (Zr [115,99,97,108,97,114]) (Zb (Zr [33,33,115,116,114]) (Zb (Zr [97]) Ze))) (Za (Za (Za Zd)))) Ze))))))))) (Za (Za (Za (Za (Za (Za (Za (Za (Za Zd)))))))))))
    (Zk (Xg (i := 5) Zh.nd rfl (Or.inl rfl) (f_op (Q3 rfl) (Zf (pv 5)) (Wz (Zb (f_tup (Zb (Zr [83,99,97,108,97,114]) (Zb (Zr [33,33,115,116,114]) (Zb (Zr [97]) Ze))) (Za (Za (Za Zd)))) (Zb (f_tup (Zb f_int (Zb (Zr [33,33,115,116,114]) (Zb (Zr [97]) Ze))) (Za (Za (Za Zd)))) (Zb (f_tup (Zb (Zr [97,108,105,97,115]) (Zb (Zr [33,33,115,116,114]) (Zb (Zr [97]) Ze))) (Za (Za (Za Zd)))) (Zb (f_tup (Zb (Wz (Zb (Zr [115,99,97,108,97,114]) Ze) (Za Zd)) (Zb (Zr [33,33,115,116,114]) (Zb (Zr [97]) Ze))) (Za (Za (Za Zd)))) Ze)))) (Za (Za (Za (Za Zd)))))))
    (Zk (Xg (i := 5) Zh.nd rfl (Or.inl rfl) (f_op (Q3 rfl) (Zf (pv 5)) (f_lc (own := [("_law_tag", 7)]) (U6 7) (by decide) rfl Zh.nd (Qx rfl (f_tup (Zb (Zr []) (Zb (Zr [33]) (Zb (Zr [33,33]) (Zb (Zr [120]) (Zb (Zr [33,97,44,98]) (Zb (Zr [33,97,32,98]) (Zb (Zr [33,97,33,98]) (Zb (Zr [33,33,97,91]) (Zb Z1h (Zb f_int (Zb (Wz (Zb (Zr [33,97]) Ze) (Za Zd)) Ze))))))))))) (Za (Za (Za (Za (Za (Za (Za (Za (Za (Za (Za Zd))))))))))))) (blkOk_by (N := Xi) (sc := defScope Zx) (by decide +kernel)) (fun _ _ _ _ _ => (pg_name (i := 7) Zh.nd rfl (Or.inl rfl))) (fun _ _ _ _ _ => U7) (fun _ _ _ _ _ => (f_tup (Zb (Zr [115,99,97,108,97,114]) (Zb (Zf (pv 7)) (Zb (Zr [97]) Ze))) (Za (Za (Za Zd))))))))
    (Zk (Xg (i := 5) Zh.nd rfl (Or.inl rfl) (f_op (Q3 rfl) (Zf (pv 5)) (f_lc (own := [("_law_one_here", 8)]) (U6 8) (by decide) rfl Zh.nd (Qx rfl (f_tup (Zb Z1h (Zb f_int (Zb f_bl (Zb (f_tup (Zb (Zr [97]) Ze) (Za Zd)) (Zb (Wz (Zb (Zr [97]) Ze) (Za Zd)) (Zb (Z1w pe_dnewK) Ze)))))) (Za (Za (Za (Za (Za (Za Zd)))))))) (blkOk_by (N := Xi) (sc := defScope Zx) (by decide +kernel)) (fun _ _ _ _ _ => (pg_name (i := 8) Zh.nd rfl (Or.inl rfl))) (fun _ _ _ _ _ => U7) (fun _ _ _ _ _ => (f_tup (Zb (Zr [115,99,97,108,97,114]) (Zb (Zr [33,33,115,116,114]) (Zb (Zf (pv 8)) Ze))) (Za (Za (Za Zd))))))))
    (Zk (Xg (i := 5) Zh.nd rfl (Or.inl rfl) (f_op (Q3 rfl) (Zf (pv 5)) (f_lc (own := [("_law_one_here", 8)]) (U6 8) (by decide) rfl Zh.nd (Qx rfl (f_tup (Zb Z1h (Zb (Zr [97,98]) (Zb (Wz (Zb f_int Ze) (Za Zd)) (Zb f_int (Zb (Z1w pe_dnewK) (Zb (f_tup (Zb Z1h Ze) (Za Zd)) (Zb (f_tup (Zb (Zr [48]) Ze) (Za Zd)) (Zb (f_tup (Zb f_bl Ze) (Za Zd)) (Zb (f_tup (Zb (f_tup (Zb f_int Ze) (Za Zd)) Ze) (Za Zd)) Ze))))))))) (Za (Za (Za (Za (Za (Za (Za (Za (Za Zd))))))))))) (blkOk_by (N := Xi) (sc := defScope Zx) (by decide +kernel)) (fun _ _ _ _ _ => (pg_name (i := 8) Zh.nd rfl (Or.inl rfl))) (fun _ _ _ _ _ => U7) (fun _ _ _ _ _ => (f_tup (Zb (Zr [115,101,113,117,101,110,99,101]) (Zb (Zr [33,33,115,101,113]) (Zb (Zf (pv 8)) Ze))) (Za (Za (Za Zd))))))))
    (Zk (Xg (i := 5) Zh.nd rfl (Or.inl rfl) (f_op (Q3 rfl) (Zf (pv 5)) (Wz (Zb (f_tup (Zb (Zr [115,101,113,117,101,110,99,101]) (Zb (Zr [33,33,115,101,113]) (Zb (f_tup (Zb f_int (Zb (Zf (pv 1)) Ze)) (Za (Za Zd))) Ze))) (Za (Za (Za Zd)))) (Zb (f_tup (Zb (Zr [115,101,113,117,101,110,99,101]) (Zb (Zr [33,33,115,101,113]) (Zb (f_tup (Zb (f_op Z47 f_int f_int) Ze) (Za Zd)) Ze))) (Za (Za (Za Zd)))) (Zb (f_tup (Zb (Zr [115,101,113,117,101,110,99,101]) (Zb (Zr [33,33,115,101,113]) (Zb (Zf (pv 3)) Ze))) (Za (Za (Za Zd)))) Ze))) (Za (Za (Za Zd))))))
    (Zk (Xg (i := 5) Zh.nd rfl (Or.inl rfl) (f_op (Q3 rfl) (Zf (pv 5)) (f_lc (own := [("_law_one_here", 8)]) (U6 8) (by decide) rfl Zh.nd (Qx rfl (f_tup (Zb Z1h (Zb (Zr [97,98]) (Zb (Wz (Zb (f_tup (Zb f_int (Zb f_int Ze)) (Za (Za Zd))) Ze) (Za Zd)) (Zb (f_tup (Zb f_int (Zb f_int Ze)) (Za (Za Zd))) (Zb (f_tup (Zb (f_tup (Zb f_int Ze) (Za Zd)) Ze) (Za Zd)) (Zb (f_tup (Zb (f_tup (Zb f_int (Zb f_int (Zb f_int Ze))) (Za (Za (Za Zd)))) Ze) (Za Zd)) (Zb (f_tup (Zb (Wz (Zb f_int (Zb f_int Ze)) (Za (Za Zd))) Ze) (Za Zd)) Ze))))))) (Za (Za (Za (Za (Za (Za (Za Zd))))))))) (blkOk_by (N := Xi) (sc := defScope Zx) (by decide +kernel)) (fun _ _ _ _ _ => (pg_name (i := 8) Zh.nd rfl (Or.inl rfl))) (fun _ _ _ _ _ => U7) (fun _ _ _ _ _ => (f_tup (Zb (Zr [109,97,112,112,105,110,103]) (Zb (Zr [33,33,109,97,112]) (Zb (Zf (pv 8)) Ze))) (Za (Za (Za Zd))))))))
    (Zk (Xg (i := 6) Zh.nd rfl (Or.inl rfl) (Wz (Zb (f_tup (Zb (f_tup (Zb f_int (Zb (Zf (pv 1)) Ze)) (Za (Za Zd))) Ze) (Za Zd)) (Zb (f_tup (Zb (f_tup (Zb (f_op Z47 f_int f_int) (Zb f_int Ze)) (Za (Za Zd))) Ze) (Za Zd)) (Zb (f_tup (Zb (f_tup (Zb f_int (Zb f_bl Ze)) (Za (Za Zd))) Ze) (Za Zd)) (Zb (Zf (pv 4)) (Zb (f_tup (Zb (f_tup (Zb f_int (Zb Z1h Ze)) (Za (Za Zd))) Ze) (Za Zd)) (Zb (f_tup (Zb (f_tup (Zb f_int (Zb f_int Ze)) (Za (Za Zd))) (Zb (f_tup (Zb (Zf (pv 1)) (Zb f_int Ze)) (Za (Za Zd))) Ze)) (Za (Za Zd))) Ze)))))) (Za (Za (Za (Za (Za (Za Zd))))))))
    (Yb (Ys (Yl rfl G__law_one (hr.mono (by omega)) hG (by rfl) (Xf C) (Yr C).kp (Xe C) .nil Dfl.nil tk (Zb (Zf (pv 0)) (Zb (f_op (Q3 rfl) (Zf (pv 5)) (f_lc (own := [("_law_one_here", 8)]) (U6 8) (by decide) rfl Zh.nd (Qx rfl (Zf (pv 6))) (blkOk_by (N := Xi) (sc := defScope Zx) (by decide +kernel)) (fun _ _ _ _ _ => (pg_name (i := 8) Zh.nd rfl (Or.inl rfl))) (fun _ _ _ _ _ => U7) (fun _ _ _ _ _ => (f_tup (Zb (Zr [109,97,112,112,105,110,103]) (Zb (Zr [33,33,109,97,112]) (Zb (Zf (pv 8)) Ze))) (Za (Za (Za Zd))))))) Ze)) (Za (Za Zd))))))))))))))
theorem Jw : GT P w K mg base 9 (gY "_law_spoilt_right") V3 3 V6 := by
  have G__law_one := Qs (P := P) (base := base) C B
  have G__law_odd_node := Z1m (P := P) (base := base) C B
  have G__law_draw := Vd (P := P) (base := base) C B
  have G_Graph_init := Qq (P := P) (base := base) C B
  obtain ⟨ds_Graph_init_1,dv_Graph_init_1,db_Graph_init_1⟩ := Ur C
  refine fnFC (Z59 (Ww C) (Z4h (C.c.fact 1)).2.2) Zt fun A outer s H E hr hG => ?_
  exact (Zk (Xg (i := 3) Zt.nd rfl (Or.inr rfl) (Yn (Z1v rfl) (by rfl) (Jf C) (by decide +kernel) (Zb (Zf (pv 1)) Ze)))
    (Zk (Xg (i := 9) Zt.nd rfl (Or.inr rfl) (Yl rfl G__law_one (hr.mono (by omega)) hG (by rfl) (Xf C) (Yr C).kp (Xe C) .nil Dfl.nil tk (Zb (Zf (pv 0)) (Zb (Wz (Zb (Zf (pv 3)) (Zb (f_op Z47 f_int f_int) (Zb Z1h (Zb f_bl (Zb (Zr [48]) (Zb (f_tup (Zb f_int Ze) (Za Zd)) (Zb (Wz Ze Zd) (Zb (Z1w pe_dnewK) Ze)))))))) (Za (Za (Za (Za (Za (Za (Za (Za Zd))))))))) Ze)) (Za (Za Zd))))
    (Zk (Q4 (W3 (o_ne hr.units rfl) (U3 (k := 5) (dn := none) (F := Zq) (B := Yd) rfl (by rfl) (Xl C) (Ux (Xb C)) (Xk C) Yu rfl (.inl rfl) (fun _ _ => rfl) Xm
      (fun cdv A2 outer2 s2 H2 E2 fl lv hr2 hG2 act _ _ => Xc C B cdv fl lv hr2 hG2 act) (B.b _ Zv) rfl (B.hm Zv) (B.hu Zv) (Qy (sc := defScope Zj) (N := Yx) (by decide +kernel)) (.non rfl (fun _ _ _ _ _ => rfl)) (hr.mono (by omega)) hG tk
      (fun A2 outer2 s2 H2 E2 f2 c2 hr hG => (U0 rfl (Zy C) (Yp C) G_Graph_init (hr.mono (by omega)) hG (by rfl) (Yz C) db_Graph_init_1 dv_Graph_init_1 (fun _ _ => .nil) (takes_of rfl rfl rfl rfl) (Zb (Zf (pv 1)) (Zb (Zf (pv 9)) Ze)) (Za (Za Zd)))) Ze Zd) (f_op Z47 f_int f_int) (nomark _))
      (Yb (Ys f_bl))
      V7)
    (Zk (Xg (i := 4) Zt.nd rfl (Or.inl rfl) (Yn (Zae rfl rfl) (by rfl) (Z8z C) (by decide +kernel) (Zb (f_lc (own := [("_law_turn", 10)]) (U6 10) (by decide) rfl Zt.nd (Qw (by rfl) (Z0d C) (Zb (f_op (Q3 rfl) f_int (Yl rfl G__law_draw (hr.mono (by omega)) hG (by rfl) (Yg C) (Y8 C).kp (Ye C) .nil Dfl.nil tk (Zb (Zf (pv 0)) (Zb f_int Ze)) (Za (Za Zd)))) Ze) (Za Zd)) (blkOk_by (N := Yx) (sc := defScope Zj) (by decide +kernel)) (fun _ _ _ _ _ => (pg_name (i := 10) Zt.nd rfl (Or.inl rfl))) (fun _ _ _ _ _ => U7) (fun _ _ _ _ _ => (Yl rfl G__law_draw (hr.mono (by omega)) hG (by rfl) (Yg C) (Y8 C).kp (Ye C) .nil Dfl.nil Q9 (Zb (Zf (pv 0)) (Zb (Zf (pv 3)) Ze)) (Za (Za Zd))))) Ze)))
    (Zk (Xg (i := 7) Zt.nd rfl (Or.inr rfl) (Yh (Z4a rfl) (by rfl) (Z0v C) (by decide +kernel) (Zb (Zf (pv 1)) Ze)))
    (Zk (Z2q (passes_of rfl) rfl (Z66 rfl (by rfl) (Z1c C) (Zb (Zf (pv 4)) Ze) (Za Zd)) (Z49 rfl rfl (Vg (Vo (i := 5) Zt.nd rfl (Or.inl rfl)) (Vg (Vo (i := 6) Zt.nd rfl (Or.inl rfl)) Z1s)))
      (Yb (Z1t (Yl rfl G__law_odd_node (hr.mono (by omega)) hG (by rfl) (Z1l C) (U8 C).kp (Z1k C) .nil Dfl.nil tk (Zb (Zf (pv 0)) (Zb (Zf (pv 3)) (Zb (Nz (o_eq hr.units rfl) (Zf (pv 5)) f_int (nomark _)) Ze))) (Za (Za (Za Zd)))) (Z3i hr.units (Zf (pv 7)) (Zf (pv 6))))))
    (Zk (Q4 (W3 (o_ne hr.units rfl) (U3 (k := 5) (dn := none) (F := Zq) (B := Yd) rfl (by rfl) (Xl C) (Ux (Xb C)) (Xk C) Yu rfl (.inl rfl) (fun _ _ => rfl) Xm
      (fun cdv A2 outer2 s2 H2 E2 fl lv hr2 hG2 act _ _ => Xc C B cdv fl lv hr2 hG2 act) (B.b _ Zv) rfl (B.hm Zv) (B.hu Zv) (Qy (sc := defScope Zj) (N := Yx) (by decide +kernel)) (.non rfl (fun _ _ _ _ _ => rfl)) (hr.mono (by omega)) hG tk
      (fun A2 outer2 s2 H2 E2 f2 c2 hr hG => (U0 rfl (Zy C) (Yp C) G_Graph_init (hr.mono (by omega)) hG (by rfl) (Yz C) db_Graph_init_1 dv_Graph_init_1 (fun _ _ => .nil) (takes_of rfl rfl rfl rfl) (Zb (Yh (Uz rfl) (by rfl) (Xz C) (by decide +kernel) (Zb (Zf (pv 7)) Ze)) (Zb (Yl rfl G__law_one (hr.mono (by omega)) hG (by rfl) (Xf C) (Yr C).kp (Xe C) .nil Dfl.nil (takes_of rfl rfl rfl rfl) (Zb (Zf (pv 0)) (Zb (Wz (Zb (Zf (pv 2)) (Zb (Zf (pv 9)) Ze)) (Za (Za Zd))) Ze)) (Za (Za Zd))) Ze)) (Za (Za Zd)))) Ze Zd) (f_ix (Z1j hr.units rfl) (Zf (pv 4)) f_int (fun _ _ => rfl)) (nomark _))
      (Yb (Ys f_bl))
      V7)
    (Zk (Xg (i := 8) Zt.nd rfl (Or.inr rfl) (Yl rfl G__law_one (hr.mono (by omega)) hG (by rfl) (Xf C) (Yr C).kp (Xe C) .nil Dfl.nil tk (Zb (Zf (pv 0)) (Zb (Wz (Zb Z1h (Zb f_int (Zb (Zr [110,111,100,101,115]) (Zb (Z1w pe_dnewK) (Zb (Zdh (Zc7 f_int (f_ix (Z1j hr.units rfl) (Zf (pv 1)) f_int (fun _ _ => rfl)) Zdg)) (Zb (f_tup Ze Zd) (Zb (Wz Ze Zd) (Zb (f_op Z48 (Zf (pv 1)) (f_op (Q3 rfl) (f_op Z7l f_int (Zf (pv 3))) f_int)) (Zb (U0 rfl (Zy C) (Yp C) G_Graph_init (hr.mono (by omega)) hG (by rfl) (Yz C) db_Graph_init_1 dv_Graph_init_1 (fun _ _ => .nil) tk (Zb (Zf (pv 1)) (Zb (Zf (pv 2)) Ze)) (Za (Za Zd))) Ze))))))))) (Za (Za (Za (Za (Za (Za (Za (Za (Za Zd)))))))))) Ze)) (Za (Za Zd))))
    (Yb (Ys (Nz (o_eq hr.units rfl) (U3 (k := 5) (dn := none) (F := Zq) (B := Yd) rfl (by rfl) (Xl C) (Ux (Xb C)) (Xk C) Yu rfl (.inl rfl) (fun _ _ => rfl) Xm
      (fun cdv A2 outer2 s2 H2 E2 fl lv hr2 hG2 act _ _ => Xc C B cdv fl lv hr2 hG2 act) (B.b _ Zv) rfl (B.hm Zv) (B.hu Zv) (Qy (sc := defScope Zj) (N := Yx) (by decide +kernel)) (.non rfl (fun _ _ _ _ _ => rfl)) (hr.mono (by omega)) hG tk
      (fun A2 outer2 s2 H2 E2 f2 c2 hr hG => (U0 rfl (Zy C) (Yp C) G_Graph_init (hr.mono (by omega)) hG (by rfl) (Yz C) db_Graph_init_1 dv_Graph_init_1 (fun _ _ => .nil) (takes_of rfl rfl rfl rfl) (Zb (Zf (pv 8)) (Zb (Yl rfl G__law_one (hr.mono (by omega)) hG (by rfl) (Xf C) (Yr C).kp (Xe C) .nil Dfl.nil (takes_of rfl rfl rfl rfl) (Zb (Zf (pv 0)) (Zb (Wz (Zb f_int (Zb Z1h Ze)) (Za (Za Zd))) Ze)) (Za (Za Zd))) Ze)) (Za (Za Zd)))) Ze Zd) (f_op Z47 f_int f_int) (nomark _))))))))))))
theorem Zdx : GT P w K mg base 10 (gY "law") Zc9 1 Zcj := by
  have G__law_well := Z50 (P := P) (base := base) C B
  have G_Graph_init := Qq (P := P) (base := base) C B
  obtain ⟨ds_Graph_init_0,dv_Graph_init_0,db_Graph_init_0⟩ := Z2h C
  obtain ⟨ds_Graph_init_1,dv_Graph_init_1,db_Graph_init_1⟩ := Ur C
  have G__law_draw := Vd (P := P) (base := base) C B
  have G__law_nodes := Z3w (P := P) (base := base) C B
  have G__law_good_right := Z0e (P := P) (base := base) C B
  have G__law_spoilt_right := Jw (P := P) (base := base) C B
  refine fnFC (Z59 (Zb7 C) (Z4h (C.c.fact 2)).2.2) Z1a fun A outer s H E hr hG => ?_
  exact (Zk (Xg (i := 8) Z1a.nd rfl (Or.inr rfl) (f_op (Q3 rfl) (Wz (Zb (f_tup (Zb (Zr [115,101,113,117,101,110,99,101]) (Zb (Zr [33,33,115,101,113]) (Zb (f_op (Z2s rfl) (f_tup (Zb f_int Ze) (Za Zd)) f_int) Ze))) (Za (Za (Za Zd)))) (Zb (f_tup (Zb (Zr [109,97,112,112,105,110,103]) (Zb (Zr [33,33,109,97,112]) (Zb (f_op (Z2s rfl) (f_tup (Zb (f_tup (Zb f_int (Zb f_int Ze)) (Za (Za Zd))) Ze) (Za Zd)) f_int) Ze))) (Za (Za (Za Zd)))) Ze)) (Za (Za Zd))) (f_op Z48 (Wz (Zb (f_tup (Zb (Zr [115,99,97,108,97,114]) (Zb (Zr [33,115]) (Zb (Zr []) Ze))) (Za (Za (Za Zd)))) Ze) (Za Zd)) f_int)))
    (Zk (Q4 (W3 (o_ne hr.units rfl) (U3 (k := 5) (dn := none) (F := Zq) (B := Yd) rfl (by rfl) (Xl C) (Ux (Xb C)) (Xk C) Yu rfl (.inl rfl) (fun _ _ => rfl) Xm
      (fun cdv A2 outer2 s2 H2 E2 fl lv hr2 hG2 act _ _ => Xc C B cdv fl lv hr2 hG2 act) (B.b _ Qu) rfl (B.hm Qu) (B.hu Qu) (Qy (sc := defScope Nm) (N := Z8g) (by decide +kernel)) (.non rfl (fun _ _ _ _ _ => rfl)) (hr.mono (by omega)) hG tk
      (fun A2 outer2 s2 H2 E2 f2 c2 hr hG => (U0 rfl (Zy C) (Yp C) G_Graph_init (hr.mono (by omega)) hG (by rfl) (Yz C) db_Graph_init_1 dv_Graph_init_1 (fun _ _ => .nil) (takes_of rfl rfl rfl rfl) (Zb (Zf (pv 8)) (Zb f_int Ze)) (Za (Za Zd)))) Ze Zd) (f_tup (Zb (Yh (Uz rfl) (by rfl) (Xz C) (by decide +kernel) (Zb (Zf (pv 8)) Ze)) (Zb f_int Ze)) (Za (Za Zd))) (nomark _))
      (Yb (Ys f_bl))
      V7)
    (Zk (Z2q (passes_of rfl) rfl (Qx rfl (f_tup (Zb (f_tup (Zb (Zr [115,101,113,117,101,110,99,101]) (Zb (Zr [33,33,115,101,113]) (Zb (f_op (Z2s rfl) (f_tup (Zb f_int Ze) (Za Zd)) f_int) Ze))) (Za (Za (Za Zd)))) (Zb (f_tup (Zb (Zr [109,97,112,112,105,110,103]) (Zb (Zr [33,33,109,97,112]) (Zb (f_op (Z2s rfl) (f_tup (Zb (f_tup (Zb f_int (Zb f_int Ze)) (Za (Za Zd))) Ze) (Za Zd)) f_int) Ze))) (Za (Za (Za Zd)))) Ze)) (Za (Za Zd)))) (Vo (i := 7) Z1a.nd rfl (Or.inr rfl))
      (Yb (Q4 (PW.pt (N5 (W3 (o_ne hr.units rfl) (U3 (k := 5) (dn := none) (F := Zq) (B := Yd) rfl (by rfl) (Xl C) (Ux (Xb C)) (Xk C) Yu rfl (.inl rfl) (fun _ _ => rfl) Xm
      (fun cdv A2 outer2 s2 H2 E2 fl lv hr2 hG2 act _ _ => Xc C B cdv fl lv hr2 hG2 act) (B.b _ Qu) rfl (B.hm Qu) (B.hu Qu) (Qy (sc := defScope Nm) (N := Z8g) (by decide +kernel)) (.non rfl (fun _ _ _ _ _ => rfl)) (hr.mono (by omega)) hG tk
      (fun A2 outer2 s2 H2 E2 f2 c2 hr hG => (U0 rfl (Zy C) (Yp C) G_Graph_init (hr.mono (by omega)) hG (by rfl) (Yz C) db_Graph_init_0 dv_Graph_init_0 (fun _ _ => (.cons (.int _) .nil)) (takes_of rfl rfl rfl rfl) (Zb (Wz (Zb (Zf (pv 7)) Ze) (Za Zd)) Ze) (Za Zd))) Ze Zd) f_int (nomark _)) (Jz (W3 (o_ne hr.units rfl) (U3 (k := 5) (dn := some ("_law_of", 0)) (F := Zq) (B := Yd) rfl (by rfl) (Xl C) (Ux (Xb C)) (Xk C) Yu rfl (.inl rfl) (fun _ _ => rfl) Xm
      (fun cdv A2 outer2 s2 H2 E2 fl lv hr2 hG2 act _ _ => Xc C B cdv fl lv hr2 hG2 act) (B.b _ Qu) rfl (B.hm Qu) (B.hu Qu) (Qy (sc := defScope Nm) (N := Z8g) (by decide +kernel)) (.one rfl (fun _ _ _ _ _ _ => ⟨_, rfl, fun _ => rfl⟩)) (hr.mono (by omega)) hG tk
      (fun A2 outer2 s2 H2 E2 f2 c2 hr hG => (U0 rfl (Zy C) (Yp C) G_Graph_init (hr.mono (by omega)) hG (by rfl) (Yz C) db_Graph_init_0 dv_Graph_init_0 (fun _ _ => (.cons (.int _) .nil)) (takes_of rfl rfl rfl rfl) (Zb (f_op (Q3 rfl) (f_sl rfl (Zf (pv 8)) (Z0k f_int) (Z0k f_int)) (Wz (Zb (Zf (pv 7)) Ze) (Za Zd))) Ze) (Za Zd))) Ze Zd) f_int (nomark _)))))
        (Yb (Ys f_bl))
        V7)))
    (Zk (Z2q (passes_of rfl) rfl (Qx rfl (f_op (Q3 rfl) (f_sl rfl (Zf (pv 0)) Z1q (Z0k f_int)) (Wz (Zb f_int Ze) (Za Zd)))) (Vo (i := 1) Z1a.nd rfl (Or.inl rfl))
      (Zk (Xg (i := 2) Z1a.nd rfl (Or.inl rfl) (Yl rfl G__law_well (hr.mono (by omega)) hG (by rfl) (Z4z C) (Jb C).kp (Z4t C) .nil Dfl.nil tk (Zb (Zf (pv 1)) Ze) (Za Zd)))
      (Yb (Z2q (passes_of rfl) rfl (Qw (by rfl) (Z0d C) (Zb f_int Ze) (Za Zd)) (Vo (i := 3) Z1a.nd rfl (Or.inl rfl))
        (Zk (Xg (i := 4) Z1a.nd rfl (Or.inl rfl) (f_op (Q3 rfl) f_int (Yl rfl G__law_draw (hr.mono (by omega)) hG (by rfl) (Yg C) (Y8 C).kp (Ye C) .nil Dfl.nil tk (Zb (Zf (pv 2)) (Zb f_int Ze)) (Za (Za Zd)))))
        (Zk (Zaz (i := 5) (j := 6) rfl Z1a.nd rfl rfl (by decide) rfl rfl (Zb (Yl rfl G__law_nodes (hr.mono (by omega)) hG (by rfl) (Z3u C) (Qp C).kp (Z3r C) .nil Dfl.nil tk (Zb (Zf (pv 2)) (Zb (Zf (pv 4)) Ze)) (Za (Za Zd))) (Zb (Yl rfl G__law_draw (hr.mono (by omega)) hG (by rfl) (Yg C) (Y8 C).kp (Ye C) .nil Dfl.nil tk (Zb (Zf (pv 2)) (Zb (Zf (pv 4)) Ze)) (Za (Za Zd))) Ze)) (Za (Za Zd)) (by rfl))
        (Yb (Q4 (PW.pt (N5 (Uu (Ua rfl (Yl rfl G__law_good_right (hr.mono (by omega)) hG (by rfl) (Z0b C) (Vm C).kp (Z0a C) .nil Dfl.nil tk (Zb (Zf (pv 2)) (Zb (Zf (pv 5)) (Zb (Zf (pv 6)) Ze))) (Za (Za (Za Zd)))))) (Jz (Uu (Ua rfl (Yl rfl G__law_spoilt_right (hr.mono (by omega)) hG (by rfl) (Jv C) (Ww C).kp (Ju C) .nil Dfl.nil tk (Zb (Zf (pv 2)) (Zb (Zf (pv 5)) (Zb (Zf (pv 6)) Ze))) (Za (Za (Za Zd)))))))))
          (Yb (Ys f_bl))
          V7))))))))
    (Yb (Ys (Nz (o_eq hr.units rfl) (U3 (k := 5) (dn := none) (F := Zq) (B := Yd) rfl (by rfl) (Xl C) (Ux (Xb C)) (Xk C) Yu rfl (.inl rfl) (fun _ _ => rfl) Xm
      (fun cdv A2 outer2 s2 H2 E2 fl lv hr2 hG2 act _ _ => Xc C B cdv fl lv hr2 hG2 act) (B.b _ Qu) rfl (B.hm Qu) (B.hu Qu) (Qy (sc := defScope Nm) (N := Z8g) (by decide +kernel)) (.non rfl (fun _ _ _ _ _ => rfl)) (hr.mono (by omega)) hG tk
      (fun A2 outer2 s2 H2 E2 f2 c2 hr hG => (U0 rfl (Zy C) (Yp C) G_Graph_init (hr.mono (by omega)) hG (by rfl) (Yz C) db_Graph_init_0 dv_Graph_init_0 (fun _ _ => (.cons (.int _) .nil)) (takes_of rfl rfl rfl rfl) (Zb (Wz (Zb (f_tup (Zb (Zr [115,99,97,108,97,114]) (Zb (Zr [33,33,115,116,114]) (Zb (Zr [97]) Ze))) (Za (Za (Za Zd)))) Ze) (Za Zd)) Ze) (Za Zd))) Ze Zd) (f_tup (Zb (f_tup (Zb (f_tup (Zb (Zr [115,99,97,108,97,114]) (Zb (Zr [33,33,115,116,114]) (Zb (Zr [97]) Ze))) (Za (Za (Za Zd)))) Ze) (Za Zd)) (Zb f_int Ze)) (Za (Za Zd))) (nomark _))))))))
end
end Ap
set_option maxHeartbeats 4000000
namespace Ap
open PySem PySem.Spec PyProof.Rows L2 SX Fx
theorem Z1d {Z : Sto} {w : Nat} (hw : Wel Z w) (n : Nat) (h0 : 0 < n) (h1 : n < 2 ^ 200) :
    ∃ (r : Nat) (Z' : Sto), r < n ∧ Zz [.loc w, .int n] Z = .ok (.int r) Z' ∧ Kp w Z Z' := by
  have hw' := hw
  obtain ⟨a,b,c,hw⟩ := hw
  have hn : (0 : Int) < (n : Int) := by omega
  have hn2 : ((n : Int) < 1606938044258990275541962092341162602522202993782792835301376) := by omega
  by_cases ha : 0 < a
  · obtain ⟨r,hr,e⟩ := modN a h0
    refine ⟨r, Z.set w (.lst [.int (a / n), .int b, .int c]), hr, ?_, Kp.turn hw'⟩
    simp [Zz,runF,Nu,Z2y _ hw,Z6f _ _ hw,hw,ha,h0,h1,hn2,e,ixN]
  · have e1 := Vk (us := [.int a,.int b,.int (c + 1)]) hw
    generalize hx : ((b + 9973 * (c + 1) + 17) * 48271 : Int) % 2147483647 = x
    generalize hy : (x * (x / 1021 + 69621 + (c + 1)) : Int) % 2147483587 = y
    have mx : ∀ z,mulOk x z = true := fun z => hx ▸ Z2w _ _ _ (by decide) (by decide)
    have my : ∀ z,mulOk y z = true := fun z => hy ▸ Z2w _ _ _ (by decide) (by decide)
    obtain ⟨r,hr,e⟩ := modN (y * (y / 2011 + 40692) % 2147483399 / 7) h0
    refine ⟨r, Z.set w (.lst [.int a, .int b, .int (c + 1)]), hr, ?_, Kp.turn hw'⟩
    simp [Zz,runF,Nu,Z2y _ hw,Z6f _ _ hw,Z2y _ e1,hw,ha,h0,h1,hn2,e,e1,hx,hy,mx,my,ixN]
theorem Z0x {Z : Sto} {w : Nat} (hw : Wel Z w) (n : Nat) (i : Int) (hi : i = (n : Int)) (h0 : 0 < n) (h1 : n < 2 ^ 200) :
    ∃ (r : Nat) (Z' : Sto), r < n ∧ Zz [.loc w, .int i] Z = .ok (.int r) Z' ∧ Kp w Z Z' := by
  subst hi; exact Z1d hw n h0 h1
theorem Z1i {Z : Sto} {w l : Nat} {xs : List Fx.T} (hw : Wel Z w) (hl : getL Z l = some xs) (hn : l ≠ w) (h0 : 0 < xs.length) (h1 : xs.length < 2 ^ 200) :
    ∃ t ∈ xs, ∃ Z', Y9 [.loc w, .loc l] Z = .ok t Z' ∧ Kp w Z Z' := by
  obtain ⟨r, Z', hr, e, k⟩ := Z1d hw xs.length h0 h1
  have ex : xs[r]? = some xs[r] := List.getElem?_eq_getElem hr
  refine ⟨xs[r], List.getElem_mem hr, Z', ?_, k⟩
  simp [Y9,runF,Z32,hl,e,Z2y _ (k.getL hn hl),Fx.atI_nat ex]
theorem Z1e {Z : Sto} {w : Nat} {xs : List Fx.T} (hw : Wel Z w) (h0 : 0 < xs.length) (h1 : xs.length < 2 ^ 200) :
    ∃ t ∈ xs, ∃ Z', Y9 [.loc w, .loc Z.length] (Z ++ [.lst xs]) = .ok t Z' ∧ Kp w Z Z' := by
  have k := Kp.new (Y := [.lst xs]) hw
  obtain ⟨t, ht, Z', e, k2⟩ := Z1i k.wel (Zm Z xs) (Nat.ne_of_gt hw.lt) h0 h1
  exact ⟨t, ht, Z', e, k.trans k2⟩
theorem Zdy (c : Int) (Z : Sto) : ∃ a b d : Int,Qh [.int c] Z = .ok (.loc Z.length) (Z ++ [.lst [.int a,.int b,.int d]]) := by
  by_cases hb : (1000000000000000000 : Int) ≤ c <;> simp [Qh,runF,Z2d,hb]
def numOk (m : Int) : Fx.T → Bool
  | .int n => decide (0 ≤ n) && decide (n ≤ m)
  | _ => false
theorem Z6n (n m : Int) (Z : Sto) : Yt [.int n,.int 0,.int m] Z = .ok (.bl (numOk m (.int n))) Z := by
  have g1 : ∀ Z, gIsi [.int n, .ty "int"] Z = some (.bl true, Z) := fun Z => rfl
  have g2 : ∀ Z, gIsi [.int n, .ty "bool"] Z = some (.bl false, Z) := fun Z => rfl
  by_cases h : 0 ≤ n <;> simp [Yt,runF,Z08,g1,g2,numOk,h]
theorem Z34 {t : Fx.T} {m : Int} {Z : Sto} (h : gIsi [t, .ty "int"] Z = some (.bl false, Z)) : Yt [t, .int 0, .int m] Z = .ok (.bl false) Z := by
  simp [Yt,runF,Z08,h]
theorem Zdz (b : Bool) (m : Int) (Z : Sto) : Yt [.bl b,.int 0,.int m] Z = .ok (.bl false) Z := by
  have g1 : ∀ Z, gIsi [.bl b, .ty "int"] Z = some (.bl true, Z) := fun Z => rfl
  have g2 : ∀ Z, gIsi [.bl b, .ty "bool"] Z = some (.bl true, Z) := fun Z => rfl
  simp [Yt,runF,Z08,g1,g2]
theorem Z6o {t : Fx.T} (h : ∀ i,t ≠ .loc i) (h2 : tyT t [] ≠ none) (m : Int) (Z : Sto) : Yt [t,.int 0,.int m] Z = .ok (.bl (numOk m t)) Z := by
  cases t with
  | int n => exact Z6n n m Z
  | bl b => exact Zdz b m Z
  | loc i => exact absurd rfl (h i)
  | non => exact Z34 rfl
  | str l => exact Z34 rfl
  | tup l => exact Z34 rfl
  | frl l => exact Z34 rfl
  | _ => exact absurd rfl h2
theorem Ze0 {t s : List Nat} (h0 : t ≠ []) (hl : t.length ≤ Lim) (Z : Sto) : Xp [.str t,.str s] Z = .ok (.bl (t.all fun c => decide (c ∈ s))) (Z ++ [.lst (t.map fun c => .bl (decide (c ∈ s)))]) := by
  have e := Vs (Z1 := Z) (it := itStr t) (ts := t.map fun c => Fx.T.str [c]) (put := fun x => putN [2] x (wipeR [some (.str t),some (.str s),none] [2])) (c := eYes) (e := Qi) (Zce t) (by rw [List.length_map]; exact hl) (fun _ => true) (fun x => match x with | .str [c] => .bl (decide (c ∈ s)) | _ => .non) (fun x hx => by
    obtain ⟨c,hc,rfl⟩ := List.mem_map.mp hx
    refine ⟨_,rfl,fun acc => ⟨rfl,fun _ => ?_⟩⟩
    simp [Qi,wipeR,putN])
  have em : ((t.map fun c => Fx.T.str [c]).filter (fun _ => true)).map (fun x => match x with | .str [c] => Fx.T.bl (decide (c ∈ s)) | _ => .non) = t.map fun c => Fx.T.bl (decide (c ∈ s)) := by
    rw [List.filter_eq_self.mpr (fun _ _ => rfl),List.map_map]; rfl
  rw [em] at e
  have hb := Z07 (fun c => decide (c ∈ s)) t
  simp [Xp,runF,Nq,h0,e,hb]
def isT (t : List Nat) : Bool := List.isPrefixOf [33] t && (let r := if List.isPrefixOf [33,33] t = true then t.drop 2 else t.drop 1; !decide (r = []) && r.all fun c => decide (c ∈ V4))
theorem are_0 (s : List Nat) (Z : Sto) : Xp [.str [],.str s] Z = .ok (.bl false) Z := by
  simp [Xp,runF,Nq]
theorem Z35 (t : List Nat) (hl : t.length ≤ Lim) (Z : Sto) : ∃ Y,Vy [.str t] Z = .ok (.bl (isT t)) (Z ++ Y) := by
  have g1 : ∀ Z, gIsi [.str t, .ty "str"] Z = some (.bl true, Z) := fun Z => rfl
  unfold isT
  by_cases h1 : List.isPrefixOf [33] t = true
  · obtain ⟨r,hr,hrl,he⟩ : ∃ r,(if List.isPrefixOf [33,33] t = true then t.drop 2 else t.drop 1) = r ∧ r.length ≤ Lim ∧ ∀ q,Xp [.str r,.str V4] Z = q → Vy [.str t] Z = q := by
      refine ⟨_,rfl,?_,fun q hq => ?_⟩
      · split
        · rw [List.length_drop]; omega
        · rw [List.length_drop]; omega
      · by_cases h2 : List.isPrefixOf [33,33] t = true
        · rw [if_pos h2] at hq
          have s2 : cutL t (some 2) none = t.drop 2 := Z5v t 2
          cases hF : Xp [.str (t.drop 2),.str V4] Z <;> (rw [hF] at hq; subst hq; simp [Vy,runF,Z09,g1,h1,h2,s2,hl,hF])
        · rw [if_neg h2] at hq
          have s1 : cutL t (some 1) none = t.drop 1 := Z5v t 1
          generalize t.drop 1 = D at *
          cases hF : Xp [.str D,.str V4] Z <;> (rw [hF] at hq; subst hq; simp [Vy,runF,Z09,g1,h1,h2,s1,hl,hF])
    simp only [h1,hr,Bool.true_and]
    by_cases h0 : r = []
    · subst h0
      refine ⟨[],?_⟩
      rw [he _ (are_0 _ _),List.append_nil]; rfl
    · rw [he _ (Ze0 h0 hrl Z),decide_eq_false h0]
      exact ⟨_,rfl⟩
  · refine ⟨[],?_⟩
    have h1' : List.isPrefixOf [33] t = false := Bool.eq_false_iff.mpr h1
    simp [Vy, runF, Z09, g1, h1']
theorem tag_o {t : Fx.T} {Z : Sto} (h : gIsi [t, .ty "str"] Z = some (.bl false, Z)) : Vy [t] Z = .ok (.bl false) Z := by
  simp [Vy,runF,Z09,h]
end Ap
set_option maxHeartbeats 4000000
namespace Ap
open PySem PySem.Spec PyProof.Rows L2 SX Fx
theorem set_mid {α : Type} : ∀ (A : List α) (x y : α) (B : List α),(A ++ x :: B).set A.length y = A ++ y :: B
  | [],_,_,_ => rfl
  | a :: A,x,y,B => congrArg (a :: ·) (set_mid A x y B)
theorem Z3x (A : Sto) (ts : List Fx.T) (B : Sto) : getL (A ++ .lst ts :: B) A.length = some ts := by simp [getL]
theorem Z0y {a b : Fx.T} (ha : ∀ i,a ≠ .loc i) (ha2 : tyT a [] ≠ none) (hb : ∀ i,b ≠ .loc i) (hb2 : tyT b [] ≠ none) (size : Int) (Z : Sto) : X3 [.tup [a,b],.int size] Z = .ok (.bl (numOk (size - 1) a && numOk (size - 1) b)) (Z ++ [.lst [.bl (numOk (size - 1) a),.bl (numOk (size - 1) b)]]) := by
  have e := Vs (Z1 := Z) (ts := [a,b]) (put := fun x => putN [2] x (wipeR [some (.tup [a,b]),some (.int size),none] [2])) (c := eYes) (e := J9) (Np _) (by simp [Lim]) (fun _ => true) (fun x => .bl (numOk (size - 1) x)) (fun x hx => by
    refine ⟨_,rfl,fun acc => ⟨rfl,fun _ => ?_⟩⟩
    have hf : Yt [x,.int 0,.int (size - 1)] (Z ++ [.lst acc]) = .ok (.bl (numOk (size - 1) x)) (Z ++ [.lst acc]) := by
      simp only [List.mem_cons,List.not_mem_nil,or_false] at hx
      rcases hx with rfl | rfl
      · exact Z6o ha ha2 _ _
      · exact Z6o hb hb2 _ _
    simp [J9,wipeR,putN,hf])
  have em : (([a,b]).filter (fun _ => true)).map (fun x => Fx.T.bl (numOk (size - 1) x)) = [.bl (numOk (size - 1) a),.bl (numOk (size - 1) b)] := rfl
  rw [em] at e
  have g1 : ∀ Z, gIsi [.tup [a, b], .ty "tuple"] Z = some (.bl true, Z) := fun Z => rfl
  generalize numOk (size - 1) a = A at *
  generalize numOk (size - 1) b = B at *
  simp [-Z06,X3,runF,Jo,g1,e,bools]
theorem entry_len {ts : List Fx.T} (h : ts.length ≠ 2) (hl : ts.length ≤ Lim) (size : Int) (Z : Sto) : X3 [.tup ts,.int size] Z = .ok (.bl false) Z := by
  have g1 : ∀ Z, gIsi [.tup ts, .ty "tuple"] Z = some (.bl true, Z) := fun Z => rfl
  have h' : ¬ ((ts.length : Nat) : Int) = 2 := by omega
  simp [-Z06, X3, runF, Jo, g1, h', hl]
theorem Z91 {t : Fx.T} {Z : Sto} (h : gIsi [t, .ty "tuple"] Z = some (.bl false, Z)) (size : Int) : X3 [t, .int size] Z = .ok (.bl false) Z := by
  simp [-Z06,X3,runF,Jo,h]
def sSc : List Nat := [115,99,97,108,97,114]
def sSeq : List Nat := [115,101,113,117,101,110,99,101]
def sMap : List Nat := [109,97,112,112,105,110,103]
theorem Z3y {tag : List Nat} {ts : List Fx.T} {size : Int} (g : Fx.T → Bool) (ht : isT tag = true) (htl : tag.length ≤ Lim) (hl : ts.length ≤ Lim) (Z : Sto) (hg : ∀ t ∈ ts,∀ Y,Yt [t,.int 0,.int (size - 1)] (Z ++ Y) = .ok (.bl (g t)) (Z ++ Y)) :
    ∃ Y,Zw [.tup [.str sSeq,.str tag,.tup ts],.int size] Z = .ok (.bl (decide (ts.length ≤ 1000) && ts.all g)) (Z ++ Y) := by
  obtain ⟨Y1,e1⟩ := Z35 tag htl Z
  rw [ht] at e1
  have g1 : ∀ Z, gIsi [.tup [.str sSeq, .str tag, .tup ts], .ty "tuple"] Z = some (.bl true, Z) := fun Z => rfl
  have g2 : ∀ Z, gIsi [.str sSeq, .ty "str"] Z = some (.bl true, Z) := fun Z => rfl
  have g3 : ∀ Z, gIsi [.tup ts, .ty "tuple"] Z = some (.bl true, Z) := fun Z => rfl
  have e := Vs (Z1 := Z ++ Y1) (ts := ts) (put := fun x => putN [5] x (wipeR [some (.tup [.str sSeq,.str tag,.tup ts]),some (.int size),some (.str sSeq),some (.str tag),some (.tup ts),none] [5])) (c := eYes) (e := Nr) (Np _) hl (fun _ => true) (fun x => .bl (g x)) (fun x hx => by
    refine ⟨_,rfl,fun acc => ⟨rfl,fun _ => ?_⟩⟩
    have hf := hg x hx (Y1 ++ [.lst acc])
    rw [← List.append_assoc] at hf
    generalize hzz : Z ++ Y1 ++ [O.lst acc] = ZZ at hf ⊢
    simp [Nr,wipeR,putN,hf])
  have em : (ts.filter (fun _ => true)).map (fun x => Fx.T.bl (g x)) = ts.map fun x => .bl (g x) := by rw [List.filter_eq_self.mpr (fun _ _ => rfl)]
  rw [em] at e
  have hb := Z07 g ts
  by_cases hk : ts.length ≤ 1000
  · refine ⟨Y1 ++ [.lst (ts.map fun x => .bl (g x))],?_⟩
    have hk' : ((ts.length : Nat) : Int) ≤ 1000 := by omega
    have ea : ∀ W,getL (Z ++ Y1 ++ [O.lst W]) (Z ++ Y1).length = some W := fun W => Zm _ _
    rw [← List.append_assoc,decide_eq_true hk,Bool.true_and]
    simp only [sSeq] at *
    generalize hZ1 : Z ++ Y1 = Z1 at *
    simp [-Z06, Zw, runF, Xw, flatT, inT, Fx.eqT, g1, g2, g3, e1, hl, hk', e, hb]
  · refine ⟨Y1,?_⟩
    have hk' : ¬ ((ts.length : Nat) : Int) ≤ 1000 := by omega
    rw [decide_eq_false hk,Bool.false_and]
    simp only [sSeq] at *
    generalize hZ1 : Z ++ Y1 = Z1 at *
    simp [-Z06, Zw, runF, Xw, flatT, inT, Fx.eqT, g1, g2, g3, e1, hl, hk']
theorem Z3z {tag : List Nat} {ts : List Fx.T} {size : Int} (g : Fx.T → Bool) (ht : isT tag = true) (htl : tag.length ≤ Lim) (hl : ts.length ≤ 100000) (Z : Sto) (hg : ∀ t ∈ ts, ∀ Y, ∃ Y', X3 [t, .int size] (Z ++ Y) = .ok (.bl (g t)) (Z ++ Y ++ Y')) :
    ∃ Y,Zw [.tup [.str sMap,.str tag,.tup ts],.int size] Z = .ok (.bl (decide (2 * ts.length ≤ 1000) && ts.all g)) (Z ++ Y) := by
  obtain ⟨Y1,e1⟩ := Z35 tag htl Z
  rw [ht] at e1
  have hlL : ts.length ≤ Lim := by unfold Lim; omega
  have g1 : ∀ Z, gIsi [.tup [.str sMap, .str tag, .tup ts], .ty "tuple"] Z = some (.bl true, Z) := fun Z => rfl
  have g2 : ∀ Z, gIsi [.str sMap, .ty "str"] Z = some (.bl true, Z) := fun Z => rfl
  have g3 : ∀ Z, gIsi [.tup ts, .ty "tuple"] Z = some (.bl true, Z) := fun Z => rfl
  obtain ⟨acc, Z', e, rfl, W, rfl⟩ := Z29 (Np ts) (D := (Z ++ Y1).length) (put := fun x => putN [5] x (wipeR [some (.tup [.str sMap, .str tag, .tup ts]), some (.int size), some (.str sMap), some (.str tag), some (.tup ts), none] [5])) (c := eYes) (e := Nt)
    (fun pre acc Z' => acc = pre.map (fun x => Fx.T.bl (g x)) ∧ ∃ W, Z' = (Z ++ Y1) ++ .lst acc :: W) (fun pre acc Z' h => by obtain ⟨_, W, rfl⟩ := h; exact Z3x _ _ _)
    (fun pre x post acc Z' et h => by
      obtain ⟨rfl,W,rfl⟩ := h
      obtain ⟨Y', hf⟩ := hg x (by rw [et]; simp) (Y1 ++ .lst (pre.map fun x => Fx.T.bl (g x)) :: W)
      rw [← List.append_assoc] at hf
      refine ⟨_, rfl, .inr ⟨_, .bl (g x), (Z ++ Y1) ++ .lst (pre.map fun x => Fx.T.bl (g x)) :: (W ++ Y'), rfl, ?_, Z3x _ _ _, by simp, W ++ Y', set_mid _ _ _ _⟩⟩
      have es : Z ++ Y1 ++ O.lst (pre.map fun x => Fx.T.bl (g x)) :: (W ++ Y') = Z ++ Y1 ++ O.lst (pre.map fun x => Fx.T.bl (g x)) :: W ++ Y' := by simp
      rw [es]
      generalize Z ++ Y1 ++ O.lst (pre.map fun x => Fx.T.bl (g x)) :: W = ZZ at *
      simp [Nt,wipeR,putN,hf]) ts [] [] ((Z ++ Y1) ++ [.lst []]) Fuel (by simp) (by rw [Q7]; unfold Lim; simp; omega) (by simp; exact hlL) ⟨rfl,[],rfl⟩
  have hb := Z07 g ts
  by_cases hk : 2 * ts.length ≤ 1000
  · refine ⟨Y1 ++ .lst (ts.map fun x => .bl (g x)) :: W,?_⟩
    have hk' : 2 * ((ts.length : Nat) : Int) ≤ 1000 := by omega
    have ea := Z3x (Z ++ Y1) (ts.map fun x => Fx.T.bl (g x)) W
    rw [← List.append_assoc,decide_eq_true hk,Bool.true_and]
    simp only [sMap] at *
    generalize hZ2 : Z ++ Y1 ++ O.lst (ts.map fun x => Fx.T.bl (g x)) :: W = Z2 at *
    generalize hZ1 : Z ++ Y1 = Z1 at *
    simp only [List.length_nil] at e
    simp [-Z06, Zw, runF, Xw, flatT, inT, Fx.eqT, g1, g2, g3, e1, hlL, hk', e, ea, hb]
  · refine ⟨Y1,?_⟩
    have hk' : ¬ 2 * ((ts.length : Nat) : Int) ≤ 1000 := by omega
    rw [decide_eq_false hk,Bool.false_and]
    simp only [sMap] at *
    generalize hZ1 : Z ++ Y1 = Z1 at *
    simp [-Z06, Zw, runF, Xw, flatT, inT, Fx.eqT, g1, g2, g3, e1, hlL, hk']
theorem Z92 {tag : List Nat} (ht : isT tag = true) (htl : tag.length ≤ Lim) (c : Fx.T) {b : Bool} (size : Int) (Z : Sto) (hc : ∀ Y, gIsi [c, .ty "str"] (Z ++ Y) = some (.bl b, Z ++ Y)) : ∃ Y, Zw [.tup [.str sSc, .str tag, c], .int size] Z = .ok (.bl b) (Z ++ Y) := by
  obtain ⟨Y1,e1⟩ := Z35 tag htl Z
  rw [ht] at e1
  have g1 : ∀ Z, gIsi [.tup [.str sSc, .str tag, c], .ty "tuple"] Z = some (.bl true, Z) := fun Z => rfl
  have g2 : ∀ Z, gIsi [.str sSc, .ty "str"] Z = some (.bl true, Z) := fun Z => rfl
  have hc := hc Y1
  refine ⟨Y1,?_⟩
  simp only [sSc] at *
  generalize hZ1 : Z ++ Y1 = Z1 at *
  simp [-Z06,Zw,runF,Xw,flatT,inT,Fx.eqT,g1,g2,e1,hc]
section
variable {size : Int} {Z : Sto}
theorem Z93 {t : Fx.T} (h : gIsi [t, .ty "tuple"] Z = some (.bl false, Z)) : ∃ Y, Zw [t, .int size] Z = .ok (.bl false) (Z ++ Y) := by
  refine ⟨[],?_⟩
  simp [-Z06,Zw,runF,Xw,flatT,inT,Fx.eqT,h]
theorem Z5q {ts : List Fx.T} (h : ts.length ≠ 3) (hl : ts.length ≤ Lim) : ∃ Y,Zw [.tup ts,.int size] Z = .ok (.bl false) (Z ++ Y) := by
  have g1 : ∀ Z, gIsi [.tup ts, .ty "tuple"] Z = some (.bl true, Z) := fun Z => rfl
  have h' : ¬ ((ts.length : Nat) : Int) = 3 := by omega
  refine ⟨[],?_⟩
  simp [-Z06, Zw, runF, Xw, flatT, inT, Fx.eqT, g1, h', hl]
theorem Z6p {a b c : Fx.T} (h : gIsi [a, .ty "str"] Z = some (.bl false, Z)) : ∃ Y, Zw [.tup [a, b, c], .int size] Z = .ok (.bl false) (Z ++ Y) := by
  have g1 : ∀ Z, gIsi [.tup [a, b, c], .ty "tuple"] Z = some (.bl true, Z) := fun Z => rfl
  refine ⟨[],?_⟩
  simp [-Z06,Zw,runF,Xw,flatT,inT,Fx.eqT,g1,h]
theorem Z94 {a : List Nat} {b c : Fx.T} (h : ∃ Y,Vy [b] Z = .ok (.bl false) (Z ++ Y)) : ∃ Y,Zw [.tup [.str a,b,c],.int size] Z = .ok (.bl false) (Z ++ Y) := by
  obtain ⟨Y1,e1⟩ := h
  have g1 : ∀ Z, gIsi [.tup [.str a, b, c], .ty "tuple"] Z = some (.bl true, Z) := fun Z => rfl
  have g2 : ∀ Z, gIsi [.str a, .ty "str"] Z = some (.bl true, Z) := fun Z => rfl
  refine ⟨Y1,?_⟩
  simp [-Z06,Zw,runF,Xw,flatT,inT,Fx.eqT,g1,g2,e1]
theorem Z6q {a tag : List Nat} {c : Fx.T} (htl : tag.length ≤ Lim) (h1 : a ≠ sSc) (h2 : a ≠ sSeq) (h3 : a ≠ sMap) : ∃ Y,Zw [.tup [.str a,.str tag,c],.int size] Z = .ok (.bl false) (Z ++ Y) := by
  obtain ⟨Y1,e1⟩ := Z35 tag htl Z
  have g1 : ∀ Z, gIsi [.tup [.str a, .str tag, c], .ty "tuple"] Z = some (.bl true, Z) := fun Z => rfl
  have g2 : ∀ Z, gIsi [.str a, .ty "str"] Z = some (.bl true, Z) := fun Z => rfl
  simp only [sSc,sSeq,sMap] at h1 h2 h3
  refine ⟨Y1,?_⟩
  cases hb : isT tag <;> rw [hb] at e1 <;> simp [-Z06,Zw,runF,Xw,flatT,inT,Fx.eqT,g1,g2,e1,h1,h2,h3,Ne.symm h2,Ne.symm h3]
theorem Ze1 {a tag : List Nat} {c : Fx.T} (ha : a = sSeq ∨ a = sMap) (htl : tag.length ≤ Lim) (h : ∀ Y, gIsi [c, .ty "tuple"] (Z ++ Y) = some (.bl false, Z ++ Y)) : ∃ Y, Zw [.tup [.str a, .str tag, c], .int size] Z = .ok (.bl false) (Z ++ Y) := by
  obtain ⟨Y1,e1⟩ := Z35 tag htl Z
  have g1 : ∀ Z, gIsi [.tup [.str a, .str tag, c], .ty "tuple"] Z = some (.bl true, Z) := fun Z => rfl
  have g2 : ∀ Z, gIsi [.str a, .ty "str"] Z = some (.bl true, Z) := fun Z => rfl
  have h' := h Y1
  refine ⟨Y1,?_⟩
  generalize hZ1 : Z ++ Y1 = Z1 at *
  rcases ha with rfl | rfl <;> simp only [sSeq, sMap] at * <;> cases hb : isT tag <;> rw [hb] at e1 <;> simp [-Z06, Zw, runF, Xw, flatT, inT, Fx.eqT, g1, g2, e1, h']
end
end Ap
set_option maxHeartbeats 4000000
namespace Ap
open PySem PySem.Spec PyProof.Rows L2 SX Fx
structure NV (Z : Sto) (nv : Fx.T) (ts : List Fx.T) (it : ItF) : Prop where
  len : ∀ Y,gLen [nv] (Z ++ Y) = some (.int (ts.length : Int),Z ++ Y)
  isi : ∀ Y, gIsiI "Graph" [nv, .tup [.ty "list", .ty "tuple"]] (Z ++ Y) = some (.bl true, Z ++ Y)
  enm : ∀ (ρ : Fx.Env) (fa : FA) (Z0 : Sto) Y,fa ρ Z0 = .ok [nv] (Z ++ Y) → iEnmA fa ρ Z0 = .ok it (Z ++ Y)
  hit : ∀ k Y,k ≤ ts.length → it k (Z ++ Y) = some ((ts[k]?).map fun t => .tup [.int (k : Int),t])
  tup : ∀ Y,gTuple [nv] (Z ++ Y) = some (.tup ts,Z ++ Y)
theorem NV.app {Z : Sto} {nv : Fx.T} {ts : List Fx.T} {it : ItF} (h : NV Z nv ts it) (W : Sto) : NV (Z ++ W) nv ts it :=
  ⟨fun Y => by rw [List.append_assoc]; exact h.len _,fun Y => by rw [List.append_assoc]; exact h.isi _,fun ρ fa Z0 Y e => by rw [List.append_assoc] at e ⊢; exact h.enm ρ fa Z0 _ e,fun k Y hk => by rw [List.append_assoc]; exact h.hit k _ hk,fun Y => by rw [List.append_assoc]; exact h.tup _⟩
theorem Z95 (Z : Sto) (ts : List Fx.T) : NV Z (.tup ts) ts (itEnum (itSeqX ts)) where
  len Y := rfl
  isi Y := by
    have h3 : insC (.tup ts) (Z ++ Y) = none := rfl
    show (if insC (.tup ts) (Z ++ Y) = some "Graph" then some (Fx.T.bl false, Z ++ Y) else gIsi [.tup ts, .tup [.ty "list", .ty "tuple"]] (Z ++ Y)) = _
    rw [h3]
    rfl
  enm ρ fa Z0 Y h := by simp [h]
  hit k Y hk := by simp [itEnum,itSeqX,hk]
  tup Y := rfl
theorem Z36 {Z : Sto} {l : Nat} {ts : List Fx.T} (h : getL Z l = some ts) : NV Z (.loc l) ts (itEnum (itLoc l)) where
  len Y := by simp [Zo h]
  isi Y := by
    have h2 := Xo.mp (Zo (Y := Y) h)
    have h3 : insC (.loc l) (Z ++ Y) = none := by simp [insC,getI,h2]
    have ty : tyT (.loc l) (Z ++ Y) = some "list" := by simp only [tyT, h2]
    have gb : ∀ n, gIsiB (.loc l) (.ty n) (Z ++ Y) = kitB "list" n := fun n => by simp only [gIsiB, ty, clsT]
    have k1 : kitB "list" "list" = some true := rfl
    have k2 : kitB "list" "tuple" = some false := rfl
    refine (if_neg (by rw [h3]; simp)).trans ?_
    show (if (tyT (.loc l) (Z ++ Y)).isSome = true then ((([.ty "list", .ty "tuple"] : List Fx.T).mapM fun c => gIsiB (.loc l) c (Z ++ Y)).map fun bs => (Fx.T.bl (bs.any id), Z ++ Y)) else none) = _
    simp only [ty,gb,k1,k2,List.mapM_cons,List.mapM_nil]
    rfl
  enm ρ fa Z0 Y e := by simp [e,Zo h]
  hit k Y hk := by simp [itEnum,itLoc,Zo h]
  tup Y := by simp [Zo h]
theorem Zag {it : ItF} {us : Nat → Option Fx.T} {body : Fx.T → FS} {Z0 : Sto} (P : Fx.Env → Prop) (j : Nat) (hit : ∀ k Y,k < j → it k (Z0 ++ Y) = some (us k))
    (hb : ∀ k, k < j → ∃ u, us k = some u ∧ ∀ ρ Y, P ρ → ∃ ρ' Y', body u ρ (Z0 ++ Y) = .nx ρ' (Z0 ++ Y') ∧ P ρ') :
    ∀ n k ρ Y, P ρ → k ≤ j → j < n + k → ∃ ρ' Y' n', 0 < n' ∧ loopN it body n k ρ (Z0 ++ Y) = loopN it body n' j ρ' (Z0 ++ Y') ∧ P ρ' := by
  intro n
  induction n with
  | zero => intro k ρ Y _ h1 h2; omega
  | succ n ih =>
    intro k ρ Y hP h1 h2
    by_cases hk : k = j
    · subst hk; exact ⟨ρ,Y,n + 1,by omega,rfl,hP⟩
    · obtain ⟨u,hu,hbu⟩ := hb k (by omega)
      obtain ⟨ρ', Y', e, hP'⟩ := hbu ρ Y hP
      obtain ⟨ρ2, Y2, n2, h0, e2, hP2⟩ := ih (k + 1) ρ' Y' hP' (by omega) (by omega)
      refine ⟨ρ2,Y2,n2,h0,?_,hP2⟩
      rw [← e2]
      conv => lhs; unfold loopN
      rw [hit k Y (by omega),hu]
      simp only [e,Z3d]
theorem Z6r {it : ItF} {body : Fx.T → FS} {n k : Nat} {ρ : Fx.Env} {Z : Sto} (h : 0 < n) (e : it k Z = some none) : loopN it body n k ρ Z = .nx ρ Z := by
  cases n with
  | zero => omega
  | succ n =>
    unfold loopN
    rw [e]
theorem Zah {it : ItF} {body : Fx.T → FS} {n k : Nat} {ρ ρ' : Fx.Env} {Z Z' : Sto} {t : Fx.T} {x : Ex} (h : 0 < n) (e : it k Z = some (some t)) (eb : body t ρ Z = .exc x ρ' Z') : loopN it body n k ρ Z = .exc x ρ' Z' := by
  cases n with
  | zero => omega
  | succ n =>
    unfold loopN
    rw [e]
    simp only [eb]
    rfl
def grF (ts : List Fx.T) (top : Int) : List (String × Fx.T) := [("nodes", .tup ts), ("top", .int top)]
def NoG (i : Int) : Ex := ⟨"NoGraph", [("index", .int i)]⟩
def GN (size : Int) (Z : Sto) (t : Fx.T) : Prop := ∀ Y, ∃ Y', Zw [t, .int size] (Z ++ Y) = .ok (.bl true) (Z ++ Y ++ Y')
def BN (size : Int) (Z : Sto) (t : Fx.T) : Prop := ∀ Y, ∃ Y', Zw [t, .int size] (Z ++ Y) = .ok (.bl false) (Z ++ Y ++ Y')
theorem GN.app {size : Int} {Z : Sto} {t : Fx.T} (h : GN size Z t) (W : Sto) : GN size (Z ++ W) t := fun Y => by
  obtain ⟨Y', e⟩ := h (W ++ Y)
  exact ⟨Y', by rw [List.append_assoc Z W Y]; exact e⟩
theorem BN.app {size : Int} {Z : Sto} {t : Fx.T} (h : BN size Z t) (W : Sto) : BN size (Z ++ W) t := fun Y => by
  obtain ⟨Y', e⟩ := h (W ++ Y)
  exact ⟨Y', by rw [List.append_assoc Z W Y]; exact e⟩
theorem Z6s (A : Sto) (C : String) (fs : List (String × Fx.T)) (B : Sto) : getI (A ++ .ins C fs :: B) A.length = some (C,fs) := by simp [getI]
section
variable {Z : Sto} {nv : Fx.T} {ts : List Fx.T} {it : ItF}
theorem Z40 {j L : Nat} {tv : Fx.T} (hnv : NV Z nv ts it) (hj : j ≤ ts.length) (hlL : ts.length ≤ 200) (hg : ∀ k t,k < j → ts[k]? = some t → GN (ts.length : Int) Z t) :
    ∃ o3 o4 Y n', 0 < n' ∧ loopN it (fun t ρ' Z' => bS ρ' ((gTp 2 (gsCons (gNm 3) (gsCons (gNm 4) gsNil))) t ρ' Z') Ym) Fuel 0 [some (.loc L), some nv, some tv, none, none] (Z ++ []) = loopN it (fun t ρ' Z' => bS ρ' ((gTp 2 (gsCons (gNm 3) (gsCons (gNm 4) gsNil))) t ρ' Z') Ym) n' j [some (.loc L), some nv, some tv, o3, o4] (Z ++ Y) := by
  obtain ⟨ρ', Y', n', h0, e, o3, o4, rfl⟩ := Zag (it := it) (us := fun k => (ts[k]?).map fun t => .tup [.int (k : Int), t]) (body := (fun t ρ' Z' => bS ρ' ((gTp 2 (gsCons (gNm 3) (gsCons (gNm 4) gsNil))) t ρ' Z') Ym)) (Z0 := Z) (fun ρ => ∃ o3 o4, ρ = [some (.loc L), some nv, some tv, o3, o4]) j (fun k Y hk => hnv.hit k Y (by omega))
    (fun k hk => by
      have hkt : k < ts.length := by omega
      refine ⟨.tup [.int (k : Int),ts[k]],by simp [hkt],fun ρ Y h => ?_⟩
      obtain ⟨o3,o4,rfl⟩ := h
      obtain ⟨Y', e⟩ := hg k ts[k] hk (List.getElem?_eq_getElem hkt) Y
      have hl := hnv.len Y
      refine ⟨[some (.loc L), some nv, some tv, some (.int (k : Int)), some ts[k]], Y ++ Y', ?_, _, _, rfl⟩
      rw [← List.append_assoc]
      generalize ts[k] = T at *
      generalize hzz : Z ++ Y = ZZ at *
      simp [Ym,hl,e]) Fuel 0 [some (.loc L),some nv,some tv,none,none] [] ⟨_,_,rfl⟩ (Nat.zero_le _) (by rw [Q7]; unfold Lim; omega)
  exact ⟨o3, o4, Y', n', h0, e⟩
theorem Zcl {L : Nat} {top : Int} (hnv : NV Z nv ts it) (hins : ∃ A B, Z = A ++ .ins "Graph" [] :: B ∧ A.length = L) (h1 : 1 ≤ ts.length) (hlL : ts.length ≤ 200) (hg : ∀ t ∈ ts, GN (ts.length : Int) Z t) (ht : 0 ≤ top ∧ top < (ts.length : Int)) :
    ∃ Y, Zg [.loc L, nv, .int top] Z = .ok .non ((Z ++ Y).set L (.ins "Graph" (grF ts top))) := by
  obtain ⟨o3, o4, Y, n', h0, e⟩ := Z40 (L := L) (tv := .int top) hnv (Nat.le_refl _) hlL (fun k t _ hk => hg t (List.mem_of_getElem? hk))
  have he := Z6r (body := (fun t ρ' Z' => bS ρ' ((gTp 2 (gsCons (gNm 3) (gsCons (gNm 4) gsNil))) t ρ' Z') Ym)) (ρ := [some (.loc L), some nv, some (.int top), o3, o4]) (Z := Z ++ Y) (n := n') (k := ts.length) (it := it) h0 (by rw [hnv.hit _ _ (Nat.le_refl _)]; simp)
  rw [he,List.append_nil] at e
  have l0 := hnv.len []
  have i0 := hnv.isi []
  have en := hnv.enm [some (.loc L),some nv,some (.int top),none,none] (aCons (eVar 1) aNil) Z []
  rw [List.append_nil] at l0 i0 en
  have en' := en (by simp)
  have l1 := hnv.len Y
  have t1 := hnv.tup Y
  have ff : Yt [.int top,.int 0,.int ((ts.length : Int) - 1)] (Z ++ Y) = .ok (.bl true) (Z ++ Y) := by
    rw [Z6n]
    have : numOk ((ts.length : Int) - 1) (.int top) = true := by
      show (decide (0 ≤ top) && decide (top ≤ (ts.length : Int) - 1)) = true
      rw [decide_eq_true ht.1,decide_eq_true (by omega)]; rfl
    rw [this]
  obtain ⟨A,B,hZ,hL⟩ := hins
  have gi : getI (Z ++ Y) L = some ("Graph", []) := by
    rw [hZ,List.append_assoc,List.cons_append,← hL]; exact Z6s _ _ _ _
  have hLt : L < (Z ++ Y).length := by rw [hZ,← hL]; simp
  have gi2 : getI ((Z ++ Y).set L (.ins "Graph" [("nodes", .tup ts)])) L = some ("Graph", [("nodes", .tup ts)]) := by
    unfold getI
    rw [List.getElem?_set_self hLt]
  refine ⟨Y,?_⟩
  have c1 : (1 : Int) ≤ (ts.length : Int) := by omega
  have c2 : (ts.length : Int) ≤ 200 := by omega
  generalize hzz : Z ++ Y = ZZ at *
  simp [-Z5f, Zg, runF, W8, l0, i0, c1, c2, en', e, l1, t1, ff, sFldS, gFld, setF, gi, gi2, putS, grF]
theorem Z41 {L j : Nat} {tv : Fx.T} (hnv : NV Z nv ts it) (h1 : 1 ≤ ts.length) (hlL : ts.length ≤ 200) (hj : j < ts.length) (hg : ∀ k t,k < j → ts[k]? = some t → GN (ts.length : Int) Z t) (hb : BN (ts.length : Int) Z ts[j]) :
    ∃ Y,Zg [.loc L,nv,tv] Z = .exc (NoG (j : Int)) (Z ++ Y) := by
  obtain ⟨o3, o4, Y, n', h0, e⟩ := Z40 (L := L) (tv := tv) hnv (Nat.le_of_lt hj) hlL hg
  obtain ⟨Y', eb⟩ := hb Y
  have l1 := hnv.len Y
  have he := Zah (body := (fun t ρ' Z' => bS ρ' ((gTp 2 (gsCons (gNm 3) (gsCons (gNm 4) gsNil))) t ρ' Z') Ym)) (ρ := [some (.loc L), some nv, some tv, o3, o4]) (Z := Z ++ Y) (n := n') (k := j) (it := it) (t := .tup [.int (j : Int), ts[j]]) (x := NoG (j : Int)) (ρ' := [some (.loc L), some nv, some tv, some (.int (j : Int)), some ts[j]]) (Z' := Z ++ Y ++ Y') h0 (by rw [hnv.hit _ _ (Nat.le_of_lt hj)]; simp [hj]) (by
    generalize ts[j] = T at *
    generalize hzz : Z ++ Y = ZZ at *
    simp [Ym,l1,eb,NoG])
  rw [he,List.append_nil] at e
  have l0 := hnv.len []
  have i0 := hnv.isi []
  have en := hnv.enm [some (.loc L),some nv,some tv,none,none] (aCons (eVar 1) aNil) Z []
  rw [List.append_nil] at l0 i0 en
  have en' := en (by simp)
  have c1 : (1 : Int) ≤ (ts.length : Int) := by omega
  have c2 : (ts.length : Int) ≤ 200 := by omega
  refine ⟨Y ++ Y', ?_⟩
  rw [← List.append_assoc]
  generalize ts[j] = T at *
  generalize hzz : Z ++ Y ++ Y' = ZZ at *
  simp [-Z5f, Zg, runF, W8, l0, i0, c1, c2, en', e]
theorem Zai {L : Nat} {tv : Fx.T} (hnv : NV Z nv ts it) (h1 : 1 ≤ ts.length) (hlL : ts.length ≤ 200) (hg : ∀ t ∈ ts,GN (ts.length : Int) Z t) (hf : ∀ Y,Yt [tv,.int 0,.int ((ts.length : Int) - 1)] (Z ++ Y) = .ok (.bl false) (Z ++ Y)) :
    ∃ Y,Zg [.loc L,nv,tv] Z = .exc (NoG (-2)) (Z ++ Y) := by
  obtain ⟨o3, o4, Y, n', h0, e⟩ := Z40 (L := L) (tv := tv) hnv (Nat.le_refl _) hlL (fun k t _ hk => hg t (List.mem_of_getElem? hk))
  have he := Z6r (body := (fun t ρ' Z' => bS ρ' ((gTp 2 (gsCons (gNm 3) (gsCons (gNm 4) gsNil))) t ρ' Z') Ym)) (ρ := [some (.loc L), some nv, some tv, o3, o4]) (Z := Z ++ Y) (n := n') (k := ts.length) (it := it) h0 (by rw [hnv.hit _ _ (Nat.le_refl _)]; simp)
  rw [he,List.append_nil] at e
  have l0 := hnv.len []
  have i0 := hnv.isi []
  have en := hnv.enm [some (.loc L),some nv,some tv,none,none] (aCons (eVar 1) aNil) Z []
  rw [List.append_nil] at l0 i0 en
  have en' := en (by simp)
  have l1 := hnv.len Y
  have ff := hf Y
  have c1 : (1 : Int) ≤ (ts.length : Int) := by omega
  have c2 : (ts.length : Int) ≤ 200 := by omega
  refine ⟨Y,?_⟩
  generalize hzz : Z ++ Y = ZZ at *
  simp [-Z5f, Zg, runF, W8, l0, i0, c1, c2, en', e, l1, ff, NoG]
theorem Zaj {L : Nat} {tv : Fx.T} (h : gIsiI "Graph" [nv, .tup [.ty "list", .ty "tuple"]] Z = some (.bl false, Z)) : Zg [.loc L, nv, tv] Z = .exc (NoG (-1)) Z := by
  simp [Zg,runF,W8,h,NoG]
theorem Z6t {L : Nat} {tv : Fx.T} (hnv : NV Z nv ts it) (h : ts.length = 0 ∨ 200 < ts.length) : Zg [.loc L,nv,tv] Z = .exc (NoG (-1)) Z := by
  have l0 := hnv.len []
  have i0 := hnv.isi []
  rw [List.append_nil] at l0 i0
  rcases h with h | h
  · have c1 : ¬ (1 : Int) ≤ (ts.length : Int) := by omega
    simp [Zg,runF,W8,l0,i0,c1,NoG]
  · have c1 : (1 : Int) ≤ (ts.length : Int) := by omega
    have c2 : ¬ (ts.length : Int) ≤ 200 := by omega
    simp [Zg,runF,W8,l0,i0,c1,c2,NoG]
end
theorem Z5r {ds : List Fx.T} {fa : FA} {ρ : Fx.Env} {Z Z1 : Sto} {as ts : List Fx.T} {nv : Fx.T} {top : Int} {it : ItF} (ha : fa ρ Z = .ok as Z1) (has : as ++ ds = [nv,.int top]) (hnv : NV Z1 nv ts it) (h1 : 1 ≤ ts.length) (hlL : ts.length ≤ 200) (hg : ∀ t ∈ ts,GN (ts.length : Int) Z1 t) (ht : 0 ≤ top ∧ top < (ts.length : Int)) :
    ∃ Y, eMake "Graph" Zg ds fa ρ Z = .ok (.loc Z1.length) (Z1 ++ .ins "Graph" (grF ts top) :: Y) := by
  obtain ⟨Y, e⟩ := Zcl (L := Z1.length) (hnv.app [.ins "Graph" []]) ⟨Z1, [], rfl, rfl⟩ h1 hlL (fun t h => (hg t h).app _) ht
  refine ⟨Y,?_⟩
  rw [List.append_assoc,List.singleton_append,set_mid] at e
  unfold eMake
  rw [ha]
  show (Zg (.loc Z1.length :: (as ++ ds)) (Z1 ++ [.ins "Graph" []])).bind _ = _
  rw [has,e]
  rfl
theorem Z0f {ds : List Fx.T} {fa : FA} {ρ : Fx.Env} {Z Z1 : Sto} {as : List Fx.T} {nv tv : Fx.T} {x : Ex} (ha : fa ρ Z = .ok as Z1) (has : as ++ ds = [nv, tv]) (h : ∃ Y, Zg [.loc Z1.length, nv, tv] (Z1 ++ [.ins "Graph" []]) = .exc x (Z1 ++ [.ins "Graph" []] ++ Y)) :
    ∃ Y, eMake "Graph" Zg ds fa ρ Z = .exc x (Z1 ++ Y) := by
  obtain ⟨Y,e⟩ := h
  refine ⟨[.ins "Graph" []] ++ Y, ?_⟩
  rw [← List.append_assoc,← e]
  unfold eMake
  rw [ha]
  show (Zg (.loc Z1.length :: (as ++ ds)) (Z1 ++ [.ins "Graph" []])).bind _ = _
  rw [has,e]
  rfl
def GrAt (Z : Sto) (i : Nat) (ts : List Fx.T) (top : Int) : Prop := getI Z i = some ("Graph", grF ts top)
theorem Qv (Z : Sto) (ts : List Fx.T) (top : Int) (Y : Sto) : GrAt (Z ++ .ins "Graph" (grF ts top) :: Y) Z.length ts top := Z6s _ _ _ _
theorem Z1f {Z : Sto} {i : Nat} {ts : List Fx.T} {top : Int} (h : GrAt Z i ts top) (Y : Sto) : GrAt (Z ++ Y) i ts top := by
  unfold GrAt at h ⊢
  have h1 := Z0l h
  have hl : i < Z.length := (List.getElem?_eq_some_iff.mp h1).1
  unfold getI
  rw [List.getElem?_append_left hl,h1]
theorem Z96 {Z : Sto} {i : Nat} {ts : List Fx.T} {top : Int} (h : GrAt Z i ts top) : fldT ["Graph"] "nodes" (.loc i) Z = some (.tup ts) := by
  unfold GrAt at h
  simp [fldT,h,grF]
theorem Zak {Z : Sto} {i : Nat} {ts : List Fx.T} {top : Int} (h : GrAt Z i ts top) : fldT ["Graph"] "top" (.loc i) Z = some (.int top) := by
  unfold GrAt at h
  simp [fldT,h,grF,List.lookup_cons]
end Ap
set_option maxHeartbeats 4000000
namespace Ap
open PySem PySem.Spec PyProof.Rows L2 SX Fx
def dOf (t : Fx.T) : PyData := (toD 16 [] t).getD .none
structure PT (t : Fx.T) : Prop where
  d : ∀ n Z,toD (n + 3) Z t = some (dOf t)
  lay : (dOf t).canLay0 = true
  deep : (dOf t).depth ≤ 5
theorem pt_of {t : Fx.T} {d : PyData} (h : ∀ n Z,toD (n + 3) Z t = some d) (h1 : d.canLay0 = true) (h2 : d.depth ≤ 5) : PT t ∧ dOf t = d := by
  have e : dOf t = d := by unfold dOf; rw [h 13 []]; rfl
  exact ⟨⟨by rw [e]; exact h,by rw [e]; exact h1,by rw [e]; exact h2⟩,e⟩
theorem Z97 : ∀ (ts : List Fx.T),(∀ t ∈ ts,PT t) → ∀ n Z,ts.mapM (toD (n + 3) Z) = some (ts.map dOf)
  | [],_,_,_ => rfl
  | t :: ts,h,n,Z => by
    rw [List.mapM_cons,(h t List.mem_cons_self).d n Z,Z97 ts (fun u hu => h u (List.mem_cons_of_mem _ hu)) n Z]
    rfl
theorem Z98 : ∀ (ts : List Fx.T),(∀ t ∈ ts,PT t) → PyData.canLayAll0 (ts.map dOf) = true ∧ PyData.depthAll (ts.map dOf) ≤ 5
  | [],_ => ⟨rfl,by decide⟩
  | t :: ts,h => by
    obtain ⟨a,b⟩ := Z98 ts fun u hu => h u (List.mem_cons_of_mem _ hu)
    have h1 := h t List.mem_cons_self
    refine ⟨?_,?_⟩
    · show ((dOf t).canLay0 && PyData.canLayAll0 (ts.map dOf)) = true
      rw [h1.lay,a]; rfl
    · show max (dOf t).depth (PyData.depthAll (ts.map dOf)) ≤ 5
      have := h1.deep
      omega
theorem Z0z (n : Nat) (Z : Sto) (ts : List Fx.T) : toD (n + 1) Z (.tup ts) = (ts.mapM (toD n Z)).map .tuple := rfl
section
variable {ts us : List Fx.T}
theorem Z99 (h : ∀ t ∈ ts,PT t) (Z : Sto) : toD 16 Z (.tup ts) = some (.tuple (ts.map dOf)) := by
  rw [Z0z,Z97 ts h 12 Z]; rfl
theorem Zal (h : ∀ t ∈ ts,PT t) : SeqAt.shaped (.tuple (ts.map dOf)) = true := by
  obtain ⟨a,b⟩ := Z98 ts h
  unfold SeqAt.shaped
  rw [show (PyData.tuple (ts.map dOf)).canLay0 = PyData.canLayAll0 (ts.map dOf) from rfl,a,Bool.true_and]
  have : (PyData.tuple (ts.map dOf)).depth ≤ 64 := by simp only [PyData.depth]; omega
  exact decide_eq_true this
theorem Z0g (h : ∀ t ∈ ts,PT t) (top : Int) (Z : Sto) : toD 16 Z (.tup [.tup ts,.int top]) = some (.tuple [.tuple (ts.map dOf),.int top]) := by
  rw [Z0z,List.mapM_cons,Z0z,Z97 ts h 11 Z]; rfl
theorem Z1p (h : ∀ t ∈ ts,PT t) (top : Int) : SeqAt.shaped (.tuple [.tuple (ts.map dOf),.int top]) = true := by
  obtain ⟨a,b⟩ := Z98 ts h
  unfold SeqAt.shaped
  have e : (PyData.tuple [.tuple (ts.map dOf),.int top]).canLay0 = true := by
    show (PyData.canLayAll0 (ts.map dOf) && (PyData.canLay0 (.int top) && true)) = true
    rw [a]; rfl
  rw [e,Bool.true_and]
  have : (PyData.tuple [.tuple (ts.map dOf),.int top]).depth ≤ 64 := by simp only [PyData.depth,PyData.depthAll]; omega
  exact decide_eq_true this
theorem Z6u (h : ∀ t ∈ ts,PT t) (Z : Sto) : gNe (.tup ts) (.tup ts) Z = some (.bl false,Z) := Z8j rfl (Z99 h Z) (Zal h)
theorem Z6v (h : ∀ t ∈ ts,PT t) (top : Int) (Z : Sto) : gNe (.tup [.tup ts,.int top]) (.tup [.tup ts,.int top]) Z = some (.bl false,Z) := Z8j rfl (Z0g h top Z) (Z1p h top)
theorem Z6w (h : ∀ t ∈ ts,PT t) (top : Int) (Z : Sto) : gEq (.tup [.tup ts,.int top]) (.tup [.tup ts,.int top]) Z = some (.bl true,Z) := by
  simp only [gEq,eq_self rfl (Z0g h top Z) (Z1p h top),Option.map_some]
theorem Z9a : ∀ (ds es : List PyData) (i : Nat) (x y : PyData),ds[i]? = some x → es[i]? = some y → PyData.eqv x y = false → PyData.eqvAll ds es = false
  | [],_,_,_,_,h,_,_ => by simp at h
  | _ :: _,[],_,_,_,_,h,_ => by simp at h
  | d :: ds,e :: es,0,x,y,h1,h2,h => by
    cases h1
    cases h2
    show (PyData.eqv d e && _) = false
    rw [h]; rfl
  | d :: ds,e :: es,i + 1,x,y,h1,h2,h => by
    show (_ && PyData.eqvAll ds es) = false
    rw [Z9a ds es i x y h1 h2 h,Bool.and_false]
theorem Z2l (h : ∀ t ∈ ts,PT t) (h2 : ∀ t ∈ us,PT t) {a b : Int} (hd : a ≠ b ∨ PyData.eqvAll (ts.map dOf) (us.map dOf) = false) (Z : Sto) : gEq (.tup [.tup ts,.int a]) (.tup [.tup us,.int b]) Z = some (.bl false,Z) := by
  have e : gEqB (.tup [.tup ts,.int a]) (.tup [.tup us,.int b]) Z = some (PyData.eqv (.tuple [.tuple (ts.map dOf),.int a]) (.tuple [.tuple (us.map dOf),.int b])) := by
    show gEqD _ _ _ = _
    simp only [gEqD,Z0g h a Z,Z0g h2 b Z,Z1p h a,Z1p h2 b,and_self,if_true]
  have e2 : PyData.eqv (.tuple [.tuple (ts.map dOf),.int a]) (.tuple [.tuple (us.map dOf),.int b]) = false := by
    simp only [PyData.eqv,PyData.eqvAll,Bool.and_true]
    rcases hd with hd | hd
    · have : (a == b) = false := by simpa using hd
      simp [this]
      try exact fun _ => hd
    · rw [hd,Bool.false_and]
  simp only [gEq,e,e2,Option.map_some]
end
structure NT (t : Fx.T) (tag : List Nat) : Prop where
  pt : PT t
  shape : ∃ k dc,dOf t = .tuple [.str (S k),.str (S tag),dc]
theorem Zam {k tag : List Nat} {c : Fx.T} {dc : PyData} (h : ∀ n Z,toD (n + 2) Z c = some dc) (h1 : dc.canLay0 = true) (h2 : dc.depth ≤ 3) (hk : okS k = true) (ht : okS tag = true) : NT (.tup [.str k,.str tag,c]) tag := by
  have e : ∀ n Z,toD (n + 3) Z (.tup [.str k,.str tag,c]) = some (.tuple [.str (S k),.str (S tag),dc]) := fun n Z => by
    rw [Z0z,List.mapM_cons,List.mapM_cons,List.mapM_cons,h n Z]; rfl
  obtain ⟨p,e2⟩ := pt_of e (by
    show (PyData.strOk (S k) && (PyData.strOk (S tag) && (dc.canLay0 && true))) = true
    rw [Za9 hk,Za9 ht,h1]; rfl) (by
    simp only [PyData.depth,PyData.depthAll]; omega)
  exact ⟨p,k,dc,e2⟩
theorem Zcm {t u : Fx.T} {a b : List Nat} (h : NT t a) (h2 : NT u b) (hab : a ≠ b) : PyData.eqv (dOf t) (dOf u) = false := by
  obtain ⟨k,dc,e⟩ := h.shape
  obtain ⟨k2,dc2,e2⟩ := h2.shape
  rw [e,e2]
  simp only [PyData.eqv,PyData.eqvAll,S_beq_eq,decide_eq_false hab,Bool.false_and,Bool.and_false]
theorem Zan {ts : List Fx.T} {i : Nat} {t u : Fx.T} {a b : List Nat} (hi : ts[i]? = some t) (h : NT t a) (h2 : NT u b) (hab : a ≠ b) : PyData.eqvAll ((ts.set i u).map dOf) (ts.map dOf) = false := by
  have hl := (List.getElem?_eq_some_iff.mp hi).1
  refine Z9a _ _ i (dOf u) (dOf t) ?_ ?_ (Zcm h2 h (Ne.symm hab))
  · rw [List.getElem?_map,List.getElem?_set_self hl]; rfl
  · rw [List.getElem?_map,hi]; rfl
theorem Zb8 (n : Nat) (Z : Sto) : ∀ ns : List Int,(ns.map Fx.T.int).mapM (toD n Z) = some (ns.map PyData.int)
  | [] => rfl
  | i :: ns => by
    rw [List.map_cons,List.mapM_cons,Zb8 n Z ns]
    cases n <;> rfl
theorem Z42 : ∀ ns : List Int,PyData.canLayAll0 (ns.map PyData.int) = true ∧ PyData.depthAll (ns.map PyData.int) ≤ 1
  | [] => ⟨rfl,by decide⟩
  | i :: ns => by
    obtain ⟨a,b⟩ := Z42 ns
    refine ⟨a,?_⟩
    show max (PyData.depth (.int i)) (PyData.depthAll (ns.map PyData.int)) ≤ 1
    have : PyData.depth (.int i) ≤ 1 := by simp [PyData.depth]
    omega
def pairT (p : Int × Int) : Fx.T := .tup [.int p.1,.int p.2]
def pairD (p : Int × Int) : PyData := .tuple [.int p.1,.int p.2]
theorem Z9b (n : Nat) (Z : Sto) : ∀ ps : List (Int × Int),(ps.map pairT).mapM (toD (n + 1) Z) = some (ps.map pairD)
  | [] => rfl
  | p :: ps => by
    rw [List.map_cons,List.mapM_cons,Z9b n Z ps]
    cases n <;> rfl
theorem Z2m : ∀ ps : List (Int × Int),PyData.canLayAll0 (ps.map pairD) = true ∧ PyData.depthAll (ps.map pairD) ≤ 2
  | [] => ⟨rfl,by decide⟩
  | p :: ps => by
    obtain ⟨a,b⟩ := Z2m ps
    refine ⟨a,?_⟩
    show max (PyData.depth (pairD p)) (PyData.depthAll (ps.map pairD)) ≤ 2
    have : PyData.depth (pairD p) ≤ 2 := by simp [pairD,PyData.depth,PyData.depthAll]
    omega
structure ND (size : Nat) (t : Fx.T) : Prop where
  good : ∀ Z,GN (size : Int) Z t
  tag : ∃ a,NT t a ∧ a ≠ [33,111,116,104,101,114]
theorem ND.pt {size : Nat} {t : Fx.T} (h : ND size t) : PT t := by obtain ⟨_,h,_⟩ := h.tag; exact h.pt
theorem Z9c {tag text : List Nat} (ht : isT tag = true) (htl : tag.length ≤ Lim) (size : Int) (Z : Sto) : GN size Z (.tup [.str sSc,.str tag,.str text]) := fun Y => Z92 ht htl (.str text) size (Z ++ Y) fun _ => rfl
theorem Zcn {size : Nat} {tag text : List Nat} (ht : isT tag = true) (htl : tag.length ≤ Lim) (ok : okS tag = true) (ok2 : okS text = true) (hn : tag ≠ [33,111,116,104,101,114]) : ND size (.tup [.str sSc,.str tag,.str text]) :=
  ⟨fun Z => Z9c ht htl _ Z,tag,Zam (dc := .str (S text)) (fun n Z => rfl) (Za9 ok2) (by simp [PyData.depth]) (by decide) ok,hn⟩
theorem Z5s {m n : Int} (h : 0 ≤ n ∧ n ≤ m) : numOk m (.int n) = true := by
  show (decide (0 ≤ n) && decide (n ≤ m)) = true
  rw [decide_eq_true h.1,decide_eq_true h.2]; rfl
theorem Zb9 {size : Nat} {tag : List Nat} {ns : List Int} (ht : isT tag = true) (htl : tag.length ≤ Lim) (ok : okS tag = true) (hn : tag ≠ [33,111,116,104,101,114]) (hl : ns.length ≤ 1000) (hns : ∀ n ∈ ns,0 ≤ n ∧ n < (size : Int)) : ND size (.tup [.str sSeq,.str tag,.tup (ns.map .int)]) := by
  refine ⟨fun Z Y => ?_,tag,Zam (dc := .tuple (ns.map .int)) (fun n Z => by rw [Z0z,Zb8]; rfl) (Z42 ns).1 (by have := (Z42 ns).2; simp only [PyData.depth]; omega) (by decide) ok,hn⟩
  obtain ⟨Y', e⟩ := Z3y (size := (size : Int)) (ts := ns.map .int) (numOk ((size : Int) - 1)) ht htl (by rw [List.length_map]; unfold Lim; omega) (Z ++ Y) (fun t h W => by
    obtain ⟨n,hn,rfl⟩ := List.mem_map.mp h
    exact Z6n n _ _)
  have h1 : (decide ((ns.map Fx.T.int).length ≤ 1000) && (ns.map Fx.T.int).all (numOk ((size : Int) - 1))) = true := by
    rw [List.length_map,decide_eq_true hl,Bool.true_and,List.all_eq_true]
    intro t h
    obtain ⟨n,hn,rfl⟩ := List.mem_map.mp h
    have := hns n hn
    exact Z5s ⟨this.1,by omega⟩
  rw [h1] at e
  exact ⟨Y', e⟩
theorem Zba {size : Nat} {tag : List Nat} {ps : List (Int × Int)} (ht : isT tag = true) (htl : tag.length ≤ Lim) (ok : okS tag = true) (hn : tag ≠ [33,111,116,104,101,114]) (hl : ps.length ≤ 500) (hns : ∀ p ∈ ps,(0 ≤ p.1 ∧ p.1 < (size : Int)) ∧ 0 ≤ p.2 ∧ p.2 < (size : Int)) : ND size (.tup [.str sMap,.str tag,.tup (ps.map pairT)]) := by
  refine ⟨fun Z Y => ?_,tag,Zam (dc := .tuple (ps.map pairD)) (fun n Z => by rw [Z0z,Z9b]; rfl) (Z2m ps).1 (by have := (Z2m ps).2; simp only [PyData.depth]; omega) (by decide) ok,hn⟩
  obtain ⟨Y', e⟩ := Z3z (size := (size : Int)) (ts := ps.map pairT) (fun _ => true) ht htl (by rw [List.length_map]; omega) (Z ++ Y) (fun t h W => by
    obtain ⟨p,hp,rfl⟩ := List.mem_map.mp h
    have e := Z0y (a := .int p.1) (b := .int p.2) (fun _ h => by cases h) (by simp [tyT]) (fun _ h => by cases h) (by simp [tyT]) (size : Int) (Z ++ Y ++ W)
    have := hns p hp
    rw [Z5s ⟨this.1.1,by omega⟩,Z5s ⟨this.2.1,by omega⟩] at e
    exact ⟨_,e⟩)
  have h1 : (decide (2 * (ps.map pairT).length ≤ 1000) && (ps.map pairT).all (fun _ => true)) = true := by
    rw [List.length_map,decide_eq_true (by omega),Bool.true_and,List.all_eq_true]
    intro _ _; rfl
  rw [h1] at e
  exact ⟨Y', e⟩
end Ap
set_option maxHeartbeats 4000000
namespace Ap
open PySem PySem.Spec PyProof.Rows L2 SX Fx
theorem Z9d {m : Nat} {body : Fx.T → FS} {ρ : Fx.Env} {Z : Sto} (I : Nat → Fx.Env → Sto → Prop) (hl : m ≤ Lim) (h0 : I 0 ρ Z) (h : ∀ k < m, ∀ ρ Z, I k ρ Z → ∃ ρ' Z', body (.int (k : Int)) ρ Z = .nx ρ' Z' ∧ I (k + 1) ρ' Z') :
    ∃ ρ' Z', loopN (itRng 0 m) body Fuel 0 ρ Z = .nx ρ' Z' ∧ I m ρ' Z' := by
  rw [Z2x hl]
  obtain ⟨ρ', Z', e, hi⟩ := Z4p (body := body) (ts := (List.range m).map fun (i : Nat) => Fx.T.int ((0 : Int) + (i : Int))) (Z := Z) (ρ := ρ) (fun pre ρ Z => I pre.length ρ Z) h0 (fun pre x post ρ Z et hi => by
    obtain ⟨rfl,hk⟩ := Z6e et
    obtain ⟨ρ', Z', e, hi'⟩ := h pre.length hk ρ Z hi
    refine ⟨ρ', Z', .inl ?_, by simpa using hi'⟩
    rw [Int.zero_add]; exact e)
  exact ⟨ρ', Z', e, by simpa using hi⟩
theorem lt200 {n : Nat} (h : n ≤ 1000) : n < 2 ^ 200 := Nat.lt_of_le_of_lt h (by decide)
theorem Zbb {Z : Sto} {w : Nat} (hw : Wel Z w) {size : Nat} (h1 : 1 ≤ size) (h9 : size ≤ 14) : ∃ (t : Fx.T) (Z' : Sto), ND size t ∧ Vt [.loc w, .int (size : Int)] Z = .ok t Z' ∧ Kp w Z Z' := by
  obtain ⟨r,Z1,hr,e1,k1⟩ := Z0x hw 7 7 rfl (by decide) (by decide)
  by_cases h2 : r < 2
  · obtain ⟨t2,m2,Z2,e2,k2⟩ := Z1e (xs := [.str [33,33,115,116,114],.str [33,33,115,116,114],.str [33,120]]) k1.wel (by decide) (by decide)
    obtain ⟨t3,m3,Z3,e3,k3⟩ := Z1e (xs := [.str [97],.str [98],.str []]) k2.wel (by decide) (by decide)
    obtain ⟨tag,rfl,ht1,ht2,ht3,ht4⟩ : ∃ tag,t2 = .str tag ∧ isT tag = true ∧ tag.length ≤ Lim ∧ okS tag = true ∧ tag ≠ [33,111,116,104,101,114] := by
      simp at m2
      rcases m2 with rfl | rfl <;> exact ⟨_,rfl,by decide +kernel,by decide,by decide,by decide⟩
    obtain ⟨tx,rfl,hx⟩ : ∃ tx,t3 = .str tx ∧ okS tx = true := by
      simp at m3
      rcases m3 with rfl | rfl | rfl <;> exact ⟨_,rfl,by decide⟩
    refine ⟨.tup [.str sSc,.str tag,.str tx],Z3,Zcn ht1 ht2 ht3 hx ht4,?_,(k1.trans k2).trans k3⟩
    have h2' : (r : Int) < 2 := by omega
    simp [Vt, runF, Qn, e1, h2', e2, e3, sSc]
  · have h2' : ¬ (r : Int) < 2 := by omega
    by_cases h5 : r < 5
    · have h5' : (r : Int) < 5 := by omega
      obtain ⟨q,Z2,hq,e2,k2⟩ := Z0x k1.wel 4 4 rfl (by decide) (by decide)
      have hw2 := k2.wel.lt
      obtain ⟨acc,Z3,e3,ns,rfl,hl,hb,hg,hk3⟩ := Z2a (m := q) (D := Z2.length) (put := fun t => putN [4] t (wipeR [some (.loc w),some (.int (size : Int)),some (.int (r : Int)),none,none] [4])) (c := eYes) (e := Ql) (Z := Z2 ++ [.lst []])
        (fun j acc Z' => ∃ ns : List Int, acc = ns.map .int ∧ ns.length = j ∧ (∀ n ∈ ns, 0 ≤ n ∧ n < (size : Int)) ∧ getL Z' Z2.length = some acc ∧ Kp w Z2 Z')
        (by unfold Lim; omega) (fun _ _ _ h => by obtain ⟨_,_,_,_,h,_⟩ := h; exact h) ⟨[],rfl,rfl,by simp,Zm _ _,Kp.new k2.wel⟩
        (fun j hj acc Z' h => by
          obtain ⟨ns,rfl,hl,hb,hg,hk⟩ := h
          obtain ⟨c,Z4,hc,e4,k4⟩ := Z1d hk.wel size h1 (lt200 (by omega))
          have hg2 := k4.getL (by omega) hg
          refine ⟨_, rfl, .inr ⟨Z', .int (c : Int), Z4, rfl, ?_, hg2, ns ++ [(c : Int)], by simp, by simp [hl], ?_, Vk hg2, (hk.trans k4).put (Nat.le_refl _) hw2⟩⟩
          · simp [Ql,wipeR,putN,e4]
          · intro n hn
            rcases List.mem_append.mp hn with h | h
            · exact hb n h
            · rw [List.mem_singleton.mp h]; omega)
      obtain ⟨t4,m4,Z4,e4,k4⟩ := Z1e (xs := [.str [33,33,115,101,113],.str [33,33,115,101,113],.str [33,115]]) hk3.wel (by decide) (by decide)
      obtain ⟨tag,rfl,ht1,ht2,ht3,ht4⟩ : ∃ tag,t4 = .str tag ∧ isT tag = true ∧ tag.length ≤ Lim ∧ okS tag = true ∧ tag ≠ [33,111,116,104,101,114] := by
        simp at m4
        rcases m4 with rfl | rfl <;> exact ⟨_,rfl,by decide +kernel,by decide,by decide,by decide⟩
      have hg4 := k4.getL (by omega) hg
      refine ⟨.tup [.str sSeq,.str tag,.tup (ns.map .int)],Z4,Zb9 ht1 ht2 ht3 ht4 (by omega) hb,?_,(k1.trans k2).trans (hk3.trans k4)⟩
      have hqL : q ≤ Lim := by unfold Lim; omega
      generalize ns.map Fx.T.int = NS at *
      simp [Vt, runF, Qn, e1, h2', h5', e2, rngN hqL, e3, e4, hg4, sSeq]
    · have h5' : ¬ (r : Int) < 5 := by omega
      obtain ⟨q,Z2,hq,e2,k2⟩ := Z0x k1.wel 3 3 rfl (by decide) (by decide)
      have hw2 := k2.wel.lt
      obtain ⟨acc,Z3,e3,ps,rfl,hl,hb,hg,hk3⟩ := Z2a (m := q) (D := Z2.length) (put := fun t => putN [4] t (wipeR [some (.loc w),some (.int (size : Int)),some (.int (r : Int)),none,none] [4])) (c := eYes) (e := Qm) (Z := Z2 ++ [.lst []])
        (fun j acc Z' => ∃ ps : List (Int × Int), acc = ps.map pairT ∧ ps.length = j ∧ (∀ p ∈ ps, (0 ≤ p.1 ∧ p.1 < (size : Int)) ∧ 0 ≤ p.2 ∧ p.2 < (size : Int)) ∧ getL Z' Z2.length = some acc ∧ Kp w Z2 Z')
        (by unfold Lim; omega) (fun _ _ _ h => by obtain ⟨_,_,_,_,h,_⟩ := h; exact h) ⟨[],rfl,rfl,by simp,Zm _ _,Kp.new k2.wel⟩
        (fun j hj acc Z' h => by
          obtain ⟨ps,rfl,hl,hb,hg,hk⟩ := h
          obtain ⟨c,Z4,hc,e4,k4⟩ := Z1d hk.wel size h1 (lt200 (by omega))
          obtain ⟨d,Z5,hd,e5,k5⟩ := Z1d k4.wel size h1 (lt200 (by omega))
          have hg2 := (k4.trans k5).getL (by omega) hg
          refine ⟨_, rfl, .inr ⟨Z', pairT ((c : Int), (d : Int)), Z5, rfl, ?_, hg2, ps ++ [((c : Int), (d : Int))], by simp, by simp [hl], ?_, Vk hg2, (hk.trans (k4.trans k5)).put (Nat.le_refl _) hw2⟩⟩
          · simp [Qm,wipeR,putN,e4,e5,pairT]
          · intro p hp
            rcases List.mem_append.mp hp with h | h
            · exact hb p h
            · rw [List.mem_singleton.mp h]; exact ⟨by omega,by omega⟩)
      obtain ⟨t4,m4,Z4,e4,k4⟩ := Z1e (xs := [.str [33,33,109,97,112],.str [33,33,109,97,112],.str [33,109]]) hk3.wel (by decide) (by decide)
      obtain ⟨tag,rfl,ht1,ht2,ht3,ht4⟩ : ∃ tag,t4 = .str tag ∧ isT tag = true ∧ tag.length ≤ Lim ∧ okS tag = true ∧ tag ≠ [33,111,116,104,101,114] := by
        simp at m4
        rcases m4 with rfl | rfl <;> exact ⟨_,rfl,by decide +kernel,by decide,by decide,by decide⟩
      have hg4 := k4.getL (by omega) hg
      refine ⟨.tup [.str sMap,.str tag,.tup (ps.map pairT)],Z4,Zba ht1 ht2 ht3 ht4 (by omega) hb,?_,(k1.trans k2).trans (hk3.trans k4)⟩
      have hqL : q ≤ Lim := by unfold Lim; omega
      generalize ps.map pairT = NS at *
      simp [Vt, runF, Qn, e1, h2', h5', e2, rngN hqL, e3, e4, hg4, sMap]
theorem neL_0 {Z : Sto} {i j : Nat} {ts : List Fx.T} (h : getL Z i = some ts) (h2 : getL Z j = some []) : gNeL (.loc i) (.loc j) Z = some (.bl (!decide (ts = [])),Z) := by
  by_cases h0 : ts = []
  · subst h0
    have e1 : toD 16 Z (.loc i) = some (.list []) := by
      show ((getL Z i).bind fun ts => (ts.mapM (toD 15 Z)).map PyData.list) = _
      rw [h]; rfl
    have e2 : toD 16 Z (.loc j) = some (.list []) := by
      show ((getL Z j).bind fun ts => (ts.mapM (toD 15 Z)).map PyData.list) = _
      rw [h2]; rfl
    have e : gEqB (.loc i) (.loc j) Z = some true := by
      show gEqD _ _ _ = _
      have sh : SeqAt.shaped (.list []) = true := by decide
      simp only [gEqD,e1,e2,sh,and_self,if_true]
      rfl
    have hd : lenDiff (.loc i) (.loc j) Z = false := by simp [lenDiff,h,h2]
    unfold gNeL
    rw [hd]
    simp only [gNe,e,Option.map_some]
    rfl
  · have hd : lenDiff (.loc i) (.loc j) Z = true := by
      cases ts with
      | nil => exact absurd rfl h0
      | cons a l => simp [lenDiff,h,h2]
    unfold gNeL
    rw [hd,if_pos rfl,decide_eq_false h0]
    rfl
end Ap
set_option maxHeartbeats 4000000
namespace Ap
open PySem PySem.Spec PyProof.Rows L2 SX Fx
def NI (w size b : Nat) (Z : Sto) (k : Nat) (ρ : Fx.Env) (Z' : Sto) : Prop := (∃ o3 o4, ρ = [some (.loc w), some (.int (size : Int)), some (.loc b), o3, o4]) ∧ ∃ ts, getL Z' b = some ts ∧ ts.length = k ∧ (∀ t ∈ ts, ND size t) ∧ Kp w Z Z'
theorem Z7j {Z : Sto} {w size : Nat} (hw0 : w < Z.length) (h1 : 1 ≤ size) (h9 : size ≤ 14) (k : Nat) (hkm : k < size) (ρ : Fx.Env) (Z' : Sto) (h : NI w size Z.length Z k ρ Z') : ∃ ρ' Z'', bS ρ (gNm 3 (.int (k : Int)) ρ Z') Yv = .nx ρ' Z'' ∧ NI w size Z.length Z (k + 1) ρ' Z'' := by
  obtain ⟨⟨o3,o4,rfl⟩,ts,hg,hl,hn,hk⟩ := h
  have hne := neL_0 (Z := Z' ++ [.lst []]) (Zo hg) (Zm _ _)
  have kN : Kp w Z (Z' ++ [.lst []]) := hk.trans (Kp.new hk.wel)
  have hgN : getL (Z' ++ [.lst []]) Z.length = some ts := Zo hg
  have hi : Z.length ≠ w := by omega
  by_cases h0 : ts = []
  · rw [decide_eq_true h0] at hne
    obtain ⟨t,Z2,ht,e2,k2⟩ := Zbb kN.wel h1 h9
    have hg2 := k2.getL hi hgN
    have hlt : ts.length < Lim := by unfold Lim; omega
    have ea := Z8q Z.length t Z2 hg2 hlt
    refine ⟨[some (.loc w),some (.int (size : Int)),some (.loc Z.length),some (.int (k : Int)),some (.bl false)],Z2.set Z.length (.lst (ts ++ [t])),?_,⟨_,_,rfl⟩,ts ++ [t],Vk hg2,by simp [hl],?_,(kN.trans k2).put (Nat.le_refl _) hw0⟩
    · simp [Yv,hne,e2,Z6c hgN,ea]
    · intro u hu
      rcases List.mem_append.mp hu with h | h
      · exact hn u h
      · rw [List.mem_singleton.mp h]; exact ht
  · rw [decide_eq_false h0] at hne
    obtain ⟨r,Z2,hr,e2,k2⟩ := Z0x kN.wel 4 4 rfl (by decide) (by decide)
    have hg2 := k2.getL hi hgN
    have hlt : ts.length < Lim := by unfold Lim; omega
    by_cases hr0 : r = 0
    · subst hr0
      have hp : 0 < ts.length := List.length_pos_iff.mpr h0
      obtain ⟨t,ht,Z3,e3,k3⟩ := Z1i k2.wel hg2 hi hp (lt200 (by omega))
      have hg3 := k3.getL hi hg2
      have ea := Z8q Z.length t Z3 hg3 hlt
      refine ⟨[some (.loc w),some (.int (size : Int)),some (.loc Z.length),some (.int (k : Int)),some (.bl true)],Z3.set Z.length (.lst (ts ++ [t])),?_,⟨_,_,rfl⟩,ts ++ [t],Vk hg3,by simp [hl],?_,(kN.trans (k2.trans k3)).put (Nat.le_refl _) hw0⟩
      · simp [Yv,hne,e2,e3,Z6c hg2,ea]
      · intro u hu
        rcases List.mem_append.mp hu with h | h
        · exact hn u h
        · rw [List.mem_singleton.mp h]; exact hn t ht
    · obtain ⟨t,Z3,ht,e3,k3⟩ := Zbb k2.wel h1 h9
      have hg3 := k3.getL hi hg2
      have ea := Z8q Z.length t Z3 hg3 hlt
      refine ⟨[some (.loc w),some (.int (size : Int)),some (.loc Z.length),some (.int (k : Int)),some (.bl false)],Z3.set Z.length (.lst (ts ++ [t])),?_,⟨_,_,rfl⟩,ts ++ [t],Vk hg3,by simp [hl],?_,(kN.trans (k2.trans k3)).put (Nat.le_refl _) hw0⟩
      · simp [Yv,hne,e2,hr0,e3,Z6c hg2,ea]
      · intro u hu
        rcases List.mem_append.mp hu with h | h
        · exact hn u h
        · rw [List.mem_singleton.mp h]; exact ht
theorem Z37 {a b : FS} {ρ ρ' : Fx.Env} {Z Z' : Sto} {r : RS} (h : a ρ Z = .nx ρ' Z') (h2 : b ρ' Z' = r) : bCons a b ρ Z = r := by
  show seqS (a ρ Z) b = r
  rw [h]; exact h2
theorem Z2n {n : Nat} {B : FS} {as : List Fx.T} {Z Z' : Sto} {t : Fx.T} (h : B (as.map some ++ List.replicate (n - as.length) none) Z = .rt t Z') : runF n B as Z = .ok t Z' := by
  unfold runF
  rw [h]
theorem Z9e {w size : Nat} {Z Z1 : Sto} {o3 o4 : Option Fx.T} (hf : sFor (iRng (aCons (eVar 1) aNil)) (gNm 3) Yv [some (.loc w),some (.int (size : Int)),some (.loc Z.length),none,none] (Z ++ [.lst []]) = .nx [some (.loc w),some (.int (size : Int)),some (.loc Z.length),o3,o4] Z1) : Uy [.loc w,.int (size : Int)] Z = .ok (.loc Z.length) Z1 := by
  have t1 : sSet 2 (eLst aNil) [some (.loc w),some (.int (size : Int)),none,none,none] Z = .nx [some (.loc w),some (.int (size : Int)),some (.loc Z.length),none,none] (Z ++ [.lst []]) := by rfl
  have hB : Ja [some (.loc w),some (.int (size : Int)),none,none,none] Z = .rt (.loc Z.length) Z1 := by
    unfold Ja
    exact Z37 t1 (Z37 hf rfl)
  exact Z2n (n := 5) (as := [.loc w,.int (size : Int)]) hB
theorem Zco {Z : Sto} {w : Nat} (hw : Wel Z w) {size : Nat} (h1 : 1 ≤ size) (h9 : size ≤ 14) : ∃ (i : Nat) (ts : List Fx.T) (Z' : Sto), Uy [.loc w, .int (size : Int)] Z = .ok (.loc i) Z' ∧ getL Z' i = some ts ∧ ts.length = size ∧ (∀ t ∈ ts, ND size t) ∧ Z.length ≤ i ∧ Kp w Z Z' := by
  have hw0 := hw.lt
  obtain ⟨ρ1, Z1, e1, ⟨o3, o4, rfl⟩, ts, hg, hl, hn, hk⟩ := Z9d (m := size) (body := fun t ρ' Z' => bS ρ' (gNm 3 t ρ' Z') Yv) (Z := Z ++ [.lst []]) (ρ := [some (.loc w), some (.int (size : Int)), some (.loc Z.length), none, none])
    (fun k ρ Z' => NI w size Z.length Z k ρ Z')
    (by unfold Lim; omega) ⟨⟨_,_,rfl⟩,[],Zm _ _,rfl,by simp,Kp.new hw⟩
    (fun k hkm ρ Z' h => Z7j hw0 h1 h9 k hkm ρ Z' h)
  have hsL : size ≤ Lim := by unfold Lim; omega
  have hf : sFor (iRng (aCons (eVar 1) aNil)) (gNm 3) Yv [some (.loc w),some (.int (size : Int)),some (.loc Z.length),none,none] (Z ++ [.lst []]) = .nx [some (.loc w),some (.int (size : Int)),some (.loc Z.length),o3,o4] Z1 := by
    have hi : iRng (aCons (eVar 1) aNil) [some (.loc w),some (.int (size : Int)),some (.loc Z.length),none,none] (Z ++ [.lst []]) = .ok (itRng 0 size) (Z ++ [.lst []]) := by
      generalize Z ++ [O.lst []] = ZZ
      simp [rngN hsL]
    rw [Za7,hi,Z7p]
    exact e1
  refine ⟨Z.length,ts,Z1,?_,hg,hl,hn,Nat.le_refl _,hk⟩
  exact Z9e hf
end Ap
set_option maxHeartbeats 4000000
namespace Ap
open PySem PySem.Spec PyProof.Rows L2 SX Fx
theorem Z5t {fl : Sto → R Fx.T} {Z Z' : Sto} {i : Nat} {ts : List Fx.T} {top : Int} (h : fl Z = .ok (.loc i) Z') (hg : GrAt Z' i ts top) : Zq fl .non [.non] Z = .ok (.tup [.tup ts, .int top]) Z' := by
  have e2 : eAsk fl .non 0 [some .non,none,none] Z = fl Z := if_pos rfl
  simp [Zq,runF,Yd,Z8r,e2,h,eFld,Z96 hg,Zak hg]
theorem Z0h {fl : Sto → R Fx.T} {Z Z' : Sto} {k : Int} (h : fl Z = .exc (NoG k) Z') : Zq fl .non [.non] Z = .ok (.int k) Z' := by
  have e2 : eAsk fl .non 0 [some .non,none,none] Z = fl Z := if_pos rfl
  simp [Zq,runF,Yd,Z8r,e2,h,NoG,lookup_at]
end Ap
set_option maxHeartbeats 4000000
namespace Ap
open PySem PySem.Spec PyProof.Rows L2 SX Fx
theorem Z53 {Z : Sto} {i : Nat} {ts : List Fx.T} {top : Int} (h : GrAt Z i ts top) : okY "Graph" (.loc i) Z = true ∧ insC (.loc i) Z = some "Graph" := by
  have h2 := Z0l (show getI Z i = _ from h)
  have h3 : insC (.loc i) Z = some "Graph" := by
    show (getI Z i).map (·.1) = _
    rw [show getI Z i = _ from h]; rfl
  refine ⟨?_,h3⟩
  have : tyT (.loc i) Z = none := by simp only [tyT,h2]
  unfold okY
  rw [this,h3]
  simp
theorem eq_gg {Z : Sto} {i j : Nat} {ts us : List Fx.T} {a b : Int} (h : GrAt Z i ts a) (h2 : GrAt Z j us b) {c : Bool} (hc : gEq (.tup [.tup ts,.int a]) (.tup [.tup us,.int b]) Z = some (.bl c,Z)) : Yj [.loc i,.loc j] Z = .ok (.bl c) Z := by
  obtain ⟨y1,y2⟩ := Z53 h2
  simp [Yj,runF,Z0q,eIsC,y1,y2,eFld,Z96 h,Zak h,Z96 h2,Zak h2,hc]
theorem Z6x {Z : Sto} {i j : Nat} {ts us : List Fx.T} {a b : Int} (h : GrAt Z i ts a) (h2 : GrAt Z j us b) {c : Bool} (hc : gEq (.tup [.tup ts, .int a]) (.tup [.tup us, .int b]) Z = some (.bl c, Z)) : gOwnEq "Graph" Yj (.loc i) (.loc j) Z = some (.bl c, Z) ∧ gOwnNe "Graph" Yj (.loc i) (.loc j) Z = some (.bl (!c), Z) := by
  have e := eq_gg h h2 hc
  have y1 := (Z53 h).2
  have y2 := (Z53 h2).1
  refine ⟨?_,?_⟩
  · unfold gOwnEq
    rw [if_pos ⟨y1,y2⟩,e]; rfl
  · unfold gOwnNe
    rw [if_pos ⟨y1,y2⟩,e]
theorem Z9f {Z : Sto} {i : Nat} {ts : List Fx.T} {a : Int} (h : GrAt Z i ts a) {x : Fx.T} (hy : okY "Graph" x Z = true) (hi : insC x Z = none) : gOwnEq "Graph" Yj (.loc i) x Z = some (.bl false, Z) := by
  have y1 := (Z53 h).2
  have e : Yj [.loc i,x] Z = .ok (.bl false) Z := by simp [Yj,runF,Z0q,eIsC,hy,hi]
  unfold gOwnEq
  rw [if_pos ⟨y1,hy⟩,e]; rfl
theorem Zbc (l : List Fx.T) (Z : Sto) : okY "Graph" (.tup l) Z = true ∧ insC (.tup l) Z = none := ⟨by simp [okY, tyT, bTypes], rfl⟩
theorem Zbd (Z : Sto) : okY "Graph" .non Z = true ∧ insC .non Z = none := ⟨by simp [okY, tyT, bTypes], rfl⟩
theorem Zbe {Z : Sto} {i : Nat} {ts : List Fx.T} (h : getL Z i = some ts) : okY "Graph" (.loc i) Z = true ∧ insC (.loc i) Z = none := by
  have h2 := Xo.mp h
  exact ⟨by simp [okY,tyT,h2,bTypes],by simp [insC,getI,h2]⟩
section
variable {ρ : Fx.Env} {Z Z1 : Sto} {ts : List Fx.T} {top : Int} {fa : FA}
theorem mkL {j : Nat} (ha : fa ρ Z = .ok [.loc j, .int top] Z1) (hg : getL Z1 j = some ts) (h1 : 1 ≤ ts.length) (h2 : ts.length ≤ 200) (hn : ∀ t ∈ ts, GN (ts.length : Int) Z1 t) (ht : 0 ≤ top ∧ top < (ts.length : Int)) : ∃ Y, eMake "Graph" Zg [] fa ρ Z = .ok (.loc Z1.length) (Z1 ++ .ins "Graph" (grF ts top) :: Y) :=
  Z5r ha (by simp) (Z36 hg) h1 h2 hn ht
theorem mkT (ha : fa ρ Z = .ok [.tup ts, .int top] Z1) (h1 : 1 ≤ ts.length) (h2 : ts.length ≤ 200) (hn : ∀ t ∈ ts, GN (ts.length : Int) Z1 t) (ht : 0 ≤ top ∧ top < (ts.length : Int)) : ∃ Y, eMake "Graph" Zg [] fa ρ Z = .ok (.loc Z1.length) (Z1 ++ .ins "Graph" (grF ts top) :: Y) :=
  Z5r ha (by simp) (Z95 Z1 ts) h1 h2 hn ht
end
theorem Ze2 : ∀ n < 10,sliceRange (sliceBounds none none (some (-1)) n).1 (sliceBounds none none (some (-1)) n).2.1 (sliceBounds none none (some (-1)) n).2.2 = (List.range n).reverse := by decide +kernel
theorem Zao {ts : List Fx.T} (h : 1 ≤ ts.length) (h9 : ts.length ≤ 9) : pickL ts none none (some (-1)) = ts.reverse := by
  unfold pickL
  rw [Ze2 ts.length (by omega)]
  match ts,h,h9 with
  | [a],_,_ => rfl
  | [a,b],_,_ => rfl
  | [a,b,c],_,_ => rfl
  | [a,b,c,d],_,_ => rfl
  | [a,b,c,d,e],_,_ => rfl
  | [a,b,c,d,e,f],_,_ => rfl
  | [a,b,c,d,e,f,g],_,_ => rfl
  | [a,b,c,d,e,f,g,i],_,_ => rfl
  | [a,b,c,d,e,f,g,i,j],_,_ => rfl
def uOther : Fx.T := .tup [.str sSc,.str [33,111,116,104,101,114],.str [99]]
theorem Zap (size : Int) (Z : Sto) : GN size Z uOther := Z9c (by decide +kernel) (by decide) size Z
theorem Z6y : NT uOther [33,111,116,104,101,114] := Zam (dc := .str (S [99])) (fun n Z => rfl) (Za9 (by decide)) (by simp [PyData.depth]) (by decide) (by decide)
structure Drn (Z : Sto) (w i : Nat) (ts : List Fx.T) : Prop where
  wel : Wel Z w
  at_ : getL Z i = some ts
  ne : i ≠ w
  h1 : 1 ≤ ts.length
  h9 : ts.length ≤ 9
  nd : ∀ t ∈ ts,ND ts.length t
theorem Drn.kp {Z Z' : Sto} {w i : Nat} {ts : List Fx.T} (h : Drn Z w i ts) (k : Kp w Z Z') : Drn Z' w i ts := ⟨k.wel, k.getL h.ne h.at_, h.ne, h.h1, h.h9, h.nd⟩
theorem Drn.app {Z : Sto} {w i : Nat} {ts : List Fx.T} (h : Drn Z w i ts) (Y : Sto) : Drn (Z ++ Y) w i ts := h.kp (Kp.new h.wel)
theorem Drn.lt {Z : Sto} {w i : Nat} {ts : List Fx.T} (h : Drn Z w i ts) : i < Z.length := Z27 h.at_
theorem Drn.gn {Z : Sto} {w i : Nat} {ts : List Fx.T} (h : Drn Z w i ts) (Z' : Sto) : ∀ t ∈ ts, GN (ts.length : Int) Z' t := fun t ht => (h.nd t ht).good Z'
theorem Drn.pt {Z : Sto} {w i : Nat} {ts : List Fx.T} (h : Drn Z w i ts) : ∀ t ∈ ts,PT t := fun t ht => (h.nd t ht).pt
section
variable {Z : Sto} {w i : Nat} {ts : List Fx.T} {top : Int}
theorem Ze3 (h : Drn Z w i ts) (ht : 0 ≤ top ∧ top < (ts.length : Int)) : ∃ Y,Vu [some (.loc w),some (.loc i),some (.int top),none,none,none,none,none,none,none] Z = Xv [some (.loc w),some (.loc i),some (.int top),none,none,none,none,none,none,none] (Z ++ Y) := by
  have hL : ts.length ≤ 200 := by have := h.h9; omega
  have g0 := h.at_
  obtain ⟨Y1,m1⟩ := mkL (fa := (aCons (eCallB gList (aCons (eVar 1) aNil)) (aCons (eVar 2) aNil))) (ρ := [some (.loc w),some (.loc i),some (.int top),none,none,none,none,none,none,none]) (Z := Z) (Z1 := Z ++ [.lst ts]) (j := Z.length) (top := top) (ts := ts) (by simp [gList,asSeq,Vc,g0]) (Zm _ _) h.h1 hL (h.gn _) ht
  have s1 := Z5t (fl := fun Z' => eMake "Graph" Zg [] (aCons (eCallB gList (aCons (eVar 1) aNil)) (aCons (eVar 2) aNil)) [some (.loc w), some (.loc i), some (.int top), none, none, none, none, none, none, none] Z') m1 (Qv _ _ _ _)
  obtain ⟨W1, hW1⟩ : ∃ W1 : Sto, W1 = [.lst ts] ++ .ins "Graph" (grF ts top) :: Y1 := ⟨_, rfl⟩
  have hz : Z ++ [.lst ts] ++ .ins "Graph" (grF ts top) :: Y1 = Z ++ W1 := by rw [hW1, List.append_assoc]
  rw [hz] at s1
  have n1 := Z6v h.pt top (Z ++ W1)
  have g1 : getL (Z ++ W1) i = some ts := Zo g0
  obtain ⟨Y2,m2⟩ := mkL (fa := (aCons (eVar 1) (aCons (eVar 2) aNil))) (ρ := [some (.loc w),some (.loc i),some (.int top),none,none,none,none,none,none,none]) (Z := Z ++ W1) (Z1 := Z ++ W1) (j := i) (top := top) (ts := ts) (by simp) g1 h.h1 hL (h.gn _) ht
  have f2 := Zak (Qv (Z ++ W1) ts top Y2)
  refine ⟨W1 ++ .ins "Graph" (grF ts top) :: Y2, ?_⟩
  rw [← List.append_assoc]
  generalize hz2 : Z ++ W1 ++ .ins "Graph" (grF ts top) :: Y2 = Z2 at *
  generalize hz1 : Z ++ W1 = Z1 at *
  simp [Vu,s1,g1,n1,m2,eFld,f2]
theorem Ze4 (h : Drn Z w i ts) (ht : 0 ≤ top ∧ top < (ts.length : Int)) : ∃ (a b : Nat) (Y : Sto),GrAt (Z ++ Y) a ts top ∧ GrAt (Z ++ Y) b ts top ∧ Xv [some (.loc w),some (.loc i),some (.int top),none,none,none,none,none,none,none] Z = Xu [some (.loc w),some (.loc i),some (.int top),some (.loc a),some (.loc b),none,none,none,none,none] (Z ++ Y) := by
  have hL : ts.length ≤ 200 := by have := h.h9; omega
  have g0 := h.at_
  obtain ⟨Y1,m1⟩ := mkT (fa := (aCons (eCallB gTuple (aCons (eVar 1) aNil)) (aCons (eVar 2) aNil))) (ρ := [some (.loc w),some (.loc i),some (.int top),none,none,none,none,none,none,none]) (Z := Z) (Z1 := Z) (top := top) (ts := ts) (by simp [g0]) h.h1 hL (h.gn _) ht
  obtain ⟨W1, hW1⟩ : ∃ W1 : Sto, W1 = .ins "Graph" (grF ts top) :: Y1 := ⟨_, rfl⟩
  rw [← hW1] at m1
  have g1 : getL (Z ++ W1) i = some ts := Zo g0
  obtain ⟨Y2,m2⟩ := mkL (fa := (aCons (eCallB gList (aCons (eVar 1) aNil)) (aCons (eVar 2) aNil))) (ρ := [some (.loc w),some (.loc i),some (.int top),none,none,none,none,none,none,none]) (Z := Z ++ W1) (Z1 := Z ++ W1 ++ [.lst ts]) (j := (Z ++ W1).length) (top := top) (ts := ts) (by
    generalize hz1 : Z ++ W1 = Z1 at *
    simp [gList,asSeq,Vc,g1]) (Zm _ _) h.h1 hL (h.gn _) ht
  refine ⟨Z.length, (Z ++ W1 ++ [O.lst ts]).length, W1 ++ ([O.lst ts] ++ O.ins "Graph" (grF ts top) :: Y2), ?_, ?_, ?_⟩
  · rw [← List.append_assoc]; exact Z1f (by rw [hW1]; exact Qv _ _ _ _) _
  · rw [← List.append_assoc,← List.append_assoc]; exact Qv _ _ _ _
  · rw [← List.append_assoc,← List.append_assoc]
    generalize hz2 : Z ++ W1 ++ [O.lst ts] ++ O.ins "Graph" (grF ts top) :: Y2 = Z2 at *
    generalize hz1 : Z ++ W1 = Z1 at *
    have hl : (Z1 ++ [O.lst ts]).length = Z1.length + 1 := by simp
    rw [hl] at m2 ⊢
    simp [Xv,m1,m2]
theorem Ze5 (h : Drn Z w i ts) {a b : Nat} (ha : GrAt Z a ts top) (hb : GrAt Z b ts top) : Xu [some (.loc w),some (.loc i),some (.int top),some (.loc a),some (.loc b),none,none,none,none,none] Z = Xr [some (.loc w),some (.loc i),some (.int top),some (.loc a),some (.loc b),none,none,none,none,none] Z := by
  have g0 := h.at_
  have e1 := Z6x ha hb (Z6w h.pt top Z)
  have e2 := Z9f ha (Zbc [.tup ts,.int top] Z).1 (Zbc _ Z).2
  have e3 := Z9f ha (Zbd Z).1 (Zbd Z).2
  have e4 := Z9f ha (Zbe g0).1 (Zbe g0).2
  simp [Xu,e1.1,e1.2,e2,e3,e4,g0]
theorem Ze6 (h : Drn Z w i ts) (ht : 0 ≤ top ∧ top < (ts.length : Int)) {oa ob : Option Fx.T} : ∃ (l c : Nat) (Z' : Sto), Drn Z' w i ts ∧ Kp w Z Z' ∧ (∀ j us b, GrAt Z j us b → GrAt Z' j us b) ∧ getL Z' l = some ts.reverse ∧ l ≠ w ∧ GrAt Z' c ts top ∧ Xr [some (.loc w), some (.loc i), some (.int top), oa, ob, none, none, none, none, none] Z = Xq [some (.loc w), some (.loc i), some (.int top), oa, ob, some (.loc l), some (.loc c), none, none, none] Z' := by
  have hL : ts.length ≤ 200 := by have := h.h9; omega
  have g0 := h.at_
  have hw := h.wel.lt
  have hi := h.lt
  have gh : getL (Z ++ [O.lst ts]) Z.length = some ts := Zm _ _
  obtain ⟨Y1,m1⟩ := mkL (fa := (aCons (eVar 5) (aCons (eVar 2) aNil))) (ρ := [some (.loc w),some (.loc i),some (.int top),oa,ob,some (.loc Z.length),none,none,none,none]) (Z := Z ++ [O.lst ts]) (Z1 := Z ++ [O.lst ts]) (j := Z.length) (top := top) (ts := ts) (by simp) gh h.h1 hL (h.gn _) ht
  obtain ⟨Z3, hZ3⟩ : ∃ Z3, Z3 = Z ++ [O.lst ts] ++ .ins "Graph" (grF ts top) :: Y1 := ⟨_, rfl⟩
  rw [← hZ3] at m1
  have g3 : getL Z3 Z.length = some ts := by rw [hZ3]; exact Zo gh
  have gr3 : GrAt Z3 (Z ++ [O.lst ts]).length ts top := by rw [hZ3]; exact Qv _ _ _ _
  have hkeep : ∀ j,j < Z.length → (Z3.set Z.length (.lst ts.reverse))[j]? = Z[j]? := fun j hj => by
    rw [List.getElem?_set_ne (by omega),hZ3,List.append_assoc,List.getElem?_append_left hj]
  have k : Kp w Z (Z3.set Z.length (.lst ts.reverse)) := by
    refine ⟨?_,by rw [List.length_set,hZ3,List.append_assoc,List.length_append]; omega,fun j hj _ => hkeep j hj⟩
    obtain ⟨a,b,c,e⟩ := h.wel
    refine ⟨a,b,c,?_⟩
    rw [Xo] at e ⊢
    rw [hkeep w hw]; exact e
  have hgr : ∀ j us b,GrAt Z3 j us b → GrAt (Z3.set Z.length (.lst ts.reverse)) j us b := fun j us b hj => by
    have h1 := Z0l (show getI Z3 j = _ from hj)
    have hne : j ≠ Z.length := fun e => by
      subst e
      rw [Xo] at g3
      rw [h1] at g3; cases g3
    unfold GrAt getI
    rw [List.getElem?_set_ne (Ne.symm hne),h1]
  refine ⟨Z.length,(Z ++ [O.lst ts]).length,Z3.set Z.length (.lst ts.reverse),h.kp k,k,fun j us b hj => hgr j us b (by rw [hZ3,List.append_assoc]; exact Z1f hj _),Vk g3,by omega,hgr _ _ _ gr3,?_⟩
  have t1 := Z6c g3
  have r1 : gReverse (.loc Z.length) [] Z3 = some (.non,Z3.set Z.length (.lst ts.reverse)) := by simp [gReverse,g3]
  have hl : (Z ++ [O.lst ts]).length = Z.length + 1 := by simp
  rw [hl] at m1 ⊢
  simp [Xr,Uo,Um,gList,asSeq,Vc,g0,m1,t1,r1]
theorem Ze7 (h : Drn Z w i ts) (ht : 0 ≤ top ∧ top < (ts.length : Int)) {oa ob : Option Fx.T} {l c : Nat} (gl : getL Z l = some ts.reverse) (gc : GrAt Z c ts top) : ∃ Y,Xq [some (.loc w),some (.loc i),some (.int top),oa,ob,some (.loc l),some (.loc c),none,none,none] Z = Yy [some (.loc w),some (.loc i),some (.int top),oa,ob,some (.loc l),some (.loc c),none,none,none] (Z ++ Y) := by
  have hL : ts.reverse.length ≤ 200 := by have := h.h9; rw [List.length_reverse]; omega
  have g0 := h.at_
  have hrl : ts.reverse.length = ts.length := List.length_reverse
  obtain ⟨Y1, m1⟩ := mkL (fa := (aCons (eVar 5) (aCons (eVar 2) aNil))) (ρ := [some (.loc w), some (.loc i), some (.int top), oa, ob, some (.loc l), some (.loc c), none, none, none]) (Z := Z) (Z1 := Z) (j := l) (top := top) (ts := ts.reverse) (by simp) gl (by rw [hrl]; exact h.h1) hL (fun t h' => by rw [hrl]; exact h.gn _ t (List.mem_reverse.mp h')) (by rw [hrl]; exact ht)
  obtain ⟨Z1, hZ1⟩ : ∃ Z1, Z1 = Z ++ .ins "Graph" (grF ts.reverse top) :: Y1 := ⟨_, rfl⟩
  rw [← hZ1] at m1
  have f1 : fldT ["Graph"] "nodes" (.loc Z.length) Z1 = some (.tup ts.reverse) := by rw [hZ1]; exact Z96 (Qv Z ts.reverse top Y1)
  have g1 : getL Z1 i = some ts := by rw [hZ1]; exact Zo g0
  have p1 : gSlS (.loc i) none none (some (-1)) Z1 = some (.loc Z1.length,Z1 ++ [.lst ts.reverse]) := by
    unfold gSlS
    rw [Vc,g1]
    simp only [Zao h.h1 h.h9]
    rw [if_neg]
    rintro (e | e)
    · cases e
    · rw [hrl] at e
      have := h.h9
      unfold Lim at e; omega
  have q1 : getL (Z1 ++ [O.lst ts.reverse]) Z1.length = some ts.reverse := Zm _ _
  have n1 := Z6u (ts := ts.reverse) (fun t ht => h.pt t (List.mem_reverse.mp ht)) (Z1 ++ [O.lst ts.reverse])
  have f2 : fldT ["Graph"] "nodes" (.loc c) (Z1 ++ [O.lst ts.reverse]) = some (.tup ts) := by rw [hZ1, List.append_assoc]; exact Z96 (Z1f gc _)
  have g2 : getL (Z1 ++ [O.lst ts.reverse]) i = some ts := Zo g1
  have n2 := Z6u h.pt (Z1 ++ [O.lst ts.reverse])
  refine ⟨.ins "Graph" (grF ts.reverse top) :: Y1 ++ [O.lst ts.reverse], ?_⟩
  have hz : Z ++ (.ins "Graph" (grF ts.reverse top) :: Y1 ++ [O.lst ts.reverse]) = Z1 ++ [O.lst ts.reverse] := by rw [hZ1, List.append_assoc]
  rw [hz]
  generalize hz2 : Z1 ++ [O.lst ts.reverse] = Z2 at *
  have es : ∀ ρ fe,fe ρ Z1 = .ok (.loc i) Z1 → eSlS fe oNone oNone (oSome (eUn gNeg (eC (.int 1)))) ρ Z1 = .ok (.loc Z1.length) Z2 := fun ρ fe he => by
    simp [eSlS,he,oNone,oSome,p1]
  simp [Xq,m1,eFld,f1,es,q1,n1,f2,g2,n2]
theorem Ze8 (h : Drn Z w i ts) (ht : 0 ≤ top ∧ top < (ts.length : Int)) {ob oh oc : Option Fx.T} {a : Nat} (ga : GrAt Z a ts top) : ∃ Z', Wel Z' w ∧ Kp w Z Z' ∧ Yy [some (.loc w), some (.loc i), some (.int top), some (.loc a), ob, oh, oc, none, none, none] Z = .rt (.bl true) Z' := by
  have hL : ts.length ≤ 200 := by have := h.h9; omega
  have g0 := h.at_
  have hw := h.wel.lt
  have kN : Kp w Z (Z ++ [O.lst ts]) := Kp.new h.wel
  have gb : getL (Z ++ [O.lst ts]) Z.length = some ts := Zm _ _
  obtain ⟨r,Z1,hr,e1,k1⟩ := Z1d kN.wel ts.length h.h1 (lt200 (by have := h.h9; omega))
  have hne : Z.length ≠ w := by omega
  have gb1 := k1.getL hne gb
  have hrt : ts[r]? = some ts[r] := List.getElem?_eq_getElem hr
  have st := Z6f (r : Int) uOther gb1
  have ix : ixN ts.length (r : Int) = some r := by simp [ixN]; omega
  rw [ix] at st
  simp only [Option.map_some] at st
  have k2 : Kp w Z (Z1.set Z.length (.lst (ts.set r uOther))) := (kN.trans k1).put (Nat.le_refl _) hw
  obtain ⟨Z2,hZ2⟩ : ∃ Z2,Z2 = Z1.set Z.length (.lst (ts.set r uOther)) := ⟨_,rfl⟩
  rw [← hZ2] at st k2
  have gb2 : getL Z2 Z.length = some (ts.set r uOther) := by rw [hZ2]; exact Vk gb1
  have hbl : (ts.set r uOther).length = ts.length := List.length_set
  have hbg : ∀ t ∈ ts.set r uOther,GN ((ts.set r uOther).length : Int) Z2 t := fun t ht => by
    rw [hbl]
    rcases List.mem_or_eq_of_mem_set ht with h' | h'
    · exact h.gn _ t h'
    · rw [h']; exact Zap _ _
  have hbp : ∀ t ∈ ts.set r uOther,PT t := fun t ht => by
    rcases List.mem_or_eq_of_mem_set ht with h' | h'
    · exact h.pt t h'
    · rw [h']; exact Z6y.pt
  obtain ⟨tg,hnt,htg⟩ := (h.nd ts[r] (List.getElem_mem hr)).tag
  have hdiff := Zan hrt hnt Z6y htg
  have ga2 : GrAt Z2 a ts top := by
    have h1 := Z0l (show getI Z a = _ from ga)
    have hl : a < Z.length := (List.getElem?_eq_some_iff.mp h1).1
    have hnw : a ≠ w := fun e => by
      subst e
      obtain ⟨x,y,z,e⟩ := h.wel
      rw [Xo] at e
      rw [h1] at e; cases e
    unfold GrAt getI
    rw [k2.keep a hl hnw,h1]
  obtain ⟨Y3,m3⟩ := mkL (fa := (aCons (eVar 7) (aCons (eVar 2) aNil))) (ρ := [some (.loc w),some (.loc i),some (.int top),some (.loc a),ob,oh,oc,some (.loc Z.length),some (.int (r : Int)),none]) (Z := Z2) (Z1 := Z2) (j := Z.length) (top := top) (ts := ts.set r uOther) (by simp) gb2 (by rw [hbl]; exact h.h1) (by rw [hbl]; exact hL) hbg (by rw [hbl]; exact ht)
  obtain ⟨Z3, hZ3⟩ : ∃ Z3, Z3 = Z2 ++ .ins "Graph" (grF (ts.set r uOther) top) :: Y3 := ⟨_, rfl⟩
  rw [← hZ3] at m3
  have gb3 : getL Z3 Z.length = some (ts.set r uOther) := by rw [hZ3]; exact Zo gb2
  have o3 := Z6x (Z := Z3) (i := Z2.length) (j := a) (by rw [hZ3]; exact Qv Z2 (ts.set r uOther) top Y3) (by rw [hZ3]; exact Z1f ga2 _) (Z2l hbp h.pt (.inr hdiff) Z3)
  obtain ⟨Y4, m4⟩ := mkL (fa := (aCons (eVar 7) (aCons (eVar 2) aNil))) (ρ := [some (.loc w), some (.loc i), some (.int top), some (.loc a), ob, oh, oc, some (.loc Z.length), some (.int (r : Int)), none]) (Z := Z3) (Z1 := Z3) (j := Z.length) (top := top) (ts := ts.set r uOther) (by simp) gb3 (by rw [hbl]; exact h.h1) (by rw [hbl]; exact hL) (fun t h' => by rw [hZ3]; exact (hbg t h').app _) (by rw [hbl]; exact ht)
  obtain ⟨Z4, hZ4⟩ : ∃ Z4, Z4 = Z3 ++ .ins "Graph" (grF (ts.set r uOther) top) :: Y4 := ⟨_, rfl⟩
  rw [← hZ4] at m4
  have ga4 : GrAt Z4 a ts top := by rw [hZ4,hZ3]; exact Z1f (Z1f ga2 _) _
  have o4 := Z6x (Z := Z4) (i := Z3.length) (j := a) (by rw [hZ4]; exact Qv Z3 (ts.set r uOther) top Y4) ga4 (Z2l hbp h.pt (.inr hdiff) Z4)
  have k4 : Kp w Z Z4 := by rw [hZ4,hZ3]; exact (k2.trans (Kp.new k2.wel)).trans (Kp.new (Kp.new k2.wel).wel)
  have g4 : getL Z4 i = some ts := k4.getL h.ne g0
  have s7 : Yy [some (.loc w),some (.loc i),some (.int top),some (.loc a),ob,oh,oc,none,none,none] Z = Xh [some (.loc w),some (.loc i),some (.int top),some (.loc a),ob,oh,oc,some (.loc Z.length),some (.int (r : Int)),none] Z4 := by
    simp only [uOther,sSc] at st
    simp [Yy,Ul,Uk,Uc,gList,asSeq,Vc,g0,e1,st,m3,o3.1,m4,o4.2]
  by_cases h1 : ts.length = 1
  · refine ⟨Z4,k4.wel,k4,?_⟩
    rw [s7]
    simp [Xh,Wv,g4,h1]
  · have h1' : ¬ ((ts.length : Nat) : Int) = 1 := by omega
    obtain ⟨n,hn⟩ : ∃ n : Int,n = (top + 1) % (ts.length : Int) := ⟨_,rfl⟩
    have hn1 : 0 ≤ n ∧ n < (ts.length : Int) := by
      rw [hn]
      have hp : (0 : Int) < (ts.length : Int) := by have := h.h1; omega
      exact ⟨Int.emod_nonneg _ (by omega),Int.emod_lt_of_pos _ hp⟩
    have hnt : n ≠ top := by
      rw [hn]
      have := h.h1
      by_cases hq : top + 1 = (ts.length : Int)
      · rw [hq,Int.emod_self]; omega
      · rw [Int.emod_eq_of_lt (by omega) (by omega)]; omega
    obtain ⟨Y5,m5⟩ := mkL (fa := (aCons (eVar 1) (aCons (eBin gMod (eCallB gIntT (aCons (eBin gAdd (eVar 2) (eC (.int 1))) aNil)) (eVar 9)) aNil))) (ρ := [some (.loc w),some (.loc i),some (.int top),some (.loc a),ob,oh,oc,some (.loc Z.length),some (.int (r : Int)),some (.int (ts.length : Int))]) (Z := Z4) (Z1 := Z4) (j := i) (top := n) (ts := ts) (by
      have hp : (0 : Int) < (ts.length : Int) := by have := h.h1; omega
      have hp' : 0 < ts.length := h.h1
      simp [hp, hp', hn]) g4 h.h1 hL (h.gn _) hn1
    obtain ⟨Z5, hZ5⟩ : ∃ Z5, Z5 = Z4 ++ .ins "Graph" (grF ts n) :: Y5 := ⟨_, rfl⟩
    rw [← hZ5] at m5
    have o5 := Z6x (Z := Z5) (i := Z4.length) (j := a) (by rw [hZ5]; exact Qv Z4 ts n Y5) (by rw [hZ5]; exact Z1f ga4 _) (Z2l h.pt h.pt (.inl hnt) Z5)
    refine ⟨Z5,by rw [hZ5]; exact (Kp.new k4.wel).wel,by rw [hZ5]; exact k4.trans (Kp.new k4.wel),?_⟩
    rw [s7]
    simp [Xh, Wv, g4, h1, h1', m5, o5.2]
end
theorem Ze9 {Z : Sto} {w i : Nat} {ts : List Fx.T} {top : Int} (h : Drn Z w i ts) (ht : 0 ≤ top ∧ top < (ts.length : Int)) : ∃ Z', Vv [.loc w, .loc i, .int top] Z = .ok (.bl true) Z' ∧ Kp w Z Z' := by
  obtain ⟨Y0,s0⟩ := Ze3 h ht
  obtain ⟨a,b,Y1,ga,gb,s1⟩ := Ze4 (h.app Y0) ht
  have h1 := (h.app Y0).app Y1
  have s2 := Ze5 h1 ga gb
  obtain ⟨l,c,Z3,h3,k3,hk,gl,hlw,gc,s3⟩ := Ze6 h1 ht (oa := some (.loc a)) (ob := some (.loc b))
  obtain ⟨Y6,s6⟩ := Ze7 h3 ht (oa := some (.loc a)) (ob := some (.loc b)) gl gc
  obtain ⟨Z7,hw7,k7,s7⟩ := Ze8 (h3.app Y6) ht (ob := some (.loc b)) (oh := some (.loc l)) (oc := some (.loc c)) (Z1f (hk a ts top ga) Y6)
  have hB := s0.trans (s1.trans (s2.trans (s3.trans (s6.trans s7))))
  exact ⟨Z7,Z2n (n := 10) (as := [.loc w,.loc i,.int top]) hB,(Kp.new h.wel).trans ((Kp.new (h.app Y0).wel).trans (k3.trans ((Kp.new h3.wel).trans k7)))⟩
end Ap
set_option maxHeartbeats 4000000
namespace Ap
open PySem PySem.Spec PyProof.Rows L2 SX Fx
structure Ko (w b : Nat) (Z Z' : Sto) : Prop where
  wel : Wel Z' w
  len : Z.length ≤ Z'.length
  keep : ∀ i, i < Z.length → i ≠ w → i ≠ b → Z'[i]? = Z[i]?
theorem Ko.of {w b : Nat} {Z Z' : Sto} (k : Kp w Z Z') : Ko w b Z Z' := ⟨k.wel, k.len, fun i h h1 _ => k.keep i h h1⟩
theorem Ko.trans {w b : Nat} {Z Z1 Z2 : Sto} (k : Ko w b Z Z1) (k2 : Ko w b Z1 Z2) : Ko w b Z Z2 := ⟨k2.wel,Nat.le_trans k.len k2.len,fun i h h1 h2 => (k2.keep i (Nat.lt_of_lt_of_le h k.len) h1 h2).trans (k.keep i h h1 h2)⟩
theorem Ko.getL {w b i : Nat} {Z Z' : Sto} {ts : List Fx.T} (k : Ko w b Z Z') (hn : i ≠ w) (hb : i ≠ b) (h : Fx.getL Z i = some ts) : Fx.getL Z' i = some ts := by
  rw [Xo] at h ⊢
  rw [k.keep i (List.getElem?_eq_some_iff.mp h).1 hn hb]; exact h
theorem Ko.put {w b : Nat} {Z : Sto} (hw : Wel Z w) (hb : b ≠ w) (o : O) : Ko w b Z (Z.set b o) := ⟨Kp.set hw hb,by rw [List.length_set]; omega,fun i _ _ h => List.getElem?_set_ne (Ne.symm h)⟩
def Odd (w b : Nat) (size : Int) (Z : Sto) (t : Fx.T) : Prop := ∀ Z', Ko w b Z Z' → ∃ Y, Zw [t, .int size] Z' = .ok (.bl false) (Z' ++ Y)
theorem Odd.ko {w b : Nat} {size : Int} {Z Z' : Sto} {t : Fx.T} (h : Odd w b size Z t) (k : Ko w b Z Z') : Odd w b size Z' t := fun Z'' k' => h Z'' (k.trans k')
theorem Odd.kp {w b : Nat} {size : Int} {Z Z' : Sto} {t : Fx.T} (h : Odd w b size Z t) (k : Kp w Z Z') : Odd w b size Z' t := h.ko (Ko.of k)
theorem Odd.bn {w b : Nat} {size : Int} {Z : Sto} {t : Fx.T} (h : Odd w b size Z t) (hw : Wel Z w) : BN size Z t := fun Y => h (Z ++ Y) (Ko.of (Kp.new hw))
theorem Jg {Z : Sto} {j : Nat} {ts : List Fx.T} {n : String} {b : Bool} (h : getL Z j = some ts) (k : kitB "list" n = some b) : gIsi [.loc j, .ty n] Z = some (.bl b, Z) := by
  have h2 := Xo.mp h
  have ty : tyT (.loc j) Z = some "list" := by simp only [tyT, h2]
  show (gIsiB (.loc j) (.ty n) Z).map _ = _
  have : gIsiB (.loc j) (.ty n) Z = some b := by simp only [gIsiB,ty,clsT,k]
  rw [this]; rfl
theorem Z6z {Z : Sto} {j : Nat} {l : List (Key × Fx.T)} {n : String} {b : Bool} (h : Z[j]? = some (.dk l)) (k : kitB "dict" n = some b) : gIsi [.loc j, .ty n] Z = some (.bl b, Z) := by
  have ty : tyT (.loc j) Z = some "dict" := by simp only [tyT, h]
  show (gIsiB (.loc j) (.ty n) Z).map _ = _
  have : gIsiB (.loc j) (.ty n) Z = some b := by simp only [gIsiB,ty,clsT,k]
  rw [this]; rfl
section
variable {w b : Nat} {size : Int} {Z : Sto}
theorem Ut {t : Fx.T} (h : ∀ Z', ∃ Y, Zw [t, .int size] Z' = .ok (.bl false) (Z' ++ Y)) : Odd w b size Z t := fun Z' _ => h Z'
theorem Z9g {Z' : Sto} {j : Nat} {l : List (Key × Fx.T)} (k : Ko w b Z Z') (hw : Wel Z w) (hjb : j ≠ b) (h : Z[j]? = some (.dk l)) : Z'[j]? = some (.dk l) := by
  have hl : j < Z.length := (List.getElem?_eq_some_iff.mp h).1
  have hn : j ≠ w := fun e => by
    subst e
    obtain ⟨x,y,z,e⟩ := hw
    rw [Xo] at e
    rw [h] at e; cases e
  rw [k.keep j hl hn hjb]; exact h
theorem Z9h {j : Nat} {ts : List Fx.T} (h : getL Z j = some ts) (hn : j ≠ w) (hjb : j ≠ b) : Odd w b size Z (.loc j) := fun Z' k => Z93 (Jg (k.getL hn hjb h) rfl)
theorem Zea {j : Nat} {l : List (Key × Fx.T)} (hw : Wel Z w) (h : Z[j]? = some (.dk l)) (hjb : j ≠ b) : Odd w b size Z (.loc j) := fun Z' k => Z93 (Z6z (Z9g k hw hjb h) rfl)
theorem Jh {a d : List Nat} {c : Fx.T} (h : isT d = false) (hl : d.length ≤ Lim) : Odd w b size Z (.tup [.str a, .str d, c]) := Ut fun Z' => Z94 (by
  obtain ⟨Y, e⟩ := Z35 d hl Z'
  rw [h] at e
  exact ⟨Y,e⟩)
theorem Z43 {a : List Nat} {d c : Fx.T} (h : ∀ Z', Ko w b Z Z' → gIsi [d, .ty "str"] Z' = some (.bl false, Z')) : Odd w b size Z (.tup [.str a, d, c]) := fun Z' k => Z94 ⟨[], by rw [tag_o (h Z' k), List.append_nil]⟩
theorem Z38 {c : Fx.T} (h : ∀ Z', Ko w b Z Z' → ∀ Y, gIsi [c, .ty "str"] (Z' ++ Y) = some (.bl false, Z' ++ Y)) : Odd w b size Z (.tup [.str sSc, .str [33,33,115,116,114], c]) := fun Z' k => Z92 (by decide +kernel) (by decide) c size Z' (h Z' k)
theorem Z1g {a tag : List Nat} {c : Fx.T} (ha : a = sSeq ∨ a = sMap) (htl : tag.length ≤ Lim) (h : ∀ Z', Ko w b Z Z' → ∀ Y, gIsi [c, .ty "tuple"] (Z' ++ Y) = some (.bl false, Z' ++ Y)) : Odd w b size Z (.tup [.str a, .str tag, c]) := fun Z' k => Ze1 ha htl (h Z' k)
theorem Ji {ts : List Fx.T} (hl : ts.length ≤ Lim) (hp : ∀ t ∈ ts, (∀ i, t ≠ .loc i) ∧ tyT t [] ≠ none) (hb : (decide (ts.length ≤ 1000) && ts.all (numOk (size - 1))) = false) : Odd w b size Z (.tup [.str sSeq, .str [33,33,115,101,113], .tup ts]) := Ut fun Z' => by
  obtain ⟨Y, e⟩ := Z3y (size := size) (numOk (size - 1)) (tag := [33,33,115,101,113]) (by decide +kernel) (by decide) hl Z' (fun t ht Y => Z6o (hp t ht).1 (hp t ht).2 _ _)
  rw [hb] at e
  exact ⟨Y,e⟩
theorem Z44 {ts : List Fx.T} (g : Fx.T → Bool) (hl : ts.length ≤ 100000) (hb : (decide (2 * ts.length ≤ 1000) && ts.all g) = false) (hg : ∀ Z', Ko w b Z Z' → ∀ t ∈ ts, ∀ Y, ∃ Y', X3 [t, .int size] (Z' ++ Y) = .ok (.bl (g t)) (Z' ++ Y ++ Y')) : Odd w b size Z (.tup [.str sMap, .str [33,33,109,97,112], .tup ts]) := fun Z' k => by
  obtain ⟨Y, e⟩ := Z3z (size := size) g (tag := [33,33,109,97,112]) (by decide +kernel) (by decide) hl Z' (hg Z' k)
  rw [hb] at e
  exact ⟨Y,e⟩
theorem Z0i {x : Fx.T} (hg : ∀ Z', Ko w b Z Z' → ∀ Y, ∃ Y', X3 [x, .int size] (Z' ++ Y) = .ok (.bl false) (Z' ++ Y ++ Y')) : Odd w b size Z (.tup [.str sMap, .str [33,33,109,97,112], .tup [x]]) :=
  Z44 (fun _ => false) (by simp) (by simp) (fun Z' k t ht Y => by rw [List.mem_singleton.mp ht]; exact hg Z' k Y)
theorem Zbf {a d : Fx.T} (ha : ∀ i, a ≠ .loc i) (ha2 : tyT a [] ≠ none) (hb : ∀ i, d ≠ .loc i) (hb2 : tyT d [] ≠ none) (h : (numOk (size - 1) a && numOk (size - 1) d) = false) (Z' : Sto) : ∃ Y', X3 [.tup [a, d], .int size] Z' = .ok (.bl false) (Z' ++ Y') := by
  have e := Z0y ha ha2 hb hb2 size Z'
  rw [h] at e
  exact ⟨_,e⟩
theorem Z10 (size : Int) : numOk (size - 1) (.int size) = false := by
  show (decide (0 ≤ size) && decide (size ≤ size - 1)) = false
  rw [decide_eq_false (show ¬ size ≤ size - 1 by omega),Bool.and_false]
theorem Z5u (size : Int) : numOk (size - 1) (.int (-1)) = false := by
  show (decide ((0 : Int) ≤ -1) && decide (-1 ≤ size - 1)) = false
  rfl
end
structure OS (w b : Nat) (size : Int) (Z : Sto) (i : Nat) (xs : List Fx.T) : Prop where
  wel : Wel Z w
  at_ : getL Z i = some xs
  ne : i ≠ w
  lt : b < Z.length
  h0 : 0 < xs.length
  h1 : xs.length ≤ 100
  odd : ∀ t ∈ xs,Odd w b size Z t
theorem OS.add {w b : Nat} {size : Int} {Z Z1 : Sto} {i j : Nat} {xs ys : List Fx.T} (h : OS w b size Z i xs) (k : Kp w Z Z1) (hj : getL Z1 j = some ys) (hy : ∀ t ∈ ys,Odd w b size Z1 t) (hl : xs.length + ys.length ≤ 100) :
    gAdd (.loc i) (.loc j) Z1 = some (.loc Z1.length,Z1 ++ [.lst (xs ++ ys)]) ∧ OS w b size (Z1 ++ [.lst (xs ++ ys)]) Z1.length (xs ++ ys) := by
  have hi := k.getL h.ne h.at_
  refine ⟨Z3l _ _ _ hi hj (by unfold Lim; omega),(Kp.new k.wel).wel,Zm _ _,Nat.ne_of_gt k.wel.lt,by rw [List.length_append]; have := h.lt; have := k.len; omega,by rw [List.length_append]; have := h.h0; omega,by rw [List.length_append]; exact hl,fun t ht => ?_⟩
  rcases List.mem_append.mp ht with q | q
  · exact (h.odd t q).kp (k.trans (Kp.new k.wel))
  · exact (hy t q).kp (Kp.new k.wel)
theorem Z70 {ts : List Fx.T} {k : Int} (Z : Sto) (h : ts ≠ [] ∧ 2 ≤ k ∧ k ≤ 2000 ∧ ts.length ≤ 100) : gMulT (.tup ts) (.int k) Z = some (.tup (List.replicate k.toNat ts).flatten,Z) := by
  unfold gMulT
  exact if_pos h
theorem Zbg : ∃ R : List Fx.T,R.length = 1001 ∧ (∀ t ∈ R,t = .int 0) ∧ ∀ Z,gMulT (.tup [.int 0]) (.int 1001) Z = some (.tup R,Z) := by
  refine ⟨(List.replicate (1001 : Int).toNat [Fx.T.int 0]).flatten,?_,fun t ht => ?_,fun Z => Z70 Z ⟨by simp,by decide,by decide,by simp⟩⟩
  · rw [List.flatten_replicate_singleton,List.length_replicate]; rfl
  · rw [List.flatten_replicate_singleton] at ht
    exact (List.mem_replicate.mp ht).2
theorem Zbh : ∃ R : List Fx.T,R.length = 501 ∧ (∀ t ∈ R,t = .tup [.int 0,.int 0]) ∧ ∀ Z,gMulT (.tup [.tup [.int 0,.int 0]]) (.int 501) Z = some (.tup R,Z) := by
  refine ⟨(List.replicate (501 : Int).toNat [Fx.T.tup [.int 0,.int 0]]).flatten,?_,fun t ht => ?_,fun Z => Z70 Z ⟨by simp,by decide,by decide,by simp⟩⟩
  · rw [List.flatten_replicate_singleton,List.length_replicate]; rfl
  · rw [List.flatten_replicate_singleton] at ht
    exact (List.mem_replicate.mp ht).2
end Ap
set_option maxHeartbeats 8000000
namespace Ap
open PySem PySem.Spec PyProof.Rows L2 SX Fx
section
variable {w b : Nat} {size : Int} {Z : Sto} {o6 : Option Fx.T} {gr : Bool} {row prs : Fx.T}
theorem lcat (Z : Sto) (A B : Sto) : Z ++ A ++ B = Z ++ (A ++ B) := List.append_assoc _ _ _
def oE (w : Nat) (size : Int) (gr : Bool) (row prs : Fx.T) (l : Nat) (o6 : Option Fx.T) : Fx.Env := [some (.loc w),some (.int size),some (.bl gr),some row,some prs,some (.loc l),o6,none,none]
theorem odd_1 (hw : Wel Z w) (hbl : b < Z.length) : ∃ (i : Nat) (xs : List Fx.T) (Z' : Sto), Kp w Z Z' ∧ OS w b size Z' i xs ∧ xs.length = 9 ∧ Wr [some (.loc w), some (.int size), some (.bl gr), some row, some prs, none, none, none, none] Z = Wq (oE w size gr row prs i none) Z' := by
  obtain ⟨xs,hx⟩ : ∃ xs : List Fx.T,xs = [.non,.int 5,.str [115,99,97,108,97,114],.loc Z.length,.loc (Z.length + 1),.tup [],.tup [.str [115,99,97,108,97,114],.str [33,33,115,116,114]],.tup [.str [115,99,97,108,97,114],.str [33,33,115,116,114],.str [97],.int 1],.loc (Z.length + 2)] := ⟨_,rfl⟩
  obtain ⟨Z', hZ⟩ : ∃ Z' : Sto, Z' = Z ++ [.lst [], .dk [], .lst [.str [115,99,97,108,97,114], .str [33,33,115,116,114], .str [97]], .lst xs] := ⟨_, rfl⟩
  have k : Kp w Z Z' := by rw [hZ]; exact Kp.new hw
  have hl := hw.lt
  have g0 : getL Z' Z.length = some [] := by rw [hZ]; simp [getL]
  have g1 : Z'[Z.length + 1]? = some (.dk []) := by rw [hZ]; simp
  have g2 : getL Z' (Z.length + 2) = some [.str [115,99,97,108,97,114], .str [33,33,115,116,114], .str [97]] := by rw [hZ, Z3k]; rfl
  have g3 : getL Z' (Z.length + 3) = some xs := by rw [hZ, Z3k]; rfl
  refine ⟨Z.length + 3, xs, Z', k, ⟨k.wel, g3, by omega, by have := k.len; omega, by rw [hx]; simp, by rw [hx]; simp, fun t ht => ?_⟩, by rw [hx]; rfl, ?_⟩
  · rw [hx] at ht
    simp only [List.mem_cons,List.not_mem_nil,or_false] at ht
    rcases ht with rfl | rfl | rfl | rfl | rfl | rfl | rfl | rfl | rfl
    · exact Ut fun Z' => Z93 rfl
    · exact Ut fun Z' => Z93 rfl
    · exact Ut fun Z' => Z93 rfl
    · exact Z9h g0 (by omega) (by omega)
    · exact Zea k.wel g1 (by omega)
    · exact Ut fun Z' => Z5q (by decide) (by decide)
    · exact Ut fun Z' => Z5q (by simp) (by simp [Lim])
    · exact Ut fun Z' => Z5q (by simp) (by simp [Lim])
    · exact Z9h g2 (by omega) (by omega)
  · rw [hZ,hx]
    simp [Wr,oE,eDict0]
theorem Jq {X : FE} {R : FS} {i j m : Nat} {Z1 Z2 : Sto} (hX : X (oE w size gr row prs i o6) Z = .ok (.loc j) Z1) (ha : gAdd (.loc i) (.loc j) Z1 = some (.loc m,Z2)) : bCons (sSet 5 (eBin gAdd (eVar 5) X)) R (oE w size gr row prs i o6) Z = R (oE w size gr row prs m o6) Z2 := by
  have hv : (eVar 5) (oE w size gr row prs i o6) Z = .ok (.loc i) Z := rfl
  have hs : sSet 5 (eBin gAdd (eVar 5) X) (oE w size gr row prs i o6) Z = .nx (oE w size gr row prs m o6) Z2 := by
    unfold sSet eBin
    rw [hv,Yk,hX,Yk,ha]
    rfl
  exact Z37 hs rfl
theorem odd_2 {i : Nat} {xs : List Fx.T} (h : OS w b size Z i xs) (hl : xs.length ≤ 80) : ∃ (j : Nat) (ys : List Fx.T) (Z' : Sto), Kp w Z Z' ∧ OS w b size Z' j ys ∧ ys.length = xs.length + 4 ∧ Wq (oE w size gr row prs i none) Z = Wo (oE w size gr row prs j none) Z' := by
  have hw := h.wel.lt
  have hbl := h.lt
  obtain ⟨ys,hy⟩ : ∃ ys : List Fx.T,ys = [.tup [.str [83,99,97,108,97,114],.str [33,33,115,116,114],.str [97]],.tup [.int 5,.str [33,33,115,116,114],.str [97]],.tup [.str [97,108,105,97,115],.str [33,33,115,116,114],.str [97]],.tup [.loc Z.length,.str [33,33,115,116,114],.str [97]]] := ⟨_,rfl⟩
  obtain ⟨Z0,hZ0⟩ : ∃ Z0 : Sto,Z0 = Z ++ [.lst [.str [115,99,97,108,97,114]]] := ⟨_,rfl⟩
  have k0 : Kp w Z Z0 := by rw [hZ0]; exact Kp.new h.wel
  obtain ⟨Z1,hZ⟩ : ∃ Z1 : Sto,Z1 = Z0 ++ [.lst ys] := ⟨_,rfl⟩
  have k : Kp w Z Z1 := by rw [hZ]; exact k0.trans (Kp.new k0.wel)
  have g1 : getL Z1 Z0.length = some ys := by rw [hZ]; exact Zm _ _
  have p0 : getL Z1 Z.length = some [.str [115,99,97,108,97,114]] := by rw [hZ,hZ0]; exact Zo (Zm _ _)
  have q0 : Z.length ≠ w := by omega
  have r0 : Z.length ≠ b := by omega
  obtain ⟨a,o⟩ := h.add k g1 (fun t ht => by
    rw [hy] at ht
    simp only [List.map_cons,List.map_nil,List.mem_cons,List.not_mem_nil,or_false] at ht
    rcases ht with rfl | rfl | rfl | rfl
    · exact Ut fun Z' => Z6q (by decide) (by decide) (by decide) (by decide)
    · exact Ut fun Z' => Z6p rfl
    · exact Ut fun Z' => Z6q (by decide) (by decide) (by decide) (by decide)
    · exact fun Z' k' => Z6p (Jg (k'.getL q0 r0 p0) rfl)) (by rw [hy]; simp only [List.length_cons, List.length_nil]; omega)
  refine ⟨_,_,_,k.trans (Kp.new k.wel),o,by rw [List.length_append,hy]; rfl,?_⟩
  have hc : (eLst (aCons (eTup (aCons (eC (.str [83,99,97,108,97,114])) (aCons (eC (.str [33,33,115,116,114])) (aCons (eC (.str [97])) aNil)))) (aCons (eTup (aCons (eC (.int 5)) (aCons (eC (.str [33,33,115,116,114])) (aCons (eC (.str [97])) aNil)))) (aCons (eTup (aCons (eC (.str [97,108,105,97,115])) (aCons (eC (.str [33,33,115,116,114])) (aCons (eC (.str [97])) aNil)))) (aCons (eTup (aCons (eLst (aCons (eC (.str [115,99,97,108,97,114])) aNil)) (aCons (eC (.str [33,33,115,116,114])) (aCons (eC (.str [97])) aNil)))) aNil))))) (oE w size gr row prs i none) Z = .ok (.loc Z0.length) Z1 := by
    rw [hZ,hy,hZ0]
    rfl
  unfold Wq
  exact Jq hc a
theorem odd_3 {i : Nat} {xs : List Fx.T} (h : OS w b size Z i xs) (hl : xs.length ≤ 80) : ∃ (j : Nat) (ys : List Fx.T) (Z' : Sto), Kp w Z Z' ∧ OS w b size Z' j ys ∧ ys.length = xs.length + 11 ∧ Wo (oE w size gr row prs i none) Z = Wn (oE w size gr row prs j none) Z' := by
  have hw := h.wel.lt
  have hbl := h.lt
  obtain ⟨us,hu⟩ : ∃ us : List Fx.T,us = [.str [],.str [33],.str [33,33],.str [120],.str [33,97,44,98],.str [33,97,32,98],.str [33,97,33,98],.str [33,33,97,91],.non,.int 5,.loc Z.length] := ⟨_,rfl⟩
  obtain ⟨ys,hy⟩ : ∃ ys : List Fx.T,ys = us.map (fun t => .tup [.str [115,99,97,108,97,114],t,.str [97]]) := ⟨_,rfl⟩
  have hul : us.length = 11 := by rw [hu]; rfl
  obtain ⟨Z0,hZ0⟩ : ∃ Z0 : Sto,Z0 = Z ++ [.lst [.str [33,97]]] := ⟨_,rfl⟩
  have k0 : Kp w Z Z0 := by rw [hZ0]; exact Kp.new h.wel
  obtain ⟨Z1,hZ⟩ : ∃ Z1 : Sto,Z1 = Z0 ++ [.lst ys] := ⟨_,rfl⟩
  have k : Kp w Z Z1 := by rw [hZ]; exact k0.trans (Kp.new k0.wel)
  have g1 : getL Z1 Z0.length = some ys := by rw [hZ]; exact Zm _ _
  have p0 : getL Z1 Z.length = some [.str [33,97]] := by rw [hZ,hZ0]; exact Zo (Zm _ _)
  have q0 : Z.length ≠ w := by omega
  have r0 : Z.length ≠ b := by omega
  obtain ⟨a,o⟩ := h.add k g1 (fun t ht => by
    rw [hy,hu] at ht
    simp only [List.map_cons,List.map_nil,List.mem_cons,List.not_mem_nil,or_false] at ht
    rcases ht with rfl | rfl | rfl | rfl | rfl | rfl | rfl | rfl | rfl | rfl | rfl
    · exact Jh (by decide +kernel) (by decide)
    · exact Jh (by decide +kernel) (by decide)
    · exact Jh (by decide +kernel) (by decide)
    · exact Jh (by decide +kernel) (by decide)
    · exact Jh (by decide +kernel) (by decide)
    · exact Jh (by decide +kernel) (by decide)
    · exact Jh (by decide +kernel) (by decide)
    · exact Jh (by decide +kernel) (by decide)
    · exact Z43 fun _ _ => rfl
    · exact Z43 fun _ _ => rfl
    · exact Z43 fun Z' k' => Jg (k'.getL q0 r0 p0) rfl) (by rw [hy]; rw [List.length_map, hul]; omega)
  refine ⟨_,_,_,k.trans (Kp.new k.wel),o,by rw [List.length_append,hy,List.length_map,hul],?_⟩
  have e := Vs (Z1 := Z0) (ts := us) (put := fun x => putN [7] x (wipeR (oE w size gr row prs i none) [7])) (c := eYes) (e := We) (Np _) (by rw [hul]; decide) (fun _ => true) (fun t => .tup [.str [115,99,97,108,97,114],t,.str [97]]) (fun x hx => ⟨_,rfl,fun acc => ⟨rfl,fun _ => by simp [We,oE,wipeR,putN]⟩⟩)
  rw [List.filter_eq_self.mpr (fun _ _ => rfl),← hy,← hZ] at e
  have hc : (eLc [7] [7] (iAny (eTup (aCons (eC (.str [])) (aCons (eC (.str [33])) (aCons (eC (.str [33,33])) (aCons (eC (.str [120])) (aCons (eC (.str [33,97,44,98])) (aCons (eC (.str [33,97,32,98])) (aCons (eC (.str [33,97,33,98])) (aCons (eC (.str [33,33,97,91])) (aCons (eC .non) (aCons (eC (.int 5)) (aCons (eLst (aCons (eC (.str [33,97])) aNil)) aNil))))))))))))) eYes We) (oE w size gr row prs i none) Z = .ok (.loc Z0.length) Z1 := by
    rw [← e,hu,hZ0]
    rfl
  unfold Wo
  exact Jq hc a
theorem odd_4 {i : Nat} {xs : List Fx.T} (h : OS w b size Z i xs) (hl : xs.length ≤ 80) : ∃ (j : Nat) (ys : List Fx.T) (Z' : Sto), Kp w Z Z' ∧ OS w b size Z' j ys ∧ ys.length = xs.length + 6 ∧ Wn (oE w size gr row prs i none) Z = Wm (oE w size gr row prs j none) Z' := by
  have hw := h.wel.lt
  have hbl := h.lt
  obtain ⟨us,hu⟩ : ∃ us : List Fx.T,us = [.non,.int 5,.bl true,.tup [.str [97]],.loc Z.length,.loc (Z ++ [O.lst [.str [97]]]).length] := ⟨_,rfl⟩
  obtain ⟨ys,hy⟩ : ∃ ys : List Fx.T,ys = us.map (fun t => .tup [.str [115,99,97,108,97,114],.str [33,33,115,116,114],t]) := ⟨_,rfl⟩
  have hul : us.length = 6 := by rw [hu]; rfl
  obtain ⟨Z0,hZ0⟩ : ∃ Z0 : Sto,Z0 = (Z ++ [.lst [.str [97]]]) ++ [.dk []] := ⟨_,rfl⟩
  have k0 : Kp w Z Z0 := by rw [hZ0]; exact (Kp.new h.wel).trans (Kp.new (Kp.new h.wel).wel)
  obtain ⟨Z1,hZ⟩ : ∃ Z1 : Sto,Z1 = Z0 ++ [.lst ys] := ⟨_,rfl⟩
  have k : Kp w Z Z1 := by rw [hZ]; exact k0.trans (Kp.new k0.wel)
  have g1 : getL Z1 Z0.length = some ys := by rw [hZ]; exact Zm _ _
  have p0 : getL Z1 Z.length = some [.str [97]] := by rw [hZ,hZ0]; exact Zo (Zo (Zm _ _))
  have q0 : Z.length ≠ w := by omega
  have r0 : Z.length ≠ b := by omega
  have p1 : Z1[(Z ++ [O.lst [.str [97]]]).length]? = some (.dk []) := by rw [hZ,hZ0]; simp
  have q1 : (Z ++ [O.lst [.str [97]]]).length ≠ w := by simp; omega
  have r1 : (Z ++ [O.lst [.str [97]]]).length ≠ b := by simp; omega
  obtain ⟨a,o⟩ := h.add k g1 (fun t ht => by
    rw [hy,hu] at ht
    simp only [List.map_cons,List.map_nil,List.mem_cons,List.not_mem_nil,or_false] at ht
    rcases ht with rfl | rfl | rfl | rfl | rfl | rfl
    · exact Z38 fun _ _ _ => rfl
    · exact Z38 fun _ _ _ => rfl
    · exact Z38 fun _ _ _ => rfl
    · exact Z38 fun _ _ _ => rfl
    · exact Z38 fun Z' k' Y => Jg (Zo (k'.getL q0 r0 p0)) rfl
    · exact Z38 fun Z' k' Y => Z6z (by rw [List.getElem?_append_left (List.getElem?_eq_some_iff.mp (Z9g k' k.wel r1 p1)).1]; exact Z9g k' k.wel r1 p1) rfl) (by rw [hy]; rw [List.length_map, hul]; omega)
  refine ⟨_,_,_,k.trans (Kp.new k.wel),o,by rw [List.length_append,hy,List.length_map,hul],?_⟩
  have e := Vs (Z1 := Z0) (ts := us) (put := fun x => putN [8] x (wipeR (oE w size gr row prs i none) [8])) (c := eYes) (e := Wf) (Np _) (by rw [hul]; decide) (fun _ => true) (fun t => .tup [.str [115,99,97,108,97,114],.str [33,33,115,116,114],t]) (fun x hx => ⟨_,rfl,fun acc => ⟨rfl,fun _ => by simp [Wf,oE,wipeR,putN]⟩⟩)
  rw [List.filter_eq_self.mpr (fun _ _ => rfl),← hy,← hZ] at e
  have hc : (eLc [8] [8] (iAny (eTup (aCons (eC .non) (aCons (eC (.int 5)) (aCons (eC (.bl true)) (aCons (eTup (aCons (eC (.str [97])) aNil)) (aCons (eLst (aCons (eC (.str [97])) aNil)) (aCons eDict0 aNil)))))))) eYes Wf) (oE w size gr row prs i none) Z = .ok (.loc Z0.length) Z1 := by
    rw [← e,hu,hZ0]
    rfl
  unfold Wn
  exact Jq hc a
theorem odd_5 {i : Nat} {xs : List Fx.T} (h : OS w b size Z i xs) (hl : xs.length ≤ 80) : ∃ (j : Nat) (ys : List Fx.T) (Z' : Sto), Kp w Z Z' ∧ OS w b size Z' j ys ∧ ys.length = xs.length + 9 ∧ Wm (oE w size gr row prs i none) Z = Wl (oE w size gr row prs j none) Z' := by
  have hw := h.wel.lt
  have hbl := h.lt
  obtain ⟨us,hu⟩ : ∃ us : List Fx.T,us = [.non,.str [97,98],.loc Z.length,.int 0,.loc (Z ++ [O.lst [.int 0]]).length,.tup [.non],.tup [.str [48]],.tup [.bl true],.tup [.tup [.int 0]]] := ⟨_,rfl⟩
  obtain ⟨ys,hy⟩ : ∃ ys : List Fx.T,ys = us.map (fun t => .tup [.str [115,101,113,117,101,110,99,101],.str [33,33,115,101,113],t]) := ⟨_,rfl⟩
  have hul : us.length = 9 := by rw [hu]; rfl
  obtain ⟨Z0,hZ0⟩ : ∃ Z0 : Sto,Z0 = (Z ++ [.lst [.int 0]]) ++ [.dk []] := ⟨_,rfl⟩
  have k0 : Kp w Z Z0 := by rw [hZ0]; exact (Kp.new h.wel).trans (Kp.new (Kp.new h.wel).wel)
  obtain ⟨Z1,hZ⟩ : ∃ Z1 : Sto,Z1 = Z0 ++ [.lst ys] := ⟨_,rfl⟩
  have k : Kp w Z Z1 := by rw [hZ]; exact k0.trans (Kp.new k0.wel)
  have g1 : getL Z1 Z0.length = some ys := by rw [hZ]; exact Zm _ _
  have p0 : getL Z1 Z.length = some [.int 0] := by rw [hZ,hZ0]; exact Zo (Zo (Zm _ _))
  have q0 : Z.length ≠ w := by omega
  have r0 : Z.length ≠ b := by omega
  have p1 : Z1[(Z ++ [O.lst [.int 0]]).length]? = some (.dk []) := by rw [hZ,hZ0]; simp
  have q1 : (Z ++ [O.lst [.int 0]]).length ≠ w := by simp; omega
  have r1 : (Z ++ [O.lst [.int 0]]).length ≠ b := by simp; omega
  obtain ⟨a,o⟩ := h.add k g1 (fun t ht => by
    rw [hy,hu] at ht
    simp only [List.map_cons,List.map_nil,List.mem_cons,List.not_mem_nil,or_false] at ht
    rcases ht with rfl | rfl | rfl | rfl | rfl | rfl | rfl | rfl | rfl
    · exact Z1g (.inl rfl) (by decide) fun _ _ _ => rfl
    · exact Z1g (.inl rfl) (by decide) fun _ _ _ => rfl
    · exact Z1g (.inl rfl) (by decide) fun Z' k' Y => Jg (Zo (k'.getL q0 r0 p0)) rfl
    · exact Z1g (.inl rfl) (by decide) fun _ _ _ => rfl
    · exact Z1g (.inl rfl) (by decide) fun Z' k' Y => Z6z (by rw [List.getElem?_append_left (List.getElem?_eq_some_iff.mp (Z9g k' k.wel r1 p1)).1]; exact Z9g k' k.wel r1 p1) rfl
    · exact Ji (by decide) (by intro t ht; rw [List.mem_singleton.mp ht]; exact ⟨fun i h => (by cases h),(by simp [tyT])⟩) (by simp [numOk])
    · exact Ji (by decide) (by intro t ht; rw [List.mem_singleton.mp ht]; exact ⟨fun i h => (by cases h),(by simp [tyT])⟩) (by simp [numOk])
    · exact Ji (by decide) (by intro t ht; rw [List.mem_singleton.mp ht]; exact ⟨fun i h => (by cases h),(by simp [tyT])⟩) (by simp [numOk])
    · exact Ji (by decide) (by intro t ht; rw [List.mem_singleton.mp ht]; exact ⟨fun i h => (by cases h),(by simp [tyT])⟩) (by simp [numOk])) (by rw [hy]; rw [List.length_map,hul]; omega)
  refine ⟨_,_,_,k.trans (Kp.new k.wel),o,by rw [List.length_append,hy,List.length_map,hul],?_⟩
  have e := Vs (Z1 := Z0) (ts := us) (put := fun x => putN [8] x (wipeR (oE w size gr row prs i none) [8])) (c := eYes) (e := Wg) (Np _) (by rw [hul]; decide) (fun _ => true) (fun t => .tup [.str [115,101,113,117,101,110,99,101],.str [33,33,115,101,113],t]) (fun x hx => ⟨_,rfl,fun acc => ⟨rfl,fun _ => by simp [Wg,oE,wipeR,putN]⟩⟩)
  rw [List.filter_eq_self.mpr (fun _ _ => rfl),← hy,← hZ] at e
  have hc : (eLc [8] [8] (iAny (eTup (aCons (eC .non) (aCons (eC (.str [97,98])) (aCons (eLst (aCons (eC (.int 0)) aNil)) (aCons (eC (.int 0)) (aCons eDict0 (aCons (eTup (aCons (eC .non) aNil)) (aCons (eTup (aCons (eC (.str [48])) aNil)) (aCons (eTup (aCons (eC (.bl true)) aNil)) (aCons (eTup (aCons (eTup (aCons (eC (.int 0)) aNil)) aNil)) aNil))))))))))) eYes Wg) (oE w size gr row prs i none) Z = .ok (.loc Z0.length) Z1 := by
    rw [← e,hu,hZ0]
    rfl
  unfold Wm
  exact Jq hc a
theorem odd_6 {i : Nat} {xs : List Fx.T} (h : OS w b size Z i xs) (hl : xs.length ≤ 80) (hr : Odd w b size Z (.tup [.str [115,101,113,117,101,110,99,101], .str [33,33,115,101,113], row])) : ∃ (j : Nat) (ys : List Fx.T) (Z' : Sto), Kp w Z Z' ∧ OS w b size Z' j ys ∧ ys.length = xs.length + 3 ∧ Wl (oE w size gr row prs i none) Z = Wk (oE w size gr row prs j none) Z' := by
  have hw := h.wel.lt
  have hbl := h.lt
  obtain ⟨ys,hy⟩ : ∃ ys : List Fx.T,ys = [.tup [.str [115,101,113,117,101,110,99,101],.str [33,33,115,101,113],.tup [.int 0,.int size]],.tup [.str [115,101,113,117,101,110,99,101],.str [33,33,115,101,113],.tup [.int (0 - 1)]],.tup [.str [115,101,113,117,101,110,99,101],.str [33,33,115,101,113],row]] := ⟨_,rfl⟩
  obtain ⟨Z0,hZ0⟩ : ∃ Z0 : Sto,Z0 = Z := ⟨_,rfl⟩
  have k0 : Kp w Z Z0 := by rw [hZ0]; exact Kp.refl h.wel
  obtain ⟨Z1,hZ⟩ : ∃ Z1 : Sto,Z1 = Z0 ++ [.lst ys] := ⟨_,rfl⟩
  have k : Kp w Z Z1 := by rw [hZ]; exact k0.trans (Kp.new k0.wel)
  have g1 : getL Z1 Z0.length = some ys := by rw [hZ]; exact Zm _ _
  obtain ⟨a,o⟩ := h.add k g1 (fun t ht => by
    rw [hy] at ht
    simp only [List.map_cons,List.map_nil,List.mem_cons,List.not_mem_nil,or_false] at ht
    rcases ht with rfl | rfl | rfl
    · exact Ji (by simp [Lim]) (by intro t ht; simp only [List.mem_cons,List.not_mem_nil,or_false] at ht; rcases ht with rfl | rfl <;> exact ⟨fun i h => (by cases h),(by simp [tyT])⟩) (by simp only [List.all_cons,Z10,Bool.false_and,Bool.and_false])
    · exact Ji (by simp [Lim]) (by intro t ht; rw [List.mem_singleton.mp ht]; exact ⟨fun i h => (by cases h),(by simp [tyT])⟩) (by have := Z5u size; simp only [List.all_cons]; rw [show (0 : Int) - 1 = -1 from rfl,this]; simp)
    · exact hr.kp k) (by rw [hy]; simp only [List.length_cons,List.length_nil]; omega)
  refine ⟨_,_,_,k.trans (Kp.new k.wel),o,by rw [List.length_append,hy]; rfl,?_⟩
  have hc : (eLst (aCons (eTup (aCons (eC (.str [115,101,113,117,101,110,99,101])) (aCons (eC (.str [33,33,115,101,113])) (aCons (eTup (aCons (eC (.int 0)) (aCons (eVar 1) aNil))) aNil)))) (aCons (eTup (aCons (eC (.str [115,101,113,117,101,110,99,101])) (aCons (eC (.str [33,33,115,101,113])) (aCons (eTup (aCons (eBin gSub (eC (.int 0)) (eC (.int 1))) aNil)) aNil)))) (aCons (eTup (aCons (eC (.str [115,101,113,117,101,110,99,101])) (aCons (eC (.str [33,33,115,101,113])) (aCons (eVar 3) aNil)))) aNil)))) (oE w size gr row prs i none) Z = .ok (.loc Z0.length) Z1 := by
    rw [hZ,hy,hZ0]
    rfl
  unfold Wl
  exact Jq hc a
theorem odd_7 {i : Nat} {xs : List Fx.T} (h : OS w b size Z i xs) (hl : xs.length ≤ 80) : ∃ (j : Nat) (ys : List Fx.T) (Z' : Sto), Kp w Z Z' ∧ OS w b size Z' j ys ∧ ys.length = xs.length + 7 ∧ Wk (oE w size gr row prs i none) Z = Wj (oE w size gr row prs j none) Z' := by
  have hw := h.wel.lt
  have hbl := h.lt
  obtain ⟨us,hu⟩ : ∃ us : List Fx.T,us = [.non,.str [97,98],.loc Z.length,.tup [.int 0,.int 0],.tup [.tup [.int 0]],.tup [.tup [.int 0,.int 0,.int 0]],.tup [.loc (Z ++ [O.lst [.tup [.int 0,.int 0]]]).length]] := ⟨_,rfl⟩
  obtain ⟨ys,hy⟩ : ∃ ys : List Fx.T,ys = us.map (fun t => .tup [.str [109,97,112,112,105,110,103],.str [33,33,109,97,112],t]) := ⟨_,rfl⟩
  have hul : us.length = 7 := by rw [hu]; rfl
  obtain ⟨Z0,hZ0⟩ : ∃ Z0 : Sto,Z0 = (Z ++ [.lst [.tup [.int 0,.int 0]]]) ++ [.lst [.int 0,.int 0]] := ⟨_,rfl⟩
  have k0 : Kp w Z Z0 := by rw [hZ0]; exact (Kp.new h.wel).trans (Kp.new (Kp.new h.wel).wel)
  obtain ⟨Z1,hZ⟩ : ∃ Z1 : Sto,Z1 = Z0 ++ [.lst ys] := ⟨_,rfl⟩
  have k : Kp w Z Z1 := by rw [hZ]; exact k0.trans (Kp.new k0.wel)
  have g1 : getL Z1 Z0.length = some ys := by rw [hZ]; exact Zm _ _
  have p0 : getL Z1 Z.length = some [.tup [.int 0,.int 0]] := by rw [hZ,hZ0]; exact Zo (Zo (Zm _ _))
  have q0 : Z.length ≠ w := by omega
  have r0 : Z.length ≠ b := by omega
  have p1 : getL Z1 (Z ++ [O.lst [.tup [.int 0,.int 0]]]).length = some [.int 0,.int 0] := by rw [hZ,hZ0]; exact Zo (Zm _ _)
  have q1 : (Z ++ [O.lst [.tup [.int 0,.int 0]]]).length ≠ w := by simp; omega
  have r1 : (Z ++ [O.lst [.tup [.int 0,.int 0]]]).length ≠ b := by simp; omega
  obtain ⟨a,o⟩ := h.add k g1 (fun t ht => by
    rw [hy,hu] at ht
    simp only [List.map_cons,List.map_nil,List.mem_cons,List.not_mem_nil,or_false] at ht
    rcases ht with rfl | rfl | rfl | rfl | rfl | rfl | rfl
    · exact Z1g (.inr rfl) (by decide) fun _ _ _ => rfl
    · exact Z1g (.inr rfl) (by decide) fun _ _ _ => rfl
    · exact Z1g (.inr rfl) (by decide) fun Z' k' Y => Jg (Zo (k'.getL q0 r0 p0)) rfl
    · exact Z44 (fun _ => false) (by simp) (by simp) (fun Z' k' t ht Y => by rw [show t = .int 0 by simpa using ht]; exact ⟨[], by rw [Z91 rfl, List.append_nil]⟩)
    · exact Z0i fun Z' k' Y => ⟨[], by rw [entry_len (by simp) (by simp [Lim]), List.append_nil]⟩
    · exact Z0i fun Z' k' Y => ⟨[], by rw [entry_len (by simp) (by simp [Lim]), List.append_nil]⟩
    · exact Z0i fun Z' k' Y => ⟨[], by rw [Z91 (Jg (Zo (k'.getL q1 r1 p1)) rfl), List.append_nil]⟩) (by rw [hy]; rw [List.length_map, hul]; omega)
  refine ⟨_,_,_,k.trans (Kp.new k.wel),o,by rw [List.length_append,hy,List.length_map,hul],?_⟩
  have e := Vs (Z1 := Z0) (ts := us) (put := fun x => putN [8] x (wipeR (oE w size gr row prs i none) [8])) (c := eYes) (e := Wh) (Np _) (by rw [hul]; decide) (fun _ => true) (fun t => .tup [.str [109,97,112,112,105,110,103],.str [33,33,109,97,112],t]) (fun x hx => ⟨_,rfl,fun acc => ⟨rfl,fun _ => by simp [Wh,oE,wipeR,putN]⟩⟩)
  rw [List.filter_eq_self.mpr (fun _ _ => rfl),← hy,← hZ] at e
  have hc : (eLc [8] [8] (iAny (eTup (aCons (eC .non) (aCons (eC (.str [97,98])) (aCons (eLst (aCons (eTup (aCons (eC (.int 0)) (aCons (eC (.int 0)) aNil))) aNil)) (aCons (eTup (aCons (eC (.int 0)) (aCons (eC (.int 0)) aNil))) (aCons (eTup (aCons (eTup (aCons (eC (.int 0)) aNil)) aNil)) (aCons (eTup (aCons (eTup (aCons (eC (.int 0)) (aCons (eC (.int 0)) (aCons (eC (.int 0)) aNil)))) aNil)) (aCons (eTup (aCons (eLst (aCons (eC (.int 0)) (aCons (eC (.int 0)) aNil))) aNil)) aNil))))))))) eYes Wh) (oE w size gr row prs i none) Z = .ok (.loc Z0.length) Z1 := by
    rw [← e,hu,hZ0]
    rfl
  unfold Wk
  exact Jq hc a
end
end Ap
set_option maxHeartbeats 8000000
namespace Ap
open PySem PySem.Spec PyProof.Rows L2 SX Fx
section
variable {w b : Nat} {size : Int} {Z : Sto} {gr : Bool} {row prs : Fx.T}
def us9 (size : Int) (prs : Fx.T) : List Fx.T := [.tup [.tup [.int 0,.int size]],.tup [.tup [.int (0 - 1),.int 0]],.tup [.tup [.int 0,.bl true]],prs,.tup [.tup [.int 0,.non]],.tup [.tup [.int 0,.int 0],.tup [.int size,.int 0]]]
theorem odd_8 (hw : Wel Z w) {i : Nat} : Wj (oE w size gr row prs i none) Z = Wi (oE w size gr row prs i (some (.loc Z.length))) (Z ++ [.lst (us9 size prs)]) := by
  simp only [oE,us9]
  simp [Wj]
def g9 (size : Int) : Fx.T → Bool
  | .tup [a,b] => numOk (size - 1) a && numOk (size - 1) b
  | _ => false
theorem pl_i (n : Int) : (∀ i,(Fx.T.int n) ≠ .loc i) ∧ tyT (.int n) [] ≠ none := ⟨fun i h => (by cases h),(by simp [tyT])⟩
theorem odd_9 {i l : Nat} {xs : List Fx.T} (h : OS w b size Z i xs) (hl : xs.length ≤ 80) (hg : getL Z l = some (us9 size prs)) (hp : Odd w b size Z (.tup [.str [109,97,112,112,105,110,103], .str [33,33,109,97,112], prs])) : ∃ (t : Fx.T) (Z' : Sto), Kp w Z Z' ∧ Odd w b size Z' t ∧ Wi (oE w size gr row prs i (some (.loc l))) Z = .rt t Z' := by
  obtain ⟨ys,hy⟩ : ∃ ys : List Fx.T,ys = (us9 size prs).map (fun t => .tup [.str [109,97,112,112,105,110,103],.str [33,33,109,97,112],t]) := ⟨_,rfl⟩
  have hul : (us9 size prs).length = 6 := rfl
  obtain ⟨Z1,hZ⟩ : ∃ Z1 : Sto,Z1 = Z ++ [.lst ys] := ⟨_,rfl⟩
  have k : Kp w Z Z1 := by rw [hZ]; exact Kp.new h.wel
  have g1 : getL Z1 Z.length = some ys := by rw [hZ]; exact Zm _ _
  have e1 : ∀ {a d : Fx.T}, ((∀ i, a ≠ .loc i) ∧ tyT a [] ≠ none) → ((∀ i, d ≠ .loc i) ∧ tyT d [] ≠ none) → (numOk (size - 1) a && numOk (size - 1) d) = false → Odd w b size Z1 (.tup [.str [109,97,112,112,105,110,103], .str [33,33,109,97,112], .tup [.tup [a, d]]]) := fun ha hb hn => Z0i fun Z' k' Y => Zbf ha.1 ha.2 hb.1 hb.2 hn (Z' ++ Y)
  obtain ⟨a,o⟩ := h.add k g1 (fun t ht => by
    rw [hy] at ht
    simp only [us9,List.map_cons,List.map_nil,List.mem_cons,List.not_mem_nil,or_false] at ht
    rcases ht with rfl | rfl | rfl | rfl | rfl | rfl
    · exact e1 (pl_i _) (pl_i _) (by rw [Z10,Bool.and_false])
    · exact e1 (pl_i _) (pl_i _) (by rw [show (0 : Int) - 1 = -1 from rfl,Z5u,Bool.false_and])
    · exact e1 (pl_i _) ⟨fun i h => (by cases h),(by simp [tyT])⟩ (by rw [show numOk (size - 1) (.bl true) = false from rfl,Bool.and_false])
    · exact hp.kp k
    · exact e1 (pl_i _) ⟨fun i h => (by cases h),(by simp [tyT])⟩ (by rw [show numOk (size - 1) .non = false from rfl,Bool.and_false])
    · refine Z44 (g9 size) (by simp) (by simp [g9, Z10]) (fun Z' k' t ht Y => ?_)
      simp only [List.mem_cons,List.not_mem_nil,or_false] at ht
      rcases ht with rfl | rfl
      · exact ⟨_, Z0y (pl_i 0).1 (pl_i 0).2 (pl_i 0).1 (pl_i 0).2 size (Z' ++ Y)⟩
      · exact ⟨_, Z0y (pl_i size).1 (pl_i size).2 (pl_i 0).1 (pl_i 0).2 size (Z' ++ Y)⟩) (by rw [hy, List.length_map, hul]; omega)
  have e := Z5h (i := l) (Z1 := Z) (ts := us9 size prs) (put := fun x => putN [8] x (wipeR (oE w size gr row prs i (some (.loc l))) [8])) (c := eYes) (e := Yw) hg (by rw [hul]; decide) (fun _ => true) (fun t => .tup [.str [109,97,112,112,105,110,103],.str [33,33,109,97,112],t]) (fun x hx => ⟨_,rfl,fun acc => ⟨rfl,fun _ => by simp [Yw,oE,wipeR,putN]⟩⟩)
  rw [List.filter_eq_self.mpr (fun _ _ => rfl),← hy,← hZ] at e
  have hi : iAny (eVar 6) (oE w size gr row prs i (some (.loc l))) Z = .ok (itLoc l) Z := by
    simp only [oE]
    simp [hg]
  have hc : (eLc [8] [8] (iAny (eVar 6)) eYes Yw) (oE w size gr row prs i (some (.loc l))) Z = .ok (.loc Z.length) Z1 := by
    rw [← e]
    show (iAny (eVar 6) (oE w size gr row prs i (some (.loc l))) Z).bind _ = _
    rw [hi]
    rfl
  have hv : (eVar 5) (oE w size gr row prs i (some (.loc l))) Z = .ok (.loc i) Z := rfl
  have hb : (eBin gAdd (eVar 5) (eLc [8] [8] (iAny (eVar 6)) eYes Yw)) (oE w size gr row prs i (some (.loc l))) Z = .ok (.loc Z1.length) (Z1 ++ [.lst (xs ++ ys)]) := by
    unfold eBin
    rw [hv,Yk,hc,Yk,a]
    rfl
  obtain ⟨t,ht,Z2,e2,k2⟩ := Z1i o.wel o.at_ o.ne o.h0 (lt200 (by have := o.h1; omega))
  refine ⟨t,Z2,(k.trans (Kp.new k.wel)).trans k2,(o.odd t ht).kp k2,?_⟩
  have hw0 : (eVar 0) (oE w size gr row prs i (some (.loc l))) Z = .ok (.loc w) Z := rfl
  unfold Wi sRet eCall
  have ha : (aCons (eVar 0) (aCons (eBin gAdd (eVar 5) (eLc [8] [8] (iAny (eVar 6)) eYes Yw)) aNil)) (oE w size gr row prs i (some (.loc l))) Z = .ok [.loc w,.loc Z1.length] (Z1 ++ [.lst (xs ++ ys)]) := by
    unfold aCons aNil
    rw [hw0,Yk,hb]
    rfl
  rw [ha,Yk]
  show bS _ (Y9 [.loc w,.loc Z1.length] (Z1 ++ [.lst (xs ++ ys)])) _ = _
  rw [e2]
  rfl
theorem f_odd {n : Nat} (hw : Wel Z w) (hbl : b < Z.length) (gr : Bool) : ∃ (t : Fx.T) (Z' : Sto), Kp w Z Z' ∧ Odd w b (n : Int) Z' t ∧ Uq [.loc w, .int (n : Int), .bl gr] Z = .ok t Z' := by
  obtain ⟨row,prs,hr,hp,s0⟩ : ∃ row prs : Fx.T,Odd w b (n : Int) Z (.tup [.str [115,101,113,117,101,110,99,101],.str [33,33,115,101,113],row]) ∧ Odd w b (n : Int) Z (.tup [.str [109,97,112,112,105,110,103],.str [33,33,109,97,112],prs]) ∧ Vl [some (.loc w),some (.int (n : Int)),some (.bl gr),none,none,none,none,none,none] Z = Wr [some (.loc w),some (.int (n : Int)),some (.bl gr),some row,some prs,none,none,none,none] Z := by
    cases gr with
    | true =>
      obtain ⟨R,r1,r2,r3⟩ := Zbg
      obtain ⟨S', s1, s2, s3⟩ := Zbh
      refine ⟨.tup R, .tup S', Ji (by rw [r1]; decide) (fun t ht => by rw [r2 t ht]; exact pl_i 0) (by rw [r1]; rfl), Z44 (g9 (n : Int)) (by rw [s1]; decide) (by rw [s1]; rfl) (fun Z' k' t ht Y => by rw [s2 t ht]; exact ⟨_, Z0y (pl_i 0).1 (pl_i 0).2 (pl_i 0).1 (pl_i 0).2 (n : Int) (Z' ++ Y)⟩), ?_⟩
      · generalize hT : Fx.T.tup R = TR at *
        generalize hS : Fx.T.tup S' = TS at *
        simp [Vl,r3,s3]
    | false =>
      refine ⟨.tup [.int (n : Int)], .tup [.tup [.int (n : Int), .int 0]], Ji (by simp [Lim]) (fun t ht => by rw [List.mem_singleton.mp ht]; exact pl_i _) (by simp only [List.all_cons, Z10, Bool.false_and, Bool.and_false]), Z0i fun Z' k' Y => Zbf (pl_i _).1 (pl_i _).2 (pl_i 0).1 (pl_i 0).2 (by rw [Z10, Bool.false_and]) (Z' ++ Y), ?_⟩
      simp [Vl]
  obtain ⟨i1,x1,Z1,k1,o1,l1,e1⟩ := odd_1 (size := (n : Int)) (gr := gr) (row := row) (prs := prs) hw hbl
  obtain ⟨i2,x2,Z2,k2,o2,l2,e2⟩ := odd_2 (gr := gr) (row := row) (prs := prs) o1 (by omega)
  obtain ⟨i3,x3,Z3,k3,o3,l3,e3⟩ := odd_3 (gr := gr) (row := row) (prs := prs) o2 (by omega)
  obtain ⟨i4,x4,Z4,k4,o4,l4,e4⟩ := odd_4 (gr := gr) (row := row) (prs := prs) o3 (by omega)
  obtain ⟨i5,x5,Z5,k5,o5,l5,e5⟩ := odd_5 (gr := gr) (row := row) (prs := prs) o4 (by omega)
  have k15 := k1.trans (k2.trans (k3.trans (k4.trans k5)))
  obtain ⟨i6,x6,Z6,k6,o6,l6,e6⟩ := odd_6 (gr := gr) (row := row) (prs := prs) o5 (by omega) (hr.kp k15)
  obtain ⟨i7,x7,Z7,k7,o7,l7,e7⟩ := odd_7 (gr := gr) (row := row) (prs := prs) o6 (by omega)
  have e8 := odd_8 (size := (n : Int)) (gr := gr) (row := row) (prs := prs) o7.wel (i := i7)
  have kN : Kp w Z7 (Z7 ++ [.lst (us9 (n : Int) prs)]) := Kp.new o7.wel
  have k18 := k15.trans (k6.trans (k7.trans kN))
  have o8 : OS w b (n : Int) (Z7 ++ [.lst (us9 (n : Int) prs)]) i7 x7 := ⟨kN.wel,Zo o7.at_,o7.ne,Nat.lt_of_lt_of_le o7.lt kN.len,o7.h0,o7.h1,fun t ht => (o7.odd t ht).kp kN⟩
  obtain ⟨t,Z9,k9,ot,e9⟩ := odd_9 (gr := gr) (row := row) o8 (by omega) (Zm _ _) (hp.kp k18)
  have hB := s0.trans (e1.trans (e2.trans (e3.trans (e4.trans (e5.trans (e6.trans (e7.trans (e8.trans e9))))))))
  exact ⟨t,Z9,k18.trans k9,ot,Z2n (n := 9) (as := [.loc w,.int (n : Int),.bl gr]) hB⟩
end
end Ap
set_option maxHeartbeats 8000000
namespace Ap
open PySem PySem.Spec PyProof.Rows L2 SX Fx
theorem Zaq {it : ItF} {m : Nat} {u : Nat → Fx.T} {body : Fx.T → FS} {ρ : Fx.Env} {Z : Sto} (I : Nat → Fx.Env → Sto → Prop) (hl : m ≤ Lim) (hit : ∀ k ρ Z, I k ρ Z → k ≤ m → it k Z = some (if k < m then some (u k) else none)) (h0 : I 0 ρ Z) (h : ∀ k < m, ∀ ρ Z, I k ρ Z → ∃ ρ' Z', body (u k) ρ Z = .nx ρ' Z' ∧ I (k + 1) ρ' Z') :
    ∃ ρ' Z', loopN it body Fuel 0 ρ Z = .nx ρ' Z' ∧ I m ρ' Z' := by
  have key : ∀ n k ρ Z, I k ρ Z → k ≤ m → m < n + k → ∃ ρ' Z', loopN it body n k ρ Z = .nx ρ' Z' ∧ I m ρ' Z' := by
    intro n
    induction n with
    | zero => intro k ρ Z _ h1 h2; omega
    | succ n ih =>
      intro k ρ Z hi h1 h2
      by_cases hk : k < m
      · obtain ⟨ρ', Z', e, hi'⟩ := h k hk ρ Z hi
        obtain ⟨ρ2, Z2, e2, hi2⟩ := ih (k + 1) ρ' Z' hi' (by omega) (by omega)
        refine ⟨ρ2,Z2,?_,hi2⟩
        rw [← e2]
        conv => lhs; unfold loopN
        rw [hit k ρ Z hi h1,if_pos hk]
        simp only [e,Z3d]
      · have : k = m := by omega
        subst this
        refine ⟨ρ,Z,?_,hi⟩
        unfold loopN
        rw [hit k ρ Z hi h1,if_neg hk]
  exact key Fuel 0 ρ Z h0 (Nat.zero_le _) (by rw [Q7]; omega)
theorem Z39 : ∀ ns : List Int,intsOf (ns.map Fx.T.int) = some (ns.map fun n => (n,()))
  | [] => rfl
  | n :: ns => by
    show (intsOf (ns.map Fx.T.int)).map _ = _
    rw [Z39 ns]; rfl
theorem Z9i {Z : Sto} {D : Nat} {ns : List Int} (h : getL Z D = some (ns.map .int)) : ∃ ps : List Int,gSorted [.loc D] Z = some (.loc Z.length,Z ++ [.lst (ps.map .int)]) ∧ ps.length = ns.length ∧ (∀ p ∈ ps,p ∈ ns) ∧ ps.Pairwise (· ≤ ·) := by
  refine ⟨(srtK (ns.map fun n => (n,()))).map (·.1),?_,?_,fun p hp => ?_,?_⟩
  · simp only [gSorted,h,Z39]
    rw [List.map_map]
    rfl
  · rw [List.length_map,(Wy _).length_eq,List.length_map]
  · obtain ⟨q,hq,rfl⟩ := List.mem_map.mp hp
    have := (Wy _).mem_iff.mp hq
    obtain ⟨n,hn,rfl⟩ := List.mem_map.mp this
    exact hn
  · rw [List.pairwise_map]
    exact Z3m _
def OT (w : Nat) (m : Int) (Z : Sto) (t : Fx.T) : Prop := ∀ Z', Kp w Z Z' → Yt [t, .int 0, .int m] Z' = .ok (.bl false) Z'
theorem OT.kp {w : Nat} {m : Int} {Z Z' : Sto} {t : Fx.T} (h : OT w m Z t) (k : Kp w Z Z') : OT w m Z' t := fun Z'' k' => h Z'' (k.trans k')
theorem Z3a {w : Nat} {m : Int} {Z : Sto} {t : Fx.T} (h : (∀ i, t ≠ .loc i) ∧ tyT t [] ≠ none) (hn : numOk m t = false) : OT w m Z t := fun Z' _ => by
  rw [Z6o h.1 h.2,hn]
def OG (w : Nat) (Z : Sto) (t : Fx.T) : Prop := ∀ Z', Kp w Z Z' → ∀ L tv, Zg [.loc L, t, tv] Z' = .exc (NoG (-1)) Z'
theorem OG.kp {w : Nat} {Z Z' : Sto} {t : Fx.T} (h : OG w Z t) (k : Kp w Z Z') : OG w Z' t := fun Z'' k' => h Z'' (k.trans k')
theorem Z54 {w : Nat} {Z : Sto} {t : Fx.T} (h : ∀ Z', Kp w Z Z' → gIsiI "Graph" [t, .tup [.ty "list", .ty "tuple"]] Z' = some (.bl false, Z')) : OG w Z t := fun Z' k L tv => Zaj (h Z' k)
theorem Zbi {w : Nat} {Z : Sto} {j : Nat} {ts : List Fx.T} (h : getL Z j = some ts) (hn : j ≠ w) (hl : ts.length = 0 ∨ 200 < ts.length) : OG w Z (.loc j) := fun Z' k L tv => Z6t (Z36 (k.getL hn h)) hl
theorem Z71 {t : Fx.T} {Z : Sto} (h : insC t Z = none) (h2 : gIsi [t, .tup [.ty "list", .ty "tuple"]] Z = some (.bl false, Z)) : gIsiI "Graph" [t, .tup [.ty "list", .ty "tuple"]] Z = some (.bl false, Z) := by
  show (if insC t Z = some "Graph" then some (Fx.T.bl false, Z) else gIsi [t, .tup [.ty "list", .ty "tuple"]] Z) = _
  rw [h,if_neg (by simp),h2]
theorem Zeb {w : Nat} {Z : Sto} {j : Nat} {l : List (Key × Fx.T)} (hw : Wel Z w) (h : Z[j]? = some (.dk l)) : OG w Z (.loc j) := Z54 fun Z' k => by
  have hjw : j ≠ w := fun e => by
    subst e
    obtain ⟨x,y,z,e⟩ := hw
    rw [Xo] at e
    rw [h] at e; cases e
  have h' : Z'[j]? = some (.dk l) := by rw [k.keep j (List.getElem?_eq_some_iff.mp h).1 hjw]; exact h
  have ty : tyT (.loc j) Z' = some "dict" := by simp only [tyT, h']
  have gb : ∀ n, gIsiB (.loc j) (.ty n) Z' = kitB "dict" n := fun n => by simp only [gIsiB, ty, clsT]
  refine Z71 (by simp [insC, getI, h']) ?_
  show (if (tyT (.loc j) Z').isSome = true then ((([.ty "list", .ty "tuple"] : List Fx.T).mapM fun c => gIsiB (.loc j) c Z').map fun bs => (Fx.T.bl (bs.any id), Z')) else none) = _
  have k1 : kitB "dict" "list" = some false := rfl
  have k2 : kitB "dict" "tuple" = some false := rfl
  simp only [ty,gb,k1,k2,List.mapM_cons,List.mapM_nil]
  rfl
theorem gr_kp {w : Nat} {Z Z' : Sto} {i : Nat} {ts : List Fx.T} {top : Int} (h : GrAt Z i ts top) (hw : Wel Z w) (k : Kp w Z Z') : GrAt Z' i ts top := by
  have h1 := Z0l (show getI Z i = _ from h)
  have hnw : i ≠ w := fun e => by
    subst e
    obtain ⟨x,y,z,e⟩ := hw
    rw [Xo] at e
    rw [h1] at e; cases e
  unfold GrAt getI
  rw [k.keep i (List.getElem?_eq_some_iff.mp h1).1 hnw,h1]
theorem og_gr {w : Nat} {Z : Sto} {j : Nat} {ts : List Fx.T} {top : Int} (hw : Wel Z w) (h : GrAt Z j ts top) : OG w Z (.loc j) := Z54 fun Z' k => if_pos (Z53 (gr_kp h hw k)).2
def sE (w i : Nat) (top : Int) (n : Nat) (o4 o5 o6 o7 o8 o9 o10 : Option Fx.T) : Fx.Env := [some (.loc w),some (.loc i),some (.int top),some (.int (n : Int)),o4,o5,o6,o7,o8,o9,o10]
section
variable {Z : Sto} {w i : Nat} {ts : List Fx.T} {top : Int}
theorem sp_1 (h : Drn Z w i ts) : ∃ (tv : Fx.T) (Z' : Sto), Kp w Z Z' ∧ OT w ((ts.length : Int) - 1) Z' tv ∧ V5 [some (.loc w), some (.loc i), some (.int top), none, none, none, none, none, none, none, none] Z = Xa (sE w i top ts.length none none none none none (some tv) none) Z' := by
  have g0 := h.at_
  have hw := h.wel.lt
  have hlL : ts.length ≤ Lim := by have := h.h9; unfold Lim; omega
  obtain ⟨Z0,hZ0⟩ : ∃ Z0 : Sto,Z0 = Z ++ [.lst [],.dk []] := ⟨_,rfl⟩
  have k0 : Kp w Z Z0 := by rw [hZ0]; exact Kp.new h.wel
  have p0 : getL Z0 Z.length = some [] := by rw [hZ0]; simp [getL]
  have p1 : Z0[Z.length + 1]? = some (.dk []) := by rw [hZ0]; simp
  obtain ⟨t,ht,Z1,e1,k1⟩ := Z1e (xs := [.int (ts.length : Int),.int (-1),.non,.bl true,.str [48],.tup [.int 0],.loc Z.length,.loc (Z.length + 1)]) k0.wel (by simp) (by simp)
  have k01 := k0.trans k1
  refine ⟨t,Z1,k01,?_,?_⟩
  · have q0 : getL Z1 Z.length = some [] := k1.getL (by omega) p0
    have q1 : Z1[Z.length + 1]? = some (.dk []) := by
      rw [k1.keep _ (List.getElem?_eq_some_iff.mp p1).1 (by omega)]; exact p1
    simp only [List.mem_cons,List.not_mem_nil,or_false] at ht
    rcases ht with rfl | rfl | rfl | rfl | rfl | rfl | rfl | rfl
    · exact Z3a (pl_i _) (Z10 _)
    · exact Z3a (pl_i _) (Z5u _)
    · exact Z3a ⟨fun i h => (by cases h),(by simp [tyT])⟩ rfl
    · exact Z3a ⟨fun i h => (by cases h),(by simp [tyT])⟩ rfl
    · exact Z3a ⟨fun i h => (by cases h),(by simp [tyT])⟩ rfl
    · exact Z3a ⟨fun i h => (by cases h),(by simp [tyT])⟩ rfl
    · exact fun Z' k => Z34 (Jg (k.getL (by omega) q0) rfl)
    · exact fun Z' k => Z34 (Z6z (by rw [k.keep _ (List.getElem?_eq_some_iff.mp q1).1 (by omega)]; exact q1) rfl)
  · have hl0 : Z0.length = Z.length + 2 := by rw [hZ0]; simp
    rw [hl0,hZ0] at e1
    simp only [lcat,List.cons_append,List.nil_append] at e1
    simp only [sE]
    simp [V5,U4,g0,eDict0,e1]
theorem sp_2 (h : Drn Z w i ts) {tv : Fx.T} (ht : OT w ((ts.length : Int) - 1) Z tv) : ∃ Y,Xa (sE w i top ts.length none none none none none (some tv) none) Z = X8 (sE w i top ts.length none none none none none (some tv) none) (Z ++ Y) := by
  have hL : ts.length ≤ 200 := by have := h.h9; omega
  obtain ⟨Y,e⟩ := Z0f (ds := []) (fa := (aCons (eVar 1) (aCons (eVar 9) aNil))) (ρ := sE w i top ts.length none none none none none (some tv) none) (Z := Z) (Z1 := Z) (as := [.loc i,tv]) (nv := .loc i) (tv := tv) (x := NoG (-2)) rfl rfl (Zai (Z36 (Zo h.at_)) h.h1 hL (h.gn _) (fun Y => by
    have := ht (Z ++ [.ins "Graph" []] ++ Y) (by rw [lcat]; exact Kp.new h.wel)
    exact this))
  have s := Z0h (fl := fun Z' => eMake "Graph" Zg [] (aCons (eVar 1) (aCons (eVar 9) aNil)) (sE w i top ts.length none none none none none (some tv) none) Z') e
  refine ⟨Y,?_⟩
  generalize hE : sE w i top ts.length none none none none none (some tv) none = E at *
  generalize hz : Z ++ Y = ZZ at *
  simp [Xa,s]
theorem sp_3 (h : Drn Z w i ts) {tv : Fx.T} : ∃ (p : Nat) (ps : List Int) (Z' : Sto), Kp w Z Z' ∧ getL Z' p = some (ps.map .int) ∧ p ≠ w ∧ p < Z'.length ∧ 1 ≤ ps.length ∧ ps.length ≤ 3 ∧ (∀ q ∈ ps, 0 ≤ q ∧ q < (ts.length : Int)) ∧ ps.Pairwise (· ≤ ·) ∧ X8 (sE w i top ts.length none none none none none (some tv) none) Z = X7 (sE w i top ts.length (some (.loc p)) none none none none (some tv) none) Z' := by
  obtain ⟨r,Z1,hr,e1,k1⟩ := Z0x h.wel 3 3 rfl (by decide) (by decide)
  have hw1 := k1.wel.lt
  obtain ⟨acc,Z2,e2,ns,rfl,hl,hb,hg,hk2⟩ := Z2a (m := 1 + r) (D := Z1.length) (put := fun t => putN [10] t (wipeR (sE w i top ts.length none none none none none (some tv) none) [10])) (c := eYes) (e := W9) (Z := Z1 ++ [.lst []])
    (fun j acc Z' => ∃ ns : List Int, acc = ns.map .int ∧ ns.length = j ∧ (∀ n ∈ ns, 0 ≤ n ∧ n < (ts.length : Int)) ∧ getL Z' Z1.length = some acc ∧ Kp w Z1 Z')
    (by unfold Lim; omega) (fun _ _ _ h => by obtain ⟨_,_,_,_,h,_⟩ := h; exact h) ⟨[],rfl,rfl,by simp,Zm _ _,Kp.new k1.wel⟩
    (fun j hj acc Z' hh => by
      obtain ⟨ns,rfl,hl,hb,hg,hk⟩ := hh
      obtain ⟨c,Z4,hc,e4,k4⟩ := Z1d hk.wel ts.length h.h1 (lt200 (by have := h.h9; omega))
      have hg2 := k4.getL (by omega) hg
      refine ⟨_, rfl, .inr ⟨Z', .int (c : Int), Z4, rfl, ?_, hg2, ns ++ [(c : Int)], by simp, by simp [hl], ?_, Vk hg2, (hk.trans k4).put (Nat.le_refl _) hw1⟩⟩
      · simp [W9,sE,wipeR,putN,e4]
      · intro n hn
        rcases List.mem_append.mp hn with h | h
        · exact hb n h
        · rw [List.mem_singleton.mp h]; omega)
  obtain ⟨ps,es,pl,pm,pp⟩ := Z9i hg
  have k3 : Kp w Z (Z2 ++ [.lst (ps.map .int)]) := (k1.trans hk2).trans (Kp.new hk2.wel)
  refine ⟨Z2.length,ps,_,k3,Zm _ _,Nat.ne_of_gt hk2.wel.lt,by simp,by omega,by omega,fun q hq => hb q (pm q hq),pp,?_⟩
  have hqL : 1 + r ≤ Lim := by unfold Lim; omega
  have hrg : ∀ Z,rngOf [.int (1 + (r : Int))] Z = .ok (itRng 0 (1 + r)) Z := fun Z => by
    have := rngN (Z := Z) hqL
    rw [show ((1 + r : Nat) : Int) = 1 + (r : Int) by omega] at this
    exact this
  simp only [sE] at e2 ⊢
  generalize ps.map Fx.T.int = PS at *
  simp [X8,e1,hrg,e2,es]
end
end Ap
set_option maxHeartbeats 8000000
namespace Ap
open PySem PySem.Spec PyProof.Rows L2 SX Fx
section
variable {Z : Sto} {w i : Nat} {ts : List Fx.T} {top : Int}
theorem sp_4 (h : Drn Z w i ts) {o4 : Option Fx.T} {tv : Fx.T} : X7 (sE w i top ts.length o4 none none none none (some tv) none) Z = Wb (sE w i top ts.length o4 none none (some (.loc Z.length)) none (some tv) none) (Z ++ [.lst ts]) := by
  have g0 := h.at_
  simp [sE,X7,gList,asSeq,Vc,g0]
structure BI (Z : Sto) (w b : Nat) (ts : List Fx.T) (ps : List Int) (k : Nat) (us : List Fx.T) (Z' : Sto) : Prop where
  at_ : getL Z' b = some us
  len : us.length = ts.length
  old : ∀ j : Nat,(j : Int) ∉ ps.take k → us[j]? = ts[j]?
  odd : ∀ (j : Nat) (u : Fx.T), us[j]? = some u → (j : Int) ∈ ps.take k → Odd w b (ts.length : Int) Z' u
  ko : Ko w b Z Z'
theorem Z9j {w i b p n : Nat} {ts : List Fx.T} {tv : Fx.T} {ps : List Int} (hw : Wel Z w) (hbw : b ≠ w) (hbl : b < Z.length) (hn : n = ts.length) (hq : ∀ q ∈ ps, 0 ≤ q ∧ q < (ts.length : Int)) {k : Nat} (hk : k < ps.length) {o5 o6 : Option Fx.T} {us : List Fx.T} {Z' : Sto} (h : BI Z w b ts ps k us Z') :
    ∃ us' Z'', bS (sE w i top n (some (.loc p)) o5 o6 (some (.loc b)) none (some tv) none) ((gTp 2 (gsCons (gNm 5) (gsCons (gNm 6) gsNil))) (.tup [.int (k : Int), .int ps[k]]) (sE w i top n (some (.loc p)) o5 o6 (some (.loc b)) none (some tv) none) Z') Yo = .nx (sE w i top n (some (.loc p)) (some (.int (k : Int))) (some (.int ps[k])) (some (.loc b)) none (some tv) none) Z'' ∧ BI Z w b ts ps (k + 1) us' Z'' := by
  obtain ⟨h1,h2⟩ := hq ps[k] (List.getElem_mem hk)
  obtain ⟨q,hqe⟩ : ∃ q : Nat,ps[k] = (q : Int) := ⟨ps[k].toNat,by omega⟩
  have hb' : b < Z'.length := Z27 h.at_
  obtain ⟨t, Z1, k1, ot, e1⟩ := f_odd (b := b) (n := ts.length) h.ko.wel hb' (decide (k = 0))
  have g1 := k1.getL hbw h.at_
  have st := Z6f (q : Int) t g1
  have hql : q < us.length := by rw [h.len]; omega
  have ix : ixN us.length (q : Int) = some q := by simp [ixN]; omega
  rw [ix] at st
  simp only [Option.map_some] at st
  have kp2 : Ko w b Z1 (Z1.set b (.lst (us.set q t))) := Ko.put k1.wel hbw _
  have tk : ps.take (k + 1) = ps.take k ++ [(q : Int)] := by rw [List.take_succ_eq_append_getElem hk,hqe]
  refine ⟨us.set q t,Z1.set b (.lst (us.set q t)),?_,Vk g1,by rw [List.length_set]; exact h.len,fun j hj => ?_,fun j u hu hj => ?_,(h.ko.trans (Ko.of k1)).trans kp2⟩
  · rw [hqe]
    subst hn
    simp [sE,Yo,e1,st]
  · rw [tk,List.mem_append,not_or,List.mem_singleton] at hj
    have : j ≠ q := fun e => hj.2 (by rw [e])
    rw [List.getElem?_set_ne (Ne.symm this)]
    exact h.old j hj.1
  · by_cases hjq : j = q
    · subst hjq
      rw [List.getElem?_set_self hql] at hu
      cases hu
      exact ot.ko kp2
    · rw [List.getElem?_set_ne (Ne.symm hjq)] at hu
      rw [tk,List.mem_append,List.mem_singleton] at hj
      rcases hj with hj | hj
      · exact (h.odd j u hu hj).ko ((Ko.of k1).trans kp2)
      · exact absurd (by omega) hjq
theorem sp_5 {b p n : Nat} {tv : Fx.T} {ps : List Int} (hw : Wel Z w) (hp : getL Z p = some (ps.map .int)) (hpw : p ≠ w) (hpb : p ≠ b) (hbw : b ≠ w) (hb : getL Z b = some ts) (hl : ps.length ≤ 3) (hn : n = ts.length) (hq : ∀ q ∈ ps,0 ≤ q ∧ q < (ts.length : Int)) :
    ∃ us o5 o6 Z', BI Z w b ts ps ps.length us Z' ∧ Wb (sE w i top n (some (.loc p)) none none (some (.loc b)) none (some tv) none) Z = X6 (sE w i top n (some (.loc p)) o5 o6 (some (.loc b)) none (some tv) none) Z' := by
  obtain ⟨ρ', Z', e, us, o5, o6, rfl, hbi⟩ := Zaq (it := itEnum (itLoc p)) (m := ps.length) (u := fun k => .tup [.int (k : Int), .int (ps[k]?.getD 0)]) (body := fun t ρ' Z' => bS ρ' ((gTp 2 (gsCons (gNm 5) (gsCons (gNm 6) gsNil))) t ρ' Z') Yo) (ρ := sE w i top n (some (.loc p)) none none (some (.loc b)) none (some tv) none) (Z := Z)
    (fun k ρ Z' => ∃ us o5 o6, ρ = sE w i top n (some (.loc p)) o5 o6 (some (.loc b)) none (some tv) none ∧ BI Z w b ts ps k us Z') (by unfold Lim; omega)
    (fun k ρ Z' h hk => by
      obtain ⟨us,o5,o6,_,hb⟩ := h
      have g := hb.ko.getL hpw hpb hp
      simp only [itEnum,itLoc,g,Option.map_some,List.getElem?_map]
      by_cases hk2 : k < ps.length
      · simp [hk2]
      · simp [hk2])
    ⟨ts,none,none,rfl,hb,rfl,fun _ _ => rfl,fun j u _ hj => by simp at hj,Ko.of (Kp.refl hw)⟩
    (fun k hk ρ Z' h => by
      obtain ⟨us,o5,o6,rfl,hbi⟩ := h
      obtain ⟨us', Z'', e, h'⟩ := Z9j (i := i) (top := top) (p := p) (tv := tv) (o5 := o5) (o6 := o6) hw hbw (Z27 hb) hn hq hk hbi
      refine ⟨sE w i top n (some (.loc p)) (some (.int (k : Int))) (some (.int ps[k])) (some (.loc b)) none (some tv) none, Z'', ?_, us', some (.int (k : Int)), some (.int ps[k]), rfl, h'⟩
      rw [List.getElem?_eq_getElem hk]
      exact e)
  refine ⟨us, o5, o6, Z', hbi, ?_⟩
  have hf : sFor (iEnmA (aCons (eVar 4) aNil)) (gTp 2 (gsCons (gNm 5) (gsCons (gNm 6) gsNil))) Yo (sE w i top n (some (.loc p)) none none (some (.loc b)) none (some tv) none) Z = .nx (sE w i top n (some (.loc p)) o5 o6 (some (.loc b)) none (some tv) none) Z' := by
    have hi : iEnmA (aCons (eVar 4) aNil) (sE w i top n (some (.loc p)) none none (some (.loc b)) none (some tv) none) Z = .ok (itEnum (itLoc p)) Z := by
      simp [sE,hp]
    rw [Za7,hi,Z7p]
    exact e
  exact Z37 hf rfl
theorem sp_6 {b p n : Nat} {tv : Fx.T} {q : Int} {ps : List Int} {Z0 : Sto} {us : List Fx.T} {o5 o6 : Option Fx.T} (h1 : 1 ≤ ts.length) (hL : ts.length ≤ 9) (hg : ∀ t ∈ ts,∀ Z,GN (ts.length : Int) Z t) (hp : getL Z0 p = some ((q :: ps).map .int)) (hpw : p ≠ w) (hpb : p ≠ b) (hbw : b ≠ w) (hq : 0 ≤ q ∧ q < (ts.length : Int)) (hs : (q :: ps).Pairwise (· ≤ ·)) (hbi : BI Z0 w b ts (q :: ps) (q :: ps).length us Z) :
    ∃ Z', Kp w Z Z' ∧ X6 (sE w i top n (some (.loc p)) o5 o6 (some (.loc b)) none (some tv) none) Z = X5 (sE w i top n (some (.loc p)) o5 o6 (some (.loc b)) none (some tv) none) Z' := by
  obtain ⟨j,hj⟩ : ∃ j : Nat,q = (j : Int) := ⟨q.toNat,by omega⟩
  have gb := hbi.at_
  have hw := hbi.ko.wel
  obtain ⟨t,ht,Z1,e1,k1⟩ := Z1e (xs := [.int top,tv]) hw (by simp) (by simp)
  have hfa : (aCons (eCallB gTuple (aCons (eVar 7) aNil)) (aCons (eCall Y9 [] (aCons (eVar 0) (aCons (eLst (aCons (eVar 2) (aCons (eVar 9) aNil))) aNil))) aNil)) (sE w i top n (some (.loc p)) o5 o6 (some (.loc b)) none (some tv) none) Z = .ok [.tup us,t] Z1 := by
    simp [sE,gb,e1]
  have htk : (q :: ps).take (q :: ps).length = q :: ps := List.take_length
  have hjl : j < us.length := by rw [hbi.len]; omega
  have hmin : ∀ x ∈ ps,q ≤ x := (List.pairwise_cons.mp hs).1
  have hod : Odd w b (ts.length : Int) Z us[j] := hbi.odd j us[j] (List.getElem?_eq_getElem hjl) (by rw [htk,hj]; exact List.mem_cons_self)
  obtain ⟨Y,e⟩ := Z0f (ds := []) (Z1 := Z1) (as := [.tup us,t]) (nv := .tup us) (tv := t) (x := NoG (j : Int)) hfa rfl (Z41 (Z95 _ us) (by rw [hbi.len]; exact h1) (by rw [hbi.len]; omega) hjl (fun k u hk hu => by
    rw [hbi.old k (by
      rw [htk]
      intro hm
      rcases List.mem_cons.mp hm with h | h
      · omega
      · have := hmin _ h; omega)] at hu
    rw [hbi.len]
    exact hg u (List.mem_of_getElem? hu) _) (by rw [hbi.len]; exact ((hod.kp k1).kp (Kp.new k1.wel)).bn (Kp.new k1.wel).wel))
  have s := Z0h (fl := fun Z' => eMake "Graph" Zg [] (aCons (eCallB gTuple (aCons (eVar 7) aNil)) (aCons (eCall Y9 [] (aCons (eVar 0) (aCons (eLst (aCons (eVar 2) (aCons (eVar 9) aNil))) aNil))) aNil)) (sE w i top n (some (.loc p)) o5 o6 (some (.loc b)) none (some tv) none) Z') e
  have gp : getL (Z1 ++ Y) p = some ((q :: ps).map .int) := Zo (k1.getL hpw (hbi.ko.getL hpw hpb hp))
  have ix := Z2y (0 : Int) gp
  rw [show atI ((q :: ps).map Fx.T.int) 0 = some (.int (j : Int)) from (by rw [hj]; exact atI_nat (k := 0) rfl)] at ix
  simp only [Option.map_some] at ix
  refine ⟨Z1 ++ Y,k1.trans (Kp.new k1.wel),?_⟩
  have v4 : ∀ Z,eVar 4 (sE w i top n (some (.loc p)) o5 o6 (some (.loc b)) none (some tv) none) Z = .ok (.loc p) Z := fun Z => rfl
  generalize hE : sE w i top n (some (.loc p)) o5 o6 (some (.loc b)) none (some tv) none = E at *
  generalize hz : Z1 ++ Y = ZZ at *
  simp [X6,s,v4,ix]
end
end Ap
set_option maxHeartbeats 8000000
namespace Ap
open PySem PySem.Spec PyProof.Rows L2 SX Fx
section
variable {Z : Sto} {w i : Nat} {ts : List Fx.T} {top : Int}
theorem dk_1 {t0 : Fx.T} {r : List Fx.T} {o0 : Option Fx.T} {E : Fx.Env} (g : getL Z i = some (t0 :: r)) : ∃ l,eDict (pCons (eC (.int 0)) (eBin gIxW (eVar 1) (eC (.int 0))) pNil) (o0 :: some (.loc i) :: E) Z = .ok (.loc Z.length) (Z ++ [.dk l]) := by
  have g1 : getL (Z ++ [O.dk []]) i = some (t0 :: r) := Zo g
  have ix := Z2y (0 : Int) g1
  rw [show atI (t0 :: r) 0 = some t0 from atI_nat (k := 0) rfl] at ix
  simp only [Option.map_some] at ix
  have d1 : getDK (Z ++ [O.dk []]) Z.length = some [] := by simp [getDK]
  have hf : pCons (eC (.int 0)) (eBin gIxW (eVar 1) (eC (.int 0))) pNil (o0 :: some (.loc i) :: E) (Z ++ [.dk []]) = .ok [(.int 0,t0)] (Z ++ [.dk []]) := by
    simp [pCons,pNil,ix]
  unfold eDict
  rw [hf,Yk]
  obtain ⟨k,hk⟩ : ∃ k,keysT [(Fx.T.int 0,t0)] = some [(k,t0)] := ⟨_,rfl⟩
  refine ⟨mergeKT [] [(k,t0)],?_⟩
  simp only [hk,d1]
  rw [if_pos (by simp)]
  simp
theorem Zcp {n : Nat} (h1 : 1 ≤ n) (h9 : n ≤ 9) : 200 < n * (200 / n + 1) ∧ n * (200 / n + 1) ≤ 209 ∧ 200 / n + 1 ≤ 201 := by
  rcases (show n = 1 ∨ n = 2 ∨ n = 3 ∨ n = 4 ∨ n = 5 ∨ n = 6 ∨ n = 7 ∨ n = 8 ∨ n = 9 by omega) with rfl | rfl | rfl | rfl | rfl | rfl | rfl | rfl | rfl <;> decide
theorem Zcq (h1 : 1 ≤ ts.length) (h9 : ts.length ≤ 9) (g : getL Z i = some ts) : ∃ us : List Fx.T,200 < us.length ∧ gMul (.loc i) (.int (200 / (ts.length : Int) + 1)) Z = some (.loc Z.length,Z ++ [.lst us]) := by
  obtain ⟨a,b,c⟩ := Zcp h1 h9
  have hk : (200 : Int) / (ts.length : Int) + 1 = ((200 / ts.length + 1 : Nat) : Int) := by
    rw [Int.natCast_add,Int.natCast_ediv]; rfl
  rw [hk]
  generalize 200 / ts.length + 1 = K at *
  refine ⟨(List.replicate K ts).flatten,?_,?_⟩
  · rw [List.length_flatten,List.map_replicate,List.sum_replicate_nat,Nat.mul_comm]; exact a
  · show (match getL Z i with | some a => if -100000 ≤ (K : Int) ∧ (K : Int) ≤ 100000 ∧ a.length * (K : Int).toNat ≤ Lim then some (Fx.T.loc Z.length,Z ++ [O.lst (List.replicate (K : Int).toNat a).flatten]) else none | _ => none) = _
    rw [g]
    show (if _ then _ else _) = _
    rw [if_pos ⟨by omega,by omega,by rw [Int.toNat_natCast]; unfold Lim; omega⟩,Int.toNat_natCast]
def sp7L (L : Nat) : List Fx.T := [.non,.int 5,.str [110,111,100,101,115],.loc L,.loc (L + 1),.tup [],.loc (L + 2),.loc (L + 3),.loc (L + 4)]
theorem sp_7 (h : Drn Z w i ts) (ht : 0 ≤ top ∧ top < (ts.length : Int)) {o4 o5 o6 o7 o9 : Option Fx.T} : ∃ (t : Fx.T) (Z' : Sto), Kp w Z Z' ∧ OG w Z' t ∧ X5 (sE w i top ts.length o4 o5 o6 o7 none o9 none) Z = X4 (sE w i top ts.length o4 o5 o6 o7 (some t) o9 none) Z' := by
  have g0 := h.at_
  have hw := h.wel.lt
  obtain ⟨t0,r,hts⟩ : ∃ t0 r,ts = t0 :: r := by
    cases ts with
    | nil => have := h.h1; simp at this
    | cons a l => exact ⟨a,l,rfl⟩
  have ga : getL (Z ++ [O.dk []]) i = some ts := Zo g0
  have ga' : getL (Z ++ [O.dk []]) i = some (t0 :: r) := by rw [← hts]; exact ga
  obtain ⟨l, e1⟩ := dk_1 (o0 := some (.loc w)) (E := [some (.int top), some (.int (ts.length : Int)), o4, o5, o6, o7, none, o9, none]) ga'
  have gb : getL (Z ++ [O.dk []] ++ [O.dk l] ++ [O.lst []]) i = some ts := Zo (Zo ga)
  obtain ⟨us,hus,e2⟩ := Zcq h.h1 h.h9 gb
  obtain ⟨Z4,hZ4⟩ : ∃ Z4,Z4 = Z ++ [O.dk []] ++ [O.dk l] ++ [O.lst []] ++ [O.lst us] := ⟨_,rfl⟩
  rw [← hZ4] at e2
  have k4 : Kp w Z Z4 := by rw [hZ4,lcat,lcat,lcat]; exact Kp.new h.wel
  have g4 : getL Z4 i = some ts := k4.getL h.ne g0
  obtain ⟨Y,m5⟩ := mkL (fa := (aCons (eVar 1) (aCons (eVar 2) aNil))) (ρ := sE w i top ts.length o4 o5 o6 o7 none o9 none) (Z := Z4) (Z1 := Z4) (j := i) (top := top) (ts := ts) (by simp [sE]) g4 h.h1 (by have := h.h9; omega) (h.gn _) ht
  obtain ⟨Z5, hZ5⟩ : ∃ Z5, Z5 = Z4 ++ .ins "Graph" (grF ts top) :: Y := ⟨_, rfl⟩
  rw [← hZ5] at m5
  have k5 : Kp w Z Z5 := by rw [hZ5]; exact k4.trans (Kp.new k4.wel)
  obtain ⟨t,htm,Z6,e6,k6⟩ := Z1e (xs := sp7L Z.length) k5.wel (by simp [sp7L]) (by simp [sp7L])
  have hl4 : Z4.length = Z.length + 4 := by rw [hZ4]; simp
  have p0 : Z5[Z.length]? = some (.dk []) := by rw [hZ5,hZ4]; simp
  have p1 : Z5[Z.length + 1]? = some (.dk l) := by rw [hZ5,hZ4]; simp
  have p2 : getL Z5 (Z.length + 2) = some [] := by rw [hZ5,hZ4]; simp [getL]
  have p3 : getL Z5 (Z.length + 3) = some us := by rw [hZ5,hZ4]; simp [getL]
  have p4 : GrAt Z5 (Z.length + 4) ts top := by rw [hZ5,← hl4]; exact Qv _ _ _ _
  refine ⟨t,Z6,k5.trans k6,?_,?_⟩
  · refine OG.kp ?_ k6
    simp only [sp7L,List.mem_cons,List.not_mem_nil,or_false] at htm
    rcases htm with rfl | rfl | rfl | rfl | rfl | rfl | rfl | rfl | rfl
    · exact Z54 fun Z' _ => Z71 rfl rfl
    · exact Z54 fun Z' _ => Z71 rfl rfl
    · exact Z54 fun Z' _ => Z71 rfl rfl
    · exact Zeb k5.wel p0
    · exact Zeb k5.wel p1
    · exact fun Z' _ L tv => Z6t (Z95 Z' []) (.inl rfl)
    · exact Zbi p2 (by omega) (.inl rfl)
    · exact Zbi p3 (by omega) (.inr hus)
    · exact og_gr k5.wel p4
  · have hl5 : (Z ++ [O.dk []]).length = Z.length + 1 := by simp
    have hl6 : (Z ++ [O.dk []] ++ [O.dk l]).length = Z.length + 2 := by simp
    have hl7 : (Z ++ [O.dk []] ++ [O.dk l] ++ [O.lst []]).length = Z.length + 3 := by simp
    have hp : (0 : Int) < (ts.length : Int) := by have := h.h1; omega
    have hp' : 0 < ts.length := h.h1
    have hp2 : ((ts.length : Int) < 1606938044258990275541962092341162602522202993782792835301376) := by have := h.h9; omega
    rw [hl5] at e1
    rw [hl7] at e2
    rw [hl4] at m5
    simp only [sp7L] at e6
    simp only [sE] at m5 ⊢
    have e0 : ∀ ρ,eDict0 ρ Z = .ok (.loc Z.length) (Z ++ [O.dk []]) := fun ρ => rfl
    generalize Z ++ [O.dk []] = ZA at *
    generalize ZA ++ [O.dk l] = ZB at *
    simp [-Zca, -Z8i, X5, e0, e1, hl6, hp, hp', hp2, e2, m5, e6]
theorem sp_8 (hw : Wel Z w) {n : Nat} {o4 o5 o6 o7 o9 : Option Fx.T} {t : Fx.T} (h : OG w Z t) : ∃ Z', Kp w Z Z' ∧ X4 (sE w i top n o4 o5 o6 o7 (some t) o9 none) Z = .rt (.bl true) Z' := by
  obtain ⟨t2,_,Z1,e1,k1⟩ := Z1e (xs := [.int 0,.non]) hw (by simp) (by simp)
  have hfa : (aCons (eVar 8) (aCons (eCall Y9 [] (aCons (eVar 0) (aCons (eLst (aCons (eC (.int 0)) (aCons (eC .non) aNil))) aNil))) aNil)) (sE w i top n o4 o5 o6 o7 (some t) o9 none) Z = .ok [t,t2] Z1 := by
    simp [sE,e1]
  obtain ⟨Y,e⟩ := Z0f (ds := []) (Z1 := Z1) (as := [t,t2]) (nv := t) (tv := t2) (x := NoG (-1)) hfa rfl ⟨[],by rw [List.append_nil]; exact h _ (k1.trans (Kp.new k1.wel)) _ _⟩
  have s := Z0h (fl := fun Z' => eMake "Graph" Zg [] (aCons (eVar 8) (aCons (eCall Y9 [] (aCons (eVar 0) (aCons (eLst (aCons (eC (.int 0)) (aCons (eC .non) aNil))) aNil))) aNil)) (sE w i top n o4 o5 o6 o7 (some t) o9 none) Z') e
  refine ⟨Z1 ++ Y,k1.trans (Kp.new k1.wel),?_⟩
  generalize hE : sE w i top n o4 o5 o6 o7 (some t) o9 none = E at *
  generalize hz : Z1 ++ Y = ZZ at *
  simp [X4,s]
end
theorem Zar {Z : Sto} {w i : Nat} {ts : List Fx.T} {top : Int} (h : Drn Z w i ts) (ht : 0 ≤ top ∧ top < (ts.length : Int)) : ∃ Z', V6 [.loc w, .loc i, .int top] Z = .ok (.bl true) Z' ∧ Kp w Z Z' := by
  obtain ⟨tv,Z1,k1,ot,s1⟩ := sp_1 (top := top) h
  have h1 := h.kp k1
  obtain ⟨Y2,s2⟩ := sp_2 (top := top) h1 ot
  have h2 := h1.app Y2
  obtain ⟨p,ps,Z3,k3,gp,hpw,hpl,hl1,hl3,hq,hs,s3⟩ := sp_3 (top := top) h2 (tv := tv)
  have h3 := h2.kp k3
  have s4 := sp_4 (top := top) h3 (o4 := some (.loc p)) (tv := tv)
  have h4 := h3.app [O.lst ts]
  have hw3 := h3.wel.lt
  obtain ⟨us,o5,o6,Z5,hbi,s5⟩ := sp_5 (i := i) (top := top) (b := Z3.length) (n := ts.length) (tv := tv) h4.wel (Zo gp) hpw (by omega) (by omega) (Zm _ _) hl3 rfl hq
  obtain ⟨q, ps', rfl⟩ : ∃ q ps', ps = q :: ps' := by
    cases ps with
    | nil => simp at hl1
    | cons a l => exact ⟨a,l,rfl⟩
  have hi3 := h3.lt
  have h5 : Drn Z5 w i ts := ⟨hbi.ko.wel,hbi.ko.getL h.ne (by omega) h4.at_,h.ne,h.h1,h.h9,h.nd⟩
  obtain ⟨Z6,k6,s6⟩ := sp_6 (i := i) (top := top) (n := ts.length) (tv := tv) (o5 := o5) (o6 := o6) h.h1 h.h9 (fun t ht Z => (h.nd t ht).good Z) (Zo gp) hpw (by omega) (by omega) (hq q List.mem_cons_self) hs hbi
  have h6 := h5.kp k6
  obtain ⟨t7,Z7,k7,og,s7⟩ := sp_7 h6 ht (o4 := some (.loc p)) (o5 := o5) (o6 := o6) (o7 := some (.loc Z3.length)) (o9 := some tv)
  obtain ⟨Z8,k8,s8⟩ := sp_8 (i := i) (top := top) (n := ts.length) (o4 := some (.loc p)) (o5 := o5) (o6 := o6) (o7 := some (.loc Z3.length)) (o9 := some tv) k7.wel og
  have hB := s1.trans (s2.trans (s3.trans (s4.trans (s5.trans (s6.trans (s7.trans s8))))))
  have hk3 : Kp w Z Z3 := k1.trans ((Kp.new h1.wel).trans k3)
  have hk5 : Kp w Z Z5 := ⟨hbi.ko.wel,Nat.le_trans hk3.len (Nat.le_trans (by simp) hbi.ko.len),fun j hj hn => by
    have hj3 : j < Z3.length := Nat.lt_of_lt_of_le hj hk3.len
    rw [hbi.ko.keep j (by rw [List.length_append]; omega) hn (by omega),List.getElem?_append_left hj3]
    exact hk3.keep j hj hn⟩
  exact ⟨Z8,Z2n (n := 11) (as := [.loc w,.loc i,.int top]) hB,hk5.trans (k6.trans (k7.trans k8))⟩
end Ap
set_option maxHeartbeats 8000000
namespace Ap
open PySem PySem.Spec PyProof.Rows L2 SX Fx
theorem Zec {Z : Sto} {w : Nat} (hw : Wel Z w) (o0 o1 o3 o4 o5 o6 o7 o8 : Option Fx.T) : ∃ p4 p5 p6 Z', Kp w Z Z' ∧ Z3o [o0, o1, some (.loc w), o3, o4, o5, o6, o7, o8] Z = .nx [o0, o1, some (.loc w), o3, p4, p5, p6, o7, o8] Z' := by
  obtain ⟨r,Z1,hr,e1,k1⟩ := Z0x hw 9 9 rfl (by decide) (by decide)
  obtain ⟨i,ts,Z2,e2,g2,hl,hn,hi,k2⟩ := Zco k1.wel (size := 1 + r) (by omega) (by omega)
  obtain ⟨tp,Z3,htp,e3,k3⟩ := Z1d k2.wel (1 + r) (by omega) (lt200 (by omega))
  have hw1 := k1.wel.lt
  have hne : i ≠ w := by omega
  have h3 : Drn Z3 w i ts := ⟨k3.wel,k3.getL hne g2,hne,by omega,by omega,fun t ht => by rw [hl]; exact hn t ht⟩
  have ht : 0 ≤ (tp : Int) ∧ (tp : Int) < (ts.length : Int) := by omega
  obtain ⟨Z4,e4,k4⟩ := Ze9 h3 ht
  obtain ⟨Z5,e5,k5⟩ := Zar (h3.kp k4) ht
  have hc : ((1 + r : Nat) : Int) = 1 + (r : Int) := by omega
  rw [hc] at e2 e3
  refine ⟨some (.int (1 + (r : Int))),some (.loc i),some (.int (tp : Int)),Z5,k1.trans (k2.trans (k3.trans (k4.trans k5))),?_⟩
  simp [Z3o,e1,e2,e3,e4,e5]
theorem Zed {Z : Sto} (c : Int) (o0 o2 o3 o4 o5 o6 o7 o8 : Option Fx.T) : ∃ p2 p3 p4 p5 p6 Z', (∀ j < Z.length, Z'[j]? = Z[j]?) ∧ Z.length ≤ Z'.length ∧ Z2f [o0, some (.int c), o2, o3, o4, o5, o6, o7, o8] Z = .nx [o0, some (.int c), p2, p3, p4, p5, p6, o7, o8] Z' := by
  obtain ⟨a,b,d,ew⟩ := Zdy c Z
  have hw : Wel (Z ++ [.lst [.int a,.int b,.int d]]) Z.length := ⟨a,b,d,Zm _ _⟩
  obtain ⟨ρ2, Z2, e2, k2, q3, q4, q5, q6, rfl⟩ := Z8o (m := 3) (body := fun t ρ' Z' => bS ρ' (gNm 3 t ρ' Z') Z3o) (Z := Z ++ [.lst [.int a, .int b, .int d]]) (ρ := [o0, some (.int c), some (.loc Z.length), o3, o4, o5, o6, o7, o8])
    (fun ρ Z' => Kp Z.length (Z ++ [.lst [.int a, .int b, .int d]]) Z' ∧ ∃ q3 q4 q5 q6, ρ = [o0, some (.int c), some (.loc Z.length), q3, q4, q5, q6, o7, o8]) (by decide) ⟨Kp.refl hw, _, _, _, _, rfl⟩
    (fun j hj ρ Z' h => by
      obtain ⟨k,q3,q4,q5,q6,rfl⟩ := h
      obtain ⟨p4, p5, p6, Z'', k', er⟩ := Zec k.wel o0 (some (.int c)) (some (.int (j : Int))) q4 q5 q6 o7 o8
      exact ⟨[o0, some (.int c), some (.loc Z.length), some (.int (j : Int)), p4, p5, p6, o7, o8], Z'', by simp [er], k.trans k', _, _, _, _, rfl⟩)
  simp only [q_gNm,Z7p] at e2
  have r3 : ∀ Z,rngOf [.int 3] Z = .ok (itRng 0 3) Z := fun Z => rngN (n := 3) (by decide)
  refine ⟨some (.loc Z.length),q3,q4,q5,q6,Z2,fun j hj => ?_,?_,?_⟩
  · rw [k2.keep j (by simp; omega) (by omega),List.getElem?_append_left hj]
  · have := k2.len
    simp at this
    omega
  · simp [Z2f,ew,e2,r3]
def sc1 : Fx.T := .tup [.str [115,99,97,108,97,114],.str [33,115],.str []]
theorem Zbj (n : Nat) : ND n sc1 := Zcn (by decide +kernel) (by decide) (by decide) (by decide) (by decide)
theorem Zee : ∃ R : Fx.T,ND 200 (.tup [.str [115,101,113,117,101,110,99,101],.str [33,33,115,101,113],R]) ∧ ∀ Z,gMulT (.tup [.int 0]) (.int 1000) Z = some (R,Z) := by
  refine ⟨.tup ((List.replicate 1000 (0 : Int)).map .int),Zb9 (by decide +kernel) (by decide) (by decide) (by decide) (by rw [List.length_replicate]; decide) (fun n hn => ?_),fun Z => ?_⟩
  · rw [(List.mem_replicate.mp hn).2]; decide
  · rw [Z70 Z ⟨by simp,by decide,by decide,by simp⟩,List.flatten_replicate_singleton,List.map_replicate]; rfl
theorem Zef : ∃ R : Fx.T,ND 200 (.tup [.str [109,97,112,112,105,110,103],.str [33,33,109,97,112],R]) ∧ ∀ Z,gMulT (.tup [.tup [.int 0,.int 0]]) (.int 500) Z = some (R,Z) := by
  refine ⟨.tup ((List.replicate 500 ((0 : Int),(0 : Int))).map pairT),Zba (by decide +kernel) (by decide) (by decide) (by decide) (by rw [List.length_replicate]; decide) (fun p hp => ?_),fun Z => ?_⟩
  · rw [(List.mem_replicate.mp hp).2]; decide
  · rw [Z70 Z ⟨by simp,by decide,by decide,by simp⟩,List.flatten_replicate_singleton,List.map_replicate]; rfl
def BA (t : Fx.T) : Prop := ∀ size Z,BN size Z t
theorem odd_0 : ∃ R : Fx.T,BA (.tup [.str [115,101,113,117,101,110,99,101],.str [33,33,115,101,113],R]) ∧ ∀ Z,gMulT (.tup [.int 0]) (.int 1001) Z = some (R,Z) := by
  obtain ⟨R,r1,r2,r3⟩ := Zbg
  refine ⟨.tup R,fun size Z Y => ?_,r3⟩
  obtain ⟨Y', e⟩ := Z3y (size := size) (numOk (size - 1)) (tag := [33,33,115,101,113]) (by decide +kernel) (by decide) (show R.length ≤ Lim by rw [r1]; decide) (Z ++ Y) (fun t ht W => by rw [r2 t ht]; exact Z6n _ _ _)
  rw [show (decide (R.length ≤ 1000) && R.all (numOk (size - 1))) = false by rw [r1]; rfl] at e
  exact ⟨Y', e⟩
theorem odd_p : ∃ R : Fx.T,BA (.tup [.str [109,97,112,112,105,110,103],.str [33,33,109,97,112],R]) ∧ ∀ Z,gMulT (.tup [.tup [.int 0,.int 0]]) (.int 501) Z = some (R,Z) := by
  obtain ⟨R,r1,r2,r3⟩ := Zbh
  refine ⟨.tup R,fun size Z Y => ?_,r3⟩
  obtain ⟨Y', e⟩ := Z3z (size := size) (g9 size) (tag := [33,33,109,97,112]) (by decide +kernel) (by decide) (show R.length ≤ 100000 by rw [r1]; decide) (Z ++ Y) (fun t ht W => by rw [r2 t ht]; exact ⟨_, Z0y (pl_i 0).1 (pl_i 0).2 (pl_i 0).1 (pl_i 0).2 size (Z ++ Y ++ W)⟩)
  rw [show (decide (2 * R.length ≤ 1000) && R.all (g9 size)) = false by rw [r1]; rfl] at e
  exact ⟨Y', e⟩
section
variable {s o1 o2 o3 o4 o5 o6 o7 o8 : Option Fx.T}
theorem law_w : ∃ (i : Nat) (ts : List Fx.T) (Z' : Sto), getL Z' i = some ts ∧ ts.length = 200 ∧ (∀ t ∈ ts, ND 200 t) ∧ ts[2]? = some sc1 ∧ Zci [s, o1, o2, o3, o4, o5, o6, o7, none] [] = Z3q [s, o1, o2, o3, o4, o5, o6, o7, some (.loc i)] Z' := by
  obtain ⟨R0,n0,m0⟩ := Zee
  obtain ⟨R1,n1,m1⟩ := Zef
  obtain ⟨W0,hW0⟩ : ∃ W0,W0 = Fx.T.tup [.str [115,101,113,117,101,110,99,101],.str [33,33,115,101,113],R0] := ⟨_,rfl⟩
  obtain ⟨W1,hW1⟩ : ∃ W1,W1 = Fx.T.tup [.str [109,97,112,112,105,110,103],.str [33,33,109,97,112],R1] := ⟨_,rfl⟩
  obtain ⟨B,hB⟩ : ∃ B,B = List.replicate 198 sc1 := ⟨_,rfl⟩
  have hBl : B.length = 198 := by rw [hB]; exact List.length_replicate
  refine ⟨3,W0 :: W1 :: B,[.lst [W0,W1],.lst [sc1],.lst B,.lst (W0 :: W1 :: B)],rfl,by simp [hBl],fun t ht => ?_,by rw [hB]; rfl,?_⟩
  · rcases List.mem_cons.mp ht with h | h
    · rw [h,hW0]; exact n0
    · rcases List.mem_cons.mp h with h | h
      · rw [h,hW1]; exact n1
      · rw [hB] at h
        rw [(List.mem_replicate.mp h).2]; exact Zbj _
  · have mu : gMul (.loc 1) (.int 198) [.lst [W0,W1],.lst [sc1]] = some (.loc 2,[.lst [W0,W1],.lst [sc1],.lst B]) := by
      rw [Z8i]
      show (if -100000 ≤ (198 : Int) ∧ (198 : Int) ≤ 100000 ∧ ([sc1] : List Fx.T).length * (198 : Int).toNat ≤ Lim then some (Fx.T.loc 2,[O.lst [W0,W1],O.lst [sc1]] ++ [O.lst (List.replicate (198 : Int).toNat [sc1]).flatten]) else none) = _
      rw [if_pos ⟨by decide,by decide,by decide⟩,List.flatten_replicate_singleton,hB]
      rfl
    have ad : gAdd (.loc 0) (.loc 2) [.lst [W0,W1],.lst [sc1],.lst B] = some (.loc 3,[.lst [W0,W1],.lst [sc1],.lst B,.lst (W0 :: W1 :: B)]) := by
      rw [Z3l (a := [W0,W1]) (b := B) _ _ _ rfl rfl (by rw [hBl]; simp [Lim])]
      rfl
    rw [hW0,hW1] at mu ad ⊢
    simp only [sc1] at mu ad ⊢
    simp [-Z8i,-Z6b,Zci,m0,m1,mu,ad]
theorem law_1 {Z : Sto} {i : Nat} {ts : List Fx.T} (g : getL Z i = some ts) (hl : ts.length = 200) (hn : ∀ t ∈ ts,ND 200 t) : ∃ Y,Z3q [s,o1,o2,o3,o4,o5,o6,o7,some (.loc i)] Z = Z5l [s,o1,o2,o3,o4,o5,o6,o7,some (.loc i)] (Z ++ Y) := by
  obtain ⟨Y,e⟩ := mkL (fa := (aCons (eVar 8) (aCons (eC (.int 199)) aNil))) (ρ := [s,o1,o2,o3,o4,o5,o6,o7,some (.loc i)]) (Z := Z) (Z1 := Z) (j := i) (top := 199) (ts := ts) (by simp) g (by omega) (by omega) (fun t ht => by rw [hl]; exact (hn t ht).good Z) (by omega)
  have sd := Z5t (fl := fun Z' => eMake "Graph" Zg [] (aCons (eVar 8) (aCons (eC (.int 199)) aNil)) [s, o1, o2, o3, o4, o5, o6, o7, some (.loc i)] Z') e (Qv Z ts 199 Y)
  have g1 : getL (Z ++ .ins "Graph" (grF ts 199) :: Y) i = some ts := Zo g
  have nn := Z6v (fun t ht => (hn t ht).pt) 199 (Z ++ .ins "Graph" (grF ts 199) :: Y)
  refine ⟨.ins "Graph" (grF ts 199) :: Y, ?_⟩
  generalize hE : [s,o1,o2,o3,o4,o5,o6,o7,some (Fx.T.loc i)] = E at *
  have v8 : ∀ Z,eVar 8 E Z = .ok (.loc i) Z := fun Z => by rw [← hE]; rfl
  generalize Z ++ .ins "Graph" (grF ts 199) :: Y = ZZ at *
  simp [Z3q,sd,v8,g1,nn]
theorem law_o {Z : Sto} {i : Nat} {ts : List Fx.T} {t : Fx.T} (g : getL Z i = some ts) (hl : ts.length = 200) (h2 : ts[2]? = some sc1) (ht : BA t) : ∃ Y,Z2e [s,o1,o2,o3,o4,o5,o6,some t,some (.loc i)] Z = .nx [s,o1,o2,o3,o4,o5,o6,some t,some (.loc i)] (Z ++ Y) := by
  obtain ⟨Y1,e1⟩ := Z0f (ds := [(.int (0))]) (fa := (aCons (eLst (aCons (eVar 7) aNil)) aNil)) (ρ := [s,o1,o2,o3,o4,o5,o6,some t,some (.loc i)]) (Z := Z) (Z1 := Z ++ [O.lst [t]]) (as := [.loc Z.length]) (nv := .loc Z.length) (tv := .int 0) (x := NoG ((0 : Nat) : Int)) (by simp) rfl (Z41 (Z36 (Zo (Zm Z [t]))) (by simp) (by simp) (by simp) (fun k _ hk => by omega) (ht _ _))
  have s1 := Z0h (fl := fun Z' => eMake "Graph" Zg [(.int (0))] (aCons (eLst (aCons (eVar 7) aNil)) aNil) [s, o1, o2, o3, o4, o5, o6, some t, some (.loc i)] Z') e1
  obtain ⟨Z1,hZ1⟩ : ∃ Z1,Z1 = Z ++ [O.lst [t]] ++ Y1 := ⟨_,rfl⟩
  rw [← hZ1] at s1
  have g1 : getL Z1 i = some ts := by rw [hZ1]; exact Zo (Zo g)
  have cu : cutL ts (some 2) (some 3) = [sc1] := by
    obtain ⟨a,b,c,d,rfl⟩ : ∃ a b c d,ts = a :: b :: c :: d := by
      match ts,hl with
      | a :: b :: c :: d,_ => exact ⟨a,b,c,d,rfl⟩
    simp at h2
    have l2 : 3 ≤ (a :: b :: c :: d).length := by simp
    unfold cutL
    rw [show (some (2 : Int)) = some ((2 : Nat) : Int) from rfl,show (some (3 : Int)) = some ((3 : Nat) : Int) from rfl,HT.sIx_nat,HT.sIx_nat,hl]
    simp [h2]
  have ad := Z3l Z1.length (Z1.length + 1) (Z1 ++ [O.lst [sc1]] ++ [O.lst [t]]) (a := [sc1]) (b := [t]) (by simp [getL]) (by simp [getL]) (by simp [Lim])
  have hfa : (aCons (eBin gAdd (eSl (eVar 8) (oSome (eC (.int 2))) (oSome (eC (.int 3)))) (eLst (aCons (eVar 7) aNil))) aNil) [s,o1,o2,o3,o4,o5,o6,some t,some (.loc i)] Z1 = .ok [.loc (Z1 ++ [O.lst [sc1]] ++ [O.lst [t]]).length] (Z1 ++ [O.lst [sc1]] ++ [O.lst [t]] ++ [O.lst ([sc1] ++ [t])]) := by
    simp only [lcat,List.cons_append,List.nil_append] at ad ⊢
    simp [-Z6b,g1,cu,ad]
  obtain ⟨Y2,e2⟩ := Z0f (ds := [(.int (0))]) (x := NoG ((1 : Nat) : Int)) (tv := .int 0) (nv := .loc (Z1 ++ [O.lst [sc1]] ++ [O.lst [t]]).length) hfa rfl (Z41 (ts := [sc1] ++ [t]) (j := 1) (Z36 (Zo (Zm _ _))) (by simp) (by simp) (by simp) (fun k u hk hu => by
    have : k = 0 := by omega
    subst this
    cases hu
    exact (Zbj 2).good _) (ht _ _))
  have s2 := Z0h (fl := fun Z' => eMake "Graph" Zg [(.int (0))] (aCons (eBin gAdd (eSl (eVar 8) (oSome (eC (.int 2))) (oSome (eC (.int 3)))) (eLst (aCons (eVar 7) aNil))) aNil) [s, o1, o2, o3, o4, o5, o6, some t, some (.loc i)] Z') e2
  refine ⟨[O.lst [t]] ++ (Y1 ++ ([O.lst [sc1]] ++ ([O.lst [t]] ++ ([O.lst ([sc1] ++ [t])] ++ Y2)))),?_⟩
  have hz : Z ++ ([O.lst [t]] ++ (Y1 ++ ([O.lst [sc1]] ++ ([O.lst [t]] ++ ([O.lst ([sc1] ++ [t])] ++ Y2))))) = Z1 ++ [O.lst [sc1]] ++ [O.lst [t]] ++ [O.lst ([sc1] ++ [t])] ++ Y2 := by rw [hZ1]; simp only [List.append_assoc]
  rw [hz]
  generalize hE : [s,o1,o2,o3,o4,o5,o6,some t,some (Fx.T.loc i)] = E at *
  generalize Z1 ++ [O.lst [sc1]] ++ [O.lst [t]] ++ [O.lst ([sc1] ++ [t])] ++ Y2 = ZZ at *
  simp [Z2e,s1,s2]
theorem law_2 {Z : Sto} {i : Nat} {ts : List Fx.T} (g : getL Z i = some ts) (hl : ts.length = 200) (h2 : ts[2]? = some sc1) : ∃ p7 Z', Z5l [s, o1, o2, o3, o4, o5, o6, o7, some (.loc i)] Z = Z5k [s, o1, o2, o3, o4, o5, o6, p7, some (.loc i)] Z' := by
  obtain ⟨R0,n0,m0⟩ := odd_0
  obtain ⟨R1,n1,m1⟩ := odd_p
  obtain ⟨W0,hW0⟩ : ∃ W0,W0 = Fx.T.tup [.str [115,101,113,117,101,110,99,101],.str [33,33,115,101,113],R0] := ⟨_,rfl⟩
  obtain ⟨W1,hW1⟩ : ∃ W1,W1 = Fx.T.tup [.str [109,97,112,112,105,110,103],.str [33,33,109,97,112],R1] := ⟨_,rfl⟩
  rw [← hW0] at n0
  rw [← hW1] at n1
  obtain ⟨ρ2, Z2, e2, p7, rfl, _⟩ := Z8n (ts := [W0, W1]) (body := fun t ρ' Z' => bS ρ' (gNm 7 t ρ' Z') Z2e) (ρ := [s, o1, o2, o3, o4, o5, o6, o7, some (.loc i)]) (Z := Z)
    (fun ρ Z' => ∃ p7, ρ = [s, o1, o2, o3, o4, o5, o6, p7, some (.loc i)] ∧ getL Z' i = some ts) (by simp [Lim]) ⟨_, rfl, g⟩
    (fun x hx ρ Z' h => by
      obtain ⟨p7, rfl, g'⟩ := h
      have hb : BA x := by
        rcases List.mem_cons.mp hx with h | h
        · rw [h]; exact n0
        · rw [List.mem_singleton.mp h]; exact n1
      obtain ⟨Y, e⟩ := law_o (s := s) (o1 := o1) (o2 := o2) (o3 := o3) (o4 := o4) (o5 := o5) (o6 := o6) g' hl h2 hb
      exact ⟨[s, o1, o2, o3, o4, o5, o6, some x, some (.loc i)], Z' ++ Y, by simp [e], _, rfl, Zo g'⟩)
  refine ⟨p7,Z2,?_⟩
  have hf : sFor (iAny (eTup (aCons (eTup (aCons (eC (.str [115,101,113,117,101,110,99,101])) (aCons (eC (.str [33,33,115,101,113])) (aCons (eBin gMulT (eTup (aCons (eC (.int 0)) aNil)) (eC (.int 1001))) aNil)))) (aCons (eTup (aCons (eC (.str [109,97,112,112,105,110,103])) (aCons (eC (.str [33,33,109,97,112])) (aCons (eBin gMulT (eTup (aCons (eTup (aCons (eC (.int 0)) (aCons (eC (.int 0)) aNil))) aNil)) (eC (.int 501))) aNil)))) aNil)))) (gNm 7) Z2e [s,o1,o2,o3,o4,o5,o6,o7,some (.loc i)] Z = .nx [s,o1,o2,o3,o4,o5,o6,p7,some (.loc i)] Z2 := by
    have hi : iAny (eTup (aCons (eTup (aCons (eC (.str [115,101,113,117,101,110,99,101])) (aCons (eC (.str [33,33,115,101,113])) (aCons (eBin gMulT (eTup (aCons (eC (.int 0)) aNil)) (eC (.int 1001))) aNil)))) (aCons (eTup (aCons (eC (.str [109,97,112,112,105,110,103])) (aCons (eC (.str [33,33,109,97,112])) (aCons (eBin gMulT (eTup (aCons (eTup (aCons (eC (.int 0)) (aCons (eC (.int 0)) aNil))) aNil)) (eC (.int 501))) aNil)))) aNil))) [s,o1,o2,o3,o4,o5,o6,o7,some (.loc i)] Z = .ok (itSeq [W0,W1]) Z := by
      rw [hW0,hW1]
      simp [m0,m1]
    rw [Za7,hi,Z7p]
    exact e2
  exact Z37 hf rfl
theorem law_3 {Z : Sto} (ns : List Int) : ∃ p1 p2 p3 p4 p5 p6 Z', Z5k [some (.frl (ns.map .int)), o1, o2, o3, o4, o5, o6, o7, o8] Z = Z3p [some (.frl (ns.map .int)), p1, p2, p3, p4, p5, p6, o7, o8] Z' := by
  obtain ⟨s,hs⟩ : ∃ s,s = some (Fx.T.frl (ns.map .int)) := ⟨_,rfl⟩
  have cu : cutL (ns.map Fx.T.int) none (some 6) = (ns.take 6).map .int := by
    have := Zct (ns.map Fx.T.int) 6
    rw [List.map_take]
    exact this
  have ad := Z3l Z.length (Z.length + 1) (Z ++ [O.lst ((ns.take 6).map .int)] ++ [O.lst [.int 0]]) (a := (ns.take 6).map .int) (b := [.int 0]) (by simp [getL]) (by simp [getL]) (by simp [Lim]; omega)
  obtain ⟨Z1,hZ1⟩ : ∃ Z1,Z1 = Z ++ [O.lst ((ns.take 6).map .int)] ++ [O.lst [.int 0]] ++ [O.lst ((ns.take 6).map .int ++ [.int 0])] := ⟨_,rfl⟩
  have hl : (Z ++ [O.lst ((ns.take 6).map Fx.T.int)] ++ [O.lst [.int 0]]).length = Z.length + 2 := by simp
  have g1 : getL Z1 (Z.length + 2) = some ((ns.take 6).map .int ++ [.int 0]) := by
    rw [hZ1,← hl]; exact Zm _ _
  obtain ⟨ρ2, Z2, e2, p1, p2, p3, p4, p5, p6, rfl, _⟩ := Z8m (i := Z.length + 2) (ts := (ns.take 6).map .int ++ [.int 0]) (body := fun t ρ' Z' => bS ρ' (gNm 1 t ρ' Z') Z2f) (ρ := [s, o1, o2, o3, o4, o5, o6, o7, o8]) (Z := Z1)
    (fun ρ Z' => ∃ p1 p2 p3 p4 p5 p6, ρ = [s, p1, p2, p3, p4, p5, p6, o7, o8] ∧ getL Z' (Z.length + 2) = some ((ns.take 6).map .int ++ [.int 0])) (by simp [Lim]; omega) (fun ρ Z' h => by obtain ⟨_, _, _, _, _, _, _, h⟩ := h; exact h) ⟨_, _, _, _, _, _, rfl, g1⟩
    (fun x hx ρ Z' h => by
      obtain ⟨p1,p2,p3,p4,p5,p6,rfl,g⟩ := h
      obtain ⟨c,rfl⟩ : ∃ c,x = .int c := by
        rcases List.mem_append.mp hx with h | h
        · obtain ⟨c,_,rfl⟩ := List.mem_map.mp h
          exact ⟨c,rfl⟩
        · exact ⟨0,List.mem_singleton.mp h⟩
      obtain ⟨q2, q3, q4, q5, q6, Z'', hk, _, e⟩ := Zed (Z := Z') c s p2 p3 p4 p5 p6 o7 o8
      refine ⟨[s, some (.int c), q2, q3, q4, q5, q6, o7, o8], Z'', by simp [e], _, _, _, _, _, _, rfl, ?_⟩
      have hlt := Z27 g
      rw [Xo] at g ⊢
      rw [hk _ hlt]; exact g)
  refine ⟨p1,p2,p3,p4,p5,p6,Z2,?_⟩
  have hf : sFor (iAny (eBin gAdd (eSl (eVar 0) oNone (oSome (eC (.int 6)))) (eLst (aCons (eC (.int 0)) aNil)))) (gNm 1) Z2f [s,o1,o2,o3,o4,o5,o6,o7,o8] Z = .nx [s,p1,p2,p3,p4,p5,p6,o7,o8] Z2 := by
    have hi : iAny (eBin gAdd (eSl (eVar 0) oNone (oSome (eC (.int 6)))) (eLst (aCons (eC (.int 0)) aNil))) [s,o1,o2,o3,o4,o5,o6,o7,o8] Z = .ok (itLoc (Z.length + 2)) Z1 := by
      rw [hl] at ad
      rw [hZ1] at g1 ⊢
      generalize (ns.take 6).map Fx.T.int = M at *
      generalize ns.map Fx.T.int = N at *
      simp only [lcat,List.cons_append,List.nil_append] at ad g1 ⊢
      simp [-Z6b,hs,cu,ad,g1]
    rw [Za7,hi,Z7p]
    exact e2
  rw [← hs]
  exact Z37 hf rfl
def sc2 : Fx.T := .tup [.str [115,99,97,108,97,114],.str [33,33,115,116,114],.str [97]]
theorem Zbk (n : Nat) : ND n sc2 := Zcn (by decide +kernel) (by decide) (by decide) (by decide) (by decide)
theorem law_4 {Z : Sto} : ∃ Z', Z3p [s, o1, o2, o3, o4, o5, o6, o7, o8] Z = .rt (.bl true) Z' := by
  obtain ⟨Y,e⟩ := Z5r (ds := [(.int (0))]) (fa := (aCons (eLst (aCons (eTup (aCons (eC (.str [115,99,97,108,97,114])) (aCons (eC (.str [33,33,115,116,114])) (aCons (eC (.str [97])) aNil)))) aNil)) aNil)) (ρ := [s,o1,o2,o3,o4,o5,o6,o7,o8]) (Z := Z) (Z1 := Z ++ [O.lst [sc2]]) (as := [.loc Z.length]) (ts := [sc2]) (nv := .loc Z.length) (top := 0) (by simp [sc2]) rfl (Z36 (Zm _ _)) (by simp) (by simp) (fun t ht => by rw [List.mem_singleton.mp ht]; exact (Zbk 1).good _) (by simp)
  have sd := Z5t (fl := fun Z' => eMake "Graph" Zg [(.int (0))] (aCons (eLst (aCons (eTup (aCons (eC (.str [115,99,97,108,97,114])) (aCons (eC (.str [33,33,115,116,114])) (aCons (eC (.str [97])) aNil)))) aNil)) aNil) [s, o1, o2, o3, o4, o5, o6, o7, o8] Z') e (Qv _ [sc2] 0 Y)
  have nn := Z6w (ts := [sc2]) (fun t ht => by rw [List.mem_singleton.mp ht]; exact (Zbk 1).pt) 0 (Z ++ [O.lst [sc2]] ++ .ins "Graph" (grF [sc2] 0) :: Y)
  refine ⟨Z ++ [O.lst [sc2]] ++ .ins "Graph" (grF [sc2] 0) :: Y, ?_⟩
  generalize hE : [s,o1,o2,o3,o4,o5,o6,o7,o8] = E at *
  generalize Z ++ [O.lst [sc2]] ++ .ins "Graph" (grF [sc2] 0) :: Y = ZZ at *
  simp only [sc2] at sd nn
  simp [Z3p,sd,nn]
end
theorem law_true (ns : List Int) (hn : ns.length ≤ 63) : ∃ Z,Zcj [.frl (ns.map .int)] [] = .ok (.bl true) Z := by
  obtain ⟨i,ts,Z0,g0,hl,hnd,h2,e0⟩ := law_w (s := some (.frl (ns.map .int))) (o1 := none) (o2 := none) (o3 := none) (o4 := none) (o5 := none) (o6 := none) (o7 := none)
  obtain ⟨Y1,e1⟩ := law_1 (s := some (.frl (ns.map .int))) (o1 := none) (o2 := none) (o3 := none) (o4 := none) (o5 := none) (o6 := none) (o7 := none) g0 hl hnd
  obtain ⟨p7,Z2,e2⟩ := law_2 (s := some (.frl (ns.map .int))) (o1 := none) (o2 := none) (o3 := none) (o4 := none) (o5 := none) (o6 := none) (o7 := none) (Zo (Y := Y1) g0) hl h2
  obtain ⟨p1,p2,p3,p4,p5,p6,Z3,e3⟩ := law_3 (o1 := none) (o2 := none) (o3 := none) (o4 := none) (o5 := none) (o6 := none) (o7 := p7) (o8 := some (.loc i)) (Z := Z2) ns
  obtain ⟨Z4,e4⟩ := law_4 (s := some (.frl (ns.map .int))) (o1 := p1) (o2 := p2) (o3 := p3) (o4 := p4) (o5 := p5) (o6 := p6) (o7 := p7) (o8 := some (.loc i)) (Z := Z3)
  exact ⟨Z4,Z2n (n := 9) (as := [.frl (ns.map .int)]) (e0.trans (e1.trans (e2.trans (e3.trans e4))))⟩
end Ap
set_option maxHeartbeats 4000000
open PySem PySem.W PySem.Calls PyProof.Rows
set_option maxHeartbeats 0 in
theorem PySem.Challenge.cw_anchorpages_k35_values_of_graphs_holds : PySem.Challenge.rw_anchorpages_k35_values_of_graphs.Holds := by
  refine Ap.pre_law ?_
  refine HandSHeadRun.head_any (r := OpenLaw.row PySem.Challenge.rw_anchorpages_k35_values_of_graphs) (q := view (OpenLaw.row PySem.Challenge.rw_anchorpages_k35_values_of_graphs).prog [24,25,26]) (H := Ap.hk5) (ob := Ap.ob5) (M := 5620) (loose := Ap.nms) (d := HandSHeadRun.topDef (OpenLaw.row PySem.Challenge.rw_anchorpages_k35_values_of_graphs).prog 26) (kwd := []) Ap.Zdn
    (by kernel_rfl) (fun s => by kernel_rfl) Ap.run5 (by kernel_rfl) (by kernel_rfl) (by kernel_rfl) (by rfl) (by first | assumption | decide +kernel) (by decide +kernel) ⟨rfl,rfl,rfl,rfl,rfl,by decide +kernel⟩ ?hw ?hc
  case hw => w_witness2
  case hc =>
    refine Fx.Za2 (l := PySem.Challenge.rw_anchorpages_k35_values_of_graphs) (n := 63) (k := 10) (x := "_law_script") (F := Ap.Zcj) [Ap.Vj, Ap.Wu, Ap.Z8h] rfl (by decide) (by kernel_rfl) ⟨rfl, by decide, by decide⟩ (fun m hm => ?R) ?F Ap.law_true
    case R =>
      simp only [List.mem_cons,List.not_mem_nil,or_false] at hm
      rcases hm with rfl | rfl | rfl
      · exact Ap.Z05
      · exact Ap.Jt
      · exact Ap.Zdo
    intro w mg K C
    have e : (HandSHeadRun.topDef (OpenLaw.row PySem.Challenge.rw_anchorpages_k35_values_of_graphs).prog 26).name = ("law" : PySem.Str) := by kernel_rfl
    rw [e]
    refine ⟨fun m hm => ?_,of_decide_eq_true (C.c.fact 53),_,Ap.Zdw C,fun s v => L2.FunD.bindsA (ps := Ap.Zc9) (Ap.Zb7 C) (fun _ _ _ _ _ _ us hl => match us,hl with | [_],_ => rfl) s [v] rfl,fun base B => @Ap.Zdx _ base ⟨Fx.tbY Ap.mks K⟩ w K mg C B⟩
    simp only [List.mem_cons,List.not_mem_nil,or_false] at hm
    rcases hm with rfl | rfl | rfl
    · exact C.c.fact 0
    · exact C.c.fact 1
    · exact C.c.fact 2
#print axioms PySem.Challenge.cw_anchorpages_k35_values_of_graphs_holds

