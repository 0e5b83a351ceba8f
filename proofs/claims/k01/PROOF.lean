import PyProof.Rows.All
import Wide.All
import OpenK.AllK
import Wide.FinOn
import KE.OsRunLaw
import HandS.ExcInit
import HandS.ExcValue
import HandS.ForMost
import HandS.ForExc
import HandS.Lambda
import HandS.DictComp
import HandS.IsInst
import HandS.Wide
import HandS.ListItems
import HandS.Zip
import HandS.Style
import HandS.Property
import HandS.Small
import HandS.Iter
import HandS.Ends
import KE.KEqNest
import PyProof.EqKinds
import PyProof.InstEq
import OpenK.KWalk
import HandS.ClsMeth
import HandS.Conv
import HandS.Flow
import HandS.Strs
import PyProof.CollectIter
import KE.GoesEnumKw
import PyProof.CallFns
import HandS.SortInts
import PyProof.TupleOfSeq
import HandS.Star
import HandS.NoneIn
import HandS.MakeKwOnly
import HandS.Dict
import HandS.SetFor
import HandS.TupAny
import HandS.ExcIs
import HandS.ExcField
import HandS.FStr
import HandS.Text
import KE.SortKeyHeap
import HandS.SortKw
import HandS.More
import HandS.GenList
import KE.SortData
import HandS.SetTxt0
import HandS.Set
import PyProof.StrLawsRepr
import KE.KDictList
import PyProof.FactsAll.dict_1
import PyProof.StrBlock2
import HandS.StrMore
import HandS.EndTab
import PySem.Challenge.RW_quotasteps_k01_errors
set_option Elab.async false
set_option linter.all false
set_option maxRecDepth 100000
set_option maxHeartbeats 4000000
noncomputable section
namespace PySem
namespace HandSPX
open Builtin.ObjectAttr Builtin
section
variable {A : Around} {M : Model} {h : Heap} {g : Array GenState} {d : Drawn} {t : Nat} {os : OsState} {E : Value → Shared → Prop}
variable {nm q : Str} {Z N : Addr} {bs m0 mB : List Value} {hdct : Bool} {sn : List Str} {sub : List Value} {ab : Bool} {col : Option Bool} {dd : Option Addr} {k0 k1 k2 k3 k5 : Option Value} {B nI iI : String}
theorem check_new_own_kw (F : ExcBaseFacts B nI iI mB) (eT : ∀ Y : String, m0.contains (.type Y) = mB.contains (.type Y)) {as : List Value} {kws : List (Str × Value)} {Q : Unit → Shared → Prop}
    (kZ : h.get? Z = some (excClassObj nm q Z N bs m0 hdct sn sub ab col dd k0 k1 k2 k3 k5 nI)) (fin : Q () ⟨h, g, d, t, os⟩) : wpAny M A (checkBuiltinCall nI ⟨.ref Z :: as, kws⟩) Q E ⟨h, g, d, t, os⟩ := by
  have cB : (Value.ref Z :: m0).contains (.type B) = true := by rw [List.contains_cons, eT, F.hasB, Bool.or_true]
  have starF := F.noStar
  simp only [checkBuiltinCall, F.newRow, F.newSplit, F.newKind]
  repeat (first | refine wpAny_loadPart_at kZ ?_ | (refine wpAny_isSubtype_exc kZ ?_; rw [cB]) | refine wpAny_staticBase_exc kZ ?_ | refine wpAny_madeBy_exc kZ ?_ | simp only [bne_self_eq_false, Bool.false_eq_true, if_false] | wp_step)
  exact fin
end
section
variable {A : Around} {prog : Program} {w : World} {h : Heap} {g : Array GenState} {d : Drawn} {t : Nat} {os : OsState} {E : Value → Shared → Prop} {R : Result → Shared → Prop}
variable {nm q : Str} {Z N : Addr} {bs m0 mB : List Value} {hdct : Bool} {sn : List Str} {sub : List Value} {ab : Bool} {col : Option Bool} {dd : Option Addr} {k0 k1 k2 k3 k5 : Option Value} {B nI iI : String}
theorem new_own_kw (F : ExcBaseFacts B nI iI mB) (eT : ∀ Y : String, m0.contains (.type Y) = mB.contains (.type Y)) {as : List Value} {kws : List (Str × Value)}
    (kZ : h.get? Z = some (excClassObj nm q Z N bs m0 hdct sn sub ab col dd k0 k1 k2 k3 k5 nI))
    (fin : R (.ok (.ret (.ref (h.objs.size + 1)))) ⟨(h.push { cls := .type "tuple", data := .seq as.toArray }).push
      { cls := .ref Z, data := .fields #[.ref h.objs.size, .none, .none, .none, .bool false, .none] }, g, d, t, os⟩) (lenA : as.length ≤ sizeLine) :
    codeAny (model prog w) A (.builtin nI ⟨.ref Z :: as, kws⟩) R ⟨h, g, d, t, os⟩ := by
  have endsF := F.ends
  have cB : (Value.ref Z :: m0).contains (.type B) = true := by rw [List.contains_cons, eT, F.hasB, Bool.or_true]
  have cA : (Value.ref Z :: m0).contains (.type "AttributeError") = false := by rw [List.contains_cons, eT, F.noAttr]; rfl
  have cN : (Value.ref Z :: m0).contains (.type "NameError") = false := by rw [List.contains_cons, eT, F.noName]; rfl
  refine codeAny_builtinAt F.entry ?_; unfold Builtin.«BaseException.__new__»
  refine wpAt_bind ?_
  show wpAt _ _ _ (stack >>= _) _ _ _; try skip
  refine wpAt_bind (wpAt_stack fun pp qq => wpAt_of_wpAny ?_)
  wp_walk
  refine wpAt_of_wpAny ?_
  rw [F.owner]
  repeat (first | with_reducible refine wpAny_madeHere_exc F.canon kZ ?_ | with_reducible refine wpAny_loadPart_at kZ ?_ | (with_reducible refine wpAny_isSubtype_exc kZ ?_; first | rw [cB] | rw [cA] | rw [cN]) | wp_step)
  show R _ _
  rw [Heap.size_push]
  exact fin
theorem type_call_own_kw (F : ExcBaseFacts B nI iI mB) (eT : ∀ Y : String, m0.contains (.type Y) = mB.contains (.type Y)) {as : List Value} {kws : List (Str × Value)} {gI : Addr} {Q : Fin → Shared → Prop}
    (kZ : h.get? Z = some (excClassObj nm q Z N bs m0 hdct sn sub ab col dd k0 k1 k2 k3 k5 nI))
    (lkI : W.Looks (model prog w) h (typeLookup (.ref Z) "__init__") (some (.ref gI))) (bdI : ∀ self, W.Looks (model prog w) h (bindSpecial (.ref gI) self) (.ref gI, [self])) (lenA : as.length ≤ sizeLine)
    (fin : codeAny (model prog w) A (.call (.ref gI) ⟨.ref (h.objs.size + 1) :: as, kws⟩)
      (fun y s2 => match y with | .ok (.ret v9) => v9 = .none ∧ Q (.done (.ret (.ref (h.objs.size + 1)))) s2 | .ok _ => False | .error e9 => E e9 s2)
      ⟨(h.push (W.kdv_tup as)).push (excO Z h.objs.size), g, d, t, os⟩) :
    wpAny (model prog w) A (Builtin.«type.__call__» ⟨.ref Z :: as, kws⟩) Q E ⟨h, g, d, t, os⟩ := by
  repeat (first | with_reducible refine wpAny_loadPart_at kZ ?_ | with_reducible refine wpAny_madeBy_exc kZ ?_ | wp_step)
  refine codeAny_call_builtin_code (Code.quiet_builtin _ F.quiet) (check_new_own_kw F eT kZ ?_)
  refine new_own_kw F eT kZ ?_ lenA
  show wpAny _ _ _ _ _ _
  have old : ∀ b9 o9, h.get? b9 = some o9 → ((h.push (W.kdv_tup as)).push (excO Z h.objs.size)).get? b9 = some o9 := fun b9 o9 e9 => Heap.get?_push_of_some _ (Heap.get?_push_of_some _ e9)
  have kZ2 := old _ _ kZ
  have atE : ((h.push (W.kdv_tup as)).push (excO Z h.objs.size)).get? (h.objs.size + 1) = some (excO Z h.objs.size) := by heap_get
  have cZ : (Value.ref Z :: m0).contains (.ref Z) = true := by simp
  have j1 := lkI.keeps old
  have j2 := (bdI (.ref (h.objs.size + 1))).keeps old
  unfold isInstance
  repeat (first | with_reducible refine wpAny_loadPart_at atE ?_ | (with_reducible refine wpAny_isSubtype_exc kZ2 ?_; rw [cZ]) | wp_step)
  show wpAny _ _ (typeLookup (.ref Z) _) _ _ _
  refine j1.at ?_
  refine wpAny_holding (wpAny_bind (j2.at ?_))
  refine wpAny_bind (wpAny_call (codeAny_mono fin fun y s2 u => ?_))
  rcases y with e9 | (v9 | _ | _ | _) <;> first | exact u | exact u.elim | skip
  obtain ⟨rfl, u⟩ := u
  first
    | exact wpAny_pure (wpAny_pure u)
    | (wp_walk; exact u)
theorem call_own_kw (F : ExcBaseFacts B nI iI mB) (eT : ∀ Y : String, m0.contains (.type Y) = mB.contains (.type Y)) {as : List Value} {kws : List (Str × Value)} {gI : Addr}
    (kZ : h.get? Z = some (excClassObj nm q Z N bs m0 hdct sn sub ab col dd k0 k1 k2 k3 k5 nI))
    (lkI : W.Looks (model prog w) h (typeLookup (.ref Z) "__init__") (some (.ref gI))) (bdI : ∀ self, W.Looks (model prog w) h (bindSpecial (.ref gI) self) (.ref gI, [self])) (lenA : as.length ≤ sizeLine)
    (fin : codeAny (model prog w) (A.under (.builtin "type.__call__" ⟨.ref Z :: as, kws⟩)) (.call (.ref gI) ⟨.ref (h.objs.size + 1) :: as, kws⟩) (W.InitBack (h.objs.size + 1) R)
      ⟨(h.push (W.kdv_tup as)).push (excO Z h.objs.size), g, d, t, os⟩) :
    codeAny (model prog w) A (.call (.ref Z) ⟨as, kws⟩) R ⟨h, g, d, t, os⟩ := by
  have tcl := tc_lookup
  have tcb := tc_bind (.ref Z)
  have tyZ : (⟨h, g, d, t, os⟩ : Shared).TypeIs (.ref Z) "type" := ⟨_, kZ, rfl⟩
  refine codeAny_of_tree ?_
  show wpAny _ _ (callAny (.ref Z) _) _ _ _
  repeat (any_goals (first | assumption | with_reducible refine wpAny_loadPart_at kZ ?_ | wp_step))
  refine ⟨rfl, ?_⟩
  refine codeAny_call_builtin_at (Code.quiet_builtin _ (by decide +kernel)) entry_typeCall (wpAny_check_type_call_sub kZ (type_call_own_kw F eT kZ lkI bdI lenA ?_))
  refine codeAny_mono fin fun y s2 u => ?_
  rcases y with e9 | (v9 | _ | _ | _) <;> exact u
end
end HandSPX
end PySem
namespace DL
open PySem PySem.Spec PyProof.Rows L2
abbrev Kf := PySem.W.Frag
inductive D where
  | non | bl (b : Bool) | int (i : Int) | str (x : Str)
  | lst (xs : List D) | tup (xs : List D) | dct (kvs : List (Key × D)) | ins (C : Addr) (fs : List (Str × D))
  | scr (ns : List Int)
  | exn (C : Addr) (own : Bool) (fs : List (Str × D))
inductive T where
  | sh (d : D) | lst (xs : List T) | dct (kvs : List (Key × T)) | ins (C : Addr) (fs : List (Str × T))
mutual
def T.er : T → D
  | .sh d => d
  | .lst ts => .lst (T.ers ts)
  | .dct kts => .dct (T.erk kts)
  | .ins C fs => .ins C (T.erf fs)
def T.ers : List T → List D
  | [] => []
  | t :: r => t.er :: T.ers r
def T.erk : List (Key × T) → List (Key × D)
  | [] => []
  | p :: r => T.erkp p :: T.erk r
def T.erkp : Key × T → Key × D
  | (k, t) => (k, t.er)
def T.erf : List (Str × T) → List (Str × D)
  | [] => []
  | p :: r => T.erfp p :: T.erf r
def T.erfp : Str × T → Str × D
  | (k, t) => (k, t.er)
end
theorem T.ers_map : ∀ ts : List T, T.ers ts = ts.map T.er
  | [] => rfl
  | t :: r => by rw [T.ers, T.ers_map r]; rfl
def exR (a C : Addr) (od : Option Addr) : HO := .ext fun h => ∃ (oe : Obj) (vs : Array Value), h.get? a = some oe ∧ Zc (.ref C) od oe ∧ oe.data = .fields vs
def ExD (F : Hp) (own : Bool) (od : Option Addr) (fvs : List (Str × V)) : Prop := (own = true ∧ ∃ d, od = some d ∧ F d = some (.xd fvs)) ∨ (own = false ∧ od = none ∧ fvs = [])
mutual
def DR (K : Kf) (F : Hp) : D → V → Prop
  | .non, v => v = .non
  | .bl b, v => v = .bl b
  | .int i, v => v = .int i
  | .str x, v => v = .str x
  | .lst ds, v => ∃ a vs, v = .ref a ∧ F a = some (.lst vs) ∧ DRs K F ds vs
  | .tup ds, v => ∃ a vs, v = .ref a ∧ F a = some (.tup vs) ∧ DRs K F ds vs
  | .dct kds, v => ∃ a kvs, v = .ref a ∧ Rd F a (.dK kvs) ∧ DRk K F kds kvs
  | .ins C fs, v => ∃ a dx fvs, v = .ref a ∧ F a = some (.ins C dx fvs) ∧ DRf K F fs fvs
  | .scr ns, v => ∃ a, v = .ref a ∧ SqL K F a (ns.map V.int)
  | .exn C own fs, v => ∃ a od fvs, v = .ref a ∧ F a = some (exR a C od) ∧ ExD F own od fvs ∧ DRf K F fs fvs
def DRs (K : Kf) (F : Hp) : List D → List V → Prop
  | [], vs => vs = []
  | d :: r, vs => ∃ v vs', vs = v :: vs' ∧ DR K F d v ∧ DRs K F r vs'
def DRk (K : Kf) (F : Hp) : List (Key × D) → List (Key × V) → Prop
  | [], vs => vs = []
  | p :: r, vs => ∃ v vs', vs = v :: vs' ∧ DRkp K F p v ∧ DRk K F r vs'
def DRkp (K : Kf) (F : Hp) : Key × D → Key × V → Prop
  | (k, d), p => p.1 = k ∧ DR K F d p.2
def DRf (K : Kf) (F : Hp) : List (Str × D) → List (Str × V) → Prop
  | [], vs => vs = []
  | p :: r, vs => ∃ v vs', vs = v :: vs' ∧ DRfp K F p v ∧ DRf K F r vs'
def DRfp (K : Kf) (F : Hp) : Str × D → Str × V → Prop
  | (k, d), p => p.1 = k ∧ DR K F d p.2
end
structure SubR (F H : Hp) : Prop where
  sub : ∀ a o, F a = some o → H a = some o ∨ ∃ od kvs, o = .dK kvs ∧ H a = some (.frz od (.dK kvs))
theorem SubR.rd {F H : Hp} (h : SubR F H) (a : Addr) (u : HO) (r : Rd F a u) : Rd H a u := by
  rcases r with r | ⟨o, r⟩
  · rcases h.sub a u r with z | ⟨od, kvs, e, z⟩
    · exact .inl z
    · exact .inr ⟨od, by rw [e]; exact z⟩
  · rcases h.sub a _ r with z | ⟨od, kvs, e, z⟩
    · exact .inr ⟨o, z⟩
    · cases e
theorem SubR.ex {F H : Hp} (h : SubR F H) {a : Addr} {u : HO} (r : F a = some u) (n : ∀ kvs, u ≠ .dK kvs) : H a = some u := by
  rcases h.sub a u r with z | ⟨od, kvs, e, z⟩
  · exact z
  · exact absurd e (n kvs)
theorem SubR.is {F H : Hp} (h : SubR F H) (a C dx : Addr) (fs : List (Str × V)) (r : F a = some (.ins C dx fs)) : H a = some (.ins C dx fs) := h.ex r (fun _ z => nomatch z)
theorem SubR.ls {F H : Hp} (h : SubR F H) {a : Addr} {xs : List V} (r : F a = some (.lst xs)) : H a = some (.lst xs) := h.ex r (fun _ z => nomatch z)
theorem SubR.tp {F H : Hp} (h : SubR F H) {a : Addr} {xs : List V} (r : F a = some (.tup xs)) : H a = some (.tup xs) := h.ex r (fun _ z => nomatch z)
theorem SubR.refl (F : Hp) : SubR F F := ⟨fun _ _ h => .inl h⟩
theorem SubR.trans {F G H : Hp} (a : SubR F G) (b : SubR G H) : SubR F H := ⟨fun c o h => by
  rcases a.sub c o h with z | ⟨od, kvs, e, z⟩
  · exact b.sub c o z
  · exact .inr ⟨od, kvs, e, b.ex z (fun _ z => nomatch z)⟩⟩
theorem SubR.of {F H : Hp} (h : Same F H) : SubR F H := ⟨fun a o r => .inl (h a o r)⟩
structure SubV (F H : Hp) : Prop where
  sub : ∀ a o, F a = some o → (∀ ps, o ≠ .tbl ps) → H a = some o ∨ ∃ od kvs, o = .dK kvs ∧ H a = some (.frz od (.dK kvs))
theorem SubR.v {F H : Hp} (h : SubR F H) : SubV F H := ⟨fun a o e _ => h.sub a o e⟩
instance {F H : Hp} : Coe (SubR F H) (SubV F H) := ⟨SubR.v⟩
theorem SubV.ex {F H : Hp} (h : SubV F H) {a : Addr} {u : HO} (r : F a = some u) (n : ∀ kvs, u ≠ .dK kvs) (m : ∀ ps, u ≠ .tbl ps) : H a = some u := by
  rcases h.sub a u r m with z | ⟨od, kvs, e, z⟩
  · exact z
  · exact absurd e (n kvs)
theorem SubV.rd {F H : Hp} (h : SubV F H) (a : Addr) (u : HO) (r : Rd F a u) (n : ∀ ps, u ≠ .tbl ps := by intro _ z; cases z) : Rd H a u := by
  rcases r with r | ⟨o, r⟩
  · rcases h.sub a u r n with z | ⟨od, kvs, e, z⟩
    · exact .inl z
    · exact .inr ⟨od, by rw [e]; exact z⟩
  · rcases h.sub a _ r (fun _ z => nomatch z) with z | ⟨od, kvs, e, z⟩
    · exact .inr ⟨o, z⟩
    · cases e
theorem SubV.is {F H : Hp} (h : SubV F H) (a C dx : Addr) (fs : List (Str × V)) (r : F a = some (.ins C dx fs)) : H a = some (.ins C dx fs) := h.ex r (fun _ z => nomatch z) (fun _ z => nomatch z)
theorem SubV.ls {F H : Hp} (h : SubV F H) {a : Addr} {xs : List V} (r : F a = some (.lst xs)) : H a = some (.lst xs) := h.ex r (fun _ z => nomatch z) (fun _ z => nomatch z)
theorem ExD.mono {F H : Hp} (h : SubR F H) {own : Bool} {od : Option Addr} {fvs : List (Str × V)} (x : ExD F own od fvs) : ExD H own od fvs := by
  rcases x with ⟨o, d, e, q⟩ | x
  · exact .inl ⟨o, d, e, h.ex q (fun _ z => nomatch z)⟩
  · exact .inr x
theorem SubR.sq {K : Kf} {F H : Hp} (h : SubR F H) {a : Addr} {xs : List V} (q : SqL K F a xs) : SqL K H a xs := by
  rcases q with q | q
  · exact .inl (h.rd _ _ q)
  · exact .inr q
mutual
theorem DR.mono {K : Kf} {F H : Hp} (h : SubR F H) : ∀ {d : D} {v : V}, DR K F d v → DR K H d v
  | .non, _, r => r
  | .bl _, _, r => r
  | .int _, _, r => r
  | .str _, _, r => r
  | .lst _, _, ⟨a, vs, e, q, r⟩ => ⟨a, vs, e, h.ls q, DRs.mono h r⟩
  | .tup _, _, ⟨a, vs, e, q, r⟩ => ⟨a, vs, e, h.tp q, DRs.mono h r⟩
  | .dct _, _, ⟨a, vs, e, q, r⟩ => ⟨a, vs, e, h.rd _ _ q, DRk.mono h r⟩
  | .ins _ _, _, ⟨a, dx, vs, e, q, r⟩ => ⟨a, dx, vs, e, h.is _ _ _ _ q, DRf.mono h r⟩
  | .scr _, _, ⟨a, e, q⟩ => ⟨a, e, h.sq q⟩
  | .exn _ _ _, _, ⟨a, od, fvs, e, q, x, r⟩ => ⟨a, od, fvs, e, h.ex q (fun _ z => nomatch z), x.mono h, DRf.mono h r⟩
theorem DRs.mono {K : Kf} {F H : Hp} (h : SubR F H) : ∀ {d : List D} {v : List V}, DRs K F d v → DRs K H d v
  | [], _, r => r
  | _ :: _, _, ⟨v, vs, e, r, q⟩ => ⟨v, vs, e, DR.mono h r, DRs.mono h q⟩
theorem DRk.mono {K : Kf} {F H : Hp} (h : SubR F H) : ∀ {d : List (Key × D)} {v : List (Key × V)}, DRk K F d v → DRk K H d v
  | [], _, r => r
  | (_, _) :: _, _, ⟨v, vs, e, ⟨r1, r⟩, q⟩ => ⟨v, vs, e, ⟨r1, DR.mono h r⟩, DRk.mono h q⟩
theorem DRf.mono {K : Kf} {F H : Hp} (h : SubR F H) : ∀ {d : List (Str × D)} {v : List (Str × V)}, DRf K F d v → DRf K H d v
  | [], _, r => r
  | (_, _) :: _, _, ⟨v, vs, e, ⟨r1, r⟩, q⟩ => ⟨v, vs, e, ⟨r1, DR.mono h r⟩, DRf.mono h q⟩
end
mutual
def TR (K : Kf) (F H : Hp) : T → V → List Addr → Prop
  | .sh d, v, S => S = [] ∧ DR K F d v
  | .lst ts, v, S => ∃ a vs S', v = .ref a ∧ H a = some (.lst vs) ∧ S = a :: S' ∧ TRs K F H ts vs S'
  | .dct ts, v, S => ∃ a vs S', v = .ref a ∧ H a = some (.dK vs) ∧ S = a :: S' ∧ TRk K F H ts vs S' ∧ (ts.map Prod.fst).Nodup
  | .ins C ts, v, S => ∃ a dx vs S', v = .ref a ∧ H a = some (.ins C dx vs) ∧ S = a :: S' ∧ TRf K F H ts vs S'
def TRs (K : Kf) (F H : Hp) : List T → List V → List Addr → Prop
  | [], vs, S => vs = [] ∧ S = []
  | t :: r, vs, S => ∃ v vs' S1 S2, vs = v :: vs' ∧ S = S1 ++ S2 ∧ TR K F H t v S1 ∧ TRs K F H r vs' S2
def TRk (K : Kf) (F H : Hp) : List (Key × T) → List (Key × V) → List Addr → Prop
  | [], vs, S => vs = [] ∧ S = []
  | p :: r, vs, S => ∃ v vs' S1 S2, vs = v :: vs' ∧ S = S1 ++ S2 ∧ TRkp K F H p v S1 ∧ TRk K F H r vs' S2
def TRkp (K : Kf) (F H : Hp) : Key × T → Key × V → List Addr → Prop
  | (k, t), p, S => p.1 = k ∧ TR K F H t p.2 S
def TRf (K : Kf) (F H : Hp) : List (Str × T) → List (Str × V) → List Addr → Prop
  | [], vs, S => vs = [] ∧ S = []
  | p :: r, vs, S => ∃ v vs' S1 S2, vs = v :: vs' ∧ S = S1 ++ S2 ∧ TRfp K F H p v S1 ∧ TRf K F H r vs' S2
def TRfp (K : Kf) (F H : Hp) : Str × T → Str × V → List Addr → Prop
  | (k, t), p, S => p.1 = k ∧ TR K F H t p.2 S
end
mutual
def VR (K : Kf) (G F : Hp) : T → V → Prop
  | .sh d, v => DR K F d v
  | .lst ts, v => ∃ a vs, v = .ref a ∧ G a = some (.lst vs) ∧ VRs K G F ts vs
  | .dct ts, v => ∃ a vs, v = .ref a ∧ Rd G a (.dK vs) ∧ VRk K G F ts vs
  | .ins C ts, v => ∃ a dx vs, v = .ref a ∧ G a = some (.ins C dx vs) ∧ VRf K G F ts vs
def VRs (K : Kf) (G F : Hp) : List T → List V → Prop
  | [], vs => vs = []
  | t :: r, vs => ∃ v vs', vs = v :: vs' ∧ VR K G F t v ∧ VRs K G F r vs'
def VRk (K : Kf) (G F : Hp) : List (Key × T) → List (Key × V) → Prop
  | [], vs => vs = []
  | p :: r, vs => ∃ v vs', vs = v :: vs' ∧ VRkp K G F p v ∧ VRk K G F r vs'
def VRkp (K : Kf) (G F : Hp) : Key × T → Key × V → Prop
  | (k, t), p => p.1 = k ∧ VR K G F t p.2
def VRf (K : Kf) (G F : Hp) : List (Str × T) → List (Str × V) → Prop
  | [], vs => vs = []
  | p :: r, vs => ∃ v vs', vs = v :: vs' ∧ VRfp K G F p v ∧ VRf K G F r vs'
def VRfp (K : Kf) (G F : Hp) : Str × T → Str × V → Prop
  | (k, t), p => p.1 = k ∧ VR K G F t p.2
end
mutual
theorem VR.monoV {K : Kf} {G G' F F' : Hp} (g : SubV G G') (f : SubR F F') : ∀ {t : T} {v : V}, VR K G F t v → VR K G' F' t v
  | .sh _, _, r => DR.mono f r
  | .lst _, _, ⟨a, vs, e, q, r⟩ => ⟨a, vs, e, g.ls q, VRs.monoV g f r⟩
  | .dct _, _, ⟨a, vs, e, q, r⟩ => ⟨a, vs, e, g.rd _ _ q, VRk.monoV g f r⟩
  | .ins _ _, _, ⟨a, dx, vs, e, q, r⟩ => ⟨a, dx, vs, e, g.is _ _ _ _ q, VRf.monoV g f r⟩
theorem VRs.monoV {K : Kf} {G G' F F' : Hp} (g : SubV G G') (f : SubR F F') : ∀ {t : List T} {v : List V}, VRs K G F t v → VRs K G' F' t v
  | [], _, r => r
  | _ :: _, _, ⟨v, vs, e, r, q⟩ => ⟨v, vs, e, VR.monoV g f r, VRs.monoV g f q⟩
theorem VRk.monoV {K : Kf} {G G' F F' : Hp} (g : SubV G G') (f : SubR F F') : ∀ {t : List (Key × T)} {v : List (Key × V)}, VRk K G F t v → VRk K G' F' t v
  | [], _, r => r
  | (_, _) :: _, _, ⟨v, vs, e, ⟨r1, r⟩, q⟩ => ⟨v, vs, e, ⟨r1, VR.monoV g f r⟩, VRk.monoV g f q⟩
theorem VRf.monoV {K : Kf} {G G' F F' : Hp} (g : SubV G G') (f : SubR F F') : ∀ {t : List (Str × T)} {v : List (Str × V)}, VRf K G F t v → VRf K G' F' t v
  | [], _, r => r
  | (_, _) :: _, _, ⟨v, vs, e, ⟨r1, r⟩, q⟩ => ⟨v, vs, e, ⟨r1, VR.monoV g f r⟩, VRf.monoV g f q⟩
end
theorem VR.mono {K : Kf} {G G' F F' : Hp} (g : SubR G G') (f : SubR F F') {t : T} {v : V} (r : VR K G F t v) : VR K G' F' t v := r.monoV g.v f
mutual
theorem VR.dr {K : Kf} {G F : Hp} (f : SubR F G) : ∀ {t : T} {v : V}, VR K G F t v → DR K G t.er v
  | .sh _, _, r => DR.mono f r
  | .lst _, _, ⟨a, vs, e, q, r⟩ => ⟨a, vs, e, q, VRs.dr f r⟩
  | .dct _, _, ⟨a, vs, e, q, r⟩ => ⟨a, vs, e, q, VRk.dr f r⟩
  | .ins _ _, _, ⟨a, dx, vs, e, q, r⟩ => ⟨a, dx, vs, e, q, VRf.dr f r⟩
theorem VRs.dr {K : Kf} {G F : Hp} (f : SubR F G) : ∀ {t : List T} {v : List V}, VRs K G F t v → DRs K G (T.ers t) v
  | [], _, r => r
  | _ :: _, _, ⟨v, vs, e, r, q⟩ => ⟨v, vs, e, VR.dr f r, VRs.dr f q⟩
theorem VRk.dr {K : Kf} {G F : Hp} (f : SubR F G) : ∀ {t : List (Key × T)} {v : List (Key × V)}, VRk K G F t v → DRk K G (T.erk t) v
  | [], _, r => r
  | (_, _) :: _, _, ⟨v, vs, e, ⟨r1, r⟩, q⟩ => ⟨v, vs, e, ⟨r1, VR.dr f r⟩, VRk.dr f q⟩
theorem VRf.dr {K : Kf} {G F : Hp} (f : SubR F G) : ∀ {t : List (Str × T)} {v : List (Str × V)}, VRf K G F t v → DRf K G (T.erf t) v
  | [], _, r => r
  | (_, _) :: _, _, ⟨v, vs, e, ⟨r1, r⟩, q⟩ => ⟨v, vs, e, ⟨r1, VR.dr f r⟩, VRf.dr f q⟩
end
mutual
theorem TR.vr {K : Kf} {F H : Hp} : ∀ {t : T} {v : V} {S : List Addr}, TR K F H t v S → VR K H F t v
  | .sh _, _, _, ⟨_, r⟩ => r
  | .lst _, _, _, ⟨a, vs, S', e, q, _, r⟩ => ⟨a, vs, e, q, TRs.vr r⟩
  | .dct _, _, _, ⟨a, vs, S', e, q, _, r, _⟩ => ⟨a, vs, e, .inl q, TRk.vr r⟩
  | .ins _ _, _, _, ⟨a, dx, vs, S', e, q, _, r⟩ => ⟨a, dx, vs, e, q, TRf.vr r⟩
theorem TRs.vr {K : Kf} {F H : Hp} : ∀ {t : List T} {v : List V} {S : List Addr}, TRs K F H t v S → VRs K H F t v
  | [], _, _, r => r.1
  | _ :: _, _, _, ⟨v, vs, S1, S2, e, _, r, q⟩ => ⟨v, vs, e, TR.vr r, TRs.vr q⟩
theorem TRk.vr {K : Kf} {F H : Hp} : ∀ {t : List (Key × T)} {v : List (Key × V)} {S : List Addr}, TRk K F H t v S → VRk K H F t v
  | [], _, _, r => r.1
  | (_, _) :: _, _, _, ⟨v, vs, S1, S2, e, _, ⟨r1, r⟩, q⟩ => ⟨v, vs, e, ⟨r1, TR.vr r⟩, TRk.vr q⟩
theorem TRf.vr {K : Kf} {F H : Hp} : ∀ {t : List (Str × T)} {v : List (Str × V)} {S : List Addr}, TRf K F H t v S → VRf K H F t v
  | [], _, _, r => r.1
  | (_, _) :: _, _, _, ⟨v, vs, S1, S2, e, _, ⟨r1, r⟩, q⟩ => ⟨v, vs, e, ⟨r1, TR.vr r⟩, TRf.vr q⟩
end
mutual
theorem TR.mono {K : Kf} {F F' H H' : Hp} (f : SubR F F') : ∀ {t : T} {v : V} {S : List Addr}, (∀ a ∈ S, ∀ o, H a = some o → H' a = some o) → TR K F H t v S → TR K F' H' t v S
  | .sh _, _, _, _, ⟨e, r⟩ => ⟨e, DR.mono f r⟩
  | .lst _, _, _, h, ⟨a, vs, S', e, q, eS, r⟩ => ⟨a, vs, S', e, h a (by rw [eS]; exact List.mem_cons_self) _ q, eS, TRs.mono f (fun b hb => h b (by rw [eS]; exact List.mem_cons_of_mem _ hb)) r⟩
  | .dct _, _, _, h, ⟨a, vs, S', e, q, eS, r, nd⟩ => ⟨a, vs, S', e, h a (by rw [eS]; exact List.mem_cons_self) _ q, eS, TRk.mono f (fun b hb => h b (by rw [eS]; exact List.mem_cons_of_mem _ hb)) r, nd⟩
  | .ins _ _, _, _, h, ⟨a, dx, vs, S', e, q, eS, r⟩ => ⟨a, dx, vs, S', e, h a (by rw [eS]; exact List.mem_cons_self) _ q, eS, TRf.mono f (fun b hb => h b (by rw [eS]; exact List.mem_cons_of_mem _ hb)) r⟩
theorem TRs.mono {K : Kf} {F F' H H' : Hp} (f : SubR F F') : ∀ {t : List T} {v : List V} {S : List Addr}, (∀ a ∈ S, ∀ o, H a = some o → H' a = some o) → TRs K F H t v S → TRs K F' H' t v S
  | [], _, _, _, r => r
  | _ :: _, _, _, h, ⟨v, vs, S1, S2, e, eS, r, q⟩ => ⟨v, vs, S1, S2, e, eS, TR.mono f (fun b hb => h b (by rw [eS]; exact List.mem_append_left _ hb)) r, TRs.mono f (fun b hb => h b (by rw [eS]; exact List.mem_append_right _ hb)) q⟩
theorem TRk.mono {K : Kf} {F F' H H' : Hp} (f : SubR F F') : ∀ {t : List (Key × T)} {v : List (Key × V)} {S : List Addr}, (∀ a ∈ S, ∀ o, H a = some o → H' a = some o) → TRk K F H t v S → TRk K F' H' t v S
  | [], _, _, _, r => r
  | (_, _) :: _, _, _, h, ⟨v, vs, S1, S2, e, eS, ⟨r1, r⟩, q⟩ => ⟨v, vs, S1, S2, e, eS, ⟨r1, TR.mono f (fun b hb => h b (by rw [eS]; exact List.mem_append_left _ hb)) r⟩, TRk.mono f (fun b hb => h b (by rw [eS]; exact List.mem_append_right _ hb)) q⟩
theorem TRf.mono {K : Kf} {F F' H H' : Hp} (f : SubR F F') : ∀ {t : List (Str × T)} {v : List (Str × V)} {S : List Addr}, (∀ a ∈ S, ∀ o, H a = some o → H' a = some o) → TRf K F H t v S → TRf K F' H' t v S
  | [], _, _, _, r => r
  | (_, _) :: _, _, _, h, ⟨v, vs, S1, S2, e, eS, ⟨r1, r⟩, q⟩ => ⟨v, vs, S1, S2, e, eS, ⟨r1, TR.mono f (fun b hb => h b (by rw [eS]; exact List.mem_append_left _ hb)) r⟩, TRf.mono f (fun b hb => h b (by rw [eS]; exact List.mem_append_right _ hb)) q⟩
end
mutual
theorem TR.frz {K : Kf} {F F' H : Hp} (f : SubR F F') : ∀ {t : T} {v : V} {S : List Addr}, (∀ a ∈ S, ∀ o, H a = some o → F' a = some o) → TR K F H t v S → DR K F' t.er v
  | .sh _, _, _, _, ⟨e, r⟩ => DR.mono f r
  | .lst _, _, _, h, ⟨a, vs, S', e, q, eS, r⟩ => ⟨a, vs, e, h a (by rw [eS]; exact List.mem_cons_self) _ q, TRs.frz f (fun b hb => h b (by rw [eS]; exact List.mem_cons_of_mem _ hb)) r⟩
  | .dct _, _, _, h, ⟨a, vs, S', e, q, eS, r, _⟩ => ⟨a, vs, e, .inl (h a (by rw [eS]; exact List.mem_cons_self) _ q), TRk.frz f (fun b hb => h b (by rw [eS]; exact List.mem_cons_of_mem _ hb)) r⟩
  | .ins _ _, _, _, h, ⟨a, dx, vs, S', e, q, eS, r⟩ => ⟨a, dx, vs, e, h a (by rw [eS]; exact List.mem_cons_self) _ q, TRf.frz f (fun b hb => h b (by rw [eS]; exact List.mem_cons_of_mem _ hb)) r⟩
theorem TRs.frz {K : Kf} {F F' H : Hp} (f : SubR F F') : ∀ {t : List T} {v : List V} {S : List Addr}, (∀ a ∈ S, ∀ o, H a = some o → F' a = some o) → TRs K F H t v S → DRs K F' (T.ers t) v
  | [], _, _, _, r => r.1
  | _ :: _, _, _, h, ⟨v, vs, S1, S2, e, eS, r, q⟩ => ⟨v, vs, e, TR.frz f (fun b hb => h b (by rw [eS]; exact List.mem_append_left _ hb)) r, TRs.frz f (fun b hb => h b (by rw [eS]; exact List.mem_append_right _ hb)) q⟩
theorem TRk.frz {K : Kf} {F F' H : Hp} (f : SubR F F') : ∀ {t : List (Key × T)} {v : List (Key × V)} {S : List Addr}, (∀ a ∈ S, ∀ o, H a = some o → F' a = some o) → TRk K F H t v S → DRk K F' (T.erk t) v
  | [], _, _, _, r => r.1
  | (_, _) :: _, _, _, h, ⟨v, vs, S1, S2, e, eS, ⟨r1, r⟩, q⟩ => ⟨v, vs, e, ⟨r1, TR.frz f (fun b hb => h b (by rw [eS]; exact List.mem_append_left _ hb)) r⟩, TRk.frz f (fun b hb => h b (by rw [eS]; exact List.mem_append_right _ hb)) q⟩
theorem TRf.frz {K : Kf} {F F' H : Hp} (f : SubR F F') : ∀ {t : List (Str × T)} {v : List (Str × V)} {S : List Addr}, (∀ a ∈ S, ∀ o, H a = some o → F' a = some o) → TRf K F H t v S → DRf K F' (T.erf t) v
  | [], _, _, _, r => r.1
  | (_, _) :: _, _, _, h, ⟨v, vs, S1, S2, e, eS, ⟨r1, r⟩, q⟩ => ⟨v, vs, e, ⟨r1, TR.frz f (fun b hb => h b (by rw [eS]; exact List.mem_append_left _ hb)) r⟩, TRf.frz f (fun b hb => h b (by rw [eS]; exact List.mem_append_right _ hb)) q⟩
end
mutual
theorem TR.has {K : Kf} {F H : Hp} : ∀ {t : T} {v : V} {S : List Addr}, TR K F H t v S → ∀ a ∈ S, ∃ o, H a = some o ∧ Mut (some o)
  | .sh _, _, _, ⟨e, r⟩, a, h => by rw [e] at h; cases h
  | .lst _, _, _, ⟨a, vs, S', e, q, eS, r⟩, b, h => by
    rw [eS] at h
    rcases List.mem_cons.mp h with z | h
    · rw [z]; exact ⟨_, q, trivial⟩
    · exact TRs.has r b h
  | .dct _, _, _, ⟨a, vs, S', e, q, eS, r, _⟩, b, h => by
    rw [eS] at h
    rcases List.mem_cons.mp h with z | h
    · rw [z]; exact ⟨_, q, trivial⟩
    · exact TRk.has r b h
  | .ins _ _, _, _, ⟨a, dx, vs, S', e, q, eS, r⟩, b, h => by
    rw [eS] at h
    rcases List.mem_cons.mp h with z | h
    · rw [z]; exact ⟨_, q, trivial⟩
    · exact TRf.has r b h
theorem TRs.has {K : Kf} {F H : Hp} : ∀ {t : List T} {v : List V} {S : List Addr}, TRs K F H t v S → ∀ a ∈ S, ∃ o, H a = some o ∧ Mut (some o)
  | [], _, _, r, a, h => by rw [r.2] at h; cases h
  | _ :: _, _, _, ⟨v, vs, S1, S2, e, eS, r, q⟩, a, h => by
    rw [eS] at h
    exact (List.mem_append.mp h).elim (TR.has r a) (TRs.has q a)
theorem TRk.has {K : Kf} {F H : Hp} : ∀ {t : List (Key × T)} {v : List (Key × V)} {S : List Addr}, TRk K F H t v S → ∀ a ∈ S, ∃ o, H a = some o ∧ Mut (some o)
  | [], _, _, r, a, h => by rw [r.2] at h; cases h
  | (_, _) :: _, _, _, ⟨v, vs, S1, S2, e, eS, ⟨r1, r⟩, q⟩, a, h => by
    rw [eS] at h
    exact (List.mem_append.mp h).elim (TR.has r a) (TRk.has q a)
theorem TRf.has {K : Kf} {F H : Hp} : ∀ {t : List (Str × T)} {v : List (Str × V)} {S : List Addr}, TRf K F H t v S → ∀ a ∈ S, ∃ o, H a = some o ∧ Mut (some o)
  | [], _, _, r, a, h => by rw [r.2] at h; cases h
  | (_, _) :: _, _, _, ⟨v, vs, S1, S2, e, eS, ⟨r1, r⟩, q⟩, a, h => by
    rw [eS] at h
    exact (List.mem_append.mp h).elim (TR.has r a) (TRf.has q a)
end
def OwnO : HO → Prop
  | .lst _ => True
  | .dK _ => True
  | .ins _ _ _ => True
  | _ => False
mutual
theorem TR.hasO {K : Kf} {F H : Hp} : ∀ {t : T} {v : V} {S : List Addr}, TR K F H t v S → ∀ a ∈ S, ∃ o, H a = some o ∧ OwnO o
  | .sh _, _, _, ⟨e, r⟩, a, h => by rw [e] at h; cases h
  | .lst _, _, _, ⟨a, vs, S', e, q, eS, r⟩, b, h => by
    rw [eS] at h
    rcases List.mem_cons.mp h with z | h
    · rw [z]; exact ⟨_, q, trivial⟩
    · exact TRs.hasO r b h
  | .dct _, _, _, ⟨a, vs, S', e, q, eS, r, _⟩, b, h => by
    rw [eS] at h
    rcases List.mem_cons.mp h with z | h
    · rw [z]; exact ⟨_, q, trivial⟩
    · exact TRk.hasO r b h
  | .ins _ _, _, _, ⟨a, dx, vs, S', e, q, eS, r⟩, b, h => by
    rw [eS] at h
    rcases List.mem_cons.mp h with z | h
    · rw [z]; exact ⟨_, q, trivial⟩
    · exact TRf.hasO r b h
theorem TRs.hasO {K : Kf} {F H : Hp} : ∀ {t : List T} {v : List V} {S : List Addr}, TRs K F H t v S → ∀ a ∈ S, ∃ o, H a = some o ∧ OwnO o
  | [], _, _, r, a, h => by rw [r.2] at h; cases h
  | _ :: _, _, _, ⟨v, vs, S1, S2, e, eS, r, q⟩, a, h => by
    rw [eS] at h
    exact (List.mem_append.mp h).elim (TR.hasO r a) (TRs.hasO q a)
theorem TRk.hasO {K : Kf} {F H : Hp} : ∀ {t : List (Key × T)} {v : List (Key × V)} {S : List Addr}, TRk K F H t v S → ∀ a ∈ S, ∃ o, H a = some o ∧ OwnO o
  | [], _, _, r, a, h => by rw [r.2] at h; cases h
  | (_, _) :: _, _, _, ⟨v, vs, S1, S2, e, eS, ⟨r1, r⟩, q⟩, a, h => by
    rw [eS] at h
    exact (List.mem_append.mp h).elim (TR.hasO r a) (TRk.hasO q a)
theorem TRf.hasO {K : Kf} {F H : Hp} : ∀ {t : List (Str × T)} {v : List (Str × V)} {S : List Addr}, TRf K F H t v S → ∀ a ∈ S, ∃ o, H a = some o ∧ OwnO o
  | [], _, _, r, a, h => by rw [r.2] at h; cases h
  | (_, _) :: _, _, _, ⟨v, vs, S1, S2, e, eS, ⟨r1, r⟩, q⟩, a, h => by
    rw [eS] at h
    exact (List.mem_append.mp h).elim (TR.hasO r a) (TRf.hasO q a)
end
mutual
theorem TR.det {K : Kf} {F H : Hp} : ∀ {t : T} {v : V} {S S' : List Addr}, TR K F H t v S → TR K F H t v S' → S = S'
  | .sh _, _, _, _, ⟨e, _⟩, ⟨e', _⟩ => e.trans e'.symm
  | .lst _, _, _, _, ⟨a, vs, T, e, q, eS, r⟩, ⟨a', vs', T', e', q', eS', r'⟩ => by
    rw [e] at e'; cases e'; rw [q] at q'; cases q'; rw [eS, eS', TRs.det r r']
  | .dct _, _, _, _, ⟨a, vs, T, e, q, eS, r, _⟩, ⟨a', vs', T', e', q', eS', r', _⟩ => by
    rw [e] at e'; cases e'; rw [q] at q'; cases q'; rw [eS, eS', TRk.det r r']
  | .ins _ _, _, _, _, ⟨a, dx, vs, T, e, q, eS, r⟩, ⟨a', dx', vs', T', e', q', eS', r'⟩ => by
    rw [e] at e'; cases e'; rw [q] at q'; cases q'; rw [eS, eS', TRf.det r r']
theorem TRs.det {K : Kf} {F H : Hp} : ∀ {t : List T} {v : List V} {S S' : List Addr}, TRs K F H t v S → TRs K F H t v S' → S = S'
  | [], _, _, _, r, r' => r.2.trans r'.2.symm
  | _ :: _, _, _, _, ⟨v, vs, S1, S2, e, eS, r, q⟩, ⟨v', vs', S1', S2', e', eS', r', q'⟩ => by
    rw [e] at e'; cases e'; rw [eS, eS', TR.det r r', TRs.det q q']
theorem TRk.det {K : Kf} {F H : Hp} : ∀ {t : List (Key × T)} {v : List (Key × V)} {S S' : List Addr}, TRk K F H t v S → TRk K F H t v S' → S = S'
  | [], _, _, _, r, r' => r.2.trans r'.2.symm
  | (_, _) :: _, _, _, _, ⟨v, vs, S1, S2, e, eS, ⟨_, r⟩, q⟩, ⟨v', vs', S1', S2', e', eS', ⟨_, r'⟩, q'⟩ => by
    rw [e] at e'; cases e'; rw [eS, eS', TR.det r r', TRk.det q q']
theorem TRf.det {K : Kf} {F H : Hp} : ∀ {t : List (Str × T)} {v : List (Str × V)} {S S' : List Addr}, TRf K F H t v S → TRf K F H t v S' → S = S'
  | [], _, _, _, r, r' => r.2.trans r'.2.symm
  | (_, _) :: _, _, _, _, ⟨v, vs, S1, S2, e, eS, ⟨_, r⟩, q⟩, ⟨v', vs', S1', S2', e', eS', ⟨_, r'⟩, q'⟩ => by
    rw [e] at e'; cases e'; rw [eS, eS', TR.det r r', TRf.det q q']
end
section
variable {κ α β : Type} [DecidableEq κ]
def lk : List (κ × α) → κ → Option α
  | [], _ => none
  | p :: r, k => if p.1 = k then some p.2 else lk r k
def rk : List (κ × α) → κ → α → List (κ × α)
  | [], _, _ => []
  | p :: r, k, a => if p.1 = k then (k, a) :: r else p :: rk r k a
def pk : List (κ × α) → κ → α → List (κ × α)
  | [], k, a => [(k, a)]
  | p :: r, k, a => if p.1 = k then (k, a) :: r else p :: pk r k a
def hk (l : List (κ × α)) (k : κ) : Bool := (lk l k).isSome
theorem lk_ix : ∀ {l : List (κ × α)} {k : κ} {a : α}, lk l k = some a → ∃ n, l[n]? = some (k, a) ∧ (∀ a', rk l k a' = l.set n (k, a')) ∧ ∀ (β : Type) (l' : List (κ × β)) (b : β), l'.map (·.1) = l.map (·.1) → l'[n]? = some (k, b) → lk l' k = some b
  | [], _, _, h => by simp [lk] at h
  | p :: r, k, a, h => by
    unfold lk at h
    by_cases e : p.1 = k
    · rw [if_pos e] at h
      cases h
      refine ⟨0, by simp [← e], fun a' => by simp [rk, e], fun β l' b hm hb => ?_⟩
      cases l' with
      | nil => simp at hb
      | cons q l' =>
        simp at hb
        subst hb
        simp [lk]
    · rw [if_neg e] at h
      obtain ⟨n, h1, h2, h3⟩ := lk_ix h
      refine ⟨n + 1, by simpa using h1, fun a' => by simp [rk, e, h2], fun β l' b hm hb => ?_⟩
      cases l' with
      | nil => simp at hb
      | cons q l' =>
        simp at hm hb
        have := h3 β l' b hm.2 hb
        simp [lk, hm.1, e, this]
theorem valV_lk (k : κ) : ∀ l : List (κ × V), valV l k = lk l k
  | [] => rfl
  | p :: r => by
    by_cases e : p.1 = k
    · rw [valV_pos e]; simp [lk, e]
    · rw [valV_neg e, valV_lk k r]; simp [lk, e]
theorem lk_none_iff {l : List (κ × α)} {k : κ} : lk l k = none ↔ k ∉ l.map (·.1) := by
  induction l with
  | nil => simp [lk]
  | cons p r ih =>
    by_cases e : p.1 = k
    · simp [lk, e]
    · simp only [lk, if_neg e, ih, List.map_cons, List.mem_cons, not_or]
      exact ⟨fun h => ⟨fun z => e z.symm, h⟩, fun h => h.2⟩
theorem pk_new {l : List (κ × α)} {k : κ} {a : α} (h : lk l k = none) : pk l k a = l ++ [(k, a)] := by
  induction l with
  | nil => rfl
  | cons p r ih =>
    by_cases e : p.1 = k
    · simp [lk, e] at h
    · simp only [lk, if_neg e] at h
      simp [pk, e, ih h]
theorem pk_old {l : List (κ × α)} {k : κ} {a b : α} (h : lk l k = some b) : pk l k a = rk l k a := by
  induction l with
  | nil => simp [lk] at h
  | cons p r ih =>
    by_cases e : p.1 = k
    · simp [pk, rk, e]
    · simp only [lk, if_neg e] at h
      simp [pk, rk, e, ih h]
theorem putK_pk {l : List (κ × V)} {k : κ} {v : V} (nd : (l.map (·.1)).Nodup) : putK l k v = pk l k v := by
  induction l with
  | nil => rfl
  | cons p r ih =>
    have nd' := List.nodup_cons.mp (by simpa using nd : (p.1 :: r.map (·.1)).Nodup)
    by_cases e : p.1 = k
    · have hmap : ∀ l : List (κ × V), k ∉ l.map (·.1) → l.map (fun kv => if kv.1 = k then (kv.1, v) else kv) = l := by
        intro l
        induction l with
        | nil => intro _; rfl
        | cons q s ih2 =>
          intro h
          simp only [List.map_cons, List.mem_cons, not_or] at h
          rw [List.map_cons, if_neg (fun z => h.1 z.symm), ih2 h.2]
      unfold putK pk
      rw [if_pos (by simp [e]), if_pos e, List.map_cons, if_pos e, hmap r (e ▸ nd'.1), e]
    · have ih := ih nd'.2
      unfold putK at ih ⊢
      unfold pk
      rw [if_neg e, ← ih]
      by_cases h : (r.any fun kv => decide (kv.1 = k)) = true
      · rw [if_pos h, if_pos (by simp only [List.any_cons, h, Bool.or_true]), List.map_cons, if_neg e]
      · rw [if_neg h, if_neg (by simpa [List.any_cons, e] using h)]; rfl
theorem rk_keys {l : List (κ × α)} {k : κ} {a : α} : (rk l k a).map (·.1) = l.map (·.1) := by
  induction l with
  | nil => rfl
  | cons p r ih =>
    by_cases e : p.1 = k
    · simp [rk, e]
    · simp only [rk, if_neg e, List.map_cons, ih]
theorem pk_keys {l : List (κ × α)} {k : κ} {a : α} : (pk l k a).map (·.1) = if k ∈ l.map (·.1) then l.map (·.1) else l.map (·.1) ++ [k] := by
  cases h : lk l k with
  | none =>
    rw [pk_new h, if_neg (lk_none_iff.mp h)]; simp
  | some b =>
    rw [pk_old h, rk_keys, if_pos]
    refine Classical.byContradiction fun z => ?_
    rw [lk_none_iff.mpr z] at h
    cases h
theorem pk_nodup {l : List (κ × α)} {k : κ} {a : α} (nd : (l.map (·.1)).Nodup) : ((pk l k a).map (·.1)).Nodup := by
  rw [pk_keys]
  split
  · exact nd
  · rename_i h
    exact List.nodup_append.mpr ⟨nd, by simp, fun x hx y hy z => by simp at hy; subst hy; subst z; exact h hx⟩
end
def All2 {α β : Type} (R : α → β → Prop) : List α → List β → Prop
  | [], l => l = []
  | a :: r, l => ∃ b l', l = b :: l' ∧ R a b ∧ All2 R r l'
section
variable {α β γ : Type} {R Q : α → β → Prop}
theorem All2.length : ∀ {as : List α} {bs : List β}, All2 R as bs → as.length = bs.length
  | [], bs, h => by cases (show bs = [] from h); rfl
  | _ :: _, _, ⟨b, l, e, r, h⟩ => by rw [e, List.length_cons, List.length_cons, All2.length h]
theorem All2.get : ∀ {as : List α} {bs : List β} {i : Nat} {a : α}, All2 R as bs → as[i]? = some a → ∃ b, bs[i]? = some b ∧ R a b
  | [], _, _, _, _, e => by simp at e
  | a :: _, _, 0, _, ⟨b, l, e, r, h⟩, q => by simp at q; subst q; exact ⟨b, by simp [e], r⟩
  | _ :: _, _, i + 1, _, ⟨b, l, e, r, h⟩, q => by
    obtain ⟨c, h1, h2⟩ := All2.get h (by simpa using q)
    exact ⟨c, by simpa [e] using h1, h2⟩
theorem All2.append : ∀ {as as' : List α} {bs bs' : List β}, All2 R as bs → All2 R as' bs' → All2 R (as ++ as') (bs ++ bs')
  | [], _, _, _, h, k => by rw [show _ = [] from h]; exact k
  | _ :: _, _, _, _, ⟨b, l, e, r, h⟩, k => ⟨b, _, by rw [e]; rfl, r, All2.append h k⟩
theorem All2.take : ∀ {as : List α} {bs : List β} (n : Nat), All2 R as bs → All2 R (as.take n) (bs.take n)
  | [], _, _, h => by rw [show _ = [] from h]; simp [All2]
  | _ :: _, _, 0, _ => by simp [All2]
  | _ :: _, _, n + 1, ⟨b, l, e, r, h⟩ => by rw [e]; exact ⟨b, _, rfl, r, All2.take n h⟩
theorem All2.drop : ∀ {as : List α} {bs : List β} (n : Nat), All2 R as bs → All2 R (as.drop n) (bs.drop n)
  | [], _, _, h => by rw [show _ = [] from h]; simp [All2]
  | a :: as, bs, 0, h => by simpa using h
  | _ :: _, _, n + 1, ⟨b, l, e, r, h⟩ => by rw [e]; exact All2.drop n h
end
theorem DRs_iff {K : Kf} {F : Hp} : ∀ {ds : List D} {vs : List V}, DRs K F ds vs ↔ All2 (DR K F) ds vs
  | [], _ => Iff.rfl
  | _ :: _, _ => ⟨fun ⟨v, l, e, r, h⟩ => ⟨v, l, e, r, DRs_iff.mp h⟩, fun ⟨v, l, e, r, h⟩ => ⟨v, l, e, r, DRs_iff.mpr h⟩⟩
theorem DRk_iff {K : Kf} {F : Hp} : ∀ {ds : List (Key × D)} {vs : List (Key × V)}, DRk K F ds vs ↔ All2 (fun p q => q.1 = p.1 ∧ DR K F p.2 q.2) ds vs
  | [], _ => Iff.rfl
  | (_, _) :: _, _ => ⟨fun ⟨v, l, e, r, h⟩ => ⟨v, l, e, r, DRk_iff.mp h⟩, fun ⟨v, l, e, r, h⟩ => ⟨v, l, e, r, DRk_iff.mpr h⟩⟩
theorem VRs_iff {K : Kf} {G F : Hp} : ∀ {ds : List T} {vs : List V}, VRs K G F ds vs ↔ All2 (VR K G F) ds vs
  | [], _ => Iff.rfl
  | _ :: _, _ => ⟨fun ⟨v, l, e, r, h⟩ => ⟨v, l, e, r, VRs_iff.mp h⟩, fun ⟨v, l, e, r, h⟩ => ⟨v, l, e, r, VRs_iff.mpr h⟩⟩
theorem VRk_iff {K : Kf} {G F : Hp} : ∀ {ds : List (Key × T)} {vs : List (Key × V)}, VRk K G F ds vs ↔ All2 (fun p q => q.1 = p.1 ∧ VR K G F p.2 q.2) ds vs
  | [], _ => Iff.rfl
  | (_, _) :: _, _ => ⟨fun ⟨v, l, e, r, h⟩ => ⟨v, l, e, r, VRk_iff.mp h⟩, fun ⟨v, l, e, r, h⟩ => ⟨v, l, e, r, VRk_iff.mpr h⟩⟩
theorem VRf_iff {K : Kf} {G F : Hp} : ∀ {ds : List (Str × T)} {vs : List (Str × V)}, VRf K G F ds vs ↔ All2 (fun p q => q.1 = p.1 ∧ VR K G F p.2 q.2) ds vs
  | [], _ => Iff.rfl
  | (_, _) :: _, _ => ⟨fun ⟨v, l, e, r, h⟩ => ⟨v, l, e, r, VRf_iff.mp h⟩, fun ⟨v, l, e, r, h⟩ => ⟨v, l, e, r, VRf_iff.mpr h⟩⟩
theorem All2.lk {κ α : Type} [DecidableEq κ] {R : α → V → Prop} : ∀ {ts : List (κ × α)} {vs : List (κ × V)} (k : κ), All2 (fun p q => q.1 = p.1 ∧ R p.2 q.2) ts vs →
    (lk ts k = none ∧ lk vs k = none) ∨ ∃ t v, lk ts k = some t ∧ lk vs k = some v ∧ R t v
  | [], _, _, h => by rw [show _ = [] from h]; exact .inl ⟨rfl, rfl⟩
  | p :: r, _, k, ⟨q, l, e, ⟨h1, h2⟩, h⟩ => by
    subst e
    by_cases c : p.1 = k
    · exact .inr ⟨p.2, q.2, by simp [DL.lk, c], by simp [DL.lk, h1, c], h2⟩
    · rcases All2.lk k h with ⟨a, b⟩ | ⟨t, v, a, b, d⟩
      · exact .inl ⟨by simp [DL.lk, c, a], by simp [DL.lk, h1, c, b]⟩
      · exact .inr ⟨t, v, by simp [DL.lk, c, a], by simp [DL.lk, h1, c, b], d⟩
theorem All2.keys {κ α β : Type} {R : α → β → Prop} : ∀ {ts : List (κ × α)} {vs : List (κ × β)}, All2 (fun p q => q.1 = p.1 ∧ R p.2 q.2) ts vs → vs.map (·.1) = ts.map (·.1)
  | [], _, h => by rw [show _ = [] from h]; rfl
  | p :: r, _, ⟨q, l, e, ⟨h1, h2⟩, h⟩ => by rw [e, List.map_cons, List.map_cons, h1, All2.keys h]
def Fs {α β : Type} (R : α → β → List Addr → Prop) : List α → List β → List Addr → Prop
  | [], l, S => l = [] ∧ S = []
  | a :: r, l, S => ∃ b l' S1 S2, l = b :: l' ∧ S = S1 ++ S2 ∧ R a b S1 ∧ Fs R r l' S2
section
variable {α β : Type} {R R' : α → β → List Addr → Prop}
theorem Fs.at : ∀ {as : List α} {bs : List β} {S : List Addr} {n : Nat} {a : α}, Fs R as bs S → as[n]? = some a →
    ∃ b L Sa Rr, bs[n]? = some b ∧ S = L ++ Sa ++ Rr ∧ R a b Sa ∧ ∀ (R' : α → β → List Addr → Prop) (a' : α) (Sa' : List Addr),
      (∀ c d Sc, (∀ x ∈ Sc, x ∈ L ++ Rr) → R c d Sc → R' c d Sc) → R' a' b Sa' → Fs R' (as.set n a') bs (L ++ Sa' ++ Rr)
  | [], _, _, _, _, _, e => by simp at e
  | a :: r, _, _, 0, _, ⟨b, l', S1, S2, e, eS, h, q⟩, z => by
    simp at z; subst z
    refine ⟨b, [], S1, S2, by simp [e], by simp [eS], h, fun R' a' Sa' k h' => ?_⟩
    have go : ∀ {r : List α} {l : List β} {S : List Addr}, (∀ x ∈ S, x ∈ S2) → Fs R r l S → Fs R' r l S := by
      intro r
      induction r with
      | nil => intro l S _ h; exact h
      | cons c r ih =>
        intro l S hS ⟨d, l', T1, T2, e1, e2, h1, h2⟩
        exact ⟨d, l', T1, T2, e1, e2, k c d T1 (fun x hx => by simpa using hS x (by rw [e2]; exact List.mem_append_left _ hx)) h1, ih (fun x hx => hS x (by rw [e2]; exact List.mem_append_right _ hx)) h2⟩
    exact ⟨b, l', Sa', S2, e, by simp, h', go (fun x hx => hx) q⟩
  | a :: r, _, _, n + 1, _, ⟨b, l', S1, S2, e, eS, h, q⟩, z => by
    obtain ⟨b', L, Sa, Rr, h1, h2, h3, h4⟩ := Fs.at q (by simpa using z)
    refine ⟨b', S1 ++ L, Sa, Rr, by simp [e, h1], by simp [eS, h2], h3, fun R' a' Sa' k h' => ?_⟩
    refine ⟨b, l', S1, L ++ Sa' ++ Rr, e, by simp, k a b S1 (fun x hx => by simp [hx]) h, h4 R' a' Sa' (fun c d Sc hS => k c d Sc fun x hx => ?_) h'⟩
    rcases List.mem_append.mp (hS x hx) with w | w <;> simp [w]
theorem Fs.append : ∀ {as as' : List α} {bs bs' : List β} {S S' : List Addr}, Fs R as bs S → Fs R as' bs' S' → Fs R (as ++ as') (bs ++ bs') (S ++ S')
  | [], _, _, _, _, _, h, k => by rw [h.1, h.2]; exact k
  | _ :: _, _, _, _, _, _, ⟨b, l', S1, S2, e, eS, h, q⟩, k => ⟨b, _, S1, _, by rw [e]; rfl, by rw [eS, List.append_assoc], h, Fs.append q k⟩
theorem Fs.one {a : α} {b : β} {S : List Addr} (h : R a b S) : Fs R [a] [b] S := ⟨b, [], S, [], rfl, by simp, h, rfl, rfl⟩
theorem Fs.imp : ∀ {as : List α} {bs : List β} {S : List Addr}, (∀ c d Sc, (∀ x ∈ Sc, x ∈ S) → R c d Sc → R' c d Sc) → Fs R as bs S → Fs R' as bs S
  | [], _, _, _, h => h
  | _ :: _, _, _, k, ⟨b, l', S1, S2, e, eS, h, q⟩ => ⟨b, l', S1, S2, e, eS, k _ _ _ (fun x hx => by rw [eS]; exact List.mem_append_left _ hx) h, Fs.imp (fun c d Sc hS => k c d Sc fun x hx => by rw [eS]; exact List.mem_append_right _ (hS x hx)) q⟩
theorem Fs.length : ∀ {as : List α} {bs : List β} {S : List Addr}, Fs R as bs S → as.length = bs.length
  | [], _, _, h => by rw [h.1]; rfl
  | _ :: _, _, _, ⟨b, l', S1, S2, e, eS, h, q⟩ => by rw [e, List.length_cons, List.length_cons, Fs.length q]
end
theorem TRs_iff {K : Kf} {F H : Hp} : ∀ {ts : List T} {vs : List V} {S : List Addr}, TRs K F H ts vs S ↔ Fs (TR K F H) ts vs S
  | [], _, _ => Iff.rfl
  | _ :: _, _, _ => ⟨fun ⟨v, l, S1, S2, e, eS, r, h⟩ => ⟨v, l, S1, S2, e, eS, r, TRs_iff.mp h⟩, fun ⟨v, l, S1, S2, e, eS, r, h⟩ => ⟨v, l, S1, S2, e, eS, r, TRs_iff.mpr h⟩⟩
abbrev TRp {κ : Type} (K : Kf) (F H : Hp) : κ × T → κ × V → List Addr → Prop := fun p q S => q.1 = p.1 ∧ TR K F H p.2 q.2 S
theorem TRk_iff {K : Kf} {F H : Hp} : ∀ {ts : List (Key × T)} {vs : List (Key × V)} {S : List Addr}, TRk K F H ts vs S ↔ Fs (TRp K F H) ts vs S
  | [], _, _ => Iff.rfl
  | (_, _) :: _, _, _ => ⟨fun ⟨v, l, S1, S2, e, eS, r, h⟩ => ⟨v, l, S1, S2, e, eS, r, TRk_iff.mp h⟩, fun ⟨v, l, S1, S2, e, eS, r, h⟩ => ⟨v, l, S1, S2, e, eS, r, TRk_iff.mpr h⟩⟩
theorem TRf_iff {K : Kf} {F H : Hp} : ∀ {ts : List (Str × T)} {vs : List (Str × V)} {S : List Addr}, TRf K F H ts vs S ↔ Fs (TRp K F H) ts vs S
  | [], _, _ => Iff.rfl
  | (_, _) :: _, _, _ => ⟨fun ⟨v, l, S1, S2, e, eS, r, h⟩ => ⟨v, l, S1, S2, e, eS, r, TRf_iff.mp h⟩, fun ⟨v, l, S1, S2, e, eS, r, h⟩ => ⟨v, l, S1, S2, e, eS, r, TRf_iff.mpr h⟩⟩
theorem Fs.keys {κ : Type} {K : Kf} {F H : Hp} : ∀ {ts : List (κ × T)} {vs : List (κ × V)} {S : List Addr}, Fs (TRp K F H) ts vs S → vs.map (·.1) = ts.map (·.1)
  | [], _, _, h => by rw [h.1]; rfl
  | _ :: _, _, _, ⟨v, l, S1, S2, e, eS, r, h⟩ => by rw [e, List.map_cons, List.map_cons, Fs.keys h, r.1]
inductive PEl where
  | fld (f : Str) | key (k : Key) | idx (n : Nat)
def T.get : List PEl → T → Option T
  | [], t => some t
  | .fld f :: p, .ins _ fs => (lk fs f).bind (T.get p)
  | .key k :: p, .dct ks => (lk ks k).bind (T.get p)
  | .idx n :: p, .lst ts => (ts[n]?).bind (T.get p)
  | _ :: _, _ => none
def T.put : List PEl → T → T → Option T
  | [], _, u => some u
  | .fld f :: p, .ins C fs, u => (lk fs f).bind fun t => (T.put p t u).map fun t' => .ins C (rk fs f t')
  | .key k :: p, .dct ks, u => (lk ks k).bind fun t => (T.put p t u).map fun t' => .dct (rk ks k t')
  | .idx n :: p, .lst ts, u => (ts[n]?).bind fun t => (T.put p t u).map fun t' => .lst (ts.set n t')
  | _ :: _, _, _ => none
def Wk (H : Hp) : List PEl → V → V → Prop
  | [], v, x => x = v
  | .fld f :: p, v, x => ∃ a C dx fs z, v = .ref a ∧ H a = some (.ins C dx fs) ∧ lk fs f = some z ∧ Wk H p z x
  | .key k :: p, v, x => ∃ a kvs z, v = .ref a ∧ Rd H a (.dK kvs) ∧ lk kvs k = some z ∧ Wk H p z x
  | .idx n :: p, v, x => ∃ a vs z, v = .ref a ∧ Rd H a (.lst vs) ∧ vs[n]? = some z ∧ Wk H p z x
theorem Wk.monoV {F H : Hp} (h : SubV F H) : ∀ {p : List PEl} {v x : V}, Wk F p v x → Wk H p v x
  | [], _, _, e => e
  | .fld _ :: _, _, _, ⟨a, C, dx, fs, z, e, q, l, w⟩ => ⟨a, C, dx, fs, z, e, h.is _ _ _ _ q, l, Wk.monoV h w⟩
  | .key _ :: _, _, _, ⟨a, fs, z, e, q, l, w⟩ => ⟨a, fs, z, e, h.rd _ _ q, l, Wk.monoV h w⟩
  | .idx _ :: _, _, _, ⟨a, fs, z, e, q, l, w⟩ => ⟨a, fs, z, e, h.rd _ _ q, l, Wk.monoV h w⟩
theorem Wk.mono {F H : Hp} (h : SubR F H) {p : List PEl} {v x : V} (w : Wk F p v x) : Wk H p v x := w.monoV h.v
theorem Rd.dK_inj {H : Hp} {a : Addr} {x y : List (Key × V)} (h : Rd H a (.dK x)) (k : Rd H a (.dK y)) : x = y := by
  rcases h with h | ⟨o, h⟩ <;> rcases k with k | ⟨o', k⟩ <;> rw [h] at k <;> cases k <;> rfl
theorem Rd.lst_inj {H : Hp} {a : Addr} {x y : List V} (h : Rd H a (.lst x)) (k : Rd H a (.lst y)) : x = y := by
  rcases h with h | ⟨o, h⟩ <;> rcases k with k | ⟨o', k⟩ <;> rw [h] at k <;> cases k <;> rfl
theorem Wk.det {H : Hp} : ∀ {p : List PEl} {v x y : V}, Wk H p v x → Wk H p v y → x = y
  | [], _, _, _, e, e' => e.trans e'.symm
  | .fld _ :: _, _, _, _, ⟨a, C, dx, fs, z, e, q, l, w⟩, ⟨a', C', dx', fs', z', e', q', l', w'⟩ => by
    rw [e] at e'; cases e'; rw [q] at q'; cases q'; rw [l] at l'; cases l'; exact Wk.det w w'
  | .key _ :: _, _, _, _, ⟨a, fs, z, e, q, l, w⟩, ⟨a', fs', z', e', q', l', w'⟩ => by
    rw [e] at e'; cases e'; cases Rd.dK_inj q q'; rw [l] at l'; cases l'; exact Wk.det w w'
  | .idx _ :: _, _, _, _, ⟨a, fs, z, e, q, l, w⟩, ⟨a', fs', z', e', q', l', w'⟩ => by
    rw [e] at e'; cases e'; cases Rd.lst_inj q q'; rw [l] at l'; cases l'; exact Wk.det w w'
theorem TR.path {K : Kf} {F H : Hp} : ∀ {p : List PEl} {t : T} {v : V} {S : List Addr} {u : T}, TR K F H t v S → T.get p t = some u →
    ∃ x L Su Rr, S = L ++ Su ++ Rr ∧ Wk H p v x ∧ TR K F H u x Su ∧ ∀ (F' H' : Hp) (u' : T) (Su' : List Addr) (t' : T), SubR F F' → (∀ a ∈ L ++ Rr, ∀ o, H a = some o → H' a = some o) →
      TR K F' H' u' x Su' → T.put p t u' = some t' → TR K F' H' t' v (L ++ Su' ++ Rr)
  | [], t, v, S, u, h, e => by
    cases e
    exact ⟨v, [], S, [], by simp, rfl, h, fun F' H' u' Su' t' _ _ h' e => by cases e; simpa using h'⟩
  | .fld f :: p, .ins C fs, v, S, u, ⟨a, dx, vs, S', e, q, eS, r⟩, g => by
    obtain ⟨t1, l1, g⟩ := Option.bind_eq_some_iff.mp g
    obtain ⟨n, n1, n2, n3⟩ := lk_ix l1
    have r' := TRf_iff.mp r
    obtain ⟨⟨f', x1⟩, L, S1, R1, b1, b2, ⟨b3, b4⟩, b5⟩ := Fs.at r' n1
    cases b3
    obtain ⟨x, L2, Su, R2, c1, c2, c3, c4⟩ := TR.path b4 g
    refine ⟨x, a :: L ++ L2, Su, R2 ++ R1, by simp [eS, b2, c1], ⟨a, C, dx, vs, x1, e, q, n3 V vs x1 (by rw [Fs.keys r']) b1, c2⟩, c3, fun F' H' u' Su' t' hF hH hu hp => ?_⟩
    unfold T.put at hp
    rw [l1, Option.bind_some] at hp
    obtain ⟨t2, hp2, rfl⟩ := Option.map_eq_some_iff.mp hp
    have h2 := c4 F' H' u' Su' t2 hF (fun b hb => hH b (by rcases List.mem_append.mp hb with z | z <;> simp [z])) hu hp2
    refine ⟨a, dx, vs, L ++ (L2 ++ Su' ++ R2) ++ R1, e, hH a (by simp) _ q, by simp, TRf_iff.mpr ?_⟩
    rw [n2]
    exact b5 _ _ _ (fun c d Sc hS hc => ⟨hc.1, hc.2.mono hF fun b hb => hH b (by rcases List.mem_append.mp (hS b hb) with z | z <;> simp [z])⟩) ⟨rfl, h2⟩
  | .key k :: p, .dct ks, v, S, u, ⟨a, vs, S', e, q, eS, r, nd⟩, g => by
    obtain ⟨t1, l1, g⟩ := Option.bind_eq_some_iff.mp g
    obtain ⟨n, n1, n2, n3⟩ := lk_ix l1
    have r' := TRk_iff.mp r
    obtain ⟨⟨f', x1⟩, L, S1, R1, b1, b2, ⟨b3, b4⟩, b5⟩ := Fs.at r' n1
    cases b3
    obtain ⟨x, L2, Su, R2, c1, c2, c3, c4⟩ := TR.path b4 g
    refine ⟨x, a :: L ++ L2, Su, R2 ++ R1, by simp [eS, b2, c1], ⟨a, vs, x1, e, .inl q, n3 V vs x1 (by rw [Fs.keys r']) b1, c2⟩, c3, fun F' H' u' Su' t' hF hH hu hp => ?_⟩
    unfold T.put at hp
    rw [l1, Option.bind_some] at hp
    obtain ⟨t2, hp2, rfl⟩ := Option.map_eq_some_iff.mp hp
    have h2 := c4 F' H' u' Su' t2 hF (fun b hb => hH b (by rcases List.mem_append.mp hb with z | z <;> simp [z])) hu hp2
    refine ⟨a, vs, L ++ (L2 ++ Su' ++ R2) ++ R1, e, hH a (by simp) _ q, by simp, TRk_iff.mpr ?_, by rw [rk_keys]; exact nd⟩
    rw [n2]
    exact b5 _ _ _ (fun c d Sc hS hc => ⟨hc.1, hc.2.mono hF fun b hb => hH b (by rcases List.mem_append.mp (hS b hb) with z | z <;> simp [z])⟩) ⟨rfl, h2⟩
  | .idx n :: p, .lst ts, v, S, u, ⟨a, vs, S', e, q, eS, r⟩, g => by
    obtain ⟨t1, l1, g⟩ := Option.bind_eq_some_iff.mp g
    have r' := TRs_iff.mp r
    obtain ⟨x1, L, S1, R1, b1, b2, b4, b5⟩ := Fs.at r' l1
    obtain ⟨x, L2, Su, R2, c1, c2, c3, c4⟩ := TR.path b4 g
    refine ⟨x, a :: L ++ L2, Su, R2 ++ R1, by simp [eS, b2, c1], ⟨a, vs, x1, e, .inl q, b1, c2⟩, c3, fun F' H' u' Su' t' hF hH hu hp => ?_⟩
    unfold T.put at hp
    rw [l1, Option.bind_some] at hp
    obtain ⟨t2, hp2, rfl⟩ := Option.map_eq_some_iff.mp hp
    have h2 := c4 F' H' u' Su' t2 hF (fun b hb => hH b (by rcases List.mem_append.mp hb with z | z <;> simp [z])) hu hp2
    refine ⟨a, vs, L ++ (L2 ++ Su' ++ R2) ++ R1, e, hH a (by simp) _ q, by simp, TRs_iff.mpr ?_⟩
    exact b5 _ _ _ (fun c d Sc hS hc => hc.mono hF fun b hb => hH b (by rcases List.mem_append.mp (hS b hb) with z | z <;> simp [z])) h2
  | .fld _ :: _, .sh _, _, _, _, _, g => by cases g
  | .fld _ :: _, .lst _, _, _, _, _, g => by cases g
  | .fld _ :: _, .dct _, _, _, _, _, g => by cases g
  | .key _ :: _, .sh _, _, _, _, _, g => by cases g
  | .key _ :: _, .lst _, _, _, _, _, g => by cases g
  | .key _ :: _, .ins _ _, _, _, _, _, g => by cases g
  | .idx _ :: _, .sh _, _, _, _, _, g => by cases g
  | .idx _ :: _, .ins _ _, _, _, _, _, g => by cases g
  | .idx _ :: _, .dct _, _, _, _, _, g => by cases g
theorem VR.path {K : Kf} {G F : Hp} : ∀ {p : List PEl} {t : T} {v : V} {u : T}, VR K G F t v → T.get p t = some u → ∃ x, Wk G p v x ∧ VR K G F u x
  | [], t, v, u, h, e => by cases e; exact ⟨v, rfl, h⟩
  | .fld f :: p, .ins C fs, v, u, ⟨a, dx, vs, e, q, r⟩, g => by
    obtain ⟨t1, l1, g⟩ := Option.bind_eq_some_iff.mp g
    rcases All2.lk f (VRf_iff.mp r) with ⟨z, _⟩ | ⟨t2, v2, h1, h2, h3⟩
    · rw [z] at l1; cases l1
    · rw [h1] at l1; cases l1
      obtain ⟨x, w, h⟩ := VR.path h3 g
      exact ⟨x, ⟨a, C, dx, vs, v2, e, q, h2, w⟩, h⟩
  | .key f :: p, .dct fs, v, u, ⟨a, vs, e, q, r⟩, g => by
    obtain ⟨t1, l1, g⟩ := Option.bind_eq_some_iff.mp g
    rcases All2.lk f (VRk_iff.mp r) with ⟨z, _⟩ | ⟨t2, v2, h1, h2, h3⟩
    · rw [z] at l1; cases l1
    · rw [h1] at l1; cases l1
      obtain ⟨x, w, h⟩ := VR.path h3 g
      exact ⟨x, ⟨a, vs, v2, e, q, h2, w⟩, h⟩
  | .idx n :: p, .lst ts, v, u, ⟨a, vs, e, q, r⟩, g => by
    obtain ⟨t1, l1, g⟩ := Option.bind_eq_some_iff.mp g
    obtain ⟨v2, h2, h3⟩ := (VRs_iff.mp r).get l1
    obtain ⟨x, w, h⟩ := VR.path h3 g
    exact ⟨x, ⟨a, vs, v2, e, .inl q, h2, w⟩, h⟩
  | .fld _ :: _, .sh _, _, _, _, g => by cases g
  | .fld _ :: _, .lst _, _, _, _, g => by cases g
  | .fld _ :: _, .dct _, _, _, _, g => by cases g
  | .key _ :: _, .sh _, _, _, _, g => by cases g
  | .key _ :: _, .lst _, _, _, _, g => by cases g
  | .key _ :: _, .ins _ _, _, _, _, g => by cases g
  | .idx _ :: _, .sh _, _, _, _, g => by cases g
  | .idx _ :: _, .ins _ _, _, _, _, g => by cases g
  | .idx _ :: _, .dct _, _, _, _, g => by cases g
end DL
namespace DL
open PySem PySem.Spec PyProof.Rows L2
inductive Slot where
  | un | va (t : T) | mu (t : T) | vw (t : T)
abbrev Env := List Slot
def Slot.con : Slot → Option T
  | .un => none
  | .va t => some t
  | .mu t => some t
  | .vw t => some t
def Slot.own : Slot → Option T
  | .va t => some t
  | .mu t => some t
  | _ => none
def Slot.wth : Slot → T → Slot
  | .mu _, t => .mu t
  | _, t => .va t
def SR (K : Kf) (F H : Hp) : Slot → Option V → List Addr → Prop
  | .un, _, S => S = []
  | .va t, o, S => ∃ v, o = some v ∧ TR K F H t v S
  | .mu t, o, S => ∃ v, o = some v ∧ TR K F H t v S
  | .vw _, _, S => S = []
theorem SR.own {K : Kf} {F H : Hp} {s : Slot} {o : Option V} {S : List Addr} {t : T} (h : SR K F H s o S) (e : s.own = some t) : ∃ v, o = some v ∧ TR K F H t v S := by
  cases s with
  | un => cases e
  | va t => cases e; exact h
  | mu t => cases e; exact h
  | vw t => cases e
theorem SR.wth {K : Kf} {F H : Hp} {s : Slot} {v : V} {S : List Addr} {t : T} (h : TR K F H t v S) : SR K F H (s.wth t) (some v) S := by
  cases s <;> exact ⟨v, rfl, h⟩
theorem SR.mono {K : Kf} {F F' H H' : Hp} (f : SubR F F') {s : Slot} {o : Option V} {S : List Addr} (hS : ∀ a ∈ S, ∀ o, H a = some o → H' a = some o) (h : SR K F H s o S) : SR K F' H' s o S := by
  cases s with
  | un => exact h
  | va t => obtain ⟨v, e, h⟩ := h; exact ⟨v, e, h.mono f hS⟩
  | mu t => obtain ⟨v, e, h⟩ := h; exact ⟨v, e, h.mono f hS⟩
  | vw t => exact h
theorem SR.has {K : Kf} {F H : Hp} {s : Slot} {o : Option V} {S : List Addr} (h : SR K F H s o S) : ∀ a ∈ S, ∃ o, H a = some o ∧ Mut (some o) := by
  cases s with
  | un => intro a ha; rw [show S = [] from h] at ha; cases ha
  | va t => obtain ⟨v, e, h⟩ := h; exact h.has
  | mu t => obtain ⟨v, e, h⟩ := h; exact h.has
  | vw t => intro a ha; rw [show S = [] from h] at ha; cases ha
theorem Fs.has {K : Kf} {F H : Hp} : ∀ {ss : List Slot} {os : List (Option V)} {S : List Addr}, Fs (SR K F H) ss os S → ∀ a ∈ S, ∃ o, H a = some o ∧ Mut (some o)
  | [], _, _, h, a, ha => by rw [h.2] at ha; cases ha
  | _ :: _, _, _, ⟨b, l', S1, S2, e, eS, h, q⟩, a, ha => by
    rw [eS] at ha
    exact (List.mem_append.mp ha).elim (h.has a) (Fs.has q a)
theorem SR.hasO {K : Kf} {F H : Hp} {s : Slot} {o : Option V} {S : List Addr} (h : SR K F H s o S) : ∀ a ∈ S, ∃ o, H a = some o ∧ OwnO o := by
  cases s with
  | un => intro a ha; rw [show S = [] from h] at ha; cases ha
  | va t => obtain ⟨v, e, h⟩ := h; exact h.hasO
  | mu t => obtain ⟨v, e, h⟩ := h; exact h.hasO
  | vw t => intro a ha; rw [show S = [] from h] at ha; cases ha
theorem Fs.hasO {K : Kf} {F H : Hp} : ∀ {ss : List Slot} {os : List (Option V)} {S : List Addr}, Fs (SR K F H) ss os S → ∀ a ∈ S, ∃ o, H a = some o ∧ OwnO o
  | [], _, _, h, a, ha => by rw [h.2] at ha; cases ha
  | _ :: _, _, _, ⟨b, l', S1, S2, e, eS, h, q⟩, a, ha => by
    rw [eS] at ha
    exact (List.mem_append.mp ha).elim (h.hasO a) (Fs.hasO q a)
theorem Fs.split {α β : Type} {R : α → β → List Addr → Prop} : ∀ {as as' : List α} {bs bs' : List β} {S : List Addr}, as.length = bs.length → Fs R (as ++ as') (bs ++ bs') S → ∃ S1 S2, S = S1 ++ S2 ∧ Fs R as bs S1 ∧ Fs R as' bs' S2
  | [], _, [], _, S, _, h => ⟨[], S, rfl, ⟨rfl, rfl⟩, h⟩
  | [], _, _ :: _, _, _, e, _ => by cases e
  | _ :: _, _, [], _, _, e, _ => by cases e
  | a :: as, as', b :: bs, bs', S, e, ⟨b1, l', S1, S2, e1, e2, h, q⟩ => by
    cases e1
    obtain ⟨T1, T2, h1, h2, h3⟩ := Fs.split (by simpa using e) q
    exact ⟨S1 ++ T1, T2, by rw [e2, h1, List.append_assoc], ⟨b, bs, S1, T1, rfl, rfl, h, h2⟩, h3⟩
theorem Fs.store {α β : Type} {R : α → β → List Addr → Prop} : ∀ {as : List α} {bs : List β} {S : List Addr} {n : Nat} {a' : α} {b' : β} {S1 : List Addr}, Fs R as bs S → n < as.length → R a' b' S1 →
    ∃ L Sa Rr, S = L ++ Sa ++ Rr ∧ Fs R (as.set n a') (bs.set n b') (L ++ S1 ++ Rr)
  | [], _, _, _, _, _, _, _, h, _ => by simp at h
  | _ :: _, _, _, 0, a', b', S1, ⟨b, l', T1, T2, e, eS, h, q⟩, _, h' => ⟨[], T1, T2, by simp [eS], b', l', S1, T2, by simp [e], by simp, h', q⟩
  | _ :: _, _, _, n + 1, a', b', S1, ⟨b, l', T1, T2, e, eS, h, q⟩, hn, h' => by
    obtain ⟨L, Sa, Rr, h1, h2⟩ := Fs.store q (by simpa using hn) h'
    exact ⟨T1 ++ L, Sa, Rr, by simp [eS, h1], b, l'.set n b', T1, L ++ S1 ++ Rr, by simp [e], by simp, h, h2⟩
structure Gr (B F F' : Hp) : Prop where
  same : Same F F'
  new : ∀ a, F a = none → F' a ≠ none → B a = none
theorem Gr.refl (B F : Hp) : Gr B F F := ⟨Same.refl F, fun a h k => absurd h k⟩
theorem Gr.trans {B F G H : Hp} (a : Gr B F G) (b : Gr B G H) : Gr B F H := ⟨a.same.trans b.same, fun x h k => by
  by_cases z : G x = none
  · exact b.new x z k
  · exact a.new x h z⟩
theorem Gr.anti {B B' F F' : Hp} (h : Gr B' F F') (s : Same B B') : Gr B F F' := ⟨h.same, fun a e k => s.free (h.new a e k)⟩
theorem Gr.sub {B F F' : Hp} (h : Gr B F F') : SubR F F' := SubR.of h.same
def lamNames : List Str := ["law", "_law_prices_right", "_law_twice_refused", "_law_calls_right", "_law_bounds_right", "_law_all_refused"]
def lamO (o : Obj) : Bool := match o with
  | ⟨_, _, .func fd, _⟩ => lamNames.contains fd.name && (fd.scope.names.any fun y => decide (y.2 = .cell)) && fd.scope.names.any fun y => decide (y.1 = "_law_word") || decide (y.1 = "_law_refused")
  | _ => false
def lamT (K : Kf) (g : Addr) : Option (Addr × Addr × Str) := match K.lookup g with
  | some o => match lamO o, o.data with
    | true, .func fd => match fd.code with
      | .ref c => match K.lookup c with
        | some ⟨_, _, .fields vs, _⟩ => match vs.getD 11 .none with
          | .ref P => some (c, P, fd.qualname ++ ".<locals>.<lambda>")
          | _ => none
        | _ => none
      | _ => none
    | _, _ => none
  | none => none
def TabsK (K : Kf) (H : Hp) : Prop := ∀ g c P q, lamT K g = some (c, P, q) → LamX.TabS H P q
theorem TabsK.same {K : Kf} {H H' : Hp} (t : TabsK K H) (s : Same H H') : TabsK K H' := fun g c P q e => (t g c P q e).ext s
theorem TabsK.off {K : Kf} {H H' : Hp} {Z : List Addr} (t : TabsK K H) (hm : ∀ a ∈ Z, ∃ o, H a = some o ∧ OwnO o) (k : ∀ a, a ∉ Z → ∀ o, H a = some o → H' a = some o) : TabsK K H' := fun g c P q e => by
  obtain ⟨ps, e1, e2, e3⟩ := t g c P q e
  have nZ : ∀ a o, H a = some o → ¬ OwnO o → a ∉ Z := fun a o e w z => by
    obtain ⟨o', ho, w'⟩ := hm a z
    rw [e] at ho; cases ho
    exact w w'
  refine ⟨ps, k P (nZ P _ e1 (fun w => w)) _ e1, e2, fun pos cv hc => ?_⟩
  obtain ⟨c', e4, e5⟩ := e3 pos cv hc
  exact ⟨c', e4, k c' (nZ c' _ e5 (fun w => w)) _ e5⟩
structure Bs (K : Kf) (B H : Hp) : Prop where
  ex : ∀ a o, B a = some o → (∀ ps, o ≠ .tbl ps) → H a = some o
  tb : TabsK K B → TabsK K H
  tt : ∀ a ps, B a = some (.tbl ps) → ∃ ps', H a = some (.tbl ps')
  ne : ∀ a, H a = none → B a = none
section
variable {K : Kf}
theorem Bs.of {B H : Hp} (s : Same B H) : Bs K B H := ⟨fun a o e _ => s a o e, fun t => t.same s, fun a ps e => ⟨ps, s a _ e⟩, fun _ e => s.free e⟩
theorem Bs.refl (B : Hp) : Bs K B B := .of (Same.refl B)
theorem Bs.step {B G H : Hp} (a : Bs K B G) (b : Bs K G H) : Bs K B H := ⟨fun c o e n => b.ex c o (a.ex c o e n) n, fun t => b.tb (a.tb t), fun c ps e => let ⟨ps', e'⟩ := a.tt c ps e; b.tt c ps' e', fun c e => a.ne c (b.ne c e)⟩
theorem Bs.pre {B G H : Hp} (a : Same B G) (b : Bs K G H) : Bs K B H := (Bs.of a).step b
theorem Gr.antiB {B B' F F' : Hp} (h : Gr B' F F') (s : Bs K B B') : Gr B F F' := ⟨h.same, fun a e k => s.ne a (h.new a e k)⟩
theorem Bs.v {B H : Hp} (h : Bs K B H) : SubV B H := ⟨fun a o e n => .inl (h.ex a o e n)⟩
theorem Bs.kept {B H H' : Hp} {Z : List Addr} (h : Bs K B H) (hB : ∀ a ∈ Z, B a = none) (hm : ∀ a ∈ Z, ∃ o, H a = some o ∧ OwnO o) (k : ∀ a, a ∉ Z → ∀ o, H a = some o → H' a = some o) : Bs K B H' := by
  refine ⟨fun a o e n => k a (fun z => by rw [hB a z] at e; cases e) o (h.ex a o e n), fun t => (h.tb t).off hm k, fun a ps e => ?_, fun a e => ?_⟩
  · obtain ⟨ps', e'⟩ := h.tt a ps e
    exact ⟨ps', k a (fun z => by rw [hB a z] at e; cases e) _ e'⟩
  · by_cases z : a ∈ Z
    · exact hB a z
    · refine h.ne a ?_
      cases w : H a with
      | none => rfl
      | some o => rw [k a z o w] at e; cases e
abbrev Bz (K : Kf) (Z : List Addr) (H H' : Hp) : Prop := Bs K (fun a => if a ∈ Z then none else H a) H'
theorem Bz.of {Z : List Addr} {H H' : Hp} (k : ∀ a, a ∉ Z → ∀ o, H a = some o → H' a = some o) : Bz K Z H H' := Bs.of fun a o e => by
  by_cases z : a ∈ Z
  · rw [if_pos z] at e; cases e
  · rw [if_neg z] at e; exact k a z o e
theorem Bz.ex {Z : List Addr} {H H' : Hp} (k : Bz K Z H H') {a : Addr} (z : a ∉ Z) {o : HO} (e : H a = some o) (n : ∀ ps, o ≠ .tbl ps) : H' a = some o := Bs.ex k a o (by rw [if_neg z]; exact e) n
theorem TabsK.z {H H' : Hp} {Z : List Addr} (t : TabsK K H) (hm : ∀ a ∈ Z, ∃ o, H a = some o ∧ OwnO o) (k : Bz K Z H H') : TabsK K H' := k.tb (t.off hm fun a z o e => by rw [if_neg z]; exact e)
theorem Bs.keptB {B H H' : Hp} {Z : List Addr} (h : Bs K B H) (hB : ∀ a ∈ Z, B a = none) (hm : ∀ a ∈ Z, ∃ o, H a = some o ∧ OwnO o) (k : Bz K Z H H') : Bs K B H' := by
  refine ⟨fun a o e n => k.ex (fun z => by rw [hB a z] at e; cases e) (h.ex a o e n) n, fun t => (h.tb t).z hm k, fun a ps e => ?_, fun a e => ?_⟩
  · obtain ⟨ps', e'⟩ := h.tt a ps e
    exact k.tt a ps' (by
      show (if a ∈ Z then none else H a) = _
      rw [if_neg (fun z => by rw [hB a z] at e; cases e)]; exact e')
  · by_cases z : a ∈ Z
    · exact hB a z
    · have := k.ne a e
      rw [if_neg z] at this
      exact h.ne a this
def fz (a : Addr) : HO → Prop
  | .lst _ | .tup _ | .dK _ | .ins _ _ _ | .xd _ => True
  | .ext φ => ∀ h, φ h → ∃ o, h.get? a = some o ∧ ∀ v, o.data ≠ .cell v
  | .frz _ (.lst _) => True
  | _ => False
theorem exR_fz {a C : Addr} {od : Option Addr} : fz a (exR a C od) := fun h ⟨oe, vs, e, _, d⟩ => ⟨oe, e, fun v z => by rw [d] at z; cases z⟩
theorem OwnO.fz {a : Addr} {o : HO} (h : OwnO o) : DL.fz a o := by cases o <;> first | exact h.elim | exact trivial
theorem OwnO.nt {o : HO} (h : OwnO o) : ∀ ps, o ≠ .tbl ps := fun ps e => by rw [e] at h; exact h
theorem Bs.ovl {B H : Hp} {S : List Addr} (h : Bs K B H) (hm : ∀ a ∈ S, ∃ o, H a = some o ∧ OwnO o) : Bs K (fun a => if a ∈ S then H a else B a) H := by
  refine ⟨fun a o e n => ?_, fun T => h.tb (T.off (Z := S) (fun a z => ?_) fun a z o e => ?_), fun a ps e => ?_, fun a e => ?_⟩
  · by_cases hm : a ∈ S
    · simpa [hm] using e
    · exact h.ex a o (by simpa [hm] using e) n
  · obtain ⟨o, e, w⟩ := hm a z
    exact ⟨o, by simpa [z] using e, w⟩
  · simpa [z] using e
  · by_cases hm : a ∈ S
    · exact ⟨ps, by simpa [hm] using e⟩
    · exact h.tt a ps (by simpa [hm] using e)
  · by_cases hm : a ∈ S
    · simpa [hm] using e
    · simpa [hm] using h.ne a e
class Lf : Type where
  on : Prop
instance (priority := low) Lf.dflt : Lf := ⟨True⟩
@[reducible] def Lf.off : Lf := ⟨False⟩
end
section
variable {K : Kf} [Lf]
structure BsK (K : Kf) (B H : Hp) : Prop extends Bs K B H where
  tk : Lf.on → TabsK K H
instance {B H : Hp} : CoeOut (BsK K B H) (Bs K B H) := ⟨BsK.toBs⟩
variable {B G H H' : Hp}
theorem BsK.step (a : BsK K B G) (b : Bs K G H) : BsK K B H := ⟨a.toBs.step b, fun l => b.tb (a.tk l)⟩
theorem BsK.trans (a : BsK K B G) (b : Same G H) : BsK K B H := a.step (.of b)
theorem BsK.pre (a : Same B G) (b : BsK K G H) : BsK K B H := ⟨Bs.pre a b.toBs, b.tk⟩
theorem BsK.fr (a : BsK K B H) : BsK K H H := ⟨Bs.refl H, a.tk⟩
theorem BsK.keptB {Z : List Addr} (h : BsK K B H) (hB : ∀ a ∈ Z, B a = none) (hm : ∀ a ∈ Z, ∃ o, H a = some o ∧ OwnO o) (k : Bz K Z H H') : BsK K B H' := ⟨h.toBs.keptB hB hm k, fun l => (h.tk l).z hm k⟩
theorem BsK.ovl {S : List Addr} (h : BsK K B H) (hm : ∀ a ∈ S, ∃ o, H a = some o ∧ OwnO o) : BsK K (fun a => if a ∈ S then H a else B a) H := ⟨h.toBs.ovl hm, h.tk⟩
end
structure SubF (F H : Hp) : Prop extends SubR F H where
  nt : ∀ a o, F a = some o → fz a o
instance {F H : Hp} : Coe (SubF F H) (SubR F H) := ⟨SubF.toSubR⟩
theorem SubF.trans {F G H : Hp} (a : SubF F G) (b : SubR G H) : SubF F H := ⟨a.toSubR.trans b, a.nt⟩
variable [Lf]
structure St (K : Kf) (B F H : Hp) (ss : List Slot) (os : List (Option V)) : Prop where
  sb : BsK K B H
  sf : SubF F H
  fp : ∃ S, Fs (SR K F H) ss os S ∧ S.Nodup ∧ ∀ a ∈ S, B a = none ∧ F a = none
section
variable {K : Kf} {B F H : Hp} {ss : List Slot} {os : List (Option V)}
theorem SubR.off {F H : Hp} (h : SubR F H) {a : Addr} (e : H a = none) : F a = none := by
  cases q : F a with
  | none => rfl
  | some o =>
    rcases h.sub a o q with z | ⟨_, _, _, z⟩ <;> rw [e] at z <;> cases z
theorem St.len (h : St K B F H ss os) : ss.length = os.length := let ⟨_, f, _⟩ := h.fp; f.length
theorem St.drop {s : Slot} {o : Option V} (h : St K B F H (s :: ss) (o :: os)) : St K B F H ss os := by
  obtain ⟨S, ⟨b, l', S1, S2, e, eS, h1, h2⟩, nd, k⟩ := h.fp
  cases e
  subst eS
  exact ⟨h.sb, h.sf, S2, h2, (List.nodup_append.mp nd).2.1, fun a ha => k a (List.mem_append_right _ ha)⟩
theorem St.dropn {qs : List Slot} {xs : List (Option V)} (hl : qs.length = xs.length) (h : St K B F H (qs ++ ss) (xs ++ os)) : St K B F H ss os := by
  obtain ⟨S, f, nd, k⟩ := h.fp
  obtain ⟨S1, S2, rfl, f1, f2⟩ := f.split hl
  exact ⟨h.sb, h.sf, S2, f2, (List.nodup_append.mp nd).2.1, fun a ha => k a (List.mem_append_right _ ha)⟩
theorem St.push {d : D} {v : V} (h : St K B F H ss os) (r : DR K F d v) : St K B F H (.va (.sh d) :: ss) (some v :: os) := by
  obtain ⟨S, f, nd, k⟩ := h.fp
  exact ⟨h.sb, h.sf, S, ⟨some v, os, [], S, rfl, rfl, ⟨v, rfl, rfl, r⟩, f⟩, nd, k⟩
theorem St.store {s : Slot} {o : Option V} {i : Nat} (h : St K B F H (s :: ss) (o :: os)) (hi : i < ss.length) : St K B F H (ss.set i s) (os.set i o) := by
  obtain ⟨S, ⟨b, l', S1, S2, e, eS, h1, h2⟩, nd, k⟩ := h.fp
  cases e
  subst eS
  obtain ⟨L, Sa, Rr, e1, f⟩ := Fs.store h2 hi h1
  subst e1
  have n1 := List.nodup_append.mp nd
  have n2 := List.nodup_append.mp n1.2.1
  have n3 := List.nodup_append.mp n2.1
  refine ⟨h.sb, h.sf, _, f, ?_, fun a ha => k a ?_⟩
  · refine List.nodup_append.mpr ⟨List.nodup_append.mpr ⟨n3.1, n1.1, fun a ha b hb z => n1.2.2 b hb a (by simp [ha]) z.symm⟩, n2.2.1, fun a ha b hb z => ?_⟩
    rcases List.mem_append.mp ha with ha | ha
    · exact n2.2.2 a (by simp [ha]) b hb z
    · exact n1.2.2 a ha b (by simp [hb]) z
  · rcases List.mem_append.mp ha with ha | ha
    · rcases List.mem_append.mp ha with ha | ha <;> simp [ha]
    · simp [ha]
def Vw (K : Kf) (B F : Hp) (ss : List Slot) (os : List (Option V)) : Prop := ∀ (i : Nat) (t : T), ss[i]? = some (Slot.vw t) → ∃ v, os[i]? = some (some v) ∧ VR K B F t v
theorem Vw.grV {B' F' : Hp} (h : Vw K B F ss os) (s : SubV B B') (g : SubR F F') : Vw K B' F' ss os := fun i t e => let ⟨v, a, b⟩ := h i t e; ⟨v, a, b.monoV s g⟩
theorem Vw.gr {B' F' : Hp} (h : Vw K B F ss os) (s : SubR B B') (g : SubR F F') : Vw K B' F' ss os := h.grV s.v g
theorem St.vr {i : Nat} {s : Slot} {t : T} (h : St K B F H ss os) (hv : Vw K B F ss os) (e : ss[i]? = some s) (c : s.con = some t) : ∃ v, os[i]? = some (some v) ∧ VR K H F t v := by
  obtain ⟨S, f, nd, k⟩ := h.fp
  obtain ⟨o, L, Sa, Rr, h1, h2, h3, _⟩ := f.at e
  cases s with
  | un => cases c
  | va u => cases c; obtain ⟨v, rfl, r⟩ := h3; exact ⟨v, h1, r.vr⟩
  | mu u => cases c; obtain ⟨v, rfl, r⟩ := h3; exact ⟨v, h1, r.vr⟩
  | vw u => cases c; obtain ⟨v, e1, r⟩ := hv i t e; exact ⟨v, e1, r.monoV h.sb.v (SubR.refl _)⟩
theorem St.shAt {i : Nat} {s : Slot} {d : D} (h : St K B F H ss os) (hv : Vw K B F ss os) (e : ss[i]? = some s) (c : s.con = some (.sh d)) : ∃ v, os[i]? = some (some v) ∧ DR K F d v := by
  obtain ⟨S, f, nd, k⟩ := h.fp
  obtain ⟨o, L, Sa, Rr, h1, h2, h3, _⟩ := f.at e
  cases s with
  | un => cases c
  | va u => cases c; obtain ⟨v, rfl, r⟩ := h3; exact ⟨v, h1, r.2⟩
  | mu u => cases c; obtain ⟨v, rfl, r⟩ := h3; exact ⟨v, h1, r.2⟩
  | vw u => cases c; exact hv i _ e
theorem St.park {t : T} {v : V} (h : St K B F H (.va t :: ss) (some v :: os)) : ∃ B', Same B B' ∧ St K B' F H ss os ∧
    ∀ (F' H' : Hp) (ss' : List Slot) (os' : List (Option V)), Gr B' F F' → St K B' F' H' ss' os' → St K B F' H' (.va t :: ss') (some v :: os') := by
  obtain ⟨S, ⟨b, l', S1, S2, e, eS, h1, h2⟩, nd, k⟩ := h.fp
  cases e
  subst eS
  obtain ⟨w, ew, tr⟩ := h1
  cases ew
  have nd' := List.nodup_append.mp nd
  have has := tr.has
  refine ⟨fun a => if a ∈ S1 then H a else B a, fun a o e => ?_, ⟨h.sb.ovl tr.hasO, h.sf, S2, h2, nd'.2.1, fun a ha => ?_⟩, fun F' H' ss' os' g h' => ?_⟩
  · by_cases hm : a ∈ S1
    · have := (k a (List.mem_append_left _ hm)).1
      rw [e] at this; cases this
    · simpa [hm] using e
  · have := k a (List.mem_append_right _ ha)
    refine ⟨?_, this.2⟩
    have hm : a ∉ S1 := fun z => nd'.2.2 a z a ha rfl
    simpa [hm] using this.1
  · obtain ⟨S', f', nd2, k'⟩ := h'.fp
    have sb : BsK K B H' := .pre (fun a o e => by
      by_cases hm : a ∈ S1
      · have := (k a (List.mem_append_left _ hm)).1
        rw [e] at this; cases this
      · simpa [hm] using e) h'.sb
    have keep : ∀ a ∈ S1, ∀ o, H a = some o → H' a = some o := fun a ha o e => h'.sb.ex a o (by simpa [ha] using e) (by
      obtain ⟨o', ho, w⟩ := tr.hasO a ha
      rw [e] at ho; cases ho
      exact w.nt)
    refine ⟨sb, h'.sf, S1 ++ S', ⟨some v, os', S1, S', rfl, rfl, ⟨v, rfl, tr.mono g.sub keep⟩, f'⟩, ?_, fun a ha => ?_⟩
    · refine List.nodup_append.mpr ⟨nd'.1, nd2, fun a ha b hb z => ?_⟩
      subst z
      obtain ⟨o, ho, _⟩ := has a ha
      have := (k' a hb).1
      simp only [ha, if_true] at this
      rw [ho] at this; cases this
    · rcases List.mem_append.mp ha with ha | ha
      · have q := k a (List.mem_append_left _ ha)
        refine ⟨q.1, ?_⟩
        obtain ⟨o, ho, _⟩ := has a ha
        refine Classical.byContradiction fun z => ?_
        have := g.new a q.2 z
        simp only [ha, if_true] at this
        rw [ho] at this; cases this
      · have q := k' a ha
        refine ⟨?_, q.2⟩
        by_cases hm : a ∈ S1
        · exact (k a (List.mem_append_left _ hm)).1
        · simpa [hm] using q.1
theorem St.chgB {qs : List Slot} {xs : List (Option V)} {i : Nat} {s : Slot} {t u : T} {v : V} {p : List PEl} (hl : qs.length = xs.length) (h : St K B F H (qs ++ ss) (xs ++ os)) (e : ss[i]? = some s) (c : s.own = some t) (ev : os[i]? = some (some v))
    (g : T.get p t = some u) : ∃ x Su Sq, Wk H p v x ∧ TR K F H u x Su ∧ Fs (SR K F H) qs xs Sq ∧ (Sq ++ Su).Nodup ∧ (∀ a ∈ Sq ++ Su, B a = none ∧ F a = none) ∧
    ∀ (F' H' : Hp) (u' t' : T) (Su' Sr : List Addr) (rs : List Slot) (ys : List (Option V)), Same F F' → (∀ a, F a = none → F' a ≠ none → H a = none ∨ a ∈ Sq ++ Su) → SubF F' H' →
      Bz K (Sq ++ Su) H H' → TR K F' H' u' x Su' → Fs (SR K F' H') rs ys Sr → (Sr ++ Su').Nodup → (∀ a ∈ Sr ++ Su', F' a = none ∧ (H a = none ∨ a ∈ Sq ++ Su)) →
      T.put p t u' = some t' → St K B F' H' (rs ++ ss.set i (s.wth t')) (ys ++ os) := by
  obtain ⟨S, f, nd, k⟩ := h.fp
  obtain ⟨Sq, S2, rfl, fq, fs⟩ := f.split hl
  obtain ⟨o, L, Sa, Rr, h1, h2, h3, h4⟩ := fs.at e
  rw [ev] at h1
  cases h1
  obtain ⟨w, ew, tr⟩ := h3.own c
  cases ew
  obtain ⟨x, L2, Su, R2, c1, c2, c3, c4⟩ := tr.path g
  subst c1
  subst h2
  have P : (Sq ++ (L ++ (L2 ++ Su ++ R2) ++ Rr)).Perm ((Sq ++ Su) ++ (L ++ L2 ++ (R2 ++ Rr))) := by
    simp only [List.append_assoc]
    refine List.Perm.append_left Sq ?_
    refine (List.perm_append_comm_assoc L L2 _).symm.symm.trans ?_
    refine List.Perm.trans ?_ (List.perm_append_comm_assoc (L ++ L2) Su (R2 ++ Rr) |>.trans (by simp only [List.append_assoc]; exact List.Perm.refl _))
    simp only [List.append_assoc]
    exact (List.perm_append_comm_assoc L2 L _)
  have nd2 := P.nodup_iff.mp nd
  have nd3 := List.nodup_append.mp nd2
  refine ⟨x, Su, Sq, c2, c3, fq, nd3.1, fun a ha => k a (P.mem_iff.mpr (List.mem_append_left _ ha)), fun F' H' u' t' Su' Sr rs ys sF nF sH kH hu hr nd' k' hp => ?_⟩
  have out : ∀ a, a ∈ L ++ L2 ++ (R2 ++ Rr) → a ∉ Sq ++ Su := fun a ha z => nd3.2.2 a z a ha rfl
  have old2 : ∀ a ∈ L ++ L2 ++ (R2 ++ Rr), ∀ o, H a = some o → ∀ ps, o ≠ .tbl ps := fun a ha o ho => by
    obtain ⟨o', ho', w⟩ := f.hasO a (P.mem_iff.mpr (List.mem_append_right _ ha))
    rw [ho] at ho'; cases ho'
    exact w.nt
  have old : ∀ a ∈ L ++ L2 ++ (R2 ++ Rr), ∀ o, H a = some o → H' a = some o := fun a ha o ho => kH.ex (out a ha) ho (old2 a ha o ho)
  have free : ∀ {G : Hp}, (∀ a ∈ Sq ++ Su, G a = none) → ∀ a o, G a = some o → a ∉ Sq ++ Su := fun hG a o ho z => by rw [hG a z] at ho; cases ho
  have tr' := c4 F' H' u' Su' t' (.of sF) (fun a ha => old a (by rcases List.mem_append.mp ha with z | z <;> simp [z])) hu hp
  have f' := h4 (SR K F' H') (s.wth t') (L2 ++ Su' ++ R2) (fun c d Sc hS hc => hc.mono (.of sF) fun a ha => old a (by rcases List.mem_append.mp (hS a ha) with z | z <;> simp [z])) (SR.wth tr')
  have P' : (Sr ++ (L ++ (L2 ++ Su' ++ R2) ++ Rr)).Perm ((Sr ++ Su') ++ (L ++ L2 ++ (R2 ++ Rr))) := by
    simp only [List.append_assoc]
    refine List.Perm.append_left Sr ?_
    refine List.Perm.trans ?_ (List.perm_append_comm_assoc (L ++ L2) Su' (R2 ++ Rr) |>.trans (by simp only [List.append_assoc]; exact List.Perm.refl _))
    simp only [List.append_assoc]
    exact List.Perm.refl _
  refine ⟨h.sb.keptB (Z := Sq ++ Su) (fun a ha => (k a (P.mem_iff.mpr (List.mem_append_left _ ha))).1) (fun a ha => f.hasO a (P.mem_iff.mpr (List.mem_append_left _ ha))) kH, sH, Sr ++ (L ++ (L2 ++ Su' ++ R2) ++ Rr), hr.append f', P'.nodup_iff.mpr (List.nodup_append.mpr ⟨nd', nd3.2.1, fun a ha b hb z => ?_⟩), fun a ha => ?_⟩
  · subst z
    obtain ⟨y, hy, _⟩ := f.has a (P.mem_iff.mpr (List.mem_append_right _ hb))
    rcases (k' a ha).2 with z | z
    · rw [z] at hy; cases hy
    · exact out a hb z
  · rcases List.mem_append.mp (P'.mem_iff.mp ha) with ha | ha
    · have q := k' a ha
      rcases q.2 with z | z
      · exact ⟨h.sb.ne a z, q.1⟩
      · have q2 := k a (P.mem_iff.mpr (List.mem_append_left _ z))
        exact ⟨q2.1, q.1⟩
    · have q2 := k a (P.mem_iff.mpr (List.mem_append_right _ ha))
      refine ⟨q2.1, Classical.byContradiction fun z => ?_⟩
      obtain ⟨y, hy, _⟩ := f.has a (P.mem_iff.mpr (List.mem_append_right _ ha))
      rcases nF a q2.2 z with w | w
      · rw [w] at hy; cases hy
      · exact out a ha w
theorem St.chg {qs : List Slot} {xs : List (Option V)} {i : Nat} {s : Slot} {t u : T} {v : V} {p : List PEl} (hl : qs.length = xs.length) (h : St K B F H (qs ++ ss) (xs ++ os)) (e : ss[i]? = some s) (c : s.own = some t) (ev : os[i]? = some (some v))
    (g : T.get p t = some u) : ∃ x Su Sq, Wk H p v x ∧ TR K F H u x Su ∧ Fs (SR K F H) qs xs Sq ∧ (Sq ++ Su).Nodup ∧ (∀ a ∈ Sq ++ Su, B a = none ∧ F a = none) ∧
    ∀ (F' H' : Hp) (u' t' : T) (Su' Sr : List Addr) (rs : List Slot) (ys : List (Option V)), Same F F' → (∀ a, F a = none → F' a ≠ none → H a = none ∨ a ∈ Sq ++ Su) → SubF F' H' →
      (∀ a, a ∉ Sq ++ Su → ∀ o, H a = some o → H' a = some o) → TR K F' H' u' x Su' → Fs (SR K F' H') rs ys Sr → (Sr ++ Su').Nodup → (∀ a ∈ Sr ++ Su', F' a = none ∧ (H a = none ∨ a ∈ Sq ++ Su)) →
      T.put p t u' = some t' → St K B F' H' (rs ++ ss.set i (s.wth t')) (ys ++ os) := by
  obtain ⟨x, Su, Sq, c2, c3, fq, nd, k, go⟩ := h.chgB hl e c ev g
  exact ⟨x, Su, Sq, c2, c3, fq, nd, k, fun F' H' u' t' Su' Sr rs ys a1 a2 a3 a4 => go F' H' u' t' Su' Sr rs ys a1 a2 a3 (.of a4)⟩
theorem St.madeB {qs : List Slot} {xs : List (Option V)} (hl : qs.length = xs.length) (h : St K B F H (qs ++ ss) (xs ++ os)) : ∃ Sq, Fs (SR K F H) qs xs Sq ∧ Sq.Nodup ∧ (∀ a ∈ Sq, B a = none ∧ F a = none) ∧
    ∀ (F' H' : Hp) (Sr : List Addr) (rs : List Slot) (ys : List (Option V)), Same F F' → (∀ a, F a = none → F' a ≠ none → H a = none ∨ a ∈ Sq) → SubF F' H' →
      Bz K Sq H H' → Fs (SR K F' H') rs ys Sr → Sr.Nodup → (∀ a ∈ Sr, F' a = none ∧ (H a = none ∨ a ∈ Sq)) → St K B F' H' (rs ++ ss) (ys ++ os) := by
  obtain ⟨S, f, nd, k⟩ := h.fp
  obtain ⟨Sq, S2, rfl, fq, fs⟩ := f.split hl
  have nd3 := List.nodup_append.mp nd
  refine ⟨Sq, fq, nd3.1, fun a ha => k a (List.mem_append_left _ ha), fun F' H' Sr rs ys sF nF sH kH hr nd' k' => ?_⟩
  have out : ∀ a, a ∈ S2 → a ∉ Sq := fun a ha z => nd3.2.2 a z a ha rfl
  have old2 : ∀ a ∈ S2, ∀ o, H a = some o → ∀ ps, o ≠ .tbl ps := fun a ha o ho => by
    obtain ⟨o', ho', w⟩ := fs.hasO a ha
    rw [ho] at ho'; cases ho'
    exact w.nt
  have free : ∀ {G : Hp}, (∀ a ∈ Sq, G a = none) → ∀ a o, G a = some o → a ∉ Sq := fun hG a o ho z => by rw [hG a z] at ho; cases ho
  refine ⟨h.sb.keptB (Z := Sq) (fun a ha => (k a (List.mem_append_left _ ha)).1) (fun a ha => fq.hasO a ha) kH, sH, Sr ++ S2, hr.append (fs.imp fun c d Sc hS hc => hc.mono (.of sF) fun a ha o ho => kH.ex (out a (hS a ha)) ho (old2 a (hS a ha) o ho)), List.nodup_append.mpr ⟨nd', nd3.2.1, fun a ha b hb z => ?_⟩, fun a ha => ?_⟩
  · subst z
    obtain ⟨y, hy, _⟩ := fs.has a hb
    rcases (k' a ha).2 with z | z
    · rw [z] at hy; cases hy
    · exact out a hb z
  · rcases List.mem_append.mp ha with ha | ha
    · have q := k' a ha
      rcases q.2 with z | z
      · exact ⟨h.sb.ne a z, q.1⟩
      · have q2 := k a (List.mem_append_left _ z)
        exact ⟨q2.1, q.1⟩
    · have q2 := k a (List.mem_append_right _ ha)
      refine ⟨q2.1, Classical.byContradiction fun z => ?_⟩
      obtain ⟨y, hy, _⟩ := fs.has a ha
      rcases nF a q2.2 z with w | w
      · rw [w] at hy; cases hy
      · exact out a ha w
theorem St.made {qs : List Slot} {xs : List (Option V)} (hl : qs.length = xs.length) (h : St K B F H (qs ++ ss) (xs ++ os)) : ∃ Sq, Fs (SR K F H) qs xs Sq ∧ Sq.Nodup ∧ (∀ a ∈ Sq, B a = none ∧ F a = none) ∧
    ∀ (F' H' : Hp) (Sr : List Addr) (rs : List Slot) (ys : List (Option V)), Same F F' → (∀ a, F a = none → F' a ≠ none → H a = none ∨ a ∈ Sq) → SubF F' H' →
      (∀ a, a ∉ Sq → ∀ o, H a = some o → H' a = some o) → Fs (SR K F' H') rs ys Sr → Sr.Nodup → (∀ a ∈ Sr, F' a = none ∧ (H a = none ∨ a ∈ Sq)) → St K B F' H' (rs ++ ss) (ys ++ os) := by
  obtain ⟨Sq, fq, nd, k, go⟩ := h.madeB hl
  exact ⟨Sq, fq, nd, k, fun F' H' Sr rs ys a1 a2 a3 a4 => go F' H' Sr rs ys a1 a2 a3 (.of a4)⟩
end
end DL
namespace DL
variable [Lf]
open PySem PySem.Spec PyProof.Rows L2
abbrev XS := L2.St → XK
abbrev NX : XS := fun _ => E0
structure Exn where
  C : Addr
  fs : Option (List (Str × D))
def ExOk (K : Kf) (F H : Hp) (c : Exn) (od : Option Addr) : Prop :=
  match c.fs with
  | none => od = none
  | some fs => ∃ d fvs, od = some d ∧ F d = some (.xd fvs) ∧ DRf K F fs fvs
inductive R (α : Type) where
  | ok (a : α) | ex (c : Exn) (e : Env) | st
def R.bnd {α β : Type} : R (α × Env) → (α → Env → R β) → R β
  | .ok (a, e), k => k a e
  | .ex c e, _ => .ex c e
  | .st, _ => .st
inductive Val where
  | tv (t : T) | pl (i : Nat) (p : List PEl)
abbrev ME := Env → R (Val × Env)
abbrev MA := Env → R (List Val × Env)
def cn (v : Val) (e : Env) : Option T :=
  match v with
  | .tv t => some t
  | .pl i p => (e[i]?).bind fun s => s.con.bind (T.get p)
def cns : List Val → Env → Option (List T)
  | [], _ => some []
  | v :: r, e => (cn v e).bind fun t => (cns r e).map fun ts => t :: ts
def Kd (e e' : Env) : Prop := ∀ i : Nat, (∀ t, e[i]? = some (Slot.vw t) ↔ e'[i]? = some (Slot.vw t)) ∧ ((∃ t, e[i]? = some (Slot.mu t)) ↔ ∃ t, e'[i]? = some (Slot.mu t))
theorem Kd.refl (e : Env) : Kd e e := fun _ => ⟨fun _ => Iff.rfl, Iff.rfl⟩
theorem Kd.trans {a b c : Env} (h : Kd a b) (k : Kd b c) : Kd a c := fun i => ⟨fun t => ((h i).1 t).trans ((k i).1 t), (h i).2.trans (k i).2⟩
theorem Kd.set {e : Env} {i : Nat} {s : Slot} {t : T} (h : e[i]? = some s) (o : s.own ≠ none) : Kd e (e.set i (s.wth t)) := fun j => by
  by_cases hj : j = i
  · subst hj
    have hlt := (List.getElem?_eq_some_iff.mp h).1
    rw [List.getElem?_set_self hlt, h]
    cases s <;> simp [Slot.own, Slot.wth] at o ⊢
  · rw [List.getElem?_set_ne (Ne.symm hj)]
    exact ⟨fun _ => Iff.rfl, Iff.rfl⟩
def PlOk (H : Hp) (σ : List (Option V)) : Val → V → Prop
  | .tv _, _ => True
  | .pl i p, x => ∃ v, σ[i]? = some (some v) ∧ Wk H p v x
def pdS : List Val → List Slot
  | [] => []
  | .tv t :: r => .va t :: pdS r
  | .pl _ _ :: r => pdS r
def pdX : List Val → List V → List (Option V)
  | .tv _ :: r, x :: xs => some x :: pdX r xs
  | .pl _ _ :: r, _ :: xs => pdX r xs
  | _, _ => []
theorem pd_len : ∀ {vs : List Val} {xs : List V}, vs.length = xs.length → (pdS vs).length = (pdX vs xs).length
  | [], [], _ => rfl
  | [], _ :: _, h => by cases h
  | .tv _ :: r, [], h => by cases h
  | .pl _ _ :: r, [], h => by cases h
  | .tv _ :: r, _ :: xs, h => by simp only [pdS, pdX, List.length_cons]; rw [pd_len (vs := r) (xs := xs) (by simpa using h)]
  | .pl _ _ :: r, _ :: xs, h => by simp only [pdS, pdX]; exact pd_len (vs := r) (xs := xs) (by simpa using h)
structure Got (K : Kf) (B F H : Hp) (env : Env) (σ : List (Option V)) (vs : List Val) (xs : List V) : Prop where
  len : vs.length = xs.length
  st : St K B F H (pdS vs ++ env) (pdX vs xs ++ σ)
  pl : All2 (PlOk H σ) vs xs
def PostV (K : Kf) (B F : Hp) (env : Env) (σ : L2.St) (E : XS) (Q : V → Hp → Prop) : R (Val × Env) → Prop
  | .ok (v, env') => ∀ x F' H', Gr B F F' → Kd env env' → Got K B F' H' env' σ [v] [x] → Q x H'
  | .ex c env' => ∀ od F' H', Gr B F F' → Kd env env' → St K B F' H' env' σ → ExOk K F' H' c od → E σ (.ref c.C) od H'
  | .st => False
def PostA (K : Kf) (B F : Hp) (env : Env) (σ : L2.St) (E : XS) (Q : List V → Hp → Prop) : R (List Val × Env) → Prop
  | .ok (vs, env') => ∀ xs F' H', Gr B F F' → Kd env env' → Got K B F' H' env' σ vs xs → Q xs H'
  | .ex c env' => ∀ od F' H', Gr B F F' → Kd env env' → St K B F' H' env' σ → ExOk K F' H' c od → E σ (.ref c.C) od H'
  | .st => False
def EvT (K : Kf) (E : XS) (t : TE) (m : ME) : Prop := ∀ (B F H : Hp) (σ : L2.St) (env : Env) (Q : VK), St K B F H env σ → Vw K B F env σ → PostV K B F env σ E Q (m env) → t σ H Q
def EvA (K : Kf) (E : XS) (t : TA) (m : MA) : Prop := ∀ (B F H : Hp) (σ : L2.St) (env : Env) (Q : List V → Hp → Prop), St K B F H env σ → Vw K B F env σ → PostA K B F env σ E Q (m env) → t σ H Q
section
variable {K : Kf} {B F H : Hp} {env : Env} {σ : L2.St} {E : XS}
theorem Got.tv {t : T} {x : V} (h : Got K B F H env σ [.tv t] [x]) : St K B F H (.va t :: env) (some x :: σ) := h.st
theorem Got.of {t : T} {x : V} (h : St K B F H (.va t :: env) (some x :: σ)) : Got K B F H env σ [.tv t] [x] := ⟨rfl, h, ⟨x, [], rfl, trivial, rfl⟩⟩
theorem Got.base {vs : List Val} {xs : List V} (h : Got K B F H env σ vs xs) : St K B F H env σ := h.st.dropn (pd_len h.len)
theorem Got.kd {env' : Env} {F' H' : Hp} (hv : Vw K B F env σ) (g : Gr B F F') (kd : Kd env env') : Vw K B F' env' σ := fun i t e => by
  obtain ⟨v, a, b⟩ := hv i t (((kd i).1 t).mpr e)
  exact ⟨v, a, b.mono (SubR.refl _) g.sub⟩
theorem vr_pd : ∀ {vs : List Val} {xs : List V} {S : List Addr}, vs.length = xs.length → Fs (SR K F H) (pdS vs) (pdX vs xs) S → All2 (fun v x => ∀ t, v = Val.tv t → VR K H F t x) vs xs
  | [], [], _, _, _ => rfl
  | [], _ :: _, _, h, _ => by cases h
  | .tv _ :: r, [], _, h, _ => by cases h
  | .pl _ _ :: r, [], _, h, _ => by cases h
  | .tv t :: r, x :: xs, S, hl, ⟨b, l', S1, S2, e, eS, h, q⟩ => by
    cases e
    obtain ⟨w, ew, tr⟩ := h
    cases ew
    exact ⟨x, xs, rfl, fun u e => by cases e; exact tr.vr, vr_pd (by simpa using hl) q⟩
  | .pl _ _ :: r, x :: xs, S, hl, h => ⟨x, xs, rfl, (fun u e => nomatch e), vr_pd (vs := r) (by simpa using hl) h⟩
theorem St.vrPl {i : Nat} {p : List PEl} {t : T} {x : V} (h : St K B F H env σ) (hv : Vw K B F env σ) (c : cn (.pl i p) env = some t) (w : PlOk H σ (.pl i p) x) : VR K H F t x := by
  obtain ⟨s, h1, h2⟩ := Option.bind_eq_some_iff.mp c
  obtain ⟨u, h3, h4⟩ := Option.bind_eq_some_iff.mp h2
  obtain ⟨v, ev, r⟩ := h.vr hv h1 h3
  obtain ⟨v', ev', w⟩ := w
  rw [ev] at ev'
  cases ev'
  obtain ⟨y, w', q⟩ := r.path h4
  cases w.det w'
  exact q
theorem cns_vr (hv : Vw K B F env σ) : ∀ {vs : List Val} {xs : List V} {ts : List T}, St K B F H env σ → All2 (fun v x => ∀ t, v = Val.tv t → VR K H F t x) vs xs → All2 (PlOk H σ) vs xs → cns vs env = some ts → All2 (VR K H F) ts xs
  | [], xs, ts, _, h, _, c => by cases c; exact h
  | v :: r, xs, ts, hs, ⟨x, l, e, h1, h2⟩, ⟨x', l', e', h3, h4⟩, c => by
    subst e
    cases e'
    obtain ⟨t, c1, c2⟩ := Option.bind_eq_some_iff.mp c
    obtain ⟨ts', c3, rfl⟩ := Option.map_eq_some_iff.mp c2
    refine ⟨_, _, rfl, ?_, cns_vr hv hs h2 h4 c3⟩
    cases v with
    | tv u => cases c1; exact h1 _ rfl
    | pl i p => exact hs.vrPl hv c1 h3
theorem Got.vrs {vs : List Val} {xs : List V} {ts : List T} (h : Got K B F H env σ vs xs) (hv : Vw K B F env σ) (c : cns vs env = some ts) : All2 (VR K H F) ts xs := by
  obtain ⟨S, f, _, _⟩ := h.st.fp
  obtain ⟨S1, S2, _, f1, _⟩ := f.split (pd_len h.len)
  exact cns_vr hv h.base (vr_pd h.len f1) h.pl c
theorem St.drop2 {s t : Slot} {o u : Option V} {ss : List Slot} {os : List (Option V)} (h : St K B F H (s :: t :: ss) (o :: u :: os)) : St K B F H (s :: ss) (o :: os) := by
  obtain ⟨S, ⟨b, l', S1, S2, e, eS, h1, ⟨b2, l2, S3, S4, e2, eS2, h2, h3⟩⟩, nd, k⟩ := h.fp
  cases e
  cases e2
  subst eS
  subst eS2
  refine ⟨h.sb, h.sf, S1 ++ S4, ⟨o, os, S1, S4, rfl, rfl, h1, h3⟩, ?_, fun a ha => k a ?_⟩
  · have n1 := List.nodup_append.mp nd
    exact List.nodup_append.mpr ⟨n1.1, (List.nodup_append.mp n1.2.1).2.1, fun a ha b hb => n1.2.2 a ha b (List.mem_append_right _ hb)⟩
  · rcases List.mem_append.mp ha with z | z <;> simp [z]
end
def OpN (K : Kf) (r : List V → Hp → VK → Prop) (f : List T → Option T) : Prop :=
  ∀ (B F H : Hp) (ss : List Slot) (os : List (Option V)) (us : List T) (xs : List V) (t' : T) (Q : VK), St K B F H ss os → All2 (VR K H F) us xs → f us = some t' →
    (∀ y H', Same H H' → St K B F H' (.va t' :: ss) (some y :: os) → Q y H') → r xs H Q
def mOp (f : List T → Option T) (ms : MA) : ME := fun e => (ms e).bnd fun vs e1 => match (cns vs e1).bind f with
  | some t => .ok (.tv t, e1)
  | none => .st
theorem ev_op {K : Kf} {E : XS} {ta : TA} {ms : MA} {r : List V → Hp → VK → Prop} {f : List T → Option T} (ha : EvA K E ta ms) (ho : OpN K r f) : EvT K E (fun σ H Q => ta σ H fun vs H1 => r vs H1 Q) (mOp f ms) := by
  intro B F H σ env Q h hv hp
  refine ha B F H σ env _ h hv ?_
  unfold mOp at hp
  cases e : ms env with
  | st => rw [e] at hp; exact hp
  | ex c e1 => rw [e] at hp; exact hp
  | ok a =>
    obtain ⟨vs, e1⟩ := a
    rw [e] at hp
    simp only [R.bnd] at hp
    intro xs F' H' g kd got
    cases c : (cns vs e1).bind f with
    | none => rw [c] at hp; exact hp.elim
    | some t =>
      rw [c] at hp
      obtain ⟨us, c1, c2⟩ := Option.bind_eq_some_iff.mp c
      exact ho B F' H' e1 σ us xs t Q got.base (got.vrs (Got.kd (H' := H') hv g kd) c1) c2 fun y H2 s h2 => hp y F' H2 g kd (.of h2)
def pend {α : Type} (v : Val) (m : Env → R (α × Env)) (e : Env) : R (α × Env) :=
  match v with
  | .pl i (q :: p) => match e[i]? with
    | some s => match s.con with
      | some t => match T.get (q :: p) t with
        | some _ => match m (e.set i (.vw t)) with
          | .ok (a, e') => .ok (a, e'.set i s)
          | .ex c e' => .ex c (e'.set i s)
          | .st => .st
        | none => .st
      | none => .st
    | none => .st
  | _ => m e
def mNil : MA := fun e => .ok ([], e)
def mCons (m : ME) (ms : MA) : MA := fun e => (m e).bnd fun v e1 => (pend v ms e1).bnd fun vs e2 => .ok (v :: vs, e2)
section
variable {K : Kf} {B F H : Hp} {env : Env} {σ : L2.St} {E : XS}
theorem ev_nil : EvA K E tNil mNil := by
  intro B F H σ env Q h hv hp
  exact hp [] F H (Gr.refl _ _) (Kd.refl _) ⟨rfl, h, rfl⟩
theorem St.lock {i : Nat} {s : Slot} {t : T} (h : St K B F H env σ) (hv : Vw K B F env σ) (e : env[i]? = some s) (c : s.con = some t) : ∃ B', Same B B' ∧ St K B' F H (env.set i (.vw t)) σ ∧ Vw K B' F (env.set i (.vw t)) σ ∧
    ∀ (F' H' : Hp) (qs : List Slot) (xs : List (Option V)) (e' : Env), qs.length = xs.length → Gr B' F F' → Kd (env.set i (.vw t)) e' → St K B' F' H' (qs ++ e') (xs ++ σ) → St K B F' H' (qs ++ e'.set i s) (xs ++ σ) := by
  obtain ⟨S, f, nd, k⟩ := h.fp
  obtain ⟨o, L, Sa, Rr, h1, h2, h3, h4⟩ := f.at e
  subst h2
  have has := f.has
  have P : (L ++ Sa ++ Rr).Perm (Sa ++ (L ++ Rr)) := by
    rw [List.append_assoc]
    exact List.perm_append_comm_assoc L Sa Rr
  have nd2 := List.nodup_append.mp (P.nodup_iff.mp nd)
  have kS : ∀ a ∈ Sa, B a = none ∧ F a = none := fun a ha => k a (P.mem_iff.mpr (List.mem_append_left _ ha))
  have kO : ∀ a ∈ L ++ Rr, B a = none ∧ F a = none := fun a ha => k a (P.mem_iff.mpr (List.mem_append_right _ ha))
  have nS : ∀ a ∈ L ++ Rr, a ∉ Sa := fun a ha z => nd2.2.2 a z a ha rfl
  have hlt := (List.getElem?_eq_some_iff.mp e).1
  have sB : Same B fun a => if a ∈ Sa then H a else B a := fun a o e => by
    by_cases hm : a ∈ Sa
    · have := (kS a hm).1
      rw [e] at this; cases this
    · simpa [hm] using e
  have vA : ∃ v, o = some v ∧ VR K (fun a => if a ∈ Sa then H a else B a) F t v := by
    cases s with
    | un => cases c
    | va u =>
      cases c; obtain ⟨v, rfl, r⟩ := h3
      exact ⟨v, rfl, (r.mono (SubR.refl _) (H' := fun a => if a ∈ Sa then H a else B a) fun a ha o e => by simpa [ha] using e).vr⟩
    | mu u =>
      cases c; obtain ⟨v, rfl, r⟩ := h3
      exact ⟨v, rfl, (r.mono (SubR.refl _) (H' := fun a => if a ∈ Sa then H a else B a) fun a ha o e => by simpa [ha] using e).vr⟩
    | vw u =>
      cases c; obtain ⟨v, e1, r⟩ := hv i _ e
      rw [h1] at e1
      cases e1
      exact ⟨v, rfl, r.mono (.of sB) (SubR.refl _)⟩
  obtain ⟨v, rfl, vr⟩ := vA
  refine ⟨fun a => if a ∈ Sa then H a else B a, sB, ⟨h.sb.ovl fun a ha => f.hasO a (P.mem_iff.mpr (List.mem_append_left _ ha)), h.sf, L ++ [] ++ Rr, ?_, ?_, fun a ha => ?_⟩, fun j u ej => ?_, fun F' H' qs xs e' hq g kd st => ?_⟩
  · exact h4 _ _ [] (fun c d Sc hS hc => hc) rfl
  · simpa using nd2.2.1
  · have ha : a ∈ L ++ Rr := by simpa using ha
    have q := kO a ha
    exact ⟨by simpa [nS a ha] using q.1, q.2⟩
  · by_cases hj : j = i
    · subst hj
      rw [List.getElem?_set_self hlt] at ej
      cases ej
      exact ⟨v, h1, vr⟩
    · rw [List.getElem?_set_ne (Ne.symm hj)] at ej
      obtain ⟨w, a, b⟩ := hv j u ej
      exact ⟨w, a, b.mono (.of sB) (SubR.refl _)⟩
  · obtain ⟨S', f', nd', k'⟩ := st.fp
    obtain ⟨Sq, Se, rfl, fq, fe⟩ := f'.split hq
    have ei : e'[i]? = some (.vw t) := ((kd i).1 t).mp (by rw [List.getElem?_set_self hlt])
    obtain ⟨o2, L2, Sb, R2, g1, g2, g3, g4⟩ := fe.at ei
    rw [h1] at g1
    cases g1
    have g3 : Sb = [] := g3
    subst g3
    subst g2
    have sb' : BsK K B H' := .pre sB st.sb
    have keep : ∀ a ∈ Sa, ∀ o, H a = some o → H' a = some o := fun a ha o e => st.sb.ex a o (by simpa [ha] using e) (by
      obtain ⟨o', ho, w⟩ := f.hasO a (P.mem_iff.mpr (List.mem_append_left _ ha))
      rw [e] at ho; cases ho
      exact w.nt)
    have disj : ∀ a ∈ Sa, a ∉ Sq ++ (L2 ++ [] ++ R2) := fun a ha z => by
      have q := (k' a z).1
      obtain ⟨y, hy, _⟩ := has a (P.mem_iff.mpr (List.mem_append_left _ ha))
      simp only [ha, if_true] at q
      rw [hy] at q; cases q
    have P' : (Sq ++ (L2 ++ Sa ++ R2)).Perm (Sa ++ (Sq ++ (L2 ++ [] ++ R2))) := by
      simp only [List.append_assoc, List.nil_append]
      rw [← List.append_assoc]
      refine List.Perm.trans (List.perm_append_comm_assoc (Sq ++ L2) Sa R2) ?_
      simp only [List.append_assoc]
      exact List.Perm.refl _
    refine ⟨sb', st.sf, Sq ++ (L2 ++ Sa ++ R2), fq.append (g4 _ _ Sa (fun c d Sc hS hc => hc) (h3.mono g.sub keep)), P'.nodup_iff.mpr (List.nodup_append.mpr ⟨nd2.1, nd', fun a ha b hb z => ?_⟩), fun a ha => ?_⟩
    · subst z; exact disj a ha hb
    · rcases List.mem_append.mp (P'.mem_iff.mp ha) with ha | ha
      · refine ⟨(kS a ha).1, Classical.byContradiction fun z => ?_⟩
        have q := g.new a (kS a ha).2 z
        obtain ⟨y, hy, _⟩ := has a (P.mem_iff.mpr (List.mem_append_left _ ha))
        simp only [ha, if_true] at q
        rw [hy] at q; cases q
      · have q := k' a ha
        refine ⟨?_, q.2⟩
        have hm : a ∉ Sa := fun z => disj a z ha
        simpa [hm] using q.1
theorem Kd.unlock {e e' : Env} {i : Nat} {s : Slot} {t : T} (he : e[i]? = some s) (k : Kd (e.set i (.vw t)) e') : Kd e (e'.set i s) := fun j => by
  have hlt := (List.getElem?_eq_some_iff.mp he).1
  have ei : e'[i]? = some (.vw t) := ((k i).1 t).mp (by rw [List.getElem?_set_self hlt])
  have hlt' := (List.getElem?_eq_some_iff.mp ei).1
  by_cases hj : j = i
  · subst hj
    rw [List.getElem?_set_self hlt', he]
    exact ⟨fun _ => Iff.rfl, Iff.rfl⟩
  · have := k j
    rw [List.getElem?_set_ne (Ne.symm hj)] at this ⊢
    exact this
theorem ev_cons {te : TE} {ts : TA} {m : ME} {ms : MA} (he : EvT K E te m) (ha : EvA K E ts ms) : EvA K E (tCons te ts) (mCons m ms) := by
  intro B F H σ env Q h hv hp
  refine he B F H σ env _ h hv ?_
  unfold mCons at hp
  cases e1 : m env with
  | st => rw [e1] at hp; exact hp
  | ex c e2 => rw [e1] at hp; exact hp
  | ok a =>
    obtain ⟨v, env1⟩ := a
    rw [e1] at hp
    simp only [R.bnd] at hp
    intro x F1 H1 g1 kd1 got1
    have hv1 : Vw K B F1 env1 σ := Got.kd (H' := H1) hv g1 kd1
    have hs1 := got1.base
    have plain : pend v ms env1 = ms env1 → (∀ H', PlOk H1 σ v x → Bs K B H' → PlOk H' σ v x) → ts σ H1 fun xs H2 => Q (x :: xs) H2 := by
      intro ep pok
      rw [ep] at hp
      cases v with
      | tv t =>
        obtain ⟨B', sB, st1, back⟩ := got1.tv.park
        refine ha B' F1 H1 σ env1 _ st1 (hv1.gr (.of sB) (SubR.refl _)) ?_
        cases e2 : ms env1 with
        | st => rw [e2] at hp; exact hp
        | ex c e3 =>
          rw [e2] at hp
          intro od F' H' g kd st ok
          exact hp od F' H' (g1.trans (g.anti sB)) (kd1.trans kd) (back F' H' _ _ g st).drop ok
        | ok b =>
          obtain ⟨vs, env2⟩ := b
          rw [e2] at hp
          intro xs F' H' g kd got
          refine hp (x :: xs) F' H' (g1.trans (g.anti sB)) (kd1.trans kd) ⟨by simp [got.len], back F' H' _ _ g got.st, ⟨x, xs, rfl, trivial, got.pl⟩⟩
      | pl i p =>
        refine ha B F1 H1 σ env1 _ hs1 hv1 ?_
        cases e2 : ms env1 with
        | st => rw [e2] at hp; exact hp
        | ex c e3 =>
          rw [e2] at hp
          intro od F' H' g kd st ok
          exact hp od F' H' (g1.trans g) (kd1.trans kd) st ok
        | ok b =>
          obtain ⟨vs, env2⟩ := b
          rw [e2] at hp
          intro xs F' H' g kd got
          obtain ⟨x', l, e, pk, _⟩ := got1.pl
          cases e
          exact hp (x :: xs) F' H' (g1.trans g) (kd1.trans kd) ⟨by simp [got.len], got.st, ⟨x, xs, rfl, pok H' pk got.base.sb, got.pl⟩⟩
    cases v with
    | tv t => exact plain rfl fun _ _ _ => trivial
    | pl i p =>
      cases p with
      | nil => exact plain rfl fun H' ⟨w, a, b⟩ _ => ⟨w, a, b⟩
      | cons q p =>
        -- the slot is locked meanwhile
        simp only [pend] at hp
        cases ei : env1[i]? with
        | none => rw [ei] at hp; exact hp.elim
        | some s =>
          rw [ei] at hp
          simp only at hp
          cases ec : s.con with
          | none => rw [ec] at hp; exact hp.elim
          | some t =>
            rw [ec] at hp
            simp only at hp
            cases eg : T.get (q :: p) t with
            | none => rw [eg] at hp; exact hp.elim
            | some u =>
            rw [eg] at hp
            simp only at hp
            obtain ⟨B', sB, st1, vw1, back⟩ := hs1.lock hv1 ei ec
            obtain ⟨x', l, e, ⟨w, ew, wk⟩, _⟩ := got1.pl
            cases e
            have hlt := (List.getElem?_eq_some_iff.mp ei).1
            refine ha B' F1 H1 σ _ _ st1 vw1 ?_
            cases e2 : ms (env1.set i (.vw t)) with
            | st => rw [e2] at hp; exact hp
            | ex c e3 =>
              rw [e2] at hp
              intro od F' H' g kd st ok
              exact hp od F' H' (g1.trans (g.anti sB)) (kd1.trans (kd.unlock ei)) (back F' H' [] [] _ rfl g kd st) ok
            | ok b =>
              obtain ⟨vs, env2⟩ := b
              rw [e2] at hp
              intro xs F' H' g kd got
              refine hp (x :: xs) F' H' (g1.trans (g.anti sB)) (kd1.trans (kd.unlock ei)) ⟨by simp [got.len], back F' H' (pdS vs) (pdX vs xs) _ (pd_len got.len) g kd got.st, ⟨x, xs, rfl, ⟨w, ew, ?_⟩, got.pl⟩⟩
              -- the place is still there
              obtain ⟨w', ew', r⟩ := vw1 i t (by rw [List.getElem?_set_self hlt])
              rw [ew] at ew'
              cases ew'
              obtain ⟨x', wk', _⟩ := r.path eg
              have e3 := (wk'.monoV st1.sb.v).det wk
              subst e3
              exact wk'.monoV got.base.sb.v
end
def Flat : D → V → Prop
  | .non, v => v = .non
  | .bl b, v => v = .bl b
  | .int i, v => v = .int i
  | .str x, v => v = .str x
  | _, _ => False
theorem Flat.dr {K : Kf} {F : Hp} {d : D} {v : V} (h : Flat d v) : DR K F d v := by
  cases d <;> first | exact h | exact h.elim
def mC (d : D) : ME := fun e => .ok (.tv (.sh d), e)
theorem ev_c {K : Kf} {E : XS} {d : D} {v : V} (h : Flat d v) : EvT K E (tC v) (mC d) := by
  intro B F H σ env Q hs hv hp
  exact hp v F H (Gr.refl _ _) (Kd.refl _) (.of (hs.push h.dr))
def mN (i : Nat) : ME := fun e => match e[i]? with
  | some s => match s.con with
    | some (.sh d) => .ok (.tv (.sh d), e)
    | some _ => .ok (.pl i [], e)
    | none => .st
  | none => .st
theorem ev_n {K : Kf} {E : XS} {i : Nat} : EvT K E (tVar i) (mN i) := by
  intro B F H σ env Q hs hv hp
  unfold mN at hp
  cases e1 : env[i]? with
  | none => rw [e1] at hp; exact hp.elim
  | some s =>
    rw [e1] at hp
    simp only at hp
    cases e2 : s.con with
    | none => rw [e2] at hp; exact hp.elim
    | some t =>
      rw [e2] at hp
      obtain ⟨v, ev, r⟩ := hs.vr hv e1 e2
      refine ⟨v, ev, ?_⟩
      cases t with
      | sh d =>
        obtain ⟨w, ew, r⟩ := hs.shAt hv e1 e2
        rw [ev] at ew; cases ew
        exact hp v F H (Gr.refl _ _) (Kd.refl _) (.of (hs.push r))
      | lst _ => exact hp v F H (Gr.refl _ _) (Kd.refl _) ⟨rfl, hs, v, [], rfl, ⟨v, ev, rfl⟩, rfl⟩
      | dct _ => exact hp v F H (Gr.refl _ _) (Kd.refl _) ⟨rfl, hs, v, [], rfl, ⟨v, ev, rfl⟩, rfl⟩
      | ins _ _ => exact hp v F H (Gr.refl _ _) (Kd.refl _) ⟨rfl, hs, v, [], rfl, ⟨v, ev, rfl⟩, rfl⟩
def frzP (i : Nat) (p : List PEl) (e : Env) : Option (D × Env) :=
  (e[i]?).bind fun s => s.own.bind fun t => (T.get p t).bind fun u => (T.put p t (.sh u.er)).map fun t' => (u.er, e.set i (s.wth t'))
def keep (v : Val) (e : Env) : Option (T × Env) :=
  match v with
  | .tv t => some (t, e)
  | .pl i p => (frzP i p e).map fun q => (.sh q.1, q.2)
section
variable {K : Kf} {B F H : Hp} {env : Env} {σ : List (Option V)} {E : XS}
theorem St.frzP {i : Nat} {p : List PEl} {x : V} {d : D} {env' : Env} {qs : List Slot} {xs : List (Option V)} (hl : qs.length = xs.length) (h : St K B F H (qs ++ env) (xs ++ σ)) (w : PlOk H σ (.pl i p) x) (e : DL.frzP i p env = some (d, env')) :
    ∃ F', Gr B F F' ∧ Kd env env' ∧ St K B F' H (.va (.sh d) :: qs ++ env') (some x :: xs ++ σ) := by
  obtain ⟨s, e1, e⟩ := Option.bind_eq_some_iff.mp e
  obtain ⟨t, e2, e⟩ := Option.bind_eq_some_iff.mp e
  obtain ⟨u, e3, e⟩ := Option.bind_eq_some_iff.mp e
  obtain ⟨t', e4, e⟩ := Option.map_eq_some_iff.mp e
  cases e
  obtain ⟨v, ev, wk⟩ := w
  -- the pending ones are set aside
  have h0 : St K B F H ([] ++ env) ([] ++ σ) := h.dropn hl
  have hl' : (qs ++ env).length = (xs ++ σ).length := h.len
  have e1' : (qs ++ env)[qs.length + i]? = some s := by rw [List.getElem?_append_right (by omega)]; simpa using e1
  have ev' : (xs ++ σ)[qs.length + i]? = some (some v) := by rw [List.getElem?_append_right (by omega), hl]; simpa using ev
  obtain ⟨y, Su, Sq, w1, tr, fq, nd, k, go⟩ := St.chg (ss := qs ++ env) (os := xs ++ σ) (qs := []) (xs := []) rfl h e1' e2 ev' e3
  have hSq : Sq = [] := fq.2
  subst hSq
  cases w1.det wk
  have fresh : ∀ a ∈ Su, F a = none := fun a ha => (k a (by simpa using ha)).2
  let F' : Hp := fun a => if a ∈ Su then H a else F a
  have sF : Same F F' := fun a o e => by
    by_cases hm : a ∈ Su
    · rw [fresh a hm] at e; cases e
    · show (if a ∈ Su then H a else F a) = some o
      simpa [hm] using e
  have sH : SubF F' H := by
    refine ⟨⟨fun a o r => ?_⟩, fun a ps r => ?_⟩
    · by_cases hm : a ∈ Su
      · have e1 : F' a = H a := by show (if a ∈ Su then H a else F a) = H a; simp [hm]
        exact .inl (by rw [← e1]; exact r)
      · have e1 : F' a = F a := by show (if a ∈ Su then H a else F a) = F a; simp [hm]
        exact h.sf.sub a o (by rw [← e1]; exact r)
    · by_cases hm : a ∈ Su
      · have e1 : F' a = H a := by show (if a ∈ Su then H a else F a) = H a; simp [hm]
        obtain ⟨o, ho, w⟩ := tr.hasO a hm
        rw [e1, ho] at r
        cases r; exact w.fz
      · have e1 : F' a = F a := by show (if a ∈ Su then H a else F a) = F a; simp [hm]
        exact h.sf.nt a ps (by rw [← e1]; exact r)
  have dr : DR K F' u.er x := tr.frz (.of sF) fun a ha o e => by show (if a ∈ Su then H a else F a) = some o; simpa [ha] using e
  have nF : ∀ a, F a = none → F' a ≠ none → a ∈ Su := fun a h1 h2 => Classical.byContradiction fun hm => h2 (by show (if a ∈ Su then H a else F a) = none; simpa [hm] using h1)
  have st := go F' H (.sh u.er) t' [] [] [.va (.sh u.er)] [some x] sF (fun a h1 h2 => .inr (by simpa using nF a h1 h2)) sH (fun a _ o e => e) ⟨rfl, dr⟩ (Fs.one ⟨x, rfl, rfl, dr⟩) (by simp) (fun a ha => by simp at ha) e4
  refine ⟨F', ⟨sF, fun a h1 h2 => (k a (by simpa using nF a h1 h2)).1⟩, Kd.set e1 (by rw [e2]; simp), ?_⟩
  have e5 : (qs ++ env).set (qs.length + i) (s.wth t') = qs ++ env.set i (s.wth t') := by
    rw [List.set_append_right _ _ (by omega)]; simp
  rw [e5] at st
  simpa using st
theorem Got.keep {v : Val} {x : V} {t : T} {env' : Env} (h : Got K B F H env σ [v] [x]) (e : DL.keep v env = some (t, env')) : ∃ F', Gr B F F' ∧ Kd env env' ∧ St K B F' H (.va t :: env') (some x :: σ) := by
  cases v with
  | tv u => cases e; exact ⟨F, Gr.refl _ _, Kd.refl _, h.st⟩
  | pl i p =>
    obtain ⟨⟨d, e2⟩, e3, e⟩ := Option.map_eq_some_iff.mp e
    cases e
    obtain ⟨y, l, ey, pk, _⟩ := h.pl
    cases ey
    obtain ⟨F', g, kd, st⟩ := St.frzP (qs := []) (xs := []) rfl h.base pk e3
    exact ⟨F', g, kd, st⟩
end
abbrev MB := Env → R (Bool × Env)
def PostB (K : Kf) (B F : Hp) (env : Env) (σ : L2.St) (E : XS) (Q : Bool → Hp → Prop) : R (Bool × Env) → Prop
  | .ok (b, env') => ∀ F' H', Gr B F F' → Kd env env' → St K B F' H' env' σ → Q b H'
  | .ex c env' => ∀ od F' H', Gr B F F' → Kd env env' → St K B F' H' env' σ → ExOk K F' H' c od → E σ (.ref c.C) od H'
  | .st => False
def EvB (K : Kf) (E : XS) (t : TT) (m : MB) : Prop := ∀ (B F H : Hp) (σ : L2.St) (env : Env) (Q : Bool → Hp → Prop), St K B F H env σ → Vw K B F env σ → PostB K B F env σ E Q (m env) → t σ H Q
def TruN (K : Kf) (f : T → Option Bool) : Prop := ∀ (H F : Hp) (u : T) (x : V) (b : Bool), VR K H F u x → SubR F H → f u = some b → TruV K x H b
def mTst (f : T → Option Bool) (m : ME) : MB := fun e => (m e).bnd fun v e1 => match (cn v e1).bind f with
  | some b => .ok (b, e1)
  | none => .st
section
variable {K : Kf} {E : XS}
theorem ev_tst {te : TE} {m : ME} {f : T → Option Bool} (he : EvT K E te m) (r : V → Hp → (Bool → Hp → Prop) → Prop)
    (hr : ∀ (H F : Hp) (u : T) (x : V) (b : Bool) (Q : Bool → Hp → Prop), VR K H F u x → SubR F H → f u = some b → Q b H → r x H Q) : EvB K E (fun σ H Q => te σ H fun x H' => r x H' Q) (mTst f m) := by
  intro B F H σ env Q h hv hp
  refine he B F H σ env _ h hv ?_
  unfold mTst at hp
  cases e : m env with
  | st => rw [e] at hp; exact hp
  | ex c e1 => rw [e] at hp; exact hp
  | ok a =>
    obtain ⟨v, e1⟩ := a
    rw [e] at hp
    simp only [R.bnd] at hp
    intro x F' H' g kd got
    cases c : (cn v e1).bind f with
    | none => rw [c] at hp; exact hp.elim
    | some b =>
      rw [c] at hp
      obtain ⟨u, c1, c2⟩ := Option.bind_eq_some_iff.mp c
      obtain ⟨y, l, ey, vr, _⟩ := got.vrs (Got.kd (H' := H') hv g kd) (ts := [u]) (by simp [cns, c1])
      cases ey
      exact hr H' F' u x b Q vr got.base.sf c2 (hp F' H' g kd got.base)
def mNot (m : MB) : MB := fun e => (m e).bnd fun b e1 => .ok (!b, e1)
def mAnd (m n : MB) : MB := fun e => (m e).bnd fun b e1 => if b = true then n e1 else .ok (false, e1)
def mOr (m n : MB) : MB := fun e => (m e).bnd fun b e1 => if b = true then .ok (true, e1) else n e1
theorem PostB.trans {B F F1 : Hp} {env env1 : Env} {σ : L2.St} {Q : Bool → Hp → Prop} {r : R (Bool × Env)} (g : Gr B F F1) (kd : Kd env env1) (h : PostB K B F env σ E Q r) : PostB K B F1 env1 σ E Q r := by
  cases r with
  | st => exact h
  | ex c e => exact fun od F' H' g' k' st ok => h od F' H' (g.trans g') (kd.trans k') st ok
  | ok a => exact fun F' H' g' k' st => h F' H' (g.trans g') (kd.trans k') st
theorem ev_not {t : TT} {m : MB} (h : EvB K E t m) : EvB K E (tNot t) (mNot m) := by
  intro B F H σ env Q hs hv hp
  refine h B F H σ env _ hs hv ?_
  unfold mNot at hp
  cases e : m env with
  | st => rw [e] at hp; exact hp
  | ex c e1 => rw [e] at hp; exact hp
  | ok a => obtain ⟨b, e1⟩ := a; rw [e] at hp; exact hp
theorem ev_and {t u : TT} {m n : MB} (h : EvB K E t m) (k : EvB K E u n) : EvB K E (tAnd t u) (mAnd m n) := by
  intro B F H σ env Q hs hv hp
  refine h B F H σ env _ hs hv ?_
  unfold mAnd at hp
  cases e : m env with
  | st => rw [e] at hp; exact hp
  | ex c e1 => rw [e] at hp; exact hp
  | ok a =>
    obtain ⟨b, e1⟩ := a
    rw [e] at hp
    simp only [R.bnd] at hp
    intro F' H' g kd st
    cases b with
    | true =>
      rw [if_pos rfl] at hp ⊢
      exact k B F' H' σ e1 Q st (Got.kd (H' := H') hv g kd) (hp.trans g kd)
    | false =>
      rw [if_neg (by decide)] at hp ⊢
      exact hp F' H' g kd st
theorem ev_or {t u : TT} {m n : MB} (h : EvB K E t m) (k : EvB K E u n) : EvB K E (tOr t u) (mOr m n) := by
  intro B F H σ env Q hs hv hp
  refine h B F H σ env _ hs hv ?_
  unfold mOr at hp
  cases e : m env with
  | st => rw [e] at hp; exact hp
  | ex c e1 => rw [e] at hp; exact hp
  | ok a =>
    obtain ⟨b, e1⟩ := a
    rw [e] at hp
    simp only [R.bnd] at hp
    intro F' H' g kd st
    cases b with
    | false =>
      rw [if_neg (by decide)] at hp ⊢
      exact k B F' H' σ e1 Q st (Got.kd (H' := H') hv g kd) (hp.trans g kd)
    | true =>
      rw [if_pos rfl] at hp ⊢
      exact hp F' H' g kd st
def mIf (c : MB) (m n : ME) : ME := fun e => (c e).bnd fun b e1 => if b = true then m e1 else n e1
end
inductive Out where
  | nx (e : Env) | rt (t : T) (e : Env) | bk (e : Env) | ct (e : Env)
abbrev MS := Env → R Out
def Kp (e : Env) (σ : L2.St) (e' : Env) (σ' : L2.St) : Prop := ∀ i : Nat, (∀ t, e'[i]? = some (Slot.vw t) → e[i]? = some (Slot.vw t) ∧ σ'[i]? = σ[i]?) ∧
  ((∃ t, e'[i]? = some (Slot.mu t)) ↔ ∃ t, e[i]? = some (Slot.mu t)) ∧ ((∃ t, e[i]? = some (Slot.mu t)) → σ'[i]? = σ[i]?)
theorem Kp.refl (e : Env) (σ : L2.St) : Kp e σ e σ := fun _ => ⟨fun _ h => ⟨h, rfl⟩, Iff.rfl, fun _ => rfl⟩
theorem Kp.of {e e' : Env} {σ : L2.St} (k : Kd e e') : Kp e σ e' σ := fun i => ⟨fun t h => ⟨((k i).1 t).mpr h, rfl⟩, (k i).2.symm, fun _ => rfl⟩
theorem Kp.trans {e e' e2 : Env} {σ σ' σ2 : L2.St} (h : Kp e σ e' σ') (k : Kp e' σ' e2 σ2) : Kp e σ e2 σ2 := fun i =>
  ⟨fun t z => let ⟨a, b⟩ := (k i).1 t z; let ⟨c, d⟩ := (h i).1 t a; ⟨c, b.trans d⟩, ((k i).2.1).trans (h i).2.1, fun z => ((k i).2.2 ((h i).2.1.mpr z)).trans ((h i).2.2 z)⟩
theorem Kp.vw {K : Kf} {B F F' : Hp} {e e' : Env} {σ σ' : L2.St} (k : Kp e σ e' σ') (g : Gr B F F') (h : Vw K B F e σ) : Vw K B F' e' σ' := fun i t z => by
  obtain ⟨a, b⟩ := (k i).1 t z
  obtain ⟨v, c, d⟩ := h i t a
  exact ⟨v, by rw [b]; exact c, d.mono (SubR.refl _) g.sub⟩
def PostS (K : Kf) (B F : Hp) (env : Env) (σ : L2.St) (E : XS) (D : Ends) : R Out → Prop
  | .ok (.nx e') => ∀ σ' F' H', Gr B F F' → Kp env σ e' σ' → St K B F' H' e' σ' → D.nx σ' H'
  | .ok (.bk e') => ∀ σ' F' H', Gr B F F' → Kp env σ e' σ' → St K B F' H' e' σ' → D.bk σ' H'
  | .ok (.ct e') => ∀ σ' F' H', Gr B F F' → Kp env σ e' σ' → St K B F' H' e' σ' → D.ct σ' H'
  | .ok (.rt t e') => ∀ x σ' F' H', Gr B F F' → Kp env σ e' σ' → St K B F' H' (.va t :: e') (some x :: σ') → D.rt x H'
  | .ex c e' => ∀ od σ' F' H', Gr B F F' → Kp env σ e' σ' → St K B F' H' e' σ' → ExOk K F' H' c od → E σ' (.ref c.C) od H'
  | .st => False
def DsT (K : Kf) (E : XS) (t : TS) (m : MS) : Prop := ∀ (B F H : Hp) (σ : L2.St) (env : Env) (D : Ends), St K B F H env σ → Vw K B F env σ → PostS K B F env σ E D (m env) → t D σ H
section
variable {K : Kf} {E : XS}
theorem PostS.trans {B F F1 : Hp} {env env1 : Env} {σ σ1 : L2.St} {D : Ends} {r : R Out} (g : Gr B F F1) (k : Kp env σ env1 σ1) (h : PostS K B F env σ E D r) : PostS K B F1 env1 σ1 E D r := by
  cases r with
  | st => exact h
  | ex c e => exact fun od σ' F' H' g' k' st ok => h od σ' F' H' (g.trans g') (k.trans k') st ok
  | ok a =>
    cases a with
    | nx e => exact fun σ' F' H' g' k' st => h σ' F' H' (g.trans g') (k.trans k') st
    | bk e => exact fun σ' F' H' g' k' st => h σ' F' H' (g.trans g') (k.trans k') st
    | ct e => exact fun σ' F' H' g' k' st => h σ' F' H' (g.trans g') (k.trans k') st
    | rt t e => exact fun x σ' F' H' g' k' st => h x σ' F' H' (g.trans g') (k.trans k') st
def mSkip : MS := fun e => .ok (.nx e)
def mSeq (m n : MS) : MS := fun e => match m e with
  | .ok (.nx e1) => n e1
  | r => r
theorem ds_skip : DsT K E tNext mSkip := fun B F H σ env D hs hv hp => hp σ F H (Gr.refl _ _) (Kp.refl _ _) hs
theorem ds_seq {t u : TS} {m n : MS} (h : DsT K E t m) (k : DsT K E u n) : DsT K E (tSeq t u) (mSeq m n) := by
  intro B F H σ env D hs hv hp
  refine h B F H σ env { D with nx := u D } hs hv ?_
  unfold mSeq at hp
  cases e : m env with
  | st => rw [e] at hp; exact hp
  | ex c e1 => rw [e] at hp; exact hp
  | ok a =>
    rw [e] at hp
    cases a with
    | nx e1 => exact fun σ' F' H' g kp st => k B F' H' σ' e1 D st (kp.vw g hv) (PostS.trans g kp hp)
    | bk e => exact hp
    | ct e => exact hp
    | rt t e => exact hp
def mIfS (c : MB) (m n : MS) : MS := fun e => match c e with
  | .ok (b, e1) => if b = true then m e1 else n e1
  | .ex c e1 => .ex c e1
  | .st => .st
theorem ds_if {t : TT} {ta tb : TS} {c : MB} {m n : MS} (h : EvB K E t c) (ha : DsT K E ta m) (hb : DsT K E tb n) : DsT K E (tIfS t ta tb) (mIfS c m n) := by
  intro B F H σ env D hs hv hp
  refine h B F H σ env _ hs hv ?_
  unfold mIfS at hp
  cases e : c env with
  | st => rw [e] at hp; exact hp
  | ex c e1 => rw [e] at hp; exact fun od F' H' g kd st ok => hp od σ F' H' g (.of kd) st ok
  | ok a =>
    obtain ⟨b, e1⟩ := a
    rw [e] at hp
    simp only at hp
    intro F' H' g kd st
    cases b with
    | true =>
      rw [if_pos rfl] at hp ⊢
      exact ha B F' H' σ e1 D st (Got.kd (H' := H') hv g kd) (PostS.trans g (.of kd) hp)
    | false =>
      rw [if_neg (by decide)] at hp ⊢
      exact hb B F' H' σ e1 D st (Got.kd (H' := H') hv g kd) (PostS.trans g (.of kd) hp)
def mE (m : ME) (k : Val → Env → R Out) : MS := fun e => match m e with
  | .ok (v, e1) => k v e1
  | .ex c e1 => .ex c e1
  | .st => .st
theorem ds_e {te : TE} {m : ME} {k : Val → Env → R Out} {body : Ends → V → L2.St → Hp → Prop} (h : EvT K E te m)
    (hb : ∀ (B F H : Hp) (σ : L2.St) (env : Env) (D : Ends) (v : Val) (x : V), Got K B F H env σ [v] [x] → Vw K B F env σ → PostS K B F env σ E D (k v env) → body D x σ H) : DsT K E (fun D σ H => te σ H fun x H1 => body D x σ H1) (mE m k) := by
  intro B F H σ env D hs hv hp
  refine h B F H σ env _ hs hv ?_
  unfold mE at hp
  cases e : m env with
  | st => rw [e] at hp; exact hp
  | ex c e1 => rw [e] at hp; exact fun od F' H' g kd st ok => hp od σ F' H' g (.of kd) st ok
  | ok a =>
    obtain ⟨v, e1⟩ := a
    rw [e] at hp
    exact fun x F' H' g kd got => hb B F' H' σ e1 D v x got (Got.kd (H' := H') hv g kd) (PostS.trans g (.of kd) hp)
def mDrop (m : ME) : MS := mE m fun _ e => .ok (.nx e)
theorem ds_drop {te : TE} {m : ME} (h : EvT K E te m) : DsT K E (tDrop te) (mDrop m) :=
  ds_e (body := fun D _ σ H1 => D.nx σ H1) h fun B F H σ env D v x got hv hp => hp σ F H (Gr.refl _ _) (Kp.refl _ _) got.base
def retV (v : Val) (e : Env) : Option (T × Env) :=
  match v with
  | .tv t => some (t, e)
  | .pl i [] => match e[i]? with
    | some (.va t) => some (t, e.set i .un)
    | _ => keep v e
  | _ => keep v e
def mRet (m : ME) : MS := mE m fun v e => match retV v e with
  | some (t, e1) => .ok (.rt t e1)
  | none => .st
theorem Got.ret {B F H : Hp} {env env' : Env} {σ : L2.St} {v : Val} {x : V} {t : T} (h : Got K B F H env σ [v] [x]) (e : retV v env = some (t, env')) : ∃ F', Gr B F F' ∧ Kd env env' ∧ St K B F' H (.va t :: env') (some x :: σ) := by
  unfold retV at e
  cases v with
  | tv u => cases e; exact ⟨F, Gr.refl _ _, Kd.refl _, h.st⟩
  | pl i p =>
    cases p with
    | cons q p => exact h.keep e
    | nil =>
      simp only at e
      split at e
      · rename_i t' he
        cases e
        obtain ⟨y, l, ey, ⟨w, ew, wk⟩, _⟩ := h.pl
        cases ey
        have wk : x = w := wk
        subst wk
        obtain ⟨S, f, nd, k⟩ := h.base.fp
        obtain ⟨o, L, Sa, Rr, h1, h2, h3, h4⟩ := f.at he
        rw [ew] at h1
        cases h1
        obtain ⟨w, e2, tr⟩ := h3
        cases e2
        subst h2
        have P : (L ++ Sa ++ Rr).Perm (Sa ++ (L ++ [] ++ Rr)) := by
          rw [List.append_nil, List.append_assoc]
          exact List.perm_append_comm_assoc L Sa Rr
        refine ⟨F, Gr.refl _ _, fun j => ?_, h.base.sb, h.base.sf, Sa ++ (L ++ [] ++ Rr), ⟨some x, σ, Sa, L ++ [] ++ Rr, rfl, rfl, ⟨x, rfl, tr⟩, h4 _ _ [] (fun _ _ _ _ z => z) rfl⟩, P.nodup_iff.mp nd, fun a ha => k a (P.mem_iff.mpr ha)⟩
        by_cases hj : j = i
        · subst hj
          rw [List.getElem?_set_self (List.getElem?_eq_some_iff.mp he).1, he]
          simp
        · rw [List.getElem?_set_ne (Ne.symm hj)]
          exact ⟨fun _ => Iff.rfl, Iff.rfl⟩
      · exact h.keep e
theorem ds_ret {te : TE} {m : ME} (h : EvT K E te m) : DsT K E (tRet te) (mRet m) :=
  ds_e (body := fun D x _ H1 => D.rt x H1) h fun B F H σ env D v x got hv hp => by
    cases e : retV v env with
    | none => rw [e] at hp; exact hp.elim
    | some q =>
      obtain ⟨t, e1⟩ := q
      rw [e] at hp
      obtain ⟨F', g, kd, st⟩ := got.ret e
      exact hp x σ F' H g (.of kd) st
abbrev MG := T → Env → R Env
def PostG (K : Kf) (B F : Hp) (env : Env) (σ : L2.St) (vs : List Nat) (Q : L2.St → Hp → Prop) : R Env → Prop
  | .ok e' => ∀ (σ' : L2.St) F' H', Gr B F F' → Kp env σ e' σ' → (∀ j, j ∉ vs → e'[j]? = env[j]? ∧ σ'[j]? = σ[j]?) → List.length e' = List.length env → St K B F' H' e' σ' → Q σ' H'
  | _ => False
def EvG (K : Kf) (g : TG) (m : MG) (vs : List Nat) : Prop := ∀ (B F H : Hp) (σ : L2.St) (env : Env) (t : T) (x : V) (Q : L2.St → Hp → Prop), St K B F H (.va t :: env) (some x :: σ) → Vw K B F env σ → PostG K B F env σ vs Q (m t env) → g x σ H Q
def gN (i : Nat) : MG := fun t e => match e[i]? with
  | some (.mu _) => .st
  | some _ => .ok (e.set i (.va t))
  | none => .st
theorem ev_gN {i : Nat} : EvG K (gName i) (gN i) [i] := by
  intro B F H σ env t x Q hs hv hp
  show Q (σ.set i (some x)) H
  unfold gN at hp
  have go : ∀ s, env[i]? = some s → (∀ u, s ≠ .mu u) → PostG K B F env σ [i] Q (.ok (env.set i (.va t))) → Q (σ.set i (some x)) H := by
    intro s e1 hm hp
    have hlt := (List.getElem?_eq_some_iff.mp e1).1
    have hlen := hs.drop.len
    refine hp (σ.set i (some x)) F H (Gr.refl _ _) (fun j => ?_) (fun j hj => ?_) (by simp) ?_
    · by_cases hj : j = i
      · subst hj
        rw [List.getElem?_set_self hlt, e1]
        refine ⟨fun t h => by simp at h, ?_, fun ⟨u, h⟩ => by simp at h; exact absurd h (hm u)⟩
        exact ⟨fun ⟨u, h⟩ => by simp at h, fun ⟨u, h⟩ => by simp at h; exact absurd h (hm u)⟩
      · rw [List.getElem?_set_ne (Ne.symm hj), List.getElem?_set_ne (Ne.symm hj)]
        exact ⟨fun t h => ⟨h, rfl⟩, Iff.rfl, fun _ => rfl⟩
    · have hj : j ≠ i := by simpa using hj
      rw [List.getElem?_set_ne (Ne.symm hj), List.getElem?_set_ne (Ne.symm hj)]
      exact ⟨rfl, rfl⟩
    · exact hs.store hlt
  cases e1 : env[i]? with
  | none => rw [e1] at hp; exact hp.elim
  | some s =>
    rw [e1] at hp
    cases s with
    | mu u => exact hp.elim
    | un => exact go _ e1 (fun u z => nomatch z) hp
    | va u => exact go _ e1 (fun u z => nomatch z) hp
    | vw u => exact go _ e1 (fun u z => nomatch z) hp
end
def Unl (P : Addr → Prop) (H Hu : Hp) : Prop := Hu = H ∨ ∃ d od u, H d = some (.frz od u) ∧ P d ∧ Hu = upd H d u
def Pf (X : Cx) (d : Addr) : Prop := ∀ o' u', X.H_0 d ≠ some (.frz o' u')
theorem inv_unl {X : Cx} {pins : List (Addr × Obj)} {σ : L2.St} {H Hu : Hp} {s : Shared} (I : Inv X pins σ H s) (h : Unl (Pf X) H Hu) : Inv X pins σ Hu s := by
  rcases h with rfl | ⟨d, od, u, e, hn, rfl⟩
  · exact I
  · exact I.unlock e hn
def unl (P : Addr → Prop) (D : Ends) : Ends := ⟨fun σ H => ∃ Hu, Unl P H Hu ∧ D.nx σ Hu, fun v H => ∃ Hu, Unl P H Hu ∧ D.rt v Hu, fun σ H => ∃ Hu, Unl P H Hu ∧ D.bk σ Hu, fun σ H => ∃ Hu, Unl P H Hu ∧ D.ct σ Hu⟩
theorem ps_unl {X : Cx} {st : Stmt} {t : TS} (h : PS X st t) : PS X st (fun D σ H => t (unl (Pf X) D) σ H) := by
  refine ⟨fun pins s σ H D I hw => ?_⟩
  refine thn (h.run pins s σ _ _ I hw) fun f s1 q => ?_
  cases f with
  | next => obtain ⟨σ', H', I2, Hu, e, q⟩ := q; exact ⟨σ', _, inv_unl I2 e, q⟩
  | brk => obtain ⟨σ', H', I2, Hu, e, q⟩ := q; exact ⟨σ', _, inv_unl I2 e, q⟩
  | cont => obtain ⟨σ', H', I2, Hu, e, q⟩ := q; exact ⟨σ', _, inv_unl I2 e, q⟩
  | ret v => obtain ⟨x, σ', H', I2, r, Hu, e, q⟩ := q; exact ⟨x, σ', _, inv_unl I2 e, r, q⟩
theorem pe_unl {X : Cx} {e : Expr} {t : TE} (h : PE X e t) : PE X e (fun σ H Q => t σ H fun v H' => ∃ Hu, Unl (Pf X) H' Hu ∧ Q v Hu) := by
  refine ⟨fun pins s σ H Q I hw => ?_⟩
  refine thn (h.run pins s σ _ _ I hw) fun v s1 ⟨x, H1, I2, r, Hu, e2, q⟩ => ?_
  exact ⟨x, _, inv_unl I2 e2, r, q⟩
structure WalkD (K : Kf) (B F : Hp) (J : It) (ds : List D) : Prop where
  go : ∀ (i : Nat) (F2 H2 : Hp) (env : Env) (σ : L2.St), i < ds.length → Gr B F F2 → St K B F2 H2 env σ → J.go i H2
  stop : ∀ (F2 H2 : Hp) (env : Env) (σ : L2.St), Gr B F F2 → St K B F2 H2 env σ → J.stop ds.length H2
  yld : ∀ (i : Nat) (d : D) (F2 H2 : Hp) (env : Env) (σ : L2.St) (x : V) (H3 : Hp), ds[i]? = some d → Gr B F F2 → St K B F2 H2 env σ → J.yld i H2 x H3 → ∃ F3, Gr B F2 F3 ∧ St K B F3 H3 (.va (.sh d) :: env) (some x :: σ)
abbrev MI := Env → R (List D × Env)
def PostI (K : Kf) (P : Addr → Prop) (B F : Hp) (env : Env) (σ : L2.St) (E : XS) (Rr : It → Hp → Prop) : R (List D × Env) → Prop
  | .ok (ds, env') => ∀ J F' H' Bl, Gr B F F' → Kd env env' → St K Bl F' H' env' σ → SubR B Bl → (∀ a, Bl a = none → B a = none) → WalkD K Bl F' J ds →
      (∀ (F2 H2 : Hp) (qs : List Slot) (os : List (Option V)), Gr Bl F' F2 → St K Bl F2 H2 qs os → ∃ Hu, Unl P H2 Hu ∧ St K B F2 Hu qs os) → Rr J H'
  | .ex c env' => ∀ od F' H', Gr B F F' → Kd env env' → St K B F' H' env' σ → ExOk K F' H' c od → E σ (.ref c.C) od H'
  | .st => False
def EvI (K : Kf) (E : XS) (wi : (Addr → Prop) → TI) (mi : MI) : Prop := ∀ (P : Addr → Prop) (B F H : Hp) (σ : L2.St) (env : Env) (Rr : It → Hp → Prop), St K B F H env σ → Vw K B F env σ → PostI K P B F env σ E Rr (mi env) → wi P σ H Rr
theorem Gr.low {Bl B F F' : Hp} (h : Gr Bl F F') (k : ∀ a, Bl a = none → B a = none) : Gr B F F' := ⟨h.same, fun a e z => k a (h.new a e z)⟩
def loopS (mg : MG) (mb : MS) : List D → Env → R Out
  | [], e => .ok (.nx e)
  | d :: r, e => match mg (.sh d) e with
    | .ok e1 => match mb e1 with
      | .ok (.nx e2) => loopS mg mb r e2
      | .ok (.ct e2) => loopS mg mb r e2
      | .ok (.bk e2) => .ok (.nx e2)
      | .ok (.rt t e2) => .ok (.rt t e2)
      | .ex c e2 => .ex c e2
      | .st => .st
    | _ => .st
def mFor (mi : MI) (mg : MG) (mb : MS) : MS := fun e => match mi e with
  | .ok (ds, e1) => loopS mg mb ds e1
  | .ex c e1 => .ex c e1
  | .st => .st
def PostI0 (K : Kf) (B F : Hp) (env : Env) (σ : L2.St) (E : XS) (Rr : It → Hp → Prop) : R (List D × Env) → Prop
  | .ok (ds, env') => ∀ J F' H', Gr B F F' → Kd env env' → St K B F' H' env' σ → WalkD K B F' J ds → Rr J H'
  | .ex c env' => ∀ od F' H', Gr B F F' → Kd env env' → St K B F' H' env' σ → ExOk K F' H' c od → E σ (.ref c.C) od H'
  | .st => False
def EvI0 (K : Kf) (E : XS) (wi : TI) (mi : MI) : Prop := ∀ (B F H : Hp) (σ : L2.St) (env : Env) (Rr : It → Hp → Prop), St K B F H env σ → Vw K B F env σ → PostI0 K B F env σ E Rr (mi env) → wi σ H Rr
theorem EvI0.i {K : Kf} {E : XS} {wi : TI} {mi : MI} (h : EvI0 K E wi mi) : EvI K E (fun _ => wi) mi := by
  intro P B F H σ env Rr hs hv hp
  refine h B F H σ env Rr hs hv ?_
  cases e : mi env with
  | st => rw [e] at hp; exact hp
  | ex c e1 => rw [e] at hp; exact hp
  | ok a =>
    obtain ⟨ds, e1⟩ := a
    rw [e] at hp
    exact fun J F' H' g kd st W => hp J F' H' B g kd st (SubR.refl _) (fun _ z => z) W fun F2 H2 qs os _ st2 => ⟨H2, .inl rfl, st2⟩
def loopL (mg : MG) (mb : MS) : List D → Env → R Out
  | [], e => .ok (.nx e)
  | d :: r, e => match mg (.sh d) e with
    | .ok e1 => match mb e1 with
      | .ok (.nx e2) => loopL mg mb r e2
      | .ok (.ct e2) => loopL mg mb r e2
      | .ok (.bk e2) => .ok (.nx e2)
      | .ok (.rt t e2) => .ok (.rt t e2)
      | _ => .st
    | _ => .st
def mForL (mi : MI) (mg : MG) (mb : MS) : MS := fun e => match mi e with
  | .ok (ds, e1) => loopL mg mb ds e1
  | .ex c e1 => .ex c e1
  | .st => .st
section
variable {K : Kf} {E : XS}
theorem ds_forL {wi : (Addr → Prop) → TI} {g : TG} {tb : TS} {mi : MI} {mg : MG} {mb : MS} {vs : List Nat} (hi : EvI K E wi mi) (hg : EvG K g mg vs) (hb : DsT K NX tb mb) :
    DsT K E (fun D σ H => ∀ P, tFor (wi P) g tb (unl P D) σ H) (mForL mi mg mb) := by
  intro B F H σ env D hs hv hp P
  refine hi P B F H σ env _ hs hv ?_
  unfold mForL at hp
  cases e : mi env with
  | st => rw [e] at hp; exact hp
  | ex c e1 => rw [e] at hp; exact fun od F' H' g kd st ok => hp od σ F' H' g (.of kd) st ok
  | ok a =>
    obtain ⟨ds, env1⟩ := a
    rw [e] at hp
    intro J F1 H1 Bl g1 kd1 st1 sBl nBl W back
    have hv1 : Vw K Bl F1 env1 σ := (Got.kd (H' := H1) hv g1 kd1).gr sBl (SubR.refl _)
    -- what is left at turn i
    refine ⟨fun i m σ2 H2 => m = ds.length - i ∧ i ≤ ds.length ∧ ∃ F2 env2, Gr Bl F1 F2 ∧ Kp env1 σ env2 σ2 ∧ St K Bl F2 H2 env2 σ2 ∧ PostS K B F env σ E D (loopL mg mb (ds.drop i) env2), ⟨ds.length, by simp, Nat.zero_le _, F1, env1, Gr.refl _ _, Kp.refl _ _, st1, by simpa using hp⟩, ?_⟩
    rintro i m σ2 H2 ⟨rfl, hi, F2, env2, g2, kp2, st2, hp2⟩
    by_cases hlt : i < ds.length
    · refine .inr ⟨W.go i F2 H2 env2 σ2 hlt g2 st2, fun σ' H' => ∃ F3 env3, Gr Bl F1 F3 ∧ Kp env1 σ env3 σ' ∧ St K Bl F3 H' env3 σ' ∧ PostS K B F env σ E D (loopL mg mb (ds.drop (i + 1)) env3), fun σ' H' ⟨F3, env3, a, b, c, d⟩ => ⟨ds.length - (i + 1), by omega, rfl, hlt, F3, env3, a, b, c, d⟩, fun x H3 y => ?_⟩
      obtain ⟨F3, g3, st3⟩ := W.yld i ds[i] F2 H2 env2 σ2 x H3 (by simp [hlt]) g2 st2 y
      rw [List.drop_eq_getElem_cons hlt] at hp2
      unfold loopL at hp2
      refine hg Bl F3 H3 σ2 env2 (.sh ds[i]) x _ st3 ((kp2.vw g2 hv1).gr (SubR.refl _) g3.sub) ?_
      cases e4 : mg (.sh ds[i]) env2 with
      | st => rw [e4] at hp2; exact hp2
      | ex c e5 => rw [e4] at hp2; exact hp2
      | ok env4 =>
        rw [e4] at hp2
        simp only at hp2
        intro σ4 F4 H4 g4 kp4 _ _ st4
        have g14 : Gr Bl F1 F4 := g2.trans (g3.trans g4)
        have kp14 := kp2.trans kp4
        refine hb Bl F4 H4 σ4 env4 _ st4 (kp14.vw g14 hv1) ?_
        have gB : ∀ {F5 : Hp}, Gr Bl F4 F5 → Gr B F F5 := fun g5 => g1.trans ((g14.trans g5).low nBl)
        have kB : ∀ {e5 : Env} {σ5 : L2.St}, Kp env4 σ4 e5 σ5 → Kp env σ e5 σ5 := fun k5 => (Kp.of kd1).trans (kp14.trans k5)
        cases e6 : mb env4 with
        | st => rw [e6] at hp2; exact hp2
        | ex c e7 => rw [e6] at hp2; exact hp2.elim
        | ok b =>
          rw [e6] at hp2
          cases b with
          | nx e7 => exact fun σ5 F5 H5 g5 k5 st5 => ⟨F5, e7, g14.trans g5, kp14.trans k5, st5, hp2⟩
          | ct e7 => exact fun σ5 F5 H5 g5 k5 st5 => ⟨F5, e7, g14.trans g5, kp14.trans k5, st5, hp2⟩
          | bk e7 =>
            intro σ5 F5 H5 g5 k5 st5
            obtain ⟨Hu, hu, stu⟩ := back F5 H5 _ _ (g14.trans g5) st5
            exact ⟨Hu, hu, hp2 σ5 F5 Hu (gB g5) (kB k5) stu⟩
          | rt t e7 =>
            intro x5 σ5 F5 H5 g5 k5 st5
            obtain ⟨Hu, hu, stu⟩ := back F5 H5 _ _ (g14.trans g5) st5
            exact ⟨Hu, hu, hp2 x5 σ5 F5 Hu (gB g5) (kB k5) stu⟩
    · have he : i = ds.length := by omega
      subst he
      refine .inl ⟨W.stop F2 H2 env2 σ2 g2 st2, ?_⟩
      obtain ⟨Hu, hu, stu⟩ := back F2 H2 _ _ g2 st2
      rw [List.drop_length] at hp2
      exact ⟨Hu, hu, hp2 σ2 F2 Hu (g1.trans (g2.low nBl)) ((Kp.of kd1).trans kp2) stu⟩
end
section
variable {α : Type}
def rst (b : List α) : List Nat → List α → List α
  | [], l => l
  | v :: vs, l => match b[v]? with
    | some x => (rst b vs l).set v x
    | none => rst b vs l
theorem rst_len (b : List α) : ∀ (vs : List Nat) (l : List α), (rst b vs l).length = l.length
  | [], _ => rfl
  | v :: vs, l => by
    unfold rst
    cases b[v]? with
    | none => exact rst_len b vs l
    | some x => simp [rst_len b vs l]
theorem rst_get {b : List α} : ∀ {vs : List Nat} {l : List α} (j : Nat), b.length = l.length → (rst b vs l)[j]? = if j ∈ vs then b[j]? else l[j]?
  | [], _, _, _ => by simp [rst]
  | v :: vs, l, j, hl => by
    have ih := rst_get (b := b) (vs := vs) (l := l) j hl
    cases hv : b[v]? with
    | some x =>
      have hlt := (List.getElem?_eq_some_iff.mp hv).1
      have e : rst b (v :: vs) l = (rst b vs l).set v x := by simp only [rst, hv]
      rw [e]
      by_cases hj : j = v
      · subst hj
        rw [List.getElem?_set_self (by rw [rst_len]; omega)]
        simp [hv]
      · rw [List.getElem?_set_ne (Ne.symm hj), ih]
        simp [hj]
    | none =>
      have e : rst b (v :: vs) l = rst b vs l := by simp only [rst, hv]
      rw [e, ih]
      by_cases hj : j = v
      · subst hj
        have h2 : l[j]? = none := List.getElem?_eq_none_iff.mpr (by have := List.getElem?_eq_none_iff.mp hv; omega)
        simp [hv, h2]
      · simp [hj]
end
theorem wipe_get : ∀ {σ : L2.St} {vs : List Nat} (j : Nat), (wipe σ vs)[j]? = if j ∈ vs then (σ[j]?).map (fun _ => none) else σ[j]?
  | σ, [], j => by simp [wipe]
  | σ, v :: vs, j => by
    unfold wipe
    have ih := wipe_get (σ := σ) (vs := vs) j
    by_cases hj : j = v
    · subst hj
      by_cases hl : j < σ.length
      · rw [List.getElem?_set_self (by rw [wipe_length]; exact hl)]; simp [hl]
      · have h1 : σ[j]? = none := List.getElem?_eq_none_iff.mpr (by omega)
        rw [List.getElem?_eq_none_iff.mpr (by simp [wipe_length]; omega)]; simp [h1]
    · rw [List.getElem?_set_ne (Ne.symm hj), ih]; simp [hj]
theorem wipe_same {σ τ : L2.St} {vs : List Nat} (hl : σ.length = τ.length) (h : ∀ j, j ∉ vs → σ[j]? = τ[j]?) : wipe σ vs = wipe τ vs := by
  refine List.ext_getElem? fun j => ?_
  rw [wipe_get, wipe_get]
  by_cases hj : j ∈ vs
  · rw [if_pos hj, if_pos hj]
    by_cases k : j < σ.length
    · simp [k, hl ▸ k]
    · rw [List.getElem?_eq_none_iff.mpr (by omega), List.getElem?_eq_none_iff.mpr (by omega)]
  · rw [if_neg hj, if_neg hj]; exact h j hj
theorem rst_wipe {σ : L2.St} {vs : List Nat} : rst σ vs (wipe σ vs) = σ := by
  refine List.ext_getElem? fun j => ?_
  rw [rst_get j (by rw [wipe_length]), wipe_get]
  by_cases hj : j ∈ vs <;> simp [hj]
def wpE (e : Env) : List Nat → Env
  | [] => e
  | v :: vs => (wpE e vs).set v .un
theorem wpE_len (e : Env) : ∀ vs : List Nat, (wpE e vs).length = List.length e
  | [] => rfl
  | v :: vs => by unfold wpE; simp [wpE_len e vs]
theorem wpE_get : ∀ {e : Env} {vs : List Nat} (j : Nat), (wpE e vs)[j]? = if j ∈ vs then (e[j]?).map (fun _ => Slot.un) else e[j]?
  | e, [], j => by simp [wpE]
  | e, v :: vs, j => by
    unfold wpE
    have ih := wpE_get (e := e) (vs := vs) j
    by_cases hj : j = v
    · subst hj
      by_cases hl : j < List.length e
      · rw [List.getElem?_set_self (by rw [wpE_len]; exact hl)]; simp [hl]
      · have h1 : e[j]? = none := List.getElem?_eq_none_iff.mpr (by omega)
        rw [List.getElem?_eq_none_iff.mpr (by simp [wpE_len]; omega)]; simp [h1]
    · rw [List.getElem?_set_ne (Ne.symm hj), ih]; simp [hj]
def lite : Slot → Bool
  | .un => true
  | .va (.sh _) => true
  | _ => false
def litesAt (e : Env) (vs : List Nat) : Bool := vs.all fun v => match e[v]? with
  | some s => lite s
  | none => true
section
variable {K : Kf} {B F H : Hp} {ss : List Slot} {os : List (Option V)}
theorem St.setFree {s : Slot} {o : Option V} {i : Nat} (h : St K B F H ss os) (hi : i < ss.length) (r : SR K F H s o []) : St K B F H (ss.set i s) (os.set i o) := by
  obtain ⟨S, f, nd, k⟩ := h.fp
  obtain ⟨L, Sa, Rr, e1, f2⟩ := Fs.store f hi r
  subst e1
  have n2 := List.nodup_append.mp nd
  have n3 := List.nodup_append.mp n2.1
  refine ⟨h.sb, h.sf, _, f2, ?_, fun a ha => k a ?_⟩
  · simp only [List.append_nil]
    exact List.nodup_append.mpr ⟨n3.1, n2.2.1, fun a ha b hb z => n2.2.2 a (by simp [ha]) b hb z⟩
  · simp only [List.append_nil, List.mem_append] at ha ⊢
    rcases ha with ha | ha <;> simp [ha]
theorem St.wp {env : Env} {σ : L2.St} (h : St K B F H env σ) : ∀ vs : List Nat, St K B F H (wpE env vs) (wipe σ vs)
  | [] => h
  | v :: vs => by
    unfold wpE wipe
    by_cases hv : v < (wpE env vs).length
    · exact (St.wp h vs).setFree hv rfl
    · rw [List.set_eq_of_length_le (by omega), List.set_eq_of_length_le (by have := (St.wp h vs).len; omega)]
      exact St.wp h vs
theorem St.unwp {env e' : Env} {σ τ : L2.St} {F' H' : Hp} {B' : Hp} (h0 : St K B F H env σ) (g : Same F F') (h : St K B' F' H' e' τ) (hl : List.length e' = List.length env) : ∀ vs : List Nat, litesAt env vs = true → St K B' F' H' (rst env vs e') (rst σ vs τ)
  | [], _ => h
  | v :: vs, hw => by
    have hw2 : (match env[v]? with
      | some s => lite s
      | none => true) = true ∧ litesAt env vs = true := by simpa [litesAt] using hw
    have ih := St.unwp h0 g h hl vs hw2.2
    unfold rst
    cases e1 : env[v]? with
    | none =>
      have e2 : σ[v]? = none := List.getElem?_eq_none_iff.mpr (by have := h0.len; have := List.getElem?_eq_none_iff.mp e1; omega)
      rw [e2]
      exact ih
    | some s =>
      obtain ⟨S, f, nd, k⟩ := h0.fp
      obtain ⟨o, L, Sa, Rr, h1, h2, h3, _⟩ := f.at e1
      rw [h1]
      have hlt := (List.getElem?_eq_some_iff.mp e1).1
      refine ih.setFree (by rw [rst_len, hl]; exact hlt) ?_
      have := hw2.1
      rw [e1] at this
      cases s with
      | un => rfl
      | va t =>
        cases t with
        | sh d => obtain ⟨v, e, _, r⟩ := h3; exact ⟨v, e, rfl, r.mono (.of g)⟩
        | lst _ => cases this
        | dct _ => cases this
        | ins _ _ => cases this
      | mu t => cases this
      | vw t => cases this
theorem St.snoc {ts : List T} {t : T} {D : Addr} {y : V} (h : St K B F H (.va (.lst ts) :: .va t :: ss) (some (.ref D) :: some y :: os)) : ∃ vs, H D = some (.lst vs) ∧ vs.length = ts.length ∧
    St K B F (upd H D (.lst (vs ++ [y]))) (.va (.lst (ts ++ [t])) :: ss) (some (.ref D) :: os) := by
  obtain ⟨Sq, fq, nd, k, go⟩ := St.made (qs := [.va (.lst ts), .va t]) (xs := [some (.ref D), some y]) rfl h
  obtain ⟨b, l', S1, S2, e, eS, ⟨w, ew, a, vs, S', e1, q, eS1, r⟩, ⟨b2, l2, S3, S4, e2, eS2, ⟨w2, ew2, tr⟩, z⟩⟩ := fq
  cases e
  cases ew
  cases e1
  cases e2
  cases ew2
  obtain ⟨z1, z2⟩ := z
  cases z2
  subst eS2
  subst eS1
  subst eS
  have ndS : (D :: (S' ++ S3)).Nodup := by simpa using nd
  have nin : D ∉ S' ++ S3 := (List.nodup_cons.mp ndS).1
  have keep : ∀ b ∈ S' ++ S3, ∀ o, H b = some o → upd H D (.lst (vs ++ [y])) b = some o := fun b hb o e => by rw [upd_ne (fun z => nin (by rw [← z]; exact hb))]; exact e
  refine ⟨vs, q, ((TRs_iff.mp r).length).symm, ?_⟩
  have sH : SubR F (upd H D (.lst (vs ++ [y]))) := by
    have hD : F D = none := (k D (by simp)).2
    refine ⟨fun b o rr => ?_⟩
    have nb : b ≠ D := fun z => by subst z; rw [hD] at rr; cases rr
    rw [upd_ne nb]; exact h.sf.sub b o rr
  refine go F (upd H D (.lst (vs ++ [y]))) (D :: (S' ++ S3)) [.va (.lst (ts ++ [t]))] [some (.ref D)] (Same.refl F) (fun a h1 h2 => absurd h1 h2) ⟨sH, h.sf.nt⟩ (fun b hb o e => ?_) (Fs.one ⟨_, rfl, D, vs ++ [y], S' ++ S3, rfl, upd_same, rfl, TRs_iff.mpr (Fs.append (TRs_iff.mp (TRs.mono (SubR.refl _) (fun b hb => keep b (by simp [hb])) r)) (Fs.one (tr.mono (SubR.refl _) fun b hb => keep b (by simp [hb]))))⟩) ndS (fun a ha => ⟨(k a (by simpa using ha)).2, .inr (by simpa using ha)⟩)
  rw [upd_ne (fun z => hb (by simp [z]))]; exact e
end
def loopC (vs : List Nat) (mg : MG) (mt : MB) (me : ME) : List D → List T → Env → R (List T × Env)
  | [], acc, e => .ok (acc, e)
  | d :: r, acc, e => match mg (.sh d) (wpE e vs) with
    | .ok e1 => match mt e1 with
      | .ok (b, e2) => if b = true then match me e2 with
          | .ok (v, e3) => match keep v e3 with
            | some (t, e4) => if acc.length < sizeLine then loopC vs mg mt me r (acc ++ [t]) e4 else .st
            | none => .st
          | _ => .st
        else loopC vs mg mt me r acc e2
      | _ => .st
    | _ => .st
def mLc (vs : List Nat) (mi : MI) (mg : MG) (mt : MB) (me : ME) : ME := fun e => (mi e).bnd fun ds e1 => if litesAt e1 vs = true then match loopC vs mg mt me ds [] e1 with
    | .ok (ts, e2) => .ok (.tv (.lst ts), rst e1 vs e2)
    | _ => .st
  else .st
section
variable {K : Kf} {E : XS}
theorem Kd.wp {e e' : Env} {vs : List Nat} (hl : litesAt e vs = true) (hlen : List.length e = List.length e') (h : ∀ j, j ∉ vs → (∀ t, e[j]? = some (Slot.vw t) ↔ e'[j]? = some (Slot.vw t)) ∧ ((∃ t, e[j]? = some (Slot.mu t)) ↔ ∃ t, e'[j]? = some (Slot.mu t))) : Kd e (rst e vs e') := fun j => by
  rw [rst_get j hlen]
  by_cases hj : j ∈ vs
  · rw [if_pos hj]; exact ⟨fun _ => Iff.rfl, Iff.rfl⟩
  · rw [if_neg hj]; exact h j hj
theorem ev_lc {wi : (Addr → Prop) → TI} {g : TG} {tt : TT} {te : TE} {vs vg : List Nat} {mi : MI} {mg : MG} {mt : MB} {me : ME} (hi : EvI K E wi mi) (hg : EvG K g mg vg) (hvs : ∀ v ∈ vg, v ∈ vs) (ht : EvB K NX tt mt) (he : EvT K NX te me) :
    EvT K E (fun σ H Q => ∀ P, tLc (wi P) g tt te vs σ H fun v H' => ∃ Hu, Unl P H' Hu ∧ Q v Hu) (mLc vs mi mg mt me) := by
  intro B F H σ env Q hs hv hp P
  refine hi P B F H σ env _ hs hv ?_
  unfold mLc at hp
  cases e : mi env with
  | st => rw [e] at hp; exact hp
  | ex c e1 => rw [e] at hp; exact hp
  | ok a =>
    obtain ⟨ds, env1⟩ := a
    rw [e] at hp
    simp only [R.bnd] at hp
    by_cases hlite : litesAt env1 vs = true
    case neg => rw [if_neg hlite] at hp; exact hp.elim
    rw [if_pos hlite] at hp
    intro J F1 H1 Bl g1 kd1 st1 sBl nBl W back D hD
    have hv1 : Vw K Bl F1 env1 σ := (Got.kd (H' := H1) hv g1 kd1).gr sBl (SubR.refl _)
    have stw : St K Bl F1 H1 (wpE env1 vs) (wipe σ vs) := st1.wp vs
    -- the list stands ready
    have st0 : St K Bl F1 (upd H1 D (.lst [])) (.va (.lst []) :: wpE env1 vs) (some (.ref D) :: wipe σ vs) := by
      have sm : Same H1 (upd H1 D (.lst [])) := fun b o e => by rw [upd_ne (ne_of_none e hD)]; exact e
      obtain ⟨Sq, fq, nd, k, go⟩ := St.made (qs := []) (xs := []) rfl (show St K Bl F1 H1 ([] ++ wpE env1 vs) ([] ++ wipe σ vs) from stw)
      have hSq : Sq = [] := fq.2
      subst hSq
      exact go F1 _ [D] [.va (.lst [])] [some (.ref D)] (Same.refl _) (fun a h1 h2 => absurd h1 h2) (st1.sf.trans (.of sm)) (fun a _ o e => sm a o e) (Fs.one ⟨_, rfl, D, [], [], rfl, upd_same, rfl, rfl, rfl⟩) (by simp) (fun a ha => by
        have : a = D := by simpa using ha
        subst this
        exact ⟨st1.sf.off hD, .inl hD⟩)
    -- the state at turn i: e2 the slots behind the last turn
    let Tn : Nat → Hp → Prop := fun i H2 => ∃ (F2 : Hp) (e2 : Env) (acc : List T), Gr Bl F1 F2 ∧ List.length e2 = List.length env1 ∧ (∀ j, j ∉ vs → (∀ t, env1[j]? = some (Slot.vw t) ↔ e2[j]? = some (Slot.vw t)) ∧ ((∃ t, env1[j]? = some (Slot.mu t)) ↔ ∃ t, e2[j]? = some (Slot.mu t))) ∧
      St K Bl F2 H2 (.va (.lst acc) :: wpE e2 vs) (some (.ref D) :: wipe σ vs) ∧
      PostV K B F env σ E Q (match loopC vs mg mt me (ds.drop i) acc e2 with
        | .ok (ts, e2) => .ok (.tv (.lst ts), rst env1 vs e2)
        | _ => .st)
    refine ⟨fun i m H2 => m = ds.length - i ∧ i ≤ ds.length ∧ Tn i H2, ⟨ds.length, by simp, Nat.zero_le _, F1, env1, [], Gr.refl _ _, rfl, fun j hj => ⟨fun _ => Iff.rfl, Iff.rfl⟩, st0, by simpa using hp⟩, ?_⟩
    rintro i m H2 ⟨rfl, hi, F2, e2, acc, g2, hl2, k2, st2, hp2⟩
    by_cases hlt : i < ds.length
    · refine .inr ⟨W.go i F2 H2 _ _ hlt g2 st2, fun H' => Tn (i + 1) H', fun H' h => ⟨ds.length - (i + 1), by omega, rfl, hlt, h⟩, fun x H3 y => ?_⟩
      obtain ⟨B', sB', st2', park⟩ := st2.park
      -- the turn's value, over the list that waits
      obtain ⟨F3, g3, st3⟩ := W.yld i ds[i] F2 H2 _ _ x H3 (by simp [hlt]) g2 st2 y
      rw [List.drop_eq_getElem_cons hlt] at hp2
      unfold loopC at hp2
      have st3s : St K Bl F3 H3 (.va (.lst acc) :: .va (.sh ds[i]) :: wpE e2 vs) (some (.ref D) :: some x :: wipe σ vs) := by
        obtain ⟨S, ⟨b, l', S1, S2, eb, eS, h1, ⟨b2, l2, S3, S4, eb2, eS2, h2, h3⟩⟩, nd, k⟩ := st3.fp
        cases eb
        cases eb2
        obtain ⟨w, ew, eS1, r1⟩ := h1
        cases ew
        subst eS1
        subst eS2
        subst eS
        exact ⟨st3.sb, st3.sf, S3 ++ S4, ⟨_, _, S3, S4, rfl, rfl, h2, ⟨_, _, [], S4, rfl, rfl, ⟨x, rfl, rfl, r1⟩, h3⟩⟩, by simpa using nd, fun a ha => k a (by simpa using ha)⟩
      obtain ⟨B3, sB3, st3p, park3⟩ := st3s.park
      have vw3 : Vw K B3 F3 (wpE e2 vs) (wipe σ vs) := fun j t ej => by
        rw [wpE_get] at ej
        by_cases hj : j ∈ vs
        · rw [if_pos hj] at ej
          cases q : e2[j]? <;> rw [q] at ej <;> simp at ej
        · rw [if_neg hj] at ej
          obtain ⟨v, a, b⟩ := hv1 j t (((k2 j hj).1 t).mpr ej)
          exact ⟨v, by rw [wipe_get, if_neg hj]; exact a, b.mono (.of sB3) ((g2.trans g3).sub)⟩
      refine hg B3 F3 H3 (wipe σ vs) (wpE e2 vs) (.sh ds[i]) x _ st3p vw3 ?_
      cases e4 : mg (.sh ds[i]) (wpE e2 vs) with
      | st => rw [e4] at hp2; exact hp2.elim
      | ex c e5 => rw [e4] at hp2; exact hp2.elim
      | ok env4 =>
        rw [e4] at hp2
        simp only at hp2
        intro σ4 F4 H4 g4 kp4 off4 len4' st4
        have vgs : ∀ j, j ∉ vs → j ∉ vg := fun j hj z => hj (hvs j z)
        have len4 : σ4.length = (wipe σ vs).length := by rw [← st4.len, len4', ← st3p.drop.len]
        have vw4 : Vw K B3 F4 env4 σ4 := kp4.vw g4 vw3
        refine ⟨wipe_same (by rw [len4, wipe_length]) (fun j hj => ?_), ?_⟩
        · rw [(off4 j (vgs j hj)).2, wipe_get, if_neg hj]
        have kd4 : ∀ j, j ∉ vs → (∀ t, env1[j]? = some (Slot.vw t) ↔ env4[j]? = some (Slot.vw t)) ∧ ((∃ t, env1[j]? = some (Slot.mu t)) ↔ ∃ t, env4[j]? = some (Slot.mu t)) := fun j hj => by
          rw [(off4 j (vgs j hj)).1, wpE_get, if_neg hj]; exact k2 j hj
        have σ4w : ∀ F5 H5 e5, Gr B3 F4 F5 → Kd env4 e5 → St K Bl F5 H5 (.va (.lst acc) :: e5) (some (.ref D) :: σ4) → List.length e5 = List.length env1 ∧ (∀ j, j ∉ vs → (∀ t, env1[j]? = some (Slot.vw t) ↔ e5[j]? = some (Slot.vw t)) ∧ ((∃ t, env1[j]? = some (Slot.mu t)) ↔ ∃ t, e5[j]? = some (Slot.mu t))) := fun F5 H5 e5 g5 kd5 st5 => by
          refine ⟨?_, fun j hj => ⟨fun t => ((kd4 j hj).1 t).trans ((kd5 j).1 t), (kd4 j hj).2.trans (kd5 j).2⟩⟩
          have h1 := st5.drop.len
          have h2 := st1.len
          rw [len4, wipe_length] at h1
          omega
        have σw : wipe σ4 vs = wipe σ vs := wipe_same (by rw [len4, wipe_length]) (fun j hj => by rw [(off4 j (vgs j hj)).2, wipe_get, if_neg hj])
        refine ht B3 F4 H4 σ4 env4 _ st4 vw4 ?_
        cases e6 : mt env4 with
        | st => rw [e6] at hp2; exact hp2.elim
        | ex c e5 => rw [e6] at hp2; exact hp2.elim
        | ok q =>
          obtain ⟨b, env5⟩ := q
          rw [e6] at hp2
          simp only at hp2
          intro F5 H5 g5 kd5 st5
          have g15 : Gr Bl F1 F5 := g2.trans (g3.trans ((g4.trans g5).anti sB3))
          cases b with
          | false =>
            rw [if_neg (by decide)] at hp2 ⊢
            have stl := park3 F5 H5 _ _ (g4.trans g5) st5
            obtain ⟨l5, k5⟩ := σ4w F5 H5 env5 g5 kd5 stl
            refine ⟨F5, env5, acc, g15, l5, k5, ?_, hp2⟩
            have q := park3 F5 H5 _ _ (g4.trans g5) (st5.wp vs)
            rw [σw] at q
            exact q
          | true =>
            rw [if_pos rfl] at hp2 ⊢
            refine he B3 F5 H5 σ4 env5 _ st5 (Got.kd (H' := H5) vw4 g5 kd5) ?_
            cases e7 : me env5 with
            | st => rw [e7] at hp2; exact hp2.elim
            | ex c e5 => rw [e7] at hp2; exact hp2.elim
            | ok q =>
              obtain ⟨v, env6⟩ := q
              rw [e7] at hp2
              simp only at hp2
              intro y6 F6 H6 g6 kd6 got6
              cases e8 : keep v env6 with
              | none => rw [e8] at hp2; exact hp2.elim
              | some q =>
                obtain ⟨t, env7⟩ := q
                rw [e8] at hp2
                simp only at hp2
                obtain ⟨F7, g7, kd7, st7⟩ := got6.keep e8
                have stl := park3 F7 H6 _ _ (g4.trans (g5.trans (g6.trans g7))) st7
                obtain ⟨ws, hD6, hlen, sn⟩ := stl.snoc
                by_cases hsz : acc.length < sizeLine
                case neg => rw [if_neg hsz] at hp2; exact hp2.elim
                rw [if_pos hsz] at hp2
                refine ⟨ws, hD6, by rw [hlen]; exact hsz, F7, env7, acc ++ [t], g2.trans (g3.trans ((g4.trans (g5.trans (g6.trans g7))).anti sB3)), ?_⟩
                have sn1 : St K Bl F7 (upd H6 D (.lst (ws ++ [y6]))) (.va (.lst (acc ++ [t])) :: env7) (some (.ref D) :: σ4) := sn
                refine ⟨?_, fun j hj => ⟨fun t => ((kd4 j hj).1 t).trans (((kd5.trans (kd6.trans kd7)) j).1 t), (kd4 j hj).2.trans ((kd5.trans (kd6.trans kd7)) j).2⟩, ?_, hp2⟩
                · have h1 := sn1.drop.len
                  have h2 := st1.len
                  rw [len4, wipe_length] at h1
                  omega
                · obtain ⟨B7, sB7, stp7, park7⟩ := sn1.park
                  have q := park7 F7 _ _ _ (Gr.refl _ _) (stp7.wp vs)
                  rw [σw] at q
                  exact q
    · have he : i = ds.length := by omega
      subst he
      refine .inl ⟨W.stop F2 H2 _ _ g2 st2, ?_⟩
      obtain ⟨B7, sB7, stp7, park7⟩ := st2.park
      have q := park7 F2 H2 _ _ (Gr.refl _ _) (St.unwp st1 g2.same stp7 (by rw [wpE_len]; exact hl2) vs hlite)
      rw [rst_wipe] at q
      obtain ⟨Hu, hu, stu⟩ := back F2 H2 _ _ g2 q
      rw [List.drop_length] at hp2
      have er : rst env1 vs (wpE e2 vs) = rst env1 vs e2 := by
        refine List.ext_getElem? fun j => ?_
        rw [rst_get j (by rw [wpE_len]; exact hl2.symm), rst_get j hl2.symm, wpE_get]
        by_cases hj : j ∈ vs <;> simp [hj]
      rw [er] at stu
      exact ⟨Hu, hu, hp2 (.ref D) F2 Hu (g1.trans (g2.low nBl)) (kd1.trans (Kd.wp hlite hl2.symm k2)) (.of stu)⟩
end
inductive FR where
  | ret (t : T) (m : Option T) | exc (c : Exn) (m : Option T) | st
abbrev MF := List Slot → FR
def PostF (K : Kf) (B F : Hp) (vs : List V) (Q : VK) (E : XK) : FR → Prop
  | .ret t none => ∀ x F' H', Gr B F F' → St K B F' H' [.va t] [some x] → Q x H'
  | .ret t (some u) => ∀ x F' H', Gr B F F' → St K B F' H' [.va t, .mu u] [some x, vs.head?] → Q x H'
  | .exc c none => ∀ od F' H', Gr B F F' → St K B F' H' [] [] → ExOk K F' H' c od → E (.ref c.C) od H'
  | .exc c (some u) => ∀ od F' H', Gr B F F' → St K B F' H' [.mu u] [vs.head?] → ExOk K F' H' c od → E (.ref c.C) od H'
  | .st => False
def spD (K : Kf) (n : Nat) (f : MF) : Sp := fun vs H Q E => vs.length = n ∧ ∃ (B F : Hp) (ss : List Slot), St K B F H ss (vs.map some) ∧ Vw K B F ss (vs.map some) ∧ PostF K B F vs Q E (f ss)
def fin (mu : Bool) (t : T) (e : Env) : FR := if mu = true then match e with
    | .mu u :: _ => .ret t (some u)
    | _ => .st
  else .ret t none
def finX (mu : Bool) (c : Exn) (e : Env) : FR := if mu = true then match e with
    | .mu u :: _ => .exc c (some u)
    | _ => .st
  else .exc c none
def isMu : List Slot → Bool
  | .mu _ :: _ => true
  | _ => false
def bodyF (n : Nat) (mb : MS) : MF := fun ss => match mb (ss ++ List.replicate (n - ss.length) .un) with
  | .ok (.nx e) => fin (isMu ss) (.sh .non) e
  | .ok (.rt t e) => fin (isMu ss) t e
  | .ex c e => finX (isMu ss) c e
  | _ => .st
section
variable {K : Kf} {B F H : Hp}
theorem Fs.uns {os : List (Option V)} : ∀ {n : Nat}, os.length = n → Fs (SR K F H) (List.replicate n .un) os [] := by
  intro n
  induction n generalizing os with
  | zero => intro h; cases os with
    | nil => exact ⟨rfl, rfl⟩
    | cons _ _ => cases h
  | succ n ih => intro h; cases os with
    | nil => cases h
    | cons o os => exact ⟨o, os, [], [], rfl, rfl, rfl, ih (by simpa using h)⟩
theorem St.ext {ss : List Slot} {os xs : List (Option V)} {n : Nat} (h : St K B F H ss os) (hx : xs.length = n) : St K B F H (ss ++ List.replicate n .un) (os ++ xs) := by
  obtain ⟨S, f, nd, k⟩ := h.fp
  exact ⟨h.sb, h.sf, S ++ [], f.append (Fs.uns hx), by simpa using nd, fun a ha => k a (by simpa using ha)⟩
theorem St.pre {qs ss : List Slot} {xs os : List (Option V)} (hl : qs.length = xs.length) (h : St K B F H (qs ++ ss) (xs ++ os)) : St K B F H qs xs := by
  obtain ⟨S, f, nd, k⟩ := h.fp
  obtain ⟨S1, S2, rfl, f1, f2⟩ := f.split hl
  exact ⟨h.sb, h.sf, S1, f1, (List.nodup_append.mp nd).1, fun a ha => k a (List.mem_append_left _ ha)⟩
theorem body_ok {E : XK} {t : TS} {mb : MS} {n m : Nat} {vs : List V} {Q : VK} {N : List Str} (hN : N.length = m) (hb : DsT K (fun _ => E) t mb) (hn : n ≤ m) (h : spD K n (bodyF m mb) vs H Q E) :
    t { nx := fun _ H' => Q .non H', rt := Q } (L2.start N vs) H := by
  obtain ⟨hl, B, F, ss, st, vw, hp⟩ := h
  have hss : ss.length = vs.length := by rw [st.len, List.length_map]
  have e0 : L2.start N vs = vs.map some ++ List.replicate (m - ss.length) none := by unfold L2.start; rw [hN, hss]
  rw [e0]
  have st0 : St K B F H (ss ++ List.replicate (m - ss.length) .un) (vs.map some ++ List.replicate (m - ss.length) none) := st.ext (by simp)
  have vw0 : Vw K B F (ss ++ List.replicate (m - ss.length) .un) (vs.map some ++ List.replicate (m - ss.length) none) := fun i u e => by
    by_cases hi : i < ss.length
    · rw [List.getElem?_append_left hi] at e
      obtain ⟨v, a, b⟩ := vw i u e
      exact ⟨v, by rw [List.getElem?_append_left (by simpa [← hss] using hi)]; exact a, b⟩
    · rw [List.getElem?_append_right (by omega), List.getElem?_replicate] at e
      split at e <;> cases e
  refine hb B F H _ _ _ st0 vw0 ?_
  unfold bodyF at hp
  -- the first slot at the end
  have head : ∀ {e' : Env} {σ' : L2.St} {u : T} {r : Env}, isMu ss = true → Kp (ss ++ List.replicate (m - ss.length) .un) (vs.map some ++ List.replicate (m - ss.length) none) e' σ' → e' = .mu u :: r → σ'.length = List.length e' → ∃ os, σ' = vs.head? :: os := by
    intro e' σ' u r hm kp ee hlen
    cases ss with
    | nil => cases hm
    | cons s0 sr =>
      cases s0 with
      | mu u0 =>
        cases vs with
        | nil => cases hss
        | cons v0 vr =>
          cases σ' with
          | nil => rw [ee] at hlen; cases hlen
          | cons o os =>
            have := (kp 0).2.2 ⟨u0, rfl⟩
            simp at this
            exact ⟨os, by rw [this]; rfl⟩
      | un => cases hm
      | va _ => cases hm
      | vw _ => cases hm
  cases e : mb (ss ++ List.replicate (m - ss.length) .un) with
  | st => rw [e] at hp; exact hp
  | ex c e1 =>
    rw [e] at hp
    intro od σ' F' H' g kp st' ok
    unfold finX at hp
    by_cases hm : isMu ss = true
    · simp only [hm, if_true] at hp
      cases e1 with
      | nil => exact hp.elim
      | cons s r =>
        cases s with
        | mu u =>
          obtain ⟨os, rfl⟩ := head hm kp rfl st'.len.symm
          exact hp od F' H' g (St.pre (qs := [.mu u]) (xs := [vs.head?]) rfl st') ok
        | un => exact hp.elim
        | va _ => exact hp.elim
        | vw _ => exact hp.elim
    · simp only [hm, if_false] at hp
      exact hp od F' H' g (St.pre (qs := []) (xs := []) rfl st') ok
  | ok a =>
    rw [e] at hp
    cases a with
    | bk e1 => exact hp.elim
    | ct e1 => exact hp.elim
    | nx e1 =>
      intro σ' F' H' g kp st'
      unfold fin at hp
      by_cases hm : isMu ss = true
      · simp only [hm, if_true] at hp
        cases e1 with
        | nil => exact hp.elim
        | cons s r =>
          cases s with
          | mu u =>
            obtain ⟨os, rfl⟩ := head hm kp rfl st'.len.symm
            exact hp .non F' H' g ((St.pre (qs := [.mu u]) (xs := [vs.head?]) rfl st').push rfl)
          | un => exact hp.elim
          | va _ => exact hp.elim
          | vw _ => exact hp.elim
      · simp only [hm, if_false] at hp
        exact hp .non F' H' g ((St.pre (qs := []) (xs := []) rfl st').push rfl)
    | rt t e1 =>
      intro x σ' F' H' g kp st'
      unfold fin at hp
      by_cases hm : isMu ss = true
      · simp only [hm, if_true] at hp
        cases e1 with
        | nil => exact hp.elim
        | cons s r =>
          cases s with
          | mu u =>
            obtain ⟨os, rfl⟩ := head hm kp rfl (by have := st'.len; simp at this; simp [this])
            exact hp x F' H' g (St.pre (qs := [.va t, .mu u]) (xs := [some x, vs.head?]) rfl st')
          | un => exact hp.elim
          | va _ => exact hp.elim
          | vw _ => exact hp.elim
      · simp only [hm, if_false] at hp
        exact hp x F' H' g (St.pre (qs := [.va t]) (xs := [some x]) rfl st')
end
def argS : T → Slot
  | .sh d => .va (.sh d)
  | t => .vw t
def mCall (n : Nat) (f : MF) (ms : MA) : ME := fun e => (ms e).bnd fun vs e1 => if vs.length = n then match cns vs e1 with
    | some ts => match f (ts.map argS) with
      | .ret t none => .ok (.tv t, e1)
      | .exc c none => .ex c e1
      | _ => .st
    | none => .st
  else .st
section
variable {K : Kf} {B F H : Hp} {E : XS}
theorem args_ok {Bc : Hp} : ∀ {ts : List T} {xs : List V}, All2 (VR K Bc F) ts xs → Fs (SR K F H) (ts.map argS) (xs.map some) [] ∧ Vw K Bc F (ts.map argS) (xs.map some)
  | [], _, h => by
    cases (show _ = [] from h)
    exact ⟨⟨rfl, rfl⟩, fun i t e => by simp at e⟩
  | t :: ts, _, ⟨x, l, e, r, h⟩ => by
    subst e
    obtain ⟨f, w⟩ := args_ok h
    refine ⟨⟨some x, _, [], [], rfl, rfl, ?_, f⟩, fun i u ei => ?_⟩
    · cases t with
      | sh d => exact ⟨x, rfl, rfl, r⟩
      | lst _ => rfl
      | dct _ => rfl
      | ins _ _ => rfl
    · cases i with
      | zero =>
        cases t with
        | sh d => simp [argS] at ei
        | lst _ => simp [argS] at ei; subst ei; exact ⟨x, rfl, r⟩
        | dct _ => simp [argS] at ei; subst ei; exact ⟨x, rfl, r⟩
        | ins _ _ => simp [argS] at ei; subst ei; exact ⟨x, rfl, r⟩
      | succ i => simpa using w i u (by simpa using ei)
theorem St.back {F' H' : Hp} {env : Env} {σ : L2.St} {rs : List Slot} {ys : List (Option V)} (h : St K B F H env σ) (g : Gr H F F') (r : St K H F' H' rs ys) : Gr B F F' ∧ St K B F' H' (rs ++ env) (ys ++ σ) := by
  refine ⟨g.antiB h.sb.toBs, ?_⟩
  obtain ⟨Sq, fq, nd, k, go⟩ := St.madeB (qs := []) (xs := []) rfl (show St K B F H ([] ++ env) ([] ++ σ) from h)
  have hSq : Sq = [] := fq.2
  subst hSq
  obtain ⟨S, f, nd', k'⟩ := r.fp
  exact go F' H' S rs ys g.same (fun a h1 h2 => .inl (g.new a h1 h2)) r.sf (.pre (fun a o e => by simpa using e) r.sb) f nd' fun a ha => ⟨(k' a ha).2, .inl (k' a ha).1⟩
theorem ev_callF {n : Nat} {f : MF} {ta : TA} {ms : MA} (ha : EvA K E ta ms) :
    EvT K E (fun σ H Q => ta σ H fun vs H1 => spD K n f vs H1 Q (E σ)) (mCall n f ms) := by
  intro B F H σ env Q h hv hp
  refine ha B F H σ env _ h hv ?_
  unfold mCall at hp
  cases e : ms env with
  | st => rw [e] at hp; exact hp
  | ex c e1 => rw [e] at hp; exact hp
  | ok a =>
    obtain ⟨vs, e1⟩ := a
    rw [e] at hp
    simp only [R.bnd] at hp
    intro xs F' H' g kd got
    by_cases hl : vs.length = n
    case neg => rw [if_neg hl] at hp; exact hp.elim
    rw [if_pos hl] at hp
    cases c : cns vs e1 with
    | none => rw [c] at hp; exact hp.elim
    | some ts =>
      rw [c] at hp
      simp only at hp
      have vr := got.vrs (Got.kd (H' := H') hv g kd) c
      obtain ⟨f1, w1⟩ := args_ok (H := H') vr
      refine ⟨by rw [← got.len]; exact hl, H', F', ts.map argS, ⟨got.st.sb.fr, got.st.sf, [], f1, by simp, fun a ha => by simp at ha⟩, w1, ?_⟩
      cases r : f (ts.map argS) with
      | st => rw [r] at hp; exact hp
      | exc c m =>
        cases m with
        | none =>
          rw [r] at hp
          intro od F2 H2 g2 st2 ok
          obtain ⟨g3, st3⟩ := got.base.back g2 st2
          exact hp od F2 H2 (g.trans g3) kd st3 ok
        | some u => rw [r] at hp; exact hp.elim
      | ret t m =>
        cases m with
        | none =>
          rw [r] at hp
          intro x F2 H2 g2 st2
          obtain ⟨g3, st3⟩ := got.base.back g2 st2
          exact hp x F2 H2 (g.trans g3) kd (.of st3)
        | some u => rw [r] at hp; exact hp.elim
end
def okR (i : Nat) : List Val → Bool
  | [] => true
  | .tv _ :: r => okR i r
  | .pl j _ :: r => decide (j ≠ i) && okR i r
def mCallM (n : Nat) (f : MF) (ms : MA) : ME := fun e => (ms e).bnd fun vs e1 => if vs.length = n then match vs with
  | .pl i p :: rest => match e1[i]? with
    | some s => match s.own with
      | some t => match T.get p t with
        | some u => match cns rest e1 with
          | some ts => if okR i rest = true then match f (.mu u :: ts.map argS) with
              | .ret r (some u') => match T.put p t u' with
                | some t' => .ok (.tv r, e1.set i (s.wth t'))
                | none => .st
              | .exc c (some u') => match T.put p t u' with
                | some t' => .ex c (e1.set i (s.wth t'))
                | none => .st
              | _ => .st
            else .st
          | none => .st
        | none => .st
      | none => .st
    | none => .st
  | _ => .st
  else .st
section
variable {K : Kf} {B F H : Hp} {E : XS}
theorem St.mcall {env : Env} {σ : L2.St} {i : Nat} {p : List PEl} {vs : List Val} {x : V} {xs : List V} {s : Slot} {t u : T} {ts : List T} (h : Got K B F H env σ (.pl i p :: vs) (x :: xs)) (hv : Vw K B F env σ) (e : env[i]? = some s) (c : s.own = some t)
    (g : T.get p t = some u) (cn : cns vs env = some ts) (ok : okR i vs = true) : ∃ Bc, St K Bc F H (.mu u :: ts.map argS) (some x :: xs.map some) ∧ Vw K Bc F (.mu u :: ts.map argS) (some x :: xs.map some) ∧
    ∀ (F' H' : Hp) (u' t' : T) (rs : List Slot) (ys : List (Option V)), rs.length = ys.length → Gr Bc F F' → St K Bc F' H' (rs ++ [.mu u']) (ys ++ [some x]) → T.put p t u' = some t' → Gr B F F' ∧ St K B F' H' (rs ++ env.set i (s.wth t')) (ys ++ σ) := by
  obtain ⟨x', l, ex, ⟨v, ev, wk⟩, pls⟩ := h.pl
  cases ex
  have hl : vs.length = xs.length := by simpa using h.len
  have hst : St K B F H (pdS vs ++ env) (pdX vs xs ++ σ) := h.st
  -- the footprints, once
  obtain ⟨S, f, nd, k⟩ := hst.fp
  obtain ⟨Sq, S2, rfl, fq, fs⟩ := f.split (pd_len hl)
  obtain ⟨o, L, Sa, Rr, h1, h2, h3, h4⟩ := fs.at e
  rw [ev] at h1
  cases h1
  obtain ⟨w, ew, tr⟩ := h3.own c
  cases ew
  obtain ⟨y, L2', Su, R2', c1, c2, c3, c4⟩ := tr.path g
  cases c2.det wk
  subst c1
  subst h2
  have nd1 := List.nodup_append.mp nd
  have nd2 := List.nodup_append.mp nd1.2.1
  have nd3 := List.nodup_append.mp nd2.1
  have nd4 := List.nodup_append.mp nd3.2.1
  have nd5 := List.nodup_append.mp nd4.1
  have dq : ∀ a ∈ Sq, a ∉ Su := fun a ha z => nd1.2.2 a ha a (by simp [z]) rfl
  have dl : ∀ a ∈ L ++ Rr, a ∉ Su := fun a ha z => by
    rcases List.mem_append.mp ha with ha | ha
    · exact nd3.2.2 a ha a (by simp [z]) rfl
    · exact nd2.2.2 a (by simp [z]) a ha rfl
  have hS : ∀ a ∈ Su, B a = none ∧ F a = none := fun a ha => k a (by simp [ha])
  have has := c3.has
  let Bc : Hp := fun a => if a ∈ Su then none else H a
  have bc : ∀ a, a ∉ Su → Bc a = H a := fun a ha => by show (if a ∈ Su then none else H a) = H a; simp [ha]
  have bs : ∀ a, a ∈ Su → Bc a = none := fun a ha => by show (if a ∈ Su then none else H a) = none; simp [ha]
  have sBc : Same Bc H := fun a o z => by
    by_cases hm : a ∈ Su
    · rw [bs a hm] at z; cases z
    · rw [bc a hm] at z; exact z
  have sBBc : Bs K B Bc := hst.sb.kept (fun a ha => (hS a ha).1) c3.hasO fun a ha o e => by rw [bc a ha]; exact e
  have subB : SubV B Bc := sBBc.v
  -- the other arguments are read in Bc
  have others : ∀ {vs : List Val} {xs : List V} {ts : List T} {Sq : List Addr}, vs.length = xs.length → Fs (SR K F H) (pdS vs) (pdX vs xs) Sq → (∀ a ∈ Sq, a ∉ Su) → All2 (PlOk H σ) vs xs → cns vs env = some ts → okR i vs = true → All2 (VR K Bc F) ts xs := by
    intro vs
    induction vs with
    | nil =>
      intro xs ts Sq hl _ _ _ hc _
      cases hc
      cases xs with
      | nil => rfl
      | cons _ _ => cases hl
    | cons v0 r ih =>
      intro xs ts Sq hl fq dq pk hc hok
      obtain ⟨x0, l0, e0, p0, pr⟩ := pk
      subst e0
      obtain ⟨t0, d1, d2⟩ := Option.bind_eq_some_iff.mp hc
      obtain ⟨ts', d3, rfl⟩ := Option.map_eq_some_iff.mp d2
      cases v0 with
      | tv tt =>
        obtain ⟨b, l', S1, S2, e1, e2, ⟨w0, ew0, tr0⟩, q2⟩ := fq
        cases e1
        cases ew0
        cases d1
        subst e2
        refine ⟨x0, l0, rfl, (tr0.mono (SubR.refl _) (H' := Bc) fun a ha o eo => by rw [bc a (dq a (by simp [ha]))]; exact eo).vr, ih (by simpa using hl) q2 (fun a ha => dq a (by simp [ha])) pr d3 hok⟩
      | pl j q =>
        have hj : j ≠ i ∧ okR i r = true := by simpa [okR] using hok
        refine ⟨x0, l0, rfl, ?_, ih (by simpa using hl) fq dq pr d3 hj.2⟩
        obtain ⟨s', b1, b2⟩ := Option.bind_eq_some_iff.mp d1
        obtain ⟨t', b3, b4⟩ := Option.bind_eq_some_iff.mp b2
        obtain ⟨v', ev', wk'⟩ := p0
        have vr : VR K Bc F t' v' := by
          have f' := h4 (fun s o S => SR K F H s o S ∧ ∀ a ∈ S, a ∈ L ++ Rr) .un [] (fun c d Sc hS hc => ⟨hc, hS⟩) ⟨rfl, fun a ha => by simp at ha⟩
          obtain ⟨o', L3, S3, R3, g1, g2, ⟨g3, g4⟩, _⟩ := f'.at (n := j) (a := s') (by rw [List.getElem?_set_ne (Ne.symm hj.1)]; exact b1)
          rw [ev'] at g1
          cases g1
          have keep : ∀ a ∈ S3, ∀ o, H a = some o → Bc a = some o := fun a ha o eo => by rw [bc a (dl a (g4 a ha))]; exact eo
          cases s' with
          | un => cases b3
          | va t2 => cases b3; obtain ⟨z, ez, tz⟩ := g3; cases ez; exact (tz.mono (SubR.refl _) keep).vr
          | mu t2 => cases b3; obtain ⟨z, ez, tz⟩ := g3; cases ez; exact (tz.mono (SubR.refl _) keep).vr
          | vw t2 =>
            cases b3
            obtain ⟨z, ez, rz⟩ := hv j _ b1
            rw [ev'] at ez
            cases ez
            exact rz.monoV subB (SubR.refl _)
        obtain ⟨y', wk2, r'⟩ := vr.path b4
        cases (wk2.mono (.of sBc)).det wk'
        exact r'
  have vrs := others hl fq dq pls cn ok
  obtain ⟨f1, w1⟩ := args_ok (H := H) vrs
  refine ⟨Bc, ⟨⟨.of sBc, hst.sb.tk⟩, hst.sf, Su ++ [], ⟨some x, _, Su, [], rfl, rfl, ⟨x, rfl, c3⟩, f1⟩, by simpa using nd5.2.1, fun a ha => ?_⟩, fun j t' ej => ?_, fun F' H' u' t' rs ys hrs g2 st2 hp => ?_⟩
  · have ha : a ∈ Su := by simpa using ha
    exact ⟨bs a ha, (hS a ha).2⟩
  · cases j with
    | zero => simp at ej
    | succ j => simpa using w1 j t' (by simpa using ej)
  · refine ⟨g2.antiB sBBc, ?_⟩
    obtain ⟨y2, Su2, Sq2, q1, q2, q3, q4, q5, go⟩ := St.chgB (qs := []) (xs := []) rfl (show St K B F H ([] ++ env) ([] ++ σ) from h.base) e c ev g
    have hSq : Sq2 = [] := q3.2
    subst hSq
    cases q1.det wk
    -- the footprint of the place is one
    have fun1 : Su2 = Su := TR.det q2 c3
    subst fun1
    obtain ⟨S', f', nd', k'⟩ := st2.fp
    obtain ⟨Sr, Sm, rfl, fr, fm⟩ := f'.split hrs
    obtain ⟨b, l', S1, S3, e1, e2, ⟨w0, ew0, tr0⟩, z1, z2⟩ := fm
    cases e1
    cases ew0
    subst z2
    subst e2
    refine go F' H' u' t' S1 Sr rs ys g2.same (fun a a1 a2 => ?_) st2.sf st2.sb.toBs tr0 fr (by simpa using nd') (fun a ha => ?_) hp
    · by_cases hm : a ∈ Su2
      · exact .inr (by simpa using hm)
      · exact .inl (by rw [← bc a hm]; exact g2.new a a1 a2)
    · have q := k' a (by simpa using ha)
      refine ⟨q.2, ?_⟩
      by_cases hm : a ∈ Su2
      · exact .inr (by simpa using hm)
      · exact .inl (by rw [← bc a hm]; exact q.1)
theorem ev_callM {n : Nat} {f : MF} {ta : TA} {ms : MA} (ha : EvA K E ta ms) : EvT K E (fun σ H Q => ta σ H fun vs H1 => spD K n f vs H1 Q (E σ)) (mCallM n f ms) := by
  intro B F H σ env Q h hv hp
  refine ha B F H σ env _ h hv ?_
  unfold mCallM at hp
  cases e : ms env with
  | st => rw [e] at hp; exact hp
  | ex c e1 => rw [e] at hp; exact hp
  | ok a =>
    obtain ⟨vs, e1⟩ := a
    rw [e] at hp
    simp only [R.bnd] at hp
    intro xs F' H' g kd got
    by_cases hl : vs.length = n
    case neg => rw [if_neg hl] at hp; exact hp.elim
    rw [if_pos hl] at hp
    have hv1 := Got.kd (H' := H') hv g kd
    cases vs with
    | nil => exact hp.elim
    | cons v rest =>
      cases v with
      | tv t => exact hp.elim
      | pl i p =>
        cases xs with
        | nil => have := got.len; cases this
        | cons x xs =>
          simp only at hp
          cases h1 : e1[i]? with
          | none => rw [h1] at hp; exact hp.elim
          | some s =>
            rw [h1] at hp; simp only at hp
            cases h2 : s.own with
            | none => rw [h2] at hp; exact hp.elim
            | some t =>
              rw [h2] at hp; simp only at hp
              cases h3 : T.get p t with
              | none => rw [h3] at hp; exact hp.elim
              | some u =>
                rw [h3] at hp; simp only at hp
                cases h4 : cns rest e1 with
                | none => rw [h4] at hp; exact hp.elim
                | some ts =>
                  rw [h4] at hp; simp only at hp
                  by_cases h5 : okR i rest = true
                  case neg => rw [if_neg h5] at hp; exact hp.elim
                  rw [if_pos h5] at hp
                  obtain ⟨Bc, st, vw, back⟩ := St.mcall got hv1 h1 h2 h3 h4 h5
                  refine ⟨by rw [← got.len]; exact hl, Bc, F', _, st, vw, ?_⟩
                  cases r : f (.mu u :: ts.map argS) with
                  | st => rw [r] at hp; exact hp
                  | exc c m =>
                    rw [r] at hp
                    cases m with
                    | none => exact hp.elim
                    | some u' =>
                      simp only at hp
                      cases h6 : T.put p t u' with
                      | none => rw [h6] at hp; exact hp.elim
                      | some t' =>
                        rw [h6] at hp
                        intro od F2 H2 g2 st2 ok
                        obtain ⟨g3, st3⟩ := back F2 H2 u' t' [] [] rfl g2 st2 h6
                        exact hp od F2 H2 (g.trans g3) (kd.trans (Kd.set h1 (by rw [h2]; simp))) st3 ok
                  | ret q m =>
                    rw [r] at hp
                    cases m with
                    | none => exact hp.elim
                    | some u' =>
                      simp only at hp
                      cases h6 : T.put p t u' with
                      | none => rw [h6] at hp; exact hp.elim
                      | some t' =>
                        rw [h6] at hp
                        intro y F2 H2 g2 st2
                        obtain ⟨g3, st3⟩ := back F2 H2 u' t' [.va q] [some y] rfl g2 st2 h6
                        exact hp y F2 H2 (g.trans g3) (kd.trans (Kd.set h1 (by rw [h2]; simp))) (.of st3)
end
def Gq (k : Nat) (A : Around) : Prop := 40 ≤ k → A.guards = some []
theorem Gq.mono {j k : Nat} {A : Around} (h : Gq k A) (hk : j ≤ k) : Gq j A := fun z => h (Nat.le_trans z hk)
structure FnG (P : Program) (w : World) (K : Kf) (mg : Str → Option Value) (base : Heap) (k : Nat) (f : Addr) (fd : FuncData) (ps : List Str) (sp : Sp) : Prop where
  len : ∀ vs H Q E, sp vs H Q E → vs.length = ps.length
  go : ∀ (A : Around) (out : List PySem.Env) (s : Shared) (H : Hp) (args : Args) (us : List Value) (vs : List V) (Q : VK) (E : XK), Room k A → Gq k A → Env0 P w K mg base A out s H → BindsTo s fd args (ps.zip us) → Vals vs us → sp vs H Q E →
    codeAny (model P w) A (.call (.ref f) args) (CR (L2.CX P w) out P w H s Q E) s
theorem guards_deeper {k : Nat} {A : Around} {e : PySem.Env} (h1 : Gq (k + 1) A) : Gq k (A.deeper e) := by
  intro z
  have h := h1 (Nat.le_succ_of_le z)
  first | exact h | simpa [Around.deeper] using h
section
variable {P : Program} {w : World} {K : Kf} {mg : Str → Option Value} {base : Heap}
theorem Fun.okG {x qual : Str} {st : Stmt} {f : Addr} {fd : FuncData} {N ps : List Str} {k : Nat} {sp : Sp} (Fn : Fun K x qual st f fd) (S : FnScope N ps (defScope st)) (hlen : ∀ vs H Q E, sp vs H Q E → vs.length = ps.length)
    (hbody : ∀ (cdv : Value) (A : Around) (out : List PySem.Env) (s : Shared) (H : Hp) (vs : List V) (Q : VK) (E : XK), Room k (A.deeper (envOfC qual (defScope st) s.heap.objs.size f cdv)) → Gq k (A.deeper (envOfC qual (defScope st) s.heap.objs.size f cdv)) → sp vs H Q E →
      ∃ t, PSs (cxOf (L2.CX P w) P w K mg base N qual (defScope st) f cdv A out s H E) (defBody st) t ∧ t { nx := fun _ H' => Q .non H', rt := Q } (L2.start N vs) H) : FnG P w K mg base (k + 1) f fd ps sp := by
  obtain ⟨oc, od, kV, doc, pm, an, cdv, ct, osl, rfl, lk, hcd⟩ := Fn.ex
  refine ⟨hlen, fun A out s H args us vs Q E hr hg e0 hb r hsp => ?_⟩
  have KX : K.In s.heap := e0.mod.kin.keeps fun b o e => (e0.bs b o e).1
  have hlim : s.heap.NoLimit := e0.mod.nolimit.keeps fun b o e => (e0.bs b o e).1
  refine codeAny_call_function hr.depth (KX _ _ lk) rfl S.co S.gen rfl (PySem.W.codeRec_of KX hcd) (hb _ _ _ _ ?_)
  refine wpAny_newFunctionEnv_cells S.kind (fun y hy => ?_) fun env he s1 ic => ?_
  · obtain ⟨n, v⟩ := y
    rcases S.par n (List.of_mem_zip hy).1 with q | q
    · exact .inl q
    · exact .inr ⟨q, PySem.W.cellsFrom_some _ _ _ (.inl q)⟩
  · subst he
    refine ⟨hlim.keeps ic.toInCall.keep, codeAny_func ?_⟩
    obtain ⟨t, ht, hq⟩ := hbody cdv A out s H vs Q E (hr.deeper _) (guards_deeper hg) hsp
    have I0 := inv_start (CX := L2.CX P w) (E := E) S hr.hd e0 (hlen _ _ _ _ hsp) r ic
    refine wpAny_mono (ht.run [] s1 _ H _ I0 hq) (fun fl s' hs => ?_) fun e s' hs => hs
    cases fl with
    | ret u => obtain ⟨v, σ', H', J, rv, q⟩ := hs; exact ⟨v, H', J.os, J.bare, J.base, J.hok, rv, q⟩
    | next => obtain ⟨σ', H', J, q⟩ := hs; exact ⟨V.non, H', J.os, J.bare, J.base, J.hok, rfl, q⟩
    | brk => obtain ⟨_, _, _, q⟩ := hs; exact q.elim
    | cont => obtain ⟨_, _, _, q⟩ := hs; exact q.elim
end
def PassesS (X : Cx) (E : XS) : Prop := ∀ (pins : List (Addr × Obj)) (σ : L2.St) (H : Hp) (s : Shared) (e : Value) (s' : Shared), Inv X pins σ H s → L2.CX X.prog X.w X.stack H s (E σ) e s' → X.xe e s'
theorem PassesS.tk {X : Cx} {E : XS} (tk : Takes X (fun cls d σ H => E σ cls d H)) : PassesS X E := fun pins σ H s e s' I c => tk e s' (XE.of_call I (fun _ _ _ h => h) c)
theorem takesN {X : Cx} : Takes X (fun cls d σ H => NX σ cls d H) := fun _ _ ⟨_, _, _, _, _, _, _, _, _, _, _, _, _, _, _, _, w⟩ => w.elim
section
variable {X : Cx} {k : Nat} {f C : Addr} {fd : FuncData} {ps : List Str} {sp : Sp} {E : XS} {x m : Str} {p pos apos : Pos} {e o : Expr} {es : List Expr} {ta : TE} {t : TA}
theorem goG {pins : List (Addr × Obj)} {σ : L2.St} {H : Hp} {s : Shared} {Q : VK} {us : List Value} {vs : List V} (F : FnG X.prog X.w X.K X.mg X.base k f fd ps sp) (hr : Room k X.A) (hg : Gq k X.A) (hb : Binds X.K fd ps []) (hx : PassesS X E)
    (I : Inv X pins σ H s) (r : Vals vs us) (h : sp vs H Q (E σ)) : wpAny (model X.prog X.w) X.A (call (.ref f) us) (EP X pins σ Q) X.xe s := by
  have hl : (us ++ []).length = ps.length := by rw [List.append_nil, ← r.length]; exact F.len _ _ _ _ h
  have hb' := hb s us I.kIn hl
  rw [List.append_nil] at hb'
  refine wpAny_call (codeAny_mono (F.go X.A X.stack s H ⟨us, []⟩ us vs Q (E σ) hr hg I.env0 hb' r h) fun r s' hq => ?_)
  cases r with
  | error e => exact hx pins σ H s e s' I hq
  | ok fl => cases fl with
    | ret u => exact I.after hq
    | next => exact hq.elim
    | brk => exact hq.elim
    | cont => exact hq.elim
theorem pe_callG (F : FnG X.prog X.w X.K X.mg X.base k f fd ps sp) (hr : Room k X.A) (hgd : Gq k X.A) (hg : Gl X x) (hm : X.mg x = some (.ref f)) (hk : PySem.W.keepIn X.K (.ref f) = true) (hb : Binds X.K fd ps []) (hx : PassesS X E)
    (ha : PA X (e :: es) t) (hdb : (x == ("__debug__" : Str)) = false := by decide) (he : starEach (e :: es) X.env = (false, eval e X.env) :: starEach es X.env := by rfl) (hpl : (backTo pos (starEach es X.env)).any (·.1) = false := by rfl) :
    PE X (.Call (.Name x p) (e :: es) [] pos) (fun σ H Q => t σ H fun vs H1 => sp vs H1 Q (E σ)) :=
  ⟨fun pins s σ H Q I h => wpAny_Call_Name_kw (ld_glob I hg hm (PySem.W.callWith_K (h₀ := X.base) I.ok.mod.kin hk (thn (ha.run pos pins s σ H _ I h) fun _ _ ⟨_, _, I1, r, q⟩ => ⟨I1.kIn, goG F hr hgd hb hx I1 r q⟩) he hpl) hdb)⟩
end
section
variable {K : Kf} {B F H : Hp} {E : XS}
theorem SubR.upd {F H : Hp} {a : Addr} {o : HO} (h : SubR F H) (n : F a = none) : SubR F (L2.upd H a o) := by
  refine ⟨fun b u r => ?_⟩
  have nb : b ≠ a := fun z => by subst z; rw [n] at r; cases r
  rw [upd_ne nb]; exact h.sub b u r
theorem SubF.upd {F H : Hp} {a : Addr} {o : HO} (h : SubF F H) (n : F a = none) : SubF F (L2.upd H a o) := ⟨h.toSubR.upd n, h.nt⟩
structure Node (K : Kf) (F H : Hp) (u : T) (x : V) (a : Addr) (S : List Addr) : Prop where
  tr : TR K F H u x (a :: S)
  ex : x = .ref a
theorem node_of {u : T} {x : V} {S : List Addr} (h : TR K F H u x S) (n : ∀ d, u ≠ .sh d) : ∃ a S', S = a :: S' ∧ Node K F H u x a S' := by
  cases u with
  | sh d => exact absurd rfl (n d)
  | lst ts => obtain ⟨a, vs, S', e, q, eS, r⟩ := h; subst eS; exact ⟨a, S', rfl, ⟨a, vs, S', e, q, rfl, r⟩, e⟩
  | dct ts => obtain ⟨a, vs, S', e, q, eS, r⟩ := h; subst eS; exact ⟨a, S', rfl, ⟨a, vs, S', e, q, rfl, r⟩, e⟩
  | ins C ts => obtain ⟨a, dx, vs, S', e, q, eS, r⟩ := h; subst eS; exact ⟨a, S', rfl, ⟨a, dx, vs, S', e, q, rfl, r⟩, e⟩
theorem St.node {env : Env} {σ : L2.St} {qs : List Slot} {xs : List (Option V)} {i : Nat} {s : Slot} {t u : T} {x : V} {p : List PEl} (hl : qs.length = xs.length) (h : St K B F H (qs ++ env) (xs ++ σ)) (e : env[i]? = some s) (c : s.own = some t) (g : T.get p t = some u)
    (w : PlOk H σ (.pl i p) x) (n : ∀ d, u ≠ .sh d) : ∃ a S' Sq, Node K F H u x a S' ∧ Fs (SR K F H) qs xs Sq ∧ (Sq ++ a :: S').Nodup ∧ F a = none ∧
    ∀ (o' : HO) (u' t' : T) (S'' Sr : List Addr) (rs : List Slot) (ys : List (Option V)), TR K F (upd H a o') u' x (a :: S'') → Fs (SR K F (upd H a o')) rs ys Sr → (Sr ++ a :: S'').Nodup → (∀ b ∈ Sr ++ S'', b ∈ Sq ++ S') → T.put p t u' = some t' →
      St K B F (upd H a o') (rs ++ env.set i (s.wth t')) (ys ++ σ) := by
  obtain ⟨v, ev, wk⟩ := w
  obtain ⟨y, Su, Sq, q1, q2, q3, q4, q5, go⟩ := St.chg hl h e c ev g
  cases q1.det wk
  obtain ⟨a, S', eS, nd⟩ := node_of q2 n
  subst eS
  refine ⟨a, S', Sq, nd, q3, q4, (q5 a (by simp)).2, fun o' u' t' S'' Sr rs ys tr fr nd' sub hp => ?_⟩
  refine go F (upd H a o') u' t' (a :: S'') Sr rs ys (Same.refl _) (fun b h1 h2 => absurd h1 h2) (h.sf.upd (q5 a (by simp)).2) (fun b hb o ho => ?_) tr fr nd' (fun b hb => ?_) hp
  · rw [upd_ne (fun z => hb (by simp [z]))]; exact ho
  · have hb' : b ∈ Sq ++ (a :: S') := by
      rcases List.mem_append.mp hb with z | z
      · have := sub b (by simp [z])
        rcases List.mem_append.mp this with k | k <;> simp [k]
      · rcases List.mem_cons.mp z with z | z
        · simp [z]
        · have := sub b (by simp [z])
          rcases List.mem_append.mp this with k | k <;> simp [k]
    exact ⟨(q5 b hb').2, .inr hb'⟩
theorem TRs.upd {a : Addr} {o : HO} {ts : List T} {vs : List V} {S : List Addr} (h : TRs K F H ts vs S) (n : a ∉ S) : TRs K F (L2.upd H a o) ts vs S :=
  TRs.mono (SubR.refl _) (fun b hb o' e => by rw [upd_ne (fun z => n (by rw [← z]; exact hb))]; exact e) h
theorem TRk.upd {a : Addr} {o : HO} {ts : List (Key × T)} {vs : List (Key × V)} {S : List Addr} (h : TRk K F H ts vs S) (n : a ∉ S) : TRk K F (L2.upd H a o) ts vs S :=
  TRk.mono (SubR.refl _) (fun b hb o' e => by rw [upd_ne (fun z => n (by rw [← z]; exact hb))]; exact e) h
theorem TR.upd {a : Addr} {o : HO} {t : T} {v : V} {S : List Addr} (h : TR K F H t v S) (n : a ∉ S) : TR K F (L2.upd H a o) t v S :=
  TR.mono (SubR.refl _) (fun b hb o' e => by rw [upd_ne (fun z => n (by rw [← z]; exact hb))]; exact e) h
def frzV (v : Val) (e : Env) : Option (D × Env) :=
  match v with
  | .tv t => some (t.er, e)
  | .pl i p => frzP i p e
def mF (m : ME) : ME := fun e => (m e).bnd fun v e1 => match frzV v e1 with
  | some (d, e2) => .ok (.tv (.sh d), e2)
  | none => .st
theorem St.frzHd {t : T} {x : V} {ss : List Slot} {os : List (Option V)} (h : St K B F H (.va t :: ss) (some x :: os)) : ∃ F', Gr B F F' ∧ St K B F' H (.va (.sh t.er) :: ss) (some x :: os) := by
  obtain ⟨F', g, kd, st⟩ := St.frzP (env := .va t :: ss) (σ := some x :: os) (i := 0) (p := []) (x := x) (d := t.er) (env' := .va (.sh t.er) :: ss) (qs := []) (xs := []) rfl h ⟨x, rfl, rfl⟩ rfl
  exact ⟨F', g, st.drop2.drop.push (by
    obtain ⟨S, ⟨b, l', S1, S2, eb, eS, ⟨w, ew, e1, r⟩, _⟩, _⟩ := st.fp
    cases eb; cases ew; exact r)⟩
theorem ev_f {te : TE} {m : ME} (h : EvT K E te m) : EvT K E te (mF m) := by
  intro B F H σ env Q hs hv hp
  refine h B F H σ env _ hs hv ?_
  unfold mF at hp
  cases e : m env with
  | st => rw [e] at hp; exact hp
  | ex c e1 => rw [e] at hp; exact hp
  | ok a =>
    obtain ⟨v, e1⟩ := a
    rw [e] at hp
    simp only [R.bnd] at hp
    intro x F' H' g kd got
    cases ef : frzV v e1 with
    | none => rw [ef] at hp; exact hp.elim
    | some q =>
      obtain ⟨d, e2⟩ := q
      rw [ef] at hp
      simp only at hp
      cases v with
      | tv t =>
        cases ef
        obtain ⟨F2, g2, st⟩ := got.tv.frzHd
        exact hp x F2 H' (g.trans g2) kd (.of st)
      | pl i p =>
        obtain ⟨y, l, ey, pk, _⟩ := got.pl
        cases ey
        obtain ⟨F2, g2, kd2, st⟩ := St.frzP (qs := []) (xs := []) rfl got.base pk ef
        exact hp x F2 H' (g.trans g2) (kd.trans kd2) (.of st)
def mK (m : ME) : ME := fun e => (m e).bnd fun v e1 => match keep v e1 with
  | some (t, e2) => .ok (.tv t, e2)
  | none => .st
theorem ev_k {te : TE} {m : ME} (h : EvT K E te m) : EvT K E te (mK m) := by
  intro B F H σ env Q hs hv hp
  refine h B F H σ env _ hs hv ?_
  unfold mK at hp
  cases e : m env with
  | st => rw [e] at hp; exact hp
  | ex c e1 => rw [e] at hp; exact hp
  | ok a =>
    obtain ⟨v, e1⟩ := a
    rw [e] at hp
    simp only [R.bnd] at hp
    intro x F' H' g kd got
    cases ef : keep v e1 with
    | none => rw [ef] at hp; exact hp.elim
    | some q =>
      obtain ⟨t, e2⟩ := q
      rw [ef] at hp
      obtain ⟨F2, g2, kd2, st⟩ := got.keep ef
      exact hp x F2 H' (g.trans g2) (kd.trans kd2) (.of st)
def tvs : List Val → Option (List T)
  | [] => some []
  | .tv t :: r => (tvs r).map fun ts => t :: ts
  | _ :: _ => none
theorem tvs_fs : ∀ {vs : List Val} {xs : List V} {ts : List T} {S : List Addr}, vs.length = xs.length → tvs vs = some ts → Fs (SR K F H) (pdS vs) (pdX vs xs) S → TRs K F H ts xs S
  | [], [], _, _, _, e, h => by cases e; exact ⟨rfl, h.2⟩
  | [], _ :: _, _, _, hl, _, _ => by cases hl
  | .tv t :: r, [], _, _, hl, _, _ => by cases hl
  | .tv t :: r, x :: xs, ts, S, hl, e, ⟨b, l', S1, S2, eb, eS, ⟨w, ew, tr⟩, q⟩ => by
    obtain ⟨ts', e1, rfl⟩ := Option.map_eq_some_iff.mp e
    cases eb
    cases ew
    exact ⟨x, xs, S1, S2, rfl, eS, tr, tvs_fs (by simpa using hl) e1 q⟩
  | .pl _ _ :: _, _, _, _, _, e, _ => by cases e
def mLst (ms : MA) : ME := fun e => (ms e).bnd fun vs e1 => match tvs vs with
  | some ts => if ts.length ≤ sizeLine then .ok (.tv (.lst ts), e1) else .st
  | none => .st
theorem ev_lst {t : TA} {ms : MA} (ha : EvA K E t ms) : EvT K E (tLst t) (mLst ms) := by
  intro B F H σ env Q hs hv hp
  refine ha B F H σ env _ hs hv ?_
  unfold mLst at hp
  cases e : ms env with
  | st => rw [e] at hp; exact hp
  | ex c e1 => rw [e] at hp; exact hp
  | ok a =>
    obtain ⟨vs, e1⟩ := a
    rw [e] at hp
    simp only [R.bnd] at hp
    intro xs F' H' g kd got
    cases et : tvs vs with
    | none => rw [et] at hp; exact hp.elim
    | some ts =>
      rw [et] at hp
      simp only at hp
      by_cases hz : ts.length ≤ sizeLine
      case neg => rw [if_neg hz] at hp; exact hp.elim
      rw [if_pos hz] at hp
      obtain ⟨Sq, fq, nd, k, go⟩ := St.made (pd_len got.len) got.st
      have tr := tvs_fs got.len et fq
      refine ⟨by rw [← (TRs_iff.mp tr).length]; exact hz, fun q hq => ?_⟩
      have nq : q ∉ Sq := fun z => by
        obtain ⟨o, ho, _⟩ := fq.has q z
        rw [hq] at ho; cases ho
      have fq0 : F' q = none := got.st.sf.off hq
      refine hp (.ref q) F' _ g kd (.of (go F' (upd H' q (.lst xs)) (q :: Sq) [.va (.lst ts)] [some (.ref q)] (Same.refl _) (fun a h1 h2 => absurd h1 h2) (got.st.sf.upd fq0) (fun a ha o ho => ?_) (Fs.one ⟨_, rfl, q, xs, Sq, rfl, upd_same, rfl, tr.upd nq⟩) (List.nodup_cons.mpr ⟨nq, nd⟩) fun a ha => ?_))
      · rw [upd_ne (ne_of_none ho hq)]; exact ho
      · rcases List.mem_cons.mp ha with z | z
        · subst z; exact ⟨fq0, .inl hq⟩
        · exact ⟨(k a z).2, .inr z⟩
def allSh : List T → Option (List D)
  | [] => some []
  | .sh d :: r => (allSh r).map fun ds => d :: ds
  | _ :: _ => none
theorem allSh_dr : ∀ {ts : List T} {ds : List D} {xs : List V} {G : Hp}, allSh ts = some ds → All2 (VR K G F) ts xs → DRs K F ds xs
  | [], ds, xs, _, e, h => by cases e; exact h
  | .sh d :: r, ds, _, _, e, ⟨x, l, ex, h1, h2⟩ => by
    obtain ⟨ds', e1, rfl⟩ := Option.map_eq_some_iff.mp e
    exact ⟨x, l, ex, h1, allSh_dr e1 h2⟩
  | .lst _ :: _, _, _, _, e, _ => by cases e
  | .dct _ :: _, _, _, _, e, _ => by cases e
  | .ins _ _ :: _, _, _, _, e, _ => by cases e
def mTup (ms : MA) : ME := fun e => (ms e).bnd fun vs e1 => match (tvs vs).bind allSh with
  | some ds => if ds.length ≤ sizeLine then .ok (.tv (.sh (.tup ds)), e1) else .st
  | none => .st
def mNewD : ME := fun e => .ok (.tv (.dct []), e)
def isI (C : Addr) (m : Str) : T → Bool
  | .sh (.ins C' fs) => decide (C' = C) && (lk fs m).isNone
  | .ins C' fs => decide (C' = C) && (lk fs m).isNone
  | _ => false
def mChk (c : T → Bool) (m : ME) : ME := fun e => (m e).bnd fun v e1 => match cn v e1 with
  | some t => if c t = true then .ok (v, e1) else .st
  | none => .st
theorem ev_chk {te : TE} {m : ME} {c : T → Bool} {Pr : V → Hp → Prop} (h : EvT K E te m) (hc : ∀ (t : T) (x : V) (F H : Hp), c t = true → VR K H F t x → SubR F H → Pr x H) : EvT K E (fun σ H Q => te σ H fun x H1 => Pr x H1 ∧ Q x H1) (mChk c m) := by
  intro B F H σ env Q hs hv hp
  refine h B F H σ env _ hs hv ?_
  unfold mChk at hp
  cases e : m env with
  | st => rw [e] at hp; exact hp
  | ex c e1 => rw [e] at hp; exact hp
  | ok a =>
    obtain ⟨v, e1⟩ := a
    rw [e] at hp
    simp only [R.bnd] at hp
    intro x F' H' g kd got
    cases ec : cn v e1 with
    | none => rw [ec] at hp; exact hp.elim
    | some t =>
      rw [ec] at hp
      simp only at hp
      by_cases hh : c t = true
      case neg => rw [if_neg hh] at hp; exact hp.elim
      rw [if_pos hh] at hp
      obtain ⟨y, l, ey, vr, _⟩ := got.vrs (Got.kd (H' := H') hv g kd) (ts := [t]) (by simp [cns, ec])
      cases ey
      exact ⟨hc t x F' H' hh vr got.base.sf, hp x F' H' g kd got⟩
def mMeth (C : Addr) (mn : Str) (n : Nat) (f : MF) (m : ME) (ms : MA) : ME := mCall n f (mCons (mChk (isI C mn) m) ms)
def mMethM (C : Addr) (mn : Str) (n : Nat) (f : MF) (m : ME) (ms : MA) : ME := mCallM n f (mCons (mChk (isI C mn) m) ms)
def attrT (C : Addr) (f : Str) (v : Val) (t : T) : Option Val :=
  match t with
  | .sh (.ins C' fs) => if C' = C then (lk fs f).map fun d => .tv (.sh d) else none
  | .ins C' fs => if C' = C then match lk fs f with
      | some (.sh d) => some (.tv (.sh d))
      | some _ => match v with
        | .pl i p => some (.pl i (p ++ [.fld f]))
        | _ => none
      | none => none
    else none
  | _ => none
def mAttr (C : Addr) (f : Str) (m : ME) : ME := fun e => (m e).bnd fun v e1 => match (cn v e1).bind (attrT C f v) with
  | some w => .ok (w, e1)
  | none => .st
theorem Wk.snoc {p : List PEl} {q : PEl} {v x y : V} (h : Wk H p v x) (k : Wk H [q] x y) : Wk H (p ++ [q]) v y := by
  induction p generalizing v with
  | nil => cases (show x = v from h); exact k
  | cons r p ih =>
    cases r with
    | fld f => obtain ⟨a, C, dx, fs, z, e, q, l, w⟩ := h; exact ⟨a, C, dx, fs, z, e, q, l, ih w⟩
    | key f => obtain ⟨a, fs, z, e, q, l, w⟩ := h; exact ⟨a, fs, z, e, q, l, ih w⟩
    | idx f => obtain ⟨a, fs, z, e, q, l, w⟩ := h; exact ⟨a, fs, z, e, q, l, ih w⟩
def mMake (C : Addr) (n : Nat) (f : MF) (ms : MA) : ME := fun e => (ms e).bnd fun vs e1 => if vs.length + 1 = n then match cns vs e1 with
    | some ts => match f (.mu (.ins C []) :: ts.map argS) with
      | .ret (.sh .non) (some u) => .ok (.tv u, e1)
      | .exc c (some _) => .ex c e1
      | _ => .st
    | none => .st
  else .st
end
structure Fm (P : Program) (w : World) (K : Kf) (mg : Str → Option Value) (base : Heap) (k : Nat) {ι : Type} (X : ι → Cx) (E : XS) : Prop where
  hP : ∀ j, (X j).prog = P
  hw : ∀ j, (X j).w = w
  hb : ∀ j, (X j).base = base
  hk : ∀ j, (X j).K = K
  hm : ∀ j, (X j).mg = mg
  calm : ∀ j, (X j).calm = true
  gd : ∀ j, Gq k (X j).A
  room : ∀ j, Room k (X j).A
  nd : ∀ j, (X j).N.Nodup
  tk : ∀ j, Takes (X j) (fun cls d σ H => E σ cls d H)
  po : ∀ j, PassesOwn (model (X j).prog (X j).w) (X j).A (X j).env (X j).xe
theorem Fm.pa {P : Program} {w : World} {K : Kf} {mg : Str → Option Value} {base : Heap} {k : Nat} {ι : Type} {X : ι → Cx} {E : XS} (fm : Fm P w K mg base k X E) (j : ι) : PassesS (X j) E := .tk (fm.tk j)
def DE (K : Kf) (E : XS) {ι : Type} (X : ι → Cx) (e : Expr) (m : ME) : Prop := ∃ t, (∀ j, PE (X j) e t) ∧ EvT K E t m
def DA (K : Kf) (E : XS) {ι : Type} (X : ι → Cx) (es : List Expr) (m : MA) : Prop := ∃ t, (∀ j, PA (X j) es t) ∧ EvA K E t m
def DB (K : Kf) (E : XS) {ι : Type} (X : ι → Cx) (e : Expr) (m : MB) : Prop := ∃ t, (∀ j, PT (X j) e t) ∧ EvB K E t m
def DW (K : Kf) (E : XS) {ι : Type} (X : ι → Cx) (e : Expr) (m : MB) : Prop := ∃ t, (∀ j, PW (X j) e t) ∧ EvB K E t m
def DQ (K : Kf) (E : XS) {ι : Type} (X : ι → Cx) (es : List Expr) (m : MB) : Prop := ∃ t, (∀ j, PTs (X j) es t) ∧ EvB K E t m
def DS (K : Kf) (E : XS) {ι : Type} (X : ι → Cx) (st : Stmt) (m : MS) : Prop := ∃ t, (∀ j, PS (X j) st t) ∧ DsT K E t m
def DSs (K : Kf) (E : XS) {ι : Type} (X : ι → Cx) (st : List Stmt) (m : MS) : Prop := ∃ t, (∀ j, PSs (X j) st t) ∧ DsT K E t m
def DG (K : Kf) {ι : Type} (X : ι → Cx) (tg : Expr) (m : MG) (vs : List Nat) : Prop := ∃ g, (∀ j, PG (X j) tg g) ∧ EvG K g m vs
def DI (K : Kf) (E : XS) {ι : Type} (X : ι → Cx) (tg it : Expr) (m : MI) : Prop := ∃ wi : (Addr → Prop) → TI, (∀ j, PI (X j) tg it (wi (Pf (X j)))) ∧ EvI K E wi m
def DI0 (K : Kf) (E : XS) {ι : Type} (X : ι → Cx) (tg it : Expr) (m : MI) : Prop := ∃ wi : TI, (∀ j, PI (X j) tg it wi) ∧ EvI0 K E wi m
section
variable {P : Program} {w : World} {base : Heap} {K : Kf} {mg : Str → Option Value} {k : Nat} {ι : Type} {X : ι → Cx} {E : XS} {e a b c o : Expr} {es : List Expr} {pos apos p : Pos} {m n : ME} {ms : MA} {x : Str}
theorem dn (i : Nat) {x : Str} {pos : Pos} (hN : ∀ j, (X j).N[i]? = some x := by intro _; rfl) (hv : ∀ j, Vis (X j).env.scope x := by intro _; first | exact Or.inl rfl | exact Or.inr (Or.inl rfl) | exact Or.inr (Or.inr rfl))
    (hd : (x == ("__debug__" : Str)) = false := by decide +kernel) (hc : (x == ("__classdict__" : Str)) = false := by decide +kernel) : DE K E X (.Name x pos) (mN i) := ⟨_, fun j => pe_var (hN j) (hv j) hd hc, ev_n⟩
theorem di {i : Int} {z} : DE K E X (.Constant (.int i) z pos) (mC (.int i)) := ⟨_, fun _ => pe_int, ev_c rfl⟩
theorem dbl {i : Bool} {z} : DE K E X (.Constant (.bool i) z pos) (mC (.bl i)) := ⟨_, fun _ => pe_bl, ev_c rfl⟩
theorem dst {i : Str} {z} : DE K E X (.Constant (.str i) z pos) (mC (.str i)) := ⟨_, fun _ => pe_str, ev_c rfl⟩
theorem da0 : DA K E X [] mNil := ⟨_, fun _ => pa_nil, ev_nil⟩
theorem da (ha : DE K E X e m) (hr : DA K E X es ms) (hs : ∀ j, starEach (e :: es) (X j).env = (false, eval e (X j).env) :: starEach es (X j).env := by intro _; rfl) : DA K E X (e :: es) (mCons m ms) := by
  obtain ⟨t, h1, h2⟩ := ha
  obtain ⟨u, h3, h4⟩ := hr
  exact ⟨_, fun j => pa_cons (h1 j) (h3 j) (hs j), ev_cons h2 h4⟩
theorem df (h : DE K E X e m) : DE K E X e (mF m) := let ⟨t, h1, h2⟩ := h; ⟨t, h1, ev_f h2⟩
theorem dk (h : DE K E X e m) : DE K E X e (mK m) := let ⟨t, h1, h2⟩ := h; ⟨t, h1, ev_k h2⟩
theorem dlst (h : DA K E X es ms) : DE K E X (.List es pos) (mLst ms) := let ⟨_, h1, h2⟩ := h; ⟨_, fun j => pe_lst (h1 j), ev_lst h2⟩
def r2 (r : R2) : List V → Hp → VK → Prop := fun xs H Q => match xs with
  | [x, y] => r x y H Q
  | _ => False
theorem dbin {op : Operator} {r : R2} {f : List T → Option T} (ho : ∀ j, OpR (X j) (binaryOp op) r) (hf : OpN K (r2 r) f) (ha : DE K E X a m) (hb : DE K E X b n) : DE K E X (.BinOp a op b pos) (mOp f (mCons m (mCons n mNil))) := by
  obtain ⟨t, h1, h2⟩ := ha
  obtain ⟨u, h3, h4⟩ := hb
  exact ⟨_, fun j => pe_op (ho j) (h1 j) (h3 j), ev_op (ev_cons h2 (ev_cons h4 ev_nil)) hf⟩
theorem dcmp {op : CmpOp} {r : R2} {f : List T → Option T} (ho : ∀ j, OpR (X j) (compareOp op) r) (hf : OpN K (r2 r) f) (ha : DE K E X a m) (hb : DE K E X b n) (hm : behindInMarks op b = false := by first | rfl | exact nomark _) :
    DE K E X (.Compare a [op] [b] pos) (mOp f (mCons m (mCons n mNil))) := by
  obtain ⟨t, h1, h2⟩ := ha
  obtain ⟨u, h3, h4⟩ := hb
  exact ⟨_, fun j => pe_cmpR (ho j) (h1 j) (h3 j) hm, ev_op (ev_cons h2 (ev_cons h4 ev_nil)) hf⟩
def asB : T → Option Bool
  | .sh (.bl b) => some b
  | _ => none
theorem ev_asB {te : TE} (h : EvT K E te m) : EvB K E (tTest te) (mTst asB m) := by
  refine ev_tst h (fun x H Q => ∃ k, x = .bl k ∧ Q k H) fun H F u x b Q r sf e q => ?_
  cases u with
  | sh d => cases d <;> first | (cases e; exact ⟨_, r, q⟩) | cases e
  | lst _ => cases e
  | dct _ => cases e
  | ins _ _ => cases e
theorem dbcmp {op : CmpOp} {r : R2} {f : List T → Option T} (ho : ∀ j, OpR (X j) (compareOp op) r) (hf : OpN K (r2 r) f) (ha : DE K E X a m) (hb : DE K E X b n) (hm : behindInMarks op b = false := by first | rfl | exact nomark _) :
    DB K E X (.Compare a [op] [b] pos) (mTst asB (mOp f (mCons m (mCons n mNil)))) := by
  obtain ⟨t, h1, h2⟩ := ha
  obtain ⟨u, h3, h4⟩ := hb
  exact ⟨_, fun j => pt_cmpR (ho j) (h1 j) (h3 j) hm, ev_asB (ev_op (ev_cons h2 (ev_cons h4 ev_nil)) hf)⟩
theorem OpR.or {Y : Cx} {f : Value → Value → Sem Value} {r r' : R2} (h : OpR Y f r) (h' : OpR Y f r') : OpR Y f (fun x y H Q => r x y H Q ∨ r' x y H Q) :=
  fun pins s σ H x y v u Q I rx ry q => q.elim (h pins s σ H x y v u Q I rx ry) (h' pins s σ H x y v u Q I rx ry)
theorem OpN.or {r r' : List V → Hp → VK → Prop} {f f' : List T → Option T} (h : OpN K r f) (h' : OpN K r' f') : OpN K (fun xs H Q => r xs H Q ∨ r' xs H Q) (fun us => (f us).or (f' us)) := by
  intro B F H ss os us xs t' Q st vr e q
  have e : (f us).or (f' us) = some t' := e
  cases e1 : f us with
  | some t => rw [e1] at e; cases e; exact .inl (h B F H ss os us xs _ Q st vr e1 q)
  | none => rw [e1] at e; exact .inr (h' B F H ss os us xs _ Q st vr e q)
theorem OpN.r2or {r r' : R2} {f f' : List T → Option T} (h : OpN K (r2 r) f) (h' : OpN K (r2 r') f') : OpN K (r2 fun x y H Q => r x y H Q ∨ r' x y H Q) (fun us => (f us).or (f' us)) := by
  intro B F H ss os us xs t' Q st vr e q
  have := OpN.or h h' B F H ss os us xs t' Q st vr e q
  match xs, this with
  | [x, y], w => exact w
  | [], w => rcases w with w | w <;> exact w
  | [_], w => rcases w with w | w <;> exact w
  | _ :: _ :: _ :: _, w => rcases w with w | w <;> exact w
theorem dtru (he : DE K E X e m) {f : T → Option Bool} (hf : TruN K f) (fm : Fm P w K mg base k X E) (hw : ∀ j whole, isTrue e (X j).env whole = (do let v ← whole; standAt e.pos; holding [v] (truthy v)) := by intro _ _; rfl) : DB K E X e (mTst f m) := by
  obtain ⟨t, h1, h2⟩ := he
  refine ⟨_, fun j => (by have := pt_truth (h1 j) (hw j); rw [fm.hk j] at this; exact this), ev_tst h2 (fun x H Q => ∃ k, TruV K x H k ∧ Q k H) fun H F u x b Q r sf e q => ⟨b, hf H F u x b r sf e, q⟩⟩
theorem dnot {mb : MB} (h : DB K E X a mb) : DB K E X (.UnaryOp .Not a pos) (mNot mb) := let ⟨_, h1, h2⟩ := h; ⟨_, fun j => pt_not (h1 j), ev_not h2⟩
theorem dw {mb : MB} (h : DW K E X a mb) : DB K E X a mb := let ⟨_, h1, h2⟩ := h; ⟨_, fun j => (h1 j).pt, h2⟩
theorem dand1 {mb : MB} (h : DB K E X a mb) : DW K E X (.BoolOp .And [a] pos) mb := let ⟨_, h1, h2⟩ := h; ⟨_, fun j => pw_and1 (h1 j), h2⟩
theorem dor1 {mb : MB} (h : DB K E X a mb) : DW K E X (.BoolOp .Or [a] pos) mb := let ⟨_, h1, h2⟩ := h; ⟨_, fun j => pw_or1 (h1 j), h2⟩
theorem dand {mb nb : MB} {r : List Expr} (h : DB K E X a mb) (h' : DW K E X (.BoolOp .And (b :: r) pos) nb) : DW K E X (.BoolOp .And (a :: b :: r) pos) (mAnd mb nb) := by
  obtain ⟨_, h1, h2⟩ := h
  obtain ⟨_, h3, h4⟩ := h'
  exact ⟨_, fun j => pw_and (h1 j) (h3 j), ev_and h2 h4⟩
theorem dor {mb nb : MB} {r : List Expr} (h : DB K E X a mb) (h' : DW K E X (.BoolOp .Or (b :: r) pos) nb) : DW K E X (.BoolOp .Or (a :: b :: r) pos) (mOr mb nb) := by
  obtain ⟨_, h1, h2⟩ := h
  obtain ⟨_, h3, h4⟩ := h'
  exact ⟨_, fun j => pw_or (h1 j) (h3 j), ev_or h2 h4⟩
def mAndV (m n : ME) : ME := fun e => (m e).bnd fun v e1 => match v with
  | .tv (.sh (.bl true)) => n e1
  | .tv (.sh (.bl false)) => .ok (.tv (.sh (.bl false)), e1)
  | _ => .st
def mOrV (m n : ME) : ME := fun e => (m e).bnd fun v e1 => match v with
  | .tv (.sh (.bl false)) => n e1
  | .tv (.sh (.bl true)) => .ok (.tv (.sh (.bl true)), e1)
  | _ => .st
theorem done {op} (h : DE K E X a m) : DE K E X (.BoolOp op [a] pos) m := let ⟨_, h1, h2⟩ := h; ⟨_, fun j => pe_one (h1 j), h2⟩
theorem dcb (fm : Fm P w K mg base k X E) {id : String} {r : List V → Hp → VK → Prop} {f : List T → Option T} (hc : ∀ j, CallR (X j) (.builtin id) r) (ho : OpN K r f) (hm : mg x = none) (hb : bootBuiltins x = some (.builtin id)) (ha : DA K E X (e :: es) ms)
    (hg : ∀ j, Gl (X j) x := by intro _; rfl) (hn : x ≠ "__name__" := by decide +kernel) (hd : (x == ("__debug__" : Str)) = false := by decide +kernel) (he : ∀ j, starEach (e :: es) (X j).env = (false, eval e (X j).env) :: starEach es (X j).env := by intro _; rfl)
    (hp : ∀ j, (backTo pos (starEach es (X j).env)).any (·.1) = false := by intro _; rfl) : DE K E X (.Call (.Name x p) (e :: es) [] pos) (mOp f ms) := by
  obtain ⟨t, h1, h2⟩ := ha
  exact ⟨_, fun j => pe_callB (hc j) (hg j) (by rw [fm.hm j]; exact hm) hb (h1 j) hn hd (he j) (hp j), ev_op h2 ho⟩
theorem dct (fm : Fm P w K mg base k X E) {id : String} {r : List V → Hp → VK → Prop} {f : List T → Option T} (hc : ∀ j, CallR (X j) (.type id) r) (ho : OpN K r f) (hm : mg x = none) (hb : bootBuiltins x = some (.type id)) (ha : DA K E X (e :: es) ms)
    (hg : ∀ j, Gl (X j) x := by intro _; rfl) (hn : x ≠ "__name__" := by decide +kernel) (hd : (x == ("__debug__" : Str)) = false := by decide +kernel) (he : ∀ j, starEach (e :: es) (X j).env = (false, eval e (X j).env) :: starEach es (X j).env := by intro _; rfl)
    (hp : ∀ j, (backTo pos (starEach es (X j).env)).any (·.1) = false := by intro _; rfl) : DE K E X (.Call (.Name x p) (e :: es) [] pos) (mOp f ms) := by
  obtain ⟨t, h1, h2⟩ := ha
  exact ⟨_, fun j => pe_callTy (hc j) (hg j) (by rw [fm.hm j]; exact hm) hb (h1 j) hn hd (he j) (hp j), ev_op h2 ho⟩
structure Df (P : Program) (w : World) (K : Kf) (mg : Str → Option Value) (base : Heap) (k : Nat) (n : Nat) (f : MF) (g : Addr) : Prop where
  kp : PySem.W.keepIn K (.ref g) = true
  ok : ∃ fd ps, FnG P w K mg base k g fd ps (spD K n f) ∧ Binds K fd ps []
theorem dcall (fm : Fm P w K mg base k X E) {k' n : Nat} {f : MF} {g : Addr} (d : Df P w K mg base k' n f g) (hm : mg x = some (.ref g)) (hk : k' ≤ k) (ha : DA K E X (e :: es) ms)
    (hg : ∀ j, Gl (X j) x := by intro _; rfl) (hd : (x == ("__debug__" : Str)) = false := by decide +kernel) (he : ∀ j, starEach (e :: es) (X j).env = (false, eval e (X j).env) :: starEach es (X j).env := by intro _; rfl)
    (hp : ∀ j, (backTo pos (starEach es (X j).env)).any (·.1) = false := by intro _; rfl) : DE K E X (.Call (.Name x p) (e :: es) [] pos) (mCall n f ms) := by
  obtain ⟨t, h1, h2⟩ := ha
  refine ⟨_, fun j => ?_, ev_callF h2⟩
  obtain ⟨fd, ps, F, B⟩ := d.ok
  have F' : FnG (X j).prog (X j).w (X j).K (X j).mg (X j).base k' g fd ps (spD K n f) := by rw [fm.hP j, fm.hw j, fm.hb j, fm.hk j, fm.hm j]; exact F
  exact pe_callG F' ((fm.room j).mono hk) ((fm.gd j).mono hk) (hg j) (by rw [fm.hm j]; exact hm) (by rw [fm.hk j]; exact d.kp) (by rw [fm.hk j]; exact B) (fm.pa j) (h1 j) hd (he j) (hp j)
theorem dcallM (fm : Fm P w K mg base k X E) {k' n : Nat} {f : MF} {g : Addr} (d : Df P w K mg base k' n f g) (hm : mg x = some (.ref g)) (hk : k' ≤ k) (ha : DA K E X (e :: es) ms)
    (hg : ∀ j, Gl (X j) x := by intro _; rfl) (hd : (x == ("__debug__" : Str)) = false := by decide +kernel) (he : ∀ j, starEach (e :: es) (X j).env = (false, eval e (X j).env) :: starEach es (X j).env := by intro _; rfl)
    (hp : ∀ j, (backTo pos (starEach es (X j).env)).any (·.1) = false := by intro _; rfl) : DE K E X (.Call (.Name x p) (e :: es) [] pos) (mCallM n f ms) := by
  obtain ⟨t, h1, h2⟩ := ha
  refine ⟨_, fun j => ?_, ev_callM h2⟩
  obtain ⟨fd, ps, F, B⟩ := d.ok
  have F' : FnG (X j).prog (X j).w (X j).K (X j).mg (X j).base k' g fd ps (spD K n f) := by rw [fm.hP j, fm.hw j, fm.hb j, fm.hk j, fm.hm j]; exact F
  exact pe_callG F' ((fm.room j).mono hk) ((fm.gd j).mono hk) (hg j) (by rw [fm.hm j]; exact hm) (by rw [fm.hk j]; exact d.kp) (by rw [fm.hk j]; exact B) (fm.pa j) (h1 j) hd (he j) (hp j)
end
section
variable {P : Program} {w : World} {base : Heap} {K : Kf} {mg : Str → Option Value} {k : Nat} {ι : Type} {X : ι → Cx} {E : XS} {e a b c o : Expr} {es : List Expr} {pos apos p : Pos} {m n : ME} {ms : MA} {x : Str} {st : Stmt} {sts : List Stmt} {u v : MS}
theorem ss0 : DSs K E X [] mSkip := ⟨_, fun _ => pss_nil, ds_skip⟩
theorem ss1 (h : DS K E X st u) : DSs K E X [st] u := let ⟨_, h1, h2⟩ := h; ⟨_, fun j => pss_one (h1 j), h2⟩
theorem ssc (h : DS K E X st u) (h' : DSs K E X sts v) : DSs K E X (st :: sts) (mSeq u v) := by
  obtain ⟨_, h1, h2⟩ := h
  obtain ⟨_, h3, h4⟩ := h'
  exact ⟨_, fun j => pss_cons (h1 j) (h3 j), ds_seq h2 h4⟩
theorem sret (h : DE K E X e m) : DS K E X (.Return (some e) pos) (mRet m) := let ⟨_, h1, h2⟩ := h; ⟨_, fun j => ps_ret (h1 j), ds_ret h2⟩
theorem sexp (h : DE K E X e m) (hs : ∀ j, swapsWith e none pos.line (X j).env = pure false := by intro _; rfl) : DS K E X (.Expr e pos) (mDrop m) := let ⟨_, h1, h2⟩ := h; ⟨_, fun j => ps_expr (h1 j) (hs j), ds_drop h2⟩
theorem sif {mb : MB} {us vs : List Stmt} (h : DB K E X c mb) (ha : DSs K E X us u) (hb : DSs K E X vs v) : DS K E X (.If c us vs pos) (mIfS mb u v) := by
  obtain ⟨_, h1, h2⟩ := h
  obtain ⟨_, h3, h4⟩ := ha
  obtain ⟨_, h5, h6⟩ := hb
  exact ⟨_, fun j => ps_if (h1 j) (h3 j) (h5 j), ds_if h2 h4 h6⟩
def mAsg (m : ME) (g : MG) : MS := mE m fun v e => match keep v e with
  | some (t, e1) => match g t e1 with
    | .ok e2 => .ok (.nx e2)
    | _ => .st
  | none => .st
theorem ds_asg {te : TE} {g : TG} {m : ME} {gm : MG} {vs : List Nat} (h : EvT K E te m) (hg : EvG K g gm vs) : DsT K E (tAsg te g) (mAsg m gm) :=
  ds_e (body := fun D x σ H1 => g x σ H1 D.nx) h fun B F H σ env D v x got hv hp => by
    cases e : keep v env with
    | none => rw [e] at hp; exact hp.elim
    | some q =>
      obtain ⟨t, e1⟩ := q
      rw [e] at hp
      simp only at hp
      obtain ⟨F', g', kd, st⟩ := got.keep e
      refine hg B F' H σ e1 t x _ st (Got.kd (H' := H) hv g' kd) ?_
      cases e2 : gm t e1 with
      | st => rw [e2] at hp; exact hp.elim
      | ex c e => rw [e2] at hp; exact hp.elim
      | ok e2' =>
        rw [e2] at hp
        exact fun σ' F2 H2 g2 kp _ _ st2 => hp σ' F2 H2 (g'.trans g2) ((Kp.of kd).trans kp) st2
theorem sset (fm : Fm P w K mg base k X E) (i : Nat) {x : Str} {p' : Pos} (h : DE K E X e m) (hi : ∀ j, (X j).N[i]? = some x := by intro _; rfl) (hx : ∀ j, Loc (X j).env.scope x := by intro _; first | exact Or.inl rfl | exact Or.inr rfl)
    (hs : ∀ j, swapsWith e (some (.Name x p')) pos.line (X j).env = pure false := by intro _; rfl) (hf : ∀ j, (X j).fn x = true ∨ (X j).env.scope.names.lookup x = some .local := by intro _; first | exact .inl rfl | exact .inr rfl) :
    DS K E X (.Assign [.Name x p'] e pos) (mAsg m (gN i)) := by
  obtain ⟨_, h1, h2⟩ := h
  exact ⟨_, fun j => ps_set (fm.nd j) (hi j) (hx j) (h1 j) (hs j) (hf j), ds_asg h2 ev_gN⟩
theorem dgN (fm : Fm P w K mg base k X E) (i : Nat) {x : Str} (hi : ∀ j, (X j).N[i]? = some x := by intro _; rfl) (hx : ∀ j, Loc (X j).env.scope x := by intro _; first | exact Or.inl rfl | exact Or.inr rfl)
    (hf : ∀ j, (X j).fn x = true ∨ (X j).env.scope.names.lookup x = some .local := by intro _; first | exact .inl rfl | exact .inr rfl) : DG K X (.Name x pos) (gN i) [i] := ⟨_, fun j => pg_name (fm.nd j) (hi j) (hx j) (hf j), ev_gN⟩
theorem sforL {tg it : Expr} {gm : MG} {mi : MI} {vs : List Nat} {body : List Stmt} (fm : Fm P w K mg base k X E) (hi : DI K E X tg it mi) (hg : DG K X tg gm vs) (hb : DSs K NX X body u) (hs : ∀ j x, foldedSetIterable it (X j).env x = pure x := by intro _ _; rfl) :
    DS K E X (.For tg it body [] pos) (mForL mi gm u) := by
  obtain ⟨_, h1, h2⟩ := hi
  obtain ⟨_, h3, h4⟩ := hg
  obtain ⟨_, h5, h6⟩ := hb
  refine ⟨_, fun j => ⟨fun pins s σ H D I hw => ?_⟩, ds_forL h2 h4 h6⟩
  exact (ps_unl (ps_for (fm.po j) (fm.calm j) (h1 j) (h3 j) (h5 j) (hs j))).run pins s σ H D I (hw (Pf (X j)))
abbrev Blk (ι : Type) : Type := ι × Shared × Hp × Addr × List (Str × Addr) × List Addr
abbrev blkX (X : ι → Cx) (scope : Scope) : Blk ι → Cx := fun q => (X q.1).blk q.2.1 q.2.2.1 scope (compEnvC scope q.2.2.2.2.1 q.2.2.2.1 (X q.1).env) q.2.2.2.2.2
theorem Fm.blk {scope : Scope} (fm : Fm P w K mg base k X E) : Fm P w K mg base k (blkX X scope) NX where
  hP := fun q => fm.hP q.1
  hw := fun q => fm.hw q.1
  hb := fun q => fm.hb q.1
  hk := fun q => fm.hk q.1
  hm := fun q => fm.hm q.1
  calm := fun q => fm.calm q.1
  gd := fun q => fm.gd q.1
  room := fun q => fm.room q.1
  nd := fun q => fm.nd q.1
  tk := fun _ => takesN
  po := fun _ => PassesOwn.never
theorem dq0 : DQ K E X [] (fun e => .ok (true, e)) := ⟨_, fun _ => pts_nil, fun B F H σ env Q hs hv hp => hp F H (Gr.refl _ _) (Kd.refl _) hs⟩
theorem dlc (fm : Fm P w K mg base k X E) {elt tg it : Expr} {ifs : List Expr} {scope : Scope} {own : List (Str × Nat)} {mi : MI} {gm : MG} {vg : List Nat} {mt : MB} (hi : DI K E X tg it mi) (ok : ∀ j, BlkOk (X j).N (X j).env.scope scope own)
    (hg : DG K (blkX X scope) tg gm vg) (hvs : ∀ v ∈ vg, v ∈ own.map (·.2)) (ht : DQ K NX (blkX X scope) ifs mt) (he : DE K NX (blkX X scope) elt m) (hs : ∀ j x, foldedSetIterable it (X j).env x = pure x := by intro _ _; rfl) :
    DE K E X (.ListComp elt [⟨tg, it, ifs, 0⟩] scope pos) (mLc (own.map (·.2)) mi gm mt m) := by
  obtain ⟨_, h1, h2⟩ := hi
  obtain ⟨_, h3, h4⟩ := hg
  obtain ⟨_, h5, h6⟩ := ht
  obtain ⟨_, h7, h8⟩ := he
  refine ⟨_, fun j => ⟨fun pins s σ H Q I hw => ?_⟩, ev_lc h2 h4 hvs h6 h8⟩
  exact (pe_unl (pe_lc (fm.calm j) (fm.nd j) (h1 j) (ok j) (fun s H C cl fp => h3 (j, s, H, C, cl, fp)) (fun s H C cl fp => h5 (j, s, H, C, cl, fp)) (fun s H C cl fp => h7 (j, s, H, C, cl, fp)) (hs j))).run pins s σ H Q I (hw (Pf (X j)))
end
section
variable {K : Kf} {B F H : Hp} {E : XS}
theorem Fs.pk {κ : Type} [DecidableEq κ] {k : κ} {t : T} {y : V} {S1 : List Addr} (h1 : TR K F H t y S1) : ∀ {ks : List (κ × T)} {kvs : List (κ × V)} {S : List Addr}, Fs (TRp K F H) ks kvs S →
    ∃ S', Fs (TRp K F H) (DL.pk ks k t) (DL.pk kvs k y) S' ∧ (∀ b ∈ S', b ∈ S ++ S1) ∧ ((S ++ S1).Nodup → S'.Nodup)
  | [], kvs, S, h => by
    obtain ⟨e1, e2⟩ := h
    subst e1; subst e2
    exact ⟨S1, Fs.one ⟨rfl, h1⟩, fun b hb => by simpa using hb, fun h => by simpa using h⟩
  | p :: r, kvs, S, ⟨q, l', Sp, S2, e, eS, ⟨r1, r2⟩, h⟩ => by
    subst e; subst eS
    by_cases c : p.1 = k
    · refine ⟨S1 ++ S2, ?_, fun b hb => ?_, fun nd => ?_⟩
      · have e1 : DL.pk (p :: r) k t = (k, t) :: r := by simp [DL.pk, c]
        have e2 : DL.pk (q :: l') k y = (k, y) :: l' := by simp [DL.pk, r1, c]
        rw [e1, e2]
        exact ⟨_, l', S1, S2, rfl, rfl, ⟨rfl, h1⟩, h⟩
      · rcases List.mem_append.mp hb with z | z <;> simp [z]
      · have n1 := List.nodup_append.mp nd
        have n2 := List.nodup_append.mp n1.1
        exact List.nodup_append.mpr ⟨n1.2.1, n2.2.1, fun a ha b hb z => n1.2.2 b (by simp [hb]) a ha z.symm⟩
    · obtain ⟨S', f, sub, nd'⟩ := Fs.pk h1 h
      refine ⟨Sp ++ S', ?_, fun b hb => ?_, fun nd => ?_⟩
      · have e1 : DL.pk (p :: r) k t = p :: DL.pk r k t := by simp [DL.pk, c]
        have e2 : DL.pk (q :: l') k y = q :: DL.pk l' k y := by simp [DL.pk, r1, c]
        rw [e1, e2]
        exact ⟨q, _, Sp, S', rfl, rfl, ⟨r1, r2⟩, f⟩
      · rcases List.mem_append.mp hb with z | z
        · simp [z]
        · rcases List.mem_append.mp (sub b z) with w | w <;> simp [w]
      · have n1 := List.nodup_append.mp nd
        have n2 := List.nodup_append.mp n1.1
        refine List.nodup_append.mpr ⟨n2.1, nd' (List.nodup_append.mpr ⟨n2.2.1, n1.2.1, fun a ha b hb z => n1.2.2 a (by simp [ha]) b hb z⟩), fun a ha b hb z => ?_⟩
        rcases List.mem_append.mp (sub b hb) with w | w
        · exact n2.2.2 a ha b w z
        · exact n1.2.2 a (by simp [ha]) b w z
end
def OpD (K : Kf) (r : List V → Hp → VK → Prop) (f : List D → Option D) : Prop :=
  ∀ (H : Hp) (us : List D) (xs : List V) (d : D) (Q : VK), All2 (DR K H) us xs → f us = some d → (∀ y, Flat d y → Q y H) → r xs H Q
def liftD (f : List D → Option D) (us : List T) : Option T := (f (us.map T.er)).map T.sh
section
variable {K : Kf}
theorem all2_er {H F : Hp} (sf : SubR F H) : ∀ {us : List T} {xs : List V}, All2 (VR K H F) us xs → All2 (DR K H) (us.map T.er) xs
  | [], _, h => h
  | _ :: _, _, ⟨x, l, e, h, r⟩ => ⟨x, l, e, h.dr sf, all2_er sf r⟩
theorem OpD.n {r : List V → Hp → VK → Prop} {f : List D → Option D} (h : OpD K r f) : OpN K r (liftD f) := by
  intro B F H ss os us xs t' Q st vr e q
  obtain ⟨d, e1, rfl⟩ := Option.map_eq_some_iff.mp e
  exact h H _ xs d Q (all2_er st.sf vr) e1 fun y fl => q y H (Same.refl H) (st.push fl.dr)
theorem CallR.or {Y : Cx} {f : Value} {r r' : List V → Hp → VK → Prop} (h : CallR Y f r) (h' : CallR Y f r') : CallR Y f (fun xs H Q => r xs H Q ∨ r' xs H Q) :=
  fun pins s σ H xs us Q I rs q => q.elim (h pins s σ H xs us Q I rs) (h' pins s σ H xs us Q I rs)
def f2i (c : Int → Int → Bool) (g : Int → Int → D) : List D → Option D
  | [.int i, .int j] => if c i j = true then some (g i j) else none
  | _ => none
theorem od_rI {C : Int → Int → Prop} {c : Int → Int → Bool} {g : Int → Int → V} {g' : Int → Int → D} (hc : ∀ i j, c i j = true → C i j) (hg : ∀ i j, Flat (g' i j) (g i j)) (hu : ∀ i j y, Flat (g' i j) y → y = g i j) : OpD K (r2 (rI C g)) (f2i c g') := by
  intro H us xs d Q vr e q
  unfold f2i at e
  split at e
  · obtain ⟨x, _, rfl, hx, y, _, rfl, hy, rfl⟩ := vr
    split at e
    · rename_i hh
      cases e
      exact ⟨_, _, hx, hy, hc _ _ hh, q _ (hg _ _)⟩
    · cases e
  · cases e
theorem od_rI0 {g : Int → Int → V} {g' : Int → Int → D} (hg : ∀ i j, Flat (g' i j) (g i j)) : OpD K (r2 (rI0 g)) (f2i (fun _ _ => true) g') := by
  intro H us xs d Q vr e q
  unfold f2i at e
  split at e
  · obtain ⟨x, _, rfl, hx, y, _, rfl, hy, rfl⟩ := vr
    rw [if_pos rfl] at e
    cases e
    exact ⟨_, _, hx, hy, q _ (hg _ _)⟩
  · cases e
def oAdd := f2i (fun _ _ => true) fun i j => .int (i + j)
def oMul := f2i (fun i j => decide (i.natAbs.log2 + j.natAbs.log2 < 1000000)) fun i j => .int (i * j)
def oMod := f2i (fun _ j => decide (0 < j)) fun i j => .int (i % j)
def oDiv := f2i (fun _ j => decide (0 < j ∧ j.natAbs.log2 < 9000)) fun i j => .int (i / j)
def oPow := f2i (fun i j => decide (0 ≤ j ∧ j ≤ 1000000 ∧ i.natAbs < 2 ^ 64)) fun i j => .int (i ^ j.toNat)
def oLt := f2i (fun _ _ => true) fun i j => .bl (decide (i < j))
def oGe := f2i (fun _ _ => true) fun i j => .bl (decide (j ≤ i))
theorem od_add : OpD K (r2 (rI0 fun i j => .int (i + j))) oAdd := od_rI0 fun _ _ => rfl
theorem od_mul : OpD K (r2 (rI CMulW fun i j => .int (i * j))) oMul := od_rI (fun i j h => show i.natAbs.log2 + j.natAbs.log2 < 1000000 from of_decide_eq_true h) (fun _ _ => rfl) fun _ _ _ h => h
theorem od_mod : OpD K (r2 (rI (fun _ j => 0 < j) fun i j => .int (i % j))) oMod := od_rI (fun _ _ h => of_decide_eq_true h) (fun _ _ => rfl) fun _ _ _ h => h
theorem od_div : OpD K (r2 (rI CDivW fun i j => .int (i / j))) oDiv := od_rI (fun i j h => show 0 < j ∧ j.natAbs.log2 < 9000 from of_decide_eq_true h) (fun _ _ => rfl) fun _ _ _ h => h
theorem od_pow : OpD K (r2 (rI CPow fun i j => .int (i ^ j.toNat))) oPow := od_rI (fun i j h => show 0 ≤ j ∧ j ≤ 1000000 ∧ i.natAbs < 2 ^ 64 from of_decide_eq_true h) (fun _ _ => rfl) fun _ _ _ h => h
theorem od_lt : OpD K (r2 (rI0 fun i j => .bl (decide (i < j)))) oLt := od_rI0 fun _ _ => rfl
theorem od_ge : OpD K (r2 (rI0 fun i j => .bl (decide (j ≤ i)))) oGe := od_rI0 fun _ _ => rfl
def oCatS : List D → Option D
  | [.str i, .str j] => if i.length + j.length ≤ sizeLine then some (.str (i ++ j)) else none
  | _ => none
theorem od_catS : OpD K (r2 fun x y H Q => ∃ i j, x = .str i ∧ y = .str j ∧ i.length + j.length ≤ sizeLine ∧ Q (.str (i ++ j)) H) oCatS := by
  intro H us xs d Q vr e q
  unfold oCatS at e
  split at e
  · obtain ⟨x, _, rfl, hx, y, _, rfl, hy, rfl⟩ := vr
    split at e
    · cases e
      exact ⟨_, _, hx, hy, by assumption, q _ rfl⟩
    · cases e
  · cases e
def f2s (g : Str → Str → Bool) : List D → Option D
  | [.str i, .str j] => some (.bl (g i j))
  | _ => none
theorem od_2s {g : Str → Str → Bool} : OpD K (r2 fun x y H Q => ∃ i j, x = .str i ∧ y = .str j ∧ Q (.bl (g i j)) H) (f2s g) := by
  intro H us xs d Q vr e q
  unfold f2s at e
  split at e
  · obtain ⟨x, _, rfl, hx, y, _, rfl, hy, rfl⟩ := vr
    cases e
    exact ⟨_, _, hx, hy, q _ rfl⟩
  · cases e
def eqS : D → D → Option Bool
  | .non, .non => some true | .non, .int _ => some false | .int _, .non => some false | .non, .bl _ => some false | .bl _, .non => some false | .non, .str _ => some false | .str _, .non => some false
  | .int i, .int j => some (decide (i = j)) | .bl i, .bl j => some (decide (i = j)) | .str i, .str j => some (decide (i = j))
  | .int _, .str _ => some false | .str _, .int _ => some false | .bl _, .str _ => some false | .str _, .bl _ => some false
  | _, _ => none
theorem eqS_ok {H : Hp} {a b : D} {x y : V} {c : Bool} (h : eqS a b = some c) (hx : DR K H a x) (hy : DR K H b y) : scal x y = true ∧ decide (x = y) = c := by
  cases a <;> cases b <;> simp [eqS] at h <;> cases (show x = _ from hx) <;> cases (show y = _ from hy) <;> subst h <;> simp [scal]
def oEqS : List D → Option D
  | [a, b] => (eqS a b).map .bl
  | _ => none
def oNeS : List D → Option D
  | [a, b] => (eqS a b).map fun c => .bl (!c)
  | _ => none
theorem od_eqS : OpD K (r2 rEq) oEqS := by
  intro H us xs d Q vr e q
  unfold oEqS at e
  split at e
  · obtain ⟨x, _, rfl, hx, y, _, rfl, hy, rfl⟩ := vr
    obtain ⟨c, h1, rfl⟩ := Option.map_eq_some_iff.mp e
    obtain ⟨h2, h3⟩ := eqS_ok h1 hx hy
    exact ⟨h2, q _ (by rw [h3]; rfl)⟩
  · cases e
theorem od_neS : OpD K (r2 rNe) oNeS := by
  intro H us xs d Q vr e q
  unfold oNeS at e
  split at e
  · obtain ⟨x, _, rfl, hx, y, _, rfl, hy, rfl⟩ := vr
    obtain ⟨c, h1, rfl⟩ := Option.map_eq_some_iff.mp e
    obtain ⟨h2, h3⟩ := eqS_ok h1 hx hy
    exact ⟨h2, q _ (by rw [h3]; rfl)⟩
  · cases e
mutual
def D.py : D → Option PyData
  | .non => some .none
  | .bl b => some (.bool b)
  | .int i => some (.int i)
  | .str x => some (.str x)
  | .lst ds => (D.pys ds).map .list
  | .tup ds => (D.pys ds).map .tuple
  | _ => none
def D.pys : List D → Option (List PyData)
  | [] => some []
  | d :: r => match d.py, D.pys r with
    | some p, some ps => some (p :: ps)
    | _, _ => none
end
mutual
theorem D.py_ok {H : Hp} : ∀ {d : D} {p : PyData} {v : V}, d.py = some p → DR K H d v → Dp K H v p
  | .non, p, v, e, r => by cases e; cases (show v = _ from r); exact .non
  | .bl _, p, v, e, r => by cases e; cases (show v = _ from r); exact .bl _
  | .int _, p, v, e, r => by cases e; cases (show v = _ from r); exact .int _
  | .str _, p, v, e, r => by cases e; cases (show v = _ from r); exact .str _
  | .lst ds, p, v, e, ⟨a, vs, ev, q, r⟩ => by
    obtain ⟨ps, e1, rfl⟩ := Option.map_eq_some_iff.mp e
    rw [ev]
    exact .lst (.inl (.inl q)) (D.pys_ok e1 r)
  | .tup ds, p, v, e, ⟨a, vs, ev, q, r⟩ => by
    obtain ⟨ps, e1, rfl⟩ := Option.map_eq_some_iff.mp e
    rw [ev]
    exact .tup (.inl (.inl q)) (D.pys_ok e1 r)
  | .dct _, p, v, e, _ => by cases e
  | .ins _ _, p, v, e, _ => by cases e
  | .scr _, p, v, e, _ => by cases e
  | .exn _ _ _, p, v, e, _ => by cases e
theorem D.pys_ok {H : Hp} : ∀ {ds : List D} {ps : List PyData} {vs : List V}, D.pys ds = some ps → DRs K H ds vs → DpAll K H vs ps
  | [], ps, vs, e, r => by cases e; cases (show vs = [] from r); exact .nil
  | d :: ds, ps, vs, e, ⟨v, vs', ev, h, r⟩ => by
    subst ev
    unfold D.pys at e
    split at e
    · rename_i p1 ps1 e1 e2
      cases e
      exact .cons (D.py_ok e1 h) (D.pys_ok e2 r)
    · cases e
end
def eqDp (d e : D) : Option Bool := match d.py, e.py with
  | some a, some b => if SeqAt.shaped a = true ∧ SeqAt.shaped b = true then some (PyData.eqv a b) else none
  | _, _ => none
def oEqD : List D → Option D
  | [a, b] => (eqDp a b).map .bl
  | _ => none
def oNeD : List D → Option D
  | [a, b] => (eqDp a b).map fun c => .bl (!c)
  | _ => none
theorem eqDp_ok {H : Hp} {a b : D} {x y : V} {c : Bool} (h : eqDp a b = some c) (hx : DR K H a x) (hy : DR K H b y) : ∃ d e, Dp K H x d ∧ Dp K H y e ∧ SeqAt.shaped d = true ∧ SeqAt.shaped e = true ∧ PyData.eqv d e = c := by
  unfold eqDp at h
  split at h
  · rename_i p q e1 e2
    split at h
    · rename_i hh
      cases h
      exact ⟨p, q, D.py_ok e1 hx, D.py_ok e2 hy, hh.1, hh.2, rfl⟩
    · cases h
  · cases h
theorem od_eqD : OpD K (r2 (rEqD K)) oEqD := by
  intro H us xs d Q vr e q
  unfold oEqD at e
  split at e
  · obtain ⟨x, _, rfl, hx, y, _, rfl, hy, rfl⟩ := vr
    obtain ⟨c, h1, rfl⟩ := Option.map_eq_some_iff.mp e
    obtain ⟨p, r, a1, a2, a3, a4, a5⟩ := eqDp_ok h1 hx hy
    exact ⟨p, r, a1, a2, a3, a4, q _ (by rw [a5]; rfl)⟩
  · cases e
theorem od_neD : OpD K (r2 (rNeD K)) oNeD := by
  intro H us xs d Q vr e q
  unfold oNeD at e
  split at e
  · obtain ⟨x, _, rfl, hx, y, _, rfl, hy, rfl⟩ := vr
    obtain ⟨c, h1, rfl⟩ := Option.map_eq_some_iff.mp e
    obtain ⟨p, r, a1, a2, a3, a4, a5⟩ := eqDp_ok h1 hx hy
    exact ⟨p, r, a1, a2, a3, a4, q _ (by rw [a5]; rfl)⟩
  · cases e
def isNon : D → Bool
  | .non => true
  | _ => false
def keyD : D → Option Key
  | .int i => some (.inl i)
  | .str s => some (.inr s)
  | _ => none
theorem keyD_ok {H : Hp} {d : D} {k : Key} {x : V} (e : keyD d = some k) (h : DR K H d x) : x = kV k := by
  cases d <;> cases e <;> exact h
def flD : D → Bool
  | .non => true | .bl _ => true | .int _ => true | .str _ => true
  | _ => false
def eqF : D → D → Bool
  | .non, .non => true
  | .bl a, .bl b => a == b
  | .bl a, .int b => (if a then 1 else 0) == b
  | .int a, .bl b => a == (if b then 1 else 0)
  | .int a, .int b => a == b
  | .str a, .str b => a == b
  | _, _ => false
theorem eqF_ok {H : Hp} {d e : D} {x y : V} (f : flD d = true) (g : flD e = true) (h : DR K H d x) (k : DR K H e y) : eqV x y = eqF d e := by
  cases d <;> cases f <;> cases e <;> cases g <;> cases (show x = _ from h) <;> cases (show y = _ from k) <;> rfl
def items : D → Option (List D)
  | .lst ds => some ds
  | .tup ds => some ds
  | _ => none
end
section
variable {K : Kf} {B F H : Hp} {ss : List Slot} {os : List (Option V)}
theorem St.newN {q : Addr} {o : HO} {t : T} (h : St K B F H ss os) (hq : H q = none) (tr : TR K F (upd H q o) t (.ref q) [q]) : St K B F (upd H q o) (.va t :: ss) (some (.ref q) :: os) := by
  have sm : Same H (upd H q o) := fun b u e => by rw [upd_ne (ne_of_none e hq)]; exact e
  have fq : F q = none := h.sf.off hq
  obtain ⟨S, f, nd, k⟩ := h.fp
  have nq : q ∉ S := fun z => by
    obtain ⟨y, hy, _⟩ := f.has q z
    rw [hq] at hy; cases hy
  have bq : B q = none := by
    exact h.sb.ne q hq
  refine ⟨h.sb.trans sm, h.sf.upd fq, q :: S, ⟨_, _, [q], S, rfl, rfl, ⟨_, rfl, tr⟩, f.imp fun c d Sc hS z => z.mono (SubR.refl _) fun a ha o e => sm a o e⟩, List.nodup_cons.mpr ⟨nq, nd⟩, fun a ha => ?_⟩
  rcases List.mem_cons.mp ha with z | z
  · rw [z]; exact ⟨bq, fq⟩
  · exact k a z
theorem TRs.shs {G : Hp} : ∀ {ds : List D} {xs : List V}, DRs K F ds xs → TRs K F G (ds.map T.sh) xs []
  | [], _, h => ⟨h, rfl⟩
  | _ :: _, _, ⟨v, vs, e, h, r⟩ => ⟨v, vs, [], [], e, rfl, ⟨rfl, h⟩, TRs.shs r⟩
theorem St.newL {q : Addr} {ds : List D} {xs : List V} (h : St K B F H ss os) (hq : H q = none) (r : DRs K F ds xs) : St K B F (upd H q (.lst xs)) (.va (.lst (ds.map .sh)) :: ss) (some (.ref q) :: os) :=
  h.newN hq ⟨q, xs, [], rfl, upd_same, rfl, TRs.shs r⟩
theorem Same.upd {q : Addr} {o : HO} (hq : H q = none) : Same H (upd H q o) := fun b u e => by rw [upd_ne (ne_of_none e hq)]; exact e
def kids : T → Option (List D)
  | .sh d => items d
  | .lst ts => allSh ts
  | _ => none
theorem kids_ok {t : T} {ds : List D} {x : V} (sf : SubR F H) (e : kids t = some ds) (h : VR K H F t x) : ∃ p vs, x = .ref p ∧ (SqL K H p vs ∨ SqT K H p vs) ∧ DRs K F ds vs := by
  cases t with
  | sh d =>
    have h : DR K F d x := h
    cases d <;> cases e
    · obtain ⟨a, vs, ex, q, r⟩ := h
      exact ⟨a, vs, ex, .inl (.inl (.inl (sf.ls q))), r⟩
    · obtain ⟨a, vs, ex, q, r⟩ := h
      exact ⟨a, vs, ex, .inr (.inl (.inl (sf.tp q))), r⟩
  | lst ts =>
    obtain ⟨a, vs, ex, q, r⟩ := h
    exact ⟨a, vs, ex, .inl (.inl (.inl q)), allSh_dr e (VRs_iff.mp r)⟩
  | dct _ => cases e
  | ins _ _ => cases e
def kidsL : T → Option (List D)
  | .sh (.lst ds) => some ds
  | .lst ts => allSh ts
  | _ => none
theorem kidsL_ok {t : T} {ds : List D} {x : V} (sf : SubR F H) (e : kidsL t = some ds) (h : VR K H F t x) : ∃ p vs, x = .ref p ∧ H p = some (.lst vs) ∧ DRs K F ds vs := by
  cases t with
  | sh d =>
    have h : DR K F d x := h
    cases d <;> cases e
    obtain ⟨a, vs, ex, q, r⟩ := h
    exact ⟨a, vs, ex, sf.ls q, r⟩
  | lst ts =>
    obtain ⟨a, vs, ex, q, r⟩ := h
    exact ⟨a, vs, ex, q, allSh_dr e (VRs_iff.mp r)⟩
  | dct _ => cases e
  | ins _ _ => cases e
def allShK : List (Key × T) → Option (List (Key × D))
  | [] => some []
  | (k, .sh d) :: r => (allShK r).map fun ds => (k, d) :: ds
  | _ :: _ => none
def kidsD : T → Option (List (Key × D))
  | .sh (.dct kds) => some kds
  | .dct kts => allShK kts
  | _ => none
def keysT : T → Option (List Key)
  | .sh (.dct kds) => some (kds.map (·.1))
  | .dct kts => some (kts.map (·.1))
  | _ => none
theorem keysT_ok {t : T} {ks : List Key} {x : V} (sf : SubR F H) (e : keysT t = some ks) (h : VR K H F t x) : ∃ p vs, x = .ref p ∧ Rd H p (.dK vs) ∧ vs.map (·.1) = ks := by
  cases t with
  | sh d =>
    have h : DR K F d x := h
    cases d <;> cases e
    obtain ⟨a, vs, ex, q, r⟩ := h
    exact ⟨a, vs, ex, sf.rd _ _ q, All2.keys (DRk_iff.mp r)⟩
  | lst _ => cases e
  | dct kts =>
    cases e
    obtain ⟨a, vs, ex, q, r⟩ := h
    exact ⟨a, vs, ex, q, All2.keys (VRk_iff.mp r)⟩
  | ins _ _ => cases e
def kD : Key → D
  | .inl i => .int i
  | .inr s => .str s
theorem kD_ok {k : Key} : DR K F (kD k) (kV k) := by cases k <;> rfl
theorem kDs_ok : ∀ ks : List Key, DRs K F (ks.map kD) (ks.map kV)
  | [] => rfl
  | k :: ks => ⟨_, _, rfl, kD_ok, kDs_ok ks⟩
end
section
variable {K : Kf}
def oListOf : List T → Option T
  | [t] => (kids t).map fun ds => .lst (ds.map .sh)
  | _ => none
theorem on_listOf : OpN K (fun xs H Q => ∃ p ys, xs = [.ref p] ∧ (SqL K H p ys ∨ SqT K H p ys) ∧ ∀ l, H l = none → Q (.ref l) (upd H l (.lst ys))) oListOf := by
  intro B F H ss os us xs t' Q st vr e q
  match us, e with
  | [t], e =>
    obtain ⟨ds, e1, rfl⟩ := Option.map_eq_some_iff.mp e
    obtain ⟨x, _, rfl, h, rfl⟩ := vr
    obtain ⟨p, vs, rfl, sq, r⟩ := kids_ok st.sf e1 h
    exact ⟨p, vs, rfl, sq, fun l hl => q _ _ (Same.upd hl) (st.newL hl r)⟩
def oListD : List T → Option T
  | [t] => (keysT t).map fun ks => .lst ((ks.map kD).map .sh)
  | _ => none
theorem on_listD : OpN K (fun xs H Q => ∃ (a : Addr) (kvs : List (Key × V)), xs = [.ref a] ∧ Rd H a (.dK kvs) ∧ ∀ p, H p = none → Q (.ref p) (upd H p (.lst (kvs.map fun kv => kV kv.1)))) oListD := by
  intro B F H ss os us xs t' Q st vr e q
  match us, e with
  | [t], e =>
    obtain ⟨ks, e1, rfl⟩ := Option.map_eq_some_iff.mp e
    obtain ⟨x, _, rfl, h, rfl⟩ := vr
    obtain ⟨p, vs, rfl, sq, r⟩ := keysT_ok st.sf e1 h
    refine ⟨p, vs, rfl, sq, fun l hl => q _ _ (Same.upd hl) (st.newL hl ?_)⟩
    rw [← r]
    have := kDs_ok (K := K) (F := F) (vs.map (·.1))
    rw [List.map_map (g := kV)] at this
    exact this
def oCatL : List T → Option T
  | [s, t] => match kidsL s, kidsL t with
    | some a, some b => if a.length + b.length ≤ sizeLine then some (.lst ((a ++ b).map .sh)) else none
    | _, _ => none
  | _ => none
theorem on_catL : OpN K (r2 rCat) oCatL := by
  intro B F H ss os us xs t' Q st vr e q
  match us, e with
  | [s, t], e =>
    cases e1 : kidsL s with
    | none => simp [oCatL, e1] at e
    | some a =>
      cases e2 : kidsL t with
      | none => simp [oCatL, e1, e2] at e
      | some b =>
        by_cases hz : a.length + b.length ≤ sizeLine
        case neg => simp [oCatL, e1, e2, hz] at e
        have e : T.lst ((a ++ b).map .sh) = t' := by simpa [oCatL, e1, e2, hz] using e
        subst e
        obtain ⟨x, _, rfl, h, y, _, rfl, h', rfl⟩ := vr
        obtain ⟨p, vs, rfl, sq, r⟩ := kidsL_ok st.sf e1 h
        obtain ⟨p', vs', rfl, sq', r'⟩ := kidsL_ok st.sf e2 h'
        refine ⟨p, p', vs, vs', rfl, rfl, sq, sq', ?_, fun l hl => q _ _ (Same.upd hl) (st.newL hl (DRs_iff.mpr ((DRs_iff.mp r).append (DRs_iff.mp r'))))⟩
        rw [← (DRs_iff.mp r).length, ← (DRs_iff.mp r').length]
        exact hz
end
section
variable {K : Kf}
def cut {α : Type} (xs : List α) (lo hi : Option Int) : List α := (xs.drop (HT.sIx xs.length 0 lo)).take (HT.sIx xs.length xs.length hi - HT.sIx xs.length 0 lo)
theorem DRs.cut {F : Hp} {ds : List D} {vs : List V} {lo hi : Option Int} (h : DRs K F ds vs) : DRs K F (cut ds lo hi) (cutV vs lo hi) := by
  have h := DRs_iff.mp h
  refine DRs_iff.mpr ?_
  unfold DL.cut L2.cutV
  rw [h.length]
  exact (h.drop _).take _
def slT (t : T) (lo hi : Option Int) : Option T := match kidsL t with
  | some ds => some (.lst ((cut ds lo hi).map .sh))
  | none => match t with
    | .sh (.str z) => if z.length ≤ sizeLine then some (.sh (.str (cutS z lo hi))) else none
    | .sh (.scr ns) => some (.lst ((cut (ns.map D.int) lo hi).map .sh))
    | _ => none
theorem ints_dr {F : Hp} : ∀ l : List Int, DRs K F (l.map D.int) (l.map V.int)
  | [] => rfl
  | _ :: l => ⟨_, _, rfl, rfl, ints_dr l⟩
def rSlLS (K : Kf) : V → Option Int → Option Int → Hp → VK → Prop := fun x lo hi H Q => rSlL K x lo hi H Q ∨ rSlS x lo hi H Q
theorem slT_ok {B F H : Hp} {ss : List Slot} {os : List (Option V)} {t t' : T} {x : V} {lo hi : Option Int} {Q : VK} (st : St K B F H ss os) (vr : VR K H F t x) (e : slT t lo hi = some t') (q : ∀ y H', Same H H' → St K B F H' (.va t' :: ss) (some y :: os) → Q y H') : rSlLS K x lo hi H Q := by
  unfold slT at e
  cases e1 : kidsL t with
  | some ds =>
    rw [e1] at e
    cases e
    obtain ⟨p, vs, rfl, sq, r⟩ := kidsL_ok st.sf e1 vr
    exact .inl ⟨p, vs, rfl, .inl (.inl sq), fun l hl => q _ _ (Same.upd hl) (st.newL hl r.cut)⟩
  | none =>
    rw [e1] at e
    simp only at e
    split at e
    · rename_i z
      by_cases hz : z.length ≤ sizeLine
      case neg => rw [if_neg hz] at e; cases e
      rw [if_pos hz] at e
      cases e
      exact .inr ⟨z, vr, hz, q _ _ (Same.refl _) (st.push rfl)⟩
    · rename_i ns
      cases e
      obtain ⟨p, rfl, sq⟩ := (show DR K F (.scr ns) x from vr)
      exact .inl ⟨p, _, rfl, st.sf.sq sq, fun l hl => q _ _ (Same.upd hl) (st.newL hl (ints_dr ns).cut)⟩
    · cases e
def rSh (K : Kf) : List V → Hp → VK → Prop := fun xs H Q => match xs with
  | [x, y] => ∃ i, y = .int i ∧ rSlLS K x none (some i) H Q
  | _ => False
def oSl : List T → Option T
  | [t, .sh (.int i)] => slT t (some i) none
  | _ => none
def oSh : List T → Option T
  | [t, .sh (.int i)] => slT t none (some i)
  | _ => none
def oSlh : List T → Option T
  | [t, .sh (.int i), .sh (.int j)] => slT t (some i) (some j)
  | _ => none
theorem on_sh : OpN K (rSh K) oSh := by
  intro B F H ss os us xs t' Q st vr e q
  unfold oSh at e
  split at e
  · obtain ⟨x, _, rfl, h, y, _, rfl, h', rfl⟩ := vr
    exact ⟨_, h', slT_ok st h e q⟩
  · cases e
def lenD : D → Option Nat
  | .str z => if z.length ≤ sizeLine then some z.length else none
  | .lst ds => some ds.length
  | .tup ds => some ds.length
  | _ => none
def oLen : List D → Option D
  | [d] => (lenD d).map fun n => .int (n : Nat)
  | _ => none
theorem od_len : OpD K (fun xs H Q => ∃ x n, xs = [x] ∧ LenV K x H n ∧ Q (.int n) H) oLen := by
  intro H us xs d Q vr e q
  match us, e with
  | [t], e =>
    obtain ⟨n, e1, rfl⟩ := Option.map_eq_some_iff.mp e
    obtain ⟨x, _, rfl, h, rfl⟩ := vr
    refine ⟨x, n, rfl, ?_, q _ rfl⟩
    cases t with
    | str z =>
      by_cases hz : z.length ≤ sizeLine
      case neg => simp [lenD, hz] at e1
      simp [lenD, hz] at e1
      cases (show x = _ from h)
      exact ⟨hz, e1.symm⟩
    | lst ds =>
      obtain ⟨a, vs, rfl, hq, r⟩ := h
      cases e1
      exact .inl ⟨vs, .inl (.inl hq), (DRs_iff.mp r).length⟩
    | tup ds =>
      obtain ⟨a, vs, rfl, hq, r⟩ := h
      cases e1
      exact .inr ⟨vs, .inl (.inl hq), (DRs_iff.mp r).length⟩
    | _ => cases e1
def oLenD : List D → Option D
  | [.dct kds] => some (.int (kds.length : Nat))
  | _ => none
def rLenDk : List V → Hp → VK → Prop := fun xs H Q => ∃ a kvs, xs = [V.ref a] ∧ Rd H a (.dK kvs) ∧ Q (.int kvs.length) H
theorem call_lenDk {X : Cx} : CallR X (.builtin "len") rLenDk := by
  intro pins s σ H xs us Q I r q
  obtain ⟨a, kvs, ex, hd, q⟩ := q
  subst ex
  obtain ⟨u, eu, rx⟩ := vals1 r
  subst eu
  cases rx
  exact d_len I hd fun t s' I' => ⟨.int kvs.length, H, I', ⟨t, rfl⟩, q⟩
theorem od_lenD : OpD K rLenDk oLenD := by
  intro H us xs d Q vr e q
  unfold oLenD at e
  split at e
  · cases e
    obtain ⟨x, _, rfl, h, rfl⟩ := vr
    obtain ⟨a, vs, rfl, hq, r⟩ := h
    exact ⟨a, vs, rfl, hq, q _ (by rw [(DRk_iff.mp r).length]; rfl)⟩
  · cases e
end
section
variable {K : Kf} {B F H : Hp} {env : Env} {σ : L2.St} {E : XS}
def subV (v : Val) (q : PEl) : T → Option Val
  | .sh d => some (.tv (.sh d))
  | _ => match v with
    | .pl i p => some (.pl i (p ++ [q]))
    | _ => none
theorem sub_ok {v w : Val} {q : PEl} {u : T} {x z : V} (st : St K B F H env σ) (pl : PlOk H σ v x) (vr : VR K H F u z) (wk : Wk H [q] x z) (e : subV v q u = some w) : Got K B F H env σ [w] [z] := by
  have big : (∃ i p, v = .pl i p ∧ w = .pl i (p ++ [q])) → Got K B F H env σ [w] [z] := fun ⟨i, p, e1, e2⟩ => by
    subst e1; subst e2
    obtain ⟨v0, ev, wk0⟩ := pl
    exact ⟨rfl, st, z, [], rfl, ⟨v0, ev, wk0.snoc wk⟩, rfl⟩
  cases u with
  | sh d => cases e; exact .of (st.push vr)
  | lst _ => cases v <;> cases e; exact big ⟨_, _, rfl, rfl⟩
  | dct _ => cases v <;> cases e; exact big ⟨_, _, rfl, rfl⟩
  | ins _ _ => cases v <;> cases e; exact big ⟨_, _, rfl, rfl⟩
def ixT (v : Val) (t : T) (i : D) : Option Val :=
  match t, i with
  | .sh (.lst ds), .int i => (atI ds i).map fun d => .tv (.sh d)
  | .sh (.tup ds), .int i => (atI ds i).map fun d => .tv (.sh d)
  | .sh (.str z), .int i => if z.length ≤ sizeLine then (atI z.cps.toList i).map fun c => .tv (.sh (.str ⟨#[c]⟩)) else none
  | .sh (.dct kds), i => (keyD i).bind fun k => (lk kds k).map fun d => .tv (.sh d)
  | .lst ts, .int i => (ixN ts.length i).bind fun n => (ts[n]?).bind (subV v (.idx n))
  | .dct kts, i => (keyD i).bind fun k => (lk kts k).bind (subV v (.key k))
  | _, _ => none
def rIxD : R2 := fun x y H Q => ∃ a v, x = .ref a ∧ DGet H a y (some v) ∧ Q v H
theorem ix_dict {X : Cx} (hu : X.A.units + 1 < cLine) : IxR X rIxD := by
  intro value slice pins s σ H x y v u Q I rx ry ⟨a, z, ex, g, q⟩ hs
  subst ex
  obtain rfl : v = Value.ref a := rx
  have hT : s.TypeIs (.ref a) "dict" := dict_typeIs I g
  unfold subscriptTail
  refine wpAny_bind ?_
  rw [getitemInPython_of_ne hT.not_modules]
  refine wpAny_bind (wpAny_specialOf hT PySem.F.slot_dict_getitem.lookup ?_)
  have fin : wpAny (model X.prog X.w) X.A (subscripted slice false (.ref a) u) (fun r s₃ => wpAny (model X.prog X.w) X.A (letTemporaryGo value (.ref a) r >>= fun _ => pure r) (EP X pins σ Q) X.xe s₃) X.xe s := by
    rw [hs]
    exact wpAny_operating (wpAny_mono (d_getItem hu I g ry fun w' s3 I3 rw' => (⟨z, H, I3, rw', q⟩ : EP X pins σ Q w' s3)) (fun r s₃ h₃ => wpAny_bind (wpAny_letTemporaryGo (wpAny_pure h₃))) fun _ _ x => x)
  first
    | exact wpAny_pure (wpAny_bind fin)
    | exact wpAny_bind (wpAny_pure (wpAny_bind fin))
    | exact wpAny_bind fin
def rIxA (K : Kf) : R2 := fun x y H Q => rIxL K x y H Q ∨ rIxT K x y H Q ∨ rIxS x y H Q ∨ rIxD x y H Q
theorem ix_all {X : Cx} (hu : X.A.units + 1 < cLine) : IxR X (rIxA X.K) := ix_list.or (ix_tup.or (ix_str.or (ix_dict hu)))
theorem atI_all2 {α β : Type} {R : α → β → Prop} {as : List α} {bs : List β} {i : Int} {a : α} (h : All2 R as bs) (e : atI as i = some a) : ∃ b, atI bs i = some b ∧ R a b := by
  unfold atI at e ⊢
  obtain ⟨n, h1, h2⟩ := Option.bind_eq_some_iff.mp e
  obtain ⟨b, h3, h4⟩ := h.get h2
  exact ⟨b, by rw [← h.length, h1]; exact h3, h4⟩
def mIx (m n : ME) : ME := fun e => (mCons m (mCons n mNil) e).bnd fun vs e1 => match vs with
  | [v, w] => match cn v e1, cn w e1 with
    | some t, some (.sh i) => match ixT v t i with
      | some r => .ok (r, e1)
      | none => .st
    | _, _ => .st
  | _ => .st
theorem ix_val {v w : Val} {t : T} {i : D} {x y : V} {Q : VK} (st : St K B F H env σ) (pl : PlOk H σ v x) (vx : VR K H F t x) (vy : VR K H F (.sh i) y) (e : ixT v t i = some w) (q : ∀ z, Got K B F H env σ [w] [z] → Q z H) : rIxA K x y H Q := by
  unfold ixT at e
  split at e
  · obtain ⟨d, e1, rfl⟩ := Option.map_eq_some_iff.mp e
    obtain ⟨a, vs, rfl, hq, r⟩ := (show DR K F _ x from vx)
    obtain ⟨z, e2, rz⟩ := atI_all2 (DRs_iff.mp r) e1
    exact .inl ⟨a, vs, _, z, rfl, vy, .inl (.inl (st.sf.ls hq)), e2, q z (.of (st.push rz))⟩
  · obtain ⟨d, e1, rfl⟩ := Option.map_eq_some_iff.mp e
    obtain ⟨a, vs, rfl, hq, r⟩ := (show DR K F _ x from vx)
    obtain ⟨z, e2, rz⟩ := atI_all2 (DRs_iff.mp r) e1
    exact .inr (.inl ⟨a, vs, _, z, rfl, vy, .inl (.inl (st.sf.tp hq)), e2, q z (.of (st.push rz))⟩)
  · rename_i z i
    by_cases hz : z.length ≤ sizeLine
    case neg => rw [if_neg hz] at e; cases e
    rw [if_pos hz] at e
    obtain ⟨c, e1, rfl⟩ := Option.map_eq_some_iff.mp e
    exact .inr (.inr (.inl ⟨z, i, c, vx, vy, hz, e1, q _ (.of (st.push rfl))⟩))
  · obtain ⟨k, e0, e⟩ := Option.bind_eq_some_iff.mp e
    obtain ⟨d, e1, rfl⟩ := Option.map_eq_some_iff.mp e
    obtain ⟨a, kvs, rfl, hq, r⟩ := (show DR K F _ x from vx)
    rcases All2.lk k (DRk_iff.mp r) with ⟨z, _⟩ | ⟨t, z, h1, h2, h3⟩
    · rw [z] at e1; cases e1
    · rw [h1] at e1; cases e1
      exact .inr (.inr (.inr ⟨a, z, rfl, .inl ⟨kvs, k, st.sf.rd _ _ hq, keyD_ok e0 (show DR K F _ y from vy), by rw [valV_lk, h2]⟩, q z (.of (st.push h3))⟩))
  · obtain ⟨n, e0, e⟩ := Option.bind_eq_some_iff.mp e
    obtain ⟨u, e1, e⟩ := Option.bind_eq_some_iff.mp e
    obtain ⟨a, vs, rfl, hq, r⟩ := vx
    have r := VRs_iff.mp r
    obtain ⟨z, e2, rz⟩ := r.get e1
    refine .inl ⟨a, vs, _, z, rfl, vy, .inl (.inl hq), ?_, q z (sub_ok st pl rz (show Wk H [.idx n] (.ref a) z from ⟨a, vs, z, rfl, .inl hq, e2, rfl⟩) e)⟩
    unfold atI
    rw [← r.length, e0]
    exact e2
  · obtain ⟨k, e0, e⟩ := Option.bind_eq_some_iff.mp e
    obtain ⟨u, e1, e⟩ := Option.bind_eq_some_iff.mp e
    obtain ⟨a, kvs, rfl, hq, r⟩ := vx
    rcases All2.lk k (VRk_iff.mp r) with ⟨z, _⟩ | ⟨t, z, h1, h2, h3⟩
    · rw [z] at e1; cases e1
    · rw [h1] at e1; cases e1
      exact .inr (.inr (.inr ⟨a, z, rfl, .inl ⟨kvs, k, hq, keyD_ok e0 (show DR K F _ y from vy), by rw [valV_lk, h2]⟩, q z (sub_ok st pl h3 (show Wk H [.key k] (.ref a) z from ⟨a, kvs, z, rfl, hq, h2, rfl⟩) e)⟩))
  · cases e
theorem ev_ix {ta tb : TE} {m n : ME} (ha : EvT K E ta m) (hb : EvT K E tb n) : EvT K E (tOp (rIxA K) ta tb) (mIx m n) := by
  intro B F H σ env Q hs hv hp
  have hp : PostV K B F env σ E Q (mIx m n env) := hp
  refine (show (tCons ta (tCons tb tNil)) σ H (fun vs H1 => r2 (rIxA K) vs H1 Q) from ev_cons ha (ev_cons hb ev_nil) B F H σ env _ hs hv ?_)
  unfold mIx at hp
  cases e : mCons m (mCons n mNil) env with
  | st => rw [e] at hp; exact hp
  | ex c e1 => rw [e] at hp; exact hp
  | ok a =>
    obtain ⟨vs, e1⟩ := a
    rw [e] at hp
    simp only [R.bnd] at hp
    intro xs F' H' g kd got
    match vs, hp, got with
    | [v, w], hp, got =>
      simp only at hp
      cases e2 : cn v e1 with
      | none => rw [e2] at hp; exact hp.elim
      | some t =>
        cases e3 : cn w e1 with
        | none => rw [e2, e3] at hp; exact hp.elim
        | some u =>
          cases u with
          | sh i =>
            rw [e2, e3] at hp
            simp only at hp
            cases e4 : ixT v t i with
            | none => rw [e4] at hp; exact hp.elim
            | some r =>
              rw [e4] at hp
              simp only at hp
              obtain ⟨x, _, ex, vx, y, _, ey, vy, e0⟩ := got.vrs (Got.kd (H' := H') hv g kd) (ts := [t, .sh i]) (by simp [cns, e2, e3])
              subst ey
              subst e0
              subst ex
              obtain ⟨x', _, ex, pl, _⟩ := got.pl
              cases ex
              exact ix_val got.base pl vx vy e4 fun z gz => hp z F' H' g kd gz
          | lst _ => rw [e2, e3] at hp; exact hp.elim
          | dct _ => rw [e2, e3] at hp; exact hp.elim
          | ins _ _ => rw [e2, e3] at hp; exact hp.elim
end
section
variable {K : Kf}
def xAdd (us : List T) : Option T := (liftD oAdd us).or ((liftD oCatS us).or (oCatL us))
def xMul := liftD oMul
def xMod := liftD oMod
def xDiv := liftD oDiv
def xPow := liftD oPow
def xEq (us : List T) : Option T := (liftD oEqS us).or (liftD oEqD us)
def xNe (us : List T) : Option T := (liftD oNeS us).or (liftD oNeD us)
def sLt := f2s fun i j => decide (i.cps.toList < j.cps.toList)
def sGe := f2s fun i j => !decide (i.cps.toList < j.cps.toList)
def xLt (us : List T) : Option T := (liftD oLt us).or (liftD sLt us)
def xGe (us : List T) : Option T := (liftD oGe us).or (liftD sGe us)
def xLen (us : List T) : Option T := (liftD oLen us).or (liftD oLenD us)
def xList (us : List T) : Option T := (oListOf us).or (oListD us)
end
section
variable {P : Program} {w : World} {base : Heap} {K : Kf} {mg : Str → Option Value} {k : Nat} {ι : Type} {X : ι → Cx} {E : XS} {e a b c o : Expr} {es : List Expr} {pos apos p : Pos} {m n : ME} {ms : MA} {x : Str}
theorem Fm.un (fm : Fm P w K mg base k X E) (j : ι) : (X j).A.units + 64 < cLine := (fm.room j).units
theorem Fm.un1 (fm : Fm P w K mg base k X E) (j : ι) : (X j).A.units + 1 < cLine := by have := fm.un j; omega
structure Bi (K : Kf) (X : ι → Cx) (F : Value → Value → Sem Value) (f : List T → Option T) : Prop where
  ex : ∃ r : R2, (∀ j, OpR (X j) F r) ∧ OpN K (r2 r) f
theorem Bi.or {F : Value → Value → Sem Value} {f g : List T → Option T} (h : Bi K X F f) (h' : Bi K X F g) : Bi K X F (fun us => (f us).or (g us)) := by
  obtain ⟨⟨r, h1, h2⟩⟩ := h
  obtain ⟨⟨r', h3, h4⟩⟩ := h'
  exact ⟨⟨_, fun j => OpR.or (h1 j) (h3 j), OpN.r2or h2 h4⟩⟩
theorem Bi.of {F : Value → Value → Sem Value} {f : List T → Option T} {r : R2} (h1 : ∀ j, OpR (X j) F r) (h2 : OpN K (r2 r) f) : Bi K X F f := ⟨⟨r, h1, h2⟩⟩
theorem bAdd : Bi K X (binaryOp .Add) xAdd := (Bi.of (fun _ => op_add) od_add.n).or ((Bi.of (fun _ => op_add_str) od_catS.n).or (Bi.of (fun _ => op_cat) on_catL))
theorem bMul : Bi K X (binaryOp .Mult) xMul := Bi.of (fun _ => op_mulW) od_mul.n
theorem bMod : Bi K X (binaryOp .Mod) xMod := Bi.of (fun _ => op_mod) od_mod.n
theorem bDiv : Bi K X (binaryOp .FloorDiv) xDiv := Bi.of (fun _ => op_fdivW) od_div.n
theorem bPow : Bi K X (binaryOp .Pow) xPow := Bi.of (fun _ => op_pow) od_pow.n
theorem bLt : Bi K X (compareOp .Lt) xLt := (Bi.of (fun _ => op_lt) od_lt.n).or (Bi.of (fun _ => op_lt_str) od_2s.n)
theorem bGe : Bi K X (compareOp .GtE) xGe := (Bi.of (fun _ => op_ge) od_ge.n).or (Bi.of (fun _ => op_ge_str) od_2s.n)
theorem bEq (fm : Fm P w K mg base k X E) : Bi K X (compareOp .Eq) xEq := (Bi.of (fun _ => op_eq) od_eqS.n).or (Bi.of (fun j => (by have := op_eqD (X := X j) (fm.un j); rw [fm.hk j] at this; exact this)) od_eqD.n)
theorem bNe (fm : Fm P w K mg base k X E) : Bi K X (compareOp .NotEq) xNe := (Bi.of (fun _ => op_ne) od_neS.n).or (Bi.of (fun j => (by have := op_neD (X := X j) (fm.un j); rw [fm.hk j] at this; exact this)) od_neD.n)
theorem eBin {op : Operator} {f : List T → Option T} (h : Bi K X (binaryOp op) f) (ha : DE K E X a m) (hb : DE K E X b n) : DE K E X (.BinOp a op b pos) (mOp f (mCons m (mCons n mNil))) := let ⟨_, h1, h2⟩ := h.ex; dbin h1 h2 ha hb
theorem eCmp {op : CmpOp} {f : List T → Option T} (h : Bi K X (compareOp op) f) (ha : DE K E X a m) (hb : DE K E X b n) (hm : behindInMarks op b = false := by first | rfl | exact nomark _) : DE K E X (.Compare a [op] [b] pos) (mOp f (mCons m (mCons n mNil))) := let ⟨_, h1, h2⟩ := h.ex; dcmp h1 h2 ha hb hm
theorem tCmp' {op : CmpOp} {f : List T → Option T} (h : Bi K X (compareOp op) f) (ha : DE K E X a m) (hb : DE K E X b n) (hm : behindInMarks op b = false := by first | rfl | exact nomark _) : DB K E X (.Compare a [op] [b] pos) (mTst asB (mOp f (mCons m (mCons n mNil)))) := let ⟨_, h1, h2⟩ := h.ex; dbcmp h1 h2 ha hb hm
theorem eIx (fm : Fm P w K mg base k X E) (ha : DE K E X a m) (hb : DE K E X b n) (hs : PlainIx b := by intro _ _; rfl) : DE K E X (.Subscript a b pos) (mIx m n) := by
  obtain ⟨ta, h1, h2⟩ := ha
  obtain ⟨tb, h3, h4⟩ := hb
  exact ⟨_, fun j => (by have := pe_ix (pos := pos) (ix_all (fm.un1 j)) (h1 j) (h3 j) hs; rw [fm.hk j] at this; exact this), ev_ix h2 h4⟩
theorem sl_all {Y : Cx} : SlR Y (rSlLS Y.K) := SlR.or sl_list sl_str
theorem eSh (fm : Fm P w K mg base k X E) {p2 : Pos} (ha : DE K E X a m) (hb : DE K E X b n) : DE K E X (.Subscript a (.Slice none (some b) none p2) pos) (mOp oSh (mCons m (mCons n mNil))) := by
  obtain ⟨ta, h1, h2⟩ := ha
  obtain ⟨tb, h3, h4⟩ := hb
  exact ⟨fun σ H Q => (tCons ta (tCons tb tNil)) σ H fun vs H1 => rSh K vs H1 Q, fun j => (by have := pe_slice (pos := pos) (p2 := p2) (sl_all (Y := X j)) (h1 j) po_none (po_some (h3 j)); rw [fm.hk j] at this; exact this), ev_op (ev_cons h2 (ev_cons h4 ev_nil)) on_sh⟩
def isIntT : T → Bool
  | .sh (.int _) => true
  | _ => false
structure Ca (K : Kf) (X : ι → Cx) (F : Value) (f : List T → Option T) : Prop where
  ex : ∃ r : List V → Hp → VK → Prop, (∀ j, CallR (X j) F r) ∧ OpN K r f
theorem Ca.of {F : Value} {f : List T → Option T} {r : List V → Hp → VK → Prop} (h1 : ∀ j, CallR (X j) F r) (h2 : OpN K r f) : Ca K X F f := ⟨⟨r, h1, h2⟩⟩
theorem Ca.or {F : Value} {f g : List T → Option T} (h : Ca K X F f) (h' : Ca K X F g) : Ca K X F (fun us => (f us).or (g us)) := by
  obtain ⟨⟨r, h1, h2⟩⟩ := h
  obtain ⟨⟨r', h3, h4⟩⟩ := h'
  exact ⟨⟨_, fun j => CallR.or (h1 j) (h3 j), OpN.or h2 h4⟩⟩
theorem cLen (fm : Fm P w K mg base k X E) : Ca K X (.builtin "len") xLen := (Ca.of (fun j => (by have := call_len (X := X j); rw [fm.hk j] at this; exact this)) od_len.n).or (Ca.of (fun _ => call_lenDk) od_lenD.n)
theorem cList (fm : Fm P w K mg base k X E) : Ca K X (.type "list") xList := (Ca.of (fun j => (by have := call_list_of (X := X j); rw [fm.hk j] at this; exact this)) on_listOf).or (Ca.of (fun j => call_listD (fm.calm j)) on_listD)
theorem eCb (fm : Fm P w K mg base k X E) {id : String} {f : List T → Option T} (h : Ca K X (.builtin id) f) (hm : mg x = none) (hb : bootBuiltins x = some (.builtin id)) (ha : DA K E X (e :: es) ms)
    (hg : ∀ j, Gl (X j) x := by intro _; rfl) (hn : x ≠ "__name__" := by decide +kernel) (hd : (x == ("__debug__" : Str)) = false := by decide +kernel) (he : ∀ j, starEach (e :: es) (X j).env = (false, eval e (X j).env) :: starEach es (X j).env := by intro _; rfl)
    (hp : ∀ j, (backTo pos (starEach es (X j).env)).any (·.1) = false := by intro _; rfl) : DE K E X (.Call (.Name x p) (e :: es) [] pos) (mOp f ms) :=
  let ⟨_, h1, h2⟩ := h.ex; dcb fm h1 h2 hm hb ha hg hn hd he hp
theorem eCt (fm : Fm P w K mg base k X E) {id : String} {f : List T → Option T} (h : Ca K X (.type id) f) (hm : mg x = none) (hb : bootBuiltins x = some (.type id)) (ha : DA K E X (e :: es) ms)
    (hg : ∀ j, Gl (X j) x := by intro _; rfl) (hn : x ≠ "__name__" := by decide +kernel) (hd : (x == ("__debug__" : Str)) = false := by decide +kernel) (he : ∀ j, starEach (e :: es) (X j).env = (false, eval e (X j).env) :: starEach es (X j).env := by intro _; rfl)
    (hp : ∀ j, (backTo pos (starEach es (X j).env)).any (·.1) = false := by intro _; rfl) : DE K E X (.Call (.Name x p) (e :: es) [] pos) (mOp f ms) :=
  let ⟨_, h1, h2⟩ := h.ex; dct fm h1 h2 hm hb ha hg hn hd he hp
end
section
variable {K : Kf} {E : XS} {m n l : ME}
def mChain (f f' : List T → Option T) (m n l : ME) : ME := fun e => (mCons m (mCons n mNil) e).bnd fun vs e1 => match cns vs e1 with
  | some [t, .sh d] => if flD d = true then match f [t, .sh d] with
      | some (.sh (.bl true)) => mOp f' (mCons (mC d) (mCons l mNil)) e1
      | some (.sh (.bl false)) => .ok (.tv (.sh (.bl false)), e1)
      | _ => .st
    else .st
  | _ => .st
end
section
variable {P : Program} {w : World} {base : Heap} {K : Kf} {mg : Str → Option Value} {k : Nat} {ι : Type} {X : ι → Cx} {E : XS} {e a b c o : Expr} {es : List Expr} {pos apos p p' : Pos} {m n l : ME} {ms : MA} {x y : Str}
def tyN : D → String
  | .non => "NoneType" | .bl _ => "bool" | .int _ => "int" | .str _ => "str" | .lst _ => "list" | .tup _ => "tuple" | .dct _ => "dict" | .ins _ _ => "" | .scr _ => "" | .exn _ _ _ => ""
def isiF (tb : String → Bool) (ic : List (Addr × Bool)) : D → Option Bool
  | .ins C _ => lk ic C
  | .scr _ => none
  | .exn _ _ _ => none
  | d => some (tb (tyN d))
theorem lk_mem {κ α : Type} [DecidableEq κ] : ∀ {l : List (κ × α)} {k : κ} {a : α}, lk l k = some a → (k, a) ∈ l := fun {l k a} h => by
  obtain ⟨n, h1, _⟩ := lk_ix h
  exact List.mem_of_getElem? h1
theorem cName (fm : Fm P w K mg base k X E) {id : String} (hm : mg x = none) (hb : bootBuiltins x = some (.type id)) (hg : ∀ j, Gl (X j) x := by intro _; rfl) (hn : x ≠ "__name__" := by decide +kernel) (hd : (x == ("__debug__" : Str)) = false := by decide +kernel) :
    ∀ j, PE (X j) (.Name x pos) (tC (.ty id)) := fun j => pe_bltn (hg j) (by rw [fm.hm j]; exact hm) hb (v := .ty id) rfl hn hd
theorem cOwn (fm : Fm P w K mg base k X E) {C : Addr} (hm : mg x = some (.ref C)) (hg : ∀ j, Gl (X j) x := by intro _; rfl) (hd : (x == ("__debug__" : Str)) = false := by decide +kernel) :
    ∀ j, PE (X j) (.Name x pos) (tC (.ref C)) := fun j => pe_glob (hg j) (by rw [fm.hm j]; exact hm) rfl hd
end
section
variable {K : Kf} {E : XS}
def OpM (K : Kf) (r : V → List V → Hp → VK → Prop) (f : T → List T → Option (T × T)) : Prop :=
  ∀ (F H : Hp) (x : V) (a : Addr) (u : T) (S' : List Addr) (us : List T) (xs : List V) (Sq : List Addr) (u' rt : T) (Q : VK), Node K F H u x a S' → TRs K F H us xs Sq → (Sq ++ a :: S').Nodup → F a = none → SubR F H → f u us = some (u', rt) →
    (∀ (o' : HO) (y : V) (S'' Sr : List Addr), TR K F (upd H a o') u' x (a :: S'') → TR K F (upd H a o') rt y Sr → (Sr ++ a :: S'').Nodup → (∀ b ∈ Sr ++ S'', b ∈ Sq ++ S') → Q y (upd H a o')) → r x xs H Q
def notSh : T → Bool
  | .sh _ => false
  | _ => true
def mMut (c : T → Bool) (f : T → List T → Option (T × T)) (m : ME) (ms : MA) : ME := fun e => (mCons (mChk c m) ms e).bnd fun vs e1 => match vs with
  | .pl i p :: r => match tvs r with
    | some us => match e1[i]? with
      | some s => match s.own with
        | some t => match T.get p t with
          | some u => if notSh u = true then match f u us with
              | some (u', rt) => match T.put p t u' with
                | some t' => .ok (.tv rt, e1.set i (s.wth t'))
                | none => .st
              | none => .st
            else .st
          | none => .st
        | none => .st
      | none => .st
    | none => .st
  | _ => .st
theorem ev_mut {te : TE} {ta : TA} {m : ME} {ms : MA} {c : T → Bool} {Pr : V → Hp → Prop} {r : V → List V → Hp → VK → Prop} {f : T → List T → Option (T × T)} (h : EvT K E te m) (ha : EvA K E ta ms) (hc : ∀ (t : T) (x : V) (F H : Hp), c t = true → VR K H F t x → SubR F H → Pr x H) (hf : OpM K r f) :
    EvT K E (fun σ H Q => te σ H fun x H1 => Pr x H1 ∧ ta σ H1 fun xs H2 => r x xs H2 Q) (mMut c f m ms) := by
  intro B F H σ env Q hs hv hp
  refine (show (tCons (fun σ H Q => te σ H fun x H1 => Pr x H1 ∧ Q x H1) ta) σ H (fun vs H1 => match vs with | x :: xs => r x xs H1 Q | [] => False) from ev_cons (ev_chk h hc) ha B F H σ env _ hs hv ?_)
  unfold mMut at hp
  cases e : mCons (mChk c m) ms env with
  | st => rw [e] at hp; exact hp
  | ex c e1 => rw [e] at hp; exact hp
  | ok a =>
    obtain ⟨vs, e1⟩ := a
    rw [e] at hp
    simp only [R.bnd] at hp
    intro xs F' H' g kd got
    match vs, xs, hp, got with
    | .pl i p :: rv, x :: xs, hp, got =>
      simp only at hp
      cases e2 : tvs rv with
      | none => rw [e2] at hp; exact hp.elim
      | some us =>
      rw [e2] at hp
      simp only at hp
      cases e3 : e1[i]? with
      | none => rw [e3] at hp; exact hp.elim
      | some s =>
      rw [e3] at hp
      simp only at hp
      cases e4 : s.own with
      | none => rw [e4] at hp; exact hp.elim
      | some t =>
      rw [e4] at hp
      simp only at hp
      cases e5 : T.get p t with
      | none => rw [e5] at hp; exact hp.elim
      | some u =>
      rw [e5] at hp
      simp only at hp
      by_cases e6 : notSh u = true
      case neg => rw [if_neg e6] at hp; exact hp.elim
      rw [if_pos e6] at hp
      cases e7 : f u us with
      | none => rw [e7] at hp; exact hp.elim
      | some q =>
      obtain ⟨u', rt⟩ := q
      rw [e7] at hp
      simp only at hp
      cases e8 : T.put p t u' with
      | none => rw [e8] at hp; exact hp.elim
      | some t' =>
      rw [e8] at hp
      simp only at hp
      have st : St K B F' H' (pdS rv ++ e1) (pdX rv xs ++ σ) := got.st
      obtain ⟨x', _, ex, pl, _⟩ := got.pl
      cases ex
      have hl : rv.length = xs.length := by simpa using got.len
      obtain ⟨a, S', Sq, n1, n2, n3, n4, go⟩ := st.node (pd_len hl) e3 e4 e5 pl (fun d z => by subst z; cases e6)
      exact hf F' H' _ a u S' us xs Sq u' rt Q n1 (tvs_fs hl e2 n2) n3 n4 st.sf e7 fun o' y S'' Sr k1 k2 k3 k4 =>
        hp y F' _ g (kd.trans (Kd.set e3 (by rw [e4]; exact fun z => nomatch z))) (.of (go o' u' t' S'' Sr [.va rt] [some y] k1 (Fs.one ⟨y, rfl, k2⟩) k3 k4 e8))
    | .pl _ _ :: _, [], _, got => exact absurd got.len (by simp)
    | [], _, hp, _ => exact hp.elim
    | .tv _ :: _, _, hp, _ => exact hp.elim
def gAppend : T → List T → Option (T × T)
  | .lst ts, [t] => if ts.length < sizeLine then some (.lst (ts ++ [t]), .sh .non) else none
  | _, _ => none
theorem om_append : OpM K rAppend gAppend := by
  intro F H x a u S' us xs Sq u' rt Q n tr nd fa sf e q
  unfold gAppend at e
  split at e
  · rename_i ts t
    by_cases hz : ts.length < sizeLine
    case neg => rw [if_neg hz] at e; cases e
    rw [if_pos hz] at e
    cases e
    obtain ⟨a', vs, S2, e1, e2, e3, r⟩ := n.tr
    cases e3
    have := n.ex
    rw [e1] at this; cases this
    obtain ⟨y, _, S1, _, e4, e5, ty, e6, e7⟩ := tr
    subst e6; subst e4; subst e7; simp at e5; subst e5
    have hl := (TRs_iff.mp r).length
    have na : a ∉ Sq ∧ a ∉ S' := by
      rw [List.nodup_append] at nd
      exact ⟨fun z => nd.2.2 a z a (by simp) rfl, (List.nodup_cons.mp nd.2.1).1⟩
    refine ⟨a, vs, y, e1, rfl, e2, by omega, q (.lst (vs ++ [y])) .non (S' ++ Sq) [] ⟨a, vs ++ [y], S' ++ Sq, e1, upd_same, rfl, TRs_iff.mpr ((TRs_iff.mp (r.upd na.2)).append (.one (ty.upd na.1)))⟩ ⟨rfl, rfl⟩ ?_ fun b hb => ?_⟩
    · rw [List.nil_append]
      rw [List.nodup_append, List.nodup_cons] at nd
      rw [List.nodup_cons, List.nodup_append]
      refine ⟨fun z => ?_, nd.2.1.2, nd.1, fun b hb c hc z => nd.2.2 c hc b (by simp [hb]) z.symm⟩
      rcases List.mem_append.mp z with z | z
      · exact na.2 z
      · exact na.1 z
    · simp at hb ⊢
      rcases hb with z | z <;> simp [z]
  · cases e
end
def keyP : Key → PyData
  | .inl i => .int i
  | .inr s => .str s
mutual
def D.pyv : D → Option PyData
  | .non => some .none
  | .bl b => some (.bool b)
  | .int i => some (.int i)
  | .str x => some (.str x)
  | .lst ds => (D.pyvs ds).map .list
  | .tup ds => (D.pyvs ds).map .tuple
  | .dct kds => (D.pyvk kds).map .dict
  | .ins _ _ => none
  | .scr _ => none
  | .exn _ _ _ => none
def D.pyvs : List D → Option (List PyData)
  | [] => some []
  | d :: r => match d.pyv, D.pyvs r with
    | some p, some ps => some (p :: ps)
    | _, _ => none
def D.pyvk : List (Key × D) → Option (List (PyData × PyData))
  | [] => some []
  | p :: r => match D.pyvp p, D.pyvk r with
    | some p, some ps => some (p :: ps)
    | _, _ => none
def D.pyvp : Key × D → Option (PyData × PyData)
  | (k, d) => d.pyv.map fun p => (keyP k, p)
end
def isNode : D → Bool
  | .lst _ => true | .tup _ => true | .dct _ => true
  | _ => false
def oRepr : List D → Option D
  | [d] => d.pyv.bind fun p => if isNode d = true ∧ p.showable = true ∧ p.shown.length ≤ sizeLine ∧ p.depth ≤ 60 then some (.str p.shown) else none
  | _ => none
def xRepr := liftD oRepr
def nxF (f : MF) : MF := fun ss => match f ss with
  | .exc _ _ => .st
  | r => r
def isC (C : Addr) : T → Bool
  | .sh (.ins C' _) => C' == C
  | .ins C' _ => C' == C
  | _ => false
def mProp (C : Addr) (f : MF) (m : ME) : ME := mCall 1 (nxF f) (mCons (mChk (isC C) m) mNil)
def updP {α : Type} (i : Nat) (p : List PEl) (f : T → Option (T × α)) (e : Env) : Option (α × Env) :=
  (e[i]?).bind fun s => s.own.bind fun t => (T.get p t).bind fun u => if notSh u = true then (f u).bind fun q => (T.put p t q.1).map fun t' => (q.2, e.set i (s.wth t')) else none
section
variable {K : Kf} {E : XS} {B F H : Hp} {env : Env} {σ : L2.St}
theorem updP_ok {α : Type} {i : Nat} {p : List PEl} {f : T → Option (T × α)} {e' : Env} {r : α} (h : updP i p f env = some (r, e')) : ∃ s t u u' t', env[i]? = some s ∧ s.own = some t ∧ T.get p t = some u ∧ notSh u = true ∧ f u = some (u', r) ∧ T.put p t u' = some t' ∧ e' = env.set i (s.wth t') := by
  obtain ⟨s, h1, h⟩ := Option.bind_eq_some_iff.mp h
  obtain ⟨t, h2, h⟩ := Option.bind_eq_some_iff.mp h
  obtain ⟨u, h3, h⟩ := Option.bind_eq_some_iff.mp h
  split at h
  · obtain ⟨⟨u', r'⟩, h4, h⟩ := Option.bind_eq_some_iff.mp h
    obtain ⟨t', h5, h⟩ := Option.map_eq_some_iff.mp h
    cases h
    exact ⟨s, t, u, u', t', h1, h2, h3, by assumption, h4, h5, rfl⟩
  · cases h
def putT (d : D) (t : T) : T → Option (T × Unit)
  | .dct kts => (keyD d).bind fun k => if kts.length < sizeLine then some (.dct (pk kts k t), ()) else none
  | .lst ts => match d with
    | .int j => (ixN ts.length j).map fun n => (.lst (ts.set n t), ())
    | _ => none
  | _ => none
def rSetA : TSet := fun o i v H Q => rSetL o i v H Q ∨ rSetD o i v H Q
theorem set_all {X : Cx} (hu : X.A.units + 1 < cLine) : PSet X rSetA := by
  intro pins s σ H o i v ov iv u Q I ro ri rv h
  rcases h with h | h
  · exact set_list pins s σ H o i v ov iv u Q I ro ri rv h
  · exact set_dict hu pins s σ H o i v ov iv u Q I ro ri rv h
theorem put_ok {d : D} {t u u' : T} {x y z : V} {a : Addr} {S' S1 : List Addr} {Q : Hp → Prop} (n : Node K F H u x a S') (ty : TR K F H t y S1) (kz : DR K H d z) (nd : (S1 ++ a :: S').Nodup) (e : putT d t u = some (u', ()))
    (q : ∀ (o' : HO) (S'' : List Addr), TR K F (upd H a o') u' x (a :: S'') → (a :: S'').Nodup → (∀ b ∈ S'', b ∈ S1 ++ S') → Q (upd H a o')) : rSetA x z y H Q := by
  have nd0 := List.nodup_append.mp nd
  have na : a ∉ S1 ∧ a ∉ S' := ⟨fun z => nd0.2.2 a z a (by simp) rfl, (List.nodup_cons.mp nd0.2.1).1⟩
  have ndS : (S' ++ S1).Nodup := List.nodup_append.mpr ⟨(List.nodup_cons.mp nd0.2.1).2, nd0.1, fun b hb c hc z => nd0.2.2 c hc b (by simp [hb]) z.symm⟩
  cases u with
  | sh _ => cases e
  | ins _ _ => cases e
  | dct kts =>
    obtain ⟨k, ek, e⟩ := Option.bind_eq_some_iff.mp e
    by_cases hz : kts.length < sizeLine
    case neg => rw [if_neg hz] at e; cases e
    rw [if_pos hz] at e
    cases e
    obtain ⟨a', kvs, S2, e1, e2, e3, r, ndk⟩ := n.tr
    cases e3
    have := n.ex
    rw [e1] at this; cases this
    have r' := TRk_iff.mp (r.upd (o := .dK (putK kvs k y)) na.2)
    have hl := r'.length
    obtain ⟨S3, f3, sub, nd3⟩ := Fs.pk (k := k) (ty.upd (o := .dK (putK kvs k y)) na.1) r'
    refine .inr ⟨a, upd H a (.dK (putK kvs k y)), e1, .inl ⟨kvs, k, e2, keyD_ok ek kz, by omega, rfl⟩, q (.dK (putK kvs k y)) S3 ⟨a, putK kvs k y, S3, e1, upd_same, rfl, ?_, pk_nodup ndk⟩ ?_ fun b hb => ?_⟩
    · have ep : putK kvs k y = DL.pk kvs k y := putK_pk (by rw [Fs.keys r']; exact ndk)
      rw [← ep] at f3
      exact TRk_iff.mpr f3
    · refine List.nodup_cons.mpr ⟨fun z => ?_, nd3 ndS⟩
      rcases List.mem_append.mp (sub a z) with w | w
      · exact na.2 w
      · exact na.1 w
    · rcases List.mem_append.mp (sub b hb) with w | w <;> simp [w]
  | lst ts =>
    cases d with
    | int j =>
      obtain ⟨i, ei, e0⟩ := Option.map_eq_some_iff.mp e
      cases e0
      obtain ⟨a', vs, S2, e1, e2, e3, r⟩ := n.tr
      cases e3
      have := n.ex
      rw [e1] at this; cases this
      have r' := TRs_iff.mp (r.upd (o := .lst (vs.set i y)) na.2)
      have hl := r'.length
      have hi : i < ts.length := by
        unfold ixN at ei
        split at ei
        · split at ei
          · cases ei; omega
          · cases ei
        · split at ei
          · cases ei; omega
          · cases ei
      obtain ⟨L, Sa, Rr, h1, h2⟩ := Fs.store r' hi (ty.upd (o := .lst (vs.set i y)) na.1)
      refine .inl ⟨a, vs, j, i, e1, kz, e2, by rw [← hl]; exact ei, q (.lst (vs.set i y)) (L ++ S1 ++ Rr) ⟨a, vs.set i y, _, e1, upd_same, rfl, TRs_iff.mpr h2⟩ ?_ fun b hb => ?_⟩
      · subst h1
        simp only [List.nodup_append, List.nodup_cons, List.mem_append, List.mem_cons] at nd ⊢
        grind
      · subst h1
        simp only [List.mem_append] at hb ⊢
        grind
    | _ => cases e
def mPut (mv mo mi : ME) : MS := fun e => match mCons (mK mv) (mCons mo (mCons mi mNil)) e with
  | .ok ([.tv t, .pl i p, .tv (.sh d)], e1) => match updP i p (putT d t) e1 with
    | some (_, e2) => .ok (.nx e2)
    | none => .st
  | .ok _ => .st
  | .ex c e1 => .ex c e1
  | .st => .st
theorem ds_put {tv to ti : TE} {mv mo mi : ME} (h : EvT K E tv mv) (ho : EvT K E to mo) (hi : EvT K E ti mi) : DsT K E (tAsg tv (gSub to ti rSetA)) (mPut mv mo mi) := by
  intro B F H σ env D hs hv hp
  refine (show (tCons tv (tCons to (tCons ti tNil))) σ H (fun vs H1 => match vs with | [v, o, i] => rSetA o i v H1 (fun H3 => D.nx σ H3) | _ => False) from ev_cons (ev_k h) (ev_cons ho (ev_cons hi ev_nil)) B F H σ env _ hs hv ?_)
  unfold mPut at hp
  cases e : mCons (mK mv) (mCons mo (mCons mi mNil)) env with
  | st => rw [e] at hp; exact hp
  | ex c e1 => rw [e] at hp; exact fun od F' H' g kd st hx => hp od σ F' H' g (Kp.of kd) st hx
  | ok a =>
    obtain ⟨vs, e1⟩ := a
    rw [e] at hp
    intro xs F' H' g kd got
    split at hp
    · rename_i t i p d e1' ea
      cases ea
      cases e2 : updP i p (putT d t) e1 with
      | none => rw [e2] at hp; exact hp.elim
      | some q =>
        obtain ⟨⟨⟩, e3⟩ := q
        rw [e2] at hp
        obtain ⟨s, ts, u, u', t', h1, h2, h3, h4, h5, h6, rfl⟩ := updP_ok e2
        match xs, got with
        | [y, x, z], got =>
          have st : St K B F' H' ([.va t, .va (.sh d)] ++ e1) ([some y, some z] ++ σ) := got.st
          have pl : PlOk H' σ (.pl i p) x := by
            obtain ⟨_, _, ex0, _, _, _, ex, pl, _⟩ := got.pl
            cases ex0
            cases ex
            exact pl
          obtain ⟨a, S', Sq, n1, n2, n3, n4, go⟩ := st.node rfl h1 h2 h3 pl (fun d z => by subst z; cases h4)
          obtain ⟨b, l', S1, S2, eb, eS, ⟨w, ew, ty⟩, ⟨b2, l2, S3, S4, eb2, eS2, ⟨w2, ew2, es3, kz⟩, z0⟩⟩ := n2
          cases eb; cases ew; cases eb2; cases ew2
          obtain ⟨z1, z2⟩ := z0
          subst z2; subst es3; subst eS2
          simp at eS
          subst eS
          refine put_ok n1 ty (kz.mono st.sf) n3 h5 fun o' S'' k1 k2 k3 => ?_
          refine hp σ F' _ g ((Kp.of kd).trans (Kp.of (Kd.set h1 (by rw [h2]; exact fun z => nomatch z)))) ?_
          exact go o' u' t' S'' [] [] [] k1 ⟨rfl, rfl⟩ (by simpa using k2) (by simpa using k3) h6
        | [], got => exact absurd got.len (by simp)
        | [_], got => exact absurd got.len (by simp)
        | [_, _], got => exact absurd got.len (by simp)
        | _ :: _ :: _ :: _ :: _, got => exact absurd got.len (by simp)
    · exact hp.elim
    · rename_i ea; cases ea
    · rename_i ea; cases ea
end
section
variable {K : Kf} {E : XS} {B F H : Hp} {env : Env} {σ : L2.St}
def putFT (C : Addr) (f : Str) (t : T) : T → Option (T × Unit)
  | .ins C' fs => if C' = C ∧ fs.length < 1000 then some (.ins C' (pk fs f t), ()) else none
  | _ => none
def mFld (C : Addr) (f : Str) (mv mo : ME) : MS := fun e => match mCons (mK mv) (mCons mo mNil) e with
  | .ok ([.tv t, .pl i p], e1) => match updP i p (putFT C f t) e1 with
    | some (_, e2) => .ok (.nx e2)
    | none => .st
  | .ok _ => .st
  | .ex c e1 => .ex c e1
  | .st => .st
def gClear : T → List T → Option (T × T)
  | .dct _, [] => some (.dct [], .sh .non)
  | _, _ => none
end
def TyOk (X : Cx) (T : String) (ty : V → Hp → Prop) : Prop := ∀ (pins : List (Addr × Obj)) (σ : L2.St) (H : Hp) (s : Shared) (x : V) (v : Value), Inv X pins σ H s → RelV x v → ty x H → s.TypeIs v T ∧ ∀ a, v = .ref a → ∃ ob, s.heap.get? a = some ob ∧ ob.dict = none
section
variable {X : Cx} {o e : Expr} {es : List Expr} {to : TE} {t : TA} {name : Str} {apos cpos : Pos} {T id : String} {r : V → List V → Hp → VK → Prop} {ty : V → Hp → Prop}
theorem pe_bmG (pa : PlainAttrs T) (slot : PySem.Slot T name id) (hty : typeOf (.builtin id) = pure (.type "method_descriptor")) (tk : TyOk X T ty) (hm : MtR X id r) (ho : PE X o to) (ha : PA X (e :: es) t)
    (hbase : attributeBase o name X.env (eval o X.env) = eval o X.env := by rfl)
    (hfew : ((backTo cpos (starEach (e :: es) X.env)).all (fun x => !x.1) && (backToKw cpos (keywordEach [] X.env)).all (fun x => x.1.isSome)
      && decide ((e :: es).length + ([] : List Keyword).length + (if ([] : List Keyword).isEmpty then 0 else 1) < 30)) = true := by rfl)
    (hline : (apos.endLine == cpos.line) = true := by rfl) (hs : starEach (e :: es) X.env = (false, eval e X.env) :: starEach es X.env := by rfl) (hplain : (backTo cpos (starEach es X.env)).any (·.1) = false := by rfl) :
    PE X (.Call (.Attribute o name apos) (e :: es) [] cpos) (fun σ H Q => to σ H fun x H1 => ty x H1 ∧ t σ H1 fun xs H2 => r x xs H2 Q) := by
  refine ⟨fun pins s σ H Q I h => ?_⟩
  refine wpAny_Call_method_late hbase hfew hline rfl (thn (ho.run pins s σ H _ I h) fun v s1 ⟨x, H1, I1, r1, ty, q1⟩ => ?_)
  obtain ⟨h1, h2⟩ := tk _ _ _ _ _ _ I1 r1 ty
  refine ⟨T, id, pa, slot, hty, h1, h2, ?_⟩
  have hA := ha.run cpos pins s1 σ H1 _ I1 q1
  rw [hs] at hA ⊢
  refine Calls.callWith_builtin (by show (false || (backTo cpos (starEach es X.env)).any (·.1)) = false; rw [hplain] <;> rfl) (Calls.evalArgs_plain ?_)
  exact thn hA fun us s2 ⟨vs, H2, I2, r2, q2⟩ => hm pins s2 σ H2 x vs v us Q I2 r1 r2 q2
end
def tyL (K : Kf) (x : V) (H : Hp) : Prop := ∃ p xs, x = .ref p ∧ SqL K H p xs
theorem tyL_ok {X : Cx} : TyOk X "list" (tyL X.K) := by
  intro pins σ H s x v I r ⟨p, xs, e, h⟩
  subst e
  exact tyV_is (T := "list") I r (.inl ⟨rfl, xs, h⟩)
def isL : T → Bool
  | .sh (.lst _) => true
  | .lst _ => true
  | _ => false
def isDc : T → Bool
  | .sh (.dct _) => true
  | .dct _ => true
  | _ => false
theorem isL_ok {K : Kf} {F H : Hp} {t : T} {x : V} (h : isL t = true) (r : VR K H F t x) (sf : SubR F H) : tyL K x H := by
  cases t with
  | sh d =>
    cases d <;> cases h
    obtain ⟨a, vs, rfl, q, _⟩ := (show DR K F _ x from r)
    exact ⟨a, vs, rfl, .inl (.inl (sf.ls q))⟩
  | lst _ => obtain ⟨a, vs, rfl, q, _⟩ := r; exact ⟨a, vs, rfl, .inl (.inl q)⟩
  | dct _ => cases h
  | ins _ _ => cases h
section
variable {P : Program} {w : World} {base : Heap} {K : Kf} {mg : Str → Option Value} {k : Nat} {ι : Type} {X : ι → Cx} {E : XS} {e a b c o value : Expr} {es : List Expr} {pos apos cpos p p' : Pos} {m n l : ME} {ms : MA} {x y : Str}
structure Me (K : Kf) (X : ι → Cx) (name : Str) (c : T → Bool) (f : T → List T → Option (T × T)) : Prop where
  ex : ∃ (T id : String) (ty : V → Hp → Prop) (r : V → List V → Hp → VK → Prop), PlainAttrs T ∧ PySem.Slot T name id ∧ typeOf (.builtin id) = pure (.type "method_descriptor") ∧ (∀ j, TyOk (X j) T ty) ∧ (∀ j, MtR (X j) id r) ∧ OpM K r f ∧ ∀ (t : DL.T) (x : V) (F H : Hp), c t = true → VR K H F t x → SubR F H → ty x H
theorem Me.list (fm : Fm P w K mg base k X E) {name : Str} {id : String} {r : V → List V → Hp → VK → Prop} {f : T → List T → Option (T × T)} (s : PySem.Slot "list" name id) (h : typeOf (.builtin id) = pure (.type "method_descriptor")) (hm : ∀ j, MtR (X j) id r) (ho : OpM K r f) : Me K X name isL f :=
  ⟨"list", id, tyL K, r, F.plainAttrs_list, s, h, fun j => (by have := tyL_ok (X := X j); rw [fm.hk j] at this; exact this), hm, ho, fun t x F H c r sf => isL_ok c r sf⟩
theorem mAppend (fm : Fm P w K mg base k X E) : Me K X "append" isL gAppend := Me.list fm F.slot_list_append F.type_list_append (fun _ => mt_append) om_append
theorem eMe {name : Str} {ct : T → Bool} {f : T → List T → Option (T × T)} (h : Me K X name ct f) (ho : DE K E X o m) (ha : DA K E X (e :: es) ms) (hbase : ∀ j, attributeBase o name (X j).env (eval o (X j).env) = eval o (X j).env := by intro _; rfl)
    (hfew : ∀ j, ((backTo cpos (starEach (e :: es) (X j).env)).all (fun x => !x.1) && (backToKw cpos (keywordEach [] (X j).env)).all (fun x => x.1.isSome)
      && decide ((e :: es).length + ([] : List Keyword).length + (if ([] : List Keyword).isEmpty then 0 else 1) < 30)) = true := by intro _; rfl)
    (hline : (apos.endLine == cpos.line) = true := by rfl) (hs : ∀ j, starEach (e :: es) (X j).env = (false, eval e (X j).env) :: starEach es (X j).env := by intro _; rfl) (hplain : ∀ j, (backTo cpos (starEach es (X j).env)).any (·.1) = false := by intro _; rfl) :
    DE K E X (.Call (.Attribute o name apos) (e :: es) [] cpos) (mMut ct f m ms) := by
  obtain ⟨T, id, ty, r, h1, h2, h3, h4, h5, h6, h7⟩ := h.ex
  obtain ⟨to, h8, h9⟩ := ho
  obtain ⟨ta, h10, h11⟩ := ha
  exact ⟨_, fun j => pe_bmG h1 h2 h3 (h4 j) (h5 j) (h8 j) (h10 j) (hbase j) (hfew j) hline (hs j) (hplain j), ev_mut h9 h11 h7 h6⟩
theorem sput (fm : Fm P w K mg base k X E) {tpos : Pos} (hv : DE K E X value m) (ho : DE K E X o n) (hi : DE K E X a l)
    (ha : ∀ j v, assign (.Subscript o a tpos) (X j).env v = (do
      let ov ← holding [v] (eval o (X j).env)
      let iv ← holding [v, ov] (eval a (X j).env)
      standAt tpos
      holding [v, ov, iv] (setItem ov iv v)
      release [v, ov, iv] []) := by intro _ _; rfl)
    (hs : ∀ j, swapsWithSole [.Subscript o a tpos] value pos.line (X j).env = pure false := by intro _; rfl) (hw : ∀ j, swappedStores [.Subscript o a tpos] value (X j).env = pure none := by intro _; rfl)
    (h1 : ∀ j, (assignEach [.Subscript o a tpos] (X j).env).map (·.2) = [assign (.Subscript o a tpos) (X j).env] := by intro _; rfl) : DS K E X (.Assign [.Subscript o a tpos] value pos) (mPut m n l) := by
  obtain ⟨tv, h2, h3⟩ := hv
  obtain ⟨to, h4, h5⟩ := ho
  obtain ⟨ti, h6, h7⟩ := hi
  exact ⟨_, fun j => ps_asg (h2 j) (pg_sub (h4 j) (h6 j) (set_all (fm.un1 j)) (ha j)) (hs j) (hw j) (h1 j), ds_put h3 h5 h7⟩
end
def viewV (v : Val) (e : Env) : Option T := match v with
  | .pl i p => match e[i]? with
    | some (.vw t) => T.get p t
    | _ => none
  | .tv _ => none
def srcV (v : Val) (e : Env) : Option (T × Env) := match viewV v e with
  | some t => some (t, e)
  | none => (frzV v e).map fun q => (.sh q.1, q.2)
def mSrc (f : T → Option (List D)) (m : ME) : MI := fun e => (m e).bnd fun v e1 => match srcV v e1 with
  | some (t, e2) => match f t with
    | some ds => .ok (ds, e2)
    | none => .st
  | none => .st
section
variable {K : Kf} {E : XS} {B F H : Hp} {env : Env} {σ : L2.St} {te : TE} {m : ME}
def seqT : T → Option (List D)
  | .sh (.lst ds) => some ds
  | .sh (.tup ds) => some ds
  | .sh (.str z) => some (z.cps.toList.map fun c => .str ⟨#[c]⟩)
  | .lst ts => allSh ts
  | _ => none
end
section
variable {K : Kf} {E : XS} {B F H : Hp} {env : Env} {σ : L2.St} {te : TE} {m : ME}
def anyT (t : T) : Option (List D) := match keysT t with
  | some ks => some (ks.map kD)
  | none => seqT t
def rngD (lo : Int) (n : Nat) : List D := (List.range n).map fun i => .int (lo + (i : Nat))
theorem walk_r {lo : Int} {n : Nat} : WalkD K B F (Itr lo n) (rngD lo n) := by
  refine ⟨fun i F2 H2 env σ hi g st => ?_, fun F2 H2 env σ g st => ?_, fun i dd F2 H2 env σ x H3 ed g st y => ?_⟩
  · show i < n
    simpa [rngD] using hi
  · show n ≤ _
    simp [rngD]
  · obtain ⟨e1, e2⟩ := y
    subst e1; subst e2
    have hi := (List.getElem?_eq_some_iff.mp ed).1
    simp [rngD] at hi
    rw [rngD, List.getElem?_map, List.getElem?_range hi] at ed
    cases ed
    exact ⟨F2, Gr.refl _ _, st.push rfl⟩
def r62 : Int → Bool
  | .ofNat n => Nat.ble n 4611686018427387903
  | .negSucc n => Nat.ble n 4611686018427387903
theorem r62_iff (j : Int) : r62 j = true ↔ -(2 ^ 62) ≤ j ∧ j < 2 ^ 62 := by
  cases j with
  | ofNat n => simp only [r62, Nat.ble_eq, Int.ofNat_eq_natCast]; omega
  | negSucc n => simp only [r62, Nat.ble_eq]; omega
def mR1 (ms : MA) : MI := fun e => (ms e).bnd fun vs e1 => match cns vs e1 with
  | some [.sh (.int j)] => if r62 j = true then .ok (rngD 0 j.toNat, e1) else .st
  | _ => .st
theorem ev_r1 {ta : TA} {ms : MA} (ha : EvA K E ta ms) : EvI0 K E (iRng1 ta) (mR1 ms) := by
  intro B F H σ env Rr hs hv hp
  refine ha B F H σ env _ hs hv ?_
  unfold mR1 at hp
  cases e : ms env with
  | st => rw [e] at hp; exact hp
  | ex c e1 => rw [e] at hp; exact hp
  | ok a =>
    obtain ⟨vs, e1⟩ := a
    rw [e] at hp
    simp only [R.bnd] at hp
    intro xs F' H' g kd got
    split at hp
    · rename_i j ec
      by_cases hr : r62 j = true
      case neg => rw [if_neg hr] at hp; exact hp.elim
      rw [if_pos hr] at hp
      have hz := (r62_iff j).mp hr
      obtain ⟨x, _, rfl, vx, rfl⟩ := got.vrs (Got.kd (H' := H') hv g kd) ec
      cases (show x = .int j from vx)
      exact ⟨j, rfl, hz.1, hz.2, hp _ F' H' g kd got.base walk_r⟩
    · exact hp.elim
end
section
variable {P : Program} {w : World} {base : Heap} {K : Kf} {mg : Str → Option Value} {k : Nat} {ι : Type} {X : ι → Cx} {E : XS} {e a b c o tg it : Expr} {es : List Expr} {pos apos cpos p p' : Pos} {m n l : ME} {ms : MA} {x y : Str}
theorem DI0.i {mi : MI} (h : DI0 K E X tg it mi) : DI K E X tg it mi := let ⟨_, h1, h2⟩ := h; ⟨_, h1, h2.i⟩
theorem diR1 (fm : Fm P w K mg base k X E) (h : DA K E X [a] ms) (hm : mg "range" = none) (hg : ∀ j, Gl (X j) "range" := by intro _; rfl) (hs : ∀ j, starEach [a] (X j).env = [(false, eval a (X j).env)] := by intro _; rfl) : DI0 K E X tg (.Call (.Name "range" p) [a] [] pos) (mR1 ms) :=
  let ⟨_, h1, h2⟩ := h; ⟨_, fun j => pi_range1 (hg j) (by rw [fm.hm j]; exact hm) (h1 j) (hs j), ev_r1 h2⟩
end
section
variable {K : Kf} {E : XS} {B F H : Hp} {env : Env} {σ : L2.St} {te : TE} {m : ME}
def mItems (m : ME) : ME := fun e => (m e).bnd fun v e1 => match v with
  | .pl i p => match e1[i]? with
    | some s => match s.own with
      | some t => match T.get p t with
        | some (.dct kts) => match allShK kts with
          | some kds => .ok (.tv (.lst (kds.map fun q => .sh (.tup [kD q.1, q.2]))), e1)
          | none => .st
        | _ => .st
      | none => .st
    | none => .st
  | .tv _ => .st
end
def oStep : List T → Option T
  | [t, .sh (.int 1)] => (kidsL t).map fun ds => .lst (ds.map .sh)
  | [t, .sh (.int (-1))] => (kidsL t).map fun ds => .lst (ds.reverse.map .sh)
  | _ => none
abbrev Ix (qual : Str) (st : Stmt) (f : Addr) (k : Nat) : Type := { q : Value × Around × List PySem.Env × Shared × Hp // Room k (q.2.1.deeper (envOfC qual (defScope st) q.2.2.2.1.heap.objs.size f q.1)) ∧ Gq k (q.2.1.deeper (envOfC qual (defScope st) q.2.2.2.1.heap.objs.size f q.1)) }
abbrev cxD (P : Program) (w : World) (K : Kf) (mg : Str → Option Value) (base : Heap) (N : List Str) (qual : Str) (st : Stmt) (f : Addr) (k : Nat) (E : XK) : Ix qual st f k → Cx :=
  fun q => cxOf (L2.CX P w) P w K mg base N qual (defScope st) f q.1.1 q.1.2.1 q.1.2.2.1 q.1.2.2.2.1 q.1.2.2.2.2 E
section
variable {P : Program} {w : World} {K : Kf} {mg : Str → Option Value} {base : Heap} {N ps : List Str} {x qual : Str} {st : Stmt} {f : Addr} {fd : FuncData} {k : Nat}
theorem fmD (S : FnScope N ps (defScope st)) (E : XK) : Fm P w K mg base k (cxD P w K mg base N qual st f k E) (fun _ => E) where
  hP := fun _ => rfl
  hw := fun _ => rfl
  hb := fun _ => rfl
  hk := fun _ => rfl
  hm := fun _ => rfl
  calm := fun _ => rfl
  gd := fun q => q.2.2
  room := fun q => q.2.1
  nd := fun _ => S.nd
  tk := fun q => takes_of rfl rfl rfl rfl
  po := fun q => passes_of rfl
theorem Df.of {mb : MS} (Fn : Fun K x qual st f fd) (kp : PySem.W.keepIn K (.ref f) = true) (B : Binds K fd ps []) (S : FnScope N ps (defScope st)) (hn : ps.length ≤ N.length)
    (body : ∀ E : XK, DSs K (fun _ => E) (cxD P w K mg base N qual st f k E) (defBody st) mb) : Df P w K mg base (k + 1) ps.length (bodyF N.length mb) f := by
  refine ⟨kp, fd, ps, Fun.okG Fn S (fun vs H Q E h => h.1) fun cdv A out s H vs Q E hr hg h => ?_, B⟩
  obtain ⟨t, h1, h2⟩ := body E
  exact ⟨t, h1 ⟨(cdv, A, out, s, H), hr, hg⟩, body_ok rfl h2 hn h⟩
end
def seenH (K : Kf) (a : Addr) (vs : List Value) (ns : List Int) : Hp := fun b => if b = a ∧ K.lookup a = none then some (.frz { cls := .type "list", data := .seq vs.toArray } (.lst (ns.map V.int))) else none
section
variable {P : Program} {w : World} {K : Kf} {mg mb : Str → Option Value} {a : Addr} {s : Shared} {vs : List Value} {ns : List Int}
theorem seen_some {b : Addr} {u : HO} (h : seenH K a vs ns b = some u) : b = a ∧ K.lookup a = none ∧ u = .frz { cls := .type "list", data := .seq vs.toArray } (.lst (ns.map V.int)) := by
  unfold seenH at h
  split at h
  · rename_i c
    cases h
    exact ⟨c.1, c.2, rfl⟩
  · cases h
theorem seen_sq (KX : K.In s.heap) (ha : s.heap.get? a = some { cls := .type "list", data := .seq vs.toArray }) (hi : IntsAre vs ns) (hl : ns.length ≤ sizeLine) : SqL K (seenH K a vs ns) a (ns.map V.int) := by
  cases hk : K.lookup a with
  | none => exact .inl (.inr ⟨_, by unfold seenH; rw [if_pos ⟨rfl, hk⟩]⟩)
  | some o =>
    have e := KX a o hk
    rw [ha] at e
    cases e
    exact .inr ⟨_, vs.toArray, _, hk, rfl, rfl, rfl, by rw [List.size_toArray, hi.length]; exact hl, by simpa using vals_ints hi⟩
end
theorem callerA_guards : callerA.guards = some [] := by first | rfl | decide
section
variable {K : Kf}
def truF : T → Option Bool
  | .sh .non => some false
  | .sh (.bl b) => some b
  | .sh (.int i) => some (i != 0)
  | .sh (.str y) => if y.length ≤ sizeLine then some ((y.length : Int) != 0) else none
  | .sh (.lst ds) => some (!ds.isEmpty)
  | .sh (.tup ds) => some (!ds.isEmpty)
  | .lst ts => some (!ts.isEmpty)
  | _ => none
theorem all2_empty {α β : Type} {R : α → β → Prop} {as : List α} {bs : List β} (h : All2 R as bs) : bs.isEmpty = as.isEmpty := by
  have := h.length
  cases as <;> cases bs <;> simp at this <;> rfl
theorem truN : TruN K truF := by
  intro H F u x b r sf e
  unfold truF at e
  split at e
  · cases e; cases (show x = _ from r); rfl
  · cases e; cases (show x = _ from r); rfl
  · cases e; cases (show x = _ from r); rfl
  · rename_i y
    by_cases hz : y.length ≤ sizeLine
    case neg => rw [if_neg hz] at e; cases e
    rw [if_pos hz] at e
    cases e; cases (show x = _ from r); exact ⟨hz, rfl⟩
  · cases e
    obtain ⟨a, vs, rfl, hq, r⟩ := (show DR K F _ x from r)
    exact .inl ⟨vs, .inl (.inl (sf.ls hq)), by rw [all2_empty (DRs_iff.mp r)]⟩
  · cases e
    obtain ⟨a, vs, rfl, hq, r⟩ := (show DR K F _ x from r)
    exact .inr (.inl ⟨vs, .inl (.inl (sf.tp hq)), by rw [all2_empty (DRs_iff.mp r)]⟩)
  · cases e
    obtain ⟨a, vs, rfl, hq, r⟩ := r
    exact .inl ⟨vs, .inl (.inl hq), by rw [all2_empty (VRs_iff.mp r)]⟩
  · cases e
end
section
variable {P : Program} {w : World} {base : Heap} {K : Kf} {mg : Str → Option Value} {k : Nat} {ι : Type} {X : ι → Cx} {E : XS} {e a b c o : Expr} {es : List Expr} {kws : List Keyword} {pos apos cpos p p' : Pos} {m n l : ME} {ms : MA} {x y : Str}
theorem Fm.z (fm : Fm P w K mg base k X E) : Fm P w K mg base k X NX := { fm with tk := fun _ => takesN }
def DKw (K : Kf) (E : XS) {ι : Type} (X : ι → Cx) (ks : List Keyword) (m : MA) : Prop := ∃ t, (∀ j, PK (X j) ks t) ∧ EvA K E t m
theorem dkw0 : DKw K E X [] mNil := ⟨_, fun _ => pk_nil, ev_nil⟩
theorem dkw {nm : Option Str} {kpos : Pos} (h : DE K E X e m) (h' : DKw K E X kws ms) : DKw K E X (⟨nm, e, kpos⟩ :: kws) (mCons m ms) := let ⟨_, h1, h2⟩ := h; let ⟨_, h3, h4⟩ := h'; ⟨_, fun j => pk_cons (h1 j) (h3 j), ev_cons h2 h4⟩
def BindsW (K : Kf) (fd : FuncData) (ps ks : List Str) : Prop := ∀ (s : Shared) (u : Value) (ws : List Value), K.In s.heap → ws.length = ks.length → BindsTo s fd ⟨[u], ks.zip ws⟩ (ps.zip (u :: ws))
end
theorem kit_own {K : Kf} {C : Addr} {b : String} {r : Bool} (hm : PySem.W.kitMeta b = true) (h : PySem.W.mroIn K C (.type b) = some r) : PySem.W.kitOne K (.ref C) (.type b) = some r := by
  unfold PySem.W.kitOne PySem.W.kitCls
  rw [if_neg (by simp)]
  show (if PySem.W.kitMeta b = true then PySem.W.mroIn K C (.type b) else none) = some r
  rw [if_pos hm]
  exact h
def allO : List (Option Bool) → Option Bool
  | [] => some true
  | o :: r => match o, allO r with
    | some a, some b => some (a && b)
    | _, _ => none
def deq : Nat → D → D → Option Bool
  | 0, d, e => if flD d = true ∧ flD e = true then some (eqF d e) else none
  | n + 1, d, e => match d, e with
    | .lst ds, .lst es => if ds.length = es.length then allO ((ds.zip es).map fun p => deq n p.1 p.2) else some false
    | .tup ds, .tup es => (allO ((ds.zip es).map fun p => deq n p.1 p.2)).map fun b => b && ds.length == es.length
    | .dct ks, .dct ls => if (ks.map (·.1)).Nodup ∧ (ls.map (·.1)).Nodup then (allO (ks.map fun p => match lk ls p.1 with
        | none => some false
        | some v => deq n p.2 v)).map fun b => ks.length == ls.length && b else none
    | d, e => if flD d = true ∧ flD e = true then some (eqF d e) else none
theorem allO_cons {o : Option Bool} {r : List (Option Bool)} {b : Bool} (h : allO (o :: r) = some b) : ∃ a c, o = some a ∧ allO r = some c ∧ b = (a && c) := by
  unfold allO at h
  cases o with
  | none => simp at h
  | some a => cases hr : allO r with
    | none => rw [hr] at h; simp at h
    | some c => rw [hr] at h; cases h; exact ⟨a, c, rfl, rfl, rfl⟩
theorem allO_some {l : List (Option Bool)} {b : Bool} (h : allO l = some b) : ∀ o ∈ l, ∃ c, o = some c := by
  induction l generalizing b with
  | nil => intro o ho; cases ho
  | cons o r ih =>
    obtain ⟨a, c, rfl, hr, _⟩ := allO_cons h
    intro o' ho
    rcases List.mem_cons.mp ho with e | ho
    · exact ⟨a, e⟩
    · exact ih hr o' ho
theorem allO_eq {l : List (Option Bool)} {b : Bool} (h : allO l = some b) : b = l.all (fun o => o == some true) := by
  induction l generalizing b with
  | nil => cases h; rfl
  | cons o r ih =>
    obtain ⟨a, c, rfl, hr, rfl⟩ := allO_cons h
    rw [List.all_cons, ← ih hr]
    cases a <;> rfl
theorem range_all_list {α : Type} (l : List α) (f : Nat → Bool) (g : α → Bool) (h : ∀ i (hi : i < l.length), f i = g l[i]) : (List.range l.length).all f = l.all g := by
  rw [Bool.eq_iff_iff, List.all_eq_true, List.all_eq_true]
  constructor
  · intro k x hx
    obtain ⟨i, hi, e⟩ := List.getElem_of_mem hx
    have := k i (List.mem_range.mpr hi)
    rw [h i hi, e] at this
    exact this
  · intro k i hi
    have hi := List.mem_range.mp hi
    rw [h i hi]
    exact k _ (List.getElem_mem hi)
theorem DRs.get {K : Kf} {F : Hp} : ∀ {ds : List D} {vs : List V}, DRs K F ds vs → vs.length = ds.length ∧ ∀ (i : Nat) (d : D) (v : V), ds[i]? = some d → vs[i]? = some v → DR K F d v
  | [], vs, h => by cases (show vs = [] from h); exact ⟨rfl, fun i d v h => by simp at h⟩
  | d :: r, vs, ⟨v, vs', e, h1, h2⟩ => by
    subst e
    obtain ⟨hl, hg⟩ := DRs.get h2
    refine ⟨by simp [hl], fun i d' v' hd hv => ?_⟩
    cases i with
    | zero => simp at hd hv; subst hd; subst hv; exact h1
    | succ i => simp at hd hv; exact hg i d' v' hd hv
theorem DRk.keys {K : Kf} {F : Hp} : ∀ {ds : List (Key × D)} {vs : List (Key × V)}, DRk K F ds vs → vs.map (·.1) = ds.map (·.1)
  | [], vs, h => by cases (show vs = [] from h); rfl
  | (k, d) :: r, vs, ⟨v, vs', e, h1, h2⟩ => by
    subst e
    simp only [List.map_cons, DRk.keys h2, h1.1]
theorem DRk.lk {K : Kf} {F : Hp} {k : Key} : ∀ {ds : List (Key × D)} {vs : List (Key × V)}, DRk K F ds vs → match DL.lk ds k, DL.lk vs k with
    | some d, some v => DR K F d v
    | none, none => True
    | _, _ => False
  | [], vs, h => by cases (show vs = [] from h); trivial
  | (k', d) :: r, vs, ⟨v, vs', e, h1, h2⟩ => by
    subst e
    simp only [DL.lk, h1.1]
    by_cases hk : k' = k
    · simp only [hk, if_true]; exact h1.2
    · simp only [hk, if_false]; exact DRk.lk h2
theorem flD_noref {K : Kf} {F : Hp} {d : D} {x : V} (f : flD d = true) (h : DR K F d x) (a : Addr) : x ≠ .ref a := by
  cases d <;> simp [flD] at f <;> (cases (show x = _ from h); intro e; cases e)
theorem lk_at {κ α : Type} [DecidableEq κ] {l : List (κ × α)} {k : κ} {a : α} (nd : (l.map (·.1)).Nodup) (h : (k, a) ∈ l) : lk l k = some a := by
  induction l with
  | nil => cases h
  | cons p r ih =>
    simp only [List.map_cons, List.nodup_cons] at nd
    simp only [lk]
    rcases List.mem_cons.mp h with e | h
    · subst e; simp
    · rw [if_neg, ih nd.2 h]
      intro e; exact nd.1 (e ▸ List.mem_map_of_mem (f := (·.1)) h)
theorem deq_same {K : Kf} {F : Hp} : ∀ (n : Nat) (d e : D) (x : V) (b : Bool), DR K F d x → DR K F e x → deq n d e = some b → b = true
  | 0, d, e, x, b, hd, he, h => by
    unfold deq at h
    split at h
    · rename_i hf
      cases h
      have := eqF_ok hf.1 hf.2 hd he
      rw [← this]
      cases d <;> simp [flD] at hf <;> cases (show x = _ from hd) <;> simp [eqV]
    · cases h
  | n + 1, d, e, x, b, hd, he, h => by
    have flat : ∀ d e, DR K F d x → DR K F e x → flD d = true ∧ flD e = true → eqF d e = true := fun d e hd he hf => by
      have := eqF_ok hf.1 hf.2 hd he
      rw [← this]
      cases d <;> simp [flD] at hf <;> cases (show x = _ from hd) <;> simp [eqV]
    have items : ∀ {ds es : List D} {vs : List V}, DRs K F ds vs → DRs K F es vs → ∀ {c}, allO ((ds.zip es).map fun p => deq n p.1 p.2) = some c → c = true := fun {ds es vs} h1 h2 {c} hc => by
      rw [allO_eq hc, List.all_eq_true]
      intro o ho
      obtain ⟨⟨d', e'⟩, hm, rfl⟩ := List.mem_map.mp ho
      obtain ⟨c', hc'⟩ := allO_some hc _ ho
      obtain ⟨i, hi, e1⟩ := List.getElem_of_mem hm
      rw [List.getElem_zip] at e1
      have hi' := hi
      rw [List.length_zip] at hi'
      have e2 : ds[i]? = some d' := by rw [List.getElem?_eq_getElem (by omega)]; exact congrArg some (congrArg Prod.fst e1)
      have e3 : es[i]? = some e' := by rw [List.getElem?_eq_getElem (by omega)]; exact congrArg some (congrArg Prod.snd e1)
      have hvl : i < vs.length := by rw [h1.get.1]; omega
      have := deq_same n d' e' vs[i] c' (h1.get.2 i d' _ e2 (List.getElem?_eq_getElem hvl)) (h2.get.2 i e' _ e3 (List.getElem?_eq_getElem hvl)) hc'
      subst this
      simp only [hc']; rfl
    unfold deq at h
    split at h
    · obtain ⟨a, vs, e1, q1, r1⟩ := hd
      obtain ⟨a', vs', e2, q2, r2⟩ := he
      subst e1; cases e2
      cases q1.symm.trans q2
      rw [if_pos (r1.get.1.symm.trans r2.get.1)] at h
      exact items r1 r2 h
    · obtain ⟨a, vs, e1, q1, r1⟩ := hd
      obtain ⟨a', vs', e2, q2, r2⟩ := he
      subst e1; cases e2
      cases q1.symm.trans q2
      obtain ⟨c, hc, rfl⟩ := Option.map_eq_some_iff.mp h
      rw [items r1 r2 hc, r1.get.1.symm.trans r2.get.1]; simp
    · obtain ⟨a, vs, e1, q1, r1⟩ := hd
      obtain ⟨a', vs', e2, q2, r2⟩ := he
      subst e1; cases e2
      cases Rd.dK_inj q1 q2
      split at h
      · rename_i ks ls nd
        obtain ⟨c, hc, rfl⟩ := Option.map_eq_some_iff.mp h
        have hl : ks.length = ls.length := by
          have := congrArg List.length (r1.keys.symm.trans r2.keys); simpa using this
        rw [hl]
        simp only [BEq.rfl, Bool.true_and]
        rw [allO_eq hc, List.all_eq_true]
        intro o ho
        obtain ⟨⟨k, d'⟩, hm, rfl⟩ := List.mem_map.mp ho
        obtain ⟨c', hc'⟩ := allO_some hc _ ho
        have k1 : lk ks k = some d' := lk_at nd.1 hm
        have g1 := r1.lk (k := k)
        have g2 := r2.lk (k := k)
        rw [k1] at g1
        cases hv : lk vs k with
        | none => rw [hv] at g1; exact g1.elim
        | some v =>
          rw [hv] at g1 g2
          cases hls : lk ls k with
          | none => rw [hls] at g2; exact g2.elim
          | some e' =>
            rw [hls] at g2
            simp only [hls] at hc' ⊢
            have := deq_same n d' e' v c' g1 g2 hc'
            subst this
            simp only [hc']; rfl
      · cases h
    · rename_i d e n1 n2 n3
      split at h
      · rename_i hf; cases h; exact flat _ _ hd he hf
      · cases h
section
variable {X : Cx} {pins : List (Addr × Obj)} {σ : L2.St} {H : Hp} {s : Shared}
theorem vals_get : ∀ {vs : List V} {us : List Value}, Vals vs us → ∀ (i : Nat) (v : V) (u : Value), vs[i]? = some v → us[i]? = some u → RelV v u
  | _, _, .nil, i, v, u, h, _ => by simp at h
  | _, _, .cons a b, i, v, u, h, h' => by
    cases i with
    | zero => simp at h h'; subst h; subst h'; exact a
    | succ i => simp at h h'; exact vals_get b i v u h h'
theorem deq_run (I : Inv X pins σ H s) : ∀ (n : Nat) (d e : D) (x y : V) (v u : Value) (b : Bool), DR X.K H d x → DR X.K H e y → deq n d e = some b → RelV x v → RelV y u →
    (∀ A : Around, A.units + n < cLine → SeqAt.EqIn X.prog X.w A s v u b) ∧ ((∃ p q, x = .ref p ∧ y = .ref q) → ∀ A : Around, A.units + n < cLine → ∀ (E Q : Value → Shared → Prop), Q (.bool b) s → wpAny (model X.prog X.w) A (richCompare .Eq v u) Q E s)
  | 0, d, e, x, y, v, u, b, hd, he, h, rx, ry => by
    unfold deq at h
    split at h
    · rename_i hf
      cases h
      refine ⟨fun A _ => ?_, fun ⟨p, q, e1, _⟩ => absurd e1 (flD_noref hf.1 hd p)⟩
      rw [← eqF_ok hf.1 hf.2 hd he]
      have f1 : flatV x = true := by cases d <;> simp [flD] at hf <;> cases (show x = _ from hd) <;> rfl
      have f2 : flatV y = true := by cases e <;> simp [flD] at hf <;> cases (show y = _ from he) <;> rfl
      exact (eqAt_V rx ry f1 f2).inModel _ _
    · cases h
  | n + 1, d, e, x, y, v, u, b, hd, he, h, rx, ry => by
    have flat : flD d = true ∧ flD e = true → b = eqF d e → (∀ A : Around, A.units + (n + 1) < cLine → SeqAt.EqIn X.prog X.w A s v u b) ∧ ((∃ p q, x = .ref p ∧ y = .ref q) → ∀ A : Around, A.units + (n + 1) < cLine → ∀ (E Q : Value → Shared → Prop), Q (.bool b) s → wpAny (model X.prog X.w) A (richCompare .Eq v u) Q E s) := fun hf hb => by
      refine ⟨fun A _ => ?_, fun ⟨p, q, e1, _⟩ => absurd e1 (flD_noref hf.1 hd p)⟩
      rw [hb, ← eqF_ok hf.1 hf.2 hd he]
      have f1 : flatV x = true := by cases d <;> simp [flD] at hf <;> cases (show x = _ from hd) <;> rfl
      have f2 : flatV y = true := by cases e <;> simp [flD] at hf <;> cases (show y = _ from he) <;> rfl
      exact (eqAt_V rx ry f1 f2).inModel _ _
    have wrap : ∀ p q, x = .ref p → y = .ref q → (∀ A : Around, A.units + (n + 1) < cLine → ∀ (E Q : Value → Shared → Prop), Q (.bool b) s → wpAny (model X.prog X.w) A (richCompare .Eq v u) Q E s) →
        (∀ A : Around, A.units + (n + 1) < cLine → SeqAt.EqIn X.prog X.w A s v u b) ∧ ((∃ p q, x = .ref p ∧ y = .ref q) → ∀ A : Around, A.units + (n + 1) < cLine → ∀ (E Q : Value → Shared → Prop), Q (.bool b) s → wpAny (model X.prog X.w) A (richCompare .Eq v u) Q E s) := fun p q e1 e2 k => by
      refine ⟨fun A hu => ?_, fun _ => k⟩
      subst e1; subst e2
      cases (show v = Value.ref p from rx)
      cases (show u = Value.ref q from ry)
      by_cases hpq : p = q
      · subst hpq
        rw [deq_same (n + 1) d e (.ref p) b hd he h]
        exact (SeqAt.EqAt.same _).inModel _ _
      · exact SeqAt.EqIn.of_refs hpq (k A hu)
    have items : ∀ {ds es : List D} {vs ws : List V} {us us' : List Value}, DRs X.K H ds vs → DRs X.K H es ws → Vals vs us → Vals ws us' → ∀ {c}, allO ((ds.zip es).map fun p => deq n p.1 p.2) = some c → ∀ A : Around, A.units + n < cLine →
        ∀ j (h1 : j < us.toArray.size) (h2 : j < us'.toArray.size), ∃ (hj : j < (ds.zip es).length), SeqAt.EqIn X.prog X.w A s us.toArray[j] us'.toArray[j] (deq n (ds.zip es)[j].1 (ds.zip es)[j].2 == some true) := by
      intro ds es vs ws us us' h1 h2 r1 r2 c hc A hu j b1 b2
      simp only [List.size_toArray] at b1 b2
      have l1 := h1.get.1; have l2 := h2.get.1; have l3 := r1.length; have l4 := r2.length
      have hj : j < (ds.zip es).length := by rw [List.length_zip]; omega
      refine ⟨hj, ?_⟩
      obtain ⟨c', hc'⟩ := allO_some hc _ (List.mem_map_of_mem (f := fun p => deq n p.1 p.2) (List.getElem_mem hj))
      have hc'' : deq n (ds.zip es)[j].1 (ds.zip es)[j].2 = some c' := hc'
      rw [hc'']
      have e0 : (ds.zip es)[j] = (ds[j]'(by omega), es[j]'(by omega)) := List.getElem_zip
      rw [e0] at hc''
      have := (deq_run I n ds[j] es[j] vs[j] ws[j] us[j] us'[j] c' (h1.get.2 j _ _ (List.getElem?_eq_getElem (by omega)) (List.getElem?_eq_getElem (by omega))) (h2.get.2 j _ _ (List.getElem?_eq_getElem (by omega)) (List.getElem?_eq_getElem (by omega))) hc''
        (vals_get r1 j _ _ (List.getElem?_eq_getElem (by omega)) (List.getElem?_eq_getElem (by omega))) (vals_get r2 j _ _ (List.getElem?_eq_getElem (by omega)) (List.getElem?_eq_getElem (by omega)))).1 A hu
      have e3 : (some c' == some true) = c' := by cases c' <;> rfl
      rw [e3]
      simpa using this
    unfold deq at h
    split at h
    · rename_i ds es
      obtain ⟨p, vs, e1, q1, r1⟩ := id hd
      obtain ⟨q, ws, e2, q2, r2⟩ := id he
      subst e1; subst e2
      cases (show v = Value.ref p from rx)
      cases (show u = Value.ref q from ry)
      refine wrap p q rfl rfl fun A hu E Q hq => ?_
      obtain ⟨us, s1, p1, _⟩ := I.list (SqL.of q1)
      obtain ⟨us', s2, p2, _⟩ := I.list (SqL.of q2)
      have l1 := r1.get.1; have l2 := r2.get.1; have l3 := s1.length; have l4 := s2.length
      split at h
      · rename_i hl
        have hsz : us.toArray.size = us'.toArray.size := by simp only [List.size_toArray]; omega
        have it := items r1 r2 s1 s2 h A.in1 (by show A.units + 1 + n < cLine; omega)
        refine SeqAt.rcIn_lists (e := fun j => if hj : j < (ds.zip es).length then (deq n (ds.zip es)[j].1 (ds.zip es)[j].2 == some true) else true) p1.isList p2.isList hsz (by omega) (fun j b1 b2 => ?_) ?_
        · obtain ⟨hj, k⟩ := it j b1 b2
          simp only [hj, dif_pos]; exact k
        · have hz : us.toArray.size = (ds.zip es).length := by simp only [List.size_toArray, List.length_zip]; omega
          rw [hz, range_all_list (ds.zip es) _ (fun p => deq n p.1 p.2 == some true) (fun i hi => by simp only [hi, dif_pos])]
          rw [allO_eq h, List.all_map] at hq
          exact hq
      · rename_i hl
        cases h
        exact SeqAt.RcAt.lists_lengths p1.isList p2.isList (by simp only [List.size_toArray, bne_iff_ne]; omega) (by omega) X.prog X.w E Q hq
    · rename_i ds es
      obtain ⟨p, vs, e1, q1, r1⟩ := id hd
      obtain ⟨q, ws, e2, q2, r2⟩ := id he
      subst e1; subst e2
      cases (show v = Value.ref p from rx)
      cases (show u = Value.ref q from ry)
      refine wrap p q rfl rfl fun A hu E Q hq => ?_
      obtain ⟨us, s1, p1, _⟩ := I.tuple (.inl (.inl q1))
      obtain ⟨us', s2, p2, _⟩ := I.tuple (.inl (.inl q2))
      have l1 := r1.get.1; have l2 := r2.get.1; have l3 := s1.length; have l4 := s2.length
      obtain ⟨c, hc, rfl⟩ := Option.map_eq_some_iff.mp h
      have it := items r1 r2 s1 s2 hc A.in1 (by show A.units + 1 + n < cLine; omega)
      refine SeqAt.rcIn_tuples (e := fun j => if hj : j < (ds.zip es).length then (deq n (ds.zip es)[j].1 (ds.zip es)[j].2 == some true) else true) p1 p2 (by omega) (fun j b1 b2 => ?_) ?_
      · obtain ⟨hj, k⟩ := it j b1 b2
        simp only [hj, dif_pos]; exact k
      · have hz : min us.toArray.size us'.toArray.size = (ds.zip es).length := by simp only [List.size_toArray, List.length_zip]; omega
        have hl : (us.toArray.size == us'.toArray.size) = (ds.length == es.length) := by
          simp only [List.size_toArray]; rw [show us.length = ds.length by omega, show us'.length = es.length by omega]
        rw [hz, hl, range_all_list (ds.zip es) _ (fun p => deq n p.1 p.2 == some true) (fun i hi => by simp only [hi, dif_pos])]
        rw [allO_eq hc, List.all_map] at hq
        exact hq
    · rename_i ks ls
      split at h
      · rename_i nd
        obtain ⟨p, kvs, e1, q1, r1⟩ := id hd
        obtain ⟨q, lvs, e2, q2, r2⟩ := id he
        subst e1; subst e2
        cases (show v = Value.ref p from rx)
        cases (show u = Value.ref q from ry)
        refine wrap p q rfl rfl fun A hu E Q hq => ?_
        obtain ⟨_, ya, va, ra, da⟩ := q1.ok I.hok
        obtain ⟨_, yb, vb, rb, db⟩ := q2.ok I.hok
        obtain ⟨c, hc, rfl⟩ := Option.map_eq_some_iff.mp h
        have hits : ∀ (ks0 : List (Key × D)) (kvs0 : List (Key × V)) (va0 : List (Key × Value)) (c0 : Bool), DRk X.K H ks0 kvs0 → KV kvs0 va0 → allO (ks0.map fun p => match lk ls p.1 with | none => some false | some v => deq n p.2 v) = some c0 → PySem.W.KeqHitsIn X.prog X.w A.in1 s vb va0 c0 := by
          intro ks0
          induction ks0 with
          | nil =>
            intro kvs0 va0 c0 g1 g2 g3
            cases (show kvs0 = [] from g1)
            cases g2
            cases g3
            exact .nil
          | cons kd ks0 ih =>
            obtain ⟨k0, d0⟩ := kd
            rintro kvs0 va0 c0 ⟨v0, kvs1, rfl, g0, g1⟩ g3 g4
            obtain ⟨g0, gd⟩ := g0
            obtain ⟨a1, c1, x1, x2, rfl⟩ := allO_cons g4
            unfold KV at g3
            cases g3 with
            | @cons _ q1' _ va1 t1 t2 =>
            obtain ⟨key, v1⟩ := q1'
            obtain ⟨t3, t4⟩ := t1
            have t3 : v0.1 = key := t3
            rw [g0] at t3
            subst t3
            have rv := rb.val k0
            have gl := r2.lk (k := k0)
            rw [valV_lk] at rv
            simp only at x1
            cases hk : lk ls k0 with
            | none =>
              rw [hk] at x1 gl
              cases x1
              cases hv : lk lvs k0 with
              | some _ => rw [hv] at gl; exact gl.elim
              | none =>
                rw [hv] at rv
                refine .miss ?_
                cases hva : valueAt vb k0 with
                | none => rfl
                | some _ => rw [hva] at rv; exact rv.elim
            | some e0 =>
              rw [hk] at x1 gl
              cases hv : lk lvs k0 with
              | none => rw [hv] at gl; exact gl.elim
              | some w0 =>
                rw [hv] at rv gl
                obtain ⟨y1, hy, ry⟩ := rv.some_of
                refine .hit hy ?_ (ih kvs1 va1 c1 g1 t2 x2)
                exact (deq_run I n d0 e0 v0.2 w0 v1 y1 a1 gd gl x1 t4 ry).1 A.in1 (by show A.units + 1 + n < cLine; omega)
        refine PySem.W.keq_eqIn (knd := mixKind X.prog X.w) ya yb da db (by omega) (fun _ => hits ks kvs va c r1 ra hc) ?_
        have l1 : va.length = ks.length := by rw [← ra.length]; have := congrArg List.length r1.keys; simpa using this
        have l2 : vb.length = ls.length := by rw [← rb.length]; have := congrArg List.length r2.keys; simpa using this
        rw [l1, l2]
        exact hq
      · cases h
    · rename_i d e n1 n2 n3
      split at h
      · rename_i hf; cases h; exact flat hf rfl
      · cases h
end
def nodeK : D → D → Bool
  | .lst _, .lst _ => true | .tup _, .tup _ => true | .dct _, .dct _ => true
  | _, _ => false
def rEqDD (K : Kf) : R2 := fun x y H Q => ∃ d e b, DR K H d x ∧ DR K H e y ∧ nodeK d e = true ∧ deq 60 d e = some b ∧ Q (.bl b) H
def oEqDD : List D → Option D
  | [a, b] => if nodeK a b = true then (deq 60 a b).map .bl else none
  | _ => none
theorem nodeK_ref {K : Kf} {F : Hp} {d e : D} {x y : V} (f : nodeK d e = true) (h : DR K F d x) (k : DR K F e y) : ∃ p q, x = .ref p ∧ y = .ref q := by
  cases d <;> cases e <;> simp [nodeK] at f <;> (obtain ⟨a, _, e1, _⟩ := h; obtain ⟨b, _, e2, _⟩ := k; exact ⟨a, b, e1, e2⟩)
theorem op_eqDD {X : Cx} (hu : X.A.units + 64 < cLine) : OpR X (compareOp .Eq) (rEqDD X.K) := by
  intro pins s σ H x y v u Q I rx ry h
  obtain ⟨d, e, b, hd, he, hn, hq, q⟩ := h
  exact (deq_run I 60 d e x y v u b hd he hq rx ry).2 (nodeK_ref hn hd he) X.A (by omega) _ _ ⟨.bl b, H, I, rfl, q⟩
theorem od_eqDD {K : Kf} : OpD K (r2 (rEqDD K)) oEqDD := by
  intro H us xs d Q vr e q
  unfold oEqDD at e
  split at e
  · obtain ⟨x, _, rfl, hx, y, _, rfl, hy, rfl⟩ := vr
    split at e
    · rename_i hn
      obtain ⟨c, h1, rfl⟩ := Option.map_eq_some_iff.mp e
      exact ⟨_, _, c, hx, hy, hn, h1, q _ rfl⟩
    · cases e
  · cases e
def yEq (us : List T) : Option T := (xEq us).or (liftD oEqDD us)
theorem bEq2 {P : Program} {w : World} {base : Heap} {K : Kf} {mg : Str → Option Value} {k : Nat} {ι : Type} {X : ι → Cx} {E : XS} (fm : Fm P w K mg base k X E) : Bi K X (compareOp .Eq) yEq :=
  (bEq fm).or (Bi.of (fun j => (by have := op_eqDD (X := X j) (fm.un j); rw [fm.hk j] at this; exact this)) od_eqDD.n)
def isM : Slot → Bool
  | .mu _ => true
  | _ => false
theorem kit_self {K : Kf} (t : Value) : PySem.W.kitOne K t t = some true := by unfold PySem.W.kitOne; rw [if_pos (by simp)]
end DL
namespace DL
variable [Lf]
open PySem PySem.Spec PyProof.Rows L2 RZ
end DL
namespace DL
variable [Lf]
open PySem PySem.Spec PyProof.Rows L2
def oReprF : List D → Option D
  | [.bl b] => some (.str (if b then "True" else "False"))
  | [.non] => some (.str "None")
  | [.int i] => if i.natAbs.log2 < 1920 then some (.str (toString i)) else none
  | [.str y] => if (reprText y).length ≤ sizeLine then some (.str (reprText y)) else none
  | _ => none
def yRepr (us : List T) : Option T := (xRepr us).or (liftD oReprF us)
@[simp] theorem yRepr_non : yRepr [.sh .non] = some (.sh (.str "None")) := rfl
@[simp] theorem yRepr_bl (b : Bool) : yRepr [.sh (.bl b)] = some (.sh (.str (if b then "True" else "False"))) := rfl
end DL
namespace DL
variable [Lf]
open PySem PySem.Spec PyProof.Rows L2 SrtO
end DL
namespace DL
variable [Lf]
open PySem PySem.Spec PyProof.Rows L2
end DL
namespace DL
variable [Lf]
open PySem PySem.Spec PyProof.Rows L2 HT
end DL
namespace DL
variable [Lf]
open PySem PySem.Spec PyProof.Rows L2
def augFT (C : Addr) (f : Str) (g : Int → Int → Int) (k : Int) : T → Option (T × Unit)
  | .ins C' fs => match lk fs f with
    | some (.sh (.int a)) => if C' = C ∧ fs.length < 1000 then some (.ins C' (pk fs f (.sh (.int (g a k)))), ()) else none
    | _ => none
  | _ => none
def mAugF (C : Addr) (f : Str) (g : Int → Int → Int) (k : Int) (mo : ME) : MS := fun e => match mo e with
  | .ok (.pl i p, e1) => match updP i p (augFT C f g k) e1 with
    | some (_, e2) => .ok (.nx e2)
    | none => .st
  | .ok _ => .st
  | .ex c e1 => .ex c e1
  | .st => .st
@[simp] theorem mAugF_ap (C : Addr) (f : Str) (g : Int → Int → Int) (k : Int) (mo : ME) (e : Env) : mAugF C f g k mo e = (match mo e with
  | .ok (.pl i p, e1) => match updP i p (augFT C f g k) e1 with
    | some (_, e2) => .ok (.nx e2)
    | none => .st
  | .ok _ => .st
  | .ex c e1 => .ex c e1
  | .st => .st) := rfl
def gLClear : T → List T → Option (T × T)
  | .lst _, [] => some (.lst [], .sh .non)
  | _, _ => none
@[simp] theorem gLClear_lst (x) : gLClear (.lst x) [] = some (.lst [], .sh .non) := rfl
def arr {α : Type} (dm : α) : List (Option Nat) → List α → List α → List α
  | [], _, _ => []
  | some i :: ix, _ :: ds, l => l.getD i dm :: arr dm ix ds l
  | none :: ix, d :: ds, l => d :: arr dm ix ds l
  | _ :: _, [], _ => []
def mMakeA (C : Addr) (m : Nat) (ix : List (Option Nat)) (ds : List Int) (f : MF) (ms : MA) : ME := fun e => (ms e).bnd fun vs e1 => if vs.length = m then match cns vs e1 with
    | some ts => match f (.mu (.ins C []) :: (arr (.sh .non) ix (ds.map fun i => .sh (.int i)) ts).map argS) with
      | .ret (.sh .non) (some u) => .ok (.tv u, e1)
      | .exc c (some _) => .ex c e1
      | _ => .st
    | none => .st
  else .st
@[simp] theorem mMakeA_ap (C : Addr) (m : Nat) (ix : List (Option Nat)) (ds : List Int) (f : MF) (ms : MA) (e : Env) : mMakeA C m ix ds f ms e = (ms e).bnd fun vs e1 => if vs.length = m then match cns vs e1 with
    | some ts => match f (.mu (.ins C []) :: (arr (.sh .non) ix (ds.map fun i => .sh (.int i)) ts).map argS) with
      | .ret (.sh .non) (some u) => .ok (.tv u, e1)
      | .exc c (some _) => .ex c e1
      | _ => .st
    | none => .st
  else .st := rfl
@[simp] theorem arr_nil {α : Type} (dm : α) (ds l) : arr dm [] ds l = [] := rfl
@[simp] theorem arr_some {α : Type} (dm d : α) (i ix ds l) : arr dm (some i :: ix) (d :: ds) l = l.getD i dm :: arr dm ix ds l := rfl
@[simp] theorem arr_none {α : Type} (dm d : α) (ix ds l) : arr dm (none :: ix) (d :: ds) l = d :: arr dm ix ds l := rfl
section
variable {P : Program} {w : World} {base : Heap} {K : Kf} {mg : Str → Option Value} {k : Nat} {ι : Type} {X : ι → Cx} {E : XS} {e o : Expr} {es : List Expr} {apos cpos : Pos} {m : ME} {ms : MA}
def extT (ds : List D) : T → Option (T × Unit)
  | .lst ts => if ts.length + ds.length ≤ sizeLine then some (.lst (ts ++ ds.map .sh), ()) else none
  | _ => none
def mExt (mo ma : ME) : ME := fun e => (mCons (mChk isL mo) (mCons ma mNil) e).bnd fun vs e1 => match vs with
  | [.pl i p, w] => match (cn w e1).bind kidsL with
    | some ds => match updP i p (extT ds) e1 with
      | some (_, e2) => .ok (.tv (.sh .non), e2)
      | none => .st
    | none => .st
  | _ => .st
end
@[simp] theorem mExt_ap (mo ma : ME) (e : Env) : mExt mo ma e = (mCons (mChk isL mo) (mCons ma mNil) e).bnd fun vs e1 => match vs with
  | [.pl i p, w] => match (cn w e1).bind kidsL with
    | some ds => match updP i p (extT ds) e1 with
      | some (_, e2) => .ok (.tv (.sh .non), e2)
      | none => .st
    | none => .st
  | _ => .st := rfl
def mMutT (c : T → Bool) (f : T → List T → Option (T × T)) (m : ME) (ms : MA) : ME := fun e => (mCons (mChk c m) ms e).bnd fun vs e1 => match vs with
  | .tv t :: r => match tvs r with
    | some us => if notSh t = true then match f t us with
        | some (_, rt) => .ok (.tv rt, e1)
        | none => .st
      else .st
    | none => .st
  | _ => .st
@[simp] theorem mMutT_ap (c : T → Bool) (f : T → List T → Option (T × T)) (m : ME) (ms : MA) (e : Env) : mMutT c f m ms e = (mCons (mChk c m) ms e).bnd fun vs e1 => match vs with
  | .tv t :: r => match tvs r with
    | some us => if notSh t = true then match f t us with
        | some (_, rt) => .ok (.tv rt, e1)
        | none => .st
      else .st
    | none => .st
  | _ => .st := rfl
end DL
namespace DL
variable [Lf]
open PySem PySem.Spec PyProof.Rows L2 HT
def mSlA (ms : MA) : ME := fun e => (ms e).bnd fun vs e1 => match cns vs e1 with
  | some us => match oSl us with
    | some t => .ok (.tv t, e1)
    | none => match us with
      | [.sh (.tup ds), .sh (.int i)] => .ok (.tv (.sh (.tup (cut ds (some i) none))), e1)
      | _ => .st
  | none => .st
@[simp] theorem mSlA_ap (ms : MA) (e : Env) : mSlA ms e = (ms e).bnd fun vs e1 => match cns vs e1 with
  | some us => match oSl us with
    | some t => .ok (.tv t, e1)
    | none => match us with
      | [.sh (.tup ds), .sh (.int i)] => .ok (.tv (.sh (.tup (cut ds (some i) none))), e1)
      | _ => .st
  | none => .st := rfl
end DL
namespace DL
variable [Lf]
open PySem PySem.Spec PyProof PyProof.Rows L2 HT
def mItemsA (m : ME) : ME := fun e => (m e).bnd fun v e1 => match cns [v] e1 with
  | some [.sh (.dct kds)] => .ok (.tv (.lst (kds.map fun q => .sh (.tup [kD q.1, q.2]))), e1)
  | some [.dct kts] => match allShK kts with
    | some kds => .ok (.tv (.lst (kds.map fun q => .sh (.tup [kD q.1, q.2]))), e1)
    | none => .st
  | _ => .st
@[simp] theorem mItemsA_ap (m : ME) (e : Env) : mItemsA m e = (m e).bnd fun v e1 => match cns [v] e1 with
  | some [.sh (.dct kds)] => .ok (.tv (.lst (kds.map fun q => .sh (.tup [kD q.1, q.2]))), e1)
  | some [.dct kts] => match allShK kts with
    | some kds => .ok (.tv (.lst (kds.map fun q => .sh (.tup [kD q.1, q.2]))), e1)
    | none => .st
  | _ => .st := rfl
end DL
namespace DL
variable [Lf]
open PySem PySem.Spec PyProof.Rows L2 HT
def mCallA (m : Nat) (ix : List (Option Nat)) (ds : List Int) (f : MF) (ms : MA) : ME := fun e => (ms e).bnd fun vs e1 => if vs.length = m + 1 then match cns vs e1 with
    | some (t :: ts) => match f (argS t :: (arr (.sh .non) ix (ds.map fun i => .sh (.int i)) ts).map argS) with
      | .ret t none => .ok (.tv t, e1)
      | .exc c none => .ex c e1
      | _ => .st
    | _ => .st
  else .st
def mMethA (C : Addr) (mn : Str) (m : Nat) (ix : List (Option Nat)) (ds : List Int) (f : MF) (o : ME) (ms : MA) : ME := mCallA m ix ds f (mCons (mChk (isI C mn) o) ms)
@[simp] theorem mMethA_ap (C : Addr) (mn : Str) (m : Nat) (ix : List (Option Nat)) (ds : List Int) (f : MF) (o : ME) (ms : MA) (e : Env) : mMethA C mn m ix ds f o ms e = (mCons (mChk (isI C mn) o) ms e).bnd fun vs e1 => if vs.length = m + 1 then match cns vs e1 with
    | some (t :: ts) => match f (argS t :: (arr (.sh .non) ix (ds.map fun i => .sh (.int i)) ts).map argS) with
      | .ret t none => .ok (.tv t, e1)
      | .exc c none => .ex c e1
      | _ => .st
    | _ => .st
  else .st := rfl
end DL
namespace PySem.W
open PySem PySem.Spec PyProof.Rows PySem.Builtin PySem.Builtin.ObjectAttr
section
variable {K : Frag} {prog : Program} {w : World} {A : Around} {E : Value → Shared → Prop} {s : Shared} {a D : Addr} {oa : Obj} {od : Option Obj}
theorem fo_data {name : Str} {t g : Value} (hc : (clsIn K D).isSome = true) (ha : findIn K (.ref D) name = some (some t)) (hg : specialIn K t "__get__" = some (some g)) (ht : takesIn K t = some true) : findObj K D od name = some (.bind g t) := by
  obtain ⟨cd, q⟩ := Option.isSome_iff_exists.mp hc
  simp only [findObj, q, ha, hg, ht, Option.bind_some]
theorem exn_class (C : L2.ExcC K D) {Q : Option Value → Shared → Prop} (X : K.In s.heap) (I : InstAt s.heap a oa D od) (h : Q (some (.ref D)) { s with toks := s.toks + 1 }) : wpAny (model prog w) A (getAttr? (.ref a) "__class__") Q E s := by
  obtain ⟨hp, gs, dr, tk, os⟩ := s
  have ty0 := I.type (M := model prog w); have hk1 := looks_findIn (M := model prog w) X C.hg; have hk2 := looks_findIn (M := model prog w) X C.hk
  have fd := looks_find (M := model prog w) X I (fo_data (od := od) (by obtain ⟨cd, z, _⟩ := any_some C.hd; rw [z]; rfl) C.ha C.hn C.ht)
  have isB : Looks (model prog w) hp (isInstance (.ref a) (.type "BaseException")) true := ty0.andThen (looks_subIn X C.hs)
  have n0 : (Value.builtin "BaseException.__getattribute__" == Value.builtin "object.__getattribute__") = false := by decide +kernel
  have n1 : (onTheHeap (Value.ref D) && Value.builtin "BaseException.__getattribute__" == Value.builtin "object.__getattribute__") = false := by rw [n0]; rfl
  have n2 : (false && onTheHeap (Value.builtin "BaseException.__getattribute__")) = false := rfl
  unfold getAttr? getAttrBy? getAttrBy
  refine wpAny_bind (wpAny_mkText (wpAny_bind (wpAny_attempt (wpAny_holding (wpAny_bind (ty0.at (wpAny_bind (hk1.at ?_))))))))
  show wpAny _ _ (if (onTheHeap (Value.ref D) && Value.builtin "BaseException.__getattribute__" == Value.builtin "object.__getattribute__") = true then _ else _) _ _ _
  rw [n1, if_neg Bool.false_ne_true]
  unfold getAttrByItsOwn hookBefore; refine wpAny_bind ?_
  rw [if_pos (show onTheHeap (Value.ref D) = true from rfl)]
  refine hk2.at (wpAny_bind (wpAny_attempt (wpAny_holding ?_)))
  unfold callGetattribute; rw [n2, if_neg Bool.false_ne_true]
  unfold boundAndCalled; rw [PySem.F.excAttr_ValueError.ga.bind (.ref a)]
  refine wpAny_bind (wpAny_pure ?_)
  show wpAny _ _ (call (.builtin "BaseException.__getattribute__") [.ref a, .str "__class__" tk]) _ _ _
  refine wpAny_call (codeAny_call_builtin PySem.F.excAttr_ValueError.ga.plain PySem.F.entry_bexc_ga (@check_slot (model prog w) _ _ ⟨hp, gs, dr, tk + 1, os⟩ "BaseException.__getattribute__" "BaseException" "__getattribute__" (.ref a) [.str "__class__" tk] [] _ (by decide +kernel) (by decide +kernel) isB (PySem.F.args_bexc_ga (.ref a) (.str "__class__" tk)) ?_))
  unfold Builtin.«object.__getattribute__»
  refine wpAny_bind (wpAny_of_eq (a := ((Value.ref a : Value), [Value.str "__class__" tk])) (by first | rfl | (simp only [slotArgs]; rfl)) (wpAny_bind (wpAny_pure (wpAny_bind (ty0.at (wpAny_bind (fd.at ?_)))))))
  show wpAny _ _ (holding [Value.builtin "object.__class__"] (call (.builtin "getset_descriptor.__get__") [.builtin "object.__class__", .ref a, .ref D]) >>= ret) _ _ _
  refine wpAny_bind (wpAny_holding (wpAny_call (class_get (s := ⟨hp, gs, dr, tk + 1, os⟩) (ox := oa) (od := od) X I C.hm (wpAny_pure ?_))))
  show wpAny _ _ (handedOut (.ref D)) _ _ _
  rw [handedOut_of (v := .ref D) rfl]
  first | exact wpAny_pure (wpAny_pure h) | exact wpAny_pure h | exact wpAny_pure (wpAny_bind (wpAny_pure (wpAny_pure h)))
theorem exn_kit (C : L2.ExcC K D) : KitX K (.ref a) (.ref D) (fun h => InstAt h a oa D od) where
  ty := fun _ _ _ I => I.type
  it := fun _ _ X _ => by
    obtain ⟨cd, z, _⟩ := any_some C.hd
    unfold clsIn at z
    split at z
    · rename_i q1 q2 q3 q4 ho
      exact fun A' Q' E' s' k q => by unfold isType loadHead; exact wpAny_bind (wpAny_loadPart (k _ _ (X _ _ ho)) (wpAny_pure q))
    · cases z
  ne := fun h tp dd its n sl X htp => Bool.eq_false_iff.mpr fun q => by
    cases Value.ref.inj (beq_iff_eq.mp q)
    obtain ⟨cd, z, _⟩ := any_some C.hd
    unfold clsIn at z
    split at z
    · rename_i q1 q2 q3 q4 ho
      cases (X _ _ ho).symm.trans htp
    · cases z
  ca := fun X I k => exn_class C X I k
end
end PySem.W
namespace DL
variable [Lf]
open PySem PySem.Spec PyProof.Rows L2 HT
structure Exc (K : Kf) (C : Addr) : Prop where
  ex : PySem.W.excIn K C [.type "ValueError", .type "Exception", .type "BaseException", .type "object"] "ValueError.__new__" = true
  kp : PySem.W.keepIn K (.ref C) = true
  su : PySem.W.subIn K (.ref C) (.type "BaseException") = some true
  ty : PySem.W.typeIn K (.ref C) = some (.type "type")
def mRaise (C : Addr) : MS := fun e => .ex ⟨C, none⟩ e
def DcIn (H : Hp) (od : Option Addr) : Prop := od = none ∨ ∃ d fvs, od = some d ∧ H d = some (.xd fvs)
def TyE (K : Kf) (H : Hp) (x : V) (t : Value) : Prop := TyX K H x t ∨ ∃ a C od, x = .ref a ∧ t = .ref C ∧ H a = some (exR a C od) ∧ DcIn H od ∧ ExcC K C
theorem exn_at {X : Cx} {pins : List (Addr × Obj)} {σ : L2.St} {H : Hp} {s : Shared} {a C : Addr} {od : Option Addr} (I : Inv X pins σ H s) (ha : H a = some (exR a C od)) (hd : DcIn H od) :
    ∃ oe oo, PySem.W.InstAt s.heap a oe C oo ∧ (∃ vs, oe.data = .fields vs) ∧ ∀ d fvs, od = some d → H d = some (.xd fvs) → ∃ o, oo = some o ∧ ∃ mA : Str → Option Value, (∀ n, PySem.W.lookIn n o = some (mA n)) ∧ ∀ f, RelO (fvs.lookup f) (mA f) := by
  obtain ⟨⟨oe, vs, h1, ⟨h2, h3⟩, h4⟩, _, _⟩ := I.hok a _ ha
  have hno : PySem.W.notCls oe = true := by unfold PySem.W.notCls; rw [h4] <;> rfl
  rcases hd with rfl | ⟨d, fvs, rfl, hd⟩
  · exact ⟨oe, none, ⟨h1, h2, hno, by rw [h3]; trivial⟩, ⟨vs, h4⟩, fun _ _ z => nomatch z⟩
  · obtain ⟨mA, hns, hr⟩ := (show ObjOk X.prog X.w H s.heap d (.xd fvs) from I.hok d _ hd)
    obtain ⟨o, ho, hl⟩ := lookIn_ns hns
    refine ⟨oe, some o, ⟨h1, h2, hno, by rw [h3]; exact ho⟩, ⟨vs, h4⟩, fun d' fvs' z hd' => ?_⟩
    cases z
    rw [hd] at hd'
    cases hd'
    exact ⟨o, rfl, mA, hl, hr⟩
theorem kit_ofE {X : Cx} {pins : List (Addr × Obj)} {σ : L2.St} {H : Hp} {s : Shared} {x : V} {u t : Value} (I : Inv X pins σ H s) (rx : RelV x u) (ty : TyE X.K H x t) :
    ∃ Pr : Heap → Prop, PySem.W.KitX X.K u t Pr ∧ Pr s.heap ∧ u ≠ .builtin "__main__.__loader__#opaque" := by
  rcases ty with ty | ⟨a, C, od, rfl, rfl, ha, hd, hC⟩
  · obtain ⟨Pr, Z, p, hx⟩ := kit_of I rx ty
    exact ⟨Pr, Z, p, hx⟩
  · cases (show u = Value.ref a from rx)
    obtain ⟨oe, oo, J, _⟩ := exn_at I ha hd
    exact ⟨_, PySem.W.exn_kit hC, J, fun z => nomatch z⟩
def rIE (K : Kf) (c : V) (u : Value) : List V → Hp → VK → Prop := fun xs H Q => ∃ (x : V) (t : Value) (b : Bool), xs = [x, c] ∧ TyE K H x t ∧ PySem.W.kitOne K t u = some b ∧ Q (.bl b) H
theorem call_IE {X : Cx} {c : V} {u : Value} (hc : ClsV c u) : CallR X (.builtin "isinstance") (rIE X.K c u) := by
  intro pins s σ H xs us Q I r h
  obtain ⟨x, t, b, rfl, ty, e, q⟩ := h
  obtain ⟨u1, u2, rfl, r1, r2⟩ := vals2 r
  cases hc.eq r2
  obtain ⟨Pr, Z, p, hx⟩ := kit_ofE I r1 ty
  exact PySem.W.kia_one Z I.kIn p e hx fun tk => ⟨.bl b, H, I.tok tk, rfl, q⟩
structure IsiE (K : Kf) (u : Value) (xc : List (Addr × Bool)) : Prop where
  non : PySem.W.kitOne K (.type "NoneType") u = some false
  exn : ∀ q ∈ xc, ExcC K q.1 ∧ PySem.W.kitOne K (.ref q.1) u = some q.2
def isiE (xc : List (Addr × Bool)) : D → Option Bool
  | .exn C _ _ => lk xc C
  | .non => some false
  | _ => none
theorem exd_in {F H : Hp} (sf : SubR F H) {own : Bool} {od : Option Addr} {fvs : List (Str × V)} (h : ExD F own od fvs) : DcIn H od := by
  rcases h with ⟨_, d, e, q⟩ | ⟨_, e, _⟩
  · exact .inr ⟨d, fvs, e, sf.ex q (fun _ z => nomatch z)⟩
  · exact .inl e
theorem isiE_ok {K : Kf} {u : Value} {xc : List (Addr × Bool)} (ok : IsiE K u xc) {H F : Hp} {d : D} {v : V} {r : Bool} (sf : SubR F H) (h : DR K H d v) (e : isiE xc d = some r) : ∃ q, TyE K H v q ∧ PySem.W.kitOne K q u = some r := by
  cases d with
  | non => cases e; cases (show v = _ from h); exact ⟨_, .inl (.base .non), ok.non⟩
  | exn C own fs =>
    obtain ⟨a, od, fvs, rfl, q, x, _⟩ := h
    obtain ⟨h1, h2⟩ := ok.exn _ (lk_mem e)
    exact ⟨_, .inr ⟨a, C, od, rfl, rfl, q, exd_in (SubR.refl _) x, h1⟩, h2⟩
  | bl _ => cases e
  | int _ => cases e
  | str _ => cases e
  | lst _ => cases e
  | tup _ => cases e
  | dct _ => cases e
  | ins _ _ => cases e
  | scr _ => cases e
def oIsE (xc : List (Addr × Bool)) : List T → Option T
  | [t] => (isiE xc t.er).map fun b => .sh (.bl b)
  | _ => none
section
variable {P : Program} {w : World} {base : Heap} {K : Kf} {mg : Str → Option Value} {k : Nat} {ι : Type} {X : ι → Cx} {E : XS} {e : Expr} {pos p p2 p3 : Pos} {m : ME} {x : Str}
theorem eIsE (fm : Fm P w K mg base k X E) {c : V} {u : Value} {cls : Expr} {xc : List (Addr × Bool)} (ha : DE K E X e m) (ok : IsiE K u xc) (kc : ClsV c u) (hc : ∀ j, PE (X j) cls (tC c)) (hm : mg x = none) (hb : bootBuiltins x = some (.builtin "isinstance"))
    (hg : ∀ j, Gl (X j) x := by intro _; rfl) (hn : x ≠ "__name__" := by decide +kernel) (hd : (x == ("__debug__" : Str)) = false := by decide +kernel) (he : ∀ j, starEach [e, cls] (X j).env = (false, eval e (X j).env) :: starEach [cls] (X j).env := by intro _; rfl) (he2 : ∀ j, starEach [cls] (X j).env = (false, eval cls (X j).env) :: starEach [] (X j).env := by intro _; rfl)
    (hp : ∀ j, (backTo pos (starEach [cls] (X j).env)).any (·.1) = false := by intro _; rfl) : DE K E X (.Call (.Name x p) [e, cls] [] pos) (mOp (oIsE xc) (mCons m mNil)) := by
  obtain ⟨t, h1, h2⟩ := ha
  refine ⟨fun σ H Q => (tCons t tNil) σ H fun vs H1 => (match vs with | [v] => rIE K c u [v, c] H1 Q | _ => False), fun j => ?_, ev_op (ev_cons h2 ev_nil) fun B F H ss os us xs t' Q st vr e q => ?_⟩
  · have := pe_callB (pos := pos) (p := p) (call_IE (X := X j) kc) (hg j) (by rw [fm.hm j]; exact hm) hb (pa_cons (h1 j) (pa_cons (hc j) pa_nil (he2 j)) (he j)) hn hd (he j) (hp j)
    rw [fm.hk j] at this
    exact this
  · match us, e with
    | [t], e =>
      obtain ⟨r, e1, rfl⟩ := Option.map_eq_some_iff.mp e
      obtain ⟨v, _, rfl, hv, rfl⟩ := vr
      obtain ⟨q', h3, h4⟩ := isiE_ok ok st.sf.toSubR (hv.dr st.sf) e1
      exact ⟨v, q', r, rfl, h3, h4, q _ H (Same.refl _) (st.push rfl)⟩
end
def okD : D → Bool
  | .str y => decide (y.length ≤ 1000)
  | .int i => decide (i.natAbs.log2 < 1920)
  | _ => false
def mRaiseF (C : Addr) (f : Str) (m : ME) : MS := fun e => match m e with
  | .ok (v, e1) => match cn v e1 with
    | some (.sh d) => if okD d = true then .ex ⟨C, some [(f, d)]⟩ e1 else .st
    | _ => .st
  | .ex c e1 => .ex c e1
  | .st => .st
def rXat (K : Kf) (n : Str) : List V → Hp → VK → Prop := fun xs H Q => ∃ (a C d : Addr) (fvs : List (Str × V)) (v : V), xs = [.ref a] ∧ H a = some (exR a C (some d)) ∧ H d = some (.xd fvs) ∧ XfC K C ∧ PySem.W.findIn K (.ref C) n = some none ∧ fvs.lookup n = some v ∧ Q v H
theorem pe_xat {X : Cx} {e : Expr} {te : TE} {pos : Pos} {n : Str} (he : PE X e te) (hb : attributeBase e n X.env (eval e X.env) = eval e X.env) : PE X (.Attribute e n pos) (fun σ H Q => te σ H fun x H1 => rXat X.K n [x] H1 Q) := by
  refine ⟨fun pins s σ H Q I h => attr_of hb (thn (he.run pins s σ H _ I h) fun u s1 hh => ?_)⟩
  obtain ⟨x, H1, I1, rx, a, C, d, fvs, v, ex, ha, hd, T, hno, l, q⟩ := hh
  cases ex
  cases (show u = Value.ref a from rx)
  obtain ⟨oe, oo, J, _, hx⟩ := exn_at I1 ha (.inr ⟨d, fvs, rfl, hd⟩)
  obtain ⟨o, rfl, mA, hl, hr⟩ := hx d fvs rfl hd
  obtain ⟨u, hu, ru⟩ := RelO.some_of (v := v) (o := mA n) (by rw [← l]; exact hr n)
  exact HandSPX.exc_get I1.kIn J T.ga T.gg T.exC (PySem.W.findObj_own T.hdC hno rfl (by rw [hl, hu])) (handed_of ru) ⟨v, H1, I1.tok _, ru, q⟩
def oXat (cl : List Addr) (n : Str) : List T → Option T
  | [.sh (.exn C true fs)] => if cl.contains C = true then (lk fs n).map T.sh else none
  | _ => none
theorem lk_drf {K : Kf} {F : Hp} {n : Str} {d : D} : ∀ {fs : List (Str × D)} {fvs : List (Str × V)}, DRf K F fs fvs → lk fs n = some d → ∃ v, fvs.lookup n = some v ∧ DR K F d v
  | [], _, _, e => by simp [lk] at e
  | (k0, d0) :: r, _, ⟨⟨k1, v⟩, vs, ev, ⟨hk, hd⟩, h⟩, e => by
    subst ev
    have hk : k1 = k0 := hk
    subst hk
    simp only [lk] at e
    by_cases z : k1 = n
    · rw [if_pos z] at e
      cases e
      exact ⟨v, by simp [List.lookup_cons, z], hd⟩
    · rw [if_neg z] at e
      obtain ⟨w, h1, h2⟩ := lk_drf h e
      refine ⟨w, ?_, h2⟩
      rw [List.lookup_cons]
      have : (n == k1) = false := beq_eq_false_iff_ne.mpr (Ne.symm z)
      rw [this]
      exact h1
theorem on_xat {K : Kf} {cl : List Addr} {n : Str} (hc : ∀ C ∈ cl, XfC K C ∧ PySem.W.findIn K (.ref C) n = some none) : OpN K (rXat K n) (oXat cl n) := by
  intro B F H ss os us xs t' Q st vr e q
  unfold oXat at e
  split at e
  · rename_i C fs
    split at e
    · rename_i hC
      obtain ⟨d, e1, rfl⟩ := Option.map_eq_some_iff.mp e
      obtain ⟨x, _, rfl, vx, rfl⟩ := vr
      obtain ⟨a, od, fvs, rfl, ha, x1, r⟩ := (show DR K F (.exn C true fs) x from vx)
      rcases x1 with ⟨_, dd, rfl, hd⟩ | ⟨z, _⟩
      · obtain ⟨v, l, dv⟩ := lk_drf r e1
        obtain ⟨h1, h2⟩ := hc C (by simpa using hC)
        exact ⟨a, C, dd, fvs, v, rfl, st.sf.ex ha (fun _ z => nomatch z), st.sf.ex hd (fun _ z => nomatch z), h1, h2, l, q _ _ (Same.refl _) (st.push dv)⟩
      · cases z
    · cases e
  · cases e
section
variable {P : Program} {w : World} {base : Heap} {K : Kf} {mg : Str → Option Value} {k : Nat} {ι : Type} {X : ι → Cx} {E : XS} {e : Expr} {pos : Pos} {m : ME}
theorem eXat (fm : Fm P w K mg base k X E) {cl : List Addr} {n : Str} (ha : DE K E X e m) (hc : ∀ C ∈ cl, XfC K C ∧ PySem.W.findIn K (.ref C) n = some none) (hb : ∀ j, attributeBase e n (X j).env (eval e (X j).env) = eval e (X j).env := by intro _; rfl) : DE K E X (.Attribute e n pos) (mOp (oXat cl n) (mCons m mNil)) := by
  obtain ⟨t, h1, h2⟩ := ha
  refine ⟨fun σ H Q => tCons t tNil σ H fun vs H1 => rXat K n vs H1 Q, fun j => ?_, ev_op (ev_cons h2 ev_nil) (on_xat hc)⟩
  have := pe_xat (pos := pos) (h1 j) (hb j)
  rw [fm.hk j] at this
  exact this
end
end DL
namespace L2
open PySem PySem.Spec PyProof.Rows
end L2
namespace DL
variable [Lf]
open PySem PySem.Spec PyProof.Rows L2 HT
def Exn.D (c : Exn) : D := match c.fs with
  | none => .exn c.C false []
  | some fs => .exn c.C true fs
end DL
namespace DL
variable [Lf]
open PySem PySem.Spec PyProof.Rows L2
abbrev MGn := List D → Env → R (List D × Out)
def gPl (m : MS) : MGn := fun ds e => match m e with
  | .ok o => .ok (ds, o)
  | .ex c e1 => .ex c e1
  | .st => .st
def gYld (m : ME) : MGn := fun ds e => if ds.length < sizeLine then match m e with
  | .ok (.tv (.sh d), e1) => .ok (ds ++ [d], .nx e1)
  | .ok _ => .st
  | .ex c e1 => .ex c e1
  | .st => .st
  else .st
def gSk : MGn := fun ds e => .ok (ds, .nx e)
def gSq (m n : MGn) : MGn := fun ds e => match m ds e with
  | .ok (ds1, .nx e1) => n ds1 e1
  | r => r
def gIf (c : MB) (m n : MGn) : MGn := fun ds e => match c e with
  | .ok (b, e1) => if b = true then m ds e1 else n ds e1
  | .ex c e1 => .ex c e1
  | .st => .st
def loopG (mg : MG) (mb : MGn) : List D → List D → Env → R (List D × Out)
  | [], ds, e => .ok (ds, .nx e)
  | d :: r, ds, e => match mg (.sh d) e with
    | .ok e1 => match mb ds e1 with
      | .ok (ds2, .nx e2) => loopG mg mb r ds2 e2
      | .ok (ds2, .ct e2) => loopG mg mb r ds2 e2
      | .ok (ds2, .bk e2) => .ok (ds2, .nx e2)
      | .ok (ds2, .rt t e2) => .ok (ds2, .rt t e2)
      | .ex c e2 => .ex c e2
      | .st => .st
    | _ => .st
def gFor (mi : MI) (mg : MG) (mb : MGn) : MGn := fun ds e => match mi e with
  | .ok (xs, e1) => loopG mg mb xs ds e1
  | .ex c e1 => .ex c e1
  | .st => .st
inductive FRG where
  | ret (ds : List D) | exc (c : Exn) | st
abbrev MFG := List Slot → FRG
def mListG (cl : List Addr) (n : Nat) (f : MFG) (ms : MA) : ME := fun e => (ms e).bnd fun vs e1 => if vs.length = n then match cns vs e1 with
    | some ts => match f (ts.map argS) with
      | .ret ds => .ok (.tv (.lst (ds.map .sh)), e1)
      | .exc c => if cl.contains c.C = true then .ex c e1 else .st
      | .st => .st
    | none => .st
  else .st
section
variable (m : MS) (me : ME) (a b : MGn) (c : MB) (mi : MI) (mg : MG) (ds : List D) (e : Env)
@[simp] theorem gPl_ap : gPl m ds e = (match m e with | .ok o => .ok (ds, o) | .ex c e1 => .ex c e1 | .st => .st) := rfl
@[simp] theorem gYld_ap : gYld me ds e = (if ds.length < sizeLine then match me e with
  | .ok (.tv (.sh d), e1) => .ok (ds ++ [d], .nx e1)
  | .ok _ => .st
  | .ex c e1 => .ex c e1
  | .st => .st
  else .st) := rfl
@[simp] theorem gSk_ap : gSk ds e = .ok (ds, .nx e) := rfl
@[simp] theorem gSq_ap : gSq a b ds e = (match a ds e with
  | .ok (ds1, .nx e1) => b ds1 e1
  | r => r) := rfl
@[simp] theorem gIf_ap : gIf c a b ds e = (match c e with
  | .ok (b1, e1) => if b1 = true then a ds e1 else b ds e1
  | .ex c e1 => .ex c e1
  | .st => .st) := rfl
@[simp] theorem gFor_ap : gFor mi mg a ds e = (match mi e with
  | .ok (xs, e1) => loopG mg a xs ds e1
  | .ex c e1 => .ex c e1
  | .st => .st) := rfl
@[simp] theorem mListG_ap (cl : List Addr) (n : Nat) (f : MFG) (ms : MA) : mListG cl n f ms e = (ms e).bnd fun vs e1 => if vs.length = n then match cns vs e1 with
    | some ts => match f (ts.map argS) with
      | .ret ds => .ok (.tv (.lst (ds.map .sh)), e1)
      | .exc c => if cl.contains c.C = true then .ex c e1 else .st
      | .st => .st
    | none => .st
  else .st := rfl
end
end DL
namespace DL
variable [Lf]
open PySem PySem.Spec PyProof.Rows L2 HT
structure VeCls (K : Kf) (C : Addr) : Prop where
  rd : PySem.W.readsIn K C (.type "type") = true
  ga : PySem.W.specialIn K (.ref C) "__getattribute__" = some (some (.builtin "type.__getattribute__"))
  vi : PySem.W.findCls K (.ref C) (.type "type") "__init__" = some (.val (.builtin "ValueError.__init__"))
def okX (x : V) : Prop := (∃ y : Str, x = .str y ∧ y.length ≤ 1000) ∨ ∃ i : Int, x = .int i ∧ i.natAbs.log2 < 1920
section
variable {X : Cx} {e : Expr} {es : List Expr} {ta : TA} {p1 p2 pos : Pos} {x : Str} {CQ : Addr}
theorem pe_clsInit {pl : Sem Bool} (hg : Gl X x) (hm : X.mg x = some (.ref CQ)) (hd : (x == ("__debug__" : Str)) = false) (hV : VeCls X.K CQ) (ha : PA X (e :: es) ta)
    (hc : eval (.Call (.Attribute (.Name x p1) "__init__" p2) (e :: es) [] pos) X.env = (do
      let z ← eval (.Name x p1) X.env
      standAt p2.atName
      let (g, own) ← holding [z] (getMethod z "__init__" pl)
      callWith pos g own (backTo pos (starEach (e :: es) X.env)) (backToKw pos (keywordEach [] X.env))) := by rfl)
    (he : starEach (e :: es) X.env = (false, eval e X.env) :: starEach es X.env := by rfl) (hpl : (backTo pos (starEach es X.env)).any (·.1) = false := by rfl) :
    PE X (.Call (.Attribute (.Name x p1) "__init__" p2) (e :: es) [] pos) (tVeI X.K ta) := by
  refine ⟨fun pins s σ H Q I h => PySem.W.methodCall_KW (pl := pl) (ld_glob I hg hm ?_ hd) hc⟩
  refine PySem.W.method_cls I.kIn hV.ga (PySem.W.cls_value I.kIn hV.rd hV.vi rfl ?_)
  show wpAny _ _ (callWith pos (Value.builtin "ValueError.__init__") [] (backTo pos (starEach (e :: es) X.env)) []) _ _ _
  refine PyProof.Rows.callWith_method1 (thn (ha.run pos pins _ σ H _ (I.tok _) h) fun us s1 ⟨vs, H1, I1, r1, a, C, ws, ev, hl, T, ea, q⟩ => ?_) he hpl
  subst ev
  cases r1 with
  | @cons _ u0 _ ur ra rw' =>
    cases (show u0 = Value.ref a from ra)
    exact oinit_ok T I1 ea (by rw [← Paired.length rw', sizeLine_eq]; omega) fun s' J => ⟨.non, H1, J, rfl, q⟩
end
def spX (K : Kf) (f : Str) : Sp := fun vs H Q E => ∃ (a C : Addr) (x : V), vs = [.ref a, x] ∧ OexC K C ∧ PySem.W.findIn K (.ref C) f = some none ∧ H a = some (exo a C none) ∧ okX x ∧ ∀ d, H d = none → d ≠ a → Q .non (upd (upd H d (exd d [(f, x)])) a (exo a C (some d)))
structure OwnX (P : Program) (w : World) (K : Kf) (mg : Str → Option Value) (base : Heap) (C : Addr) (f : Str) : Prop where
  ox : OexC K C
  na : PySem.W.findIn K (.ref C) f = some none
  ex : ∃ fI fd ps, PySem.W.findIn K (.ref C) "__init__" = some (some (.ref fI)) ∧ PySem.W.typeIn K (.ref fI) = some (.type "function") ∧ FnOk P w K mg base (L2.CX P w) 1 fI fd ps (spX K f) ∧ Binds K fd ps []
theorem pss_init {X : Cx} {f y x : Str} {CQ : Addr} {vs1 : List Expr} {ts : List TE} {p1 p2 p3 p4 p5 p6 p7 p8 p9 p10 : Pos} (hN0 : X.N[0]? = some ("self" : Str)) (hN1 : X.N[1]? = some y) (hv0 : Vis X.env.scope "self") (hv1 : Vis X.env.scope y) (hd1 : (y == ("__debug__" : Str)) = false) (hc1 : (y == ("__classdict__" : Str)) = false)
    (hg : Gl X x) (hm : X.mg x = some (.ref CQ)) (hd : (x == ("__debug__" : Str)) = false) (hV : VeCls X.K CQ) (hj : PE X (.JoinedStr vs1 p4) (fun σ H Q => tJs ts Str.empty σ H fun out H1 => Q (.str out) H1))
    (hts : ∀ (x : V) (σ : L2.St) (H : Hp) (Q : Str → Hp → Prop), σ[1]? = some (some x) → okX x → (∀ z, Q z H) → tJs ts Str.empty σ H Q) {pl : Sem Bool}
    (hc : eval (.Call (.Attribute (.Name x p1) "__init__" p2) [.Name "self" p3, .JoinedStr vs1 p4] [] p5) X.env = (do
      let z ← eval (.Name x p1) X.env
      standAt p2.atName
      let (g, own) ← holding [z] (getMethod z "__init__" pl)
      callWith p5 g own (backTo p5 (starEach [.Name "self" p3, .JoinedStr vs1 p4] X.env)) (backToKw p5 (keywordEach [] X.env))))
    (he1 : starEach [.JoinedStr vs1 p4] X.env = (false, eval (.JoinedStr vs1 p4) X.env) :: starEach [] X.env) (he2 : starEach [.Name "self" p3, .JoinedStr vs1 p4] X.env = (false, eval (.Name "self" p3) X.env) :: starEach [.JoinedStr vs1 p4] X.env) (hpl : (backTo p5 (starEach [.JoinedStr vs1 p4] X.env)).any (·.1) = false)
    (hs1 : swapsWith (.Call (.Attribute (.Name x p1) "__init__" p2) [.Name "self" p3, .JoinedStr vs1 p4] [] p5) none p6.line X.env = pure false) (hs2 : swapsWith (.Name y p9) (some (.Attribute (.Name "self" p7) f p8)) p10.line X.env = pure false) :
    ∃ t, PSs X [.Expr (.Call (.Attribute (.Name x p1) "__init__" p2) [.Name "self" p3, .JoinedStr vs1 p4] [] p5) p6, .Assign [.Attribute (.Name "self" p7) f p8] (.Name y p9) p10] t ∧
      ∀ (vs : List V) (H : Hp) (Q : VK) (E : XK), spX X.K f vs H Q E → t { nx := fun _ H' => Q .non H', rt := Q } (vs.map some) H := by
  refine ⟨_, pss_cons (ps_expr (pe_clsInit (pl := pl) hg hm hd hV (pa_cons (pe_var hN0 hv0) (pa_cons hj pa_nil he1) he2) hc he2 hpl) hs1) (pss_one (ps_ost (pe_var hN0 hv0) (pe_var hN1 hv1 hd1 hc1) hs2)), fun vs H Q E h => ?_⟩
  obtain ⟨a, C, z, rfl, T, hna, ha, hz, q⟩ := h
  refine ⟨.ref a, rfl, ?_⟩
  refine hts z _ H _ rfl hz fun out => ?_
  refine ⟨a, C, [.str out], rfl, by simp, T, ha, ?_⟩
  refine ⟨z, rfl, .ref a, rfl, a, C, rfl, T, hna, .inl ⟨ha, fun d hd hda => q d hd hda⟩⟩
theorem OwnX.of {P : Program} {w : World} {K : Kf} {mg : Str → Option Value} {base : Heap} {C fI : Addr} {f y qual : Str} {st : Stmt} {fd : FuncData} (Fn : Fun K "__init__" qual st fI fd) (S : FnScope ["self", y] ["self", y] (defScope st)) (B : Binds K fd ["self", y] []) (ox : OexC K C) (na : PySem.W.findIn K (.ref C) f = some none)
    (iC : PySem.W.findIn K (.ref C) "__init__" = some (some (.ref fI))) (tI : PySem.W.typeIn K (.ref fI) = some (.type "function"))
    (body : ∀ (cdv : Value) (A : Around) (outer : List PySem.Env) (s : Shared) (H0 : Hp) (E0 : XK), ∃ t, PSs (cxOf (L2.CX P w) P w K mg base ["self", y] qual (defScope st) fI cdv A outer s H0 E0) (defBody st) t ∧ ∀ (vs : List V) (H : Hp) (Q : VK) (E : XK), spX K f vs H Q E → t { nx := fun _ H' => Q .non H', rt := Q } (vs.map some) H) :
    OwnX P w K mg base C f := by
  refine ⟨ox, na, fI, fd, ["self", y], iC, tI, Fun.okX Fn S (fun vs H Q E h => ?_) (fun cdv A outer s H vs Q E hr h => ?_), B⟩
  · obtain ⟨a, C', x, rfl, _⟩ := h; rfl
  · obtain ⟨t, h1, h2⟩ := body cdv A outer s H E
    refine ⟨t, h1, ?_⟩
    have := h2 vs H Q E h
    obtain ⟨a, C', x, rfl, _⟩ := h
    exact this
section
variable {P : Program} {w : World} {base : Heap} {K : Kf} {mg : Str → Option Value} {k : Nat} {ι : Type} {X : ι → Cx} {E : XS} {e : Expr} {pos p p3 : Pos} {m : ME} {x : Str}
theorem okX_of {K : Kf} {F : Hp} {d : D} {v : V} (h : okD d = true) (r : DR K F d v) : okX v := by
  cases d <;> try cases h
  · rename_i i; exact .inr ⟨i, r, of_decide_eq_true h⟩
  · rename_i y; exact .inl ⟨y, r, of_decide_eq_true h⟩
end
theorem len_app (a b : Str) : (a ++ b).length = a.length + b.length := by simp [Str.length, Str.cps_append]
theorem fmt_ok {x : V} {σ : L2.St} {H : Hp} {acc : Str} {ts : List TE} {Q : Str → Hp → Prop} (hx : σ[1]? = some (some x)) (ok : okX x) (ha : acc.length ≤ 2000) (q : ∀ y : Str, y.length ≤ 3000 → tJs ts (acc ++ y) σ H Q) : tJs (tFmt (tVar 1) :: ts) acc σ H Q := by
  refine ⟨x, hx, ?_⟩
  rcases ok with ⟨y, rfl, hy⟩ | ⟨i, rfl, hi⟩
  · refine .inl ⟨y, rfl, by rw [sizeLine_eq]; omega, y, rfl, ?_, q y (by omega)⟩
    rw [len_app, sizeLine_eq]; omega
  · have h1 := int_text_length_le (k := 1920) (by decide) hi
    have h2 : (Str.ofString (toString i)).length ≤ 3000 := by rw [PySem.ofString_length]; omega
    refine .inr ⟨i, rfl, hi, Str.ofString (toString i), rfl, ?_, q _ h2⟩
    rw [len_app, sizeLine_eq]; omega
theorem js_c {σ : L2.St} {H : Hp} {acc pre : Str} {ts : List TE} {Q : Str → Hp → Prop} (h : (acc ++ pre).length ≤ 100000) (q : tJs ts (acc ++ pre) σ H Q) : tJs (tC (.str pre) :: ts) acc σ H Q := by
  refine ⟨pre, rfl, ?_, q⟩
  rw [sizeLine_eq]; omega
theorem js2 (pre : Str) (hp : pre.length ≤ 1000) : ∀ (x : V) (σ : L2.St) (H : Hp) (Q : Str → Hp → Prop), σ[1]? = some (some x) → okX x → (∀ z, Q z H) → tJs [tC (.str pre), tFmt (tVar 1)] Str.empty σ H Q := fun x σ H Q hx ok q =>
  have h0 : (Str.empty ++ pre).length ≤ 1000 := by rw [len_app]; have : Str.empty.length = 0 := rfl; omega
  js_c (by omega) (fmt_ok hx ok (by omega) fun y hy => q _)
theorem js3 (pre post : Str) (hp : pre.length ≤ 1000) (hq : post.length ≤ 1000) : ∀ (x : V) (σ : L2.St) (H : Hp) (Q : Str → Hp → Prop), σ[1]? = some (some x) → okX x → (∀ z, Q z H) → tJs [tC (.str pre), tFmt (tVar 1), tC (.str post)] Str.empty σ H Q := fun x σ H Q hx ok q =>
  have h0 : (Str.empty ++ pre).length ≤ 1000 := by rw [len_app]; have : Str.empty.length = 0 := rfl; omega
  js_c (by omega) (fmt_ok hx ok (by omega) fun y hy => js_c (by rw [len_app, len_app]; omega) (q _))
theorem kit_exc {K : Kf} {C : Addr} {t : Value} {b : Bool} (hd : PySem.W.hasDictIn K C = true) (ty : PySem.W.typeIn K (.ref C) = some (.type "type")) (ne : t ≠ .ref C) (h : PySem.W.subIn K t (.ref C) = some b) : PySem.W.kitOne K t (.ref C) = some b := by
  unfold PySem.W.kitOne
  rw [if_neg (by simpa using ne)]
  obtain ⟨cd, hc, _⟩ := PySem.W.any_some hd
  show (if ((PySem.W.clsIn K C).isSome && PySem.W.typeIn K (.ref C) == some (.type "type")) = true then PySem.W.subIn K t (.ref C) else none) = some b
  rw [if_pos (by rw [hc, ty]; simp)]
  exact h
theorem oexC_of {K : Kf} {C N : Addr} {nm q : Str} {bs bm : List Value} {sn : List Str} {sub : List Value} {ab : Bool} {col : Option Bool} {dd : Option Addr} {k0 k1 k2 k3 k5 : Option Value} (h : K.lookup C = some (excClassObj nm q C N bs bm true sn sub ab col dd k0 k1 k2 k3 k5 "ValueError.__new__")) (hr : PySem.HandSPX.refsVE bm = true)
    (sa : PySem.W.findIn K (.ref C) "__setattr__" = some (some (.builtin "object.__setattr__"))) (ex : PySem.W.subIn K (.ref C) (.type "BaseException") = some true) (ty : PySem.W.typeIn K (.ref C) = some (.type "type")) (kp : PySem.W.keepIn K (.ref C) = true) : OexC K C := ⟨⟨nm, q, N, bs, bm, sn, sub, ab, col, dd, k0, k1, k2, k3, k5, h, hr⟩, sa, ex, ty, kp⟩
theorem excC_of {K : Kf} {D : Addr} (a : PySem.W.findIn K (.ref D) "__getattribute__" = some (some (.builtin "BaseException.__getattribute__"))) (b : PySem.W.findIn K (.ref D) "__getattr__" = some none) (c : PySem.W.subIn K (.ref D) (.type "BaseException") = some true) (d : PySem.W.hasDictIn K D = true)
    (e : PySem.W.findIn K (.ref D) "__class__" = some (some (.builtin "object.__class__"))) (f : PySem.W.specialIn K (.builtin "object.__class__") "__get__" = some (some (.builtin "getset_descriptor.__get__"))) (g : PySem.W.takesIn K (.builtin "object.__class__") = some true) (h : PySem.W.mroIn K D (.type "object") = some true) : ExcC K D := ⟨a, b, c, d, e, f, g, h⟩
end DL
namespace PySem.SeqAt
open PySem PySem.Spec PyProof.Rows
end PySem.SeqAt
namespace DL
variable [Lf]
open PySem PySem.Spec PyProof.Rows L2 HT
end DL
namespace DL
variable [Lf]
open PySem PySem.Spec PyProof.Rows L2
def mCallT (n : Nat) (f : MF) (ms : MA) : ME := fun e => (ms e).bnd fun vs e1 => if vs.length = n then match vs with
  | .tv u :: rest => match cns rest e1 with
    | some ts => match f (.mu u :: ts.map argS) with
      | .ret r (some _) => .ok (.tv r, e1)
      | .exc c (some _) => .ex c e1
      | _ => .st
    | none => .st
  | _ => .st
  else .st
@[simp] theorem mCallT_ap (n : Nat) (f : MF) (ms : MA) (e : Env) : mCallT n f ms e = (ms e).bnd fun vs e1 => if vs.length = n then match vs with
  | .tv u :: rest => match cns rest e1 with
    | some ts => match f (.mu u :: ts.map argS) with
      | .ret r (some _) => .ok (.tv r, e1)
      | .exc c (some _) => .ex c e1
      | _ => .st
    | none => .st
  | _ => .st
  else .st := rfl
def okP : List Val → Bool
  | [] => true
  | .tv _ :: r => okP r
  | .pl _ [] :: r => okP r
  | .pl _ (_ :: _) :: _ => false
end DL
namespace DL
variable [Lf]
open PySem PySem.Spec PyProof.Rows L2 HT
def mShA (ms : MA) : ME := fun e => (ms e).bnd fun vs e1 => match cns vs e1 with
  | some us => match oSh us with
    | some t => .ok (.tv t, e1)
    | none => match us with
      | [.sh (.tup ds), .sh (.int i)] => .ok (.tv (.sh (.tup (cut ds none (some i)))), e1)
      | _ => .st
  | none => .st
def mAddA (ms : MA) : ME := fun e => (ms e).bnd fun vs e1 => match cns vs e1 with
  | some us => match xAdd us with
    | some t => .ok (.tv t, e1)
    | none => match us with
      | [.sh (.tup a), .sh (.tup b)] => if a.length + b.length ≤ 4096 then .ok (.tv (.sh (.tup (a ++ b))), e1) else .st
      | _ => .st
  | none => .st
@[simp] theorem mShA_ap (ms : MA) (e : Env) : mShA ms e = (ms e).bnd fun vs e1 => match cns vs e1 with
  | some us => match oSh us with
    | some t => .ok (.tv t, e1)
    | none => match us with
      | [.sh (.tup ds), .sh (.int i)] => .ok (.tv (.sh (.tup (cut ds none (some i)))), e1)
      | _ => .st
  | none => .st := rfl
@[simp] theorem mAddA_ap (ms : MA) (e : Env) : mAddA ms e = (ms e).bnd fun vs e1 => match cns vs e1 with
  | some us => match xAdd us with
    | some t => .ok (.tv t, e1)
    | none => match us with
      | [.sh (.tup a), .sh (.tup b)] => if a.length + b.length ≤ 4096 then .ok (.tv (.sh (.tup (a ++ b))), e1) else .st
      | _ => .st
  | none => .st := rfl
end DL
namespace DL
variable [Lf]
open PySem PySem.Spec PyProof.Rows L2
def mSrcF (m : ME) : MI := fun e => (m e).bnd fun v e1 => match frzV v e1 with
  | some (d, e2) => match seqT (.sh d) with
    | some ds => .ok (ds, e2)
    | none => .st
  | none => .st
def loopC2 (vs : List Nat) (mg : MG) (mt : MB) (mi1 : MI) (vs1 : List Nat) (mg1 : MG) (mt1 : MB) (me : ME) : List D → List T → Env → R (List T × Env)
  | [], acc, e => .ok (acc, e)
  | d :: r, acc, e => match mg (.sh d) (wpE e vs) with
    | .ok e1 => match mt e1 with
      | .ok (b, e2) => if b = true then match mi1 e2 with
          | .ok (ds1, e3) => match loopC vs1 mg1 mt1 me ds1 acc e3 with
            | .ok (acc', e4) => loopC2 vs mg mt mi1 vs1 mg1 mt1 me r acc' e4
            | _ => .st
          | _ => .st
        else loopC2 vs mg mt mi1 vs1 mg1 mt1 me r acc e2
      | _ => .st
    | _ => .st
def mLc2 (vs : List Nat) (mi : MI) (mg : MG) (mt : MB) (mi1 : MI) (vs1 : List Nat) (mg1 : MG) (mt1 : MB) (me : ME) : ME := fun e => (mi e).bnd fun ds e1 => if litesAt e1 vs = true then match loopC2 vs mg mt mi1 vs1 mg1 mt1 me ds [] e1 with
    | .ok (ts, e2) => .ok (.tv (.lst ts), rst e1 vs e2)
    | _ => .st
  else .st
@[simp] theorem mLc2_ap (vs : List Nat) (mi : MI) (mg : MG) (mt : MB) (mi1 : MI) (vs1 : List Nat) (mg1 : MG) (mt1 : MB) (me : ME) (e : Env) : mLc2 vs mi mg mt mi1 vs1 mg1 mt1 me e = (mi e).bnd fun ds e1 => if litesAt e1 vs = true then match loopC2 vs mg mt mi1 vs1 mg1 mt1 me ds [] e1 with
    | .ok (ts, e2) => .ok (.tv (.lst ts), rst e1 vs e2)
    | _ => .st
  else .st := rfl
@[simp] theorem mSrcF_ap (m : ME) (e : Env) : mSrcF m e = (m e).bnd fun v e1 => match frzV v e1 with
  | some (d, e2) => match seqT (.sh d) with
    | some ds => .ok (ds, e2)
    | none => .st
  | none => .st := rfl
def rtOk (C : Addr) (tb : String → Bool) (ic : List (Addr × Bool)) (b : T) : Bool := isC C b || (isiF tb ic b.er == some false)
def mOwnA (C : Addr) (tb : String → Bool) (ic : List (Addr × Bool)) (f : MF) (neg : Bool) (ms : MA) : ME := fun e => (ms e).bnd fun vs e1 => match cns vs e1 with
  | some [a, b] => if isC C a = true ∧ rtOk C tb ic b = true then match nxF f [argS a, argS b] with
      | .ret (.sh (.bl r)) none => .ok (.tv (.sh (.bl (if neg then !r else r))), e1)
      | _ => .st
    else .st
  | _ => .st
@[simp] theorem mOwnA_ap (C : Addr) (tb : String → Bool) (ic : List (Addr × Bool)) (f : MF) (neg : Bool) (ms : MA) (e : Env) : mOwnA C tb ic f neg ms e = (ms e).bnd fun vs e1 => match cns vs e1 with
  | some [a, b] => if isC C a = true ∧ rtOk C tb ic b = true then match nxF f [argS a, argS b] with
      | .ret (.sh (.bl r)) none => .ok (.tv (.sh (.bl (if neg then !r else r))), e1)
      | _ => .st
    else .st
  | _ => .st := rfl
end DL
namespace DL
variable [Lf]
open PySem PySem.Spec PyProof.Rows L2 PySem.W
end DL
namespace DL
variable [Lf]
open PySem PySem.Spec PyProof.Rows L2
end DL
namespace L2
open PySem PySem.Spec PyProof.Rows GenW
end L2
namespace DL
variable [Lf]
open PySem PySem.Spec PyProof.Rows L2
end DL
namespace DL
variable [Lf]
open PySem PySem.Spec PyProof.Rows L2 PySem.W
end DL
namespace DL
variable [Lf]
open PySem PySem.Spec PyProof.Rows L2
end DL
namespace DL
variable [Lf]
open PySem PySem.Spec PyProof.Rows L2 SrtO PySem.Froz
def inT (xs : List Str) : Nat → List Str
  | 0 => []
  | i + 1 => if xs.getD i Str.empty ∈ inT xs i then inT xs i else xs.getD i Str.empty :: inT xs i
end DL
namespace W
open PySem PySem.Spec PyProof.Rows L2 DL
structure Cs where
  ad : Nat → Addr
  on : List Nat
  inj : ∀ i ∈ on, ∀ j ∈ on, ad i = ad j → i = j
  xs : List Nat
  injx : ∀ i ∈ xs, ∀ j ∈ xs, ad i = ad j → i = j
abbrev Cs.QuotaError (c : Cs) : Addr := c.ad 20
abbrev Cs.ParseError (c : Cs) : Addr := c.ad 21
abbrev Cs.NotAdmitted (c : Cs) : Addr := c.ad 22
abbrev Cs.NoSolution (c : Cs) : Addr := c.ad 23
abbrev Cs.InvalidGroups (c : Cs) : Addr := c.ad 24
abbrev Cs.UnknownGroup (c : Cs) : Addr := c.ad 25
abbrev Cs.InvalidRoll (c : Cs) : Addr := c.ad 26
abbrev Cs.InvalidMembers (c : Cs) : Addr := c.ad 27
abbrev Cs.InvalidStep (c : Cs) : Addr := c.ad 28
abbrev Cs.InvalidPrices (c : Cs) : Addr := c.ad 29
abbrev Cs.InvalidAmounts (c : Cs) : Addr := c.ad 30
abbrev Cs.NotASolution (c : Cs) : Addr := c.ad 31
abbrev Cs.PlanFinished (c : Cs) : Addr := c.ad 32
abbrev Cs.NothingToUndo (c : Cs) : Addr := c.ad 33
abbrev Cs.InvalidName (c : Cs) : Addr := c.ad 34
abbrev Cs.DuplicateName (c : Cs) : Addr := c.ad 35
abbrev Cs.UnknownName (c : Cs) : Addr := c.ad 36
abbrev Cs.UnknownMark (c : Cs) : Addr := c.ad 37
abbrev Cs.InvalidCommand (c : Cs) : Addr := c.ad 38
abbrev Cs.InvalidLine (c : Cs) : Addr := c.ad 39
def ix_QuotaError (c : Cs) : List (Addr × Bool) := c.xs.map fun i => (c.ad i, true)
def ix_ParseError (c : Cs) : List (Addr × Bool) := c.xs.map fun i => (c.ad i, decide (i = 21))
def ix_NotAdmitted (c : Cs) : List (Addr × Bool) := c.xs.map fun i => (c.ad i, decide (i = 22))
def ix_NoSolution (c : Cs) : List (Addr × Bool) := c.xs.map fun i => (c.ad i, decide (i = 23))
def ix_InvalidGroups (c : Cs) : List (Addr × Bool) := c.xs.map fun i => (c.ad i, decide (i = 24))
def ix_UnknownGroup (c : Cs) : List (Addr × Bool) := c.xs.map fun i => (c.ad i, decide (i = 25))
def ix_InvalidRoll (c : Cs) : List (Addr × Bool) := c.xs.map fun i => (c.ad i, decide (i = 26))
def ix_InvalidMembers (c : Cs) : List (Addr × Bool) := c.xs.map fun i => (c.ad i, decide (i = 27))
def ix_InvalidStep (c : Cs) : List (Addr × Bool) := c.xs.map fun i => (c.ad i, decide (i = 28))
def ix_InvalidPrices (c : Cs) : List (Addr × Bool) := c.xs.map fun i => (c.ad i, decide (i = 29))
def ix_InvalidAmounts (c : Cs) : List (Addr × Bool) := c.xs.map fun i => (c.ad i, decide (i = 30))
def ix_NotASolution (c : Cs) : List (Addr × Bool) := c.xs.map fun i => (c.ad i, decide (i = 31))
def ix_PlanFinished (c : Cs) : List (Addr × Bool) := c.xs.map fun i => (c.ad i, decide (i = 32))
def ix_NothingToUndo (c : Cs) : List (Addr × Bool) := c.xs.map fun i => (c.ad i, decide (i = 33))
def ix_InvalidName (c : Cs) : List (Addr × Bool) := c.xs.map fun i => (c.ad i, decide (i = 34))
def ix_DuplicateName (c : Cs) : List (Addr × Bool) := c.xs.map fun i => (c.ad i, decide (i = 35))
def ix_UnknownName (c : Cs) : List (Addr × Bool) := c.xs.map fun i => (c.ad i, decide (i = 36))
def ix_UnknownMark (c : Cs) : List (Addr × Bool) := c.xs.map fun i => (c.ad i, decide (i = 37))
def ix_InvalidCommand (c : Cs) : List (Addr × Bool) := c.xs.map fun i => (c.ad i, decide (i = 38))
def ix_InvalidLine (c : Cs) : List (Addr × Bool) := c.xs.map fun i => (c.ad i, decide (i = 39))
def ix_ValueError (c : Cs) : List (Addr × Bool) := c.xs.map fun i => (c.ad i, true)
def xa_group (c : Cs) : List Addr := (c.xs.filter fun i => i == 22 || i == 23).map c.ad
def xa_line (c : Cs) : List Addr := (c.xs.filter fun i => i == 21).map c.ad
def b_law_next (c : Cs) : MS := mSeq (mAsg (mIx (mN 0) (mC (.int 1))) (gN 1))
 (mSeq (mPut (mOp xAdd (mCons (mN 1) (mCons (mC (.int 1)) mNil))) (mN 0) (mC (.int 1)))
 (mSeq (mAsg (mOp xAdd (mCons (mOp xMul (mCons (mN 1) (mCons (mC (.int 1051)) mNil))) (mCons (mC (.int 31)) mNil))) (gN 2))
 (mSeq (mIfS (mTst asB (mOp xNe (mCons (mIx (mN 0) (mC (.int 0))) (mCons (mLst (mNil)) mNil)))) (mAsg (mIx (mIx (mN 0) (mC (.int 0))) (mOp xMod (mCons (mN 1) (mCons (mOp xLen (mCons (mIx (mN 0) (mC (.int 0))) (mNil))) mNil)))) (gN 2)) (mSkip))
 (mSeq (mIfS (mAnd (mTst asB (mOp xLt (mCons (mN 1) (mCons (mOp xLen (mCons (mIx (mN 0) (mC (.int 0))) (mNil))) mNil)))) (mTst asB (mOp xGe (mCons (mN 2) (mCons (mOp xPow (mCons (mC (.int 10)) (mCons (mC (.int 18)) mNil))) mNil))))) (mRet (mN 2)) (mSkip))
 (mSeq (mAsg (mOp xMod (mCons (mOp xAdd (mCons (mOp xAdd (mCons (mOp xMod (mCons (mN 2) (mCons (mC (.int 2147483587)) mNil))) (mCons (mOp xMul (mCons (mN 1) (mCons (mC (.int 60083)) mNil))) mNil))) (mCons (mC (.int 59)) mNil))) (mCons (mC (.int 2147483587)) mNil))) (gN 3))
 (mSeq (mAsg (mOp xMod (mCons (mOp xAdd (mCons (mOp xAdd (mCons (mOp xMul (mCons (mN 3) (mCons (mN 3) mNil))) (mCons (mOp xMul (mCons (mN 1) (mCons (mC (.int 20011)) mNil))) mNil))) (mCons (mC (.int 41)) mNil))) (mCons (mC (.int 2147483563)) mNil))) (gN 4))
 (mSeq (mAsg (mOp xMod (mCons (mOp xAdd (mCons (mOp xAdd (mCons (mOp xMul (mCons (mN 4) (mCons (mN 4) mNil))) (mCons (mN 3) mNil))) (mCons (mOp xMul (mCons (mOp xMul (mCons (mN 1) (mCons (mN 1) mNil))) (mCons (mC (.int 17)) mNil))) mNil))) (mCons (mC (.int 2147483549)) mNil))) (gN 5))
 (mRet (mOp xAdd (mCons (mOp xMul (mCons (mOp xAdd (mCons (mOp xMul (mCons (mN 5) (mCons (mC (.int 2147483587)) mNil))) (mCons (mN 4) mNil))) (mCons (mC (.int 2147483563)) mNil))) (mCons (mN 3) mNil)))))))))))
def f_law_next (c : Cs) : MF := bodyF 6 (b_law_next c)
def b_law_draw (c : Cs) : MS := mSeq (mIfS (mTst asB (mOp xLt (mCons (mIx (mN 0) (mC (.int 2))) (mCons (mN 1) mNil)))) (mPut (mCallM 1 (f_law_next c) (mCons (mN 0) (mNil))) (mN 0) (mC (.int 2))) (mSkip))
 (mSeq (mAsg (mOp xMod (mCons (mIx (mN 0) (mC (.int 2))) (mCons (mN 1) mNil))) (gN 2))
 (mSeq (mPut (mOp xDiv (mCons (mIx (mN 0) (mC (.int 2))) (mCons (mN 1) mNil))) (mN 0) (mC (.int 2)))
 (mRet (mN 2))))
def f_law_draw (c : Cs) : MF := bodyF 3 (b_law_draw c)
def b_law_pen (c : Cs) : MS := mRet (mLst (mCons (mK (mOp xList (mCons (mF (mOp oSh (mCons (mN 0) (mCons (mC (.int 60)) mNil)))) (mNil)))) (mCons (mC (.int 0)) (mCons (mC (.int 0)) (mNil)))))
def f_law_pen (c : Cs) : MF := bodyF 1 (b_law_pen c)
end W
namespace DL
open PySem PySem.Spec PyProof.Rows L2
@[simp] theorem mSeq_ap (m n : MS) (e : Env) : mSeq m n e = (match m e with | .ok (.nx e1) => n e1 | r => r) := rfl
@[simp] theorem mIfS_ap (c : MB) (m n : MS) (e : Env) : mIfS c m n e = (match c e with | .ok (b, e1) => if b = true then m e1 else n e1 | .ex c e1 => .ex c e1 | .st => .st) := rfl
@[simp] theorem mE_ap (m : ME) (k) (e : Env) : mE m k e = (match m e with | .ok (v, e1) => k v e1 | .ex c e1 => .ex c e1 | .st => .st) := rfl
@[simp] theorem mSkip_ap (e : Env) : mSkip e = .ok (.nx e) := rfl
@[simp] theorem mDrop_ap (m : ME) (e : Env) : mDrop m e = (match m e with | .ok (_, e1) => .ok (.nx e1) | .ex c e1 => .ex c e1 | .st => .st) := rfl
@[simp] theorem mRet_ap (m : ME) (e : Env) : mRet m e = (match m e with | .ok (v, e1) => (match retV v e1 with | some (t, e1) => .ok (.rt t e1) | none => .st) | .ex c e1 => .ex c e1 | .st => .st) := rfl
@[simp] theorem mAsg_ap (m : ME) (g : MG) (e : Env) : mAsg m g e = (match m e with | .ok (v, e1) => (match keep v e1 with | some (t, e1) => (match g t e1 with | .ok e2 => .ok (.nx e2) | _ => .st) | none => .st) | .ex c e1 => .ex c e1 | .st => .st) := rfl
@[simp] theorem mC_ap (d : D) (e : Env) : mC d e = .ok (.tv (.sh d), e) := rfl
@[simp] theorem mN_ap (i : Nat) (e : Env) : mN i e = (match e[i]? with
  | some s => match s.con with
    | some (.sh d) => .ok (.tv (.sh d), e)
    | some _ => .ok (.pl i [], e)
    | none => .st
  | none => .st) := rfl
@[simp] theorem mOp_ap (f) (ms : MA) (e : Env) : mOp f ms e = (ms e).bnd fun vs e1 => match (cns vs e1).bind f with
  | some t => .ok (.tv t, e1)
  | none => .st := rfl
@[simp] theorem mCons_ap (m : ME) (ms : MA) (e : Env) : mCons m ms e = (m e).bnd fun v e1 => (pend v ms e1).bnd fun vs e2 => .ok (v :: vs, e2) := rfl
@[simp] theorem mNil_ap (e : Env) : mNil e = .ok ([], e) := rfl
@[simp] theorem mTst_ap (f) (m : ME) (e : Env) : mTst f m e = (m e).bnd fun v e1 => match (cn v e1).bind f with
  | some b => .ok (b, e1)
  | none => .st := rfl
@[simp] theorem mNot_ap (m : MB) (e : Env) : mNot m e = (m e).bnd fun b e1 => .ok (!b, e1) := rfl
@[simp] theorem mAnd_ap (m n : MB) (e : Env) : mAnd m n e = (m e).bnd fun b e1 => if b = true then n e1 else .ok (false, e1) := rfl
@[simp] theorem mOr_ap (m n : MB) (e : Env) : mOr m n e = (m e).bnd fun b e1 => if b = true then .ok (true, e1) else n e1 := rfl
@[simp] theorem mIf_ap (c : MB) (m n : ME) (e : Env) : mIf c m n e = (c e).bnd fun b e1 => if b = true then m e1 else n e1 := rfl
def bC {α : Type} (o : Option Bool) (x y z : α) : α := match o with
  | some true => x
  | some false => y
  | none => z
@[simp] theorem bC_none {α : Type} (x y z : α) : bC none x y z = z := rfl
def bV : Val → Option Bool
  | .tv (.sh (.bl b)) => some b
  | _ => none
@[simp] theorem bV_bl (b : Bool) : bV (.tv (.sh (.bl b))) = some b := rfl
@[simp] theorem mAndV_ap (m n : ME) (e : Env) : mAndV m n e = (m e).bnd fun v e1 => bC (bV v) (n e1) (.ok (.tv (.sh (.bl false)), e1)) .st := by
  unfold mAndV
  congr 1
  funext v e1
  rcases v with t | ⟨i, p⟩
  · cases t with
    | sh d => cases d with
      | bl b => cases b <;> rfl
      | _ => rfl
    | _ => rfl
  · rfl
@[simp] theorem mOrV_ap (m n : ME) (e : Env) : mOrV m n e = (m e).bnd fun v e1 => bC (bV v) (.ok (.tv (.sh (.bl true)), e1)) (n e1) .st := by
  unfold mOrV
  congr 1
  funext v e1
  rcases v with t | ⟨i, p⟩
  · cases t with
    | sh d => cases d with
      | bl b => cases b <;> rfl
      | _ => rfl
    | _ => rfl
  · rfl
@[simp] theorem mIx_ap (m n : ME) (e : Env) : mIx m n e = (mCons m (mCons n mNil) e).bnd fun vs e1 => match vs with
  | [v, w] => match cn v e1, cn w e1 with
    | some t, some (.sh i) => match ixT v t i with
      | some r => .ok (r, e1)
      | none => .st
    | _, _ => .st
  | _ => .st := rfl
@[simp] theorem mPut_ap (mv mo mi : ME) (e : Env) : mPut mv mo mi e = (match mCons (mK mv) (mCons mo (mCons mi mNil)) e with
  | .ok ([.tv t, .pl i p, .tv (.sh d)], e1) => match updP i p (putT d t) e1 with
    | some (_, e2) => .ok (.nx e2)
    | none => .st
  | .ok _ => .st
  | .ex c e1 => .ex c e1
  | .st => .st) := rfl
@[simp] theorem mK_ap (m : ME) (e : Env) : mK m e = (m e).bnd fun v e1 => match keep v e1 with
  | some (t, e2) => .ok (.tv t, e2)
  | none => .st := rfl
@[simp] theorem mF_ap (m : ME) (e : Env) : mF m e = (m e).bnd fun v e1 => match frzV v e1 with
  | some (d, e2) => .ok (.tv (.sh d), e2)
  | none => .st := rfl
@[simp] theorem mLst_ap (ms : MA) (e : Env) : mLst ms e = (ms e).bnd fun vs e1 => match tvs vs with
  | some ts => if ts.length ≤ sizeLine then .ok (.tv (.lst ts), e1) else .st
  | none => .st := rfl
@[simp] theorem mTup_ap (ms : MA) (e : Env) : mTup ms e = (ms e).bnd fun vs e1 => match (tvs vs).bind allSh with
  | some ds => if ds.length ≤ sizeLine then .ok (.tv (.sh (.tup ds)), e1) else .st
  | none => .st := rfl
@[simp] theorem mNewD_ap (e : Env) : mNewD e = .ok (.tv (.dct []), e) := rfl
@[simp] theorem mCall_ap (n : Nat) (f : MF) (ms : MA) (e : Env) : mCall n f ms e = (ms e).bnd fun vs e1 => if vs.length = n then match cns vs e1 with
    | some ts => match f (ts.map argS) with
      | .ret t none => .ok (.tv t, e1)
      | .exc c none => .ex c e1
      | _ => .st
    | none => .st
  else .st := rfl
@[simp] theorem mCallM_ap (n : Nat) (f : MF) (ms : MA) (e : Env) : mCallM n f ms e = (ms e).bnd fun vs e1 => if vs.length = n then match vs with
  | .pl i p :: rest => match e1[i]? with
    | some s => match s.own with
      | some t => match T.get p t with
        | some u => match cns rest e1 with
          | some ts => if okR i rest = true then match f (.mu u :: ts.map argS) with
              | .ret r (some u') => match T.put p t u' with
                | some t' => .ok (.tv r, e1.set i (s.wth t'))
                | none => .st
              | .exc c (some u') => match T.put p t u' with
                | some t' => .ex c (e1.set i (s.wth t'))
                | none => .st
              | _ => .st
            else .st
          | none => .st
        | none => .st
      | none => .st
    | none => .st
  | _ => .st
  else .st := rfl
@[simp] theorem mForL_ap (mi : MI) (mg : MG) (mb : MS) (e : Env) : mForL mi mg mb e = (match mi e with
  | .ok (ds, e1) => loopL mg mb ds e1
  | .ex c e1 => .ex c e1
  | .st => .st) := rfl
@[simp] theorem mFor_ap (mi : MI) (mg : MG) (mb : MS) (e : Env) : mFor mi mg mb e = (match mi e with
  | .ok (ds, e1) => loopS mg mb ds e1
  | .ex c e1 => .ex c e1
  | .st => .st) := rfl
@[simp] theorem mSrc_ap (f) (m : ME) (e : Env) : mSrc f m e = (m e).bnd fun v e1 => match srcV v e1 with
  | some (t, e2) => match f t with
    | some ds => .ok (ds, e2)
    | none => .st
  | none => .st := rfl
theorem r62_if {α : Type} (j : Int) (a b : α) : (if r62 j = true then a else b) = if -(2 ^ 62) ≤ j ∧ j < 2 ^ 62 then a else b := by
  by_cases h : r62 j = true
  · rw [if_pos h, if_pos ((r62_iff j).mp h)]
  · rw [if_neg h, if_neg fun z => h ((r62_iff j).mpr z)]
@[simp] theorem mR1_ap (ms : MA) (e : Env) : mR1 ms e = (ms e).bnd fun vs e1 => match cns vs e1 with
  | some [.sh (.int j)] => if -(2 ^ 62) ≤ j ∧ j < 2 ^ 62 then .ok (rngD 0 j.toNat, e1) else .st
  | _ => .st := by
  first | (simp only [mR1, r62_if]; done) | (simp only [mR1, r62_if]; rfl)
@[simp] theorem mMut_ap (c : T → Bool) (f) (m : ME) (ms : MA) (e : Env) : mMut c f m ms e = (mCons (mChk c m) ms e).bnd fun vs e1 => match vs with
  | .pl i p :: r => match tvs r with
    | some us => match e1[i]? with
      | some s => match s.own with
        | some t => match T.get p t with
          | some u => if notSh u = true then match f u us with
              | some (u', rt) => match T.put p t u' with
                | some t' => .ok (.tv rt, e1.set i (s.wth t'))
                | none => .st
              | none => .st
            else .st
          | none => .st
        | none => .st
      | none => .st
    | none => .st
  | _ => .st := rfl
@[simp] theorem mChk_ap (c : T → Bool) (m : ME) (e : Env) : mChk c m e = (m e).bnd fun v e1 => match cn v e1 with
  | some t => if c t = true then .ok (v, e1) else .st
  | none => .st := Eq.symm (Eq.symm rfl)
@[simp] theorem mAttr_ap (C : Addr) (f : Str) (m : ME) (e : Env) : mAttr C f m e = (m e).bnd fun v e1 => match (cn v e1).bind (attrT C f v) with
  | some w => .ok (w, e1)
  | none => .st := rfl
@[simp] theorem mMake_ap (C : Addr) (n : Nat) (f : MF) (ms : MA) (e : Env) : mMake C n f ms e = (ms e).bnd fun vs e1 => if vs.length + 1 = n then match cns vs e1 with
    | some ts => match f (.mu (.ins C []) :: ts.map argS) with
      | .ret (.sh .non) (some u) => .ok (.tv u, e1)
      | .exc c (some _) => .ex c e1
      | _ => .st
    | none => .st
  else .st := rfl
@[simp] theorem mFld_ap (C : Addr) (f : Str) (mv mo : ME) (e : Env) : mFld C f mv mo e = (match mCons (mK mv) (mCons mo mNil) e with
  | .ok ([.tv t, .pl i p], e1) => match updP i p (putFT C f t) e1 with
    | some (_, e2) => .ok (.nx e2)
    | none => .st
  | .ok _ => .st
  | .ex c e1 => .ex c e1
  | .st => .st) := rfl
@[simp] theorem bnd_ok {α β : Type} (a : α) (e : Env) (k : α → Env → R β) : (R.ok (a, e)).bnd k = k a e := rfl
@[simp] theorem bnd_ex {α β : Type} (c : Exn) (e : Env) (k : α → Env → R β) : (R.ex c e : R (α × Env)).bnd k = .ex c e := rfl
@[simp] theorem pend_tv {α : Type} (t : T) (m : Env → R (α × Env)) (e : Env) : pend (.tv t) m e = m e := rfl
@[simp] theorem pend_0 {α : Type} (i : Nat) (m : Env → R (α × Env)) (e : Env) : pend (.pl i []) m e = m e := rfl
@[simp] theorem pend_1 {α : Type} (i : Nat) (q : PEl) (p : List PEl) (m : Env → R (α × Env)) (e : Env) : pend (.pl i (q :: p)) m e = (match e[i]? with
    | some s => match s.con with
      | some t => match T.get (q :: p) t with
        | some _ => match m (e.set i (.vw t)) with
          | .ok (a, e') => .ok (a, e'.set i s)
          | .ex c e' => .ex c (e'.set i s)
          | .st => .st
        | none => .st
      | none => .st
    | none => .st) := rfl
@[simp] theorem bodyF_ap (n : Nat) (mb : MS) (ss : List Slot) : bodyF n mb ss = (match mb (ss ++ List.replicate (n - ss.length) .un) with
  | .ok (.nx e) => fin (isMu ss) (.sh .non) e
  | .ok (.rt t e) => fin (isMu ss) t e
  | .ex c e => finX (isMu ss) c e
  | _ => .st) := rfl
def sts (l : List Str) : List D := l.map D.str
def kDs (ks : List Key) : List D := ks.map kD
@[simp] theorem sts_nil : sts [] = [] := rfl
@[simp] theorem sts_cons (s : Str) (l) : sts (s :: l) = .str s :: sts l := rfl
@[simp] theorem kDs_nil : kDs [] = [] := rfl
@[simp] theorem ofs_inj (s t : String) : (Str.ofString s = Str.ofString t) ↔ s = t := by
  constructor
  · intro h
    rw [Str.ofString_eq_toList, Str.ofString_eq_toList] at h
    have h := congrArg (fun x => x.cps.toList) h
    simp only [List.toList_toArray] at h
    have hi : ∀ a b : Char, a.toNat = b.toNat → a = b := fun a b e => Char.ext (UInt32.toNat_inj.mp e)
    have : ∀ l m : List Char, l.map Char.toNat = m.map Char.toNat → l = m := by
      intro l
      induction l with
      | nil => intro m h; cases m with
        | nil => rfl
        | cons _ _ => cases h
      | cons a l ih => intro m h; cases m with
        | nil => cases h
        | cons b m => simp only [List.map_cons, List.cons.injEq] at h; rw [hi _ _ h.1, ih _ h.2]
    exact String.toList_inj.mp (this _ _ h)
  · rintro rfl; rfl
@[simp] theorem lk_nil {κ α : Type} [DecidableEq κ] (k : κ) : lk ([] : List (κ × α)) k = none := rfl
@[simp] theorem lk_cons {κ α : Type} [DecidableEq κ] (p : κ × α) (r) (k : κ) : lk (p :: r) k = if p.1 = k then some p.2 else lk r k := rfl
@[simp] theorem rk_nil {κ α : Type} [DecidableEq κ] (k : κ) (a : α) : rk ([] : List (κ × α)) k a = [] := rfl
@[simp] theorem rk_cons {κ α : Type} [DecidableEq κ] (p : κ × α) (r) (k : κ) (a : α) : rk (p :: r) k a = if p.1 = k then (k, a) :: r else p :: rk r k a := rfl
@[simp] theorem pk_nil {κ α : Type} [DecidableEq κ] (k : κ) (a : α) : pk ([] : List (κ × α)) k a = [(k, a)] := rfl
@[simp] theorem pk_cons {κ α : Type} [DecidableEq κ] (p : κ × α) (r) (k : κ) (a : α) : pk (p :: r) k a = if p.1 = k then (k, a) :: r else p :: pk r k a := rfl
@[simp] theorem ge0 {α : Type} (a0 : α) (l : List α) : (a0 :: l)[0]? = some a0 := rfl
@[simp] theorem ge1 {α : Type} (a0 a1 : α) (l : List α) : (a0 :: a1 :: l)[1]? = some a1 := rfl
@[simp] theorem ge2 {α : Type} (a0 a1 a2 : α) (l : List α) : (a0 :: a1 :: a2 :: l)[2]? = some a2 := rfl
@[simp] theorem ge3 {α : Type} (a0 a1 a2 a3 : α) (l : List α) : (a0 :: a1 :: a2 :: a3 :: l)[3]? = some a3 := rfl
@[simp] theorem ge4 {α : Type} (a0 a1 a2 a3 a4 : α) (l : List α) : (a0 :: a1 :: a2 :: a3 :: a4 :: l)[4]? = some a4 := rfl
@[simp] theorem ge5 {α : Type} (a0 a1 a2 a3 a4 a5 : α) (l : List α) : (a0 :: a1 :: a2 :: a3 :: a4 :: a5 :: l)[5]? = some a5 := rfl
@[simp] theorem ge6 {α : Type} (a0 a1 a2 a3 a4 a5 a6 : α) (l : List α) : (a0 :: a1 :: a2 :: a3 :: a4 :: a5 :: a6 :: l)[6]? = some a6 := rfl
@[simp] theorem ge7 {α : Type} (a0 a1 a2 a3 a4 a5 a6 a7 : α) (l : List α) : (a0 :: a1 :: a2 :: a3 :: a4 :: a5 :: a6 :: a7 :: l)[7]? = some a7 := rfl
@[simp] theorem ge8 {α : Type} (a0 a1 a2 a3 a4 a5 a6 a7 a8 : α) (l : List α) : (a0 :: a1 :: a2 :: a3 :: a4 :: a5 :: a6 :: a7 :: a8 :: l)[8]? = some a8 := rfl
@[simp] theorem ge9 {α : Type} (a0 a1 a2 a3 a4 a5 a6 a7 a8 a9 : α) (l : List α) : (a0 :: a1 :: a2 :: a3 :: a4 :: a5 :: a6 :: a7 :: a8 :: a9 :: l)[9]? = some a9 := rfl
@[simp] theorem ge10 {α : Type} (a0 a1 a2 a3 a4 a5 a6 a7 a8 a9 a10 : α) (l : List α) : (a0 :: a1 :: a2 :: a3 :: a4 :: a5 :: a6 :: a7 :: a8 :: a9 :: a10 :: l)[10]? = some a10 := rfl
@[simp] theorem ge11 {α : Type} (a0 a1 a2 a3 a4 a5 a6 a7 a8 a9 a10 a11 : α) (l : List α) : (a0 :: a1 :: a2 :: a3 :: a4 :: a5 :: a6 :: a7 :: a8 :: a9 :: a10 :: a11 :: l)[11]? = some a11 := rfl
@[simp] theorem ge12 {α : Type} (a0 a1 a2 a3 a4 a5 a6 a7 a8 a9 a10 a11 a12 : α) (l : List α) : (a0 :: a1 :: a2 :: a3 :: a4 :: a5 :: a6 :: a7 :: a8 :: a9 :: a10 :: a11 :: a12 :: l)[12]? = some a12 := rfl
@[simp] theorem ge13 {α : Type} (a0 a1 a2 a3 a4 a5 a6 a7 a8 a9 a10 a11 a12 a13 : α) (l : List α) : (a0 :: a1 :: a2 :: a3 :: a4 :: a5 :: a6 :: a7 :: a8 :: a9 :: a10 :: a11 :: a12 :: a13 :: l)[13]? = some a13 := rfl
@[simp] theorem ge14 {α : Type} (a0 a1 a2 a3 a4 a5 a6 a7 a8 a9 a10 a11 a12 a13 a14 : α) (l : List α) : (a0 :: a1 :: a2 :: a3 :: a4 :: a5 :: a6 :: a7 :: a8 :: a9 :: a10 :: a11 :: a12 :: a13 :: a14 :: l)[14]? = some a14 := rfl
@[simp] theorem ge15 {α : Type} (a0 a1 a2 a3 a4 a5 a6 a7 a8 a9 a10 a11 a12 a13 a14 a15 : α) (l : List α) : (a0 :: a1 :: a2 :: a3 :: a4 :: a5 :: a6 :: a7 :: a8 :: a9 :: a10 :: a11 :: a12 :: a13 :: a14 :: a15 :: l)[15]? = some a15 := rfl
@[simp] theorem ge16 {α : Type} (a0 a1 a2 a3 a4 a5 a6 a7 a8 a9 a10 a11 a12 a13 a14 a15 a16 : α) (l : List α) : (a0 :: a1 :: a2 :: a3 :: a4 :: a5 :: a6 :: a7 :: a8 :: a9 :: a10 :: a11 :: a12 :: a13 :: a14 :: a15 :: a16 :: l)[16]? = some a16 := rfl
@[simp] theorem ge17 {α : Type} (a0 a1 a2 a3 a4 a5 a6 a7 a8 a9 a10 a11 a12 a13 a14 a15 a16 a17 : α) (l : List α) : (a0 :: a1 :: a2 :: a3 :: a4 :: a5 :: a6 :: a7 :: a8 :: a9 :: a10 :: a11 :: a12 :: a13 :: a14 :: a15 :: a16 :: a17 :: l)[17]? = some a17 := rfl
@[simp] theorem ge18 {α : Type} (a0 a1 a2 a3 a4 a5 a6 a7 a8 a9 a10 a11 a12 a13 a14 a15 a16 a17 a18 : α) (l : List α) : (a0 :: a1 :: a2 :: a3 :: a4 :: a5 :: a6 :: a7 :: a8 :: a9 :: a10 :: a11 :: a12 :: a13 :: a14 :: a15 :: a16 :: a17 :: a18 :: l)[18]? = some a18 := rfl
@[simp] theorem ge19 {α : Type} (a0 a1 a2 a3 a4 a5 a6 a7 a8 a9 a10 a11 a12 a13 a14 a15 a16 a17 a18 a19 : α) (l : List α) : (a0 :: a1 :: a2 :: a3 :: a4 :: a5 :: a6 :: a7 :: a8 :: a9 :: a10 :: a11 :: a12 :: a13 :: a14 :: a15 :: a16 :: a17 :: a18 :: a19 :: l)[19]? = some a19 := rfl
@[simp] theorem ge20 {α : Type} (a0 a1 a2 a3 a4 a5 a6 a7 a8 a9 a10 a11 a12 a13 a14 a15 a16 a17 a18 a19 a20 : α) (l : List α) : (a0 :: a1 :: a2 :: a3 :: a4 :: a5 :: a6 :: a7 :: a8 :: a9 :: a10 :: a11 :: a12 :: a13 :: a14 :: a15 :: a16 :: a17 :: a18 :: a19 :: a20 :: l)[20]? = some a20 := rfl
@[simp] theorem ge21 {α : Type} (a0 a1 a2 a3 a4 a5 a6 a7 a8 a9 a10 a11 a12 a13 a14 a15 a16 a17 a18 a19 a20 a21 : α) (l : List α) : (a0 :: a1 :: a2 :: a3 :: a4 :: a5 :: a6 :: a7 :: a8 :: a9 :: a10 :: a11 :: a12 :: a13 :: a14 :: a15 :: a16 :: a17 :: a18 :: a19 :: a20 :: a21 :: l)[21]? = some a21 := rfl
@[simp] theorem ge22 {α : Type} (a0 a1 a2 a3 a4 a5 a6 a7 a8 a9 a10 a11 a12 a13 a14 a15 a16 a17 a18 a19 a20 a21 a22 : α) (l : List α) : (a0 :: a1 :: a2 :: a3 :: a4 :: a5 :: a6 :: a7 :: a8 :: a9 :: a10 :: a11 :: a12 :: a13 :: a14 :: a15 :: a16 :: a17 :: a18 :: a19 :: a20 :: a21 :: a22 :: l)[22]? = some a22 := rfl
@[simp] theorem ge23 {α : Type} (a0 a1 a2 a3 a4 a5 a6 a7 a8 a9 a10 a11 a12 a13 a14 a15 a16 a17 a18 a19 a20 a21 a22 a23 : α) (l : List α) : (a0 :: a1 :: a2 :: a3 :: a4 :: a5 :: a6 :: a7 :: a8 :: a9 :: a10 :: a11 :: a12 :: a13 :: a14 :: a15 :: a16 :: a17 :: a18 :: a19 :: a20 :: a21 :: a22 :: a23 :: l)[23]? = some a23 := rfl
@[simp] theorem ge24 {α : Type} (a0 a1 a2 a3 a4 a5 a6 a7 a8 a9 a10 a11 a12 a13 a14 a15 a16 a17 a18 a19 a20 a21 a22 a23 a24 : α) (l : List α) : (a0 :: a1 :: a2 :: a3 :: a4 :: a5 :: a6 :: a7 :: a8 :: a9 :: a10 :: a11 :: a12 :: a13 :: a14 :: a15 :: a16 :: a17 :: a18 :: a19 :: a20 :: a21 :: a22 :: a23 :: a24 :: l)[24]? = some a24 := rfl
@[simp] theorem ge25 {α : Type} (a0 a1 a2 a3 a4 a5 a6 a7 a8 a9 a10 a11 a12 a13 a14 a15 a16 a17 a18 a19 a20 a21 a22 a23 a24 a25 : α) (l : List α) : (a0 :: a1 :: a2 :: a3 :: a4 :: a5 :: a6 :: a7 :: a8 :: a9 :: a10 :: a11 :: a12 :: a13 :: a14 :: a15 :: a16 :: a17 :: a18 :: a19 :: a20 :: a21 :: a22 :: a23 :: a24 :: a25 :: l)[25]? = some a25 := rfl
def shs (ds : List D) : List T := ds.map T.sh
theorem shs_cons (d : D) (r) : shs (d :: r) = .sh d :: shs r := rfl
@[simp] theorem shs_length (ds) : (shs ds).length = ds.length := by simp [shs]
@[simp] theorem shs_snoc (a) (d : D) : shs a ++ [T.sh d] = shs (a ++ [d]) := by simp [shs]
@[simp] theorem shs_get (ds) (i : Nat) : (shs ds)[i]? = (ds[i]?).map T.sh := by simp [shs]
@[simp] theorem con_un : Slot.con .un = none := rfl
@[simp] theorem con_va (t : T) : Slot.con (.va t) = some t := rfl
@[simp] theorem con_mu (t : T) : Slot.con (.mu t) = some t := rfl
@[simp] theorem con_vw (t : T) : Slot.con (.vw t) = some t := rfl
@[simp] theorem own_un : Slot.own .un = none := rfl
@[simp] theorem own_va (t : T) : Slot.own (.va t) = some t := rfl
@[simp] theorem own_mu (t : T) : Slot.own (.mu t) = some t := rfl
@[simp] theorem own_vw (t : T) : Slot.own (.vw t) = none := rfl
@[simp] theorem wth_va (t u : T) : Slot.wth (.va t) u = .va u := rfl
@[simp] theorem wth_mu (t u : T) : Slot.wth (.mu t) u = .mu u := rfl
@[simp] theorem cn_tv (t : T) (e : Env) : cn (.tv t) e = some t := rfl
@[simp] theorem cn_pl (i : Nat) (p : List PEl) (e : Env) : cn (.pl i p) e = (e[i]?).bind fun s => s.con.bind (T.get p) := rfl
@[simp] theorem cns_nil (e : Env) : cns [] e = some [] := rfl
@[simp] theorem cns_cons (v : Val) (r : List Val) (e : Env) : cns (v :: r) e = (cn v e).bind fun t => (cns r e).map fun ts => t :: ts := rfl
@[simp] theorem get_nil (t : T) : T.get [] t = some t := by cases t <;> rfl
@[simp] theorem get_fld (f : Str) (p : List PEl) (C : Addr) (fs) : T.get (.fld f :: p) (.ins C fs) = (lk fs f).bind (T.get p) := rfl
@[simp] theorem get_key (k : Key) (p : List PEl) (ks) : T.get (.key k :: p) (.dct ks) = (lk ks k).bind (T.get p) := rfl
@[simp] theorem get_idx (n : Nat) (p : List PEl) (ts) : T.get (.idx n :: p) (.lst ts) = (ts[n]?).bind (T.get p) := rfl
@[simp] theorem put_nil (t u : T) : T.put [] t u = some u := by cases t <;> rfl
@[simp] theorem put_fld (f : Str) (p : List PEl) (C : Addr) (fs) (u : T) : T.put (.fld f :: p) (.ins C fs) u = (lk fs f).bind fun t => (T.put p t u).map fun t' => .ins C (rk fs f t') := rfl
@[simp] theorem put_key (k : Key) (p : List PEl) (ks) (u : T) : T.put (.key k :: p) (.dct ks) u = (lk ks k).bind fun t => (T.put p t u).map fun t' => .dct (rk ks k t') := rfl
@[simp] theorem put_idx (n : Nat) (p : List PEl) (ts) (u : T) : T.put (.idx n :: p) (.lst ts) u = (ts[n]?).bind fun t => (T.put p t u).map fun t' => .lst (ts.set n t') := rfl
@[simp] theorem frzP_eq (i : Nat) (p : List PEl) (e : Env) : frzP i p e = (e[i]?).bind fun s => s.own.bind fun t => (T.get p t).bind fun u => (T.put p t (.sh u.er)).map fun t' => (u.er, e.set i (s.wth t')) := rfl
@[simp] theorem keep_tv (t : T) (e : Env) : keep (.tv t) e = some (t, e) := rfl
@[simp] theorem keep_pl (i : Nat) (p : List PEl) (e : Env) : keep (.pl i p) e = (frzP i p e).map fun q => (.sh q.1, q.2) := rfl
@[simp] theorem frzV_tv (t : T) (e : Env) : frzV (.tv t) e = some (t.er, e) := rfl
@[simp] theorem frzV_pl (i : Nat) (p : List PEl) (e : Env) : frzV (.pl i p) e = frzP i p e := rfl
@[simp] theorem er_sh (d : D) : T.er (.sh d) = d := by simp [T.er]
@[simp] theorem er_lst (ts : List T) : T.er (.lst ts) = .lst (ts.map T.er) := by simp [T.er, T.ers_map]
@[simp] theorem er_shs (ds : List D) : (shs ds).map T.er = ds := by simp [shs, List.map_map, Function.comp_def]
@[simp] theorem allSh_nil : allSh [] = some [] := rfl
@[simp] theorem allSh_cons (d : D) (r : List T) : allSh (.sh d :: r) = (allSh r).map fun ds => d :: ds := rfl
@[simp] theorem allSh_map (ds : List D) : allSh (shs ds) = some ds := by
  induction ds with
  | nil => rfl
  | cons d r ih => simp [shs_cons, ih]
@[simp] theorem allShK_nil : allShK [] = some [] := rfl
@[simp] theorem allShK_cons (k : Key) (d : D) (r) : allShK ((k, .sh d) :: r) = (allShK r).map fun ds => (k, d) :: ds := rfl
@[simp] theorem tvs_nil : tvs [] = some [] := rfl
@[simp] theorem tvs_cons (t : T) (r) : tvs (.tv t :: r) = (tvs r).map fun ts => t :: ts := rfl
@[simp] theorem argS_sh (d : D) : argS (.sh d) = .va (.sh d) := rfl
@[simp] theorem argS_lst (d) : argS (.lst d) = .vw (.lst d) := rfl
@[simp] theorem argS_dct (d) : argS (.dct d) = .vw (.dct d) := rfl
@[simp] theorem argS_ins (C) (d) : argS (.ins C d) = .vw (.ins C d) := rfl
@[simp] theorem okR_nil (i : Nat) : okR i [] = true := rfl
@[simp] theorem okR_tv (i : Nat) (t : T) (r) : okR i (.tv t :: r) = okR i r := rfl
@[simp] theorem okR_pl (i j : Nat) (p) (r) : okR i (.pl j p :: r) = (decide (j ≠ i) && okR i r) := rfl
@[simp] theorem notSh_lst (x) : notSh (.lst x) = true := rfl
@[simp] theorem notSh_dct (x) : notSh (.dct x) = true := rfl
@[simp] theorem notSh_ins (C) (x) : notSh (.ins C x) = true := rfl
@[simp] theorem isMu_mu (t) (r) : isMu (.mu t :: r) = true := rfl
@[simp] theorem isMu_va (t) (r) : isMu (.va t :: r) = false := rfl
@[simp] theorem isMu_vw (t) (r) : isMu (.vw t :: r) = false := rfl
@[simp] theorem isMu_nil : isMu [] = false := rfl
@[simp] theorem fin_f (t : T) (e : Env) : fin false t e = .ret t none := rfl
@[simp] theorem fin_t (t u : T) (r : Env) : fin true t (.mu u :: r) = .ret t (some u) := rfl
@[simp] theorem finX_f (c : Exn) (e : Env) : finX false c e = .exc c none := rfl
@[simp] theorem finX_t (c : Exn) (u : T) (r : Env) : finX true c (.mu u :: r) = .exc c (some u) := rfl
@[simp] theorem retV_tv (t : T) (e : Env) : retV (.tv t) e = some (t, e) := rfl
@[simp] theorem retV_pl (i : Nat) (e : Env) : retV (.pl i []) e = (match e[i]? with | some (.va t) => some (t, e.set i .un) | _ => keep (.pl i []) e) := rfl
@[simp] theorem retV_pl1 (i : Nat) (q) (p) (e : Env) : retV (.pl i (q :: p)) e = keep (.pl i (q :: p)) e := rfl
@[simp] theorem isM_un : isM .un = false := rfl
@[simp] theorem isM_va (t : T) : isM (.va t) = false := rfl
@[simp] theorem isM_vw (t : T) : isM (.vw t) = false := rfl
@[simp] theorem isM_mu (t : T) : isM (.mu t) = true := rfl
@[simp] theorem gN_ap (i : Nat) (t : T) (e : Env) : gN i t e = (match e[i]? with
  | some s => if isM s = true then .st else .ok (e.set i (.va t))
  | none => .st) := by
  unfold gN
  cases e[i]? with
  | none => rfl
  | some s => cases s <;> rfl
@[simp] theorem updP_ap {α : Type} (i : Nat) (p : List PEl) (f : T → Option (T × α)) (e : Env) : updP i p f e = (e[i]?).bind fun s => s.own.bind fun t => (T.get p t).bind fun u => if notSh u = true then (f u).bind fun q => (T.put p t q.1).map fun t' => (q.2, e.set i (s.wth t')) else none := rfl
@[simp] theorem keyD_int (i : Int) : keyD (.int i) = some (.inl i) := rfl
@[simp] theorem keyD_str (i : Str) : keyD (.str i) = some (.inr i) := rfl
@[simp] theorem kD_int (i : Int) : kD (.inl i) = .int i := rfl
@[simp] theorem kD_str (i : Str) : kD (.inr i) = .str i := rfl
@[simp] theorem kids_lst (ts) : kids (.lst ts) = allSh ts := rfl
@[simp] theorem kids_shl (ds) : kids (.sh (.lst ds)) = some ds := rfl
@[simp] theorem kids_sht (ds) : kids (.sh (.tup ds)) = some ds := rfl
@[simp] theorem kidsL_lst (ts) : kidsL (.lst ts) = allSh ts := rfl
@[simp] theorem kidsL_shl (ds) : kidsL (.sh (.lst ds)) = some ds := rfl
@[simp] theorem kidsD_dct (ts) : kidsD (.dct ts) = allShK ts := rfl
@[simp] theorem kidsD_sh (ds) : kidsD (.sh (.dct ds)) = some ds := rfl
@[simp] theorem keysT_dct (ts) : keysT (.dct ts) = some (ts.map (·.1)) := rfl
@[simp] theorem keysT_sh (ds) : keysT (.sh (.dct ds)) = some (ds.map (·.1)) := rfl
@[simp] theorem viewV_pl (i : Nat) (p) (e : Env) : viewV (.pl i p) e = (match e[i]? with | some (.vw t) => T.get p t | _ => none) := rfl
@[simp] theorem viewV_tv (t) (e : Env) : viewV (.tv t) e = none := rfl
@[simp] theorem srcV_ap (v : Val) (e : Env) : srcV v e = (match viewV v e with | some t => some (t, e) | none => (frzV v e).map fun q => (.sh q.1, q.2)) := rfl
@[simp] theorem anyT_dct (ts) : anyT (.dct ts) = some (kDs (ts.map (·.1))) := rfl
@[simp] theorem anyT_sh (ds) : anyT (.sh (.dct ds)) = some (kDs (ds.map (·.1))) := rfl
@[simp] theorem anyT_lst (ts) : anyT (.lst ts) = allSh ts := rfl
@[simp] theorem anyT_shl (ds) : anyT (.sh (.lst ds)) = some ds := rfl
@[simp] theorem anyT_sht (ds) : anyT (.sh (.tup ds)) = some ds := rfl
@[simp] theorem anyT_shs (z) : anyT (.sh (.str z)) = some (z.cps.toList.map fun c => .str ⟨#[c]⟩) := rfl
@[simp] theorem seqT_lst (ts) : seqT (.lst ts) = allSh ts := rfl
@[simp] theorem seqT_shl (ds) : seqT (.sh (.lst ds)) = some ds := rfl
@[simp] theorem seqT_sht (ds) : seqT (.sh (.tup ds)) = some ds := rfl
@[simp] theorem isL_lst (x) : isL (.lst x) = true := rfl
@[simp] theorem isL_shl (x) : isL (.sh (.lst x)) = true := rfl
@[simp] theorem isDc_dct (x) : isDc (.dct x) = true := rfl
@[simp] theorem isDc_shd (x) : isDc (.sh (.dct x)) = true := rfl
@[simp] theorem isIntT_int (i) : isIntT (.sh (.int i)) = true := rfl
@[simp] theorem asB_bl (b) : asB (.sh (.bl b)) = some b := rfl
@[simp] theorem truF_bl (b) : truF (.sh (.bl b)) = some b := rfl
@[simp] theorem ixN_ap (n : Nat) (i : Int) : ixN n i = if 0 ≤ i then (if i < n then some i.toNat else none) else if -(n : Int) ≤ i then some (i + n).toNat else none := rfl
@[simp] theorem subV_sh (v : Val) (q) (d : D) : subV v q (.sh d) = some (.tv (.sh d)) := rfl
@[simp] theorem subV_lst (i : Nat) (p) (q) (x) : subV (.pl i p) q (.lst x) = some (.pl i (p ++ [q])) := rfl
@[simp] theorem subV_dct (i : Nat) (p) (q) (x) : subV (.pl i p) q (.dct x) = some (.pl i (p ++ [q])) := rfl
@[simp] theorem subV_ins (i : Nat) (p) (q) (C) (x) : subV (.pl i p) q (.ins C x) = some (.pl i (p ++ [q])) := rfl
@[simp] theorem ixT_shl (v : Val) (ds) (i : Int) : ixT v (.sh (.lst ds)) (.int i) = (atI ds i).map fun d => .tv (.sh d) := rfl
@[simp] theorem ixT_sht (v : Val) (ds) (i : Int) : ixT v (.sh (.tup ds)) (.int i) = (atI ds i).map fun d => .tv (.sh d) := rfl
@[simp] theorem ixT_lst (v : Val) (ts) (i : Int) : ixT v (.lst ts) (.int i) = (ixN ts.length i).bind fun n => (ts[n]?).bind (subV v (.idx n)) := rfl
@[simp] theorem atI_ap {α : Type} (xs : List α) (i : Int) : atI xs i = (ixN xs.length i).bind fun j => xs[j]? := rfl
@[simp] theorem xAdd_int (i j : Int) : xAdd [.sh (.int i), .sh (.int j)] = some (.sh (.int (i + j))) := by simp [xAdd, liftD, oAdd, f2i]
theorem xMul_int (i j : Int) (h : i.natAbs.log2 + j.natAbs.log2 < 1000000) : xMul [.sh (.int i), .sh (.int j)] = some (.sh (.int (i * j))) := by simp [xMul, liftD, oMul, f2i, h]
theorem xMul_b (i j : Int) (h : -(2 ^ 500) < i ∧ i < 2 ^ 500) (h' : -(2 ^ 500) < j ∧ j < 2 ^ 500) : xMul [.sh (.int i), .sh (.int j)] = some (.sh (.int (i * j))) := by
  refine xMul_int i j ?_
  have a : i.natAbs < 2 ^ 500 := by omega
  have b : j.natAbs < 2 ^ 500 := by omega
  have lg : ∀ n : Nat, n < 2 ^ 500 → n.log2 < 500 := fun n hn => by
    rcases Nat.eq_zero_or_pos n with z | z
    · subst z; decide
    · exact (Nat.log2_lt (by omega)).mpr hn
  have := lg _ a; have := lg _ b
  omega
theorem xMod_int (i j : Int) (h : 0 < j) : xMod [.sh (.int i), .sh (.int j)] = some (.sh (.int (i % j))) := by simp [xMod, liftD, oMod, f2i, h]
theorem xDiv_int (i j : Int) (h : 0 < j) (h' : j.natAbs.log2 < 9000) : xDiv [.sh (.int i), .sh (.int j)] = some (.sh (.int (i / j))) := by simp [xDiv, liftD, oDiv, f2i, h, h']
@[simp] theorem xLt_int (i j : Int) : xLt [.sh (.int i), .sh (.int j)] = some (.sh (.bl (decide (i < j)))) := by simp [xLt, liftD, oLt, f2i]
@[simp] theorem xGe_int (i j : Int) : xGe [.sh (.int i), .sh (.int j)] = some (.sh (.bl (decide (j ≤ i)))) := by simp [xGe, liftD, oGe, f2i]
@[simp] theorem xEq_int (i j : Int) : xEq [.sh (.int i), .sh (.int j)] = some (.sh (.bl (decide (i = j)))) := by simp [xEq, liftD, oEqS, eqS]
theorem yEq_of {us : List T} {t : T} (h : xEq us = some t) : yEq us = some t := by simp [yEq, h]
@[simp] theorem yEq_int (i j : Int) : yEq [.sh (.int i), .sh (.int j)] = some (.sh (.bl (decide (i = j)))) := yEq_of (xEq_int i j)
@[simp] theorem isNon_non : isNon .non = true := rfl
@[simp] theorem isNon_str (x) : isNon (.str x) = false := rfl
@[simp] theorem isNon_int (x) : isNon (.int x) = false := rfl
@[simp] theorem isNon_lst (x) : isNon (.lst x) = false := rfl
@[simp] theorem isNon_tup (x) : isNon (.tup x) = false := rfl
@[simp] theorem isNon_dct (x) : isNon (.dct x) = false := rfl
@[simp] theorem isNon_bl (x) : isNon (.bl x) = false := rfl
theorem xList_kids {t : T} {ds : List D} (h : kids t = some ds) : xList [t] = some (.lst (shs ds)) := by simp [shs, xList, oListOf, h]
@[simp] theorem xList_shl (ds) : xList [.sh (.lst ds)] = some (.lst (shs ds)) := xList_kids rfl
@[simp] theorem xList_sht (ds) : xList [.sh (.tup ds)] = some (.lst (shs ds)) := xList_kids rfl
@[simp] theorem xLen_lst (ts : List T) : xLen [.lst ts] = some (.sh (.int ts.length)) := by simp [xLen, liftD, oLen, lenD]
theorem xAdd_l {s t : T} {a b : List D} (h : kidsL s = some a) (h' : kidsL t = some b) (hl : a.length + b.length ≤ sizeLine) : xAdd [s, t] = some (.lst (shs (a ++ b))) := by
  cases s with
  | sh d => cases d <;> simp [kidsL] at h; subst h; cases t with
    | sh d' => cases d' <;> simp [shs, kidsL] at h'; subst h'; simp [shs, xAdd, liftD, oAdd, oCatS, oCatL, f2i, hl]
    | lst ts => simp at h'; simp [shs, xAdd, liftD, oAdd, oCatS, oCatL, f2i, hl, h']
    | dct _ => simp [kidsL] at h'
    | ins _ _ => simp [kidsL] at h'
  | lst ts => simp at h; cases t with
    | sh d' => cases d' <;> simp [shs, kidsL] at h'; subst h'; simp [shs, xAdd, liftD, oAdd, oCatS, oCatL, f2i, hl, h]
    | lst ts => simp at h'; simp [shs, xAdd, liftD, oAdd, oCatS, oCatL, f2i, hl, h, h']
    | dct _ => simp [kidsL] at h'
    | ins _ _ => simp [kidsL] at h'
  | dct _ => simp [kidsL] at h
  | ins _ _ => simp [kidsL] at h
@[simp] theorem oSh_scr (ns) (i : Int) : oSh [.sh (.scr ns), .sh (.int i)] = some (.lst (shs (cut (ns.map D.int) none (some i)))) := by simp [shs, oSh, slT, kidsL]
@[simp] theorem gAppend_lst (ts : List T) (t : T) : gAppend (.lst ts) [t] = if ts.length < sizeLine then some (.lst (ts ++ [t]), .sh .non) else none := rfl
@[simp] theorem gClear_dct (ts) : gClear (.dct ts) [] = some (.dct [], .sh .non) := rfl
@[simp] theorem putT_dct (d : D) (t : T) (kts) : putT d t (.dct kts) = (keyD d).bind fun k => if kts.length < sizeLine then some (.dct (pk kts k t), ()) else none := rfl
@[simp] theorem putT_lst (j : Int) (t : T) (ts) : putT (.int j) t (.lst ts) = (ixN ts.length j).map fun n => (.lst (ts.set n t), ()) := rfl
@[simp] theorem sizeLine_eq : sizeLine = 16777216 := rfl
@[simp] theorem cut_hi {α : Type} (xs : List α) (i : Int) : cut xs none (some i) = if i < 0 then xs.take (i + xs.length).toNat else xs.take i.toNat := by
  simp only [cut, HT.sIx]
  by_cases h : i < 0
  · simp [h]
  · simp only [h, if_false, List.drop_zero, Nat.sub_zero]
    rcases Nat.le_total i.toNat xs.length with h' | h'
    · rw [Nat.min_eq_left h']
    · rw [Nat.min_eq_right h', List.take_length, List.take_of_length_le h']
abbrev penT (cs : List Int) (i p : Int) : T := .lst [.lst (shs (cs.map D.int)), .sh (.int i), .sh (.int p)]
theorem mSeq_nx {m n : MS} {e e1 : Env} (h : m e = .ok (.nx e1)) : mSeq m n e = n e1 := by rw [mSeq_ap, h]
theorem rst_self (e : Env) : ∀ vs : List Nat, rst e vs e = e
  | [] => rfl
  | v :: vs => by
    unfold rst
    rw [rst_self e vs]
    cases h : e[v]? with
    | none => rfl
    | some x =>
      obtain ⟨hl, h⟩ := List.getElem?_eq_some_iff.mp h
      simp only
      rw [← h, List.set_getElem_self]
@[simp] theorem litesAt_nil (e : Env) : litesAt e [] = true := rfl
@[simp] theorem litesAt_cons (e : Env) (v : Nat) (vs) : litesAt e (v :: vs) = ((match e[v]? with | some s => lite s | none => true) && litesAt e vs) := rfl
@[simp] theorem lite_un : lite .un = true := rfl
@[simp] theorem lite_sh (d : D) : lite (.va (.sh d)) = true := rfl
@[simp] theorem wpE_nil (e : Env) : wpE e [] = e := rfl
@[simp] theorem wpE_cons (e : Env) (v : Nat) (vs) : wpE e (v :: vs) = (wpE e vs).set v .un := rfl
@[simp] theorem rst_nil {α : Type} (b l : List α) : rst b [] l = l := rfl
@[simp] theorem rst_cons {α : Type} (b l : List α) (v : Nat) (vs) : rst b (v :: vs) l = (match b[v]? with | some x => (rst b vs l).set v x | none => rst b vs l) := rfl
theorem body_rt {n : Nat} {mb : MS} {ss : List Slot} {t : T} {e : Env} (h : mb (ss ++ List.replicate (n - ss.length) .un) = .ok (.rt t e)) : bodyF n mb ss = fin (isMu ss) t e := by rw [bodyF_ap, h]
theorem body_nx {n : Nat} {mb : MS} {ss : List Slot} {e : Env} (h : mb (ss ++ List.replicate (n - ss.length) .un) = .ok (.nx e)) : bodyF n mb ss = fin (isMu ss) (.sh .non) e := by rw [bodyF_ap, h]
def Ret (r : FR) (Q : T → Option T → Prop) : Prop := ∃ t m, r = .ret t m ∧ Q t m
def Run (r : R Out) (Q : Out → Prop) : Prop := ∃ o, r = .ok o ∧ Q o
theorem Ret_body {n : Nat} {mb : MS} {ss : List Slot} {Q : T → Option T → Prop} (h : Run (mb (ss ++ List.replicate (n - ss.length) .un)) (fun o => match o with | .nx e => Ret (fin (isMu ss) (.sh .non) e) Q | .rt t e => Ret (fin (isMu ss) t e) Q | _ => False)) : Ret (bodyF n mb ss) Q := by
  obtain ⟨o, h, q⟩ := h
  cases o <;> simp only at q
  · rwa [body_nx h]
  · rwa [body_rt h]
theorem Run_seq {m n : MS} {e : Env} {Q : Out → Prop} (h : Run (m e) (fun o => match o with | .nx e1 => Run (n e1) Q | o => Q o)) : Run (mSeq m n e) Q := by
  obtain ⟨o, h, q⟩ := h
  rw [mSeq_ap, h]
  cases o <;> simp only at q ⊢
  · exact q
  all_goals exact ⟨_, rfl, q⟩
theorem Run_nx {m n : MS} {e e1 : Env} {Q : Out → Prop} (h : m e = .ok (.nx e1)) (k : Run (n e1) Q) : Run (mSeq m n e) Q := by rwa [mSeq_nx h]
theorem Run_if {c : MB} {m n : MS} {e e1 : Env} {b : Bool} {Q : Out → Prop} (h : c e = .ok (b, e1)) (ht : b = true → Run (m e1) Q) (hf : b = false → Run (n e1) Q) : Run (mIfS c m n e) Q := by
  rw [mIfS_ap, h]
  cases b
  · simp only [Bool.false_eq_true, if_false]; exact hf rfl
  · simp only [if_true]; exact ht rfl
abbrev turn (Q : Out → Prop) (J : Env → Prop) : Out → Prop := fun o => match o with | .nx e => J e | .ct e => J e | .bk e => Q (.nx e) | .rt t e => Q (.rt t e)
theorem Run_loopL {mg : MG} {mb : MS} {Q : Out → Prop} (I : List D → Env → Prop)
    (st : ∀ d r e, I (d :: r) e → ∃ e1, mg (.sh d) e = .ok e1 ∧ Run (mb e1) (turn Q (I r))) (fin : ∀ e, I [] e → Q (.nx e)) :
    ∀ (ds : List D) (e : Env), I ds e → Run (loopL mg mb ds e) Q := by
  intro ds
  induction ds with
  | nil => intro e h; exact ⟨_, rfl, fin e h⟩
  | cons d r ih =>
    intro e h
    obtain ⟨e1, h1, o, h2, h3⟩ := st d r e h
    cases o <;> simp only [turn] at h3 <;> simp only [loopL, h1, h2]
    · exact ih _ h3
    · exact ⟨_, rfl, h3⟩
    · exact ⟨_, rfl, h3⟩
    · exact ih _ h3
theorem Run_for {mi : MI} {mg : MG} {mb : MS} {e e0 : Env} {ds : List D} {Q : Out → Prop} (I : List D → Env → Prop) (hi : mi e = .ok (ds, e0)) (h0 : I ds e0)
    (st : ∀ d r e, I (d :: r) e → ∃ e1, mg (.sh d) e = .ok e1 ∧ Run (mb e1) (turn Q (I r))) (fin : ∀ e, I [] e → Q (.nx e)) : Run (mForL mi mg mb e) Q := by
  rw [mForL_ap, hi]; exact Run_loopL I st fin ds e0 h0
theorem loopC_pm {α : Type} {vs : List Nat} {mg : MG} {mt : MB} {me : ME} {e0 : Env} (emb : α → D) (E : α → Env) (p : α → Bool) (g : α → T) :
    ∀ (l : List α) (acc : List T) (e : Env), acc.length + l.length ≤ sizeLine → wpE e vs = wpE e0 vs → rst e0 vs e = e0 →
    (∀ a ∈ l, mg (.sh (emb a)) (wpE e0 vs) = .ok (E a) ∧ wpE (E a) vs = wpE e0 vs ∧ rst e0 vs (E a) = e0 ∧ mt (E a) = .ok (p a, E a) ∧ (p a = true → ∃ v, me (E a) = .ok (v, E a) ∧ keep v (E a) = some (g a, E a))) →
    ∃ e', loopC vs mg mt me (l.map emb) acc e = .ok (acc ++ (l.filter p).map g, e') ∧ rst e0 vs e' = e0 := by
  intro l
  induction l with
  | nil => intro acc e _ _ h _; exact ⟨e, by simp [loopC], h⟩
  | cons d r ih =>
    intro acc e hl hw hr st
    obtain ⟨h1, h2, h3, h4, h5⟩ := st d List.mem_cons_self
    have st' := fun d' hd => st d' (List.mem_cons_of_mem _ hd)
    simp only [List.length_cons] at hl
    simp only [List.map_cons, loopC, hw, h1, h4]
    cases hp : p d with
    | true =>
      obtain ⟨v, h6, h7⟩ := h5 hp
      have : acc.length < sizeLine := by omega
      simp only [if_true, h6, h7, this]
      obtain ⟨e', h8, h9⟩ := ih (acc ++ [g d]) (E d) (by simp only [List.length_append, List.length_singleton]; omega) h2 h3 st'
      exact ⟨e', by rw [h8]; simp [hp], h9⟩
    | false =>
      simp only [Bool.false_eq_true, if_false]
      obtain ⟨e', h8, h9⟩ := ih acc (E d) (by omega) h2 h3 st'
      exact ⟨e', by rw [h8]; simp [hp], h9⟩
theorem mLc_pm {α : Type} {vs : List Nat} {mi : MI} {mg : MG} {mt : MB} {me : ME} {e e0 : Env} {l : List α} (emb : α → D) (E : α → Env) (p : α → Bool) (g : α → T) (hi : mi e = .ok (l.map emb, e0)) (hl : litesAt e0 vs = true) (hn : l.length ≤ sizeLine)
    (st : ∀ a ∈ l, mg (.sh (emb a)) (wpE e0 vs) = .ok (E a) ∧ wpE (E a) vs = wpE e0 vs ∧ rst e0 vs (E a) = e0 ∧ mt (E a) = .ok (p a, E a) ∧ (p a = true → ∃ v, me (E a) = .ok (v, E a) ∧ keep v (E a) = some (g a, E a))) :
    mLc vs mi mg mt me e = .ok (.tv (.lst ((l.filter p).map g)), e0) := by
  obtain ⟨e', h, h'⟩ := loopC_pm emb E p g l [] e0 (by simpa using hn) rfl (rst_self e0 vs) st
  simp only [mLc, hi, bnd_ok, hl, if_true, h, h', List.nil_append]
theorem mLc_map {α : Type} {vs : List Nat} {mi : MI} {mg : MG} {me : ME} {e e0 : Env} {l : List α} (emb : α → D) (E : α → Env) (g : α → T) (hi : mi e = .ok (l.map emb, e0)) (hl : litesAt e0 vs = true) (hn : l.length ≤ sizeLine)
    (st : ∀ a ∈ l, mg (.sh (emb a)) (wpE e0 vs) = .ok (E a) ∧ wpE (E a) vs = wpE e0 vs ∧ rst e0 vs (E a) = e0 ∧ ∃ v, me (E a) = .ok (v, E a) ∧ keep v (E a) = some (g a, E a)) :
    mLc vs mi mg (fun e => .ok (true, e)) me e = .ok (.tv (.lst (l.map g)), e0) := by
  have := mLc_pm (mt := fun e => .ok (true, e)) (me := me) emb E (fun _ => true) g hi hl hn (fun a ha => let ⟨h1, h2, h3, h4⟩ := st a ha; ⟨h1, h2, h3, rfl, fun _ => h4⟩)
  rwa [List.filter_eq_self.mpr (fun _ _ => rfl)] at this
@[simp] theorem mItems_ap (m : ME) (e : Env) : mItems m e = (m e).bnd fun v e1 => match v with
  | .pl i p => match e1[i]? with
    | some s => match s.own with
      | some t => match T.get p t with
        | some (.dct kts) => match allShK kts with
          | some kds => .ok (.tv (.lst (kds.map fun q => .sh (.tup [kD q.1, q.2]))), e1)
          | none => .st
        | _ => .st
      | none => .st
    | none => .st
  | .tv _ => .st := rfl
@[simp] theorem oStep_1 (ts : List T) : oStep [.lst ts, .sh (.int 1)] = (allSh ts).map fun ds => .lst (shs ds) := rfl
@[simp] theorem oStep_n1 (ts : List T) : oStep [.lst ts, .sh (.int (-1))] = (allSh ts).map fun ds => .lst (shs ds.reverse) := rfl
abbrev Fo := List (Str × Option Str)
def parD : Option Str → D
  | none => .non
  | some s => .str s
def foK (F : Fo) : List (Key × D) := F.map fun q => (.inr q.1, parD q.2)
@[simp] theorem foK_nil : foK [] = [] := rfl
@[simp] theorem foK_cons (q) (r : Fo) : foK (q :: r) = (.inr q.1, parD q.2) :: foK r := rfl
@[simp] theorem parD_none : parD none = .non := rfl
@[simp] theorem parD_some (s) : parD (some s) = .str s := rfl
def bO : Option T → Option Bool
  | some (.sh (.bl b)) => some b
  | _ => none
@[simp] theorem bO_bl (b : Bool) : bO (some (.sh (.bl b))) = some b := rfl
@[simp] theorem mChain_ap (f f' : List T → Option T) (m n l : ME) (e : Env) : mChain f f' m n l e = (mCons m (mCons n mNil) e).bnd fun vs e1 => match cns vs e1 with
  | some [t, .sh d] => if flD d = true then bC (bO (f [t, .sh d])) (mOp f' (mCons (mC d) (mCons l mNil)) e1) (.ok (.tv (.sh (.bl false)), e1)) .st
    else .st
  | _ => .st := by
  unfold mChain
  congr 1
  funext vs e1
  have key : ∀ t d, (match f [t, T.sh d] with
      | some (.sh (.bl true)) => mOp f' (mCons (mC d) (mCons l mNil)) e1
      | some (.sh (.bl false)) => .ok (.tv (.sh (.bl false)), e1)
      | _ => .st) = bC (bO (f [t, .sh d])) (mOp f' (mCons (mC d) (mCons l mNil)) e1) (.ok (.tv (.sh (.bl false)), e1)) .st := by
    intro t d
    cases f [t, T.sh d] with
    | none => rfl
    | some t => cases t with
      | sh d => cases d with
        | bl b => cases b <;> rfl
        | _ => rfl
      | _ => rfl
  cases cns vs e1 with
  | none => rfl
  | some l => match l with
    | [] => rfl
    | [_] => rfl
    | [t, .sh d] => exact congrArg (fun z => if flD d = true then z else R.st) (key t d)
    | [_, .lst _] => rfl
    | [_, .dct _] => rfl
    | [_, .ins _ _] => rfl
    | _ :: .sh _ :: _ :: _ => rfl
    | _ :: .lst _ :: _ :: _ => rfl
    | _ :: .dct _ :: _ :: _ => rfl
    | _ :: .ins _ _ :: _ :: _ => rfl
@[simp] theorem flD_int (i) : flD (.int i) = true := rfl
@[simp] theorem flD_str (i) : flD (.str i) = true := rfl
def par (F : Fo) (n : Str) : Option Str := (lk F n).getD none
def wayK (F : Fo) : Nat → Option Str → List Str
  | 0, _ => []
  | _ + 1, none => []
  | k + 1, some n => n :: wayK F k (par F n)
def way (F : Fo) (n : Str) : List Str := wayK F (F.length + 1) (some n)
def wayO (F : Fo) : Option Str → List Str
  | none => []
  | some m => way F m
@[simp] theorem wayO_none (F : Fo) : wayO F none = [] := rfl
@[simp] theorem wayO_some (F : Fo) (m) : wayO F (some m) = way F m := rfl
@[simp] theorem mProp_ap (C : Addr) (f : MF) (m : ME) (e : Env) : mProp C f m e = mCall 1 (nxF f) (mCons (mChk (isC C) m) mNil) e := rfl
@[simp] theorem mMeth_ap (C : Addr) (mn : Str) (n : Nat) (f : MF) (m : ME) (ms : MA) (e : Env) : mMeth C mn n f m ms e = mCall n f (mCons (mChk (isI C mn) m) ms) e := rfl
@[simp] theorem mMethM_ap (C : Addr) (mn : Str) (n : Nat) (f : MF) (m : ME) (ms : MA) (e : Env) : mMethM C mn n f m ms e = mCallM n f (mCons (mChk (isI C mn) m) ms) e := rfl
@[simp] theorem nxF_ap (f : MF) (ss : List Slot) : nxF f ss = (match f ss with | .exc _ _ => .st | r => r) := rfl
@[simp] theorem mRaise_ap (C : Addr) (e : Env) : mRaise C e = .ex ⟨C, none⟩ e := rfl
@[simp] theorem mRaiseF_ap (C : Addr) (f : Str) (m : ME) (e : Env) : mRaiseF C f m e = (match m e with
  | .ok (v, e1) => match cn v e1 with
    | some (.sh d) => if okD d = true then .ex ⟨C, some [(f, d)]⟩ e1 else .st
    | _ => .st
  | .ex c e1 => .ex c e1
  | .st => .st) := rfl
end DL
namespace W
open PySem PySem.Spec PyProof.Rows L2 DL
theorem pen_ok (c : Cs) (ns : List Int) : f_law_pen c [.va (.sh (.scr ns))] = .ret (penT (ns.take 60) 0 0) none := by
  simp [f_law_pen, b_law_pen, penT, List.map_take]
theorem pys_ints (cs : List Int) : D.pys (cs.map D.int) = some (cs.map PyData.int) := by
  induction cs with
  | nil => rfl
  | cons a r ih => simp [D.pys, D.py, ih]
theorem canLay_ints (cs : List Int) : PyData.canLayAll0 (cs.map PyData.int) = true := by
  induction cs with
  | nil => rfl
  | cons a r ih => simp [PyData.canLayAll0, PyData.canLay0, ih]
theorem depth_ints (cs : List Int) : PyData.depthAll (cs.map PyData.int) = 0 := by
  induction cs with
  | nil => rfl
  | cons a r ih => simp [PyData.depthAll, PyData.depth, ih]
theorem xNe_ints (cs : List Int) : xNe [.lst (shs (cs.map D.int)), .lst []] = some (.sh (.bl (!cs.isEmpty))) := by
  simp [xNe, liftD, oNeS, eqS, oNeD, eqDp, D.py, pys_ints, D.pys, SeqAt.shaped, PyData.canLay0, canLay_ints, PyData.depth, depth_ints, PyData.canLayAll0, PyData.depthAll]
  cases cs <;> simp [PyData.eqv, PyData.eqvAll]
theorem xPow18 : xPow [.sh (.int 10), .sh (.int 18)] = some (.sh (.int 1000000000000000000)) := by
  simp [xPow, liftD, oPow, f2i]
theorem next_ok (c : Cs) (cs : List Int) (i p : Int) (hi : 0 ≤ i) (hi' : i < 2 ^ 100) : ∃ q, f_law_next c [.mu (penT cs i p)] = .ret (.sh (.int q)) (some (penT cs (i + 1) p)) := by
  have h0 : 0 ≤ i * i := Int.mul_nonneg hi hi
  have h9 : i * i ≤ 2 ^ 100 * 2 ^ 100 := Int.mul_le_mul (by omega) (by omega) hi (by omega)
  have hq : xMul [.sh (.int (i * i)), .sh (.int 17)] = some (.sh (.int (i * i * 17))) := xMul_b _ _ ⟨by omega, by omega⟩ (by omega)
  by_cases h : cs = []
  · have hE : cs.isEmpty = true := by simp [h]
    have hL : ¬ i < (cs.length : Int) := by simp [h, hi]
    simp (disch := omega) [-getElem?_pos, f_law_next, b_law_next, penT, xNe_ints, xMul_b, xMod_int, xPow18, hq, hE, hL]
    done
  · have hl : 0 < cs.length := List.length_pos_iff.mpr h
    have h1 := Int.emod_nonneg i (b := cs.length) (by omega)
    have h2 := Int.emod_lt_of_pos i (b := cs.length) (by omega)
    have hx : ∃ x, cs[(i % (cs.length : Int)).toNat]? = some x := ⟨_, List.getElem?_eq_getElem (by omega)⟩
    obtain ⟨x, hx⟩ := hx
    have hE : cs.isEmpty = false := by simp [h]
    by_cases ha : i < (cs.length : Int) <;> by_cases hb : 1000000000000000000 ≤ x
    all_goals simp (disch := omega) [-getElem?_pos, f_law_next, b_law_next, penT, xNe_ints, xMul_b, xMod_int, xPow18, hq, hE, h1, h2, hx, ha, hb]
theorem draw_ok (c : Cs) (cs : List Int) (i p n : Int) (hi : 0 ≤ i) (hi' : i < 2 ^ 100) (hn : 0 < n) (hn' : n < 2 ^ 500) : ∃ k i' p', f_law_draw c [.mu (penT cs i p), .va (.sh (.int n))] = .ret (.sh (.int k)) (some (penT cs i' p')) ∧ 0 ≤ k ∧ k < n ∧ i ≤ i' ∧ i' ≤ i + 1 := by
  have hlg : n.natAbs.log2 < 9000 := by
    have : n.natAbs < 2 ^ 9000 := Nat.lt_of_lt_of_le (by omega : n.natAbs < 2 ^ 500) (Nat.pow_le_pow_right (by decide) (by decide))
    exact (Nat.log2_lt (by omega)).mpr this
  have hd : ∀ x, xDiv [.sh (.int x), .sh (.int n)] = some (.sh (.int (x / n))) := fun x => xDiv_int x n hn hlg
  have hm : ∀ x, xMod [.sh (.int x), .sh (.int n)] = some (.sh (.int (x % n))) := fun x => xMod_int x n hn
  by_cases h : p < n
  · obtain ⟨q, hq⟩ := next_ok c cs i p hi hi'
    refine ⟨q % n, i + 1, q / n, ?_, Int.emod_nonneg _ (by omega), Int.emod_lt_of_pos _ hn, by omega, by omega⟩
    simp only [penT] at hq
    simp [f_law_draw, b_law_draw, penT, hd, hm, h, hq]
  · refine ⟨p % n, i, p / n, ?_, Int.emod_nonneg _ (by omega), Int.emod_lt_of_pos _ hn, by omega, by omega⟩
    simp [f_law_draw, b_law_draw, penT, hd, hm, h]
end W
namespace DL
variable [Lf]
open PySem PySem.Spec PyProof.Rows L2 HT
end DL
namespace L2
open PySem PySem.Spec PyProof.Rows
def tMkV (R : Addr → Addr → Option Addr → HO) (C : Addr) (sp : Sp) (ta : TA) : TE := fun σ H Q => ta σ H fun vs H1 => vs.length ≤ 1000 ∧ ∀ a, H1 a = none → sp (.ref a :: vs) (upd H1 a (exo a C none))
  (fun v H2 => v = .non ∧ ∃ (d : Addr) (fs : List (Str × V)), H2 a = some (exo a C (some d)) ∧ H2 d = some (exd d fs) ∧ H1 d = none ∧ Q (.ref a) (upd (upd (del H2 a) d (.xd fs)) a (R a C (some d)))) (fun _ _ _ => False)
section
variable {X : Cx} {e : Expr} {es : List Expr} {ta : TA} {p pos : Pos} {x : Str} {C fI : Addr} {k : Nat} {fd : FuncData} {ps : List Str} {sp : Sp} {CX : CXT} {R : Addr → Addr → Option Addr → HO}
theorem call_exV {pins : List (Addr × Obj)} {σ : St} {H1 : Hp} {s1 : Shared} {us : List Value} {vs : List V} {kws : List (Str × Value)} {ws : List Value} {Q : VK} (hR : ∀ (h : Heap) (a C : Addr) (d : Option Addr) (oe : Obj) (t0 : Addr) (K : Hp), h.get? a = some oe → oe = ({ cls := .ref C, dict := d, data := .fields #[.ref t0, .none, .none, .none, .bool false, .none] } : Obj) → ObjOk X.prog X.w K h a (R a C d))
    (T : OexC X.K C) (iC : PySem.W.findIn X.K (.ref C) "__init__" = some (some (.ref fI))) (tI : PySem.W.typeIn X.K (.ref fI) = some (.type "function"))
    (F1 : FnOk X.prog X.w X.K X.mg X.base CX k fI fd ps sp) (hr : Room (k + 1) X.A) (hx : Passes CX X (fun _ _ _ => False)) (I1 : Inv X pins σ H1 s1) (r1 : Vals vs us) (hws : ws.length ≤ 1000)
    (hb : ∀ (s : Shared) (u : Value), X.K.In s.heap → BindsTo s fd ⟨u :: ws, kws⟩ (ps.zip (u :: us)))
    (hz : vs.length ≤ 1000) (q1 : ∀ a, H1 a = none → sp (.ref a :: vs) (upd H1 a (exo a C none))
      (fun v H2 => v = .non ∧ ∃ (d : Addr) (fs : List (Str × V)), H2 a = some (exo a C (some d)) ∧ H2 d = some (exd d fs) ∧ H1 d = none ∧ Q (.ref a) (upd (upd (del H2 a) d (.xd fs)) a (R a C (some d)))) (fun _ _ _ => False)) :
    codeAny (model X.prog X.w) X.A (.call (.ref C) ⟨ws, kws⟩) (fun r s' => match r with
      | .ok (.ret u) => ∃ v H', Inv X pins σ H' s' ∧ RelV v u ∧ Q v H'
      | .ok _ => False
      | .error er => X.xe er s') s1 := by
  obtain ⟨nm, q, N, bs, bm, sn, sub, ab, col, dd, k0, k1, k2, k3, k5, hC, hbm⟩ := T.cls
  obtain ⟨hp, g, dr, tk, os⟩ := s1
  have hsz : hp.objs.size ≤ hp.objs.size + 1 := Nat.le_succ _
  have hn : H1 (hp.objs.size + 1) = none := I1.hok.fresh hsz
  have hq := q1 (hp.objs.size + 1) hn
  have kk : ∀ b o, hp.get? b = some o → ((hp.push (PySem.W.kdv_tup ws)).push (PySem.HandSPX.excO C hp.objs.size)).get? b = some o := fun b o e => Heap.get?_push_of_some _ (Heap.get?_push_of_some _ e)
  have hget : ((hp.push (PySem.W.kdv_tup ws)).push (PySem.HandSPX.excO C hp.objs.size)).get? (hp.objs.size + 1) = some (PySem.HandSPX.excO C hp.objs.size) := by heap_get
  have I2 : Inv X pins σ (upd H1 (hp.objs.size + 1) (exo (hp.objs.size + 1) C none)) ⟨(hp.push (PySem.W.kdv_tup ws)).push (PySem.HandSPX.excO C hp.objs.size), g, dr, tk, os⟩ :=
    I1.laid (t' := tk) (a := hp.objs.size + 1) (o := exo (hp.objs.size + 1) C none) (h' := (hp.push (PySem.W.kdv_tup ws)).push (PySem.HandSPX.excO C hp.objs.size)) kk hsz (exo_ok hget)
  have r2 : Vals (V.ref (hp.objs.size + 1) :: vs) (Value.ref (hp.objs.size + 1) :: us) := .cons rfl r1
  have hwz : ws.length ≤ sizeLine := by rw [sizeLine_eq]; omega
  refine (PySem.HandSPX.call_own_kw F.excBase_ValueError (fun Y => PySem.HandSPX.refsVE_contains Y bm hbm) (I1.kIn _ _ hC) (PySem.W.looks_findIn I1.kIn iC) (fun self => PySem.W.bind_fn I1.kIn self tI) hwz
    (codeAny_mono (F1.run _ X.stack _ _ ⟨Value.ref (hp.objs.size + 1) :: ws, kws⟩ (Value.ref (hp.objs.size + 1) :: us) _ _ (fun _ _ _ => False) (hr.make C ws kws) (I2.env0.make C ws kws) (hb _ (Value.ref (hp.objs.size + 1)) I2.kIn) r2 hq) fun r s' hq' => ?_))
  show PySem.W.InitBack _ _ _ _
  cases r with
  | error er => exact hx pins σ _ _ er s' I2 hq'
  | ok fl =>
    cases fl with
    | ret u =>
      obtain ⟨v, H2, os2, bare2, un2, hok2, rv, ev, d, fs, ea, ed, hd1, q2⟩ := hq'
      subst ev
      obtain ⟨h2, g2, d2, t2, os'⟩ := s'
      obtain ⟨t0, G, J, kG, ge, hoe, na⟩ := mk_end0 (d2 := d2) (t2 := t2) I1 hsz kk un2 hok2 os2 bare2 ea ed hd1
      exact ⟨rv, .ref (hp.objs.size + 1), _, J.laidN kG ge na (hR _ _ _ _ _ t0 _ hoe rfl), rfl, q2⟩
    | next => exact False.elim hq'
    | brk => exact False.elim hq'
    | cont => exact False.elim hq'
end
end L2
namespace DL
variable [Lf]
open PySem PySem.Spec PyProof.Rows L2 HT
theorem exR_ok {P : Program} {w : World} (h : Heap) (a C : Addr) (d : Option Addr) (oe : Obj) (t0 : Addr) (K : Hp) (e : h.get? a = some oe) (q : oe = ({ cls := .ref C, dict := d, data := .fields #[.ref t0, .none, .none, .none, .bool false, .none] } : Obj)) : ObjOk P w K h a (exR a C d) :=
  ⟨⟨oe, _, e, by rw [q]; exact ⟨rfl, rfl⟩, by rw [q]⟩, ⟨oe, e⟩, fun _ _ ⟨o, v, q, r⟩ k => ⟨o, v, k o q, r⟩⟩
section
variable {X : Cx} {e : Expr} {es : List Expr} {ta : TA} {p pos : Pos} {x : Str} {C fI : Addr} {k : Nat} {fd : FuncData} {ps : List Str} {sp : Sp} {CX : CXT} {kws : List Keyword}
theorem pe_exV (T : OexC X.K C) (iC : PySem.W.findIn X.K (.ref C) "__init__" = some (some (.ref fI))) (tI : PySem.W.typeIn X.K (.ref fI) = some (.type "function"))
    (F1 : FnOk X.prog X.w X.K X.mg X.base CX k fI fd ps sp) (hr : Room (k + 1) X.A) (hb : Binds X.K fd ps []) (hx : Passes CX X (fun _ _ _ => False)) (hg : Gl X x) (hm : X.mg x = some (.ref C)) (ha : PA X (e :: es) ta)
    (hdb : (x == ("__debug__" : Str)) = false := by decide) (he : starEach (e :: es) X.env = (false, eval e X.env) :: starEach es X.env := by rfl) (hpl : (backTo pos (starEach es X.env)).any (·.1) = false := by rfl) :
    PE X (.Call (.Name x p) (e :: es) [] pos) (tMkV exR C sp ta) := by
  refine ⟨fun pins s σ H Q I h => ?_⟩
  refine wpAny_Call_Name_kw (ld_glob I hg hm ?_ hdb)
  refine PySem.W.callWith_K (h₀ := X.base) I.ok.mod.kin T.kC (thn (ha.run pos pins s σ H _ I h) fun us s1 ⟨vs, H1, I1, r1, hz, q1⟩ => ⟨I1.kIn, ?_⟩) he hpl
  have el : us.length = vs.length := (Paired.length r1).symm
  refine wpAny_call (codeAny_mono (call_exV (ws := us) (kws := []) exR_ok T iC tI F1 hr hx I1 r1 (by omega) (fun s u kI => ?_) hz q1) fun r s' z => ?_)
  · have hl : (u :: us).length = ps.length := by
      obtain ⟨a, ha⟩ : ∃ a, H1 a = none := ⟨s1.heap.objs.size, I1.hok.fresh (Nat.le_refl _)⟩
      have e := F1.len _ _ _ _ (q1 a ha)
      simp only [List.length_cons] at e ⊢
      omega
    have := hb s (u :: us) kI (by simpa using hl)
    simpa using this
  · cases r with
    | error er => exact z
    | ok fl => cases fl with
      | ret u => exact z
      | next => exact z.elim
      | brk => exact z.elim
      | cont => exact z.elim
theorem pe_exVK {ks : List Str} {tk : TA} (T : OexC X.K C) (iC : PySem.W.findIn X.K (.ref C) "__init__" = some (some (.ref fI))) (tI : PySem.W.typeIn X.K (.ref fI) = some (.type "function"))
    (F1 : FnOk X.prog X.w X.K X.mg X.base CX k fI fd ps sp) (hr : Room (k + 1) X.A) (hb : BindsW X.K fd ps ks) (hps : ps.length = ks.length + 1) (hx : Passes CX X (fun _ _ _ => False)) (hg : Gl X x) (hm : X.mg x = some (.ref C)) (hkw : PK X kws tk)
    (hall : (backToKw pos (keywordEach kws X.env)).all (·.1.isSome) = true := by rfl) (hks : (backToKw pos (keywordEach kws X.env)).filterMap (·.1) = ks := by rfl) (hdb : (x == ("__debug__" : Str)) = false := by decide)
    (hpl : ((backTo pos (starEach [] X.env)).any (·.1) || (backToKw pos (keywordEach kws X.env)).any (·.1.isNone)) = false := by rfl) :
    PE X (.Call (.Name x p) [] kws pos) (tMkV exR C sp tk) := by
  refine ⟨fun pins s σ H Q I h => ?_⟩
  refine wpAny_Call_Name_kw (ld_glob I hg hm ?_ hdb)
  refine PySem.W.callWith_KW0 (h₀ := X.base) I.ok.mod.kin T.kC hall ?_ hpl
  refine thn (hkw.run pos pins s σ H _ I h) fun us s1 ⟨vs, H1, I1, r1, hz, q1⟩ => ⟨I1.kIn, ?_⟩
  rw [hks]
  have el : us.length = vs.length := (Paired.length r1).symm
  have lu : us.length = ks.length := by
    obtain ⟨a, ha⟩ : ∃ a, H1 a = none := ⟨s1.heap.objs.size, I1.hok.fresh (Nat.le_refl _)⟩
    have e := F1.len _ _ _ _ (q1 a ha)
    simp only [List.length_cons] at e
    omega
  refine wpAny_call (codeAny_mono (call_exV (ws := []) (kws := ks.zip us) exR_ok T iC tI F1 hr hx I1 r1 (by simp) (fun s u kI => hb s u us kI lu) hz q1) fun r s' z => ?_)
  cases r with
  | error er => exact z
  | ok fl => cases fl with
    | ret u => exact z
    | next => exact z.elim
    | brk => exact z.elim
    | cont => exact z.elim
theorem pe_ex0 {bmB : List Value} {B newId initId : String} {te : TE} (F : ExcBaseFacts B newId initId bmB) (q : PySem.W.excIn X.K C bmB newId = true) (gC : X.mg x = some (.ref C)) (kC : PySem.W.keepIn X.K (.ref C) = true) (hg : Gl X x)
    (he : PE X e te) (hs : starEach [e] X.env = (false, eval e X.env) :: starEach [] X.env := by rfl) (hdb : (x == ("__debug__" : Str)) = false := by decide) :
    PE X (.Call (.Name x p) [e] [] pos) (fun σ H Q => te σ H fun _ H1 => ∀ a, H1 a = none → Q (.ref a) (upd H1 a (exR a C none))) := by
  refine ⟨fun pins s σ H Q I h => wpAny_Call_Name_kw (ld_glob I hg gC ?_ hdb)⟩
  refine PySem.W.callWith_K (h₀ := X.base) I.ok.mod.kin kC (thn (PA.run (pa_cons he pa_nil hs) pos pins s σ H (fun vs H1 => match vs with | [_] => ∀ a, H1 a = none → Q (.ref a) (upd H1 a (exR a C none)) | _ => False) I h) fun us s1 ⟨vs, H1, I1, r1, q1⟩ => ⟨I1.kIn, ?_⟩) hs (by rfl)
  match vs, q1 with
  | [v], q1 =>
    obtain ⟨u, rfl⟩ : ∃ u, us = [u] := by
      cases r1 with
      | cons a b => cases b; exact ⟨_, rfl⟩
    show wpAny _ _ (call (.ref C) [u]) _ _ _
    obtain ⟨m0, N0, nm0, qn0, bs0, hd0, sn0, su0, ab0, co0, dd0, k0, k1, k2, k3, k5, mN0, lC, lN, ni, T0⟩ := exc_obj I1.kIn q
    refine wpAny_call_exc_subT F T0 lC lN ni (fun h' a made => ?_) (by show 1 ≤ sizeLine; rw [sizeLine_eq]; omega)
    have off : H1 a = none := I1.hok.gone made.new
    obtain ⟨t0, at0, _, _⟩ := made.there
    exact ⟨.ref a, _, I1.laidN made.keeps made.new off (exR_ok _ _ _ _ _ t0 _ at0 rfl), rfl, q1 a off⟩
end
def mExn (C : Addr) (m : ME) : ME := fun e => match m e with
  | .ok (_, e1) => .ok (.tv (.sh (.exn C false [])), e1)
  | .ex c e1 => .ex c e1
  | .st => .st
def mExnF (C : Addr) (f : Str) (ms : MA) : ME := fun e => (ms e).bnd fun vs e1 => match cns vs e1 with
  | some [.sh d] => if okD d = true then .ok (.tv (.sh (.exn C true [(f, d)])), e1) else .st
  | _ => .st
@[simp] theorem mExn_ap (C : Addr) (m : ME) (e : Env) : mExn C m e = match m e with
  | .ok (_, e1) => .ok (.tv (.sh (.exn C false [])), e1)
  | .ex c e1 => .ex c e1
  | .st => .st := rfl
@[simp] theorem mExnF_ap (C : Addr) (f : Str) (ms : MA) (e : Env) : mExnF C f ms e = (ms e).bnd fun vs e1 => match cns vs e1 with
  | some [.sh d] => if okD d = true then .ok (.tv (.sh (.exn C true [(f, d)])), e1) else .st
  | _ => .st := rfl
section
variable {K : Kf} {B F H : Hp} {e1 : Env} {σ : L2.St}
theorem St.layF {a : Addr} {o : HO} (st : St K B F H e1 σ) (ha : H a = none) (fo : fz a o) : Gr B F (upd F a o) ∧ St K B (upd F a o) (upd H a o) e1 σ := by
  have sH : Same H (upd H a o) := Same.upd ha
  have fn : F a = none := st.sf.off ha
  have sF : Same F (upd F a o) := Same.upd fn
  refine ⟨⟨sF, fun b h1 h2 => ?_⟩, ?_⟩
  · by_cases z : b = a
    · rw [z]; exact st.sb.ne _ ha
    · rw [upd_ne z] at h2; exact absurd h1 h2
  · obtain ⟨S, fp, nd, kS⟩ := st.fp
    refine ⟨st.sb.trans sH, ⟨⟨fun b u h => ?_⟩, fun b u h => ?_⟩, S, fp.imp fun c d Sc hS z => z.mono (.of sF) fun b hb o h => sH b o h, nd, fun b hb => ⟨(kS b hb).1, ?_⟩⟩
    · by_cases z : b = a
      · subst z; rw [upd_same] at h ⊢; exact .inl h
      · rw [upd_ne z] at h ⊢; exact st.sf.sub b u h
    · by_cases z : b = a
      · subst z; rw [upd_same] at h; cases h; exact fo
      · rw [upd_ne z] at h; exact st.sf.nt b u h
    · obtain ⟨o, ho, _⟩ := fp.has b hb
      rw [upd_ne (fun z => by rw [z, ha] at ho; cases ho)]
      exact (kS b hb).2
end
section
variable {K : Kf} {E : XS}
theorem ev_exn {C : Addr} {te : TE} {m : ME} (he : EvT K E te m) : EvT K E (fun σ H Q => te σ H fun _ H1 => ∀ a, H1 a = none → Q (.ref a) (upd H1 a (exR a C none))) (mExn C m) := by
  intro B F H σ env Q hs hv hp
  refine he B F H σ env _ hs hv ?_
  unfold mExn at hp
  cases e : m env with
  | st => rw [e] at hp; exact hp
  | ex c e1 => rw [e] at hp; exact hp
  | ok q =>
    obtain ⟨v, e1⟩ := q
    rw [e] at hp
    intro x F' H' g kd got a ha
    obtain ⟨g2, st2⟩ := got.base.layF ha (exR_fz (C := C) (od := none))
    exact hp _ _ _ (g.trans g2) kd (.of (st2.push (d := .exn C false []) ⟨a, none, [], rfl, upd_same, .inr ⟨rfl, rfl, rfl⟩, rfl⟩))
theorem ev_exnF {C : Addr} {f : Str} {ta : TA} {ms : MA} (ox : OexC K C) (na : PySem.W.findIn K (.ref C) f = some none) (he : EvA K E ta ms) : EvT K E (tMkV exR C (spX K f) ta) (mExnF C f ms) := by
  intro B F H σ env Q hs hv hp
  refine he B F H σ env _ hs hv ?_
  unfold mExnF at hp
  cases e : ms env with
  | st => rw [e] at hp; exact hp
  | ex c e1 => rw [e] at hp; exact hp
  | ok q =>
    obtain ⟨vs, e1⟩ := q
    rw [e] at hp
    replace hp : PostV K B F env σ E Q (match cns vs e1 with | some [.sh d] => if okD d = true then .ok (.tv (.sh (.exn C true [(f, d)])), e1) else .st | _ => .st) := hp
    intro xs F' H' g kd got
    cases c : cns vs e1 with
    | none => rw [c] at hp; exact hp.elim
    | some us =>
    rw [c] at hp
    match us, c, hp with
    | [.sh d], c, hp =>
      simp only at hp
      by_cases hk : okD d = true
      case neg => rw [if_neg hk] at hp; exact hp.elim
      rw [if_pos hk] at hp
      obtain ⟨y, l, ey, vr, el⟩ := got.vrs (Got.kd (H' := H') hv g kd) (ts := [.sh d]) c
      have el : l = [] := el
      subst el
      subst ey
      have dr : DR K F' d y := vr
      refine ⟨by simp, fun a ha => ⟨a, C, y, rfl, ox, na, upd_same, okX_of hk dr, fun dx hd hda => ?_⟩⟩
      have hdx : H' dx = none := by rw [upd_ne hda] at hd; exact hd
      refine ⟨rfl, dx, [(f, y)], upd_same, by rw [upd_ne hda, upd_same], hdx, ?_⟩
      have eH : upd (upd (del (upd (upd (upd H' a (exo a C none)) dx (exd dx [(f, y)])) a (exo a C (some dx))) a) dx (.xd [(f, y)])) a (exR a C (some dx)) = upd (upd H' dx (.xd [(f, y)])) a (exR a C (some dx)) := by
        funext b
        by_cases z2 : b = a
        · rw [z2, upd_same, upd_same]
        · rw [upd_ne z2, upd_ne z2]
          by_cases z : b = dx
          · rw [z, upd_same, upd_same]
          · rw [upd_ne z, upd_ne z, del_ne z2, upd_ne z2, upd_ne z, upd_ne z2]
      rw [eH]
      obtain ⟨g2, st2⟩ := got.base.layF (o := .xd [(f, y)]) hdx trivial
      have ha2 : upd H' dx (.xd [(f, y)]) a = none := by rw [upd_ne (fun z => hda z.symm)]; exact ha
      obtain ⟨g3, st3⟩ := st2.layF ha2 (exR_fz (C := C) (od := some dx))
      refine hp _ _ _ (g.trans (g2.trans g3)) kd (.of (st3.push (d := .exn C true [(f, d)]) ⟨a, some dx, [(f, y)], rfl, upd_same, .inl ⟨rfl, dx, rfl, ?_⟩, _, [], rfl, ⟨rfl, (dr.mono g2.sub).mono g3.sub⟩, rfl⟩))
      rw [upd_ne hda, upd_same]
variable {P : Program} {w : World} {base : Heap} {mg : Str → Option Value} {k : Nat} {ι : Type} {X : ι → Cx} {e : Expr} {pos p p2 p3 : Pos} {m : ME} {ms : MA} {x : Str} {kws : List Keyword}
theorem eExn (fm : Fm P w K mg base k X E) {C : Addr} (h : Exc K C) (hm : mg x = some (.ref C)) (ha : DE K E X e m) (hg : ∀ j, Gl (X j) x := by intro _; rfl) (hd : (x == ("__debug__" : Str)) = false := by decide +kernel)
    (he : ∀ j, starEach [e] (X j).env = (false, eval e (X j).env) :: starEach [] (X j).env := by intro _; rfl) : DE K E X (.Call (.Name x p) [e] [] pos) (mExn C m) := by
  obtain ⟨t, h1, h2⟩ := ha
  exact ⟨_, fun j => pe_ex0 PySem.F.excBase_ValueError (by rw [fm.hk j]; exact h.ex) (by rw [fm.hm j]; exact hm) (by rw [fm.hk j]; exact h.kp) (hg j) (h1 j) (he j) hd, ev_exn h2⟩
theorem eExnF (fm : Fm P w K mg base k X E) {C : Addr} {f : Str} (o : OwnX P w K mg base C f) (hm : mg x = some (.ref C)) (ha : DE K E X e m) (hk : 2 ≤ k := by decide) (hg : ∀ j, Gl (X j) x := by intro _; rfl) (hd : (x == ("__debug__" : Str)) = false := by decide +kernel)
    (he : ∀ j, starEach [e] (X j).env = (false, eval e (X j).env) :: starEach [] (X j).env := by intro _; rfl) (hpl : ∀ j, (backTo pos (starEach [] (X j).env)).any (·.1) = false := by intro _; rfl) :
    DE K E X (.Call (.Name x p) [e] [] pos) (mExnF C f (mCons m mNil)) := by
  obtain ⟨t, h1, h2⟩ := ha
  obtain ⟨fI, fd, ps, iC, tI, F1, B⟩ := o.ex
  refine ⟨_, fun j => ?_, ev_exnF o.ox o.na (ev_cons h2 ev_nil)⟩
  have F2 : FnOk (X j).prog (X j).w (X j).K (X j).mg (X j).base (L2.CX (X j).prog (X j).w) 1 fI fd ps (spX K f) := by rw [fm.hP j, fm.hw j, fm.hb j, fm.hk j, fm.hm j]; exact F1
  exact pe_exV (by rw [fm.hk j]; exact o.ox) (by rw [fm.hk j]; exact iC) (by rw [fm.hk j]; exact tI) F2 ((fm.room j).mono hk) (by rw [fm.hk j]; exact B) passL (hg j) (by rw [fm.hm j]; exact hm) (pa_cons (h1 j) pa_nil (he j)) hd (he j) (hpl j)
structure OwnXK (P : Program) (w : World) (K : Kf) (mg : Str → Option Value) (base : Heap) (C : Addr) (f y : Str) : Prop where
  ox : OexC K C
  na : PySem.W.findIn K (.ref C) f = some none
  ex : ∃ fI fd, PySem.W.findIn K (.ref C) "__init__" = some (some (.ref fI)) ∧ PySem.W.typeIn K (.ref fI) = some (.type "function") ∧ FnOk P w K mg base (L2.CX P w) 1 fI fd ["self", y] (spX K f) ∧ BindsW K fd ["self", y] [y]
theorem OwnXK.of {C fI : Addr} {f y qual : Str} {st : Stmt} {fd : FuncData} (Fn : Fun K "__init__" qual st fI fd) (S : FnScope ["self", y] ["self", y] (defScope st)) (B : BindsW K fd ["self", y] [y]) (ox : OexC K C) (na : PySem.W.findIn K (.ref C) f = some none)
    (iC : PySem.W.findIn K (.ref C) "__init__" = some (some (.ref fI))) (tI : PySem.W.typeIn K (.ref fI) = some (.type "function"))
    (body : ∀ (cdv : Value) (A : Around) (outer : List PySem.Env) (s : Shared) (H0 : Hp) (E0 : XK), ∃ t, PSs (cxOf (L2.CX P w) P w K mg base ["self", y] qual (defScope st) fI cdv A outer s H0 E0) (defBody st) t ∧ ∀ (vs : List V) (H : Hp) (Q : VK) (E : XK), spX K f vs H Q E → t { nx := fun _ H' => Q .non H', rt := Q } (vs.map some) H) :
    OwnXK P w K mg base C f y := ⟨ox, na, fI, fd, iC, tI, Fun.okX Fn S (fun vs H Q E ⟨_, _, _, e, _⟩ => by rw [e]; rfl) (fun cdv A outer s H vs Q E hr h => by
    obtain ⟨t, h1, h2⟩ := body cdv A outer s H E
    have h3 := h2 vs H Q E h
    obtain ⟨_, _, _, rfl, _⟩ := h
    exact ⟨t, h1, h3⟩), B⟩
theorem eExnFK (fm : Fm P w K mg base k X E) {C : Addr} {f y : Str} (o : OwnXK P w K mg base C f y) (hm : mg x = some (.ref C)) (ha : DKw K E X kws ms) (hk : 2 ≤ k := by decide) (hg : ∀ j, Gl (X j) x := by intro _; rfl) (hd : (x == ("__debug__" : Str)) = false := by decide +kernel)
    (hall : ∀ j, (backToKw pos (keywordEach kws (X j).env)).all (·.1.isSome) = true := by intro _; rfl) (hks : ∀ j, (backToKw pos (keywordEach kws (X j).env)).filterMap (·.1) = [y] := by intro _; rfl)
    (hpl : ∀ j, ((backTo pos (starEach [] (X j).env)).any (·.1) || (backToKw pos (keywordEach kws (X j).env)).any (·.1.isNone)) = false := by intro _; rfl) :
    DE K E X (.Call (.Name x p) [] kws pos) (mExnF C f ms) := by
  obtain ⟨t, h1, h2⟩ := ha
  obtain ⟨fI, fd, iC, tI, F1, B⟩ := o.ex
  refine ⟨_, fun j => ?_, ev_exnF o.ox o.na h2⟩
  have F2 : FnOk (X j).prog (X j).w (X j).K (X j).mg (X j).base (L2.CX (X j).prog (X j).w) 1 fI fd ["self", y] (spX K f) := by rw [fm.hP j, fm.hw j, fm.hb j, fm.hk j, fm.hm j]; exact F1
  exact pe_exVK (by rw [fm.hk j]; exact o.ox) (by rw [fm.hk j]; exact iC) (by rw [fm.hk j]; exact tI) F2 ((fm.room j).mono hk) (by rw [fm.hk j]; exact B) rfl passL (hg j) (by rw [fm.hm j]; exact hm) (h1 j) (hall j) (hks j) hd (hpl j)
end
end DL
namespace DL
variable [Lf]
open PySem PySem.Spec PyProof.Rows L2
end DL
namespace DL
variable [Lf]
open PySem PySem.Spec PyProof PyProof.Rows L2 HT
section
variable {X : Cx} {e : Expr} {te : TE} {p apos cpos pos : Pos}
def leP (a b : Int × Int) : Bool := !SrtO.lexB b a
end
def srP (l : List (Int × Int)) : List (Int × Int) := l.mergeSort leP
def pairsI : List (Key × D) → Option (List (Int × Int))
  | [] => some []
  | (.inl i, .int j) :: r => (pairsI r).map ((i, j) :: ·)
  | _ => none
def pT (q : Int × Int) : T := .sh (.tup [.int q.1, .int q.2])
def mSortItems (m : ME) : ME := fun e => (m e).bnd fun v e1 => match cns [v] e1 with
  | some [.sh (.dct kds)] => match pairsI kds with
    | some l => .ok (.tv (.lst ((srP l).map pT)), e1)
    | none => .st
  | some [.dct kts] => match (allShK kts).bind pairsI with
    | some l => .ok (.tv (.lst ((srP l).map pT)), e1)
    | none => .st
  | _ => .st
@[simp] theorem mSortItems_ap (m : ME) (e : Env) : mSortItems m e = (m e).bnd fun v e1 => match cns [v] e1 with
  | some [.sh (.dct kds)] => match pairsI kds with
    | some l => .ok (.tv (.lst ((srP l).map pT)), e1)
    | none => .st
  | some [.dct kts] => match (allShK kts).bind pairsI with
    | some l => .ok (.tv (.lst ((srP l).map pT)), e1)
    | none => .st
  | _ => .st := rfl
def mValuesL (m : ME) : ME := fun e => (m e).bnd fun v e1 => match cns [v] e1 with
  | some [.sh (.dct kds)] => .ok (.tv (.lst (kds.map fun q => .sh q.2)), e1)
  | some [.dct kts] => match allShK kts with
    | some kds => .ok (.tv (.lst (kds.map fun q => .sh q.2)), e1)
    | none => .st
  | _ => .st
@[simp] theorem mValuesL_ap (m : ME) (e : Env) : mValuesL m e = (m e).bnd fun v e1 => match cns [v] e1 with
  | some [.sh (.dct kds)] => .ok (.tv (.lst (kds.map fun q => .sh q.2)), e1)
  | some [.dct kts] => match allShK kts with
    | some kds => .ok (.tv (.lst (kds.map fun q => .sh q.2)), e1)
    | none => .st
  | _ => .st := rfl
end DL
namespace HC
open PySem PySem.Spec PyProof PyProof.Rows
end HC
namespace DL
variable [Lf]
open PySem PySem.Spec PyProof PyProof.Rows L2
def plT (t : T) : Bool := match t.er with
  | .non => true
  | .bl _ => true
  | .int _ => true
  | .str _ => true
  | .lst _ => true
  | .dct _ => true
  | _ => false
def mOwnB (C : Addr) (tb : String → Bool) (ic : List (Addr × Bool)) (f : MF) (ms : MA) : ME := fun e => (ms e).bnd fun vs e1 => match cns vs e1 with
  | some [a, b] => if isC C a = true ∧ rtOk C tb ic b = true then match nxF f [argS a, argS b] with
      | .ret (.sh (.bl r)) none => .ok (.tv (.sh (.bl r)), e1)
      | _ => .st
    else if plT a = true ∧ isC C b = true then match nxF f [argS b, argS a] with
      | .ret (.sh (.bl r)) none => .ok (.tv (.sh (.bl r)), e1)
      | _ => .st
    else .st
  | _ => .st
@[simp] theorem mOwnB_ap (C : Addr) (tb : String → Bool) (ic : List (Addr × Bool)) (f : MF) (ms : MA) (e : Env) : mOwnB C tb ic f ms e = (ms e).bnd fun vs e1 => match cns vs e1 with
  | some [a, b] => if isC C a = true ∧ rtOk C tb ic b = true then match nxF f [argS a, argS b] with
      | .ret (.sh (.bl r)) none => .ok (.tv (.sh (.bl r)), e1)
      | _ => .st
    else if plT a = true ∧ isC C b = true then match nxF f [argS b, argS a] with
      | .ret (.sh (.bl r)) none => .ok (.tv (.sh (.bl r)), e1)
      | _ => .st
    else .st
  | _ => .st := rfl
end DL
namespace DL
variable [Lf]
open PySem PySem.Spec PyProof.Rows L2 HT
def mSlhA (ms : MA) : ME := fun e => (ms e).bnd fun vs e1 => match cns vs e1 with
  | some us => match oSlh us with
    | some t => .ok (.tv t, e1)
    | none => match us with
      | [.sh (.tup ds), .sh (.int i), .sh (.int j)] => .ok (.tv (.sh (.tup (cut ds (some i) (some j)))), e1)
      | _ => .st
  | none => .st
@[simp] theorem mSlhA_ap (ms : MA) (e : Env) : mSlhA ms e = (ms e).bnd fun vs e1 => match cns vs e1 with
  | some us => match oSlh us with
    | some t => .ok (.tv t, e1)
    | none => match us with
      | [.sh (.tup ds), .sh (.int i), .sh (.int j)] => .ok (.tv (.sh (.tup (cut ds (some i) (some j)))), e1)
      | _ => .st
  | none => .st := rfl
end DL
namespace DL
variable [Lf]
open PySem PySem.Spec PyProof.Rows L2
def okO : Val → Bool
  | .pl _ [] => true
  | .tv (.sh _) => true
  | _ => false
def mCallO (n : Nat) (f : MF) (ms : MA) : ME := fun e => (ms e).bnd fun vs e1 => if vs.length = n then match vs with
  | v0 :: .tv u :: rest => if okO v0 = true ∧ okP rest = true then match cn v0 e1, cns rest e1 with
    | some t0, some ts => match f (argS t0 :: .va u :: ts.map argS) with
      | .ret r none => .ok (.tv r, e1)
      | .exc c none => .ex c e1
      | _ => .st
    | _, _ => .st
    else .st
  | _ => .st
  else .st
@[simp] theorem mCallO_ap (n : Nat) (f : MF) (ms : MA) (e : Env) : mCallO n f ms e = (ms e).bnd fun vs e1 => if vs.length = n then match vs with
  | v0 :: .tv u :: rest => if okO v0 = true ∧ okP rest = true then match cn v0 e1, cns rest e1 with
    | some t0, some ts => match f (argS t0 :: .va u :: ts.map argS) with
      | .ret r none => .ok (.tv r, e1)
      | .exc c none => .ex c e1
      | _ => .st
    | _, _ => .st
    else .st
  | _ => .st
  else .st := rfl
@[simp] theorem okO_tv (d : D) : okO (.tv (.sh d)) = true := rfl
@[simp] theorem okO_pl (i : Nat) : okO (.pl i []) = true := rfl
@[simp] theorem okP_nil : okP [] = true := rfl
@[simp] theorem okP_tv (t : T) (r : List Val) : okP (.tv t :: r) = okP r := rfl
@[simp] theorem okP_pl (i : Nat) (r : List Val) : okP (.pl i [] :: r) = okP r := rfl
def lendB (s : Slot) (i : Nat) : R (Val × Env) → R (Val × Env)
  | .ok (.tv u, e1) => .ok (.tv u, e1.set i s)
  | .ok _ => .st
  | .ex c e1 => .ex c (e1.set i s)
  | .st => .st
def mLend (i : Nat) (m : ME) : ME := fun e => match e[i]? with
  | some (.va (.sh _)) => m e
  | some (.va t) => lendB (.va t) i (m (e.set i (.vw t)))
  | some (.mu t) => lendB (.mu t) i (m (e.set i (.vw t)))
  | _ => m e
@[simp] theorem mLend_ap (i : Nat) (m : ME) (e : Env) : mLend i m e = (match e[i]? with
  | some (.va (.sh _)) => m e
  | some (.va t) => lendB (.va t) i (m (e.set i (.vw t)))
  | some (.mu t) => lendB (.mu t) i (m (e.set i (.vw t)))
  | _ => m e) := rfl
@[simp] theorem lendB_ok (s : Slot) (i : Nat) (u : T) (e1 : Env) : lendB s i (.ok (.tv u, e1)) = .ok (.tv u, e1.set i s) := rfl
@[simp] theorem lendB_ex (s : Slot) (i : Nat) (c : Exn) (e1 : Env) : lendB s i (.ex c e1) = .ex c (e1.set i s) := rfl
def oStrI : List T → Option T
  | [.sh (.int i)] => if i.natAbs.log2 < 1920 then some (.sh (.str (toString i))) else none
  | _ => none
theorem on_strI {K : Kf} : OpN K (fun xs H Q => ∃ i, xs = [.int i] ∧ i.natAbs.log2 < 1920 ∧ Q (.str (toString i)) H) oStrI := by
  intro B F H ss os us xs t' Q st vr e q
  unfold oStrI at e
  split at e
  · rename_i i
    obtain ⟨x, _, rfl, vx, rfl⟩ := vr
    by_cases hb : i.natAbs.log2 < 1920
    case neg => rw [if_neg hb] at e; cases e
    rw [if_pos hb] at e
    cases e
    cases (show x = V.int i from vx)
    exact ⟨i, rfl, hb, q _ _ (Same.refl _) (st.push (d := .str _) rfl)⟩
  · cases e
section
variable {P : Program} {w : World} {base : Heap} {K : Kf} {mg : Str → Option Value} {k : Nat} {ι : Type} {X : ι → Cx} {E : XS} {e o : Expr} {es : List Expr} {apos cpos pos : Pos} {m : ME} {ms : MA} {x : Str}
theorem cStrI (fm : Fm P w K mg base k X E) : Ca K X (.type "str") oStrI := Ca.of (fun j => call_str_int (X := X j)) on_strI
end
end DL
namespace W
open PySem PySem.Spec PyProof.Rows L2 DL
def b_law_kinds (c : Cs) : MS := mSeq (mAsg (mLst (mCons (mK (mOp (oIsE (ix_ParseError c)) (mCons (mN 0) mNil))) (mCons (mK (mOp (oIsE (ix_NotAdmitted c)) (mCons (mN 0) mNil))) (mCons (mK (mOp (oIsE (ix_NoSolution c)) (mCons (mN 0) mNil))) (mNil))))) (gN 1))
 (mSeq (mAsg (mOp xAdd (mCons (mN 1) (mCons (mF (mLst (mCons (mK (mOp (oIsE (ix_InvalidGroups c)) (mCons (mN 0) mNil))) (mCons (mK (mOp (oIsE (ix_UnknownGroup c)) (mCons (mN 0) mNil))) (mNil))))) mNil))) (gN 1))
 (mSeq (mDrop (mMut isL gAppend (mN 1) (mCons (mK (mOp (oIsE (ix_InvalidRoll c)) (mCons (mN 0) mNil))) (mNil))))
 (mSeq (mAsg (mOp xAdd (mCons (mN 1) (mCons (mF (mLst (mCons (mK (mOp (oIsE (ix_InvalidMembers c)) (mCons (mN 0) mNil))) (mCons (mK (mOp (oIsE (ix_InvalidStep c)) (mCons (mN 0) mNil))) (mNil))))) mNil))) (gN 1))
 (mSeq (mAsg (mOp xAdd (mCons (mN 1) (mCons (mF (mLst (mCons (mK (mOp (oIsE (ix_InvalidPrices c)) (mCons (mN 0) mNil))) (mCons (mK (mOp (oIsE (ix_InvalidAmounts c)) (mCons (mN 0) mNil))) (mNil))))) mNil))) (gN 1))
 (mSeq (mAsg (mOp xAdd (mCons (mN 1) (mCons (mF (mLst (mCons (mK (mOp (oIsE (ix_PlanFinished c)) (mCons (mN 0) mNil))) (mCons (mK (mOp (oIsE (ix_NothingToUndo c)) (mCons (mN 0) mNil))) (mNil))))) mNil))) (gN 1))
 (mSeq (mAsg (mOp xAdd (mCons (mN 1) (mCons (mF (mLst (mCons (mK (mOp (oIsE (ix_InvalidName c)) (mCons (mN 0) mNil))) (mCons (mK (mOp (oIsE (ix_DuplicateName c)) (mCons (mN 0) mNil))) (mNil))))) mNil))) (gN 1))
 (mSeq (mAsg (mOp xAdd (mCons (mN 1) (mCons (mF (mLst (mCons (mK (mOp (oIsE (ix_UnknownName c)) (mCons (mN 0) mNil))) (mCons (mK (mOp (oIsE (ix_UnknownMark c)) (mCons (mN 0) mNil))) (mNil))))) mNil))) (gN 1))
 (mSeq (mAsg (mOp xAdd (mCons (mN 1) (mCons (mF (mLst (mCons (mK (mOp (oIsE (ix_InvalidCommand c)) (mCons (mN 0) mNil))) (mCons (mK (mOp (oIsE (ix_InvalidLine c)) (mCons (mN 0) mNil))) (mNil))))) mNil))) (gN 1))
 (mRet (mOp xAdd (mCons (mN 1) (mCons (mF (mLst (mCons (mK (mOp (oIsE (ix_NotASolution c)) (mCons (mN 0) mNil))) (mNil)))) mNil))))))))))))
def f_law_kinds (c : Cs) : MF := bodyF 2 (b_law_kinds c)
def c_law_0 (c : Cs) : ME := mLc [6] (mR1 (mCons (mOp xLen (mCons (mN 4) (mNil))) (mNil))) (gN 6) ((fun e => .ok (true, e))) (mOp yEq (mCons (mN 6) (mCons (mN 5) mNil)))
def l_law_0 (c : Cs) : MS := mForL (mR1 (mCons (mOp xLen (mCons (mN 4) (mNil))) (mNil))) (gN 5) (mSeq (mIfS (mOr (mNot (mTst truF (mOp (oIsE (ix_ValueError c)) (mCons (mIx (mN 4) (mN 5)) mNil)))) (mNot (mTst truF (mOp (oIsE (ix_QuotaError c)) (mCons (mIx (mN 4) (mN 5)) mNil))))) (mRet (mC (.bl false))) (mSkip))
 (mIfS (mTst asB (mOp xNe (mCons (mCall 1 (f_law_kinds c) (mCons (mIx (mN 4) (mN 5)) (mNil))) (mCons (c_law_0 c) mNil)))) (mRet (mC (.bl false))) (mSkip)))
def b_law (c : Cs) : MS := mSeq (mAsg (mCall 1 (f_law_pen c) (mCons (mN 0) (mNil))) (gN 1))
 (mSeq (mAsg (mCallM 2 (f_law_draw c) (mCons (mN 1) (mCons (mOp xPow (mCons (mC (.int 10)) (mCons (mC (.int 6)) mNil))) (mNil)))) (gN 2))
 (mSeq (mAsg (mOp xAdd (mCons (mC (.str "note ")) (mCons (mOp oStrI (mCons (mCallM 2 (f_law_draw c) (mCons (mN 1) (mCons (mC (.int 1000)) (mNil)))) mNil)) mNil))) (gN 3))
 (mSeq (mAsg (mLst (mCons (mK (mExnF c.ParseError "line" (mCons (mN 2) mNil))) (mCons (mK (mExnF c.NotAdmitted "group" (mCons (mN 3) mNil))) (mCons (mK (mExnF c.NoSolution "group" (mCons (mN 3) mNil))) (mCons (mK (mExn c.InvalidGroups (mN 3))) (mCons (mK (mExn c.UnknownGroup (mN 3))) (mNil))))))) (gN 4))
 (mSeq (mAsg (mOp xAdd (mCons (mN 4) (mCons (mF (mLst (mCons (mK (mExn c.InvalidRoll (mN 3))) (mCons (mK (mExn c.InvalidMembers (mN 3))) (mCons (mK (mExn c.InvalidStep (mN 3))) (mCons (mK (mExn c.InvalidPrices (mN 3))) (mNil))))))) mNil))) (gN 4))
 (mSeq (mAsg (mOp xAdd (mCons (mN 4) (mCons (mF (mLst (mCons (mK (mExn c.InvalidAmounts (mN 3))) (mCons (mK (mExn c.PlanFinished (mN 3))) (mCons (mK (mExn c.NothingToUndo (mN 3))) (mCons (mK (mExn c.InvalidName (mN 3))) (mNil))))))) mNil))) (gN 4))
 (mSeq (mAsg (mOp xAdd (mCons (mN 4) (mCons (mF (mLst (mCons (mK (mExn c.DuplicateName (mN 3))) (mCons (mK (mExn c.UnknownName (mN 3))) (mCons (mK (mExn c.UnknownMark (mN 3))) (mCons (mK (mExn c.InvalidCommand (mN 3))) (mNil))))))) mNil))) (gN 4))
 (mSeq (mAsg (mOp xAdd (mCons (mN 4) (mCons (mF (mLst (mCons (mK (mExn c.InvalidLine (mN 3))) (mCons (mK (mExn c.NotASolution (mN 3))) (mNil))))) mNil))) (gN 4))
 (mSeq (l_law_0 c)
 (mSeq (mAsg (mLst (mCons (mK (mOp (oXat (xa_line c) "line") (mCons (mIx (mN 4) (mC (.int 0))) mNil))) (mCons (mK (mOp (oXat (xa_group c) "group") (mCons (mIx (mN 4) (mC (.int 1))) mNil))) (mCons (mK (mOp (oXat (xa_group c) "group") (mCons (mIx (mN 4) (mC (.int 2))) mNil))) (mNil))))) (gN 7))
 (mSeq (mAsg (mLst (mCons (mK (mOp (oXat (xa_line c) "line") (mCons (mF (mExnF c.ParseError "line" (mCons (mC (.int 5)) mNil))) mNil))) (mCons (mK (mOp (oXat (xa_group c) "group") (mCons (mF (mExnF c.NotAdmitted "group" (mCons (mC (.str "g")) mNil))) mNil))) (mCons (mK (mOp (oXat (xa_group c) "group") (mCons (mF (mExnF c.NoSolution "group" (mCons (mC (.str "h")) mNil))) mNil))) (mNil))))) (gN 8))
 (mRet (mOp yEq (mCons (mOp xAdd (mCons (mN 7) (mCons (mN 8) mNil))) (mCons (mLst (mCons (mK (mN 2)) (mCons (mK (mN 3)) (mCons (mK (mN 3)) (mCons (mC (.int 5)) (mCons (mC (.str "g")) (mCons (mC (.str "h")) (mNil)))))))) mNil))))))))))))))
def f_law (c : Cs) : MF := bodyF 9 (b_law c)
def xord : List Nat := [21, 22, 23, 24, 25, 26, 27, 28, 29, 30, 32, 33, 34, 35, 36, 37, 38, 39, 31]
def bls (l : List Bool) : List D := l.map fun b => .bl b
theorem lk_x1 {c : Cs} (f : Nat → Bool) : ∀ {xs : List Nat} (hi : ∀ i ∈ xs, ∀ j ∈ xs, c.ad i = c.ad j → i = j) {i : Nat} (h : i ∈ xs), lk (xs.map fun i => (c.ad i, f i)) (c.ad i) = some (f i)
  | [], _, _, h => by cases h
  | x :: r, hi, i, h => by
    simp only [List.map_cons, lk]
    by_cases e : c.ad x = c.ad i
    · rw [if_pos e, hi x (by simp) i h e]
    · rw [if_neg e]
      rcases List.mem_cons.mp h with rfl | h
      · exact absurd rfl e
      · exact lk_x1 f (fun a ha b hb => hi a (by simp [ha]) b (by simp [hb])) h
theorem xAdd_lb (a b : List D) (h : a.length + b.length ≤ 100) {t : T} (ht : kidsL t = some a) : xAdd [t, .sh (.lst b)] = some (.lst (shs (a ++ b))) := xAdd_l ht rfl (Nat.le_trans h (by decide))
theorem kids_shs (a : List D) : kidsL (.lst (shs a)) = some a := by simp
section
variable (c : Cs) (hxs : c.xs = [21, 22, 23, 24, 25, 26, 27, 28, 29, 30, 31, 32, 33, 34, 35, 36, 37, 38, 39])
include hxs
theorem isx {i : Nat} (hi : i ∈ c.xs) (own : Bool) (fs : List (Str × D)) (p : Nat → Bool) : oIsE (c.xs.map fun i => (c.ad i, p i)) [.sh (.exn (c.ad i) own fs)] = some (.sh (.bl (p i))) := by
  have h := lk_x1 p c.injx hi
  have e : (T.sh (.exn (c.ad i) own fs)).er = .exn (c.ad i) own fs := rfl
  simp only [oIsE, e, isiE, h, Option.map_some]
theorem kinds_ok {i : Nat} (hi : i ∈ c.xs) (own : Bool) (fs : List (Str × D)) : f_law_kinds c [.va (.sh (.exn (c.ad i) own fs))] = .ret (.lst (shs (bls (xord.map fun j => decide (i = j))))) none := by
  have h := isx c hxs hi own fs
  have ad : ∀ (a b : List D), a.length + b.length ≤ 100 → xAdd [.lst (shs a), .sh (.lst b)] = some (.lst (shs (a ++ b))) := fun a b h => xAdd_lb a b h (kids_shs a)
  have a1 : ∀ b1 b2 b3 b4 b5 : Bool, xAdd [.lst [.sh (.bl b1), .sh (.bl b2), .sh (.bl b3)], .sh (.lst [.bl b4, .bl b5])] = some (.lst (shs (bls [b1, b2, b3, b4, b5]))) := fun b1 b2 b3 b4 b5 => ad (bls [b1, b2, b3]) _ (by simp [bls])
  have a2 : ∀ (l : List Bool) (b4 b5 : Bool), l.length ≤ 50 → xAdd [.lst (shs (bls l)), .sh (.lst [.bl b4, .bl b5])] = some (.lst (shs (bls (l ++ [b4, b5])))) := fun l b4 b5 h => by rw [ad (bls l) [.bl b4, .bl b5] (by simp [bls]; omega)]; simp [bls]
  have a3 : ∀ (l : List Bool) (b4 : Bool), l.length ≤ 50 → xAdd [.lst (shs (bls l)), .sh (.lst [.bl b4])] = some (.lst (shs (bls (l ++ [b4])))) := fun l b4 h => by rw [ad (bls l) [.bl b4] (by simp [bls]; omega)]; simp [bls]
  have ap : ∀ (l : List Bool) (b : Bool), l.length ≤ 50 → gAppend (.lst (shs (bls l))) [.sh (.bl b)] = some (.lst (shs (bls (l ++ [b]))), .sh .non) := fun l b h => by
    simp only [gAppend]
    rw [if_pos (by simp [bls, DL.sizeLine_eq]; omega)]
    simp [bls]
  simp [f_law_kinds, b_law_kinds, ix_ParseError, ix_NotAdmitted, ix_NoSolution, ix_InvalidGroups, ix_UnknownGroup, ix_InvalidRoll, ix_InvalidMembers, ix_InvalidStep, ix_InvalidPrices, ix_InvalidAmounts, ix_NotASolution, ix_PlanFinished, ix_NothingToUndo, ix_InvalidName, ix_DuplicateName, ix_UnknownName, ix_UnknownMark, ix_InvalidCommand, ix_InvalidLine, h, xord, a1, a2, a3, ap]
def xls (d : Int) (n : Str) : List D := (xord.map fun i => if i = 21 then .exn (c.ad i) true [("line", .int d)] else if i = 22 ∨ i = 23 then .exn (c.ad i) true [("group", .str n)] else .exn (c.ad i) false [])
theorem xls_at (d : Int) (n : Str) {k : Nat} (hk : k < 19) : ∃ own fs i, i ∈ c.xs ∧ xord[k]? = some i ∧ (xls c d n)[k]? = some (.exn (c.ad i) own fs) := by
  rw [hxs]
  have : k = 0 ∨ k = 1 ∨ k = 2 ∨ k = 3 ∨ k = 4 ∨ k = 5 ∨ k = 6 ∨ k = 7 ∨ k = 8 ∨ k = 9 ∨ k = 10 ∨ k = 11 ∨ k = 12 ∨ k = 13 ∨ k = 14 ∨ k = 15 ∨ k = 16 ∨ k = 17 ∨ k = 18 := by omega
  rcases this with rfl | rfl | rfl | rfl | rfl | rfl | rfl | rfl | rfl | rfl | rfl | rfl | rfl | rfl | rfl | rfl | rfl | rfl | rfl
  all_goals exact ⟨_, _, _, by simp, rfl, rfl⟩
end
def tS (n : Int) : Str := (toString n : String)
theorem tS_len : ∀ k : Nat, k < 1000 → (tS (k : Int)).length ≤ 4 := by decide +kernel
theorem tS_ok : ∀ k : Nat, k < 1000 → PyData.strOk ("note " ++ tS (k : Int)) = true := by decide +kernel
theorem strI1 {q : Int} (h0 : 0 ≤ q) (h1 : q < 1000) : oStrI [.sh (.int q)] = some (.sh (.str (tS q))) := by
  have : q.natAbs.log2 < 1920 := by
    by_cases h : q.natAbs = 0
    · rw [h]; decide
    · exact (Nat.log2_lt h).mpr (Nat.lt_of_lt_of_le (by omega : q.natAbs < 2 ^ 10) (Nat.pow_le_pow_right (by decide) (by decide)))
  simp only [oStrI, this, if_true]
  rfl
theorem note_add {q : Int} (h0 : 0 ≤ q) (h1 : q < 1000) : xAdd [.sh (.str "note "), .sh (.str (tS q))] = some (.sh (.str ("note " ++ tS q))) := by
  obtain ⟨k, rfl⟩ : ∃ k : Nat, q = (k : Int) := ⟨q.toNat, by omega⟩
  have := tS_len k (by omega)
  have hl : ("note " : Str).length + (tS (k : Int)).length ≤ 16777216 := by
    have : ("note " : Str).length = 5 := by decide +kernel
    omega
  simp [xAdd, liftD, oAdd, oCatS, f2i, sizeLine, hl]
theorem plain (c : Cs) (ns : List Int) (hon : c.on = []) (hxs : c.xs = [21, 22, 23, 24, 25, 26, 27, 28, 29, 30, 31, 32, 33, 34, 35, 36, 37, 38, 39]) (hl63 : ns.length ≤ 63) : f_law c [.va (.sh (.scr ns))] = .ret (.sh (.bl true)) none := by
  have pn := pen_ok c ns
  obtain ⟨cs, hcs⟩ : ∃ cs, cs = ns.take 60 := ⟨_, rfl⟩
  rw [← hcs] at pn
  have this : Ret (f_law c [.va (.sh (.scr ns))]) (fun t u => t = .sh (.bl true) ∧ u = none) := by
    apply Ret_body
    let E : Slot → Slot → Slot → Slot → Slot → Slot → Slot → Slot → DL.Env := fun p i n l k j h m => [.va (.sh (.scr ns)), p, i, n, l, k, j, h, m]
    refine Run_nx (e1 := E (.va (penT cs 0 0)) .un .un .un .un .un .un .un) (by simp [E, pn, penT]) ?_
    have pw : xPow [.sh (.int 10), .sh (.int 6)] = some (.sh (.int 1000000)) := by simp [xPow, liftD, oPow, f2i]
    obtain ⟨d, i1, p1, h1, d0, d1, hi1, hi2⟩ := draw_ok c cs 0 0 1000000 (by omega) (by omega) (by omega) (by omega)
    refine Run_nx (e1 := E (.va (penT cs i1 p1)) (.va (.sh (.int d))) .un .un .un .un .un .un) (by simp [E, h1, pw]) ?_
    obtain ⟨q, i2, p2, h2, q0, q1, hi3, hi4⟩ := draw_ok c cs i1 p1 1000 (by omega) (by omega) (by omega) (by omega)
    refine Run_nx (e1 := E (.va (penT cs i2 p2)) (.va (.sh (.int d))) (.va (.sh (.str ("note " ++ tS q)))) .un .un .un .un .un) (by simp [E, h2, strI1 q0 q1, note_add q0 q1]) ?_
    obtain ⟨n, hn⟩ : ∃ n : Str, n = "note " ++ tS q := ⟨_, rfl⟩
    rw [← hn]
    have ad : ∀ (a b : List D), a.length + b.length ≤ 100 → xAdd [.lst (shs a), .sh (.lst b)] = some (.lst (shs (a ++ b))) := fun a b h => xAdd_lb a b h (kids_shs a)
    have ok1 : okD (.int d) = true := by
      simp [okD]
      by_cases h : d.natAbs = 0
      · rw [h]; decide
      · exact (Nat.log2_lt h).mpr (Nat.lt_of_lt_of_le (by omega : d.natAbs < 2 ^ 20) (Nat.pow_le_pow_right (by decide) (by decide)))
    have ok2 : okD (.str n) = true := by
      obtain ⟨k, rfl⟩ : ∃ k : Nat, q = (k : Int) := ⟨q.toNat, by omega⟩
      have := tS_len k (by omega)
      have h5 : ("note " : Str).length = 5 := by decide +kernel
      have : n.length ≤ 1000 := by rw [hn, Str.length_append]; omega
      simp [okD, this]
    refine Run_nx (e1 := E (.va (penT cs i2 p2)) (.va (.sh (.int d))) (.va (.sh (.str n))) (.va (.lst (shs ((xls c d n).take 5)))) .un .un .un .un) (by simp [E, xls, xord, ok1, ok2]; rfl) ?_
    refine Run_nx (e1 := E (.va (penT cs i2 p2)) (.va (.sh (.int d))) (.va (.sh (.str n))) (.va (.lst (shs ((xls c d n).take 9)))) .un .un .un .un) (by simp [E, xls, xord, ad]) ?_
    refine Run_nx (e1 := E (.va (penT cs i2 p2)) (.va (.sh (.int d))) (.va (.sh (.str n))) (.va (.lst (shs ((xls c d n).take 13)))) .un .un .un .un) (by simp [E, xls, xord, ad]) ?_
    refine Run_nx (e1 := E (.va (penT cs i2 p2)) (.va (.sh (.int d))) (.va (.sh (.str n))) (.va (.lst (shs ((xls c d n).take 17)))) .un .un .un .un) (by simp [E, xls, xord, ad]) ?_
    refine Run_nx (e1 := E (.va (penT cs i2 p2)) (.va (.sh (.int d))) (.va (.sh (.str n))) (.va (.lst (shs (xls c d n)))) .un .un .un .un) (by simp [E, xls, xord, ad]) ?_
    have xl : (xls c d n).length = 19 := by simp [xls, xord]
    apply Run_seq
    unfold l_law_0
    refine Run_for (fun ds e => ∃ k : Nat, ∃ x5 : Slot, k ≤ 19 ∧ isM x5 = false ∧ ds = ((List.range 19).drop k).map (fun i => D.int (i : Nat)) ∧ e = E (.va (penT cs i2 p2)) (.va (.sh (.int d))) (.va (.sh (.str n))) (.va (.lst (shs (xls c d n)))) x5 .un .un .un)
      (ds := (List.range 19).map (fun i => D.int (i : Nat))) (e0 := E (.va (penT cs i2 p2)) (.va (.sh (.int d))) (.va (.sh (.str n))) (.va (.lst (shs (xls c d n)))) .un .un .un .un) ?_ ?_ ?_ ?_
    · simp [E, xl]
      rfl
    · exact ⟨0, .un, by omega, rfl, rfl, rfl⟩
    · rintro q ds e ⟨k, x5, hk, m5, hd, rfl⟩
      have hk : k < 19 := by
        rcases Nat.lt_or_ge k 19 with h | h
        · exact h
        · rw [List.drop_eq_nil_of_le (by simp; omega)] at hd
          simp at hd
      rw [List.drop_eq_getElem_cons (by simp; exact hk), List.map_cons] at hd
      simp only [List.getElem_range, List.cons.injEq] at hd
      obtain ⟨rfl, rfl⟩ := hd
      refine ⟨E (.va (penT cs i2 p2)) (.va (.sh (.int d))) (.va (.sh (.str n))) (.va (.lst (shs (xls c d n)))) (.va (.sh (.int (k : Nat)))) .un .un .un, by simp [E, m5], ?_⟩
      obtain ⟨own, fs, i, hi, hx, he⟩ := xls_at c hxs d n hk
      have hv : oIsE (ix_ValueError c) [.sh (.exn (c.ad i) own fs)] = some (.sh (.bl true)) := isx c hxs hi own fs (fun _ => true)
      have hq : oIsE (ix_QuotaError c) [.sh (.exn (c.ad i) own fs)] = some (.sh (.bl true)) := isx c hxs hi own fs (fun _ => true)
      have hkI : (k : Int) < 19 := by omega
      have hk2 := kinds_ok c hxs hi own fs
      have c0 : c_law_0 c (E (.va (penT cs i2 p2)) (.va (.sh (.int d))) (.va (.sh (.str n))) (.va (.lst (shs (xls c d n)))) (.va (.sh (.int (k : Nat)))) .un .un .un) = .ok (.tv (.lst ((List.range 19).map fun j => .sh (.bl (decide (j = k))))), E (.va (penT cs i2 p2)) (.va (.sh (.int d))) (.va (.sh (.str n))) (.va (.lst (shs (xls c d n)))) (.va (.sh (.int (k : Nat)))) .un .un .un) := by
        refine mLc_map (fun j : Nat => D.int (j : Nat)) (fun j => E (.va (penT cs i2 p2)) (.va (.sh (.int d))) (.va (.sh (.str n))) (.va (.lst (shs (xls c d n)))) (.va (.sh (.int (k : Nat)))) (.va (.sh (.int (j : Nat)))) .un .un) (fun j => .sh (.bl (decide (j = k)))) ?_ ?_ ?_ ?_
        · simp [E, xl]
          rfl
        · simp [E, litesAt]
        · simp [DL.sizeLine_eq]
        · intro j hj
          refine ⟨by simp [E], by simp [E], by simp [E], .tv (.sh (.bl (decide (j = k)))), ?_, rfl⟩
          simp [E]
          omega
      refine Run_nx (e1 := E (.va (penT cs i2 p2)) (.va (.sh (.int d))) (.va (.sh (.str n))) (.va (.lst (shs (xls c d n)))) (.va (.sh (.int (k : Nat)))) .un .un .un) (by simp [-getElem?_pos, E, he, xl, hk, hkI, hv, hq]) ?_
      have ne : xNe [.lst (shs (bls (xord.map fun j => decide (i = j)))), .lst ((List.range 19).map fun j => .sh (.bl (decide (j = k))))] = some (.sh (.bl false)) := by
        have : k = 0 ∨ k = 1 ∨ k = 2 ∨ k = 3 ∨ k = 4 ∨ k = 5 ∨ k = 6 ∨ k = 7 ∨ k = 8 ∨ k = 9 ∨ k = 10 ∨ k = 11 ∨ k = 12 ∨ k = 13 ∨ k = 14 ∨ k = 15 ∨ k = 16 ∨ k = 17 ∨ k = 18 := by omega
        rcases this with rfl | rfl | rfl | rfl | rfl | rfl | rfl | rfl | rfl | rfl | rfl | rfl | rfl | rfl | rfl | rfl | rfl | rfl | rfl
        all_goals
          cases hx
          rfl
      refine Run_if (b := false) (e1 := E (.va (penT cs i2 p2)) (.va (.sh (.int d))) (.va (.sh (.str n))) (.va (.lst (shs (xls c d n)))) (.va (.sh (.int (k : Nat)))) .un .un .un) ?_ (fun h => by cases h) (fun _ => ?_)
      · simp [E] at c0 ⊢
        simp [-getElem?_pos, he, xl, hk, hkI, hk2, c0, ne]
      exact ⟨_, rfl, k + 1, .va (.sh (.int (k : Nat))), by omega, rfl, rfl, rfl⟩
    · rintro e ⟨k, x5, hk, m5, hd, rfl⟩
      have xl1 : xa_line c = [c.ad 21] := by unfold xa_line; rw [hxs]; rfl
      have xg1 : xa_group c = [c.ad 22, c.ad 23] := by unfold xa_group; rw [hxs]; rfl
      have o1 : ∀ z : Int, oXat (xa_line c) "line" [.sh (.exn (c.ad 21) true [("line", .int z)])] = some (.sh (.int z)) := fun z => by simp [oXat, xl1, lk]
      have o2 : ∀ z : Str, oXat (xa_group c) "group" [.sh (.exn (c.ad 22) true [("group", .str z)])] = some (.sh (.str z)) := fun z => by simp [oXat, xg1, lk]
      have o3 : ∀ z : Str, oXat (xa_group c) "group" [.sh (.exn (c.ad 23) true [("group", .str z)])] = some (.sh (.str z)) := fun z => by simp [oXat, xg1, lk]
      have z0 : (xls c d n)[0]? = some (.exn (c.ad 21) true [("line", .int d)]) := rfl
      have z1 : (xls c d n)[1]? = some (.exn (c.ad 22) true [("group", .str n)]) := rfl
      have z2 : (xls c d n)[2]? = some (.exn (c.ad 23) true [("group", .str n)]) := rfl
      refine Run_nx (e1 := E (.va (penT cs i2 p2)) (.va (.sh (.int d))) (.va (.sh (.str n))) (.va (.lst (shs (xls c d n)))) x5 .un (.va (.lst (shs [.int d, .str n, .str n]))) .un) (by simp [-getElem?_pos, E, z0, z1, z2, o1, o2, o3, xl, shs]) ?_
      have ok5 : okD (.int 5) = true := by decide +kernel
      have okg : okD (.str "g") = true := by decide +kernel
      have okh : okD (.str "h") = true := by decide +kernel
      refine Run_nx (e1 := E (.va (penT cs i2 p2)) (.va (.sh (.int d))) (.va (.sh (.str n))) (.va (.lst (shs (xls c d n)))) x5 .un (.va (.lst (shs [.int d, .str n, .str n]))) (.va (.lst (shs [.int 5, .str "g", .str "h"])))) (by simp [E, Cs.ParseError, Cs.NotAdmitted, Cs.NoSolution, o1, o2, o3, ok5, okg, okh, shs]) ?_
      have ax : xAdd [.lst (shs [.int d, .str n, .str n]), .lst (shs [.int 5, .str "g", .str "h"])] = some (.lst (shs [.int d, .str n, .str n, .int 5, .str "g", .str "h"])) := xAdd_l (kids_shs _) (kids_shs _) (by simp [DL.sizeLine_eq])
      have sn : PyData.strOk n = true := by
        obtain ⟨k, rfl⟩ : ∃ k : Nat, q = (k : Int) := ⟨q.toNat, by omega⟩
        rw [hn]
        exact tS_ok k (by omega)
      have sg : PyData.strOk ("g" : Str) = true := by decide +kernel
      have sh : PyData.strOk ("h" : Str) = true := by decide +kernel
      have ye : yEq [.lst (shs [.int d, .str n, .str n, .int 5, .str "g", .str "h"]), .lst (shs [.int d, .str n, .str n, .int 5, .str "g", .str "h"])] = some (.sh (.bl true)) := by
        simp [yEq, xEq, liftD, oEqS, eqS, oEqD, eqDp, D.py, D.pys, shs, PyData.canLay0, PyData.canLayAll0, PyData.depth, PyData.depthAll, PyData.eqv, PyData.eqvAll, SeqAt.shaped, sn, sg, sh]
      refine ⟨.rt (.sh (.bl true)) (E (.va (penT cs i2 p2)) (.va (.sh (.int d))) (.va (.sh (.str n))) (.va (.lst (shs (xls c d n)))) x5 .un (.va (.lst (shs [.int d, .str n, .str n]))) (.va (.lst (shs [.int 5, .str "g", .str "h"])))), ?_, ?_⟩
      · have ye2 : yEq [.lst (shs [.int d, .str n, .str n, .int 5, .str "g", .str "h"]), .lst [.sh (.int d), .sh (.str n), .sh (.str n), .sh (.int 5), .sh (.str "g"), .sh (.str "h")]] = some (.sh (.bl true)) := ye
        simp [E, ax, ye2]
      · exact ⟨_, _, rfl, rfl, rfl⟩
  obtain ⟨t, u, e, rfl, rfl⟩ := this
  exact e
end W
namespace DL
variable [Lf]
open PySem PySem.Spec PyProof.Rows L2
def codeV (vs : Array Value) (P : Addr) : Bool := (match (vs[11]? : Option Value) with | some (.ref P1) => P1 == P | _ => false) && (match vs.getD 18 .none with | .str _ _ => true | _ => false) &&
      (match vs.getD 7 .none with | .int _ _ => true | _ => false) && (match vs.getD 9 .none with | .bool _ => true | _ => false) && (match vs.getD 10 .none with | .int _ _ => true | _ => false)
def codeB (o : Obj) (c P : Addr) : Bool := match o.cls, o.data with
  | .type nm, .fields vs => nm == "code" && codeV vs P && !(c == P)
  | _, _ => false
theorem codeV_ok {vs : Array Value} {P : Addr} (e : codeV vs P = true) : ∃ file tf flags tg inF text tt, vs[11]? = some (.ref P) ∧ vs.getD 11 .none = .ref P ∧ vs.getD 18 .none = .str file tf ∧ vs.getD 7 .none = .int flags tg ∧ vs.getD 9 .none = .bool inF ∧ vs.getD 10 .none = .int text tt := by
  unfold codeV at e
  simp only [Bool.and_eq_true] at e
  obtain ⟨⟨⟨⟨e2, e3⟩, e4⟩, e5⟩, e6⟩ := e
  split at e2
  · rename_i P1 q1
    have : P1 = P := beq_iff_eq.mp e2
    subst this
    split at e3
    · rename_i f1 t1 q3
      split at e4
      · rename_i f2 t2 q4
        split at e5
        · rename_i f3 q5
          split at e6
          · rename_i f4 t4 q6
            exact ⟨f1, t1, f2, t2, f3, f4, t4, q1, by rw [Array.getD_eq_getD_getElem?, q1]; rfl, q3, q4, q5, q6⟩
          · cases e6
        · cases e5
      · cases e4
    · cases e3
  · cases e2
theorem codeB_ok {o : Obj} {c P : Addr} {h : Heap} (e : codeB o c P = true) (g : h.get? c = some o) : PySem.W.CodeHd h c P := by
  unfold codeB at e
  split at e
  · rename_i nm vs h1 h2
    simp only [Bool.and_eq_true] at e
    obtain ⟨⟨e1, e2⟩, e7⟩ := e
    have : nm = "code" := beq_iff_eq.mp e1
    subst this
    obtain ⟨f1, t1, f2, t2, f3, f4, t4, q1, q2, q3, q4, q5, q6⟩ := codeV_ok e2
    exact ⟨o, vs, f1, t1, f2, t2, f3, f4, t4, g, h1, h2, q1, q2, q3, q4, q5, q6, by simpa using e7⟩
  · cases e
theorem lookup_in : ∀ {K : Kf} {g : Addr} {o : Obj}, K.lookup g = some o → (g, o) ∈ K
  | [], _, _, h => by cases h
  | (b, x) :: r, g, o, h => by
    unfold List.lookup at h
    split at h
    · rename_i e
      cases h
      rw [beq_iff_eq.mp e]
      exact List.mem_cons_self
    · exact List.mem_cons_of_mem _ (lookup_in h)
def lcK (K : Kf) (g : Addr) : Addr := match lamT K g with | some z => z.1 | none => 0
def lpK (K : Kf) (g : Addr) : Addr := match lamT K g with | some z => z.2.1 | none => 0
def lqK (K : Kf) (g : Addr) : Str := match lamT K g with | some z => z.2.2 | none => ""
def lamB (K : Kf) (g : Addr) (q : Str) : Bool := match lamT K g with
  | some (c, P, q1) => q1 == q && (match K.lookup c with | some o => codeB o c P | none => false) && (K.lookup P).isNone
  | none => false
theorem lamB_ok {K : Kf} {g : Addr} {q : Str} (h : lamB K g q = true) : lamT K g = some (lcK K g, lpK K g, q) ∧ (∃ o, K.lookup (lcK K g) = some o ∧ codeB o (lcK K g) (lpK K g) = true) ∧ K.lookup (lpK K g) = none := by
  unfold lamB at h
  cases e : lamT K g with
  | none => rw [e] at h; cases h
  | some z =>
    obtain ⟨c, P, q1⟩ := z
    have ec : lcK K g = c := by unfold lcK; rw [e]
    have eP : lpK K g = P := by unfold lpK; rw [e]
    rw [e] at h
    simp only [Bool.and_eq_true] at h
    obtain ⟨⟨h1, h2⟩, h3⟩ := h
    have : q1 = q := beq_iff_eq.mp h1
    subst this
    rw [ec, eP]
    refine ⟨rfl, ?_, by simpa using h3⟩
    split at h2
    · rename_i o eo; exact ⟨o, eo, h2⟩
    · cases h2
def lamAll (K : Kf) (gs : List Addr) : Bool := K.all fun p => !lamO p.2 || gs.contains p.1
theorem lamO_of {K : Kf} {g c P : Addr} {q : Str} (h : lamT K g = some (c, P, q)) : ∃ o fd, K.lookup g = some o ∧ lamO o = true ∧ o.data = .func fd ∧ fd.code = .ref c ∧ ∃ oc vs, K.lookup c = some oc ∧ oc.data = .fields vs ∧ vs.getD 11 .none = .ref P := by
  unfold lamT at h
  split at h
  · rename_i o e
    split at h
    · rename_i fd h1 h2
      split at h
      · rename_i c1 h3
        split at h
        · rename_i x1 x2 vs x3 h4
          split at h
          · rename_i P1 h5
            cases h
            exact ⟨o, fd, e, h1, h2, h3, _, vs, h4, rfl, h5⟩
          · cases h
        · cases h
      · cases h
    · cases h
  · cases h
theorem lamAll_ok {K : Kf} {gs : List Addr} (h : lamAll K gs = true) {g c P : Addr} {q : Str} (e : lamT K g = some (c, P, q)) : g ∈ gs := by
  obtain ⟨o, fd, h1, h2, _⟩ := lamO_of e
  have := List.all_eq_true.mp h (g, o) (lookup_in h1)
  rw [h2] at this
  simpa using this
def lamUB (K : Kf) (gs : List Addr) : Bool := gs.all fun g => gs.all fun g1 => !(lpK K g == lpK K g1) || lqK K g == lqK K g1
class TBs (K : Kf) (mg : Str → Option Value) (base : Heap) : Prop where
  tb : ∀ g c P q, lamT K g = some (c, P, q) → LamX.TabB base mg c P
theorem tbs_of {K : Kf} {mg : Str → Option Value} {base : Heap} {gs : List Addr} (hall : lamAll K gs = true) (h : ∀ g ∈ gs, LamX.TabB base mg (lcK K g) (lpK K g)) : TBs K mg base := ⟨fun g c P q e => by
  have := h g (lamAll_ok hall e)
  unfold lcK lpK at this
  rw [e] at this
  exact this⟩
def seenT (K : Kf) (a : Addr) (vs : List Value) (ns : List Int) (cs : List Addr) : Hp := fun b => if b ∈ cs then some (.tbl #[]) else seenH K a vs ns b
section
variable {P : Program} {w : World} {K : Kf} {mg mb : Str → Option Value} {a : Addr} {s : Shared} {vs : List Value} {ns : List Int} {cs : List (Addr × Addr)}
theorem law_callT {k : Nat} {fa : Addr} {fd : FuncData} {x : Str} {sp : Sp} (hr : Room k callerA) (hgd : callerA.guards = some [])
    (KX : K.In s.heap) (hns : s.heap.Ns mainGlobals mg) (hb : s.heap.Ns builtinsNs mb) (hbb : ∀ x : Str, x ≠ "__name__" → mb x = bootBuiltins x) (hlim : s.heap.NoLimit) (hg : s.gens = #[])
    (hT : ∀ p ∈ cs, s.heap.get? p.2 = some { cls := .none, data := .fields #[] }) (nT : ∀ p ∈ cs, K.lookup p.2 = none) (C : ∀ p ∈ cs, PySem.W.CodeHd s.heap p.1 p.2)
    (hbm : ∃ (bm : Addr) (ob : Obj), mg "__builtins__" = some (.ref bm) ∧ bm ≠ builtinsNs ∧ s.heap.get? bm = some ob ∧ ob.cls = .type "module" ∧ ob.dict = some builtinsNs ∧ ob.data = .plain)
    (ha : s.heap.get? a = some { cls := .type "list", data := .seq vs.toArray }) (hi : IntsAre vs ns) (hl : ns.length ≤ sizeLine)
    (F : ∀ base : Heap, K.In base → base.Ns mainGlobals mg → (∀ p ∈ cs, LamX.TabB base mg p.1 p.2) → FnG P w K mg base k fa fd [x] sp) (hbind : ∀ (s : Shared) (u : Value), BindsTo s fd ⟨[u], []⟩ [(x, u)])
    (hsp : sp [.ref a] (seenT K a vs ns (cs.map (·.2))) (fun v _ => v = .bl true) E0) :
    codeAny (model P w) callerA (.call (.ref fa) ⟨[.ref a], []⟩) (fun r s' => r = .ok (.ret (.bool true)) ∧ OldK s.heap s'.heap ∧ s'.os = s.os ∧ AllBare s'.gens) s := by
  have inT : ∀ b ∈ cs.map (·.2), s.heap.get? b = some { cls := .none, data := .fields #[] } ∧ K.lookup b = none := fun b hb => by
    obtain ⟨p, hp, rfl⟩ := List.mem_map.mp hb
    exact ⟨hT p hp, nT p hp⟩
  have aT : a ∉ cs.map (·.2) := fun z => by
    have q := (inT a z).1
    rw [ha] at q
    cases q
  have cases3 : ∀ b u, seenT K a vs ns (cs.map (·.2)) b = some u → (b ∈ cs.map (·.2) ∧ u = .tbl #[]) ∨ (b ∉ cs.map (·.2) ∧ b = a ∧ K.lookup a = none ∧ u = .frz { cls := .type "list", data := .seq vs.toArray } (.lst (ns.map V.int))) := fun b u e => by
    unfold seenT at e
    by_cases hb : b ∈ cs.map (·.2)
    · rw [if_pos hb] at e; cases e; exact .inl ⟨hb, rfl⟩
    · rw [if_neg hb] at e
      exact .inr ⟨hb, seen_some e⟩
  have free : ∀ {b : Addr} {o : Obj}, s.heap.get? b = some o → (∀ l n, o.data ≠ .seq l n) → o.data ≠ .fields #[] → seenT K a vs ns (cs.map (·.2)) b = none := fun {b o} e h1 h2 => by
    cases q : seenT K a vs ns (cs.map (·.2)) b with
    | none => rfl
    | some u =>
      rcases cases3 b u q with ⟨hb, _⟩ | ⟨_, rfl, _⟩
      · rw [(inT b hb).1] at e; cases e; exact (h2 rfl).elim
      · rw [ha] at e; cases e; exact (h1 _ _ rfl).elim
  have at_ : ∀ {b : Addr} {o : Obj}, s.heap.get? b = some o → (∀ l n, o.data ≠ .seq l n) → o.data ≠ .fields #[] → (hidT s.heap (seenT K a vs ns (cs.map (·.2)))).get? b = some o := fun {b o} e h1 h2 => hidT_get e (free e h1 h2)
  have nsH : ∀ {b : Addr} {m : Str → Option Value}, s.heap.Ns b m → (hidT s.heap (seenT K a vs ns (cs.map (·.2)))).Ns b m := fun ⟨o, es, ep, e, d, r⟩ => ⟨o, es, ep, at_ e (fun l n z => by rw [d] at z; cases z) (fun z => by rw [d] at z; cases z), d, r⟩
  have kin : K.In (hidT s.heap (seenT K a vs ns (cs.map (·.2)))) := fun b o e => hidT_get (KX b o e) (by
    cases q : seenT K a vs ns (cs.map (·.2)) b with
    | none => rfl
    | some u =>
      rcases cases3 b u q with ⟨hb, _⟩ | ⟨_, rfl, hk, _⟩
      · rw [(inT b hb).2] at e; cases e
      · rw [hk] at e; cases e)
  have TB : ∀ p ∈ cs, LamX.TabB (hidT s.heap (seenT K a vs ns (cs.map (·.2)))) mg p.1 p.2 := fun p hp => by
    refine ⟨?_, ?_, fun z => ?_⟩
    · obtain ⟨o, us, file, tf, flags, tg, inF, text, tt, e1, r1, r2, r3, r4⟩ := C p hp
      exact ⟨o, us, file, tf, flags, tg, inF, text, tt, at_ e1 (fun l n z => by rw [r2] at z; cases z) (fun z => by rw [r2] at z; cases z; simp at r3), r1, r2, r3, r4⟩
    · obtain ⟨bm, ob, b1, b2, b3, b4, b5, b6⟩ := hbm
      refine ⟨bm, ob, b1, b2, fun q => ?_, fun q => ?_, at_ b3 (fun l n z => by rw [b6] at z; cases z) (fun z => by rw [b6] at z; cases z), b4, b5, b6⟩
      · obtain ⟨o, es, ep, e, hd, _⟩ := hns
        rw [q, e] at b3
        cases b3
        rw [hd] at b6
        cases b6
      · rw [q, hT p hp] at b3
        cases b3
        cases b6
    · obtain ⟨o, es, ep, e, hd, _⟩ := hns
      rw [z, hT p hp] at e
      cases e
      cases hd
  obtain ⟨mc, l1, l2⟩ := hlim
  have e0 : Env0 P w K mg (hidT s.heap (seenT K a vs ns (cs.map (·.2)))) callerA [] s (seenT K a vs ns (cs.map (·.2))) :=
    ⟨rfl, ⟨kin, nsH hns, ⟨mb, nsH hb, hbb⟩, ⟨mc, nsH l1, l2⟩⟩, fun b o e => of_hidT e, Nat.le_of_eq (hidT_size _ _), trivial, fun b hb => absurd (show b ∈ ([] : List Addr) from hb) (by simp), fun b u q => by
      rcases cases3 b u q with ⟨hb, rfl⟩ | ⟨_, rfl, _, rfl⟩
      · exact (inT b hb).1
      · exact ⟨ha, by rw [List.length_map]; exact hl, vs, _, vals_ints hi, ha⟩, .of_eq hg⟩
  refine codeAny_mono ((F _ kin (nsH hns) TB).go callerA [] s _ ⟨[.ref a], []⟩ [.ref a] [.ref a] _ _ hr (fun _ => hgd) e0 (hbind s (.ref a)) (.cons rfl .nil) hsp) fun r s' h => ?_
  match r, h with
  | .error e, h =>
    obtain ⟨_, _, _, _, _, _, _, _, _, _, _, _, z⟩ := h
    exact z.elim
  | .ok (.ret u), ⟨v, H', os, bare, un, hok', r', q⟩ =>
    cases (show v = .bl true from q)
    cases (show u = Value.bool true from r')
    have grown : ∀ p ∈ cs, ∃ more : Array Value, s'.heap.get? p.2 = some { cls := .none, data := .fields more } := fun p hp => by
      obtain ⟨more, z⟩ := un.tbls p.2 #[] (by unfold seenT; rw [if_pos (List.mem_map.mpr ⟨p, hp, rfl⟩)])
      exact ⟨_, hok' p.2 _ z⟩
    have rest : ∀ b o, b ∉ cs.map (·.2) → s.heap.get? b = some o → s'.heap.get? b = some o := fun b o nb e => by
      cases q : seenT K a vs ns (cs.map (·.2)) b with
      | none => exact un.keep b o e q (fun z => absurd (show b ∈ ([] : List Addr) from z) (by simp)) (fun z => absurd (show b ∈ ([] : List Addr) from z) (by simp))
      | some u =>
        rcases cases3 b u q with ⟨hb, _⟩ | ⟨_, rfl, _, rfl⟩
        · exact absurd hb nb
        · obtain ⟨e2, _⟩ := hok' b _ (un.frzs b _ _ q)
          rw [ha] at e
          cases e
          exact e2
    refine ⟨rfl, ⟨fun b o e => ?_, fun b o e => ?_⟩, os, bare⟩
    · by_cases hb : b ∈ cs.map (·.2)
      · obtain ⟨p, hp, rfl⟩ := List.mem_map.mp hb
        obtain ⟨more, hm⟩ := grown p hp
        rw [hT p hp] at e
        cases e
        exact .inr (.inl ⟨((C p hp).tab (hT p hp)).isCodeTable, rfl, #[], more, rfl, by rw [Array.empty_append]; exact hm⟩)
      · exact .inl (rest b o hb e)
    · by_cases hb : b ∈ cs.map (·.2)
      · obtain ⟨p, hp, rfl⟩ := List.mem_map.mp hb
        obtain ⟨more, hm⟩ := grown p hp
        exact ⟨_, hm⟩
      · exact ⟨o, rest b o hb e⟩
  | .ok .next, h => exact h.elim
  | .ok .brk, h => exact h.elim
  | .ok .cont, h => exact h.elim
end
abbrev LamL : Type := List (Str × Addr × Str)
theorem walk_ofT {l : PySem.W.OpenLaw} {n k : Nat} {q : Program} {loose : List Str} {XP : (Str → Option Value) → Heap → Prop} {YP : World → Heap → Prop} {d : DefRec} {K : Params → PySem.W.Frag} {sp : World → Sp} {x : Str}
    (hn : l.most = some n) (hn2 : n ≤ sizeLine) (hdf : d.params.defaults = []) (hr : Room k callerA) (hgd : callerA.guards = some [])
    (hY : ∀ (w : World) (h : Heap), YP w h → (K w.params).In h)
    (F : ∀ (w : World) (mg : Str → Option Value) (fa : Addr) (h : Heap), (K w.params).In h → h.Ns mainGlobals mg → mg d.name = some (.ref fa) →
      ∃ (fd : FuncData) (L : LamL), (∀ (s : Shared) (u : Value), BindsTo s fd ⟨[u], []⟩ [(x, u)]) ∧ lamAll (K w.params) (L.map (·.2.1)) = true ∧ (∀ z ∈ L, mg z.1 = some (.ref z.2.1) ∧ lamB (K w.params) z.2.1 z.2.2 = true ∧ ((recsOf q).any fun e => e.name == z.1) = true) ∧
        ∀ base : Heap, (K w.params).In base → base.Ns mainGlobals mg → (∀ z ∈ L, LamX.TabB base mg (lcK (K w.params) z.2.1) (lpK (K w.params) z.2.1)) → FnG l.prog w (K w.params) mg base k fa fd [x] (sp w))
    (hsp : ∀ (w : World) (s : Shared) (a : Addr) (vs : List Value) (ns : List Int) (H : Hp), ns.length ≤ n → SqL (K w.params) H a (ns.map V.int) → (∀ b u, H b = some u → (∃ o xs, u = .frz o (.lst xs)) ∨ u = .tbl #[]) → TabsK (K w.params) H → sp w [.ref a] H (fun v _ => v = .bl true) E0) :
    PySem.W.WalkO q loose XP YP l.row.toRowW d [] (fun f vs => PySem.call f vs) := by
  refine Att.attach_call hn hdf fun w s₀ s₁ mg mb fa o pm cd doc a vs ns G Y ho hd hcd hmg hobj hints hlen hg => ?_
  have KX := hY w _ Y
  obtain ⟨fd, L, hb, hall, hL, hF⟩ := F w mg fa _ KX G.T.g hmg
  have tabs : ∀ z ∈ L, s₁.heap.get? (lpK (K w.params) z.2.1) = some { cls := .none, data := .fields #[] } := fun z hz => by
    obtain ⟨h1, h2, h3⟩ := hL z hz
    obtain ⟨dL, hm, hn1⟩ := List.any_eq_true.mp h3
    have hn2 : dL.name = z.1 := beq_iff_eq.mp hn1
    obtain ⟨lt, ⟨oc, lc, cb⟩, ln⟩ := lamB_ok h2
    obtain ⟨o2, fd2, k1, k2, k3, k4, oc2, vc2, k5, k6, k7⟩ := lamO_of lt
    obtain ⟨a', o', fd', c', P', g1, g2, g3, g4, g5, g6⟩ := G.T.tab dL hm
    rw [hn2, h1] at g1
    cases g1
    rw [KX _ _ k1] at g2
    cases g2
    rw [k3] at g3
    cases g3
    rw [k4] at g4
    cases g4
    obtain ⟨⟨oc3, vc3, e1, _, e3, e4⟩, hP⟩ := g6
    rw [KX _ _ k5] at e1
    cases e1
    rw [k6] at e3
    cases e3
    rw [Array.getD_eq_getD_getElem?, e4] at k7
    cases k7
    exact hP
  have hsq : SqL (K w.params) (seenT (K w.params) a vs ns ((L.map fun z => (lcK (K w.params) z.2.1, lpK (K w.params) z.2.1)).map (·.2))) a (ns.map V.int) := by
    have na : a ∉ (L.map fun z => (lcK (K w.params) z.2.1, lpK (K w.params) z.2.1)).map (·.2) := fun z => by
      simp only [List.map_map, List.mem_map] at z
      obtain ⟨y, hy, e⟩ := z
      have q := tabs y hy
      simp only [Function.comp_apply] at e
      rw [e, hobj] at q
      cases q
    rcases seen_sq KX hobj hints (Nat.le_trans hlen hn2) with q | q
    · refine .inl ?_
      rcases q with q | ⟨o, q⟩
      · exact .inl (by unfold seenT; rw [if_neg na]; exact q)
      · exact .inr ⟨o, by unfold seenT; rw [if_neg na]; exact q⟩
    · exact .inr q
  refine law_callT (cs := L.map fun z => (lcK (K w.params) z.2.1, lpK (K w.params) z.2.1)) hr hgd KX G.T.g G.T.b G.T.builtins G.T.nolimit hg (fun p hp => ?_) (fun p hp => ?_) (fun p hp => ?_) G.T.bmain hobj hints (Nat.le_trans hlen hn2)
    (fun base h1 h2 h3 => hF base h1 h2 fun z hz => h3 _ (List.mem_map.mpr ⟨z, hz, rfl⟩)) hb (hsp w s₁ a vs ns _ hlen hsq (fun b u e => ?_) fun g c P q e => ?_)
  · obtain ⟨z, hz, rfl⟩ := List.mem_map.mp hp
    exact tabs z hz
  · obtain ⟨z, hz, rfl⟩ := List.mem_map.mp hp
    exact (lamB_ok (hL z hz).2.1).2.2
  · obtain ⟨z, hz, rfl⟩ := List.mem_map.mp hp
    obtain ⟨lt, ⟨oc, lc, cb⟩, ln⟩ := lamB_ok (hL z hz).2.1
    exact codeB_ok cb (KX _ _ lc)
  · unfold seenT at e
    split at e
    · cases e; exact .inr rfl
    · obtain ⟨_, _, rfl⟩ := seen_some e; exact .inl ⟨_, _, rfl⟩
  · have hg := lamAll_ok hall e
    obtain ⟨z, hz, rfl⟩ := List.mem_map.mp hg
    refine LamX.TabS.nil ?_
    have eP : lpK (K w.params) z.2.1 = P := by unfold lpK; rw [e]
    unfold seenT
    rw [if_pos (List.mem_map.mpr ⟨(lcK (K w.params) z.2.1, lpK (K w.params) z.2.1), List.mem_map.mpr ⟨z, hz, rfl⟩, eP⟩)]
theorem spD_law {K : Kf} {f : MF} {a : Addr} {ns : List Int} {H : Hp} {Q : VK} {E : XK} (hl : ns.length ≤ 63) (sq : SqL K H a (ns.map V.int)) (hO : ∀ b u, H b = some u → (∃ o xs, u = .frz o (.lst xs)) ∨ u = .tbl #[]) (hT : TabsK K H)
    (pl : f [.va (.sh (.scr ns))] = .ret (.sh (.bl true)) none) (q : ∀ H', Q (.bl true) H') : spD K 1 f [.ref a] H Q E := by
  let F : Hp := fun b => match H b with
    | some (.frz o u) => some (.frz o u)
    | _ => none
  have sub : ∀ b o, F b = some o → H b = some o ∧ ∃ o' u, o = .frz o' u := fun b o e => by
    show _
    have e : (match H b with | some (.frz o u) => some (HO.frz o u) | _ => none) = some o := e
    split at e
    · rename_i o' u h; cases e; exact ⟨h, _, _, rfl⟩
    · cases e
  have sqF : SqL K F a (ns.map V.int) := by
    rcases sq with z | z
    · rcases z with z | ⟨o, z⟩
      · rcases hO a _ z with ⟨_, _, e⟩ | e <;> cases e
      · exact .inl (.inr ⟨o, by show (match H a with | some (.frz o u) => some (HO.frz o u) | _ => none) = _; rw [z]⟩)
    · exact .inr z
  refine ⟨rfl, fun _ => none, F, [.va (.sh (.scr ns))], ⟨⟨.of (fun b o e => nomatch e), fun _ => hT⟩, ⟨⟨fun b o e => .inl (sub b o e).1⟩, fun b o e => by
    obtain ⟨h, _, _, e2⟩ := sub b _ e
    rcases hO b _ h with ⟨_, _, z⟩ | z
    · rw [z]; exact True.intro
    · rw [z] at e2; cases e2⟩, [], ⟨_, _, [], [], rfl, rfl, ⟨_, rfl, rfl, a, rfl, sqF⟩, rfl, rfl⟩, List.nodup_nil, (fun a h => nomatch h)⟩, fun i u e => ?_, ?_⟩
  · cases i <;> simp at e
  · rw [pl]
    intro x F' H' g st
    obtain ⟨S, ⟨b, l', S1, S2, eb, eS, ⟨w, ew, _, r⟩, _⟩, _⟩ := st.fp
    cases eb; cases ew
    rw [show x = .bl true from r]
    exact q H'
end DL
namespace W
open PySem PySem.Spec PyProof.Rows L2 DL
def top (i : Nat) : Stmt := PySem.Challenge.pw_quotasteps_k01_errors.main.body.getD i (.Pass ⟨0, 0, 0, 0⟩)
abbrev st_law_pen : Stmt := top 22
abbrev st_law_next : Stmt := top 23
abbrev st_law_draw : Stmt := top 24
abbrev st_law_kinds : Stmt := top 25
abbrev st_law : Stmt := top 26
set_option genInjectivity false in
set_option genSizeOf false in
structure Tx (K : Kf) (mg : Str → Option Value) (c : Cs) where
  a_law_pen : Addr
  fd_law_pen : FuncData
  u_law_pen : Fun K "_law_pen" "_law_pen" st_law_pen a_law_pen fd_law_pen
  kp_law_pen : PySem.W.keepIn K (.ref a_law_pen) = true
  b_law_pen : Binds K fd_law_pen ["_law_script"] []
  m__law_pen : mg "_law_pen" = some (.ref a_law_pen)
  a_law_next : Addr
  fd_law_next : FuncData
  u_law_next : Fun K "_law_next" "_law_next" st_law_next a_law_next fd_law_next
  kp_law_next : PySem.W.keepIn K (.ref a_law_next) = true
  b_law_next : Binds K fd_law_next ["_law_pen_here"] []
  m__law_next : mg "_law_next" = some (.ref a_law_next)
  a_law_draw : Addr
  fd_law_draw : FuncData
  u_law_draw : Fun K "_law_draw" "_law_draw" st_law_draw a_law_draw fd_law_draw
  kp_law_draw : PySem.W.keepIn K (.ref a_law_draw) = true
  b_law_draw : Binds K fd_law_draw ["_law_pen_here", "_law_below_this"] []
  m__law_draw : mg "_law_draw" = some (.ref a_law_draw)
  a_law_kinds : Addr
  fd_law_kinds : FuncData
  u_law_kinds : Fun K "_law_kinds" "_law_kinds" st_law_kinds a_law_kinds fd_law_kinds
  kp_law_kinds : PySem.W.keepIn K (.ref a_law_kinds) = true
  b_law_kinds : Binds K fd_law_kinds ["_law_error"] []
  m__law_kinds : mg "_law_kinds" = some (.ref a_law_kinds)
  a_law : Addr
  fd_law : FuncData
  u_law : Fun K "law" "law" st_law a_law fd_law
  kp_law : PySem.W.keepIn K (.ref a_law) = true
  b_law : Binds K fd_law ["_law_script"] []
  m_law : mg "law" = some (.ref a_law)
  z_ValueError : mg "ValueError" = none
  z_isinstance : mg "isinstance" = none
  z_len : mg "len" = none
  z_list : mg "list" = none
  z_range : mg "range" = none
  z_str : mg "str" = none
  m_QuotaError : mg "QuotaError" = some (.ref c.QuotaError)
  m_ParseError : mg "ParseError" = some (.ref c.ParseError)
  m_NotAdmitted : mg "NotAdmitted" = some (.ref c.NotAdmitted)
  m_NoSolution : mg "NoSolution" = some (.ref c.NoSolution)
  m_InvalidGroups : mg "InvalidGroups" = some (.ref c.InvalidGroups)
  m_UnknownGroup : mg "UnknownGroup" = some (.ref c.UnknownGroup)
  m_InvalidRoll : mg "InvalidRoll" = some (.ref c.InvalidRoll)
  m_InvalidMembers : mg "InvalidMembers" = some (.ref c.InvalidMembers)
  m_InvalidStep : mg "InvalidStep" = some (.ref c.InvalidStep)
  m_InvalidPrices : mg "InvalidPrices" = some (.ref c.InvalidPrices)
  m_InvalidAmounts : mg "InvalidAmounts" = some (.ref c.InvalidAmounts)
  m_NotASolution : mg "NotASolution" = some (.ref c.NotASolution)
  m_PlanFinished : mg "PlanFinished" = some (.ref c.PlanFinished)
  m_NothingToUndo : mg "NothingToUndo" = some (.ref c.NothingToUndo)
  m_InvalidName : mg "InvalidName" = some (.ref c.InvalidName)
  m_DuplicateName : mg "DuplicateName" = some (.ref c.DuplicateName)
  m_UnknownName : mg "UnknownName" = some (.ref c.UnknownName)
  m_UnknownMark : mg "UnknownMark" = some (.ref c.UnknownMark)
  m_InvalidCommand : mg "InvalidCommand" = some (.ref c.InvalidCommand)
  m_InvalidLine : mg "InvalidLine" = some (.ref c.InvalidLine)
  ve : VeCls K c.QuotaError
  x_DuplicateName : Exc K c.DuplicateName
  x_InvalidAmounts : Exc K c.InvalidAmounts
  x_InvalidCommand : Exc K c.InvalidCommand
  x_InvalidGroups : Exc K c.InvalidGroups
  x_InvalidLine : Exc K c.InvalidLine
  x_InvalidMembers : Exc K c.InvalidMembers
  x_InvalidName : Exc K c.InvalidName
  x_InvalidPrices : Exc K c.InvalidPrices
  x_InvalidRoll : Exc K c.InvalidRoll
  x_InvalidStep : Exc K c.InvalidStep
  fi_NoSolution : Addr
  fdi_NoSolution : FuncData
  ui_NoSolution : Fun K "__init__" "NoSolution.__init__" (inClass (top 4) 0) fi_NoSolution fdi_NoSolution
  bi_NoSolution : Binds K fdi_NoSolution ["self", "group"] []
  ox_NoSolution : OexC K c.NoSolution
  na_NoSolution : PySem.W.findIn K (.ref c.NoSolution) "group" = some none
  in_NoSolution : PySem.W.findIn K (.ref c.NoSolution) "__init__" = some (some (.ref fi_NoSolution))
  tf_NoSolution : PySem.W.typeIn K (.ref fi_NoSolution) = some (.type "function")
  bk_NoSolution : BindsW K fdi_NoSolution ["self", "group"] ["group"]
  x_NotASolution : Exc K c.NotASolution
  fi_NotAdmitted : Addr
  fdi_NotAdmitted : FuncData
  ui_NotAdmitted : Fun K "__init__" "NotAdmitted.__init__" (inClass (top 3) 0) fi_NotAdmitted fdi_NotAdmitted
  bi_NotAdmitted : Binds K fdi_NotAdmitted ["self", "group"] []
  ox_NotAdmitted : OexC K c.NotAdmitted
  na_NotAdmitted : PySem.W.findIn K (.ref c.NotAdmitted) "group" = some none
  in_NotAdmitted : PySem.W.findIn K (.ref c.NotAdmitted) "__init__" = some (some (.ref fi_NotAdmitted))
  tf_NotAdmitted : PySem.W.typeIn K (.ref fi_NotAdmitted) = some (.type "function")
  bk_NotAdmitted : BindsW K fdi_NotAdmitted ["self", "group"] ["group"]
  x_NothingToUndo : Exc K c.NothingToUndo
  fi_ParseError : Addr
  fdi_ParseError : FuncData
  ui_ParseError : Fun K "__init__" "ParseError.__init__" (inClass (top 2) 0) fi_ParseError fdi_ParseError
  bi_ParseError : Binds K fdi_ParseError ["self", "line"] []
  ox_ParseError : OexC K c.ParseError
  na_ParseError : PySem.W.findIn K (.ref c.ParseError) "line" = some none
  in_ParseError : PySem.W.findIn K (.ref c.ParseError) "__init__" = some (some (.ref fi_ParseError))
  tf_ParseError : PySem.W.typeIn K (.ref fi_ParseError) = some (.type "function")
  bk_ParseError : BindsW K fdi_ParseError ["self", "line"] ["line"]
  x_PlanFinished : Exc K c.PlanFinished
  x_UnknownGroup : Exc K c.UnknownGroup
  x_UnknownMark : Exc K c.UnknownMark
  x_UnknownName : Exc K c.UnknownName
  ie_DuplicateName : IsiE K (.ref c.DuplicateName) (ix_DuplicateName c)
  ie_InvalidAmounts : IsiE K (.ref c.InvalidAmounts) (ix_InvalidAmounts c)
  ie_InvalidCommand : IsiE K (.ref c.InvalidCommand) (ix_InvalidCommand c)
  ie_InvalidGroups : IsiE K (.ref c.InvalidGroups) (ix_InvalidGroups c)
  ie_InvalidLine : IsiE K (.ref c.InvalidLine) (ix_InvalidLine c)
  ie_InvalidMembers : IsiE K (.ref c.InvalidMembers) (ix_InvalidMembers c)
  ie_InvalidName : IsiE K (.ref c.InvalidName) (ix_InvalidName c)
  ie_InvalidPrices : IsiE K (.ref c.InvalidPrices) (ix_InvalidPrices c)
  ie_InvalidRoll : IsiE K (.ref c.InvalidRoll) (ix_InvalidRoll c)
  ie_InvalidStep : IsiE K (.ref c.InvalidStep) (ix_InvalidStep c)
  ie_NoSolution : IsiE K (.ref c.NoSolution) (ix_NoSolution c)
  ie_NotASolution : IsiE K (.ref c.NotASolution) (ix_NotASolution c)
  ie_NotAdmitted : IsiE K (.ref c.NotAdmitted) (ix_NotAdmitted c)
  ie_NothingToUndo : IsiE K (.ref c.NothingToUndo) (ix_NothingToUndo c)
  ie_ParseError : IsiE K (.ref c.ParseError) (ix_ParseError c)
  ie_PlanFinished : IsiE K (.ref c.PlanFinished) (ix_PlanFinished c)
  ie_QuotaError : IsiE K (.ref c.QuotaError) (ix_QuotaError c)
  ie_UnknownGroup : IsiE K (.ref c.UnknownGroup) (ix_UnknownGroup c)
  ie_UnknownMark : IsiE K (.ref c.UnknownMark) (ix_UnknownMark c)
  ie_UnknownName : IsiE K (.ref c.UnknownName) (ix_UnknownName c)
  ie_ValueError : IsiE K (.type "ValueError") (ix_ValueError c)
  xa_group : ∀ C ∈ xa_group c, XfC K C ∧ PySem.W.findIn K (.ref C) "group" = some none
  xa_line : ∀ C ∈ xa_line c, XfC K C ∧ PySem.W.findIn K (.ref C) "line" = some none
  la : lamAll K [] = true
  lu : lamUB K [] = true
theorem scx_NoSolution : FnScope ["self", "group"] ["self", "group"] (defScope (inClass (top 4) 0)) := ⟨rfl, rfl, rfl, by decide +kernel, rfl, by decide +kernel, by decide +kernel⟩
theorem dX_NoSolution {P : Program} {w : World} {K : Kf} {mg : Str → Option Value} {base : Heap} {c : Cs} (t : Tx K mg c) : OwnX P w K mg base c.NoSolution "group" :=
 OwnX.of t.ui_NoSolution scx_NoSolution t.bi_NoSolution t.ox_NoSolution t.na_NoSolution t.in_NoSolution t.tf_NoSolution fun cdv A outer s H0 E0 => pss_init rfl rfl (.inl rfl) (.inl rfl) (by decide +kernel) (by decide +kernel) rfl t.m_QuotaError (by decide +kernel) t.ve (pe_joined (.cons pe_str (.cons (pe_fmt (pe_var (i := 1) rfl (.inl rfl))) (.nil)))) (js2 ("no number of members is possible for group ") (by decide +kernel)) rfl rfl rfl rfl rfl rfl
theorem dXK_NoSolution {P : Program} {w : World} {K : Kf} {mg : Str → Option Value} {base : Heap} {c : Cs} (t : Tx K mg c) : OwnXK P w K mg base c.NoSolution "group" "group" :=
 OwnXK.of t.ui_NoSolution scx_NoSolution t.bk_NoSolution t.ox_NoSolution t.na_NoSolution t.in_NoSolution t.tf_NoSolution fun cdv A outer s H0 E0 => pss_init rfl rfl (.inl rfl) (.inl rfl) (by decide +kernel) (by decide +kernel) rfl t.m_QuotaError (by decide +kernel) t.ve (pe_joined (.cons pe_str (.cons (pe_fmt (pe_var (i := 1) rfl (.inl rfl))) (.nil)))) (js2 ("no number of members is possible for group ") (by decide +kernel)) rfl rfl rfl rfl rfl rfl
theorem scx_NotAdmitted : FnScope ["self", "group"] ["self", "group"] (defScope (inClass (top 3) 0)) := ⟨rfl, rfl, rfl, by decide +kernel, rfl, by decide +kernel, by decide +kernel⟩
theorem dX_NotAdmitted {P : Program} {w : World} {K : Kf} {mg : Str → Option Value} {base : Heap} {c : Cs} (t : Tx K mg c) : OwnX P w K mg base c.NotAdmitted "group" :=
 OwnX.of t.ui_NotAdmitted scx_NotAdmitted t.bi_NotAdmitted t.ox_NotAdmitted t.na_NotAdmitted t.in_NotAdmitted t.tf_NotAdmitted fun cdv A outer s H0 E0 => pss_init rfl rfl (.inl rfl) (.inl rfl) (by decide +kernel) (by decide +kernel) rfl t.m_QuotaError (by decide +kernel) t.ve (pe_joined (.cons pe_str (.cons (pe_fmt (pe_var (i := 1) rfl (.inl rfl))) (.cons pe_str (.nil))))) (js3 ("the quota of group ") (" is not kept") (by decide +kernel) (by decide +kernel)) rfl rfl rfl rfl rfl rfl
theorem dXK_NotAdmitted {P : Program} {w : World} {K : Kf} {mg : Str → Option Value} {base : Heap} {c : Cs} (t : Tx K mg c) : OwnXK P w K mg base c.NotAdmitted "group" "group" :=
 OwnXK.of t.ui_NotAdmitted scx_NotAdmitted t.bk_NotAdmitted t.ox_NotAdmitted t.na_NotAdmitted t.in_NotAdmitted t.tf_NotAdmitted fun cdv A outer s H0 E0 => pss_init rfl rfl (.inl rfl) (.inl rfl) (by decide +kernel) (by decide +kernel) rfl t.m_QuotaError (by decide +kernel) t.ve (pe_joined (.cons pe_str (.cons (pe_fmt (pe_var (i := 1) rfl (.inl rfl))) (.cons pe_str (.nil))))) (js3 ("the quota of group ") (" is not kept") (by decide +kernel) (by decide +kernel)) rfl rfl rfl rfl rfl rfl
theorem scx_ParseError : FnScope ["self", "line"] ["self", "line"] (defScope (inClass (top 2) 0)) := ⟨rfl, rfl, rfl, by decide +kernel, rfl, by decide +kernel, by decide +kernel⟩
theorem dX_ParseError {P : Program} {w : World} {K : Kf} {mg : Str → Option Value} {base : Heap} {c : Cs} (t : Tx K mg c) : OwnX P w K mg base c.ParseError "line" :=
 OwnX.of t.ui_ParseError scx_ParseError t.bi_ParseError t.ox_ParseError t.na_ParseError t.in_ParseError t.tf_ParseError fun cdv A outer s H0 E0 => pss_init rfl rfl (.inl rfl) (.inl rfl) (by decide +kernel) (by decide +kernel) rfl t.m_QuotaError (by decide +kernel) t.ve (pe_joined (.cons pe_str (.cons (pe_fmt (pe_var (i := 1) rfl (.inl rfl))) (.nil)))) (js2 ("not the text of a roll: line ") (by decide +kernel)) rfl rfl rfl rfl rfl rfl
theorem dXK_ParseError {P : Program} {w : World} {K : Kf} {mg : Str → Option Value} {base : Heap} {c : Cs} (t : Tx K mg c) : OwnXK P w K mg base c.ParseError "line" "line" :=
 OwnXK.of t.ui_ParseError scx_ParseError t.bk_ParseError t.ox_ParseError t.na_ParseError t.in_ParseError t.tf_ParseError fun cdv A outer s H0 E0 => pss_init rfl rfl (.inl rfl) (.inl rfl) (by decide +kernel) (by decide +kernel) rfl t.m_QuotaError (by decide +kernel) t.ve (pe_joined (.cons pe_str (.cons (pe_fmt (pe_var (i := 1) rfl (.inl rfl))) (.nil)))) (js2 ("not the text of a roll: line ") (by decide +kernel)) rfl rfl rfl rfl rfl rfl
theorem sc_law_pen : FnScope ["_law_script"] ["_law_script"] (defScope st_law_pen) := ⟨rfl, rfl, rfl, by decide +kernel, rfl, by decide +kernel, by decide +kernel⟩
section
variable {P : Program} {w : World} {K : Kf} {mg : Str → Option Value} {base : Heap} {c : Cs} [Lf]
theorem s_law_pen (t : Tx K mg c) (E : XK) {f : Addr} : DSs K (fun _ => E) (cxD P w K mg base ["_law_script"] "_law_pen" st_law_pen f 0 E) (defBody st_law_pen) (b_law_pen c) :=
 have fm0 := fmD (P := P) (w := w) (K := K) (mg := mg) (base := base) (qual := "_law_pen") (f := f) (k := 0) sc_law_pen E
 ss1 (sret (dlst (da (dk (eCt fm0 (cList fm0) t.z_list rfl (da (df (eSh fm0 (dn 0) (di))) (da0)))) (da (di) (da (di) (da0))))))
theorem d_law_pen (t : Tx K mg c) : Df P w K mg base 1 1 (f_law_pen c) t.a_law_pen := Df.of t.u_law_pen t.kp_law_pen t.b_law_pen sc_law_pen (by decide) (fun E => s_law_pen t E)
end
theorem sc_law_next : FnScope ["_law_pen_here", "_law_index", "_law_cell", "_law_low", "_law_mid", "_law_top"] ["_law_pen_here"] (defScope st_law_next) := ⟨rfl, rfl, rfl, by decide +kernel, rfl, by decide +kernel, by decide +kernel⟩
section
variable {P : Program} {w : World} {K : Kf} {mg : Str → Option Value} {base : Heap} {c : Cs} [Lf]
theorem s_law_next (t : Tx K mg c) (E : XK) {f : Addr} : DSs K (fun _ => E) (cxD P w K mg base ["_law_pen_here", "_law_index", "_law_cell", "_law_low", "_law_mid", "_law_top"] "_law_next" st_law_next f 0 E) (defBody st_law_next) (b_law_next c) :=
 have fm0 := fmD (P := P) (w := w) (K := K) (mg := mg) (base := base) (qual := "_law_next") (f := f) (k := 0) sc_law_next E
 ssc (sset fm0 1 (eIx fm0 (dn 0) (di)))
 (ssc (sput fm0 (eBin bAdd (dn 1) (di)) (dn 0) (di))
 (ssc (sset fm0 2 (eBin bAdd (eBin bMul (dn 1) (di)) (di)))
 (ssc (sif (tCmp' (bNe fm0) (eIx fm0 (dn 0) (di)) (dlst (da0))) (ss1 (sset fm0 2 (eIx fm0 (eIx fm0 (dn 0) (di)) (eBin bMod (dn 1) (eCb fm0 (cLen fm0) t.z_len rfl (da (eIx fm0 (dn 0) (di)) (da0))))))) (ss0))
 (ssc (sif (dw (dand (tCmp' (bLt) (dn 1) (eCb fm0 (cLen fm0) t.z_len rfl (da (eIx fm0 (dn 0) (di)) (da0)))) (dand1 (tCmp' (bGe) (dn 2) (eBin bPow (di) (di)))))) (ss1 (sret (dn 2))) (ss0))
 (ssc (sset fm0 3 (eBin bMod (eBin bAdd (eBin bAdd (eBin bMod (dn 2) (di)) (eBin bMul (dn 1) (di))) (di)) (di)))
 (ssc (sset fm0 4 (eBin bMod (eBin bAdd (eBin bAdd (eBin bMul (dn 3) (dn 3)) (eBin bMul (dn 1) (di))) (di)) (di)))
 (ssc (sset fm0 5 (eBin bMod (eBin bAdd (eBin bAdd (eBin bMul (dn 4) (dn 4)) (dn 3)) (eBin bMul (eBin bMul (dn 1) (dn 1)) (di))) (di)))
 (ss1 (sret (eBin bAdd (eBin bMul (eBin bAdd (eBin bMul (dn 5) (di)) (dn 4)) (di)) (dn 3)))))))))))
theorem d_law_next (t : Tx K mg c) : Df P w K mg base 1 1 (f_law_next c) t.a_law_next := Df.of t.u_law_next t.kp_law_next t.b_law_next sc_law_next (by decide) (fun E => s_law_next t E)
end
theorem sc_law_draw : FnScope ["_law_pen_here", "_law_below_this", "_law_digit"] ["_law_pen_here", "_law_below_this"] (defScope st_law_draw) := ⟨rfl, rfl, rfl, by decide +kernel, rfl, by decide +kernel, by decide +kernel⟩
section
variable {P : Program} {w : World} {K : Kf} {mg : Str → Option Value} {base : Heap} {c : Cs} [Lf]
theorem s_law_draw (t : Tx K mg c) (E : XK) {f : Addr} : DSs K (fun _ => E) (cxD P w K mg base ["_law_pen_here", "_law_below_this", "_law_digit"] "_law_draw" st_law_draw f 1 E) (defBody st_law_draw) (b_law_draw c) :=
 have fm0 := fmD (P := P) (w := w) (K := K) (mg := mg) (base := base) (qual := "_law_draw") (f := f) (k := 1) sc_law_draw E
 ssc (sif (tCmp' (bLt) (eIx fm0 (dn 0) (di)) (dn 1)) (ss1 (sput fm0 (dcallM fm0 (d_law_next (P := P) (w := w) (base := base) t) t.m__law_next (by decide) (da (dn 0) (da0))) (dn 0) (di))) (ss0))
 (ssc (sset fm0 2 (eBin bMod (eIx fm0 (dn 0) (di)) (dn 1)))
 (ssc (sput fm0 (eBin bDiv (eIx fm0 (dn 0) (di)) (dn 1)) (dn 0) (di))
 (ss1 (sret (dn 2)))))
theorem d_law_draw (t : Tx K mg c) : Df P w K mg base 2 2 (f_law_draw c) t.a_law_draw := Df.of t.u_law_draw t.kp_law_draw t.b_law_draw sc_law_draw (by decide) (fun E => s_law_draw t E)
end
theorem sc_law_kinds : FnScope ["_law_error", "_law_found"] ["_law_error"] (defScope st_law_kinds) := ⟨rfl, rfl, rfl, by decide +kernel, rfl, by decide +kernel, by decide +kernel⟩
section
variable {P : Program} {w : World} {K : Kf} {mg : Str → Option Value} {base : Heap} {c : Cs} [Lf]
theorem s_law_kinds (t : Tx K mg c) (E : XK) {f : Addr} : DSs K (fun _ => E) (cxD P w K mg base ["_law_error", "_law_found"] "_law_kinds" st_law_kinds f 0 E) (defBody st_law_kinds) (b_law_kinds c) :=
 have fm0 := fmD (P := P) (w := w) (K := K) (mg := mg) (base := base) (qual := "_law_kinds") (f := f) (k := 0) sc_law_kinds E
 ssc (sset fm0 1 (dlst (da (dk (eIsE fm0 (dn 0) t.ie_ParseError (.own _) (cOwn fm0 t.m_ParseError) t.z_isinstance rfl)) (da (dk (eIsE fm0 (dn 0) t.ie_NotAdmitted (.own _) (cOwn fm0 t.m_NotAdmitted) t.z_isinstance rfl)) (da (dk (eIsE fm0 (dn 0) t.ie_NoSolution (.own _) (cOwn fm0 t.m_NoSolution) t.z_isinstance rfl)) (da0))))))
 (ssc (sset fm0 1 (eBin bAdd (dn 1) (df (dlst (da (dk (eIsE fm0 (dn 0) t.ie_InvalidGroups (.own _) (cOwn fm0 t.m_InvalidGroups) t.z_isinstance rfl)) (da (dk (eIsE fm0 (dn 0) t.ie_UnknownGroup (.own _) (cOwn fm0 t.m_UnknownGroup) t.z_isinstance rfl)) (da0)))))))
 (ssc (sexp (eMe (mAppend fm0) (dn 1) (da (dk (eIsE fm0 (dn 0) t.ie_InvalidRoll (.own _) (cOwn fm0 t.m_InvalidRoll) t.z_isinstance rfl)) (da0))))
 (ssc (sset fm0 1 (eBin bAdd (dn 1) (df (dlst (da (dk (eIsE fm0 (dn 0) t.ie_InvalidMembers (.own _) (cOwn fm0 t.m_InvalidMembers) t.z_isinstance rfl)) (da (dk (eIsE fm0 (dn 0) t.ie_InvalidStep (.own _) (cOwn fm0 t.m_InvalidStep) t.z_isinstance rfl)) (da0)))))))
 (ssc (sset fm0 1 (eBin bAdd (dn 1) (df (dlst (da (dk (eIsE fm0 (dn 0) t.ie_InvalidPrices (.own _) (cOwn fm0 t.m_InvalidPrices) t.z_isinstance rfl)) (da (dk (eIsE fm0 (dn 0) t.ie_InvalidAmounts (.own _) (cOwn fm0 t.m_InvalidAmounts) t.z_isinstance rfl)) (da0)))))))
 (ssc (sset fm0 1 (eBin bAdd (dn 1) (df (dlst (da (dk (eIsE fm0 (dn 0) t.ie_PlanFinished (.own _) (cOwn fm0 t.m_PlanFinished) t.z_isinstance rfl)) (da (dk (eIsE fm0 (dn 0) t.ie_NothingToUndo (.own _) (cOwn fm0 t.m_NothingToUndo) t.z_isinstance rfl)) (da0)))))))
 (ssc (sset fm0 1 (eBin bAdd (dn 1) (df (dlst (da (dk (eIsE fm0 (dn 0) t.ie_InvalidName (.own _) (cOwn fm0 t.m_InvalidName) t.z_isinstance rfl)) (da (dk (eIsE fm0 (dn 0) t.ie_DuplicateName (.own _) (cOwn fm0 t.m_DuplicateName) t.z_isinstance rfl)) (da0)))))))
 (ssc (sset fm0 1 (eBin bAdd (dn 1) (df (dlst (da (dk (eIsE fm0 (dn 0) t.ie_UnknownName (.own _) (cOwn fm0 t.m_UnknownName) t.z_isinstance rfl)) (da (dk (eIsE fm0 (dn 0) t.ie_UnknownMark (.own _) (cOwn fm0 t.m_UnknownMark) t.z_isinstance rfl)) (da0)))))))
 (ssc (sset fm0 1 (eBin bAdd (dn 1) (df (dlst (da (dk (eIsE fm0 (dn 0) t.ie_InvalidCommand (.own _) (cOwn fm0 t.m_InvalidCommand) t.z_isinstance rfl)) (da (dk (eIsE fm0 (dn 0) t.ie_InvalidLine (.own _) (cOwn fm0 t.m_InvalidLine) t.z_isinstance rfl)) (da0)))))))
 (ss1 (sret (eBin bAdd (dn 1) (df (dlst (da (dk (eIsE fm0 (dn 0) t.ie_NotASolution (.own _) (cOwn fm0 t.m_NotASolution) t.z_isinstance rfl)) (da0)))))))))))))))
theorem d_law_kinds (t : Tx K mg c) : Df P w K mg base 1 1 (f_law_kinds c) t.a_law_kinds := Df.of t.u_law_kinds t.kp_law_kinds t.b_law_kinds sc_law_kinds (by decide) (fun E => s_law_kinds t E)
end
theorem sc_law : FnScope ["_law_script", "_law_pen_here", "_law_index", "_law_note", "_law_errors", "_law_k", "_law_j", "_law_held", "_law_more"] ["_law_script"] (defScope st_law) := ⟨rfl, rfl, rfl, by decide +kernel, rfl, by decide +kernel, by decide +kernel⟩
section
variable {P : Program} {w : World} {K : Kf} {mg : Str → Option Value} {base : Heap} {c : Cs} [Lf]
theorem s_law (t : Tx K mg c) (E : XK) {f : Addr} : DSs K (fun _ => E) (cxD P w K mg base ["_law_script", "_law_pen_here", "_law_index", "_law_note", "_law_errors", "_law_k", "_law_j", "_law_held", "_law_more"] "law" st_law f 2 E) (defBody st_law) (b_law c) :=
 have fm0 := fmD (P := P) (w := w) (K := K) (mg := mg) (base := base) (qual := "law") (f := f) (k := 2) sc_law E
 ssc (sset fm0 1 (dcall fm0 (d_law_pen (P := P) (w := w) (base := base) t) t.m__law_pen (by decide) (da (dn 0) (da0))))
 (ssc (sset fm0 2 (dcallM fm0 (d_law_draw (P := P) (w := w) (base := base) t) t.m__law_draw (by decide) (da (dn 1) (da (eBin bPow (di) (di)) (da0)))))
 (ssc (sset fm0 3 (eBin bAdd (dst) (eCt fm0 (cStrI fm0) t.z_str rfl (da (dcallM fm0 (d_law_draw (P := P) (w := w) (base := base) t) t.m__law_draw (by decide) (da (dn 1) (da (di) (da0)))) da0))))
 (ssc (sset fm0 4 (dlst (da (dk (eExnF fm0 (dX_ParseError t) t.m_ParseError (dn 2))) (da (dk (eExnF fm0 (dX_NotAdmitted t) t.m_NotAdmitted (dn 3))) (da (dk (eExnF fm0 (dX_NoSolution t) t.m_NoSolution (dn 3))) (da (dk (eExn fm0 t.x_InvalidGroups t.m_InvalidGroups (dn 3))) (da (dk (eExn fm0 t.x_UnknownGroup t.m_UnknownGroup (dn 3))) (da0))))))))
 (ssc (sset fm0 4 (eBin bAdd (dn 4) (df (dlst (da (dk (eExn fm0 t.x_InvalidRoll t.m_InvalidRoll (dn 3))) (da (dk (eExn fm0 t.x_InvalidMembers t.m_InvalidMembers (dn 3))) (da (dk (eExn fm0 t.x_InvalidStep t.m_InvalidStep (dn 3))) (da (dk (eExn fm0 t.x_InvalidPrices t.m_InvalidPrices (dn 3))) (da0)))))))))
 (ssc (sset fm0 4 (eBin bAdd (dn 4) (df (dlst (da (dk (eExn fm0 t.x_InvalidAmounts t.m_InvalidAmounts (dn 3))) (da (dk (eExn fm0 t.x_PlanFinished t.m_PlanFinished (dn 3))) (da (dk (eExn fm0 t.x_NothingToUndo t.m_NothingToUndo (dn 3))) (da (dk (eExn fm0 t.x_InvalidName t.m_InvalidName (dn 3))) (da0)))))))))
 (ssc (sset fm0 4 (eBin bAdd (dn 4) (df (dlst (da (dk (eExn fm0 t.x_DuplicateName t.m_DuplicateName (dn 3))) (da (dk (eExn fm0 t.x_UnknownName t.m_UnknownName (dn 3))) (da (dk (eExn fm0 t.x_UnknownMark t.m_UnknownMark (dn 3))) (da (dk (eExn fm0 t.x_InvalidCommand t.m_InvalidCommand (dn 3))) (da0)))))))))
 (ssc (sset fm0 4 (eBin bAdd (dn 4) (df (dlst (da (dk (eExn fm0 t.x_InvalidLine t.m_InvalidLine (dn 3))) (da (dk (eExn fm0 t.x_NotASolution t.m_NotASolution (dn 3))) (da0)))))))
 (ssc (sforL fm0 (DI0.i (diR1 fm0 (da (eCb fm0 (cLen fm0) t.z_len rfl (da (dn 4) (da0))) (da0)) t.z_range)) (dgN fm0 5) (ssc (sif (dw (dor (dnot (dtru (eIsE (Fm.z fm0) (eIx (Fm.z fm0) (dn 4) (dn 5)) t.ie_ValueError (.ty _) (cName (Fm.z fm0) t.z_ValueError rfl) t.z_isinstance rfl) truN (Fm.z fm0))) (dor1 (dnot (dtru (eIsE (Fm.z fm0) (eIx (Fm.z fm0) (dn 4) (dn 5)) t.ie_QuotaError (.own _) (cOwn (Fm.z fm0) t.m_QuotaError) t.z_isinstance rfl) truN (Fm.z fm0)))))) (ss1 (sret (dbl))) (ss0))
 (ss1 (sif (tCmp' (bNe (Fm.z fm0)) (dcall (Fm.z fm0) (d_law_kinds (P := P) (w := w) (base := base) t) t.m__law_kinds (by decide) (da (eIx (Fm.z fm0) (dn 4) (dn 5)) (da0))) (dlc (Fm.z fm0) (DI0.i (diR1 (Fm.z fm0) (da (eCb (Fm.z fm0) (cLen (Fm.z fm0)) t.z_len rfl (da (dn 4) (da0))) (da0)) t.z_range)) (fun _ => blkOk_by (own := [("_law_j", 6)]) (by rfl)) (dgN (Fm.blk (Fm.z fm0)) 6) (by decide) (dq0) (eCmp (bEq2 (Fm.blk (Fm.z fm0))) (dn 6) (dn 5)))) (ss1 (sret (dbl))) (ss0)))))
 (ssc (sset fm0 7 (dlst (da (dk (eXat fm0 (cl := xa_line c) (eIx fm0 (dn 4) (di)) t.xa_line)) (da (dk (eXat fm0 (cl := xa_group c) (eIx fm0 (dn 4) (di)) t.xa_group)) (da (dk (eXat fm0 (cl := xa_group c) (eIx fm0 (dn 4) (di)) t.xa_group)) (da0))))))
 (ssc (sset fm0 8 (dlst (da (dk (eXat fm0 (cl := xa_line c) (df (eExnFK fm0 (dXK_ParseError t) t.m_ParseError (dkw (di) dkw0))) t.xa_line)) (da (dk (eXat fm0 (cl := xa_group c) (df (eExnFK fm0 (dXK_NotAdmitted t) t.m_NotAdmitted (dkw (dst) dkw0))) t.xa_group)) (da (dk (eXat fm0 (cl := xa_group c) (df (eExnFK fm0 (dXK_NoSolution t) t.m_NoSolution (dkw (dst) dkw0))) t.xa_group)) (da0))))))
 (ss1 (sret (eCmp (bEq2 fm0) (eBin bAdd (dn 7) (dn 8)) (dlst (da (dk (dn 2)) (da (dk (dn 3)) (da (dk (dn 3)) (da (di) (da (dst) (da (dst) (da0)))))))))))))))))))))
end
theorem tx_mk {K : Kf} {mg : Str → Option Value} {h : Heap} (X : K.In h) (G : h.Ns mainGlobals mg) {fa : Addr} (hfa : mg "law" = some (.ref fa))
  {f_law_pen : Addr} {od_law_pen an_law_pen : Option Addr} {sl_law_pen : Array (Option Value)} {oc_law_pen kV_law_pen dc_law_pen pm_law_pen cd_law_pen ct_law_pen : Value}
  {f_law_next : Addr} {od_law_next an_law_next : Option Addr} {sl_law_next : Array (Option Value)} {oc_law_next kV_law_next dc_law_next pm_law_next cd_law_next ct_law_next : Value}
  {f_law_draw : Addr} {od_law_draw an_law_draw : Option Addr} {sl_law_draw : Array (Option Value)} {oc_law_draw kV_law_draw dc_law_draw pm_law_draw cd_law_draw ct_law_draw : Value}
  {f_law_kinds : Addr} {od_law_kinds an_law_kinds : Option Addr} {sl_law_kinds : Array (Option Value)} {oc_law_kinds kV_law_kinds dc_law_kinds pm_law_kinds cd_law_kinds ct_law_kinds : Value}
  {f_law : Addr} {od_law an_law : Option Addr} {sl_law : Array (Option Value)} {oc_law kV_law dc_law pm_law cd_law ct_law : Value}
  {C_QuotaError : Addr}
  {C_ParseError : Addr}
  {C_NotAdmitted : Addr}
  {C_NoSolution : Addr}
  {C_InvalidGroups : Addr}
  {C_UnknownGroup : Addr}
  {C_InvalidRoll : Addr}
  {C_InvalidMembers : Addr}
  {C_InvalidStep : Addr}
  {C_InvalidPrices : Addr}
  {C_InvalidAmounts : Addr}
  {C_NotASolution : Addr}
  {C_PlanFinished : Addr}
  {C_NothingToUndo : Addr}
  {C_InvalidName : Addr}
  {C_DuplicateName : Addr}
  {C_UnknownName : Addr}
  {C_UnknownMark : Addr}
  {C_InvalidCommand : Addr}
  {C_InvalidLine : Addr}
  {N_NoSolution : Addr} {nm_NoSolution q_NoSolution : Str} {bs_NoSolution bm_NoSolution : List Value} {sn_NoSolution : List Str} {sub_NoSolution : List Value} {ab_NoSolution : Bool} {col_NoSolution : Option Bool} {dd_NoSolution : Option Addr} {k0_NoSolution k1_NoSolution k2_NoSolution k3_NoSolution k5_NoSolution : Option Value}
  {fi_NoSolution : Addr} {odi_NoSolution ani_NoSolution : Option Addr} {sli_NoSolution : Array (Option Value)} {oci_NoSolution kVi_NoSolution dci_NoSolution pmi_NoSolution cdi_NoSolution cti_NoSolution : Value}
  {N_NotAdmitted : Addr} {nm_NotAdmitted q_NotAdmitted : Str} {bs_NotAdmitted bm_NotAdmitted : List Value} {sn_NotAdmitted : List Str} {sub_NotAdmitted : List Value} {ab_NotAdmitted : Bool} {col_NotAdmitted : Option Bool} {dd_NotAdmitted : Option Addr} {k0_NotAdmitted k1_NotAdmitted k2_NotAdmitted k3_NotAdmitted k5_NotAdmitted : Option Value}
  {fi_NotAdmitted : Addr} {odi_NotAdmitted ani_NotAdmitted : Option Addr} {sli_NotAdmitted : Array (Option Value)} {oci_NotAdmitted kVi_NotAdmitted dci_NotAdmitted pmi_NotAdmitted cdi_NotAdmitted cti_NotAdmitted : Value}
  {N_ParseError : Addr} {nm_ParseError q_ParseError : Str} {bs_ParseError bm_ParseError : List Value} {sn_ParseError : List Str} {sub_ParseError : List Value} {ab_ParseError : Bool} {col_ParseError : Option Bool} {dd_ParseError : Option Addr} {k0_ParseError k1_ParseError k2_ParseError k3_ParseError k5_ParseError : Option Value}
  {fi_ParseError : Addr} {odi_ParseError ani_ParseError : Option Addr} {sli_ParseError : Array (Option Value)} {oci_ParseError kVi_ParseError dci_ParseError pmi_ParseError cdi_ParseError cti_ParseError : Value}
  (g_law_pen : PySem.W.nsIn K mainGlobals "_law_pen" = some (some (.ref f_law_pen)))
  (l_law_pen : K.lookup f_law_pen = some ⟨oc_law_pen, od_law_pen, .func (PySem.W.fnOf "_law_pen" "_law_pen" (defArgs st_law_pen) (defBody st_law_pen) (defScope st_law_pen) .none kV_law_pen dc_law_pen pm_law_pen an_law_pen cd_law_pen ct_law_pen), sl_law_pen⟩)
  (c_law_pen : PySem.W.codeIn K cd_law_pen "_law_pen" = true)
  (k_law_pen : PySem.W.keepIn K (.ref f_law_pen) = true)
  (g_law_next : PySem.W.nsIn K mainGlobals "_law_next" = some (some (.ref f_law_next)))
  (l_law_next : K.lookup f_law_next = some ⟨oc_law_next, od_law_next, .func (PySem.W.fnOf "_law_next" "_law_next" (defArgs st_law_next) (defBody st_law_next) (defScope st_law_next) .none kV_law_next dc_law_next pm_law_next an_law_next cd_law_next ct_law_next), sl_law_next⟩)
  (c_law_next : PySem.W.codeIn K cd_law_next "_law_next" = true)
  (k_law_next : PySem.W.keepIn K (.ref f_law_next) = true)
  (g_law_draw : PySem.W.nsIn K mainGlobals "_law_draw" = some (some (.ref f_law_draw)))
  (l_law_draw : K.lookup f_law_draw = some ⟨oc_law_draw, od_law_draw, .func (PySem.W.fnOf "_law_draw" "_law_draw" (defArgs st_law_draw) (defBody st_law_draw) (defScope st_law_draw) .none kV_law_draw dc_law_draw pm_law_draw an_law_draw cd_law_draw ct_law_draw), sl_law_draw⟩)
  (c_law_draw : PySem.W.codeIn K cd_law_draw "_law_draw" = true)
  (k_law_draw : PySem.W.keepIn K (.ref f_law_draw) = true)
  (g_law_kinds : PySem.W.nsIn K mainGlobals "_law_kinds" = some (some (.ref f_law_kinds)))
  (l_law_kinds : K.lookup f_law_kinds = some ⟨oc_law_kinds, od_law_kinds, .func (PySem.W.fnOf "_law_kinds" "_law_kinds" (defArgs st_law_kinds) (defBody st_law_kinds) (defScope st_law_kinds) .none kV_law_kinds dc_law_kinds pm_law_kinds an_law_kinds cd_law_kinds ct_law_kinds), sl_law_kinds⟩)
  (c_law_kinds : PySem.W.codeIn K cd_law_kinds "_law_kinds" = true)
  (k_law_kinds : PySem.W.keepIn K (.ref f_law_kinds) = true)
  (g_law : PySem.W.nsIn K mainGlobals "law" = some (some (.ref f_law)))
  (l_law : K.lookup f_law = some ⟨oc_law, od_law, .func (PySem.W.fnOf "law" "law" (defArgs st_law) (defBody st_law) (defScope st_law) .none kV_law dc_law pm_law an_law cd_law ct_law), sl_law⟩)
  (c_law : PySem.W.codeIn K cd_law "law" = true)
  (k_law : PySem.W.keepIn K (.ref f_law) = true)
  (z_ValueError : PySem.W.nsIn K mainGlobals "ValueError" = some none)
  (z_isinstance : PySem.W.nsIn K mainGlobals "isinstance" = some none)
  (z_len : PySem.W.nsIn K mainGlobals "len" = some none)
  (z_list : PySem.W.nsIn K mainGlobals "list" = some none)
  (z_range : PySem.W.nsIn K mainGlobals "range" = some none)
  (z_str : PySem.W.nsIn K mainGlobals "str" = some none)
  (aC_QuotaError : PySem.W.nsIn K mainGlobals "QuotaError" = some (some (.ref C_QuotaError)))
  (aC_ParseError : PySem.W.nsIn K mainGlobals "ParseError" = some (some (.ref C_ParseError)))
  (aC_NotAdmitted : PySem.W.nsIn K mainGlobals "NotAdmitted" = some (some (.ref C_NotAdmitted)))
  (aC_NoSolution : PySem.W.nsIn K mainGlobals "NoSolution" = some (some (.ref C_NoSolution)))
  (aC_InvalidGroups : PySem.W.nsIn K mainGlobals "InvalidGroups" = some (some (.ref C_InvalidGroups)))
  (aC_UnknownGroup : PySem.W.nsIn K mainGlobals "UnknownGroup" = some (some (.ref C_UnknownGroup)))
  (aC_InvalidRoll : PySem.W.nsIn K mainGlobals "InvalidRoll" = some (some (.ref C_InvalidRoll)))
  (aC_InvalidMembers : PySem.W.nsIn K mainGlobals "InvalidMembers" = some (some (.ref C_InvalidMembers)))
  (aC_InvalidStep : PySem.W.nsIn K mainGlobals "InvalidStep" = some (some (.ref C_InvalidStep)))
  (aC_InvalidPrices : PySem.W.nsIn K mainGlobals "InvalidPrices" = some (some (.ref C_InvalidPrices)))
  (aC_InvalidAmounts : PySem.W.nsIn K mainGlobals "InvalidAmounts" = some (some (.ref C_InvalidAmounts)))
  (aC_NotASolution : PySem.W.nsIn K mainGlobals "NotASolution" = some (some (.ref C_NotASolution)))
  (aC_PlanFinished : PySem.W.nsIn K mainGlobals "PlanFinished" = some (some (.ref C_PlanFinished)))
  (aC_NothingToUndo : PySem.W.nsIn K mainGlobals "NothingToUndo" = some (some (.ref C_NothingToUndo)))
  (aC_InvalidName : PySem.W.nsIn K mainGlobals "InvalidName" = some (some (.ref C_InvalidName)))
  (aC_DuplicateName : PySem.W.nsIn K mainGlobals "DuplicateName" = some (some (.ref C_DuplicateName)))
  (aC_UnknownName : PySem.W.nsIn K mainGlobals "UnknownName" = some (some (.ref C_UnknownName)))
  (aC_UnknownMark : PySem.W.nsIn K mainGlobals "UnknownMark" = some (some (.ref C_UnknownMark)))
  (aC_InvalidCommand : PySem.W.nsIn K mainGlobals "InvalidCommand" = some (some (.ref C_InvalidCommand)))
  (aC_InvalidLine : PySem.W.nsIn K mainGlobals "InvalidLine" = some (some (.ref C_InvalidLine)))
  (xs_QuotaError : PySem.W.subIn K (.ref C_QuotaError) (.type "BaseException") = some true)
  (xt_QuotaError : PySem.W.typeIn K (.ref C_QuotaError) = some (.type "type"))
  (xd_QuotaError : PySem.W.hasDictIn K C_QuotaError = true)
  (xs_ParseError : PySem.W.subIn K (.ref C_ParseError) (.type "BaseException") = some true)
  (xt_ParseError : PySem.W.typeIn K (.ref C_ParseError) = some (.type "type"))
  (xd_ParseError : PySem.W.hasDictIn K C_ParseError = true)
  (xs_NotAdmitted : PySem.W.subIn K (.ref C_NotAdmitted) (.type "BaseException") = some true)
  (xt_NotAdmitted : PySem.W.typeIn K (.ref C_NotAdmitted) = some (.type "type"))
  (xd_NotAdmitted : PySem.W.hasDictIn K C_NotAdmitted = true)
  (xs_NoSolution : PySem.W.subIn K (.ref C_NoSolution) (.type "BaseException") = some true)
  (xt_NoSolution : PySem.W.typeIn K (.ref C_NoSolution) = some (.type "type"))
  (xd_NoSolution : PySem.W.hasDictIn K C_NoSolution = true)
  (xs_InvalidGroups : PySem.W.subIn K (.ref C_InvalidGroups) (.type "BaseException") = some true)
  (xt_InvalidGroups : PySem.W.typeIn K (.ref C_InvalidGroups) = some (.type "type"))
  (xd_InvalidGroups : PySem.W.hasDictIn K C_InvalidGroups = true)
  (xs_UnknownGroup : PySem.W.subIn K (.ref C_UnknownGroup) (.type "BaseException") = some true)
  (xt_UnknownGroup : PySem.W.typeIn K (.ref C_UnknownGroup) = some (.type "type"))
  (xd_UnknownGroup : PySem.W.hasDictIn K C_UnknownGroup = true)
  (xs_InvalidRoll : PySem.W.subIn K (.ref C_InvalidRoll) (.type "BaseException") = some true)
  (xt_InvalidRoll : PySem.W.typeIn K (.ref C_InvalidRoll) = some (.type "type"))
  (xd_InvalidRoll : PySem.W.hasDictIn K C_InvalidRoll = true)
  (xs_InvalidMembers : PySem.W.subIn K (.ref C_InvalidMembers) (.type "BaseException") = some true)
  (xt_InvalidMembers : PySem.W.typeIn K (.ref C_InvalidMembers) = some (.type "type"))
  (xd_InvalidMembers : PySem.W.hasDictIn K C_InvalidMembers = true)
  (xs_InvalidStep : PySem.W.subIn K (.ref C_InvalidStep) (.type "BaseException") = some true)
  (xt_InvalidStep : PySem.W.typeIn K (.ref C_InvalidStep) = some (.type "type"))
  (xd_InvalidStep : PySem.W.hasDictIn K C_InvalidStep = true)
  (xs_InvalidPrices : PySem.W.subIn K (.ref C_InvalidPrices) (.type "BaseException") = some true)
  (xt_InvalidPrices : PySem.W.typeIn K (.ref C_InvalidPrices) = some (.type "type"))
  (xd_InvalidPrices : PySem.W.hasDictIn K C_InvalidPrices = true)
  (xs_InvalidAmounts : PySem.W.subIn K (.ref C_InvalidAmounts) (.type "BaseException") = some true)
  (xt_InvalidAmounts : PySem.W.typeIn K (.ref C_InvalidAmounts) = some (.type "type"))
  (xd_InvalidAmounts : PySem.W.hasDictIn K C_InvalidAmounts = true)
  (xs_NotASolution : PySem.W.subIn K (.ref C_NotASolution) (.type "BaseException") = some true)
  (xt_NotASolution : PySem.W.typeIn K (.ref C_NotASolution) = some (.type "type"))
  (xd_NotASolution : PySem.W.hasDictIn K C_NotASolution = true)
  (xs_PlanFinished : PySem.W.subIn K (.ref C_PlanFinished) (.type "BaseException") = some true)
  (xt_PlanFinished : PySem.W.typeIn K (.ref C_PlanFinished) = some (.type "type"))
  (xd_PlanFinished : PySem.W.hasDictIn K C_PlanFinished = true)
  (xs_NothingToUndo : PySem.W.subIn K (.ref C_NothingToUndo) (.type "BaseException") = some true)
  (xt_NothingToUndo : PySem.W.typeIn K (.ref C_NothingToUndo) = some (.type "type"))
  (xd_NothingToUndo : PySem.W.hasDictIn K C_NothingToUndo = true)
  (xs_InvalidName : PySem.W.subIn K (.ref C_InvalidName) (.type "BaseException") = some true)
  (xt_InvalidName : PySem.W.typeIn K (.ref C_InvalidName) = some (.type "type"))
  (xd_InvalidName : PySem.W.hasDictIn K C_InvalidName = true)
  (xs_DuplicateName : PySem.W.subIn K (.ref C_DuplicateName) (.type "BaseException") = some true)
  (xt_DuplicateName : PySem.W.typeIn K (.ref C_DuplicateName) = some (.type "type"))
  (xd_DuplicateName : PySem.W.hasDictIn K C_DuplicateName = true)
  (xs_UnknownName : PySem.W.subIn K (.ref C_UnknownName) (.type "BaseException") = some true)
  (xt_UnknownName : PySem.W.typeIn K (.ref C_UnknownName) = some (.type "type"))
  (xd_UnknownName : PySem.W.hasDictIn K C_UnknownName = true)
  (xs_UnknownMark : PySem.W.subIn K (.ref C_UnknownMark) (.type "BaseException") = some true)
  (xt_UnknownMark : PySem.W.typeIn K (.ref C_UnknownMark) = some (.type "type"))
  (xd_UnknownMark : PySem.W.hasDictIn K C_UnknownMark = true)
  (xs_InvalidCommand : PySem.W.subIn K (.ref C_InvalidCommand) (.type "BaseException") = some true)
  (xt_InvalidCommand : PySem.W.typeIn K (.ref C_InvalidCommand) = some (.type "type"))
  (xd_InvalidCommand : PySem.W.hasDictIn K C_InvalidCommand = true)
  (xs_InvalidLine : PySem.W.subIn K (.ref C_InvalidLine) (.type "BaseException") = some true)
  (xt_InvalidLine : PySem.W.typeIn K (.ref C_InvalidLine) = some (.type "type"))
  (xd_InvalidLine : PySem.W.hasDictIn K C_InvalidLine = true)
  (xk_DuplicateName : PySem.W.keepIn K (.ref C_DuplicateName) = true)
  (xe_DuplicateName : PySem.W.excIn K C_DuplicateName [.type "ValueError", .type "Exception", .type "BaseException", .type "object"] "ValueError.__new__" = true)
  (xk_InvalidAmounts : PySem.W.keepIn K (.ref C_InvalidAmounts) = true)
  (xe_InvalidAmounts : PySem.W.excIn K C_InvalidAmounts [.type "ValueError", .type "Exception", .type "BaseException", .type "object"] "ValueError.__new__" = true)
  (xk_InvalidCommand : PySem.W.keepIn K (.ref C_InvalidCommand) = true)
  (xe_InvalidCommand : PySem.W.excIn K C_InvalidCommand [.type "ValueError", .type "Exception", .type "BaseException", .type "object"] "ValueError.__new__" = true)
  (xk_InvalidGroups : PySem.W.keepIn K (.ref C_InvalidGroups) = true)
  (xe_InvalidGroups : PySem.W.excIn K C_InvalidGroups [.type "ValueError", .type "Exception", .type "BaseException", .type "object"] "ValueError.__new__" = true)
  (xk_InvalidLine : PySem.W.keepIn K (.ref C_InvalidLine) = true)
  (xe_InvalidLine : PySem.W.excIn K C_InvalidLine [.type "ValueError", .type "Exception", .type "BaseException", .type "object"] "ValueError.__new__" = true)
  (xk_InvalidMembers : PySem.W.keepIn K (.ref C_InvalidMembers) = true)
  (xe_InvalidMembers : PySem.W.excIn K C_InvalidMembers [.type "ValueError", .type "Exception", .type "BaseException", .type "object"] "ValueError.__new__" = true)
  (xk_InvalidName : PySem.W.keepIn K (.ref C_InvalidName) = true)
  (xe_InvalidName : PySem.W.excIn K C_InvalidName [.type "ValueError", .type "Exception", .type "BaseException", .type "object"] "ValueError.__new__" = true)
  (xk_InvalidPrices : PySem.W.keepIn K (.ref C_InvalidPrices) = true)
  (xe_InvalidPrices : PySem.W.excIn K C_InvalidPrices [.type "ValueError", .type "Exception", .type "BaseException", .type "object"] "ValueError.__new__" = true)
  (xk_InvalidRoll : PySem.W.keepIn K (.ref C_InvalidRoll) = true)
  (xe_InvalidRoll : PySem.W.excIn K C_InvalidRoll [.type "ValueError", .type "Exception", .type "BaseException", .type "object"] "ValueError.__new__" = true)
  (xk_InvalidStep : PySem.W.keepIn K (.ref C_InvalidStep) = true)
  (xe_InvalidStep : PySem.W.excIn K C_InvalidStep [.type "ValueError", .type "Exception", .type "BaseException", .type "object"] "ValueError.__new__" = true)
  (xk_NoSolution : PySem.W.keepIn K (.ref C_NoSolution) = true)
  (xl_NoSolution : K.lookup C_NoSolution = some (excClassObj nm_NoSolution q_NoSolution C_NoSolution N_NoSolution bs_NoSolution bm_NoSolution true sn_NoSolution sub_NoSolution ab_NoSolution col_NoSolution dd_NoSolution k0_NoSolution k1_NoSolution k2_NoSolution k3_NoSolution k5_NoSolution "ValueError.__new__"))
  (xr_NoSolution : PySem.HandSPX.refsVE bm_NoSolution = true)
  (xa_NoSolution : PySem.W.findIn K (.ref C_NoSolution) "__setattr__" = some (some (.builtin "object.__setattr__")))
  (xi_NoSolution : PySem.W.findIn K (.ref C_NoSolution) "__init__" = some (some (.ref fi_NoSolution)))
  (xf_NoSolution : PySem.W.typeIn K (.ref fi_NoSolution) = some (.type "function"))
  (xn_NoSolution : PySem.W.findIn K (.ref C_NoSolution) "group" = some none)
  (xu_NoSolution : K.lookup fi_NoSolution = some ⟨oci_NoSolution, odi_NoSolution, .func (PySem.W.fnOf "__init__" "NoSolution.__init__" (defArgs (inClass (top 4) 0)) (defBody (inClass (top 4) 0)) (defScope (inClass (top 4) 0)) .none kVi_NoSolution dci_NoSolution pmi_NoSolution ani_NoSolution cdi_NoSolution cti_NoSolution), sli_NoSolution⟩)
  (xc_NoSolution : PySem.W.codeIn K cdi_NoSolution "NoSolution.__init__" = true)
  (xj_NoSolution : PySem.W.keepIn K (.ref fi_NoSolution) = true)
  (xk_NotASolution : PySem.W.keepIn K (.ref C_NotASolution) = true)
  (xe_NotASolution : PySem.W.excIn K C_NotASolution [.type "ValueError", .type "Exception", .type "BaseException", .type "object"] "ValueError.__new__" = true)
  (xk_NotAdmitted : PySem.W.keepIn K (.ref C_NotAdmitted) = true)
  (xl_NotAdmitted : K.lookup C_NotAdmitted = some (excClassObj nm_NotAdmitted q_NotAdmitted C_NotAdmitted N_NotAdmitted bs_NotAdmitted bm_NotAdmitted true sn_NotAdmitted sub_NotAdmitted ab_NotAdmitted col_NotAdmitted dd_NotAdmitted k0_NotAdmitted k1_NotAdmitted k2_NotAdmitted k3_NotAdmitted k5_NotAdmitted "ValueError.__new__"))
  (xr_NotAdmitted : PySem.HandSPX.refsVE bm_NotAdmitted = true)
  (xa_NotAdmitted : PySem.W.findIn K (.ref C_NotAdmitted) "__setattr__" = some (some (.builtin "object.__setattr__")))
  (xi_NotAdmitted : PySem.W.findIn K (.ref C_NotAdmitted) "__init__" = some (some (.ref fi_NotAdmitted)))
  (xf_NotAdmitted : PySem.W.typeIn K (.ref fi_NotAdmitted) = some (.type "function"))
  (xn_NotAdmitted : PySem.W.findIn K (.ref C_NotAdmitted) "group" = some none)
  (xu_NotAdmitted : K.lookup fi_NotAdmitted = some ⟨oci_NotAdmitted, odi_NotAdmitted, .func (PySem.W.fnOf "__init__" "NotAdmitted.__init__" (defArgs (inClass (top 3) 0)) (defBody (inClass (top 3) 0)) (defScope (inClass (top 3) 0)) .none kVi_NotAdmitted dci_NotAdmitted pmi_NotAdmitted ani_NotAdmitted cdi_NotAdmitted cti_NotAdmitted), sli_NotAdmitted⟩)
  (xc_NotAdmitted : PySem.W.codeIn K cdi_NotAdmitted "NotAdmitted.__init__" = true)
  (xj_NotAdmitted : PySem.W.keepIn K (.ref fi_NotAdmitted) = true)
  (xk_NothingToUndo : PySem.W.keepIn K (.ref C_NothingToUndo) = true)
  (xe_NothingToUndo : PySem.W.excIn K C_NothingToUndo [.type "ValueError", .type "Exception", .type "BaseException", .type "object"] "ValueError.__new__" = true)
  (xk_ParseError : PySem.W.keepIn K (.ref C_ParseError) = true)
  (xl_ParseError : K.lookup C_ParseError = some (excClassObj nm_ParseError q_ParseError C_ParseError N_ParseError bs_ParseError bm_ParseError true sn_ParseError sub_ParseError ab_ParseError col_ParseError dd_ParseError k0_ParseError k1_ParseError k2_ParseError k3_ParseError k5_ParseError "ValueError.__new__"))
  (xr_ParseError : PySem.HandSPX.refsVE bm_ParseError = true)
  (xa_ParseError : PySem.W.findIn K (.ref C_ParseError) "__setattr__" = some (some (.builtin "object.__setattr__")))
  (xi_ParseError : PySem.W.findIn K (.ref C_ParseError) "__init__" = some (some (.ref fi_ParseError)))
  (xf_ParseError : PySem.W.typeIn K (.ref fi_ParseError) = some (.type "function"))
  (xn_ParseError : PySem.W.findIn K (.ref C_ParseError) "line" = some none)
  (xu_ParseError : K.lookup fi_ParseError = some ⟨oci_ParseError, odi_ParseError, .func (PySem.W.fnOf "__init__" "ParseError.__init__" (defArgs (inClass (top 2) 0)) (defBody (inClass (top 2) 0)) (defScope (inClass (top 2) 0)) .none kVi_ParseError dci_ParseError pmi_ParseError ani_ParseError cdi_ParseError cti_ParseError), sli_ParseError⟩)
  (xc_ParseError : PySem.W.codeIn K cdi_ParseError "ParseError.__init__" = true)
  (xj_ParseError : PySem.W.keepIn K (.ref fi_ParseError) = true)
  (xk_PlanFinished : PySem.W.keepIn K (.ref C_PlanFinished) = true)
  (xe_PlanFinished : PySem.W.excIn K C_PlanFinished [.type "ValueError", .type "Exception", .type "BaseException", .type "object"] "ValueError.__new__" = true)
  (xk_UnknownGroup : PySem.W.keepIn K (.ref C_UnknownGroup) = true)
  (xe_UnknownGroup : PySem.W.excIn K C_UnknownGroup [.type "ValueError", .type "Exception", .type "BaseException", .type "object"] "ValueError.__new__" = true)
  (xk_UnknownMark : PySem.W.keepIn K (.ref C_UnknownMark) = true)
  (xe_UnknownMark : PySem.W.excIn K C_UnknownMark [.type "ValueError", .type "Exception", .type "BaseException", .type "object"] "ValueError.__new__" = true)
  (xk_UnknownName : PySem.W.keepIn K (.ref C_UnknownName) = true)
  (xe_UnknownName : PySem.W.excIn K C_UnknownName [.type "ValueError", .type "Exception", .type "BaseException", .type "object"] "ValueError.__new__" = true)
  (ve_r : PySem.W.readsIn K C_QuotaError (.type "type") = true)
  (ve_g : PySem.W.specialIn K (.ref C_QuotaError) "__getattribute__" = some (some (.builtin "type.__getattribute__")))
  (ve_i : PySem.W.findCls K (.ref C_QuotaError) (.type "type") "__init__" = some (.val (.builtin "ValueError.__init__")))
  (oc_get2 : PySem.W.specialIn K (.builtin "object.__class__") "__get__" = some (some (.builtin "getset_descriptor.__get__")))
  (oc_tak2 : PySem.W.takesIn K (.builtin "object.__class__") = some true)
  (xg_ParseError : PySem.W.findIn K (.ref C_ParseError) "__getattribute__" = some (some (.builtin "BaseException.__getattribute__")))
  (xh_ParseError : PySem.W.findIn K (.ref C_ParseError) "__getattr__" = some none)
  (xo_ParseError : PySem.W.findIn K (.ref C_ParseError) "__class__" = some (some (.builtin "object.__class__")))
  (xm_ParseError : PySem.W.mroIn K C_ParseError (.type "object") = some true)
  (xg_NotAdmitted : PySem.W.findIn K (.ref C_NotAdmitted) "__getattribute__" = some (some (.builtin "BaseException.__getattribute__")))
  (xh_NotAdmitted : PySem.W.findIn K (.ref C_NotAdmitted) "__getattr__" = some none)
  (xo_NotAdmitted : PySem.W.findIn K (.ref C_NotAdmitted) "__class__" = some (some (.builtin "object.__class__")))
  (xm_NotAdmitted : PySem.W.mroIn K C_NotAdmitted (.type "object") = some true)
  (xg_NoSolution : PySem.W.findIn K (.ref C_NoSolution) "__getattribute__" = some (some (.builtin "BaseException.__getattribute__")))
  (xh_NoSolution : PySem.W.findIn K (.ref C_NoSolution) "__getattr__" = some none)
  (xo_NoSolution : PySem.W.findIn K (.ref C_NoSolution) "__class__" = some (some (.builtin "object.__class__")))
  (xm_NoSolution : PySem.W.mroIn K C_NoSolution (.type "object") = some true)
  (xg_InvalidGroups : PySem.W.findIn K (.ref C_InvalidGroups) "__getattribute__" = some (some (.builtin "BaseException.__getattribute__")))
  (xh_InvalidGroups : PySem.W.findIn K (.ref C_InvalidGroups) "__getattr__" = some none)
  (xo_InvalidGroups : PySem.W.findIn K (.ref C_InvalidGroups) "__class__" = some (some (.builtin "object.__class__")))
  (xm_InvalidGroups : PySem.W.mroIn K C_InvalidGroups (.type "object") = some true)
  (xg_UnknownGroup : PySem.W.findIn K (.ref C_UnknownGroup) "__getattribute__" = some (some (.builtin "BaseException.__getattribute__")))
  (xh_UnknownGroup : PySem.W.findIn K (.ref C_UnknownGroup) "__getattr__" = some none)
  (xo_UnknownGroup : PySem.W.findIn K (.ref C_UnknownGroup) "__class__" = some (some (.builtin "object.__class__")))
  (xm_UnknownGroup : PySem.W.mroIn K C_UnknownGroup (.type "object") = some true)
  (xg_InvalidRoll : PySem.W.findIn K (.ref C_InvalidRoll) "__getattribute__" = some (some (.builtin "BaseException.__getattribute__")))
  (xh_InvalidRoll : PySem.W.findIn K (.ref C_InvalidRoll) "__getattr__" = some none)
  (xo_InvalidRoll : PySem.W.findIn K (.ref C_InvalidRoll) "__class__" = some (some (.builtin "object.__class__")))
  (xm_InvalidRoll : PySem.W.mroIn K C_InvalidRoll (.type "object") = some true)
  (xg_InvalidMembers : PySem.W.findIn K (.ref C_InvalidMembers) "__getattribute__" = some (some (.builtin "BaseException.__getattribute__")))
  (xh_InvalidMembers : PySem.W.findIn K (.ref C_InvalidMembers) "__getattr__" = some none)
  (xo_InvalidMembers : PySem.W.findIn K (.ref C_InvalidMembers) "__class__" = some (some (.builtin "object.__class__")))
  (xm_InvalidMembers : PySem.W.mroIn K C_InvalidMembers (.type "object") = some true)
  (xg_InvalidStep : PySem.W.findIn K (.ref C_InvalidStep) "__getattribute__" = some (some (.builtin "BaseException.__getattribute__")))
  (xh_InvalidStep : PySem.W.findIn K (.ref C_InvalidStep) "__getattr__" = some none)
  (xo_InvalidStep : PySem.W.findIn K (.ref C_InvalidStep) "__class__" = some (some (.builtin "object.__class__")))
  (xm_InvalidStep : PySem.W.mroIn K C_InvalidStep (.type "object") = some true)
  (xg_InvalidPrices : PySem.W.findIn K (.ref C_InvalidPrices) "__getattribute__" = some (some (.builtin "BaseException.__getattribute__")))
  (xh_InvalidPrices : PySem.W.findIn K (.ref C_InvalidPrices) "__getattr__" = some none)
  (xo_InvalidPrices : PySem.W.findIn K (.ref C_InvalidPrices) "__class__" = some (some (.builtin "object.__class__")))
  (xm_InvalidPrices : PySem.W.mroIn K C_InvalidPrices (.type "object") = some true)
  (xg_InvalidAmounts : PySem.W.findIn K (.ref C_InvalidAmounts) "__getattribute__" = some (some (.builtin "BaseException.__getattribute__")))
  (xh_InvalidAmounts : PySem.W.findIn K (.ref C_InvalidAmounts) "__getattr__" = some none)
  (xo_InvalidAmounts : PySem.W.findIn K (.ref C_InvalidAmounts) "__class__" = some (some (.builtin "object.__class__")))
  (xm_InvalidAmounts : PySem.W.mroIn K C_InvalidAmounts (.type "object") = some true)
  (xg_NotASolution : PySem.W.findIn K (.ref C_NotASolution) "__getattribute__" = some (some (.builtin "BaseException.__getattribute__")))
  (xh_NotASolution : PySem.W.findIn K (.ref C_NotASolution) "__getattr__" = some none)
  (xo_NotASolution : PySem.W.findIn K (.ref C_NotASolution) "__class__" = some (some (.builtin "object.__class__")))
  (xm_NotASolution : PySem.W.mroIn K C_NotASolution (.type "object") = some true)
  (xg_PlanFinished : PySem.W.findIn K (.ref C_PlanFinished) "__getattribute__" = some (some (.builtin "BaseException.__getattribute__")))
  (xh_PlanFinished : PySem.W.findIn K (.ref C_PlanFinished) "__getattr__" = some none)
  (xo_PlanFinished : PySem.W.findIn K (.ref C_PlanFinished) "__class__" = some (some (.builtin "object.__class__")))
  (xm_PlanFinished : PySem.W.mroIn K C_PlanFinished (.type "object") = some true)
  (xg_NothingToUndo : PySem.W.findIn K (.ref C_NothingToUndo) "__getattribute__" = some (some (.builtin "BaseException.__getattribute__")))
  (xh_NothingToUndo : PySem.W.findIn K (.ref C_NothingToUndo) "__getattr__" = some none)
  (xo_NothingToUndo : PySem.W.findIn K (.ref C_NothingToUndo) "__class__" = some (some (.builtin "object.__class__")))
  (xm_NothingToUndo : PySem.W.mroIn K C_NothingToUndo (.type "object") = some true)
  (xg_InvalidName : PySem.W.findIn K (.ref C_InvalidName) "__getattribute__" = some (some (.builtin "BaseException.__getattribute__")))
  (xh_InvalidName : PySem.W.findIn K (.ref C_InvalidName) "__getattr__" = some none)
  (xo_InvalidName : PySem.W.findIn K (.ref C_InvalidName) "__class__" = some (some (.builtin "object.__class__")))
  (xm_InvalidName : PySem.W.mroIn K C_InvalidName (.type "object") = some true)
  (xg_DuplicateName : PySem.W.findIn K (.ref C_DuplicateName) "__getattribute__" = some (some (.builtin "BaseException.__getattribute__")))
  (xh_DuplicateName : PySem.W.findIn K (.ref C_DuplicateName) "__getattr__" = some none)
  (xo_DuplicateName : PySem.W.findIn K (.ref C_DuplicateName) "__class__" = some (some (.builtin "object.__class__")))
  (xm_DuplicateName : PySem.W.mroIn K C_DuplicateName (.type "object") = some true)
  (xg_UnknownName : PySem.W.findIn K (.ref C_UnknownName) "__getattribute__" = some (some (.builtin "BaseException.__getattribute__")))
  (xh_UnknownName : PySem.W.findIn K (.ref C_UnknownName) "__getattr__" = some none)
  (xo_UnknownName : PySem.W.findIn K (.ref C_UnknownName) "__class__" = some (some (.builtin "object.__class__")))
  (xm_UnknownName : PySem.W.mroIn K C_UnknownName (.type "object") = some true)
  (xg_UnknownMark : PySem.W.findIn K (.ref C_UnknownMark) "__getattribute__" = some (some (.builtin "BaseException.__getattribute__")))
  (xh_UnknownMark : PySem.W.findIn K (.ref C_UnknownMark) "__getattr__" = some none)
  (xo_UnknownMark : PySem.W.findIn K (.ref C_UnknownMark) "__class__" = some (some (.builtin "object.__class__")))
  (xm_UnknownMark : PySem.W.mroIn K C_UnknownMark (.type "object") = some true)
  (xg_InvalidCommand : PySem.W.findIn K (.ref C_InvalidCommand) "__getattribute__" = some (some (.builtin "BaseException.__getattribute__")))
  (xh_InvalidCommand : PySem.W.findIn K (.ref C_InvalidCommand) "__getattr__" = some none)
  (xo_InvalidCommand : PySem.W.findIn K (.ref C_InvalidCommand) "__class__" = some (some (.builtin "object.__class__")))
  (xm_InvalidCommand : PySem.W.mroIn K C_InvalidCommand (.type "object") = some true)
  (xg_InvalidLine : PySem.W.findIn K (.ref C_InvalidLine) "__getattribute__" = some (some (.builtin "BaseException.__getattribute__")))
  (xh_InvalidLine : PySem.W.findIn K (.ref C_InvalidLine) "__getattr__" = some none)
  (xo_InvalidLine : PySem.W.findIn K (.ref C_InvalidLine) "__class__" = some (some (.builtin "object.__class__")))
  (xm_InvalidLine : PySem.W.mroIn K C_InvalidLine (.type "object") = some true)
  (xq_DuplicateName_non : PySem.W.subIn K (.type "NoneType") (.ref C_DuplicateName) = some false)
  (xq_DuplicateName_ParseError : PySem.W.subIn K (.ref C_ParseError) (.ref C_DuplicateName) = some false)
  (xq_DuplicateName_NotAdmitted : PySem.W.subIn K (.ref C_NotAdmitted) (.ref C_DuplicateName) = some false)
  (xq_DuplicateName_NoSolution : PySem.W.subIn K (.ref C_NoSolution) (.ref C_DuplicateName) = some false)
  (xq_DuplicateName_InvalidGroups : PySem.W.subIn K (.ref C_InvalidGroups) (.ref C_DuplicateName) = some false)
  (xq_DuplicateName_UnknownGroup : PySem.W.subIn K (.ref C_UnknownGroup) (.ref C_DuplicateName) = some false)
  (xq_DuplicateName_InvalidRoll : PySem.W.subIn K (.ref C_InvalidRoll) (.ref C_DuplicateName) = some false)
  (xq_DuplicateName_InvalidMembers : PySem.W.subIn K (.ref C_InvalidMembers) (.ref C_DuplicateName) = some false)
  (xq_DuplicateName_InvalidStep : PySem.W.subIn K (.ref C_InvalidStep) (.ref C_DuplicateName) = some false)
  (xq_DuplicateName_InvalidPrices : PySem.W.subIn K (.ref C_InvalidPrices) (.ref C_DuplicateName) = some false)
  (xq_DuplicateName_InvalidAmounts : PySem.W.subIn K (.ref C_InvalidAmounts) (.ref C_DuplicateName) = some false)
  (xq_DuplicateName_NotASolution : PySem.W.subIn K (.ref C_NotASolution) (.ref C_DuplicateName) = some false)
  (xq_DuplicateName_PlanFinished : PySem.W.subIn K (.ref C_PlanFinished) (.ref C_DuplicateName) = some false)
  (xq_DuplicateName_NothingToUndo : PySem.W.subIn K (.ref C_NothingToUndo) (.ref C_DuplicateName) = some false)
  (xq_DuplicateName_InvalidName : PySem.W.subIn K (.ref C_InvalidName) (.ref C_DuplicateName) = some false)
  (xq_DuplicateName_UnknownName : PySem.W.subIn K (.ref C_UnknownName) (.ref C_DuplicateName) = some false)
  (xq_DuplicateName_UnknownMark : PySem.W.subIn K (.ref C_UnknownMark) (.ref C_DuplicateName) = some false)
  (xq_DuplicateName_InvalidCommand : PySem.W.subIn K (.ref C_InvalidCommand) (.ref C_DuplicateName) = some false)
  (xq_DuplicateName_InvalidLine : PySem.W.subIn K (.ref C_InvalidLine) (.ref C_DuplicateName) = some false)
  (xq_InvalidAmounts_non : PySem.W.subIn K (.type "NoneType") (.ref C_InvalidAmounts) = some false)
  (xq_InvalidAmounts_ParseError : PySem.W.subIn K (.ref C_ParseError) (.ref C_InvalidAmounts) = some false)
  (xq_InvalidAmounts_NotAdmitted : PySem.W.subIn K (.ref C_NotAdmitted) (.ref C_InvalidAmounts) = some false)
  (xq_InvalidAmounts_NoSolution : PySem.W.subIn K (.ref C_NoSolution) (.ref C_InvalidAmounts) = some false)
  (xq_InvalidAmounts_InvalidGroups : PySem.W.subIn K (.ref C_InvalidGroups) (.ref C_InvalidAmounts) = some false)
  (xq_InvalidAmounts_UnknownGroup : PySem.W.subIn K (.ref C_UnknownGroup) (.ref C_InvalidAmounts) = some false)
  (xq_InvalidAmounts_InvalidRoll : PySem.W.subIn K (.ref C_InvalidRoll) (.ref C_InvalidAmounts) = some false)
  (xq_InvalidAmounts_InvalidMembers : PySem.W.subIn K (.ref C_InvalidMembers) (.ref C_InvalidAmounts) = some false)
  (xq_InvalidAmounts_InvalidStep : PySem.W.subIn K (.ref C_InvalidStep) (.ref C_InvalidAmounts) = some false)
  (xq_InvalidAmounts_InvalidPrices : PySem.W.subIn K (.ref C_InvalidPrices) (.ref C_InvalidAmounts) = some false)
  (xq_InvalidAmounts_NotASolution : PySem.W.subIn K (.ref C_NotASolution) (.ref C_InvalidAmounts) = some false)
  (xq_InvalidAmounts_PlanFinished : PySem.W.subIn K (.ref C_PlanFinished) (.ref C_InvalidAmounts) = some false)
  (xq_InvalidAmounts_NothingToUndo : PySem.W.subIn K (.ref C_NothingToUndo) (.ref C_InvalidAmounts) = some false)
  (xq_InvalidAmounts_InvalidName : PySem.W.subIn K (.ref C_InvalidName) (.ref C_InvalidAmounts) = some false)
  (xq_InvalidAmounts_DuplicateName : PySem.W.subIn K (.ref C_DuplicateName) (.ref C_InvalidAmounts) = some false)
  (xq_InvalidAmounts_UnknownName : PySem.W.subIn K (.ref C_UnknownName) (.ref C_InvalidAmounts) = some false)
  (xq_InvalidAmounts_UnknownMark : PySem.W.subIn K (.ref C_UnknownMark) (.ref C_InvalidAmounts) = some false)
  (xq_InvalidAmounts_InvalidCommand : PySem.W.subIn K (.ref C_InvalidCommand) (.ref C_InvalidAmounts) = some false)
  (xq_InvalidAmounts_InvalidLine : PySem.W.subIn K (.ref C_InvalidLine) (.ref C_InvalidAmounts) = some false)
  (xq_InvalidCommand_non : PySem.W.subIn K (.type "NoneType") (.ref C_InvalidCommand) = some false)
  (xq_InvalidCommand_ParseError : PySem.W.subIn K (.ref C_ParseError) (.ref C_InvalidCommand) = some false)
  (xq_InvalidCommand_NotAdmitted : PySem.W.subIn K (.ref C_NotAdmitted) (.ref C_InvalidCommand) = some false)
  (xq_InvalidCommand_NoSolution : PySem.W.subIn K (.ref C_NoSolution) (.ref C_InvalidCommand) = some false)
  (xq_InvalidCommand_InvalidGroups : PySem.W.subIn K (.ref C_InvalidGroups) (.ref C_InvalidCommand) = some false)
  (xq_InvalidCommand_UnknownGroup : PySem.W.subIn K (.ref C_UnknownGroup) (.ref C_InvalidCommand) = some false)
  (xq_InvalidCommand_InvalidRoll : PySem.W.subIn K (.ref C_InvalidRoll) (.ref C_InvalidCommand) = some false)
  (xq_InvalidCommand_InvalidMembers : PySem.W.subIn K (.ref C_InvalidMembers) (.ref C_InvalidCommand) = some false)
  (xq_InvalidCommand_InvalidStep : PySem.W.subIn K (.ref C_InvalidStep) (.ref C_InvalidCommand) = some false)
  (xq_InvalidCommand_InvalidPrices : PySem.W.subIn K (.ref C_InvalidPrices) (.ref C_InvalidCommand) = some false)
  (xq_InvalidCommand_InvalidAmounts : PySem.W.subIn K (.ref C_InvalidAmounts) (.ref C_InvalidCommand) = some false)
  (xq_InvalidCommand_NotASolution : PySem.W.subIn K (.ref C_NotASolution) (.ref C_InvalidCommand) = some false)
  (xq_InvalidCommand_PlanFinished : PySem.W.subIn K (.ref C_PlanFinished) (.ref C_InvalidCommand) = some false)
  (xq_InvalidCommand_NothingToUndo : PySem.W.subIn K (.ref C_NothingToUndo) (.ref C_InvalidCommand) = some false)
  (xq_InvalidCommand_InvalidName : PySem.W.subIn K (.ref C_InvalidName) (.ref C_InvalidCommand) = some false)
  (xq_InvalidCommand_DuplicateName : PySem.W.subIn K (.ref C_DuplicateName) (.ref C_InvalidCommand) = some false)
  (xq_InvalidCommand_UnknownName : PySem.W.subIn K (.ref C_UnknownName) (.ref C_InvalidCommand) = some false)
  (xq_InvalidCommand_UnknownMark : PySem.W.subIn K (.ref C_UnknownMark) (.ref C_InvalidCommand) = some false)
  (xq_InvalidCommand_InvalidLine : PySem.W.subIn K (.ref C_InvalidLine) (.ref C_InvalidCommand) = some false)
  (xq_InvalidGroups_non : PySem.W.subIn K (.type "NoneType") (.ref C_InvalidGroups) = some false)
  (xq_InvalidGroups_ParseError : PySem.W.subIn K (.ref C_ParseError) (.ref C_InvalidGroups) = some false)
  (xq_InvalidGroups_NotAdmitted : PySem.W.subIn K (.ref C_NotAdmitted) (.ref C_InvalidGroups) = some false)
  (xq_InvalidGroups_NoSolution : PySem.W.subIn K (.ref C_NoSolution) (.ref C_InvalidGroups) = some false)
  (xq_InvalidGroups_UnknownGroup : PySem.W.subIn K (.ref C_UnknownGroup) (.ref C_InvalidGroups) = some false)
  (xq_InvalidGroups_InvalidRoll : PySem.W.subIn K (.ref C_InvalidRoll) (.ref C_InvalidGroups) = some false)
  (xq_InvalidGroups_InvalidMembers : PySem.W.subIn K (.ref C_InvalidMembers) (.ref C_InvalidGroups) = some false)
  (xq_InvalidGroups_InvalidStep : PySem.W.subIn K (.ref C_InvalidStep) (.ref C_InvalidGroups) = some false)
  (xq_InvalidGroups_InvalidPrices : PySem.W.subIn K (.ref C_InvalidPrices) (.ref C_InvalidGroups) = some false)
  (xq_InvalidGroups_InvalidAmounts : PySem.W.subIn K (.ref C_InvalidAmounts) (.ref C_InvalidGroups) = some false)
  (xq_InvalidGroups_NotASolution : PySem.W.subIn K (.ref C_NotASolution) (.ref C_InvalidGroups) = some false)
  (xq_InvalidGroups_PlanFinished : PySem.W.subIn K (.ref C_PlanFinished) (.ref C_InvalidGroups) = some false)
  (xq_InvalidGroups_NothingToUndo : PySem.W.subIn K (.ref C_NothingToUndo) (.ref C_InvalidGroups) = some false)
  (xq_InvalidGroups_InvalidName : PySem.W.subIn K (.ref C_InvalidName) (.ref C_InvalidGroups) = some false)
  (xq_InvalidGroups_DuplicateName : PySem.W.subIn K (.ref C_DuplicateName) (.ref C_InvalidGroups) = some false)
  (xq_InvalidGroups_UnknownName : PySem.W.subIn K (.ref C_UnknownName) (.ref C_InvalidGroups) = some false)
  (xq_InvalidGroups_UnknownMark : PySem.W.subIn K (.ref C_UnknownMark) (.ref C_InvalidGroups) = some false)
  (xq_InvalidGroups_InvalidCommand : PySem.W.subIn K (.ref C_InvalidCommand) (.ref C_InvalidGroups) = some false)
  (xq_InvalidGroups_InvalidLine : PySem.W.subIn K (.ref C_InvalidLine) (.ref C_InvalidGroups) = some false)
  (xq_InvalidLine_non : PySem.W.subIn K (.type "NoneType") (.ref C_InvalidLine) = some false)
  (xq_InvalidLine_ParseError : PySem.W.subIn K (.ref C_ParseError) (.ref C_InvalidLine) = some false)
  (xq_InvalidLine_NotAdmitted : PySem.W.subIn K (.ref C_NotAdmitted) (.ref C_InvalidLine) = some false)
  (xq_InvalidLine_NoSolution : PySem.W.subIn K (.ref C_NoSolution) (.ref C_InvalidLine) = some false)
  (xq_InvalidLine_InvalidGroups : PySem.W.subIn K (.ref C_InvalidGroups) (.ref C_InvalidLine) = some false)
  (xq_InvalidLine_UnknownGroup : PySem.W.subIn K (.ref C_UnknownGroup) (.ref C_InvalidLine) = some false)
  (xq_InvalidLine_InvalidRoll : PySem.W.subIn K (.ref C_InvalidRoll) (.ref C_InvalidLine) = some false)
  (xq_InvalidLine_InvalidMembers : PySem.W.subIn K (.ref C_InvalidMembers) (.ref C_InvalidLine) = some false)
  (xq_InvalidLine_InvalidStep : PySem.W.subIn K (.ref C_InvalidStep) (.ref C_InvalidLine) = some false)
  (xq_InvalidLine_InvalidPrices : PySem.W.subIn K (.ref C_InvalidPrices) (.ref C_InvalidLine) = some false)
  (xq_InvalidLine_InvalidAmounts : PySem.W.subIn K (.ref C_InvalidAmounts) (.ref C_InvalidLine) = some false)
  (xq_InvalidLine_NotASolution : PySem.W.subIn K (.ref C_NotASolution) (.ref C_InvalidLine) = some false)
  (xq_InvalidLine_PlanFinished : PySem.W.subIn K (.ref C_PlanFinished) (.ref C_InvalidLine) = some false)
  (xq_InvalidLine_NothingToUndo : PySem.W.subIn K (.ref C_NothingToUndo) (.ref C_InvalidLine) = some false)
  (xq_InvalidLine_InvalidName : PySem.W.subIn K (.ref C_InvalidName) (.ref C_InvalidLine) = some false)
  (xq_InvalidLine_DuplicateName : PySem.W.subIn K (.ref C_DuplicateName) (.ref C_InvalidLine) = some false)
  (xq_InvalidLine_UnknownName : PySem.W.subIn K (.ref C_UnknownName) (.ref C_InvalidLine) = some false)
  (xq_InvalidLine_UnknownMark : PySem.W.subIn K (.ref C_UnknownMark) (.ref C_InvalidLine) = some false)
  (xq_InvalidLine_InvalidCommand : PySem.W.subIn K (.ref C_InvalidCommand) (.ref C_InvalidLine) = some false)
  (xq_InvalidMembers_non : PySem.W.subIn K (.type "NoneType") (.ref C_InvalidMembers) = some false)
  (xq_InvalidMembers_ParseError : PySem.W.subIn K (.ref C_ParseError) (.ref C_InvalidMembers) = some false)
  (xq_InvalidMembers_NotAdmitted : PySem.W.subIn K (.ref C_NotAdmitted) (.ref C_InvalidMembers) = some false)
  (xq_InvalidMembers_NoSolution : PySem.W.subIn K (.ref C_NoSolution) (.ref C_InvalidMembers) = some false)
  (xq_InvalidMembers_InvalidGroups : PySem.W.subIn K (.ref C_InvalidGroups) (.ref C_InvalidMembers) = some false)
  (xq_InvalidMembers_UnknownGroup : PySem.W.subIn K (.ref C_UnknownGroup) (.ref C_InvalidMembers) = some false)
  (xq_InvalidMembers_InvalidRoll : PySem.W.subIn K (.ref C_InvalidRoll) (.ref C_InvalidMembers) = some false)
  (xq_InvalidMembers_InvalidStep : PySem.W.subIn K (.ref C_InvalidStep) (.ref C_InvalidMembers) = some false)
  (xq_InvalidMembers_InvalidPrices : PySem.W.subIn K (.ref C_InvalidPrices) (.ref C_InvalidMembers) = some false)
  (xq_InvalidMembers_InvalidAmounts : PySem.W.subIn K (.ref C_InvalidAmounts) (.ref C_InvalidMembers) = some false)
  (xq_InvalidMembers_NotASolution : PySem.W.subIn K (.ref C_NotASolution) (.ref C_InvalidMembers) = some false)
  (xq_InvalidMembers_PlanFinished : PySem.W.subIn K (.ref C_PlanFinished) (.ref C_InvalidMembers) = some false)
  (xq_InvalidMembers_NothingToUndo : PySem.W.subIn K (.ref C_NothingToUndo) (.ref C_InvalidMembers) = some false)
  (xq_InvalidMembers_InvalidName : PySem.W.subIn K (.ref C_InvalidName) (.ref C_InvalidMembers) = some false)
  (xq_InvalidMembers_DuplicateName : PySem.W.subIn K (.ref C_DuplicateName) (.ref C_InvalidMembers) = some false)
  (xq_InvalidMembers_UnknownName : PySem.W.subIn K (.ref C_UnknownName) (.ref C_InvalidMembers) = some false)
  (xq_InvalidMembers_UnknownMark : PySem.W.subIn K (.ref C_UnknownMark) (.ref C_InvalidMembers) = some false)
  (xq_InvalidMembers_InvalidCommand : PySem.W.subIn K (.ref C_InvalidCommand) (.ref C_InvalidMembers) = some false)
  (xq_InvalidMembers_InvalidLine : PySem.W.subIn K (.ref C_InvalidLine) (.ref C_InvalidMembers) = some false)
  (xq_InvalidName_non : PySem.W.subIn K (.type "NoneType") (.ref C_InvalidName) = some false)
  (xq_InvalidName_ParseError : PySem.W.subIn K (.ref C_ParseError) (.ref C_InvalidName) = some false)
  (xq_InvalidName_NotAdmitted : PySem.W.subIn K (.ref C_NotAdmitted) (.ref C_InvalidName) = some false)
  (xq_InvalidName_NoSolution : PySem.W.subIn K (.ref C_NoSolution) (.ref C_InvalidName) = some false)
  (xq_InvalidName_InvalidGroups : PySem.W.subIn K (.ref C_InvalidGroups) (.ref C_InvalidName) = some false)
  (xq_InvalidName_UnknownGroup : PySem.W.subIn K (.ref C_UnknownGroup) (.ref C_InvalidName) = some false)
  (xq_InvalidName_InvalidRoll : PySem.W.subIn K (.ref C_InvalidRoll) (.ref C_InvalidName) = some false)
  (xq_InvalidName_InvalidMembers : PySem.W.subIn K (.ref C_InvalidMembers) (.ref C_InvalidName) = some false)
  (xq_InvalidName_InvalidStep : PySem.W.subIn K (.ref C_InvalidStep) (.ref C_InvalidName) = some false)
  (xq_InvalidName_InvalidPrices : PySem.W.subIn K (.ref C_InvalidPrices) (.ref C_InvalidName) = some false)
  (xq_InvalidName_InvalidAmounts : PySem.W.subIn K (.ref C_InvalidAmounts) (.ref C_InvalidName) = some false)
  (xq_InvalidName_NotASolution : PySem.W.subIn K (.ref C_NotASolution) (.ref C_InvalidName) = some false)
  (xq_InvalidName_PlanFinished : PySem.W.subIn K (.ref C_PlanFinished) (.ref C_InvalidName) = some false)
  (xq_InvalidName_NothingToUndo : PySem.W.subIn K (.ref C_NothingToUndo) (.ref C_InvalidName) = some false)
  (xq_InvalidName_DuplicateName : PySem.W.subIn K (.ref C_DuplicateName) (.ref C_InvalidName) = some false)
  (xq_InvalidName_UnknownName : PySem.W.subIn K (.ref C_UnknownName) (.ref C_InvalidName) = some false)
  (xq_InvalidName_UnknownMark : PySem.W.subIn K (.ref C_UnknownMark) (.ref C_InvalidName) = some false)
  (xq_InvalidName_InvalidCommand : PySem.W.subIn K (.ref C_InvalidCommand) (.ref C_InvalidName) = some false)
  (xq_InvalidName_InvalidLine : PySem.W.subIn K (.ref C_InvalidLine) (.ref C_InvalidName) = some false)
  (xq_InvalidPrices_non : PySem.W.subIn K (.type "NoneType") (.ref C_InvalidPrices) = some false)
  (xq_InvalidPrices_ParseError : PySem.W.subIn K (.ref C_ParseError) (.ref C_InvalidPrices) = some false)
  (xq_InvalidPrices_NotAdmitted : PySem.W.subIn K (.ref C_NotAdmitted) (.ref C_InvalidPrices) = some false)
  (xq_InvalidPrices_NoSolution : PySem.W.subIn K (.ref C_NoSolution) (.ref C_InvalidPrices) = some false)
  (xq_InvalidPrices_InvalidGroups : PySem.W.subIn K (.ref C_InvalidGroups) (.ref C_InvalidPrices) = some false)
  (xq_InvalidPrices_UnknownGroup : PySem.W.subIn K (.ref C_UnknownGroup) (.ref C_InvalidPrices) = some false)
  (xq_InvalidPrices_InvalidRoll : PySem.W.subIn K (.ref C_InvalidRoll) (.ref C_InvalidPrices) = some false)
  (xq_InvalidPrices_InvalidMembers : PySem.W.subIn K (.ref C_InvalidMembers) (.ref C_InvalidPrices) = some false)
  (xq_InvalidPrices_InvalidStep : PySem.W.subIn K (.ref C_InvalidStep) (.ref C_InvalidPrices) = some false)
  (xq_InvalidPrices_InvalidAmounts : PySem.W.subIn K (.ref C_InvalidAmounts) (.ref C_InvalidPrices) = some false)
  (xq_InvalidPrices_NotASolution : PySem.W.subIn K (.ref C_NotASolution) (.ref C_InvalidPrices) = some false)
  (xq_InvalidPrices_PlanFinished : PySem.W.subIn K (.ref C_PlanFinished) (.ref C_InvalidPrices) = some false)
  (xq_InvalidPrices_NothingToUndo : PySem.W.subIn K (.ref C_NothingToUndo) (.ref C_InvalidPrices) = some false)
  (xq_InvalidPrices_InvalidName : PySem.W.subIn K (.ref C_InvalidName) (.ref C_InvalidPrices) = some false)
  (xq_InvalidPrices_DuplicateName : PySem.W.subIn K (.ref C_DuplicateName) (.ref C_InvalidPrices) = some false)
  (xq_InvalidPrices_UnknownName : PySem.W.subIn K (.ref C_UnknownName) (.ref C_InvalidPrices) = some false)
  (xq_InvalidPrices_UnknownMark : PySem.W.subIn K (.ref C_UnknownMark) (.ref C_InvalidPrices) = some false)
  (xq_InvalidPrices_InvalidCommand : PySem.W.subIn K (.ref C_InvalidCommand) (.ref C_InvalidPrices) = some false)
  (xq_InvalidPrices_InvalidLine : PySem.W.subIn K (.ref C_InvalidLine) (.ref C_InvalidPrices) = some false)
  (xq_InvalidRoll_non : PySem.W.subIn K (.type "NoneType") (.ref C_InvalidRoll) = some false)
  (xq_InvalidRoll_ParseError : PySem.W.subIn K (.ref C_ParseError) (.ref C_InvalidRoll) = some false)
  (xq_InvalidRoll_NotAdmitted : PySem.W.subIn K (.ref C_NotAdmitted) (.ref C_InvalidRoll) = some false)
  (xq_InvalidRoll_NoSolution : PySem.W.subIn K (.ref C_NoSolution) (.ref C_InvalidRoll) = some false)
  (xq_InvalidRoll_InvalidGroups : PySem.W.subIn K (.ref C_InvalidGroups) (.ref C_InvalidRoll) = some false)
  (xq_InvalidRoll_UnknownGroup : PySem.W.subIn K (.ref C_UnknownGroup) (.ref C_InvalidRoll) = some false)
  (xq_InvalidRoll_InvalidMembers : PySem.W.subIn K (.ref C_InvalidMembers) (.ref C_InvalidRoll) = some false)
  (xq_InvalidRoll_InvalidStep : PySem.W.subIn K (.ref C_InvalidStep) (.ref C_InvalidRoll) = some false)
  (xq_InvalidRoll_InvalidPrices : PySem.W.subIn K (.ref C_InvalidPrices) (.ref C_InvalidRoll) = some false)
  (xq_InvalidRoll_InvalidAmounts : PySem.W.subIn K (.ref C_InvalidAmounts) (.ref C_InvalidRoll) = some false)
  (xq_InvalidRoll_NotASolution : PySem.W.subIn K (.ref C_NotASolution) (.ref C_InvalidRoll) = some false)
  (xq_InvalidRoll_PlanFinished : PySem.W.subIn K (.ref C_PlanFinished) (.ref C_InvalidRoll) = some false)
  (xq_InvalidRoll_NothingToUndo : PySem.W.subIn K (.ref C_NothingToUndo) (.ref C_InvalidRoll) = some false)
  (xq_InvalidRoll_InvalidName : PySem.W.subIn K (.ref C_InvalidName) (.ref C_InvalidRoll) = some false)
  (xq_InvalidRoll_DuplicateName : PySem.W.subIn K (.ref C_DuplicateName) (.ref C_InvalidRoll) = some false)
  (xq_InvalidRoll_UnknownName : PySem.W.subIn K (.ref C_UnknownName) (.ref C_InvalidRoll) = some false)
  (xq_InvalidRoll_UnknownMark : PySem.W.subIn K (.ref C_UnknownMark) (.ref C_InvalidRoll) = some false)
  (xq_InvalidRoll_InvalidCommand : PySem.W.subIn K (.ref C_InvalidCommand) (.ref C_InvalidRoll) = some false)
  (xq_InvalidRoll_InvalidLine : PySem.W.subIn K (.ref C_InvalidLine) (.ref C_InvalidRoll) = some false)
  (xq_InvalidStep_non : PySem.W.subIn K (.type "NoneType") (.ref C_InvalidStep) = some false)
  (xq_InvalidStep_ParseError : PySem.W.subIn K (.ref C_ParseError) (.ref C_InvalidStep) = some false)
  (xq_InvalidStep_NotAdmitted : PySem.W.subIn K (.ref C_NotAdmitted) (.ref C_InvalidStep) = some false)
  (xq_InvalidStep_NoSolution : PySem.W.subIn K (.ref C_NoSolution) (.ref C_InvalidStep) = some false)
  (xq_InvalidStep_InvalidGroups : PySem.W.subIn K (.ref C_InvalidGroups) (.ref C_InvalidStep) = some false)
  (xq_InvalidStep_UnknownGroup : PySem.W.subIn K (.ref C_UnknownGroup) (.ref C_InvalidStep) = some false)
  (xq_InvalidStep_InvalidRoll : PySem.W.subIn K (.ref C_InvalidRoll) (.ref C_InvalidStep) = some false)
  (xq_InvalidStep_InvalidMembers : PySem.W.subIn K (.ref C_InvalidMembers) (.ref C_InvalidStep) = some false)
  (xq_InvalidStep_InvalidPrices : PySem.W.subIn K (.ref C_InvalidPrices) (.ref C_InvalidStep) = some false)
  (xq_InvalidStep_InvalidAmounts : PySem.W.subIn K (.ref C_InvalidAmounts) (.ref C_InvalidStep) = some false)
  (xq_InvalidStep_NotASolution : PySem.W.subIn K (.ref C_NotASolution) (.ref C_InvalidStep) = some false)
  (xq_InvalidStep_PlanFinished : PySem.W.subIn K (.ref C_PlanFinished) (.ref C_InvalidStep) = some false)
  (xq_InvalidStep_NothingToUndo : PySem.W.subIn K (.ref C_NothingToUndo) (.ref C_InvalidStep) = some false)
  (xq_InvalidStep_InvalidName : PySem.W.subIn K (.ref C_InvalidName) (.ref C_InvalidStep) = some false)
  (xq_InvalidStep_DuplicateName : PySem.W.subIn K (.ref C_DuplicateName) (.ref C_InvalidStep) = some false)
  (xq_InvalidStep_UnknownName : PySem.W.subIn K (.ref C_UnknownName) (.ref C_InvalidStep) = some false)
  (xq_InvalidStep_UnknownMark : PySem.W.subIn K (.ref C_UnknownMark) (.ref C_InvalidStep) = some false)
  (xq_InvalidStep_InvalidCommand : PySem.W.subIn K (.ref C_InvalidCommand) (.ref C_InvalidStep) = some false)
  (xq_InvalidStep_InvalidLine : PySem.W.subIn K (.ref C_InvalidLine) (.ref C_InvalidStep) = some false)
  (xq_NoSolution_non : PySem.W.subIn K (.type "NoneType") (.ref C_NoSolution) = some false)
  (xq_NoSolution_ParseError : PySem.W.subIn K (.ref C_ParseError) (.ref C_NoSolution) = some false)
  (xq_NoSolution_NotAdmitted : PySem.W.subIn K (.ref C_NotAdmitted) (.ref C_NoSolution) = some false)
  (xq_NoSolution_InvalidGroups : PySem.W.subIn K (.ref C_InvalidGroups) (.ref C_NoSolution) = some false)
  (xq_NoSolution_UnknownGroup : PySem.W.subIn K (.ref C_UnknownGroup) (.ref C_NoSolution) = some false)
  (xq_NoSolution_InvalidRoll : PySem.W.subIn K (.ref C_InvalidRoll) (.ref C_NoSolution) = some false)
  (xq_NoSolution_InvalidMembers : PySem.W.subIn K (.ref C_InvalidMembers) (.ref C_NoSolution) = some false)
  (xq_NoSolution_InvalidStep : PySem.W.subIn K (.ref C_InvalidStep) (.ref C_NoSolution) = some false)
  (xq_NoSolution_InvalidPrices : PySem.W.subIn K (.ref C_InvalidPrices) (.ref C_NoSolution) = some false)
  (xq_NoSolution_InvalidAmounts : PySem.W.subIn K (.ref C_InvalidAmounts) (.ref C_NoSolution) = some false)
  (xq_NoSolution_NotASolution : PySem.W.subIn K (.ref C_NotASolution) (.ref C_NoSolution) = some false)
  (xq_NoSolution_PlanFinished : PySem.W.subIn K (.ref C_PlanFinished) (.ref C_NoSolution) = some false)
  (xq_NoSolution_NothingToUndo : PySem.W.subIn K (.ref C_NothingToUndo) (.ref C_NoSolution) = some false)
  (xq_NoSolution_InvalidName : PySem.W.subIn K (.ref C_InvalidName) (.ref C_NoSolution) = some false)
  (xq_NoSolution_DuplicateName : PySem.W.subIn K (.ref C_DuplicateName) (.ref C_NoSolution) = some false)
  (xq_NoSolution_UnknownName : PySem.W.subIn K (.ref C_UnknownName) (.ref C_NoSolution) = some false)
  (xq_NoSolution_UnknownMark : PySem.W.subIn K (.ref C_UnknownMark) (.ref C_NoSolution) = some false)
  (xq_NoSolution_InvalidCommand : PySem.W.subIn K (.ref C_InvalidCommand) (.ref C_NoSolution) = some false)
  (xq_NoSolution_InvalidLine : PySem.W.subIn K (.ref C_InvalidLine) (.ref C_NoSolution) = some false)
  (xq_NotASolution_non : PySem.W.subIn K (.type "NoneType") (.ref C_NotASolution) = some false)
  (xq_NotASolution_ParseError : PySem.W.subIn K (.ref C_ParseError) (.ref C_NotASolution) = some false)
  (xq_NotASolution_NotAdmitted : PySem.W.subIn K (.ref C_NotAdmitted) (.ref C_NotASolution) = some false)
  (xq_NotASolution_NoSolution : PySem.W.subIn K (.ref C_NoSolution) (.ref C_NotASolution) = some false)
  (xq_NotASolution_InvalidGroups : PySem.W.subIn K (.ref C_InvalidGroups) (.ref C_NotASolution) = some false)
  (xq_NotASolution_UnknownGroup : PySem.W.subIn K (.ref C_UnknownGroup) (.ref C_NotASolution) = some false)
  (xq_NotASolution_InvalidRoll : PySem.W.subIn K (.ref C_InvalidRoll) (.ref C_NotASolution) = some false)
  (xq_NotASolution_InvalidMembers : PySem.W.subIn K (.ref C_InvalidMembers) (.ref C_NotASolution) = some false)
  (xq_NotASolution_InvalidStep : PySem.W.subIn K (.ref C_InvalidStep) (.ref C_NotASolution) = some false)
  (xq_NotASolution_InvalidPrices : PySem.W.subIn K (.ref C_InvalidPrices) (.ref C_NotASolution) = some false)
  (xq_NotASolution_InvalidAmounts : PySem.W.subIn K (.ref C_InvalidAmounts) (.ref C_NotASolution) = some false)
  (xq_NotASolution_PlanFinished : PySem.W.subIn K (.ref C_PlanFinished) (.ref C_NotASolution) = some false)
  (xq_NotASolution_NothingToUndo : PySem.W.subIn K (.ref C_NothingToUndo) (.ref C_NotASolution) = some false)
  (xq_NotASolution_InvalidName : PySem.W.subIn K (.ref C_InvalidName) (.ref C_NotASolution) = some false)
  (xq_NotASolution_DuplicateName : PySem.W.subIn K (.ref C_DuplicateName) (.ref C_NotASolution) = some false)
  (xq_NotASolution_UnknownName : PySem.W.subIn K (.ref C_UnknownName) (.ref C_NotASolution) = some false)
  (xq_NotASolution_UnknownMark : PySem.W.subIn K (.ref C_UnknownMark) (.ref C_NotASolution) = some false)
  (xq_NotASolution_InvalidCommand : PySem.W.subIn K (.ref C_InvalidCommand) (.ref C_NotASolution) = some false)
  (xq_NotASolution_InvalidLine : PySem.W.subIn K (.ref C_InvalidLine) (.ref C_NotASolution) = some false)
  (xq_NotAdmitted_non : PySem.W.subIn K (.type "NoneType") (.ref C_NotAdmitted) = some false)
  (xq_NotAdmitted_ParseError : PySem.W.subIn K (.ref C_ParseError) (.ref C_NotAdmitted) = some false)
  (xq_NotAdmitted_NoSolution : PySem.W.subIn K (.ref C_NoSolution) (.ref C_NotAdmitted) = some false)
  (xq_NotAdmitted_InvalidGroups : PySem.W.subIn K (.ref C_InvalidGroups) (.ref C_NotAdmitted) = some false)
  (xq_NotAdmitted_UnknownGroup : PySem.W.subIn K (.ref C_UnknownGroup) (.ref C_NotAdmitted) = some false)
  (xq_NotAdmitted_InvalidRoll : PySem.W.subIn K (.ref C_InvalidRoll) (.ref C_NotAdmitted) = some false)
  (xq_NotAdmitted_InvalidMembers : PySem.W.subIn K (.ref C_InvalidMembers) (.ref C_NotAdmitted) = some false)
  (xq_NotAdmitted_InvalidStep : PySem.W.subIn K (.ref C_InvalidStep) (.ref C_NotAdmitted) = some false)
  (xq_NotAdmitted_InvalidPrices : PySem.W.subIn K (.ref C_InvalidPrices) (.ref C_NotAdmitted) = some false)
  (xq_NotAdmitted_InvalidAmounts : PySem.W.subIn K (.ref C_InvalidAmounts) (.ref C_NotAdmitted) = some false)
  (xq_NotAdmitted_NotASolution : PySem.W.subIn K (.ref C_NotASolution) (.ref C_NotAdmitted) = some false)
  (xq_NotAdmitted_PlanFinished : PySem.W.subIn K (.ref C_PlanFinished) (.ref C_NotAdmitted) = some false)
  (xq_NotAdmitted_NothingToUndo : PySem.W.subIn K (.ref C_NothingToUndo) (.ref C_NotAdmitted) = some false)
  (xq_NotAdmitted_InvalidName : PySem.W.subIn K (.ref C_InvalidName) (.ref C_NotAdmitted) = some false)
  (xq_NotAdmitted_DuplicateName : PySem.W.subIn K (.ref C_DuplicateName) (.ref C_NotAdmitted) = some false)
  (xq_NotAdmitted_UnknownName : PySem.W.subIn K (.ref C_UnknownName) (.ref C_NotAdmitted) = some false)
  (xq_NotAdmitted_UnknownMark : PySem.W.subIn K (.ref C_UnknownMark) (.ref C_NotAdmitted) = some false)
  (xq_NotAdmitted_InvalidCommand : PySem.W.subIn K (.ref C_InvalidCommand) (.ref C_NotAdmitted) = some false)
  (xq_NotAdmitted_InvalidLine : PySem.W.subIn K (.ref C_InvalidLine) (.ref C_NotAdmitted) = some false)
  (xq_NothingToUndo_non : PySem.W.subIn K (.type "NoneType") (.ref C_NothingToUndo) = some false)
  (xq_NothingToUndo_ParseError : PySem.W.subIn K (.ref C_ParseError) (.ref C_NothingToUndo) = some false)
  (xq_NothingToUndo_NotAdmitted : PySem.W.subIn K (.ref C_NotAdmitted) (.ref C_NothingToUndo) = some false)
  (xq_NothingToUndo_NoSolution : PySem.W.subIn K (.ref C_NoSolution) (.ref C_NothingToUndo) = some false)
  (xq_NothingToUndo_InvalidGroups : PySem.W.subIn K (.ref C_InvalidGroups) (.ref C_NothingToUndo) = some false)
  (xq_NothingToUndo_UnknownGroup : PySem.W.subIn K (.ref C_UnknownGroup) (.ref C_NothingToUndo) = some false)
  (xq_NothingToUndo_InvalidRoll : PySem.W.subIn K (.ref C_InvalidRoll) (.ref C_NothingToUndo) = some false)
  (xq_NothingToUndo_InvalidMembers : PySem.W.subIn K (.ref C_InvalidMembers) (.ref C_NothingToUndo) = some false)
  (xq_NothingToUndo_InvalidStep : PySem.W.subIn K (.ref C_InvalidStep) (.ref C_NothingToUndo) = some false)
  (xq_NothingToUndo_InvalidPrices : PySem.W.subIn K (.ref C_InvalidPrices) (.ref C_NothingToUndo) = some false)
  (xq_NothingToUndo_InvalidAmounts : PySem.W.subIn K (.ref C_InvalidAmounts) (.ref C_NothingToUndo) = some false)
  (xq_NothingToUndo_NotASolution : PySem.W.subIn K (.ref C_NotASolution) (.ref C_NothingToUndo) = some false)
  (xq_NothingToUndo_PlanFinished : PySem.W.subIn K (.ref C_PlanFinished) (.ref C_NothingToUndo) = some false)
  (xq_NothingToUndo_InvalidName : PySem.W.subIn K (.ref C_InvalidName) (.ref C_NothingToUndo) = some false)
  (xq_NothingToUndo_DuplicateName : PySem.W.subIn K (.ref C_DuplicateName) (.ref C_NothingToUndo) = some false)
  (xq_NothingToUndo_UnknownName : PySem.W.subIn K (.ref C_UnknownName) (.ref C_NothingToUndo) = some false)
  (xq_NothingToUndo_UnknownMark : PySem.W.subIn K (.ref C_UnknownMark) (.ref C_NothingToUndo) = some false)
  (xq_NothingToUndo_InvalidCommand : PySem.W.subIn K (.ref C_InvalidCommand) (.ref C_NothingToUndo) = some false)
  (xq_NothingToUndo_InvalidLine : PySem.W.subIn K (.ref C_InvalidLine) (.ref C_NothingToUndo) = some false)
  (xq_ParseError_non : PySem.W.subIn K (.type "NoneType") (.ref C_ParseError) = some false)
  (xq_ParseError_NotAdmitted : PySem.W.subIn K (.ref C_NotAdmitted) (.ref C_ParseError) = some false)
  (xq_ParseError_NoSolution : PySem.W.subIn K (.ref C_NoSolution) (.ref C_ParseError) = some false)
  (xq_ParseError_InvalidGroups : PySem.W.subIn K (.ref C_InvalidGroups) (.ref C_ParseError) = some false)
  (xq_ParseError_UnknownGroup : PySem.W.subIn K (.ref C_UnknownGroup) (.ref C_ParseError) = some false)
  (xq_ParseError_InvalidRoll : PySem.W.subIn K (.ref C_InvalidRoll) (.ref C_ParseError) = some false)
  (xq_ParseError_InvalidMembers : PySem.W.subIn K (.ref C_InvalidMembers) (.ref C_ParseError) = some false)
  (xq_ParseError_InvalidStep : PySem.W.subIn K (.ref C_InvalidStep) (.ref C_ParseError) = some false)
  (xq_ParseError_InvalidPrices : PySem.W.subIn K (.ref C_InvalidPrices) (.ref C_ParseError) = some false)
  (xq_ParseError_InvalidAmounts : PySem.W.subIn K (.ref C_InvalidAmounts) (.ref C_ParseError) = some false)
  (xq_ParseError_NotASolution : PySem.W.subIn K (.ref C_NotASolution) (.ref C_ParseError) = some false)
  (xq_ParseError_PlanFinished : PySem.W.subIn K (.ref C_PlanFinished) (.ref C_ParseError) = some false)
  (xq_ParseError_NothingToUndo : PySem.W.subIn K (.ref C_NothingToUndo) (.ref C_ParseError) = some false)
  (xq_ParseError_InvalidName : PySem.W.subIn K (.ref C_InvalidName) (.ref C_ParseError) = some false)
  (xq_ParseError_DuplicateName : PySem.W.subIn K (.ref C_DuplicateName) (.ref C_ParseError) = some false)
  (xq_ParseError_UnknownName : PySem.W.subIn K (.ref C_UnknownName) (.ref C_ParseError) = some false)
  (xq_ParseError_UnknownMark : PySem.W.subIn K (.ref C_UnknownMark) (.ref C_ParseError) = some false)
  (xq_ParseError_InvalidCommand : PySem.W.subIn K (.ref C_InvalidCommand) (.ref C_ParseError) = some false)
  (xq_ParseError_InvalidLine : PySem.W.subIn K (.ref C_InvalidLine) (.ref C_ParseError) = some false)
  (xq_PlanFinished_non : PySem.W.subIn K (.type "NoneType") (.ref C_PlanFinished) = some false)
  (xq_PlanFinished_ParseError : PySem.W.subIn K (.ref C_ParseError) (.ref C_PlanFinished) = some false)
  (xq_PlanFinished_NotAdmitted : PySem.W.subIn K (.ref C_NotAdmitted) (.ref C_PlanFinished) = some false)
  (xq_PlanFinished_NoSolution : PySem.W.subIn K (.ref C_NoSolution) (.ref C_PlanFinished) = some false)
  (xq_PlanFinished_InvalidGroups : PySem.W.subIn K (.ref C_InvalidGroups) (.ref C_PlanFinished) = some false)
  (xq_PlanFinished_UnknownGroup : PySem.W.subIn K (.ref C_UnknownGroup) (.ref C_PlanFinished) = some false)
  (xq_PlanFinished_InvalidRoll : PySem.W.subIn K (.ref C_InvalidRoll) (.ref C_PlanFinished) = some false)
  (xq_PlanFinished_InvalidMembers : PySem.W.subIn K (.ref C_InvalidMembers) (.ref C_PlanFinished) = some false)
  (xq_PlanFinished_InvalidStep : PySem.W.subIn K (.ref C_InvalidStep) (.ref C_PlanFinished) = some false)
  (xq_PlanFinished_InvalidPrices : PySem.W.subIn K (.ref C_InvalidPrices) (.ref C_PlanFinished) = some false)
  (xq_PlanFinished_InvalidAmounts : PySem.W.subIn K (.ref C_InvalidAmounts) (.ref C_PlanFinished) = some false)
  (xq_PlanFinished_NotASolution : PySem.W.subIn K (.ref C_NotASolution) (.ref C_PlanFinished) = some false)
  (xq_PlanFinished_NothingToUndo : PySem.W.subIn K (.ref C_NothingToUndo) (.ref C_PlanFinished) = some false)
  (xq_PlanFinished_InvalidName : PySem.W.subIn K (.ref C_InvalidName) (.ref C_PlanFinished) = some false)
  (xq_PlanFinished_DuplicateName : PySem.W.subIn K (.ref C_DuplicateName) (.ref C_PlanFinished) = some false)
  (xq_PlanFinished_UnknownName : PySem.W.subIn K (.ref C_UnknownName) (.ref C_PlanFinished) = some false)
  (xq_PlanFinished_UnknownMark : PySem.W.subIn K (.ref C_UnknownMark) (.ref C_PlanFinished) = some false)
  (xq_PlanFinished_InvalidCommand : PySem.W.subIn K (.ref C_InvalidCommand) (.ref C_PlanFinished) = some false)
  (xq_PlanFinished_InvalidLine : PySem.W.subIn K (.ref C_InvalidLine) (.ref C_PlanFinished) = some false)
  (xq_QuotaError_non : PySem.W.subIn K (.type "NoneType") (.ref C_QuotaError) = some false)
  (xq_QuotaError_ParseError : PySem.W.subIn K (.ref C_ParseError) (.ref C_QuotaError) = some true)
  (xq_QuotaError_NotAdmitted : PySem.W.subIn K (.ref C_NotAdmitted) (.ref C_QuotaError) = some true)
  (xq_QuotaError_NoSolution : PySem.W.subIn K (.ref C_NoSolution) (.ref C_QuotaError) = some true)
  (xq_QuotaError_InvalidGroups : PySem.W.subIn K (.ref C_InvalidGroups) (.ref C_QuotaError) = some true)
  (xq_QuotaError_UnknownGroup : PySem.W.subIn K (.ref C_UnknownGroup) (.ref C_QuotaError) = some true)
  (xq_QuotaError_InvalidRoll : PySem.W.subIn K (.ref C_InvalidRoll) (.ref C_QuotaError) = some true)
  (xq_QuotaError_InvalidMembers : PySem.W.subIn K (.ref C_InvalidMembers) (.ref C_QuotaError) = some true)
  (xq_QuotaError_InvalidStep : PySem.W.subIn K (.ref C_InvalidStep) (.ref C_QuotaError) = some true)
  (xq_QuotaError_InvalidPrices : PySem.W.subIn K (.ref C_InvalidPrices) (.ref C_QuotaError) = some true)
  (xq_QuotaError_InvalidAmounts : PySem.W.subIn K (.ref C_InvalidAmounts) (.ref C_QuotaError) = some true)
  (xq_QuotaError_NotASolution : PySem.W.subIn K (.ref C_NotASolution) (.ref C_QuotaError) = some true)
  (xq_QuotaError_PlanFinished : PySem.W.subIn K (.ref C_PlanFinished) (.ref C_QuotaError) = some true)
  (xq_QuotaError_NothingToUndo : PySem.W.subIn K (.ref C_NothingToUndo) (.ref C_QuotaError) = some true)
  (xq_QuotaError_InvalidName : PySem.W.subIn K (.ref C_InvalidName) (.ref C_QuotaError) = some true)
  (xq_QuotaError_DuplicateName : PySem.W.subIn K (.ref C_DuplicateName) (.ref C_QuotaError) = some true)
  (xq_QuotaError_UnknownName : PySem.W.subIn K (.ref C_UnknownName) (.ref C_QuotaError) = some true)
  (xq_QuotaError_UnknownMark : PySem.W.subIn K (.ref C_UnknownMark) (.ref C_QuotaError) = some true)
  (xq_QuotaError_InvalidCommand : PySem.W.subIn K (.ref C_InvalidCommand) (.ref C_QuotaError) = some true)
  (xq_QuotaError_InvalidLine : PySem.W.subIn K (.ref C_InvalidLine) (.ref C_QuotaError) = some true)
  (xne_QuotaError_ParseError : C_QuotaError ≠ C_ParseError)
  (xne_QuotaError_NotAdmitted : C_QuotaError ≠ C_NotAdmitted)
  (xne_QuotaError_NoSolution : C_QuotaError ≠ C_NoSolution)
  (xne_QuotaError_InvalidGroups : C_QuotaError ≠ C_InvalidGroups)
  (xne_QuotaError_UnknownGroup : C_QuotaError ≠ C_UnknownGroup)
  (xne_QuotaError_InvalidRoll : C_QuotaError ≠ C_InvalidRoll)
  (xne_QuotaError_InvalidMembers : C_QuotaError ≠ C_InvalidMembers)
  (xne_QuotaError_InvalidStep : C_QuotaError ≠ C_InvalidStep)
  (xne_QuotaError_InvalidPrices : C_QuotaError ≠ C_InvalidPrices)
  (xne_QuotaError_InvalidAmounts : C_QuotaError ≠ C_InvalidAmounts)
  (xne_QuotaError_NotASolution : C_QuotaError ≠ C_NotASolution)
  (xne_QuotaError_PlanFinished : C_QuotaError ≠ C_PlanFinished)
  (xne_QuotaError_NothingToUndo : C_QuotaError ≠ C_NothingToUndo)
  (xne_QuotaError_InvalidName : C_QuotaError ≠ C_InvalidName)
  (xne_QuotaError_DuplicateName : C_QuotaError ≠ C_DuplicateName)
  (xne_QuotaError_UnknownName : C_QuotaError ≠ C_UnknownName)
  (xne_QuotaError_UnknownMark : C_QuotaError ≠ C_UnknownMark)
  (xne_QuotaError_InvalidCommand : C_QuotaError ≠ C_InvalidCommand)
  (xne_QuotaError_InvalidLine : C_QuotaError ≠ C_InvalidLine)
  (xq_UnknownGroup_non : PySem.W.subIn K (.type "NoneType") (.ref C_UnknownGroup) = some false)
  (xq_UnknownGroup_ParseError : PySem.W.subIn K (.ref C_ParseError) (.ref C_UnknownGroup) = some false)
  (xq_UnknownGroup_NotAdmitted : PySem.W.subIn K (.ref C_NotAdmitted) (.ref C_UnknownGroup) = some false)
  (xq_UnknownGroup_NoSolution : PySem.W.subIn K (.ref C_NoSolution) (.ref C_UnknownGroup) = some false)
  (xq_UnknownGroup_InvalidGroups : PySem.W.subIn K (.ref C_InvalidGroups) (.ref C_UnknownGroup) = some false)
  (xq_UnknownGroup_InvalidRoll : PySem.W.subIn K (.ref C_InvalidRoll) (.ref C_UnknownGroup) = some false)
  (xq_UnknownGroup_InvalidMembers : PySem.W.subIn K (.ref C_InvalidMembers) (.ref C_UnknownGroup) = some false)
  (xq_UnknownGroup_InvalidStep : PySem.W.subIn K (.ref C_InvalidStep) (.ref C_UnknownGroup) = some false)
  (xq_UnknownGroup_InvalidPrices : PySem.W.subIn K (.ref C_InvalidPrices) (.ref C_UnknownGroup) = some false)
  (xq_UnknownGroup_InvalidAmounts : PySem.W.subIn K (.ref C_InvalidAmounts) (.ref C_UnknownGroup) = some false)
  (xq_UnknownGroup_NotASolution : PySem.W.subIn K (.ref C_NotASolution) (.ref C_UnknownGroup) = some false)
  (xq_UnknownGroup_PlanFinished : PySem.W.subIn K (.ref C_PlanFinished) (.ref C_UnknownGroup) = some false)
  (xq_UnknownGroup_NothingToUndo : PySem.W.subIn K (.ref C_NothingToUndo) (.ref C_UnknownGroup) = some false)
  (xq_UnknownGroup_InvalidName : PySem.W.subIn K (.ref C_InvalidName) (.ref C_UnknownGroup) = some false)
  (xq_UnknownGroup_DuplicateName : PySem.W.subIn K (.ref C_DuplicateName) (.ref C_UnknownGroup) = some false)
  (xq_UnknownGroup_UnknownName : PySem.W.subIn K (.ref C_UnknownName) (.ref C_UnknownGroup) = some false)
  (xq_UnknownGroup_UnknownMark : PySem.W.subIn K (.ref C_UnknownMark) (.ref C_UnknownGroup) = some false)
  (xq_UnknownGroup_InvalidCommand : PySem.W.subIn K (.ref C_InvalidCommand) (.ref C_UnknownGroup) = some false)
  (xq_UnknownGroup_InvalidLine : PySem.W.subIn K (.ref C_InvalidLine) (.ref C_UnknownGroup) = some false)
  (xq_UnknownMark_non : PySem.W.subIn K (.type "NoneType") (.ref C_UnknownMark) = some false)
  (xq_UnknownMark_ParseError : PySem.W.subIn K (.ref C_ParseError) (.ref C_UnknownMark) = some false)
  (xq_UnknownMark_NotAdmitted : PySem.W.subIn K (.ref C_NotAdmitted) (.ref C_UnknownMark) = some false)
  (xq_UnknownMark_NoSolution : PySem.W.subIn K (.ref C_NoSolution) (.ref C_UnknownMark) = some false)
  (xq_UnknownMark_InvalidGroups : PySem.W.subIn K (.ref C_InvalidGroups) (.ref C_UnknownMark) = some false)
  (xq_UnknownMark_UnknownGroup : PySem.W.subIn K (.ref C_UnknownGroup) (.ref C_UnknownMark) = some false)
  (xq_UnknownMark_InvalidRoll : PySem.W.subIn K (.ref C_InvalidRoll) (.ref C_UnknownMark) = some false)
  (xq_UnknownMark_InvalidMembers : PySem.W.subIn K (.ref C_InvalidMembers) (.ref C_UnknownMark) = some false)
  (xq_UnknownMark_InvalidStep : PySem.W.subIn K (.ref C_InvalidStep) (.ref C_UnknownMark) = some false)
  (xq_UnknownMark_InvalidPrices : PySem.W.subIn K (.ref C_InvalidPrices) (.ref C_UnknownMark) = some false)
  (xq_UnknownMark_InvalidAmounts : PySem.W.subIn K (.ref C_InvalidAmounts) (.ref C_UnknownMark) = some false)
  (xq_UnknownMark_NotASolution : PySem.W.subIn K (.ref C_NotASolution) (.ref C_UnknownMark) = some false)
  (xq_UnknownMark_PlanFinished : PySem.W.subIn K (.ref C_PlanFinished) (.ref C_UnknownMark) = some false)
  (xq_UnknownMark_NothingToUndo : PySem.W.subIn K (.ref C_NothingToUndo) (.ref C_UnknownMark) = some false)
  (xq_UnknownMark_InvalidName : PySem.W.subIn K (.ref C_InvalidName) (.ref C_UnknownMark) = some false)
  (xq_UnknownMark_DuplicateName : PySem.W.subIn K (.ref C_DuplicateName) (.ref C_UnknownMark) = some false)
  (xq_UnknownMark_UnknownName : PySem.W.subIn K (.ref C_UnknownName) (.ref C_UnknownMark) = some false)
  (xq_UnknownMark_InvalidCommand : PySem.W.subIn K (.ref C_InvalidCommand) (.ref C_UnknownMark) = some false)
  (xq_UnknownMark_InvalidLine : PySem.W.subIn K (.ref C_InvalidLine) (.ref C_UnknownMark) = some false)
  (xq_UnknownName_non : PySem.W.subIn K (.type "NoneType") (.ref C_UnknownName) = some false)
  (xq_UnknownName_ParseError : PySem.W.subIn K (.ref C_ParseError) (.ref C_UnknownName) = some false)
  (xq_UnknownName_NotAdmitted : PySem.W.subIn K (.ref C_NotAdmitted) (.ref C_UnknownName) = some false)
  (xq_UnknownName_NoSolution : PySem.W.subIn K (.ref C_NoSolution) (.ref C_UnknownName) = some false)
  (xq_UnknownName_InvalidGroups : PySem.W.subIn K (.ref C_InvalidGroups) (.ref C_UnknownName) = some false)
  (xq_UnknownName_UnknownGroup : PySem.W.subIn K (.ref C_UnknownGroup) (.ref C_UnknownName) = some false)
  (xq_UnknownName_InvalidRoll : PySem.W.subIn K (.ref C_InvalidRoll) (.ref C_UnknownName) = some false)
  (xq_UnknownName_InvalidMembers : PySem.W.subIn K (.ref C_InvalidMembers) (.ref C_UnknownName) = some false)
  (xq_UnknownName_InvalidStep : PySem.W.subIn K (.ref C_InvalidStep) (.ref C_UnknownName) = some false)
  (xq_UnknownName_InvalidPrices : PySem.W.subIn K (.ref C_InvalidPrices) (.ref C_UnknownName) = some false)
  (xq_UnknownName_InvalidAmounts : PySem.W.subIn K (.ref C_InvalidAmounts) (.ref C_UnknownName) = some false)
  (xq_UnknownName_NotASolution : PySem.W.subIn K (.ref C_NotASolution) (.ref C_UnknownName) = some false)
  (xq_UnknownName_PlanFinished : PySem.W.subIn K (.ref C_PlanFinished) (.ref C_UnknownName) = some false)
  (xq_UnknownName_NothingToUndo : PySem.W.subIn K (.ref C_NothingToUndo) (.ref C_UnknownName) = some false)
  (xq_UnknownName_InvalidName : PySem.W.subIn K (.ref C_InvalidName) (.ref C_UnknownName) = some false)
  (xq_UnknownName_DuplicateName : PySem.W.subIn K (.ref C_DuplicateName) (.ref C_UnknownName) = some false)
  (xq_UnknownName_UnknownMark : PySem.W.subIn K (.ref C_UnknownMark) (.ref C_UnknownName) = some false)
  (xq_UnknownName_InvalidCommand : PySem.W.subIn K (.ref C_InvalidCommand) (.ref C_UnknownName) = some false)
  (xq_UnknownName_InvalidLine : PySem.W.subIn K (.ref C_InvalidLine) (.ref C_UnknownName) = some false)
  (xq_ValueError_ParseError : PySem.W.mroIn K C_ParseError (.type "ValueError") = some true)
  (xq_ValueError_NotAdmitted : PySem.W.mroIn K C_NotAdmitted (.type "ValueError") = some true)
  (xq_ValueError_NoSolution : PySem.W.mroIn K C_NoSolution (.type "ValueError") = some true)
  (xq_ValueError_InvalidGroups : PySem.W.mroIn K C_InvalidGroups (.type "ValueError") = some true)
  (xq_ValueError_UnknownGroup : PySem.W.mroIn K C_UnknownGroup (.type "ValueError") = some true)
  (xq_ValueError_InvalidRoll : PySem.W.mroIn K C_InvalidRoll (.type "ValueError") = some true)
  (xq_ValueError_InvalidMembers : PySem.W.mroIn K C_InvalidMembers (.type "ValueError") = some true)
  (xq_ValueError_InvalidStep : PySem.W.mroIn K C_InvalidStep (.type "ValueError") = some true)
  (xq_ValueError_InvalidPrices : PySem.W.mroIn K C_InvalidPrices (.type "ValueError") = some true)
  (xq_ValueError_InvalidAmounts : PySem.W.mroIn K C_InvalidAmounts (.type "ValueError") = some true)
  (xq_ValueError_NotASolution : PySem.W.mroIn K C_NotASolution (.type "ValueError") = some true)
  (xq_ValueError_PlanFinished : PySem.W.mroIn K C_PlanFinished (.type "ValueError") = some true)
  (xq_ValueError_NothingToUndo : PySem.W.mroIn K C_NothingToUndo (.type "ValueError") = some true)
  (xq_ValueError_InvalidName : PySem.W.mroIn K C_InvalidName (.type "ValueError") = some true)
  (xq_ValueError_DuplicateName : PySem.W.mroIn K C_DuplicateName (.type "ValueError") = some true)
  (xq_ValueError_UnknownName : PySem.W.mroIn K C_UnknownName (.type "ValueError") = some true)
  (xq_ValueError_UnknownMark : PySem.W.mroIn K C_UnknownMark (.type "ValueError") = some true)
  (xq_ValueError_InvalidCommand : PySem.W.mroIn K C_InvalidCommand (.type "ValueError") = some true)
  (xq_ValueError_InvalidLine : PySem.W.mroIn K C_InvalidLine (.type "ValueError") = some true)
  (la : lamAll K [] = true)
  (lu : lamUB K [] = true)
  (xne_ParseError_NotAdmitted : C_ParseError ≠ C_NotAdmitted)
  (xne_ParseError_NoSolution : C_ParseError ≠ C_NoSolution)
  (xne_ParseError_InvalidGroups : C_ParseError ≠ C_InvalidGroups)
  (xne_ParseError_UnknownGroup : C_ParseError ≠ C_UnknownGroup)
  (xne_ParseError_InvalidRoll : C_ParseError ≠ C_InvalidRoll)
  (xne_ParseError_InvalidMembers : C_ParseError ≠ C_InvalidMembers)
  (xne_ParseError_InvalidStep : C_ParseError ≠ C_InvalidStep)
  (xne_ParseError_InvalidPrices : C_ParseError ≠ C_InvalidPrices)
  (xne_ParseError_InvalidAmounts : C_ParseError ≠ C_InvalidAmounts)
  (xne_ParseError_NotASolution : C_ParseError ≠ C_NotASolution)
  (xne_ParseError_PlanFinished : C_ParseError ≠ C_PlanFinished)
  (xne_ParseError_NothingToUndo : C_ParseError ≠ C_NothingToUndo)
  (xne_ParseError_InvalidName : C_ParseError ≠ C_InvalidName)
  (xne_ParseError_DuplicateName : C_ParseError ≠ C_DuplicateName)
  (xne_ParseError_UnknownName : C_ParseError ≠ C_UnknownName)
  (xne_ParseError_UnknownMark : C_ParseError ≠ C_UnknownMark)
  (xne_ParseError_InvalidCommand : C_ParseError ≠ C_InvalidCommand)
  (xne_ParseError_InvalidLine : C_ParseError ≠ C_InvalidLine)
  (xne_NotAdmitted_NoSolution : C_NotAdmitted ≠ C_NoSolution)
  (xne_NotAdmitted_InvalidGroups : C_NotAdmitted ≠ C_InvalidGroups)
  (xne_NotAdmitted_UnknownGroup : C_NotAdmitted ≠ C_UnknownGroup)
  (xne_NotAdmitted_InvalidRoll : C_NotAdmitted ≠ C_InvalidRoll)
  (xne_NotAdmitted_InvalidMembers : C_NotAdmitted ≠ C_InvalidMembers)
  (xne_NotAdmitted_InvalidStep : C_NotAdmitted ≠ C_InvalidStep)
  (xne_NotAdmitted_InvalidPrices : C_NotAdmitted ≠ C_InvalidPrices)
  (xne_NotAdmitted_InvalidAmounts : C_NotAdmitted ≠ C_InvalidAmounts)
  (xne_NotAdmitted_NotASolution : C_NotAdmitted ≠ C_NotASolution)
  (xne_NotAdmitted_PlanFinished : C_NotAdmitted ≠ C_PlanFinished)
  (xne_NotAdmitted_NothingToUndo : C_NotAdmitted ≠ C_NothingToUndo)
  (xne_NotAdmitted_InvalidName : C_NotAdmitted ≠ C_InvalidName)
  (xne_NotAdmitted_DuplicateName : C_NotAdmitted ≠ C_DuplicateName)
  (xne_NotAdmitted_UnknownName : C_NotAdmitted ≠ C_UnknownName)
  (xne_NotAdmitted_UnknownMark : C_NotAdmitted ≠ C_UnknownMark)
  (xne_NotAdmitted_InvalidCommand : C_NotAdmitted ≠ C_InvalidCommand)
  (xne_NotAdmitted_InvalidLine : C_NotAdmitted ≠ C_InvalidLine)
  (xne_NoSolution_InvalidGroups : C_NoSolution ≠ C_InvalidGroups)
  (xne_NoSolution_UnknownGroup : C_NoSolution ≠ C_UnknownGroup)
  (xne_NoSolution_InvalidRoll : C_NoSolution ≠ C_InvalidRoll)
  (xne_NoSolution_InvalidMembers : C_NoSolution ≠ C_InvalidMembers)
  (xne_NoSolution_InvalidStep : C_NoSolution ≠ C_InvalidStep)
  (xne_NoSolution_InvalidPrices : C_NoSolution ≠ C_InvalidPrices)
  (xne_NoSolution_InvalidAmounts : C_NoSolution ≠ C_InvalidAmounts)
  (xne_NoSolution_NotASolution : C_NoSolution ≠ C_NotASolution)
  (xne_NoSolution_PlanFinished : C_NoSolution ≠ C_PlanFinished)
  (xne_NoSolution_NothingToUndo : C_NoSolution ≠ C_NothingToUndo)
  (xne_NoSolution_InvalidName : C_NoSolution ≠ C_InvalidName)
  (xne_NoSolution_DuplicateName : C_NoSolution ≠ C_DuplicateName)
  (xne_NoSolution_UnknownName : C_NoSolution ≠ C_UnknownName)
  (xne_NoSolution_UnknownMark : C_NoSolution ≠ C_UnknownMark)
  (xne_NoSolution_InvalidCommand : C_NoSolution ≠ C_InvalidCommand)
  (xne_NoSolution_InvalidLine : C_NoSolution ≠ C_InvalidLine)
  (xne_InvalidGroups_UnknownGroup : C_InvalidGroups ≠ C_UnknownGroup)
  (xne_InvalidGroups_InvalidRoll : C_InvalidGroups ≠ C_InvalidRoll)
  (xne_InvalidGroups_InvalidMembers : C_InvalidGroups ≠ C_InvalidMembers)
  (xne_InvalidGroups_InvalidStep : C_InvalidGroups ≠ C_InvalidStep)
  (xne_InvalidGroups_InvalidPrices : C_InvalidGroups ≠ C_InvalidPrices)
  (xne_InvalidGroups_InvalidAmounts : C_InvalidGroups ≠ C_InvalidAmounts)
  (xne_InvalidGroups_NotASolution : C_InvalidGroups ≠ C_NotASolution)
  (xne_InvalidGroups_PlanFinished : C_InvalidGroups ≠ C_PlanFinished)
  (xne_InvalidGroups_NothingToUndo : C_InvalidGroups ≠ C_NothingToUndo)
  (xne_InvalidGroups_InvalidName : C_InvalidGroups ≠ C_InvalidName)
  (xne_InvalidGroups_DuplicateName : C_InvalidGroups ≠ C_DuplicateName)
  (xne_InvalidGroups_UnknownName : C_InvalidGroups ≠ C_UnknownName)
  (xne_InvalidGroups_UnknownMark : C_InvalidGroups ≠ C_UnknownMark)
  (xne_InvalidGroups_InvalidCommand : C_InvalidGroups ≠ C_InvalidCommand)
  (xne_InvalidGroups_InvalidLine : C_InvalidGroups ≠ C_InvalidLine)
  (xne_UnknownGroup_InvalidRoll : C_UnknownGroup ≠ C_InvalidRoll)
  (xne_UnknownGroup_InvalidMembers : C_UnknownGroup ≠ C_InvalidMembers)
  (xne_UnknownGroup_InvalidStep : C_UnknownGroup ≠ C_InvalidStep)
  (xne_UnknownGroup_InvalidPrices : C_UnknownGroup ≠ C_InvalidPrices)
  (xne_UnknownGroup_InvalidAmounts : C_UnknownGroup ≠ C_InvalidAmounts)
  (xne_UnknownGroup_NotASolution : C_UnknownGroup ≠ C_NotASolution)
  (xne_UnknownGroup_PlanFinished : C_UnknownGroup ≠ C_PlanFinished)
  (xne_UnknownGroup_NothingToUndo : C_UnknownGroup ≠ C_NothingToUndo)
  (xne_UnknownGroup_InvalidName : C_UnknownGroup ≠ C_InvalidName)
  (xne_UnknownGroup_DuplicateName : C_UnknownGroup ≠ C_DuplicateName)
  (xne_UnknownGroup_UnknownName : C_UnknownGroup ≠ C_UnknownName)
  (xne_UnknownGroup_UnknownMark : C_UnknownGroup ≠ C_UnknownMark)
  (xne_UnknownGroup_InvalidCommand : C_UnknownGroup ≠ C_InvalidCommand)
  (xne_UnknownGroup_InvalidLine : C_UnknownGroup ≠ C_InvalidLine)
  (xne_InvalidRoll_InvalidMembers : C_InvalidRoll ≠ C_InvalidMembers)
  (xne_InvalidRoll_InvalidStep : C_InvalidRoll ≠ C_InvalidStep)
  (xne_InvalidRoll_InvalidPrices : C_InvalidRoll ≠ C_InvalidPrices)
  (xne_InvalidRoll_InvalidAmounts : C_InvalidRoll ≠ C_InvalidAmounts)
  (xne_InvalidRoll_NotASolution : C_InvalidRoll ≠ C_NotASolution)
  (xne_InvalidRoll_PlanFinished : C_InvalidRoll ≠ C_PlanFinished)
  (xne_InvalidRoll_NothingToUndo : C_InvalidRoll ≠ C_NothingToUndo)
  (xne_InvalidRoll_InvalidName : C_InvalidRoll ≠ C_InvalidName)
  (xne_InvalidRoll_DuplicateName : C_InvalidRoll ≠ C_DuplicateName)
  (xne_InvalidRoll_UnknownName : C_InvalidRoll ≠ C_UnknownName)
  (xne_InvalidRoll_UnknownMark : C_InvalidRoll ≠ C_UnknownMark)
  (xne_InvalidRoll_InvalidCommand : C_InvalidRoll ≠ C_InvalidCommand)
  (xne_InvalidRoll_InvalidLine : C_InvalidRoll ≠ C_InvalidLine)
  (xne_InvalidMembers_InvalidStep : C_InvalidMembers ≠ C_InvalidStep)
  (xne_InvalidMembers_InvalidPrices : C_InvalidMembers ≠ C_InvalidPrices)
  (xne_InvalidMembers_InvalidAmounts : C_InvalidMembers ≠ C_InvalidAmounts)
  (xne_InvalidMembers_NotASolution : C_InvalidMembers ≠ C_NotASolution)
  (xne_InvalidMembers_PlanFinished : C_InvalidMembers ≠ C_PlanFinished)
  (xne_InvalidMembers_NothingToUndo : C_InvalidMembers ≠ C_NothingToUndo)
  (xne_InvalidMembers_InvalidName : C_InvalidMembers ≠ C_InvalidName)
  (xne_InvalidMembers_DuplicateName : C_InvalidMembers ≠ C_DuplicateName)
  (xne_InvalidMembers_UnknownName : C_InvalidMembers ≠ C_UnknownName)
  (xne_InvalidMembers_UnknownMark : C_InvalidMembers ≠ C_UnknownMark)
  (xne_InvalidMembers_InvalidCommand : C_InvalidMembers ≠ C_InvalidCommand)
  (xne_InvalidMembers_InvalidLine : C_InvalidMembers ≠ C_InvalidLine)
  (xne_InvalidStep_InvalidPrices : C_InvalidStep ≠ C_InvalidPrices)
  (xne_InvalidStep_InvalidAmounts : C_InvalidStep ≠ C_InvalidAmounts)
  (xne_InvalidStep_NotASolution : C_InvalidStep ≠ C_NotASolution)
  (xne_InvalidStep_PlanFinished : C_InvalidStep ≠ C_PlanFinished)
  (xne_InvalidStep_NothingToUndo : C_InvalidStep ≠ C_NothingToUndo)
  (xne_InvalidStep_InvalidName : C_InvalidStep ≠ C_InvalidName)
  (xne_InvalidStep_DuplicateName : C_InvalidStep ≠ C_DuplicateName)
  (xne_InvalidStep_UnknownName : C_InvalidStep ≠ C_UnknownName)
  (xne_InvalidStep_UnknownMark : C_InvalidStep ≠ C_UnknownMark)
  (xne_InvalidStep_InvalidCommand : C_InvalidStep ≠ C_InvalidCommand)
  (xne_InvalidStep_InvalidLine : C_InvalidStep ≠ C_InvalidLine)
  (xne_InvalidPrices_InvalidAmounts : C_InvalidPrices ≠ C_InvalidAmounts)
  (xne_InvalidPrices_NotASolution : C_InvalidPrices ≠ C_NotASolution)
  (xne_InvalidPrices_PlanFinished : C_InvalidPrices ≠ C_PlanFinished)
  (xne_InvalidPrices_NothingToUndo : C_InvalidPrices ≠ C_NothingToUndo)
  (xne_InvalidPrices_InvalidName : C_InvalidPrices ≠ C_InvalidName)
  (xne_InvalidPrices_DuplicateName : C_InvalidPrices ≠ C_DuplicateName)
  (xne_InvalidPrices_UnknownName : C_InvalidPrices ≠ C_UnknownName)
  (xne_InvalidPrices_UnknownMark : C_InvalidPrices ≠ C_UnknownMark)
  (xne_InvalidPrices_InvalidCommand : C_InvalidPrices ≠ C_InvalidCommand)
  (xne_InvalidPrices_InvalidLine : C_InvalidPrices ≠ C_InvalidLine)
  (xne_InvalidAmounts_NotASolution : C_InvalidAmounts ≠ C_NotASolution)
  (xne_InvalidAmounts_PlanFinished : C_InvalidAmounts ≠ C_PlanFinished)
  (xne_InvalidAmounts_NothingToUndo : C_InvalidAmounts ≠ C_NothingToUndo)
  (xne_InvalidAmounts_InvalidName : C_InvalidAmounts ≠ C_InvalidName)
  (xne_InvalidAmounts_DuplicateName : C_InvalidAmounts ≠ C_DuplicateName)
  (xne_InvalidAmounts_UnknownName : C_InvalidAmounts ≠ C_UnknownName)
  (xne_InvalidAmounts_UnknownMark : C_InvalidAmounts ≠ C_UnknownMark)
  (xne_InvalidAmounts_InvalidCommand : C_InvalidAmounts ≠ C_InvalidCommand)
  (xne_InvalidAmounts_InvalidLine : C_InvalidAmounts ≠ C_InvalidLine)
  (xne_NotASolution_PlanFinished : C_NotASolution ≠ C_PlanFinished)
  (xne_NotASolution_NothingToUndo : C_NotASolution ≠ C_NothingToUndo)
  (xne_NotASolution_InvalidName : C_NotASolution ≠ C_InvalidName)
  (xne_NotASolution_DuplicateName : C_NotASolution ≠ C_DuplicateName)
  (xne_NotASolution_UnknownName : C_NotASolution ≠ C_UnknownName)
  (xne_NotASolution_UnknownMark : C_NotASolution ≠ C_UnknownMark)
  (xne_NotASolution_InvalidCommand : C_NotASolution ≠ C_InvalidCommand)
  (xne_NotASolution_InvalidLine : C_NotASolution ≠ C_InvalidLine)
  (xne_PlanFinished_NothingToUndo : C_PlanFinished ≠ C_NothingToUndo)
  (xne_PlanFinished_InvalidName : C_PlanFinished ≠ C_InvalidName)
  (xne_PlanFinished_DuplicateName : C_PlanFinished ≠ C_DuplicateName)
  (xne_PlanFinished_UnknownName : C_PlanFinished ≠ C_UnknownName)
  (xne_PlanFinished_UnknownMark : C_PlanFinished ≠ C_UnknownMark)
  (xne_PlanFinished_InvalidCommand : C_PlanFinished ≠ C_InvalidCommand)
  (xne_PlanFinished_InvalidLine : C_PlanFinished ≠ C_InvalidLine)
  (xne_NothingToUndo_InvalidName : C_NothingToUndo ≠ C_InvalidName)
  (xne_NothingToUndo_DuplicateName : C_NothingToUndo ≠ C_DuplicateName)
  (xne_NothingToUndo_UnknownName : C_NothingToUndo ≠ C_UnknownName)
  (xne_NothingToUndo_UnknownMark : C_NothingToUndo ≠ C_UnknownMark)
  (xne_NothingToUndo_InvalidCommand : C_NothingToUndo ≠ C_InvalidCommand)
  (xne_NothingToUndo_InvalidLine : C_NothingToUndo ≠ C_InvalidLine)
  (xne_InvalidName_DuplicateName : C_InvalidName ≠ C_DuplicateName)
  (xne_InvalidName_UnknownName : C_InvalidName ≠ C_UnknownName)
  (xne_InvalidName_UnknownMark : C_InvalidName ≠ C_UnknownMark)
  (xne_InvalidName_InvalidCommand : C_InvalidName ≠ C_InvalidCommand)
  (xne_InvalidName_InvalidLine : C_InvalidName ≠ C_InvalidLine)
  (xne_DuplicateName_UnknownName : C_DuplicateName ≠ C_UnknownName)
  (xne_DuplicateName_UnknownMark : C_DuplicateName ≠ C_UnknownMark)
  (xne_DuplicateName_InvalidCommand : C_DuplicateName ≠ C_InvalidCommand)
  (xne_DuplicateName_InvalidLine : C_DuplicateName ≠ C_InvalidLine)
  (xne_UnknownName_UnknownMark : C_UnknownName ≠ C_UnknownMark)
  (xne_UnknownName_InvalidCommand : C_UnknownName ≠ C_InvalidCommand)
  (xne_UnknownName_InvalidLine : C_UnknownName ≠ C_InvalidLine)
  (xne_UnknownMark_InvalidCommand : C_UnknownMark ≠ C_InvalidCommand)
  (xne_UnknownMark_InvalidLine : C_UnknownMark ≠ C_InvalidLine)
  (xne_InvalidCommand_InvalidLine : C_InvalidCommand ≠ C_InvalidLine) :
  ∃ (c : Cs) (t : Tx K mg c), t.a_law = fa ∧ c.on = [] ∧ c.xs = [21, 22, 23, 24, 25, 26, 27, 28, 29, 30, 31, 32, 33, 34, 35, 36, 37, 38, 39] := ⟨⟨fun i => match i with | 20 => C_QuotaError | 21 => C_ParseError | 22 => C_NotAdmitted | 23 => C_NoSolution | 24 => C_InvalidGroups | 25 => C_UnknownGroup | 26 => C_InvalidRoll | 27 => C_InvalidMembers | 28 => C_InvalidStep | 29 => C_InvalidPrices | 30 => C_InvalidAmounts | 31 => C_NotASolution | 32 => C_PlanFinished | 33 => C_NothingToUndo | 34 => C_InvalidName | 35 => C_DuplicateName | 36 => C_UnknownName | 37 => C_UnknownMark | 38 => C_InvalidCommand | 39 => C_InvalidLine | _ => 0, [], by simp, [21, 22, 23, 24, 25, 26, 27, 28, 29, 30, 31, 32, 33, 34, 35, 36, 37, 38, 39], by simp [xne_ParseError_NotAdmitted, xne_ParseError_NotAdmitted.symm, xne_ParseError_NoSolution, xne_ParseError_NoSolution.symm, xne_ParseError_InvalidGroups, xne_ParseError_InvalidGroups.symm, xne_ParseError_UnknownGroup, xne_ParseError_UnknownGroup.symm, xne_ParseError_InvalidRoll, xne_ParseError_InvalidRoll.symm, xne_ParseError_InvalidMembers, xne_ParseError_InvalidMembers.symm, xne_ParseError_InvalidStep, xne_ParseError_InvalidStep.symm, xne_ParseError_InvalidPrices, xne_ParseError_InvalidPrices.symm, xne_ParseError_InvalidAmounts, xne_ParseError_InvalidAmounts.symm, xne_ParseError_NotASolution, xne_ParseError_NotASolution.symm, xne_ParseError_PlanFinished, xne_ParseError_PlanFinished.symm, xne_ParseError_NothingToUndo, xne_ParseError_NothingToUndo.symm, xne_ParseError_InvalidName, xne_ParseError_InvalidName.symm, xne_ParseError_DuplicateName, xne_ParseError_DuplicateName.symm, xne_ParseError_UnknownName, xne_ParseError_UnknownName.symm, xne_ParseError_UnknownMark, xne_ParseError_UnknownMark.symm, xne_ParseError_InvalidCommand, xne_ParseError_InvalidCommand.symm, xne_ParseError_InvalidLine, xne_ParseError_InvalidLine.symm, xne_NotAdmitted_NoSolution, xne_NotAdmitted_NoSolution.symm, xne_NotAdmitted_InvalidGroups, xne_NotAdmitted_InvalidGroups.symm, xne_NotAdmitted_UnknownGroup, xne_NotAdmitted_UnknownGroup.symm, xne_NotAdmitted_InvalidRoll, xne_NotAdmitted_InvalidRoll.symm, xne_NotAdmitted_InvalidMembers, xne_NotAdmitted_InvalidMembers.symm, xne_NotAdmitted_InvalidStep, xne_NotAdmitted_InvalidStep.symm, xne_NotAdmitted_InvalidPrices, xne_NotAdmitted_InvalidPrices.symm, xne_NotAdmitted_InvalidAmounts, xne_NotAdmitted_InvalidAmounts.symm, xne_NotAdmitted_NotASolution, xne_NotAdmitted_NotASolution.symm, xne_NotAdmitted_PlanFinished, xne_NotAdmitted_PlanFinished.symm, xne_NotAdmitted_NothingToUndo, xne_NotAdmitted_NothingToUndo.symm, xne_NotAdmitted_InvalidName, xne_NotAdmitted_InvalidName.symm, xne_NotAdmitted_DuplicateName, xne_NotAdmitted_DuplicateName.symm, xne_NotAdmitted_UnknownName, xne_NotAdmitted_UnknownName.symm, xne_NotAdmitted_UnknownMark, xne_NotAdmitted_UnknownMark.symm, xne_NotAdmitted_InvalidCommand, xne_NotAdmitted_InvalidCommand.symm, xne_NotAdmitted_InvalidLine, xne_NotAdmitted_InvalidLine.symm, xne_NoSolution_InvalidGroups, xne_NoSolution_InvalidGroups.symm, xne_NoSolution_UnknownGroup, xne_NoSolution_UnknownGroup.symm, xne_NoSolution_InvalidRoll, xne_NoSolution_InvalidRoll.symm, xne_NoSolution_InvalidMembers, xne_NoSolution_InvalidMembers.symm, xne_NoSolution_InvalidStep, xne_NoSolution_InvalidStep.symm, xne_NoSolution_InvalidPrices, xne_NoSolution_InvalidPrices.symm, xne_NoSolution_InvalidAmounts, xne_NoSolution_InvalidAmounts.symm, xne_NoSolution_NotASolution, xne_NoSolution_NotASolution.symm, xne_NoSolution_PlanFinished, xne_NoSolution_PlanFinished.symm, xne_NoSolution_NothingToUndo, xne_NoSolution_NothingToUndo.symm, xne_NoSolution_InvalidName, xne_NoSolution_InvalidName.symm, xne_NoSolution_DuplicateName, xne_NoSolution_DuplicateName.symm, xne_NoSolution_UnknownName, xne_NoSolution_UnknownName.symm, xne_NoSolution_UnknownMark, xne_NoSolution_UnknownMark.symm, xne_NoSolution_InvalidCommand, xne_NoSolution_InvalidCommand.symm, xne_NoSolution_InvalidLine, xne_NoSolution_InvalidLine.symm, xne_InvalidGroups_UnknownGroup, xne_InvalidGroups_UnknownGroup.symm, xne_InvalidGroups_InvalidRoll, xne_InvalidGroups_InvalidRoll.symm, xne_InvalidGroups_InvalidMembers, xne_InvalidGroups_InvalidMembers.symm, xne_InvalidGroups_InvalidStep, xne_InvalidGroups_InvalidStep.symm, xne_InvalidGroups_InvalidPrices, xne_InvalidGroups_InvalidPrices.symm, xne_InvalidGroups_InvalidAmounts, xne_InvalidGroups_InvalidAmounts.symm, xne_InvalidGroups_NotASolution, xne_InvalidGroups_NotASolution.symm, xne_InvalidGroups_PlanFinished, xne_InvalidGroups_PlanFinished.symm, xne_InvalidGroups_NothingToUndo, xne_InvalidGroups_NothingToUndo.symm, xne_InvalidGroups_InvalidName, xne_InvalidGroups_InvalidName.symm, xne_InvalidGroups_DuplicateName, xne_InvalidGroups_DuplicateName.symm, xne_InvalidGroups_UnknownName, xne_InvalidGroups_UnknownName.symm, xne_InvalidGroups_UnknownMark, xne_InvalidGroups_UnknownMark.symm, xne_InvalidGroups_InvalidCommand, xne_InvalidGroups_InvalidCommand.symm, xne_InvalidGroups_InvalidLine, xne_InvalidGroups_InvalidLine.symm, xne_UnknownGroup_InvalidRoll, xne_UnknownGroup_InvalidRoll.symm, xne_UnknownGroup_InvalidMembers, xne_UnknownGroup_InvalidMembers.symm, xne_UnknownGroup_InvalidStep, xne_UnknownGroup_InvalidStep.symm, xne_UnknownGroup_InvalidPrices, xne_UnknownGroup_InvalidPrices.symm, xne_UnknownGroup_InvalidAmounts, xne_UnknownGroup_InvalidAmounts.symm, xne_UnknownGroup_NotASolution, xne_UnknownGroup_NotASolution.symm, xne_UnknownGroup_PlanFinished, xne_UnknownGroup_PlanFinished.symm, xne_UnknownGroup_NothingToUndo, xne_UnknownGroup_NothingToUndo.symm, xne_UnknownGroup_InvalidName, xne_UnknownGroup_InvalidName.symm, xne_UnknownGroup_DuplicateName, xne_UnknownGroup_DuplicateName.symm, xne_UnknownGroup_UnknownName, xne_UnknownGroup_UnknownName.symm, xne_UnknownGroup_UnknownMark, xne_UnknownGroup_UnknownMark.symm, xne_UnknownGroup_InvalidCommand, xne_UnknownGroup_InvalidCommand.symm, xne_UnknownGroup_InvalidLine, xne_UnknownGroup_InvalidLine.symm, xne_InvalidRoll_InvalidMembers, xne_InvalidRoll_InvalidMembers.symm, xne_InvalidRoll_InvalidStep, xne_InvalidRoll_InvalidStep.symm, xne_InvalidRoll_InvalidPrices, xne_InvalidRoll_InvalidPrices.symm, xne_InvalidRoll_InvalidAmounts, xne_InvalidRoll_InvalidAmounts.symm, xne_InvalidRoll_NotASolution, xne_InvalidRoll_NotASolution.symm, xne_InvalidRoll_PlanFinished, xne_InvalidRoll_PlanFinished.symm, xne_InvalidRoll_NothingToUndo, xne_InvalidRoll_NothingToUndo.symm, xne_InvalidRoll_InvalidName, xne_InvalidRoll_InvalidName.symm, xne_InvalidRoll_DuplicateName, xne_InvalidRoll_DuplicateName.symm, xne_InvalidRoll_UnknownName, xne_InvalidRoll_UnknownName.symm, xne_InvalidRoll_UnknownMark, xne_InvalidRoll_UnknownMark.symm, xne_InvalidRoll_InvalidCommand, xne_InvalidRoll_InvalidCommand.symm, xne_InvalidRoll_InvalidLine, xne_InvalidRoll_InvalidLine.symm, xne_InvalidMembers_InvalidStep, xne_InvalidMembers_InvalidStep.symm, xne_InvalidMembers_InvalidPrices, xne_InvalidMembers_InvalidPrices.symm, xne_InvalidMembers_InvalidAmounts, xne_InvalidMembers_InvalidAmounts.symm, xne_InvalidMembers_NotASolution, xne_InvalidMembers_NotASolution.symm, xne_InvalidMembers_PlanFinished, xne_InvalidMembers_PlanFinished.symm, xne_InvalidMembers_NothingToUndo, xne_InvalidMembers_NothingToUndo.symm, xne_InvalidMembers_InvalidName, xne_InvalidMembers_InvalidName.symm, xne_InvalidMembers_DuplicateName, xne_InvalidMembers_DuplicateName.symm, xne_InvalidMembers_UnknownName, xne_InvalidMembers_UnknownName.symm, xne_InvalidMembers_UnknownMark, xne_InvalidMembers_UnknownMark.symm, xne_InvalidMembers_InvalidCommand, xne_InvalidMembers_InvalidCommand.symm, xne_InvalidMembers_InvalidLine, xne_InvalidMembers_InvalidLine.symm, xne_InvalidStep_InvalidPrices, xne_InvalidStep_InvalidPrices.symm, xne_InvalidStep_InvalidAmounts, xne_InvalidStep_InvalidAmounts.symm, xne_InvalidStep_NotASolution, xne_InvalidStep_NotASolution.symm, xne_InvalidStep_PlanFinished, xne_InvalidStep_PlanFinished.symm, xne_InvalidStep_NothingToUndo, xne_InvalidStep_NothingToUndo.symm, xne_InvalidStep_InvalidName, xne_InvalidStep_InvalidName.symm, xne_InvalidStep_DuplicateName, xne_InvalidStep_DuplicateName.symm, xne_InvalidStep_UnknownName, xne_InvalidStep_UnknownName.symm, xne_InvalidStep_UnknownMark, xne_InvalidStep_UnknownMark.symm, xne_InvalidStep_InvalidCommand, xne_InvalidStep_InvalidCommand.symm, xne_InvalidStep_InvalidLine, xne_InvalidStep_InvalidLine.symm, xne_InvalidPrices_InvalidAmounts, xne_InvalidPrices_InvalidAmounts.symm, xne_InvalidPrices_NotASolution, xne_InvalidPrices_NotASolution.symm, xne_InvalidPrices_PlanFinished, xne_InvalidPrices_PlanFinished.symm, xne_InvalidPrices_NothingToUndo, xne_InvalidPrices_NothingToUndo.symm, xne_InvalidPrices_InvalidName, xne_InvalidPrices_InvalidName.symm, xne_InvalidPrices_DuplicateName, xne_InvalidPrices_DuplicateName.symm, xne_InvalidPrices_UnknownName, xne_InvalidPrices_UnknownName.symm, xne_InvalidPrices_UnknownMark, xne_InvalidPrices_UnknownMark.symm, xne_InvalidPrices_InvalidCommand, xne_InvalidPrices_InvalidCommand.symm, xne_InvalidPrices_InvalidLine, xne_InvalidPrices_InvalidLine.symm, xne_InvalidAmounts_NotASolution, xne_InvalidAmounts_NotASolution.symm, xne_InvalidAmounts_PlanFinished, xne_InvalidAmounts_PlanFinished.symm, xne_InvalidAmounts_NothingToUndo, xne_InvalidAmounts_NothingToUndo.symm, xne_InvalidAmounts_InvalidName, xne_InvalidAmounts_InvalidName.symm, xne_InvalidAmounts_DuplicateName, xne_InvalidAmounts_DuplicateName.symm, xne_InvalidAmounts_UnknownName, xne_InvalidAmounts_UnknownName.symm, xne_InvalidAmounts_UnknownMark, xne_InvalidAmounts_UnknownMark.symm, xne_InvalidAmounts_InvalidCommand, xne_InvalidAmounts_InvalidCommand.symm, xne_InvalidAmounts_InvalidLine, xne_InvalidAmounts_InvalidLine.symm, xne_NotASolution_PlanFinished, xne_NotASolution_PlanFinished.symm, xne_NotASolution_NothingToUndo, xne_NotASolution_NothingToUndo.symm, xne_NotASolution_InvalidName, xne_NotASolution_InvalidName.symm, xne_NotASolution_DuplicateName, xne_NotASolution_DuplicateName.symm, xne_NotASolution_UnknownName, xne_NotASolution_UnknownName.symm, xne_NotASolution_UnknownMark, xne_NotASolution_UnknownMark.symm, xne_NotASolution_InvalidCommand, xne_NotASolution_InvalidCommand.symm, xne_NotASolution_InvalidLine, xne_NotASolution_InvalidLine.symm, xne_PlanFinished_NothingToUndo, xne_PlanFinished_NothingToUndo.symm, xne_PlanFinished_InvalidName, xne_PlanFinished_InvalidName.symm, xne_PlanFinished_DuplicateName, xne_PlanFinished_DuplicateName.symm, xne_PlanFinished_UnknownName, xne_PlanFinished_UnknownName.symm, xne_PlanFinished_UnknownMark, xne_PlanFinished_UnknownMark.symm, xne_PlanFinished_InvalidCommand, xne_PlanFinished_InvalidCommand.symm, xne_PlanFinished_InvalidLine, xne_PlanFinished_InvalidLine.symm, xne_NothingToUndo_InvalidName, xne_NothingToUndo_InvalidName.symm, xne_NothingToUndo_DuplicateName, xne_NothingToUndo_DuplicateName.symm, xne_NothingToUndo_UnknownName, xne_NothingToUndo_UnknownName.symm, xne_NothingToUndo_UnknownMark, xne_NothingToUndo_UnknownMark.symm, xne_NothingToUndo_InvalidCommand, xne_NothingToUndo_InvalidCommand.symm, xne_NothingToUndo_InvalidLine, xne_NothingToUndo_InvalidLine.symm, xne_InvalidName_DuplicateName, xne_InvalidName_DuplicateName.symm, xne_InvalidName_UnknownName, xne_InvalidName_UnknownName.symm, xne_InvalidName_UnknownMark, xne_InvalidName_UnknownMark.symm, xne_InvalidName_InvalidCommand, xne_InvalidName_InvalidCommand.symm, xne_InvalidName_InvalidLine, xne_InvalidName_InvalidLine.symm, xne_DuplicateName_UnknownName, xne_DuplicateName_UnknownName.symm, xne_DuplicateName_UnknownMark, xne_DuplicateName_UnknownMark.symm, xne_DuplicateName_InvalidCommand, xne_DuplicateName_InvalidCommand.symm, xne_DuplicateName_InvalidLine, xne_DuplicateName_InvalidLine.symm, xne_UnknownName_UnknownMark, xne_UnknownName_UnknownMark.symm, xne_UnknownName_InvalidCommand, xne_UnknownName_InvalidCommand.symm, xne_UnknownName_InvalidLine, xne_UnknownName_InvalidLine.symm, xne_UnknownMark_InvalidCommand, xne_UnknownMark_InvalidCommand.symm, xne_UnknownMark_InvalidLine, xne_UnknownMark_InvalidLine.symm, xne_InvalidCommand_InvalidLine, xne_InvalidCommand_InvalidLine.symm]⟩, {
    a_law_pen := f_law_pen,
    fd_law_pen := _,
    u_law_pen := fun_mk l_law_pen c_law_pen k_law_pen,
    kp_law_pen := k_law_pen,
    b_law_pen := (fun_mk (st := st_law_pen) l_law_pen c_law_pen k_law_pen).binds (ps := ["_law_script"]) (fun _ _ _ _ _ _ us hl => match us, hl with | [_], _ => rfl),
    m__law_pen := PySem.W.mg_of X G g_law_pen,
    a_law_next := f_law_next,
    fd_law_next := _,
    u_law_next := fun_mk l_law_next c_law_next k_law_next,
    kp_law_next := k_law_next,
    b_law_next := (fun_mk (st := st_law_next) l_law_next c_law_next k_law_next).binds (ps := ["_law_pen_here"]) (fun _ _ _ _ _ _ us hl => match us, hl with | [_], _ => rfl),
    m__law_next := PySem.W.mg_of X G g_law_next,
    a_law_draw := f_law_draw,
    fd_law_draw := _,
    u_law_draw := fun_mk l_law_draw c_law_draw k_law_draw,
    kp_law_draw := k_law_draw,
    b_law_draw := (fun_mk (st := st_law_draw) l_law_draw c_law_draw k_law_draw).binds (ps := ["_law_pen_here", "_law_below_this"]) (fun _ _ _ _ _ _ us hl => match us, hl with | [_, _], _ => rfl),
    m__law_draw := PySem.W.mg_of X G g_law_draw,
    a_law_kinds := f_law_kinds,
    fd_law_kinds := _,
    u_law_kinds := fun_mk l_law_kinds c_law_kinds k_law_kinds,
    kp_law_kinds := k_law_kinds,
    b_law_kinds := (fun_mk (st := st_law_kinds) l_law_kinds c_law_kinds k_law_kinds).binds (ps := ["_law_error"]) (fun _ _ _ _ _ _ us hl => match us, hl with | [_], _ => rfl),
    m__law_kinds := PySem.W.mg_of X G g_law_kinds,
    a_law := f_law,
    fd_law := _,
    u_law := fun_mk l_law c_law k_law,
    kp_law := k_law,
    b_law := (fun_mk (st := st_law) l_law c_law k_law).binds (ps := ["_law_script"]) (fun _ _ _ _ _ _ us hl => match us, hl with | [_], _ => rfl),
    m_law := PySem.W.mg_of X G g_law,
    z_ValueError := PySem.W.mg_none_of X G z_ValueError,
    z_isinstance := PySem.W.mg_none_of X G z_isinstance,
    z_len := PySem.W.mg_none_of X G z_len,
    z_list := PySem.W.mg_none_of X G z_list,
    z_range := PySem.W.mg_none_of X G z_range,
    z_str := PySem.W.mg_none_of X G z_str,
    m_QuotaError := PySem.W.mg_of X G aC_QuotaError,
    m_ParseError := PySem.W.mg_of X G aC_ParseError,
    m_NotAdmitted := PySem.W.mg_of X G aC_NotAdmitted,
    m_NoSolution := PySem.W.mg_of X G aC_NoSolution,
    m_InvalidGroups := PySem.W.mg_of X G aC_InvalidGroups,
    m_UnknownGroup := PySem.W.mg_of X G aC_UnknownGroup,
    m_InvalidRoll := PySem.W.mg_of X G aC_InvalidRoll,
    m_InvalidMembers := PySem.W.mg_of X G aC_InvalidMembers,
    m_InvalidStep := PySem.W.mg_of X G aC_InvalidStep,
    m_InvalidPrices := PySem.W.mg_of X G aC_InvalidPrices,
    m_InvalidAmounts := PySem.W.mg_of X G aC_InvalidAmounts,
    m_NotASolution := PySem.W.mg_of X G aC_NotASolution,
    m_PlanFinished := PySem.W.mg_of X G aC_PlanFinished,
    m_NothingToUndo := PySem.W.mg_of X G aC_NothingToUndo,
    m_InvalidName := PySem.W.mg_of X G aC_InvalidName,
    m_DuplicateName := PySem.W.mg_of X G aC_DuplicateName,
    m_UnknownName := PySem.W.mg_of X G aC_UnknownName,
    m_UnknownMark := PySem.W.mg_of X G aC_UnknownMark,
    m_InvalidCommand := PySem.W.mg_of X G aC_InvalidCommand,
    m_InvalidLine := PySem.W.mg_of X G aC_InvalidLine,
    x_DuplicateName := ⟨xe_DuplicateName, xk_DuplicateName, xs_DuplicateName, xt_DuplicateName⟩,
    x_InvalidAmounts := ⟨xe_InvalidAmounts, xk_InvalidAmounts, xs_InvalidAmounts, xt_InvalidAmounts⟩,
    x_InvalidCommand := ⟨xe_InvalidCommand, xk_InvalidCommand, xs_InvalidCommand, xt_InvalidCommand⟩,
    x_InvalidGroups := ⟨xe_InvalidGroups, xk_InvalidGroups, xs_InvalidGroups, xt_InvalidGroups⟩,
    x_InvalidLine := ⟨xe_InvalidLine, xk_InvalidLine, xs_InvalidLine, xt_InvalidLine⟩,
    x_InvalidMembers := ⟨xe_InvalidMembers, xk_InvalidMembers, xs_InvalidMembers, xt_InvalidMembers⟩,
    x_InvalidName := ⟨xe_InvalidName, xk_InvalidName, xs_InvalidName, xt_InvalidName⟩,
    x_InvalidPrices := ⟨xe_InvalidPrices, xk_InvalidPrices, xs_InvalidPrices, xt_InvalidPrices⟩,
    x_InvalidRoll := ⟨xe_InvalidRoll, xk_InvalidRoll, xs_InvalidRoll, xt_InvalidRoll⟩,
    x_InvalidStep := ⟨xe_InvalidStep, xk_InvalidStep, xs_InvalidStep, xt_InvalidStep⟩,
    fi_NoSolution := fi_NoSolution,
    fdi_NoSolution := _,
    ui_NoSolution := fun_mk xu_NoSolution xc_NoSolution xj_NoSolution,
    bi_NoSolution := (fun_mk (st := inClass (top 4) 0) xu_NoSolution xc_NoSolution xj_NoSolution).binds (ps := ["self", "group"]) (fun _ _ _ _ _ _ us hl => match us, hl with | [_, _], _ => rfl),
    bk_NoSolution := (fun s u ws _ hl => match ws, hl with | [_], _ => .of_eq rfl),
    ox_NoSolution := oexC_of xl_NoSolution xr_NoSolution xa_NoSolution xs_NoSolution xt_NoSolution xk_NoSolution,
    na_NoSolution := xn_NoSolution,
    in_NoSolution := xi_NoSolution,
    tf_NoSolution := xf_NoSolution,
    x_NotASolution := ⟨xe_NotASolution, xk_NotASolution, xs_NotASolution, xt_NotASolution⟩,
    fi_NotAdmitted := fi_NotAdmitted,
    fdi_NotAdmitted := _,
    ui_NotAdmitted := fun_mk xu_NotAdmitted xc_NotAdmitted xj_NotAdmitted,
    bi_NotAdmitted := (fun_mk (st := inClass (top 3) 0) xu_NotAdmitted xc_NotAdmitted xj_NotAdmitted).binds (ps := ["self", "group"]) (fun _ _ _ _ _ _ us hl => match us, hl with | [_, _], _ => rfl),
    bk_NotAdmitted := (fun s u ws _ hl => match ws, hl with | [_], _ => .of_eq rfl),
    ox_NotAdmitted := oexC_of xl_NotAdmitted xr_NotAdmitted xa_NotAdmitted xs_NotAdmitted xt_NotAdmitted xk_NotAdmitted,
    na_NotAdmitted := xn_NotAdmitted,
    in_NotAdmitted := xi_NotAdmitted,
    tf_NotAdmitted := xf_NotAdmitted,
    x_NothingToUndo := ⟨xe_NothingToUndo, xk_NothingToUndo, xs_NothingToUndo, xt_NothingToUndo⟩,
    fi_ParseError := fi_ParseError,
    fdi_ParseError := _,
    ui_ParseError := fun_mk xu_ParseError xc_ParseError xj_ParseError,
    bi_ParseError := (fun_mk (st := inClass (top 2) 0) xu_ParseError xc_ParseError xj_ParseError).binds (ps := ["self", "line"]) (fun _ _ _ _ _ _ us hl => match us, hl with | [_, _], _ => rfl),
    bk_ParseError := (fun s u ws _ hl => match ws, hl with | [_], _ => .of_eq rfl),
    ox_ParseError := oexC_of xl_ParseError xr_ParseError xa_ParseError xs_ParseError xt_ParseError xk_ParseError,
    na_ParseError := xn_ParseError,
    in_ParseError := xi_ParseError,
    tf_ParseError := xf_ParseError,
    x_PlanFinished := ⟨xe_PlanFinished, xk_PlanFinished, xs_PlanFinished, xt_PlanFinished⟩,
    x_UnknownGroup := ⟨xe_UnknownGroup, xk_UnknownGroup, xs_UnknownGroup, xt_UnknownGroup⟩,
    x_UnknownMark := ⟨xe_UnknownMark, xk_UnknownMark, xs_UnknownMark, xt_UnknownMark⟩,
    x_UnknownName := ⟨xe_UnknownName, xk_UnknownName, xs_UnknownName, xt_UnknownName⟩,
    ve := ⟨ve_r, ve_g, ve_i⟩,
    ie_DuplicateName := ⟨kit_exc xd_DuplicateName xt_DuplicateName (fun z => nomatch z) xq_DuplicateName_non, fun q hq => by simp [ix_DuplicateName] at hq; rcases hq with rfl | rfl | rfl | rfl | rfl | rfl | rfl | rfl | rfl | rfl | rfl | rfl | rfl | rfl | rfl | rfl | rfl | rfl | rfl; exact ⟨excC_of xg_ParseError xh_ParseError xs_ParseError xd_ParseError xo_ParseError oc_get2 oc_tak2 xm_ParseError, kit_exc xd_DuplicateName xt_DuplicateName (fun h => xne_ParseError_DuplicateName (Value.ref.inj h)) xq_DuplicateName_ParseError⟩; exact ⟨excC_of xg_NotAdmitted xh_NotAdmitted xs_NotAdmitted xd_NotAdmitted xo_NotAdmitted oc_get2 oc_tak2 xm_NotAdmitted, kit_exc xd_DuplicateName xt_DuplicateName (fun h => xne_NotAdmitted_DuplicateName (Value.ref.inj h)) xq_DuplicateName_NotAdmitted⟩; exact ⟨excC_of xg_NoSolution xh_NoSolution xs_NoSolution xd_NoSolution xo_NoSolution oc_get2 oc_tak2 xm_NoSolution, kit_exc xd_DuplicateName xt_DuplicateName (fun h => xne_NoSolution_DuplicateName (Value.ref.inj h)) xq_DuplicateName_NoSolution⟩; exact ⟨excC_of xg_InvalidGroups xh_InvalidGroups xs_InvalidGroups xd_InvalidGroups xo_InvalidGroups oc_get2 oc_tak2 xm_InvalidGroups, kit_exc xd_DuplicateName xt_DuplicateName (fun h => xne_InvalidGroups_DuplicateName (Value.ref.inj h)) xq_DuplicateName_InvalidGroups⟩; exact ⟨excC_of xg_UnknownGroup xh_UnknownGroup xs_UnknownGroup xd_UnknownGroup xo_UnknownGroup oc_get2 oc_tak2 xm_UnknownGroup, kit_exc xd_DuplicateName xt_DuplicateName (fun h => xne_UnknownGroup_DuplicateName (Value.ref.inj h)) xq_DuplicateName_UnknownGroup⟩; exact ⟨excC_of xg_InvalidRoll xh_InvalidRoll xs_InvalidRoll xd_InvalidRoll xo_InvalidRoll oc_get2 oc_tak2 xm_InvalidRoll, kit_exc xd_DuplicateName xt_DuplicateName (fun h => xne_InvalidRoll_DuplicateName (Value.ref.inj h)) xq_DuplicateName_InvalidRoll⟩; exact ⟨excC_of xg_InvalidMembers xh_InvalidMembers xs_InvalidMembers xd_InvalidMembers xo_InvalidMembers oc_get2 oc_tak2 xm_InvalidMembers, kit_exc xd_DuplicateName xt_DuplicateName (fun h => xne_InvalidMembers_DuplicateName (Value.ref.inj h)) xq_DuplicateName_InvalidMembers⟩; exact ⟨excC_of xg_InvalidStep xh_InvalidStep xs_InvalidStep xd_InvalidStep xo_InvalidStep oc_get2 oc_tak2 xm_InvalidStep, kit_exc xd_DuplicateName xt_DuplicateName (fun h => xne_InvalidStep_DuplicateName (Value.ref.inj h)) xq_DuplicateName_InvalidStep⟩; exact ⟨excC_of xg_InvalidPrices xh_InvalidPrices xs_InvalidPrices xd_InvalidPrices xo_InvalidPrices oc_get2 oc_tak2 xm_InvalidPrices, kit_exc xd_DuplicateName xt_DuplicateName (fun h => xne_InvalidPrices_DuplicateName (Value.ref.inj h)) xq_DuplicateName_InvalidPrices⟩; exact ⟨excC_of xg_InvalidAmounts xh_InvalidAmounts xs_InvalidAmounts xd_InvalidAmounts xo_InvalidAmounts oc_get2 oc_tak2 xm_InvalidAmounts, kit_exc xd_DuplicateName xt_DuplicateName (fun h => xne_InvalidAmounts_DuplicateName (Value.ref.inj h)) xq_DuplicateName_InvalidAmounts⟩; exact ⟨excC_of xg_NotASolution xh_NotASolution xs_NotASolution xd_NotASolution xo_NotASolution oc_get2 oc_tak2 xm_NotASolution, kit_exc xd_DuplicateName xt_DuplicateName (fun h => xne_NotASolution_DuplicateName (Value.ref.inj h)) xq_DuplicateName_NotASolution⟩; exact ⟨excC_of xg_PlanFinished xh_PlanFinished xs_PlanFinished xd_PlanFinished xo_PlanFinished oc_get2 oc_tak2 xm_PlanFinished, kit_exc xd_DuplicateName xt_DuplicateName (fun h => xne_PlanFinished_DuplicateName (Value.ref.inj h)) xq_DuplicateName_PlanFinished⟩; exact ⟨excC_of xg_NothingToUndo xh_NothingToUndo xs_NothingToUndo xd_NothingToUndo xo_NothingToUndo oc_get2 oc_tak2 xm_NothingToUndo, kit_exc xd_DuplicateName xt_DuplicateName (fun h => xne_NothingToUndo_DuplicateName (Value.ref.inj h)) xq_DuplicateName_NothingToUndo⟩; exact ⟨excC_of xg_InvalidName xh_InvalidName xs_InvalidName xd_InvalidName xo_InvalidName oc_get2 oc_tak2 xm_InvalidName, kit_exc xd_DuplicateName xt_DuplicateName (fun h => xne_InvalidName_DuplicateName (Value.ref.inj h)) xq_DuplicateName_InvalidName⟩; exact ⟨excC_of xg_DuplicateName xh_DuplicateName xs_DuplicateName xd_DuplicateName xo_DuplicateName oc_get2 oc_tak2 xm_DuplicateName, kit_self _⟩; exact ⟨excC_of xg_UnknownName xh_UnknownName xs_UnknownName xd_UnknownName xo_UnknownName oc_get2 oc_tak2 xm_UnknownName, kit_exc xd_DuplicateName xt_DuplicateName (fun h => xne_DuplicateName_UnknownName.symm (Value.ref.inj h)) xq_DuplicateName_UnknownName⟩; exact ⟨excC_of xg_UnknownMark xh_UnknownMark xs_UnknownMark xd_UnknownMark xo_UnknownMark oc_get2 oc_tak2 xm_UnknownMark, kit_exc xd_DuplicateName xt_DuplicateName (fun h => xne_DuplicateName_UnknownMark.symm (Value.ref.inj h)) xq_DuplicateName_UnknownMark⟩; exact ⟨excC_of xg_InvalidCommand xh_InvalidCommand xs_InvalidCommand xd_InvalidCommand xo_InvalidCommand oc_get2 oc_tak2 xm_InvalidCommand, kit_exc xd_DuplicateName xt_DuplicateName (fun h => xne_DuplicateName_InvalidCommand.symm (Value.ref.inj h)) xq_DuplicateName_InvalidCommand⟩; exact ⟨excC_of xg_InvalidLine xh_InvalidLine xs_InvalidLine xd_InvalidLine xo_InvalidLine oc_get2 oc_tak2 xm_InvalidLine, kit_exc xd_DuplicateName xt_DuplicateName (fun h => xne_DuplicateName_InvalidLine.symm (Value.ref.inj h)) xq_DuplicateName_InvalidLine⟩⟩,
    ie_InvalidAmounts := ⟨kit_exc xd_InvalidAmounts xt_InvalidAmounts (fun z => nomatch z) xq_InvalidAmounts_non, fun q hq => by simp [ix_InvalidAmounts] at hq; rcases hq with rfl | rfl | rfl | rfl | rfl | rfl | rfl | rfl | rfl | rfl | rfl | rfl | rfl | rfl | rfl | rfl | rfl | rfl | rfl; exact ⟨excC_of xg_ParseError xh_ParseError xs_ParseError xd_ParseError xo_ParseError oc_get2 oc_tak2 xm_ParseError, kit_exc xd_InvalidAmounts xt_InvalidAmounts (fun h => xne_ParseError_InvalidAmounts (Value.ref.inj h)) xq_InvalidAmounts_ParseError⟩; exact ⟨excC_of xg_NotAdmitted xh_NotAdmitted xs_NotAdmitted xd_NotAdmitted xo_NotAdmitted oc_get2 oc_tak2 xm_NotAdmitted, kit_exc xd_InvalidAmounts xt_InvalidAmounts (fun h => xne_NotAdmitted_InvalidAmounts (Value.ref.inj h)) xq_InvalidAmounts_NotAdmitted⟩; exact ⟨excC_of xg_NoSolution xh_NoSolution xs_NoSolution xd_NoSolution xo_NoSolution oc_get2 oc_tak2 xm_NoSolution, kit_exc xd_InvalidAmounts xt_InvalidAmounts (fun h => xne_NoSolution_InvalidAmounts (Value.ref.inj h)) xq_InvalidAmounts_NoSolution⟩; exact ⟨excC_of xg_InvalidGroups xh_InvalidGroups xs_InvalidGroups xd_InvalidGroups xo_InvalidGroups oc_get2 oc_tak2 xm_InvalidGroups, kit_exc xd_InvalidAmounts xt_InvalidAmounts (fun h => xne_InvalidGroups_InvalidAmounts (Value.ref.inj h)) xq_InvalidAmounts_InvalidGroups⟩; exact ⟨excC_of xg_UnknownGroup xh_UnknownGroup xs_UnknownGroup xd_UnknownGroup xo_UnknownGroup oc_get2 oc_tak2 xm_UnknownGroup, kit_exc xd_InvalidAmounts xt_InvalidAmounts (fun h => xne_UnknownGroup_InvalidAmounts (Value.ref.inj h)) xq_InvalidAmounts_UnknownGroup⟩; exact ⟨excC_of xg_InvalidRoll xh_InvalidRoll xs_InvalidRoll xd_InvalidRoll xo_InvalidRoll oc_get2 oc_tak2 xm_InvalidRoll, kit_exc xd_InvalidAmounts xt_InvalidAmounts (fun h => xne_InvalidRoll_InvalidAmounts (Value.ref.inj h)) xq_InvalidAmounts_InvalidRoll⟩; exact ⟨excC_of xg_InvalidMembers xh_InvalidMembers xs_InvalidMembers xd_InvalidMembers xo_InvalidMembers oc_get2 oc_tak2 xm_InvalidMembers, kit_exc xd_InvalidAmounts xt_InvalidAmounts (fun h => xne_InvalidMembers_InvalidAmounts (Value.ref.inj h)) xq_InvalidAmounts_InvalidMembers⟩; exact ⟨excC_of xg_InvalidStep xh_InvalidStep xs_InvalidStep xd_InvalidStep xo_InvalidStep oc_get2 oc_tak2 xm_InvalidStep, kit_exc xd_InvalidAmounts xt_InvalidAmounts (fun h => xne_InvalidStep_InvalidAmounts (Value.ref.inj h)) xq_InvalidAmounts_InvalidStep⟩; exact ⟨excC_of xg_InvalidPrices xh_InvalidPrices xs_InvalidPrices xd_InvalidPrices xo_InvalidPrices oc_get2 oc_tak2 xm_InvalidPrices, kit_exc xd_InvalidAmounts xt_InvalidAmounts (fun h => xne_InvalidPrices_InvalidAmounts (Value.ref.inj h)) xq_InvalidAmounts_InvalidPrices⟩; exact ⟨excC_of xg_InvalidAmounts xh_InvalidAmounts xs_InvalidAmounts xd_InvalidAmounts xo_InvalidAmounts oc_get2 oc_tak2 xm_InvalidAmounts, kit_self _⟩; exact ⟨excC_of xg_NotASolution xh_NotASolution xs_NotASolution xd_NotASolution xo_NotASolution oc_get2 oc_tak2 xm_NotASolution, kit_exc xd_InvalidAmounts xt_InvalidAmounts (fun h => xne_InvalidAmounts_NotASolution.symm (Value.ref.inj h)) xq_InvalidAmounts_NotASolution⟩; exact ⟨excC_of xg_PlanFinished xh_PlanFinished xs_PlanFinished xd_PlanFinished xo_PlanFinished oc_get2 oc_tak2 xm_PlanFinished, kit_exc xd_InvalidAmounts xt_InvalidAmounts (fun h => xne_InvalidAmounts_PlanFinished.symm (Value.ref.inj h)) xq_InvalidAmounts_PlanFinished⟩; exact ⟨excC_of xg_NothingToUndo xh_NothingToUndo xs_NothingToUndo xd_NothingToUndo xo_NothingToUndo oc_get2 oc_tak2 xm_NothingToUndo, kit_exc xd_InvalidAmounts xt_InvalidAmounts (fun h => xne_InvalidAmounts_NothingToUndo.symm (Value.ref.inj h)) xq_InvalidAmounts_NothingToUndo⟩; exact ⟨excC_of xg_InvalidName xh_InvalidName xs_InvalidName xd_InvalidName xo_InvalidName oc_get2 oc_tak2 xm_InvalidName, kit_exc xd_InvalidAmounts xt_InvalidAmounts (fun h => xne_InvalidAmounts_InvalidName.symm (Value.ref.inj h)) xq_InvalidAmounts_InvalidName⟩; exact ⟨excC_of xg_DuplicateName xh_DuplicateName xs_DuplicateName xd_DuplicateName xo_DuplicateName oc_get2 oc_tak2 xm_DuplicateName, kit_exc xd_InvalidAmounts xt_InvalidAmounts (fun h => xne_InvalidAmounts_DuplicateName.symm (Value.ref.inj h)) xq_InvalidAmounts_DuplicateName⟩; exact ⟨excC_of xg_UnknownName xh_UnknownName xs_UnknownName xd_UnknownName xo_UnknownName oc_get2 oc_tak2 xm_UnknownName, kit_exc xd_InvalidAmounts xt_InvalidAmounts (fun h => xne_InvalidAmounts_UnknownName.symm (Value.ref.inj h)) xq_InvalidAmounts_UnknownName⟩; exact ⟨excC_of xg_UnknownMark xh_UnknownMark xs_UnknownMark xd_UnknownMark xo_UnknownMark oc_get2 oc_tak2 xm_UnknownMark, kit_exc xd_InvalidAmounts xt_InvalidAmounts (fun h => xne_InvalidAmounts_UnknownMark.symm (Value.ref.inj h)) xq_InvalidAmounts_UnknownMark⟩; exact ⟨excC_of xg_InvalidCommand xh_InvalidCommand xs_InvalidCommand xd_InvalidCommand xo_InvalidCommand oc_get2 oc_tak2 xm_InvalidCommand, kit_exc xd_InvalidAmounts xt_InvalidAmounts (fun h => xne_InvalidAmounts_InvalidCommand.symm (Value.ref.inj h)) xq_InvalidAmounts_InvalidCommand⟩; exact ⟨excC_of xg_InvalidLine xh_InvalidLine xs_InvalidLine xd_InvalidLine xo_InvalidLine oc_get2 oc_tak2 xm_InvalidLine, kit_exc xd_InvalidAmounts xt_InvalidAmounts (fun h => xne_InvalidAmounts_InvalidLine.symm (Value.ref.inj h)) xq_InvalidAmounts_InvalidLine⟩⟩,
    ie_InvalidCommand := ⟨kit_exc xd_InvalidCommand xt_InvalidCommand (fun z => nomatch z) xq_InvalidCommand_non, fun q hq => by simp [ix_InvalidCommand] at hq; rcases hq with rfl | rfl | rfl | rfl | rfl | rfl | rfl | rfl | rfl | rfl | rfl | rfl | rfl | rfl | rfl | rfl | rfl | rfl | rfl; exact ⟨excC_of xg_ParseError xh_ParseError xs_ParseError xd_ParseError xo_ParseError oc_get2 oc_tak2 xm_ParseError, kit_exc xd_InvalidCommand xt_InvalidCommand (fun h => xne_ParseError_InvalidCommand (Value.ref.inj h)) xq_InvalidCommand_ParseError⟩; exact ⟨excC_of xg_NotAdmitted xh_NotAdmitted xs_NotAdmitted xd_NotAdmitted xo_NotAdmitted oc_get2 oc_tak2 xm_NotAdmitted, kit_exc xd_InvalidCommand xt_InvalidCommand (fun h => xne_NotAdmitted_InvalidCommand (Value.ref.inj h)) xq_InvalidCommand_NotAdmitted⟩; exact ⟨excC_of xg_NoSolution xh_NoSolution xs_NoSolution xd_NoSolution xo_NoSolution oc_get2 oc_tak2 xm_NoSolution, kit_exc xd_InvalidCommand xt_InvalidCommand (fun h => xne_NoSolution_InvalidCommand (Value.ref.inj h)) xq_InvalidCommand_NoSolution⟩; exact ⟨excC_of xg_InvalidGroups xh_InvalidGroups xs_InvalidGroups xd_InvalidGroups xo_InvalidGroups oc_get2 oc_tak2 xm_InvalidGroups, kit_exc xd_InvalidCommand xt_InvalidCommand (fun h => xne_InvalidGroups_InvalidCommand (Value.ref.inj h)) xq_InvalidCommand_InvalidGroups⟩; exact ⟨excC_of xg_UnknownGroup xh_UnknownGroup xs_UnknownGroup xd_UnknownGroup xo_UnknownGroup oc_get2 oc_tak2 xm_UnknownGroup, kit_exc xd_InvalidCommand xt_InvalidCommand (fun h => xne_UnknownGroup_InvalidCommand (Value.ref.inj h)) xq_InvalidCommand_UnknownGroup⟩; exact ⟨excC_of xg_InvalidRoll xh_InvalidRoll xs_InvalidRoll xd_InvalidRoll xo_InvalidRoll oc_get2 oc_tak2 xm_InvalidRoll, kit_exc xd_InvalidCommand xt_InvalidCommand (fun h => xne_InvalidRoll_InvalidCommand (Value.ref.inj h)) xq_InvalidCommand_InvalidRoll⟩; exact ⟨excC_of xg_InvalidMembers xh_InvalidMembers xs_InvalidMembers xd_InvalidMembers xo_InvalidMembers oc_get2 oc_tak2 xm_InvalidMembers, kit_exc xd_InvalidCommand xt_InvalidCommand (fun h => xne_InvalidMembers_InvalidCommand (Value.ref.inj h)) xq_InvalidCommand_InvalidMembers⟩; exact ⟨excC_of xg_InvalidStep xh_InvalidStep xs_InvalidStep xd_InvalidStep xo_InvalidStep oc_get2 oc_tak2 xm_InvalidStep, kit_exc xd_InvalidCommand xt_InvalidCommand (fun h => xne_InvalidStep_InvalidCommand (Value.ref.inj h)) xq_InvalidCommand_InvalidStep⟩; exact ⟨excC_of xg_InvalidPrices xh_InvalidPrices xs_InvalidPrices xd_InvalidPrices xo_InvalidPrices oc_get2 oc_tak2 xm_InvalidPrices, kit_exc xd_InvalidCommand xt_InvalidCommand (fun h => xne_InvalidPrices_InvalidCommand (Value.ref.inj h)) xq_InvalidCommand_InvalidPrices⟩; exact ⟨excC_of xg_InvalidAmounts xh_InvalidAmounts xs_InvalidAmounts xd_InvalidAmounts xo_InvalidAmounts oc_get2 oc_tak2 xm_InvalidAmounts, kit_exc xd_InvalidCommand xt_InvalidCommand (fun h => xne_InvalidAmounts_InvalidCommand (Value.ref.inj h)) xq_InvalidCommand_InvalidAmounts⟩; exact ⟨excC_of xg_NotASolution xh_NotASolution xs_NotASolution xd_NotASolution xo_NotASolution oc_get2 oc_tak2 xm_NotASolution, kit_exc xd_InvalidCommand xt_InvalidCommand (fun h => xne_NotASolution_InvalidCommand (Value.ref.inj h)) xq_InvalidCommand_NotASolution⟩; exact ⟨excC_of xg_PlanFinished xh_PlanFinished xs_PlanFinished xd_PlanFinished xo_PlanFinished oc_get2 oc_tak2 xm_PlanFinished, kit_exc xd_InvalidCommand xt_InvalidCommand (fun h => xne_PlanFinished_InvalidCommand (Value.ref.inj h)) xq_InvalidCommand_PlanFinished⟩; exact ⟨excC_of xg_NothingToUndo xh_NothingToUndo xs_NothingToUndo xd_NothingToUndo xo_NothingToUndo oc_get2 oc_tak2 xm_NothingToUndo, kit_exc xd_InvalidCommand xt_InvalidCommand (fun h => xne_NothingToUndo_InvalidCommand (Value.ref.inj h)) xq_InvalidCommand_NothingToUndo⟩; exact ⟨excC_of xg_InvalidName xh_InvalidName xs_InvalidName xd_InvalidName xo_InvalidName oc_get2 oc_tak2 xm_InvalidName, kit_exc xd_InvalidCommand xt_InvalidCommand (fun h => xne_InvalidName_InvalidCommand (Value.ref.inj h)) xq_InvalidCommand_InvalidName⟩; exact ⟨excC_of xg_DuplicateName xh_DuplicateName xs_DuplicateName xd_DuplicateName xo_DuplicateName oc_get2 oc_tak2 xm_DuplicateName, kit_exc xd_InvalidCommand xt_InvalidCommand (fun h => xne_DuplicateName_InvalidCommand (Value.ref.inj h)) xq_InvalidCommand_DuplicateName⟩; exact ⟨excC_of xg_UnknownName xh_UnknownName xs_UnknownName xd_UnknownName xo_UnknownName oc_get2 oc_tak2 xm_UnknownName, kit_exc xd_InvalidCommand xt_InvalidCommand (fun h => xne_UnknownName_InvalidCommand (Value.ref.inj h)) xq_InvalidCommand_UnknownName⟩; exact ⟨excC_of xg_UnknownMark xh_UnknownMark xs_UnknownMark xd_UnknownMark xo_UnknownMark oc_get2 oc_tak2 xm_UnknownMark, kit_exc xd_InvalidCommand xt_InvalidCommand (fun h => xne_UnknownMark_InvalidCommand (Value.ref.inj h)) xq_InvalidCommand_UnknownMark⟩; exact ⟨excC_of xg_InvalidCommand xh_InvalidCommand xs_InvalidCommand xd_InvalidCommand xo_InvalidCommand oc_get2 oc_tak2 xm_InvalidCommand, kit_self _⟩; exact ⟨excC_of xg_InvalidLine xh_InvalidLine xs_InvalidLine xd_InvalidLine xo_InvalidLine oc_get2 oc_tak2 xm_InvalidLine, kit_exc xd_InvalidCommand xt_InvalidCommand (fun h => xne_InvalidCommand_InvalidLine.symm (Value.ref.inj h)) xq_InvalidCommand_InvalidLine⟩⟩,
    ie_InvalidGroups := ⟨kit_exc xd_InvalidGroups xt_InvalidGroups (fun z => nomatch z) xq_InvalidGroups_non, fun q hq => by simp [ix_InvalidGroups] at hq; rcases hq with rfl | rfl | rfl | rfl | rfl | rfl | rfl | rfl | rfl | rfl | rfl | rfl | rfl | rfl | rfl | rfl | rfl | rfl | rfl; exact ⟨excC_of xg_ParseError xh_ParseError xs_ParseError xd_ParseError xo_ParseError oc_get2 oc_tak2 xm_ParseError, kit_exc xd_InvalidGroups xt_InvalidGroups (fun h => xne_ParseError_InvalidGroups (Value.ref.inj h)) xq_InvalidGroups_ParseError⟩; exact ⟨excC_of xg_NotAdmitted xh_NotAdmitted xs_NotAdmitted xd_NotAdmitted xo_NotAdmitted oc_get2 oc_tak2 xm_NotAdmitted, kit_exc xd_InvalidGroups xt_InvalidGroups (fun h => xne_NotAdmitted_InvalidGroups (Value.ref.inj h)) xq_InvalidGroups_NotAdmitted⟩; exact ⟨excC_of xg_NoSolution xh_NoSolution xs_NoSolution xd_NoSolution xo_NoSolution oc_get2 oc_tak2 xm_NoSolution, kit_exc xd_InvalidGroups xt_InvalidGroups (fun h => xne_NoSolution_InvalidGroups (Value.ref.inj h)) xq_InvalidGroups_NoSolution⟩; exact ⟨excC_of xg_InvalidGroups xh_InvalidGroups xs_InvalidGroups xd_InvalidGroups xo_InvalidGroups oc_get2 oc_tak2 xm_InvalidGroups, kit_self _⟩; exact ⟨excC_of xg_UnknownGroup xh_UnknownGroup xs_UnknownGroup xd_UnknownGroup xo_UnknownGroup oc_get2 oc_tak2 xm_UnknownGroup, kit_exc xd_InvalidGroups xt_InvalidGroups (fun h => xne_InvalidGroups_UnknownGroup.symm (Value.ref.inj h)) xq_InvalidGroups_UnknownGroup⟩; exact ⟨excC_of xg_InvalidRoll xh_InvalidRoll xs_InvalidRoll xd_InvalidRoll xo_InvalidRoll oc_get2 oc_tak2 xm_InvalidRoll, kit_exc xd_InvalidGroups xt_InvalidGroups (fun h => xne_InvalidGroups_InvalidRoll.symm (Value.ref.inj h)) xq_InvalidGroups_InvalidRoll⟩; exact ⟨excC_of xg_InvalidMembers xh_InvalidMembers xs_InvalidMembers xd_InvalidMembers xo_InvalidMembers oc_get2 oc_tak2 xm_InvalidMembers, kit_exc xd_InvalidGroups xt_InvalidGroups (fun h => xne_InvalidGroups_InvalidMembers.symm (Value.ref.inj h)) xq_InvalidGroups_InvalidMembers⟩; exact ⟨excC_of xg_InvalidStep xh_InvalidStep xs_InvalidStep xd_InvalidStep xo_InvalidStep oc_get2 oc_tak2 xm_InvalidStep, kit_exc xd_InvalidGroups xt_InvalidGroups (fun h => xne_InvalidGroups_InvalidStep.symm (Value.ref.inj h)) xq_InvalidGroups_InvalidStep⟩; exact ⟨excC_of xg_InvalidPrices xh_InvalidPrices xs_InvalidPrices xd_InvalidPrices xo_InvalidPrices oc_get2 oc_tak2 xm_InvalidPrices, kit_exc xd_InvalidGroups xt_InvalidGroups (fun h => xne_InvalidGroups_InvalidPrices.symm (Value.ref.inj h)) xq_InvalidGroups_InvalidPrices⟩; exact ⟨excC_of xg_InvalidAmounts xh_InvalidAmounts xs_InvalidAmounts xd_InvalidAmounts xo_InvalidAmounts oc_get2 oc_tak2 xm_InvalidAmounts, kit_exc xd_InvalidGroups xt_InvalidGroups (fun h => xne_InvalidGroups_InvalidAmounts.symm (Value.ref.inj h)) xq_InvalidGroups_InvalidAmounts⟩; exact ⟨excC_of xg_NotASolution xh_NotASolution xs_NotASolution xd_NotASolution xo_NotASolution oc_get2 oc_tak2 xm_NotASolution, kit_exc xd_InvalidGroups xt_InvalidGroups (fun h => xne_InvalidGroups_NotASolution.symm (Value.ref.inj h)) xq_InvalidGroups_NotASolution⟩; exact ⟨excC_of xg_PlanFinished xh_PlanFinished xs_PlanFinished xd_PlanFinished xo_PlanFinished oc_get2 oc_tak2 xm_PlanFinished, kit_exc xd_InvalidGroups xt_InvalidGroups (fun h => xne_InvalidGroups_PlanFinished.symm (Value.ref.inj h)) xq_InvalidGroups_PlanFinished⟩; exact ⟨excC_of xg_NothingToUndo xh_NothingToUndo xs_NothingToUndo xd_NothingToUndo xo_NothingToUndo oc_get2 oc_tak2 xm_NothingToUndo, kit_exc xd_InvalidGroups xt_InvalidGroups (fun h => xne_InvalidGroups_NothingToUndo.symm (Value.ref.inj h)) xq_InvalidGroups_NothingToUndo⟩; exact ⟨excC_of xg_InvalidName xh_InvalidName xs_InvalidName xd_InvalidName xo_InvalidName oc_get2 oc_tak2 xm_InvalidName, kit_exc xd_InvalidGroups xt_InvalidGroups (fun h => xne_InvalidGroups_InvalidName.symm (Value.ref.inj h)) xq_InvalidGroups_InvalidName⟩; exact ⟨excC_of xg_DuplicateName xh_DuplicateName xs_DuplicateName xd_DuplicateName xo_DuplicateName oc_get2 oc_tak2 xm_DuplicateName, kit_exc xd_InvalidGroups xt_InvalidGroups (fun h => xne_InvalidGroups_DuplicateName.symm (Value.ref.inj h)) xq_InvalidGroups_DuplicateName⟩; exact ⟨excC_of xg_UnknownName xh_UnknownName xs_UnknownName xd_UnknownName xo_UnknownName oc_get2 oc_tak2 xm_UnknownName, kit_exc xd_InvalidGroups xt_InvalidGroups (fun h => xne_InvalidGroups_UnknownName.symm (Value.ref.inj h)) xq_InvalidGroups_UnknownName⟩; exact ⟨excC_of xg_UnknownMark xh_UnknownMark xs_UnknownMark xd_UnknownMark xo_UnknownMark oc_get2 oc_tak2 xm_UnknownMark, kit_exc xd_InvalidGroups xt_InvalidGroups (fun h => xne_InvalidGroups_UnknownMark.symm (Value.ref.inj h)) xq_InvalidGroups_UnknownMark⟩; exact ⟨excC_of xg_InvalidCommand xh_InvalidCommand xs_InvalidCommand xd_InvalidCommand xo_InvalidCommand oc_get2 oc_tak2 xm_InvalidCommand, kit_exc xd_InvalidGroups xt_InvalidGroups (fun h => xne_InvalidGroups_InvalidCommand.symm (Value.ref.inj h)) xq_InvalidGroups_InvalidCommand⟩; exact ⟨excC_of xg_InvalidLine xh_InvalidLine xs_InvalidLine xd_InvalidLine xo_InvalidLine oc_get2 oc_tak2 xm_InvalidLine, kit_exc xd_InvalidGroups xt_InvalidGroups (fun h => xne_InvalidGroups_InvalidLine.symm (Value.ref.inj h)) xq_InvalidGroups_InvalidLine⟩⟩,
    ie_InvalidLine := ⟨kit_exc xd_InvalidLine xt_InvalidLine (fun z => nomatch z) xq_InvalidLine_non, fun q hq => by simp [ix_InvalidLine] at hq; rcases hq with rfl | rfl | rfl | rfl | rfl | rfl | rfl | rfl | rfl | rfl | rfl | rfl | rfl | rfl | rfl | rfl | rfl | rfl | rfl; exact ⟨excC_of xg_ParseError xh_ParseError xs_ParseError xd_ParseError xo_ParseError oc_get2 oc_tak2 xm_ParseError, kit_exc xd_InvalidLine xt_InvalidLine (fun h => xne_ParseError_InvalidLine (Value.ref.inj h)) xq_InvalidLine_ParseError⟩; exact ⟨excC_of xg_NotAdmitted xh_NotAdmitted xs_NotAdmitted xd_NotAdmitted xo_NotAdmitted oc_get2 oc_tak2 xm_NotAdmitted, kit_exc xd_InvalidLine xt_InvalidLine (fun h => xne_NotAdmitted_InvalidLine (Value.ref.inj h)) xq_InvalidLine_NotAdmitted⟩; exact ⟨excC_of xg_NoSolution xh_NoSolution xs_NoSolution xd_NoSolution xo_NoSolution oc_get2 oc_tak2 xm_NoSolution, kit_exc xd_InvalidLine xt_InvalidLine (fun h => xne_NoSolution_InvalidLine (Value.ref.inj h)) xq_InvalidLine_NoSolution⟩; exact ⟨excC_of xg_InvalidGroups xh_InvalidGroups xs_InvalidGroups xd_InvalidGroups xo_InvalidGroups oc_get2 oc_tak2 xm_InvalidGroups, kit_exc xd_InvalidLine xt_InvalidLine (fun h => xne_InvalidGroups_InvalidLine (Value.ref.inj h)) xq_InvalidLine_InvalidGroups⟩; exact ⟨excC_of xg_UnknownGroup xh_UnknownGroup xs_UnknownGroup xd_UnknownGroup xo_UnknownGroup oc_get2 oc_tak2 xm_UnknownGroup, kit_exc xd_InvalidLine xt_InvalidLine (fun h => xne_UnknownGroup_InvalidLine (Value.ref.inj h)) xq_InvalidLine_UnknownGroup⟩; exact ⟨excC_of xg_InvalidRoll xh_InvalidRoll xs_InvalidRoll xd_InvalidRoll xo_InvalidRoll oc_get2 oc_tak2 xm_InvalidRoll, kit_exc xd_InvalidLine xt_InvalidLine (fun h => xne_InvalidRoll_InvalidLine (Value.ref.inj h)) xq_InvalidLine_InvalidRoll⟩; exact ⟨excC_of xg_InvalidMembers xh_InvalidMembers xs_InvalidMembers xd_InvalidMembers xo_InvalidMembers oc_get2 oc_tak2 xm_InvalidMembers, kit_exc xd_InvalidLine xt_InvalidLine (fun h => xne_InvalidMembers_InvalidLine (Value.ref.inj h)) xq_InvalidLine_InvalidMembers⟩; exact ⟨excC_of xg_InvalidStep xh_InvalidStep xs_InvalidStep xd_InvalidStep xo_InvalidStep oc_get2 oc_tak2 xm_InvalidStep, kit_exc xd_InvalidLine xt_InvalidLine (fun h => xne_InvalidStep_InvalidLine (Value.ref.inj h)) xq_InvalidLine_InvalidStep⟩; exact ⟨excC_of xg_InvalidPrices xh_InvalidPrices xs_InvalidPrices xd_InvalidPrices xo_InvalidPrices oc_get2 oc_tak2 xm_InvalidPrices, kit_exc xd_InvalidLine xt_InvalidLine (fun h => xne_InvalidPrices_InvalidLine (Value.ref.inj h)) xq_InvalidLine_InvalidPrices⟩; exact ⟨excC_of xg_InvalidAmounts xh_InvalidAmounts xs_InvalidAmounts xd_InvalidAmounts xo_InvalidAmounts oc_get2 oc_tak2 xm_InvalidAmounts, kit_exc xd_InvalidLine xt_InvalidLine (fun h => xne_InvalidAmounts_InvalidLine (Value.ref.inj h)) xq_InvalidLine_InvalidAmounts⟩; exact ⟨excC_of xg_NotASolution xh_NotASolution xs_NotASolution xd_NotASolution xo_NotASolution oc_get2 oc_tak2 xm_NotASolution, kit_exc xd_InvalidLine xt_InvalidLine (fun h => xne_NotASolution_InvalidLine (Value.ref.inj h)) xq_InvalidLine_NotASolution⟩; exact ⟨excC_of xg_PlanFinished xh_PlanFinished xs_PlanFinished xd_PlanFinished xo_PlanFinished oc_get2 oc_tak2 xm_PlanFinished, kit_exc xd_InvalidLine xt_InvalidLine (fun h => xne_PlanFinished_InvalidLine (Value.ref.inj h)) xq_InvalidLine_PlanFinished⟩; exact ⟨excC_of xg_NothingToUndo xh_NothingToUndo xs_NothingToUndo xd_NothingToUndo xo_NothingToUndo oc_get2 oc_tak2 xm_NothingToUndo, kit_exc xd_InvalidLine xt_InvalidLine (fun h => xne_NothingToUndo_InvalidLine (Value.ref.inj h)) xq_InvalidLine_NothingToUndo⟩; exact ⟨excC_of xg_InvalidName xh_InvalidName xs_InvalidName xd_InvalidName xo_InvalidName oc_get2 oc_tak2 xm_InvalidName, kit_exc xd_InvalidLine xt_InvalidLine (fun h => xne_InvalidName_InvalidLine (Value.ref.inj h)) xq_InvalidLine_InvalidName⟩; exact ⟨excC_of xg_DuplicateName xh_DuplicateName xs_DuplicateName xd_DuplicateName xo_DuplicateName oc_get2 oc_tak2 xm_DuplicateName, kit_exc xd_InvalidLine xt_InvalidLine (fun h => xne_DuplicateName_InvalidLine (Value.ref.inj h)) xq_InvalidLine_DuplicateName⟩; exact ⟨excC_of xg_UnknownName xh_UnknownName xs_UnknownName xd_UnknownName xo_UnknownName oc_get2 oc_tak2 xm_UnknownName, kit_exc xd_InvalidLine xt_InvalidLine (fun h => xne_UnknownName_InvalidLine (Value.ref.inj h)) xq_InvalidLine_UnknownName⟩; exact ⟨excC_of xg_UnknownMark xh_UnknownMark xs_UnknownMark xd_UnknownMark xo_UnknownMark oc_get2 oc_tak2 xm_UnknownMark, kit_exc xd_InvalidLine xt_InvalidLine (fun h => xne_UnknownMark_InvalidLine (Value.ref.inj h)) xq_InvalidLine_UnknownMark⟩; exact ⟨excC_of xg_InvalidCommand xh_InvalidCommand xs_InvalidCommand xd_InvalidCommand xo_InvalidCommand oc_get2 oc_tak2 xm_InvalidCommand, kit_exc xd_InvalidLine xt_InvalidLine (fun h => xne_InvalidCommand_InvalidLine (Value.ref.inj h)) xq_InvalidLine_InvalidCommand⟩; exact ⟨excC_of xg_InvalidLine xh_InvalidLine xs_InvalidLine xd_InvalidLine xo_InvalidLine oc_get2 oc_tak2 xm_InvalidLine, kit_self _⟩⟩,
    ie_InvalidMembers := ⟨kit_exc xd_InvalidMembers xt_InvalidMembers (fun z => nomatch z) xq_InvalidMembers_non, fun q hq => by simp [ix_InvalidMembers] at hq; rcases hq with rfl | rfl | rfl | rfl | rfl | rfl | rfl | rfl | rfl | rfl | rfl | rfl | rfl | rfl | rfl | rfl | rfl | rfl | rfl; exact ⟨excC_of xg_ParseError xh_ParseError xs_ParseError xd_ParseError xo_ParseError oc_get2 oc_tak2 xm_ParseError, kit_exc xd_InvalidMembers xt_InvalidMembers (fun h => xne_ParseError_InvalidMembers (Value.ref.inj h)) xq_InvalidMembers_ParseError⟩; exact ⟨excC_of xg_NotAdmitted xh_NotAdmitted xs_NotAdmitted xd_NotAdmitted xo_NotAdmitted oc_get2 oc_tak2 xm_NotAdmitted, kit_exc xd_InvalidMembers xt_InvalidMembers (fun h => xne_NotAdmitted_InvalidMembers (Value.ref.inj h)) xq_InvalidMembers_NotAdmitted⟩; exact ⟨excC_of xg_NoSolution xh_NoSolution xs_NoSolution xd_NoSolution xo_NoSolution oc_get2 oc_tak2 xm_NoSolution, kit_exc xd_InvalidMembers xt_InvalidMembers (fun h => xne_NoSolution_InvalidMembers (Value.ref.inj h)) xq_InvalidMembers_NoSolution⟩; exact ⟨excC_of xg_InvalidGroups xh_InvalidGroups xs_InvalidGroups xd_InvalidGroups xo_InvalidGroups oc_get2 oc_tak2 xm_InvalidGroups, kit_exc xd_InvalidMembers xt_InvalidMembers (fun h => xne_InvalidGroups_InvalidMembers (Value.ref.inj h)) xq_InvalidMembers_InvalidGroups⟩; exact ⟨excC_of xg_UnknownGroup xh_UnknownGroup xs_UnknownGroup xd_UnknownGroup xo_UnknownGroup oc_get2 oc_tak2 xm_UnknownGroup, kit_exc xd_InvalidMembers xt_InvalidMembers (fun h => xne_UnknownGroup_InvalidMembers (Value.ref.inj h)) xq_InvalidMembers_UnknownGroup⟩; exact ⟨excC_of xg_InvalidRoll xh_InvalidRoll xs_InvalidRoll xd_InvalidRoll xo_InvalidRoll oc_get2 oc_tak2 xm_InvalidRoll, kit_exc xd_InvalidMembers xt_InvalidMembers (fun h => xne_InvalidRoll_InvalidMembers (Value.ref.inj h)) xq_InvalidMembers_InvalidRoll⟩; exact ⟨excC_of xg_InvalidMembers xh_InvalidMembers xs_InvalidMembers xd_InvalidMembers xo_InvalidMembers oc_get2 oc_tak2 xm_InvalidMembers, kit_self _⟩; exact ⟨excC_of xg_InvalidStep xh_InvalidStep xs_InvalidStep xd_InvalidStep xo_InvalidStep oc_get2 oc_tak2 xm_InvalidStep, kit_exc xd_InvalidMembers xt_InvalidMembers (fun h => xne_InvalidMembers_InvalidStep.symm (Value.ref.inj h)) xq_InvalidMembers_InvalidStep⟩; exact ⟨excC_of xg_InvalidPrices xh_InvalidPrices xs_InvalidPrices xd_InvalidPrices xo_InvalidPrices oc_get2 oc_tak2 xm_InvalidPrices, kit_exc xd_InvalidMembers xt_InvalidMembers (fun h => xne_InvalidMembers_InvalidPrices.symm (Value.ref.inj h)) xq_InvalidMembers_InvalidPrices⟩; exact ⟨excC_of xg_InvalidAmounts xh_InvalidAmounts xs_InvalidAmounts xd_InvalidAmounts xo_InvalidAmounts oc_get2 oc_tak2 xm_InvalidAmounts, kit_exc xd_InvalidMembers xt_InvalidMembers (fun h => xne_InvalidMembers_InvalidAmounts.symm (Value.ref.inj h)) xq_InvalidMembers_InvalidAmounts⟩; exact ⟨excC_of xg_NotASolution xh_NotASolution xs_NotASolution xd_NotASolution xo_NotASolution oc_get2 oc_tak2 xm_NotASolution, kit_exc xd_InvalidMembers xt_InvalidMembers (fun h => xne_InvalidMembers_NotASolution.symm (Value.ref.inj h)) xq_InvalidMembers_NotASolution⟩; exact ⟨excC_of xg_PlanFinished xh_PlanFinished xs_PlanFinished xd_PlanFinished xo_PlanFinished oc_get2 oc_tak2 xm_PlanFinished, kit_exc xd_InvalidMembers xt_InvalidMembers (fun h => xne_InvalidMembers_PlanFinished.symm (Value.ref.inj h)) xq_InvalidMembers_PlanFinished⟩; exact ⟨excC_of xg_NothingToUndo xh_NothingToUndo xs_NothingToUndo xd_NothingToUndo xo_NothingToUndo oc_get2 oc_tak2 xm_NothingToUndo, kit_exc xd_InvalidMembers xt_InvalidMembers (fun h => xne_InvalidMembers_NothingToUndo.symm (Value.ref.inj h)) xq_InvalidMembers_NothingToUndo⟩; exact ⟨excC_of xg_InvalidName xh_InvalidName xs_InvalidName xd_InvalidName xo_InvalidName oc_get2 oc_tak2 xm_InvalidName, kit_exc xd_InvalidMembers xt_InvalidMembers (fun h => xne_InvalidMembers_InvalidName.symm (Value.ref.inj h)) xq_InvalidMembers_InvalidName⟩; exact ⟨excC_of xg_DuplicateName xh_DuplicateName xs_DuplicateName xd_DuplicateName xo_DuplicateName oc_get2 oc_tak2 xm_DuplicateName, kit_exc xd_InvalidMembers xt_InvalidMembers (fun h => xne_InvalidMembers_DuplicateName.symm (Value.ref.inj h)) xq_InvalidMembers_DuplicateName⟩; exact ⟨excC_of xg_UnknownName xh_UnknownName xs_UnknownName xd_UnknownName xo_UnknownName oc_get2 oc_tak2 xm_UnknownName, kit_exc xd_InvalidMembers xt_InvalidMembers (fun h => xne_InvalidMembers_UnknownName.symm (Value.ref.inj h)) xq_InvalidMembers_UnknownName⟩; exact ⟨excC_of xg_UnknownMark xh_UnknownMark xs_UnknownMark xd_UnknownMark xo_UnknownMark oc_get2 oc_tak2 xm_UnknownMark, kit_exc xd_InvalidMembers xt_InvalidMembers (fun h => xne_InvalidMembers_UnknownMark.symm (Value.ref.inj h)) xq_InvalidMembers_UnknownMark⟩; exact ⟨excC_of xg_InvalidCommand xh_InvalidCommand xs_InvalidCommand xd_InvalidCommand xo_InvalidCommand oc_get2 oc_tak2 xm_InvalidCommand, kit_exc xd_InvalidMembers xt_InvalidMembers (fun h => xne_InvalidMembers_InvalidCommand.symm (Value.ref.inj h)) xq_InvalidMembers_InvalidCommand⟩; exact ⟨excC_of xg_InvalidLine xh_InvalidLine xs_InvalidLine xd_InvalidLine xo_InvalidLine oc_get2 oc_tak2 xm_InvalidLine, kit_exc xd_InvalidMembers xt_InvalidMembers (fun h => xne_InvalidMembers_InvalidLine.symm (Value.ref.inj h)) xq_InvalidMembers_InvalidLine⟩⟩,
    ie_InvalidName := ⟨kit_exc xd_InvalidName xt_InvalidName (fun z => nomatch z) xq_InvalidName_non, fun q hq => by simp [ix_InvalidName] at hq; rcases hq with rfl | rfl | rfl | rfl | rfl | rfl | rfl | rfl | rfl | rfl | rfl | rfl | rfl | rfl | rfl | rfl | rfl | rfl | rfl; exact ⟨excC_of xg_ParseError xh_ParseError xs_ParseError xd_ParseError xo_ParseError oc_get2 oc_tak2 xm_ParseError, kit_exc xd_InvalidName xt_InvalidName (fun h => xne_ParseError_InvalidName (Value.ref.inj h)) xq_InvalidName_ParseError⟩; exact ⟨excC_of xg_NotAdmitted xh_NotAdmitted xs_NotAdmitted xd_NotAdmitted xo_NotAdmitted oc_get2 oc_tak2 xm_NotAdmitted, kit_exc xd_InvalidName xt_InvalidName (fun h => xne_NotAdmitted_InvalidName (Value.ref.inj h)) xq_InvalidName_NotAdmitted⟩; exact ⟨excC_of xg_NoSolution xh_NoSolution xs_NoSolution xd_NoSolution xo_NoSolution oc_get2 oc_tak2 xm_NoSolution, kit_exc xd_InvalidName xt_InvalidName (fun h => xne_NoSolution_InvalidName (Value.ref.inj h)) xq_InvalidName_NoSolution⟩; exact ⟨excC_of xg_InvalidGroups xh_InvalidGroups xs_InvalidGroups xd_InvalidGroups xo_InvalidGroups oc_get2 oc_tak2 xm_InvalidGroups, kit_exc xd_InvalidName xt_InvalidName (fun h => xne_InvalidGroups_InvalidName (Value.ref.inj h)) xq_InvalidName_InvalidGroups⟩; exact ⟨excC_of xg_UnknownGroup xh_UnknownGroup xs_UnknownGroup xd_UnknownGroup xo_UnknownGroup oc_get2 oc_tak2 xm_UnknownGroup, kit_exc xd_InvalidName xt_InvalidName (fun h => xne_UnknownGroup_InvalidName (Value.ref.inj h)) xq_InvalidName_UnknownGroup⟩; exact ⟨excC_of xg_InvalidRoll xh_InvalidRoll xs_InvalidRoll xd_InvalidRoll xo_InvalidRoll oc_get2 oc_tak2 xm_InvalidRoll, kit_exc xd_InvalidName xt_InvalidName (fun h => xne_InvalidRoll_InvalidName (Value.ref.inj h)) xq_InvalidName_InvalidRoll⟩; exact ⟨excC_of xg_InvalidMembers xh_InvalidMembers xs_InvalidMembers xd_InvalidMembers xo_InvalidMembers oc_get2 oc_tak2 xm_InvalidMembers, kit_exc xd_InvalidName xt_InvalidName (fun h => xne_InvalidMembers_InvalidName (Value.ref.inj h)) xq_InvalidName_InvalidMembers⟩; exact ⟨excC_of xg_InvalidStep xh_InvalidStep xs_InvalidStep xd_InvalidStep xo_InvalidStep oc_get2 oc_tak2 xm_InvalidStep, kit_exc xd_InvalidName xt_InvalidName (fun h => xne_InvalidStep_InvalidName (Value.ref.inj h)) xq_InvalidName_InvalidStep⟩; exact ⟨excC_of xg_InvalidPrices xh_InvalidPrices xs_InvalidPrices xd_InvalidPrices xo_InvalidPrices oc_get2 oc_tak2 xm_InvalidPrices, kit_exc xd_InvalidName xt_InvalidName (fun h => xne_InvalidPrices_InvalidName (Value.ref.inj h)) xq_InvalidName_InvalidPrices⟩; exact ⟨excC_of xg_InvalidAmounts xh_InvalidAmounts xs_InvalidAmounts xd_InvalidAmounts xo_InvalidAmounts oc_get2 oc_tak2 xm_InvalidAmounts, kit_exc xd_InvalidName xt_InvalidName (fun h => xne_InvalidAmounts_InvalidName (Value.ref.inj h)) xq_InvalidName_InvalidAmounts⟩; exact ⟨excC_of xg_NotASolution xh_NotASolution xs_NotASolution xd_NotASolution xo_NotASolution oc_get2 oc_tak2 xm_NotASolution, kit_exc xd_InvalidName xt_InvalidName (fun h => xne_NotASolution_InvalidName (Value.ref.inj h)) xq_InvalidName_NotASolution⟩; exact ⟨excC_of xg_PlanFinished xh_PlanFinished xs_PlanFinished xd_PlanFinished xo_PlanFinished oc_get2 oc_tak2 xm_PlanFinished, kit_exc xd_InvalidName xt_InvalidName (fun h => xne_PlanFinished_InvalidName (Value.ref.inj h)) xq_InvalidName_PlanFinished⟩; exact ⟨excC_of xg_NothingToUndo xh_NothingToUndo xs_NothingToUndo xd_NothingToUndo xo_NothingToUndo oc_get2 oc_tak2 xm_NothingToUndo, kit_exc xd_InvalidName xt_InvalidName (fun h => xne_NothingToUndo_InvalidName (Value.ref.inj h)) xq_InvalidName_NothingToUndo⟩; exact ⟨excC_of xg_InvalidName xh_InvalidName xs_InvalidName xd_InvalidName xo_InvalidName oc_get2 oc_tak2 xm_InvalidName, kit_self _⟩; exact ⟨excC_of xg_DuplicateName xh_DuplicateName xs_DuplicateName xd_DuplicateName xo_DuplicateName oc_get2 oc_tak2 xm_DuplicateName, kit_exc xd_InvalidName xt_InvalidName (fun h => xne_InvalidName_DuplicateName.symm (Value.ref.inj h)) xq_InvalidName_DuplicateName⟩; exact ⟨excC_of xg_UnknownName xh_UnknownName xs_UnknownName xd_UnknownName xo_UnknownName oc_get2 oc_tak2 xm_UnknownName, kit_exc xd_InvalidName xt_InvalidName (fun h => xne_InvalidName_UnknownName.symm (Value.ref.inj h)) xq_InvalidName_UnknownName⟩; exact ⟨excC_of xg_UnknownMark xh_UnknownMark xs_UnknownMark xd_UnknownMark xo_UnknownMark oc_get2 oc_tak2 xm_UnknownMark, kit_exc xd_InvalidName xt_InvalidName (fun h => xne_InvalidName_UnknownMark.symm (Value.ref.inj h)) xq_InvalidName_UnknownMark⟩; exact ⟨excC_of xg_InvalidCommand xh_InvalidCommand xs_InvalidCommand xd_InvalidCommand xo_InvalidCommand oc_get2 oc_tak2 xm_InvalidCommand, kit_exc xd_InvalidName xt_InvalidName (fun h => xne_InvalidName_InvalidCommand.symm (Value.ref.inj h)) xq_InvalidName_InvalidCommand⟩; exact ⟨excC_of xg_InvalidLine xh_InvalidLine xs_InvalidLine xd_InvalidLine xo_InvalidLine oc_get2 oc_tak2 xm_InvalidLine, kit_exc xd_InvalidName xt_InvalidName (fun h => xne_InvalidName_InvalidLine.symm (Value.ref.inj h)) xq_InvalidName_InvalidLine⟩⟩,
    ie_InvalidPrices := ⟨kit_exc xd_InvalidPrices xt_InvalidPrices (fun z => nomatch z) xq_InvalidPrices_non, fun q hq => by simp [ix_InvalidPrices] at hq; rcases hq with rfl | rfl | rfl | rfl | rfl | rfl | rfl | rfl | rfl | rfl | rfl | rfl | rfl | rfl | rfl | rfl | rfl | rfl | rfl; exact ⟨excC_of xg_ParseError xh_ParseError xs_ParseError xd_ParseError xo_ParseError oc_get2 oc_tak2 xm_ParseError, kit_exc xd_InvalidPrices xt_InvalidPrices (fun h => xne_ParseError_InvalidPrices (Value.ref.inj h)) xq_InvalidPrices_ParseError⟩; exact ⟨excC_of xg_NotAdmitted xh_NotAdmitted xs_NotAdmitted xd_NotAdmitted xo_NotAdmitted oc_get2 oc_tak2 xm_NotAdmitted, kit_exc xd_InvalidPrices xt_InvalidPrices (fun h => xne_NotAdmitted_InvalidPrices (Value.ref.inj h)) xq_InvalidPrices_NotAdmitted⟩; exact ⟨excC_of xg_NoSolution xh_NoSolution xs_NoSolution xd_NoSolution xo_NoSolution oc_get2 oc_tak2 xm_NoSolution, kit_exc xd_InvalidPrices xt_InvalidPrices (fun h => xne_NoSolution_InvalidPrices (Value.ref.inj h)) xq_InvalidPrices_NoSolution⟩; exact ⟨excC_of xg_InvalidGroups xh_InvalidGroups xs_InvalidGroups xd_InvalidGroups xo_InvalidGroups oc_get2 oc_tak2 xm_InvalidGroups, kit_exc xd_InvalidPrices xt_InvalidPrices (fun h => xne_InvalidGroups_InvalidPrices (Value.ref.inj h)) xq_InvalidPrices_InvalidGroups⟩; exact ⟨excC_of xg_UnknownGroup xh_UnknownGroup xs_UnknownGroup xd_UnknownGroup xo_UnknownGroup oc_get2 oc_tak2 xm_UnknownGroup, kit_exc xd_InvalidPrices xt_InvalidPrices (fun h => xne_UnknownGroup_InvalidPrices (Value.ref.inj h)) xq_InvalidPrices_UnknownGroup⟩; exact ⟨excC_of xg_InvalidRoll xh_InvalidRoll xs_InvalidRoll xd_InvalidRoll xo_InvalidRoll oc_get2 oc_tak2 xm_InvalidRoll, kit_exc xd_InvalidPrices xt_InvalidPrices (fun h => xne_InvalidRoll_InvalidPrices (Value.ref.inj h)) xq_InvalidPrices_InvalidRoll⟩; exact ⟨excC_of xg_InvalidMembers xh_InvalidMembers xs_InvalidMembers xd_InvalidMembers xo_InvalidMembers oc_get2 oc_tak2 xm_InvalidMembers, kit_exc xd_InvalidPrices xt_InvalidPrices (fun h => xne_InvalidMembers_InvalidPrices (Value.ref.inj h)) xq_InvalidPrices_InvalidMembers⟩; exact ⟨excC_of xg_InvalidStep xh_InvalidStep xs_InvalidStep xd_InvalidStep xo_InvalidStep oc_get2 oc_tak2 xm_InvalidStep, kit_exc xd_InvalidPrices xt_InvalidPrices (fun h => xne_InvalidStep_InvalidPrices (Value.ref.inj h)) xq_InvalidPrices_InvalidStep⟩; exact ⟨excC_of xg_InvalidPrices xh_InvalidPrices xs_InvalidPrices xd_InvalidPrices xo_InvalidPrices oc_get2 oc_tak2 xm_InvalidPrices, kit_self _⟩; exact ⟨excC_of xg_InvalidAmounts xh_InvalidAmounts xs_InvalidAmounts xd_InvalidAmounts xo_InvalidAmounts oc_get2 oc_tak2 xm_InvalidAmounts, kit_exc xd_InvalidPrices xt_InvalidPrices (fun h => xne_InvalidPrices_InvalidAmounts.symm (Value.ref.inj h)) xq_InvalidPrices_InvalidAmounts⟩; exact ⟨excC_of xg_NotASolution xh_NotASolution xs_NotASolution xd_NotASolution xo_NotASolution oc_get2 oc_tak2 xm_NotASolution, kit_exc xd_InvalidPrices xt_InvalidPrices (fun h => xne_InvalidPrices_NotASolution.symm (Value.ref.inj h)) xq_InvalidPrices_NotASolution⟩; exact ⟨excC_of xg_PlanFinished xh_PlanFinished xs_PlanFinished xd_PlanFinished xo_PlanFinished oc_get2 oc_tak2 xm_PlanFinished, kit_exc xd_InvalidPrices xt_InvalidPrices (fun h => xne_InvalidPrices_PlanFinished.symm (Value.ref.inj h)) xq_InvalidPrices_PlanFinished⟩; exact ⟨excC_of xg_NothingToUndo xh_NothingToUndo xs_NothingToUndo xd_NothingToUndo xo_NothingToUndo oc_get2 oc_tak2 xm_NothingToUndo, kit_exc xd_InvalidPrices xt_InvalidPrices (fun h => xne_InvalidPrices_NothingToUndo.symm (Value.ref.inj h)) xq_InvalidPrices_NothingToUndo⟩; exact ⟨excC_of xg_InvalidName xh_InvalidName xs_InvalidName xd_InvalidName xo_InvalidName oc_get2 oc_tak2 xm_InvalidName, kit_exc xd_InvalidPrices xt_InvalidPrices (fun h => xne_InvalidPrices_InvalidName.symm (Value.ref.inj h)) xq_InvalidPrices_InvalidName⟩; exact ⟨excC_of xg_DuplicateName xh_DuplicateName xs_DuplicateName xd_DuplicateName xo_DuplicateName oc_get2 oc_tak2 xm_DuplicateName, kit_exc xd_InvalidPrices xt_InvalidPrices (fun h => xne_InvalidPrices_DuplicateName.symm (Value.ref.inj h)) xq_InvalidPrices_DuplicateName⟩; exact ⟨excC_of xg_UnknownName xh_UnknownName xs_UnknownName xd_UnknownName xo_UnknownName oc_get2 oc_tak2 xm_UnknownName, kit_exc xd_InvalidPrices xt_InvalidPrices (fun h => xne_InvalidPrices_UnknownName.symm (Value.ref.inj h)) xq_InvalidPrices_UnknownName⟩; exact ⟨excC_of xg_UnknownMark xh_UnknownMark xs_UnknownMark xd_UnknownMark xo_UnknownMark oc_get2 oc_tak2 xm_UnknownMark, kit_exc xd_InvalidPrices xt_InvalidPrices (fun h => xne_InvalidPrices_UnknownMark.symm (Value.ref.inj h)) xq_InvalidPrices_UnknownMark⟩; exact ⟨excC_of xg_InvalidCommand xh_InvalidCommand xs_InvalidCommand xd_InvalidCommand xo_InvalidCommand oc_get2 oc_tak2 xm_InvalidCommand, kit_exc xd_InvalidPrices xt_InvalidPrices (fun h => xne_InvalidPrices_InvalidCommand.symm (Value.ref.inj h)) xq_InvalidPrices_InvalidCommand⟩; exact ⟨excC_of xg_InvalidLine xh_InvalidLine xs_InvalidLine xd_InvalidLine xo_InvalidLine oc_get2 oc_tak2 xm_InvalidLine, kit_exc xd_InvalidPrices xt_InvalidPrices (fun h => xne_InvalidPrices_InvalidLine.symm (Value.ref.inj h)) xq_InvalidPrices_InvalidLine⟩⟩,
    ie_InvalidRoll := ⟨kit_exc xd_InvalidRoll xt_InvalidRoll (fun z => nomatch z) xq_InvalidRoll_non, fun q hq => by simp [ix_InvalidRoll] at hq; rcases hq with rfl | rfl | rfl | rfl | rfl | rfl | rfl | rfl | rfl | rfl | rfl | rfl | rfl | rfl | rfl | rfl | rfl | rfl | rfl; exact ⟨excC_of xg_ParseError xh_ParseError xs_ParseError xd_ParseError xo_ParseError oc_get2 oc_tak2 xm_ParseError, kit_exc xd_InvalidRoll xt_InvalidRoll (fun h => xne_ParseError_InvalidRoll (Value.ref.inj h)) xq_InvalidRoll_ParseError⟩; exact ⟨excC_of xg_NotAdmitted xh_NotAdmitted xs_NotAdmitted xd_NotAdmitted xo_NotAdmitted oc_get2 oc_tak2 xm_NotAdmitted, kit_exc xd_InvalidRoll xt_InvalidRoll (fun h => xne_NotAdmitted_InvalidRoll (Value.ref.inj h)) xq_InvalidRoll_NotAdmitted⟩; exact ⟨excC_of xg_NoSolution xh_NoSolution xs_NoSolution xd_NoSolution xo_NoSolution oc_get2 oc_tak2 xm_NoSolution, kit_exc xd_InvalidRoll xt_InvalidRoll (fun h => xne_NoSolution_InvalidRoll (Value.ref.inj h)) xq_InvalidRoll_NoSolution⟩; exact ⟨excC_of xg_InvalidGroups xh_InvalidGroups xs_InvalidGroups xd_InvalidGroups xo_InvalidGroups oc_get2 oc_tak2 xm_InvalidGroups, kit_exc xd_InvalidRoll xt_InvalidRoll (fun h => xne_InvalidGroups_InvalidRoll (Value.ref.inj h)) xq_InvalidRoll_InvalidGroups⟩; exact ⟨excC_of xg_UnknownGroup xh_UnknownGroup xs_UnknownGroup xd_UnknownGroup xo_UnknownGroup oc_get2 oc_tak2 xm_UnknownGroup, kit_exc xd_InvalidRoll xt_InvalidRoll (fun h => xne_UnknownGroup_InvalidRoll (Value.ref.inj h)) xq_InvalidRoll_UnknownGroup⟩; exact ⟨excC_of xg_InvalidRoll xh_InvalidRoll xs_InvalidRoll xd_InvalidRoll xo_InvalidRoll oc_get2 oc_tak2 xm_InvalidRoll, kit_self _⟩; exact ⟨excC_of xg_InvalidMembers xh_InvalidMembers xs_InvalidMembers xd_InvalidMembers xo_InvalidMembers oc_get2 oc_tak2 xm_InvalidMembers, kit_exc xd_InvalidRoll xt_InvalidRoll (fun h => xne_InvalidRoll_InvalidMembers.symm (Value.ref.inj h)) xq_InvalidRoll_InvalidMembers⟩; exact ⟨excC_of xg_InvalidStep xh_InvalidStep xs_InvalidStep xd_InvalidStep xo_InvalidStep oc_get2 oc_tak2 xm_InvalidStep, kit_exc xd_InvalidRoll xt_InvalidRoll (fun h => xne_InvalidRoll_InvalidStep.symm (Value.ref.inj h)) xq_InvalidRoll_InvalidStep⟩; exact ⟨excC_of xg_InvalidPrices xh_InvalidPrices xs_InvalidPrices xd_InvalidPrices xo_InvalidPrices oc_get2 oc_tak2 xm_InvalidPrices, kit_exc xd_InvalidRoll xt_InvalidRoll (fun h => xne_InvalidRoll_InvalidPrices.symm (Value.ref.inj h)) xq_InvalidRoll_InvalidPrices⟩; exact ⟨excC_of xg_InvalidAmounts xh_InvalidAmounts xs_InvalidAmounts xd_InvalidAmounts xo_InvalidAmounts oc_get2 oc_tak2 xm_InvalidAmounts, kit_exc xd_InvalidRoll xt_InvalidRoll (fun h => xne_InvalidRoll_InvalidAmounts.symm (Value.ref.inj h)) xq_InvalidRoll_InvalidAmounts⟩; exact ⟨excC_of xg_NotASolution xh_NotASolution xs_NotASolution xd_NotASolution xo_NotASolution oc_get2 oc_tak2 xm_NotASolution, kit_exc xd_InvalidRoll xt_InvalidRoll (fun h => xne_InvalidRoll_NotASolution.symm (Value.ref.inj h)) xq_InvalidRoll_NotASolution⟩; exact ⟨excC_of xg_PlanFinished xh_PlanFinished xs_PlanFinished xd_PlanFinished xo_PlanFinished oc_get2 oc_tak2 xm_PlanFinished, kit_exc xd_InvalidRoll xt_InvalidRoll (fun h => xne_InvalidRoll_PlanFinished.symm (Value.ref.inj h)) xq_InvalidRoll_PlanFinished⟩; exact ⟨excC_of xg_NothingToUndo xh_NothingToUndo xs_NothingToUndo xd_NothingToUndo xo_NothingToUndo oc_get2 oc_tak2 xm_NothingToUndo, kit_exc xd_InvalidRoll xt_InvalidRoll (fun h => xne_InvalidRoll_NothingToUndo.symm (Value.ref.inj h)) xq_InvalidRoll_NothingToUndo⟩; exact ⟨excC_of xg_InvalidName xh_InvalidName xs_InvalidName xd_InvalidName xo_InvalidName oc_get2 oc_tak2 xm_InvalidName, kit_exc xd_InvalidRoll xt_InvalidRoll (fun h => xne_InvalidRoll_InvalidName.symm (Value.ref.inj h)) xq_InvalidRoll_InvalidName⟩; exact ⟨excC_of xg_DuplicateName xh_DuplicateName xs_DuplicateName xd_DuplicateName xo_DuplicateName oc_get2 oc_tak2 xm_DuplicateName, kit_exc xd_InvalidRoll xt_InvalidRoll (fun h => xne_InvalidRoll_DuplicateName.symm (Value.ref.inj h)) xq_InvalidRoll_DuplicateName⟩; exact ⟨excC_of xg_UnknownName xh_UnknownName xs_UnknownName xd_UnknownName xo_UnknownName oc_get2 oc_tak2 xm_UnknownName, kit_exc xd_InvalidRoll xt_InvalidRoll (fun h => xne_InvalidRoll_UnknownName.symm (Value.ref.inj h)) xq_InvalidRoll_UnknownName⟩; exact ⟨excC_of xg_UnknownMark xh_UnknownMark xs_UnknownMark xd_UnknownMark xo_UnknownMark oc_get2 oc_tak2 xm_UnknownMark, kit_exc xd_InvalidRoll xt_InvalidRoll (fun h => xne_InvalidRoll_UnknownMark.symm (Value.ref.inj h)) xq_InvalidRoll_UnknownMark⟩; exact ⟨excC_of xg_InvalidCommand xh_InvalidCommand xs_InvalidCommand xd_InvalidCommand xo_InvalidCommand oc_get2 oc_tak2 xm_InvalidCommand, kit_exc xd_InvalidRoll xt_InvalidRoll (fun h => xne_InvalidRoll_InvalidCommand.symm (Value.ref.inj h)) xq_InvalidRoll_InvalidCommand⟩; exact ⟨excC_of xg_InvalidLine xh_InvalidLine xs_InvalidLine xd_InvalidLine xo_InvalidLine oc_get2 oc_tak2 xm_InvalidLine, kit_exc xd_InvalidRoll xt_InvalidRoll (fun h => xne_InvalidRoll_InvalidLine.symm (Value.ref.inj h)) xq_InvalidRoll_InvalidLine⟩⟩,
    ie_InvalidStep := ⟨kit_exc xd_InvalidStep xt_InvalidStep (fun z => nomatch z) xq_InvalidStep_non, fun q hq => by simp [ix_InvalidStep] at hq; rcases hq with rfl | rfl | rfl | rfl | rfl | rfl | rfl | rfl | rfl | rfl | rfl | rfl | rfl | rfl | rfl | rfl | rfl | rfl | rfl; exact ⟨excC_of xg_ParseError xh_ParseError xs_ParseError xd_ParseError xo_ParseError oc_get2 oc_tak2 xm_ParseError, kit_exc xd_InvalidStep xt_InvalidStep (fun h => xne_ParseError_InvalidStep (Value.ref.inj h)) xq_InvalidStep_ParseError⟩; exact ⟨excC_of xg_NotAdmitted xh_NotAdmitted xs_NotAdmitted xd_NotAdmitted xo_NotAdmitted oc_get2 oc_tak2 xm_NotAdmitted, kit_exc xd_InvalidStep xt_InvalidStep (fun h => xne_NotAdmitted_InvalidStep (Value.ref.inj h)) xq_InvalidStep_NotAdmitted⟩; exact ⟨excC_of xg_NoSolution xh_NoSolution xs_NoSolution xd_NoSolution xo_NoSolution oc_get2 oc_tak2 xm_NoSolution, kit_exc xd_InvalidStep xt_InvalidStep (fun h => xne_NoSolution_InvalidStep (Value.ref.inj h)) xq_InvalidStep_NoSolution⟩; exact ⟨excC_of xg_InvalidGroups xh_InvalidGroups xs_InvalidGroups xd_InvalidGroups xo_InvalidGroups oc_get2 oc_tak2 xm_InvalidGroups, kit_exc xd_InvalidStep xt_InvalidStep (fun h => xne_InvalidGroups_InvalidStep (Value.ref.inj h)) xq_InvalidStep_InvalidGroups⟩; exact ⟨excC_of xg_UnknownGroup xh_UnknownGroup xs_UnknownGroup xd_UnknownGroup xo_UnknownGroup oc_get2 oc_tak2 xm_UnknownGroup, kit_exc xd_InvalidStep xt_InvalidStep (fun h => xne_UnknownGroup_InvalidStep (Value.ref.inj h)) xq_InvalidStep_UnknownGroup⟩; exact ⟨excC_of xg_InvalidRoll xh_InvalidRoll xs_InvalidRoll xd_InvalidRoll xo_InvalidRoll oc_get2 oc_tak2 xm_InvalidRoll, kit_exc xd_InvalidStep xt_InvalidStep (fun h => xne_InvalidRoll_InvalidStep (Value.ref.inj h)) xq_InvalidStep_InvalidRoll⟩; exact ⟨excC_of xg_InvalidMembers xh_InvalidMembers xs_InvalidMembers xd_InvalidMembers xo_InvalidMembers oc_get2 oc_tak2 xm_InvalidMembers, kit_exc xd_InvalidStep xt_InvalidStep (fun h => xne_InvalidMembers_InvalidStep (Value.ref.inj h)) xq_InvalidStep_InvalidMembers⟩; exact ⟨excC_of xg_InvalidStep xh_InvalidStep xs_InvalidStep xd_InvalidStep xo_InvalidStep oc_get2 oc_tak2 xm_InvalidStep, kit_self _⟩; exact ⟨excC_of xg_InvalidPrices xh_InvalidPrices xs_InvalidPrices xd_InvalidPrices xo_InvalidPrices oc_get2 oc_tak2 xm_InvalidPrices, kit_exc xd_InvalidStep xt_InvalidStep (fun h => xne_InvalidStep_InvalidPrices.symm (Value.ref.inj h)) xq_InvalidStep_InvalidPrices⟩; exact ⟨excC_of xg_InvalidAmounts xh_InvalidAmounts xs_InvalidAmounts xd_InvalidAmounts xo_InvalidAmounts oc_get2 oc_tak2 xm_InvalidAmounts, kit_exc xd_InvalidStep xt_InvalidStep (fun h => xne_InvalidStep_InvalidAmounts.symm (Value.ref.inj h)) xq_InvalidStep_InvalidAmounts⟩; exact ⟨excC_of xg_NotASolution xh_NotASolution xs_NotASolution xd_NotASolution xo_NotASolution oc_get2 oc_tak2 xm_NotASolution, kit_exc xd_InvalidStep xt_InvalidStep (fun h => xne_InvalidStep_NotASolution.symm (Value.ref.inj h)) xq_InvalidStep_NotASolution⟩; exact ⟨excC_of xg_PlanFinished xh_PlanFinished xs_PlanFinished xd_PlanFinished xo_PlanFinished oc_get2 oc_tak2 xm_PlanFinished, kit_exc xd_InvalidStep xt_InvalidStep (fun h => xne_InvalidStep_PlanFinished.symm (Value.ref.inj h)) xq_InvalidStep_PlanFinished⟩; exact ⟨excC_of xg_NothingToUndo xh_NothingToUndo xs_NothingToUndo xd_NothingToUndo xo_NothingToUndo oc_get2 oc_tak2 xm_NothingToUndo, kit_exc xd_InvalidStep xt_InvalidStep (fun h => xne_InvalidStep_NothingToUndo.symm (Value.ref.inj h)) xq_InvalidStep_NothingToUndo⟩; exact ⟨excC_of xg_InvalidName xh_InvalidName xs_InvalidName xd_InvalidName xo_InvalidName oc_get2 oc_tak2 xm_InvalidName, kit_exc xd_InvalidStep xt_InvalidStep (fun h => xne_InvalidStep_InvalidName.symm (Value.ref.inj h)) xq_InvalidStep_InvalidName⟩; exact ⟨excC_of xg_DuplicateName xh_DuplicateName xs_DuplicateName xd_DuplicateName xo_DuplicateName oc_get2 oc_tak2 xm_DuplicateName, kit_exc xd_InvalidStep xt_InvalidStep (fun h => xne_InvalidStep_DuplicateName.symm (Value.ref.inj h)) xq_InvalidStep_DuplicateName⟩; exact ⟨excC_of xg_UnknownName xh_UnknownName xs_UnknownName xd_UnknownName xo_UnknownName oc_get2 oc_tak2 xm_UnknownName, kit_exc xd_InvalidStep xt_InvalidStep (fun h => xne_InvalidStep_UnknownName.symm (Value.ref.inj h)) xq_InvalidStep_UnknownName⟩; exact ⟨excC_of xg_UnknownMark xh_UnknownMark xs_UnknownMark xd_UnknownMark xo_UnknownMark oc_get2 oc_tak2 xm_UnknownMark, kit_exc xd_InvalidStep xt_InvalidStep (fun h => xne_InvalidStep_UnknownMark.symm (Value.ref.inj h)) xq_InvalidStep_UnknownMark⟩; exact ⟨excC_of xg_InvalidCommand xh_InvalidCommand xs_InvalidCommand xd_InvalidCommand xo_InvalidCommand oc_get2 oc_tak2 xm_InvalidCommand, kit_exc xd_InvalidStep xt_InvalidStep (fun h => xne_InvalidStep_InvalidCommand.symm (Value.ref.inj h)) xq_InvalidStep_InvalidCommand⟩; exact ⟨excC_of xg_InvalidLine xh_InvalidLine xs_InvalidLine xd_InvalidLine xo_InvalidLine oc_get2 oc_tak2 xm_InvalidLine, kit_exc xd_InvalidStep xt_InvalidStep (fun h => xne_InvalidStep_InvalidLine.symm (Value.ref.inj h)) xq_InvalidStep_InvalidLine⟩⟩,
    ie_NoSolution := ⟨kit_exc xd_NoSolution xt_NoSolution (fun z => nomatch z) xq_NoSolution_non, fun q hq => by simp [ix_NoSolution] at hq; rcases hq with rfl | rfl | rfl | rfl | rfl | rfl | rfl | rfl | rfl | rfl | rfl | rfl | rfl | rfl | rfl | rfl | rfl | rfl | rfl; exact ⟨excC_of xg_ParseError xh_ParseError xs_ParseError xd_ParseError xo_ParseError oc_get2 oc_tak2 xm_ParseError, kit_exc xd_NoSolution xt_NoSolution (fun h => xne_ParseError_NoSolution (Value.ref.inj h)) xq_NoSolution_ParseError⟩; exact ⟨excC_of xg_NotAdmitted xh_NotAdmitted xs_NotAdmitted xd_NotAdmitted xo_NotAdmitted oc_get2 oc_tak2 xm_NotAdmitted, kit_exc xd_NoSolution xt_NoSolution (fun h => xne_NotAdmitted_NoSolution (Value.ref.inj h)) xq_NoSolution_NotAdmitted⟩; exact ⟨excC_of xg_NoSolution xh_NoSolution xs_NoSolution xd_NoSolution xo_NoSolution oc_get2 oc_tak2 xm_NoSolution, kit_self _⟩; exact ⟨excC_of xg_InvalidGroups xh_InvalidGroups xs_InvalidGroups xd_InvalidGroups xo_InvalidGroups oc_get2 oc_tak2 xm_InvalidGroups, kit_exc xd_NoSolution xt_NoSolution (fun h => xne_NoSolution_InvalidGroups.symm (Value.ref.inj h)) xq_NoSolution_InvalidGroups⟩; exact ⟨excC_of xg_UnknownGroup xh_UnknownGroup xs_UnknownGroup xd_UnknownGroup xo_UnknownGroup oc_get2 oc_tak2 xm_UnknownGroup, kit_exc xd_NoSolution xt_NoSolution (fun h => xne_NoSolution_UnknownGroup.symm (Value.ref.inj h)) xq_NoSolution_UnknownGroup⟩; exact ⟨excC_of xg_InvalidRoll xh_InvalidRoll xs_InvalidRoll xd_InvalidRoll xo_InvalidRoll oc_get2 oc_tak2 xm_InvalidRoll, kit_exc xd_NoSolution xt_NoSolution (fun h => xne_NoSolution_InvalidRoll.symm (Value.ref.inj h)) xq_NoSolution_InvalidRoll⟩; exact ⟨excC_of xg_InvalidMembers xh_InvalidMembers xs_InvalidMembers xd_InvalidMembers xo_InvalidMembers oc_get2 oc_tak2 xm_InvalidMembers, kit_exc xd_NoSolution xt_NoSolution (fun h => xne_NoSolution_InvalidMembers.symm (Value.ref.inj h)) xq_NoSolution_InvalidMembers⟩; exact ⟨excC_of xg_InvalidStep xh_InvalidStep xs_InvalidStep xd_InvalidStep xo_InvalidStep oc_get2 oc_tak2 xm_InvalidStep, kit_exc xd_NoSolution xt_NoSolution (fun h => xne_NoSolution_InvalidStep.symm (Value.ref.inj h)) xq_NoSolution_InvalidStep⟩; exact ⟨excC_of xg_InvalidPrices xh_InvalidPrices xs_InvalidPrices xd_InvalidPrices xo_InvalidPrices oc_get2 oc_tak2 xm_InvalidPrices, kit_exc xd_NoSolution xt_NoSolution (fun h => xne_NoSolution_InvalidPrices.symm (Value.ref.inj h)) xq_NoSolution_InvalidPrices⟩; exact ⟨excC_of xg_InvalidAmounts xh_InvalidAmounts xs_InvalidAmounts xd_InvalidAmounts xo_InvalidAmounts oc_get2 oc_tak2 xm_InvalidAmounts, kit_exc xd_NoSolution xt_NoSolution (fun h => xne_NoSolution_InvalidAmounts.symm (Value.ref.inj h)) xq_NoSolution_InvalidAmounts⟩; exact ⟨excC_of xg_NotASolution xh_NotASolution xs_NotASolution xd_NotASolution xo_NotASolution oc_get2 oc_tak2 xm_NotASolution, kit_exc xd_NoSolution xt_NoSolution (fun h => xne_NoSolution_NotASolution.symm (Value.ref.inj h)) xq_NoSolution_NotASolution⟩; exact ⟨excC_of xg_PlanFinished xh_PlanFinished xs_PlanFinished xd_PlanFinished xo_PlanFinished oc_get2 oc_tak2 xm_PlanFinished, kit_exc xd_NoSolution xt_NoSolution (fun h => xne_NoSolution_PlanFinished.symm (Value.ref.inj h)) xq_NoSolution_PlanFinished⟩; exact ⟨excC_of xg_NothingToUndo xh_NothingToUndo xs_NothingToUndo xd_NothingToUndo xo_NothingToUndo oc_get2 oc_tak2 xm_NothingToUndo, kit_exc xd_NoSolution xt_NoSolution (fun h => xne_NoSolution_NothingToUndo.symm (Value.ref.inj h)) xq_NoSolution_NothingToUndo⟩; exact ⟨excC_of xg_InvalidName xh_InvalidName xs_InvalidName xd_InvalidName xo_InvalidName oc_get2 oc_tak2 xm_InvalidName, kit_exc xd_NoSolution xt_NoSolution (fun h => xne_NoSolution_InvalidName.symm (Value.ref.inj h)) xq_NoSolution_InvalidName⟩; exact ⟨excC_of xg_DuplicateName xh_DuplicateName xs_DuplicateName xd_DuplicateName xo_DuplicateName oc_get2 oc_tak2 xm_DuplicateName, kit_exc xd_NoSolution xt_NoSolution (fun h => xne_NoSolution_DuplicateName.symm (Value.ref.inj h)) xq_NoSolution_DuplicateName⟩; exact ⟨excC_of xg_UnknownName xh_UnknownName xs_UnknownName xd_UnknownName xo_UnknownName oc_get2 oc_tak2 xm_UnknownName, kit_exc xd_NoSolution xt_NoSolution (fun h => xne_NoSolution_UnknownName.symm (Value.ref.inj h)) xq_NoSolution_UnknownName⟩; exact ⟨excC_of xg_UnknownMark xh_UnknownMark xs_UnknownMark xd_UnknownMark xo_UnknownMark oc_get2 oc_tak2 xm_UnknownMark, kit_exc xd_NoSolution xt_NoSolution (fun h => xne_NoSolution_UnknownMark.symm (Value.ref.inj h)) xq_NoSolution_UnknownMark⟩; exact ⟨excC_of xg_InvalidCommand xh_InvalidCommand xs_InvalidCommand xd_InvalidCommand xo_InvalidCommand oc_get2 oc_tak2 xm_InvalidCommand, kit_exc xd_NoSolution xt_NoSolution (fun h => xne_NoSolution_InvalidCommand.symm (Value.ref.inj h)) xq_NoSolution_InvalidCommand⟩; exact ⟨excC_of xg_InvalidLine xh_InvalidLine xs_InvalidLine xd_InvalidLine xo_InvalidLine oc_get2 oc_tak2 xm_InvalidLine, kit_exc xd_NoSolution xt_NoSolution (fun h => xne_NoSolution_InvalidLine.symm (Value.ref.inj h)) xq_NoSolution_InvalidLine⟩⟩,
    ie_NotASolution := ⟨kit_exc xd_NotASolution xt_NotASolution (fun z => nomatch z) xq_NotASolution_non, fun q hq => by simp [ix_NotASolution] at hq; rcases hq with rfl | rfl | rfl | rfl | rfl | rfl | rfl | rfl | rfl | rfl | rfl | rfl | rfl | rfl | rfl | rfl | rfl | rfl | rfl; exact ⟨excC_of xg_ParseError xh_ParseError xs_ParseError xd_ParseError xo_ParseError oc_get2 oc_tak2 xm_ParseError, kit_exc xd_NotASolution xt_NotASolution (fun h => xne_ParseError_NotASolution (Value.ref.inj h)) xq_NotASolution_ParseError⟩; exact ⟨excC_of xg_NotAdmitted xh_NotAdmitted xs_NotAdmitted xd_NotAdmitted xo_NotAdmitted oc_get2 oc_tak2 xm_NotAdmitted, kit_exc xd_NotASolution xt_NotASolution (fun h => xne_NotAdmitted_NotASolution (Value.ref.inj h)) xq_NotASolution_NotAdmitted⟩; exact ⟨excC_of xg_NoSolution xh_NoSolution xs_NoSolution xd_NoSolution xo_NoSolution oc_get2 oc_tak2 xm_NoSolution, kit_exc xd_NotASolution xt_NotASolution (fun h => xne_NoSolution_NotASolution (Value.ref.inj h)) xq_NotASolution_NoSolution⟩; exact ⟨excC_of xg_InvalidGroups xh_InvalidGroups xs_InvalidGroups xd_InvalidGroups xo_InvalidGroups oc_get2 oc_tak2 xm_InvalidGroups, kit_exc xd_NotASolution xt_NotASolution (fun h => xne_InvalidGroups_NotASolution (Value.ref.inj h)) xq_NotASolution_InvalidGroups⟩; exact ⟨excC_of xg_UnknownGroup xh_UnknownGroup xs_UnknownGroup xd_UnknownGroup xo_UnknownGroup oc_get2 oc_tak2 xm_UnknownGroup, kit_exc xd_NotASolution xt_NotASolution (fun h => xne_UnknownGroup_NotASolution (Value.ref.inj h)) xq_NotASolution_UnknownGroup⟩; exact ⟨excC_of xg_InvalidRoll xh_InvalidRoll xs_InvalidRoll xd_InvalidRoll xo_InvalidRoll oc_get2 oc_tak2 xm_InvalidRoll, kit_exc xd_NotASolution xt_NotASolution (fun h => xne_InvalidRoll_NotASolution (Value.ref.inj h)) xq_NotASolution_InvalidRoll⟩; exact ⟨excC_of xg_InvalidMembers xh_InvalidMembers xs_InvalidMembers xd_InvalidMembers xo_InvalidMembers oc_get2 oc_tak2 xm_InvalidMembers, kit_exc xd_NotASolution xt_NotASolution (fun h => xne_InvalidMembers_NotASolution (Value.ref.inj h)) xq_NotASolution_InvalidMembers⟩; exact ⟨excC_of xg_InvalidStep xh_InvalidStep xs_InvalidStep xd_InvalidStep xo_InvalidStep oc_get2 oc_tak2 xm_InvalidStep, kit_exc xd_NotASolution xt_NotASolution (fun h => xne_InvalidStep_NotASolution (Value.ref.inj h)) xq_NotASolution_InvalidStep⟩; exact ⟨excC_of xg_InvalidPrices xh_InvalidPrices xs_InvalidPrices xd_InvalidPrices xo_InvalidPrices oc_get2 oc_tak2 xm_InvalidPrices, kit_exc xd_NotASolution xt_NotASolution (fun h => xne_InvalidPrices_NotASolution (Value.ref.inj h)) xq_NotASolution_InvalidPrices⟩; exact ⟨excC_of xg_InvalidAmounts xh_InvalidAmounts xs_InvalidAmounts xd_InvalidAmounts xo_InvalidAmounts oc_get2 oc_tak2 xm_InvalidAmounts, kit_exc xd_NotASolution xt_NotASolution (fun h => xne_InvalidAmounts_NotASolution (Value.ref.inj h)) xq_NotASolution_InvalidAmounts⟩; exact ⟨excC_of xg_NotASolution xh_NotASolution xs_NotASolution xd_NotASolution xo_NotASolution oc_get2 oc_tak2 xm_NotASolution, kit_self _⟩; exact ⟨excC_of xg_PlanFinished xh_PlanFinished xs_PlanFinished xd_PlanFinished xo_PlanFinished oc_get2 oc_tak2 xm_PlanFinished, kit_exc xd_NotASolution xt_NotASolution (fun h => xne_NotASolution_PlanFinished.symm (Value.ref.inj h)) xq_NotASolution_PlanFinished⟩; exact ⟨excC_of xg_NothingToUndo xh_NothingToUndo xs_NothingToUndo xd_NothingToUndo xo_NothingToUndo oc_get2 oc_tak2 xm_NothingToUndo, kit_exc xd_NotASolution xt_NotASolution (fun h => xne_NotASolution_NothingToUndo.symm (Value.ref.inj h)) xq_NotASolution_NothingToUndo⟩; exact ⟨excC_of xg_InvalidName xh_InvalidName xs_InvalidName xd_InvalidName xo_InvalidName oc_get2 oc_tak2 xm_InvalidName, kit_exc xd_NotASolution xt_NotASolution (fun h => xne_NotASolution_InvalidName.symm (Value.ref.inj h)) xq_NotASolution_InvalidName⟩; exact ⟨excC_of xg_DuplicateName xh_DuplicateName xs_DuplicateName xd_DuplicateName xo_DuplicateName oc_get2 oc_tak2 xm_DuplicateName, kit_exc xd_NotASolution xt_NotASolution (fun h => xne_NotASolution_DuplicateName.symm (Value.ref.inj h)) xq_NotASolution_DuplicateName⟩; exact ⟨excC_of xg_UnknownName xh_UnknownName xs_UnknownName xd_UnknownName xo_UnknownName oc_get2 oc_tak2 xm_UnknownName, kit_exc xd_NotASolution xt_NotASolution (fun h => xne_NotASolution_UnknownName.symm (Value.ref.inj h)) xq_NotASolution_UnknownName⟩; exact ⟨excC_of xg_UnknownMark xh_UnknownMark xs_UnknownMark xd_UnknownMark xo_UnknownMark oc_get2 oc_tak2 xm_UnknownMark, kit_exc xd_NotASolution xt_NotASolution (fun h => xne_NotASolution_UnknownMark.symm (Value.ref.inj h)) xq_NotASolution_UnknownMark⟩; exact ⟨excC_of xg_InvalidCommand xh_InvalidCommand xs_InvalidCommand xd_InvalidCommand xo_InvalidCommand oc_get2 oc_tak2 xm_InvalidCommand, kit_exc xd_NotASolution xt_NotASolution (fun h => xne_NotASolution_InvalidCommand.symm (Value.ref.inj h)) xq_NotASolution_InvalidCommand⟩; exact ⟨excC_of xg_InvalidLine xh_InvalidLine xs_InvalidLine xd_InvalidLine xo_InvalidLine oc_get2 oc_tak2 xm_InvalidLine, kit_exc xd_NotASolution xt_NotASolution (fun h => xne_NotASolution_InvalidLine.symm (Value.ref.inj h)) xq_NotASolution_InvalidLine⟩⟩,
    ie_NotAdmitted := ⟨kit_exc xd_NotAdmitted xt_NotAdmitted (fun z => nomatch z) xq_NotAdmitted_non, fun q hq => by simp [ix_NotAdmitted] at hq; rcases hq with rfl | rfl | rfl | rfl | rfl | rfl | rfl | rfl | rfl | rfl | rfl | rfl | rfl | rfl | rfl | rfl | rfl | rfl | rfl; exact ⟨excC_of xg_ParseError xh_ParseError xs_ParseError xd_ParseError xo_ParseError oc_get2 oc_tak2 xm_ParseError, kit_exc xd_NotAdmitted xt_NotAdmitted (fun h => xne_ParseError_NotAdmitted (Value.ref.inj h)) xq_NotAdmitted_ParseError⟩; exact ⟨excC_of xg_NotAdmitted xh_NotAdmitted xs_NotAdmitted xd_NotAdmitted xo_NotAdmitted oc_get2 oc_tak2 xm_NotAdmitted, kit_self _⟩; exact ⟨excC_of xg_NoSolution xh_NoSolution xs_NoSolution xd_NoSolution xo_NoSolution oc_get2 oc_tak2 xm_NoSolution, kit_exc xd_NotAdmitted xt_NotAdmitted (fun h => xne_NotAdmitted_NoSolution.symm (Value.ref.inj h)) xq_NotAdmitted_NoSolution⟩; exact ⟨excC_of xg_InvalidGroups xh_InvalidGroups xs_InvalidGroups xd_InvalidGroups xo_InvalidGroups oc_get2 oc_tak2 xm_InvalidGroups, kit_exc xd_NotAdmitted xt_NotAdmitted (fun h => xne_NotAdmitted_InvalidGroups.symm (Value.ref.inj h)) xq_NotAdmitted_InvalidGroups⟩; exact ⟨excC_of xg_UnknownGroup xh_UnknownGroup xs_UnknownGroup xd_UnknownGroup xo_UnknownGroup oc_get2 oc_tak2 xm_UnknownGroup, kit_exc xd_NotAdmitted xt_NotAdmitted (fun h => xne_NotAdmitted_UnknownGroup.symm (Value.ref.inj h)) xq_NotAdmitted_UnknownGroup⟩; exact ⟨excC_of xg_InvalidRoll xh_InvalidRoll xs_InvalidRoll xd_InvalidRoll xo_InvalidRoll oc_get2 oc_tak2 xm_InvalidRoll, kit_exc xd_NotAdmitted xt_NotAdmitted (fun h => xne_NotAdmitted_InvalidRoll.symm (Value.ref.inj h)) xq_NotAdmitted_InvalidRoll⟩; exact ⟨excC_of xg_InvalidMembers xh_InvalidMembers xs_InvalidMembers xd_InvalidMembers xo_InvalidMembers oc_get2 oc_tak2 xm_InvalidMembers, kit_exc xd_NotAdmitted xt_NotAdmitted (fun h => xne_NotAdmitted_InvalidMembers.symm (Value.ref.inj h)) xq_NotAdmitted_InvalidMembers⟩; exact ⟨excC_of xg_InvalidStep xh_InvalidStep xs_InvalidStep xd_InvalidStep xo_InvalidStep oc_get2 oc_tak2 xm_InvalidStep, kit_exc xd_NotAdmitted xt_NotAdmitted (fun h => xne_NotAdmitted_InvalidStep.symm (Value.ref.inj h)) xq_NotAdmitted_InvalidStep⟩; exact ⟨excC_of xg_InvalidPrices xh_InvalidPrices xs_InvalidPrices xd_InvalidPrices xo_InvalidPrices oc_get2 oc_tak2 xm_InvalidPrices, kit_exc xd_NotAdmitted xt_NotAdmitted (fun h => xne_NotAdmitted_InvalidPrices.symm (Value.ref.inj h)) xq_NotAdmitted_InvalidPrices⟩; exact ⟨excC_of xg_InvalidAmounts xh_InvalidAmounts xs_InvalidAmounts xd_InvalidAmounts xo_InvalidAmounts oc_get2 oc_tak2 xm_InvalidAmounts, kit_exc xd_NotAdmitted xt_NotAdmitted (fun h => xne_NotAdmitted_InvalidAmounts.symm (Value.ref.inj h)) xq_NotAdmitted_InvalidAmounts⟩; exact ⟨excC_of xg_NotASolution xh_NotASolution xs_NotASolution xd_NotASolution xo_NotASolution oc_get2 oc_tak2 xm_NotASolution, kit_exc xd_NotAdmitted xt_NotAdmitted (fun h => xne_NotAdmitted_NotASolution.symm (Value.ref.inj h)) xq_NotAdmitted_NotASolution⟩; exact ⟨excC_of xg_PlanFinished xh_PlanFinished xs_PlanFinished xd_PlanFinished xo_PlanFinished oc_get2 oc_tak2 xm_PlanFinished, kit_exc xd_NotAdmitted xt_NotAdmitted (fun h => xne_NotAdmitted_PlanFinished.symm (Value.ref.inj h)) xq_NotAdmitted_PlanFinished⟩; exact ⟨excC_of xg_NothingToUndo xh_NothingToUndo xs_NothingToUndo xd_NothingToUndo xo_NothingToUndo oc_get2 oc_tak2 xm_NothingToUndo, kit_exc xd_NotAdmitted xt_NotAdmitted (fun h => xne_NotAdmitted_NothingToUndo.symm (Value.ref.inj h)) xq_NotAdmitted_NothingToUndo⟩; exact ⟨excC_of xg_InvalidName xh_InvalidName xs_InvalidName xd_InvalidName xo_InvalidName oc_get2 oc_tak2 xm_InvalidName, kit_exc xd_NotAdmitted xt_NotAdmitted (fun h => xne_NotAdmitted_InvalidName.symm (Value.ref.inj h)) xq_NotAdmitted_InvalidName⟩; exact ⟨excC_of xg_DuplicateName xh_DuplicateName xs_DuplicateName xd_DuplicateName xo_DuplicateName oc_get2 oc_tak2 xm_DuplicateName, kit_exc xd_NotAdmitted xt_NotAdmitted (fun h => xne_NotAdmitted_DuplicateName.symm (Value.ref.inj h)) xq_NotAdmitted_DuplicateName⟩; exact ⟨excC_of xg_UnknownName xh_UnknownName xs_UnknownName xd_UnknownName xo_UnknownName oc_get2 oc_tak2 xm_UnknownName, kit_exc xd_NotAdmitted xt_NotAdmitted (fun h => xne_NotAdmitted_UnknownName.symm (Value.ref.inj h)) xq_NotAdmitted_UnknownName⟩; exact ⟨excC_of xg_UnknownMark xh_UnknownMark xs_UnknownMark xd_UnknownMark xo_UnknownMark oc_get2 oc_tak2 xm_UnknownMark, kit_exc xd_NotAdmitted xt_NotAdmitted (fun h => xne_NotAdmitted_UnknownMark.symm (Value.ref.inj h)) xq_NotAdmitted_UnknownMark⟩; exact ⟨excC_of xg_InvalidCommand xh_InvalidCommand xs_InvalidCommand xd_InvalidCommand xo_InvalidCommand oc_get2 oc_tak2 xm_InvalidCommand, kit_exc xd_NotAdmitted xt_NotAdmitted (fun h => xne_NotAdmitted_InvalidCommand.symm (Value.ref.inj h)) xq_NotAdmitted_InvalidCommand⟩; exact ⟨excC_of xg_InvalidLine xh_InvalidLine xs_InvalidLine xd_InvalidLine xo_InvalidLine oc_get2 oc_tak2 xm_InvalidLine, kit_exc xd_NotAdmitted xt_NotAdmitted (fun h => xne_NotAdmitted_InvalidLine.symm (Value.ref.inj h)) xq_NotAdmitted_InvalidLine⟩⟩,
    ie_NothingToUndo := ⟨kit_exc xd_NothingToUndo xt_NothingToUndo (fun z => nomatch z) xq_NothingToUndo_non, fun q hq => by simp [ix_NothingToUndo] at hq; rcases hq with rfl | rfl | rfl | rfl | rfl | rfl | rfl | rfl | rfl | rfl | rfl | rfl | rfl | rfl | rfl | rfl | rfl | rfl | rfl; exact ⟨excC_of xg_ParseError xh_ParseError xs_ParseError xd_ParseError xo_ParseError oc_get2 oc_tak2 xm_ParseError, kit_exc xd_NothingToUndo xt_NothingToUndo (fun h => xne_ParseError_NothingToUndo (Value.ref.inj h)) xq_NothingToUndo_ParseError⟩; exact ⟨excC_of xg_NotAdmitted xh_NotAdmitted xs_NotAdmitted xd_NotAdmitted xo_NotAdmitted oc_get2 oc_tak2 xm_NotAdmitted, kit_exc xd_NothingToUndo xt_NothingToUndo (fun h => xne_NotAdmitted_NothingToUndo (Value.ref.inj h)) xq_NothingToUndo_NotAdmitted⟩; exact ⟨excC_of xg_NoSolution xh_NoSolution xs_NoSolution xd_NoSolution xo_NoSolution oc_get2 oc_tak2 xm_NoSolution, kit_exc xd_NothingToUndo xt_NothingToUndo (fun h => xne_NoSolution_NothingToUndo (Value.ref.inj h)) xq_NothingToUndo_NoSolution⟩; exact ⟨excC_of xg_InvalidGroups xh_InvalidGroups xs_InvalidGroups xd_InvalidGroups xo_InvalidGroups oc_get2 oc_tak2 xm_InvalidGroups, kit_exc xd_NothingToUndo xt_NothingToUndo (fun h => xne_InvalidGroups_NothingToUndo (Value.ref.inj h)) xq_NothingToUndo_InvalidGroups⟩; exact ⟨excC_of xg_UnknownGroup xh_UnknownGroup xs_UnknownGroup xd_UnknownGroup xo_UnknownGroup oc_get2 oc_tak2 xm_UnknownGroup, kit_exc xd_NothingToUndo xt_NothingToUndo (fun h => xne_UnknownGroup_NothingToUndo (Value.ref.inj h)) xq_NothingToUndo_UnknownGroup⟩; exact ⟨excC_of xg_InvalidRoll xh_InvalidRoll xs_InvalidRoll xd_InvalidRoll xo_InvalidRoll oc_get2 oc_tak2 xm_InvalidRoll, kit_exc xd_NothingToUndo xt_NothingToUndo (fun h => xne_InvalidRoll_NothingToUndo (Value.ref.inj h)) xq_NothingToUndo_InvalidRoll⟩; exact ⟨excC_of xg_InvalidMembers xh_InvalidMembers xs_InvalidMembers xd_InvalidMembers xo_InvalidMembers oc_get2 oc_tak2 xm_InvalidMembers, kit_exc xd_NothingToUndo xt_NothingToUndo (fun h => xne_InvalidMembers_NothingToUndo (Value.ref.inj h)) xq_NothingToUndo_InvalidMembers⟩; exact ⟨excC_of xg_InvalidStep xh_InvalidStep xs_InvalidStep xd_InvalidStep xo_InvalidStep oc_get2 oc_tak2 xm_InvalidStep, kit_exc xd_NothingToUndo xt_NothingToUndo (fun h => xne_InvalidStep_NothingToUndo (Value.ref.inj h)) xq_NothingToUndo_InvalidStep⟩; exact ⟨excC_of xg_InvalidPrices xh_InvalidPrices xs_InvalidPrices xd_InvalidPrices xo_InvalidPrices oc_get2 oc_tak2 xm_InvalidPrices, kit_exc xd_NothingToUndo xt_NothingToUndo (fun h => xne_InvalidPrices_NothingToUndo (Value.ref.inj h)) xq_NothingToUndo_InvalidPrices⟩; exact ⟨excC_of xg_InvalidAmounts xh_InvalidAmounts xs_InvalidAmounts xd_InvalidAmounts xo_InvalidAmounts oc_get2 oc_tak2 xm_InvalidAmounts, kit_exc xd_NothingToUndo xt_NothingToUndo (fun h => xne_InvalidAmounts_NothingToUndo (Value.ref.inj h)) xq_NothingToUndo_InvalidAmounts⟩; exact ⟨excC_of xg_NotASolution xh_NotASolution xs_NotASolution xd_NotASolution xo_NotASolution oc_get2 oc_tak2 xm_NotASolution, kit_exc xd_NothingToUndo xt_NothingToUndo (fun h => xne_NotASolution_NothingToUndo (Value.ref.inj h)) xq_NothingToUndo_NotASolution⟩; exact ⟨excC_of xg_PlanFinished xh_PlanFinished xs_PlanFinished xd_PlanFinished xo_PlanFinished oc_get2 oc_tak2 xm_PlanFinished, kit_exc xd_NothingToUndo xt_NothingToUndo (fun h => xne_PlanFinished_NothingToUndo (Value.ref.inj h)) xq_NothingToUndo_PlanFinished⟩; exact ⟨excC_of xg_NothingToUndo xh_NothingToUndo xs_NothingToUndo xd_NothingToUndo xo_NothingToUndo oc_get2 oc_tak2 xm_NothingToUndo, kit_self _⟩; exact ⟨excC_of xg_InvalidName xh_InvalidName xs_InvalidName xd_InvalidName xo_InvalidName oc_get2 oc_tak2 xm_InvalidName, kit_exc xd_NothingToUndo xt_NothingToUndo (fun h => xne_NothingToUndo_InvalidName.symm (Value.ref.inj h)) xq_NothingToUndo_InvalidName⟩; exact ⟨excC_of xg_DuplicateName xh_DuplicateName xs_DuplicateName xd_DuplicateName xo_DuplicateName oc_get2 oc_tak2 xm_DuplicateName, kit_exc xd_NothingToUndo xt_NothingToUndo (fun h => xne_NothingToUndo_DuplicateName.symm (Value.ref.inj h)) xq_NothingToUndo_DuplicateName⟩; exact ⟨excC_of xg_UnknownName xh_UnknownName xs_UnknownName xd_UnknownName xo_UnknownName oc_get2 oc_tak2 xm_UnknownName, kit_exc xd_NothingToUndo xt_NothingToUndo (fun h => xne_NothingToUndo_UnknownName.symm (Value.ref.inj h)) xq_NothingToUndo_UnknownName⟩; exact ⟨excC_of xg_UnknownMark xh_UnknownMark xs_UnknownMark xd_UnknownMark xo_UnknownMark oc_get2 oc_tak2 xm_UnknownMark, kit_exc xd_NothingToUndo xt_NothingToUndo (fun h => xne_NothingToUndo_UnknownMark.symm (Value.ref.inj h)) xq_NothingToUndo_UnknownMark⟩; exact ⟨excC_of xg_InvalidCommand xh_InvalidCommand xs_InvalidCommand xd_InvalidCommand xo_InvalidCommand oc_get2 oc_tak2 xm_InvalidCommand, kit_exc xd_NothingToUndo xt_NothingToUndo (fun h => xne_NothingToUndo_InvalidCommand.symm (Value.ref.inj h)) xq_NothingToUndo_InvalidCommand⟩; exact ⟨excC_of xg_InvalidLine xh_InvalidLine xs_InvalidLine xd_InvalidLine xo_InvalidLine oc_get2 oc_tak2 xm_InvalidLine, kit_exc xd_NothingToUndo xt_NothingToUndo (fun h => xne_NothingToUndo_InvalidLine.symm (Value.ref.inj h)) xq_NothingToUndo_InvalidLine⟩⟩,
    ie_ParseError := ⟨kit_exc xd_ParseError xt_ParseError (fun z => nomatch z) xq_ParseError_non, fun q hq => by simp [ix_ParseError] at hq; rcases hq with rfl | rfl | rfl | rfl | rfl | rfl | rfl | rfl | rfl | rfl | rfl | rfl | rfl | rfl | rfl | rfl | rfl | rfl | rfl; exact ⟨excC_of xg_ParseError xh_ParseError xs_ParseError xd_ParseError xo_ParseError oc_get2 oc_tak2 xm_ParseError, kit_self _⟩; exact ⟨excC_of xg_NotAdmitted xh_NotAdmitted xs_NotAdmitted xd_NotAdmitted xo_NotAdmitted oc_get2 oc_tak2 xm_NotAdmitted, kit_exc xd_ParseError xt_ParseError (fun h => xne_ParseError_NotAdmitted.symm (Value.ref.inj h)) xq_ParseError_NotAdmitted⟩; exact ⟨excC_of xg_NoSolution xh_NoSolution xs_NoSolution xd_NoSolution xo_NoSolution oc_get2 oc_tak2 xm_NoSolution, kit_exc xd_ParseError xt_ParseError (fun h => xne_ParseError_NoSolution.symm (Value.ref.inj h)) xq_ParseError_NoSolution⟩; exact ⟨excC_of xg_InvalidGroups xh_InvalidGroups xs_InvalidGroups xd_InvalidGroups xo_InvalidGroups oc_get2 oc_tak2 xm_InvalidGroups, kit_exc xd_ParseError xt_ParseError (fun h => xne_ParseError_InvalidGroups.symm (Value.ref.inj h)) xq_ParseError_InvalidGroups⟩; exact ⟨excC_of xg_UnknownGroup xh_UnknownGroup xs_UnknownGroup xd_UnknownGroup xo_UnknownGroup oc_get2 oc_tak2 xm_UnknownGroup, kit_exc xd_ParseError xt_ParseError (fun h => xne_ParseError_UnknownGroup.symm (Value.ref.inj h)) xq_ParseError_UnknownGroup⟩; exact ⟨excC_of xg_InvalidRoll xh_InvalidRoll xs_InvalidRoll xd_InvalidRoll xo_InvalidRoll oc_get2 oc_tak2 xm_InvalidRoll, kit_exc xd_ParseError xt_ParseError (fun h => xne_ParseError_InvalidRoll.symm (Value.ref.inj h)) xq_ParseError_InvalidRoll⟩; exact ⟨excC_of xg_InvalidMembers xh_InvalidMembers xs_InvalidMembers xd_InvalidMembers xo_InvalidMembers oc_get2 oc_tak2 xm_InvalidMembers, kit_exc xd_ParseError xt_ParseError (fun h => xne_ParseError_InvalidMembers.symm (Value.ref.inj h)) xq_ParseError_InvalidMembers⟩; exact ⟨excC_of xg_InvalidStep xh_InvalidStep xs_InvalidStep xd_InvalidStep xo_InvalidStep oc_get2 oc_tak2 xm_InvalidStep, kit_exc xd_ParseError xt_ParseError (fun h => xne_ParseError_InvalidStep.symm (Value.ref.inj h)) xq_ParseError_InvalidStep⟩; exact ⟨excC_of xg_InvalidPrices xh_InvalidPrices xs_InvalidPrices xd_InvalidPrices xo_InvalidPrices oc_get2 oc_tak2 xm_InvalidPrices, kit_exc xd_ParseError xt_ParseError (fun h => xne_ParseError_InvalidPrices.symm (Value.ref.inj h)) xq_ParseError_InvalidPrices⟩; exact ⟨excC_of xg_InvalidAmounts xh_InvalidAmounts xs_InvalidAmounts xd_InvalidAmounts xo_InvalidAmounts oc_get2 oc_tak2 xm_InvalidAmounts, kit_exc xd_ParseError xt_ParseError (fun h => xne_ParseError_InvalidAmounts.symm (Value.ref.inj h)) xq_ParseError_InvalidAmounts⟩; exact ⟨excC_of xg_NotASolution xh_NotASolution xs_NotASolution xd_NotASolution xo_NotASolution oc_get2 oc_tak2 xm_NotASolution, kit_exc xd_ParseError xt_ParseError (fun h => xne_ParseError_NotASolution.symm (Value.ref.inj h)) xq_ParseError_NotASolution⟩; exact ⟨excC_of xg_PlanFinished xh_PlanFinished xs_PlanFinished xd_PlanFinished xo_PlanFinished oc_get2 oc_tak2 xm_PlanFinished, kit_exc xd_ParseError xt_ParseError (fun h => xne_ParseError_PlanFinished.symm (Value.ref.inj h)) xq_ParseError_PlanFinished⟩; exact ⟨excC_of xg_NothingToUndo xh_NothingToUndo xs_NothingToUndo xd_NothingToUndo xo_NothingToUndo oc_get2 oc_tak2 xm_NothingToUndo, kit_exc xd_ParseError xt_ParseError (fun h => xne_ParseError_NothingToUndo.symm (Value.ref.inj h)) xq_ParseError_NothingToUndo⟩; exact ⟨excC_of xg_InvalidName xh_InvalidName xs_InvalidName xd_InvalidName xo_InvalidName oc_get2 oc_tak2 xm_InvalidName, kit_exc xd_ParseError xt_ParseError (fun h => xne_ParseError_InvalidName.symm (Value.ref.inj h)) xq_ParseError_InvalidName⟩; exact ⟨excC_of xg_DuplicateName xh_DuplicateName xs_DuplicateName xd_DuplicateName xo_DuplicateName oc_get2 oc_tak2 xm_DuplicateName, kit_exc xd_ParseError xt_ParseError (fun h => xne_ParseError_DuplicateName.symm (Value.ref.inj h)) xq_ParseError_DuplicateName⟩; exact ⟨excC_of xg_UnknownName xh_UnknownName xs_UnknownName xd_UnknownName xo_UnknownName oc_get2 oc_tak2 xm_UnknownName, kit_exc xd_ParseError xt_ParseError (fun h => xne_ParseError_UnknownName.symm (Value.ref.inj h)) xq_ParseError_UnknownName⟩; exact ⟨excC_of xg_UnknownMark xh_UnknownMark xs_UnknownMark xd_UnknownMark xo_UnknownMark oc_get2 oc_tak2 xm_UnknownMark, kit_exc xd_ParseError xt_ParseError (fun h => xne_ParseError_UnknownMark.symm (Value.ref.inj h)) xq_ParseError_UnknownMark⟩; exact ⟨excC_of xg_InvalidCommand xh_InvalidCommand xs_InvalidCommand xd_InvalidCommand xo_InvalidCommand oc_get2 oc_tak2 xm_InvalidCommand, kit_exc xd_ParseError xt_ParseError (fun h => xne_ParseError_InvalidCommand.symm (Value.ref.inj h)) xq_ParseError_InvalidCommand⟩; exact ⟨excC_of xg_InvalidLine xh_InvalidLine xs_InvalidLine xd_InvalidLine xo_InvalidLine oc_get2 oc_tak2 xm_InvalidLine, kit_exc xd_ParseError xt_ParseError (fun h => xne_ParseError_InvalidLine.symm (Value.ref.inj h)) xq_ParseError_InvalidLine⟩⟩,
    ie_PlanFinished := ⟨kit_exc xd_PlanFinished xt_PlanFinished (fun z => nomatch z) xq_PlanFinished_non, fun q hq => by simp [ix_PlanFinished] at hq; rcases hq with rfl | rfl | rfl | rfl | rfl | rfl | rfl | rfl | rfl | rfl | rfl | rfl | rfl | rfl | rfl | rfl | rfl | rfl | rfl; exact ⟨excC_of xg_ParseError xh_ParseError xs_ParseError xd_ParseError xo_ParseError oc_get2 oc_tak2 xm_ParseError, kit_exc xd_PlanFinished xt_PlanFinished (fun h => xne_ParseError_PlanFinished (Value.ref.inj h)) xq_PlanFinished_ParseError⟩; exact ⟨excC_of xg_NotAdmitted xh_NotAdmitted xs_NotAdmitted xd_NotAdmitted xo_NotAdmitted oc_get2 oc_tak2 xm_NotAdmitted, kit_exc xd_PlanFinished xt_PlanFinished (fun h => xne_NotAdmitted_PlanFinished (Value.ref.inj h)) xq_PlanFinished_NotAdmitted⟩; exact ⟨excC_of xg_NoSolution xh_NoSolution xs_NoSolution xd_NoSolution xo_NoSolution oc_get2 oc_tak2 xm_NoSolution, kit_exc xd_PlanFinished xt_PlanFinished (fun h => xne_NoSolution_PlanFinished (Value.ref.inj h)) xq_PlanFinished_NoSolution⟩; exact ⟨excC_of xg_InvalidGroups xh_InvalidGroups xs_InvalidGroups xd_InvalidGroups xo_InvalidGroups oc_get2 oc_tak2 xm_InvalidGroups, kit_exc xd_PlanFinished xt_PlanFinished (fun h => xne_InvalidGroups_PlanFinished (Value.ref.inj h)) xq_PlanFinished_InvalidGroups⟩; exact ⟨excC_of xg_UnknownGroup xh_UnknownGroup xs_UnknownGroup xd_UnknownGroup xo_UnknownGroup oc_get2 oc_tak2 xm_UnknownGroup, kit_exc xd_PlanFinished xt_PlanFinished (fun h => xne_UnknownGroup_PlanFinished (Value.ref.inj h)) xq_PlanFinished_UnknownGroup⟩; exact ⟨excC_of xg_InvalidRoll xh_InvalidRoll xs_InvalidRoll xd_InvalidRoll xo_InvalidRoll oc_get2 oc_tak2 xm_InvalidRoll, kit_exc xd_PlanFinished xt_PlanFinished (fun h => xne_InvalidRoll_PlanFinished (Value.ref.inj h)) xq_PlanFinished_InvalidRoll⟩; exact ⟨excC_of xg_InvalidMembers xh_InvalidMembers xs_InvalidMembers xd_InvalidMembers xo_InvalidMembers oc_get2 oc_tak2 xm_InvalidMembers, kit_exc xd_PlanFinished xt_PlanFinished (fun h => xne_InvalidMembers_PlanFinished (Value.ref.inj h)) xq_PlanFinished_InvalidMembers⟩; exact ⟨excC_of xg_InvalidStep xh_InvalidStep xs_InvalidStep xd_InvalidStep xo_InvalidStep oc_get2 oc_tak2 xm_InvalidStep, kit_exc xd_PlanFinished xt_PlanFinished (fun h => xne_InvalidStep_PlanFinished (Value.ref.inj h)) xq_PlanFinished_InvalidStep⟩; exact ⟨excC_of xg_InvalidPrices xh_InvalidPrices xs_InvalidPrices xd_InvalidPrices xo_InvalidPrices oc_get2 oc_tak2 xm_InvalidPrices, kit_exc xd_PlanFinished xt_PlanFinished (fun h => xne_InvalidPrices_PlanFinished (Value.ref.inj h)) xq_PlanFinished_InvalidPrices⟩; exact ⟨excC_of xg_InvalidAmounts xh_InvalidAmounts xs_InvalidAmounts xd_InvalidAmounts xo_InvalidAmounts oc_get2 oc_tak2 xm_InvalidAmounts, kit_exc xd_PlanFinished xt_PlanFinished (fun h => xne_InvalidAmounts_PlanFinished (Value.ref.inj h)) xq_PlanFinished_InvalidAmounts⟩; exact ⟨excC_of xg_NotASolution xh_NotASolution xs_NotASolution xd_NotASolution xo_NotASolution oc_get2 oc_tak2 xm_NotASolution, kit_exc xd_PlanFinished xt_PlanFinished (fun h => xne_NotASolution_PlanFinished (Value.ref.inj h)) xq_PlanFinished_NotASolution⟩; exact ⟨excC_of xg_PlanFinished xh_PlanFinished xs_PlanFinished xd_PlanFinished xo_PlanFinished oc_get2 oc_tak2 xm_PlanFinished, kit_self _⟩; exact ⟨excC_of xg_NothingToUndo xh_NothingToUndo xs_NothingToUndo xd_NothingToUndo xo_NothingToUndo oc_get2 oc_tak2 xm_NothingToUndo, kit_exc xd_PlanFinished xt_PlanFinished (fun h => xne_PlanFinished_NothingToUndo.symm (Value.ref.inj h)) xq_PlanFinished_NothingToUndo⟩; exact ⟨excC_of xg_InvalidName xh_InvalidName xs_InvalidName xd_InvalidName xo_InvalidName oc_get2 oc_tak2 xm_InvalidName, kit_exc xd_PlanFinished xt_PlanFinished (fun h => xne_PlanFinished_InvalidName.symm (Value.ref.inj h)) xq_PlanFinished_InvalidName⟩; exact ⟨excC_of xg_DuplicateName xh_DuplicateName xs_DuplicateName xd_DuplicateName xo_DuplicateName oc_get2 oc_tak2 xm_DuplicateName, kit_exc xd_PlanFinished xt_PlanFinished (fun h => xne_PlanFinished_DuplicateName.symm (Value.ref.inj h)) xq_PlanFinished_DuplicateName⟩; exact ⟨excC_of xg_UnknownName xh_UnknownName xs_UnknownName xd_UnknownName xo_UnknownName oc_get2 oc_tak2 xm_UnknownName, kit_exc xd_PlanFinished xt_PlanFinished (fun h => xne_PlanFinished_UnknownName.symm (Value.ref.inj h)) xq_PlanFinished_UnknownName⟩; exact ⟨excC_of xg_UnknownMark xh_UnknownMark xs_UnknownMark xd_UnknownMark xo_UnknownMark oc_get2 oc_tak2 xm_UnknownMark, kit_exc xd_PlanFinished xt_PlanFinished (fun h => xne_PlanFinished_UnknownMark.symm (Value.ref.inj h)) xq_PlanFinished_UnknownMark⟩; exact ⟨excC_of xg_InvalidCommand xh_InvalidCommand xs_InvalidCommand xd_InvalidCommand xo_InvalidCommand oc_get2 oc_tak2 xm_InvalidCommand, kit_exc xd_PlanFinished xt_PlanFinished (fun h => xne_PlanFinished_InvalidCommand.symm (Value.ref.inj h)) xq_PlanFinished_InvalidCommand⟩; exact ⟨excC_of xg_InvalidLine xh_InvalidLine xs_InvalidLine xd_InvalidLine xo_InvalidLine oc_get2 oc_tak2 xm_InvalidLine, kit_exc xd_PlanFinished xt_PlanFinished (fun h => xne_PlanFinished_InvalidLine.symm (Value.ref.inj h)) xq_PlanFinished_InvalidLine⟩⟩,
    ie_QuotaError := ⟨kit_exc xd_QuotaError xt_QuotaError (fun z => nomatch z) xq_QuotaError_non, fun q hq => by simp [ix_QuotaError] at hq; rcases hq with rfl | rfl | rfl | rfl | rfl | rfl | rfl | rfl | rfl | rfl | rfl | rfl | rfl | rfl | rfl | rfl | rfl | rfl | rfl; exact ⟨excC_of xg_ParseError xh_ParseError xs_ParseError xd_ParseError xo_ParseError oc_get2 oc_tak2 xm_ParseError, kit_exc xd_QuotaError xt_QuotaError (fun h => xne_QuotaError_ParseError.symm (Value.ref.inj h)) xq_QuotaError_ParseError⟩; exact ⟨excC_of xg_NotAdmitted xh_NotAdmitted xs_NotAdmitted xd_NotAdmitted xo_NotAdmitted oc_get2 oc_tak2 xm_NotAdmitted, kit_exc xd_QuotaError xt_QuotaError (fun h => xne_QuotaError_NotAdmitted.symm (Value.ref.inj h)) xq_QuotaError_NotAdmitted⟩; exact ⟨excC_of xg_NoSolution xh_NoSolution xs_NoSolution xd_NoSolution xo_NoSolution oc_get2 oc_tak2 xm_NoSolution, kit_exc xd_QuotaError xt_QuotaError (fun h => xne_QuotaError_NoSolution.symm (Value.ref.inj h)) xq_QuotaError_NoSolution⟩; exact ⟨excC_of xg_InvalidGroups xh_InvalidGroups xs_InvalidGroups xd_InvalidGroups xo_InvalidGroups oc_get2 oc_tak2 xm_InvalidGroups, kit_exc xd_QuotaError xt_QuotaError (fun h => xne_QuotaError_InvalidGroups.symm (Value.ref.inj h)) xq_QuotaError_InvalidGroups⟩; exact ⟨excC_of xg_UnknownGroup xh_UnknownGroup xs_UnknownGroup xd_UnknownGroup xo_UnknownGroup oc_get2 oc_tak2 xm_UnknownGroup, kit_exc xd_QuotaError xt_QuotaError (fun h => xne_QuotaError_UnknownGroup.symm (Value.ref.inj h)) xq_QuotaError_UnknownGroup⟩; exact ⟨excC_of xg_InvalidRoll xh_InvalidRoll xs_InvalidRoll xd_InvalidRoll xo_InvalidRoll oc_get2 oc_tak2 xm_InvalidRoll, kit_exc xd_QuotaError xt_QuotaError (fun h => xne_QuotaError_InvalidRoll.symm (Value.ref.inj h)) xq_QuotaError_InvalidRoll⟩; exact ⟨excC_of xg_InvalidMembers xh_InvalidMembers xs_InvalidMembers xd_InvalidMembers xo_InvalidMembers oc_get2 oc_tak2 xm_InvalidMembers, kit_exc xd_QuotaError xt_QuotaError (fun h => xne_QuotaError_InvalidMembers.symm (Value.ref.inj h)) xq_QuotaError_InvalidMembers⟩; exact ⟨excC_of xg_InvalidStep xh_InvalidStep xs_InvalidStep xd_InvalidStep xo_InvalidStep oc_get2 oc_tak2 xm_InvalidStep, kit_exc xd_QuotaError xt_QuotaError (fun h => xne_QuotaError_InvalidStep.symm (Value.ref.inj h)) xq_QuotaError_InvalidStep⟩; exact ⟨excC_of xg_InvalidPrices xh_InvalidPrices xs_InvalidPrices xd_InvalidPrices xo_InvalidPrices oc_get2 oc_tak2 xm_InvalidPrices, kit_exc xd_QuotaError xt_QuotaError (fun h => xne_QuotaError_InvalidPrices.symm (Value.ref.inj h)) xq_QuotaError_InvalidPrices⟩; exact ⟨excC_of xg_InvalidAmounts xh_InvalidAmounts xs_InvalidAmounts xd_InvalidAmounts xo_InvalidAmounts oc_get2 oc_tak2 xm_InvalidAmounts, kit_exc xd_QuotaError xt_QuotaError (fun h => xne_QuotaError_InvalidAmounts.symm (Value.ref.inj h)) xq_QuotaError_InvalidAmounts⟩; exact ⟨excC_of xg_NotASolution xh_NotASolution xs_NotASolution xd_NotASolution xo_NotASolution oc_get2 oc_tak2 xm_NotASolution, kit_exc xd_QuotaError xt_QuotaError (fun h => xne_QuotaError_NotASolution.symm (Value.ref.inj h)) xq_QuotaError_NotASolution⟩; exact ⟨excC_of xg_PlanFinished xh_PlanFinished xs_PlanFinished xd_PlanFinished xo_PlanFinished oc_get2 oc_tak2 xm_PlanFinished, kit_exc xd_QuotaError xt_QuotaError (fun h => xne_QuotaError_PlanFinished.symm (Value.ref.inj h)) xq_QuotaError_PlanFinished⟩; exact ⟨excC_of xg_NothingToUndo xh_NothingToUndo xs_NothingToUndo xd_NothingToUndo xo_NothingToUndo oc_get2 oc_tak2 xm_NothingToUndo, kit_exc xd_QuotaError xt_QuotaError (fun h => xne_QuotaError_NothingToUndo.symm (Value.ref.inj h)) xq_QuotaError_NothingToUndo⟩; exact ⟨excC_of xg_InvalidName xh_InvalidName xs_InvalidName xd_InvalidName xo_InvalidName oc_get2 oc_tak2 xm_InvalidName, kit_exc xd_QuotaError xt_QuotaError (fun h => xne_QuotaError_InvalidName.symm (Value.ref.inj h)) xq_QuotaError_InvalidName⟩; exact ⟨excC_of xg_DuplicateName xh_DuplicateName xs_DuplicateName xd_DuplicateName xo_DuplicateName oc_get2 oc_tak2 xm_DuplicateName, kit_exc xd_QuotaError xt_QuotaError (fun h => xne_QuotaError_DuplicateName.symm (Value.ref.inj h)) xq_QuotaError_DuplicateName⟩; exact ⟨excC_of xg_UnknownName xh_UnknownName xs_UnknownName xd_UnknownName xo_UnknownName oc_get2 oc_tak2 xm_UnknownName, kit_exc xd_QuotaError xt_QuotaError (fun h => xne_QuotaError_UnknownName.symm (Value.ref.inj h)) xq_QuotaError_UnknownName⟩; exact ⟨excC_of xg_UnknownMark xh_UnknownMark xs_UnknownMark xd_UnknownMark xo_UnknownMark oc_get2 oc_tak2 xm_UnknownMark, kit_exc xd_QuotaError xt_QuotaError (fun h => xne_QuotaError_UnknownMark.symm (Value.ref.inj h)) xq_QuotaError_UnknownMark⟩; exact ⟨excC_of xg_InvalidCommand xh_InvalidCommand xs_InvalidCommand xd_InvalidCommand xo_InvalidCommand oc_get2 oc_tak2 xm_InvalidCommand, kit_exc xd_QuotaError xt_QuotaError (fun h => xne_QuotaError_InvalidCommand.symm (Value.ref.inj h)) xq_QuotaError_InvalidCommand⟩; exact ⟨excC_of xg_InvalidLine xh_InvalidLine xs_InvalidLine xd_InvalidLine xo_InvalidLine oc_get2 oc_tak2 xm_InvalidLine, kit_exc xd_QuotaError xt_QuotaError (fun h => xne_QuotaError_InvalidLine.symm (Value.ref.inj h)) xq_QuotaError_InvalidLine⟩⟩,
    ie_UnknownGroup := ⟨kit_exc xd_UnknownGroup xt_UnknownGroup (fun z => nomatch z) xq_UnknownGroup_non, fun q hq => by simp [ix_UnknownGroup] at hq; rcases hq with rfl | rfl | rfl | rfl | rfl | rfl | rfl | rfl | rfl | rfl | rfl | rfl | rfl | rfl | rfl | rfl | rfl | rfl | rfl; exact ⟨excC_of xg_ParseError xh_ParseError xs_ParseError xd_ParseError xo_ParseError oc_get2 oc_tak2 xm_ParseError, kit_exc xd_UnknownGroup xt_UnknownGroup (fun h => xne_ParseError_UnknownGroup (Value.ref.inj h)) xq_UnknownGroup_ParseError⟩; exact ⟨excC_of xg_NotAdmitted xh_NotAdmitted xs_NotAdmitted xd_NotAdmitted xo_NotAdmitted oc_get2 oc_tak2 xm_NotAdmitted, kit_exc xd_UnknownGroup xt_UnknownGroup (fun h => xne_NotAdmitted_UnknownGroup (Value.ref.inj h)) xq_UnknownGroup_NotAdmitted⟩; exact ⟨excC_of xg_NoSolution xh_NoSolution xs_NoSolution xd_NoSolution xo_NoSolution oc_get2 oc_tak2 xm_NoSolution, kit_exc xd_UnknownGroup xt_UnknownGroup (fun h => xne_NoSolution_UnknownGroup (Value.ref.inj h)) xq_UnknownGroup_NoSolution⟩; exact ⟨excC_of xg_InvalidGroups xh_InvalidGroups xs_InvalidGroups xd_InvalidGroups xo_InvalidGroups oc_get2 oc_tak2 xm_InvalidGroups, kit_exc xd_UnknownGroup xt_UnknownGroup (fun h => xne_InvalidGroups_UnknownGroup (Value.ref.inj h)) xq_UnknownGroup_InvalidGroups⟩; exact ⟨excC_of xg_UnknownGroup xh_UnknownGroup xs_UnknownGroup xd_UnknownGroup xo_UnknownGroup oc_get2 oc_tak2 xm_UnknownGroup, kit_self _⟩; exact ⟨excC_of xg_InvalidRoll xh_InvalidRoll xs_InvalidRoll xd_InvalidRoll xo_InvalidRoll oc_get2 oc_tak2 xm_InvalidRoll, kit_exc xd_UnknownGroup xt_UnknownGroup (fun h => xne_UnknownGroup_InvalidRoll.symm (Value.ref.inj h)) xq_UnknownGroup_InvalidRoll⟩; exact ⟨excC_of xg_InvalidMembers xh_InvalidMembers xs_InvalidMembers xd_InvalidMembers xo_InvalidMembers oc_get2 oc_tak2 xm_InvalidMembers, kit_exc xd_UnknownGroup xt_UnknownGroup (fun h => xne_UnknownGroup_InvalidMembers.symm (Value.ref.inj h)) xq_UnknownGroup_InvalidMembers⟩; exact ⟨excC_of xg_InvalidStep xh_InvalidStep xs_InvalidStep xd_InvalidStep xo_InvalidStep oc_get2 oc_tak2 xm_InvalidStep, kit_exc xd_UnknownGroup xt_UnknownGroup (fun h => xne_UnknownGroup_InvalidStep.symm (Value.ref.inj h)) xq_UnknownGroup_InvalidStep⟩; exact ⟨excC_of xg_InvalidPrices xh_InvalidPrices xs_InvalidPrices xd_InvalidPrices xo_InvalidPrices oc_get2 oc_tak2 xm_InvalidPrices, kit_exc xd_UnknownGroup xt_UnknownGroup (fun h => xne_UnknownGroup_InvalidPrices.symm (Value.ref.inj h)) xq_UnknownGroup_InvalidPrices⟩; exact ⟨excC_of xg_InvalidAmounts xh_InvalidAmounts xs_InvalidAmounts xd_InvalidAmounts xo_InvalidAmounts oc_get2 oc_tak2 xm_InvalidAmounts, kit_exc xd_UnknownGroup xt_UnknownGroup (fun h => xne_UnknownGroup_InvalidAmounts.symm (Value.ref.inj h)) xq_UnknownGroup_InvalidAmounts⟩; exact ⟨excC_of xg_NotASolution xh_NotASolution xs_NotASolution xd_NotASolution xo_NotASolution oc_get2 oc_tak2 xm_NotASolution, kit_exc xd_UnknownGroup xt_UnknownGroup (fun h => xne_UnknownGroup_NotASolution.symm (Value.ref.inj h)) xq_UnknownGroup_NotASolution⟩; exact ⟨excC_of xg_PlanFinished xh_PlanFinished xs_PlanFinished xd_PlanFinished xo_PlanFinished oc_get2 oc_tak2 xm_PlanFinished, kit_exc xd_UnknownGroup xt_UnknownGroup (fun h => xne_UnknownGroup_PlanFinished.symm (Value.ref.inj h)) xq_UnknownGroup_PlanFinished⟩; exact ⟨excC_of xg_NothingToUndo xh_NothingToUndo xs_NothingToUndo xd_NothingToUndo xo_NothingToUndo oc_get2 oc_tak2 xm_NothingToUndo, kit_exc xd_UnknownGroup xt_UnknownGroup (fun h => xne_UnknownGroup_NothingToUndo.symm (Value.ref.inj h)) xq_UnknownGroup_NothingToUndo⟩; exact ⟨excC_of xg_InvalidName xh_InvalidName xs_InvalidName xd_InvalidName xo_InvalidName oc_get2 oc_tak2 xm_InvalidName, kit_exc xd_UnknownGroup xt_UnknownGroup (fun h => xne_UnknownGroup_InvalidName.symm (Value.ref.inj h)) xq_UnknownGroup_InvalidName⟩; exact ⟨excC_of xg_DuplicateName xh_DuplicateName xs_DuplicateName xd_DuplicateName xo_DuplicateName oc_get2 oc_tak2 xm_DuplicateName, kit_exc xd_UnknownGroup xt_UnknownGroup (fun h => xne_UnknownGroup_DuplicateName.symm (Value.ref.inj h)) xq_UnknownGroup_DuplicateName⟩; exact ⟨excC_of xg_UnknownName xh_UnknownName xs_UnknownName xd_UnknownName xo_UnknownName oc_get2 oc_tak2 xm_UnknownName, kit_exc xd_UnknownGroup xt_UnknownGroup (fun h => xne_UnknownGroup_UnknownName.symm (Value.ref.inj h)) xq_UnknownGroup_UnknownName⟩; exact ⟨excC_of xg_UnknownMark xh_UnknownMark xs_UnknownMark xd_UnknownMark xo_UnknownMark oc_get2 oc_tak2 xm_UnknownMark, kit_exc xd_UnknownGroup xt_UnknownGroup (fun h => xne_UnknownGroup_UnknownMark.symm (Value.ref.inj h)) xq_UnknownGroup_UnknownMark⟩; exact ⟨excC_of xg_InvalidCommand xh_InvalidCommand xs_InvalidCommand xd_InvalidCommand xo_InvalidCommand oc_get2 oc_tak2 xm_InvalidCommand, kit_exc xd_UnknownGroup xt_UnknownGroup (fun h => xne_UnknownGroup_InvalidCommand.symm (Value.ref.inj h)) xq_UnknownGroup_InvalidCommand⟩; exact ⟨excC_of xg_InvalidLine xh_InvalidLine xs_InvalidLine xd_InvalidLine xo_InvalidLine oc_get2 oc_tak2 xm_InvalidLine, kit_exc xd_UnknownGroup xt_UnknownGroup (fun h => xne_UnknownGroup_InvalidLine.symm (Value.ref.inj h)) xq_UnknownGroup_InvalidLine⟩⟩,
    ie_UnknownMark := ⟨kit_exc xd_UnknownMark xt_UnknownMark (fun z => nomatch z) xq_UnknownMark_non, fun q hq => by simp [ix_UnknownMark] at hq; rcases hq with rfl | rfl | rfl | rfl | rfl | rfl | rfl | rfl | rfl | rfl | rfl | rfl | rfl | rfl | rfl | rfl | rfl | rfl | rfl; exact ⟨excC_of xg_ParseError xh_ParseError xs_ParseError xd_ParseError xo_ParseError oc_get2 oc_tak2 xm_ParseError, kit_exc xd_UnknownMark xt_UnknownMark (fun h => xne_ParseError_UnknownMark (Value.ref.inj h)) xq_UnknownMark_ParseError⟩; exact ⟨excC_of xg_NotAdmitted xh_NotAdmitted xs_NotAdmitted xd_NotAdmitted xo_NotAdmitted oc_get2 oc_tak2 xm_NotAdmitted, kit_exc xd_UnknownMark xt_UnknownMark (fun h => xne_NotAdmitted_UnknownMark (Value.ref.inj h)) xq_UnknownMark_NotAdmitted⟩; exact ⟨excC_of xg_NoSolution xh_NoSolution xs_NoSolution xd_NoSolution xo_NoSolution oc_get2 oc_tak2 xm_NoSolution, kit_exc xd_UnknownMark xt_UnknownMark (fun h => xne_NoSolution_UnknownMark (Value.ref.inj h)) xq_UnknownMark_NoSolution⟩; exact ⟨excC_of xg_InvalidGroups xh_InvalidGroups xs_InvalidGroups xd_InvalidGroups xo_InvalidGroups oc_get2 oc_tak2 xm_InvalidGroups, kit_exc xd_UnknownMark xt_UnknownMark (fun h => xne_InvalidGroups_UnknownMark (Value.ref.inj h)) xq_UnknownMark_InvalidGroups⟩; exact ⟨excC_of xg_UnknownGroup xh_UnknownGroup xs_UnknownGroup xd_UnknownGroup xo_UnknownGroup oc_get2 oc_tak2 xm_UnknownGroup, kit_exc xd_UnknownMark xt_UnknownMark (fun h => xne_UnknownGroup_UnknownMark (Value.ref.inj h)) xq_UnknownMark_UnknownGroup⟩; exact ⟨excC_of xg_InvalidRoll xh_InvalidRoll xs_InvalidRoll xd_InvalidRoll xo_InvalidRoll oc_get2 oc_tak2 xm_InvalidRoll, kit_exc xd_UnknownMark xt_UnknownMark (fun h => xne_InvalidRoll_UnknownMark (Value.ref.inj h)) xq_UnknownMark_InvalidRoll⟩; exact ⟨excC_of xg_InvalidMembers xh_InvalidMembers xs_InvalidMembers xd_InvalidMembers xo_InvalidMembers oc_get2 oc_tak2 xm_InvalidMembers, kit_exc xd_UnknownMark xt_UnknownMark (fun h => xne_InvalidMembers_UnknownMark (Value.ref.inj h)) xq_UnknownMark_InvalidMembers⟩; exact ⟨excC_of xg_InvalidStep xh_InvalidStep xs_InvalidStep xd_InvalidStep xo_InvalidStep oc_get2 oc_tak2 xm_InvalidStep, kit_exc xd_UnknownMark xt_UnknownMark (fun h => xne_InvalidStep_UnknownMark (Value.ref.inj h)) xq_UnknownMark_InvalidStep⟩; exact ⟨excC_of xg_InvalidPrices xh_InvalidPrices xs_InvalidPrices xd_InvalidPrices xo_InvalidPrices oc_get2 oc_tak2 xm_InvalidPrices, kit_exc xd_UnknownMark xt_UnknownMark (fun h => xne_InvalidPrices_UnknownMark (Value.ref.inj h)) xq_UnknownMark_InvalidPrices⟩; exact ⟨excC_of xg_InvalidAmounts xh_InvalidAmounts xs_InvalidAmounts xd_InvalidAmounts xo_InvalidAmounts oc_get2 oc_tak2 xm_InvalidAmounts, kit_exc xd_UnknownMark xt_UnknownMark (fun h => xne_InvalidAmounts_UnknownMark (Value.ref.inj h)) xq_UnknownMark_InvalidAmounts⟩; exact ⟨excC_of xg_NotASolution xh_NotASolution xs_NotASolution xd_NotASolution xo_NotASolution oc_get2 oc_tak2 xm_NotASolution, kit_exc xd_UnknownMark xt_UnknownMark (fun h => xne_NotASolution_UnknownMark (Value.ref.inj h)) xq_UnknownMark_NotASolution⟩; exact ⟨excC_of xg_PlanFinished xh_PlanFinished xs_PlanFinished xd_PlanFinished xo_PlanFinished oc_get2 oc_tak2 xm_PlanFinished, kit_exc xd_UnknownMark xt_UnknownMark (fun h => xne_PlanFinished_UnknownMark (Value.ref.inj h)) xq_UnknownMark_PlanFinished⟩; exact ⟨excC_of xg_NothingToUndo xh_NothingToUndo xs_NothingToUndo xd_NothingToUndo xo_NothingToUndo oc_get2 oc_tak2 xm_NothingToUndo, kit_exc xd_UnknownMark xt_UnknownMark (fun h => xne_NothingToUndo_UnknownMark (Value.ref.inj h)) xq_UnknownMark_NothingToUndo⟩; exact ⟨excC_of xg_InvalidName xh_InvalidName xs_InvalidName xd_InvalidName xo_InvalidName oc_get2 oc_tak2 xm_InvalidName, kit_exc xd_UnknownMark xt_UnknownMark (fun h => xne_InvalidName_UnknownMark (Value.ref.inj h)) xq_UnknownMark_InvalidName⟩; exact ⟨excC_of xg_DuplicateName xh_DuplicateName xs_DuplicateName xd_DuplicateName xo_DuplicateName oc_get2 oc_tak2 xm_DuplicateName, kit_exc xd_UnknownMark xt_UnknownMark (fun h => xne_DuplicateName_UnknownMark (Value.ref.inj h)) xq_UnknownMark_DuplicateName⟩; exact ⟨excC_of xg_UnknownName xh_UnknownName xs_UnknownName xd_UnknownName xo_UnknownName oc_get2 oc_tak2 xm_UnknownName, kit_exc xd_UnknownMark xt_UnknownMark (fun h => xne_UnknownName_UnknownMark (Value.ref.inj h)) xq_UnknownMark_UnknownName⟩; exact ⟨excC_of xg_UnknownMark xh_UnknownMark xs_UnknownMark xd_UnknownMark xo_UnknownMark oc_get2 oc_tak2 xm_UnknownMark, kit_self _⟩; exact ⟨excC_of xg_InvalidCommand xh_InvalidCommand xs_InvalidCommand xd_InvalidCommand xo_InvalidCommand oc_get2 oc_tak2 xm_InvalidCommand, kit_exc xd_UnknownMark xt_UnknownMark (fun h => xne_UnknownMark_InvalidCommand.symm (Value.ref.inj h)) xq_UnknownMark_InvalidCommand⟩; exact ⟨excC_of xg_InvalidLine xh_InvalidLine xs_InvalidLine xd_InvalidLine xo_InvalidLine oc_get2 oc_tak2 xm_InvalidLine, kit_exc xd_UnknownMark xt_UnknownMark (fun h => xne_UnknownMark_InvalidLine.symm (Value.ref.inj h)) xq_UnknownMark_InvalidLine⟩⟩,
    ie_UnknownName := ⟨kit_exc xd_UnknownName xt_UnknownName (fun z => nomatch z) xq_UnknownName_non, fun q hq => by simp [ix_UnknownName] at hq; rcases hq with rfl | rfl | rfl | rfl | rfl | rfl | rfl | rfl | rfl | rfl | rfl | rfl | rfl | rfl | rfl | rfl | rfl | rfl | rfl; exact ⟨excC_of xg_ParseError xh_ParseError xs_ParseError xd_ParseError xo_ParseError oc_get2 oc_tak2 xm_ParseError, kit_exc xd_UnknownName xt_UnknownName (fun h => xne_ParseError_UnknownName (Value.ref.inj h)) xq_UnknownName_ParseError⟩; exact ⟨excC_of xg_NotAdmitted xh_NotAdmitted xs_NotAdmitted xd_NotAdmitted xo_NotAdmitted oc_get2 oc_tak2 xm_NotAdmitted, kit_exc xd_UnknownName xt_UnknownName (fun h => xne_NotAdmitted_UnknownName (Value.ref.inj h)) xq_UnknownName_NotAdmitted⟩; exact ⟨excC_of xg_NoSolution xh_NoSolution xs_NoSolution xd_NoSolution xo_NoSolution oc_get2 oc_tak2 xm_NoSolution, kit_exc xd_UnknownName xt_UnknownName (fun h => xne_NoSolution_UnknownName (Value.ref.inj h)) xq_UnknownName_NoSolution⟩; exact ⟨excC_of xg_InvalidGroups xh_InvalidGroups xs_InvalidGroups xd_InvalidGroups xo_InvalidGroups oc_get2 oc_tak2 xm_InvalidGroups, kit_exc xd_UnknownName xt_UnknownName (fun h => xne_InvalidGroups_UnknownName (Value.ref.inj h)) xq_UnknownName_InvalidGroups⟩; exact ⟨excC_of xg_UnknownGroup xh_UnknownGroup xs_UnknownGroup xd_UnknownGroup xo_UnknownGroup oc_get2 oc_tak2 xm_UnknownGroup, kit_exc xd_UnknownName xt_UnknownName (fun h => xne_UnknownGroup_UnknownName (Value.ref.inj h)) xq_UnknownName_UnknownGroup⟩; exact ⟨excC_of xg_InvalidRoll xh_InvalidRoll xs_InvalidRoll xd_InvalidRoll xo_InvalidRoll oc_get2 oc_tak2 xm_InvalidRoll, kit_exc xd_UnknownName xt_UnknownName (fun h => xne_InvalidRoll_UnknownName (Value.ref.inj h)) xq_UnknownName_InvalidRoll⟩; exact ⟨excC_of xg_InvalidMembers xh_InvalidMembers xs_InvalidMembers xd_InvalidMembers xo_InvalidMembers oc_get2 oc_tak2 xm_InvalidMembers, kit_exc xd_UnknownName xt_UnknownName (fun h => xne_InvalidMembers_UnknownName (Value.ref.inj h)) xq_UnknownName_InvalidMembers⟩; exact ⟨excC_of xg_InvalidStep xh_InvalidStep xs_InvalidStep xd_InvalidStep xo_InvalidStep oc_get2 oc_tak2 xm_InvalidStep, kit_exc xd_UnknownName xt_UnknownName (fun h => xne_InvalidStep_UnknownName (Value.ref.inj h)) xq_UnknownName_InvalidStep⟩; exact ⟨excC_of xg_InvalidPrices xh_InvalidPrices xs_InvalidPrices xd_InvalidPrices xo_InvalidPrices oc_get2 oc_tak2 xm_InvalidPrices, kit_exc xd_UnknownName xt_UnknownName (fun h => xne_InvalidPrices_UnknownName (Value.ref.inj h)) xq_UnknownName_InvalidPrices⟩; exact ⟨excC_of xg_InvalidAmounts xh_InvalidAmounts xs_InvalidAmounts xd_InvalidAmounts xo_InvalidAmounts oc_get2 oc_tak2 xm_InvalidAmounts, kit_exc xd_UnknownName xt_UnknownName (fun h => xne_InvalidAmounts_UnknownName (Value.ref.inj h)) xq_UnknownName_InvalidAmounts⟩; exact ⟨excC_of xg_NotASolution xh_NotASolution xs_NotASolution xd_NotASolution xo_NotASolution oc_get2 oc_tak2 xm_NotASolution, kit_exc xd_UnknownName xt_UnknownName (fun h => xne_NotASolution_UnknownName (Value.ref.inj h)) xq_UnknownName_NotASolution⟩; exact ⟨excC_of xg_PlanFinished xh_PlanFinished xs_PlanFinished xd_PlanFinished xo_PlanFinished oc_get2 oc_tak2 xm_PlanFinished, kit_exc xd_UnknownName xt_UnknownName (fun h => xne_PlanFinished_UnknownName (Value.ref.inj h)) xq_UnknownName_PlanFinished⟩; exact ⟨excC_of xg_NothingToUndo xh_NothingToUndo xs_NothingToUndo xd_NothingToUndo xo_NothingToUndo oc_get2 oc_tak2 xm_NothingToUndo, kit_exc xd_UnknownName xt_UnknownName (fun h => xne_NothingToUndo_UnknownName (Value.ref.inj h)) xq_UnknownName_NothingToUndo⟩; exact ⟨excC_of xg_InvalidName xh_InvalidName xs_InvalidName xd_InvalidName xo_InvalidName oc_get2 oc_tak2 xm_InvalidName, kit_exc xd_UnknownName xt_UnknownName (fun h => xne_InvalidName_UnknownName (Value.ref.inj h)) xq_UnknownName_InvalidName⟩; exact ⟨excC_of xg_DuplicateName xh_DuplicateName xs_DuplicateName xd_DuplicateName xo_DuplicateName oc_get2 oc_tak2 xm_DuplicateName, kit_exc xd_UnknownName xt_UnknownName (fun h => xne_DuplicateName_UnknownName (Value.ref.inj h)) xq_UnknownName_DuplicateName⟩; exact ⟨excC_of xg_UnknownName xh_UnknownName xs_UnknownName xd_UnknownName xo_UnknownName oc_get2 oc_tak2 xm_UnknownName, kit_self _⟩; exact ⟨excC_of xg_UnknownMark xh_UnknownMark xs_UnknownMark xd_UnknownMark xo_UnknownMark oc_get2 oc_tak2 xm_UnknownMark, kit_exc xd_UnknownName xt_UnknownName (fun h => xne_UnknownName_UnknownMark.symm (Value.ref.inj h)) xq_UnknownName_UnknownMark⟩; exact ⟨excC_of xg_InvalidCommand xh_InvalidCommand xs_InvalidCommand xd_InvalidCommand xo_InvalidCommand oc_get2 oc_tak2 xm_InvalidCommand, kit_exc xd_UnknownName xt_UnknownName (fun h => xne_UnknownName_InvalidCommand.symm (Value.ref.inj h)) xq_UnknownName_InvalidCommand⟩; exact ⟨excC_of xg_InvalidLine xh_InvalidLine xs_InvalidLine xd_InvalidLine xo_InvalidLine oc_get2 oc_tak2 xm_InvalidLine, kit_exc xd_UnknownName xt_UnknownName (fun h => xne_UnknownName_InvalidLine.symm (Value.ref.inj h)) xq_UnknownName_InvalidLine⟩⟩,
    ie_ValueError := ⟨kit_ty (by decide +kernel), fun q hq => by simp [ix_ValueError] at hq; rcases hq with rfl | rfl | rfl | rfl | rfl | rfl | rfl | rfl | rfl | rfl | rfl | rfl | rfl | rfl | rfl | rfl | rfl | rfl | rfl; exact ⟨excC_of xg_ParseError xh_ParseError xs_ParseError xd_ParseError xo_ParseError oc_get2 oc_tak2 xm_ParseError, kit_own (by decide +kernel) xq_ValueError_ParseError⟩; exact ⟨excC_of xg_NotAdmitted xh_NotAdmitted xs_NotAdmitted xd_NotAdmitted xo_NotAdmitted oc_get2 oc_tak2 xm_NotAdmitted, kit_own (by decide +kernel) xq_ValueError_NotAdmitted⟩; exact ⟨excC_of xg_NoSolution xh_NoSolution xs_NoSolution xd_NoSolution xo_NoSolution oc_get2 oc_tak2 xm_NoSolution, kit_own (by decide +kernel) xq_ValueError_NoSolution⟩; exact ⟨excC_of xg_InvalidGroups xh_InvalidGroups xs_InvalidGroups xd_InvalidGroups xo_InvalidGroups oc_get2 oc_tak2 xm_InvalidGroups, kit_own (by decide +kernel) xq_ValueError_InvalidGroups⟩; exact ⟨excC_of xg_UnknownGroup xh_UnknownGroup xs_UnknownGroup xd_UnknownGroup xo_UnknownGroup oc_get2 oc_tak2 xm_UnknownGroup, kit_own (by decide +kernel) xq_ValueError_UnknownGroup⟩; exact ⟨excC_of xg_InvalidRoll xh_InvalidRoll xs_InvalidRoll xd_InvalidRoll xo_InvalidRoll oc_get2 oc_tak2 xm_InvalidRoll, kit_own (by decide +kernel) xq_ValueError_InvalidRoll⟩; exact ⟨excC_of xg_InvalidMembers xh_InvalidMembers xs_InvalidMembers xd_InvalidMembers xo_InvalidMembers oc_get2 oc_tak2 xm_InvalidMembers, kit_own (by decide +kernel) xq_ValueError_InvalidMembers⟩; exact ⟨excC_of xg_InvalidStep xh_InvalidStep xs_InvalidStep xd_InvalidStep xo_InvalidStep oc_get2 oc_tak2 xm_InvalidStep, kit_own (by decide +kernel) xq_ValueError_InvalidStep⟩; exact ⟨excC_of xg_InvalidPrices xh_InvalidPrices xs_InvalidPrices xd_InvalidPrices xo_InvalidPrices oc_get2 oc_tak2 xm_InvalidPrices, kit_own (by decide +kernel) xq_ValueError_InvalidPrices⟩; exact ⟨excC_of xg_InvalidAmounts xh_InvalidAmounts xs_InvalidAmounts xd_InvalidAmounts xo_InvalidAmounts oc_get2 oc_tak2 xm_InvalidAmounts, kit_own (by decide +kernel) xq_ValueError_InvalidAmounts⟩; exact ⟨excC_of xg_NotASolution xh_NotASolution xs_NotASolution xd_NotASolution xo_NotASolution oc_get2 oc_tak2 xm_NotASolution, kit_own (by decide +kernel) xq_ValueError_NotASolution⟩; exact ⟨excC_of xg_PlanFinished xh_PlanFinished xs_PlanFinished xd_PlanFinished xo_PlanFinished oc_get2 oc_tak2 xm_PlanFinished, kit_own (by decide +kernel) xq_ValueError_PlanFinished⟩; exact ⟨excC_of xg_NothingToUndo xh_NothingToUndo xs_NothingToUndo xd_NothingToUndo xo_NothingToUndo oc_get2 oc_tak2 xm_NothingToUndo, kit_own (by decide +kernel) xq_ValueError_NothingToUndo⟩; exact ⟨excC_of xg_InvalidName xh_InvalidName xs_InvalidName xd_InvalidName xo_InvalidName oc_get2 oc_tak2 xm_InvalidName, kit_own (by decide +kernel) xq_ValueError_InvalidName⟩; exact ⟨excC_of xg_DuplicateName xh_DuplicateName xs_DuplicateName xd_DuplicateName xo_DuplicateName oc_get2 oc_tak2 xm_DuplicateName, kit_own (by decide +kernel) xq_ValueError_DuplicateName⟩; exact ⟨excC_of xg_UnknownName xh_UnknownName xs_UnknownName xd_UnknownName xo_UnknownName oc_get2 oc_tak2 xm_UnknownName, kit_own (by decide +kernel) xq_ValueError_UnknownName⟩; exact ⟨excC_of xg_UnknownMark xh_UnknownMark xs_UnknownMark xd_UnknownMark xo_UnknownMark oc_get2 oc_tak2 xm_UnknownMark, kit_own (by decide +kernel) xq_ValueError_UnknownMark⟩; exact ⟨excC_of xg_InvalidCommand xh_InvalidCommand xs_InvalidCommand xd_InvalidCommand xo_InvalidCommand oc_get2 oc_tak2 xm_InvalidCommand, kit_own (by decide +kernel) xq_ValueError_InvalidCommand⟩; exact ⟨excC_of xg_InvalidLine xh_InvalidLine xs_InvalidLine xd_InvalidLine xo_InvalidLine oc_get2 oc_tak2 xm_InvalidLine, kit_own (by decide +kernel) xq_ValueError_InvalidLine⟩⟩,
    xa_group := fun q hq => by simp [xa_group] at hq; rcases hq with rfl | rfl; exact ⟨⟨xg_NotAdmitted, xh_NotAdmitted, xs_NotAdmitted, xd_NotAdmitted⟩, xn_NotAdmitted⟩; exact ⟨⟨xg_NoSolution, xh_NoSolution, xs_NoSolution, xd_NoSolution⟩, xn_NoSolution⟩,
    xa_line := fun q hq => by simp [xa_line] at hq; subst hq; exact ⟨⟨xg_ParseError, xh_ParseError, xs_ParseError, xd_ParseError⟩, xn_ParseError⟩,
    la := la,
    lu := lu }, Value.ref.inj (Option.some.inj ((PySem.W.mg_of X G g_law).symm.trans hfa)), rfl, rfl⟩
def spLaw (K : Kf) : Sp := fun vs H Q _ => ∃ (a : Addr) (ns : List Int), vs = [.ref a] ∧ SqL K H a (ns.map V.int) ∧ ns.length ≤ 63 ∧ (∀ b u, H b = some u → (∃ o xs, u = .frz o (.lst xs)) ∨ u = .tbl #[]) ∧ TabsK K H ∧ ∀ H', Q (.bl true) H'
theorem law_ok {P : Program} {w : World} {K : Kf} {mg : Str → Option Value} {base : Heap} {c : Cs} (t : Tx K mg c) [TBs K mg base] (plain : ∀ ns : List Int, ns.length ≤ 63 → f_law c [.va (.sh (.scr ns))] = .ret (.sh (.bl true)) none) :
    FnG P w K mg base 3 t.a_law t.fd_law ["_law_script"] (spLaw K) := by
  have F : FnG P w K mg base 3 t.a_law t.fd_law ["_law_script"] (spD K 1 (f_law c)) := Fun.okG t.u_law sc_law (fun vs H Q E h => h.1) fun cdv A out s H vs Q E hr hg h => let ⟨tt, h1, h2⟩ := s_law t E; ⟨tt, h1 ⟨(cdv, A, out, s, H), hr, hg⟩, body_ok rfl h2 (by decide) h⟩
  have key : ∀ vs H Q E, spLaw K vs H Q E → spD K 1 (f_law c) vs H Q E := by
    rintro vs H Q E ⟨a, ns, rfl, sq, hl, hO, hT, q⟩
    exact spD_law (f := f_law c) hl sq hO hT (plain ns hl) q
  exact ⟨fun vs H Q E h => F.len vs H Q E (key vs H Q E h), fun A out s H args us vs Q E hr hg e0 hb r h => F.go A out s H args us vs Q E hr hg e0 hb r (key vs H Q E h)⟩
theorem walk {l : PySem.W.OpenLaw} {q : Program} {loose : List Str} {XP : (Str → Option Value) → Heap → Prop} {YP : World → Heap → Prop} {d : DefRec} {K : Params → PySem.W.Frag} (hn : l.most = some 63) (hdf : d.params.defaults = []) (hrec : (([] : List Str).all fun x => (recsOf q).any fun e => e.name == x) = true)
    (hY : ∀ (w : World) (h : Heap), YP w h → (K w.params).In h) (plain : ∀ (c : Cs) (ns : List Int), c.on = [] → c.xs = [21, 22, 23, 24, 25, 26, 27, 28, 29, 30, 31, 32, 33, 34, 35, 36, 37, 38, 39] → ns.length ≤ 63 → f_law c [.va (.sh (.scr ns))] = .ret (.sh (.bl true)) none)
    (F : ∀ (w : World) (mg : Str → Option Value) (fa : Addr) (h : Heap), (K w.params).In h → h.Ns mainGlobals mg → mg d.name = some (.ref fa) → ∃ (c : Cs) (t : Tx (K w.params) mg c), t.a_law = fa ∧ c.on = [] ∧ c.xs = [21, 22, 23, 24, 25, 26, 27, 28, 29, 30, 31, 32, 33, 34, 35, 36, 37, 38, 39]) :
    PySem.W.WalkO q loose XP YP l.row.toRowW d [] (fun f vs => PySem.call f vs) :=
  walk_ofT (n := 63) (k := 3) (x := "_law_script") (sp := fun w => spLaw (K w.params)) hn (by decide) hdf ⟨rfl, by decide, by decide⟩ callerA_guards hY
    (fun w mg fa h KX G hmg => by
      obtain ⟨c, t, rfl, hon, hxs⟩ := F w mg fa h KX G hmg
      obtain ⟨oc, od, kV, doc, pm, an, cdv, ct, osl, e, _⟩ := t.u_law.ex
      refine ⟨t.fd_law, [], fun s u => ?_, t.la, fun z hz => ?_, fun base _ _ TB => ?_⟩
      · rw [e]
        exact .of_eq rfl
      · have hr2 := List.all_eq_true.mp hrec
        cases hz
      · haveI : TBs (K w.params) mg base := tbs_of t.la fun g hg => by
          obtain ⟨z, hz, rfl⟩ := List.mem_map.mp (show g ∈ ([] : LamL).map (·.2.1) from hg)
          exact TB z hz
        exact law_ok t (fun ns => plain c ns hon hxs))
    fun w s a vs ns H hl sq hO hT => ⟨a, ns, rfl, sq, hl, hO, hT, fun _ => rfl⟩
end W
end
open PySem PySem.W PyProof.Rows
def PySem.W.Fast.tw15091266799469482562 : Nat := 0
def PySem.W.Fast.tw1682645868604153252 : Nat := 0
def PySem.W.Fast.tw3077746907591013493 : Nat := 0
def PySem.W.Fast.tw13968200876626590989 : Nat := 0
def PySem.W.Fast.tw17463099747428557729 : Nat := 0
def PySem.W.Fast.tw1620671044894476171 : Nat := 0
def PySem.W.Fast.tw14102705947418864922 : Nat := 0
def PySem.W.Fast.tw6333409870548455485 : Nat := 0
def PySem.W.Fast.tw5915364076364382793 : Nat := 0
set_option maxRecDepth 100000 in
set_option maxHeartbeats 0 in
theorem PySem.Challenge.cw_quotasteps_k01_errors_holds : PySem.Challenge.rw_quotasteps_k01_errors.Holds := by
  w_on; o_law; k_head; (case hw => w_witness2)
  k_fill
  refine W.walk (l := PySem.Challenge.rw_quotasteps_k01_errors) rfl rfl ?R (fun w h Y => PySem.W.kIn_of Y) W.plain ?F
  case R => kernel_rfl
  case F => as_aux_lemma =>
    intro w mg fa h KX G hmg
    refine' W.tx_mk KX G hmg ?g_law_pen ?l_law_pen ?c_law_pen ?k_law_pen ?g_law_next ?l_law_next ?c_law_next ?k_law_next ?g_law_draw ?l_law_draw ?c_law_draw ?k_law_draw ?g_law_kinds ?l_law_kinds ?c_law_kinds ?k_law_kinds ?g_law ?l_law ?c_law ?k_law ?z_ValueError ?z_isinstance ?z_len ?z_list ?z_range ?z_str ?aC_QuotaError ?aC_ParseError ?aC_NotAdmitted ?aC_NoSolution ?aC_InvalidGroups ?aC_UnknownGroup ?aC_InvalidRoll ?aC_InvalidMembers ?aC_InvalidStep ?aC_InvalidPrices ?aC_InvalidAmounts ?aC_NotASolution ?aC_PlanFinished ?aC_NothingToUndo ?aC_InvalidName ?aC_DuplicateName ?aC_UnknownName ?aC_UnknownMark ?aC_InvalidCommand ?aC_InvalidLine ?xs_QuotaError ?xt_QuotaError ?xd_QuotaError ?xs_ParseError ?xt_ParseError ?xd_ParseError ?xs_NotAdmitted ?xt_NotAdmitted ?xd_NotAdmitted ?xs_NoSolution ?xt_NoSolution ?xd_NoSolution ?xs_InvalidGroups ?xt_InvalidGroups ?xd_InvalidGroups ?xs_UnknownGroup ?xt_UnknownGroup ?xd_UnknownGroup ?xs_InvalidRoll ?xt_InvalidRoll ?xd_InvalidRoll ?xs_InvalidMembers ?xt_InvalidMembers ?xd_InvalidMembers ?xs_InvalidStep ?xt_InvalidStep ?xd_InvalidStep ?xs_InvalidPrices ?xt_InvalidPrices ?xd_InvalidPrices ?xs_InvalidAmounts ?xt_InvalidAmounts ?xd_InvalidAmounts ?xs_NotASolution ?xt_NotASolution ?xd_NotASolution ?xs_PlanFinished ?xt_PlanFinished ?xd_PlanFinished ?xs_NothingToUndo ?xt_NothingToUndo ?xd_NothingToUndo ?xs_InvalidName ?xt_InvalidName ?xd_InvalidName ?xs_DuplicateName ?xt_DuplicateName ?xd_DuplicateName ?xs_UnknownName ?xt_UnknownName ?xd_UnknownName ?xs_UnknownMark ?xt_UnknownMark ?xd_UnknownMark ?xs_InvalidCommand ?xt_InvalidCommand ?xd_InvalidCommand ?xs_InvalidLine ?xt_InvalidLine ?xd_InvalidLine ?xk_DuplicateName ?xe_DuplicateName ?xk_InvalidAmounts ?xe_InvalidAmounts ?xk_InvalidCommand ?xe_InvalidCommand ?xk_InvalidGroups ?xe_InvalidGroups ?xk_InvalidLine ?xe_InvalidLine ?xk_InvalidMembers ?xe_InvalidMembers ?xk_InvalidName ?xe_InvalidName ?xk_InvalidPrices ?xe_InvalidPrices ?xk_InvalidRoll ?xe_InvalidRoll ?xk_InvalidStep ?xe_InvalidStep ?xk_NoSolution ?xl_NoSolution ?xr_NoSolution ?xa_NoSolution ?xi_NoSolution ?xf_NoSolution ?xn_NoSolution ?xu_NoSolution ?xc_NoSolution ?xj_NoSolution ?xk_NotASolution ?xe_NotASolution ?xk_NotAdmitted ?xl_NotAdmitted ?xr_NotAdmitted ?xa_NotAdmitted ?xi_NotAdmitted ?xf_NotAdmitted ?xn_NotAdmitted ?xu_NotAdmitted ?xc_NotAdmitted ?xj_NotAdmitted ?xk_NothingToUndo ?xe_NothingToUndo ?xk_ParseError ?xl_ParseError ?xr_ParseError ?xa_ParseError ?xi_ParseError ?xf_ParseError ?xn_ParseError ?xu_ParseError ?xc_ParseError ?xj_ParseError ?xk_PlanFinished ?xe_PlanFinished ?xk_UnknownGroup ?xe_UnknownGroup ?xk_UnknownMark ?xe_UnknownMark ?xk_UnknownName ?xe_UnknownName ?ve_r ?ve_g ?ve_i ?oc_get2 ?oc_tak2 ?xg_ParseError ?xh_ParseError ?xo_ParseError ?xm_ParseError ?xg_NotAdmitted ?xh_NotAdmitted ?xo_NotAdmitted ?xm_NotAdmitted ?xg_NoSolution ?xh_NoSolution ?xo_NoSolution ?xm_NoSolution ?xg_InvalidGroups ?xh_InvalidGroups ?xo_InvalidGroups ?xm_InvalidGroups ?xg_UnknownGroup ?xh_UnknownGroup ?xo_UnknownGroup ?xm_UnknownGroup ?xg_InvalidRoll ?xh_InvalidRoll ?xo_InvalidRoll ?xm_InvalidRoll ?xg_InvalidMembers ?xh_InvalidMembers ?xo_InvalidMembers ?xm_InvalidMembers ?xg_InvalidStep ?xh_InvalidStep ?xo_InvalidStep ?xm_InvalidStep ?xg_InvalidPrices ?xh_InvalidPrices ?xo_InvalidPrices ?xm_InvalidPrices ?xg_InvalidAmounts ?xh_InvalidAmounts ?xo_InvalidAmounts ?xm_InvalidAmounts ?xg_NotASolution ?xh_NotASolution ?xo_NotASolution ?xm_NotASolution ?xg_PlanFinished ?xh_PlanFinished ?xo_PlanFinished ?xm_PlanFinished ?xg_NothingToUndo ?xh_NothingToUndo ?xo_NothingToUndo ?xm_NothingToUndo ?xg_InvalidName ?xh_InvalidName ?xo_InvalidName ?xm_InvalidName ?xg_DuplicateName ?xh_DuplicateName ?xo_DuplicateName ?xm_DuplicateName ?xg_UnknownName ?xh_UnknownName ?xo_UnknownName ?xm_UnknownName ?xg_UnknownMark ?xh_UnknownMark ?xo_UnknownMark ?xm_UnknownMark ?xg_InvalidCommand ?xh_InvalidCommand ?xo_InvalidCommand ?xm_InvalidCommand ?xg_InvalidLine ?xh_InvalidLine ?xo_InvalidLine ?xm_InvalidLine ?xq_DuplicateName_non ?xq_DuplicateName_ParseError ?xq_DuplicateName_NotAdmitted ?xq_DuplicateName_NoSolution ?xq_DuplicateName_InvalidGroups ?xq_DuplicateName_UnknownGroup ?xq_DuplicateName_InvalidRoll ?xq_DuplicateName_InvalidMembers ?xq_DuplicateName_InvalidStep ?xq_DuplicateName_InvalidPrices ?xq_DuplicateName_InvalidAmounts ?xq_DuplicateName_NotASolution ?xq_DuplicateName_PlanFinished ?xq_DuplicateName_NothingToUndo ?xq_DuplicateName_InvalidName ?xq_DuplicateName_UnknownName ?xq_DuplicateName_UnknownMark ?xq_DuplicateName_InvalidCommand ?xq_DuplicateName_InvalidLine ?xq_InvalidAmounts_non ?xq_InvalidAmounts_ParseError ?xq_InvalidAmounts_NotAdmitted ?xq_InvalidAmounts_NoSolution ?xq_InvalidAmounts_InvalidGroups ?xq_InvalidAmounts_UnknownGroup ?xq_InvalidAmounts_InvalidRoll ?xq_InvalidAmounts_InvalidMembers ?xq_InvalidAmounts_InvalidStep ?xq_InvalidAmounts_InvalidPrices ?xq_InvalidAmounts_NotASolution ?xq_InvalidAmounts_PlanFinished ?xq_InvalidAmounts_NothingToUndo ?xq_InvalidAmounts_InvalidName ?xq_InvalidAmounts_DuplicateName ?xq_InvalidAmounts_UnknownName ?xq_InvalidAmounts_UnknownMark ?xq_InvalidAmounts_InvalidCommand ?xq_InvalidAmounts_InvalidLine ?xq_InvalidCommand_non ?xq_InvalidCommand_ParseError ?xq_InvalidCommand_NotAdmitted ?xq_InvalidCommand_NoSolution ?xq_InvalidCommand_InvalidGroups ?xq_InvalidCommand_UnknownGroup ?xq_InvalidCommand_InvalidRoll ?xq_InvalidCommand_InvalidMembers ?xq_InvalidCommand_InvalidStep ?xq_InvalidCommand_InvalidPrices ?xq_InvalidCommand_InvalidAmounts ?xq_InvalidCommand_NotASolution ?xq_InvalidCommand_PlanFinished ?xq_InvalidCommand_NothingToUndo ?xq_InvalidCommand_InvalidName ?xq_InvalidCommand_DuplicateName ?xq_InvalidCommand_UnknownName ?xq_InvalidCommand_UnknownMark ?xq_InvalidCommand_InvalidLine ?xq_InvalidGroups_non ?xq_InvalidGroups_ParseError ?xq_InvalidGroups_NotAdmitted ?xq_InvalidGroups_NoSolution ?xq_InvalidGroups_UnknownGroup ?xq_InvalidGroups_InvalidRoll ?xq_InvalidGroups_InvalidMembers ?xq_InvalidGroups_InvalidStep ?xq_InvalidGroups_InvalidPrices ?xq_InvalidGroups_InvalidAmounts ?xq_InvalidGroups_NotASolution ?xq_InvalidGroups_PlanFinished ?xq_InvalidGroups_NothingToUndo ?xq_InvalidGroups_InvalidName ?xq_InvalidGroups_DuplicateName ?xq_InvalidGroups_UnknownName ?xq_InvalidGroups_UnknownMark ?xq_InvalidGroups_InvalidCommand ?xq_InvalidGroups_InvalidLine ?xq_InvalidLine_non ?xq_InvalidLine_ParseError ?xq_InvalidLine_NotAdmitted ?xq_InvalidLine_NoSolution ?xq_InvalidLine_InvalidGroups ?xq_InvalidLine_UnknownGroup ?xq_InvalidLine_InvalidRoll ?xq_InvalidLine_InvalidMembers ?xq_InvalidLine_InvalidStep ?xq_InvalidLine_InvalidPrices ?xq_InvalidLine_InvalidAmounts ?xq_InvalidLine_NotASolution ?xq_InvalidLine_PlanFinished ?xq_InvalidLine_NothingToUndo ?xq_InvalidLine_InvalidName ?xq_InvalidLine_DuplicateName ?xq_InvalidLine_UnknownName ?xq_InvalidLine_UnknownMark ?xq_InvalidLine_InvalidCommand ?xq_InvalidMembers_non ?xq_InvalidMembers_ParseError ?xq_InvalidMembers_NotAdmitted ?xq_InvalidMembers_NoSolution ?xq_InvalidMembers_InvalidGroups ?xq_InvalidMembers_UnknownGroup ?xq_InvalidMembers_InvalidRoll ?xq_InvalidMembers_InvalidStep ?xq_InvalidMembers_InvalidPrices ?xq_InvalidMembers_InvalidAmounts ?xq_InvalidMembers_NotASolution ?xq_InvalidMembers_PlanFinished ?xq_InvalidMembers_NothingToUndo ?xq_InvalidMembers_InvalidName ?xq_InvalidMembers_DuplicateName ?xq_InvalidMembers_UnknownName ?xq_InvalidMembers_UnknownMark ?xq_InvalidMembers_InvalidCommand ?xq_InvalidMembers_InvalidLine ?xq_InvalidName_non ?xq_InvalidName_ParseError ?xq_InvalidName_NotAdmitted ?xq_InvalidName_NoSolution ?xq_InvalidName_InvalidGroups ?xq_InvalidName_UnknownGroup ?xq_InvalidName_InvalidRoll ?xq_InvalidName_InvalidMembers ?xq_InvalidName_InvalidStep ?xq_InvalidName_InvalidPrices ?xq_InvalidName_InvalidAmounts ?xq_InvalidName_NotASolution ?xq_InvalidName_PlanFinished ?xq_InvalidName_NothingToUndo ?xq_InvalidName_DuplicateName ?xq_InvalidName_UnknownName ?xq_InvalidName_UnknownMark ?xq_InvalidName_InvalidCommand ?xq_InvalidName_InvalidLine ?xq_InvalidPrices_non ?xq_InvalidPrices_ParseError ?xq_InvalidPrices_NotAdmitted ?xq_InvalidPrices_NoSolution ?xq_InvalidPrices_InvalidGroups ?xq_InvalidPrices_UnknownGroup ?xq_InvalidPrices_InvalidRoll ?xq_InvalidPrices_InvalidMembers ?xq_InvalidPrices_InvalidStep ?xq_InvalidPrices_InvalidAmounts ?xq_InvalidPrices_NotASolution ?xq_InvalidPrices_PlanFinished ?xq_InvalidPrices_NothingToUndo ?xq_InvalidPrices_InvalidName ?xq_InvalidPrices_DuplicateName ?xq_InvalidPrices_UnknownName ?xq_InvalidPrices_UnknownMark ?xq_InvalidPrices_InvalidCommand ?xq_InvalidPrices_InvalidLine ?xq_InvalidRoll_non ?xq_InvalidRoll_ParseError ?xq_InvalidRoll_NotAdmitted ?xq_InvalidRoll_NoSolution ?xq_InvalidRoll_InvalidGroups ?xq_InvalidRoll_UnknownGroup ?xq_InvalidRoll_InvalidMembers ?xq_InvalidRoll_InvalidStep ?xq_InvalidRoll_InvalidPrices ?xq_InvalidRoll_InvalidAmounts ?xq_InvalidRoll_NotASolution ?xq_InvalidRoll_PlanFinished ?xq_InvalidRoll_NothingToUndo ?xq_InvalidRoll_InvalidName ?xq_InvalidRoll_DuplicateName ?xq_InvalidRoll_UnknownName ?xq_InvalidRoll_UnknownMark ?xq_InvalidRoll_InvalidCommand ?xq_InvalidRoll_InvalidLine ?xq_InvalidStep_non ?xq_InvalidStep_ParseError ?xq_InvalidStep_NotAdmitted ?xq_InvalidStep_NoSolution ?xq_InvalidStep_InvalidGroups ?xq_InvalidStep_UnknownGroup ?xq_InvalidStep_InvalidRoll ?xq_InvalidStep_InvalidMembers ?xq_InvalidStep_InvalidPrices ?xq_InvalidStep_InvalidAmounts ?xq_InvalidStep_NotASolution ?xq_InvalidStep_PlanFinished ?xq_InvalidStep_NothingToUndo ?xq_InvalidStep_InvalidName ?xq_InvalidStep_DuplicateName ?xq_InvalidStep_UnknownName ?xq_InvalidStep_UnknownMark ?xq_InvalidStep_InvalidCommand ?xq_InvalidStep_InvalidLine ?xq_NoSolution_non ?xq_NoSolution_ParseError ?xq_NoSolution_NotAdmitted ?xq_NoSolution_InvalidGroups ?xq_NoSolution_UnknownGroup ?xq_NoSolution_InvalidRoll ?xq_NoSolution_InvalidMembers ?xq_NoSolution_InvalidStep ?xq_NoSolution_InvalidPrices ?xq_NoSolution_InvalidAmounts ?xq_NoSolution_NotASolution ?xq_NoSolution_PlanFinished ?xq_NoSolution_NothingToUndo ?xq_NoSolution_InvalidName ?xq_NoSolution_DuplicateName ?xq_NoSolution_UnknownName ?xq_NoSolution_UnknownMark ?xq_NoSolution_InvalidCommand ?xq_NoSolution_InvalidLine ?xq_NotASolution_non ?xq_NotASolution_ParseError ?xq_NotASolution_NotAdmitted ?xq_NotASolution_NoSolution ?xq_NotASolution_InvalidGroups ?xq_NotASolution_UnknownGroup ?xq_NotASolution_InvalidRoll ?xq_NotASolution_InvalidMembers ?xq_NotASolution_InvalidStep ?xq_NotASolution_InvalidPrices ?xq_NotASolution_InvalidAmounts ?xq_NotASolution_PlanFinished ?xq_NotASolution_NothingToUndo ?xq_NotASolution_InvalidName ?xq_NotASolution_DuplicateName ?xq_NotASolution_UnknownName ?xq_NotASolution_UnknownMark ?xq_NotASolution_InvalidCommand ?xq_NotASolution_InvalidLine ?xq_NotAdmitted_non ?xq_NotAdmitted_ParseError ?xq_NotAdmitted_NoSolution ?xq_NotAdmitted_InvalidGroups ?xq_NotAdmitted_UnknownGroup ?xq_NotAdmitted_InvalidRoll ?xq_NotAdmitted_InvalidMembers ?xq_NotAdmitted_InvalidStep ?xq_NotAdmitted_InvalidPrices ?xq_NotAdmitted_InvalidAmounts ?xq_NotAdmitted_NotASolution ?xq_NotAdmitted_PlanFinished ?xq_NotAdmitted_NothingToUndo ?xq_NotAdmitted_InvalidName ?xq_NotAdmitted_DuplicateName ?xq_NotAdmitted_UnknownName ?xq_NotAdmitted_UnknownMark ?xq_NotAdmitted_InvalidCommand ?xq_NotAdmitted_InvalidLine ?xq_NothingToUndo_non ?xq_NothingToUndo_ParseError ?xq_NothingToUndo_NotAdmitted ?xq_NothingToUndo_NoSolution ?xq_NothingToUndo_InvalidGroups ?xq_NothingToUndo_UnknownGroup ?xq_NothingToUndo_InvalidRoll ?xq_NothingToUndo_InvalidMembers ?xq_NothingToUndo_InvalidStep ?xq_NothingToUndo_InvalidPrices ?xq_NothingToUndo_InvalidAmounts ?xq_NothingToUndo_NotASolution ?xq_NothingToUndo_PlanFinished ?xq_NothingToUndo_InvalidName ?xq_NothingToUndo_DuplicateName ?xq_NothingToUndo_UnknownName ?xq_NothingToUndo_UnknownMark ?xq_NothingToUndo_InvalidCommand ?xq_NothingToUndo_InvalidLine ?xq_ParseError_non ?xq_ParseError_NotAdmitted ?xq_ParseError_NoSolution ?xq_ParseError_InvalidGroups ?xq_ParseError_UnknownGroup ?xq_ParseError_InvalidRoll ?xq_ParseError_InvalidMembers ?xq_ParseError_InvalidStep ?xq_ParseError_InvalidPrices ?xq_ParseError_InvalidAmounts ?xq_ParseError_NotASolution ?xq_ParseError_PlanFinished ?xq_ParseError_NothingToUndo ?xq_ParseError_InvalidName ?xq_ParseError_DuplicateName ?xq_ParseError_UnknownName ?xq_ParseError_UnknownMark ?xq_ParseError_InvalidCommand ?xq_ParseError_InvalidLine ?xq_PlanFinished_non ?xq_PlanFinished_ParseError ?xq_PlanFinished_NotAdmitted ?xq_PlanFinished_NoSolution ?xq_PlanFinished_InvalidGroups ?xq_PlanFinished_UnknownGroup ?xq_PlanFinished_InvalidRoll ?xq_PlanFinished_InvalidMembers ?xq_PlanFinished_InvalidStep ?xq_PlanFinished_InvalidPrices ?xq_PlanFinished_InvalidAmounts ?xq_PlanFinished_NotASolution ?xq_PlanFinished_NothingToUndo ?xq_PlanFinished_InvalidName ?xq_PlanFinished_DuplicateName ?xq_PlanFinished_UnknownName ?xq_PlanFinished_UnknownMark ?xq_PlanFinished_InvalidCommand ?xq_PlanFinished_InvalidLine ?xq_QuotaError_non ?xq_QuotaError_ParseError ?xq_QuotaError_NotAdmitted ?xq_QuotaError_NoSolution ?xq_QuotaError_InvalidGroups ?xq_QuotaError_UnknownGroup ?xq_QuotaError_InvalidRoll ?xq_QuotaError_InvalidMembers ?xq_QuotaError_InvalidStep ?xq_QuotaError_InvalidPrices ?xq_QuotaError_InvalidAmounts ?xq_QuotaError_NotASolution ?xq_QuotaError_PlanFinished ?xq_QuotaError_NothingToUndo ?xq_QuotaError_InvalidName ?xq_QuotaError_DuplicateName ?xq_QuotaError_UnknownName ?xq_QuotaError_UnknownMark ?xq_QuotaError_InvalidCommand ?xq_QuotaError_InvalidLine ?xne_QuotaError_ParseError ?xne_QuotaError_NotAdmitted ?xne_QuotaError_NoSolution ?xne_QuotaError_InvalidGroups ?xne_QuotaError_UnknownGroup ?xne_QuotaError_InvalidRoll ?xne_QuotaError_InvalidMembers ?xne_QuotaError_InvalidStep ?xne_QuotaError_InvalidPrices ?xne_QuotaError_InvalidAmounts ?xne_QuotaError_NotASolution ?xne_QuotaError_PlanFinished ?xne_QuotaError_NothingToUndo ?xne_QuotaError_InvalidName ?xne_QuotaError_DuplicateName ?xne_QuotaError_UnknownName ?xne_QuotaError_UnknownMark ?xne_QuotaError_InvalidCommand ?xne_QuotaError_InvalidLine ?xq_UnknownGroup_non ?xq_UnknownGroup_ParseError ?xq_UnknownGroup_NotAdmitted ?xq_UnknownGroup_NoSolution ?xq_UnknownGroup_InvalidGroups ?xq_UnknownGroup_InvalidRoll ?xq_UnknownGroup_InvalidMembers ?xq_UnknownGroup_InvalidStep ?xq_UnknownGroup_InvalidPrices ?xq_UnknownGroup_InvalidAmounts ?xq_UnknownGroup_NotASolution ?xq_UnknownGroup_PlanFinished ?xq_UnknownGroup_NothingToUndo ?xq_UnknownGroup_InvalidName ?xq_UnknownGroup_DuplicateName ?xq_UnknownGroup_UnknownName ?xq_UnknownGroup_UnknownMark ?xq_UnknownGroup_InvalidCommand ?xq_UnknownGroup_InvalidLine ?xq_UnknownMark_non ?xq_UnknownMark_ParseError ?xq_UnknownMark_NotAdmitted ?xq_UnknownMark_NoSolution ?xq_UnknownMark_InvalidGroups ?xq_UnknownMark_UnknownGroup ?xq_UnknownMark_InvalidRoll ?xq_UnknownMark_InvalidMembers ?xq_UnknownMark_InvalidStep ?xq_UnknownMark_InvalidPrices ?xq_UnknownMark_InvalidAmounts ?xq_UnknownMark_NotASolution ?xq_UnknownMark_PlanFinished ?xq_UnknownMark_NothingToUndo ?xq_UnknownMark_InvalidName ?xq_UnknownMark_DuplicateName ?xq_UnknownMark_UnknownName ?xq_UnknownMark_InvalidCommand ?xq_UnknownMark_InvalidLine ?xq_UnknownName_non ?xq_UnknownName_ParseError ?xq_UnknownName_NotAdmitted ?xq_UnknownName_NoSolution ?xq_UnknownName_InvalidGroups ?xq_UnknownName_UnknownGroup ?xq_UnknownName_InvalidRoll ?xq_UnknownName_InvalidMembers ?xq_UnknownName_InvalidStep ?xq_UnknownName_InvalidPrices ?xq_UnknownName_InvalidAmounts ?xq_UnknownName_NotASolution ?xq_UnknownName_PlanFinished ?xq_UnknownName_NothingToUndo ?xq_UnknownName_InvalidName ?xq_UnknownName_DuplicateName ?xq_UnknownName_UnknownMark ?xq_UnknownName_InvalidCommand ?xq_UnknownName_InvalidLine ?xq_ValueError_ParseError ?xq_ValueError_NotAdmitted ?xq_ValueError_NoSolution ?xq_ValueError_InvalidGroups ?xq_ValueError_UnknownGroup ?xq_ValueError_InvalidRoll ?xq_ValueError_InvalidMembers ?xq_ValueError_InvalidStep ?xq_ValueError_InvalidPrices ?xq_ValueError_InvalidAmounts ?xq_ValueError_NotASolution ?xq_ValueError_PlanFinished ?xq_ValueError_NothingToUndo ?xq_ValueError_InvalidName ?xq_ValueError_DuplicateName ?xq_ValueError_UnknownName ?xq_ValueError_UnknownMark ?xq_ValueError_InvalidCommand ?xq_ValueError_InvalidLine ?la ?lu ?xne_ParseError_NotAdmitted ?xne_ParseError_NoSolution ?xne_ParseError_InvalidGroups ?xne_ParseError_UnknownGroup ?xne_ParseError_InvalidRoll ?xne_ParseError_InvalidMembers ?xne_ParseError_InvalidStep ?xne_ParseError_InvalidPrices ?xne_ParseError_InvalidAmounts ?xne_ParseError_NotASolution ?xne_ParseError_PlanFinished ?xne_ParseError_NothingToUndo ?xne_ParseError_InvalidName ?xne_ParseError_DuplicateName ?xne_ParseError_UnknownName ?xne_ParseError_UnknownMark ?xne_ParseError_InvalidCommand ?xne_ParseError_InvalidLine ?xne_NotAdmitted_NoSolution ?xne_NotAdmitted_InvalidGroups ?xne_NotAdmitted_UnknownGroup ?xne_NotAdmitted_InvalidRoll ?xne_NotAdmitted_InvalidMembers ?xne_NotAdmitted_InvalidStep ?xne_NotAdmitted_InvalidPrices ?xne_NotAdmitted_InvalidAmounts ?xne_NotAdmitted_NotASolution ?xne_NotAdmitted_PlanFinished ?xne_NotAdmitted_NothingToUndo ?xne_NotAdmitted_InvalidName ?xne_NotAdmitted_DuplicateName ?xne_NotAdmitted_UnknownName ?xne_NotAdmitted_UnknownMark ?xne_NotAdmitted_InvalidCommand ?xne_NotAdmitted_InvalidLine ?xne_NoSolution_InvalidGroups ?xne_NoSolution_UnknownGroup ?xne_NoSolution_InvalidRoll ?xne_NoSolution_InvalidMembers ?xne_NoSolution_InvalidStep ?xne_NoSolution_InvalidPrices ?xne_NoSolution_InvalidAmounts ?xne_NoSolution_NotASolution ?xne_NoSolution_PlanFinished ?xne_NoSolution_NothingToUndo ?xne_NoSolution_InvalidName ?xne_NoSolution_DuplicateName ?xne_NoSolution_UnknownName ?xne_NoSolution_UnknownMark ?xne_NoSolution_InvalidCommand ?xne_NoSolution_InvalidLine ?xne_InvalidGroups_UnknownGroup ?xne_InvalidGroups_InvalidRoll ?xne_InvalidGroups_InvalidMembers ?xne_InvalidGroups_InvalidStep ?xne_InvalidGroups_InvalidPrices ?xne_InvalidGroups_InvalidAmounts ?xne_InvalidGroups_NotASolution ?xne_InvalidGroups_PlanFinished ?xne_InvalidGroups_NothingToUndo ?xne_InvalidGroups_InvalidName ?xne_InvalidGroups_DuplicateName ?xne_InvalidGroups_UnknownName ?xne_InvalidGroups_UnknownMark ?xne_InvalidGroups_InvalidCommand ?xne_InvalidGroups_InvalidLine ?xne_UnknownGroup_InvalidRoll ?xne_UnknownGroup_InvalidMembers ?xne_UnknownGroup_InvalidStep ?xne_UnknownGroup_InvalidPrices ?xne_UnknownGroup_InvalidAmounts ?xne_UnknownGroup_NotASolution ?xne_UnknownGroup_PlanFinished ?xne_UnknownGroup_NothingToUndo ?xne_UnknownGroup_InvalidName ?xne_UnknownGroup_DuplicateName ?xne_UnknownGroup_UnknownName ?xne_UnknownGroup_UnknownMark ?xne_UnknownGroup_InvalidCommand ?xne_UnknownGroup_InvalidLine ?xne_InvalidRoll_InvalidMembers ?xne_InvalidRoll_InvalidStep ?xne_InvalidRoll_InvalidPrices ?xne_InvalidRoll_InvalidAmounts ?xne_InvalidRoll_NotASolution ?xne_InvalidRoll_PlanFinished ?xne_InvalidRoll_NothingToUndo ?xne_InvalidRoll_InvalidName ?xne_InvalidRoll_DuplicateName ?xne_InvalidRoll_UnknownName ?xne_InvalidRoll_UnknownMark ?xne_InvalidRoll_InvalidCommand ?xne_InvalidRoll_InvalidLine ?xne_InvalidMembers_InvalidStep ?xne_InvalidMembers_InvalidPrices ?xne_InvalidMembers_InvalidAmounts ?xne_InvalidMembers_NotASolution ?xne_InvalidMembers_PlanFinished ?xne_InvalidMembers_NothingToUndo ?xne_InvalidMembers_InvalidName ?xne_InvalidMembers_DuplicateName ?xne_InvalidMembers_UnknownName ?xne_InvalidMembers_UnknownMark ?xne_InvalidMembers_InvalidCommand ?xne_InvalidMembers_InvalidLine ?xne_InvalidStep_InvalidPrices ?xne_InvalidStep_InvalidAmounts ?xne_InvalidStep_NotASolution ?xne_InvalidStep_PlanFinished ?xne_InvalidStep_NothingToUndo ?xne_InvalidStep_InvalidName ?xne_InvalidStep_DuplicateName ?xne_InvalidStep_UnknownName ?xne_InvalidStep_UnknownMark ?xne_InvalidStep_InvalidCommand ?xne_InvalidStep_InvalidLine ?xne_InvalidPrices_InvalidAmounts ?xne_InvalidPrices_NotASolution ?xne_InvalidPrices_PlanFinished ?xne_InvalidPrices_NothingToUndo ?xne_InvalidPrices_InvalidName ?xne_InvalidPrices_DuplicateName ?xne_InvalidPrices_UnknownName ?xne_InvalidPrices_UnknownMark ?xne_InvalidPrices_InvalidCommand ?xne_InvalidPrices_InvalidLine ?xne_InvalidAmounts_NotASolution ?xne_InvalidAmounts_PlanFinished ?xne_InvalidAmounts_NothingToUndo ?xne_InvalidAmounts_InvalidName ?xne_InvalidAmounts_DuplicateName ?xne_InvalidAmounts_UnknownName ?xne_InvalidAmounts_UnknownMark ?xne_InvalidAmounts_InvalidCommand ?xne_InvalidAmounts_InvalidLine ?xne_NotASolution_PlanFinished ?xne_NotASolution_NothingToUndo ?xne_NotASolution_InvalidName ?xne_NotASolution_DuplicateName ?xne_NotASolution_UnknownName ?xne_NotASolution_UnknownMark ?xne_NotASolution_InvalidCommand ?xne_NotASolution_InvalidLine ?xne_PlanFinished_NothingToUndo ?xne_PlanFinished_InvalidName ?xne_PlanFinished_DuplicateName ?xne_PlanFinished_UnknownName ?xne_PlanFinished_UnknownMark ?xne_PlanFinished_InvalidCommand ?xne_PlanFinished_InvalidLine ?xne_NothingToUndo_InvalidName ?xne_NothingToUndo_DuplicateName ?xne_NothingToUndo_UnknownName ?xne_NothingToUndo_UnknownMark ?xne_NothingToUndo_InvalidCommand ?xne_NothingToUndo_InvalidLine ?xne_InvalidName_DuplicateName ?xne_InvalidName_UnknownName ?xne_InvalidName_UnknownMark ?xne_InvalidName_InvalidCommand ?xne_InvalidName_InvalidLine ?xne_DuplicateName_UnknownName ?xne_DuplicateName_UnknownMark ?xne_DuplicateName_InvalidCommand ?xne_DuplicateName_InvalidLine ?xne_UnknownName_UnknownMark ?xne_UnknownName_InvalidCommand ?xne_UnknownName_InvalidLine ?xne_UnknownMark_InvalidCommand ?xne_UnknownMark_InvalidLine ?xne_InvalidCommand_InvalidLine
    (case g_law_pen => k_is)
    (case l_law_pen => k_is)
    (case c_law_pen => k_is)
    (case k_law_pen => k_is)
    (case g_law_next => k_is)
    (case l_law_next => k_is)
    (case c_law_next => k_is)
    (case k_law_next => k_is)
    (case g_law_draw => k_is)
    (case l_law_draw => k_is)
    (case c_law_draw => k_is)
    (case k_law_draw => k_is)
    (case g_law_kinds => k_is)
    (case l_law_kinds => k_is)
    (case c_law_kinds => k_is)
    (case k_law_kinds => k_is)
    (case g_law => k_is)
    (case l_law => k_is)
    (case c_law => k_is)
    (case k_law => k_is)
    (case z_ValueError => k_is)
    (case z_isinstance => k_is)
    (case z_len => k_is)
    (case z_list => k_is)
    (case z_range => k_is)
    (case z_str => k_is)
    (case aC_QuotaError => k_is)
    (case aC_ParseError => k_is)
    (case aC_NotAdmitted => k_is)
    (case aC_NoSolution => k_is)
    (case aC_InvalidGroups => k_is)
    (case aC_UnknownGroup => k_is)
    (case aC_InvalidRoll => k_is)
    (case aC_InvalidMembers => k_is)
    (case aC_InvalidStep => k_is)
    (case aC_InvalidPrices => k_is)
    (case aC_InvalidAmounts => k_is)
    (case aC_NotASolution => k_is)
    (case aC_PlanFinished => k_is)
    (case aC_NothingToUndo => k_is)
    (case aC_InvalidName => k_is)
    (case aC_DuplicateName => k_is)
    (case aC_UnknownName => k_is)
    (case aC_UnknownMark => k_is)
    (case aC_InvalidCommand => k_is)
    (case aC_InvalidLine => k_is)
    (case xs_QuotaError => k_is)
    (case xt_QuotaError => k_is)
    (case xd_QuotaError => k_is)
    (case xs_ParseError => k_is)
    (case xt_ParseError => k_is)
    (case xd_ParseError => k_is)
    (case xs_NotAdmitted => k_is)
    (case xt_NotAdmitted => k_is)
    (case xd_NotAdmitted => k_is)
    (case xs_NoSolution => k_is)
    (case xt_NoSolution => k_is)
    (case xd_NoSolution => k_is)
    (case xs_InvalidGroups => k_is)
    (case xt_InvalidGroups => k_is)
    (case xd_InvalidGroups => k_is)
    (case xs_UnknownGroup => k_is)
    (case xt_UnknownGroup => k_is)
    (case xd_UnknownGroup => k_is)
    (case xs_InvalidRoll => k_is)
    (case xt_InvalidRoll => k_is)
    (case xd_InvalidRoll => k_is)
    (case xs_InvalidMembers => k_is)
    (case xt_InvalidMembers => k_is)
    (case xd_InvalidMembers => k_is)
    (case xs_InvalidStep => k_is)
    (case xt_InvalidStep => k_is)
    (case xd_InvalidStep => k_is)
    (case xs_InvalidPrices => k_is)
    (case xt_InvalidPrices => k_is)
    (case xd_InvalidPrices => k_is)
    (case xs_InvalidAmounts => k_is)
    (case xt_InvalidAmounts => k_is)
    (case xd_InvalidAmounts => k_is)
    (case xs_NotASolution => k_is)
    (case xt_NotASolution => k_is)
    (case xd_NotASolution => k_is)
    (case xs_PlanFinished => k_is)
    (case xt_PlanFinished => k_is)
    (case xd_PlanFinished => k_is)
    (case xs_NothingToUndo => k_is)
    (case xt_NothingToUndo => k_is)
    (case xd_NothingToUndo => k_is)
    (case xs_InvalidName => k_is)
    (case xt_InvalidName => k_is)
    (case xd_InvalidName => k_is)
    (case xs_DuplicateName => k_is)
    (case xt_DuplicateName => k_is)
    (case xd_DuplicateName => k_is)
    (case xs_UnknownName => k_is)
    (case xt_UnknownName => k_is)
    (case xd_UnknownName => k_is)
    (case xs_UnknownMark => k_is)
    (case xt_UnknownMark => k_is)
    (case xd_UnknownMark => k_is)
    (case xs_InvalidCommand => k_is)
    (case xt_InvalidCommand => k_is)
    (case xd_InvalidCommand => k_is)
    (case xs_InvalidLine => k_is)
    (case xt_InvalidLine => k_is)
    (case xd_InvalidLine => k_is)
    (case xk_DuplicateName => k_is)
    (case xe_DuplicateName => kernel_rfl)
    (case xk_InvalidAmounts => k_is)
    (case xe_InvalidAmounts => kernel_rfl)
    (case xk_InvalidCommand => k_is)
    (case xe_InvalidCommand => kernel_rfl)
    (case xk_InvalidGroups => k_is)
    (case xe_InvalidGroups => kernel_rfl)
    (case xk_InvalidLine => k_is)
    (case xe_InvalidLine => kernel_rfl)
    (case xk_InvalidMembers => k_is)
    (case xe_InvalidMembers => kernel_rfl)
    (case xk_InvalidName => k_is)
    (case xe_InvalidName => kernel_rfl)
    (case xk_InvalidPrices => k_is)
    (case xe_InvalidPrices => kernel_rfl)
    (case xk_InvalidRoll => k_is)
    (case xe_InvalidRoll => kernel_rfl)
    (case xk_InvalidStep => k_is)
    (case xe_InvalidStep => kernel_rfl)
    (case xk_NoSolution => k_is)
    (case xl_NoSolution => k_is)
    (case xr_NoSolution => kernel_rfl)
    (case xa_NoSolution => k_is)
    (case xi_NoSolution => k_is)
    (case xf_NoSolution => k_is)
    (case xn_NoSolution => k_is)
    (case xu_NoSolution => k_is)
    (case xc_NoSolution => k_is)
    (case xj_NoSolution => k_is)
    (case xk_NotASolution => k_is)
    (case xe_NotASolution => kernel_rfl)
    (case xk_NotAdmitted => k_is)
    (case xl_NotAdmitted => k_is)
    (case xr_NotAdmitted => kernel_rfl)
    (case xa_NotAdmitted => k_is)
    (case xi_NotAdmitted => k_is)
    (case xf_NotAdmitted => k_is)
    (case xn_NotAdmitted => k_is)
    (case xu_NotAdmitted => k_is)
    (case xc_NotAdmitted => k_is)
    (case xj_NotAdmitted => k_is)
    (case xk_NothingToUndo => k_is)
    (case xe_NothingToUndo => kernel_rfl)
    (case xk_ParseError => k_is)
    (case xl_ParseError => k_is)
    (case xr_ParseError => kernel_rfl)
    (case xa_ParseError => k_is)
    (case xi_ParseError => k_is)
    (case xf_ParseError => k_is)
    (case xn_ParseError => k_is)
    (case xu_ParseError => k_is)
    (case xc_ParseError => k_is)
    (case xj_ParseError => k_is)
    (case xk_PlanFinished => k_is)
    (case xe_PlanFinished => kernel_rfl)
    (case xk_UnknownGroup => k_is)
    (case xe_UnknownGroup => kernel_rfl)
    (case xk_UnknownMark => k_is)
    (case xe_UnknownMark => kernel_rfl)
    (case xk_UnknownName => k_is)
    (case xe_UnknownName => kernel_rfl)
    (case ve_r => k_is)
    (case ve_g => k_is)
    (case ve_i => k_is)
    (case oc_get2 => k_is)
    (case oc_tak2 => k_is)
    (case xg_ParseError => k_is)
    (case xh_ParseError => k_is)
    (case xo_ParseError => k_is)
    (case xm_ParseError => k_is)
    (case xg_NotAdmitted => k_is)
    (case xh_NotAdmitted => k_is)
    (case xo_NotAdmitted => k_is)
    (case xm_NotAdmitted => k_is)
    (case xg_NoSolution => k_is)
    (case xh_NoSolution => k_is)
    (case xo_NoSolution => k_is)
    (case xm_NoSolution => k_is)
    (case xg_InvalidGroups => k_is)
    (case xh_InvalidGroups => k_is)
    (case xo_InvalidGroups => k_is)
    (case xm_InvalidGroups => k_is)
    (case xg_UnknownGroup => k_is)
    (case xh_UnknownGroup => k_is)
    (case xo_UnknownGroup => k_is)
    (case xm_UnknownGroup => k_is)
    (case xg_InvalidRoll => k_is)
    (case xh_InvalidRoll => k_is)
    (case xo_InvalidRoll => k_is)
    (case xm_InvalidRoll => k_is)
    (case xg_InvalidMembers => k_is)
    (case xh_InvalidMembers => k_is)
    (case xo_InvalidMembers => k_is)
    (case xm_InvalidMembers => k_is)
    (case xg_InvalidStep => k_is)
    (case xh_InvalidStep => k_is)
    (case xo_InvalidStep => k_is)
    (case xm_InvalidStep => k_is)
    (case xg_InvalidPrices => k_is)
    (case xh_InvalidPrices => k_is)
    (case xo_InvalidPrices => k_is)
    (case xm_InvalidPrices => k_is)
    (case xg_InvalidAmounts => k_is)
    (case xh_InvalidAmounts => k_is)
    (case xo_InvalidAmounts => k_is)
    (case xm_InvalidAmounts => k_is)
    (case xg_NotASolution => k_is)
    (case xh_NotASolution => k_is)
    (case xo_NotASolution => k_is)
    (case xm_NotASolution => k_is)
    (case xg_PlanFinished => k_is)
    (case xh_PlanFinished => k_is)
    (case xo_PlanFinished => k_is)
    (case xm_PlanFinished => k_is)
    (case xg_NothingToUndo => k_is)
    (case xh_NothingToUndo => k_is)
    (case xo_NothingToUndo => k_is)
    (case xm_NothingToUndo => k_is)
    (case xg_InvalidName => k_is)
    (case xh_InvalidName => k_is)
    (case xo_InvalidName => k_is)
    (case xm_InvalidName => k_is)
    (case xg_DuplicateName => k_is)
    (case xh_DuplicateName => k_is)
    (case xo_DuplicateName => k_is)
    (case xm_DuplicateName => k_is)
    (case xg_UnknownName => k_is)
    (case xh_UnknownName => k_is)
    (case xo_UnknownName => k_is)
    (case xm_UnknownName => k_is)
    (case xg_UnknownMark => k_is)
    (case xh_UnknownMark => k_is)
    (case xo_UnknownMark => k_is)
    (case xm_UnknownMark => k_is)
    (case xg_InvalidCommand => k_is)
    (case xh_InvalidCommand => k_is)
    (case xo_InvalidCommand => k_is)
    (case xm_InvalidCommand => k_is)
    (case xg_InvalidLine => k_is)
    (case xh_InvalidLine => k_is)
    (case xo_InvalidLine => k_is)
    (case xm_InvalidLine => k_is)
    (case xq_DuplicateName_non => k_is)
    (case xq_DuplicateName_ParseError => k_is)
    (case xq_DuplicateName_NotAdmitted => k_is)
    (case xq_DuplicateName_NoSolution => k_is)
    (case xq_DuplicateName_InvalidGroups => k_is)
    (case xq_DuplicateName_UnknownGroup => k_is)
    (case xq_DuplicateName_InvalidRoll => k_is)
    (case xq_DuplicateName_InvalidMembers => k_is)
    (case xq_DuplicateName_InvalidStep => k_is)
    (case xq_DuplicateName_InvalidPrices => k_is)
    (case xq_DuplicateName_InvalidAmounts => k_is)
    (case xq_DuplicateName_NotASolution => k_is)
    (case xq_DuplicateName_PlanFinished => k_is)
    (case xq_DuplicateName_NothingToUndo => k_is)
    (case xq_DuplicateName_InvalidName => k_is)
    (case xq_DuplicateName_UnknownName => k_is)
    (case xq_DuplicateName_UnknownMark => k_is)
    (case xq_DuplicateName_InvalidCommand => k_is)
    (case xq_DuplicateName_InvalidLine => k_is)
    (case xq_InvalidAmounts_non => k_is)
    (case xq_InvalidAmounts_ParseError => k_is)
    (case xq_InvalidAmounts_NotAdmitted => k_is)
    (case xq_InvalidAmounts_NoSolution => k_is)
    (case xq_InvalidAmounts_InvalidGroups => k_is)
    (case xq_InvalidAmounts_UnknownGroup => k_is)
    (case xq_InvalidAmounts_InvalidRoll => k_is)
    (case xq_InvalidAmounts_InvalidMembers => k_is)
    (case xq_InvalidAmounts_InvalidStep => k_is)
    (case xq_InvalidAmounts_InvalidPrices => k_is)
    (case xq_InvalidAmounts_NotASolution => k_is)
    (case xq_InvalidAmounts_PlanFinished => k_is)
    (case xq_InvalidAmounts_NothingToUndo => k_is)
    (case xq_InvalidAmounts_InvalidName => k_is)
    (case xq_InvalidAmounts_DuplicateName => k_is)
    (case xq_InvalidAmounts_UnknownName => k_is)
    (case xq_InvalidAmounts_UnknownMark => k_is)
    (case xq_InvalidAmounts_InvalidCommand => k_is)
    (case xq_InvalidAmounts_InvalidLine => k_is)
    (case xq_InvalidCommand_non => k_is)
    (case xq_InvalidCommand_ParseError => k_is)
    (case xq_InvalidCommand_NotAdmitted => k_is)
    (case xq_InvalidCommand_NoSolution => k_is)
    (case xq_InvalidCommand_InvalidGroups => k_is)
    (case xq_InvalidCommand_UnknownGroup => k_is)
    (case xq_InvalidCommand_InvalidRoll => k_is)
    (case xq_InvalidCommand_InvalidMembers => k_is)
    (case xq_InvalidCommand_InvalidStep => k_is)
    (case xq_InvalidCommand_InvalidPrices => k_is)
    (case xq_InvalidCommand_InvalidAmounts => k_is)
    (case xq_InvalidCommand_NotASolution => k_is)
    (case xq_InvalidCommand_PlanFinished => k_is)
    (case xq_InvalidCommand_NothingToUndo => k_is)
    (case xq_InvalidCommand_InvalidName => k_is)
    (case xq_InvalidCommand_DuplicateName => k_is)
    (case xq_InvalidCommand_UnknownName => k_is)
    (case xq_InvalidCommand_UnknownMark => k_is)
    (case xq_InvalidCommand_InvalidLine => k_is)
    (case xq_InvalidGroups_non => k_is)
    (case xq_InvalidGroups_ParseError => k_is)
    (case xq_InvalidGroups_NotAdmitted => k_is)
    (case xq_InvalidGroups_NoSolution => k_is)
    (case xq_InvalidGroups_UnknownGroup => k_is)
    (case xq_InvalidGroups_InvalidRoll => k_is)
    (case xq_InvalidGroups_InvalidMembers => k_is)
    (case xq_InvalidGroups_InvalidStep => k_is)
    (case xq_InvalidGroups_InvalidPrices => k_is)
    (case xq_InvalidGroups_InvalidAmounts => k_is)
    (case xq_InvalidGroups_NotASolution => k_is)
    (case xq_InvalidGroups_PlanFinished => k_is)
    (case xq_InvalidGroups_NothingToUndo => k_is)
    (case xq_InvalidGroups_InvalidName => k_is)
    (case xq_InvalidGroups_DuplicateName => k_is)
    (case xq_InvalidGroups_UnknownName => k_is)
    (case xq_InvalidGroups_UnknownMark => k_is)
    (case xq_InvalidGroups_InvalidCommand => k_is)
    (case xq_InvalidGroups_InvalidLine => k_is)
    (case xq_InvalidLine_non => k_is)
    (case xq_InvalidLine_ParseError => k_is)
    (case xq_InvalidLine_NotAdmitted => k_is)
    (case xq_InvalidLine_NoSolution => k_is)
    (case xq_InvalidLine_InvalidGroups => k_is)
    (case xq_InvalidLine_UnknownGroup => k_is)
    (case xq_InvalidLine_InvalidRoll => k_is)
    (case xq_InvalidLine_InvalidMembers => k_is)
    (case xq_InvalidLine_InvalidStep => k_is)
    (case xq_InvalidLine_InvalidPrices => k_is)
    (case xq_InvalidLine_InvalidAmounts => k_is)
    (case xq_InvalidLine_NotASolution => k_is)
    (case xq_InvalidLine_PlanFinished => k_is)
    (case xq_InvalidLine_NothingToUndo => k_is)
    (case xq_InvalidLine_InvalidName => k_is)
    (case xq_InvalidLine_DuplicateName => k_is)
    (case xq_InvalidLine_UnknownName => k_is)
    (case xq_InvalidLine_UnknownMark => k_is)
    (case xq_InvalidLine_InvalidCommand => k_is)
    (case xq_InvalidMembers_non => k_is)
    (case xq_InvalidMembers_ParseError => k_is)
    (case xq_InvalidMembers_NotAdmitted => k_is)
    (case xq_InvalidMembers_NoSolution => k_is)
    (case xq_InvalidMembers_InvalidGroups => k_is)
    (case xq_InvalidMembers_UnknownGroup => k_is)
    (case xq_InvalidMembers_InvalidRoll => k_is)
    (case xq_InvalidMembers_InvalidStep => k_is)
    (case xq_InvalidMembers_InvalidPrices => k_is)
    (case xq_InvalidMembers_InvalidAmounts => k_is)
    (case xq_InvalidMembers_NotASolution => k_is)
    (case xq_InvalidMembers_PlanFinished => k_is)
    (case xq_InvalidMembers_NothingToUndo => k_is)
    (case xq_InvalidMembers_InvalidName => k_is)
    (case xq_InvalidMembers_DuplicateName => k_is)
    (case xq_InvalidMembers_UnknownName => k_is)
    (case xq_InvalidMembers_UnknownMark => k_is)
    (case xq_InvalidMembers_InvalidCommand => k_is)
    (case xq_InvalidMembers_InvalidLine => k_is)
    (case xq_InvalidName_non => k_is)
    (case xq_InvalidName_ParseError => k_is)
    (case xq_InvalidName_NotAdmitted => k_is)
    (case xq_InvalidName_NoSolution => k_is)
    (case xq_InvalidName_InvalidGroups => k_is)
    (case xq_InvalidName_UnknownGroup => k_is)
    (case xq_InvalidName_InvalidRoll => k_is)
    (case xq_InvalidName_InvalidMembers => k_is)
    (case xq_InvalidName_InvalidStep => k_is)
    (case xq_InvalidName_InvalidPrices => k_is)
    (case xq_InvalidName_InvalidAmounts => k_is)
    (case xq_InvalidName_NotASolution => k_is)
    (case xq_InvalidName_PlanFinished => k_is)
    (case xq_InvalidName_NothingToUndo => k_is)
    (case xq_InvalidName_DuplicateName => k_is)
    (case xq_InvalidName_UnknownName => k_is)
    (case xq_InvalidName_UnknownMark => k_is)
    (case xq_InvalidName_InvalidCommand => k_is)
    (case xq_InvalidName_InvalidLine => k_is)
    (case xq_InvalidPrices_non => k_is)
    (case xq_InvalidPrices_ParseError => k_is)
    (case xq_InvalidPrices_NotAdmitted => k_is)
    (case xq_InvalidPrices_NoSolution => k_is)
    (case xq_InvalidPrices_InvalidGroups => k_is)
    (case xq_InvalidPrices_UnknownGroup => k_is)
    (case xq_InvalidPrices_InvalidRoll => k_is)
    (case xq_InvalidPrices_InvalidMembers => k_is)
    (case xq_InvalidPrices_InvalidStep => k_is)
    (case xq_InvalidPrices_InvalidAmounts => k_is)
    (case xq_InvalidPrices_NotASolution => k_is)
    (case xq_InvalidPrices_PlanFinished => k_is)
    (case xq_InvalidPrices_NothingToUndo => k_is)
    (case xq_InvalidPrices_InvalidName => k_is)
    (case xq_InvalidPrices_DuplicateName => k_is)
    (case xq_InvalidPrices_UnknownName => k_is)
    (case xq_InvalidPrices_UnknownMark => k_is)
    (case xq_InvalidPrices_InvalidCommand => k_is)
    (case xq_InvalidPrices_InvalidLine => k_is)
    (case xq_InvalidRoll_non => k_is)
    (case xq_InvalidRoll_ParseError => k_is)
    (case xq_InvalidRoll_NotAdmitted => k_is)
    (case xq_InvalidRoll_NoSolution => k_is)
    (case xq_InvalidRoll_InvalidGroups => k_is)
    (case xq_InvalidRoll_UnknownGroup => k_is)
    (case xq_InvalidRoll_InvalidMembers => k_is)
    (case xq_InvalidRoll_InvalidStep => k_is)
    (case xq_InvalidRoll_InvalidPrices => k_is)
    (case xq_InvalidRoll_InvalidAmounts => k_is)
    (case xq_InvalidRoll_NotASolution => k_is)
    (case xq_InvalidRoll_PlanFinished => k_is)
    (case xq_InvalidRoll_NothingToUndo => k_is)
    (case xq_InvalidRoll_InvalidName => k_is)
    (case xq_InvalidRoll_DuplicateName => k_is)
    (case xq_InvalidRoll_UnknownName => k_is)
    (case xq_InvalidRoll_UnknownMark => k_is)
    (case xq_InvalidRoll_InvalidCommand => k_is)
    (case xq_InvalidRoll_InvalidLine => k_is)
    (case xq_InvalidStep_non => k_is)
    (case xq_InvalidStep_ParseError => k_is)
    (case xq_InvalidStep_NotAdmitted => k_is)
    (case xq_InvalidStep_NoSolution => k_is)
    (case xq_InvalidStep_InvalidGroups => k_is)
    (case xq_InvalidStep_UnknownGroup => k_is)
    (case xq_InvalidStep_InvalidRoll => k_is)
    (case xq_InvalidStep_InvalidMembers => k_is)
    (case xq_InvalidStep_InvalidPrices => k_is)
    (case xq_InvalidStep_InvalidAmounts => k_is)
    (case xq_InvalidStep_NotASolution => k_is)
    (case xq_InvalidStep_PlanFinished => k_is)
    (case xq_InvalidStep_NothingToUndo => k_is)
    (case xq_InvalidStep_InvalidName => k_is)
    (case xq_InvalidStep_DuplicateName => k_is)
    (case xq_InvalidStep_UnknownName => k_is)
    (case xq_InvalidStep_UnknownMark => k_is)
    (case xq_InvalidStep_InvalidCommand => k_is)
    (case xq_InvalidStep_InvalidLine => k_is)
    (case xq_NoSolution_non => k_is)
    (case xq_NoSolution_ParseError => k_is)
    (case xq_NoSolution_NotAdmitted => k_is)
    (case xq_NoSolution_InvalidGroups => k_is)
    (case xq_NoSolution_UnknownGroup => k_is)
    (case xq_NoSolution_InvalidRoll => k_is)
    (case xq_NoSolution_InvalidMembers => k_is)
    (case xq_NoSolution_InvalidStep => k_is)
    (case xq_NoSolution_InvalidPrices => k_is)
    (case xq_NoSolution_InvalidAmounts => k_is)
    (case xq_NoSolution_NotASolution => k_is)
    (case xq_NoSolution_PlanFinished => k_is)
    (case xq_NoSolution_NothingToUndo => k_is)
    (case xq_NoSolution_InvalidName => k_is)
    (case xq_NoSolution_DuplicateName => k_is)
    (case xq_NoSolution_UnknownName => k_is)
    (case xq_NoSolution_UnknownMark => k_is)
    (case xq_NoSolution_InvalidCommand => k_is)
    (case xq_NoSolution_InvalidLine => k_is)
    (case xq_NotASolution_non => k_is)
    (case xq_NotASolution_ParseError => k_is)
    (case xq_NotASolution_NotAdmitted => k_is)
    (case xq_NotASolution_NoSolution => k_is)
    (case xq_NotASolution_InvalidGroups => k_is)
    (case xq_NotASolution_UnknownGroup => k_is)
    (case xq_NotASolution_InvalidRoll => k_is)
    (case xq_NotASolution_InvalidMembers => k_is)
    (case xq_NotASolution_InvalidStep => k_is)
    (case xq_NotASolution_InvalidPrices => k_is)
    (case xq_NotASolution_InvalidAmounts => k_is)
    (case xq_NotASolution_PlanFinished => k_is)
    (case xq_NotASolution_NothingToUndo => k_is)
    (case xq_NotASolution_InvalidName => k_is)
    (case xq_NotASolution_DuplicateName => k_is)
    (case xq_NotASolution_UnknownName => k_is)
    (case xq_NotASolution_UnknownMark => k_is)
    (case xq_NotASolution_InvalidCommand => k_is)
    (case xq_NotASolution_InvalidLine => k_is)
    (case xq_NotAdmitted_non => k_is)
    (case xq_NotAdmitted_ParseError => k_is)
    (case xq_NotAdmitted_NoSolution => k_is)
    (case xq_NotAdmitted_InvalidGroups => k_is)
    (case xq_NotAdmitted_UnknownGroup => k_is)
    (case xq_NotAdmitted_InvalidRoll => k_is)
    (case xq_NotAdmitted_InvalidMembers => k_is)
    (case xq_NotAdmitted_InvalidStep => k_is)
    (case xq_NotAdmitted_InvalidPrices => k_is)
    (case xq_NotAdmitted_InvalidAmounts => k_is)
    (case xq_NotAdmitted_NotASolution => k_is)
    (case xq_NotAdmitted_PlanFinished => k_is)
    (case xq_NotAdmitted_NothingToUndo => k_is)
    (case xq_NotAdmitted_InvalidName => k_is)
    (case xq_NotAdmitted_DuplicateName => k_is)
    (case xq_NotAdmitted_UnknownName => k_is)
    (case xq_NotAdmitted_UnknownMark => k_is)
    (case xq_NotAdmitted_InvalidCommand => k_is)
    (case xq_NotAdmitted_InvalidLine => k_is)
    (case xq_NothingToUndo_non => k_is)
    (case xq_NothingToUndo_ParseError => k_is)
    (case xq_NothingToUndo_NotAdmitted => k_is)
    (case xq_NothingToUndo_NoSolution => k_is)
    (case xq_NothingToUndo_InvalidGroups => k_is)
    (case xq_NothingToUndo_UnknownGroup => k_is)
    (case xq_NothingToUndo_InvalidRoll => k_is)
    (case xq_NothingToUndo_InvalidMembers => k_is)
    (case xq_NothingToUndo_InvalidStep => k_is)
    (case xq_NothingToUndo_InvalidPrices => k_is)
    (case xq_NothingToUndo_InvalidAmounts => k_is)
    (case xq_NothingToUndo_NotASolution => k_is)
    (case xq_NothingToUndo_PlanFinished => k_is)
    (case xq_NothingToUndo_InvalidName => k_is)
    (case xq_NothingToUndo_DuplicateName => k_is)
    (case xq_NothingToUndo_UnknownName => k_is)
    (case xq_NothingToUndo_UnknownMark => k_is)
    (case xq_NothingToUndo_InvalidCommand => k_is)
    (case xq_NothingToUndo_InvalidLine => k_is)
    (case xq_ParseError_non => k_is)
    (case xq_ParseError_NotAdmitted => k_is)
    (case xq_ParseError_NoSolution => k_is)
    (case xq_ParseError_InvalidGroups => k_is)
    (case xq_ParseError_UnknownGroup => k_is)
    (case xq_ParseError_InvalidRoll => k_is)
    (case xq_ParseError_InvalidMembers => k_is)
    (case xq_ParseError_InvalidStep => k_is)
    (case xq_ParseError_InvalidPrices => k_is)
    (case xq_ParseError_InvalidAmounts => k_is)
    (case xq_ParseError_NotASolution => k_is)
    (case xq_ParseError_PlanFinished => k_is)
    (case xq_ParseError_NothingToUndo => k_is)
    (case xq_ParseError_InvalidName => k_is)
    (case xq_ParseError_DuplicateName => k_is)
    (case xq_ParseError_UnknownName => k_is)
    (case xq_ParseError_UnknownMark => k_is)
    (case xq_ParseError_InvalidCommand => k_is)
    (case xq_ParseError_InvalidLine => k_is)
    (case xq_PlanFinished_non => k_is)
    (case xq_PlanFinished_ParseError => k_is)
    (case xq_PlanFinished_NotAdmitted => k_is)
    (case xq_PlanFinished_NoSolution => k_is)
    (case xq_PlanFinished_InvalidGroups => k_is)
    (case xq_PlanFinished_UnknownGroup => k_is)
    (case xq_PlanFinished_InvalidRoll => k_is)
    (case xq_PlanFinished_InvalidMembers => k_is)
    (case xq_PlanFinished_InvalidStep => k_is)
    (case xq_PlanFinished_InvalidPrices => k_is)
    (case xq_PlanFinished_InvalidAmounts => k_is)
    (case xq_PlanFinished_NotASolution => k_is)
    (case xq_PlanFinished_NothingToUndo => k_is)
    (case xq_PlanFinished_InvalidName => k_is)
    (case xq_PlanFinished_DuplicateName => k_is)
    (case xq_PlanFinished_UnknownName => k_is)
    (case xq_PlanFinished_UnknownMark => k_is)
    (case xq_PlanFinished_InvalidCommand => k_is)
    (case xq_PlanFinished_InvalidLine => k_is)
    (case xq_QuotaError_non => k_is)
    (case xq_QuotaError_ParseError => k_is)
    (case xq_QuotaError_NotAdmitted => k_is)
    (case xq_QuotaError_NoSolution => k_is)
    (case xq_QuotaError_InvalidGroups => k_is)
    (case xq_QuotaError_UnknownGroup => k_is)
    (case xq_QuotaError_InvalidRoll => k_is)
    (case xq_QuotaError_InvalidMembers => k_is)
    (case xq_QuotaError_InvalidStep => k_is)
    (case xq_QuotaError_InvalidPrices => k_is)
    (case xq_QuotaError_InvalidAmounts => k_is)
    (case xq_QuotaError_NotASolution => k_is)
    (case xq_QuotaError_PlanFinished => k_is)
    (case xq_QuotaError_NothingToUndo => k_is)
    (case xq_QuotaError_InvalidName => k_is)
    (case xq_QuotaError_DuplicateName => k_is)
    (case xq_QuotaError_UnknownName => k_is)
    (case xq_QuotaError_UnknownMark => k_is)
    (case xq_QuotaError_InvalidCommand => k_is)
    (case xq_QuotaError_InvalidLine => k_is)
    (case xne_QuotaError_ParseError => decide)
    (case xne_QuotaError_NotAdmitted => decide)
    (case xne_QuotaError_NoSolution => decide)
    (case xne_QuotaError_InvalidGroups => decide)
    (case xne_QuotaError_UnknownGroup => decide)
    (case xne_QuotaError_InvalidRoll => decide)
    (case xne_QuotaError_InvalidMembers => decide)
    (case xne_QuotaError_InvalidStep => decide)
    (case xne_QuotaError_InvalidPrices => decide)
    (case xne_QuotaError_InvalidAmounts => decide)
    (case xne_QuotaError_NotASolution => decide)
    (case xne_QuotaError_PlanFinished => decide)
    (case xne_QuotaError_NothingToUndo => decide)
    (case xne_QuotaError_InvalidName => decide)
    (case xne_QuotaError_DuplicateName => decide)
    (case xne_QuotaError_UnknownName => decide)
    (case xne_QuotaError_UnknownMark => decide)
    (case xne_QuotaError_InvalidCommand => decide)
    (case xne_QuotaError_InvalidLine => decide)
    (case xq_UnknownGroup_non => k_is)
    (case xq_UnknownGroup_ParseError => k_is)
    (case xq_UnknownGroup_NotAdmitted => k_is)
    (case xq_UnknownGroup_NoSolution => k_is)
    (case xq_UnknownGroup_InvalidGroups => k_is)
    (case xq_UnknownGroup_InvalidRoll => k_is)
    (case xq_UnknownGroup_InvalidMembers => k_is)
    (case xq_UnknownGroup_InvalidStep => k_is)
    (case xq_UnknownGroup_InvalidPrices => k_is)
    (case xq_UnknownGroup_InvalidAmounts => k_is)
    (case xq_UnknownGroup_NotASolution => k_is)
    (case xq_UnknownGroup_PlanFinished => k_is)
    (case xq_UnknownGroup_NothingToUndo => k_is)
    (case xq_UnknownGroup_InvalidName => k_is)
    (case xq_UnknownGroup_DuplicateName => k_is)
    (case xq_UnknownGroup_UnknownName => k_is)
    (case xq_UnknownGroup_UnknownMark => k_is)
    (case xq_UnknownGroup_InvalidCommand => k_is)
    (case xq_UnknownGroup_InvalidLine => k_is)
    (case xq_UnknownMark_non => k_is)
    (case xq_UnknownMark_ParseError => k_is)
    (case xq_UnknownMark_NotAdmitted => k_is)
    (case xq_UnknownMark_NoSolution => k_is)
    (case xq_UnknownMark_InvalidGroups => k_is)
    (case xq_UnknownMark_UnknownGroup => k_is)
    (case xq_UnknownMark_InvalidRoll => k_is)
    (case xq_UnknownMark_InvalidMembers => k_is)
    (case xq_UnknownMark_InvalidStep => k_is)
    (case xq_UnknownMark_InvalidPrices => k_is)
    (case xq_UnknownMark_InvalidAmounts => k_is)
    (case xq_UnknownMark_NotASolution => k_is)
    (case xq_UnknownMark_PlanFinished => k_is)
    (case xq_UnknownMark_NothingToUndo => k_is)
    (case xq_UnknownMark_InvalidName => k_is)
    (case xq_UnknownMark_DuplicateName => k_is)
    (case xq_UnknownMark_UnknownName => k_is)
    (case xq_UnknownMark_InvalidCommand => k_is)
    (case xq_UnknownMark_InvalidLine => k_is)
    (case xq_UnknownName_non => k_is)
    (case xq_UnknownName_ParseError => k_is)
    (case xq_UnknownName_NotAdmitted => k_is)
    (case xq_UnknownName_NoSolution => k_is)
    (case xq_UnknownName_InvalidGroups => k_is)
    (case xq_UnknownName_UnknownGroup => k_is)
    (case xq_UnknownName_InvalidRoll => k_is)
    (case xq_UnknownName_InvalidMembers => k_is)
    (case xq_UnknownName_InvalidStep => k_is)
    (case xq_UnknownName_InvalidPrices => k_is)
    (case xq_UnknownName_InvalidAmounts => k_is)
    (case xq_UnknownName_NotASolution => k_is)
    (case xq_UnknownName_PlanFinished => k_is)
    (case xq_UnknownName_NothingToUndo => k_is)
    (case xq_UnknownName_InvalidName => k_is)
    (case xq_UnknownName_DuplicateName => k_is)
    (case xq_UnknownName_UnknownMark => k_is)
    (case xq_UnknownName_InvalidCommand => k_is)
    (case xq_UnknownName_InvalidLine => k_is)
    (case xq_ValueError_ParseError => k_is)
    (case xq_ValueError_NotAdmitted => k_is)
    (case xq_ValueError_NoSolution => k_is)
    (case xq_ValueError_InvalidGroups => k_is)
    (case xq_ValueError_UnknownGroup => k_is)
    (case xq_ValueError_InvalidRoll => k_is)
    (case xq_ValueError_InvalidMembers => k_is)
    (case xq_ValueError_InvalidStep => k_is)
    (case xq_ValueError_InvalidPrices => k_is)
    (case xq_ValueError_InvalidAmounts => k_is)
    (case xq_ValueError_NotASolution => k_is)
    (case xq_ValueError_PlanFinished => k_is)
    (case xq_ValueError_NothingToUndo => k_is)
    (case xq_ValueError_InvalidName => k_is)
    (case xq_ValueError_DuplicateName => k_is)
    (case xq_ValueError_UnknownName => k_is)
    (case xq_ValueError_UnknownMark => k_is)
    (case xq_ValueError_InvalidCommand => k_is)
    (case xq_ValueError_InvalidLine => k_is)
    (case la => kernel_rfl)
    (case lu => kernel_rfl)
    (case xne_ParseError_NotAdmitted => decide)
    (case xne_ParseError_NoSolution => decide)
    (case xne_ParseError_InvalidGroups => decide)
    (case xne_ParseError_UnknownGroup => decide)
    (case xne_ParseError_InvalidRoll => decide)
    (case xne_ParseError_InvalidMembers => decide)
    (case xne_ParseError_InvalidStep => decide)
    (case xne_ParseError_InvalidPrices => decide)
    (case xne_ParseError_InvalidAmounts => decide)
    (case xne_ParseError_NotASolution => decide)
    (case xne_ParseError_PlanFinished => decide)
    (case xne_ParseError_NothingToUndo => decide)
    (case xne_ParseError_InvalidName => decide)
    (case xne_ParseError_DuplicateName => decide)
    (case xne_ParseError_UnknownName => decide)
    (case xne_ParseError_UnknownMark => decide)
    (case xne_ParseError_InvalidCommand => decide)
    (case xne_ParseError_InvalidLine => decide)
    (case xne_NotAdmitted_NoSolution => decide)
    (case xne_NotAdmitted_InvalidGroups => decide)
    (case xne_NotAdmitted_UnknownGroup => decide)
    (case xne_NotAdmitted_InvalidRoll => decide)
    (case xne_NotAdmitted_InvalidMembers => decide)
    (case xne_NotAdmitted_InvalidStep => decide)
    (case xne_NotAdmitted_InvalidPrices => decide)
    (case xne_NotAdmitted_InvalidAmounts => decide)
    (case xne_NotAdmitted_NotASolution => decide)
    (case xne_NotAdmitted_PlanFinished => decide)
    (case xne_NotAdmitted_NothingToUndo => decide)
    (case xne_NotAdmitted_InvalidName => decide)
    (case xne_NotAdmitted_DuplicateName => decide)
    (case xne_NotAdmitted_UnknownName => decide)
    (case xne_NotAdmitted_UnknownMark => decide)
    (case xne_NotAdmitted_InvalidCommand => decide)
    (case xne_NotAdmitted_InvalidLine => decide)
    (case xne_NoSolution_InvalidGroups => decide)
    (case xne_NoSolution_UnknownGroup => decide)
    (case xne_NoSolution_InvalidRoll => decide)
    (case xne_NoSolution_InvalidMembers => decide)
    (case xne_NoSolution_InvalidStep => decide)
    (case xne_NoSolution_InvalidPrices => decide)
    (case xne_NoSolution_InvalidAmounts => decide)
    (case xne_NoSolution_NotASolution => decide)
    (case xne_NoSolution_PlanFinished => decide)
    (case xne_NoSolution_NothingToUndo => decide)
    (case xne_NoSolution_InvalidName => decide)
    (case xne_NoSolution_DuplicateName => decide)
    (case xne_NoSolution_UnknownName => decide)
    (case xne_NoSolution_UnknownMark => decide)
    (case xne_NoSolution_InvalidCommand => decide)
    (case xne_NoSolution_InvalidLine => decide)
    (case xne_InvalidGroups_UnknownGroup => decide)
    (case xne_InvalidGroups_InvalidRoll => decide)
    (case xne_InvalidGroups_InvalidMembers => decide)
    (case xne_InvalidGroups_InvalidStep => decide)
    (case xne_InvalidGroups_InvalidPrices => decide)
    (case xne_InvalidGroups_InvalidAmounts => decide)
    (case xne_InvalidGroups_NotASolution => decide)
    (case xne_InvalidGroups_PlanFinished => decide)
    (case xne_InvalidGroups_NothingToUndo => decide)
    (case xne_InvalidGroups_InvalidName => decide)
    (case xne_InvalidGroups_DuplicateName => decide)
    (case xne_InvalidGroups_UnknownName => decide)
    (case xne_InvalidGroups_UnknownMark => decide)
    (case xne_InvalidGroups_InvalidCommand => decide)
    (case xne_InvalidGroups_InvalidLine => decide)
    (case xne_UnknownGroup_InvalidRoll => decide)
    (case xne_UnknownGroup_InvalidMembers => decide)
    (case xne_UnknownGroup_InvalidStep => decide)
    (case xne_UnknownGroup_InvalidPrices => decide)
    (case xne_UnknownGroup_InvalidAmounts => decide)
    (case xne_UnknownGroup_NotASolution => decide)
    (case xne_UnknownGroup_PlanFinished => decide)
    (case xne_UnknownGroup_NothingToUndo => decide)
    (case xne_UnknownGroup_InvalidName => decide)
    (case xne_UnknownGroup_DuplicateName => decide)
    (case xne_UnknownGroup_UnknownName => decide)
    (case xne_UnknownGroup_UnknownMark => decide)
    (case xne_UnknownGroup_InvalidCommand => decide)
    (case xne_UnknownGroup_InvalidLine => decide)
    (case xne_InvalidRoll_InvalidMembers => decide)
    (case xne_InvalidRoll_InvalidStep => decide)
    (case xne_InvalidRoll_InvalidPrices => decide)
    (case xne_InvalidRoll_InvalidAmounts => decide)
    (case xne_InvalidRoll_NotASolution => decide)
    (case xne_InvalidRoll_PlanFinished => decide)
    (case xne_InvalidRoll_NothingToUndo => decide)
    (case xne_InvalidRoll_InvalidName => decide)
    (case xne_InvalidRoll_DuplicateName => decide)
    (case xne_InvalidRoll_UnknownName => decide)
    (case xne_InvalidRoll_UnknownMark => decide)
    (case xne_InvalidRoll_InvalidCommand => decide)
    (case xne_InvalidRoll_InvalidLine => decide)
    (case xne_InvalidMembers_InvalidStep => decide)
    (case xne_InvalidMembers_InvalidPrices => decide)
    (case xne_InvalidMembers_InvalidAmounts => decide)
    (case xne_InvalidMembers_NotASolution => decide)
    (case xne_InvalidMembers_PlanFinished => decide)
    (case xne_InvalidMembers_NothingToUndo => decide)
    (case xne_InvalidMembers_InvalidName => decide)
    (case xne_InvalidMembers_DuplicateName => decide)
    (case xne_InvalidMembers_UnknownName => decide)
    (case xne_InvalidMembers_UnknownMark => decide)
    (case xne_InvalidMembers_InvalidCommand => decide)
    (case xne_InvalidMembers_InvalidLine => decide)
    (case xne_InvalidStep_InvalidPrices => decide)
    (case xne_InvalidStep_InvalidAmounts => decide)
    (case xne_InvalidStep_NotASolution => decide)
    (case xne_InvalidStep_PlanFinished => decide)
    (case xne_InvalidStep_NothingToUndo => decide)
    (case xne_InvalidStep_InvalidName => decide)
    (case xne_InvalidStep_DuplicateName => decide)
    (case xne_InvalidStep_UnknownName => decide)
    (case xne_InvalidStep_UnknownMark => decide)
    (case xne_InvalidStep_InvalidCommand => decide)
    (case xne_InvalidStep_InvalidLine => decide)
    (case xne_InvalidPrices_InvalidAmounts => decide)
    (case xne_InvalidPrices_NotASolution => decide)
    (case xne_InvalidPrices_PlanFinished => decide)
    (case xne_InvalidPrices_NothingToUndo => decide)
    (case xne_InvalidPrices_InvalidName => decide)
    (case xne_InvalidPrices_DuplicateName => decide)
    (case xne_InvalidPrices_UnknownName => decide)
    (case xne_InvalidPrices_UnknownMark => decide)
    (case xne_InvalidPrices_InvalidCommand => decide)
    (case xne_InvalidPrices_InvalidLine => decide)
    (case xne_InvalidAmounts_NotASolution => decide)
    (case xne_InvalidAmounts_PlanFinished => decide)
    (case xne_InvalidAmounts_NothingToUndo => decide)
    (case xne_InvalidAmounts_InvalidName => decide)
    (case xne_InvalidAmounts_DuplicateName => decide)
    (case xne_InvalidAmounts_UnknownName => decide)
    (case xne_InvalidAmounts_UnknownMark => decide)
    (case xne_InvalidAmounts_InvalidCommand => decide)
    (case xne_InvalidAmounts_InvalidLine => decide)
    (case xne_NotASolution_PlanFinished => decide)
    (case xne_NotASolution_NothingToUndo => decide)
    (case xne_NotASolution_InvalidName => decide)
    (case xne_NotASolution_DuplicateName => decide)
    (case xne_NotASolution_UnknownName => decide)
    (case xne_NotASolution_UnknownMark => decide)
    (case xne_NotASolution_InvalidCommand => decide)
    (case xne_NotASolution_InvalidLine => decide)
    (case xne_PlanFinished_NothingToUndo => decide)
    (case xne_PlanFinished_InvalidName => decide)
    (case xne_PlanFinished_DuplicateName => decide)
    (case xne_PlanFinished_UnknownName => decide)
    (case xne_PlanFinished_UnknownMark => decide)
    (case xne_PlanFinished_InvalidCommand => decide)
    (case xne_PlanFinished_InvalidLine => decide)
    (case xne_NothingToUndo_InvalidName => decide)
    (case xne_NothingToUndo_DuplicateName => decide)
    (case xne_NothingToUndo_UnknownName => decide)
    (case xne_NothingToUndo_UnknownMark => decide)
    (case xne_NothingToUndo_InvalidCommand => decide)
    (case xne_NothingToUndo_InvalidLine => decide)
    (case xne_InvalidName_DuplicateName => decide)
    (case xne_InvalidName_UnknownName => decide)
    (case xne_InvalidName_UnknownMark => decide)
    (case xne_InvalidName_InvalidCommand => decide)
    (case xne_InvalidName_InvalidLine => decide)
    (case xne_DuplicateName_UnknownName => decide)
    (case xne_DuplicateName_UnknownMark => decide)
    (case xne_DuplicateName_InvalidCommand => decide)
    (case xne_DuplicateName_InvalidLine => decide)
    (case xne_UnknownName_UnknownMark => decide)
    (case xne_UnknownName_InvalidCommand => decide)
    (case xne_UnknownName_InvalidLine => decide)
    (case xne_UnknownMark_InvalidCommand => decide)
    (case xne_UnknownMark_InvalidLine => decide)
    (case xne_InvalidCommand_InvalidLine => decide)
