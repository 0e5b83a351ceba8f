import PyProof.Rows.All
import Wide.All
import OpenK.AllK
import Wide.FinOn
import KE.OsRunLaw
import HandS.ForMost
import HandS.ForExc
import HandS.Lambda
import HandS.DictComp
import HandS.IsInst
import HandS.Wide
import HandS.ListItems
import HandS.Zip
import HandS.Style
import HandS.Property
import HandS.Small
import HandS.Iter
import HandS.Ends
import KE.KEqNest
import PyProof.EqKinds
import PyProof.InstEq
import OpenK.KWalk
import HandS.ClsMeth
import HandS.Conv
import HandS.Flow
import HandS.Strs
import PyProof.CollectIter
import KE.GoesEnumKw
import PyProof.CallFns
import HandS.SortInts
import PyProof.TupleOfSeq
import HandS.Star
import HandS.NoneIn
import HandS.MakeKwOnly
import HandS.Dict
import HandS.SetFor
import HandS.TupAny
import HandS.ExcIs
import HandS.ExcField
import HandS.ExcInit
import HandS.ExcValue
import HandS.FStr
import HandS.Text
import KE.SortKeyHeap
import HandS.SortKw
import HandS.More
import HandS.GenList
import KE.SortData
import HandS.SetTxt0
import HandS.Set
import PyProof.StrBlock2
import KE.KDictList
import PyProof.FactsAll.dict_1
import HandS.StrMore
import PyProof.StrLawsRepr
import HandS.StrSplit
import KE.KxText
import KE.IntTextLaws
import PyProof.TableCode
import HandS.EndTab
import PySem.Challenge.RW_quotasteps_k04_invalid_groups
set_option Elab.async false
set_option linter.all false
set_option maxRecDepth 100000
set_option maxHeartbeats 4000000
noncomputable section
namespace DL
open PySem PySem.Spec PyProof.Rows L2
abbrev Kf := PySem.W.Frag
inductive D where
  | non | bl (b : Bool) | int (i : Int) | str (x : Str)
  | lst (xs : List D) | tup (xs : List D) | dct (kvs : List (Key × D)) | ins (C : Addr) (fs : List (Str × D))
  | scr (ns : List Int)
  | exn (C : Addr) (own : Bool) (fs : List (Str × D))
inductive T where
  | sh (d : D) | lst (xs : List T) | dct (kvs : List (Key × T)) | ins (C : Addr) (fs : List (Str × T))
mutual
def T.er : T → D
  | .sh d => d
  | .lst ts => .lst (T.ers ts)
  | .dct kts => .dct (T.erk kts)
  | .ins C fs => .ins C (T.erf fs)
def T.ers : List T → List D
  | [] => []
  | t :: r => t.er :: T.ers r
def T.erk : List (Key × T) → List (Key × D)
  | [] => []
  | p :: r => T.erkp p :: T.erk r
def T.erkp : Key × T → Key × D
  | (k, t) => (k, t.er)
def T.erf : List (Str × T) → List (Str × D)
  | [] => []
  | p :: r => T.erfp p :: T.erf r
def T.erfp : Str × T → Str × D
  | (k, t) => (k, t.er)
end
theorem T.ers_map : ∀ ts : List T, T.ers ts = ts.map T.er
  | [] => rfl
  | t :: r => by rw [T.ers, T.ers_map r]; rfl
theorem T.erk_map : ∀ ts : List (Key × T), T.erk ts = ts.map fun p => (p.1, p.2.er)
  | [] => rfl
  | (k, t) :: r => by rw [T.erk, T.erk_map r]; rfl
def exR (a C : Addr) (od : Option Addr) : HO := .ext fun h => ∃ (oe : Obj) (vs : Array Value), h.get? a = some oe ∧ Zc (.ref C) od oe ∧ oe.data = .fields vs
def ExD (F : Hp) (own : Bool) (od : Option Addr) (fvs : List (Str × V)) : Prop := (own = true ∧ ∃ d, od = some d ∧ F d = some (.xd fvs)) ∨ (own = false ∧ od = none ∧ fvs = [])
mutual
def DR (K : Kf) (F : Hp) : D → V → Prop
  | .non, v => v = .non
  | .bl b, v => v = .bl b
  | .int i, v => v = .int i
  | .str x, v => v = .str x
  | .lst ds, v => ∃ a vs, v = .ref a ∧ F a = some (.lst vs) ∧ DRs K F ds vs
  | .tup ds, v => ∃ a vs, v = .ref a ∧ F a = some (.tup vs) ∧ DRs K F ds vs
  | .dct kds, v => ∃ a kvs, v = .ref a ∧ Rd F a (.dK kvs) ∧ DRk K F kds kvs
  | .ins C fs, v => ∃ a dx fvs, v = .ref a ∧ F a = some (.ins C dx fvs) ∧ DRf K F fs fvs
  | .scr ns, v => ∃ a, v = .ref a ∧ SqL K F a (ns.map V.int)
  | .exn C own fs, v => ∃ a od fvs, v = .ref a ∧ F a = some (exR a C od) ∧ ExD F own od fvs ∧ DRf K F fs fvs
def DRs (K : Kf) (F : Hp) : List D → List V → Prop
  | [], vs => vs = []
  | d :: r, vs => ∃ v vs', vs = v :: vs' ∧ DR K F d v ∧ DRs K F r vs'
def DRk (K : Kf) (F : Hp) : List (Key × D) → List (Key × V) → Prop
  | [], vs => vs = []
  | p :: r, vs => ∃ v vs', vs = v :: vs' ∧ DRkp K F p v ∧ DRk K F r vs'
def DRkp (K : Kf) (F : Hp) : Key × D → Key × V → Prop
  | (k, d), p => p.1 = k ∧ DR K F d p.2
def DRf (K : Kf) (F : Hp) : List (Str × D) → List (Str × V) → Prop
  | [], vs => vs = []
  | p :: r, vs => ∃ v vs', vs = v :: vs' ∧ DRfp K F p v ∧ DRf K F r vs'
def DRfp (K : Kf) (F : Hp) : Str × D → Str × V → Prop
  | (k, d), p => p.1 = k ∧ DR K F d p.2
end
structure SubR (F H : Hp) : Prop where
  sub : ∀ a o, F a = some o → H a = some o ∨ ∃ od kvs, o = .dK kvs ∧ H a = some (.frz od (.dK kvs))
theorem SubR.rd {F H : Hp} (h : SubR F H) (a : Addr) (u : HO) (r : Rd F a u) : Rd H a u := by
  rcases r with r | ⟨o, r⟩
  · rcases h.sub a u r with z | ⟨od, kvs, e, z⟩
    · exact .inl z
    · exact .inr ⟨od, by rw [e]; exact z⟩
  · rcases h.sub a _ r with z | ⟨od, kvs, e, z⟩
    · exact .inr ⟨o, z⟩
    · cases e
theorem SubR.ex {F H : Hp} (h : SubR F H) {a : Addr} {u : HO} (r : F a = some u) (n : ∀ kvs, u ≠ .dK kvs) : H a = some u := by
  rcases h.sub a u r with z | ⟨od, kvs, e, z⟩
  · exact z
  · exact absurd e (n kvs)
theorem SubR.is {F H : Hp} (h : SubR F H) (a C dx : Addr) (fs : List (Str × V)) (r : F a = some (.ins C dx fs)) : H a = some (.ins C dx fs) := h.ex r (fun _ z => nomatch z)
theorem SubR.ls {F H : Hp} (h : SubR F H) {a : Addr} {xs : List V} (r : F a = some (.lst xs)) : H a = some (.lst xs) := h.ex r (fun _ z => nomatch z)
theorem SubR.tp {F H : Hp} (h : SubR F H) {a : Addr} {xs : List V} (r : F a = some (.tup xs)) : H a = some (.tup xs) := h.ex r (fun _ z => nomatch z)
theorem SubR.refl (F : Hp) : SubR F F := ⟨fun _ _ h => .inl h⟩
theorem SubR.trans {F G H : Hp} (a : SubR F G) (b : SubR G H) : SubR F H := ⟨fun c o h => by
  rcases a.sub c o h with z | ⟨od, kvs, e, z⟩
  · exact b.sub c o z
  · exact .inr ⟨od, kvs, e, b.ex z (fun _ z => nomatch z)⟩⟩
theorem SubR.of {F H : Hp} (h : Same F H) : SubR F H := ⟨fun a o r => .inl (h a o r)⟩
structure SubV (F H : Hp) : Prop where
  sub : ∀ a o, F a = some o → (∀ ps, o ≠ .tbl ps) → H a = some o ∨ ∃ od kvs, o = .dK kvs ∧ H a = some (.frz od (.dK kvs))
theorem SubR.v {F H : Hp} (h : SubR F H) : SubV F H := ⟨fun a o e _ => h.sub a o e⟩
instance {F H : Hp} : Coe (SubR F H) (SubV F H) := ⟨SubR.v⟩
theorem SubV.ex {F H : Hp} (h : SubV F H) {a : Addr} {u : HO} (r : F a = some u) (n : ∀ kvs, u ≠ .dK kvs) (m : ∀ ps, u ≠ .tbl ps) : H a = some u := by
  rcases h.sub a u r m with z | ⟨od, kvs, e, z⟩
  · exact z
  · exact absurd e (n kvs)
theorem SubV.rd {F H : Hp} (h : SubV F H) (a : Addr) (u : HO) (r : Rd F a u) (n : ∀ ps, u ≠ .tbl ps := by intro _ z; cases z) : Rd H a u := by
  rcases r with r | ⟨o, r⟩
  · rcases h.sub a u r n with z | ⟨od, kvs, e, z⟩
    · exact .inl z
    · exact .inr ⟨od, by rw [e]; exact z⟩
  · rcases h.sub a _ r (fun _ z => nomatch z) with z | ⟨od, kvs, e, z⟩
    · exact .inr ⟨o, z⟩
    · cases e
theorem SubV.is {F H : Hp} (h : SubV F H) (a C dx : Addr) (fs : List (Str × V)) (r : F a = some (.ins C dx fs)) : H a = some (.ins C dx fs) := h.ex r (fun _ z => nomatch z) (fun _ z => nomatch z)
theorem SubV.ls {F H : Hp} (h : SubV F H) {a : Addr} {xs : List V} (r : F a = some (.lst xs)) : H a = some (.lst xs) := h.ex r (fun _ z => nomatch z) (fun _ z => nomatch z)
theorem ExD.mono {F H : Hp} (h : SubR F H) {own : Bool} {od : Option Addr} {fvs : List (Str × V)} (x : ExD F own od fvs) : ExD H own od fvs := by
  rcases x with ⟨o, d, e, q⟩ | x
  · exact .inl ⟨o, d, e, h.ex q (fun _ z => nomatch z)⟩
  · exact .inr x
theorem SubR.sq {K : Kf} {F H : Hp} (h : SubR F H) {a : Addr} {xs : List V} (q : SqL K F a xs) : SqL K H a xs := by
  rcases q with q | q
  · exact .inl (h.rd _ _ q)
  · exact .inr q
mutual
theorem DR.mono {K : Kf} {F H : Hp} (h : SubR F H) : ∀ {d : D} {v : V}, DR K F d v → DR K H d v
  | .non, _, r => r
  | .bl _, _, r => r
  | .int _, _, r => r
  | .str _, _, r => r
  | .lst _, _, ⟨a, vs, e, q, r⟩ => ⟨a, vs, e, h.ls q, DRs.mono h r⟩
  | .tup _, _, ⟨a, vs, e, q, r⟩ => ⟨a, vs, e, h.tp q, DRs.mono h r⟩
  | .dct _, _, ⟨a, vs, e, q, r⟩ => ⟨a, vs, e, h.rd _ _ q, DRk.mono h r⟩
  | .ins _ _, _, ⟨a, dx, vs, e, q, r⟩ => ⟨a, dx, vs, e, h.is _ _ _ _ q, DRf.mono h r⟩
  | .scr _, _, ⟨a, e, q⟩ => ⟨a, e, h.sq q⟩
  | .exn _ _ _, _, ⟨a, od, fvs, e, q, x, r⟩ => ⟨a, od, fvs, e, h.ex q (fun _ z => nomatch z), x.mono h, DRf.mono h r⟩
theorem DRs.mono {K : Kf} {F H : Hp} (h : SubR F H) : ∀ {d : List D} {v : List V}, DRs K F d v → DRs K H d v
  | [], _, r => r
  | _ :: _, _, ⟨v, vs, e, r, q⟩ => ⟨v, vs, e, DR.mono h r, DRs.mono h q⟩
theorem DRk.mono {K : Kf} {F H : Hp} (h : SubR F H) : ∀ {d : List (Key × D)} {v : List (Key × V)}, DRk K F d v → DRk K H d v
  | [], _, r => r
  | (_, _) :: _, _, ⟨v, vs, e, ⟨r1, r⟩, q⟩ => ⟨v, vs, e, ⟨r1, DR.mono h r⟩, DRk.mono h q⟩
theorem DRf.mono {K : Kf} {F H : Hp} (h : SubR F H) : ∀ {d : List (Str × D)} {v : List (Str × V)}, DRf K F d v → DRf K H d v
  | [], _, r => r
  | (_, _) :: _, _, ⟨v, vs, e, ⟨r1, r⟩, q⟩ => ⟨v, vs, e, ⟨r1, DR.mono h r⟩, DRf.mono h q⟩
end
mutual
def TR (K : Kf) (F H : Hp) : T → V → List Addr → Prop
  | .sh d, v, S => S = [] ∧ DR K F d v
  | .lst ts, v, S => ∃ a vs S', v = .ref a ∧ H a = some (.lst vs) ∧ S = a :: S' ∧ TRs K F H ts vs S'
  | .dct ts, v, S => ∃ a vs S', v = .ref a ∧ H a = some (.dK vs) ∧ S = a :: S' ∧ TRk K F H ts vs S' ∧ (ts.map Prod.fst).Nodup
  | .ins C ts, v, S => ∃ a dx vs S', v = .ref a ∧ H a = some (.ins C dx vs) ∧ S = a :: S' ∧ TRf K F H ts vs S'
def TRs (K : Kf) (F H : Hp) : List T → List V → List Addr → Prop
  | [], vs, S => vs = [] ∧ S = []
  | t :: r, vs, S => ∃ v vs' S1 S2, vs = v :: vs' ∧ S = S1 ++ S2 ∧ TR K F H t v S1 ∧ TRs K F H r vs' S2
def TRk (K : Kf) (F H : Hp) : List (Key × T) → List (Key × V) → List Addr → Prop
  | [], vs, S => vs = [] ∧ S = []
  | p :: r, vs, S => ∃ v vs' S1 S2, vs = v :: vs' ∧ S = S1 ++ S2 ∧ TRkp K F H p v S1 ∧ TRk K F H r vs' S2
def TRkp (K : Kf) (F H : Hp) : Key × T → Key × V → List Addr → Prop
  | (k, t), p, S => p.1 = k ∧ TR K F H t p.2 S
def TRf (K : Kf) (F H : Hp) : List (Str × T) → List (Str × V) → List Addr → Prop
  | [], vs, S => vs = [] ∧ S = []
  | p :: r, vs, S => ∃ v vs' S1 S2, vs = v :: vs' ∧ S = S1 ++ S2 ∧ TRfp K F H p v S1 ∧ TRf K F H r vs' S2
def TRfp (K : Kf) (F H : Hp) : Str × T → Str × V → List Addr → Prop
  | (k, t), p, S => p.1 = k ∧ TR K F H t p.2 S
end
mutual
def VR (K : Kf) (G F : Hp) : T → V → Prop
  | .sh d, v => DR K F d v
  | .lst ts, v => ∃ a vs, v = .ref a ∧ G a = some (.lst vs) ∧ VRs K G F ts vs
  | .dct ts, v => ∃ a vs, v = .ref a ∧ Rd G a (.dK vs) ∧ VRk K G F ts vs
  | .ins C ts, v => ∃ a dx vs, v = .ref a ∧ G a = some (.ins C dx vs) ∧ VRf K G F ts vs
def VRs (K : Kf) (G F : Hp) : List T → List V → Prop
  | [], vs => vs = []
  | t :: r, vs => ∃ v vs', vs = v :: vs' ∧ VR K G F t v ∧ VRs K G F r vs'
def VRk (K : Kf) (G F : Hp) : List (Key × T) → List (Key × V) → Prop
  | [], vs => vs = []
  | p :: r, vs => ∃ v vs', vs = v :: vs' ∧ VRkp K G F p v ∧ VRk K G F r vs'
def VRkp (K : Kf) (G F : Hp) : Key × T → Key × V → Prop
  | (k, t), p => p.1 = k ∧ VR K G F t p.2
def VRf (K : Kf) (G F : Hp) : List (Str × T) → List (Str × V) → Prop
  | [], vs => vs = []
  | p :: r, vs => ∃ v vs', vs = v :: vs' ∧ VRfp K G F p v ∧ VRf K G F r vs'
def VRfp (K : Kf) (G F : Hp) : Str × T → Str × V → Prop
  | (k, t), p => p.1 = k ∧ VR K G F t p.2
end
mutual
theorem VR.monoV {K : Kf} {G G' F F' : Hp} (g : SubV G G') (f : SubR F F') : ∀ {t : T} {v : V}, VR K G F t v → VR K G' F' t v
  | .sh _, _, r => DR.mono f r
  | .lst _, _, ⟨a, vs, e, q, r⟩ => ⟨a, vs, e, g.ls q, VRs.monoV g f r⟩
  | .dct _, _, ⟨a, vs, e, q, r⟩ => ⟨a, vs, e, g.rd _ _ q, VRk.monoV g f r⟩
  | .ins _ _, _, ⟨a, dx, vs, e, q, r⟩ => ⟨a, dx, vs, e, g.is _ _ _ _ q, VRf.monoV g f r⟩
theorem VRs.monoV {K : Kf} {G G' F F' : Hp} (g : SubV G G') (f : SubR F F') : ∀ {t : List T} {v : List V}, VRs K G F t v → VRs K G' F' t v
  | [], _, r => r
  | _ :: _, _, ⟨v, vs, e, r, q⟩ => ⟨v, vs, e, VR.monoV g f r, VRs.monoV g f q⟩
theorem VRk.monoV {K : Kf} {G G' F F' : Hp} (g : SubV G G') (f : SubR F F') : ∀ {t : List (Key × T)} {v : List (Key × V)}, VRk K G F t v → VRk K G' F' t v
  | [], _, r => r
  | (_, _) :: _, _, ⟨v, vs, e, ⟨r1, r⟩, q⟩ => ⟨v, vs, e, ⟨r1, VR.monoV g f r⟩, VRk.monoV g f q⟩
theorem VRf.monoV {K : Kf} {G G' F F' : Hp} (g : SubV G G') (f : SubR F F') : ∀ {t : List (Str × T)} {v : List (Str × V)}, VRf K G F t v → VRf K G' F' t v
  | [], _, r => r
  | (_, _) :: _, _, ⟨v, vs, e, ⟨r1, r⟩, q⟩ => ⟨v, vs, e, ⟨r1, VR.monoV g f r⟩, VRf.monoV g f q⟩
end
theorem VR.mono {K : Kf} {G G' F F' : Hp} (g : SubR G G') (f : SubR F F') {t : T} {v : V} (r : VR K G F t v) : VR K G' F' t v := r.monoV g.v f
mutual
theorem VR.dr {K : Kf} {G F : Hp} (f : SubR F G) : ∀ {t : T} {v : V}, VR K G F t v → DR K G t.er v
  | .sh _, _, r => DR.mono f r
  | .lst _, _, ⟨a, vs, e, q, r⟩ => ⟨a, vs, e, q, VRs.dr f r⟩
  | .dct _, _, ⟨a, vs, e, q, r⟩ => ⟨a, vs, e, q, VRk.dr f r⟩
  | .ins _ _, _, ⟨a, dx, vs, e, q, r⟩ => ⟨a, dx, vs, e, q, VRf.dr f r⟩
theorem VRs.dr {K : Kf} {G F : Hp} (f : SubR F G) : ∀ {t : List T} {v : List V}, VRs K G F t v → DRs K G (T.ers t) v
  | [], _, r => r
  | _ :: _, _, ⟨v, vs, e, r, q⟩ => ⟨v, vs, e, VR.dr f r, VRs.dr f q⟩
theorem VRk.dr {K : Kf} {G F : Hp} (f : SubR F G) : ∀ {t : List (Key × T)} {v : List (Key × V)}, VRk K G F t v → DRk K G (T.erk t) v
  | [], _, r => r
  | (_, _) :: _, _, ⟨v, vs, e, ⟨r1, r⟩, q⟩ => ⟨v, vs, e, ⟨r1, VR.dr f r⟩, VRk.dr f q⟩
theorem VRf.dr {K : Kf} {G F : Hp} (f : SubR F G) : ∀ {t : List (Str × T)} {v : List (Str × V)}, VRf K G F t v → DRf K G (T.erf t) v
  | [], _, r => r
  | (_, _) :: _, _, ⟨v, vs, e, ⟨r1, r⟩, q⟩ => ⟨v, vs, e, ⟨r1, VR.dr f r⟩, VRf.dr f q⟩
end
mutual
theorem TR.vr {K : Kf} {F H : Hp} : ∀ {t : T} {v : V} {S : List Addr}, TR K F H t v S → VR K H F t v
  | .sh _, _, _, ⟨_, r⟩ => r
  | .lst _, _, _, ⟨a, vs, S', e, q, _, r⟩ => ⟨a, vs, e, q, TRs.vr r⟩
  | .dct _, _, _, ⟨a, vs, S', e, q, _, r, _⟩ => ⟨a, vs, e, .inl q, TRk.vr r⟩
  | .ins _ _, _, _, ⟨a, dx, vs, S', e, q, _, r⟩ => ⟨a, dx, vs, e, q, TRf.vr r⟩
theorem TRs.vr {K : Kf} {F H : Hp} : ∀ {t : List T} {v : List V} {S : List Addr}, TRs K F H t v S → VRs K H F t v
  | [], _, _, r => r.1
  | _ :: _, _, _, ⟨v, vs, S1, S2, e, _, r, q⟩ => ⟨v, vs, e, TR.vr r, TRs.vr q⟩
theorem TRk.vr {K : Kf} {F H : Hp} : ∀ {t : List (Key × T)} {v : List (Key × V)} {S : List Addr}, TRk K F H t v S → VRk K H F t v
  | [], _, _, r => r.1
  | (_, _) :: _, _, _, ⟨v, vs, S1, S2, e, _, ⟨r1, r⟩, q⟩ => ⟨v, vs, e, ⟨r1, TR.vr r⟩, TRk.vr q⟩
theorem TRf.vr {K : Kf} {F H : Hp} : ∀ {t : List (Str × T)} {v : List (Str × V)} {S : List Addr}, TRf K F H t v S → VRf K H F t v
  | [], _, _, r => r.1
  | (_, _) :: _, _, _, ⟨v, vs, S1, S2, e, _, ⟨r1, r⟩, q⟩ => ⟨v, vs, e, ⟨r1, TR.vr r⟩, TRf.vr q⟩
end
mutual
theorem TR.mono {K : Kf} {F F' H H' : Hp} (f : SubR F F') : ∀ {t : T} {v : V} {S : List Addr}, (∀ a ∈ S, ∀ o, H a = some o → H' a = some o) → TR K F H t v S → TR K F' H' t v S
  | .sh _, _, _, _, ⟨e, r⟩ => ⟨e, DR.mono f r⟩
  | .lst _, _, _, h, ⟨a, vs, S', e, q, eS, r⟩ => ⟨a, vs, S', e, h a (by rw [eS]; exact List.mem_cons_self) _ q, eS, TRs.mono f (fun b hb => h b (by rw [eS]; exact List.mem_cons_of_mem _ hb)) r⟩
  | .dct _, _, _, h, ⟨a, vs, S', e, q, eS, r, nd⟩ => ⟨a, vs, S', e, h a (by rw [eS]; exact List.mem_cons_self) _ q, eS, TRk.mono f (fun b hb => h b (by rw [eS]; exact List.mem_cons_of_mem _ hb)) r, nd⟩
  | .ins _ _, _, _, h, ⟨a, dx, vs, S', e, q, eS, r⟩ => ⟨a, dx, vs, S', e, h a (by rw [eS]; exact List.mem_cons_self) _ q, eS, TRf.mono f (fun b hb => h b (by rw [eS]; exact List.mem_cons_of_mem _ hb)) r⟩
theorem TRs.mono {K : Kf} {F F' H H' : Hp} (f : SubR F F') : ∀ {t : List T} {v : List V} {S : List Addr}, (∀ a ∈ S, ∀ o, H a = some o → H' a = some o) → TRs K F H t v S → TRs K F' H' t v S
  | [], _, _, _, r => r
  | _ :: _, _, _, h, ⟨v, vs, S1, S2, e, eS, r, q⟩ => ⟨v, vs, S1, S2, e, eS, TR.mono f (fun b hb => h b (by rw [eS]; exact List.mem_append_left _ hb)) r, TRs.mono f (fun b hb => h b (by rw [eS]; exact List.mem_append_right _ hb)) q⟩
theorem TRk.mono {K : Kf} {F F' H H' : Hp} (f : SubR F F') : ∀ {t : List (Key × T)} {v : List (Key × V)} {S : List Addr}, (∀ a ∈ S, ∀ o, H a = some o → H' a = some o) → TRk K F H t v S → TRk K F' H' t v S
  | [], _, _, _, r => r
  | (_, _) :: _, _, _, h, ⟨v, vs, S1, S2, e, eS, ⟨r1, r⟩, q⟩ => ⟨v, vs, S1, S2, e, eS, ⟨r1, TR.mono f (fun b hb => h b (by rw [eS]; exact List.mem_append_left _ hb)) r⟩, TRk.mono f (fun b hb => h b (by rw [eS]; exact List.mem_append_right _ hb)) q⟩
theorem TRf.mono {K : Kf} {F F' H H' : Hp} (f : SubR F F') : ∀ {t : List (Str × T)} {v : List (Str × V)} {S : List Addr}, (∀ a ∈ S, ∀ o, H a = some o → H' a = some o) → TRf K F H t v S → TRf K F' H' t v S
  | [], _, _, _, r => r
  | (_, _) :: _, _, _, h, ⟨v, vs, S1, S2, e, eS, ⟨r1, r⟩, q⟩ => ⟨v, vs, S1, S2, e, eS, ⟨r1, TR.mono f (fun b hb => h b (by rw [eS]; exact List.mem_append_left _ hb)) r⟩, TRf.mono f (fun b hb => h b (by rw [eS]; exact List.mem_append_right _ hb)) q⟩
end
mutual
theorem TR.frz {K : Kf} {F F' H : Hp} (f : SubR F F') : ∀ {t : T} {v : V} {S : List Addr}, (∀ a ∈ S, ∀ o, H a = some o → F' a = some o) → TR K F H t v S → DR K F' t.er v
  | .sh _, _, _, _, ⟨e, r⟩ => DR.mono f r
  | .lst _, _, _, h, ⟨a, vs, S', e, q, eS, r⟩ => ⟨a, vs, e, h a (by rw [eS]; exact List.mem_cons_self) _ q, TRs.frz f (fun b hb => h b (by rw [eS]; exact List.mem_cons_of_mem _ hb)) r⟩
  | .dct _, _, _, h, ⟨a, vs, S', e, q, eS, r, _⟩ => ⟨a, vs, e, .inl (h a (by rw [eS]; exact List.mem_cons_self) _ q), TRk.frz f (fun b hb => h b (by rw [eS]; exact List.mem_cons_of_mem _ hb)) r⟩
  | .ins _ _, _, _, h, ⟨a, dx, vs, S', e, q, eS, r⟩ => ⟨a, dx, vs, e, h a (by rw [eS]; exact List.mem_cons_self) _ q, TRf.frz f (fun b hb => h b (by rw [eS]; exact List.mem_cons_of_mem _ hb)) r⟩
theorem TRs.frz {K : Kf} {F F' H : Hp} (f : SubR F F') : ∀ {t : List T} {v : List V} {S : List Addr}, (∀ a ∈ S, ∀ o, H a = some o → F' a = some o) → TRs K F H t v S → DRs K F' (T.ers t) v
  | [], _, _, _, r => r.1
  | _ :: _, _, _, h, ⟨v, vs, S1, S2, e, eS, r, q⟩ => ⟨v, vs, e, TR.frz f (fun b hb => h b (by rw [eS]; exact List.mem_append_left _ hb)) r, TRs.frz f (fun b hb => h b (by rw [eS]; exact List.mem_append_right _ hb)) q⟩
theorem TRk.frz {K : Kf} {F F' H : Hp} (f : SubR F F') : ∀ {t : List (Key × T)} {v : List (Key × V)} {S : List Addr}, (∀ a ∈ S, ∀ o, H a = some o → F' a = some o) → TRk K F H t v S → DRk K F' (T.erk t) v
  | [], _, _, _, r => r.1
  | (_, _) :: _, _, _, h, ⟨v, vs, S1, S2, e, eS, ⟨r1, r⟩, q⟩ => ⟨v, vs, e, ⟨r1, TR.frz f (fun b hb => h b (by rw [eS]; exact List.mem_append_left _ hb)) r⟩, TRk.frz f (fun b hb => h b (by rw [eS]; exact List.mem_append_right _ hb)) q⟩
theorem TRf.frz {K : Kf} {F F' H : Hp} (f : SubR F F') : ∀ {t : List (Str × T)} {v : List (Str × V)} {S : List Addr}, (∀ a ∈ S, ∀ o, H a = some o → F' a = some o) → TRf K F H t v S → DRf K F' (T.erf t) v
  | [], _, _, _, r => r.1
  | (_, _) :: _, _, _, h, ⟨v, vs, S1, S2, e, eS, ⟨r1, r⟩, q⟩ => ⟨v, vs, e, ⟨r1, TR.frz f (fun b hb => h b (by rw [eS]; exact List.mem_append_left _ hb)) r⟩, TRf.frz f (fun b hb => h b (by rw [eS]; exact List.mem_append_right _ hb)) q⟩
end
mutual
theorem TR.has {K : Kf} {F H : Hp} : ∀ {t : T} {v : V} {S : List Addr}, TR K F H t v S → ∀ a ∈ S, ∃ o, H a = some o ∧ Mut (some o)
  | .sh _, _, _, ⟨e, r⟩, a, h => by rw [e] at h; cases h
  | .lst _, _, _, ⟨a, vs, S', e, q, eS, r⟩, b, h => by
    rw [eS] at h
    rcases List.mem_cons.mp h with z | h
    · rw [z]; exact ⟨_, q, trivial⟩
    · exact TRs.has r b h
  | .dct _, _, _, ⟨a, vs, S', e, q, eS, r, _⟩, b, h => by
    rw [eS] at h
    rcases List.mem_cons.mp h with z | h
    · rw [z]; exact ⟨_, q, trivial⟩
    · exact TRk.has r b h
  | .ins _ _, _, _, ⟨a, dx, vs, S', e, q, eS, r⟩, b, h => by
    rw [eS] at h
    rcases List.mem_cons.mp h with z | h
    · rw [z]; exact ⟨_, q, trivial⟩
    · exact TRf.has r b h
theorem TRs.has {K : Kf} {F H : Hp} : ∀ {t : List T} {v : List V} {S : List Addr}, TRs K F H t v S → ∀ a ∈ S, ∃ o, H a = some o ∧ Mut (some o)
  | [], _, _, r, a, h => by rw [r.2] at h; cases h
  | _ :: _, _, _, ⟨v, vs, S1, S2, e, eS, r, q⟩, a, h => by
    rw [eS] at h
    exact (List.mem_append.mp h).elim (TR.has r a) (TRs.has q a)
theorem TRk.has {K : Kf} {F H : Hp} : ∀ {t : List (Key × T)} {v : List (Key × V)} {S : List Addr}, TRk K F H t v S → ∀ a ∈ S, ∃ o, H a = some o ∧ Mut (some o)
  | [], _, _, r, a, h => by rw [r.2] at h; cases h
  | (_, _) :: _, _, _, ⟨v, vs, S1, S2, e, eS, ⟨r1, r⟩, q⟩, a, h => by
    rw [eS] at h
    exact (List.mem_append.mp h).elim (TR.has r a) (TRk.has q a)
theorem TRf.has {K : Kf} {F H : Hp} : ∀ {t : List (Str × T)} {v : List (Str × V)} {S : List Addr}, TRf K F H t v S → ∀ a ∈ S, ∃ o, H a = some o ∧ Mut (some o)
  | [], _, _, r, a, h => by rw [r.2] at h; cases h
  | (_, _) :: _, _, _, ⟨v, vs, S1, S2, e, eS, ⟨r1, r⟩, q⟩, a, h => by
    rw [eS] at h
    exact (List.mem_append.mp h).elim (TR.has r a) (TRf.has q a)
end
def OwnO : HO → Prop
  | .lst _ => True
  | .dK _ => True
  | .ins _ _ _ => True
  | _ => False
mutual
theorem TR.hasO {K : Kf} {F H : Hp} : ∀ {t : T} {v : V} {S : List Addr}, TR K F H t v S → ∀ a ∈ S, ∃ o, H a = some o ∧ OwnO o
  | .sh _, _, _, ⟨e, r⟩, a, h => by rw [e] at h; cases h
  | .lst _, _, _, ⟨a, vs, S', e, q, eS, r⟩, b, h => by
    rw [eS] at h
    rcases List.mem_cons.mp h with z | h
    · rw [z]; exact ⟨_, q, trivial⟩
    · exact TRs.hasO r b h
  | .dct _, _, _, ⟨a, vs, S', e, q, eS, r, _⟩, b, h => by
    rw [eS] at h
    rcases List.mem_cons.mp h with z | h
    · rw [z]; exact ⟨_, q, trivial⟩
    · exact TRk.hasO r b h
  | .ins _ _, _, _, ⟨a, dx, vs, S', e, q, eS, r⟩, b, h => by
    rw [eS] at h
    rcases List.mem_cons.mp h with z | h
    · rw [z]; exact ⟨_, q, trivial⟩
    · exact TRf.hasO r b h
theorem TRs.hasO {K : Kf} {F H : Hp} : ∀ {t : List T} {v : List V} {S : List Addr}, TRs K F H t v S → ∀ a ∈ S, ∃ o, H a = some o ∧ OwnO o
  | [], _, _, r, a, h => by rw [r.2] at h; cases h
  | _ :: _, _, _, ⟨v, vs, S1, S2, e, eS, r, q⟩, a, h => by
    rw [eS] at h
    exact (List.mem_append.mp h).elim (TR.hasO r a) (TRs.hasO q a)
theorem TRk.hasO {K : Kf} {F H : Hp} : ∀ {t : List (Key × T)} {v : List (Key × V)} {S : List Addr}, TRk K F H t v S → ∀ a ∈ S, ∃ o, H a = some o ∧ OwnO o
  | [], _, _, r, a, h => by rw [r.2] at h; cases h
  | (_, _) :: _, _, _, ⟨v, vs, S1, S2, e, eS, ⟨r1, r⟩, q⟩, a, h => by
    rw [eS] at h
    exact (List.mem_append.mp h).elim (TR.hasO r a) (TRk.hasO q a)
theorem TRf.hasO {K : Kf} {F H : Hp} : ∀ {t : List (Str × T)} {v : List (Str × V)} {S : List Addr}, TRf K F H t v S → ∀ a ∈ S, ∃ o, H a = some o ∧ OwnO o
  | [], _, _, r, a, h => by rw [r.2] at h; cases h
  | (_, _) :: _, _, _, ⟨v, vs, S1, S2, e, eS, ⟨r1, r⟩, q⟩, a, h => by
    rw [eS] at h
    exact (List.mem_append.mp h).elim (TR.hasO r a) (TRf.hasO q a)
end
mutual
theorem TR.det {K : Kf} {F H : Hp} : ∀ {t : T} {v : V} {S S' : List Addr}, TR K F H t v S → TR K F H t v S' → S = S'
  | .sh _, _, _, _, ⟨e, _⟩, ⟨e', _⟩ => e.trans e'.symm
  | .lst _, _, _, _, ⟨a, vs, T, e, q, eS, r⟩, ⟨a', vs', T', e', q', eS', r'⟩ => by
    rw [e] at e'; cases e'; rw [q] at q'; cases q'; rw [eS, eS', TRs.det r r']
  | .dct _, _, _, _, ⟨a, vs, T, e, q, eS, r, _⟩, ⟨a', vs', T', e', q', eS', r', _⟩ => by
    rw [e] at e'; cases e'; rw [q] at q'; cases q'; rw [eS, eS', TRk.det r r']
  | .ins _ _, _, _, _, ⟨a, dx, vs, T, e, q, eS, r⟩, ⟨a', dx', vs', T', e', q', eS', r'⟩ => by
    rw [e] at e'; cases e'; rw [q] at q'; cases q'; rw [eS, eS', TRf.det r r']
theorem TRs.det {K : Kf} {F H : Hp} : ∀ {t : List T} {v : List V} {S S' : List Addr}, TRs K F H t v S → TRs K F H t v S' → S = S'
  | [], _, _, _, r, r' => r.2.trans r'.2.symm
  | _ :: _, _, _, _, ⟨v, vs, S1, S2, e, eS, r, q⟩, ⟨v', vs', S1', S2', e', eS', r', q'⟩ => by
    rw [e] at e'; cases e'; rw [eS, eS', TR.det r r', TRs.det q q']
theorem TRk.det {K : Kf} {F H : Hp} : ∀ {t : List (Key × T)} {v : List (Key × V)} {S S' : List Addr}, TRk K F H t v S → TRk K F H t v S' → S = S'
  | [], _, _, _, r, r' => r.2.trans r'.2.symm
  | (_, _) :: _, _, _, _, ⟨v, vs, S1, S2, e, eS, ⟨_, r⟩, q⟩, ⟨v', vs', S1', S2', e', eS', ⟨_, r'⟩, q'⟩ => by
    rw [e] at e'; cases e'; rw [eS, eS', TR.det r r', TRk.det q q']
theorem TRf.det {K : Kf} {F H : Hp} : ∀ {t : List (Str × T)} {v : List (Str × V)} {S S' : List Addr}, TRf K F H t v S → TRf K F H t v S' → S = S'
  | [], _, _, _, r, r' => r.2.trans r'.2.symm
  | (_, _) :: _, _, _, _, ⟨v, vs, S1, S2, e, eS, ⟨_, r⟩, q⟩, ⟨v', vs', S1', S2', e', eS', ⟨_, r'⟩, q'⟩ => by
    rw [e] at e'; cases e'; rw [eS, eS', TR.det r r', TRf.det q q']
end
section
variable {κ α β : Type} [DecidableEq κ]
def lk : List (κ × α) → κ → Option α
  | [], _ => none
  | p :: r, k => if p.1 = k then some p.2 else lk r k
def rk : List (κ × α) → κ → α → List (κ × α)
  | [], _, _ => []
  | p :: r, k, a => if p.1 = k then (k, a) :: r else p :: rk r k a
def pk : List (κ × α) → κ → α → List (κ × α)
  | [], k, a => [(k, a)]
  | p :: r, k, a => if p.1 = k then (k, a) :: r else p :: pk r k a
def hk (l : List (κ × α)) (k : κ) : Bool := (lk l k).isSome
theorem lk_ix : ∀ {l : List (κ × α)} {k : κ} {a : α}, lk l k = some a → ∃ n, l[n]? = some (k, a) ∧ (∀ a', rk l k a' = l.set n (k, a')) ∧ ∀ (β : Type) (l' : List (κ × β)) (b : β), l'.map (·.1) = l.map (·.1) → l'[n]? = some (k, b) → lk l' k = some b
  | [], _, _, h => by simp [lk] at h
  | p :: r, k, a, h => by
    unfold lk at h
    by_cases e : p.1 = k
    · rw [if_pos e] at h
      cases h
      refine ⟨0, by simp [← e], fun a' => by simp [rk, e], fun β l' b hm hb => ?_⟩
      cases l' with
      | nil => simp at hb
      | cons q l' =>
        simp at hb
        subst hb
        simp [lk]
    · rw [if_neg e] at h
      obtain ⟨n, h1, h2, h3⟩ := lk_ix h
      refine ⟨n + 1, by simpa using h1, fun a' => by simp [rk, e, h2], fun β l' b hm hb => ?_⟩
      cases l' with
      | nil => simp at hb
      | cons q l' =>
        simp at hm hb
        have := h3 β l' b hm.2 hb
        simp [lk, hm.1, e, this]
theorem valV_lk (k : κ) : ∀ l : List (κ × V), valV l k = lk l k
  | [] => rfl
  | p :: r => by
    by_cases e : p.1 = k
    · rw [valV_pos e]; simp [lk, e]
    · rw [valV_neg e, valV_lk k r]; simp [lk, e]
theorem lk_none_iff {l : List (κ × α)} {k : κ} : lk l k = none ↔ k ∉ l.map (·.1) := by
  induction l with
  | nil => simp [lk]
  | cons p r ih =>
    by_cases e : p.1 = k
    · simp [lk, e]
    · simp only [lk, if_neg e, ih, List.map_cons, List.mem_cons, not_or]
      exact ⟨fun h => ⟨fun z => e z.symm, h⟩, fun h => h.2⟩
theorem pk_new {l : List (κ × α)} {k : κ} {a : α} (h : lk l k = none) : pk l k a = l ++ [(k, a)] := by
  induction l with
  | nil => rfl
  | cons p r ih =>
    by_cases e : p.1 = k
    · simp [lk, e] at h
    · simp only [lk, if_neg e] at h
      simp [pk, e, ih h]
theorem pk_old {l : List (κ × α)} {k : κ} {a b : α} (h : lk l k = some b) : pk l k a = rk l k a := by
  induction l with
  | nil => simp [lk] at h
  | cons p r ih =>
    by_cases e : p.1 = k
    · simp [pk, rk, e]
    · simp only [lk, if_neg e] at h
      simp [pk, rk, e, ih h]
theorem putK_pk {l : List (κ × V)} {k : κ} {v : V} (nd : (l.map (·.1)).Nodup) : putK l k v = pk l k v := by
  induction l with
  | nil => rfl
  | cons p r ih =>
    have nd' := List.nodup_cons.mp (by simpa using nd : (p.1 :: r.map (·.1)).Nodup)
    by_cases e : p.1 = k
    · have hmap : ∀ l : List (κ × V), k ∉ l.map (·.1) → l.map (fun kv => if kv.1 = k then (kv.1, v) else kv) = l := by
        intro l
        induction l with
        | nil => intro _; rfl
        | cons q s ih2 =>
          intro h
          simp only [List.map_cons, List.mem_cons, not_or] at h
          rw [List.map_cons, if_neg (fun z => h.1 z.symm), ih2 h.2]
      unfold putK pk
      rw [if_pos (by simp [e]), if_pos e, List.map_cons, if_pos e, hmap r (e ▸ nd'.1), e]
    · have ih := ih nd'.2
      unfold putK at ih ⊢
      unfold pk
      rw [if_neg e, ← ih]
      by_cases h : (r.any fun kv => decide (kv.1 = k)) = true
      · rw [if_pos h, if_pos (by simp only [List.any_cons, h, Bool.or_true]), List.map_cons, if_neg e]
      · rw [if_neg h, if_neg (by simpa [List.any_cons, e] using h)]; rfl
theorem putF_pk (f : Str) (v : V) : ∀ l : List (Str × V), putF f v l = pk l f v
  | [] => rfl
  | (g, x) :: r => by
    unfold putF pk
    by_cases e : g = f
    · rw [if_pos e, if_pos e, e]
    · rw [if_neg e, if_neg e, putF_pk f v r]
theorem lookup_lk {α : Type} (f : Str) : ∀ l : List (Str × α), l.lookup f = lk l f
  | [] => rfl
  | (g, x) :: r => by
    unfold lk
    by_cases e : g = f
    · have hb : (f == g) = true := beq_iff_eq.mpr e.symm
      simp only [List.lookup, hb, if_pos e]
    · have hb : (f == g) = false := beq_eq_false_iff_ne.mpr fun z => e z.symm
      simp only [List.lookup, hb, if_neg e]
      exact lookup_lk f r
theorem rk_keys {l : List (κ × α)} {k : κ} {a : α} : (rk l k a).map (·.1) = l.map (·.1) := by
  induction l with
  | nil => rfl
  | cons p r ih =>
    by_cases e : p.1 = k
    · simp [rk, e]
    · simp only [rk, if_neg e, List.map_cons, ih]
theorem pk_keys {l : List (κ × α)} {k : κ} {a : α} : (pk l k a).map (·.1) = if k ∈ l.map (·.1) then l.map (·.1) else l.map (·.1) ++ [k] := by
  cases h : lk l k with
  | none =>
    rw [pk_new h, if_neg (lk_none_iff.mp h)]; simp
  | some b =>
    rw [pk_old h, rk_keys, if_pos]
    refine Classical.byContradiction fun z => ?_
    rw [lk_none_iff.mpr z] at h
    cases h
theorem pk_nodup {l : List (κ × α)} {k : κ} {a : α} (nd : (l.map (·.1)).Nodup) : ((pk l k a).map (·.1)).Nodup := by
  rw [pk_keys]
  split
  · exact nd
  · rename_i h
    exact List.nodup_append.mpr ⟨nd, by simp, fun x hx y hy z => by simp at hy; subst hy; subst z; exact h hx⟩
end
def All2 {α β : Type} (R : α → β → Prop) : List α → List β → Prop
  | [], l => l = []
  | a :: r, l => ∃ b l', l = b :: l' ∧ R a b ∧ All2 R r l'
section
variable {α β γ : Type} {R Q : α → β → Prop}
theorem All2.length : ∀ {as : List α} {bs : List β}, All2 R as bs → as.length = bs.length
  | [], bs, h => by cases (show bs = [] from h); rfl
  | _ :: _, _, ⟨b, l, e, r, h⟩ => by rw [e, List.length_cons, List.length_cons, All2.length h]
theorem All2.get : ∀ {as : List α} {bs : List β} {i : Nat} {a : α}, All2 R as bs → as[i]? = some a → ∃ b, bs[i]? = some b ∧ R a b
  | [], _, _, _, _, e => by simp at e
  | a :: _, _, 0, _, ⟨b, l, e, r, h⟩, q => by simp at q; subst q; exact ⟨b, by simp [e], r⟩
  | _ :: _, _, i + 1, _, ⟨b, l, e, r, h⟩, q => by
    obtain ⟨c, h1, h2⟩ := All2.get h (by simpa using q)
    exact ⟨c, by simpa [e] using h1, h2⟩
theorem All2.append : ∀ {as as' : List α} {bs bs' : List β}, All2 R as bs → All2 R as' bs' → All2 R (as ++ as') (bs ++ bs')
  | [], _, _, _, h, k => by rw [show _ = [] from h]; exact k
  | _ :: _, _, _, _, ⟨b, l, e, r, h⟩, k => ⟨b, _, by rw [e]; rfl, r, All2.append h k⟩
theorem All2.one {a : α} {b : β} (h : R a b) : All2 R [a] [b] := ⟨b, [], rfl, h, rfl⟩
theorem All2.snoc {as : List α} {bs : List β} {a : α} {b : β} (h : All2 R as bs) (r : R a b) : All2 R (as ++ [a]) (bs ++ [b]) := h.append (.one r)
theorem All2.reverse : ∀ {as : List α} {bs : List β}, All2 R as bs → All2 R as.reverse bs.reverse
  | [], _, h => by rw [show _ = [] from h]; rfl
  | _ :: _, _, ⟨b, l, e, r, h⟩ => by rw [e, List.reverse_cons, List.reverse_cons]; exact (All2.reverse h).snoc r
theorem All2.take : ∀ {as : List α} {bs : List β} (n : Nat), All2 R as bs → All2 R (as.take n) (bs.take n)
  | [], _, _, h => by rw [show _ = [] from h]; simp [All2]
  | _ :: _, _, 0, _ => by simp [All2]
  | _ :: _, _, n + 1, ⟨b, l, e, r, h⟩ => by rw [e]; exact ⟨b, _, rfl, r, All2.take n h⟩
theorem All2.drop : ∀ {as : List α} {bs : List β} (n : Nat), All2 R as bs → All2 R (as.drop n) (bs.drop n)
  | [], _, _, h => by rw [show _ = [] from h]; simp [All2]
  | a :: as, bs, 0, h => by simpa using h
  | _ :: _, _, n + 1, ⟨b, l, e, r, h⟩ => by rw [e]; exact All2.drop n h
end
theorem DRs_iff {K : Kf} {F : Hp} : ∀ {ds : List D} {vs : List V}, DRs K F ds vs ↔ All2 (DR K F) ds vs
  | [], _ => Iff.rfl
  | _ :: _, _ => ⟨fun ⟨v, l, e, r, h⟩ => ⟨v, l, e, r, DRs_iff.mp h⟩, fun ⟨v, l, e, r, h⟩ => ⟨v, l, e, r, DRs_iff.mpr h⟩⟩
theorem DRk_iff {K : Kf} {F : Hp} : ∀ {ds : List (Key × D)} {vs : List (Key × V)}, DRk K F ds vs ↔ All2 (fun p q => q.1 = p.1 ∧ DR K F p.2 q.2) ds vs
  | [], _ => Iff.rfl
  | (_, _) :: _, _ => ⟨fun ⟨v, l, e, r, h⟩ => ⟨v, l, e, r, DRk_iff.mp h⟩, fun ⟨v, l, e, r, h⟩ => ⟨v, l, e, r, DRk_iff.mpr h⟩⟩
theorem DRf_iff {K : Kf} {F : Hp} : ∀ {ds : List (Str × D)} {vs : List (Str × V)}, DRf K F ds vs ↔ All2 (fun p q => q.1 = p.1 ∧ DR K F p.2 q.2) ds vs
  | [], _ => Iff.rfl
  | (_, _) :: _, _ => ⟨fun ⟨v, l, e, r, h⟩ => ⟨v, l, e, r, DRf_iff.mp h⟩, fun ⟨v, l, e, r, h⟩ => ⟨v, l, e, r, DRf_iff.mpr h⟩⟩
theorem VRs_iff {K : Kf} {G F : Hp} : ∀ {ds : List T} {vs : List V}, VRs K G F ds vs ↔ All2 (VR K G F) ds vs
  | [], _ => Iff.rfl
  | _ :: _, _ => ⟨fun ⟨v, l, e, r, h⟩ => ⟨v, l, e, r, VRs_iff.mp h⟩, fun ⟨v, l, e, r, h⟩ => ⟨v, l, e, r, VRs_iff.mpr h⟩⟩
theorem VRk_iff {K : Kf} {G F : Hp} : ∀ {ds : List (Key × T)} {vs : List (Key × V)}, VRk K G F ds vs ↔ All2 (fun p q => q.1 = p.1 ∧ VR K G F p.2 q.2) ds vs
  | [], _ => Iff.rfl
  | (_, _) :: _, _ => ⟨fun ⟨v, l, e, r, h⟩ => ⟨v, l, e, r, VRk_iff.mp h⟩, fun ⟨v, l, e, r, h⟩ => ⟨v, l, e, r, VRk_iff.mpr h⟩⟩
theorem VRf_iff {K : Kf} {G F : Hp} : ∀ {ds : List (Str × T)} {vs : List (Str × V)}, VRf K G F ds vs ↔ All2 (fun p q => q.1 = p.1 ∧ VR K G F p.2 q.2) ds vs
  | [], _ => Iff.rfl
  | (_, _) :: _, _ => ⟨fun ⟨v, l, e, r, h⟩ => ⟨v, l, e, r, VRf_iff.mp h⟩, fun ⟨v, l, e, r, h⟩ => ⟨v, l, e, r, VRf_iff.mpr h⟩⟩
theorem All2.lk {κ α : Type} [DecidableEq κ] {R : α → V → Prop} : ∀ {ts : List (κ × α)} {vs : List (κ × V)} (k : κ), All2 (fun p q => q.1 = p.1 ∧ R p.2 q.2) ts vs →
    (lk ts k = none ∧ lk vs k = none) ∨ ∃ t v, lk ts k = some t ∧ lk vs k = some v ∧ R t v
  | [], _, _, h => by rw [show _ = [] from h]; exact .inl ⟨rfl, rfl⟩
  | p :: r, _, k, ⟨q, l, e, ⟨h1, h2⟩, h⟩ => by
    subst e
    by_cases c : p.1 = k
    · exact .inr ⟨p.2, q.2, by simp [DL.lk, c], by simp [DL.lk, h1, c], h2⟩
    · rcases All2.lk k h with ⟨a, b⟩ | ⟨t, v, a, b, d⟩
      · exact .inl ⟨by simp [DL.lk, c, a], by simp [DL.lk, h1, c, b]⟩
      · exact .inr ⟨t, v, by simp [DL.lk, c, a], by simp [DL.lk, h1, c, b], d⟩
theorem All2.keys {κ α β : Type} {R : α → β → Prop} : ∀ {ts : List (κ × α)} {vs : List (κ × β)}, All2 (fun p q => q.1 = p.1 ∧ R p.2 q.2) ts vs → vs.map (·.1) = ts.map (·.1)
  | [], _, h => by rw [show _ = [] from h]; rfl
  | p :: r, _, ⟨q, l, e, ⟨h1, h2⟩, h⟩ => by rw [e, List.map_cons, List.map_cons, h1, All2.keys h]
def Fs {α β : Type} (R : α → β → List Addr → Prop) : List α → List β → List Addr → Prop
  | [], l, S => l = [] ∧ S = []
  | a :: r, l, S => ∃ b l' S1 S2, l = b :: l' ∧ S = S1 ++ S2 ∧ R a b S1 ∧ Fs R r l' S2
section
variable {α β : Type} {R R' : α → β → List Addr → Prop}
theorem Fs.at : ∀ {as : List α} {bs : List β} {S : List Addr} {n : Nat} {a : α}, Fs R as bs S → as[n]? = some a →
    ∃ b L Sa Rr, bs[n]? = some b ∧ S = L ++ Sa ++ Rr ∧ R a b Sa ∧ ∀ (R' : α → β → List Addr → Prop) (a' : α) (Sa' : List Addr),
      (∀ c d Sc, (∀ x ∈ Sc, x ∈ L ++ Rr) → R c d Sc → R' c d Sc) → R' a' b Sa' → Fs R' (as.set n a') bs (L ++ Sa' ++ Rr)
  | [], _, _, _, _, _, e => by simp at e
  | a :: r, _, _, 0, _, ⟨b, l', S1, S2, e, eS, h, q⟩, z => by
    simp at z; subst z
    refine ⟨b, [], S1, S2, by simp [e], by simp [eS], h, fun R' a' Sa' k h' => ?_⟩
    have go : ∀ {r : List α} {l : List β} {S : List Addr}, (∀ x ∈ S, x ∈ S2) → Fs R r l S → Fs R' r l S := by
      intro r
      induction r with
      | nil => intro l S _ h; exact h
      | cons c r ih =>
        intro l S hS ⟨d, l', T1, T2, e1, e2, h1, h2⟩
        exact ⟨d, l', T1, T2, e1, e2, k c d T1 (fun x hx => by simpa using hS x (by rw [e2]; exact List.mem_append_left _ hx)) h1, ih (fun x hx => hS x (by rw [e2]; exact List.mem_append_right _ hx)) h2⟩
    exact ⟨b, l', Sa', S2, e, by simp, h', go (fun x hx => hx) q⟩
  | a :: r, _, _, n + 1, _, ⟨b, l', S1, S2, e, eS, h, q⟩, z => by
    obtain ⟨b', L, Sa, Rr, h1, h2, h3, h4⟩ := Fs.at q (by simpa using z)
    refine ⟨b', S1 ++ L, Sa, Rr, by simp [e, h1], by simp [eS, h2], h3, fun R' a' Sa' k h' => ?_⟩
    refine ⟨b, l', S1, L ++ Sa' ++ Rr, e, by simp, k a b S1 (fun x hx => by simp [hx]) h, h4 R' a' Sa' (fun c d Sc hS => k c d Sc fun x hx => ?_) h'⟩
    rcases List.mem_append.mp (hS x hx) with w | w <;> simp [w]
theorem Fs.append : ∀ {as as' : List α} {bs bs' : List β} {S S' : List Addr}, Fs R as bs S → Fs R as' bs' S' → Fs R (as ++ as') (bs ++ bs') (S ++ S')
  | [], _, _, _, _, _, h, k => by rw [h.1, h.2]; exact k
  | _ :: _, _, _, _, _, _, ⟨b, l', S1, S2, e, eS, h, q⟩, k => ⟨b, _, S1, _, by rw [e]; rfl, by rw [eS, List.append_assoc], h, Fs.append q k⟩
theorem Fs.one {a : α} {b : β} {S : List Addr} (h : R a b S) : Fs R [a] [b] S := ⟨b, [], S, [], rfl, by simp, h, rfl, rfl⟩
theorem Fs.imp : ∀ {as : List α} {bs : List β} {S : List Addr}, (∀ c d Sc, (∀ x ∈ Sc, x ∈ S) → R c d Sc → R' c d Sc) → Fs R as bs S → Fs R' as bs S
  | [], _, _, _, h => h
  | _ :: _, _, _, k, ⟨b, l', S1, S2, e, eS, h, q⟩ => ⟨b, l', S1, S2, e, eS, k _ _ _ (fun x hx => by rw [eS]; exact List.mem_append_left _ hx) h, Fs.imp (fun c d Sc hS => k c d Sc fun x hx => by rw [eS]; exact List.mem_append_right _ (hS x hx)) q⟩
theorem Fs.length : ∀ {as : List α} {bs : List β} {S : List Addr}, Fs R as bs S → as.length = bs.length
  | [], _, _, h => by rw [h.1]; rfl
  | _ :: _, _, _, ⟨b, l', S1, S2, e, eS, h, q⟩ => by rw [e, List.length_cons, List.length_cons, Fs.length q]
theorem Fs.erase : ∀ {as : List α} {bs : List β} {S : List Addr} {n : Nat} {a : α}, Fs R as bs S → as[n]? = some a →
    ∃ b L Sa Rr, bs[n]? = some b ∧ S = L ++ Sa ++ Rr ∧ R a b Sa ∧ Fs R (as.eraseIdx n) (bs.eraseIdx n) (L ++ Rr)
  | [], _, _, _, _, _, e => by simp at e
  | a :: r, _, _, 0, _, ⟨b, l', S1, S2, e, eS, h, q⟩, z => by
    simp at z; subst z
    exact ⟨b, [], S1, S2, by simp [e], by simp [eS], h, by simpa [e] using q⟩
  | a :: r, _, _, n + 1, _, ⟨b, l', S1, S2, e, eS, h, q⟩, z => by
    obtain ⟨b', L, Sa, Rr, h1, h2, h3, h4⟩ := Fs.erase q (by simpa using z)
    exact ⟨b', S1 ++ L, Sa, Rr, by simp [e, h1], by simp [eS, h2], h3, by rw [e]; exact ⟨b, _, S1, _, rfl, by simp, h, h4⟩⟩
end
theorem TRs_iff {K : Kf} {F H : Hp} : ∀ {ts : List T} {vs : List V} {S : List Addr}, TRs K F H ts vs S ↔ Fs (TR K F H) ts vs S
  | [], _, _ => Iff.rfl
  | _ :: _, _, _ => ⟨fun ⟨v, l, S1, S2, e, eS, r, h⟩ => ⟨v, l, S1, S2, e, eS, r, TRs_iff.mp h⟩, fun ⟨v, l, S1, S2, e, eS, r, h⟩ => ⟨v, l, S1, S2, e, eS, r, TRs_iff.mpr h⟩⟩
abbrev TRp {κ : Type} (K : Kf) (F H : Hp) : κ × T → κ × V → List Addr → Prop := fun p q S => q.1 = p.1 ∧ TR K F H p.2 q.2 S
theorem TRk_iff {K : Kf} {F H : Hp} : ∀ {ts : List (Key × T)} {vs : List (Key × V)} {S : List Addr}, TRk K F H ts vs S ↔ Fs (TRp K F H) ts vs S
  | [], _, _ => Iff.rfl
  | (_, _) :: _, _, _ => ⟨fun ⟨v, l, S1, S2, e, eS, r, h⟩ => ⟨v, l, S1, S2, e, eS, r, TRk_iff.mp h⟩, fun ⟨v, l, S1, S2, e, eS, r, h⟩ => ⟨v, l, S1, S2, e, eS, r, TRk_iff.mpr h⟩⟩
theorem TRf_iff {K : Kf} {F H : Hp} : ∀ {ts : List (Str × T)} {vs : List (Str × V)} {S : List Addr}, TRf K F H ts vs S ↔ Fs (TRp K F H) ts vs S
  | [], _, _ => Iff.rfl
  | (_, _) :: _, _, _ => ⟨fun ⟨v, l, S1, S2, e, eS, r, h⟩ => ⟨v, l, S1, S2, e, eS, r, TRf_iff.mp h⟩, fun ⟨v, l, S1, S2, e, eS, r, h⟩ => ⟨v, l, S1, S2, e, eS, r, TRf_iff.mpr h⟩⟩
theorem Fs.keys {κ : Type} {K : Kf} {F H : Hp} : ∀ {ts : List (κ × T)} {vs : List (κ × V)} {S : List Addr}, Fs (TRp K F H) ts vs S → vs.map (·.1) = ts.map (·.1)
  | [], _, _, h => by rw [h.1]; rfl
  | _ :: _, _, _, ⟨v, l, S1, S2, e, eS, r, h⟩ => by rw [e, List.map_cons, List.map_cons, Fs.keys h, r.1]
inductive PEl where
  | fld (f : Str) | key (k : Key) | idx (n : Nat)
def T.get : List PEl → T → Option T
  | [], t => some t
  | .fld f :: p, .ins _ fs => (lk fs f).bind (T.get p)
  | .key k :: p, .dct ks => (lk ks k).bind (T.get p)
  | .idx n :: p, .lst ts => (ts[n]?).bind (T.get p)
  | _ :: _, _ => none
def T.put : List PEl → T → T → Option T
  | [], _, u => some u
  | .fld f :: p, .ins C fs, u => (lk fs f).bind fun t => (T.put p t u).map fun t' => .ins C (rk fs f t')
  | .key k :: p, .dct ks, u => (lk ks k).bind fun t => (T.put p t u).map fun t' => .dct (rk ks k t')
  | .idx n :: p, .lst ts, u => (ts[n]?).bind fun t => (T.put p t u).map fun t' => .lst (ts.set n t')
  | _ :: _, _, _ => none
def Wk (H : Hp) : List PEl → V → V → Prop
  | [], v, x => x = v
  | .fld f :: p, v, x => ∃ a C dx fs z, v = .ref a ∧ H a = some (.ins C dx fs) ∧ lk fs f = some z ∧ Wk H p z x
  | .key k :: p, v, x => ∃ a kvs z, v = .ref a ∧ Rd H a (.dK kvs) ∧ lk kvs k = some z ∧ Wk H p z x
  | .idx n :: p, v, x => ∃ a vs z, v = .ref a ∧ Rd H a (.lst vs) ∧ vs[n]? = some z ∧ Wk H p z x
theorem Wk.monoV {F H : Hp} (h : SubV F H) : ∀ {p : List PEl} {v x : V}, Wk F p v x → Wk H p v x
  | [], _, _, e => e
  | .fld _ :: _, _, _, ⟨a, C, dx, fs, z, e, q, l, w⟩ => ⟨a, C, dx, fs, z, e, h.is _ _ _ _ q, l, Wk.monoV h w⟩
  | .key _ :: _, _, _, ⟨a, fs, z, e, q, l, w⟩ => ⟨a, fs, z, e, h.rd _ _ q, l, Wk.monoV h w⟩
  | .idx _ :: _, _, _, ⟨a, fs, z, e, q, l, w⟩ => ⟨a, fs, z, e, h.rd _ _ q, l, Wk.monoV h w⟩
theorem Wk.mono {F H : Hp} (h : SubR F H) {p : List PEl} {v x : V} (w : Wk F p v x) : Wk H p v x := w.monoV h.v
theorem Rd.dK_inj {H : Hp} {a : Addr} {x y : List (Key × V)} (h : Rd H a (.dK x)) (k : Rd H a (.dK y)) : x = y := by
  rcases h with h | ⟨o, h⟩ <;> rcases k with k | ⟨o', k⟩ <;> rw [h] at k <;> cases k <;> rfl
theorem Rd.lst_inj {H : Hp} {a : Addr} {x y : List V} (h : Rd H a (.lst x)) (k : Rd H a (.lst y)) : x = y := by
  rcases h with h | ⟨o, h⟩ <;> rcases k with k | ⟨o', k⟩ <;> rw [h] at k <;> cases k <;> rfl
theorem Wk.det {H : Hp} : ∀ {p : List PEl} {v x y : V}, Wk H p v x → Wk H p v y → x = y
  | [], _, _, _, e, e' => e.trans e'.symm
  | .fld _ :: _, _, _, _, ⟨a, C, dx, fs, z, e, q, l, w⟩, ⟨a', C', dx', fs', z', e', q', l', w'⟩ => by
    rw [e] at e'; cases e'; rw [q] at q'; cases q'; rw [l] at l'; cases l'; exact Wk.det w w'
  | .key _ :: _, _, _, _, ⟨a, fs, z, e, q, l, w⟩, ⟨a', fs', z', e', q', l', w'⟩ => by
    rw [e] at e'; cases e'; cases Rd.dK_inj q q'; rw [l] at l'; cases l'; exact Wk.det w w'
  | .idx _ :: _, _, _, _, ⟨a, fs, z, e, q, l, w⟩, ⟨a', fs', z', e', q', l', w'⟩ => by
    rw [e] at e'; cases e'; cases Rd.lst_inj q q'; rw [l] at l'; cases l'; exact Wk.det w w'
theorem TR.path {K : Kf} {F H : Hp} : ∀ {p : List PEl} {t : T} {v : V} {S : List Addr} {u : T}, TR K F H t v S → T.get p t = some u →
    ∃ x L Su Rr, S = L ++ Su ++ Rr ∧ Wk H p v x ∧ TR K F H u x Su ∧ ∀ (F' H' : Hp) (u' : T) (Su' : List Addr) (t' : T), SubR F F' → (∀ a ∈ L ++ Rr, ∀ o, H a = some o → H' a = some o) →
      TR K F' H' u' x Su' → T.put p t u' = some t' → TR K F' H' t' v (L ++ Su' ++ Rr)
  | [], t, v, S, u, h, e => by
    cases e
    exact ⟨v, [], S, [], by simp, rfl, h, fun F' H' u' Su' t' _ _ h' e => by cases e; simpa using h'⟩
  | .fld f :: p, .ins C fs, v, S, u, ⟨a, dx, vs, S', e, q, eS, r⟩, g => by
    obtain ⟨t1, l1, g⟩ := Option.bind_eq_some_iff.mp g
    obtain ⟨n, n1, n2, n3⟩ := lk_ix l1
    have r' := TRf_iff.mp r
    obtain ⟨⟨f', x1⟩, L, S1, R1, b1, b2, ⟨b3, b4⟩, b5⟩ := Fs.at r' n1
    cases b3
    obtain ⟨x, L2, Su, R2, c1, c2, c3, c4⟩ := TR.path b4 g
    refine ⟨x, a :: L ++ L2, Su, R2 ++ R1, by simp [eS, b2, c1], ⟨a, C, dx, vs, x1, e, q, n3 V vs x1 (by rw [Fs.keys r']) b1, c2⟩, c3, fun F' H' u' Su' t' hF hH hu hp => ?_⟩
    unfold T.put at hp
    rw [l1, Option.bind_some] at hp
    obtain ⟨t2, hp2, rfl⟩ := Option.map_eq_some_iff.mp hp
    have h2 := c4 F' H' u' Su' t2 hF (fun b hb => hH b (by rcases List.mem_append.mp hb with z | z <;> simp [z])) hu hp2
    refine ⟨a, dx, vs, L ++ (L2 ++ Su' ++ R2) ++ R1, e, hH a (by simp) _ q, by simp, TRf_iff.mpr ?_⟩
    rw [n2]
    exact b5 _ _ _ (fun c d Sc hS hc => ⟨hc.1, hc.2.mono hF fun b hb => hH b (by rcases List.mem_append.mp (hS b hb) with z | z <;> simp [z])⟩) ⟨rfl, h2⟩
  | .key k :: p, .dct ks, v, S, u, ⟨a, vs, S', e, q, eS, r, nd⟩, g => by
    obtain ⟨t1, l1, g⟩ := Option.bind_eq_some_iff.mp g
    obtain ⟨n, n1, n2, n3⟩ := lk_ix l1
    have r' := TRk_iff.mp r
    obtain ⟨⟨f', x1⟩, L, S1, R1, b1, b2, ⟨b3, b4⟩, b5⟩ := Fs.at r' n1
    cases b3
    obtain ⟨x, L2, Su, R2, c1, c2, c3, c4⟩ := TR.path b4 g
    refine ⟨x, a :: L ++ L2, Su, R2 ++ R1, by simp [eS, b2, c1], ⟨a, vs, x1, e, .inl q, n3 V vs x1 (by rw [Fs.keys r']) b1, c2⟩, c3, fun F' H' u' Su' t' hF hH hu hp => ?_⟩
    unfold T.put at hp
    rw [l1, Option.bind_some] at hp
    obtain ⟨t2, hp2, rfl⟩ := Option.map_eq_some_iff.mp hp
    have h2 := c4 F' H' u' Su' t2 hF (fun b hb => hH b (by rcases List.mem_append.mp hb with z | z <;> simp [z])) hu hp2
    refine ⟨a, vs, L ++ (L2 ++ Su' ++ R2) ++ R1, e, hH a (by simp) _ q, by simp, TRk_iff.mpr ?_, by rw [rk_keys]; exact nd⟩
    rw [n2]
    exact b5 _ _ _ (fun c d Sc hS hc => ⟨hc.1, hc.2.mono hF fun b hb => hH b (by rcases List.mem_append.mp (hS b hb) with z | z <;> simp [z])⟩) ⟨rfl, h2⟩
  | .idx n :: p, .lst ts, v, S, u, ⟨a, vs, S', e, q, eS, r⟩, g => by
    obtain ⟨t1, l1, g⟩ := Option.bind_eq_some_iff.mp g
    have r' := TRs_iff.mp r
    obtain ⟨x1, L, S1, R1, b1, b2, b4, b5⟩ := Fs.at r' l1
    obtain ⟨x, L2, Su, R2, c1, c2, c3, c4⟩ := TR.path b4 g
    refine ⟨x, a :: L ++ L2, Su, R2 ++ R1, by simp [eS, b2, c1], ⟨a, vs, x1, e, .inl q, b1, c2⟩, c3, fun F' H' u' Su' t' hF hH hu hp => ?_⟩
    unfold T.put at hp
    rw [l1, Option.bind_some] at hp
    obtain ⟨t2, hp2, rfl⟩ := Option.map_eq_some_iff.mp hp
    have h2 := c4 F' H' u' Su' t2 hF (fun b hb => hH b (by rcases List.mem_append.mp hb with z | z <;> simp [z])) hu hp2
    refine ⟨a, vs, L ++ (L2 ++ Su' ++ R2) ++ R1, e, hH a (by simp) _ q, by simp, TRs_iff.mpr ?_⟩
    exact b5 _ _ _ (fun c d Sc hS hc => hc.mono hF fun b hb => hH b (by rcases List.mem_append.mp (hS b hb) with z | z <;> simp [z])) h2
  | .fld _ :: _, .sh _, _, _, _, _, g => by cases g
  | .fld _ :: _, .lst _, _, _, _, _, g => by cases g
  | .fld _ :: _, .dct _, _, _, _, _, g => by cases g
  | .key _ :: _, .sh _, _, _, _, _, g => by cases g
  | .key _ :: _, .lst _, _, _, _, _, g => by cases g
  | .key _ :: _, .ins _ _, _, _, _, _, g => by cases g
  | .idx _ :: _, .sh _, _, _, _, _, g => by cases g
  | .idx _ :: _, .ins _ _, _, _, _, _, g => by cases g
  | .idx _ :: _, .dct _, _, _, _, _, g => by cases g
theorem VR.path {K : Kf} {G F : Hp} : ∀ {p : List PEl} {t : T} {v : V} {u : T}, VR K G F t v → T.get p t = some u → ∃ x, Wk G p v x ∧ VR K G F u x
  | [], t, v, u, h, e => by cases e; exact ⟨v, rfl, h⟩
  | .fld f :: p, .ins C fs, v, u, ⟨a, dx, vs, e, q, r⟩, g => by
    obtain ⟨t1, l1, g⟩ := Option.bind_eq_some_iff.mp g
    rcases All2.lk f (VRf_iff.mp r) with ⟨z, _⟩ | ⟨t2, v2, h1, h2, h3⟩
    · rw [z] at l1; cases l1
    · rw [h1] at l1; cases l1
      obtain ⟨x, w, h⟩ := VR.path h3 g
      exact ⟨x, ⟨a, C, dx, vs, v2, e, q, h2, w⟩, h⟩
  | .key f :: p, .dct fs, v, u, ⟨a, vs, e, q, r⟩, g => by
    obtain ⟨t1, l1, g⟩ := Option.bind_eq_some_iff.mp g
    rcases All2.lk f (VRk_iff.mp r) with ⟨z, _⟩ | ⟨t2, v2, h1, h2, h3⟩
    · rw [z] at l1; cases l1
    · rw [h1] at l1; cases l1
      obtain ⟨x, w, h⟩ := VR.path h3 g
      exact ⟨x, ⟨a, vs, v2, e, q, h2, w⟩, h⟩
  | .idx n :: p, .lst ts, v, u, ⟨a, vs, e, q, r⟩, g => by
    obtain ⟨t1, l1, g⟩ := Option.bind_eq_some_iff.mp g
    obtain ⟨v2, h2, h3⟩ := (VRs_iff.mp r).get l1
    obtain ⟨x, w, h⟩ := VR.path h3 g
    exact ⟨x, ⟨a, vs, v2, e, .inl q, h2, w⟩, h⟩
  | .fld _ :: _, .sh _, _, _, _, g => by cases g
  | .fld _ :: _, .lst _, _, _, _, g => by cases g
  | .fld _ :: _, .dct _, _, _, _, g => by cases g
  | .key _ :: _, .sh _, _, _, _, g => by cases g
  | .key _ :: _, .lst _, _, _, _, g => by cases g
  | .key _ :: _, .ins _ _, _, _, _, g => by cases g
  | .idx _ :: _, .sh _, _, _, _, g => by cases g
  | .idx _ :: _, .ins _ _, _, _, _, g => by cases g
  | .idx _ :: _, .dct _, _, _, _, g => by cases g
end DL
namespace DL
open PySem PySem.Spec PyProof.Rows L2
inductive Slot where
  | un | va (t : T) | mu (t : T) | vw (t : T)
abbrev Env := List Slot
def Slot.con : Slot → Option T
  | .un => none
  | .va t => some t
  | .mu t => some t
  | .vw t => some t
def Slot.own : Slot → Option T
  | .va t => some t
  | .mu t => some t
  | _ => none
def Slot.wth : Slot → T → Slot
  | .mu _, t => .mu t
  | _, t => .va t
def SR (K : Kf) (F H : Hp) : Slot → Option V → List Addr → Prop
  | .un, _, S => S = []
  | .va t, o, S => ∃ v, o = some v ∧ TR K F H t v S
  | .mu t, o, S => ∃ v, o = some v ∧ TR K F H t v S
  | .vw _, _, S => S = []
theorem SR.own {K : Kf} {F H : Hp} {s : Slot} {o : Option V} {S : List Addr} {t : T} (h : SR K F H s o S) (e : s.own = some t) : ∃ v, o = some v ∧ TR K F H t v S := by
  cases s with
  | un => cases e
  | va t => cases e; exact h
  | mu t => cases e; exact h
  | vw t => cases e
theorem SR.wth {K : Kf} {F H : Hp} {s : Slot} {v : V} {S : List Addr} {t : T} (h : TR K F H t v S) : SR K F H (s.wth t) (some v) S := by
  cases s <;> exact ⟨v, rfl, h⟩
theorem SR.mono {K : Kf} {F F' H H' : Hp} (f : SubR F F') {s : Slot} {o : Option V} {S : List Addr} (hS : ∀ a ∈ S, ∀ o, H a = some o → H' a = some o) (h : SR K F H s o S) : SR K F' H' s o S := by
  cases s with
  | un => exact h
  | va t => obtain ⟨v, e, h⟩ := h; exact ⟨v, e, h.mono f hS⟩
  | mu t => obtain ⟨v, e, h⟩ := h; exact ⟨v, e, h.mono f hS⟩
  | vw t => exact h
theorem SR.has {K : Kf} {F H : Hp} {s : Slot} {o : Option V} {S : List Addr} (h : SR K F H s o S) : ∀ a ∈ S, ∃ o, H a = some o ∧ Mut (some o) := by
  cases s with
  | un => intro a ha; rw [show S = [] from h] at ha; cases ha
  | va t => obtain ⟨v, e, h⟩ := h; exact h.has
  | mu t => obtain ⟨v, e, h⟩ := h; exact h.has
  | vw t => intro a ha; rw [show S = [] from h] at ha; cases ha
theorem Fs.has {K : Kf} {F H : Hp} : ∀ {ss : List Slot} {os : List (Option V)} {S : List Addr}, Fs (SR K F H) ss os S → ∀ a ∈ S, ∃ o, H a = some o ∧ Mut (some o)
  | [], _, _, h, a, ha => by rw [h.2] at ha; cases ha
  | _ :: _, _, _, ⟨b, l', S1, S2, e, eS, h, q⟩, a, ha => by
    rw [eS] at ha
    exact (List.mem_append.mp ha).elim (h.has a) (Fs.has q a)
theorem SR.hasO {K : Kf} {F H : Hp} {s : Slot} {o : Option V} {S : List Addr} (h : SR K F H s o S) : ∀ a ∈ S, ∃ o, H a = some o ∧ OwnO o := by
  cases s with
  | un => intro a ha; rw [show S = [] from h] at ha; cases ha
  | va t => obtain ⟨v, e, h⟩ := h; exact h.hasO
  | mu t => obtain ⟨v, e, h⟩ := h; exact h.hasO
  | vw t => intro a ha; rw [show S = [] from h] at ha; cases ha
theorem Fs.hasO {K : Kf} {F H : Hp} : ∀ {ss : List Slot} {os : List (Option V)} {S : List Addr}, Fs (SR K F H) ss os S → ∀ a ∈ S, ∃ o, H a = some o ∧ OwnO o
  | [], _, _, h, a, ha => by rw [h.2] at ha; cases ha
  | _ :: _, _, _, ⟨b, l', S1, S2, e, eS, h, q⟩, a, ha => by
    rw [eS] at ha
    exact (List.mem_append.mp ha).elim (h.hasO a) (Fs.hasO q a)
theorem Fs.split {α β : Type} {R : α → β → List Addr → Prop} : ∀ {as as' : List α} {bs bs' : List β} {S : List Addr}, as.length = bs.length → Fs R (as ++ as') (bs ++ bs') S → ∃ S1 S2, S = S1 ++ S2 ∧ Fs R as bs S1 ∧ Fs R as' bs' S2
  | [], _, [], _, S, _, h => ⟨[], S, rfl, ⟨rfl, rfl⟩, h⟩
  | [], _, _ :: _, _, _, e, _ => by cases e
  | _ :: _, _, [], _, _, e, _ => by cases e
  | a :: as, as', b :: bs, bs', S, e, ⟨b1, l', S1, S2, e1, e2, h, q⟩ => by
    cases e1
    obtain ⟨T1, T2, h1, h2, h3⟩ := Fs.split (by simpa using e) q
    exact ⟨S1 ++ T1, T2, by rw [e2, h1, List.append_assoc], ⟨b, bs, S1, T1, rfl, rfl, h, h2⟩, h3⟩
theorem Fs.store {α β : Type} {R : α → β → List Addr → Prop} : ∀ {as : List α} {bs : List β} {S : List Addr} {n : Nat} {a' : α} {b' : β} {S1 : List Addr}, Fs R as bs S → n < as.length → R a' b' S1 →
    ∃ L Sa Rr, S = L ++ Sa ++ Rr ∧ Fs R (as.set n a') (bs.set n b') (L ++ S1 ++ Rr)
  | [], _, _, _, _, _, _, _, h, _ => by simp at h
  | _ :: _, _, _, 0, a', b', S1, ⟨b, l', T1, T2, e, eS, h, q⟩, _, h' => ⟨[], T1, T2, by simp [eS], b', l', S1, T2, by simp [e], by simp, h', q⟩
  | _ :: _, _, _, n + 1, a', b', S1, ⟨b, l', T1, T2, e, eS, h, q⟩, hn, h' => by
    obtain ⟨L, Sa, Rr, h1, h2⟩ := Fs.store q (by simpa using hn) h'
    exact ⟨T1 ++ L, Sa, Rr, by simp [eS, h1], b, l'.set n b', T1, L ++ S1 ++ Rr, by simp [e], by simp, h, h2⟩
structure Gr (B F F' : Hp) : Prop where
  same : Same F F'
  new : ∀ a, F a = none → F' a ≠ none → B a = none
theorem Gr.refl (B F : Hp) : Gr B F F := ⟨Same.refl F, fun a h k => absurd h k⟩
theorem Gr.trans {B F G H : Hp} (a : Gr B F G) (b : Gr B G H) : Gr B F H := ⟨a.same.trans b.same, fun x h k => by
  by_cases z : G x = none
  · exact b.new x z k
  · exact a.new x h z⟩
theorem Gr.anti {B B' F F' : Hp} (h : Gr B' F F') (s : Same B B') : Gr B F F' := ⟨h.same, fun a e k => s.free (h.new a e k)⟩
theorem Gr.sub {B F F' : Hp} (h : Gr B F F') : SubR F F' := SubR.of h.same
def lamNames : List Str := ["law", "_law_prices_right", "_law_twice_refused", "_law_calls_right", "_law_bounds_right", "_law_all_refused"]
def lamO (o : Obj) : Bool := match o with
  | ⟨_, _, .func fd, _⟩ => lamNames.contains fd.name && (fd.scope.names.any fun y => decide (y.2 = .cell)) && fd.scope.names.any fun y => decide (y.1 = "_law_word") || decide (y.1 = "_law_refused")
  | _ => false
def lamT (K : Kf) (g : Addr) : Option (Addr × Addr × Str) := match K.lookup g with
  | some o => match lamO o, o.data with
    | true, .func fd => match fd.code with
      | .ref c => match K.lookup c with
        | some ⟨_, _, .fields vs, _⟩ => match vs.getD 11 .none with
          | .ref P => some (c, P, fd.qualname ++ ".<locals>.<lambda>")
          | _ => none
        | _ => none
      | _ => none
    | _, _ => none
  | none => none
def TabsK (K : Kf) (H : Hp) : Prop := ∀ g c P q, lamT K g = some (c, P, q) → LamX.TabS H P q
theorem TabsK.same {K : Kf} {H H' : Hp} (t : TabsK K H) (s : Same H H') : TabsK K H' := fun g c P q e => (t g c P q e).ext s
theorem TabsK.off {K : Kf} {H H' : Hp} {Z : List Addr} (t : TabsK K H) (hm : ∀ a ∈ Z, ∃ o, H a = some o ∧ OwnO o) (k : ∀ a, a ∉ Z → ∀ o, H a = some o → H' a = some o) : TabsK K H' := fun g c P q e => by
  obtain ⟨ps, e1, e2, e3⟩ := t g c P q e
  have nZ : ∀ a o, H a = some o → ¬ OwnO o → a ∉ Z := fun a o e w z => by
    obtain ⟨o', ho, w'⟩ := hm a z
    rw [e] at ho; cases ho
    exact w w'
  refine ⟨ps, k P (nZ P _ e1 (fun w => w)) _ e1, e2, fun pos cv hc => ?_⟩
  obtain ⟨c', e4, e5⟩ := e3 pos cv hc
  exact ⟨c', e4, k c' (nZ c' _ e5 (fun w => w)) _ e5⟩
structure Bs (K : Kf) (B H : Hp) : Prop where
  ex : ∀ a o, B a = some o → (∀ ps, o ≠ .tbl ps) → H a = some o
  tb : TabsK K B → TabsK K H
  tt : ∀ a ps, B a = some (.tbl ps) → ∃ ps', H a = some (.tbl ps')
  ne : ∀ a, H a = none → B a = none
section
variable {K : Kf}
theorem Bs.at {B H : Hp} (h : Bs K B H) {a : Addr} {o : HO} (e : B a = some o) (n : ∀ ps, o ≠ .tbl ps := by intro _ z; cases z) : H a = some o := h.ex a o e n
theorem Bs.of {B H : Hp} (s : Same B H) : Bs K B H := ⟨fun a o e _ => s a o e, fun t => t.same s, fun a ps e => ⟨ps, s a _ e⟩, fun _ e => s.free e⟩
theorem Bs.refl (B : Hp) : Bs K B B := .of (Same.refl B)
theorem Bs.step {B G H : Hp} (a : Bs K B G) (b : Bs K G H) : Bs K B H := ⟨fun c o e n => b.ex c o (a.ex c o e n) n, fun t => b.tb (a.tb t), fun c ps e => let ⟨ps', e'⟩ := a.tt c ps e; b.tt c ps' e', fun c e => a.ne c (b.ne c e)⟩
theorem Bs.pre {B G H : Hp} (a : Same B G) (b : Bs K G H) : Bs K B H := (Bs.of a).step b
theorem Gr.antiB {B B' F F' : Hp} (h : Gr B' F F') (s : Bs K B B') : Gr B F F' := ⟨h.same, fun a e k => s.ne a (h.new a e k)⟩
theorem Bs.v {B H : Hp} (h : Bs K B H) : SubV B H := ⟨fun a o e n => .inl (h.ex a o e n)⟩
theorem Bs.kept {B H H' : Hp} {Z : List Addr} (h : Bs K B H) (hB : ∀ a ∈ Z, B a = none) (hm : ∀ a ∈ Z, ∃ o, H a = some o ∧ OwnO o) (k : ∀ a, a ∉ Z → ∀ o, H a = some o → H' a = some o) : Bs K B H' := by
  refine ⟨fun a o e n => k a (fun z => by rw [hB a z] at e; cases e) o (h.ex a o e n), fun t => (h.tb t).off hm k, fun a ps e => ?_, fun a e => ?_⟩
  · obtain ⟨ps', e'⟩ := h.tt a ps e
    exact ⟨ps', k a (fun z => by rw [hB a z] at e; cases e) _ e'⟩
  · by_cases z : a ∈ Z
    · exact hB a z
    · refine h.ne a ?_
      cases w : H a with
      | none => rfl
      | some o => rw [k a z o w] at e; cases e
theorem Bs.eq {B H : Hp} (h : Bs K B H) {a : Addr} {o u : HO} (e : B a = some o) (w : H a = some u) (n : ∀ ps, u ≠ .tbl ps := by intro _ z; cases z) : o = u := by
  have m : ∀ ps, o ≠ .tbl ps := fun ps z => by
    subst z
    obtain ⟨ps', e'⟩ := h.tt a ps e
    rw [w] at e'
    exact n ps' (Option.some.inj e')
  have := h.ex a o e m
  rw [w] at this
  exact (Option.some.inj this).symm
theorem Bs.upd2 {B H Hl : Hp} {d : Addr} {u : HO} (h : Bs K B H) (hoff : ∀ b, b ≠ d → Hl b = H b) (hl : Hl d = some u) (hu : ∀ ps, u ≠ .tbl ps) (hu2 : ∀ q, u ≠ LamX.CodeO d q) (hd2 : ∀ q, H d ≠ some (LamX.CodeO d q)) : Bs K (upd B d u) Hl := by
  refine ⟨fun a o e n => ?_, fun T => ?_, fun a ps e => ?_, fun a e => ?_⟩
  · by_cases ha : a = d
    · subst ha; rw [upd_same] at e; cases e; exact hl
    · rw [upd_ne ha] at e; rw [hoff a ha]; exact h.ex a o e n
  · have T0 : ∀ g c P q, lamT K g = some (c, P, q) → P ≠ d ∧ LamX.TabS B P q := fun g c P q e => by
      obtain ⟨ps, e1, e2, e3⟩ := T g c P q e
      have hP : P ≠ d := fun z => by subst z; rw [upd_same] at e1; exact hu ps (Option.some.inj e1)
      rw [upd_ne hP] at e1
      refine ⟨hP, ps, e1, e2, fun pos cv hc => ?_⟩
      obtain ⟨c, e4, e5⟩ := e3 pos cv hc
      have hcd : c ≠ d := fun z => by subst z; rw [upd_same] at e5; exact hu2 q (Option.some.inj e5)
      exact ⟨c, e4, by rw [upd_ne hcd] at e5; exact e5⟩
    intro g c P q e
    have hP := (T0 g c P q e).1
    obtain ⟨ps', f1, f2, f3⟩ := h.tb (fun g c P q e => (T0 g c P q e).2) g c P q e
    refine ⟨ps', by rw [hoff P hP]; exact f1, f2, fun pos cv hc => ?_⟩
    obtain ⟨c, e4, e5⟩ := f3 pos cv hc
    have hcd : c ≠ d := fun z => by subst z; exact hd2 q e5
    exact ⟨c, e4, by rw [hoff c hcd]; exact e5⟩
  · have ha : a ≠ d := fun z => by subst z; rw [upd_same] at e; exact hu ps (Option.some.inj e)
    rw [upd_ne ha] at e
    rw [hoff a ha]
    exact h.tt a ps e
  · have ha : a ≠ d := fun z => by subst z; rw [hl] at e; cases e
    rw [hoff a ha] at e
    rw [upd_ne ha]
    exact h.ne a e
abbrev Bz (K : Kf) (Z : List Addr) (H H' : Hp) : Prop := Bs K (fun a => if a ∈ Z then none else H a) H'
theorem Bz.of {Z : List Addr} {H H' : Hp} (k : ∀ a, a ∉ Z → ∀ o, H a = some o → H' a = some o) : Bz K Z H H' := Bs.of fun a o e => by
  by_cases z : a ∈ Z
  · rw [if_pos z] at e; cases e
  · rw [if_neg z] at e; exact k a z o e
theorem Bz.ex {Z : List Addr} {H H' : Hp} (k : Bz K Z H H') {a : Addr} (z : a ∉ Z) {o : HO} (e : H a = some o) (n : ∀ ps, o ≠ .tbl ps) : H' a = some o := Bs.ex k a o (by rw [if_neg z]; exact e) n
theorem TabsK.z {H H' : Hp} {Z : List Addr} (t : TabsK K H) (hm : ∀ a ∈ Z, ∃ o, H a = some o ∧ OwnO o) (k : Bz K Z H H') : TabsK K H' := k.tb (t.off hm fun a z o e => by rw [if_neg z]; exact e)
theorem Bs.keptB {B H H' : Hp} {Z : List Addr} (h : Bs K B H) (hB : ∀ a ∈ Z, B a = none) (hm : ∀ a ∈ Z, ∃ o, H a = some o ∧ OwnO o) (k : Bz K Z H H') : Bs K B H' := by
  refine ⟨fun a o e n => k.ex (fun z => by rw [hB a z] at e; cases e) (h.ex a o e n) n, fun t => (h.tb t).z hm k, fun a ps e => ?_, fun a e => ?_⟩
  · obtain ⟨ps', e'⟩ := h.tt a ps e
    exact k.tt a ps' (by
      show (if a ∈ Z then none else H a) = _
      rw [if_neg (fun z => by rw [hB a z] at e; cases e)]; exact e')
  · by_cases z : a ∈ Z
    · exact hB a z
    · have := k.ne a e
      rw [if_neg z] at this
      exact h.ne a this
def fz (a : Addr) : HO → Prop
  | .lst _ | .tup _ | .dK _ | .ins _ _ _ | .xd _ => True
  | .ext φ => ∀ h, φ h → ∃ o, h.get? a = some o ∧ ∀ v, o.data ≠ .cell v
  | .frz _ (.lst _) => True
  | _ => False
theorem fz.nt {a : Addr} {o : HO} (h : fz a o) : ∀ ps, o ≠ .tbl ps := fun ps e => by rw [e] at h; exact h
theorem exR_fz {a C : Addr} {od : Option Addr} : fz a (exR a C od) := fun h ⟨oe, vs, e, _, d⟩ => ⟨oe, e, fun v z => by rw [d] at z; cases z⟩
theorem OwnO.fz {a : Addr} {o : HO} (h : OwnO o) : DL.fz a o := by cases o <;> first | exact h.elim | exact trivial
theorem OwnO.nt {o : HO} (h : OwnO o) : ∀ ps, o ≠ .tbl ps := fun ps e => by rw [e] at h; exact h
theorem Bs.ovl {B H : Hp} {S : List Addr} (h : Bs K B H) (hm : ∀ a ∈ S, ∃ o, H a = some o ∧ OwnO o) : Bs K (fun a => if a ∈ S then H a else B a) H := by
  refine ⟨fun a o e n => ?_, fun T => h.tb (T.off (Z := S) (fun a z => ?_) fun a z o e => ?_), fun a ps e => ?_, fun a e => ?_⟩
  · by_cases hm : a ∈ S
    · simpa [hm] using e
    · exact h.ex a o (by simpa [hm] using e) n
  · obtain ⟨o, e, w⟩ := hm a z
    exact ⟨o, by simpa [z] using e, w⟩
  · simpa [z] using e
  · by_cases hm : a ∈ S
    · exact ⟨ps, by simpa [hm] using e⟩
    · exact h.tt a ps (by simpa [hm] using e)
  · by_cases hm : a ∈ S
    · simpa [hm] using e
    · simpa [hm] using h.ne a e
class Lf : Type where
  on : Prop
instance (priority := low) Lf.dflt : Lf := ⟨True⟩
@[reducible] def Lf.off : Lf := ⟨False⟩
end
section
variable {K : Kf} [Lf]
structure BsK (K : Kf) (B H : Hp) : Prop extends Bs K B H where
  tk : Lf.on → TabsK K H
instance {B H : Hp} : CoeOut (BsK K B H) (Bs K B H) := ⟨BsK.toBs⟩
variable {B G H H' : Hp}
theorem BsK.step (a : BsK K B G) (b : Bs K G H) : BsK K B H := ⟨a.toBs.step b, fun l => b.tb (a.tk l)⟩
theorem BsK.trans (a : BsK K B G) (b : Same G H) : BsK K B H := a.step (.of b)
theorem BsK.pre (a : Same B G) (b : BsK K G H) : BsK K B H := ⟨Bs.pre a b.toBs, b.tk⟩
theorem BsK.fr (a : BsK K B H) : BsK K H H := ⟨Bs.refl H, a.tk⟩
theorem BsK.frs (a : BsK K B H) (s : Same H H') : BsK K H H' := ⟨.of s, fun l => (a.tk l).same s⟩
theorem BsK.keptB {Z : List Addr} (h : BsK K B H) (hB : ∀ a ∈ Z, B a = none) (hm : ∀ a ∈ Z, ∃ o, H a = some o ∧ OwnO o) (k : Bz K Z H H') : BsK K B H' := ⟨h.toBs.keptB hB hm k, fun l => (h.tk l).z hm k⟩
theorem BsK.ovl {S : List Addr} (h : BsK K B H) (hm : ∀ a ∈ S, ∃ o, H a = some o ∧ OwnO o) : BsK K (fun a => if a ∈ S then H a else B a) H := ⟨h.toBs.ovl hm, h.tk⟩
theorem BsK.upd2 {Hl : Hp} {d : Addr} {u : HO} (h : BsK K B H) (hoff : ∀ b, b ≠ d → Hl b = H b) (hl : Hl d = some u) (hu : ∀ ps, u ≠ .tbl ps) (hu2 : ∀ q, u ≠ LamX.CodeO d q) (hd2 : ∀ q, H d ≠ some (LamX.CodeO d q)) (hd3 : ∀ ps, H d ≠ some (.tbl ps)) : BsK K (upd B d u) Hl := by
  refine ⟨h.toBs.upd2 hoff hl hu hu2 hd2, fun l g c P q e => ?_⟩
  obtain ⟨ps, e1, e2, e3⟩ := h.tk l g c P q e
  refine ⟨ps, by rw [hoff P (fun z => by subst z; exact hd3 ps e1)]; exact e1, e2, fun pos cv hc => ?_⟩
  obtain ⟨c', e4, e5⟩ := e3 pos cv hc
  exact ⟨c', e4, by rw [hoff c' (fun z => by subst z; exact hd2 q e5)]; exact e5⟩
end
structure SubF (F H : Hp) : Prop extends SubR F H where
  nt : ∀ a o, F a = some o → fz a o
instance {F H : Hp} : Coe (SubF F H) (SubR F H) := ⟨SubF.toSubR⟩
theorem SubF.trans {F G H : Hp} (a : SubF F G) (b : SubR G H) : SubF F H := ⟨a.toSubR.trans b, a.nt⟩
theorem SubF.transB {K : Kf} {F G H : Hp} (a : SubF F G) (b : Bs K G H) : SubF F H := ⟨⟨fun c o h => by
  rcases a.sub c o h with z | ⟨od, kvs, e, z⟩
  · exact .inl (b.ex c o z (a.nt c o h).nt)
  · exact .inr ⟨od, kvs, e, b.at z⟩⟩, a.nt⟩
variable [Lf]
structure St (K : Kf) (B F H : Hp) (ss : List Slot) (os : List (Option V)) : Prop where
  sb : BsK K B H
  sf : SubF F H
  fp : ∃ S, Fs (SR K F H) ss os S ∧ S.Nodup ∧ ∀ a ∈ S, B a = none ∧ F a = none
section
variable {K : Kf} {B F H : Hp} {ss : List Slot} {os : List (Option V)}
theorem SubR.off {F H : Hp} (h : SubR F H) {a : Addr} (e : H a = none) : F a = none := by
  cases q : F a with
  | none => rfl
  | some o =>
    rcases h.sub a o q with z | ⟨_, _, _, z⟩ <;> rw [e] at z <;> cases z
theorem St.len (h : St K B F H ss os) : ss.length = os.length := let ⟨_, f, _⟩ := h.fp; f.length
theorem St.drop {s : Slot} {o : Option V} (h : St K B F H (s :: ss) (o :: os)) : St K B F H ss os := by
  obtain ⟨S, ⟨b, l', S1, S2, e, eS, h1, h2⟩, nd, k⟩ := h.fp
  cases e
  subst eS
  exact ⟨h.sb, h.sf, S2, h2, (List.nodup_append.mp nd).2.1, fun a ha => k a (List.mem_append_right _ ha)⟩
theorem St.dropn {qs : List Slot} {xs : List (Option V)} (hl : qs.length = xs.length) (h : St K B F H (qs ++ ss) (xs ++ os)) : St K B F H ss os := by
  obtain ⟨S, f, nd, k⟩ := h.fp
  obtain ⟨S1, S2, rfl, f1, f2⟩ := f.split hl
  exact ⟨h.sb, h.sf, S2, f2, (List.nodup_append.mp nd).2.1, fun a ha => k a (List.mem_append_right _ ha)⟩
theorem St.same {H' : Hp} (h : St K B F H ss os) (s : Same H H') : St K B F H' ss os := by
  obtain ⟨S, f, nd, k⟩ := h.fp
  exact ⟨h.sb.trans s, h.sf.trans (.of s), S, f.imp fun c d Sc _ z => z.mono (SubR.refl _) fun a _ o e => s a o e, nd, k⟩
theorem St.push {d : D} {v : V} (h : St K B F H ss os) (r : DR K F d v) : St K B F H (.va (.sh d) :: ss) (some v :: os) := by
  obtain ⟨S, f, nd, k⟩ := h.fp
  exact ⟨h.sb, h.sf, S, ⟨some v, os, [], S, rfl, rfl, ⟨v, rfl, rfl, r⟩, f⟩, nd, k⟩
theorem St.store {s : Slot} {o : Option V} {i : Nat} (h : St K B F H (s :: ss) (o :: os)) (hi : i < ss.length) : St K B F H (ss.set i s) (os.set i o) := by
  obtain ⟨S, ⟨b, l', S1, S2, e, eS, h1, h2⟩, nd, k⟩ := h.fp
  cases e
  subst eS
  obtain ⟨L, Sa, Rr, e1, f⟩ := Fs.store h2 hi h1
  subst e1
  have n1 := List.nodup_append.mp nd
  have n2 := List.nodup_append.mp n1.2.1
  have n3 := List.nodup_append.mp n2.1
  refine ⟨h.sb, h.sf, _, f, ?_, fun a ha => k a ?_⟩
  · refine List.nodup_append.mpr ⟨List.nodup_append.mpr ⟨n3.1, n1.1, fun a ha b hb z => n1.2.2 b hb a (by simp [ha]) z.symm⟩, n2.2.1, fun a ha b hb z => ?_⟩
    rcases List.mem_append.mp ha with ha | ha
    · exact n2.2.2 a (by simp [ha]) b hb z
    · exact n1.2.2 a ha b (by simp [hb]) z
  · rcases List.mem_append.mp ha with ha | ha
    · rcases List.mem_append.mp ha with ha | ha <;> simp [ha]
    · simp [ha]
def Vw (K : Kf) (B F : Hp) (ss : List Slot) (os : List (Option V)) : Prop := ∀ (i : Nat) (t : T), ss[i]? = some (Slot.vw t) → ∃ v, os[i]? = some (some v) ∧ VR K B F t v
theorem Vw.grV {B' F' : Hp} (h : Vw K B F ss os) (s : SubV B B') (g : SubR F F') : Vw K B' F' ss os := fun i t e => let ⟨v, a, b⟩ := h i t e; ⟨v, a, b.monoV s g⟩
theorem Vw.gr {B' F' : Hp} (h : Vw K B F ss os) (s : SubR B B') (g : SubR F F') : Vw K B' F' ss os := h.grV s.v g
theorem St.vr {i : Nat} {s : Slot} {t : T} (h : St K B F H ss os) (hv : Vw K B F ss os) (e : ss[i]? = some s) (c : s.con = some t) : ∃ v, os[i]? = some (some v) ∧ VR K H F t v := by
  obtain ⟨S, f, nd, k⟩ := h.fp
  obtain ⟨o, L, Sa, Rr, h1, h2, h3, _⟩ := f.at e
  cases s with
  | un => cases c
  | va u => cases c; obtain ⟨v, rfl, r⟩ := h3; exact ⟨v, h1, r.vr⟩
  | mu u => cases c; obtain ⟨v, rfl, r⟩ := h3; exact ⟨v, h1, r.vr⟩
  | vw u => cases c; obtain ⟨v, e1, r⟩ := hv i t e; exact ⟨v, e1, r.monoV h.sb.v (SubR.refl _)⟩
theorem St.shAt {i : Nat} {s : Slot} {d : D} (h : St K B F H ss os) (hv : Vw K B F ss os) (e : ss[i]? = some s) (c : s.con = some (.sh d)) : ∃ v, os[i]? = some (some v) ∧ DR K F d v := by
  obtain ⟨S, f, nd, k⟩ := h.fp
  obtain ⟨o, L, Sa, Rr, h1, h2, h3, _⟩ := f.at e
  cases s with
  | un => cases c
  | va u => cases c; obtain ⟨v, rfl, r⟩ := h3; exact ⟨v, h1, r.2⟩
  | mu u => cases c; obtain ⟨v, rfl, r⟩ := h3; exact ⟨v, h1, r.2⟩
  | vw u => cases c; exact hv i _ e
theorem St.hd {t : T} {v : V} (h : St K B F H (.va t :: ss) (some v :: os)) : VR K H F t v := by
  obtain ⟨S, ⟨b, l', S1, S2, e, eS, h1, h2⟩, nd, k⟩ := h.fp
  cases e
  obtain ⟨w, ew, tr⟩ := h1
  cases ew
  exact tr.vr
theorem St.park {t : T} {v : V} (h : St K B F H (.va t :: ss) (some v :: os)) : ∃ B', Same B B' ∧ St K B' F H ss os ∧
    ∀ (F' H' : Hp) (ss' : List Slot) (os' : List (Option V)), Gr B' F F' → St K B' F' H' ss' os' → St K B F' H' (.va t :: ss') (some v :: os') := by
  obtain ⟨S, ⟨b, l', S1, S2, e, eS, h1, h2⟩, nd, k⟩ := h.fp
  cases e
  subst eS
  obtain ⟨w, ew, tr⟩ := h1
  cases ew
  have nd' := List.nodup_append.mp nd
  have has := tr.has
  refine ⟨fun a => if a ∈ S1 then H a else B a, fun a o e => ?_, ⟨h.sb.ovl tr.hasO, h.sf, S2, h2, nd'.2.1, fun a ha => ?_⟩, fun F' H' ss' os' g h' => ?_⟩
  · by_cases hm : a ∈ S1
    · have := (k a (List.mem_append_left _ hm)).1
      rw [e] at this; cases this
    · simpa [hm] using e
  · have := k a (List.mem_append_right _ ha)
    refine ⟨?_, this.2⟩
    have hm : a ∉ S1 := fun z => nd'.2.2 a z a ha rfl
    simpa [hm] using this.1
  · obtain ⟨S', f', nd2, k'⟩ := h'.fp
    have sb : BsK K B H' := .pre (fun a o e => by
      by_cases hm : a ∈ S1
      · have := (k a (List.mem_append_left _ hm)).1
        rw [e] at this; cases this
      · simpa [hm] using e) h'.sb
    have keep : ∀ a ∈ S1, ∀ o, H a = some o → H' a = some o := fun a ha o e => h'.sb.ex a o (by simpa [ha] using e) (by
      obtain ⟨o', ho, w⟩ := tr.hasO a ha
      rw [e] at ho; cases ho
      exact w.nt)
    refine ⟨sb, h'.sf, S1 ++ S', ⟨some v, os', S1, S', rfl, rfl, ⟨v, rfl, tr.mono g.sub keep⟩, f'⟩, ?_, fun a ha => ?_⟩
    · refine List.nodup_append.mpr ⟨nd'.1, nd2, fun a ha b hb z => ?_⟩
      subst z
      obtain ⟨o, ho, _⟩ := has a ha
      have := (k' a hb).1
      simp only [ha, if_true] at this
      rw [ho] at this; cases this
    · rcases List.mem_append.mp ha with ha | ha
      · have q := k a (List.mem_append_left _ ha)
        refine ⟨q.1, ?_⟩
        obtain ⟨o, ho, _⟩ := has a ha
        refine Classical.byContradiction fun z => ?_
        have := g.new a q.2 z
        simp only [ha, if_true] at this
        rw [ho] at this; cases this
      · have q := k' a ha
        refine ⟨?_, q.2⟩
        by_cases hm : a ∈ S1
        · exact (k a (List.mem_append_left _ hm)).1
        · simpa [hm] using q.1
theorem St.chgB {qs : List Slot} {xs : List (Option V)} {i : Nat} {s : Slot} {t u : T} {v : V} {p : List PEl} (hl : qs.length = xs.length) (h : St K B F H (qs ++ ss) (xs ++ os)) (e : ss[i]? = some s) (c : s.own = some t) (ev : os[i]? = some (some v))
    (g : T.get p t = some u) : ∃ x Su Sq, Wk H p v x ∧ TR K F H u x Su ∧ Fs (SR K F H) qs xs Sq ∧ (Sq ++ Su).Nodup ∧ (∀ a ∈ Sq ++ Su, B a = none ∧ F a = none) ∧
    ∀ (F' H' : Hp) (u' t' : T) (Su' Sr : List Addr) (rs : List Slot) (ys : List (Option V)), Same F F' → (∀ a, F a = none → F' a ≠ none → H a = none ∨ a ∈ Sq ++ Su) → SubF F' H' →
      Bz K (Sq ++ Su) H H' → TR K F' H' u' x Su' → Fs (SR K F' H') rs ys Sr → (Sr ++ Su').Nodup → (∀ a ∈ Sr ++ Su', F' a = none ∧ (H a = none ∨ a ∈ Sq ++ Su)) →
      T.put p t u' = some t' → St K B F' H' (rs ++ ss.set i (s.wth t')) (ys ++ os) := by
  obtain ⟨S, f, nd, k⟩ := h.fp
  obtain ⟨Sq, S2, rfl, fq, fs⟩ := f.split hl
  obtain ⟨o, L, Sa, Rr, h1, h2, h3, h4⟩ := fs.at e
  rw [ev] at h1
  cases h1
  obtain ⟨w, ew, tr⟩ := h3.own c
  cases ew
  obtain ⟨x, L2, Su, R2, c1, c2, c3, c4⟩ := tr.path g
  subst c1
  subst h2
  have P : (Sq ++ (L ++ (L2 ++ Su ++ R2) ++ Rr)).Perm ((Sq ++ Su) ++ (L ++ L2 ++ (R2 ++ Rr))) := by
    simp only [List.append_assoc]
    refine List.Perm.append_left Sq ?_
    refine (List.perm_append_comm_assoc L L2 _).symm.symm.trans ?_
    refine List.Perm.trans ?_ (List.perm_append_comm_assoc (L ++ L2) Su (R2 ++ Rr) |>.trans (by simp only [List.append_assoc]; exact List.Perm.refl _))
    simp only [List.append_assoc]
    exact (List.perm_append_comm_assoc L2 L _)
  have nd2 := P.nodup_iff.mp nd
  have nd3 := List.nodup_append.mp nd2
  refine ⟨x, Su, Sq, c2, c3, fq, nd3.1, fun a ha => k a (P.mem_iff.mpr (List.mem_append_left _ ha)), fun F' H' u' t' Su' Sr rs ys sF nF sH kH hu hr nd' k' hp => ?_⟩
  have out : ∀ a, a ∈ L ++ L2 ++ (R2 ++ Rr) → a ∉ Sq ++ Su := fun a ha z => nd3.2.2 a z a ha rfl
  have old2 : ∀ a ∈ L ++ L2 ++ (R2 ++ Rr), ∀ o, H a = some o → ∀ ps, o ≠ .tbl ps := fun a ha o ho => by
    obtain ⟨o', ho', w⟩ := f.hasO a (P.mem_iff.mpr (List.mem_append_right _ ha))
    rw [ho] at ho'; cases ho'
    exact w.nt
  have old : ∀ a ∈ L ++ L2 ++ (R2 ++ Rr), ∀ o, H a = some o → H' a = some o := fun a ha o ho => kH.ex (out a ha) ho (old2 a ha o ho)
  have free : ∀ {G : Hp}, (∀ a ∈ Sq ++ Su, G a = none) → ∀ a o, G a = some o → a ∉ Sq ++ Su := fun hG a o ho z => by rw [hG a z] at ho; cases ho
  have tr' := c4 F' H' u' Su' t' (.of sF) (fun a ha => old a (by rcases List.mem_append.mp ha with z | z <;> simp [z])) hu hp
  have f' := h4 (SR K F' H') (s.wth t') (L2 ++ Su' ++ R2) (fun c d Sc hS hc => hc.mono (.of sF) fun a ha => old a (by rcases List.mem_append.mp (hS a ha) with z | z <;> simp [z])) (SR.wth tr')
  have P' : (Sr ++ (L ++ (L2 ++ Su' ++ R2) ++ Rr)).Perm ((Sr ++ Su') ++ (L ++ L2 ++ (R2 ++ Rr))) := by
    simp only [List.append_assoc]
    refine List.Perm.append_left Sr ?_
    refine List.Perm.trans ?_ (List.perm_append_comm_assoc (L ++ L2) Su' (R2 ++ Rr) |>.trans (by simp only [List.append_assoc]; exact List.Perm.refl _))
    simp only [List.append_assoc]
    exact List.Perm.refl _
  refine ⟨h.sb.keptB (Z := Sq ++ Su) (fun a ha => (k a (P.mem_iff.mpr (List.mem_append_left _ ha))).1) (fun a ha => f.hasO a (P.mem_iff.mpr (List.mem_append_left _ ha))) kH, sH, Sr ++ (L ++ (L2 ++ Su' ++ R2) ++ Rr), hr.append f', P'.nodup_iff.mpr (List.nodup_append.mpr ⟨nd', nd3.2.1, fun a ha b hb z => ?_⟩), fun a ha => ?_⟩
  · subst z
    obtain ⟨y, hy, _⟩ := f.has a (P.mem_iff.mpr (List.mem_append_right _ hb))
    rcases (k' a ha).2 with z | z
    · rw [z] at hy; cases hy
    · exact out a hb z
  · rcases List.mem_append.mp (P'.mem_iff.mp ha) with ha | ha
    · have q := k' a ha
      rcases q.2 with z | z
      · exact ⟨h.sb.ne a z, q.1⟩
      · have q2 := k a (P.mem_iff.mpr (List.mem_append_left _ z))
        exact ⟨q2.1, q.1⟩
    · have q2 := k a (P.mem_iff.mpr (List.mem_append_right _ ha))
      refine ⟨q2.1, Classical.byContradiction fun z => ?_⟩
      obtain ⟨y, hy, _⟩ := f.has a (P.mem_iff.mpr (List.mem_append_right _ ha))
      rcases nF a q2.2 z with w | w
      · rw [w] at hy; cases hy
      · exact out a ha w
theorem St.chg {qs : List Slot} {xs : List (Option V)} {i : Nat} {s : Slot} {t u : T} {v : V} {p : List PEl} (hl : qs.length = xs.length) (h : St K B F H (qs ++ ss) (xs ++ os)) (e : ss[i]? = some s) (c : s.own = some t) (ev : os[i]? = some (some v))
    (g : T.get p t = some u) : ∃ x Su Sq, Wk H p v x ∧ TR K F H u x Su ∧ Fs (SR K F H) qs xs Sq ∧ (Sq ++ Su).Nodup ∧ (∀ a ∈ Sq ++ Su, B a = none ∧ F a = none) ∧
    ∀ (F' H' : Hp) (u' t' : T) (Su' Sr : List Addr) (rs : List Slot) (ys : List (Option V)), Same F F' → (∀ a, F a = none → F' a ≠ none → H a = none ∨ a ∈ Sq ++ Su) → SubF F' H' →
      (∀ a, a ∉ Sq ++ Su → ∀ o, H a = some o → H' a = some o) → TR K F' H' u' x Su' → Fs (SR K F' H') rs ys Sr → (Sr ++ Su').Nodup → (∀ a ∈ Sr ++ Su', F' a = none ∧ (H a = none ∨ a ∈ Sq ++ Su)) →
      T.put p t u' = some t' → St K B F' H' (rs ++ ss.set i (s.wth t')) (ys ++ os) := by
  obtain ⟨x, Su, Sq, c2, c3, fq, nd, k, go⟩ := h.chgB hl e c ev g
  exact ⟨x, Su, Sq, c2, c3, fq, nd, k, fun F' H' u' t' Su' Sr rs ys a1 a2 a3 a4 => go F' H' u' t' Su' Sr rs ys a1 a2 a3 (.of a4)⟩
theorem St.madeB {qs : List Slot} {xs : List (Option V)} (hl : qs.length = xs.length) (h : St K B F H (qs ++ ss) (xs ++ os)) : ∃ Sq, Fs (SR K F H) qs xs Sq ∧ Sq.Nodup ∧ (∀ a ∈ Sq, B a = none ∧ F a = none) ∧
    ∀ (F' H' : Hp) (Sr : List Addr) (rs : List Slot) (ys : List (Option V)), Same F F' → (∀ a, F a = none → F' a ≠ none → H a = none ∨ a ∈ Sq) → SubF F' H' →
      Bz K Sq H H' → Fs (SR K F' H') rs ys Sr → Sr.Nodup → (∀ a ∈ Sr, F' a = none ∧ (H a = none ∨ a ∈ Sq)) → St K B F' H' (rs ++ ss) (ys ++ os) := by
  obtain ⟨S, f, nd, k⟩ := h.fp
  obtain ⟨Sq, S2, rfl, fq, fs⟩ := f.split hl
  have nd3 := List.nodup_append.mp nd
  refine ⟨Sq, fq, nd3.1, fun a ha => k a (List.mem_append_left _ ha), fun F' H' Sr rs ys sF nF sH kH hr nd' k' => ?_⟩
  have out : ∀ a, a ∈ S2 → a ∉ Sq := fun a ha z => nd3.2.2 a z a ha rfl
  have old2 : ∀ a ∈ S2, ∀ o, H a = some o → ∀ ps, o ≠ .tbl ps := fun a ha o ho => by
    obtain ⟨o', ho', w⟩ := fs.hasO a ha
    rw [ho] at ho'; cases ho'
    exact w.nt
  have free : ∀ {G : Hp}, (∀ a ∈ Sq, G a = none) → ∀ a o, G a = some o → a ∉ Sq := fun hG a o ho z => by rw [hG a z] at ho; cases ho
  refine ⟨h.sb.keptB (Z := Sq) (fun a ha => (k a (List.mem_append_left _ ha)).1) (fun a ha => fq.hasO a ha) kH, sH, Sr ++ S2, hr.append (fs.imp fun c d Sc hS hc => hc.mono (.of sF) fun a ha o ho => kH.ex (out a (hS a ha)) ho (old2 a (hS a ha) o ho)), List.nodup_append.mpr ⟨nd', nd3.2.1, fun a ha b hb z => ?_⟩, fun a ha => ?_⟩
  · subst z
    obtain ⟨y, hy, _⟩ := fs.has a hb
    rcases (k' a ha).2 with z | z
    · rw [z] at hy; cases hy
    · exact out a hb z
  · rcases List.mem_append.mp ha with ha | ha
    · have q := k' a ha
      rcases q.2 with z | z
      · exact ⟨h.sb.ne a z, q.1⟩
      · have q2 := k a (List.mem_append_left _ z)
        exact ⟨q2.1, q.1⟩
    · have q2 := k a (List.mem_append_right _ ha)
      refine ⟨q2.1, Classical.byContradiction fun z => ?_⟩
      obtain ⟨y, hy, _⟩ := fs.has a ha
      rcases nF a q2.2 z with w | w
      · rw [w] at hy; cases hy
      · exact out a ha w
theorem St.made {qs : List Slot} {xs : List (Option V)} (hl : qs.length = xs.length) (h : St K B F H (qs ++ ss) (xs ++ os)) : ∃ Sq, Fs (SR K F H) qs xs Sq ∧ Sq.Nodup ∧ (∀ a ∈ Sq, B a = none ∧ F a = none) ∧
    ∀ (F' H' : Hp) (Sr : List Addr) (rs : List Slot) (ys : List (Option V)), Same F F' → (∀ a, F a = none → F' a ≠ none → H a = none ∨ a ∈ Sq) → SubF F' H' →
      (∀ a, a ∉ Sq → ∀ o, H a = some o → H' a = some o) → Fs (SR K F' H') rs ys Sr → Sr.Nodup → (∀ a ∈ Sr, F' a = none ∧ (H a = none ∨ a ∈ Sq)) → St K B F' H' (rs ++ ss) (ys ++ os) := by
  obtain ⟨Sq, fq, nd, k, go⟩ := h.madeB hl
  exact ⟨Sq, fq, nd, k, fun F' H' Sr rs ys a1 a2 a3 a4 => go F' H' Sr rs ys a1 a2 a3 (.of a4)⟩
end
end DL
namespace DL
variable [Lf]
open PySem PySem.Spec PyProof.Rows L2
abbrev XS := L2.St → XK
abbrev NX : XS := fun _ => E0
structure Exn where
  C : Addr
  fs : Option (List (Str × D))
def ExOk (K : Kf) (F H : Hp) (c : Exn) (od : Option Addr) : Prop :=
  match c.fs with
  | none => od = none
  | some fs => ∃ d fvs, od = some d ∧ F d = some (.xd fvs) ∧ DRf K F fs fvs
inductive R (α : Type) where
  | ok (a : α) | ex (c : Exn) (e : Env) | st
def R.bnd {α β : Type} : R (α × Env) → (α → Env → R β) → R β
  | .ok (a, e), k => k a e
  | .ex c e, _ => .ex c e
  | .st, _ => .st
inductive Val where
  | tv (t : T) | pl (i : Nat) (p : List PEl)
abbrev ME := Env → R (Val × Env)
abbrev MA := Env → R (List Val × Env)
def cn (v : Val) (e : Env) : Option T :=
  match v with
  | .tv t => some t
  | .pl i p => (e[i]?).bind fun s => s.con.bind (T.get p)
def cns : List Val → Env → Option (List T)
  | [], _ => some []
  | v :: r, e => (cn v e).bind fun t => (cns r e).map fun ts => t :: ts
def Kd (e e' : Env) : Prop := ∀ i : Nat, (∀ t, e[i]? = some (Slot.vw t) ↔ e'[i]? = some (Slot.vw t)) ∧ ((∃ t, e[i]? = some (Slot.mu t)) ↔ ∃ t, e'[i]? = some (Slot.mu t))
theorem Kd.refl (e : Env) : Kd e e := fun _ => ⟨fun _ => Iff.rfl, Iff.rfl⟩
theorem Kd.trans {a b c : Env} (h : Kd a b) (k : Kd b c) : Kd a c := fun i => ⟨fun t => ((h i).1 t).trans ((k i).1 t), (h i).2.trans (k i).2⟩
theorem Kd.set {e : Env} {i : Nat} {s : Slot} {t : T} (h : e[i]? = some s) (o : s.own ≠ none) : Kd e (e.set i (s.wth t)) := fun j => by
  by_cases hj : j = i
  · subst hj
    have hlt := (List.getElem?_eq_some_iff.mp h).1
    rw [List.getElem?_set_self hlt, h]
    cases s <;> simp [Slot.own, Slot.wth] at o ⊢
  · rw [List.getElem?_set_ne (Ne.symm hj)]
    exact ⟨fun _ => Iff.rfl, Iff.rfl⟩
def PlOk (H : Hp) (σ : List (Option V)) : Val → V → Prop
  | .tv _, _ => True
  | .pl i p, x => ∃ v, σ[i]? = some (some v) ∧ Wk H p v x
def pdS : List Val → List Slot
  | [] => []
  | .tv t :: r => .va t :: pdS r
  | .pl _ _ :: r => pdS r
def pdX : List Val → List V → List (Option V)
  | .tv _ :: r, x :: xs => some x :: pdX r xs
  | .pl _ _ :: r, _ :: xs => pdX r xs
  | _, _ => []
theorem pd_len : ∀ {vs : List Val} {xs : List V}, vs.length = xs.length → (pdS vs).length = (pdX vs xs).length
  | [], [], _ => rfl
  | [], _ :: _, h => by cases h
  | .tv _ :: r, [], h => by cases h
  | .pl _ _ :: r, [], h => by cases h
  | .tv _ :: r, _ :: xs, h => by simp only [pdS, pdX, List.length_cons]; rw [pd_len (vs := r) (xs := xs) (by simpa using h)]
  | .pl _ _ :: r, _ :: xs, h => by simp only [pdS, pdX]; exact pd_len (vs := r) (xs := xs) (by simpa using h)
structure Got (K : Kf) (B F H : Hp) (env : Env) (σ : List (Option V)) (vs : List Val) (xs : List V) : Prop where
  len : vs.length = xs.length
  st : St K B F H (pdS vs ++ env) (pdX vs xs ++ σ)
  pl : All2 (PlOk H σ) vs xs
def PostV (K : Kf) (B F : Hp) (env : Env) (σ : L2.St) (E : XS) (Q : V → Hp → Prop) : R (Val × Env) → Prop
  | .ok (v, env') => ∀ x F' H', Gr B F F' → Kd env env' → Got K B F' H' env' σ [v] [x] → Q x H'
  | .ex c env' => ∀ od F' H', Gr B F F' → Kd env env' → St K B F' H' env' σ → ExOk K F' H' c od → E σ (.ref c.C) od H'
  | .st => False
def PostA (K : Kf) (B F : Hp) (env : Env) (σ : L2.St) (E : XS) (Q : List V → Hp → Prop) : R (List Val × Env) → Prop
  | .ok (vs, env') => ∀ xs F' H', Gr B F F' → Kd env env' → Got K B F' H' env' σ vs xs → Q xs H'
  | .ex c env' => ∀ od F' H', Gr B F F' → Kd env env' → St K B F' H' env' σ → ExOk K F' H' c od → E σ (.ref c.C) od H'
  | .st => False
def EvT (K : Kf) (E : XS) (t : TE) (m : ME) : Prop := ∀ (B F H : Hp) (σ : L2.St) (env : Env) (Q : VK), St K B F H env σ → Vw K B F env σ → PostV K B F env σ E Q (m env) → t σ H Q
def EvA (K : Kf) (E : XS) (t : TA) (m : MA) : Prop := ∀ (B F H : Hp) (σ : L2.St) (env : Env) (Q : List V → Hp → Prop), St K B F H env σ → Vw K B F env σ → PostA K B F env σ E Q (m env) → t σ H Q
section
variable {K : Kf} {B F H : Hp} {env : Env} {σ : L2.St} {E : XS}
theorem Got.tv {t : T} {x : V} (h : Got K B F H env σ [.tv t] [x]) : St K B F H (.va t :: env) (some x :: σ) := h.st
theorem Got.of {t : T} {x : V} (h : St K B F H (.va t :: env) (some x :: σ)) : Got K B F H env σ [.tv t] [x] := ⟨rfl, h, ⟨x, [], rfl, trivial, rfl⟩⟩
theorem Got.base {vs : List Val} {xs : List V} (h : Got K B F H env σ vs xs) : St K B F H env σ := h.st.dropn (pd_len h.len)
theorem Got.kd {env' : Env} {F' H' : Hp} (hv : Vw K B F env σ) (g : Gr B F F') (kd : Kd env env') : Vw K B F' env' σ := fun i t e => by
  obtain ⟨v, a, b⟩ := hv i t (((kd i).1 t).mpr e)
  exact ⟨v, a, b.mono (SubR.refl _) g.sub⟩
theorem vr_pd : ∀ {vs : List Val} {xs : List V} {S : List Addr}, vs.length = xs.length → Fs (SR K F H) (pdS vs) (pdX vs xs) S → All2 (fun v x => ∀ t, v = Val.tv t → VR K H F t x) vs xs
  | [], [], _, _, _ => rfl
  | [], _ :: _, _, h, _ => by cases h
  | .tv _ :: r, [], _, h, _ => by cases h
  | .pl _ _ :: r, [], _, h, _ => by cases h
  | .tv t :: r, x :: xs, S, hl, ⟨b, l', S1, S2, e, eS, h, q⟩ => by
    cases e
    obtain ⟨w, ew, tr⟩ := h
    cases ew
    exact ⟨x, xs, rfl, fun u e => by cases e; exact tr.vr, vr_pd (by simpa using hl) q⟩
  | .pl _ _ :: r, x :: xs, S, hl, h => ⟨x, xs, rfl, (fun u e => nomatch e), vr_pd (vs := r) (by simpa using hl) h⟩
theorem St.vrPl {i : Nat} {p : List PEl} {t : T} {x : V} (h : St K B F H env σ) (hv : Vw K B F env σ) (c : cn (.pl i p) env = some t) (w : PlOk H σ (.pl i p) x) : VR K H F t x := by
  obtain ⟨s, h1, h2⟩ := Option.bind_eq_some_iff.mp c
  obtain ⟨u, h3, h4⟩ := Option.bind_eq_some_iff.mp h2
  obtain ⟨v, ev, r⟩ := h.vr hv h1 h3
  obtain ⟨v', ev', w⟩ := w
  rw [ev] at ev'
  cases ev'
  obtain ⟨y, w', q⟩ := r.path h4
  cases w.det w'
  exact q
theorem cns_vr (hv : Vw K B F env σ) : ∀ {vs : List Val} {xs : List V} {ts : List T}, St K B F H env σ → All2 (fun v x => ∀ t, v = Val.tv t → VR K H F t x) vs xs → All2 (PlOk H σ) vs xs → cns vs env = some ts → All2 (VR K H F) ts xs
  | [], xs, ts, _, h, _, c => by cases c; exact h
  | v :: r, xs, ts, hs, ⟨x, l, e, h1, h2⟩, ⟨x', l', e', h3, h4⟩, c => by
    subst e
    cases e'
    obtain ⟨t, c1, c2⟩ := Option.bind_eq_some_iff.mp c
    obtain ⟨ts', c3, rfl⟩ := Option.map_eq_some_iff.mp c2
    refine ⟨_, _, rfl, ?_, cns_vr hv hs h2 h4 c3⟩
    cases v with
    | tv u => cases c1; exact h1 _ rfl
    | pl i p => exact hs.vrPl hv c1 h3
theorem Got.vrs {vs : List Val} {xs : List V} {ts : List T} (h : Got K B F H env σ vs xs) (hv : Vw K B F env σ) (c : cns vs env = some ts) : All2 (VR K H F) ts xs := by
  obtain ⟨S, f, _, _⟩ := h.st.fp
  obtain ⟨S1, S2, _, f1, _⟩ := f.split (pd_len h.len)
  exact cns_vr hv h.base (vr_pd h.len f1) h.pl c
theorem St.drop2 {s t : Slot} {o u : Option V} {ss : List Slot} {os : List (Option V)} (h : St K B F H (s :: t :: ss) (o :: u :: os)) : St K B F H (s :: ss) (o :: os) := by
  obtain ⟨S, ⟨b, l', S1, S2, e, eS, h1, ⟨b2, l2, S3, S4, e2, eS2, h2, h3⟩⟩, nd, k⟩ := h.fp
  cases e
  cases e2
  subst eS
  subst eS2
  refine ⟨h.sb, h.sf, S1 ++ S4, ⟨o, os, S1, S4, rfl, rfl, h1, h3⟩, ?_, fun a ha => k a ?_⟩
  · have n1 := List.nodup_append.mp nd
    exact List.nodup_append.mpr ⟨n1.1, (List.nodup_append.mp n1.2.1).2.1, fun a ha b hb => n1.2.2 a ha b (List.mem_append_right _ hb)⟩
  · rcases List.mem_append.mp ha with z | z <;> simp [z]
end
def OpN (K : Kf) (r : List V → Hp → VK → Prop) (f : List T → Option T) : Prop :=
  ∀ (B F H : Hp) (ss : List Slot) (os : List (Option V)) (us : List T) (xs : List V) (t' : T) (Q : VK), St K B F H ss os → All2 (VR K H F) us xs → f us = some t' →
    (∀ y H', Same H H' → St K B F H' (.va t' :: ss) (some y :: os) → Q y H') → r xs H Q
def mOp (f : List T → Option T) (ms : MA) : ME := fun e => (ms e).bnd fun vs e1 => match (cns vs e1).bind f with
  | some t => .ok (.tv t, e1)
  | none => .st
theorem ev_op {K : Kf} {E : XS} {ta : TA} {ms : MA} {r : List V → Hp → VK → Prop} {f : List T → Option T} (ha : EvA K E ta ms) (ho : OpN K r f) : EvT K E (fun σ H Q => ta σ H fun vs H1 => r vs H1 Q) (mOp f ms) := by
  intro B F H σ env Q h hv hp
  refine ha B F H σ env _ h hv ?_
  unfold mOp at hp
  cases e : ms env with
  | st => rw [e] at hp; exact hp
  | ex c e1 => rw [e] at hp; exact hp
  | ok a =>
    obtain ⟨vs, e1⟩ := a
    rw [e] at hp
    simp only [R.bnd] at hp
    intro xs F' H' g kd got
    cases c : (cns vs e1).bind f with
    | none => rw [c] at hp; exact hp.elim
    | some t =>
      rw [c] at hp
      obtain ⟨us, c1, c2⟩ := Option.bind_eq_some_iff.mp c
      exact ho B F' H' e1 σ us xs t Q got.base (got.vrs (Got.kd (H' := H') hv g kd) c1) c2 fun y H2 s h2 => hp y F' H2 g kd (.of h2)
def pend {α : Type} (v : Val) (m : Env → R (α × Env)) (e : Env) : R (α × Env) :=
  match v with
  | .pl i (q :: p) => match e[i]? with
    | some s => match s.con with
      | some t => match T.get (q :: p) t with
        | some _ => match m (e.set i (.vw t)) with
          | .ok (a, e') => .ok (a, e'.set i s)
          | .ex c e' => .ex c (e'.set i s)
          | .st => .st
        | none => .st
      | none => .st
    | none => .st
  | _ => m e
def mNil : MA := fun e => .ok ([], e)
def mCons (m : ME) (ms : MA) : MA := fun e => (m e).bnd fun v e1 => (pend v ms e1).bnd fun vs e2 => .ok (v :: vs, e2)
section
variable {K : Kf} {B F H : Hp} {env : Env} {σ : L2.St} {E : XS}
theorem ev_nil : EvA K E tNil mNil := by
  intro B F H σ env Q h hv hp
  exact hp [] F H (Gr.refl _ _) (Kd.refl _) ⟨rfl, h, rfl⟩
theorem St.lock {i : Nat} {s : Slot} {t : T} (h : St K B F H env σ) (hv : Vw K B F env σ) (e : env[i]? = some s) (c : s.con = some t) : ∃ B', Same B B' ∧ St K B' F H (env.set i (.vw t)) σ ∧ Vw K B' F (env.set i (.vw t)) σ ∧
    ∀ (F' H' : Hp) (qs : List Slot) (xs : List (Option V)) (e' : Env), qs.length = xs.length → Gr B' F F' → Kd (env.set i (.vw t)) e' → St K B' F' H' (qs ++ e') (xs ++ σ) → St K B F' H' (qs ++ e'.set i s) (xs ++ σ) := by
  obtain ⟨S, f, nd, k⟩ := h.fp
  obtain ⟨o, L, Sa, Rr, h1, h2, h3, h4⟩ := f.at e
  subst h2
  have has := f.has
  have P : (L ++ Sa ++ Rr).Perm (Sa ++ (L ++ Rr)) := by
    rw [List.append_assoc]
    exact List.perm_append_comm_assoc L Sa Rr
  have nd2 := List.nodup_append.mp (P.nodup_iff.mp nd)
  have kS : ∀ a ∈ Sa, B a = none ∧ F a = none := fun a ha => k a (P.mem_iff.mpr (List.mem_append_left _ ha))
  have kO : ∀ a ∈ L ++ Rr, B a = none ∧ F a = none := fun a ha => k a (P.mem_iff.mpr (List.mem_append_right _ ha))
  have nS : ∀ a ∈ L ++ Rr, a ∉ Sa := fun a ha z => nd2.2.2 a z a ha rfl
  have hlt := (List.getElem?_eq_some_iff.mp e).1
  have sB : Same B fun a => if a ∈ Sa then H a else B a := fun a o e => by
    by_cases hm : a ∈ Sa
    · have := (kS a hm).1
      rw [e] at this; cases this
    · simpa [hm] using e
  have vA : ∃ v, o = some v ∧ VR K (fun a => if a ∈ Sa then H a else B a) F t v := by
    cases s with
    | un => cases c
    | va u =>
      cases c; obtain ⟨v, rfl, r⟩ := h3
      exact ⟨v, rfl, (r.mono (SubR.refl _) (H' := fun a => if a ∈ Sa then H a else B a) fun a ha o e => by simpa [ha] using e).vr⟩
    | mu u =>
      cases c; obtain ⟨v, rfl, r⟩ := h3
      exact ⟨v, rfl, (r.mono (SubR.refl _) (H' := fun a => if a ∈ Sa then H a else B a) fun a ha o e => by simpa [ha] using e).vr⟩
    | vw u =>
      cases c; obtain ⟨v, e1, r⟩ := hv i _ e
      rw [h1] at e1
      cases e1
      exact ⟨v, rfl, r.mono (.of sB) (SubR.refl _)⟩
  obtain ⟨v, rfl, vr⟩ := vA
  refine ⟨fun a => if a ∈ Sa then H a else B a, sB, ⟨h.sb.ovl fun a ha => f.hasO a (P.mem_iff.mpr (List.mem_append_left _ ha)), h.sf, L ++ [] ++ Rr, ?_, ?_, fun a ha => ?_⟩, fun j u ej => ?_, fun F' H' qs xs e' hq g kd st => ?_⟩
  · exact h4 _ _ [] (fun c d Sc hS hc => hc) rfl
  · simpa using nd2.2.1
  · have ha : a ∈ L ++ Rr := by simpa using ha
    have q := kO a ha
    exact ⟨by simpa [nS a ha] using q.1, q.2⟩
  · by_cases hj : j = i
    · subst hj
      rw [List.getElem?_set_self hlt] at ej
      cases ej
      exact ⟨v, h1, vr⟩
    · rw [List.getElem?_set_ne (Ne.symm hj)] at ej
      obtain ⟨w, a, b⟩ := hv j u ej
      exact ⟨w, a, b.mono (.of sB) (SubR.refl _)⟩
  · obtain ⟨S', f', nd', k'⟩ := st.fp
    obtain ⟨Sq, Se, rfl, fq, fe⟩ := f'.split hq
    have ei : e'[i]? = some (.vw t) := ((kd i).1 t).mp (by rw [List.getElem?_set_self hlt])
    obtain ⟨o2, L2, Sb, R2, g1, g2, g3, g4⟩ := fe.at ei
    rw [h1] at g1
    cases g1
    have g3 : Sb = [] := g3
    subst g3
    subst g2
    have sb' : BsK K B H' := .pre sB st.sb
    have keep : ∀ a ∈ Sa, ∀ o, H a = some o → H' a = some o := fun a ha o e => st.sb.ex a o (by simpa [ha] using e) (by
      obtain ⟨o', ho, w⟩ := f.hasO a (P.mem_iff.mpr (List.mem_append_left _ ha))
      rw [e] at ho; cases ho
      exact w.nt)
    have disj : ∀ a ∈ Sa, a ∉ Sq ++ (L2 ++ [] ++ R2) := fun a ha z => by
      have q := (k' a z).1
      obtain ⟨y, hy, _⟩ := has a (P.mem_iff.mpr (List.mem_append_left _ ha))
      simp only [ha, if_true] at q
      rw [hy] at q; cases q
    have P' : (Sq ++ (L2 ++ Sa ++ R2)).Perm (Sa ++ (Sq ++ (L2 ++ [] ++ R2))) := by
      simp only [List.append_assoc, List.nil_append]
      rw [← List.append_assoc]
      refine List.Perm.trans (List.perm_append_comm_assoc (Sq ++ L2) Sa R2) ?_
      simp only [List.append_assoc]
      exact List.Perm.refl _
    refine ⟨sb', st.sf, Sq ++ (L2 ++ Sa ++ R2), fq.append (g4 _ _ Sa (fun c d Sc hS hc => hc) (h3.mono g.sub keep)), P'.nodup_iff.mpr (List.nodup_append.mpr ⟨nd2.1, nd', fun a ha b hb z => ?_⟩), fun a ha => ?_⟩
    · subst z; exact disj a ha hb
    · rcases List.mem_append.mp (P'.mem_iff.mp ha) with ha | ha
      · refine ⟨(kS a ha).1, Classical.byContradiction fun z => ?_⟩
        have q := g.new a (kS a ha).2 z
        obtain ⟨y, hy, _⟩ := has a (P.mem_iff.mpr (List.mem_append_left _ ha))
        simp only [ha, if_true] at q
        rw [hy] at q; cases q
      · have q := k' a ha
        refine ⟨?_, q.2⟩
        have hm : a ∉ Sa := fun z => disj a z ha
        simpa [hm] using q.1
theorem Kd.unlock {e e' : Env} {i : Nat} {s : Slot} {t : T} (he : e[i]? = some s) (k : Kd (e.set i (.vw t)) e') : Kd e (e'.set i s) := fun j => by
  have hlt := (List.getElem?_eq_some_iff.mp he).1
  have ei : e'[i]? = some (.vw t) := ((k i).1 t).mp (by rw [List.getElem?_set_self hlt])
  have hlt' := (List.getElem?_eq_some_iff.mp ei).1
  by_cases hj : j = i
  · subst hj
    rw [List.getElem?_set_self hlt', he]
    exact ⟨fun _ => Iff.rfl, Iff.rfl⟩
  · have := k j
    rw [List.getElem?_set_ne (Ne.symm hj)] at this ⊢
    exact this
theorem ev_cons {te : TE} {ts : TA} {m : ME} {ms : MA} (he : EvT K E te m) (ha : EvA K E ts ms) : EvA K E (tCons te ts) (mCons m ms) := by
  intro B F H σ env Q h hv hp
  refine he B F H σ env _ h hv ?_
  unfold mCons at hp
  cases e1 : m env with
  | st => rw [e1] at hp; exact hp
  | ex c e2 => rw [e1] at hp; exact hp
  | ok a =>
    obtain ⟨v, env1⟩ := a
    rw [e1] at hp
    simp only [R.bnd] at hp
    intro x F1 H1 g1 kd1 got1
    have hv1 : Vw K B F1 env1 σ := Got.kd (H' := H1) hv g1 kd1
    have hs1 := got1.base
    have plain : pend v ms env1 = ms env1 → (∀ H', PlOk H1 σ v x → Bs K B H' → PlOk H' σ v x) → ts σ H1 fun xs H2 => Q (x :: xs) H2 := by
      intro ep pok
      rw [ep] at hp
      cases v with
      | tv t =>
        obtain ⟨B', sB, st1, back⟩ := got1.tv.park
        refine ha B' F1 H1 σ env1 _ st1 (hv1.gr (.of sB) (SubR.refl _)) ?_
        cases e2 : ms env1 with
        | st => rw [e2] at hp; exact hp
        | ex c e3 =>
          rw [e2] at hp
          intro od F' H' g kd st ok
          exact hp od F' H' (g1.trans (g.anti sB)) (kd1.trans kd) (back F' H' _ _ g st).drop ok
        | ok b =>
          obtain ⟨vs, env2⟩ := b
          rw [e2] at hp
          intro xs F' H' g kd got
          refine hp (x :: xs) F' H' (g1.trans (g.anti sB)) (kd1.trans kd) ⟨by simp [got.len], back F' H' _ _ g got.st, ⟨x, xs, rfl, trivial, got.pl⟩⟩
      | pl i p =>
        refine ha B F1 H1 σ env1 _ hs1 hv1 ?_
        cases e2 : ms env1 with
        | st => rw [e2] at hp; exact hp
        | ex c e3 =>
          rw [e2] at hp
          intro od F' H' g kd st ok
          exact hp od F' H' (g1.trans g) (kd1.trans kd) st ok
        | ok b =>
          obtain ⟨vs, env2⟩ := b
          rw [e2] at hp
          intro xs F' H' g kd got
          obtain ⟨x', l, e, pk, _⟩ := got1.pl
          cases e
          exact hp (x :: xs) F' H' (g1.trans g) (kd1.trans kd) ⟨by simp [got.len], got.st, ⟨x, xs, rfl, pok H' pk got.base.sb, got.pl⟩⟩
    cases v with
    | tv t => exact plain rfl fun _ _ _ => trivial
    | pl i p =>
      cases p with
      | nil => exact plain rfl fun H' ⟨w, a, b⟩ _ => ⟨w, a, b⟩
      | cons q p =>
        -- the slot is locked meanwhile
        simp only [pend] at hp
        cases ei : env1[i]? with
        | none => rw [ei] at hp; exact hp.elim
        | some s =>
          rw [ei] at hp
          simp only at hp
          cases ec : s.con with
          | none => rw [ec] at hp; exact hp.elim
          | some t =>
            rw [ec] at hp
            simp only at hp
            cases eg : T.get (q :: p) t with
            | none => rw [eg] at hp; exact hp.elim
            | some u =>
            rw [eg] at hp
            simp only at hp
            obtain ⟨B', sB, st1, vw1, back⟩ := hs1.lock hv1 ei ec
            obtain ⟨x', l, e, ⟨w, ew, wk⟩, _⟩ := got1.pl
            cases e
            have hlt := (List.getElem?_eq_some_iff.mp ei).1
            refine ha B' F1 H1 σ _ _ st1 vw1 ?_
            cases e2 : ms (env1.set i (.vw t)) with
            | st => rw [e2] at hp; exact hp
            | ex c e3 =>
              rw [e2] at hp
              intro od F' H' g kd st ok
              exact hp od F' H' (g1.trans (g.anti sB)) (kd1.trans (kd.unlock ei)) (back F' H' [] [] _ rfl g kd st) ok
            | ok b =>
              obtain ⟨vs, env2⟩ := b
              rw [e2] at hp
              intro xs F' H' g kd got
              refine hp (x :: xs) F' H' (g1.trans (g.anti sB)) (kd1.trans (kd.unlock ei)) ⟨by simp [got.len], back F' H' (pdS vs) (pdX vs xs) _ (pd_len got.len) g kd got.st, ⟨x, xs, rfl, ⟨w, ew, ?_⟩, got.pl⟩⟩
              -- the place is still there
              obtain ⟨w', ew', r⟩ := vw1 i t (by rw [List.getElem?_set_self hlt])
              rw [ew] at ew'
              cases ew'
              obtain ⟨x', wk', _⟩ := r.path eg
              have e3 := (wk'.monoV st1.sb.v).det wk
              subst e3
              exact wk'.monoV got.base.sb.v
end
def Flat : D → V → Prop
  | .non, v => v = .non
  | .bl b, v => v = .bl b
  | .int i, v => v = .int i
  | .str x, v => v = .str x
  | _, _ => False
theorem Flat.dr {K : Kf} {F : Hp} {d : D} {v : V} (h : Flat d v) : DR K F d v := by
  cases d <;> first | exact h | exact h.elim
def mC (d : D) : ME := fun e => .ok (.tv (.sh d), e)
theorem ev_c {K : Kf} {E : XS} {d : D} {v : V} (h : Flat d v) : EvT K E (tC v) (mC d) := by
  intro B F H σ env Q hs hv hp
  exact hp v F H (Gr.refl _ _) (Kd.refl _) (.of (hs.push h.dr))
def mN (i : Nat) : ME := fun e => match e[i]? with
  | some s => match s.con with
    | some (.sh d) => .ok (.tv (.sh d), e)
    | some _ => .ok (.pl i [], e)
    | none => .st
  | none => .st
theorem ev_n {K : Kf} {E : XS} {i : Nat} : EvT K E (tVar i) (mN i) := by
  intro B F H σ env Q hs hv hp
  unfold mN at hp
  cases e1 : env[i]? with
  | none => rw [e1] at hp; exact hp.elim
  | some s =>
    rw [e1] at hp
    simp only at hp
    cases e2 : s.con with
    | none => rw [e2] at hp; exact hp.elim
    | some t =>
      rw [e2] at hp
      obtain ⟨v, ev, r⟩ := hs.vr hv e1 e2
      refine ⟨v, ev, ?_⟩
      cases t with
      | sh d =>
        obtain ⟨w, ew, r⟩ := hs.shAt hv e1 e2
        rw [ev] at ew; cases ew
        exact hp v F H (Gr.refl _ _) (Kd.refl _) (.of (hs.push r))
      | lst _ => exact hp v F H (Gr.refl _ _) (Kd.refl _) ⟨rfl, hs, v, [], rfl, ⟨v, ev, rfl⟩, rfl⟩
      | dct _ => exact hp v F H (Gr.refl _ _) (Kd.refl _) ⟨rfl, hs, v, [], rfl, ⟨v, ev, rfl⟩, rfl⟩
      | ins _ _ => exact hp v F H (Gr.refl _ _) (Kd.refl _) ⟨rfl, hs, v, [], rfl, ⟨v, ev, rfl⟩, rfl⟩
def frzP (i : Nat) (p : List PEl) (e : Env) : Option (D × Env) :=
  (e[i]?).bind fun s => s.own.bind fun t => (T.get p t).bind fun u => (T.put p t (.sh u.er)).map fun t' => (u.er, e.set i (s.wth t'))
def keep (v : Val) (e : Env) : Option (T × Env) :=
  match v with
  | .tv t => some (t, e)
  | .pl i p => (frzP i p e).map fun q => (.sh q.1, q.2)
section
variable {K : Kf} {B F H : Hp} {env : Env} {σ : List (Option V)} {E : XS}
theorem St.frzP {i : Nat} {p : List PEl} {x : V} {d : D} {env' : Env} {qs : List Slot} {xs : List (Option V)} (hl : qs.length = xs.length) (h : St K B F H (qs ++ env) (xs ++ σ)) (w : PlOk H σ (.pl i p) x) (e : DL.frzP i p env = some (d, env')) :
    ∃ F', Gr B F F' ∧ Kd env env' ∧ St K B F' H (.va (.sh d) :: qs ++ env') (some x :: xs ++ σ) := by
  obtain ⟨s, e1, e⟩ := Option.bind_eq_some_iff.mp e
  obtain ⟨t, e2, e⟩ := Option.bind_eq_some_iff.mp e
  obtain ⟨u, e3, e⟩ := Option.bind_eq_some_iff.mp e
  obtain ⟨t', e4, e⟩ := Option.map_eq_some_iff.mp e
  cases e
  obtain ⟨v, ev, wk⟩ := w
  -- the pending ones are set aside
  have h0 : St K B F H ([] ++ env) ([] ++ σ) := h.dropn hl
  have hl' : (qs ++ env).length = (xs ++ σ).length := h.len
  have e1' : (qs ++ env)[qs.length + i]? = some s := by rw [List.getElem?_append_right (by omega)]; simpa using e1
  have ev' : (xs ++ σ)[qs.length + i]? = some (some v) := by rw [List.getElem?_append_right (by omega), hl]; simpa using ev
  obtain ⟨y, Su, Sq, w1, tr, fq, nd, k, go⟩ := St.chg (ss := qs ++ env) (os := xs ++ σ) (qs := []) (xs := []) rfl h e1' e2 ev' e3
  have hSq : Sq = [] := fq.2
  subst hSq
  cases w1.det wk
  have fresh : ∀ a ∈ Su, F a = none := fun a ha => (k a (by simpa using ha)).2
  let F' : Hp := fun a => if a ∈ Su then H a else F a
  have sF : Same F F' := fun a o e => by
    by_cases hm : a ∈ Su
    · rw [fresh a hm] at e; cases e
    · show (if a ∈ Su then H a else F a) = some o
      simpa [hm] using e
  have sH : SubF F' H := by
    refine ⟨⟨fun a o r => ?_⟩, fun a ps r => ?_⟩
    · by_cases hm : a ∈ Su
      · have e1 : F' a = H a := by show (if a ∈ Su then H a else F a) = H a; simp [hm]
        exact .inl (by rw [← e1]; exact r)
      · have e1 : F' a = F a := by show (if a ∈ Su then H a else F a) = F a; simp [hm]
        exact h.sf.sub a o (by rw [← e1]; exact r)
    · by_cases hm : a ∈ Su
      · have e1 : F' a = H a := by show (if a ∈ Su then H a else F a) = H a; simp [hm]
        obtain ⟨o, ho, w⟩ := tr.hasO a hm
        rw [e1, ho] at r
        cases r; exact w.fz
      · have e1 : F' a = F a := by show (if a ∈ Su then H a else F a) = F a; simp [hm]
        exact h.sf.nt a ps (by rw [← e1]; exact r)
  have dr : DR K F' u.er x := tr.frz (.of sF) fun a ha o e => by show (if a ∈ Su then H a else F a) = some o; simpa [ha] using e
  have nF : ∀ a, F a = none → F' a ≠ none → a ∈ Su := fun a h1 h2 => Classical.byContradiction fun hm => h2 (by show (if a ∈ Su then H a else F a) = none; simpa [hm] using h1)
  have st := go F' H (.sh u.er) t' [] [] [.va (.sh u.er)] [some x] sF (fun a h1 h2 => .inr (by simpa using nF a h1 h2)) sH (fun a _ o e => e) ⟨rfl, dr⟩ (Fs.one ⟨x, rfl, rfl, dr⟩) (by simp) (fun a ha => by simp at ha) e4
  refine ⟨F', ⟨sF, fun a h1 h2 => (k a (by simpa using nF a h1 h2)).1⟩, Kd.set e1 (by rw [e2]; simp), ?_⟩
  have e5 : (qs ++ env).set (qs.length + i) (s.wth t') = qs ++ env.set i (s.wth t') := by
    rw [List.set_append_right _ _ (by omega)]; simp
  rw [e5] at st
  simpa using st
theorem Got.keep {v : Val} {x : V} {t : T} {env' : Env} (h : Got K B F H env σ [v] [x]) (e : DL.keep v env = some (t, env')) : ∃ F', Gr B F F' ∧ Kd env env' ∧ St K B F' H (.va t :: env') (some x :: σ) := by
  cases v with
  | tv u => cases e; exact ⟨F, Gr.refl _ _, Kd.refl _, h.st⟩
  | pl i p =>
    obtain ⟨⟨d, e2⟩, e3, e⟩ := Option.map_eq_some_iff.mp e
    cases e
    obtain ⟨y, l, ey, pk, _⟩ := h.pl
    cases ey
    obtain ⟨F', g, kd, st⟩ := St.frzP (qs := []) (xs := []) rfl h.base pk e3
    exact ⟨F', g, kd, st⟩
end
abbrev MB := Env → R (Bool × Env)
def PostB (K : Kf) (B F : Hp) (env : Env) (σ : L2.St) (E : XS) (Q : Bool → Hp → Prop) : R (Bool × Env) → Prop
  | .ok (b, env') => ∀ F' H', Gr B F F' → Kd env env' → St K B F' H' env' σ → Q b H'
  | .ex c env' => ∀ od F' H', Gr B F F' → Kd env env' → St K B F' H' env' σ → ExOk K F' H' c od → E σ (.ref c.C) od H'
  | .st => False
def EvB (K : Kf) (E : XS) (t : TT) (m : MB) : Prop := ∀ (B F H : Hp) (σ : L2.St) (env : Env) (Q : Bool → Hp → Prop), St K B F H env σ → Vw K B F env σ → PostB K B F env σ E Q (m env) → t σ H Q
def TruN (K : Kf) (f : T → Option Bool) : Prop := ∀ (H F : Hp) (u : T) (x : V) (b : Bool), VR K H F u x → SubR F H → f u = some b → TruV K x H b
def mTst (f : T → Option Bool) (m : ME) : MB := fun e => (m e).bnd fun v e1 => match (cn v e1).bind f with
  | some b => .ok (b, e1)
  | none => .st
section
variable {K : Kf} {E : XS}
theorem ev_tst {te : TE} {m : ME} {f : T → Option Bool} (he : EvT K E te m) (r : V → Hp → (Bool → Hp → Prop) → Prop)
    (hr : ∀ (H F : Hp) (u : T) (x : V) (b : Bool) (Q : Bool → Hp → Prop), VR K H F u x → SubR F H → f u = some b → Q b H → r x H Q) : EvB K E (fun σ H Q => te σ H fun x H' => r x H' Q) (mTst f m) := by
  intro B F H σ env Q h hv hp
  refine he B F H σ env _ h hv ?_
  unfold mTst at hp
  cases e : m env with
  | st => rw [e] at hp; exact hp
  | ex c e1 => rw [e] at hp; exact hp
  | ok a =>
    obtain ⟨v, e1⟩ := a
    rw [e] at hp
    simp only [R.bnd] at hp
    intro x F' H' g kd got
    cases c : (cn v e1).bind f with
    | none => rw [c] at hp; exact hp.elim
    | some b =>
      rw [c] at hp
      obtain ⟨u, c1, c2⟩ := Option.bind_eq_some_iff.mp c
      obtain ⟨y, l, ey, vr, _⟩ := got.vrs (Got.kd (H' := H') hv g kd) (ts := [u]) (by simp [cns, c1])
      cases ey
      exact hr H' F' u x b Q vr got.base.sf c2 (hp F' H' g kd got.base)
def mNot (m : MB) : MB := fun e => (m e).bnd fun b e1 => .ok (!b, e1)
def mAnd (m n : MB) : MB := fun e => (m e).bnd fun b e1 => if b = true then n e1 else .ok (false, e1)
def mOr (m n : MB) : MB := fun e => (m e).bnd fun b e1 => if b = true then .ok (true, e1) else n e1
theorem PostB.trans {B F F1 : Hp} {env env1 : Env} {σ : L2.St} {Q : Bool → Hp → Prop} {r : R (Bool × Env)} (g : Gr B F F1) (kd : Kd env env1) (h : PostB K B F env σ E Q r) : PostB K B F1 env1 σ E Q r := by
  cases r with
  | st => exact h
  | ex c e => exact fun od F' H' g' k' st ok => h od F' H' (g.trans g') (kd.trans k') st ok
  | ok a => exact fun F' H' g' k' st => h F' H' (g.trans g') (kd.trans k') st
theorem ev_not {t : TT} {m : MB} (h : EvB K E t m) : EvB K E (tNot t) (mNot m) := by
  intro B F H σ env Q hs hv hp
  refine h B F H σ env _ hs hv ?_
  unfold mNot at hp
  cases e : m env with
  | st => rw [e] at hp; exact hp
  | ex c e1 => rw [e] at hp; exact hp
  | ok a => obtain ⟨b, e1⟩ := a; rw [e] at hp; exact hp
theorem ev_and {t u : TT} {m n : MB} (h : EvB K E t m) (k : EvB K E u n) : EvB K E (tAnd t u) (mAnd m n) := by
  intro B F H σ env Q hs hv hp
  refine h B F H σ env _ hs hv ?_
  unfold mAnd at hp
  cases e : m env with
  | st => rw [e] at hp; exact hp
  | ex c e1 => rw [e] at hp; exact hp
  | ok a =>
    obtain ⟨b, e1⟩ := a
    rw [e] at hp
    simp only [R.bnd] at hp
    intro F' H' g kd st
    cases b with
    | true =>
      rw [if_pos rfl] at hp ⊢
      exact k B F' H' σ e1 Q st (Got.kd (H' := H') hv g kd) (hp.trans g kd)
    | false =>
      rw [if_neg (by decide)] at hp ⊢
      exact hp F' H' g kd st
theorem ev_or {t u : TT} {m n : MB} (h : EvB K E t m) (k : EvB K E u n) : EvB K E (tOr t u) (mOr m n) := by
  intro B F H σ env Q hs hv hp
  refine h B F H σ env _ hs hv ?_
  unfold mOr at hp
  cases e : m env with
  | st => rw [e] at hp; exact hp
  | ex c e1 => rw [e] at hp; exact hp
  | ok a =>
    obtain ⟨b, e1⟩ := a
    rw [e] at hp
    simp only [R.bnd] at hp
    intro F' H' g kd st
    cases b with
    | false =>
      rw [if_neg (by decide)] at hp ⊢
      exact k B F' H' σ e1 Q st (Got.kd (H' := H') hv g kd) (hp.trans g kd)
    | true =>
      rw [if_pos rfl] at hp ⊢
      exact hp F' H' g kd st
theorem PostV.trans {B F F1 : Hp} {env env1 : Env} {σ : L2.St} {Q : VK} {r : R (Val × Env)} (g : Gr B F F1) (kd : Kd env env1) (h : PostV K B F env σ E Q r) : PostV K B F1 env1 σ E Q r := by
  cases r with
  | st => exact h
  | ex c e => exact fun od F' H' g' k' st ok => h od F' H' (g.trans g') (kd.trans k') st ok
  | ok a => exact fun x F' H' g' k' got => h x F' H' (g.trans g') (kd.trans k') got
def mIf (c : MB) (m n : ME) : ME := fun e => (c e).bnd fun b e1 => if b = true then m e1 else n e1
theorem ev_if {t : TT} {ta tb : TE} {c : MB} {m n : ME} (h : EvB K E t c) (ha : EvT K E ta m) (hb : EvT K E tb n) : EvT K E (tIf t ta tb) (mIf c m n) := by
  intro B F H σ env Q hs hv hp
  refine h B F H σ env _ hs hv ?_
  unfold mIf at hp
  cases e : c env with
  | st => rw [e] at hp; exact hp
  | ex c e1 => rw [e] at hp; exact hp
  | ok a =>
    obtain ⟨b, e1⟩ := a
    rw [e] at hp
    simp only [R.bnd] at hp
    intro F' H' g kd st
    cases b with
    | true =>
      rw [if_pos rfl] at hp ⊢
      exact ha B F' H' σ e1 Q st (Got.kd (H' := H') hv g kd) (hp.trans g kd)
    | false =>
      rw [if_neg (by decide)] at hp ⊢
      exact hb B F' H' σ e1 Q st (Got.kd (H' := H') hv g kd) (hp.trans g kd)
end
inductive Out where
  | nx (e : Env) | rt (t : T) (e : Env) | bk (e : Env) | ct (e : Env)
abbrev MS := Env → R Out
def Kp (e : Env) (σ : L2.St) (e' : Env) (σ' : L2.St) : Prop := ∀ i : Nat, (∀ t, e'[i]? = some (Slot.vw t) → e[i]? = some (Slot.vw t) ∧ σ'[i]? = σ[i]?) ∧
  ((∃ t, e'[i]? = some (Slot.mu t)) ↔ ∃ t, e[i]? = some (Slot.mu t)) ∧ ((∃ t, e[i]? = some (Slot.mu t)) → σ'[i]? = σ[i]?)
theorem Kp.refl (e : Env) (σ : L2.St) : Kp e σ e σ := fun _ => ⟨fun _ h => ⟨h, rfl⟩, Iff.rfl, fun _ => rfl⟩
theorem Kp.of {e e' : Env} {σ : L2.St} (k : Kd e e') : Kp e σ e' σ := fun i => ⟨fun t h => ⟨((k i).1 t).mpr h, rfl⟩, (k i).2.symm, fun _ => rfl⟩
theorem Kp.trans {e e' e2 : Env} {σ σ' σ2 : L2.St} (h : Kp e σ e' σ') (k : Kp e' σ' e2 σ2) : Kp e σ e2 σ2 := fun i =>
  ⟨fun t z => let ⟨a, b⟩ := (k i).1 t z; let ⟨c, d⟩ := (h i).1 t a; ⟨c, b.trans d⟩, ((k i).2.1).trans (h i).2.1, fun z => ((k i).2.2 ((h i).2.1.mpr z)).trans ((h i).2.2 z)⟩
theorem Kp.vw {K : Kf} {B F F' : Hp} {e e' : Env} {σ σ' : L2.St} (k : Kp e σ e' σ') (g : Gr B F F') (h : Vw K B F e σ) : Vw K B F' e' σ' := fun i t z => by
  obtain ⟨a, b⟩ := (k i).1 t z
  obtain ⟨v, c, d⟩ := h i t a
  exact ⟨v, by rw [b]; exact c, d.mono (SubR.refl _) g.sub⟩
def PostS (K : Kf) (B F : Hp) (env : Env) (σ : L2.St) (E : XS) (D : Ends) : R Out → Prop
  | .ok (.nx e') => ∀ σ' F' H', Gr B F F' → Kp env σ e' σ' → St K B F' H' e' σ' → D.nx σ' H'
  | .ok (.bk e') => ∀ σ' F' H', Gr B F F' → Kp env σ e' σ' → St K B F' H' e' σ' → D.bk σ' H'
  | .ok (.ct e') => ∀ σ' F' H', Gr B F F' → Kp env σ e' σ' → St K B F' H' e' σ' → D.ct σ' H'
  | .ok (.rt t e') => ∀ x σ' F' H', Gr B F F' → Kp env σ e' σ' → St K B F' H' (.va t :: e') (some x :: σ') → D.rt x H'
  | .ex c e' => ∀ od σ' F' H', Gr B F F' → Kp env σ e' σ' → St K B F' H' e' σ' → ExOk K F' H' c od → E σ' (.ref c.C) od H'
  | .st => False
def DsT (K : Kf) (E : XS) (t : TS) (m : MS) : Prop := ∀ (B F H : Hp) (σ : L2.St) (env : Env) (D : Ends), St K B F H env σ → Vw K B F env σ → PostS K B F env σ E D (m env) → t D σ H
section
variable {K : Kf} {E : XS}
theorem PostS.trans {B F F1 : Hp} {env env1 : Env} {σ σ1 : L2.St} {D : Ends} {r : R Out} (g : Gr B F F1) (k : Kp env σ env1 σ1) (h : PostS K B F env σ E D r) : PostS K B F1 env1 σ1 E D r := by
  cases r with
  | st => exact h
  | ex c e => exact fun od σ' F' H' g' k' st ok => h od σ' F' H' (g.trans g') (k.trans k') st ok
  | ok a =>
    cases a with
    | nx e => exact fun σ' F' H' g' k' st => h σ' F' H' (g.trans g') (k.trans k') st
    | bk e => exact fun σ' F' H' g' k' st => h σ' F' H' (g.trans g') (k.trans k') st
    | ct e => exact fun σ' F' H' g' k' st => h σ' F' H' (g.trans g') (k.trans k') st
    | rt t e => exact fun x σ' F' H' g' k' st => h x σ' F' H' (g.trans g') (k.trans k') st
def mSkip : MS := fun e => .ok (.nx e)
def mSeq (m n : MS) : MS := fun e => match m e with
  | .ok (.nx e1) => n e1
  | r => r
theorem ds_skip : DsT K E tNext mSkip := fun B F H σ env D hs hv hp => hp σ F H (Gr.refl _ _) (Kp.refl _ _) hs
theorem ds_seq {t u : TS} {m n : MS} (h : DsT K E t m) (k : DsT K E u n) : DsT K E (tSeq t u) (mSeq m n) := by
  intro B F H σ env D hs hv hp
  refine h B F H σ env { D with nx := u D } hs hv ?_
  unfold mSeq at hp
  cases e : m env with
  | st => rw [e] at hp; exact hp
  | ex c e1 => rw [e] at hp; exact hp
  | ok a =>
    rw [e] at hp
    cases a with
    | nx e1 => exact fun σ' F' H' g kp st => k B F' H' σ' e1 D st (kp.vw g hv) (PostS.trans g kp hp)
    | bk e => exact hp
    | ct e => exact hp
    | rt t e => exact hp
def mIfS (c : MB) (m n : MS) : MS := fun e => match c e with
  | .ok (b, e1) => if b = true then m e1 else n e1
  | .ex c e1 => .ex c e1
  | .st => .st
theorem ds_if {t : TT} {ta tb : TS} {c : MB} {m n : MS} (h : EvB K E t c) (ha : DsT K E ta m) (hb : DsT K E tb n) : DsT K E (tIfS t ta tb) (mIfS c m n) := by
  intro B F H σ env D hs hv hp
  refine h B F H σ env _ hs hv ?_
  unfold mIfS at hp
  cases e : c env with
  | st => rw [e] at hp; exact hp
  | ex c e1 => rw [e] at hp; exact fun od F' H' g kd st ok => hp od σ F' H' g (.of kd) st ok
  | ok a =>
    obtain ⟨b, e1⟩ := a
    rw [e] at hp
    simp only at hp
    intro F' H' g kd st
    cases b with
    | true =>
      rw [if_pos rfl] at hp ⊢
      exact ha B F' H' σ e1 D st (Got.kd (H' := H') hv g kd) (PostS.trans g (.of kd) hp)
    | false =>
      rw [if_neg (by decide)] at hp ⊢
      exact hb B F' H' σ e1 D st (Got.kd (H' := H') hv g kd) (PostS.trans g (.of kd) hp)
def mE (m : ME) (k : Val → Env → R Out) : MS := fun e => match m e with
  | .ok (v, e1) => k v e1
  | .ex c e1 => .ex c e1
  | .st => .st
theorem ds_e {te : TE} {m : ME} {k : Val → Env → R Out} {body : Ends → V → L2.St → Hp → Prop} (h : EvT K E te m)
    (hb : ∀ (B F H : Hp) (σ : L2.St) (env : Env) (D : Ends) (v : Val) (x : V), Got K B F H env σ [v] [x] → Vw K B F env σ → PostS K B F env σ E D (k v env) → body D x σ H) : DsT K E (fun D σ H => te σ H fun x H1 => body D x σ H1) (mE m k) := by
  intro B F H σ env D hs hv hp
  refine h B F H σ env _ hs hv ?_
  unfold mE at hp
  cases e : m env with
  | st => rw [e] at hp; exact hp
  | ex c e1 => rw [e] at hp; exact fun od F' H' g kd st ok => hp od σ F' H' g (.of kd) st ok
  | ok a =>
    obtain ⟨v, e1⟩ := a
    rw [e] at hp
    exact fun x F' H' g kd got => hb B F' H' σ e1 D v x got (Got.kd (H' := H') hv g kd) (PostS.trans g (.of kd) hp)
def mDrop (m : ME) : MS := mE m fun _ e => .ok (.nx e)
theorem ds_drop {te : TE} {m : ME} (h : EvT K E te m) : DsT K E (tDrop te) (mDrop m) :=
  ds_e (body := fun D _ σ H1 => D.nx σ H1) h fun B F H σ env D v x got hv hp => hp σ F H (Gr.refl _ _) (Kp.refl _ _) got.base
def retV (v : Val) (e : Env) : Option (T × Env) :=
  match v with
  | .tv t => some (t, e)
  | .pl i [] => match e[i]? with
    | some (.va t) => some (t, e.set i .un)
    | _ => keep v e
  | _ => keep v e
def mRet (m : ME) : MS := mE m fun v e => match retV v e with
  | some (t, e1) => .ok (.rt t e1)
  | none => .st
theorem Got.ret {B F H : Hp} {env env' : Env} {σ : L2.St} {v : Val} {x : V} {t : T} (h : Got K B F H env σ [v] [x]) (e : retV v env = some (t, env')) : ∃ F', Gr B F F' ∧ Kd env env' ∧ St K B F' H (.va t :: env') (some x :: σ) := by
  unfold retV at e
  cases v with
  | tv u => cases e; exact ⟨F, Gr.refl _ _, Kd.refl _, h.st⟩
  | pl i p =>
    cases p with
    | cons q p => exact h.keep e
    | nil =>
      simp only at e
      split at e
      · rename_i t' he
        cases e
        obtain ⟨y, l, ey, ⟨w, ew, wk⟩, _⟩ := h.pl
        cases ey
        have wk : x = w := wk
        subst wk
        obtain ⟨S, f, nd, k⟩ := h.base.fp
        obtain ⟨o, L, Sa, Rr, h1, h2, h3, h4⟩ := f.at he
        rw [ew] at h1
        cases h1
        obtain ⟨w, e2, tr⟩ := h3
        cases e2
        subst h2
        have P : (L ++ Sa ++ Rr).Perm (Sa ++ (L ++ [] ++ Rr)) := by
          rw [List.append_nil, List.append_assoc]
          exact List.perm_append_comm_assoc L Sa Rr
        refine ⟨F, Gr.refl _ _, fun j => ?_, h.base.sb, h.base.sf, Sa ++ (L ++ [] ++ Rr), ⟨some x, σ, Sa, L ++ [] ++ Rr, rfl, rfl, ⟨x, rfl, tr⟩, h4 _ _ [] (fun _ _ _ _ z => z) rfl⟩, P.nodup_iff.mp nd, fun a ha => k a (P.mem_iff.mpr ha)⟩
        by_cases hj : j = i
        · subst hj
          rw [List.getElem?_set_self (List.getElem?_eq_some_iff.mp he).1, he]
          simp
        · rw [List.getElem?_set_ne (Ne.symm hj)]
          exact ⟨fun _ => Iff.rfl, Iff.rfl⟩
      · exact h.keep e
theorem ds_ret {te : TE} {m : ME} (h : EvT K E te m) : DsT K E (tRet te) (mRet m) :=
  ds_e (body := fun D x _ H1 => D.rt x H1) h fun B F H σ env D v x got hv hp => by
    cases e : retV v env with
    | none => rw [e] at hp; exact hp.elim
    | some q =>
      obtain ⟨t, e1⟩ := q
      rw [e] at hp
      obtain ⟨F', g, kd, st⟩ := got.ret e
      exact hp x σ F' H g (.of kd) st
abbrev MG := T → Env → R Env
def PostG (K : Kf) (B F : Hp) (env : Env) (σ : L2.St) (vs : List Nat) (Q : L2.St → Hp → Prop) : R Env → Prop
  | .ok e' => ∀ (σ' : L2.St) F' H', Gr B F F' → Kp env σ e' σ' → (∀ j, j ∉ vs → e'[j]? = env[j]? ∧ σ'[j]? = σ[j]?) → List.length e' = List.length env → St K B F' H' e' σ' → Q σ' H'
  | _ => False
def EvG (K : Kf) (g : TG) (m : MG) (vs : List Nat) : Prop := ∀ (B F H : Hp) (σ : L2.St) (env : Env) (t : T) (x : V) (Q : L2.St → Hp → Prop), St K B F H (.va t :: env) (some x :: σ) → Vw K B F env σ → PostG K B F env σ vs Q (m t env) → g x σ H Q
def gN (i : Nat) : MG := fun t e => match e[i]? with
  | some (.mu _) => .st
  | some _ => .ok (e.set i (.va t))
  | none => .st
theorem ev_gN {i : Nat} : EvG K (gName i) (gN i) [i] := by
  intro B F H σ env t x Q hs hv hp
  show Q (σ.set i (some x)) H
  unfold gN at hp
  have go : ∀ s, env[i]? = some s → (∀ u, s ≠ .mu u) → PostG K B F env σ [i] Q (.ok (env.set i (.va t))) → Q (σ.set i (some x)) H := by
    intro s e1 hm hp
    have hlt := (List.getElem?_eq_some_iff.mp e1).1
    have hlen := hs.drop.len
    refine hp (σ.set i (some x)) F H (Gr.refl _ _) (fun j => ?_) (fun j hj => ?_) (by simp) ?_
    · by_cases hj : j = i
      · subst hj
        rw [List.getElem?_set_self hlt, e1]
        refine ⟨fun t h => by simp at h, ?_, fun ⟨u, h⟩ => by simp at h; exact absurd h (hm u)⟩
        exact ⟨fun ⟨u, h⟩ => by simp at h, fun ⟨u, h⟩ => by simp at h; exact absurd h (hm u)⟩
      · rw [List.getElem?_set_ne (Ne.symm hj), List.getElem?_set_ne (Ne.symm hj)]
        exact ⟨fun t h => ⟨h, rfl⟩, Iff.rfl, fun _ => rfl⟩
    · have hj : j ≠ i := by simpa using hj
      rw [List.getElem?_set_ne (Ne.symm hj), List.getElem?_set_ne (Ne.symm hj)]
      exact ⟨rfl, rfl⟩
    · exact hs.store hlt
  cases e1 : env[i]? with
  | none => rw [e1] at hp; exact hp.elim
  | some s =>
    rw [e1] at hp
    cases s with
    | mu u => exact hp.elim
    | un => exact go _ e1 (fun u z => nomatch z) hp
    | va u => exact go _ e1 (fun u z => nomatch z) hp
    | vw u => exact go _ e1 (fun u z => nomatch z) hp
end
def Unl (P : Addr → Prop) (H Hu : Hp) : Prop := Hu = H ∨ ∃ d od u, H d = some (.frz od u) ∧ P d ∧ Hu = upd H d u
def Pf (X : Cx) (d : Addr) : Prop := ∀ o' u', X.H_0 d ≠ some (.frz o' u')
theorem inv_unl {X : Cx} {pins : List (Addr × Obj)} {σ : L2.St} {H Hu : Hp} {s : Shared} (I : Inv X pins σ H s) (h : Unl (Pf X) H Hu) : Inv X pins σ Hu s := by
  rcases h with rfl | ⟨d, od, u, e, hn, rfl⟩
  · exact I
  · exact I.unlock e hn
def unl (P : Addr → Prop) (D : Ends) : Ends := ⟨fun σ H => ∃ Hu, Unl P H Hu ∧ D.nx σ Hu, fun v H => ∃ Hu, Unl P H Hu ∧ D.rt v Hu, fun σ H => ∃ Hu, Unl P H Hu ∧ D.bk σ Hu, fun σ H => ∃ Hu, Unl P H Hu ∧ D.ct σ Hu⟩
theorem ps_unl {X : Cx} {st : Stmt} {t : TS} (h : PS X st t) : PS X st (fun D σ H => t (unl (Pf X) D) σ H) := by
  refine ⟨fun pins s σ H D I hw => ?_⟩
  refine thn (h.run pins s σ _ _ I hw) fun f s1 q => ?_
  cases f with
  | next => obtain ⟨σ', H', I2, Hu, e, q⟩ := q; exact ⟨σ', _, inv_unl I2 e, q⟩
  | brk => obtain ⟨σ', H', I2, Hu, e, q⟩ := q; exact ⟨σ', _, inv_unl I2 e, q⟩
  | cont => obtain ⟨σ', H', I2, Hu, e, q⟩ := q; exact ⟨σ', _, inv_unl I2 e, q⟩
  | ret v => obtain ⟨x, σ', H', I2, r, Hu, e, q⟩ := q; exact ⟨x, σ', _, inv_unl I2 e, r, q⟩
theorem pe_unl {X : Cx} {e : Expr} {t : TE} (h : PE X e t) : PE X e (fun σ H Q => t σ H fun v H' => ∃ Hu, Unl (Pf X) H' Hu ∧ Q v Hu) := by
  refine ⟨fun pins s σ H Q I hw => ?_⟩
  refine thn (h.run pins s σ _ _ I hw) fun v s1 ⟨x, H1, I2, r, Hu, e2, q⟩ => ?_
  exact ⟨x, _, inv_unl I2 e2, r, q⟩
def tLkD (P : Addr → Prop) (te : TE) : TE := fun σ H Q => te σ H fun x H1 => ∃ d kvs, x = .ref d ∧ Rd H1 d (.dK kvs) ∧
  ∀ od Hl, ((H1 d = some (.frz od (.dK kvs)) ∧ Hl = H1) ∨ (H1 d = some (.dK kvs) ∧ P d ∧ Hl = upd H1 d (.frz od (.dK kvs)))) → Q x Hl
theorem pe_lkD {X : Cx} {e : Expr} {te : TE} (h : PE X e te) : PE X e (tLkD (Pf X) te) := by
  refine ⟨fun pins s σ H Q I hw => ?_⟩
  refine thn (h.run pins s σ _ _ I hw) fun v s1 ⟨x, H1, I1, r, d, kvs, ex, rd, q⟩ => ?_
  rcases rd with hd | ⟨od, hd⟩
  · obtain ⟨od, I2⟩ := I1.lock hd trivial
    exact ⟨x, _, I2, r, q od _ (.inr ⟨hd, I1.nofrz hd trivial, rfl⟩)⟩
  · exact ⟨x, H1, I1, r, q od H1 (.inl ⟨hd, rfl⟩)⟩
structure WalkD (K : Kf) (B F : Hp) (J : It) (ds : List D) : Prop where
  go : ∀ (i : Nat) (F2 H2 : Hp) (env : Env) (σ : L2.St), i < ds.length → Gr B F F2 → St K B F2 H2 env σ → J.go i H2
  stop : ∀ (F2 H2 : Hp) (env : Env) (σ : L2.St), Gr B F F2 → St K B F2 H2 env σ → J.stop ds.length H2
  yld : ∀ (i : Nat) (d : D) (F2 H2 : Hp) (env : Env) (σ : L2.St) (x : V) (H3 : Hp), ds[i]? = some d → Gr B F F2 → St K B F2 H2 env σ → J.yld i H2 x H3 → ∃ F3, Gr B F2 F3 ∧ St K B F3 H3 (.va (.sh d) :: env) (some x :: σ)
abbrev MI := Env → R (List D × Env)
def PostI (K : Kf) (P : Addr → Prop) (B F : Hp) (env : Env) (σ : L2.St) (E : XS) (Rr : It → Hp → Prop) : R (List D × Env) → Prop
  | .ok (ds, env') => ∀ J F' H' Bl, Gr B F F' → Kd env env' → St K Bl F' H' env' σ → SubR B Bl → (∀ a, Bl a = none → B a = none) → WalkD K Bl F' J ds →
      (∀ (F2 H2 : Hp) (qs : List Slot) (os : List (Option V)), Gr Bl F' F2 → St K Bl F2 H2 qs os → ∃ Hu, Unl P H2 Hu ∧ St K B F2 Hu qs os) → Rr J H'
  | .ex c env' => ∀ od F' H', Gr B F F' → Kd env env' → St K B F' H' env' σ → ExOk K F' H' c od → E σ (.ref c.C) od H'
  | .st => False
def EvI (K : Kf) (E : XS) (wi : (Addr → Prop) → TI) (mi : MI) : Prop := ∀ (P : Addr → Prop) (B F H : Hp) (σ : L2.St) (env : Env) (Rr : It → Hp → Prop), St K B F H env σ → Vw K B F env σ → PostI K P B F env σ E Rr (mi env) → wi P σ H Rr
theorem Gr.low {Bl B F F' : Hp} (h : Gr Bl F F') (k : ∀ a, Bl a = none → B a = none) : Gr B F F' := ⟨h.same, fun a e z => k a (h.new a e z)⟩
def loopS (mg : MG) (mb : MS) : List D → Env → R Out
  | [], e => .ok (.nx e)
  | d :: r, e => match mg (.sh d) e with
    | .ok e1 => match mb e1 with
      | .ok (.nx e2) => loopS mg mb r e2
      | .ok (.ct e2) => loopS mg mb r e2
      | .ok (.bk e2) => .ok (.nx e2)
      | .ok (.rt t e2) => .ok (.rt t e2)
      | .ex c e2 => .ex c e2
      | .st => .st
    | _ => .st
def mFor (mi : MI) (mg : MG) (mb : MS) : MS := fun e => match mi e with
  | .ok (ds, e1) => loopS mg mb ds e1
  | .ex c e1 => .ex c e1
  | .st => .st
def PostI0 (K : Kf) (B F : Hp) (env : Env) (σ : L2.St) (E : XS) (Rr : It → Hp → Prop) : R (List D × Env) → Prop
  | .ok (ds, env') => ∀ J F' H', Gr B F F' → Kd env env' → St K B F' H' env' σ → WalkD K B F' J ds → Rr J H'
  | .ex c env' => ∀ od F' H', Gr B F F' → Kd env env' → St K B F' H' env' σ → ExOk K F' H' c od → E σ (.ref c.C) od H'
  | .st => False
def EvI0 (K : Kf) (E : XS) (wi : TI) (mi : MI) : Prop := ∀ (B F H : Hp) (σ : L2.St) (env : Env) (Rr : It → Hp → Prop), St K B F H env σ → Vw K B F env σ → PostI0 K B F env σ E Rr (mi env) → wi σ H Rr
theorem EvI0.i {K : Kf} {E : XS} {wi : TI} {mi : MI} (h : EvI0 K E wi mi) : EvI K E (fun _ => wi) mi := by
  intro P B F H σ env Rr hs hv hp
  refine h B F H σ env Rr hs hv ?_
  cases e : mi env with
  | st => rw [e] at hp; exact hp
  | ex c e1 => rw [e] at hp; exact hp
  | ok a =>
    obtain ⟨ds, e1⟩ := a
    rw [e] at hp
    exact fun J F' H' g kd st W => hp J F' H' B g kd st (SubR.refl _) (fun _ z => z) W fun F2 H2 qs os _ st2 => ⟨H2, .inl rfl, st2⟩
def loopL (mg : MG) (mb : MS) : List D → Env → R Out
  | [], e => .ok (.nx e)
  | d :: r, e => match mg (.sh d) e with
    | .ok e1 => match mb e1 with
      | .ok (.nx e2) => loopL mg mb r e2
      | .ok (.ct e2) => loopL mg mb r e2
      | .ok (.bk e2) => .ok (.nx e2)
      | .ok (.rt t e2) => .ok (.rt t e2)
      | _ => .st
    | _ => .st
def mForL (mi : MI) (mg : MG) (mb : MS) : MS := fun e => match mi e with
  | .ok (ds, e1) => loopL mg mb ds e1
  | .ex c e1 => .ex c e1
  | .st => .st
section
variable {K : Kf} {E : XS}
theorem ds_forL {wi : (Addr → Prop) → TI} {g : TG} {tb : TS} {mi : MI} {mg : MG} {mb : MS} {vs : List Nat} (hi : EvI K E wi mi) (hg : EvG K g mg vs) (hb : DsT K NX tb mb) :
    DsT K E (fun D σ H => ∀ P, tFor (wi P) g tb (unl P D) σ H) (mForL mi mg mb) := by
  intro B F H σ env D hs hv hp P
  refine hi P B F H σ env _ hs hv ?_
  unfold mForL at hp
  cases e : mi env with
  | st => rw [e] at hp; exact hp
  | ex c e1 => rw [e] at hp; exact fun od F' H' g kd st ok => hp od σ F' H' g (.of kd) st ok
  | ok a =>
    obtain ⟨ds, env1⟩ := a
    rw [e] at hp
    intro J F1 H1 Bl g1 kd1 st1 sBl nBl W back
    have hv1 : Vw K Bl F1 env1 σ := (Got.kd (H' := H1) hv g1 kd1).gr sBl (SubR.refl _)
    -- what is left at turn i
    refine ⟨fun i m σ2 H2 => m = ds.length - i ∧ i ≤ ds.length ∧ ∃ F2 env2, Gr Bl F1 F2 ∧ Kp env1 σ env2 σ2 ∧ St K Bl F2 H2 env2 σ2 ∧ PostS K B F env σ E D (loopL mg mb (ds.drop i) env2), ⟨ds.length, by simp, Nat.zero_le _, F1, env1, Gr.refl _ _, Kp.refl _ _, st1, by simpa using hp⟩, ?_⟩
    rintro i m σ2 H2 ⟨rfl, hi, F2, env2, g2, kp2, st2, hp2⟩
    by_cases hlt : i < ds.length
    · refine .inr ⟨W.go i F2 H2 env2 σ2 hlt g2 st2, fun σ' H' => ∃ F3 env3, Gr Bl F1 F3 ∧ Kp env1 σ env3 σ' ∧ St K Bl F3 H' env3 σ' ∧ PostS K B F env σ E D (loopL mg mb (ds.drop (i + 1)) env3), fun σ' H' ⟨F3, env3, a, b, c, d⟩ => ⟨ds.length - (i + 1), by omega, rfl, hlt, F3, env3, a, b, c, d⟩, fun x H3 y => ?_⟩
      obtain ⟨F3, g3, st3⟩ := W.yld i ds[i] F2 H2 env2 σ2 x H3 (by simp [hlt]) g2 st2 y
      rw [List.drop_eq_getElem_cons hlt] at hp2
      unfold loopL at hp2
      refine hg Bl F3 H3 σ2 env2 (.sh ds[i]) x _ st3 ((kp2.vw g2 hv1).gr (SubR.refl _) g3.sub) ?_
      cases e4 : mg (.sh ds[i]) env2 with
      | st => rw [e4] at hp2; exact hp2
      | ex c e5 => rw [e4] at hp2; exact hp2
      | ok env4 =>
        rw [e4] at hp2
        simp only at hp2
        intro σ4 F4 H4 g4 kp4 _ _ st4
        have g14 : Gr Bl F1 F4 := g2.trans (g3.trans g4)
        have kp14 := kp2.trans kp4
        refine hb Bl F4 H4 σ4 env4 _ st4 (kp14.vw g14 hv1) ?_
        have gB : ∀ {F5 : Hp}, Gr Bl F4 F5 → Gr B F F5 := fun g5 => g1.trans ((g14.trans g5).low nBl)
        have kB : ∀ {e5 : Env} {σ5 : L2.St}, Kp env4 σ4 e5 σ5 → Kp env σ e5 σ5 := fun k5 => (Kp.of kd1).trans (kp14.trans k5)
        cases e6 : mb env4 with
        | st => rw [e6] at hp2; exact hp2
        | ex c e7 => rw [e6] at hp2; exact hp2.elim
        | ok b =>
          rw [e6] at hp2
          cases b with
          | nx e7 => exact fun σ5 F5 H5 g5 k5 st5 => ⟨F5, e7, g14.trans g5, kp14.trans k5, st5, hp2⟩
          | ct e7 => exact fun σ5 F5 H5 g5 k5 st5 => ⟨F5, e7, g14.trans g5, kp14.trans k5, st5, hp2⟩
          | bk e7 =>
            intro σ5 F5 H5 g5 k5 st5
            obtain ⟨Hu, hu, stu⟩ := back F5 H5 _ _ (g14.trans g5) st5
            exact ⟨Hu, hu, hp2 σ5 F5 Hu (gB g5) (kB k5) stu⟩
          | rt t e7 =>
            intro x5 σ5 F5 H5 g5 k5 st5
            obtain ⟨Hu, hu, stu⟩ := back F5 H5 _ _ (g14.trans g5) st5
            exact ⟨Hu, hu, hp2 x5 σ5 F5 Hu (gB g5) (kB k5) stu⟩
    · have he : i = ds.length := by omega
      subst he
      refine .inl ⟨W.stop F2 H2 env2 σ2 g2 st2, ?_⟩
      obtain ⟨Hu, hu, stu⟩ := back F2 H2 _ _ g2 st2
      rw [List.drop_length] at hp2
      exact ⟨Hu, hu, hp2 σ2 F2 Hu (g1.trans (g2.low nBl)) ((Kp.of kd1).trans kp2) stu⟩
def whileS (c : MB) (mb : MS) : Nat → Env → R Out
  | 0, _ => .st
  | n + 1, e => match c e with
    | .ok (b, e1) => if b = true then match mb e1 with
        | .ok (.nx e2) => whileS c mb n e2
        | .ok (.ct e2) => whileS c mb n e2
        | .ok (.bk e2) => .ok (.nx e2)
        | .ok (.rt t e2) => .ok (.rt t e2)
        | .ex c e2 => .ex c e2
        | .st => .st
      else .ok (.nx e1)
    | .ex c e1 => .ex c e1
    | .st => .st
theorem ds_while {tc : TT} {tb : TS} {c : MB} {mb : MS} (n : Nat) (hc : EvB K E tc c) (hb : DsT K E tb mb) : DsT K E (tWhile tc tb) (whileS c mb n) := by
  intro B F H σ env D hs hv hp
  refine ⟨fun m σ2 H2 => ∃ F2 env2, Gr B F F2 ∧ Kp env σ env2 σ2 ∧ St K B F2 H2 env2 σ2 ∧ PostS K B F env σ E D (whileS c mb m env2), ⟨n, F, env, Gr.refl _ _, Kp.refl _ _, hs, hp⟩, ?_⟩
  rintro m σ2 H2 ⟨F2, env2, g2, kp2, st2, hp2⟩
  cases m with
  | zero => exact hp2.elim
  | succ m =>
    unfold whileS at hp2
    refine hc B F2 H2 σ2 env2 _ st2 (kp2.vw g2 hv) ?_
    cases e : c env2 with
    | st => rw [e] at hp2; exact hp2
    | ex x e1 => rw [e] at hp2; exact fun od F' H' g kd st ok => hp2 od σ2 F' H' (g2.trans g) (kp2.trans (.of kd)) st ok
    | ok a =>
      obtain ⟨b, env3⟩ := a
      rw [e] at hp2
      simp only at hp2
      intro F3 H3 g3 kd3 st3
      have g13 := g2.trans g3
      have kp13 := kp2.trans (Kp.of (σ := σ2) kd3)
      cases b with
      | false =>
        rw [if_neg (by decide)] at hp2 ⊢
        exact hp2 σ2 F3 H3 g13 kp13 st3
      | true =>
        rw [if_pos rfl] at hp2 ⊢
        refine ⟨fun σ' H' => ∃ F4 env4, Gr B F F4 ∧ Kp env σ env4 σ' ∧ St K B F4 H' env4 σ' ∧ PostS K B F env σ E D (whileS c mb m env4), fun σ' H' h => ⟨m, Nat.lt_succ_self _, h⟩, ?_⟩
        refine hb B F3 H3 σ2 env3 _ st3 (kp13.vw g13 hv) ?_
        cases e6 : mb env3 with
        | st => rw [e6] at hp2; exact hp2
        | ex x e7 => rw [e6] at hp2; exact fun od σ5 F5 H5 g5 k5 st5 ok => hp2 od σ5 F5 H5 (g13.trans g5) (kp13.trans k5) st5 ok
        | ok b =>
          rw [e6] at hp2
          cases b with
          | nx e7 => exact fun σ5 F5 H5 g5 k5 st5 => ⟨F5, e7, g13.trans g5, kp13.trans k5, st5, hp2⟩
          | ct e7 => exact fun σ5 F5 H5 g5 k5 st5 => ⟨F5, e7, g13.trans g5, kp13.trans k5, st5, hp2⟩
          | bk e7 => exact fun σ5 F5 H5 g5 k5 st5 => hp2 σ5 F5 H5 (g13.trans g5) (kp13.trans k5) st5
          | rt t e7 => exact fun x5 σ5 F5 H5 g5 k5 st5 => hp2 x5 σ5 F5 H5 (g13.trans g5) (kp13.trans k5) st5
end
section
variable {α : Type}
def rst (b : List α) : List Nat → List α → List α
  | [], l => l
  | v :: vs, l => match b[v]? with
    | some x => (rst b vs l).set v x
    | none => rst b vs l
theorem rst_len (b : List α) : ∀ (vs : List Nat) (l : List α), (rst b vs l).length = l.length
  | [], _ => rfl
  | v :: vs, l => by
    unfold rst
    cases b[v]? with
    | none => exact rst_len b vs l
    | some x => simp [rst_len b vs l]
theorem rst_get {b : List α} : ∀ {vs : List Nat} {l : List α} (j : Nat), b.length = l.length → (rst b vs l)[j]? = if j ∈ vs then b[j]? else l[j]?
  | [], _, _, _ => by simp [rst]
  | v :: vs, l, j, hl => by
    have ih := rst_get (b := b) (vs := vs) (l := l) j hl
    cases hv : b[v]? with
    | some x =>
      have hlt := (List.getElem?_eq_some_iff.mp hv).1
      have e : rst b (v :: vs) l = (rst b vs l).set v x := by simp only [rst, hv]
      rw [e]
      by_cases hj : j = v
      · subst hj
        rw [List.getElem?_set_self (by rw [rst_len]; omega)]
        simp [hv]
      · rw [List.getElem?_set_ne (Ne.symm hj), ih]
        simp [hj]
    | none =>
      have e : rst b (v :: vs) l = rst b vs l := by simp only [rst, hv]
      rw [e, ih]
      by_cases hj : j = v
      · subst hj
        have h2 : l[j]? = none := List.getElem?_eq_none_iff.mpr (by have := List.getElem?_eq_none_iff.mp hv; omega)
        simp [hv, h2]
      · simp [hj]
end
theorem wipe_get : ∀ {σ : L2.St} {vs : List Nat} (j : Nat), (wipe σ vs)[j]? = if j ∈ vs then (σ[j]?).map (fun _ => none) else σ[j]?
  | σ, [], j => by simp [wipe]
  | σ, v :: vs, j => by
    unfold wipe
    have ih := wipe_get (σ := σ) (vs := vs) j
    by_cases hj : j = v
    · subst hj
      by_cases hl : j < σ.length
      · rw [List.getElem?_set_self (by rw [wipe_length]; exact hl)]; simp [hl]
      · have h1 : σ[j]? = none := List.getElem?_eq_none_iff.mpr (by omega)
        rw [List.getElem?_eq_none_iff.mpr (by simp [wipe_length]; omega)]; simp [h1]
    · rw [List.getElem?_set_ne (Ne.symm hj), ih]; simp [hj]
theorem wipe_same {σ τ : L2.St} {vs : List Nat} (hl : σ.length = τ.length) (h : ∀ j, j ∉ vs → σ[j]? = τ[j]?) : wipe σ vs = wipe τ vs := by
  refine List.ext_getElem? fun j => ?_
  rw [wipe_get, wipe_get]
  by_cases hj : j ∈ vs
  · rw [if_pos hj, if_pos hj]
    by_cases k : j < σ.length
    · simp [k, hl ▸ k]
    · rw [List.getElem?_eq_none_iff.mpr (by omega), List.getElem?_eq_none_iff.mpr (by omega)]
  · rw [if_neg hj, if_neg hj]; exact h j hj
theorem rst_wipe {σ : L2.St} {vs : List Nat} : rst σ vs (wipe σ vs) = σ := by
  refine List.ext_getElem? fun j => ?_
  rw [rst_get j (by rw [wipe_length]), wipe_get]
  by_cases hj : j ∈ vs <;> simp [hj]
def wpE (e : Env) : List Nat → Env
  | [] => e
  | v :: vs => (wpE e vs).set v .un
theorem wpE_len (e : Env) : ∀ vs : List Nat, (wpE e vs).length = List.length e
  | [] => rfl
  | v :: vs => by unfold wpE; simp [wpE_len e vs]
theorem wpE_get : ∀ {e : Env} {vs : List Nat} (j : Nat), (wpE e vs)[j]? = if j ∈ vs then (e[j]?).map (fun _ => Slot.un) else e[j]?
  | e, [], j => by simp [wpE]
  | e, v :: vs, j => by
    unfold wpE
    have ih := wpE_get (e := e) (vs := vs) j
    by_cases hj : j = v
    · subst hj
      by_cases hl : j < List.length e
      · rw [List.getElem?_set_self (by rw [wpE_len]; exact hl)]; simp [hl]
      · have h1 : e[j]? = none := List.getElem?_eq_none_iff.mpr (by omega)
        rw [List.getElem?_eq_none_iff.mpr (by simp [wpE_len]; omega)]; simp [h1]
    · rw [List.getElem?_set_ne (Ne.symm hj), ih]; simp [hj]
def lite : Slot → Bool
  | .un => true
  | .va (.sh _) => true
  | _ => false
def litesAt (e : Env) (vs : List Nat) : Bool := vs.all fun v => match e[v]? with
  | some s => lite s
  | none => true
section
variable {K : Kf} {B F H : Hp} {ss : List Slot} {os : List (Option V)}
theorem St.setFree {s : Slot} {o : Option V} {i : Nat} (h : St K B F H ss os) (hi : i < ss.length) (r : SR K F H s o []) : St K B F H (ss.set i s) (os.set i o) := by
  obtain ⟨S, f, nd, k⟩ := h.fp
  obtain ⟨L, Sa, Rr, e1, f2⟩ := Fs.store f hi r
  subst e1
  have n2 := List.nodup_append.mp nd
  have n3 := List.nodup_append.mp n2.1
  refine ⟨h.sb, h.sf, _, f2, ?_, fun a ha => k a ?_⟩
  · simp only [List.append_nil]
    exact List.nodup_append.mpr ⟨n3.1, n2.2.1, fun a ha b hb z => n2.2.2 a (by simp [ha]) b hb z⟩
  · simp only [List.append_nil, List.mem_append] at ha ⊢
    rcases ha with ha | ha <;> simp [ha]
theorem St.wp {env : Env} {σ : L2.St} (h : St K B F H env σ) : ∀ vs : List Nat, St K B F H (wpE env vs) (wipe σ vs)
  | [] => h
  | v :: vs => by
    unfold wpE wipe
    by_cases hv : v < (wpE env vs).length
    · exact (St.wp h vs).setFree hv rfl
    · rw [List.set_eq_of_length_le (by omega), List.set_eq_of_length_le (by have := (St.wp h vs).len; omega)]
      exact St.wp h vs
theorem St.unwp {env e' : Env} {σ τ : L2.St} {F' H' : Hp} {B' : Hp} (h0 : St K B F H env σ) (g : Same F F') (h : St K B' F' H' e' τ) (hl : List.length e' = List.length env) : ∀ vs : List Nat, litesAt env vs = true → St K B' F' H' (rst env vs e') (rst σ vs τ)
  | [], _ => h
  | v :: vs, hw => by
    have hw2 : (match env[v]? with
      | some s => lite s
      | none => true) = true ∧ litesAt env vs = true := by simpa [litesAt] using hw
    have ih := St.unwp h0 g h hl vs hw2.2
    unfold rst
    cases e1 : env[v]? with
    | none =>
      have e2 : σ[v]? = none := List.getElem?_eq_none_iff.mpr (by have := h0.len; have := List.getElem?_eq_none_iff.mp e1; omega)
      rw [e2]
      exact ih
    | some s =>
      obtain ⟨S, f, nd, k⟩ := h0.fp
      obtain ⟨o, L, Sa, Rr, h1, h2, h3, _⟩ := f.at e1
      rw [h1]
      have hlt := (List.getElem?_eq_some_iff.mp e1).1
      refine ih.setFree (by rw [rst_len, hl]; exact hlt) ?_
      have := hw2.1
      rw [e1] at this
      cases s with
      | un => rfl
      | va t =>
        cases t with
        | sh d => obtain ⟨v, e, _, r⟩ := h3; exact ⟨v, e, rfl, r.mono (.of g)⟩
        | lst _ => cases this
        | dct _ => cases this
        | ins _ _ => cases this
      | mu t => cases this
      | vw t => cases this
theorem St.snoc {ts : List T} {t : T} {D : Addr} {y : V} (h : St K B F H (.va (.lst ts) :: .va t :: ss) (some (.ref D) :: some y :: os)) : ∃ vs, H D = some (.lst vs) ∧ vs.length = ts.length ∧
    St K B F (upd H D (.lst (vs ++ [y]))) (.va (.lst (ts ++ [t])) :: ss) (some (.ref D) :: os) := by
  obtain ⟨Sq, fq, nd, k, go⟩ := St.made (qs := [.va (.lst ts), .va t]) (xs := [some (.ref D), some y]) rfl h
  obtain ⟨b, l', S1, S2, e, eS, ⟨w, ew, a, vs, S', e1, q, eS1, r⟩, ⟨b2, l2, S3, S4, e2, eS2, ⟨w2, ew2, tr⟩, z⟩⟩ := fq
  cases e
  cases ew
  cases e1
  cases e2
  cases ew2
  obtain ⟨z1, z2⟩ := z
  cases z2
  subst eS2
  subst eS1
  subst eS
  have ndS : (D :: (S' ++ S3)).Nodup := by simpa using nd
  have nin : D ∉ S' ++ S3 := (List.nodup_cons.mp ndS).1
  have keep : ∀ b ∈ S' ++ S3, ∀ o, H b = some o → upd H D (.lst (vs ++ [y])) b = some o := fun b hb o e => by rw [upd_ne (fun z => nin (by rw [← z]; exact hb))]; exact e
  refine ⟨vs, q, ((TRs_iff.mp r).length).symm, ?_⟩
  have sH : SubR F (upd H D (.lst (vs ++ [y]))) := by
    have hD : F D = none := (k D (by simp)).2
    refine ⟨fun b o rr => ?_⟩
    have nb : b ≠ D := fun z => by subst z; rw [hD] at rr; cases rr
    rw [upd_ne nb]; exact h.sf.sub b o rr
  refine go F (upd H D (.lst (vs ++ [y]))) (D :: (S' ++ S3)) [.va (.lst (ts ++ [t]))] [some (.ref D)] (Same.refl F) (fun a h1 h2 => absurd h1 h2) ⟨sH, h.sf.nt⟩ (fun b hb o e => ?_) (Fs.one ⟨_, rfl, D, vs ++ [y], S' ++ S3, rfl, upd_same, rfl, TRs_iff.mpr (Fs.append (TRs_iff.mp (TRs.mono (SubR.refl _) (fun b hb => keep b (by simp [hb])) r)) (Fs.one (tr.mono (SubR.refl _) fun b hb => keep b (by simp [hb]))))⟩) ndS (fun a ha => ⟨(k a (by simpa using ha)).2, .inr (by simpa using ha)⟩)
  rw [upd_ne (fun z => hb (by simp [z]))]; exact e
end
def loopC (vs : List Nat) (mg : MG) (mt : MB) (me : ME) : List D → List T → Env → R (List T × Env)
  | [], acc, e => .ok (acc, e)
  | d :: r, acc, e => match mg (.sh d) (wpE e vs) with
    | .ok e1 => match mt e1 with
      | .ok (b, e2) => if b = true then match me e2 with
          | .ok (v, e3) => match keep v e3 with
            | some (t, e4) => if acc.length < sizeLine then loopC vs mg mt me r (acc ++ [t]) e4 else .st
            | none => .st
          | _ => .st
        else loopC vs mg mt me r acc e2
      | _ => .st
    | _ => .st
def mLc (vs : List Nat) (mi : MI) (mg : MG) (mt : MB) (me : ME) : ME := fun e => (mi e).bnd fun ds e1 => if litesAt e1 vs = true then match loopC vs mg mt me ds [] e1 with
    | .ok (ts, e2) => .ok (.tv (.lst ts), rst e1 vs e2)
    | _ => .st
  else .st
section
variable {K : Kf} {E : XS}
theorem Kd.wp {e e' : Env} {vs : List Nat} (hl : litesAt e vs = true) (hlen : List.length e = List.length e') (h : ∀ j, j ∉ vs → (∀ t, e[j]? = some (Slot.vw t) ↔ e'[j]? = some (Slot.vw t)) ∧ ((∃ t, e[j]? = some (Slot.mu t)) ↔ ∃ t, e'[j]? = some (Slot.mu t))) : Kd e (rst e vs e') := fun j => by
  rw [rst_get j hlen]
  by_cases hj : j ∈ vs
  · rw [if_pos hj]; exact ⟨fun _ => Iff.rfl, Iff.rfl⟩
  · rw [if_neg hj]; exact h j hj
theorem ev_lc {wi : (Addr → Prop) → TI} {g : TG} {tt : TT} {te : TE} {vs vg : List Nat} {mi : MI} {mg : MG} {mt : MB} {me : ME} (hi : EvI K E wi mi) (hg : EvG K g mg vg) (hvs : ∀ v ∈ vg, v ∈ vs) (ht : EvB K NX tt mt) (he : EvT K NX te me) :
    EvT K E (fun σ H Q => ∀ P, tLc (wi P) g tt te vs σ H fun v H' => ∃ Hu, Unl P H' Hu ∧ Q v Hu) (mLc vs mi mg mt me) := by
  intro B F H σ env Q hs hv hp P
  refine hi P B F H σ env _ hs hv ?_
  unfold mLc at hp
  cases e : mi env with
  | st => rw [e] at hp; exact hp
  | ex c e1 => rw [e] at hp; exact hp
  | ok a =>
    obtain ⟨ds, env1⟩ := a
    rw [e] at hp
    simp only [R.bnd] at hp
    by_cases hlite : litesAt env1 vs = true
    case neg => rw [if_neg hlite] at hp; exact hp.elim
    rw [if_pos hlite] at hp
    intro J F1 H1 Bl g1 kd1 st1 sBl nBl W back D hD
    have hv1 : Vw K Bl F1 env1 σ := (Got.kd (H' := H1) hv g1 kd1).gr sBl (SubR.refl _)
    have stw : St K Bl F1 H1 (wpE env1 vs) (wipe σ vs) := st1.wp vs
    -- the list stands ready
    have st0 : St K Bl F1 (upd H1 D (.lst [])) (.va (.lst []) :: wpE env1 vs) (some (.ref D) :: wipe σ vs) := by
      have sm : Same H1 (upd H1 D (.lst [])) := fun b o e => by rw [upd_ne (ne_of_none e hD)]; exact e
      obtain ⟨Sq, fq, nd, k, go⟩ := St.made (qs := []) (xs := []) rfl (show St K Bl F1 H1 ([] ++ wpE env1 vs) ([] ++ wipe σ vs) from stw)
      have hSq : Sq = [] := fq.2
      subst hSq
      exact go F1 _ [D] [.va (.lst [])] [some (.ref D)] (Same.refl _) (fun a h1 h2 => absurd h1 h2) (st1.sf.trans (.of sm)) (fun a _ o e => sm a o e) (Fs.one ⟨_, rfl, D, [], [], rfl, upd_same, rfl, rfl, rfl⟩) (by simp) (fun a ha => by
        have : a = D := by simpa using ha
        subst this
        exact ⟨st1.sf.off hD, .inl hD⟩)
    -- the state at turn i: e2 the slots behind the last turn
    let Tn : Nat → Hp → Prop := fun i H2 => ∃ (F2 : Hp) (e2 : Env) (acc : List T), Gr Bl F1 F2 ∧ List.length e2 = List.length env1 ∧ (∀ j, j ∉ vs → (∀ t, env1[j]? = some (Slot.vw t) ↔ e2[j]? = some (Slot.vw t)) ∧ ((∃ t, env1[j]? = some (Slot.mu t)) ↔ ∃ t, e2[j]? = some (Slot.mu t))) ∧
      St K Bl F2 H2 (.va (.lst acc) :: wpE e2 vs) (some (.ref D) :: wipe σ vs) ∧
      PostV K B F env σ E Q (match loopC vs mg mt me (ds.drop i) acc e2 with
        | .ok (ts, e2) => .ok (.tv (.lst ts), rst env1 vs e2)
        | _ => .st)
    refine ⟨fun i m H2 => m = ds.length - i ∧ i ≤ ds.length ∧ Tn i H2, ⟨ds.length, by simp, Nat.zero_le _, F1, env1, [], Gr.refl _ _, rfl, fun j hj => ⟨fun _ => Iff.rfl, Iff.rfl⟩, st0, by simpa using hp⟩, ?_⟩
    rintro i m H2 ⟨rfl, hi, F2, e2, acc, g2, hl2, k2, st2, hp2⟩
    by_cases hlt : i < ds.length
    · refine .inr ⟨W.go i F2 H2 _ _ hlt g2 st2, fun H' => Tn (i + 1) H', fun H' h => ⟨ds.length - (i + 1), by omega, rfl, hlt, h⟩, fun x H3 y => ?_⟩
      obtain ⟨B', sB', st2', park⟩ := st2.park
      -- the turn's value, over the list that waits
      obtain ⟨F3, g3, st3⟩ := W.yld i ds[i] F2 H2 _ _ x H3 (by simp [hlt]) g2 st2 y
      rw [List.drop_eq_getElem_cons hlt] at hp2
      unfold loopC at hp2
      have st3s : St K Bl F3 H3 (.va (.lst acc) :: .va (.sh ds[i]) :: wpE e2 vs) (some (.ref D) :: some x :: wipe σ vs) := by
        obtain ⟨S, ⟨b, l', S1, S2, eb, eS, h1, ⟨b2, l2, S3, S4, eb2, eS2, h2, h3⟩⟩, nd, k⟩ := st3.fp
        cases eb
        cases eb2
        obtain ⟨w, ew, eS1, r1⟩ := h1
        cases ew
        subst eS1
        subst eS2
        subst eS
        exact ⟨st3.sb, st3.sf, S3 ++ S4, ⟨_, _, S3, S4, rfl, rfl, h2, ⟨_, _, [], S4, rfl, rfl, ⟨x, rfl, rfl, r1⟩, h3⟩⟩, by simpa using nd, fun a ha => k a (by simpa using ha)⟩
      obtain ⟨B3, sB3, st3p, park3⟩ := st3s.park
      have vw3 : Vw K B3 F3 (wpE e2 vs) (wipe σ vs) := fun j t ej => by
        rw [wpE_get] at ej
        by_cases hj : j ∈ vs
        · rw [if_pos hj] at ej
          cases q : e2[j]? <;> rw [q] at ej <;> simp at ej
        · rw [if_neg hj] at ej
          obtain ⟨v, a, b⟩ := hv1 j t (((k2 j hj).1 t).mpr ej)
          exact ⟨v, by rw [wipe_get, if_neg hj]; exact a, b.mono (.of sB3) ((g2.trans g3).sub)⟩
      refine hg B3 F3 H3 (wipe σ vs) (wpE e2 vs) (.sh ds[i]) x _ st3p vw3 ?_
      cases e4 : mg (.sh ds[i]) (wpE e2 vs) with
      | st => rw [e4] at hp2; exact hp2.elim
      | ex c e5 => rw [e4] at hp2; exact hp2.elim
      | ok env4 =>
        rw [e4] at hp2
        simp only at hp2
        intro σ4 F4 H4 g4 kp4 off4 len4' st4
        have vgs : ∀ j, j ∉ vs → j ∉ vg := fun j hj z => hj (hvs j z)
        have len4 : σ4.length = (wipe σ vs).length := by rw [← st4.len, len4', ← st3p.drop.len]
        have vw4 : Vw K B3 F4 env4 σ4 := kp4.vw g4 vw3
        refine ⟨wipe_same (by rw [len4, wipe_length]) (fun j hj => ?_), ?_⟩
        · rw [(off4 j (vgs j hj)).2, wipe_get, if_neg hj]
        have kd4 : ∀ j, j ∉ vs → (∀ t, env1[j]? = some (Slot.vw t) ↔ env4[j]? = some (Slot.vw t)) ∧ ((∃ t, env1[j]? = some (Slot.mu t)) ↔ ∃ t, env4[j]? = some (Slot.mu t)) := fun j hj => by
          rw [(off4 j (vgs j hj)).1, wpE_get, if_neg hj]; exact k2 j hj
        have σ4w : ∀ F5 H5 e5, Gr B3 F4 F5 → Kd env4 e5 → St K Bl F5 H5 (.va (.lst acc) :: e5) (some (.ref D) :: σ4) → List.length e5 = List.length env1 ∧ (∀ j, j ∉ vs → (∀ t, env1[j]? = some (Slot.vw t) ↔ e5[j]? = some (Slot.vw t)) ∧ ((∃ t, env1[j]? = some (Slot.mu t)) ↔ ∃ t, e5[j]? = some (Slot.mu t))) := fun F5 H5 e5 g5 kd5 st5 => by
          refine ⟨?_, fun j hj => ⟨fun t => ((kd4 j hj).1 t).trans ((kd5 j).1 t), (kd4 j hj).2.trans (kd5 j).2⟩⟩
          have h1 := st5.drop.len
          have h2 := st1.len
          rw [len4, wipe_length] at h1
          omega
        have σw : wipe σ4 vs = wipe σ vs := wipe_same (by rw [len4, wipe_length]) (fun j hj => by rw [(off4 j (vgs j hj)).2, wipe_get, if_neg hj])
        refine ht B3 F4 H4 σ4 env4 _ st4 vw4 ?_
        cases e6 : mt env4 with
        | st => rw [e6] at hp2; exact hp2.elim
        | ex c e5 => rw [e6] at hp2; exact hp2.elim
        | ok q =>
          obtain ⟨b, env5⟩ := q
          rw [e6] at hp2
          simp only at hp2
          intro F5 H5 g5 kd5 st5
          have g15 : Gr Bl F1 F5 := g2.trans (g3.trans ((g4.trans g5).anti sB3))
          cases b with
          | false =>
            rw [if_neg (by decide)] at hp2 ⊢
            have stl := park3 F5 H5 _ _ (g4.trans g5) st5
            obtain ⟨l5, k5⟩ := σ4w F5 H5 env5 g5 kd5 stl
            refine ⟨F5, env5, acc, g15, l5, k5, ?_, hp2⟩
            have q := park3 F5 H5 _ _ (g4.trans g5) (st5.wp vs)
            rw [σw] at q
            exact q
          | true =>
            rw [if_pos rfl] at hp2 ⊢
            refine he B3 F5 H5 σ4 env5 _ st5 (Got.kd (H' := H5) vw4 g5 kd5) ?_
            cases e7 : me env5 with
            | st => rw [e7] at hp2; exact hp2.elim
            | ex c e5 => rw [e7] at hp2; exact hp2.elim
            | ok q =>
              obtain ⟨v, env6⟩ := q
              rw [e7] at hp2
              simp only at hp2
              intro y6 F6 H6 g6 kd6 got6
              cases e8 : keep v env6 with
              | none => rw [e8] at hp2; exact hp2.elim
              | some q =>
                obtain ⟨t, env7⟩ := q
                rw [e8] at hp2
                simp only at hp2
                obtain ⟨F7, g7, kd7, st7⟩ := got6.keep e8
                have stl := park3 F7 H6 _ _ (g4.trans (g5.trans (g6.trans g7))) st7
                obtain ⟨ws, hD6, hlen, sn⟩ := stl.snoc
                by_cases hsz : acc.length < sizeLine
                case neg => rw [if_neg hsz] at hp2; exact hp2.elim
                rw [if_pos hsz] at hp2
                refine ⟨ws, hD6, by rw [hlen]; exact hsz, F7, env7, acc ++ [t], g2.trans (g3.trans ((g4.trans (g5.trans (g6.trans g7))).anti sB3)), ?_⟩
                have sn1 : St K Bl F7 (upd H6 D (.lst (ws ++ [y6]))) (.va (.lst (acc ++ [t])) :: env7) (some (.ref D) :: σ4) := sn
                refine ⟨?_, fun j hj => ⟨fun t => ((kd4 j hj).1 t).trans (((kd5.trans (kd6.trans kd7)) j).1 t), (kd4 j hj).2.trans ((kd5.trans (kd6.trans kd7)) j).2⟩, ?_, hp2⟩
                · have h1 := sn1.drop.len
                  have h2 := st1.len
                  rw [len4, wipe_length] at h1
                  omega
                · obtain ⟨B7, sB7, stp7, park7⟩ := sn1.park
                  have q := park7 F7 _ _ _ (Gr.refl _ _) (stp7.wp vs)
                  rw [σw] at q
                  exact q
    · have he : i = ds.length := by omega
      subst he
      refine .inl ⟨W.stop F2 H2 _ _ g2 st2, ?_⟩
      obtain ⟨B7, sB7, stp7, park7⟩ := st2.park
      have q := park7 F2 H2 _ _ (Gr.refl _ _) (St.unwp st1 g2.same stp7 (by rw [wpE_len]; exact hl2) vs hlite)
      rw [rst_wipe] at q
      obtain ⟨Hu, hu, stu⟩ := back F2 H2 _ _ g2 q
      rw [List.drop_length] at hp2
      have er : rst env1 vs (wpE e2 vs) = rst env1 vs e2 := by
        refine List.ext_getElem? fun j => ?_
        rw [rst_get j (by rw [wpE_len]; exact hl2.symm), rst_get j hl2.symm, wpE_get]
        by_cases hj : j ∈ vs <;> simp [hj]
      rw [er] at stu
      exact ⟨Hu, hu, hp2 (.ref D) F2 Hu (g1.trans (g2.low nBl)) (kd1.trans (Kd.wp hlite hl2.symm k2)) (.of stu)⟩
end
inductive FR where
  | ret (t : T) (m : Option T) | exc (c : Exn) (m : Option T) | st
abbrev MF := List Slot → FR
def PostF (K : Kf) (B F : Hp) (vs : List V) (Q : VK) (E : XK) : FR → Prop
  | .ret t none => ∀ x F' H', Gr B F F' → St K B F' H' [.va t] [some x] → Q x H'
  | .ret t (some u) => ∀ x F' H', Gr B F F' → St K B F' H' [.va t, .mu u] [some x, vs.head?] → Q x H'
  | .exc c none => ∀ od F' H', Gr B F F' → St K B F' H' [] [] → ExOk K F' H' c od → E (.ref c.C) od H'
  | .exc c (some u) => ∀ od F' H', Gr B F F' → St K B F' H' [.mu u] [vs.head?] → ExOk K F' H' c od → E (.ref c.C) od H'
  | .st => False
def spD (K : Kf) (n : Nat) (f : MF) : Sp := fun vs H Q E => vs.length = n ∧ ∃ (B F : Hp) (ss : List Slot), St K B F H ss (vs.map some) ∧ Vw K B F ss (vs.map some) ∧ PostF K B F vs Q E (f ss)
def fin (mu : Bool) (t : T) (e : Env) : FR := if mu = true then match e with
    | .mu u :: _ => .ret t (some u)
    | _ => .st
  else .ret t none
def finX (mu : Bool) (c : Exn) (e : Env) : FR := if mu = true then match e with
    | .mu u :: _ => .exc c (some u)
    | _ => .st
  else .exc c none
def isMu : List Slot → Bool
  | .mu _ :: _ => true
  | _ => false
def bodyF (n : Nat) (mb : MS) : MF := fun ss => match mb (ss ++ List.replicate (n - ss.length) .un) with
  | .ok (.nx e) => fin (isMu ss) (.sh .non) e
  | .ok (.rt t e) => fin (isMu ss) t e
  | .ex c e => finX (isMu ss) c e
  | _ => .st
section
variable {K : Kf} {B F H : Hp}
theorem Fs.uns {os : List (Option V)} : ∀ {n : Nat}, os.length = n → Fs (SR K F H) (List.replicate n .un) os [] := by
  intro n
  induction n generalizing os with
  | zero => intro h; cases os with
    | nil => exact ⟨rfl, rfl⟩
    | cons _ _ => cases h
  | succ n ih => intro h; cases os with
    | nil => cases h
    | cons o os => exact ⟨o, os, [], [], rfl, rfl, rfl, ih (by simpa using h)⟩
theorem St.ext {ss : List Slot} {os xs : List (Option V)} {n : Nat} (h : St K B F H ss os) (hx : xs.length = n) : St K B F H (ss ++ List.replicate n .un) (os ++ xs) := by
  obtain ⟨S, f, nd, k⟩ := h.fp
  exact ⟨h.sb, h.sf, S ++ [], f.append (Fs.uns hx), by simpa using nd, fun a ha => k a (by simpa using ha)⟩
theorem St.pre {qs ss : List Slot} {xs os : List (Option V)} (hl : qs.length = xs.length) (h : St K B F H (qs ++ ss) (xs ++ os)) : St K B F H qs xs := by
  obtain ⟨S, f, nd, k⟩ := h.fp
  obtain ⟨S1, S2, rfl, f1, f2⟩ := f.split hl
  exact ⟨h.sb, h.sf, S1, f1, (List.nodup_append.mp nd).1, fun a ha => k a (List.mem_append_left _ ha)⟩
theorem body_ok {E : XK} {t : TS} {mb : MS} {n m : Nat} {vs : List V} {Q : VK} {N : List Str} (hN : N.length = m) (hb : DsT K (fun _ => E) t mb) (hn : n ≤ m) (h : spD K n (bodyF m mb) vs H Q E) :
    t { nx := fun _ H' => Q .non H', rt := Q } (L2.start N vs) H := by
  obtain ⟨hl, B, F, ss, st, vw, hp⟩ := h
  have hss : ss.length = vs.length := by rw [st.len, List.length_map]
  have e0 : L2.start N vs = vs.map some ++ List.replicate (m - ss.length) none := by unfold L2.start; rw [hN, hss]
  rw [e0]
  have st0 : St K B F H (ss ++ List.replicate (m - ss.length) .un) (vs.map some ++ List.replicate (m - ss.length) none) := st.ext (by simp)
  have vw0 : Vw K B F (ss ++ List.replicate (m - ss.length) .un) (vs.map some ++ List.replicate (m - ss.length) none) := fun i u e => by
    by_cases hi : i < ss.length
    · rw [List.getElem?_append_left hi] at e
      obtain ⟨v, a, b⟩ := vw i u e
      exact ⟨v, by rw [List.getElem?_append_left (by simpa [← hss] using hi)]; exact a, b⟩
    · rw [List.getElem?_append_right (by omega), List.getElem?_replicate] at e
      split at e <;> cases e
  refine hb B F H _ _ _ st0 vw0 ?_
  unfold bodyF at hp
  -- the first slot at the end
  have head : ∀ {e' : Env} {σ' : L2.St} {u : T} {r : Env}, isMu ss = true → Kp (ss ++ List.replicate (m - ss.length) .un) (vs.map some ++ List.replicate (m - ss.length) none) e' σ' → e' = .mu u :: r → σ'.length = List.length e' → ∃ os, σ' = vs.head? :: os := by
    intro e' σ' u r hm kp ee hlen
    cases ss with
    | nil => cases hm
    | cons s0 sr =>
      cases s0 with
      | mu u0 =>
        cases vs with
        | nil => cases hss
        | cons v0 vr =>
          cases σ' with
          | nil => rw [ee] at hlen; cases hlen
          | cons o os =>
            have := (kp 0).2.2 ⟨u0, rfl⟩
            simp at this
            exact ⟨os, by rw [this]; rfl⟩
      | un => cases hm
      | va _ => cases hm
      | vw _ => cases hm
  cases e : mb (ss ++ List.replicate (m - ss.length) .un) with
  | st => rw [e] at hp; exact hp
  | ex c e1 =>
    rw [e] at hp
    intro od σ' F' H' g kp st' ok
    unfold finX at hp
    by_cases hm : isMu ss = true
    · simp only [hm, if_true] at hp
      cases e1 with
      | nil => exact hp.elim
      | cons s r =>
        cases s with
        | mu u =>
          obtain ⟨os, rfl⟩ := head hm kp rfl st'.len.symm
          exact hp od F' H' g (St.pre (qs := [.mu u]) (xs := [vs.head?]) rfl st') ok
        | un => exact hp.elim
        | va _ => exact hp.elim
        | vw _ => exact hp.elim
    · simp only [hm, if_false] at hp
      exact hp od F' H' g (St.pre (qs := []) (xs := []) rfl st') ok
  | ok a =>
    rw [e] at hp
    cases a with
    | bk e1 => exact hp.elim
    | ct e1 => exact hp.elim
    | nx e1 =>
      intro σ' F' H' g kp st'
      unfold fin at hp
      by_cases hm : isMu ss = true
      · simp only [hm, if_true] at hp
        cases e1 with
        | nil => exact hp.elim
        | cons s r =>
          cases s with
          | mu u =>
            obtain ⟨os, rfl⟩ := head hm kp rfl st'.len.symm
            exact hp .non F' H' g ((St.pre (qs := [.mu u]) (xs := [vs.head?]) rfl st').push rfl)
          | un => exact hp.elim
          | va _ => exact hp.elim
          | vw _ => exact hp.elim
      · simp only [hm, if_false] at hp
        exact hp .non F' H' g ((St.pre (qs := []) (xs := []) rfl st').push rfl)
    | rt t e1 =>
      intro x σ' F' H' g kp st'
      unfold fin at hp
      by_cases hm : isMu ss = true
      · simp only [hm, if_true] at hp
        cases e1 with
        | nil => exact hp.elim
        | cons s r =>
          cases s with
          | mu u =>
            obtain ⟨os, rfl⟩ := head hm kp rfl (by have := st'.len; simp at this; simp [this])
            exact hp x F' H' g (St.pre (qs := [.va t, .mu u]) (xs := [some x, vs.head?]) rfl st')
          | un => exact hp.elim
          | va _ => exact hp.elim
          | vw _ => exact hp.elim
      · simp only [hm, if_false] at hp
        exact hp x F' H' g (St.pre (qs := [.va t]) (xs := [some x]) rfl st')
end
def argS : T → Slot
  | .sh d => .va (.sh d)
  | t => .vw t
def mCall (n : Nat) (f : MF) (ms : MA) : ME := fun e => (ms e).bnd fun vs e1 => if vs.length = n then match cns vs e1 with
    | some ts => match f (ts.map argS) with
      | .ret t none => .ok (.tv t, e1)
      | .exc c none => .ex c e1
      | _ => .st
    | none => .st
  else .st
section
variable {K : Kf} {B F H : Hp} {E : XS}
theorem args_ok {Bc : Hp} : ∀ {ts : List T} {xs : List V}, All2 (VR K Bc F) ts xs → Fs (SR K F H) (ts.map argS) (xs.map some) [] ∧ Vw K Bc F (ts.map argS) (xs.map some)
  | [], _, h => by
    cases (show _ = [] from h)
    exact ⟨⟨rfl, rfl⟩, fun i t e => by simp at e⟩
  | t :: ts, _, ⟨x, l, e, r, h⟩ => by
    subst e
    obtain ⟨f, w⟩ := args_ok h
    refine ⟨⟨some x, _, [], [], rfl, rfl, ?_, f⟩, fun i u ei => ?_⟩
    · cases t with
      | sh d => exact ⟨x, rfl, rfl, r⟩
      | lst _ => rfl
      | dct _ => rfl
      | ins _ _ => rfl
    · cases i with
      | zero =>
        cases t with
        | sh d => simp [argS] at ei
        | lst _ => simp [argS] at ei; subst ei; exact ⟨x, rfl, r⟩
        | dct _ => simp [argS] at ei; subst ei; exact ⟨x, rfl, r⟩
        | ins _ _ => simp [argS] at ei; subst ei; exact ⟨x, rfl, r⟩
      | succ i => simpa using w i u (by simpa using ei)
theorem St.back {F' H' : Hp} {env : Env} {σ : L2.St} {rs : List Slot} {ys : List (Option V)} (h : St K B F H env σ) (g : Gr H F F') (r : St K H F' H' rs ys) : Gr B F F' ∧ St K B F' H' (rs ++ env) (ys ++ σ) := by
  refine ⟨g.antiB h.sb.toBs, ?_⟩
  obtain ⟨Sq, fq, nd, k, go⟩ := St.madeB (qs := []) (xs := []) rfl (show St K B F H ([] ++ env) ([] ++ σ) from h)
  have hSq : Sq = [] := fq.2
  subst hSq
  obtain ⟨S, f, nd', k'⟩ := r.fp
  exact go F' H' S rs ys g.same (fun a h1 h2 => .inl (g.new a h1 h2)) r.sf (.pre (fun a o e => by simpa using e) r.sb) f nd' fun a ha => ⟨(k' a ha).2, .inl (k' a ha).1⟩
theorem ev_callF {n : Nat} {f : MF} {ta : TA} {ms : MA} (ha : EvA K E ta ms) :
    EvT K E (fun σ H Q => ta σ H fun vs H1 => spD K n f vs H1 Q (E σ)) (mCall n f ms) := by
  intro B F H σ env Q h hv hp
  refine ha B F H σ env _ h hv ?_
  unfold mCall at hp
  cases e : ms env with
  | st => rw [e] at hp; exact hp
  | ex c e1 => rw [e] at hp; exact hp
  | ok a =>
    obtain ⟨vs, e1⟩ := a
    rw [e] at hp
    simp only [R.bnd] at hp
    intro xs F' H' g kd got
    by_cases hl : vs.length = n
    case neg => rw [if_neg hl] at hp; exact hp.elim
    rw [if_pos hl] at hp
    cases c : cns vs e1 with
    | none => rw [c] at hp; exact hp.elim
    | some ts =>
      rw [c] at hp
      simp only at hp
      have vr := got.vrs (Got.kd (H' := H') hv g kd) c
      obtain ⟨f1, w1⟩ := args_ok (H := H') vr
      refine ⟨by rw [← got.len]; exact hl, H', F', ts.map argS, ⟨got.st.sb.fr, got.st.sf, [], f1, by simp, fun a ha => by simp at ha⟩, w1, ?_⟩
      cases r : f (ts.map argS) with
      | st => rw [r] at hp; exact hp
      | exc c m =>
        cases m with
        | none =>
          rw [r] at hp
          intro od F2 H2 g2 st2 ok
          obtain ⟨g3, st3⟩ := got.base.back g2 st2
          exact hp od F2 H2 (g.trans g3) kd st3 ok
        | some u => rw [r] at hp; exact hp.elim
      | ret t m =>
        cases m with
        | none =>
          rw [r] at hp
          intro x F2 H2 g2 st2
          obtain ⟨g3, st3⟩ := got.base.back g2 st2
          exact hp x F2 H2 (g.trans g3) kd (.of st3)
        | some u => rw [r] at hp; exact hp.elim
end
def okR (i : Nat) : List Val → Bool
  | [] => true
  | .tv _ :: r => okR i r
  | .pl j _ :: r => decide (j ≠ i) && okR i r
def mCallM (n : Nat) (f : MF) (ms : MA) : ME := fun e => (ms e).bnd fun vs e1 => if vs.length = n then match vs with
  | .pl i p :: rest => match e1[i]? with
    | some s => match s.own with
      | some t => match T.get p t with
        | some u => match cns rest e1 with
          | some ts => if okR i rest = true then match f (.mu u :: ts.map argS) with
              | .ret r (some u') => match T.put p t u' with
                | some t' => .ok (.tv r, e1.set i (s.wth t'))
                | none => .st
              | .exc c (some u') => match T.put p t u' with
                | some t' => .ex c (e1.set i (s.wth t'))
                | none => .st
              | _ => .st
            else .st
          | none => .st
        | none => .st
      | none => .st
    | none => .st
  | _ => .st
  else .st
section
variable {K : Kf} {B F H : Hp} {E : XS}
theorem St.mcall {env : Env} {σ : L2.St} {i : Nat} {p : List PEl} {vs : List Val} {x : V} {xs : List V} {s : Slot} {t u : T} {ts : List T} (h : Got K B F H env σ (.pl i p :: vs) (x :: xs)) (hv : Vw K B F env σ) (e : env[i]? = some s) (c : s.own = some t)
    (g : T.get p t = some u) (cn : cns vs env = some ts) (ok : okR i vs = true) : ∃ Bc, St K Bc F H (.mu u :: ts.map argS) (some x :: xs.map some) ∧ Vw K Bc F (.mu u :: ts.map argS) (some x :: xs.map some) ∧
    ∀ (F' H' : Hp) (u' t' : T) (rs : List Slot) (ys : List (Option V)), rs.length = ys.length → Gr Bc F F' → St K Bc F' H' (rs ++ [.mu u']) (ys ++ [some x]) → T.put p t u' = some t' → Gr B F F' ∧ St K B F' H' (rs ++ env.set i (s.wth t')) (ys ++ σ) := by
  obtain ⟨x', l, ex, ⟨v, ev, wk⟩, pls⟩ := h.pl
  cases ex
  have hl : vs.length = xs.length := by simpa using h.len
  have hst : St K B F H (pdS vs ++ env) (pdX vs xs ++ σ) := h.st
  -- the footprints, once
  obtain ⟨S, f, nd, k⟩ := hst.fp
  obtain ⟨Sq, S2, rfl, fq, fs⟩ := f.split (pd_len hl)
  obtain ⟨o, L, Sa, Rr, h1, h2, h3, h4⟩ := fs.at e
  rw [ev] at h1
  cases h1
  obtain ⟨w, ew, tr⟩ := h3.own c
  cases ew
  obtain ⟨y, L2', Su, R2', c1, c2, c3, c4⟩ := tr.path g
  cases c2.det wk
  subst c1
  subst h2
  have nd1 := List.nodup_append.mp nd
  have nd2 := List.nodup_append.mp nd1.2.1
  have nd3 := List.nodup_append.mp nd2.1
  have nd4 := List.nodup_append.mp nd3.2.1
  have nd5 := List.nodup_append.mp nd4.1
  have dq : ∀ a ∈ Sq, a ∉ Su := fun a ha z => nd1.2.2 a ha a (by simp [z]) rfl
  have dl : ∀ a ∈ L ++ Rr, a ∉ Su := fun a ha z => by
    rcases List.mem_append.mp ha with ha | ha
    · exact nd3.2.2 a ha a (by simp [z]) rfl
    · exact nd2.2.2 a (by simp [z]) a ha rfl
  have hS : ∀ a ∈ Su, B a = none ∧ F a = none := fun a ha => k a (by simp [ha])
  have has := c3.has
  let Bc : Hp := fun a => if a ∈ Su then none else H a
  have bc : ∀ a, a ∉ Su → Bc a = H a := fun a ha => by show (if a ∈ Su then none else H a) = H a; simp [ha]
  have bs : ∀ a, a ∈ Su → Bc a = none := fun a ha => by show (if a ∈ Su then none else H a) = none; simp [ha]
  have sBc : Same Bc H := fun a o z => by
    by_cases hm : a ∈ Su
    · rw [bs a hm] at z; cases z
    · rw [bc a hm] at z; exact z
  have sBBc : Bs K B Bc := hst.sb.kept (fun a ha => (hS a ha).1) c3.hasO fun a ha o e => by rw [bc a ha]; exact e
  have subB : SubV B Bc := sBBc.v
  -- the other arguments are read in Bc
  have others : ∀ {vs : List Val} {xs : List V} {ts : List T} {Sq : List Addr}, vs.length = xs.length → Fs (SR K F H) (pdS vs) (pdX vs xs) Sq → (∀ a ∈ Sq, a ∉ Su) → All2 (PlOk H σ) vs xs → cns vs env = some ts → okR i vs = true → All2 (VR K Bc F) ts xs := by
    intro vs
    induction vs with
    | nil =>
      intro xs ts Sq hl _ _ _ hc _
      cases hc
      cases xs with
      | nil => rfl
      | cons _ _ => cases hl
    | cons v0 r ih =>
      intro xs ts Sq hl fq dq pk hc hok
      obtain ⟨x0, l0, e0, p0, pr⟩ := pk
      subst e0
      obtain ⟨t0, d1, d2⟩ := Option.bind_eq_some_iff.mp hc
      obtain ⟨ts', d3, rfl⟩ := Option.map_eq_some_iff.mp d2
      cases v0 with
      | tv tt =>
        obtain ⟨b, l', S1, S2, e1, e2, ⟨w0, ew0, tr0⟩, q2⟩ := fq
        cases e1
        cases ew0
        cases d1
        subst e2
        refine ⟨x0, l0, rfl, (tr0.mono (SubR.refl _) (H' := Bc) fun a ha o eo => by rw [bc a (dq a (by simp [ha]))]; exact eo).vr, ih (by simpa using hl) q2 (fun a ha => dq a (by simp [ha])) pr d3 hok⟩
      | pl j q =>
        have hj : j ≠ i ∧ okR i r = true := by simpa [okR] using hok
        refine ⟨x0, l0, rfl, ?_, ih (by simpa using hl) fq dq pr d3 hj.2⟩
        obtain ⟨s', b1, b2⟩ := Option.bind_eq_some_iff.mp d1
        obtain ⟨t', b3, b4⟩ := Option.bind_eq_some_iff.mp b2
        obtain ⟨v', ev', wk'⟩ := p0
        have vr : VR K Bc F t' v' := by
          have f' := h4 (fun s o S => SR K F H s o S ∧ ∀ a ∈ S, a ∈ L ++ Rr) .un [] (fun c d Sc hS hc => ⟨hc, hS⟩) ⟨rfl, fun a ha => by simp at ha⟩
          obtain ⟨o', L3, S3, R3, g1, g2, ⟨g3, g4⟩, _⟩ := f'.at (n := j) (a := s') (by rw [List.getElem?_set_ne (Ne.symm hj.1)]; exact b1)
          rw [ev'] at g1
          cases g1
          have keep : ∀ a ∈ S3, ∀ o, H a = some o → Bc a = some o := fun a ha o eo => by rw [bc a (dl a (g4 a ha))]; exact eo
          cases s' with
          | un => cases b3
          | va t2 => cases b3; obtain ⟨z, ez, tz⟩ := g3; cases ez; exact (tz.mono (SubR.refl _) keep).vr
          | mu t2 => cases b3; obtain ⟨z, ez, tz⟩ := g3; cases ez; exact (tz.mono (SubR.refl _) keep).vr
          | vw t2 =>
            cases b3
            obtain ⟨z, ez, rz⟩ := hv j _ b1
            rw [ev'] at ez
            cases ez
            exact rz.monoV subB (SubR.refl _)
        obtain ⟨y', wk2, r'⟩ := vr.path b4
        cases (wk2.mono (.of sBc)).det wk'
        exact r'
  have vrs := others hl fq dq pls cn ok
  obtain ⟨f1, w1⟩ := args_ok (H := H) vrs
  refine ⟨Bc, ⟨⟨.of sBc, hst.sb.tk⟩, hst.sf, Su ++ [], ⟨some x, _, Su, [], rfl, rfl, ⟨x, rfl, c3⟩, f1⟩, by simpa using nd5.2.1, fun a ha => ?_⟩, fun j t' ej => ?_, fun F' H' u' t' rs ys hrs g2 st2 hp => ?_⟩
  · have ha : a ∈ Su := by simpa using ha
    exact ⟨bs a ha, (hS a ha).2⟩
  · cases j with
    | zero => simp at ej
    | succ j => simpa using w1 j t' (by simpa using ej)
  · refine ⟨g2.antiB sBBc, ?_⟩
    obtain ⟨y2, Su2, Sq2, q1, q2, q3, q4, q5, go⟩ := St.chgB (qs := []) (xs := []) rfl (show St K B F H ([] ++ env) ([] ++ σ) from h.base) e c ev g
    have hSq : Sq2 = [] := q3.2
    subst hSq
    cases q1.det wk
    -- the footprint of the place is one
    have fun1 : Su2 = Su := TR.det q2 c3
    subst fun1
    obtain ⟨S', f', nd', k'⟩ := st2.fp
    obtain ⟨Sr, Sm, rfl, fr, fm⟩ := f'.split hrs
    obtain ⟨b, l', S1, S3, e1, e2, ⟨w0, ew0, tr0⟩, z1, z2⟩ := fm
    cases e1
    cases ew0
    subst z2
    subst e2
    refine go F' H' u' t' S1 Sr rs ys g2.same (fun a a1 a2 => ?_) st2.sf st2.sb.toBs tr0 fr (by simpa using nd') (fun a ha => ?_) hp
    · by_cases hm : a ∈ Su2
      · exact .inr (by simpa using hm)
      · exact .inl (by rw [← bc a hm]; exact g2.new a a1 a2)
    · have q := k' a (by simpa using ha)
      refine ⟨q.2, ?_⟩
      by_cases hm : a ∈ Su2
      · exact .inr (by simpa using hm)
      · exact .inl (by rw [← bc a hm]; exact q.1)
theorem ev_callM {n : Nat} {f : MF} {ta : TA} {ms : MA} (ha : EvA K E ta ms) : EvT K E (fun σ H Q => ta σ H fun vs H1 => spD K n f vs H1 Q (E σ)) (mCallM n f ms) := by
  intro B F H σ env Q h hv hp
  refine ha B F H σ env _ h hv ?_
  unfold mCallM at hp
  cases e : ms env with
  | st => rw [e] at hp; exact hp
  | ex c e1 => rw [e] at hp; exact hp
  | ok a =>
    obtain ⟨vs, e1⟩ := a
    rw [e] at hp
    simp only [R.bnd] at hp
    intro xs F' H' g kd got
    by_cases hl : vs.length = n
    case neg => rw [if_neg hl] at hp; exact hp.elim
    rw [if_pos hl] at hp
    have hv1 := Got.kd (H' := H') hv g kd
    cases vs with
    | nil => exact hp.elim
    | cons v rest =>
      cases v with
      | tv t => exact hp.elim
      | pl i p =>
        cases xs with
        | nil => have := got.len; cases this
        | cons x xs =>
          simp only at hp
          cases h1 : e1[i]? with
          | none => rw [h1] at hp; exact hp.elim
          | some s =>
            rw [h1] at hp; simp only at hp
            cases h2 : s.own with
            | none => rw [h2] at hp; exact hp.elim
            | some t =>
              rw [h2] at hp; simp only at hp
              cases h3 : T.get p t with
              | none => rw [h3] at hp; exact hp.elim
              | some u =>
                rw [h3] at hp; simp only at hp
                cases h4 : cns rest e1 with
                | none => rw [h4] at hp; exact hp.elim
                | some ts =>
                  rw [h4] at hp; simp only at hp
                  by_cases h5 : okR i rest = true
                  case neg => rw [if_neg h5] at hp; exact hp.elim
                  rw [if_pos h5] at hp
                  obtain ⟨Bc, st, vw, back⟩ := St.mcall got hv1 h1 h2 h3 h4 h5
                  refine ⟨by rw [← got.len]; exact hl, Bc, F', _, st, vw, ?_⟩
                  cases r : f (.mu u :: ts.map argS) with
                  | st => rw [r] at hp; exact hp
                  | exc c m =>
                    rw [r] at hp
                    cases m with
                    | none => exact hp.elim
                    | some u' =>
                      simp only at hp
                      cases h6 : T.put p t u' with
                      | none => rw [h6] at hp; exact hp.elim
                      | some t' =>
                        rw [h6] at hp
                        intro od F2 H2 g2 st2 ok
                        obtain ⟨g3, st3⟩ := back F2 H2 u' t' [] [] rfl g2 st2 h6
                        exact hp od F2 H2 (g.trans g3) (kd.trans (Kd.set h1 (by rw [h2]; simp))) st3 ok
                  | ret q m =>
                    rw [r] at hp
                    cases m with
                    | none => exact hp.elim
                    | some u' =>
                      simp only at hp
                      cases h6 : T.put p t u' with
                      | none => rw [h6] at hp; exact hp.elim
                      | some t' =>
                        rw [h6] at hp
                        intro y F2 H2 g2 st2
                        obtain ⟨g3, st3⟩ := back F2 H2 u' t' [.va q] [some y] rfl g2 st2 h6
                        exact hp y F2 H2 (g.trans g3) (kd.trans (Kd.set h1 (by rw [h2]; simp))) (.of st3)
end
def Gq (k : Nat) (A : Around) : Prop := 40 ≤ k → A.guards = some []
theorem Gq.mono {j k : Nat} {A : Around} (h : Gq k A) (hk : j ≤ k) : Gq j A := fun z => h (Nat.le_trans z hk)
structure FnG (P : Program) (w : World) (K : Kf) (mg : Str → Option Value) (base : Heap) (k : Nat) (f : Addr) (fd : FuncData) (ps : List Str) (sp : Sp) : Prop where
  len : ∀ vs H Q E, sp vs H Q E → vs.length = ps.length
  go : ∀ (A : Around) (out : List PySem.Env) (s : Shared) (H : Hp) (args : Args) (us : List Value) (vs : List V) (Q : VK) (E : XK), Room k A → Gq k A → Env0 P w K mg base A out s H → BindsTo s fd args (ps.zip us) → Vals vs us → sp vs H Q E →
    codeAny (model P w) A (.call (.ref f) args) (CR (L2.CX P w) out P w H s Q E) s
theorem guards_under {k : Nat} {A : Around} {C : Addr} {us : List Value} {kw : List (Str × Value)} (h1 : Gq (k + 1) A) : Gq k (A.under (.builtin "type.__call__" ⟨.ref C :: us, kw⟩)) := by
  intro z
  have h := h1 (Nat.le_succ_of_le z)
  first | exact h | simpa [Around.under, Code.guards, Code.isGuard, pushGuards, guardIds] using h
theorem guards_deeper {k : Nat} {A : Around} {e : PySem.Env} (h1 : Gq (k + 1) A) : Gq k (A.deeper e) := by
  intro z
  have h := h1 (Nat.le_succ_of_le z)
  first | exact h | simpa [Around.deeper] using h
section
variable {P : Program} {w : World} {K : Kf} {mg : Str → Option Value} {base : Heap}
theorem Fun.okG {x qual : Str} {st : Stmt} {f : Addr} {fd : FuncData} {N ps : List Str} {k : Nat} {sp : Sp} (Fn : Fun K x qual st f fd) (S : FnScope N ps (defScope st)) (hlen : ∀ vs H Q E, sp vs H Q E → vs.length = ps.length)
    (hbody : ∀ (cdv : Value) (A : Around) (out : List PySem.Env) (s : Shared) (H : Hp) (vs : List V) (Q : VK) (E : XK), Room k (A.deeper (envOfC qual (defScope st) s.heap.objs.size f cdv)) → Gq k (A.deeper (envOfC qual (defScope st) s.heap.objs.size f cdv)) → sp vs H Q E →
      ∃ t, PSs (cxOf (L2.CX P w) P w K mg base N qual (defScope st) f cdv A out s H E) (defBody st) t ∧ t { nx := fun _ H' => Q .non H', rt := Q } (L2.start N vs) H) : FnG P w K mg base (k + 1) f fd ps sp := by
  obtain ⟨oc, od, kV, doc, pm, an, cdv, ct, osl, rfl, lk, hcd⟩ := Fn.ex
  refine ⟨hlen, fun A out s H args us vs Q E hr hg e0 hb r hsp => ?_⟩
  have KX : K.In s.heap := e0.mod.kin.keeps fun b o e => (e0.bs b o e).1
  have hlim : s.heap.NoLimit := e0.mod.nolimit.keeps fun b o e => (e0.bs b o e).1
  refine codeAny_call_function hr.depth (KX _ _ lk) rfl S.co S.gen rfl (PySem.W.codeRec_of KX hcd) (hb _ _ _ _ ?_)
  refine wpAny_newFunctionEnv_cells S.kind (fun y hy => ?_) fun env he s1 ic => ?_
  · obtain ⟨n, v⟩ := y
    rcases S.par n (List.of_mem_zip hy).1 with q | q
    · exact .inl q
    · exact .inr ⟨q, PySem.W.cellsFrom_some _ _ _ (.inl q)⟩
  · subst he
    refine ⟨hlim.keeps ic.toInCall.keep, codeAny_func ?_⟩
    obtain ⟨t, ht, hq⟩ := hbody cdv A out s H vs Q E (hr.deeper _) (guards_deeper hg) hsp
    have I0 := inv_start (CX := L2.CX P w) (E := E) S hr.hd e0 (hlen _ _ _ _ hsp) r ic
    refine wpAny_mono (ht.run [] s1 _ H _ I0 hq) (fun fl s' hs => ?_) fun e s' hs => hs
    cases fl with
    | ret u => obtain ⟨v, σ', H', J, rv, q⟩ := hs; exact ⟨v, H', J.os, J.bare, J.base, J.hok, rv, q⟩
    | next => obtain ⟨σ', H', J, q⟩ := hs; exact ⟨V.non, H', J.os, J.bare, J.base, J.hok, rfl, q⟩
    | brk => obtain ⟨_, _, _, q⟩ := hs; exact q.elim
    | cont => obtain ⟨_, _, _, q⟩ := hs; exact q.elim
end
def PassesS (X : Cx) (E : XS) : Prop := ∀ (pins : List (Addr × Obj)) (σ : L2.St) (H : Hp) (s : Shared) (e : Value) (s' : Shared), Inv X pins σ H s → L2.CX X.prog X.w X.stack H s (E σ) e s' → X.xe e s'
theorem PassesS.tk {X : Cx} {E : XS} (tk : Takes X (fun cls d σ H => E σ cls d H)) : PassesS X E := fun pins σ H s e s' I c => tk e s' (XE.of_call I (fun _ _ _ h => h) c)
theorem takesN {X : Cx} : Takes X (fun cls d σ H => NX σ cls d H) := fun _ _ ⟨_, _, _, _, _, _, _, _, _, _, _, _, _, _, _, _, w⟩ => w.elim
section
variable {X : Cx} {k : Nat} {f C : Addr} {fd : FuncData} {ps : List Str} {sp : Sp} {E : XS} {x m : Str} {p pos apos : Pos} {e o : Expr} {es : List Expr} {ta : TE} {t : TA}
theorem goG {pins : List (Addr × Obj)} {σ : L2.St} {H : Hp} {s : Shared} {Q : VK} {us : List Value} {vs : List V} (F : FnG X.prog X.w X.K X.mg X.base k f fd ps sp) (hr : Room k X.A) (hg : Gq k X.A) (hb : Binds X.K fd ps []) (hx : PassesS X E)
    (I : Inv X pins σ H s) (r : Vals vs us) (h : sp vs H Q (E σ)) : wpAny (model X.prog X.w) X.A (call (.ref f) us) (EP X pins σ Q) X.xe s := by
  have hl : (us ++ []).length = ps.length := by rw [List.append_nil, ← r.length]; exact F.len _ _ _ _ h
  have hb' := hb s us I.kIn hl
  rw [List.append_nil] at hb'
  refine wpAny_call (codeAny_mono (F.go X.A X.stack s H ⟨us, []⟩ us vs Q (E σ) hr hg I.env0 hb' r h) fun r s' hq => ?_)
  cases r with
  | error e => exact hx pins σ H s e s' I hq
  | ok fl => cases fl with
    | ret u => exact I.after hq
    | next => exact hq.elim
    | brk => exact hq.elim
    | cont => exact hq.elim
theorem pe_callG (F : FnG X.prog X.w X.K X.mg X.base k f fd ps sp) (hr : Room k X.A) (hgd : Gq k X.A) (hg : Gl X x) (hm : X.mg x = some (.ref f)) (hk : PySem.W.keepIn X.K (.ref f) = true) (hb : Binds X.K fd ps []) (hx : PassesS X E)
    (ha : PA X (e :: es) t) (hdb : (x == ("__debug__" : Str)) = false := by decide) (he : starEach (e :: es) X.env = (false, eval e X.env) :: starEach es X.env := by rfl) (hpl : (backTo pos (starEach es X.env)).any (·.1) = false := by rfl) :
    PE X (.Call (.Name x p) (e :: es) [] pos) (fun σ H Q => t σ H fun vs H1 => sp vs H1 Q (E σ)) :=
  ⟨fun pins s σ H Q I h => wpAny_Call_Name_kw (ld_glob I hg hm (PySem.W.callWith_K (h₀ := X.base) I.ok.mod.kin hk (thn (ha.run pos pins s σ H _ I h) fun _ _ ⟨_, _, I1, r, q⟩ => ⟨I1.kIn, goG F hr hgd hb hx I1 r q⟩) he hpl) hdb)⟩
def tMethG (C : Addr) (m : Str) (sp : Sp) (E : XS) (ta : TE) (t : TA) : TE := fun σ H Q => ta σ H fun x H1 => (∃ a dx fs, x = .ref a ∧ H1 a = some (.ins C dx fs) ∧ fs.lookup m = none) ∧ t σ H1 fun vs H2 => sp (x :: vs) H2 Q (E σ)
theorem pe_methG {pl : Sem Bool} (he : PE X o ta) (c : Cls X.K C) (hm : Meth X.K C m f) (F : FnG X.prog X.w X.K X.mg X.base k f fd ps sp) (hr : Room k X.A) (hgd : Gq k X.A) (hb : Binds X.K fd ps []) (hx : PassesS X E) (ha : PA X (e :: es) t)
    (hst : starEach (e :: es) X.env = (false, eval e X.env) :: starEach es X.env := by rfl) (hpl : (backTo pos (starEach es X.env)).any (·.1) = false := by rfl)
    (ht : eval (.Call (.Attribute o m apos) (e :: es) [] pos) X.env = (do
      let z ← eval o X.env
      standAt apos.atName
      let (g, own) ← holding [z] (getMethod z m pl)
      callWith pos g own (backTo pos (starEach (e :: es) X.env)) (backToKw pos (keywordEach [] X.env))) := by rfl) :
    PE X (.Call (.Attribute o m apos) (e :: es) [] pos) (tMethG C m sp E ta t) := by
  refine ⟨fun pins s σ H Q I h => PySem.W.methodCall_KW (pl := pl) (thn (he.run pins s σ H _ I h) fun u s1 ⟨x, H1, I1, rx, ⟨a, dx, fs, ex, ea, l⟩, q⟩ => ?_) ht⟩
  subst ex
  cases (show u = Value.ref a from rx)
  exact getmeth_ok I1 ea c hm l (PySem.W.callWith_K (first := [.ref a]) (h₀ := X.base) I.ok.mod.kin hm.kp (thn (ha.run pos pins s1 σ H1 _ I1 q) fun us _ ⟨vs, _, I2, r, q2⟩ => ⟨I2.kIn, goG (us := .ref a :: us) (vs := .ref a :: vs) F hr hgd hb hx I2 (.cons rfl r) q2⟩) hst hpl)
def tMakeG (C : Addr) (sp : Sp) (E : XS) (t : TA) : TE := fun σ H Q => t σ H fun vs H1 => ∀ x dx, H1 x = none → H1 dx = none → dx ≠ x →
  sp (.ref x :: vs) (upd (upd H1 dx (.own x)) x (.ins C dx [])) (fun v H2 => v = .non ∧ Q (.ref x) H2) (E σ)
theorem goMakeG {pins : List (Addr × Obj)} {σ : L2.St} {H : Hp} {s : Shared} {Q : VK} {us : List Value} {vs : List V} (M : Mk X.K C f) (F : FnG X.prog X.w X.K X.mg X.base k f fd ps sp) (hr : Room (k + 1) X.A) (hgd : Gq (k + 1) X.A) (hb : Binds X.K fd ps [])
    (hx : PassesS X E) (I : Inv X pins σ H s) (r : Vals vs us) (h : ∀ x dx, H x = none → H dx = none → dx ≠ x → sp (.ref x :: vs) (upd (upd H dx (.own x)) x (.ins C dx [])) (fun v H2 => v = .non ∧ Q (.ref x) H2) (E σ)) :
    wpAny (model X.prog X.w) X.A (call (.ref C) us) (EP X pins σ Q) X.xe s := by
  have hq := h (s.heap.objs.size + 1) s.heap.objs.size (I.hok.fresh (Nat.le_succ _)) (I.hok.fresh (Nat.le_refl _)) (Nat.ne_of_lt (Nat.lt_succ_self _))
  have J := Inv.made (C := C) I
  have r2 : Vals (V.ref (s.heap.objs.size + 1) :: vs) (Value.ref (s.heap.objs.size + 1) :: us) := .cons rfl r
  have hl : (Value.ref (s.heap.objs.size + 1) :: us ++ []).length = ps.length := by rw [List.append_nil, ← r2.length]; exact F.len _ _ _ _ hq
  have hb' := hb _ (Value.ref (s.heap.objs.size + 1) :: us) J.kIn hl
  rw [List.append_nil] at hb'
  refine wpAny_call (make_map (f := f) I.kIn M.makes M.init (beq_iff_eq.mp M.fn) (codeAny_mono (F.go _ X.stack _ _ ⟨Value.ref (s.heap.objs.size + 1) :: us, []⟩ _ _ _ (E σ) (hr.make C us []) (guards_under hgd) (J.env0.make C us []) hb' r2 hq) fun r s' hq' => ?_))
  cases r with
  | error e => exact hx pins σ _ _ e s' J hq'
  | ok fl => cases fl with
    | ret u =>
      obtain ⟨v, H', I3, rv, ev, q3⟩ := J.after hq'
      subst ev
      exact ⟨rv, V.ref (s.heap.objs.size + 1), H', I3, rfl, q3⟩
    | next => exact hq'.elim
    | brk => exact hq'.elim
    | cont => exact hq'.elim
theorem pe_makeG (M : Mk X.K C f) (F : FnG X.prog X.w X.K X.mg X.base k f fd ps sp) (hr : Room (k + 1) X.A) (hgd : Gq (k + 1) X.A) (hg : Gl X x) (hm : X.mg x = some (.ref C)) (hb : Binds X.K fd ps []) (hx : PassesS X E)
    (ha : PA X (e :: es) t) (hdb : (x == ("__debug__" : Str)) = false := by decide) (he : starEach (e :: es) X.env = (false, eval e X.env) :: starEach es X.env := by rfl) (hpl : (backTo pos (starEach es X.env)).any (·.1) = false := by rfl) :
    PE X (.Call (.Name x p) (e :: es) [] pos) (tMakeG C sp E t) :=
  ⟨fun pins s σ H Q I h => wpAny_Call_Name_kw (ld_glob I hg hm (PySem.W.callWith_K (h₀ := X.base) I.ok.mod.kin M.kp (thn (ha.run pos pins s σ H _ I h) fun _ _ ⟨_, _, I1, r, q⟩ => ⟨I1.kIn, goMakeG M F hr hgd hb hx I1 r q⟩) he hpl) hdb)⟩
end
section
variable {K : Kf} {B F H : Hp} {E : XS}
theorem SubR.upd {F H : Hp} {a : Addr} {o : HO} (h : SubR F H) (n : F a = none) : SubR F (L2.upd H a o) := by
  refine ⟨fun b u r => ?_⟩
  have nb : b ≠ a := fun z => by subst z; rw [n] at r; cases r
  rw [upd_ne nb]; exact h.sub b u r
theorem SubF.upd {F H : Hp} {a : Addr} {o : HO} (h : SubF F H) (n : F a = none) : SubF F (L2.upd H a o) := ⟨h.toSubR.upd n, h.nt⟩
structure Node (K : Kf) (F H : Hp) (u : T) (x : V) (a : Addr) (S : List Addr) : Prop where
  tr : TR K F H u x (a :: S)
  ex : x = .ref a
theorem node_of {u : T} {x : V} {S : List Addr} (h : TR K F H u x S) (n : ∀ d, u ≠ .sh d) : ∃ a S', S = a :: S' ∧ Node K F H u x a S' := by
  cases u with
  | sh d => exact absurd rfl (n d)
  | lst ts => obtain ⟨a, vs, S', e, q, eS, r⟩ := h; subst eS; exact ⟨a, S', rfl, ⟨a, vs, S', e, q, rfl, r⟩, e⟩
  | dct ts => obtain ⟨a, vs, S', e, q, eS, r⟩ := h; subst eS; exact ⟨a, S', rfl, ⟨a, vs, S', e, q, rfl, r⟩, e⟩
  | ins C ts => obtain ⟨a, dx, vs, S', e, q, eS, r⟩ := h; subst eS; exact ⟨a, S', rfl, ⟨a, dx, vs, S', e, q, rfl, r⟩, e⟩
theorem St.node {env : Env} {σ : L2.St} {qs : List Slot} {xs : List (Option V)} {i : Nat} {s : Slot} {t u : T} {x : V} {p : List PEl} (hl : qs.length = xs.length) (h : St K B F H (qs ++ env) (xs ++ σ)) (e : env[i]? = some s) (c : s.own = some t) (g : T.get p t = some u)
    (w : PlOk H σ (.pl i p) x) (n : ∀ d, u ≠ .sh d) : ∃ a S' Sq, Node K F H u x a S' ∧ Fs (SR K F H) qs xs Sq ∧ (Sq ++ a :: S').Nodup ∧ F a = none ∧
    ∀ (o' : HO) (u' t' : T) (S'' Sr : List Addr) (rs : List Slot) (ys : List (Option V)), TR K F (upd H a o') u' x (a :: S'') → Fs (SR K F (upd H a o')) rs ys Sr → (Sr ++ a :: S'').Nodup → (∀ b ∈ Sr ++ S'', b ∈ Sq ++ S') → T.put p t u' = some t' →
      St K B F (upd H a o') (rs ++ env.set i (s.wth t')) (ys ++ σ) := by
  obtain ⟨v, ev, wk⟩ := w
  obtain ⟨y, Su, Sq, q1, q2, q3, q4, q5, go⟩ := St.chg hl h e c ev g
  cases q1.det wk
  obtain ⟨a, S', eS, nd⟩ := node_of q2 n
  subst eS
  refine ⟨a, S', Sq, nd, q3, q4, (q5 a (by simp)).2, fun o' u' t' S'' Sr rs ys tr fr nd' sub hp => ?_⟩
  refine go F (upd H a o') u' t' (a :: S'') Sr rs ys (Same.refl _) (fun b h1 h2 => absurd h1 h2) (h.sf.upd (q5 a (by simp)).2) (fun b hb o ho => ?_) tr fr nd' (fun b hb => ?_) hp
  · rw [upd_ne (fun z => hb (by simp [z]))]; exact ho
  · have hb' : b ∈ Sq ++ (a :: S') := by
      rcases List.mem_append.mp hb with z | z
      · have := sub b (by simp [z])
        rcases List.mem_append.mp this with k | k <;> simp [k]
      · rcases List.mem_cons.mp z with z | z
        · simp [z]
        · have := sub b (by simp [z])
          rcases List.mem_append.mp this with k | k <;> simp [k]
    exact ⟨(q5 b hb').2, .inr hb'⟩
theorem TRs.upd {a : Addr} {o : HO} {ts : List T} {vs : List V} {S : List Addr} (h : TRs K F H ts vs S) (n : a ∉ S) : TRs K F (L2.upd H a o) ts vs S :=
  TRs.mono (SubR.refl _) (fun b hb o' e => by rw [upd_ne (fun z => n (by rw [← z]; exact hb))]; exact e) h
theorem TRk.upd {a : Addr} {o : HO} {ts : List (Key × T)} {vs : List (Key × V)} {S : List Addr} (h : TRk K F H ts vs S) (n : a ∉ S) : TRk K F (L2.upd H a o) ts vs S :=
  TRk.mono (SubR.refl _) (fun b hb o' e => by rw [upd_ne (fun z => n (by rw [← z]; exact hb))]; exact e) h
theorem TRf.upd {a : Addr} {o : HO} {ts : List (Str × T)} {vs : List (Str × V)} {S : List Addr} (h : TRf K F H ts vs S) (n : a ∉ S) : TRf K F (L2.upd H a o) ts vs S :=
  TRf.mono (SubR.refl _) (fun b hb o' e => by rw [upd_ne (fun z => n (by rw [← z]; exact hb))]; exact e) h
theorem TR.upd {a : Addr} {o : HO} {t : T} {v : V} {S : List Addr} (h : TR K F H t v S) (n : a ∉ S) : TR K F (L2.upd H a o) t v S :=
  TR.mono (SubR.refl _) (fun b hb o' e => by rw [upd_ne (fun z => n (by rw [← z]; exact hb))]; exact e) h
def frzV (v : Val) (e : Env) : Option (D × Env) :=
  match v with
  | .tv t => some (t.er, e)
  | .pl i p => frzP i p e
def mF (m : ME) : ME := fun e => (m e).bnd fun v e1 => match frzV v e1 with
  | some (d, e2) => .ok (.tv (.sh d), e2)
  | none => .st
theorem St.frzHd {t : T} {x : V} {ss : List Slot} {os : List (Option V)} (h : St K B F H (.va t :: ss) (some x :: os)) : ∃ F', Gr B F F' ∧ St K B F' H (.va (.sh t.er) :: ss) (some x :: os) := by
  obtain ⟨F', g, kd, st⟩ := St.frzP (env := .va t :: ss) (σ := some x :: os) (i := 0) (p := []) (x := x) (d := t.er) (env' := .va (.sh t.er) :: ss) (qs := []) (xs := []) rfl h ⟨x, rfl, rfl⟩ rfl
  exact ⟨F', g, st.drop2.drop.push (by
    obtain ⟨S, ⟨b, l', S1, S2, eb, eS, ⟨w, ew, e1, r⟩, _⟩, _⟩ := st.fp
    cases eb; cases ew; exact r)⟩
theorem ev_f {te : TE} {m : ME} (h : EvT K E te m) : EvT K E te (mF m) := by
  intro B F H σ env Q hs hv hp
  refine h B F H σ env _ hs hv ?_
  unfold mF at hp
  cases e : m env with
  | st => rw [e] at hp; exact hp
  | ex c e1 => rw [e] at hp; exact hp
  | ok a =>
    obtain ⟨v, e1⟩ := a
    rw [e] at hp
    simp only [R.bnd] at hp
    intro x F' H' g kd got
    cases ef : frzV v e1 with
    | none => rw [ef] at hp; exact hp.elim
    | some q =>
      obtain ⟨d, e2⟩ := q
      rw [ef] at hp
      simp only at hp
      cases v with
      | tv t =>
        cases ef
        obtain ⟨F2, g2, st⟩ := got.tv.frzHd
        exact hp x F2 H' (g.trans g2) kd (.of st)
      | pl i p =>
        obtain ⟨y, l, ey, pk, _⟩ := got.pl
        cases ey
        obtain ⟨F2, g2, kd2, st⟩ := St.frzP (qs := []) (xs := []) rfl got.base pk ef
        exact hp x F2 H' (g.trans g2) (kd.trans kd2) (.of st)
def mK (m : ME) : ME := fun e => (m e).bnd fun v e1 => match keep v e1 with
  | some (t, e2) => .ok (.tv t, e2)
  | none => .st
theorem ev_k {te : TE} {m : ME} (h : EvT K E te m) : EvT K E te (mK m) := by
  intro B F H σ env Q hs hv hp
  refine h B F H σ env _ hs hv ?_
  unfold mK at hp
  cases e : m env with
  | st => rw [e] at hp; exact hp
  | ex c e1 => rw [e] at hp; exact hp
  | ok a =>
    obtain ⟨v, e1⟩ := a
    rw [e] at hp
    simp only [R.bnd] at hp
    intro x F' H' g kd got
    cases ef : keep v e1 with
    | none => rw [ef] at hp; exact hp.elim
    | some q =>
      obtain ⟨t, e2⟩ := q
      rw [ef] at hp
      obtain ⟨F2, g2, kd2, st⟩ := got.keep ef
      exact hp x F2 H' (g.trans g2) (kd.trans kd2) (.of st)
def tvs : List Val → Option (List T)
  | [] => some []
  | .tv t :: r => (tvs r).map fun ts => t :: ts
  | _ :: _ => none
theorem tvs_fs : ∀ {vs : List Val} {xs : List V} {ts : List T} {S : List Addr}, vs.length = xs.length → tvs vs = some ts → Fs (SR K F H) (pdS vs) (pdX vs xs) S → TRs K F H ts xs S
  | [], [], _, _, _, e, h => by cases e; exact ⟨rfl, h.2⟩
  | [], _ :: _, _, _, hl, _, _ => by cases hl
  | .tv t :: r, [], _, _, hl, _, _ => by cases hl
  | .tv t :: r, x :: xs, ts, S, hl, e, ⟨b, l', S1, S2, eb, eS, ⟨w, ew, tr⟩, q⟩ => by
    obtain ⟨ts', e1, rfl⟩ := Option.map_eq_some_iff.mp e
    cases eb
    cases ew
    exact ⟨x, xs, S1, S2, rfl, eS, tr, tvs_fs (by simpa using hl) e1 q⟩
  | .pl _ _ :: _, _, _, _, _, e, _ => by cases e
def mLst (ms : MA) : ME := fun e => (ms e).bnd fun vs e1 => match tvs vs with
  | some ts => if ts.length ≤ sizeLine then .ok (.tv (.lst ts), e1) else .st
  | none => .st
theorem ev_lst {t : TA} {ms : MA} (ha : EvA K E t ms) : EvT K E (tLst t) (mLst ms) := by
  intro B F H σ env Q hs hv hp
  refine ha B F H σ env _ hs hv ?_
  unfold mLst at hp
  cases e : ms env with
  | st => rw [e] at hp; exact hp
  | ex c e1 => rw [e] at hp; exact hp
  | ok a =>
    obtain ⟨vs, e1⟩ := a
    rw [e] at hp
    simp only [R.bnd] at hp
    intro xs F' H' g kd got
    cases et : tvs vs with
    | none => rw [et] at hp; exact hp.elim
    | some ts =>
      rw [et] at hp
      simp only at hp
      by_cases hz : ts.length ≤ sizeLine
      case neg => rw [if_neg hz] at hp; exact hp.elim
      rw [if_pos hz] at hp
      obtain ⟨Sq, fq, nd, k, go⟩ := St.made (pd_len got.len) got.st
      have tr := tvs_fs got.len et fq
      refine ⟨by rw [← (TRs_iff.mp tr).length]; exact hz, fun q hq => ?_⟩
      have nq : q ∉ Sq := fun z => by
        obtain ⟨o, ho, _⟩ := fq.has q z
        rw [hq] at ho; cases ho
      have fq0 : F' q = none := got.st.sf.off hq
      refine hp (.ref q) F' _ g kd (.of (go F' (upd H' q (.lst xs)) (q :: Sq) [.va (.lst ts)] [some (.ref q)] (Same.refl _) (fun a h1 h2 => absurd h1 h2) (got.st.sf.upd fq0) (fun a ha o ho => ?_) (Fs.one ⟨_, rfl, q, xs, Sq, rfl, upd_same, rfl, tr.upd nq⟩) (List.nodup_cons.mpr ⟨nq, nd⟩) fun a ha => ?_))
      · rw [upd_ne (ne_of_none ho hq)]; exact ho
      · rcases List.mem_cons.mp ha with z | z
        · subst z; exact ⟨fq0, .inl hq⟩
        · exact ⟨(k a z).2, .inr z⟩
def allSh : List T → Option (List D)
  | [] => some []
  | .sh d :: r => (allSh r).map fun ds => d :: ds
  | _ :: _ => none
theorem allSh_dr : ∀ {ts : List T} {ds : List D} {xs : List V} {G : Hp}, allSh ts = some ds → All2 (VR K G F) ts xs → DRs K F ds xs
  | [], ds, xs, _, e, h => by cases e; exact h
  | .sh d :: r, ds, _, _, e, ⟨x, l, ex, h1, h2⟩ => by
    obtain ⟨ds', e1, rfl⟩ := Option.map_eq_some_iff.mp e
    exact ⟨x, l, ex, h1, allSh_dr e1 h2⟩
  | .lst _ :: _, _, _, _, e, _ => by cases e
  | .dct _ :: _, _, _, _, e, _ => by cases e
  | .ins _ _ :: _, _, _, _, e, _ => by cases e
theorem St.newSh {ss : List Slot} {os : List (Option V)} {q : Addr} {o : HO} {d : D} (h : St K B F H ss os) (hq : H q = none) (hr : ∀ F', Same F F' → F' q = some o → DR K F' d (.ref q)) (no : fz q o := by exact True.intro) : ∃ F', Gr B F F' ∧ St K B F' (upd H q o) (.va (.sh d) :: ss) (some (.ref q) :: os) := by
  have fq : F q = none := h.sf.off hq
  have sm : Same H (upd H q o) := fun b u e => by rw [upd_ne (ne_of_none e hq)]; exact e
  have sF : Same F (upd F q o) := fun b u e => by rw [upd_ne (ne_of_none e fq)]; exact e
  have sH : SubF (upd F q o) (upd H q o) := by
    have base := h.sf.upd (o := o) fq
    refine ⟨⟨fun a u r => ?_⟩, fun a ps r => ?_⟩
    · by_cases ha : a = q
      · subst ha; rw [upd_same] at r; exact .inl (by rw [upd_same]; exact r)
      · exact base.sub a u (by rw [upd_ne ha] at r; exact r)
    · by_cases ha : a = q
      · subst ha; rw [upd_same] at r; cases r; exact no
      · rw [upd_ne ha] at r; exact h.sf.nt a ps r
  have bq : B q = none := by
    exact h.sb.ne q hq
  refine ⟨upd F q o, ⟨sF, fun a h1 h2 => ?_⟩, ?_⟩
  · by_cases ha : a = q
    · rw [ha]; exact bq
    · rw [upd_ne ha] at h2; exact absurd h1 h2
  · obtain ⟨S, f, nd, k⟩ := h.fp
    have st1 : St K B (upd F q o) (upd H q o) ss os := ⟨h.sb.trans sm, sH, S, f.imp fun c d Sc hS z => z.mono (.of sF) fun a ha o e => sm a o e, nd, fun a ha => ⟨(k a ha).1, by
      rw [upd_ne (fun z => by
        obtain ⟨y, hy, _⟩ := f.has a ha
        rw [z, hq] at hy; cases hy)]
      exact (k a ha).2⟩⟩
    exact st1.push (hr _ sF upd_same)
def mTup (ms : MA) : ME := fun e => (ms e).bnd fun vs e1 => match (tvs vs).bind allSh with
  | some ds => if ds.length ≤ sizeLine then .ok (.tv (.sh (.tup ds)), e1) else .st
  | none => .st
theorem ev_tup {t : TA} {ms : MA} (ha : EvA K E t ms) : EvT K E (tTup t) (mTup ms) := by
  intro B F H σ env Q hs hv hp
  refine ha B F H σ env _ hs hv ?_
  unfold mTup at hp
  cases e : ms env with
  | st => rw [e] at hp; exact hp
  | ex c e1 => rw [e] at hp; exact hp
  | ok a =>
    obtain ⟨vs, e1⟩ := a
    rw [e] at hp
    simp only [R.bnd] at hp
    intro xs F' H' g kd got
    cases et : (tvs vs).bind allSh with
    | none => rw [et] at hp; exact hp.elim
    | some ds =>
      rw [et] at hp
      simp only at hp
      by_cases hz : ds.length ≤ sizeLine
      case neg => rw [if_neg hz] at hp; exact hp.elim
      rw [if_pos hz] at hp
      obtain ⟨ts, h1, h2⟩ := Option.bind_eq_some_iff.mp et
      obtain ⟨S, f, _, _⟩ := got.st.fp
      obtain ⟨S1, S2, _, f1, _⟩ := f.split (pd_len got.len)
      have dr := allSh_dr h2 (VRs_iff.mp (TRs.vr (tvs_fs got.len h1 f1)))
      refine ⟨by rw [← (DRs_iff.mp dr).length]; exact hz, fun q hq => ?_⟩
      obtain ⟨F2, g2, st⟩ := got.base.newSh (o := .tup xs) (d := .tup ds) hq fun F2 sF e2 => ⟨q, xs, rfl, e2, DRs.mono (.of sF) dr⟩
      exact hp (.ref q) F2 _ (g.trans g2) kd (.of st)
def mNewD : ME := fun e => .ok (.tv (.dct []), e)
theorem ev_newD : EvT K E tDNewK mNewD := by
  intro B F H σ env Q hs hv hp q hq
  obtain ⟨Sq, fq, nd, k, go⟩ := St.made (qs := []) (xs := []) rfl (show St K B F H ([] ++ env) ([] ++ σ) from hs)
  have hSq : Sq = [] := fq.2
  subst hSq
  refine hp (.ref q) F _ (Gr.refl _ _) (Kd.refl _) (.of (go F (upd H q (.dK [])) [q] [.va (.dct [])] [some (.ref q)] (Same.refl _) (fun a h1 h2 => absurd h1 h2) (hs.sf.upd (hs.sf.off hq)) (fun a ha o ho => by rw [upd_ne (ne_of_none ho hq)]; exact ho) (Fs.one ⟨_, rfl, q, [], [], rfl, upd_same, rfl, ⟨rfl, rfl⟩, List.nodup_nil⟩) (by simp) fun a ha => ?_))
  have : a = q := by simpa using ha
  subst this
  exact ⟨hs.sf.off hq, .inl hq⟩
def isI (C : Addr) (m : Str) : T → Bool
  | .sh (.ins C' fs) => decide (C' = C) && (lk fs m).isNone
  | .ins C' fs => decide (C' = C) && (lk fs m).isNone
  | _ => false
theorem isI_ok {C : Addr} {m : Str} {t : T} {x : V} (h : isI C m t = true) (r : VR K H F t x) (sf : SubR F H) : ∃ a dx fs, x = .ref a ∧ H a = some (.ins C dx fs) ∧ fs.lookup m = none := by
  cases t with
  | lst _ => cases h
  | dct _ => cases h
  | sh d =>
    cases d with
    | ins C' fs =>
      have hh : C' = C ∧ lk fs m = none := by simpa [isI] using h
      obtain ⟨rfl, hn⟩ := hh
      obtain ⟨a, dx, fvs, e, q, r⟩ := (show DR K F (.ins C' fs) x from r)
      refine ⟨a, dx, fvs, e, sf.is _ _ _ _ q, ?_⟩
      rw [lookup_lk]
      rcases All2.lk m (DRf_iff.mp r) with ⟨_, z⟩ | ⟨t, v, z, _⟩
      · exact z
      · rw [hn] at z; cases z
    | non => cases h
    | scr _ => cases h
    | exn _ _ _ => cases h
    | bl _ => cases h
    | int _ => cases h
    | str _ => cases h
    | lst _ => cases h
    | tup _ => cases h
    | dct _ => cases h
  | ins C' fs =>
    have hh : C' = C ∧ lk fs m = none := by simpa [isI] using h
    obtain ⟨rfl, hn⟩ := hh
    obtain ⟨a, dx, fvs, e, q, r⟩ := r
    refine ⟨a, dx, fvs, e, q, ?_⟩
    rw [lookup_lk]
    rcases All2.lk m (VRf_iff.mp r) with ⟨_, z⟩ | ⟨t, v, z, _⟩
    · exact z
    · rw [hn] at z; cases z
def mChk (c : T → Bool) (m : ME) : ME := fun e => (m e).bnd fun v e1 => match cn v e1 with
  | some t => if c t = true then .ok (v, e1) else .st
  | none => .st
theorem ev_chk {te : TE} {m : ME} {c : T → Bool} {Pr : V → Hp → Prop} (h : EvT K E te m) (hc : ∀ (t : T) (x : V) (F H : Hp), c t = true → VR K H F t x → SubR F H → Pr x H) : EvT K E (fun σ H Q => te σ H fun x H1 => Pr x H1 ∧ Q x H1) (mChk c m) := by
  intro B F H σ env Q hs hv hp
  refine h B F H σ env _ hs hv ?_
  unfold mChk at hp
  cases e : m env with
  | st => rw [e] at hp; exact hp
  | ex c e1 => rw [e] at hp; exact hp
  | ok a =>
    obtain ⟨v, e1⟩ := a
    rw [e] at hp
    simp only [R.bnd] at hp
    intro x F' H' g kd got
    cases ec : cn v e1 with
    | none => rw [ec] at hp; exact hp.elim
    | some t =>
      rw [ec] at hp
      simp only at hp
      by_cases hh : c t = true
      case neg => rw [if_neg hh] at hp; exact hp.elim
      rw [if_pos hh] at hp
      obtain ⟨y, l, ey, vr, _⟩ := got.vrs (Got.kd (H' := H') hv g kd) (ts := [t]) (by simp [cns, ec])
      cases ey
      exact ⟨hc t x F' H' hh vr got.base.sf, hp x F' H' g kd got⟩
def mMeth (C : Addr) (mn : Str) (n : Nat) (f : MF) (m : ME) (ms : MA) : ME := mCall n f (mCons (mChk (isI C mn) m) ms)
def mMethM (C : Addr) (mn : Str) (n : Nat) (f : MF) (m : ME) (ms : MA) : ME := mCallM n f (mCons (mChk (isI C mn) m) ms)
theorem ev_meth {C : Addr} {mn : Str} {n : Nat} {f : MF} {te : TE} {ta : TA} {m : ME} {ms : MA} (h : EvT K E te m) (ha : EvA K E ta ms) : EvT K E (tMethG C mn (spD K n f) E te ta) (mMeth C mn n f m ms) :=
  ev_callF (ev_cons (ev_chk (Pr := fun x H1 => ∃ a dx fs, x = .ref a ∧ H1 a = some (.ins C dx fs) ∧ fs.lookup mn = none) h fun t x F H c r sf => isI_ok c r sf) ha)
def attrT (C : Addr) (f : Str) (v : Val) (t : T) : Option Val :=
  match t with
  | .sh (.ins C' fs) => if C' = C then (lk fs f).map fun d => .tv (.sh d) else none
  | .ins C' fs => if C' = C then match lk fs f with
      | some (.sh d) => some (.tv (.sh d))
      | some _ => match v with
        | .pl i p => some (.pl i (p ++ [.fld f]))
        | _ => none
      | none => none
    else none
  | _ => none
def mAttr (C : Addr) (f : Str) (m : ME) : ME := fun e => (m e).bnd fun v e1 => match (cn v e1).bind (attrT C f v) with
  | some w => .ok (w, e1)
  | none => .st
theorem Wk.snoc {p : List PEl} {q : PEl} {v x y : V} (h : Wk H p v x) (k : Wk H [q] x y) : Wk H (p ++ [q]) v y := by
  induction p generalizing v with
  | nil => cases (show x = v from h); exact k
  | cons r p ih =>
    cases r with
    | fld f => obtain ⟨a, C, dx, fs, z, e, q, l, w⟩ := h; exact ⟨a, C, dx, fs, z, e, q, l, ih w⟩
    | key f => obtain ⟨a, fs, z, e, q, l, w⟩ := h; exact ⟨a, fs, z, e, q, l, ih w⟩
    | idx f => obtain ⟨a, fs, z, e, q, l, w⟩ := h; exact ⟨a, fs, z, e, q, l, ih w⟩
theorem ev_attr {C : Addr} {f : Str} {te : TE} {m : ME} (h : EvT K E te m) (hc : Cls K C) (hn : NoAttr K C f) : EvT K E (tFld K te f) (mAttr C f m) := by
  intro B F H σ env Q hs hv hp
  refine h B F H σ env _ hs hv ?_
  unfold mAttr at hp
  cases e : m env with
  | st => rw [e] at hp; exact hp
  | ex c e1 => rw [e] at hp; exact hp
  | ok a =>
    obtain ⟨v, e1⟩ := a
    rw [e] at hp
    simp only [R.bnd] at hp
    intro x F' H' g kd got
    cases ec : (cn v e1).bind (attrT C f v) with
    | none => rw [ec] at hp; exact hp.elim
    | some w =>
      rw [ec] at hp
      simp only at hp
      obtain ⟨t, ct, ca⟩ := Option.bind_eq_some_iff.mp ec
      obtain ⟨y, l, ey, vr, _⟩ := got.vrs (Got.kd (H' := H') hv g kd) (ts := [t]) (by simp [cns, ct])
      cases ey
      cases t with
      | lst _ => cases ca
      | dct _ => cases ca
      | sh d =>
        cases d with
        | ins C' fs =>
          simp only [attrT] at ca
          split at ca
          · rename_i hC
            subst hC
            obtain ⟨d, hd, rfl⟩ := Option.map_eq_some_iff.mp ca
            obtain ⟨a, dx, fvs, e, q, r⟩ := (show DR K F' (.ins C' fs) x from vr)
            rcases All2.lk f (DRf_iff.mp r) with ⟨z, _⟩ | ⟨t, z, h1, h2, h3⟩
            · rw [z] at hd; cases hd
            · rw [h1] at hd; cases hd
              exact ⟨a, C', dx, fvs, z, e, got.base.sf.is _ _ _ _ q, hc, hn, by rw [lookup_lk]; exact h2, hp z F' H' g kd (.of (got.base.push h3))⟩
          · cases ca
        | non => cases ca
        | scr _ => cases ca
        | exn _ _ _ => cases ca
        | bl _ => cases ca
        | int _ => cases ca
        | str _ => cases ca
        | lst _ => cases ca
        | tup _ => cases ca
        | dct _ => cases ca
      | ins C' fs =>
        simp only [attrT] at ca
        split at ca
        · rename_i hC
          subst hC
          obtain ⟨a, dx, fvs, ea, q, r⟩ := vr
          rcases All2.lk f (VRf_iff.mp r) with ⟨z, _⟩ | ⟨t, z, h1, h2, h3⟩
          · rw [z] at ca; cases ca
          · rw [h1] at ca
            refine ⟨a, C', dx, fvs, z, ea, q, hc, hn, by rw [lookup_lk]; exact h2, ?_⟩
            cases t with
            | sh d => cases ca; exact hp z F' H' g kd (.of (got.base.push h3))
            | lst _ =>
              cases v with
              | tv _ => cases ca
              | pl i p =>
                cases ca
                obtain ⟨y, l, ey, ⟨v0, ev, wk⟩, _⟩ := got.pl
                cases ey
                exact hp z F' H' g kd ⟨rfl, got.base, z, [], rfl, ⟨v0, ev, wk.snoc ⟨a, C', dx, fvs, z, ea, q, h2, rfl⟩⟩, rfl⟩
            | dct _ =>
              cases v with
              | tv _ => cases ca
              | pl i p =>
                cases ca
                obtain ⟨y, l, ey, ⟨v0, ev, wk⟩, _⟩ := got.pl
                cases ey
                exact hp z F' H' g kd ⟨rfl, got.base, z, [], rfl, ⟨v0, ev, wk.snoc ⟨a, C', dx, fvs, z, ea, q, h2, rfl⟩⟩, rfl⟩
            | ins _ _ =>
              cases v with
              | tv _ => cases ca
              | pl i p =>
                cases ca
                obtain ⟨y, l, ey, ⟨v0, ev, wk⟩, _⟩ := got.pl
                cases ey
                exact hp z F' H' g kd ⟨rfl, got.base, z, [], rfl, ⟨v0, ev, wk.snoc ⟨a, C', dx, fvs, z, ea, q, h2, rfl⟩⟩, rfl⟩
        · cases ca
def mMake (C : Addr) (n : Nat) (f : MF) (ms : MA) : ME := fun e => (ms e).bnd fun vs e1 => if vs.length + 1 = n then match cns vs e1 with
    | some ts => match f (.mu (.ins C []) :: ts.map argS) with
      | .ret (.sh .non) (some u) => .ok (.tv u, e1)
      | .exc c (some _) => .ex c e1
      | _ => .st
    | none => .st
  else .st
theorem ev_make {C : Addr} {n : Nat} {f : MF} {ta : TA} {ms : MA} (ha : EvA K E ta ms) : EvT K E (tMakeG C (spD K n f) E ta) (mMake C n f ms) := by
  intro B F H σ env Q hs hv hp
  refine ha B F H σ env _ hs hv ?_
  unfold mMake at hp
  cases e : ms env with
  | st => rw [e] at hp; exact hp
  | ex c e1 => rw [e] at hp; exact hp
  | ok a =>
    obtain ⟨vs, e1⟩ := a
    rw [e] at hp
    simp only [R.bnd] at hp
    intro xs F' H' g kd got x dx hx hdx hne
    by_cases hl : vs.length + 1 = n
    case neg => rw [if_neg hl] at hp; exact hp.elim
    rw [if_pos hl] at hp
    cases ec : cns vs e1 with
    | none => rw [ec] at hp; exact hp.elim
    | some ts =>
      rw [ec] at hp
      simp only at hp
      have sm : Same H' (upd (upd H' dx (.own x)) x (.ins C dx [])) := fun b o e => by
        rw [upd_ne (ne_of_none e hx), upd_ne (ne_of_none e hdx)]; exact e
      have vr := got.vrs (Got.kd (H' := H') hv g kd) ec
      obtain ⟨f1, w1⟩ := args_ok (H := upd (upd H' dx (.own x)) x (.ins C dx [])) vr
      have fx : F' x = none := got.st.sf.off hx
      have sF : SubF F' (upd (upd H' dx (.own x)) x (.ins C dx [])) := (got.st.sf.upd (got.st.sf.off hdx)).upd fx
      refine ⟨by simp [← got.len]; exact hl, H', F', .mu (.ins C []) :: ts.map argS, ⟨got.base.sb.frs sm, sF, [x], ⟨_, _, [x], [], rfl, rfl, ⟨_, rfl, x, dx, [], [], rfl, upd_same, rfl, rfl, rfl⟩, f1⟩, by simp, fun a ha => ?_⟩, fun j t ej => ?_, ?_⟩
      · have : a = x := by simpa using ha
        subst this
        exact ⟨hx, fx⟩
      · cases j with
        | zero => simp at ej
        | succ j => simpa using w1 j t (by simpa using ej)
      · have hb : St K B F' (upd (upd H' dx (.own x)) x (.ins C dx [])) e1 σ := got.base.same sm
        cases r : f (.mu (.ins C []) :: ts.map argS) with
        | st => rw [r] at hp; exact hp
        | exc c m =>
          rw [r] at hp
          cases m with
          | none => exact hp.elim
          | some u =>
            intro od F2 H2 g2 st2 ok
            obtain ⟨g3, st3⟩ := got.base.back g2 (St.pre (qs := []) (xs := []) rfl (st2 : St K H' F2 H2 ([] ++ _) ([] ++ _)))
            exact hp od F2 H2 (g.trans g3) kd st3 ok
        | ret q m =>
          rw [r] at hp
          cases m with
          | none => cases q with
            | sh d => cases d <;> exact hp.elim
            | lst _ => exact hp.elim
            | dct _ => exact hp.elim
            | ins _ _ => exact hp.elim
          | some u =>
            have fin : q = .sh .non → PostV K B F env σ E Q (.ok (.tv u, e1)) → PostF K H' F' (V.ref x :: xs) (fun v H2 => v = .non ∧ Q (.ref x) H2) (E σ) (.ret q (some u)) := by
              intro hq hp y F2 H2 g2 st2
              subst hq
              have hy := st2.hd
              have st3 : St K H' F2 H2 [.va u] [some (V.ref x)] := by
                obtain ⟨S, ⟨b, l', S1, S2, eb, eS, h1, h2⟩, nd, k⟩ := st2.drop.fp
                cases eb
                obtain ⟨z1, z2⟩ := h2
                cases z1
                cases z2
                exact ⟨st2.sb, st2.sf, S1 ++ [], ⟨_, _, S1, [], rfl, rfl, h1, rfl, rfl⟩, by subst eS; exact nd, fun a ha => k a (by subst eS; exact ha)⟩
              obtain ⟨g3, st4⟩ := got.base.back g2 st3
              exact ⟨hy, hp (.ref x) F2 H2 (g.trans g3) kd (.of st4)⟩
            cases q with
            | sh d =>
              cases d with
              | non => exact fin rfl hp
              | bl _ => exact hp.elim
              | int _ => exact hp.elim
              | str _ => exact hp.elim
              | lst _ => exact hp.elim
              | tup _ => exact hp.elim
              | dct _ => exact hp.elim
              | scr _ => exact hp.elim
              | exn _ _ _ => exact hp.elim
              | ins _ _ => exact hp.elim
            | lst _ => exact hp.elim
            | dct _ => exact hp.elim
            | ins _ _ => exact hp.elim
end
structure Fm (P : Program) (w : World) (K : Kf) (mg : Str → Option Value) (base : Heap) (k : Nat) {ι : Type} (X : ι → Cx) (E : XS) : Prop where
  hP : ∀ j, (X j).prog = P
  hw : ∀ j, (X j).w = w
  hb : ∀ j, (X j).base = base
  hk : ∀ j, (X j).K = K
  hm : ∀ j, (X j).mg = mg
  calm : ∀ j, (X j).calm = true
  gd : ∀ j, Gq k (X j).A
  room : ∀ j, Room k (X j).A
  nd : ∀ j, (X j).N.Nodup
  tk : ∀ j, Takes (X j) (fun cls d σ H => E σ cls d H)
  po : ∀ j, PassesOwn (model (X j).prog (X j).w) (X j).A (X j).env (X j).xe
theorem Fm.pa {P : Program} {w : World} {K : Kf} {mg : Str → Option Value} {base : Heap} {k : Nat} {ι : Type} {X : ι → Cx} {E : XS} (fm : Fm P w K mg base k X E) (j : ι) : PassesS (X j) E := .tk (fm.tk j)
def DE (K : Kf) (E : XS) {ι : Type} (X : ι → Cx) (e : Expr) (m : ME) : Prop := ∃ t, (∀ j, PE (X j) e t) ∧ EvT K E t m
def DA (K : Kf) (E : XS) {ι : Type} (X : ι → Cx) (es : List Expr) (m : MA) : Prop := ∃ t, (∀ j, PA (X j) es t) ∧ EvA K E t m
def DB (K : Kf) (E : XS) {ι : Type} (X : ι → Cx) (e : Expr) (m : MB) : Prop := ∃ t, (∀ j, PT (X j) e t) ∧ EvB K E t m
def DW (K : Kf) (E : XS) {ι : Type} (X : ι → Cx) (e : Expr) (m : MB) : Prop := ∃ t, (∀ j, PW (X j) e t) ∧ EvB K E t m
def DQ (K : Kf) (E : XS) {ι : Type} (X : ι → Cx) (es : List Expr) (m : MB) : Prop := ∃ t, (∀ j, PTs (X j) es t) ∧ EvB K E t m
def DS (K : Kf) (E : XS) {ι : Type} (X : ι → Cx) (st : Stmt) (m : MS) : Prop := ∃ t, (∀ j, PS (X j) st t) ∧ DsT K E t m
def DSs (K : Kf) (E : XS) {ι : Type} (X : ι → Cx) (st : List Stmt) (m : MS) : Prop := ∃ t, (∀ j, PSs (X j) st t) ∧ DsT K E t m
def DG (K : Kf) {ι : Type} (X : ι → Cx) (tg : Expr) (m : MG) (vs : List Nat) : Prop := ∃ g, (∀ j, PG (X j) tg g) ∧ EvG K g m vs
def DI (K : Kf) (E : XS) {ι : Type} (X : ι → Cx) (tg it : Expr) (m : MI) : Prop := ∃ wi : (Addr → Prop) → TI, (∀ j, PI (X j) tg it (wi (Pf (X j)))) ∧ EvI K E wi m
def DI0 (K : Kf) (E : XS) {ι : Type} (X : ι → Cx) (tg it : Expr) (m : MI) : Prop := ∃ wi : TI, (∀ j, PI (X j) tg it wi) ∧ EvI0 K E wi m
section
variable {P : Program} {w : World} {base : Heap} {K : Kf} {mg : Str → Option Value} {k : Nat} {ι : Type} {X : ι → Cx} {E : XS} {e a b c o : Expr} {es : List Expr} {pos apos p : Pos} {m n : ME} {ms : MA} {x : Str}
theorem dn (i : Nat) {x : Str} {pos : Pos} (hN : ∀ j, (X j).N[i]? = some x := by intro _; rfl) (hv : ∀ j, Vis (X j).env.scope x := by intro _; first | exact Or.inl rfl | exact Or.inr (Or.inl rfl) | exact Or.inr (Or.inr rfl))
    (hd : (x == ("__debug__" : Str)) = false := by decide +kernel) (hc : (x == ("__classdict__" : Str)) = false := by decide +kernel) : DE K E X (.Name x pos) (mN i) := ⟨_, fun j => pe_var (hN j) (hv j) hd hc, ev_n⟩
theorem di {i : Int} {z} : DE K E X (.Constant (.int i) z pos) (mC (.int i)) := ⟨_, fun _ => pe_int, ev_c rfl⟩
theorem dbl {i : Bool} {z} : DE K E X (.Constant (.bool i) z pos) (mC (.bl i)) := ⟨_, fun _ => pe_bl, ev_c rfl⟩
theorem dnon {z} : DE K E X (.Constant .none z pos) (mC .non) := ⟨_, fun _ => pe_non, ev_c rfl⟩
theorem dst {i : Str} {z} : DE K E X (.Constant (.str i) z pos) (mC (.str i)) := ⟨_, fun _ => pe_str, ev_c rfl⟩
theorem dgl (fm : Fm P w K mg base k X E) {d : D} {v : V} {u : Value} (hm : mg x = some u) (f : Flat d v) (r : RelV v u) (hg : ∀ j, Gl (X j) x := by intro _; rfl) (hd : (x == ("__debug__" : Str)) = false := by decide +kernel) : DE K E X (.Name x pos) (mC d) :=
  ⟨_, fun j => pe_glob (hg j) (by rw [fm.hm j]; exact hm) r hd, ev_c f⟩
theorem da0 : DA K E X [] mNil := ⟨_, fun _ => pa_nil, ev_nil⟩
theorem da (ha : DE K E X e m) (hr : DA K E X es ms) (hs : ∀ j, starEach (e :: es) (X j).env = (false, eval e (X j).env) :: starEach es (X j).env := by intro _; rfl) : DA K E X (e :: es) (mCons m ms) := by
  obtain ⟨t, h1, h2⟩ := ha
  obtain ⟨u, h3, h4⟩ := hr
  exact ⟨_, fun j => pa_cons (h1 j) (h3 j) (hs j), ev_cons h2 h4⟩
theorem df (h : DE K E X e m) : DE K E X e (mF m) := let ⟨t, h1, h2⟩ := h; ⟨t, h1, ev_f h2⟩
theorem dk (h : DE K E X e m) : DE K E X e (mK m) := let ⟨t, h1, h2⟩ := h; ⟨t, h1, ev_k h2⟩
theorem dlst (h : DA K E X es ms) : DE K E X (.List es pos) (mLst ms) := let ⟨_, h1, h2⟩ := h; ⟨_, fun j => pe_lst (h1 j), ev_lst h2⟩
theorem dtup {z} (h : DA K E X es ms) : DE K E X (.Tuple es z pos) (mTup ms) := let ⟨_, h1, h2⟩ := h; ⟨_, fun j => pe_tup (h1 j), ev_tup h2⟩
theorem dnewd : DE K E X (.Dict [] [] pos) mNewD := ⟨_, fun _ => pe_dnewK, ev_newD⟩
def r2 (r : R2) : List V → Hp → VK → Prop := fun xs H Q => match xs with
  | [x, y] => r x y H Q
  | _ => False
theorem dbin {op : Operator} {r : R2} {f : List T → Option T} (ho : ∀ j, OpR (X j) (binaryOp op) r) (hf : OpN K (r2 r) f) (ha : DE K E X a m) (hb : DE K E X b n) : DE K E X (.BinOp a op b pos) (mOp f (mCons m (mCons n mNil))) := by
  obtain ⟨t, h1, h2⟩ := ha
  obtain ⟨u, h3, h4⟩ := hb
  exact ⟨_, fun j => pe_op (ho j) (h1 j) (h3 j), ev_op (ev_cons h2 (ev_cons h4 ev_nil)) hf⟩
theorem dcmp {op : CmpOp} {r : R2} {f : List T → Option T} (ho : ∀ j, OpR (X j) (compareOp op) r) (hf : OpN K (r2 r) f) (ha : DE K E X a m) (hb : DE K E X b n) (hm : behindInMarks op b = false := by first | rfl | exact nomark _) :
    DE K E X (.Compare a [op] [b] pos) (mOp f (mCons m (mCons n mNil))) := by
  obtain ⟨t, h1, h2⟩ := ha
  obtain ⟨u, h3, h4⟩ := hb
  exact ⟨_, fun j => pe_cmpR (ho j) (h1 j) (h3 j) hm, ev_op (ev_cons h2 (ev_cons h4 ev_nil)) hf⟩
def asB : T → Option Bool
  | .sh (.bl b) => some b
  | _ => none
theorem ev_asB {te : TE} (h : EvT K E te m) : EvB K E (tTest te) (mTst asB m) := by
  refine ev_tst h (fun x H Q => ∃ k, x = .bl k ∧ Q k H) fun H F u x b Q r sf e q => ?_
  cases u with
  | sh d => cases d <;> first | (cases e; exact ⟨_, r, q⟩) | cases e
  | lst _ => cases e
  | dct _ => cases e
  | ins _ _ => cases e
theorem dbcmp {op : CmpOp} {r : R2} {f : List T → Option T} (ho : ∀ j, OpR (X j) (compareOp op) r) (hf : OpN K (r2 r) f) (ha : DE K E X a m) (hb : DE K E X b n) (hm : behindInMarks op b = false := by first | rfl | exact nomark _) :
    DB K E X (.Compare a [op] [b] pos) (mTst asB (mOp f (mCons m (mCons n mNil)))) := by
  obtain ⟨t, h1, h2⟩ := ha
  obtain ⟨u, h3, h4⟩ := hb
  exact ⟨_, fun j => pt_cmpR (ho j) (h1 j) (h3 j) hm, ev_asB (ev_op (ev_cons h2 (ev_cons h4 ev_nil)) hf)⟩
theorem dun {op : UnaryOp} {r : V → Hp → VK → Prop} {f : List T → Option T} (ho : ∀ j, UnR (X j) (unaryOp op) r) (hf : OpN K (fun xs H Q => match xs with | [x] => r x H Q | _ => False) f) (ha : DE K E X a m) : DE K E X (.UnaryOp op a pos) (mOp f (mCons m mNil)) := by
  obtain ⟨t, h1, h2⟩ := ha
  exact ⟨_, fun j => pe_un (ho j) (h1 j), ev_op (ev_cons h2 ev_nil) hf⟩
theorem OpR.or {Y : Cx} {f : Value → Value → Sem Value} {r r' : R2} (h : OpR Y f r) (h' : OpR Y f r') : OpR Y f (fun x y H Q => r x y H Q ∨ r' x y H Q) :=
  fun pins s σ H x y v u Q I rx ry q => q.elim (h pins s σ H x y v u Q I rx ry) (h' pins s σ H x y v u Q I rx ry)
theorem OpN.or {r r' : List V → Hp → VK → Prop} {f f' : List T → Option T} (h : OpN K r f) (h' : OpN K r' f') : OpN K (fun xs H Q => r xs H Q ∨ r' xs H Q) (fun us => (f us).or (f' us)) := by
  intro B F H ss os us xs t' Q st vr e q
  have e : (f us).or (f' us) = some t' := e
  cases e1 : f us with
  | some t => rw [e1] at e; cases e; exact .inl (h B F H ss os us xs _ Q st vr e1 q)
  | none => rw [e1] at e; exact .inr (h' B F H ss os us xs _ Q st vr e q)
theorem OpN.r2or {r r' : R2} {f f' : List T → Option T} (h : OpN K (r2 r) f) (h' : OpN K (r2 r') f') : OpN K (r2 fun x y H Q => r x y H Q ∨ r' x y H Q) (fun us => (f us).or (f' us)) := by
  intro B F H ss os us xs t' Q st vr e q
  have := OpN.or h h' B F H ss os us xs t' Q st vr e q
  match xs, this with
  | [x, y], w => exact w
  | [], w => rcases w with w | w <;> exact w
  | [_], w => rcases w with w | w <;> exact w
  | _ :: _ :: _ :: _, w => rcases w with w | w <;> exact w
theorem dtru (he : DE K E X e m) {f : T → Option Bool} (hf : TruN K f) (fm : Fm P w K mg base k X E) (hw : ∀ j whole, isTrue e (X j).env whole = (do let v ← whole; standAt e.pos; holding [v] (truthy v)) := by intro _ _; rfl) : DB K E X e (mTst f m) := by
  obtain ⟨t, h1, h2⟩ := he
  refine ⟨_, fun j => (by have := pt_truth (h1 j) (hw j); rw [fm.hk j] at this; exact this), ev_tst h2 (fun x H Q => ∃ k, TruV K x H k ∧ Q k H) fun H F u x b Q r sf e q => ⟨b, hf H F u x b r sf e, q⟩⟩
theorem dnot {mb : MB} (h : DB K E X a mb) : DB K E X (.UnaryOp .Not a pos) (mNot mb) := let ⟨_, h1, h2⟩ := h; ⟨_, fun j => pt_not (h1 j), ev_not h2⟩
theorem dw {mb : MB} (h : DW K E X a mb) : DB K E X a mb := let ⟨_, h1, h2⟩ := h; ⟨_, fun j => (h1 j).pt, h2⟩
theorem dand1 {mb : MB} (h : DB K E X a mb) : DW K E X (.BoolOp .And [a] pos) mb := let ⟨_, h1, h2⟩ := h; ⟨_, fun j => pw_and1 (h1 j), h2⟩
theorem dor1 {mb : MB} (h : DB K E X a mb) : DW K E X (.BoolOp .Or [a] pos) mb := let ⟨_, h1, h2⟩ := h; ⟨_, fun j => pw_or1 (h1 j), h2⟩
theorem dand {mb nb : MB} {r : List Expr} (h : DB K E X a mb) (h' : DW K E X (.BoolOp .And (b :: r) pos) nb) : DW K E X (.BoolOp .And (a :: b :: r) pos) (mAnd mb nb) := by
  obtain ⟨_, h1, h2⟩ := h
  obtain ⟨_, h3, h4⟩ := h'
  exact ⟨_, fun j => pw_and (h1 j) (h3 j), ev_and h2 h4⟩
theorem dor {mb nb : MB} {r : List Expr} (h : DB K E X a mb) (h' : DW K E X (.BoolOp .Or (b :: r) pos) nb) : DW K E X (.BoolOp .Or (a :: b :: r) pos) (mOr mb nb) := by
  obtain ⟨_, h1, h2⟩ := h
  obtain ⟨_, h3, h4⟩ := h'
  exact ⟨_, fun j => pw_or (h1 j) (h3 j), ev_or h2 h4⟩
theorem dif {mb : MB} (h : DB K E X c mb) (ha : DE K E X a m) (hb : DE K E X b n) : DE K E X (.IfExp c a b pos) (mIf mb m n) := by
  obtain ⟨_, h1, h2⟩ := h
  obtain ⟨_, h3, h4⟩ := ha
  obtain ⟨_, h5, h6⟩ := hb
  exact ⟨_, fun j => pe_ifExp (h1 j) (h3 j) (h5 j), ev_if h2 h4 h6⟩
def mAndV (m n : ME) : ME := fun e => (m e).bnd fun v e1 => match v with
  | .tv (.sh (.bl true)) => n e1
  | .tv (.sh (.bl false)) => .ok (.tv (.sh (.bl false)), e1)
  | _ => .st
def mOrV (m n : ME) : ME := fun e => (m e).bnd fun v e1 => match v with
  | .tv (.sh (.bl false)) => n e1
  | .tv (.sh (.bl true)) => .ok (.tv (.sh (.bl true)), e1)
  | _ => .st
theorem Got.bl {B F H : Hp} {env : Env} {σ : L2.St} {b : Bool} {x : V} (h : Got K B F H env σ [.tv (.sh (.bl b))] [x]) : x = .bl b := by
  obtain ⟨S, ⟨b', l', S1, S2, eb, eS, ⟨w, ew, _, r⟩, _⟩, _⟩ := h.st.fp
  cases eb
  cases ew
  exact r
theorem ev_andV {ta tb : TE} (ha : EvT K E ta m) (hb : EvT K E tb n) : EvT K E (tAndV ta tb) (mAndV m n) := by
  intro B F H σ env Q hs hv hp
  refine ha B F H σ env _ hs hv ?_
  unfold mAndV at hp
  cases e : m env with
  | st => rw [e] at hp; exact hp
  | ex c e1 => rw [e] at hp; exact hp
  | ok q =>
    obtain ⟨v, e1⟩ := q
    rw [e] at hp
    simp only [R.bnd] at hp
    intro x F' H' g kd got
    split at hp
    · cases got.bl
      exact ⟨true, rfl, iteT (hb B F' H' σ e1 Q got.base (Got.kd (H' := H') hv g kd) (hp.trans g kd))⟩
    · cases got.bl
      exact ⟨false, rfl, iteF (hp _ F' H' g kd got)⟩
    · exact hp.elim
theorem ev_orV {ta tb : TE} (ha : EvT K E ta m) (hb : EvT K E tb n) : EvT K E (tOrV ta tb) (mOrV m n) := by
  intro B F H σ env Q hs hv hp
  refine ha B F H σ env _ hs hv ?_
  unfold mOrV at hp
  cases e : m env with
  | st => rw [e] at hp; exact hp
  | ex c e1 => rw [e] at hp; exact hp
  | ok q =>
    obtain ⟨v, e1⟩ := q
    rw [e] at hp
    simp only [R.bnd] at hp
    intro x F' H' g kd got
    split at hp
    · cases got.bl
      exact ⟨false, rfl, iteF (hb B F' H' σ e1 Q got.base (Got.kd (H' := H') hv g kd) (hp.trans g kd))⟩
    · cases got.bl
      exact ⟨true, rfl, iteT (hp _ F' H' g kd got)⟩
    · exact hp.elim
theorem done {op} (h : DE K E X a m) : DE K E X (.BoolOp op [a] pos) m := let ⟨_, h1, h2⟩ := h; ⟨_, fun j => pe_one (h1 j), h2⟩
theorem dandV {r : List Expr} (h : DE K E X a m) (h' : DE K E X (.BoolOp .And (b :: r) pos) n) : DE K E X (.BoolOp .And (a :: b :: r) pos) (mAndV m n) := by
  obtain ⟨_, h1, h2⟩ := h
  obtain ⟨_, h3, h4⟩ := h'
  exact ⟨_, fun j => pe_and (h1 j) (h3 j), ev_andV h2 h4⟩
theorem dorV {r : List Expr} (h : DE K E X a m) (h' : DE K E X (.BoolOp .Or (b :: r) pos) n) : DE K E X (.BoolOp .Or (a :: b :: r) pos) (mOrV m n) := by
  obtain ⟨_, h1, h2⟩ := h
  obtain ⟨_, h3, h4⟩ := h'
  exact ⟨_, fun j => pe_or (h1 j) (h3 j), ev_orV h2 h4⟩
theorem dcb (fm : Fm P w K mg base k X E) {id : String} {r : List V → Hp → VK → Prop} {f : List T → Option T} (hc : ∀ j, CallR (X j) (.builtin id) r) (ho : OpN K r f) (hm : mg x = none) (hb : bootBuiltins x = some (.builtin id)) (ha : DA K E X (e :: es) ms)
    (hg : ∀ j, Gl (X j) x := by intro _; rfl) (hn : x ≠ "__name__" := by decide +kernel) (hd : (x == ("__debug__" : Str)) = false := by decide +kernel) (he : ∀ j, starEach (e :: es) (X j).env = (false, eval e (X j).env) :: starEach es (X j).env := by intro _; rfl)
    (hp : ∀ j, (backTo pos (starEach es (X j).env)).any (·.1) = false := by intro _; rfl) : DE K E X (.Call (.Name x p) (e :: es) [] pos) (mOp f ms) := by
  obtain ⟨t, h1, h2⟩ := ha
  exact ⟨_, fun j => pe_callB (hc j) (hg j) (by rw [fm.hm j]; exact hm) hb (h1 j) hn hd (he j) (hp j), ev_op h2 ho⟩
theorem dct (fm : Fm P w K mg base k X E) {id : String} {r : List V → Hp → VK → Prop} {f : List T → Option T} (hc : ∀ j, CallR (X j) (.type id) r) (ho : OpN K r f) (hm : mg x = none) (hb : bootBuiltins x = some (.type id)) (ha : DA K E X (e :: es) ms)
    (hg : ∀ j, Gl (X j) x := by intro _; rfl) (hn : x ≠ "__name__" := by decide +kernel) (hd : (x == ("__debug__" : Str)) = false := by decide +kernel) (he : ∀ j, starEach (e :: es) (X j).env = (false, eval e (X j).env) :: starEach es (X j).env := by intro _; rfl)
    (hp : ∀ j, (backTo pos (starEach es (X j).env)).any (·.1) = false := by intro _; rfl) : DE K E X (.Call (.Name x p) (e :: es) [] pos) (mOp f ms) := by
  obtain ⟨t, h1, h2⟩ := ha
  exact ⟨_, fun j => pe_callTy (hc j) (hg j) (by rw [fm.hm j]; exact hm) hb (h1 j) hn hd (he j) (hp j), ev_op h2 ho⟩
structure Df (P : Program) (w : World) (K : Kf) (mg : Str → Option Value) (base : Heap) (k : Nat) (n : Nat) (f : MF) (g : Addr) : Prop where
  kp : PySem.W.keepIn K (.ref g) = true
  ok : ∃ fd ps, FnG P w K mg base k g fd ps (spD K n f) ∧ Binds K fd ps []
theorem dcall (fm : Fm P w K mg base k X E) {k' n : Nat} {f : MF} {g : Addr} (d : Df P w K mg base k' n f g) (hm : mg x = some (.ref g)) (hk : k' ≤ k) (ha : DA K E X (e :: es) ms)
    (hg : ∀ j, Gl (X j) x := by intro _; rfl) (hd : (x == ("__debug__" : Str)) = false := by decide +kernel) (he : ∀ j, starEach (e :: es) (X j).env = (false, eval e (X j).env) :: starEach es (X j).env := by intro _; rfl)
    (hp : ∀ j, (backTo pos (starEach es (X j).env)).any (·.1) = false := by intro _; rfl) : DE K E X (.Call (.Name x p) (e :: es) [] pos) (mCall n f ms) := by
  obtain ⟨t, h1, h2⟩ := ha
  refine ⟨_, fun j => ?_, ev_callF h2⟩
  obtain ⟨fd, ps, F, B⟩ := d.ok
  have F' : FnG (X j).prog (X j).w (X j).K (X j).mg (X j).base k' g fd ps (spD K n f) := by rw [fm.hP j, fm.hw j, fm.hb j, fm.hk j, fm.hm j]; exact F
  exact pe_callG F' ((fm.room j).mono hk) ((fm.gd j).mono hk) (hg j) (by rw [fm.hm j]; exact hm) (by rw [fm.hk j]; exact d.kp) (by rw [fm.hk j]; exact B) (fm.pa j) (h1 j) hd (he j) (hp j)
theorem dcallM (fm : Fm P w K mg base k X E) {k' n : Nat} {f : MF} {g : Addr} (d : Df P w K mg base k' n f g) (hm : mg x = some (.ref g)) (hk : k' ≤ k) (ha : DA K E X (e :: es) ms)
    (hg : ∀ j, Gl (X j) x := by intro _; rfl) (hd : (x == ("__debug__" : Str)) = false := by decide +kernel) (he : ∀ j, starEach (e :: es) (X j).env = (false, eval e (X j).env) :: starEach es (X j).env := by intro _; rfl)
    (hp : ∀ j, (backTo pos (starEach es (X j).env)).any (·.1) = false := by intro _; rfl) : DE K E X (.Call (.Name x p) (e :: es) [] pos) (mCallM n f ms) := by
  obtain ⟨t, h1, h2⟩ := ha
  refine ⟨_, fun j => ?_, ev_callM h2⟩
  obtain ⟨fd, ps, F, B⟩ := d.ok
  have F' : FnG (X j).prog (X j).w (X j).K (X j).mg (X j).base k' g fd ps (spD K n f) := by rw [fm.hP j, fm.hw j, fm.hb j, fm.hk j, fm.hm j]; exact F
  exact pe_callG F' ((fm.room j).mono hk) ((fm.gd j).mono hk) (hg j) (by rw [fm.hm j]; exact hm) (by rw [fm.hk j]; exact d.kp) (by rw [fm.hk j]; exact B) (fm.pa j) (h1 j) hd (he j) (hp j)
theorem dmake (fm : Fm P w K mg base k X E) {k' n : Nat} {f : MF} {g C : Addr} (d : Df P w K mg base k' n f g) (M : Mk K C g) (hm : mg x = some (.ref C)) (hk : k' + 1 ≤ k) (ha : DA K E X (e :: es) ms)
    (hg : ∀ j, Gl (X j) x := by intro _; rfl) (hd : (x == ("__debug__" : Str)) = false := by decide +kernel) (he : ∀ j, starEach (e :: es) (X j).env = (false, eval e (X j).env) :: starEach es (X j).env := by intro _; rfl)
    (hp : ∀ j, (backTo pos (starEach es (X j).env)).any (·.1) = false := by intro _; rfl) : DE K E X (.Call (.Name x p) (e :: es) [] pos) (mMake C n f ms) := by
  obtain ⟨t, h1, h2⟩ := ha
  refine ⟨_, fun j => ?_, ev_make h2⟩
  obtain ⟨fd, ps, F, B⟩ := d.ok
  have F' : FnG (X j).prog (X j).w (X j).K (X j).mg (X j).base k' g fd ps (spD K n f) := by rw [fm.hP j, fm.hw j, fm.hb j, fm.hk j, fm.hm j]; exact F
  exact pe_makeG (by rw [fm.hk j]; exact M) F' ((fm.room j).mono hk) ((fm.gd j).mono hk) (hg j) (by rw [fm.hm j]; exact hm) (by rw [fm.hk j]; exact B) (fm.pa j) (h1 j) hd (he j) (hp j)
theorem dattr (fm : Fm P w K mg base k X E) {C : Addr} {f : Str} (hc : Cls K C) (hn : NoAttr K C f) (h : DE K E X o m) (hb : ∀ j, attributeBase o f (X j).env (eval o (X j).env) = eval o (X j).env := by intro _; rfl) : DE K E X (.Attribute o f pos) (mAttr C f m) := by
  obtain ⟨t, h1, h2⟩ := h
  exact ⟨_, fun j => (by have := pe_fld (f := f) (pos := pos) (h1 j) (hb j); rw [fm.hk j] at this; exact this), ev_attr h2 hc hn⟩
end
section
variable {P : Program} {w : World} {base : Heap} {K : Kf} {mg : Str → Option Value} {k : Nat} {ι : Type} {X : ι → Cx} {E : XS} {e a b c o : Expr} {es : List Expr} {pos apos p : Pos} {m n : ME} {ms : MA} {x : Str} {st : Stmt} {sts : List Stmt} {u v : MS}
theorem dmeth (fm : Fm P w K mg base k X E) {k' n' : Nat} {f : MF} {g C : Addr} {mn : Str} {pl : ι → Sem Bool} (d : Df P w K mg base k' n' f g) (hc : Cls K C) (M : Meth K C mn g) (hk : k' ≤ k) (ho : DE K E X o m) (ha : DA K E X (e :: es) ms)
    (he : ∀ j, starEach (e :: es) (X j).env = (false, eval e (X j).env) :: starEach es (X j).env := by intro _; rfl) (hp : ∀ j, (backTo pos (starEach es (X j).env)).any (·.1) = false := by intro _; rfl)
    (ht : ∀ j, eval (.Call (.Attribute o mn apos) (e :: es) [] pos) (X j).env = (do
      let z ← eval o (X j).env
      standAt apos.atName
      let (g, own) ← holding [z] (getMethod z mn (pl j))
      callWith pos g own (backTo pos (starEach (e :: es) (X j).env)) (backToKw pos (keywordEach [] (X j).env))) := by intro _; rfl) : DE K E X (.Call (.Attribute o mn apos) (e :: es) [] pos) (mMeth C mn n' f m ms) := by
  obtain ⟨t, h1, h2⟩ := ho
  obtain ⟨t', h3, h4⟩ := ha
  refine ⟨_, fun j => ?_, ev_meth h2 h4⟩
  obtain ⟨fd, ps, F, B⟩ := d.ok
  have F' : FnG (X j).prog (X j).w (X j).K (X j).mg (X j).base k' g fd ps (spD K n' f) := by rw [fm.hP j, fm.hw j, fm.hb j, fm.hk j, fm.hm j]; exact F
  exact pe_methG (h1 j) (by rw [fm.hk j]; exact hc) (by rw [fm.hk j]; exact M) F' ((fm.room j).mono hk) ((fm.gd j).mono hk) (by rw [fm.hk j]; exact B) (fm.pa j) (h3 j) (he j) (hp j) (ht j)
theorem ss0 : DSs K E X [] mSkip := ⟨_, fun _ => pss_nil, ds_skip⟩
theorem ss1 (h : DS K E X st u) : DSs K E X [st] u := let ⟨_, h1, h2⟩ := h; ⟨_, fun j => pss_one (h1 j), h2⟩
theorem ssc (h : DS K E X st u) (h' : DSs K E X sts v) : DSs K E X (st :: sts) (mSeq u v) := by
  obtain ⟨_, h1, h2⟩ := h
  obtain ⟨_, h3, h4⟩ := h'
  exact ⟨_, fun j => pss_cons (h1 j) (h3 j), ds_seq h2 h4⟩
theorem sret (h : DE K E X e m) : DS K E X (.Return (some e) pos) (mRet m) := let ⟨_, h1, h2⟩ := h; ⟨_, fun j => ps_ret (h1 j), ds_ret h2⟩
theorem sexp (h : DE K E X e m) (hs : ∀ j, swapsWith e none pos.line (X j).env = pure false := by intro _; rfl) : DS K E X (.Expr e pos) (mDrop m) := let ⟨_, h1, h2⟩ := h; ⟨_, fun j => ps_expr (h1 j) (hs j), ds_drop h2⟩
theorem sif {mb : MB} {us vs : List Stmt} (h : DB K E X c mb) (ha : DSs K E X us u) (hb : DSs K E X vs v) : DS K E X (.If c us vs pos) (mIfS mb u v) := by
  obtain ⟨_, h1, h2⟩ := h
  obtain ⟨_, h3, h4⟩ := ha
  obtain ⟨_, h5, h6⟩ := hb
  exact ⟨_, fun j => ps_if (h1 j) (h3 j) (h5 j), ds_if h2 h4 h6⟩
def mAsg (m : ME) (g : MG) : MS := mE m fun v e => match keep v e with
  | some (t, e1) => match g t e1 with
    | .ok e2 => .ok (.nx e2)
    | _ => .st
  | none => .st
theorem ds_asg {te : TE} {g : TG} {m : ME} {gm : MG} {vs : List Nat} (h : EvT K E te m) (hg : EvG K g gm vs) : DsT K E (tAsg te g) (mAsg m gm) :=
  ds_e (body := fun D x σ H1 => g x σ H1 D.nx) h fun B F H σ env D v x got hv hp => by
    cases e : keep v env with
    | none => rw [e] at hp; exact hp.elim
    | some q =>
      obtain ⟨t, e1⟩ := q
      rw [e] at hp
      simp only at hp
      obtain ⟨F', g', kd, st⟩ := got.keep e
      refine hg B F' H σ e1 t x _ st (Got.kd (H' := H) hv g' kd) ?_
      cases e2 : gm t e1 with
      | st => rw [e2] at hp; exact hp.elim
      | ex c e => rw [e2] at hp; exact hp.elim
      | ok e2' =>
        rw [e2] at hp
        exact fun σ' F2 H2 g2 kp _ _ st2 => hp σ' F2 H2 (g'.trans g2) ((Kp.of kd).trans kp) st2
theorem sset (fm : Fm P w K mg base k X E) (i : Nat) {x : Str} {p' : Pos} (h : DE K E X e m) (hi : ∀ j, (X j).N[i]? = some x := by intro _; rfl) (hx : ∀ j, Loc (X j).env.scope x := by intro _; first | exact Or.inl rfl | exact Or.inr rfl)
    (hs : ∀ j, swapsWith e (some (.Name x p')) pos.line (X j).env = pure false := by intro _; rfl) (hf : ∀ j, (X j).fn x = true ∨ (X j).env.scope.names.lookup x = some .local := by intro _; first | exact .inl rfl | exact .inr rfl) :
    DS K E X (.Assign [.Name x p'] e pos) (mAsg m (gN i)) := by
  obtain ⟨_, h1, h2⟩ := h
  exact ⟨_, fun j => ps_set (fm.nd j) (hi j) (hx j) (h1 j) (hs j) (hf j), ds_asg h2 ev_gN⟩
theorem dgN (fm : Fm P w K mg base k X E) (i : Nat) {x : Str} (hi : ∀ j, (X j).N[i]? = some x := by intro _; rfl) (hx : ∀ j, Loc (X j).env.scope x := by intro _; first | exact Or.inl rfl | exact Or.inr rfl)
    (hf : ∀ j, (X j).fn x = true ∨ (X j).env.scope.names.lookup x = some .local := by intro _; first | exact .inl rfl | exact .inr rfl) : DG K X (.Name x pos) (gN i) [i] := ⟨_, fun j => pg_name (fm.nd j) (hi j) (hx j) (hf j), ev_gN⟩
theorem sforL {tg it : Expr} {gm : MG} {mi : MI} {vs : List Nat} {body : List Stmt} (fm : Fm P w K mg base k X E) (hi : DI K E X tg it mi) (hg : DG K X tg gm vs) (hb : DSs K NX X body u) (hs : ∀ j x, foldedSetIterable it (X j).env x = pure x := by intro _ _; rfl) :
    DS K E X (.For tg it body [] pos) (mForL mi gm u) := by
  obtain ⟨_, h1, h2⟩ := hi
  obtain ⟨_, h3, h4⟩ := hg
  obtain ⟨_, h5, h6⟩ := hb
  refine ⟨_, fun j => ⟨fun pins s σ H D I hw => ?_⟩, ds_forL h2 h4 h6⟩
  exact (ps_unl (ps_for (fm.po j) (fm.calm j) (h1 j) (h3 j) (h5 j) (hs j))).run pins s σ H D I (hw (Pf (X j)))
theorem swhile {mb : MB} {body : List Stmt} (N : Nat) (fm : Fm P w K mg base k X E) (hc : DB K E X c mb) (hb : DSs K E X body u) : DS K E X (.While c body [] pos) (whileS mb u N) := by
  obtain ⟨_, h1, h2⟩ := hc
  obtain ⟨_, h3, h4⟩ := hb
  exact ⟨_, fun j => ps_while (fm.po j) (h1 j) (h3 j), ds_while N h2 h4⟩
abbrev Blk (ι : Type) : Type := ι × Shared × Hp × Addr × List (Str × Addr) × List Addr
abbrev blkX (X : ι → Cx) (scope : Scope) : Blk ι → Cx := fun q => (X q.1).blk q.2.1 q.2.2.1 scope (compEnvC scope q.2.2.2.2.1 q.2.2.2.1 (X q.1).env) q.2.2.2.2.2
theorem Fm.blk {scope : Scope} (fm : Fm P w K mg base k X E) : Fm P w K mg base k (blkX X scope) NX where
  hP := fun q => fm.hP q.1
  hw := fun q => fm.hw q.1
  hb := fun q => fm.hb q.1
  hk := fun q => fm.hk q.1
  hm := fun q => fm.hm q.1
  calm := fun q => fm.calm q.1
  gd := fun q => fm.gd q.1
  room := fun q => fm.room q.1
  nd := fun q => fm.nd q.1
  tk := fun _ => takesN
  po := fun _ => PassesOwn.never
theorem dq0 : DQ K E X [] (fun e => .ok (true, e)) := ⟨_, fun _ => pts_nil, fun B F H σ env Q hs hv hp => hp F H (Gr.refl _ _) (Kd.refl _) hs⟩
theorem dq1 {mb : MB} (h : DB K E X c mb) : DQ K E X [c] mb := let ⟨_, h1, h2⟩ := h; ⟨_, fun j => pts_one (h1 j), h2⟩
theorem dlc (fm : Fm P w K mg base k X E) {elt tg it : Expr} {ifs : List Expr} {scope : Scope} {own : List (Str × Nat)} {mi : MI} {gm : MG} {vg : List Nat} {mt : MB} (hi : DI K E X tg it mi) (ok : ∀ j, BlkOk (X j).N (X j).env.scope scope own)
    (hg : DG K (blkX X scope) tg gm vg) (hvs : ∀ v ∈ vg, v ∈ own.map (·.2)) (ht : DQ K NX (blkX X scope) ifs mt) (he : DE K NX (blkX X scope) elt m) (hs : ∀ j x, foldedSetIterable it (X j).env x = pure x := by intro _ _; rfl) :
    DE K E X (.ListComp elt [⟨tg, it, ifs, 0⟩] scope pos) (mLc (own.map (·.2)) mi gm mt m) := by
  obtain ⟨_, h1, h2⟩ := hi
  obtain ⟨_, h3, h4⟩ := hg
  obtain ⟨_, h5, h6⟩ := ht
  obtain ⟨_, h7, h8⟩ := he
  refine ⟨_, fun j => ⟨fun pins s σ H Q I hw => ?_⟩, ev_lc h2 h4 hvs h6 h8⟩
  exact (pe_unl (pe_lc (fm.calm j) (fm.nd j) (h1 j) (ok j) (fun s H C cl fp => h3 (j, s, H, C, cl, fp)) (fun s H C cl fp => h5 (j, s, H, C, cl, fp)) (fun s H C cl fp => h7 (j, s, H, C, cl, fp)) (hs j))).run pins s σ H Q I (hw (Pf (X j)))
end
section
variable {K : Kf} {B F H : Hp} {E : XS}
theorem Fs.pk {κ : Type} [DecidableEq κ] {k : κ} {t : T} {y : V} {S1 : List Addr} (h1 : TR K F H t y S1) : ∀ {ks : List (κ × T)} {kvs : List (κ × V)} {S : List Addr}, Fs (TRp K F H) ks kvs S →
    ∃ S', Fs (TRp K F H) (DL.pk ks k t) (DL.pk kvs k y) S' ∧ (∀ b ∈ S', b ∈ S ++ S1) ∧ ((S ++ S1).Nodup → S'.Nodup)
  | [], kvs, S, h => by
    obtain ⟨e1, e2⟩ := h
    subst e1; subst e2
    exact ⟨S1, Fs.one ⟨rfl, h1⟩, fun b hb => by simpa using hb, fun h => by simpa using h⟩
  | p :: r, kvs, S, ⟨q, l', Sp, S2, e, eS, ⟨r1, r2⟩, h⟩ => by
    subst e; subst eS
    by_cases c : p.1 = k
    · refine ⟨S1 ++ S2, ?_, fun b hb => ?_, fun nd => ?_⟩
      · have e1 : DL.pk (p :: r) k t = (k, t) :: r := by simp [DL.pk, c]
        have e2 : DL.pk (q :: l') k y = (k, y) :: l' := by simp [DL.pk, r1, c]
        rw [e1, e2]
        exact ⟨_, l', S1, S2, rfl, rfl, ⟨rfl, h1⟩, h⟩
      · rcases List.mem_append.mp hb with z | z <;> simp [z]
      · have n1 := List.nodup_append.mp nd
        have n2 := List.nodup_append.mp n1.1
        exact List.nodup_append.mpr ⟨n1.2.1, n2.2.1, fun a ha b hb z => n1.2.2 b (by simp [hb]) a ha z.symm⟩
    · obtain ⟨S', f, sub, nd'⟩ := Fs.pk h1 h
      refine ⟨Sp ++ S', ?_, fun b hb => ?_, fun nd => ?_⟩
      · have e1 : DL.pk (p :: r) k t = p :: DL.pk r k t := by simp [DL.pk, c]
        have e2 : DL.pk (q :: l') k y = q :: DL.pk l' k y := by simp [DL.pk, r1, c]
        rw [e1, e2]
        exact ⟨q, _, Sp, S', rfl, rfl, ⟨r1, r2⟩, f⟩
      · rcases List.mem_append.mp hb with z | z
        · simp [z]
        · rcases List.mem_append.mp (sub b z) with w | w <;> simp [w]
      · have n1 := List.nodup_append.mp nd
        have n2 := List.nodup_append.mp n1.1
        refine List.nodup_append.mpr ⟨n2.1, nd' (List.nodup_append.mpr ⟨n2.2.1, n1.2.1, fun a ha b hb z => n1.2.2 a (by simp [ha]) b hb z⟩), fun a ha b hb z => ?_⟩
        rcases List.mem_append.mp (sub b hb) with w | w
        · exact n2.2.2 a ha b w z
        · exact n1.2.2 a (by simp [ha]) b w z
theorem St.dput {ks : List (Key × T)} {t : T} {D : Addr} {y : V} {k : Key} {ss : List Slot} {os : List (Option V)} (h : St K B F H (.va (.dct ks) :: .va t :: ss) (some (.ref D) :: some y :: os)) : ∃ kvs, H D = some (.dK kvs) ∧ kvs.length = ks.length ∧
    St K B F (upd H D (.dK (putK kvs k y))) (.va (.dct (pk ks k t)) :: ss) (some (.ref D) :: os) := by
  obtain ⟨Sq, fq, nd, kk, go⟩ := St.made (qs := [.va (.dct ks), .va t]) (xs := [some (.ref D), some y]) rfl h
  obtain ⟨b, l', S1, S2, e, eS, ⟨w, ew, a, vs, S', e1, q, eS1, r, ndk⟩, ⟨b2, l2, S3, S4, e2, eS2, ⟨w2, ew2, tr⟩, z⟩⟩ := fq
  cases e
  cases ew
  cases e1
  cases e2
  cases ew2
  obtain ⟨z1, z2⟩ := z
  cases z2
  subst eS2
  subst eS1
  subst eS
  have ndS : (D :: (S' ++ S3)).Nodup := by simpa using nd
  have nin : D ∉ S' ++ S3 := (List.nodup_cons.mp ndS).1
  obtain ⟨S'', f'', sub, nd''⟩ := Fs.pk (k := k) tr (TRk_iff.mp r)
  have ndv : (vs.map (·.1)).Nodup := by rw [Fs.keys (TRk_iff.mp r)]; exact ndk
  refine ⟨vs, q, ((TRk_iff.mp r).length).symm, ?_⟩
  rw [putK_pk ndv]
  have hD : F D = none := (kk D (by simp)).2
  have n2 : D ∉ S'' := fun z => nin (sub D z)
  refine go F _ (D :: S'') [.va (.dct (pk ks k t))] [some (.ref D)] (Same.refl F) (fun a h1 h2 => absurd h1 h2) (h.sf.upd hD) (fun b hb o e => ?_) (Fs.one ⟨_, rfl, D, pk vs k y, S'', rfl, upd_same, rfl, (TRk_iff.mpr f'').upd n2, pk_nodup ndk⟩) (List.nodup_cons.mpr ⟨n2, nd'' (List.nodup_cons.mp ndS).2⟩) (fun a ha => ?_)
  · rw [upd_ne (fun z => hb (by simp [z]))]; exact e
  · rcases List.mem_cons.mp ha with z | z
    · subst z; exact ⟨hD, .inr (by simp)⟩
    · have := sub a z
      exact ⟨(kk a (by rcases List.mem_append.mp this with w | w <;> simp [w])).2, .inr (by rcases List.mem_append.mp this with w | w <;> simp [w])⟩
end
def keyT : T → Option Key
  | .sh (.int i) => some (.inl i)
  | .sh (.str x) => some (.inr x)
  | _ => none
theorem keyT_ok {K : Kf} {G F : Hp} {t : T} {k : Key} {x : V} (h : keyT t = some k) (r : VR K G F t x) : x = kV k := by
  cases t with
  | sh d => cases d <;> first | (cases h; exact r) | cases h
  | lst _ => cases h
  | dct _ => cases h
  | ins _ _ => cases h
def loopD (vs : List Nat) (mg : MG) (mt : MB) (mk me : ME) : List D → List (Key × T) → Env → R (List (Key × T) × Env)
  | [], acc, e => .ok (acc, e)
  | d :: r, acc, e => match mg (.sh d) (wpE e vs) with
    | .ok e1 => match mt e1 with
      | .ok (b, e2) => if b = true then match mk e2 with
          | .ok (.tv t, e3) => match keyT t with
            | some k => match me e3 with
              | .ok (v, e4) => match keep v e4 with
                | some (t, e5) => if acc.length < sizeLine then loopD vs mg mt mk me r (pk acc k t) e5 else .st
                | none => .st
              | _ => .st
            | none => .st
          | _ => .st
        else loopD vs mg mt mk me r acc e2
      | _ => .st
    | _ => .st
def mDc (vs : List Nat) (mi : MI) (mg : MG) (mt : MB) (mk me : ME) : ME := fun e => (mi e).bnd fun ds e1 => if litesAt e1 vs = true then match loopD vs mg mt mk me ds [] e1 with
    | .ok (ts, e2) => .ok (.tv (.dct ts), rst e1 vs e2)
    | _ => .st
  else .st
section
variable {K : Kf} {E : XS}
theorem ev_dc {wi : (Addr → Prop) → TI} {g : TG} {tt : TT} {tk te : TE} {vs vg : List Nat} {mi : MI} {mg : MG} {mt : MB} {mk me : ME} (hi : EvI K E wi mi) (hg : EvG K g mg vg) (hvs : ∀ v ∈ vg, v ∈ vs) (ht : EvB K NX tt mt) (hk : EvT K NX tk mk) (he : EvT K NX te me) :
    EvT K E (fun σ H Q => ∀ P, tDc (wi P) g tt tk te vs σ H fun v H' => ∃ Hu, Unl P H' Hu ∧ Q v Hu) (mDc vs mi mg mt mk me) := by
  intro B F H σ env Q hs hv hp P
  refine hi P B F H σ env _ hs hv ?_
  unfold mDc at hp
  cases e : mi env with
  | st => rw [e] at hp; exact hp
  | ex c e1 => rw [e] at hp; exact hp
  | ok a =>
    obtain ⟨ds, env1⟩ := a
    rw [e] at hp
    simp only [R.bnd] at hp
    by_cases hlite : litesAt env1 vs = true
    case neg => rw [if_neg hlite] at hp; exact hp.elim
    rw [if_pos hlite] at hp
    intro J F1 H1 Bl g1 kd1 st1 sBl nBl W back D hD
    have hv1 : Vw K Bl F1 env1 σ := (Got.kd (H' := H1) hv g1 kd1).gr sBl (SubR.refl _)
    have stw : St K Bl F1 H1 (wpE env1 vs) (wipe σ vs) := st1.wp vs
    have st0 : St K Bl F1 (upd H1 D (.dK [])) (.va (.dct []) :: wpE env1 vs) (some (.ref D) :: wipe σ vs) := by
      have sm : Same H1 (upd H1 D (.dK [])) := fun b o e => by rw [upd_ne (ne_of_none e hD)]; exact e
      obtain ⟨Sq, fq, nd, k, go⟩ := St.made (qs := []) (xs := []) rfl (show St K Bl F1 H1 ([] ++ wpE env1 vs) ([] ++ wipe σ vs) from stw)
      have hSq : Sq = [] := fq.2
      subst hSq
      exact go F1 _ [D] [.va (.dct [])] [some (.ref D)] (Same.refl _) (fun a h1 h2 => absurd h1 h2) (st1.sf.trans (.of sm)) (fun a _ o e => sm a o e) (Fs.one ⟨_, rfl, D, [], [], rfl, upd_same, rfl, ⟨rfl, rfl⟩, List.nodup_nil⟩) (by simp) (fun a ha => by
        have : a = D := by simpa using ha
        subst this
        exact ⟨st1.sf.off hD, .inl hD⟩)
    let Tn : Nat → Hp → Prop := fun i H2 => ∃ (F2 : Hp) (e2 : Env) (acc : List (Key × T)), Gr Bl F1 F2 ∧ List.length e2 = List.length env1 ∧ (∀ j, j ∉ vs → (∀ t, env1[j]? = some (Slot.vw t) ↔ e2[j]? = some (Slot.vw t)) ∧ ((∃ t, env1[j]? = some (Slot.mu t)) ↔ ∃ t, e2[j]? = some (Slot.mu t))) ∧
      St K Bl F2 H2 (.va (.dct acc) :: wpE e2 vs) (some (.ref D) :: wipe σ vs) ∧
      PostV K B F env σ E Q (match loopD vs mg mt mk me (ds.drop i) acc e2 with
        | .ok (ts, e2) => .ok (.tv (.dct ts), rst env1 vs e2)
        | _ => .st)
    refine ⟨fun i m H2 => m = ds.length - i ∧ i ≤ ds.length ∧ Tn i H2, ⟨ds.length, by simp, Nat.zero_le _, F1, env1, [], Gr.refl _ _, rfl, fun j hj => ⟨fun _ => Iff.rfl, Iff.rfl⟩, st0, by simpa using hp⟩, ?_⟩
    rintro i m H2 ⟨rfl, hi, F2, e2, acc, g2, hl2, k2, st2, hp2⟩
    by_cases hlt : i < ds.length
    · refine .inr ⟨W.go i F2 H2 _ _ hlt g2 st2, fun H' => Tn (i + 1) H', fun H' h => ⟨ds.length - (i + 1), by omega, rfl, hlt, h⟩, fun x H3 y => ?_⟩
      obtain ⟨F3, g3, st3⟩ := W.yld i ds[i] F2 H2 _ _ x H3 (by simp [hlt]) g2 st2 y
      rw [List.drop_eq_getElem_cons hlt] at hp2
      unfold loopD at hp2
      have st3s : St K Bl F3 H3 (.va (.dct acc) :: .va (.sh ds[i]) :: wpE e2 vs) (some (.ref D) :: some x :: wipe σ vs) := by
        obtain ⟨S, ⟨b, l', S1, S2, eb, eS, h1, ⟨b2, l2, S3, S4, eb2, eS2, h2, h3⟩⟩, nd, k⟩ := st3.fp
        cases eb
        cases eb2
        obtain ⟨w, ew, eS1, r1⟩ := h1
        cases ew
        subst eS1
        subst eS2
        subst eS
        exact ⟨st3.sb, st3.sf, S3 ++ S4, ⟨_, _, S3, S4, rfl, rfl, h2, ⟨_, _, [], S4, rfl, rfl, ⟨x, rfl, rfl, r1⟩, h3⟩⟩, by simpa using nd, fun a ha => k a (by simpa using ha)⟩
      obtain ⟨B3, sB3, st3p, park3⟩ := st3s.park
      have vw3 : Vw K B3 F3 (wpE e2 vs) (wipe σ vs) := fun j t ej => by
        rw [wpE_get] at ej
        by_cases hj : j ∈ vs
        · rw [if_pos hj] at ej
          cases q : e2[j]? <;> rw [q] at ej <;> simp at ej
        · rw [if_neg hj] at ej
          obtain ⟨v, a, b⟩ := hv1 j t (((k2 j hj).1 t).mpr ej)
          exact ⟨v, by rw [wipe_get, if_neg hj]; exact a, b.mono (.of sB3) ((g2.trans g3).sub)⟩
      refine hg B3 F3 H3 (wipe σ vs) (wpE e2 vs) (.sh ds[i]) x _ st3p vw3 ?_
      cases e4 : mg (.sh ds[i]) (wpE e2 vs) with
      | st => rw [e4] at hp2; exact hp2.elim
      | ex c e5 => rw [e4] at hp2; exact hp2.elim
      | ok env4 =>
        rw [e4] at hp2
        simp only at hp2
        intro σ4 F4 H4 g4 kp4 off4 len4' st4
        have vgs : ∀ j, j ∉ vs → j ∉ vg := fun j hj z => hj (hvs j z)
        have len4 : σ4.length = (wipe σ vs).length := by rw [← st4.len, len4', ← st3p.drop.len]
        have vw4 : Vw K B3 F4 env4 σ4 := kp4.vw g4 vw3
        refine ⟨wipe_same (by rw [len4, wipe_length]) (fun j hj => ?_), ?_⟩
        · rw [(off4 j (vgs j hj)).2, wipe_get, if_neg hj]
        have kd4 : ∀ j, j ∉ vs → (∀ t, env1[j]? = some (Slot.vw t) ↔ env4[j]? = some (Slot.vw t)) ∧ ((∃ t, env1[j]? = some (Slot.mu t)) ↔ ∃ t, env4[j]? = some (Slot.mu t)) := fun j hj => by
          rw [(off4 j (vgs j hj)).1, wpE_get, if_neg hj]; exact k2 j hj
        have σ4w : ∀ F5 H5 e5, Gr B3 F4 F5 → Kd env4 e5 → St K Bl F5 H5 (.va (.dct acc) :: e5) (some (.ref D) :: σ4) → List.length e5 = List.length env1 ∧ (∀ j, j ∉ vs → (∀ t, env1[j]? = some (Slot.vw t) ↔ e5[j]? = some (Slot.vw t)) ∧ ((∃ t, env1[j]? = some (Slot.mu t)) ↔ ∃ t, e5[j]? = some (Slot.mu t))) := fun F5 H5 e5 g5 kd5 st5 => by
          refine ⟨?_, fun j hj => ⟨fun t => ((kd4 j hj).1 t).trans ((kd5 j).1 t), (kd4 j hj).2.trans (kd5 j).2⟩⟩
          have h1 := st5.drop.len
          have h2 := st1.len
          rw [len4, wipe_length] at h1
          omega
        have σw : wipe σ4 vs = wipe σ vs := wipe_same (by rw [len4, wipe_length]) (fun j hj => by rw [(off4 j (vgs j hj)).2, wipe_get, if_neg hj])
        refine ht B3 F4 H4 σ4 env4 _ st4 vw4 ?_
        cases e6 : mt env4 with
        | st => rw [e6] at hp2; exact hp2.elim
        | ex c e5 => rw [e6] at hp2; exact hp2.elim
        | ok q =>
          obtain ⟨b, env5⟩ := q
          rw [e6] at hp2
          simp only at hp2
          intro F5 H5 g5 kd5 st5
          have g15 : Gr Bl F1 F5 := g2.trans (g3.trans ((g4.trans g5).anti sB3))
          cases b with
          | false =>
            rw [if_neg (by decide)] at hp2 ⊢
            have stl := park3 F5 H5 _ _ (g4.trans g5) st5
            obtain ⟨l5, k5⟩ := σ4w F5 H5 env5 g5 kd5 stl
            refine ⟨F5, env5, acc, g15, l5, k5, ?_, hp2⟩
            have q := park3 F5 H5 _ _ (g4.trans g5) (st5.wp vs)
            rw [σw] at q
            exact q
          | true =>
            rw [if_pos rfl] at hp2 ⊢
            have vw5 := Got.kd (H' := H5) vw4 g5 kd5
            refine hk B3 F5 H5 σ4 env5 _ st5 vw5 ?_
            cases e7 : mk env5 with
            | st => rw [e7] at hp2; exact hp2.elim
            | ex c e5 => rw [e7] at hp2; exact hp2.elim
            | ok q =>
              obtain ⟨v0, env6⟩ := q
              rw [e7] at hp2
              cases v0 with
              | pl _ _ => exact hp2.elim
              | tv t0 =>
              simp only at hp2
              cases ek : keyT t0 with
              | none => rw [ek] at hp2; exact hp2.elim
              | some ky =>
              rw [ek] at hp2
              simp only at hp2
              intro y6 F6 H6 g6 kd6 got6
              have hy6 : y6 = kV ky := keyT_ok ek got6.tv.hd
              refine he B3 F6 H6 σ4 env6 _ got6.base (Got.kd (H' := H6) vw5 g6 kd6) ?_
              cases e7' : me env6 with
              | st => rw [e7'] at hp2; exact hp2.elim
              | ex c e5 => rw [e7'] at hp2; exact hp2.elim
              | ok q =>
              obtain ⟨v, env6'⟩ := q
              rw [e7'] at hp2
              simp only at hp2
              intro z6 F6' H6' g6' kd6' got6'
              cases e8 : keep v env6' with
              | none => rw [e8] at hp2; exact hp2.elim
              | some q =>
                obtain ⟨t, env7⟩ := q
                rw [e8] at hp2
                simp only at hp2
                obtain ⟨F7, g7, kd7, st7⟩ := got6'.keep e8
                have gg : Gr B3 F3 F7 := g4.trans (g5.trans (g6.trans (g6'.trans g7)))
                have kk : Kd env4 env7 := kd5.trans (kd6.trans (kd6'.trans kd7))
                have stl := park3 F7 H6' _ _ gg st7
                obtain ⟨ws, hD6, hlen, sn⟩ := stl.dput (k := ky)
                by_cases hsz : acc.length < sizeLine
                case neg => rw [if_neg hsz] at hp2; exact hp2.elim
                rw [if_pos hsz] at hp2
                refine ⟨ws, ky, hy6, hD6, by rw [hlen]; exact hsz, F7, env7, pk acc ky t, g2.trans (g3.trans (gg.anti sB3)), ?_⟩
                refine ⟨?_, fun j hj => ⟨fun t => ((kd4 j hj).1 t).trans ((kk j).1 t), (kd4 j hj).2.trans (kk j).2⟩, ?_, hp2⟩
                · have h1 := sn.drop.len
                  have h2 := st1.len
                  rw [len4, wipe_length] at h1
                  omega
                · obtain ⟨B7, sB7, stp7, park7⟩ := sn.park
                  have q := park7 F7 _ _ _ (Gr.refl _ _) (stp7.wp vs)
                  rw [σw] at q
                  exact q
    · have he : i = ds.length := by omega
      subst he
      refine .inl ⟨W.stop F2 H2 _ _ g2 st2, ?_⟩
      obtain ⟨B7, sB7, stp7, park7⟩ := st2.park
      have q := park7 F2 H2 _ _ (Gr.refl _ _) (St.unwp st1 g2.same stp7 (by rw [wpE_len]; exact hl2) vs hlite)
      rw [rst_wipe] at q
      obtain ⟨Hu, hu, stu⟩ := back F2 H2 _ _ g2 q
      rw [List.drop_length] at hp2
      have er : rst env1 vs (wpE e2 vs) = rst env1 vs e2 := by
        refine List.ext_getElem? fun j => ?_
        rw [rst_get j (by rw [wpE_len]; exact hl2.symm), rst_get j hl2.symm, wpE_get]
        by_cases hj : j ∈ vs <;> simp [hj]
      rw [er] at stu
      exact ⟨Hu, hu, hp2 (.ref D) F2 Hu (g1.trans (g2.low nBl)) (kd1.trans (Kd.wp hlite hl2.symm k2)) (.of stu)⟩
end
section
variable {P : Program} {w : World} {base : Heap} {K : Kf} {mg : Str → Option Value} {k : Nat} {ι : Type} {X : ι → Cx} {E : XS} {e a b c o : Expr} {es : List Expr} {pos apos p : Pos} {m n : ME} {ms : MA} {x : Str}
theorem ddc (fm : Fm P w K mg base k X E) {kx vx tg it : Expr} {ifs : List Expr} {scope : Scope} {own : List (Str × Nat)} {mi : MI} {gm : MG} {vg : List Nat} {mt : MB} {mk : ME} (hi : DI K E X tg it mi) (ok : ∀ j, BlkOk (X j).N (X j).env.scope scope own)
    (hg : DG K (blkX X scope) tg gm vg) (hvs : ∀ v ∈ vg, v ∈ own.map (·.2)) (ht : DQ K NX (blkX X scope) ifs mt) (hk : DE K NX (blkX X scope) kx mk) (he : DE K NX (blkX X scope) vx m) (hs : ∀ j x, foldedSetIterable it (X j).env x = pure x := by intro _ _; rfl) :
    DE K E X (.DictComp kx vx [⟨tg, it, ifs, 0⟩] scope pos) (mDc (own.map (·.2)) mi gm mt mk m) := by
  obtain ⟨_, h1, h2⟩ := hi
  obtain ⟨_, h3, h4⟩ := hg
  obtain ⟨_, h5, h6⟩ := ht
  obtain ⟨_, h7, h8⟩ := he
  obtain ⟨_, h9, h10⟩ := hk
  refine ⟨_, fun j => ⟨fun pins s σ H Q I hw => ?_⟩, ev_dc h2 h4 hvs h6 h10 h8⟩
  exact (pe_unl (pe_dc (fm.calm j) (fm.nd j) (h1 j) (ok j) (fun s H C cl fp => h3 (j, s, H, C, cl, fp)) (fun s H C cl fp => h5 (j, s, H, C, cl, fp)) (fun s H C cl fp => h9 (j, s, H, C, cl, fp)) (fun s H C cl fp => h7 (j, s, H, C, cl, fp)) (hs j))).run pins s σ H Q I (hw (Pf (X j)))
end
def OpD (K : Kf) (r : List V → Hp → VK → Prop) (f : List D → Option D) : Prop :=
  ∀ (H : Hp) (us : List D) (xs : List V) (d : D) (Q : VK), All2 (DR K H) us xs → f us = some d → (∀ y, Flat d y → Q y H) → r xs H Q
def liftD (f : List D → Option D) (us : List T) : Option T := (f (us.map T.er)).map T.sh
section
variable {K : Kf}
theorem all2_er {H F : Hp} (sf : SubR F H) : ∀ {us : List T} {xs : List V}, All2 (VR K H F) us xs → All2 (DR K H) (us.map T.er) xs
  | [], _, h => h
  | _ :: _, _, ⟨x, l, e, h, r⟩ => ⟨x, l, e, h.dr sf, all2_er sf r⟩
theorem OpD.n {r : List V → Hp → VK → Prop} {f : List D → Option D} (h : OpD K r f) : OpN K r (liftD f) := by
  intro B F H ss os us xs t' Q st vr e q
  obtain ⟨d, e1, rfl⟩ := Option.map_eq_some_iff.mp e
  exact h H _ xs d Q (all2_er st.sf vr) e1 fun y fl => q y H (Same.refl H) (st.push fl.dr)
theorem CallR.or {Y : Cx} {f : Value} {r r' : List V → Hp → VK → Prop} (h : CallR Y f r) (h' : CallR Y f r') : CallR Y f (fun xs H Q => r xs H Q ∨ r' xs H Q) :=
  fun pins s σ H xs us Q I rs q => q.elim (h pins s σ H xs us Q I rs) (h' pins s σ H xs us Q I rs)
def f2i (c : Int → Int → Bool) (g : Int → Int → D) : List D → Option D
  | [.int i, .int j] => if c i j = true then some (g i j) else none
  | _ => none
theorem od_rI {C : Int → Int → Prop} {c : Int → Int → Bool} {g : Int → Int → V} {g' : Int → Int → D} (hc : ∀ i j, c i j = true → C i j) (hg : ∀ i j, Flat (g' i j) (g i j)) (hu : ∀ i j y, Flat (g' i j) y → y = g i j) : OpD K (r2 (rI C g)) (f2i c g') := by
  intro H us xs d Q vr e q
  unfold f2i at e
  split at e
  · obtain ⟨x, _, rfl, hx, y, _, rfl, hy, rfl⟩ := vr
    split at e
    · rename_i hh
      cases e
      exact ⟨_, _, hx, hy, hc _ _ hh, q _ (hg _ _)⟩
    · cases e
  · cases e
theorem od_rI0 {g : Int → Int → V} {g' : Int → Int → D} (hg : ∀ i j, Flat (g' i j) (g i j)) : OpD K (r2 (rI0 g)) (f2i (fun _ _ => true) g') := by
  intro H us xs d Q vr e q
  unfold f2i at e
  split at e
  · obtain ⟨x, _, rfl, hx, y, _, rfl, hy, rfl⟩ := vr
    rw [if_pos rfl] at e
    cases e
    exact ⟨_, _, hx, hy, q _ (hg _ _)⟩
  · cases e
def oAdd := f2i (fun _ _ => true) fun i j => .int (i + j)
def oSub := f2i (fun _ _ => true) fun i j => .int (i - j)
def oMul := f2i (fun i j => decide (i.natAbs.log2 + j.natAbs.log2 < 1000000)) fun i j => .int (i * j)
def oMod := f2i (fun _ j => decide (0 < j)) fun i j => .int (i % j)
def oDiv := f2i (fun _ j => decide (0 < j ∧ j.natAbs.log2 < 9000)) fun i j => .int (i / j)
def oPow := f2i (fun i j => decide (0 ≤ j ∧ j ≤ 1000000 ∧ i.natAbs < 2 ^ 64)) fun i j => .int (i ^ j.toNat)
def oLt := f2i (fun _ _ => true) fun i j => .bl (decide (i < j))
def oLe := f2i (fun _ _ => true) fun i j => .bl (decide (i ≤ j))
def oGt := f2i (fun _ _ => true) fun i j => .bl (decide (j < i))
def oGe := f2i (fun _ _ => true) fun i j => .bl (decide (j ≤ i))
theorem od_add : OpD K (r2 (rI0 fun i j => .int (i + j))) oAdd := od_rI0 fun _ _ => rfl
theorem od_sub : OpD K (r2 (rI0 fun i j => .int (i - j))) oSub := od_rI0 fun _ _ => rfl
theorem od_mul : OpD K (r2 (rI CMulW fun i j => .int (i * j))) oMul := od_rI (fun i j h => show i.natAbs.log2 + j.natAbs.log2 < 1000000 from of_decide_eq_true h) (fun _ _ => rfl) fun _ _ _ h => h
theorem od_mod : OpD K (r2 (rI (fun _ j => 0 < j) fun i j => .int (i % j))) oMod := od_rI (fun _ _ h => of_decide_eq_true h) (fun _ _ => rfl) fun _ _ _ h => h
theorem od_div : OpD K (r2 (rI CDivW fun i j => .int (i / j))) oDiv := od_rI (fun i j h => show 0 < j ∧ j.natAbs.log2 < 9000 from of_decide_eq_true h) (fun _ _ => rfl) fun _ _ _ h => h
theorem od_pow : OpD K (r2 (rI CPow fun i j => .int (i ^ j.toNat))) oPow := od_rI (fun i j h => show 0 ≤ j ∧ j ≤ 1000000 ∧ i.natAbs < 2 ^ 64 from of_decide_eq_true h) (fun _ _ => rfl) fun _ _ _ h => h
theorem od_lt : OpD K (r2 (rI0 fun i j => .bl (decide (i < j)))) oLt := od_rI0 fun _ _ => rfl
theorem od_le : OpD K (r2 (rI0 fun i j => .bl (decide (i ≤ j)))) oLe := od_rI0 fun _ _ => rfl
theorem od_gt : OpD K (r2 (rI0 fun i j => .bl (decide (j < i)))) oGt := od_rI0 fun _ _ => rfl
theorem od_ge : OpD K (r2 (rI0 fun i j => .bl (decide (j ≤ i)))) oGe := od_rI0 fun _ _ => rfl
def oNeg : List D → Option D
  | [.int i] => some (.int (-i))
  | _ => none
theorem od_neg : OpD K (fun xs H Q => match xs with | [x] => rU (fun i => .int (-i)) x H Q | _ => False) oNeg := by
  intro H us xs d Q vr e q
  unfold oNeg at e
  split at e
  · obtain ⟨x, _, rfl, hx, rfl⟩ := vr
    cases e
    exact ⟨_, hx, q _ rfl⟩
  · cases e
def oCatS : List D → Option D
  | [.str i, .str j] => if i.length + j.length ≤ sizeLine then some (.str (i ++ j)) else none
  | _ => none
theorem od_catS : OpD K (r2 fun x y H Q => ∃ i j, x = .str i ∧ y = .str j ∧ i.length + j.length ≤ sizeLine ∧ Q (.str (i ++ j)) H) oCatS := by
  intro H us xs d Q vr e q
  unfold oCatS at e
  split at e
  · obtain ⟨x, _, rfl, hx, y, _, rfl, hy, rfl⟩ := vr
    split at e
    · cases e
      exact ⟨_, _, hx, hy, by assumption, q _ rfl⟩
    · cases e
  · cases e
def f2s (g : Str → Str → Bool) : List D → Option D
  | [.str i, .str j] => some (.bl (g i j))
  | _ => none
theorem od_2s {g : Str → Str → Bool} : OpD K (r2 fun x y H Q => ∃ i j, x = .str i ∧ y = .str j ∧ Q (.bl (g i j)) H) (f2s g) := by
  intro H us xs d Q vr e q
  unfold f2s at e
  split at e
  · obtain ⟨x, _, rfl, hx, y, _, rfl, hy, rfl⟩ := vr
    cases e
    exact ⟨_, _, hx, hy, q _ rfl⟩
  · cases e
def eqS : D → D → Option Bool
  | .non, .non => some true | .non, .int _ => some false | .int _, .non => some false | .non, .bl _ => some false | .bl _, .non => some false | .non, .str _ => some false | .str _, .non => some false
  | .int i, .int j => some (decide (i = j)) | .bl i, .bl j => some (decide (i = j)) | .str i, .str j => some (decide (i = j))
  | .int _, .str _ => some false | .str _, .int _ => some false | .bl _, .str _ => some false | .str _, .bl _ => some false
  | _, _ => none
theorem eqS_ok {H : Hp} {a b : D} {x y : V} {c : Bool} (h : eqS a b = some c) (hx : DR K H a x) (hy : DR K H b y) : scal x y = true ∧ decide (x = y) = c := by
  cases a <;> cases b <;> simp [eqS] at h <;> cases (show x = _ from hx) <;> cases (show y = _ from hy) <;> subst h <;> simp [scal]
def oEqS : List D → Option D
  | [a, b] => (eqS a b).map .bl
  | _ => none
def oNeS : List D → Option D
  | [a, b] => (eqS a b).map fun c => .bl (!c)
  | _ => none
theorem od_eqS : OpD K (r2 rEq) oEqS := by
  intro H us xs d Q vr e q
  unfold oEqS at e
  split at e
  · obtain ⟨x, _, rfl, hx, y, _, rfl, hy, rfl⟩ := vr
    obtain ⟨c, h1, rfl⟩ := Option.map_eq_some_iff.mp e
    obtain ⟨h2, h3⟩ := eqS_ok h1 hx hy
    exact ⟨h2, q _ (by rw [h3]; rfl)⟩
  · cases e
theorem od_neS : OpD K (r2 rNe) oNeS := by
  intro H us xs d Q vr e q
  unfold oNeS at e
  split at e
  · obtain ⟨x, _, rfl, hx, y, _, rfl, hy, rfl⟩ := vr
    obtain ⟨c, h1, rfl⟩ := Option.map_eq_some_iff.mp e
    obtain ⟨h2, h3⟩ := eqS_ok h1 hx hy
    exact ⟨h2, q _ (by rw [h3]; rfl)⟩
  · cases e
mutual
def D.py : D → Option PyData
  | .non => some .none
  | .bl b => some (.bool b)
  | .int i => some (.int i)
  | .str x => some (.str x)
  | .lst ds => (D.pys ds).map .list
  | .tup ds => (D.pys ds).map .tuple
  | _ => none
def D.pys : List D → Option (List PyData)
  | [] => some []
  | d :: r => match d.py, D.pys r with
    | some p, some ps => some (p :: ps)
    | _, _ => none
end
mutual
theorem D.py_ok {H : Hp} : ∀ {d : D} {p : PyData} {v : V}, d.py = some p → DR K H d v → Dp K H v p
  | .non, p, v, e, r => by cases e; cases (show v = _ from r); exact .non
  | .bl _, p, v, e, r => by cases e; cases (show v = _ from r); exact .bl _
  | .int _, p, v, e, r => by cases e; cases (show v = _ from r); exact .int _
  | .str _, p, v, e, r => by cases e; cases (show v = _ from r); exact .str _
  | .lst ds, p, v, e, ⟨a, vs, ev, q, r⟩ => by
    obtain ⟨ps, e1, rfl⟩ := Option.map_eq_some_iff.mp e
    rw [ev]
    exact .lst (.inl (.inl q)) (D.pys_ok e1 r)
  | .tup ds, p, v, e, ⟨a, vs, ev, q, r⟩ => by
    obtain ⟨ps, e1, rfl⟩ := Option.map_eq_some_iff.mp e
    rw [ev]
    exact .tup (.inl (.inl q)) (D.pys_ok e1 r)
  | .dct _, p, v, e, _ => by cases e
  | .ins _ _, p, v, e, _ => by cases e
  | .scr _, p, v, e, _ => by cases e
  | .exn _ _ _, p, v, e, _ => by cases e
theorem D.pys_ok {H : Hp} : ∀ {ds : List D} {ps : List PyData} {vs : List V}, D.pys ds = some ps → DRs K H ds vs → DpAll K H vs ps
  | [], ps, vs, e, r => by cases e; cases (show vs = [] from r); exact .nil
  | d :: ds, ps, vs, e, ⟨v, vs', ev, h, r⟩ => by
    subst ev
    unfold D.pys at e
    split at e
    · rename_i p1 ps1 e1 e2
      cases e
      exact .cons (D.py_ok e1 h) (D.pys_ok e2 r)
    · cases e
end
def eqDp (d e : D) : Option Bool := match d.py, e.py with
  | some a, some b => if SeqAt.shaped a = true ∧ SeqAt.shaped b = true then some (PyData.eqv a b) else none
  | _, _ => none
def oEqD : List D → Option D
  | [a, b] => (eqDp a b).map .bl
  | _ => none
def oNeD : List D → Option D
  | [a, b] => (eqDp a b).map fun c => .bl (!c)
  | _ => none
theorem eqDp_ok {H : Hp} {a b : D} {x y : V} {c : Bool} (h : eqDp a b = some c) (hx : DR K H a x) (hy : DR K H b y) : ∃ d e, Dp K H x d ∧ Dp K H y e ∧ SeqAt.shaped d = true ∧ SeqAt.shaped e = true ∧ PyData.eqv d e = c := by
  unfold eqDp at h
  split at h
  · rename_i p q e1 e2
    split at h
    · rename_i hh
      cases h
      exact ⟨p, q, D.py_ok e1 hx, D.py_ok e2 hy, hh.1, hh.2, rfl⟩
    · cases h
  · cases h
theorem od_eqD : OpD K (r2 (rEqD K)) oEqD := by
  intro H us xs d Q vr e q
  unfold oEqD at e
  split at e
  · obtain ⟨x, _, rfl, hx, y, _, rfl, hy, rfl⟩ := vr
    obtain ⟨c, h1, rfl⟩ := Option.map_eq_some_iff.mp e
    obtain ⟨p, r, a1, a2, a3, a4, a5⟩ := eqDp_ok h1 hx hy
    exact ⟨p, r, a1, a2, a3, a4, q _ (by rw [a5]; rfl)⟩
  · cases e
theorem od_neD : OpD K (r2 (rNeD K)) oNeD := by
  intro H us xs d Q vr e q
  unfold oNeD at e
  split at e
  · obtain ⟨x, _, rfl, hx, y, _, rfl, hy, rfl⟩ := vr
    obtain ⟨c, h1, rfl⟩ := Option.map_eq_some_iff.mp e
    obtain ⟨p, r, a1, a2, a3, a4, a5⟩ := eqDp_ok h1 hx hy
    exact ⟨p, r, a1, a2, a3, a4, q _ (by rw [a5]; rfl)⟩
  · cases e
def isNon : D → Bool
  | .non => true
  | _ => false
def oIsN : List D → Option D
  | [a, .non] => some (.bl (isNon a))
  | _ => none
def oNotN : List D → Option D
  | [a, .non] => some (.bl (!isNon a))
  | _ => none
theorem non_dec {H : Hp} {a : D} {x : V} (h : DR K H a x) : decide (x = .non) = isNon a := by
  cases a with
  | non => cases (show x = _ from h); simp [isNon]
  | bl _ => cases (show x = _ from h); simp [isNon]
  | int _ => cases (show x = _ from h); simp [isNon]
  | str _ => cases (show x = _ from h); simp [isNon]
  | lst _ => obtain ⟨_, _, rfl, _⟩ := h; simp [isNon]
  | tup _ => obtain ⟨_, _, rfl, _⟩ := h; simp [isNon]
  | dct _ => obtain ⟨_, _, rfl, _⟩ := h; simp [isNon]
  | ins _ _ => obtain ⟨_, _, _, rfl, _⟩ := h; simp [isNon]
  | scr _ => obtain ⟨_, rfl, _⟩ := h; simp [isNon]
  | exn _ _ _ => obtain ⟨_, _, _, rfl, _⟩ := h; simp [isNon]
theorem od_isN : OpD K (r2 fun x y H Q => y = .non ∧ Q (.bl (decide (x = .non))) H) oIsN := by
  intro H us xs d Q vr e q
  unfold oIsN at e
  split at e
  · obtain ⟨x, _, rfl, hx, y, _, rfl, hy, rfl⟩ := vr
    cases e
    exact ⟨hy, q _ (by rw [non_dec hx]; rfl)⟩
  · cases e
theorem od_notN : OpD K (r2 fun x y H Q => y = .non ∧ Q (.bl (!decide (x = .non))) H) oNotN := by
  intro H us xs d Q vr e q
  unfold oNotN at e
  split at e
  · obtain ⟨x, _, rfl, hx, y, _, rfl, hy, rfl⟩ := vr
    cases e
    exact ⟨hy, q _ (by rw [non_dec hx]; rfl)⟩
  · cases e
def keyD : D → Option Key
  | .int i => some (.inl i)
  | .str s => some (.inr s)
  | _ => none
theorem keyD_ok {H : Hp} {d : D} {k : Key} {x : V} (e : keyD d = some k) (h : DR K H d x) : x = kV k := by
  cases d <;> cases e <;> exact h
def inDct : List D → Option D
  | [a, .dct kds] => (keyD a).map fun k => .bl (hk kds k)
  | _ => none
def ninDct : List D → Option D
  | [a, .dct kds] => (keyD a).map fun k => .bl (!hk kds k)
  | _ => none
def rInDk : R2 := fun y x H Q => ∃ a o, x = .ref a ∧ DGet H a y o ∧ Q (.bl o.isSome) H
def rNinDk : R2 := fun y x H Q => ∃ a o, x = .ref a ∧ DGet H a y o ∧ Q (.bl (!o.isSome)) H
theorem op_inDk {X : Cx} (hu : X.A.units + 1 < cLine) : OpR X (compareOp .In) rInDk := by
  intro pins s σ H x y v u Q I rx ry ⟨a, o, e, g, q⟩
  subst e
  obtain rfl : u = Value.ref a := ry
  exact d_in hu I g rx fun s3 I3 => ⟨.bl o.isSome, H, I3, rfl, q⟩
theorem op_ninDk {X : Cx} (hu : X.A.units + 1 < cLine) : OpR X (compareOp .NotIn) rNinDk := by
  intro pins s σ H x y v u Q I rx ry ⟨a, o, e, g, q⟩
  subst e
  obtain rfl : u = Value.ref a := ry
  exact d_notIn hu I g rx fun s3 I3 => ⟨.bl (!o.isSome), H, I3, rfl, q⟩
theorem hk_val {R : D → V → Prop} {kds : List (Key × D)} {kvs : List (Key × V)} (k : Key) (h : All2 (fun p q => q.1 = p.1 ∧ R p.2 q.2) kds kvs) : (valV kvs k).isSome = hk kds k := by
  rw [valV_lk]
  unfold hk
  rcases All2.lk k h with ⟨z, w⟩ | ⟨t, z, h1, h2, _⟩
  · rw [z, w]; rfl
  · rw [h1, h2]; rfl
theorem od_inDk : OpD K (r2 rInDk) inDct := by
  intro H us xs d Q vr e q
  unfold inDct at e
  split at e
  · obtain ⟨x, _, rfl, hx, y, _, rfl, hy, rfl⟩ := vr
    obtain ⟨k, e1, rfl⟩ := Option.map_eq_some_iff.mp e
    obtain ⟨a, kvs, ey, hd, r⟩ := hy
    exact ⟨a, valV kvs k, ey, .inl ⟨kvs, k, hd, keyD_ok e1 hx, rfl⟩, q _ (by rw [hk_val k (DRk_iff.mp r)]; rfl)⟩
  · cases e
theorem od_ninDk : OpD K (r2 rNinDk) ninDct := by
  intro H us xs d Q vr e q
  unfold ninDct at e
  split at e
  · obtain ⟨x, _, rfl, hx, y, _, rfl, hy, rfl⟩ := vr
    obtain ⟨k, e1, rfl⟩ := Option.map_eq_some_iff.mp e
    obtain ⟨a, kvs, ey, hd, r⟩ := hy
    exact ⟨a, valV kvs k, ey, .inl ⟨kvs, k, hd, keyD_ok e1 hx, rfl⟩, q _ (by rw [hk_val k (DRk_iff.mp r)]; rfl)⟩
  · cases e
def flD : D → Bool
  | .non => true | .bl _ => true | .int _ => true | .str _ => true
  | _ => false
def eqF : D → D → Bool
  | .non, .non => true
  | .bl a, .bl b => a == b
  | .bl a, .int b => (if a then 1 else 0) == b
  | .int a, .bl b => a == (if b then 1 else 0)
  | .int a, .int b => a == b
  | .str a, .str b => a == b
  | _, _ => false
theorem flD_ok {H : Hp} {d : D} {x : V} (e : flD d = true) (h : DR K H d x) : flatV x = true := by
  cases d <;> cases e <;> cases (show x = _ from h) <;> rfl
theorem eqF_ok {H : Hp} {d e : D} {x y : V} (f : flD d = true) (g : flD e = true) (h : DR K H d x) (k : DR K H e y) : eqV x y = eqF d e := by
  cases d <;> cases f <;> cases e <;> cases g <;> cases (show x = _ from h) <;> cases (show y = _ from k) <;> rfl
def items : D → Option (List D)
  | .lst ds => some ds
  | .tup ds => some ds
  | _ => none
theorem items_ok {H : Hp} {d : D} {ds : List D} {x : V} (e : items d = some ds) (h : DR K H d x) : ∃ p vs, x = .ref p ∧ (SqL K H p vs ∨ SqT K H p vs) ∧ DRs K H ds vs := by
  cases d <;> cases e
  · obtain ⟨a, vs, ex, q, r⟩ := h
    exact ⟨a, vs, ex, .inl (.inl (.inl q)), r⟩
  · obtain ⟨a, vs, ex, q, r⟩ := h
    exact ⟨a, vs, ex, .inr (.inl (.inl q)), r⟩
theorem all_flat {H : Hp} : ∀ {ds : List D} {vs : List V}, ds.all flD = true → DRs K H ds vs → vs.all flatV = true
  | [], _, _, r => by cases (show _ = [] from r); rfl
  | d :: ds, _, e, ⟨v, vs, ev, h, r⟩ => by
    subst ev
    rw [List.all_cons, Bool.and_eq_true] at e
    rw [List.all_cons, flD_ok e.1 h, all_flat e.2 r]; rfl
theorem inV_ok {H : Hp} {a : D} {x : V} (fa : flD a = true) (ha : DR K H a x) : ∀ {ds : List D} {vs : List V}, ds.all flD = true → DRs K H ds vs → inV x vs = ds.any fun d => eqF d a
  | [], _, _, r => by cases (show _ = [] from r); rfl
  | d :: ds, _, e, ⟨v, vs, ev, h, r⟩ => by
    subst ev
    rw [List.all_cons, Bool.and_eq_true] at e
    have := inV_ok fa ha e.2 r
    unfold inV at this ⊢
    rw [List.any_cons, List.any_cons, eqF_ok e.1 fa h ha, this]
def oInQ (neg : Bool) : List D → Option D
  | [a, c] => match items c with
    | some ds => if flD a = true ∧ ds.all flD = true then some (.bl (if neg then !ds.any (fun d => eqF d a) else ds.any fun d => eqF d a)) else none
    | none => none
  | _ => none
theorem od_inQ {neg : Bool} : OpD K (r2 (rIn K neg)) (oInQ neg) := by
  intro H us xs d Q vr e q
  unfold oInQ at e
  split at e
  · obtain ⟨x, _, rfl, hx, y, _, rfl, hy, rfl⟩ := vr
    split at e
    · rename_i a c ds e1
      split at e
      · rename_i hh
        cases e
        obtain ⟨p, vs, ey, sq, r⟩ := items_ok e1 hy
        refine ⟨p, vs, ey, sq, flD_ok hh.1 hx, all_flat hh.2 r, q _ ?_⟩
        rw [inV_ok hh.1 hx hh.2 r]
        rfl
      · cases e
    · cases e
  · cases e
def oInS (neg : Bool) : List D → Option D
  | [.str c, .str z] => match c.cps.toList with
    | [n] => some (.bl (if neg then !decide (n ∈ z.cps.toList) else decide (n ∈ z.cps.toList)))
    | _ => none
  | _ => none
theorem str1 {c : Str} {n : Nat} (h : c.cps.toList = [n]) : c = ⟨#[n]⟩ := by
  cases c with
  | mk a => simp at h; cases a; simp at h; subst h; rfl
theorem od_inS : OpD K (r2 fun x y H Q => ∃ (c : Nat) (z : Str), x = .str ⟨#[c]⟩ ∧ y = .str z ∧ Q (.bl (decide (c ∈ z.cps.toList))) H) (oInS false) := by
  intro H us xs d Q vr e q
  unfold oInS at e
  split at e
  · obtain ⟨x, _, rfl, hx, y, _, rfl, hy, rfl⟩ := vr
    split at e
    · rename_i c z n e1
      cases e
      exact ⟨_, _, (str1 e1) ▸ hx, hy, q _ rfl⟩
    · cases e
  · cases e
theorem od_ninS : OpD K (r2 fun x y H Q => ∃ (c : Nat) (z : Str), x = .str ⟨#[c]⟩ ∧ y = .str z ∧ Q (.bl (!decide (c ∈ z.cps.toList))) H) (oInS true) := by
  intro H us xs d Q vr e q
  unfold oInS at e
  split at e
  · obtain ⟨x, _, rfl, hx, y, _, rfl, hy, rfl⟩ := vr
    split at e
    · rename_i c z n e1
      cases e
      exact ⟨_, _, (str1 e1) ▸ hx, hy, q _ rfl⟩
    · cases e
  · cases e
end
section
variable {K : Kf} {B F H : Hp} {ss : List Slot} {os : List (Option V)}
theorem St.newN {q : Addr} {o : HO} {t : T} (h : St K B F H ss os) (hq : H q = none) (tr : TR K F (upd H q o) t (.ref q) [q]) : St K B F (upd H q o) (.va t :: ss) (some (.ref q) :: os) := by
  have sm : Same H (upd H q o) := fun b u e => by rw [upd_ne (ne_of_none e hq)]; exact e
  have fq : F q = none := h.sf.off hq
  obtain ⟨S, f, nd, k⟩ := h.fp
  have nq : q ∉ S := fun z => by
    obtain ⟨y, hy, _⟩ := f.has q z
    rw [hq] at hy; cases hy
  have bq : B q = none := by
    exact h.sb.ne q hq
  refine ⟨h.sb.trans sm, h.sf.upd fq, q :: S, ⟨_, _, [q], S, rfl, rfl, ⟨_, rfl, tr⟩, f.imp fun c d Sc hS z => z.mono (SubR.refl _) fun a ha o e => sm a o e⟩, List.nodup_cons.mpr ⟨nq, nd⟩, fun a ha => ?_⟩
  rcases List.mem_cons.mp ha with z | z
  · rw [z]; exact ⟨bq, fq⟩
  · exact k a z
theorem TRs.shs {G : Hp} : ∀ {ds : List D} {xs : List V}, DRs K F ds xs → TRs K F G (ds.map T.sh) xs []
  | [], _, h => ⟨h, rfl⟩
  | _ :: _, _, ⟨v, vs, e, h, r⟩ => ⟨v, vs, [], [], e, rfl, ⟨rfl, h⟩, TRs.shs r⟩
theorem TRk.shs {G : Hp} : ∀ {ds : List (Key × D)} {xs : List (Key × V)}, DRk K F ds xs → TRk K F G (ds.map fun p => (p.1, T.sh p.2)) xs []
  | [], _, h => ⟨h, rfl⟩
  | (_, _) :: _, _, ⟨v, vs, e, ⟨h1, h⟩, r⟩ => ⟨v, vs, [], [], e, rfl, ⟨h1, rfl, h⟩, TRk.shs r⟩
theorem St.newL {q : Addr} {ds : List D} {xs : List V} (h : St K B F H ss os) (hq : H q = none) (r : DRs K F ds xs) : St K B F (upd H q (.lst xs)) (.va (.lst (ds.map .sh)) :: ss) (some (.ref q) :: os) :=
  h.newN hq ⟨q, xs, [], rfl, upd_same, rfl, TRs.shs r⟩
theorem St.newD {q : Addr} {ds : List (Key × D)} {xs : List (Key × V)} (h : St K B F H ss os) (hq : H q = none) (r : DRk K F ds xs) (nd : (ds.map (·.1)).Nodup) : St K B F (upd H q (.dK xs)) (.va (.dct (ds.map fun p => (p.1, T.sh p.2))) :: ss) (some (.ref q) :: os) :=
  h.newN hq ⟨q, xs, [], rfl, upd_same, rfl, TRk.shs r, by rw [List.map_map]; exact nd⟩
theorem Same.upd {q : Addr} {o : HO} (hq : H q = none) : Same H (upd H q o) := fun b u e => by rw [upd_ne (ne_of_none e hq)]; exact e
def kids : T → Option (List D)
  | .sh d => items d
  | .lst ts => allSh ts
  | _ => none
theorem kids_ok {t : T} {ds : List D} {x : V} (sf : SubR F H) (e : kids t = some ds) (h : VR K H F t x) : ∃ p vs, x = .ref p ∧ (SqL K H p vs ∨ SqT K H p vs) ∧ DRs K F ds vs := by
  cases t with
  | sh d =>
    have h : DR K F d x := h
    cases d <;> cases e
    · obtain ⟨a, vs, ex, q, r⟩ := h
      exact ⟨a, vs, ex, .inl (.inl (.inl (sf.ls q))), r⟩
    · obtain ⟨a, vs, ex, q, r⟩ := h
      exact ⟨a, vs, ex, .inr (.inl (.inl (sf.tp q))), r⟩
  | lst ts =>
    obtain ⟨a, vs, ex, q, r⟩ := h
    exact ⟨a, vs, ex, .inl (.inl (.inl q)), allSh_dr e (VRs_iff.mp r)⟩
  | dct _ => cases e
  | ins _ _ => cases e
def kidsL : T → Option (List D)
  | .sh (.lst ds) => some ds
  | .lst ts => allSh ts
  | _ => none
theorem kidsL_ok {t : T} {ds : List D} {x : V} (sf : SubR F H) (e : kidsL t = some ds) (h : VR K H F t x) : ∃ p vs, x = .ref p ∧ H p = some (.lst vs) ∧ DRs K F ds vs := by
  cases t with
  | sh d =>
    have h : DR K F d x := h
    cases d <;> cases e
    obtain ⟨a, vs, ex, q, r⟩ := h
    exact ⟨a, vs, ex, sf.ls q, r⟩
  | lst ts =>
    obtain ⟨a, vs, ex, q, r⟩ := h
    exact ⟨a, vs, ex, q, allSh_dr e (VRs_iff.mp r)⟩
  | dct _ => cases e
  | ins _ _ => cases e
def allShK : List (Key × T) → Option (List (Key × D))
  | [] => some []
  | (k, .sh d) :: r => (allShK r).map fun ds => (k, d) :: ds
  | _ :: _ => none
theorem allShK_dr : ∀ {ts : List (Key × T)} {ds : List (Key × D)} {xs : List (Key × V)} {G : Hp}, allShK ts = some ds → VRk K G F ts xs → DRk K F ds xs
  | [], ds, xs, _, e, h => by cases e; exact h
  | (k, .sh d) :: r, ds, _, _, e, ⟨x, l, ex, ⟨h0, h1⟩, h2⟩ => by
    obtain ⟨ds', e1, rfl⟩ := Option.map_eq_some_iff.mp e
    exact ⟨x, l, ex, ⟨h0, h1⟩, allShK_dr e1 h2⟩
  | (_, .lst _) :: _, _, _, _, e, _ => by cases e
  | (_, .dct _) :: _, _, _, _, e, _ => by cases e
  | (_, .ins _ _) :: _, _, _, _, e, _ => by cases e
def kidsD : T → Option (List (Key × D))
  | .sh (.dct kds) => some kds
  | .dct kts => allShK kts
  | _ => none
theorem kidsD_ok {t : T} {ds : List (Key × D)} {x : V} (sf : SubR F H) (e : kidsD t = some ds) (h : VR K H F t x) : ∃ p vs, x = .ref p ∧ Rd H p (.dK vs) ∧ DRk K F ds vs := by
  cases t with
  | sh d =>
    have h : DR K F d x := h
    cases d <;> cases e
    obtain ⟨a, vs, ex, q, r⟩ := h
    exact ⟨a, vs, ex, sf.rd _ _ q, r⟩
  | lst _ => cases e
  | dct kts =>
    obtain ⟨a, vs, ex, q, r⟩ := h
    exact ⟨a, vs, ex, q, allShK_dr e r⟩
  | ins _ _ => cases e
def keysT : T → Option (List Key)
  | .sh (.dct kds) => some (kds.map (·.1))
  | .dct kts => some (kts.map (·.1))
  | _ => none
theorem keysT_ok {t : T} {ks : List Key} {x : V} (sf : SubR F H) (e : keysT t = some ks) (h : VR K H F t x) : ∃ p vs, x = .ref p ∧ Rd H p (.dK vs) ∧ vs.map (·.1) = ks := by
  cases t with
  | sh d =>
    have h : DR K F d x := h
    cases d <;> cases e
    obtain ⟨a, vs, ex, q, r⟩ := h
    exact ⟨a, vs, ex, sf.rd _ _ q, All2.keys (DRk_iff.mp r)⟩
  | lst _ => cases e
  | dct kts =>
    cases e
    obtain ⟨a, vs, ex, q, r⟩ := h
    exact ⟨a, vs, ex, q, All2.keys (VRk_iff.mp r)⟩
  | ins _ _ => cases e
def kD : Key → D
  | .inl i => .int i
  | .inr s => .str s
theorem kD_ok {k : Key} : DR K F (kD k) (kV k) := by cases k <;> rfl
theorem kDs_ok : ∀ ks : List Key, DRs K F (ks.map kD) (ks.map kV)
  | [] => rfl
  | k :: ks => ⟨_, _, rfl, kD_ok, kDs_ok ks⟩
end
section
variable {K : Kf}
def oListOf : List T → Option T
  | [t] => (kids t).map fun ds => .lst (ds.map .sh)
  | _ => none
theorem on_listOf : OpN K (fun xs H Q => ∃ p ys, xs = [.ref p] ∧ (SqL K H p ys ∨ SqT K H p ys) ∧ ∀ l, H l = none → Q (.ref l) (upd H l (.lst ys))) oListOf := by
  intro B F H ss os us xs t' Q st vr e q
  match us, e with
  | [t], e =>
    obtain ⟨ds, e1, rfl⟩ := Option.map_eq_some_iff.mp e
    obtain ⟨x, _, rfl, h, rfl⟩ := vr
    obtain ⟨p, vs, rfl, sq, r⟩ := kids_ok st.sf e1 h
    exact ⟨p, vs, rfl, sq, fun l hl => q _ _ (Same.upd hl) (st.newL hl r)⟩
def oListD : List T → Option T
  | [t] => (keysT t).map fun ks => .lst ((ks.map kD).map .sh)
  | _ => none
theorem on_listD : OpN K (fun xs H Q => ∃ (a : Addr) (kvs : List (Key × V)), xs = [.ref a] ∧ Rd H a (.dK kvs) ∧ ∀ p, H p = none → Q (.ref p) (upd H p (.lst (kvs.map fun kv => kV kv.1)))) oListD := by
  intro B F H ss os us xs t' Q st vr e q
  match us, e with
  | [t], e =>
    obtain ⟨ks, e1, rfl⟩ := Option.map_eq_some_iff.mp e
    obtain ⟨x, _, rfl, h, rfl⟩ := vr
    obtain ⟨p, vs, rfl, sq, r⟩ := keysT_ok st.sf e1 h
    refine ⟨p, vs, rfl, sq, fun l hl => q _ _ (Same.upd hl) (st.newL hl ?_)⟩
    rw [← r]
    have := kDs_ok (K := K) (F := F) (vs.map (·.1))
    rw [List.map_map (g := kV)] at this
    exact this
def oDictD : List T → Option T
  | [t] => (kidsD t).bind fun kds => if (kds.map (·.1)).Nodup then some (.dct (kds.map fun p => (p.1, T.sh p.2))) else none
  | _ => none
theorem on_dictD : OpN K (fun xs H Q => ∃ (a : Addr) (kvs : List (Key × V)), xs = [.ref a] ∧ Rd H a (.dK kvs) ∧ ∀ p, H p = none → Q (.ref p) (upd H p (.dK kvs))) oDictD := by
  intro B F H ss os us xs t' Q st vr e q
  match us, e with
  | [t], e =>
    obtain ⟨kds, e1, e2⟩ := Option.bind_eq_some_iff.mp e
    split at e2
    · cases e2
      obtain ⟨x, _, rfl, h, rfl⟩ := vr
      obtain ⟨p, vs, rfl, sq, r⟩ := kidsD_ok st.sf e1 h
      exact ⟨p, vs, rfl, sq, fun l hl => q _ _ (Same.upd hl) (st.newD hl r (by assumption))⟩
    · cases e2
def oCatL : List T → Option T
  | [s, t] => match kidsL s, kidsL t with
    | some a, some b => if a.length + b.length ≤ sizeLine then some (.lst ((a ++ b).map .sh)) else none
    | _, _ => none
  | _ => none
theorem on_catL : OpN K (r2 rCat) oCatL := by
  intro B F H ss os us xs t' Q st vr e q
  match us, e with
  | [s, t], e =>
    cases e1 : kidsL s with
    | none => simp [oCatL, e1] at e
    | some a =>
      cases e2 : kidsL t with
      | none => simp [oCatL, e1, e2] at e
      | some b =>
        by_cases hz : a.length + b.length ≤ sizeLine
        case neg => simp [oCatL, e1, e2, hz] at e
        have e : T.lst ((a ++ b).map .sh) = t' := by simpa [oCatL, e1, e2, hz] using e
        subst e
        obtain ⟨x, _, rfl, h, y, _, rfl, h', rfl⟩ := vr
        obtain ⟨p, vs, rfl, sq, r⟩ := kidsL_ok st.sf e1 h
        obtain ⟨p', vs', rfl, sq', r'⟩ := kidsL_ok st.sf e2 h'
        refine ⟨p, p', vs, vs', rfl, rfl, sq, sq', ?_, fun l hl => q _ _ (Same.upd hl) (st.newL hl (DRs_iff.mpr ((DRs_iff.mp r).append (DRs_iff.mp r'))))⟩
        rw [← (DRs_iff.mp r).length, ← (DRs_iff.mp r').length]
        exact hz
end
def sle (a b : Str) : Bool := !ltCps b.cps.toList a.cps.toList
def srt (l : List Str) : List Str := l.mergeSort sle
theorem sle_iff {a b : Str} : sle a b = true ↔ a.cps.toList ≤ b.cps.toList := by
  unfold sle
  rw [ltCps_eq]
  simp
theorem sle_trans : ∀ a b c : Str, sle a b = true → sle b c = true → sle a c = true := fun a b c h k => sle_iff.mpr (List.le_trans (sle_iff.mp h) (sle_iff.mp k))
theorem sle_total : ∀ a b : Str, (sle a b || sle b a) = true := fun a b => by
  rcases List.le_total (a.cps.toList) (b.cps.toList) with h | h
  · simp [sle_iff.mpr h]
  · simp [sle_iff.mpr h]
theorem str_ext {a b : Str} (h : a.cps.toList = b.cps.toList) : a = b := by
  cases a; cases b; simp at h; simp [h]
theorem sle_anti {a b : Str} (h : sle a b = true) (k : sle b a = true) : a = b := str_ext (List.le_antisymm (sle_iff.mp h) (sle_iff.mp k))
theorem rising_pw : ∀ {l : List Str} {p : Str}, risingS p l = true → (∀ x ∈ l, sle p x = true) ∧ l.Pairwise fun a b => sle a b = true
  | [], _, _ => ⟨fun _ h => (nomatch h), .nil⟩
  | x :: r, p, h => by
    unfold risingS at h
    rw [Bool.and_eq_true] at h
    obtain ⟨h1, h2⟩ := rising_pw h.2
    have hx : sle p x = true := h.1
    refine ⟨fun y hy => ?_, List.pairwise_cons.mpr ⟨h1, h2⟩⟩
    rcases List.mem_cons.mp hy with z | z
    · rw [z]; exact hx
    · exact sle_trans _ _ _ hx (h1 y z)
theorem sortedS_pw {l : List Str} (h : sortedS l = true) : l.Pairwise fun a b => sle a b = true := by
  cases l with
  | nil => exact .nil
  | cons x r => exact List.pairwise_cons.mpr (rising_pw h)
theorem srt_pw (l : List Str) : (srt l).Pairwise fun a b => sle a b = true := List.pairwise_mergeSort sle_trans sle_total l
theorem srt_perm (l : List Str) : (srt l).Perm l := List.mergeSort_perm l sle
theorem srt_uniq {l ys : List Str} (hp : ys.Perm l) (hs : ys.Pairwise fun a b => sle a b = true) : ys = srt l :=
  List.Perm.eq_of_pairwise (le := fun a b => sle a b = true) (fun a b _ _ h k => sle_anti h k) hs (srt_pw l) (hp.trans (srt_perm l).symm)
section
variable {K : Kf}
def strsK : List Key → Option (List Str)
  | [] => some []
  | .inr s :: r => (strsK r).map fun l => s :: l
  | _ :: _ => none
theorem strsK_ok : ∀ {ks : List Key} {l : List Str}, strsK ks = some l → ks = l.map Sum.inr
  | [], _, h => by cases h; rfl
  | .inl _ :: _, _, h => by cases h
  | .inr s :: r, _, h => by
    obtain ⟨l, e, rfl⟩ := Option.map_eq_some_iff.mp h
    rw [strsK_ok e]; rfl
def strsD : List D → Option (List Str)
  | [] => some []
  | .str s :: r => (strsD r).map fun l => s :: l
  | _ :: _ => none
theorem strsD_ok {F : Hp} : ∀ {ds : List D} {l : List Str} {vs : List V}, strsD ds = some l → DRs K F ds vs → vs = l.map V.str
  | [], _, _, h, r => by cases h; exact r
  | .str s :: ds, _, _, h, ⟨v, vs, ev, hv, r⟩ => by
    obtain ⟨l, e, rfl⟩ := Option.map_eq_some_iff.mp h
    rw [ev, strsD_ok e r, show v = .str s from hv]; rfl
  | .non :: _, _, _, h, _ => by cases h
  | .bl _ :: _, _, _, h, _ => by cases h
  | .int _ :: _, _, _, h, _ => by cases h
  | .lst _ :: _, _, _, h, _ => by cases h
  | .tup _ :: _, _, _, h, _ => by cases h
  | .dct _ :: _, _, _, h, _ => by cases h
  | .ins _ _ :: _, _, _, h, _ => by cases h
  | .scr _ :: _, _, _, h, _ => by cases h
  | .exn _ _ _ :: _, _, _, h, _ => by cases h
def strL (l : List Str) : T := .lst ((l.map D.str).map .sh)
theorem strs_dr {F : Hp} : ∀ l : List Str, DRs K F (l.map D.str) (l.map V.str)
  | [] => rfl
  | _ :: l => ⟨_, _, rfl, rfl, strs_dr l⟩
def oSortD : List T → Option T
  | [t] => (keysT t).bind fun ks => (strsK ks).bind fun l => if l.length < 64 then some (strL (srt l)) else none
  | _ => none
theorem on_sortD : OpN K (fun xs H Q => ∃ (a : Addr) (kvs : List (Key × V)) (ks : List Str), xs = [.ref a] ∧ Rd H a (.dK kvs) ∧ kvs.map (·.1) = ks.map Sum.inr ∧ ks.length < 64 ∧
    ∀ ys p, ys.Perm ks → sortedS ys = true → H p = none → Q (.ref p) (upd H p (.lst (ys.map V.str)))) oSortD := by
  intro B F H ss os us xs t' Q st vr e q
  match us, e with
  | [t], e =>
    obtain ⟨ks, e1, e2⟩ := Option.bind_eq_some_iff.mp e
    obtain ⟨l, e3, e4⟩ := Option.bind_eq_some_iff.mp e2
    by_cases hz : l.length < 64
    case neg => rw [if_neg hz] at e4; cases e4
    rw [if_pos hz] at e4
    cases e4
    obtain ⟨x, _, rfl, h, rfl⟩ := vr
    obtain ⟨p, vs, rfl, sq, r⟩ := keysT_ok st.sf e1 h
    refine ⟨p, vs, l, rfl, sq, by rw [r, strsK_ok e3], hz, fun ys p hp hs hn => ?_⟩
    rw [srt_uniq hp (sortedS_pw hs)]
    exact q _ _ (Same.upd hn) (st.newL hn (strs_dr _))
def oSortL : List T → Option T
  | [t] => (kidsL t).bind fun ks => (strsD ks).bind fun l => if l.length < 64 then some (strL (srt l)) else none
  | _ => none
theorem on_sortL : OpN K (rSortedS K) oSortL := by
  intro B F H ss os us xs t' Q st vr e q
  match us, e with
  | [t], e =>
    obtain ⟨ks, e1, e2⟩ := Option.bind_eq_some_iff.mp e
    obtain ⟨l, e3, e4⟩ := Option.bind_eq_some_iff.mp e2
    by_cases hz : l.length < 64
    case neg => rw [if_neg hz] at e4; cases e4
    rw [if_pos hz] at e4
    cases e4
    obtain ⟨x, _, rfl, h, rfl⟩ := vr
    obtain ⟨p, vs, rfl, sq, r⟩ := kidsL_ok st.sf e1 h
    refine ⟨p, l, rfl, .inl (.inl (by rw [← strsD_ok e3 r]; exact sq)), hz, fun ys p hp hs hn => ?_⟩
    rw [srt_uniq hp (sortedS_pw hs)]
    exact q _ _ (Same.upd hn) (st.newL hn (strs_dr _))
def cut {α : Type} (xs : List α) (lo hi : Option Int) : List α := (xs.drop (HT.sIx xs.length 0 lo)).take (HT.sIx xs.length xs.length hi - HT.sIx xs.length 0 lo)
theorem DRs.cut {F : Hp} {ds : List D} {vs : List V} {lo hi : Option Int} (h : DRs K F ds vs) : DRs K F (cut ds lo hi) (cutV vs lo hi) := by
  have h := DRs_iff.mp h
  refine DRs_iff.mpr ?_
  unfold DL.cut L2.cutV
  rw [h.length]
  exact (h.drop _).take _
def slT (t : T) (lo hi : Option Int) : Option T := match kidsL t with
  | some ds => some (.lst ((cut ds lo hi).map .sh))
  | none => match t with
    | .sh (.str z) => if z.length ≤ sizeLine then some (.sh (.str (cutS z lo hi))) else none
    | .sh (.scr ns) => some (.lst ((cut (ns.map D.int) lo hi).map .sh))
    | _ => none
theorem ints_dr {F : Hp} : ∀ l : List Int, DRs K F (l.map D.int) (l.map V.int)
  | [] => rfl
  | _ :: l => ⟨_, _, rfl, rfl, ints_dr l⟩
def rSlLS (K : Kf) : V → Option Int → Option Int → Hp → VK → Prop := fun x lo hi H Q => rSlL K x lo hi H Q ∨ rSlS x lo hi H Q
theorem slT_ok {B F H : Hp} {ss : List Slot} {os : List (Option V)} {t t' : T} {x : V} {lo hi : Option Int} {Q : VK} (st : St K B F H ss os) (vr : VR K H F t x) (e : slT t lo hi = some t') (q : ∀ y H', Same H H' → St K B F H' (.va t' :: ss) (some y :: os) → Q y H') : rSlLS K x lo hi H Q := by
  unfold slT at e
  cases e1 : kidsL t with
  | some ds =>
    rw [e1] at e
    cases e
    obtain ⟨p, vs, rfl, sq, r⟩ := kidsL_ok st.sf e1 vr
    exact .inl ⟨p, vs, rfl, .inl (.inl sq), fun l hl => q _ _ (Same.upd hl) (st.newL hl r.cut)⟩
  | none =>
    rw [e1] at e
    simp only at e
    split at e
    · rename_i z
      by_cases hz : z.length ≤ sizeLine
      case neg => rw [if_neg hz] at e; cases e
      rw [if_pos hz] at e
      cases e
      exact .inr ⟨z, vr, hz, q _ _ (Same.refl _) (st.push rfl)⟩
    · rename_i ns
      cases e
      obtain ⟨p, rfl, sq⟩ := (show DR K F (.scr ns) x from vr)
      exact .inl ⟨p, _, rfl, st.sf.sq sq, fun l hl => q _ _ (Same.upd hl) (st.newL hl (ints_dr ns).cut)⟩
    · cases e
def rSl (K : Kf) : List V → Hp → VK → Prop := fun xs H Q => match xs with
  | [x, y] => ∃ i, y = .int i ∧ rSlLS K x (some i) none H Q
  | _ => False
def rSh (K : Kf) : List V → Hp → VK → Prop := fun xs H Q => match xs with
  | [x, y] => ∃ i, y = .int i ∧ rSlLS K x none (some i) H Q
  | _ => False
def oSl : List T → Option T
  | [t, .sh (.int i)] => slT t (some i) none
  | _ => none
def oSh : List T → Option T
  | [t, .sh (.int i)] => slT t none (some i)
  | _ => none
def oSlh : List T → Option T
  | [t, .sh (.int i), .sh (.int j)] => slT t (some i) (some j)
  | _ => none
theorem on_sl : OpN K (rSl K) oSl := by
  intro B F H ss os us xs t' Q st vr e q
  unfold oSl at e
  split at e
  · obtain ⟨x, _, rfl, h, y, _, rfl, h', rfl⟩ := vr
    exact ⟨_, h', slT_ok st h e q⟩
  · cases e
theorem on_sh : OpN K (rSh K) oSh := by
  intro B F H ss os us xs t' Q st vr e q
  unfold oSh at e
  split at e
  · obtain ⟨x, _, rfl, h, y, _, rfl, h', rfl⟩ := vr
    exact ⟨_, h', slT_ok st h e q⟩
  · cases e
def lenD : D → Option Nat
  | .str z => if z.length ≤ sizeLine then some z.length else none
  | .lst ds => some ds.length
  | .tup ds => some ds.length
  | _ => none
def oLen : List D → Option D
  | [d] => (lenD d).map fun n => .int (n : Nat)
  | _ => none
theorem od_len : OpD K (fun xs H Q => ∃ x n, xs = [x] ∧ LenV K x H n ∧ Q (.int n) H) oLen := by
  intro H us xs d Q vr e q
  match us, e with
  | [t], e =>
    obtain ⟨n, e1, rfl⟩ := Option.map_eq_some_iff.mp e
    obtain ⟨x, _, rfl, h, rfl⟩ := vr
    refine ⟨x, n, rfl, ?_, q _ rfl⟩
    cases t with
    | str z =>
      by_cases hz : z.length ≤ sizeLine
      case neg => simp [lenD, hz] at e1
      simp [lenD, hz] at e1
      cases (show x = _ from h)
      exact ⟨hz, e1.symm⟩
    | lst ds =>
      obtain ⟨a, vs, rfl, hq, r⟩ := h
      cases e1
      exact .inl ⟨vs, .inl (.inl hq), (DRs_iff.mp r).length⟩
    | tup ds =>
      obtain ⟨a, vs, rfl, hq, r⟩ := h
      cases e1
      exact .inr ⟨vs, .inl (.inl hq), (DRs_iff.mp r).length⟩
    | _ => cases e1
def oLenD : List D → Option D
  | [.dct kds] => some (.int (kds.length : Nat))
  | _ => none
def rLenDk : List V → Hp → VK → Prop := fun xs H Q => ∃ a kvs, xs = [V.ref a] ∧ Rd H a (.dK kvs) ∧ Q (.int kvs.length) H
theorem call_lenDk {X : Cx} : CallR X (.builtin "len") rLenDk := by
  intro pins s σ H xs us Q I r q
  obtain ⟨a, kvs, ex, hd, q⟩ := q
  subst ex
  obtain ⟨u, eu, rx⟩ := vals1 r
  subst eu
  cases rx
  exact d_len I hd fun t s' I' => ⟨.int kvs.length, H, I', ⟨t, rfl⟩, q⟩
theorem od_lenD : OpD K rLenDk oLenD := by
  intro H us xs d Q vr e q
  unfold oLenD at e
  split at e
  · cases e
    obtain ⟨x, _, rfl, h, rfl⟩ := vr
    obtain ⟨a, vs, rfl, hq, r⟩ := h
    exact ⟨a, vs, rfl, hq, q _ (by rw [(DRk_iff.mp r).length]; rfl)⟩
  · cases e
def boolsD : List D → Option (List Bool)
  | [] => some []
  | .bl s :: r => (boolsD r).map fun l => s :: l
  | _ :: _ => none
theorem boolsD_ok {F : Hp} : ∀ {ds : List D} {l : List Bool} {vs : List V}, boolsD ds = some l → DRs K F ds vs → vs = l.map V.bl
  | [], _, _, h, r => by cases h; exact r
  | .bl s :: ds, _, _, h, ⟨v, vs, ev, hv, r⟩ => by
    obtain ⟨l, e, rfl⟩ := Option.map_eq_some_iff.mp h
    rw [ev, boolsD_ok e r, show v = .bl s from hv]; rfl
  | .non :: _, _, _, h, _ => by cases h
  | .str _ :: _, _, _, h, _ => by cases h
  | .int _ :: _, _, _, h, _ => by cases h
  | .lst _ :: _, _, _, h, _ => by cases h
  | .tup _ :: _, _, _, h, _ => by cases h
  | .dct _ :: _, _, _, h, _ => by cases h
  | .ins _ _ :: _, _, _, h, _ => by cases h
  | .scr _ :: _, _, _, h, _ => by cases h
  | .exn _ _ _ :: _, _, _, h, _ => by cases h
def oAll : List D → Option D
  | [.lst ds] => (boolsD ds).map fun l => .bl (l.all id)
  | _ => none
theorem od_all : OpD K (rAll K) oAll := by
  intro H us xs d Q vr e q
  unfold oAll at e
  split at e
  · obtain ⟨l, e1, rfl⟩ := Option.map_eq_some_iff.mp e
    obtain ⟨x, _, rfl, h, rfl⟩ := vr
    obtain ⟨a, vs, rfl, hq, r⟩ := h
    exact ⟨a, l, rfl, .inl (.inl (by rw [← boolsD_ok e1 r]; exact hq)), q _ rfl⟩
  · cases e
def oMin2 : List D → Option D
  | [.int i, .int j] => some (.int (if j < i then j else i))
  | _ => none
theorem od_min2 : OpD K (fun xs H Q => ∃ i j, xs = [.int i, .int j] ∧ Q (.int (if j < i then j else i)) H) oMin2 := by
  intro H us xs d Q vr e q
  unfold oMin2 at e
  split at e
  · cases e
    obtain ⟨x, _, rfl, h, y, _, rfl, h', rfl⟩ := vr
    cases (show x = _ from h)
    cases (show y = _ from h')
    exact ⟨_, _, rfl, q _ rfl⟩
  · cases e
end
section
variable {K : Kf} {B F H : Hp} {env : Env} {σ : L2.St} {E : XS}
def subV (v : Val) (q : PEl) : T → Option Val
  | .sh d => some (.tv (.sh d))
  | _ => match v with
    | .pl i p => some (.pl i (p ++ [q]))
    | _ => none
theorem sub_ok {v w : Val} {q : PEl} {u : T} {x z : V} (st : St K B F H env σ) (pl : PlOk H σ v x) (vr : VR K H F u z) (wk : Wk H [q] x z) (e : subV v q u = some w) : Got K B F H env σ [w] [z] := by
  have big : (∃ i p, v = .pl i p ∧ w = .pl i (p ++ [q])) → Got K B F H env σ [w] [z] := fun ⟨i, p, e1, e2⟩ => by
    subst e1; subst e2
    obtain ⟨v0, ev, wk0⟩ := pl
    exact ⟨rfl, st, z, [], rfl, ⟨v0, ev, wk0.snoc wk⟩, rfl⟩
  cases u with
  | sh d => cases e; exact .of (st.push vr)
  | lst _ => cases v <;> cases e; exact big ⟨_, _, rfl, rfl⟩
  | dct _ => cases v <;> cases e; exact big ⟨_, _, rfl, rfl⟩
  | ins _ _ => cases v <;> cases e; exact big ⟨_, _, rfl, rfl⟩
def ixT (v : Val) (t : T) (i : D) : Option Val :=
  match t, i with
  | .sh (.lst ds), .int i => (atI ds i).map fun d => .tv (.sh d)
  | .sh (.tup ds), .int i => (atI ds i).map fun d => .tv (.sh d)
  | .sh (.str z), .int i => if z.length ≤ sizeLine then (atI z.cps.toList i).map fun c => .tv (.sh (.str ⟨#[c]⟩)) else none
  | .sh (.dct kds), i => (keyD i).bind fun k => (lk kds k).map fun d => .tv (.sh d)
  | .lst ts, .int i => (ixN ts.length i).bind fun n => (ts[n]?).bind (subV v (.idx n))
  | .dct kts, i => (keyD i).bind fun k => (lk kts k).bind (subV v (.key k))
  | _, _ => none
def rIxD : R2 := fun x y H Q => ∃ a v, x = .ref a ∧ DGet H a y (some v) ∧ Q v H
theorem ix_dict {X : Cx} (hu : X.A.units + 1 < cLine) : IxR X rIxD := by
  intro value slice pins s σ H x y v u Q I rx ry ⟨a, z, ex, g, q⟩ hs
  subst ex
  obtain rfl : v = Value.ref a := rx
  have hT : s.TypeIs (.ref a) "dict" := dict_typeIs I g
  unfold subscriptTail
  refine wpAny_bind ?_
  rw [getitemInPython_of_ne hT.not_modules]
  refine wpAny_bind (wpAny_specialOf hT PySem.F.slot_dict_getitem.lookup ?_)
  have fin : wpAny (model X.prog X.w) X.A (subscripted slice false (.ref a) u) (fun r s₃ => wpAny (model X.prog X.w) X.A (letTemporaryGo value (.ref a) r >>= fun _ => pure r) (EP X pins σ Q) X.xe s₃) X.xe s := by
    rw [hs]
    exact wpAny_operating (wpAny_mono (d_getItem hu I g ry fun w' s3 I3 rw' => (⟨z, H, I3, rw', q⟩ : EP X pins σ Q w' s3)) (fun r s₃ h₃ => wpAny_bind (wpAny_letTemporaryGo (wpAny_pure h₃))) fun _ _ x => x)
  first
    | exact wpAny_pure (wpAny_bind fin)
    | exact wpAny_bind (wpAny_pure (wpAny_bind fin))
    | exact wpAny_bind fin
def rIxA (K : Kf) : R2 := fun x y H Q => rIxL K x y H Q ∨ rIxT K x y H Q ∨ rIxS x y H Q ∨ rIxD x y H Q
theorem ix_all {X : Cx} (hu : X.A.units + 1 < cLine) : IxR X (rIxA X.K) := ix_list.or (ix_tup.or (ix_str.or (ix_dict hu)))
theorem atI_all2 {α β : Type} {R : α → β → Prop} {as : List α} {bs : List β} {i : Int} {a : α} (h : All2 R as bs) (e : atI as i = some a) : ∃ b, atI bs i = some b ∧ R a b := by
  unfold atI at e ⊢
  obtain ⟨n, h1, h2⟩ := Option.bind_eq_some_iff.mp e
  obtain ⟨b, h3, h4⟩ := h.get h2
  exact ⟨b, by rw [← h.length, h1]; exact h3, h4⟩
def mIx (m n : ME) : ME := fun e => (mCons m (mCons n mNil) e).bnd fun vs e1 => match vs with
  | [v, w] => match cn v e1, cn w e1 with
    | some t, some (.sh i) => match ixT v t i with
      | some r => .ok (r, e1)
      | none => .st
    | _, _ => .st
  | _ => .st
theorem ix_val {v w : Val} {t : T} {i : D} {x y : V} {Q : VK} (st : St K B F H env σ) (pl : PlOk H σ v x) (vx : VR K H F t x) (vy : VR K H F (.sh i) y) (e : ixT v t i = some w) (q : ∀ z, Got K B F H env σ [w] [z] → Q z H) : rIxA K x y H Q := by
  unfold ixT at e
  split at e
  · obtain ⟨d, e1, rfl⟩ := Option.map_eq_some_iff.mp e
    obtain ⟨a, vs, rfl, hq, r⟩ := (show DR K F _ x from vx)
    obtain ⟨z, e2, rz⟩ := atI_all2 (DRs_iff.mp r) e1
    exact .inl ⟨a, vs, _, z, rfl, vy, .inl (.inl (st.sf.ls hq)), e2, q z (.of (st.push rz))⟩
  · obtain ⟨d, e1, rfl⟩ := Option.map_eq_some_iff.mp e
    obtain ⟨a, vs, rfl, hq, r⟩ := (show DR K F _ x from vx)
    obtain ⟨z, e2, rz⟩ := atI_all2 (DRs_iff.mp r) e1
    exact .inr (.inl ⟨a, vs, _, z, rfl, vy, .inl (.inl (st.sf.tp hq)), e2, q z (.of (st.push rz))⟩)
  · rename_i z i
    by_cases hz : z.length ≤ sizeLine
    case neg => rw [if_neg hz] at e; cases e
    rw [if_pos hz] at e
    obtain ⟨c, e1, rfl⟩ := Option.map_eq_some_iff.mp e
    exact .inr (.inr (.inl ⟨z, i, c, vx, vy, hz, e1, q _ (.of (st.push rfl))⟩))
  · obtain ⟨k, e0, e⟩ := Option.bind_eq_some_iff.mp e
    obtain ⟨d, e1, rfl⟩ := Option.map_eq_some_iff.mp e
    obtain ⟨a, kvs, rfl, hq, r⟩ := (show DR K F _ x from vx)
    rcases All2.lk k (DRk_iff.mp r) with ⟨z, _⟩ | ⟨t, z, h1, h2, h3⟩
    · rw [z] at e1; cases e1
    · rw [h1] at e1; cases e1
      exact .inr (.inr (.inr ⟨a, z, rfl, .inl ⟨kvs, k, st.sf.rd _ _ hq, keyD_ok e0 (show DR K F _ y from vy), by rw [valV_lk, h2]⟩, q z (.of (st.push h3))⟩))
  · obtain ⟨n, e0, e⟩ := Option.bind_eq_some_iff.mp e
    obtain ⟨u, e1, e⟩ := Option.bind_eq_some_iff.mp e
    obtain ⟨a, vs, rfl, hq, r⟩ := vx
    have r := VRs_iff.mp r
    obtain ⟨z, e2, rz⟩ := r.get e1
    refine .inl ⟨a, vs, _, z, rfl, vy, .inl (.inl hq), ?_, q z (sub_ok st pl rz (show Wk H [.idx n] (.ref a) z from ⟨a, vs, z, rfl, .inl hq, e2, rfl⟩) e)⟩
    unfold atI
    rw [← r.length, e0]
    exact e2
  · obtain ⟨k, e0, e⟩ := Option.bind_eq_some_iff.mp e
    obtain ⟨u, e1, e⟩ := Option.bind_eq_some_iff.mp e
    obtain ⟨a, kvs, rfl, hq, r⟩ := vx
    rcases All2.lk k (VRk_iff.mp r) with ⟨z, _⟩ | ⟨t, z, h1, h2, h3⟩
    · rw [z] at e1; cases e1
    · rw [h1] at e1; cases e1
      exact .inr (.inr (.inr ⟨a, z, rfl, .inl ⟨kvs, k, hq, keyD_ok e0 (show DR K F _ y from vy), by rw [valV_lk, h2]⟩, q z (sub_ok st pl h3 (show Wk H [.key k] (.ref a) z from ⟨a, kvs, z, rfl, hq, h2, rfl⟩) e)⟩))
  · cases e
theorem ev_ix {ta tb : TE} {m n : ME} (ha : EvT K E ta m) (hb : EvT K E tb n) : EvT K E (tOp (rIxA K) ta tb) (mIx m n) := by
  intro B F H σ env Q hs hv hp
  have hp : PostV K B F env σ E Q (mIx m n env) := hp
  refine (show (tCons ta (tCons tb tNil)) σ H (fun vs H1 => r2 (rIxA K) vs H1 Q) from ev_cons ha (ev_cons hb ev_nil) B F H σ env _ hs hv ?_)
  unfold mIx at hp
  cases e : mCons m (mCons n mNil) env with
  | st => rw [e] at hp; exact hp
  | ex c e1 => rw [e] at hp; exact hp
  | ok a =>
    obtain ⟨vs, e1⟩ := a
    rw [e] at hp
    simp only [R.bnd] at hp
    intro xs F' H' g kd got
    match vs, hp, got with
    | [v, w], hp, got =>
      simp only at hp
      cases e2 : cn v e1 with
      | none => rw [e2] at hp; exact hp.elim
      | some t =>
        cases e3 : cn w e1 with
        | none => rw [e2, e3] at hp; exact hp.elim
        | some u =>
          cases u with
          | sh i =>
            rw [e2, e3] at hp
            simp only at hp
            cases e4 : ixT v t i with
            | none => rw [e4] at hp; exact hp.elim
            | some r =>
              rw [e4] at hp
              simp only at hp
              obtain ⟨x, _, ex, vx, y, _, ey, vy, e0⟩ := got.vrs (Got.kd (H' := H') hv g kd) (ts := [t, .sh i]) (by simp [cns, e2, e3])
              subst ey
              subst e0
              subst ex
              obtain ⟨x', _, ex, pl, _⟩ := got.pl
              cases ex
              exact ix_val got.base pl vx vy e4 fun z gz => hp z F' H' g kd gz
          | lst _ => rw [e2, e3] at hp; exact hp.elim
          | dct _ => rw [e2, e3] at hp; exact hp.elim
          | ins _ _ => rw [e2, e3] at hp; exact hp.elim
end
section
variable {K : Kf}
def xAdd (us : List T) : Option T := (liftD oAdd us).or ((liftD oCatS us).or (oCatL us))
def xSub := liftD oSub
def xMul := liftD oMul
def xMod := liftD oMod
def xDiv := liftD oDiv
def xPow := liftD oPow
def xNeg := liftD oNeg
def xEq (us : List T) : Option T := (liftD oEqS us).or (liftD oEqD us)
def xNe (us : List T) : Option T := (liftD oNeS us).or (liftD oNeD us)
def sLt := f2s fun i j => decide (i.cps.toList < j.cps.toList)
def sLe := f2s fun i j => !decide (j.cps.toList < i.cps.toList)
def sGt := f2s fun i j => decide (j.cps.toList < i.cps.toList)
def sGe := f2s fun i j => !decide (i.cps.toList < j.cps.toList)
def xLt (us : List T) : Option T := (liftD oLt us).or (liftD sLt us)
def xLe (us : List T) : Option T := (liftD oLe us).or (liftD sLe us)
def xGt (us : List T) : Option T := (liftD oGt us).or (liftD sGt us)
def xGe (us : List T) : Option T := (liftD oGe us).or (liftD sGe us)
def xIs := liftD oIsN
def xIsNot := liftD oNotN
def xIn (us : List T) : Option T := (liftD inDct us).or ((liftD (oInQ false) us).or (liftD (oInS false) us))
def xNotIn (us : List T) : Option T := (liftD ninDct us).or ((liftD (oInQ true) us).or (liftD (oInS true) us))
def xLen (us : List T) : Option T := (liftD oLen us).or (liftD oLenD us)
def xList (us : List T) : Option T := (oListOf us).or (oListD us)
def xSorted (us : List T) : Option T := (oSortD us).or (oSortL us)
def xAll := liftD oAll
def xMin := liftD oMin2
end
section
variable {P : Program} {w : World} {base : Heap} {K : Kf} {mg : Str → Option Value} {k : Nat} {ι : Type} {X : ι → Cx} {E : XS} {e a b c o : Expr} {es : List Expr} {pos apos p : Pos} {m n : ME} {ms : MA} {x : Str}
theorem Fm.un (fm : Fm P w K mg base k X E) (j : ι) : (X j).A.units + 64 < cLine := (fm.room j).units
theorem Fm.un1 (fm : Fm P w K mg base k X E) (j : ι) : (X j).A.units + 1 < cLine := by have := fm.un j; omega
structure Bi (K : Kf) (X : ι → Cx) (F : Value → Value → Sem Value) (f : List T → Option T) : Prop where
  ex : ∃ r : R2, (∀ j, OpR (X j) F r) ∧ OpN K (r2 r) f
theorem Bi.or {F : Value → Value → Sem Value} {f g : List T → Option T} (h : Bi K X F f) (h' : Bi K X F g) : Bi K X F (fun us => (f us).or (g us)) := by
  obtain ⟨⟨r, h1, h2⟩⟩ := h
  obtain ⟨⟨r', h3, h4⟩⟩ := h'
  exact ⟨⟨_, fun j => OpR.or (h1 j) (h3 j), OpN.r2or h2 h4⟩⟩
theorem Bi.of {F : Value → Value → Sem Value} {f : List T → Option T} {r : R2} (h1 : ∀ j, OpR (X j) F r) (h2 : OpN K (r2 r) f) : Bi K X F f := ⟨⟨r, h1, h2⟩⟩
theorem bAdd : Bi K X (binaryOp .Add) xAdd := (Bi.of (fun _ => op_add) od_add.n).or ((Bi.of (fun _ => op_add_str) od_catS.n).or (Bi.of (fun _ => op_cat) on_catL))
theorem bSub : Bi K X (binaryOp .Sub) xSub := Bi.of (fun _ => op_sub) od_sub.n
theorem bMul : Bi K X (binaryOp .Mult) xMul := Bi.of (fun _ => op_mulW) od_mul.n
theorem bMod : Bi K X (binaryOp .Mod) xMod := Bi.of (fun _ => op_mod) od_mod.n
theorem bDiv : Bi K X (binaryOp .FloorDiv) xDiv := Bi.of (fun _ => op_fdivW) od_div.n
theorem bPow : Bi K X (binaryOp .Pow) xPow := Bi.of (fun _ => op_pow) od_pow.n
theorem bLt : Bi K X (compareOp .Lt) xLt := (Bi.of (fun _ => op_lt) od_lt.n).or (Bi.of (fun _ => op_lt_str) od_2s.n)
theorem bLe : Bi K X (compareOp .LtE) xLe := (Bi.of (fun _ => op_le) od_le.n).or (Bi.of (fun _ => op_le_str) od_2s.n)
theorem bGt : Bi K X (compareOp .Gt) xGt := (Bi.of (fun _ => op_gt) od_gt.n).or (Bi.of (fun _ => op_gt_str) od_2s.n)
theorem bGe : Bi K X (compareOp .GtE) xGe := (Bi.of (fun _ => op_ge) od_ge.n).or (Bi.of (fun _ => op_ge_str) od_2s.n)
theorem bIs : Bi K X (compareOp .Is) xIs := Bi.of (fun _ => op_isN) od_isN.n
theorem bIsNot : Bi K X (compareOp .IsNot) xIsNot := Bi.of (fun _ => op_notN) od_notN.n
theorem bEq (fm : Fm P w K mg base k X E) : Bi K X (compareOp .Eq) xEq := (Bi.of (fun _ => op_eq) od_eqS.n).or (Bi.of (fun j => (by have := op_eqD (X := X j) (fm.un j); rw [fm.hk j] at this; exact this)) od_eqD.n)
theorem bNe (fm : Fm P w K mg base k X E) : Bi K X (compareOp .NotEq) xNe := (Bi.of (fun _ => op_ne) od_neS.n).or (Bi.of (fun j => (by have := op_neD (X := X j) (fm.un j); rw [fm.hk j] at this; exact this)) od_neD.n)
theorem bIn (fm : Fm P w K mg base k X E) : Bi K X (compareOp .In) xIn := (Bi.of (fun j => op_inDk (fm.un1 j)) od_inDk.n).or ((Bi.of (fun j => (by have := op_in_seq (X := X j); rw [fm.hk j] at this; exact this)) od_inQ.n).or (Bi.of (fun _ => op_in_sign) od_inS.n))
theorem bNotIn (fm : Fm P w K mg base k X E) : Bi K X (compareOp .NotIn) xNotIn := (Bi.of (fun j => op_ninDk (fm.un1 j)) od_ninDk.n).or ((Bi.of (fun j => (by have := op_notIn_seq (X := X j); rw [fm.hk j] at this; exact this)) od_inQ.n).or (Bi.of (fun _ => op_notIn_sign) od_ninS.n))
theorem eBin {op : Operator} {f : List T → Option T} (h : Bi K X (binaryOp op) f) (ha : DE K E X a m) (hb : DE K E X b n) : DE K E X (.BinOp a op b pos) (mOp f (mCons m (mCons n mNil))) := let ⟨_, h1, h2⟩ := h.ex; dbin h1 h2 ha hb
theorem eCmp {op : CmpOp} {f : List T → Option T} (h : Bi K X (compareOp op) f) (ha : DE K E X a m) (hb : DE K E X b n) (hm : behindInMarks op b = false := by first | rfl | exact nomark _) : DE K E X (.Compare a [op] [b] pos) (mOp f (mCons m (mCons n mNil))) := let ⟨_, h1, h2⟩ := h.ex; dcmp h1 h2 ha hb hm
theorem tCmp' {op : CmpOp} {f : List T → Option T} (h : Bi K X (compareOp op) f) (ha : DE K E X a m) (hb : DE K E X b n) (hm : behindInMarks op b = false := by first | rfl | exact nomark _) : DB K E X (.Compare a [op] [b] pos) (mTst asB (mOp f (mCons m (mCons n mNil)))) := let ⟨_, h1, h2⟩ := h.ex; dbcmp h1 h2 ha hb hm
theorem eNeg (ha : DE K E X a m) : DE K E X (.UnaryOp .USub a pos) (mOp xNeg (mCons m mNil)) := dun (fun _ => un_neg) od_neg.n ha
theorem eIx (fm : Fm P w K mg base k X E) (ha : DE K E X a m) (hb : DE K E X b n) (hs : PlainIx b := by intro _ _; rfl) : DE K E X (.Subscript a b pos) (mIx m n) := by
  obtain ⟨ta, h1, h2⟩ := ha
  obtain ⟨tb, h3, h4⟩ := hb
  exact ⟨_, fun j => (by have := pe_ix (pos := pos) (ix_all (fm.un1 j)) (h1 j) (h3 j) hs; rw [fm.hk j] at this; exact this), ev_ix h2 h4⟩
theorem sl_all {Y : Cx} : SlR Y (rSlLS Y.K) := SlR.or sl_list sl_str
theorem eSl (fm : Fm P w K mg base k X E) {p2 : Pos} (ha : DE K E X a m) (hb : DE K E X b n) : DE K E X (.Subscript a (.Slice (some b) none none p2) pos) (mOp oSl (mCons m (mCons n mNil))) := by
  obtain ⟨ta, h1, h2⟩ := ha
  obtain ⟨tb, h3, h4⟩ := hb
  exact ⟨fun σ H Q => (tCons ta (tCons tb tNil)) σ H fun vs H1 => rSl K vs H1 Q, fun j => (by have := pe_slice (pos := pos) (p2 := p2) (sl_all (Y := X j)) (h1 j) (po_some (h3 j)) po_none; rw [fm.hk j] at this; exact this), ev_op (ev_cons h2 (ev_cons h4 ev_nil)) on_sl⟩
theorem eSh (fm : Fm P w K mg base k X E) {p2 : Pos} (ha : DE K E X a m) (hb : DE K E X b n) : DE K E X (.Subscript a (.Slice none (some b) none p2) pos) (mOp oSh (mCons m (mCons n mNil))) := by
  obtain ⟨ta, h1, h2⟩ := ha
  obtain ⟨tb, h3, h4⟩ := hb
  exact ⟨fun σ H Q => (tCons ta (tCons tb tNil)) σ H fun vs H1 => rSh K vs H1 Q, fun j => (by have := pe_slice (pos := pos) (p2 := p2) (sl_all (Y := X j)) (h1 j) po_none (po_some (h3 j)); rw [fm.hk j] at this; exact this), ev_op (ev_cons h2 (ev_cons h4 ev_nil)) on_sh⟩
def intOf : V → Option Int
  | .int i => some i
  | _ => none
def tPartI (te : TE) : TO := fun σ H Q => te σ H fun x H1 => (∃ i, x = .int i) ∧ Q (intOf x) H1
theorem po_int {Y : Cx} {te : TE} (h : PE Y e te) : PO Y (some e) (tPartI te) := by
  refine ⟨fun pins s σ H Q I hw => ?_⟩
  rw [evalPart_some]
  refine thn (h.run pins s σ H _ I hw) fun u s1 ⟨x, H1, I1, r1, q1⟩ => ?_
  obtain ⟨⟨i, rfl⟩, q⟩ := q1
  obtain ⟨t, rfl⟩ := r1
  exact ⟨some i, H1, I1, .int i t, q⟩
def isIntT : T → Bool
  | .sh (.int _) => true
  | _ => false
theorem isIntT_ok {t : T} {v : V} {F H : Hp} (c : isIntT t = true) (r : VR K H F t v) : ∃ i, v = .int i := by
  cases t with
  | sh d => cases d <;> cases c; exact ⟨_, r⟩
  | _ => cases c
structure Ca (K : Kf) (X : ι → Cx) (F : Value) (f : List T → Option T) : Prop where
  ex : ∃ r : List V → Hp → VK → Prop, (∀ j, CallR (X j) F r) ∧ OpN K r f
theorem Ca.of {F : Value} {f : List T → Option T} {r : List V → Hp → VK → Prop} (h1 : ∀ j, CallR (X j) F r) (h2 : OpN K r f) : Ca K X F f := ⟨⟨r, h1, h2⟩⟩
theorem Ca.or {F : Value} {f g : List T → Option T} (h : Ca K X F f) (h' : Ca K X F g) : Ca K X F (fun us => (f us).or (g us)) := by
  obtain ⟨⟨r, h1, h2⟩⟩ := h
  obtain ⟨⟨r', h3, h4⟩⟩ := h'
  exact ⟨⟨_, fun j => CallR.or (h1 j) (h3 j), OpN.or h2 h4⟩⟩
theorem cLen (fm : Fm P w K mg base k X E) : Ca K X (.builtin "len") xLen := (Ca.of (fun j => (by have := call_len (X := X j); rw [fm.hk j] at this; exact this)) od_len.n).or (Ca.of (fun _ => call_lenDk) od_lenD.n)
theorem cList (fm : Fm P w K mg base k X E) : Ca K X (.type "list") xList := (Ca.of (fun j => (by have := call_list_of (X := X j); rw [fm.hk j] at this; exact this)) on_listOf).or (Ca.of (fun j => call_listD (fm.calm j)) on_listD)
theorem cDict : Ca K X (.type "dict") oDictD := Ca.of (fun _ => call_dictD) on_dictD
theorem cSorted (fm : Fm P w K mg base k X E) : Ca K X (.builtin "sorted") xSorted := (Ca.of (fun j => call_sortedD (fm.calm j)) on_sortD).or (Ca.of (fun j => (by have := cr_sortedS (X := X j); rw [fm.hk j] at this; exact this)) on_sortL)
theorem cAll (fm : Fm P w K mg base k X E) : Ca K X (.builtin "all") xAll := Ca.of (fun j => (by have := cr_all (X := X j) (fm.calm j); rw [fm.hk j] at this; exact this)) od_all.n
theorem cMin (fm : Fm P w K mg base k X E) : Ca K X (.builtin "min") xMin := Ca.of (fun j => call_min2 (fm.calm j)) od_min2.n
theorem eCb (fm : Fm P w K mg base k X E) {id : String} {f : List T → Option T} (h : Ca K X (.builtin id) f) (hm : mg x = none) (hb : bootBuiltins x = some (.builtin id)) (ha : DA K E X (e :: es) ms)
    (hg : ∀ j, Gl (X j) x := by intro _; rfl) (hn : x ≠ "__name__" := by decide +kernel) (hd : (x == ("__debug__" : Str)) = false := by decide +kernel) (he : ∀ j, starEach (e :: es) (X j).env = (false, eval e (X j).env) :: starEach es (X j).env := by intro _; rfl)
    (hp : ∀ j, (backTo pos (starEach es (X j).env)).any (·.1) = false := by intro _; rfl) : DE K E X (.Call (.Name x p) (e :: es) [] pos) (mOp f ms) :=
  let ⟨_, h1, h2⟩ := h.ex; dcb fm h1 h2 hm hb ha hg hn hd he hp
theorem eCt (fm : Fm P w K mg base k X E) {id : String} {f : List T → Option T} (h : Ca K X (.type id) f) (hm : mg x = none) (hb : bootBuiltins x = some (.type id)) (ha : DA K E X (e :: es) ms)
    (hg : ∀ j, Gl (X j) x := by intro _; rfl) (hn : x ≠ "__name__" := by decide +kernel) (hd : (x == ("__debug__" : Str)) = false := by decide +kernel) (he : ∀ j, starEach (e :: es) (X j).env = (false, eval e (X j).env) :: starEach es (X j).env := by intro _; rfl)
    (hp : ∀ j, (backTo pos (starEach es (X j).env)).any (·.1) = false := by intro _; rfl) : DE K E X (.Call (.Name x p) (e :: es) [] pos) (mOp f ms) :=
  let ⟨_, h1, h2⟩ := h.ex; dct fm h1 h2 hm hb ha hg hn hd he hp
end
section
variable {K : Kf} {E : XS} {m n l : ME}
def mChain (f f' : List T → Option T) (m n l : ME) : ME := fun e => (mCons m (mCons n mNil) e).bnd fun vs e1 => match cns vs e1 with
  | some [t, .sh d] => if flD d = true then match f [t, .sh d] with
      | some (.sh (.bl true)) => mOp f' (mCons (mC d) (mCons l mNil)) e1
      | some (.sh (.bl false)) => .ok (.tv (.sh (.bl false)), e1)
      | _ => .st
    else .st
  | _ => .st
theorem flat_val {H : Hp} {d : D} {y : V} (f : flD d = true) (h : DR K H d y) : Flat d y := by
  cases d <;> cases f <;> exact h
theorem ev_chain {ta tb tc : TE} {r r' : R2} {f f' : List T → Option T} (ha : EvT K E ta m) (hb : EvT K E tb n) (hc : EvT K E tc l) (hf : OpN K (r2 r) f) (hf' : OpN K (r2 r') f') : EvT K E (tChain r r' ta tb tc) (mChain f f' m n l) := by
  intro B F H σ env Q hs hv hp
  refine (show (tCons ta (tCons tb tNil)) σ H (fun vs H1 => r2 (fun x y H2 Q => r x y H2 fun z H3 => ∃ k, z = .bl k ∧ (if k = true then tc σ H3 fun w' H4 => r' y w' H4 Q else Q (.bl false) H3)) vs H1 Q) from ev_cons ha (ev_cons hb ev_nil) B F H σ env _ hs hv ?_)
  unfold mChain at hp
  cases e : mCons m (mCons n mNil) env with
  | st => rw [e] at hp; exact hp
  | ex c e1 => rw [e] at hp; exact hp
  | ok a =>
    obtain ⟨vs, e1⟩ := a
    rw [e] at hp
    simp only [R.bnd] at hp
    intro xs F' H' g kd got
    split at hp
    · rename_i t d ec
      by_cases hd : flD d = true
      case neg => rw [if_neg hd] at hp; exact hp.elim
      rw [if_pos hd] at hp
      have vr := got.vrs (Got.kd (H' := H') hv g kd) ec
      obtain ⟨x, _, ex, vx, y, _, ey, vy, e0⟩ := vr
      subst e0; subst ey; subst ex
      have fy := flat_val (K := K) (H := F') hd vy
      have vr : All2 (VR K H' F') [t, .sh d] [x, y] := ⟨x, _, rfl, vx, y, _, rfl, vy, rfl⟩
      split at hp
      · rename_i ef
        refine hf B F' H' e1 σ _ _ _ _ got.base vr ef fun z H3 s3 st3 => ?_
        have ez : z = .bl true := by
          obtain ⟨S, ⟨b', l', S1, S2, eb, eS, ⟨w, ew, _, r⟩, _⟩, _⟩ := st3.fp
          cases eb; cases ew; exact r
        refine ⟨true, ez, ?_⟩
        rw [if_pos rfl]
        have hv' : Vw K B F' e1 σ := Got.kd (H' := H3) hv g kd
        have hp' := hp.trans g kd
        have big : EvT K E (fun σ H Q => (tCons (tC y) (tCons tc tNil)) σ H fun vs H1 => r2 r' vs H1 Q) (mOp f' (mCons (mC d) (mCons l mNil))) := ev_op (ev_cons (ev_c fy) (ev_cons hc ev_nil)) hf'
        exact big B F' H3 σ e1 Q st3.drop hv' hp'
      · rename_i ef
        refine hf B F' H' e1 σ _ _ _ _ got.base vr ef fun z H3 s3 st3 => ?_
        have ez : z = .bl false := by
          obtain ⟨S, ⟨b', l', S1, S2, eb, eS, ⟨w, ew, _, r⟩, _⟩, _⟩ := st3.fp
          cases eb; cases ew; exact r
        refine ⟨false, ez, ?_⟩
        rw [if_neg (by simp)]
        subst ez
        exact hp _ F' H3 g kd (.of st3)
      · exact hp.elim
    · exact hp.elim
end
section
variable {P : Program} {w : World} {base : Heap} {K : Kf} {mg : Str → Option Value} {k : Nat} {ι : Type} {X : ι → Cx} {E : XS} {e a b c o : Expr} {es : List Expr} {pos apos p p' : Pos} {m n l : ME} {ms : MA} {x y : Str}
theorem eChain {op op' : CmpOp} {f f' : List T → Option T} (h : Bi K X (compareOp op) f) (h' : Bi K X (compareOp op') f') (ha : DE K E X a m) (hb : DE K E X b n) (hc : DE K E X c l) (hm : lastMarks [op, op'] [b, c] = false := by with_unfolding_all rfl) : DE K E X (.Compare a [op, op'] [b, c] pos) (mChain f f' m n l) := by
  obtain ⟨r, r1, r2⟩ := h.ex
  obtain ⟨r', r3, r4⟩ := h'.ex
  obtain ⟨ta, h1, h2⟩ := ha
  obtain ⟨tb, h3, h4⟩ := hb
  obtain ⟨tc, h5, h6⟩ := hc
  exact ⟨_, fun j => pe_chain (r1 j) (r3 j) (h1 j) (h3 j) (h5 j) hm, ev_chain h2 h4 h6 r2 r4⟩
theorem tChain' {op op' : CmpOp} {f f' : List T → Option T} (h : Bi K X (compareOp op) f) (h' : Bi K X (compareOp op') f') (ha : DE K E X a m) (hb : DE K E X b n) (hc : DE K E X c l) (hm : lastMarks [op, op'] [b, c] = false := by with_unfolding_all rfl) : DB K E X (.Compare a [op, op'] [b, c] pos) (mTst asB (mChain f f' m n l)) := by
  obtain ⟨r, r1, r2⟩ := h.ex
  obtain ⟨r', r3, r4⟩ := h'.ex
  obtain ⟨ta, h1, h2⟩ := ha
  obtain ⟨tb, h3, h4⟩ := hb
  obtain ⟨tc, h5, h6⟩ := hc
  exact ⟨_, fun j => pt_chain (r1 j) (r3 j) (h1 j) (h3 j) (h5 j) hm, ev_asB (ev_chain h2 h4 h6 r2 r4)⟩
def tyN : D → String
  | .non => "NoneType" | .bl _ => "bool" | .int _ => "int" | .str _ => "str" | .lst _ => "list" | .tup _ => "tuple" | .dct _ => "dict" | .ins _ _ => "" | .scr _ => "" | .exn _ _ _ => ""
structure IsiOk (K : Kf) (u : Value) (tb : String → Bool) (ic : List (Addr × Bool)) : Prop where
  non : PySem.W.kitOne K (.type "NoneType") u = some (tb "NoneType")
  bl : PySem.W.kitOne K (.type "bool") u = some (tb "bool")
  int : PySem.W.kitOne K (.type "int") u = some (tb "int")
  str : PySem.W.kitOne K (.type "str") u = some (tb "str")
  lst : PySem.W.kitOne K (.type "list") u = some (tb "list")
  tup : PySem.W.kitOne K (.type "tuple") u = some (tb "tuple")
  dct : PySem.W.kitOne K (.type "dict") u = some (tb "dict")
  ins : ∀ q ∈ ic, Cls K q.1 ∧ PySem.W.findIn K (.ref q.1) "__class__" = some (some (.builtin "object.__class__")) ∧ PySem.W.specialIn K (.builtin "object.__class__") "__get__" = some (some (.builtin "getset_descriptor.__get__")) ∧
    PySem.W.takesIn K (.builtin "object.__class__") = some true ∧ PySem.W.mroIn K q.1 (.type "object") = some true ∧ PySem.W.kitOne K (.ref q.1) u = some q.2
def isiF (tb : String → Bool) (ic : List (Addr × Bool)) : D → Option Bool
  | .ins C _ => lk ic C
  | .scr _ => none
  | .exn _ _ _ => none
  | d => some (tb (tyN d))
theorem lk_mem {κ α : Type} [DecidableEq κ] : ∀ {l : List (κ × α)} {k : κ} {a : α}, lk l k = some a → (k, a) ∈ l := fun {l k a} h => by
  obtain ⟨n, h1, _⟩ := lk_ix h
  exact List.mem_of_getElem? h1
theorem frz_ty {H : Hp} {a : Addr} {kvs : List (Key × V)} (h : Rd H a (.dK kvs)) : TyX K H (.ref a) (.type "dict") := by
  rcases h with h | ⟨o, h⟩
  · exact .base (.dK h)
  · exact .fDict h
theorem isi_ok {u : Value} {tb : String → Bool} {ic : List (Addr × Bool)} (ok : IsiOk K u tb ic) {H F : Hp} {t : T} {v : V} {r : Bool} (sf : SubR F H) (h : VR K H F t v) (e : isiF tb ic t.er = some r) : ∃ q, TyX K H v q ∧ PySem.W.kitOne K q u = some r := by
  have h := h.dr sf
  generalize hd : t.er = d at h e
  cases d with
  | non => cases e; cases (show v = _ from h); exact ⟨_, .base .non, ok.non⟩
  | bl _ => cases e; cases (show v = _ from h); exact ⟨_, .base (.bl _), ok.bl⟩
  | int _ => cases e; cases (show v = _ from h); exact ⟨_, .base (.int _), ok.int⟩
  | str _ => cases e; cases (show v = _ from h); exact ⟨_, .base (.str _), ok.str⟩
  | lst _ => cases e; obtain ⟨a, vs, rfl, q, _⟩ := h; exact ⟨_, .base (.lst q), ok.lst⟩
  | tup _ => cases e; obtain ⟨a, vs, rfl, q, _⟩ := h; exact ⟨_, .base (.tup q), ok.tup⟩
  | dct _ => cases e; obtain ⟨a, vs, rfl, q, _⟩ := h; exact ⟨_, frz_ty q, ok.dct⟩
  | scr _ => cases e
  | exn _ _ _ => cases e
  | ins C fs =>
    obtain ⟨a, dx, vs, rfl, q, _⟩ := h
    obtain ⟨h1, h2, h3, h4, h5, h6⟩ := ok.ins _ (lk_mem e)
    exact ⟨_, .base (.ins q h1 h2 h3 h4 h5), h6⟩
def oIsi (tb : String → Bool) (ic : List (Addr × Bool)) : List T → Option T
  | [t] => (isiF tb ic t.er).map fun b => .sh (.bl b)
  | _ => none
theorem eIsi (fm : Fm P w K mg base k X E) {c : V} {u : Value} {cls : Expr} {tb : String → Bool} {ic : List (Addr × Bool)} (ha : DE K E X e m) (ok : IsiOk K u tb ic) (kc : ClsV c u) (hc : ∀ j, PE (X j) cls (tC c)) (hm : mg x = none) (hb : bootBuiltins x = some (.builtin "isinstance"))
    (hg : ∀ j, Gl (X j) x := by intro _; rfl) (hn : x ≠ "__name__" := by decide +kernel) (hd : (x == ("__debug__" : Str)) = false := by decide +kernel) (he : ∀ j, starEach [e, cls] (X j).env = (false, eval e (X j).env) :: starEach [cls] (X j).env := by intro _; rfl) (he2 : ∀ j, starEach [cls] (X j).env = (false, eval cls (X j).env) :: starEach [] (X j).env := by intro _; rfl)
    (hp : ∀ j, (backTo pos (starEach [cls] (X j).env)).any (·.1) = false := by intro _; rfl) : DE K E X (.Call (.Name x p) [e, cls] [] pos) (mOp (oIsi tb ic) (mCons m mNil)) := by
  obtain ⟨t, h1, h2⟩ := ha
  refine ⟨fun σ H Q => (tCons t tNil) σ H fun vs H1 => (match vs with | [v] => rIsi K [v, c] H1 Q | _ => False), fun j => ?_, ev_op (ev_cons h2 ev_nil) fun B F H ss os us xs t' Q st vr e q => ?_⟩
  · have := pe_callB (pos := pos) (p := p) (call_isi (X := X j)) (hg j) (by rw [fm.hm j]; exact hm) hb (pa_cons (h1 j) (pa_cons (hc j) pa_nil (he2 j)) (he j)) hn hd (he j) (hp j)
    rw [fm.hk j] at this
    exact this
  · match us, e with
    | [t], e =>
      obtain ⟨r, e1, rfl⟩ := Option.map_eq_some_iff.mp e
      obtain ⟨v, _, rfl, hv, rfl⟩ := vr
      obtain ⟨q', h3, h4⟩ := isi_ok ok st.sf hv e1
      exact ⟨v, c, q', u, r, rfl, kc, h3, h4, q _ H (Same.refl _) (st.push rfl)⟩
theorem cName (fm : Fm P w K mg base k X E) {id : String} (hm : mg x = none) (hb : bootBuiltins x = some (.type id)) (hg : ∀ j, Gl (X j) x := by intro _; rfl) (hn : x ≠ "__name__" := by decide +kernel) (hd : (x == ("__debug__" : Str)) = false := by decide +kernel) :
    ∀ j, PE (X j) (.Name x pos) (tC (.ty id)) := fun j => pe_bltn (hg j) (by rw [fm.hm j]; exact hm) hb (v := .ty id) rfl hn hd
theorem cOwn (fm : Fm P w K mg base k X E) {C : Addr} (hm : mg x = some (.ref C)) (hg : ∀ j, Gl (X j) x := by intro _; rfl) (hd : (x == ("__debug__" : Str)) = false := by decide +kernel) :
    ∀ j, PE (X j) (.Name x pos) (tC (.ref C)) := fun j => pe_glob (hg j) (by rw [fm.hm j]; exact hm) rfl hd
end
section
variable {K : Kf} {E : XS}
def OpM (K : Kf) (r : V → List V → Hp → VK → Prop) (f : T → List T → Option (T × T)) : Prop :=
  ∀ (F H : Hp) (x : V) (a : Addr) (u : T) (S' : List Addr) (us : List T) (xs : List V) (Sq : List Addr) (u' rt : T) (Q : VK), Node K F H u x a S' → TRs K F H us xs Sq → (Sq ++ a :: S').Nodup → F a = none → SubR F H → f u us = some (u', rt) →
    (∀ (o' : HO) (y : V) (S'' Sr : List Addr), TR K F (upd H a o') u' x (a :: S'') → TR K F (upd H a o') rt y Sr → (Sr ++ a :: S'').Nodup → (∀ b ∈ Sr ++ S'', b ∈ Sq ++ S') → Q y (upd H a o')) → r x xs H Q
def notSh : T → Bool
  | .sh _ => false
  | _ => true
def mMut (c : T → Bool) (f : T → List T → Option (T × T)) (m : ME) (ms : MA) : ME := fun e => (mCons (mChk c m) ms e).bnd fun vs e1 => match vs with
  | .pl i p :: r => match tvs r with
    | some us => match e1[i]? with
      | some s => match s.own with
        | some t => match T.get p t with
          | some u => if notSh u = true then match f u us with
              | some (u', rt) => match T.put p t u' with
                | some t' => .ok (.tv rt, e1.set i (s.wth t'))
                | none => .st
              | none => .st
            else .st
          | none => .st
        | none => .st
      | none => .st
    | none => .st
  | _ => .st
theorem ev_mut {te : TE} {ta : TA} {m : ME} {ms : MA} {c : T → Bool} {Pr : V → Hp → Prop} {r : V → List V → Hp → VK → Prop} {f : T → List T → Option (T × T)} (h : EvT K E te m) (ha : EvA K E ta ms) (hc : ∀ (t : T) (x : V) (F H : Hp), c t = true → VR K H F t x → SubR F H → Pr x H) (hf : OpM K r f) :
    EvT K E (fun σ H Q => te σ H fun x H1 => Pr x H1 ∧ ta σ H1 fun xs H2 => r x xs H2 Q) (mMut c f m ms) := by
  intro B F H σ env Q hs hv hp
  refine (show (tCons (fun σ H Q => te σ H fun x H1 => Pr x H1 ∧ Q x H1) ta) σ H (fun vs H1 => match vs with | x :: xs => r x xs H1 Q | [] => False) from ev_cons (ev_chk h hc) ha B F H σ env _ hs hv ?_)
  unfold mMut at hp
  cases e : mCons (mChk c m) ms env with
  | st => rw [e] at hp; exact hp
  | ex c e1 => rw [e] at hp; exact hp
  | ok a =>
    obtain ⟨vs, e1⟩ := a
    rw [e] at hp
    simp only [R.bnd] at hp
    intro xs F' H' g kd got
    match vs, xs, hp, got with
    | .pl i p :: rv, x :: xs, hp, got =>
      simp only at hp
      cases e2 : tvs rv with
      | none => rw [e2] at hp; exact hp.elim
      | some us =>
      rw [e2] at hp
      simp only at hp
      cases e3 : e1[i]? with
      | none => rw [e3] at hp; exact hp.elim
      | some s =>
      rw [e3] at hp
      simp only at hp
      cases e4 : s.own with
      | none => rw [e4] at hp; exact hp.elim
      | some t =>
      rw [e4] at hp
      simp only at hp
      cases e5 : T.get p t with
      | none => rw [e5] at hp; exact hp.elim
      | some u =>
      rw [e5] at hp
      simp only at hp
      by_cases e6 : notSh u = true
      case neg => rw [if_neg e6] at hp; exact hp.elim
      rw [if_pos e6] at hp
      cases e7 : f u us with
      | none => rw [e7] at hp; exact hp.elim
      | some q =>
      obtain ⟨u', rt⟩ := q
      rw [e7] at hp
      simp only at hp
      cases e8 : T.put p t u' with
      | none => rw [e8] at hp; exact hp.elim
      | some t' =>
      rw [e8] at hp
      simp only at hp
      have st : St K B F' H' (pdS rv ++ e1) (pdX rv xs ++ σ) := got.st
      obtain ⟨x', _, ex, pl, _⟩ := got.pl
      cases ex
      have hl : rv.length = xs.length := by simpa using got.len
      obtain ⟨a, S', Sq, n1, n2, n3, n4, go⟩ := st.node (pd_len hl) e3 e4 e5 pl (fun d z => by subst z; cases e6)
      exact hf F' H' _ a u S' us xs Sq u' rt Q n1 (tvs_fs hl e2 n2) n3 n4 st.sf e7 fun o' y S'' Sr k1 k2 k3 k4 =>
        hp y F' _ g (kd.trans (Kd.set e3 (by rw [e4]; exact fun z => nomatch z))) (.of (go o' u' t' S'' Sr [.va rt] [some y] k1 (Fs.one ⟨y, rfl, k2⟩) k3 k4 e8))
    | .pl _ _ :: _, [], _, got => exact absurd got.len (by simp)
    | [], _, hp, _ => exact hp.elim
    | .tv _ :: _, _, hp, _ => exact hp.elim
def gAppend : T → List T → Option (T × T)
  | .lst ts, [t] => if ts.length < sizeLine then some (.lst (ts ++ [t]), .sh .non) else none
  | _, _ => none
theorem om_append : OpM K rAppend gAppend := by
  intro F H x a u S' us xs Sq u' rt Q n tr nd fa sf e q
  unfold gAppend at e
  split at e
  · rename_i ts t
    by_cases hz : ts.length < sizeLine
    case neg => rw [if_neg hz] at e; cases e
    rw [if_pos hz] at e
    cases e
    obtain ⟨a', vs, S2, e1, e2, e3, r⟩ := n.tr
    cases e3
    have := n.ex
    rw [e1] at this; cases this
    obtain ⟨y, _, S1, _, e4, e5, ty, e6, e7⟩ := tr
    subst e6; subst e4; subst e7; simp at e5; subst e5
    have hl := (TRs_iff.mp r).length
    have na : a ∉ Sq ∧ a ∉ S' := by
      rw [List.nodup_append] at nd
      exact ⟨fun z => nd.2.2 a z a (by simp) rfl, (List.nodup_cons.mp nd.2.1).1⟩
    refine ⟨a, vs, y, e1, rfl, e2, by omega, q (.lst (vs ++ [y])) .non (S' ++ Sq) [] ⟨a, vs ++ [y], S' ++ Sq, e1, upd_same, rfl, TRs_iff.mpr ((TRs_iff.mp (r.upd na.2)).append (.one (ty.upd na.1)))⟩ ⟨rfl, rfl⟩ ?_ fun b hb => ?_⟩
    · rw [List.nil_append]
      rw [List.nodup_append, List.nodup_cons] at nd
      rw [List.nodup_cons, List.nodup_append]
      refine ⟨fun z => ?_, nd.2.1.2, nd.1, fun b hb c hc z => nd.2.2 c hc b (by simp [hb]) z.symm⟩
      rcases List.mem_append.mp z with z | z
      · exact na.2 z
      · exact na.1 z
    · simp at hb ⊢
      rcases hb with z | z <;> simp [z]
  · cases e
def gPopAt : T → List T → Option (T × T)
  | .lst ts, [.sh (.int i)] => match seqIndex? i ts.length with
    | some k => if -(2 ^ 63) ≤ i ∧ i < 2 ^ 63 then (ts[k]?).map fun t => (.lst (ts.eraseIdx k), t) else none
    | none => none
  | _, _ => none
theorem om_popAt : OpM K rPopAt gPopAt := by
  intro F H x a u S' us xs Sq u' rt Q n tr nd fa sf e q
  unfold gPopAt at e
  split at e
  · rename_i ts i
    split at e
    · rename_i k ek
      by_cases hz : -(2 ^ 63) ≤ i ∧ i < 2 ^ 63
      case neg => rw [if_neg hz] at e; cases e
      rw [if_pos hz] at e
      obtain ⟨t, et, e0⟩ := Option.map_eq_some_iff.mp e
      cases e0
      obtain ⟨a', vs, S2, e1, e2, e3, r⟩ := n.tr
      cases e3
      have := n.ex
      rw [e1] at this; cases this
      obtain ⟨y, _, S1, _, e4, e5, ⟨es, ty⟩, e6, e7⟩ := tr
      subst e6; subst e4; subst e7; subst es; simp at e5; subst e5
      have na : a ∉ S' := by simpa using (List.nodup_cons.mp (by simpa using nd)).1
      obtain ⟨z, L, Sa, Rr, b1, b2, b3, b4⟩ := Fs.erase (TRs_iff.mp (r.upd (o := .lst (vs.eraseIdx k)) na)) et
      have hl := (TRs_iff.mp r).length
      have nd' : (a :: (L ++ Sa ++ Rr)).Nodup := by rw [← b2]; simpa using nd
      refine ⟨a, vs, i, k, z, e1, by rw [show y = .int i from ty], e2, hz.1, hz.2, by rw [← hl]; exact ek, b1, q _ z (L ++ Rr) Sa ⟨a, _, _, e1, upd_same, rfl, TRs_iff.mpr b4⟩ b3 ?_ fun b hb => ?_⟩
      · simp only [List.nodup_append, List.nodup_cons, List.mem_append, List.mem_cons] at nd' ⊢
        grind
      · subst b2
        simp only [List.mem_append, List.nil_append] at hb ⊢
        grind
    · cases e
  · cases e
end
end DL
namespace DL
variable [Lf]
open PySem PySem.Spec PyProof.Rows L2
def keyP : Key → PyData
  | .inl i => .int i
  | .inr s => .str s
mutual
def D.pyv : D → Option PyData
  | .non => some .none
  | .bl b => some (.bool b)
  | .int i => some (.int i)
  | .str x => some (.str x)
  | .lst ds => (D.pyvs ds).map .list
  | .tup ds => (D.pyvs ds).map .tuple
  | .dct kds => (D.pyvk kds).map .dict
  | .ins _ _ => none
  | .scr _ => none
  | .exn _ _ _ => none
def D.pyvs : List D → Option (List PyData)
  | [] => some []
  | d :: r => match d.pyv, D.pyvs r with
    | some p, some ps => some (p :: ps)
    | _, _ => none
def D.pyvk : List (Key × D) → Option (List (PyData × PyData))
  | [] => some []
  | p :: r => match D.pyvp p, D.pyvk r with
    | some p, some ps => some (p :: ps)
    | _, _ => none
def D.pyvp : Key × D → Option (PyData × PyData)
  | (k, d) => d.pyv.map fun p => (keyP k, p)
end
section
variable {P : Program} {w : World} {K : Kf} {H : Hp} {h : Heap}
def Shw (P : Program) (w : World) (h : Heap) (u : Value) (p : PyData) : Prop := ∃ as bs, Reads h u p as ∧ ReadAtMost h p.depth bs ∧ ReprK P w bs h p.depth u p.shown
theorem key_reads {k : Key} {v : Value} (e : keyIs k v = true) : Reads h v (keyP k) [] := by
  rcases keyIs_shape e with ⟨i, t, rfl, rfl⟩ | ⟨x, t, rfl, rfl⟩
  · exact .int i t
  · exact .str x t
theorem key_repr {k : Key} {v : Value} (e : keyIs k v = true) (hs : (keyP k).showable = true) (hz : (keyP k).shown.length ≤ sizeLine) (as : List Addr) (d : Nat) : ReprK P w as h d v (keyP k).shown := by
  rcases keyIs_shape e with ⟨i, t, rfl, rfl⟩ | ⟨x, t, rfl, rfl⟩
  · simp only [keyP, PyData.shown]; exact .of_is (ReprIs.int t (by simpa [keyP, PyData.showable] using hs)) _ _ _
  · simp only [keyP, PyData.shown]; exact .of_is (ReprIs.str x t (by simpa only [keyP, PyData.shown] using hz)) _ _ _
mutual
theorem shw (ok : HOk P w H h) : ∀ {d : D} {p : PyData} {v : V} {u : Value}, d.pyv = some p → DR K H d v → RelV v u → p.showable = true → p.shown.length ≤ sizeLine → Shw P w h u p
  | .non, p, v, u, e, r, rv, _, _ => by
    cases e; cases (show v = _ from r); cases (show u = Value.none from rv)
    exact ⟨_, [], .none, (fun _ z => nomatch z), by simp only [PyData.shown]; exact .of_is ReprIs.none _ _ _⟩
  | .bl b, p, v, u, e, r, rv, _, _ => by
    cases e; cases (show v = _ from r); cases (show u = Value.bool b from rv)
    exact ⟨_, [], .bool b, (fun _ z => nomatch z), by simp only [PyData.shown]; exact .of_is (ReprIs.bool b) _ _ _⟩
  | .int i, p, v, u, e, r, rv, hs, _ => by
    cases e; cases (show v = _ from r); obtain ⟨t, rfl⟩ := (show ∃ t, u = Value.int i t from rv)
    exact ⟨_, [], .int i t, (fun _ z => nomatch z), by simp only [PyData.shown]; exact .of_is (ReprIs.int t (by simpa [PyData.showable] using hs)) _ _ _⟩
  | .str x, p, v, u, e, r, rv, _, hz => by
    cases e; cases (show v = _ from r); obtain ⟨t, rfl⟩ := (show ∃ t, u = Value.str x t from rv)
    exact ⟨_, [], .str x t, (fun _ z => nomatch z), by simp only [PyData.shown]; exact .of_is (ReprIs.str x t (by simpa only [PyData.shown] using hz)) _ _ _⟩
  | .lst ds, p, v, u, e, ⟨a, vs, ev, q, r⟩, rv, hs, hz => by
    obtain ⟨ps, e1, rfl⟩ := Option.map_eq_some_iff.mp e
    subst ev
    cases (show u = Value.ref a from rv)
    obtain ⟨_, its, n, rs, eo⟩ := (show ObjOk P w H h a (.lst vs) from ok a _ q)
    have hz' : (listText (PyData.shownAll ps)).length ≤ sizeLine := by simpa only [PyData.shown] using hz
    obtain ⟨as, bs, r1, r2, r3⟩ := shws ok e1 r rs (by simpa [PyData.showable] using hs) fun t ht => Nat.le_trans (listText_mem_le ht) hz'
    have rd : Reads h (.ref a) (.list ps) _ := .list eo rfl rfl (by simpa using r1)
    have hna : a ∉ bs := not_mem_of_deeper rd (by simp only [PyData.depth]; omega) r2
    refine ⟨_, a :: bs, rd, ReadAtMost.cons rd (by simp only [PyData.depth]; omega) r2, ?_⟩
    simp only [PyData.depth, PyData.shown]
    cases its with
    | nil =>
      have e2 : ps = [] := by cases r1; rfl
      subst e2
      simp only [PyData.shownAll, listText_nil]
      exact ReprK.listEmpty eo rfl rfl
    | cons x l => exact ReprK.list eo rfl rfl hna (by simpa using r3.length_eq) (fun i y e => r3.item i y (by simpa using e))
  | .tup ds, p, v, u, e, ⟨a, vs, ev, q, r⟩, rv, hs, hz => by
    obtain ⟨ps, e1, rfl⟩ := Option.map_eq_some_iff.mp e
    subst ev
    cases (show u = Value.ref a from rv)
    obtain ⟨_, its, rs, o, eo, ec, n, ed⟩ := (show ObjOk P w H h a (.tup vs) from ok a _ q)
    have hz' : (tupleText (PyData.shownAll ps)).length ≤ sizeLine := by simpa only [PyData.shown] using hz
    obtain ⟨as, bs, r1, r2, r3⟩ := shws ok e1 r rs (by simpa [PyData.showable] using hs) fun t ht => Nat.le_trans (tupleText_mem_le ht) hz'
    have rd : Reads h (.ref a) (.tuple ps) _ := .tuple eo ec ed (by simpa using r1)
    have hna : a ∉ bs := not_mem_of_deeper rd (by simp only [PyData.depth]; omega) r2
    refine ⟨_, a :: bs, rd, ReadAtMost.cons rd (by simp only [PyData.depth]; omega) r2, ?_⟩
    simp only [PyData.depth, PyData.shown]
    exact ReprK.tuple eo ec ed hna (by simpa using r3)
  | .dct kds, p, v, u, e, ⟨a, kvs, ev, q, r⟩, rv, hs, hz => by
    obtain ⟨ps, e1, rfl⟩ := Option.map_eq_some_iff.mp e
    subst ev
    cases (show u = Value.ref a from rv)
    obtain ⟨_, hsys, vs, rel, o, es, n, eo, ec, ed, _, pr, _⟩ := dk_rd ok q
    have hz' : (dictText (PyData.shownKv ps)).length ≤ sizeLine := by simpa only [PyData.shown] using hz
    obtain ⟨hs1, hs2⟩ := PyData.showableKv_split ps (by simpa [PyData.showable] using hs)
    obtain ⟨r0, as, bs, r1, r2, r3, r4⟩ := shwk ok e1 r rel pr hs1 hs2 (fun t ht => let ⟨p, hp, hl⟩ := PyData.shownKv_key_le ps t ht; Nat.le_trans hl (Nat.le_trans (dictText_mem_le hp) hz')) (fun t ht => let ⟨p, hp, hl⟩ := PyData.shownKv_val_le ps t ht; Nat.le_trans hl (Nat.le_trans (dictText_mem_le hp) hz'))
    have rd : Reads h (.ref a) (.dict ps) _ := .dict eo ec.1 ed r0 r1
    have hb := r2.mono (PyData.depthAll_vals_le ps)
    have hna : a ∉ bs := not_mem_of_deeper rd (by simp only [PyData.depth]; omega) hb
    refine ⟨_, a :: bs, rd, ReadAtMost.cons rd (by simp only [PyData.depth]; omega) hb, ?_⟩
    simp only [PyData.depth, PyData.shown, PyData.shownKv_eq]
    exact ReprK.dict eo ec.1 ed hsys hna (ReprEntriesK.of_two es.toList _ _ (r4 bs _) (r3.more_le (fun _ z => z) (PyData.depthAll_vals_le ps)))
  | .ins _ _, p, v, u, e, _, _, _, _ => by cases e
  | .scr _, p, v, u, e, _, _, _, _ => by cases e
  | .exn _ _ _, p, v, u, e, _, _, _, _ => by cases e
theorem shws (ok : HOk P w H h) : ∀ {ds : List D} {ps : List PyData} {vs : List V} {us : List Value}, D.pyvs ds = some ps → DRs K H ds vs → Vals vs us → PyData.showableAll ps = true → (∀ t ∈ PyData.shownAll ps, t.length ≤ sizeLine) →
    ∃ as bs, ReadsAll h us ps as ∧ ReadAtMost h (PyData.depthAll ps) bs ∧ ReprAllK P w bs h (PyData.depthAll ps) us (PyData.shownAll ps)
  | [], ps, vs, us, e, r, rv, _, _ => by
    cases e; cases (show vs = [] from r); cases rv
    exact ⟨_, [], .nil, (fun _ z => nomatch z), by simp only [PyData.shownAll]; exact .nil⟩
  | d :: ds, ps, vs, us, e, ⟨v, vs', ev, hd, r⟩, rv, hs, hz => by
    subst ev
    unfold D.pyvs at e
    split at e
    · rename_i p1 ps1 e1 e2
      cases e
      cases rv with
      | cons rv1 rv2 =>
      have hs' : p1.showable = true ∧ PyData.showableAll ps1 = true := by simpa [PyData.showableAll] using hs
      obtain ⟨a1, b1, q1, q2, q3⟩ := shw ok e1 hd rv1 hs'.1 (hz _ (by simp only [PyData.shownAll]; exact List.mem_cons_self))
      obtain ⟨a2, b2, k1, k2, k3⟩ := shws ok e2 r rv2 hs'.2 fun t ht => hz t (by simp only [PyData.shownAll]; exact List.mem_cons_of_mem _ ht)
      refine ⟨_, b1 ++ b2, .cons q1 k1, ?_, ?_⟩
      · simp only [PyData.depthAll]
        exact (q2.mono (Nat.le_max_left _ _)).append (k2.mono (Nat.le_max_right _ _))
      · simp only [PyData.depthAll, PyData.shownAll]
        exact .cons ((q3.more fun b hb => List.mem_append_left _ hb).level_le (Nat.le_max_left _ _)) (k3.more_le (fun b hb => List.mem_append_right _ hb) (Nat.le_max_right _ _))
    · cases e
theorem shwk (ok : HOk P w H h) : ∀ {kds : List (Key × D)} {ps : List (PyData × PyData)} {kvs : List (Key × V)} {vs : List (Key × Value)} {es : List DictEntry}, D.pyvk kds = some ps → DRk K H kds kvs → KV kvs vs → Pairs (mixKind P w) es vs → PyData.showableAll (ps.map (·.1)) = true → PyData.showableAll (ps.map (·.2)) = true →
    (∀ t ∈ PyData.shownAll (ps.map (·.1)), t.length ≤ sizeLine) → (∀ t ∈ PyData.shownAll (ps.map (·.2)), t.length ≤ sizeLine) →
    ReadsAll h (es.map (·.key)) (ps.map (·.1)) [] ∧ ∃ as bs, ReadsAll h (es.map (·.val)) (ps.map (·.2)) as ∧ ReadAtMost h (PyData.depthAll (ps.map (·.2))) bs ∧ ReprAllK P w bs h (PyData.depthAll (ps.map (·.2))) (es.map (·.val)) (PyData.shownAll (ps.map (·.2))) ∧
      ∀ as' d', ReprAllK P w as' h d' (es.map (·.key)) (PyData.shownAll (ps.map (·.1)))
  | [], ps, vs, us, es, e, r, rv, pr, _, _, _, _ => by
    cases e; cases (show vs = [] from r); cases rv; cases pr
    exact ⟨.nil, _, [], .nil, (fun _ z => nomatch z), (by simp only [List.map_nil, PyData.shownAll]; exact .nil), fun _ _ => by simp only [List.map_nil, PyData.shownAll]; exact .nil⟩
  | (k, d) :: ds, ps, vs, us, es, e, ⟨v, vs', ev, hd, r⟩, rv, pr, hs1, hs2, hz1, hz2 => by
    subst ev
    unfold D.pyvk at e
    split at e
    · rename_i p1 ps1 e1 e2
      cases e
      obtain ⟨p, e3, rfl⟩ := Option.map_eq_some_iff.mp (show d.pyv.map (fun p => (keyP k, p)) = some p1 from e1)
      cases rv with
      | @cons _ kv _ _ rv1 rv2 =>
      cases pr with
      | @cons en _ est _ pr1 pr2 pr3 =>
      obtain ⟨hk, hd⟩ := (show v.1 = k ∧ DR K H d v.2 from hd)
      obtain ⟨rk, rvv⟩ := (show v.1 = kv.1 ∧ RelV v.2 kv.2 from rv1)
      have hkey : keyIs k en.key = true := by rw [← hk, rk]; exact pr1
      simp only [List.map_cons, PyData.showableAll, Bool.and_eq_true] at hs1 hs2
      simp only [List.map_cons, PyData.shownAll, List.mem_cons] at hz1 hz2
      obtain ⟨a1, b1, q1, q2, q3⟩ := shw ok e3 hd rvv hs2.1 (hz2 _ (.inl rfl))
      obtain ⟨k0, a2, b2, k1, k2, k3, k4⟩ := shwk ok e2 r rv2 pr3 hs1.2 hs2.2 (fun t ht => hz1 t (.inr ht)) (fun t ht => hz2 t (.inr ht))
      rw [← pr2] at q1 q3
      refine ⟨.cons (key_reads hkey) k0, _, b1 ++ b2, .cons q1 k1, ?_, ?_, fun as' d' => ?_⟩
      · simp only [List.map_cons, PyData.depthAll]
        exact (q2.mono (Nat.le_max_left _ _)).append (k2.mono (Nat.le_max_right _ _))
      · simp only [List.map_cons, PyData.depthAll, PyData.shownAll]
        exact .cons ((q3.more fun b hb => List.mem_append_left _ hb).level_le (Nat.le_max_left _ _)) (k3.more_le (fun b hb => List.mem_append_right _ hb) (Nat.le_max_right _ _))
      · simp only [List.map_cons, PyData.shownAll]
        exact .cons (key_repr hkey hs1.1 (hz1 _ (.inl rfl)) _ _) (k4 as' d')
    · cases e
end
end
end DL
namespace DL
variable [Lf]
open PySem PySem.Spec PyProof.Rows L2
def isNode : D → Bool
  | .lst _ => true | .tup _ => true | .dct _ => true
  | _ => false
def rRepr (K : Kf) : List V → Hp → VK → Prop := fun xs H Q => ∃ (d : D) (p : PyData) (x : V), xs = [x] ∧ DR K H d x ∧ d.pyv = some p ∧ isNode d = true ∧ p.showable = true ∧ p.shown.length ≤ sizeLine ∧ p.depth ≤ 60 ∧ Q (.str p.shown) H
theorem call_reprK {X : Cx} (hg : X.A.guards = some []) (hu : X.A.units + 64 < cLine) : CallR X (.builtin "repr") (rRepr X.K) := by
  intro pins s σ H xs us Q I r h
  obtain ⟨d, p, x, ex, dr, e, nd, hs, hz, hd, q⟩ := h
  subst ex
  obtain ⟨u, eu, rx⟩ := vals1 r
  subst eu
  have fin : ∀ h' v tk, (∀ b o, s.heap.get? b = some o → h'.get? b = some o) → EP X pins σ Q (.str p.shown v) { s with heap := h', toks := tk } := fun h' v tk k => ⟨.str p.shown, H, I.kept k, ⟨v, rfl⟩, q⟩
  have gin : X.A.in1.guards = some [] := hg
  cases d with
  | lst ds =>
    obtain ⟨a, vs, rfl, hq, dr⟩ := dr
    cases (show u = Value.ref a from rx)
    obtain ⟨ps, e1, rfl⟩ := Option.map_eq_some_iff.mp e
    obtain ⟨_, its, n, rs, eo⟩ := (show ObjOk X.prog X.w H s.heap a (.lst vs) from I.hok a _ hq)
    have hz' : (listText (PyData.shownAll ps)).length ≤ sizeLine := by simpa only [PyData.shown] using hz
    obtain ⟨as, bs, r1, r2, r3⟩ := shws (P := X.prog) (w := X.w) I.hok e1 dr rs (by simpa [PyData.showable] using hs) fun t ht => Nat.le_trans (listText_mem_le ht) hz'
    have rd : Reads s.heap (.ref a) (.list ps) _ := .list eo rfl rfl (by simpa using r1)
    have hna : a ∉ bs := not_mem_of_deeper rd (by simp only [PyData.depth]; omega) r2
    simp only [PyData.depth] at hd
    simp only [PyData.shown] at fin
    refine call_repr_slot (by omega) ⟨_, eo, rfl⟩ F.slot_list_repr.toG ?_
    cases its with
    | nil =>
      have e2 : ps = [] := by cases r1; rfl
      subst e2
      simp only [PyData.shownAll, listText_nil] at fin
      exact call_list_repr_empty ⟨_, eo, rfl⟩ eo rfl ⟨_, _, rfl, fin s.heap _ _ fun _ _ e => e⟩
    | cons y l => exact call_list_reprK eo rfl rfl hna (by simpa using r3.length_eq) (fun i y e => r3.item i y (by simpa using e)) gin (fun b _ => Clear.nil b) (by show X.A.units + 1 + _ < _; omega) (fun _ _ e => e) (fun h' v tk k => ⟨_, _, rfl, fin h' v tk k⟩) hz'
  | tup ds =>
    obtain ⟨a, vs, rfl, hq, dr⟩ := dr
    cases (show u = Value.ref a from rx)
    obtain ⟨ps, e1, rfl⟩ := Option.map_eq_some_iff.mp e
    obtain ⟨_, its, rs, o, eo, ec, n, ed⟩ := (show ObjOk X.prog X.w H s.heap a (.tup vs) from I.hok a _ hq)
    have hz' : (tupleText (PyData.shownAll ps)).length ≤ sizeLine := by simpa only [PyData.shown] using hz
    obtain ⟨as, bs, r1, r2, r3⟩ := shws (P := X.prog) (w := X.w) I.hok e1 dr rs (by simpa [PyData.showable] using hs) fun t ht => Nat.le_trans (tupleText_mem_le ht) hz'
    have rd : Reads s.heap (.ref a) (.tuple ps) _ := .tuple eo ec ed (by simpa using r1)
    have hna : a ∉ bs := not_mem_of_deeper rd (by simp only [PyData.depth]; omega) r2
    simp only [PyData.depth] at hd
    simp only [PyData.shown] at fin
    exact call_repr_slot (by omega) ⟨_, eo, ec⟩ F.slot_tuple_repr (call_tuple_reprK eo ec ed hna (by simpa using r3) gin (fun b _ => Clear.nil b) (by show X.A.units + 1 + _ < _; omega) (fun _ _ e => e) (fun h' v tk k => ⟨_, _, rfl, fin h' v tk k⟩) hz')
  | dct kds =>
    obtain ⟨a, kvs, rfl, hq, dr⟩ := dr
    cases (show u = Value.ref a from rx)
    obtain ⟨ps, e1, rfl⟩ := Option.map_eq_some_iff.mp e
    obtain ⟨_, hsys, vs, rel, o, es, n, eo, ec, ed, _, pr, _⟩ := dk_rd I.hok hq
    have hz' : (dictText (PyData.shownKv ps)).length ≤ sizeLine := by simpa only [PyData.shown] using hz
    obtain ⟨hs1, hs2⟩ := PyData.showableKv_split ps (by simpa [PyData.showable] using hs)
    obtain ⟨r0, as, bs, r1, r2, r3, r4⟩ := shwk I.hok e1 dr rel pr hs1 hs2 (fun t ht => let ⟨p, hp, hl⟩ := PyData.shownKv_key_le ps t ht; Nat.le_trans hl (Nat.le_trans (dictText_mem_le hp) hz')) (fun t ht => let ⟨p, hp, hl⟩ := PyData.shownKv_val_le ps t ht; Nat.le_trans hl (Nat.le_trans (dictText_mem_le hp) hz'))
    have rd : Reads s.heap (.ref a) (.dict ps) _ := .dict eo ec.1 ed r0 r1
    have hb := r2.mono (PyData.depthAll_vals_le ps)
    have hna : a ∉ bs := not_mem_of_deeper rd (by simp only [PyData.depth]; omega) hb
    simp only [PyData.depth] at hd
    simp only [PyData.shown, PyData.shownKv_eq] at fin
    exact call_repr_slot (by omega) ⟨_, eo, ec.1⟩ F.slot_dict_repr (call_dict_reprK eo ec.1 ed hsys hna (ReprEntriesK.of_two es.toList _ _ (r4 bs _) (r3.more_le (fun _ z => z) (PyData.depthAll_vals_le ps))) gin (fun b _ => Clear.nil b) (by show X.A.units + 1 + _ < _; omega) (fun _ _ e => e) (fun h' v tk k => ⟨_, _, rfl, fin h' v tk k⟩) (by rw [← PyData.shownKv_eq]; exact hz'))
  | _ => cases nd
def oRepr : List D → Option D
  | [d] => d.pyv.bind fun p => if isNode d = true ∧ p.showable = true ∧ p.shown.length ≤ sizeLine ∧ p.depth ≤ 60 then some (.str p.shown) else none
  | _ => none
theorem od_repr {K : Kf} : OpD K (rRepr K) oRepr := by
  intro H us xs d Q vr e q
  match us, e with
  | [t], e =>
    obtain ⟨p, e1, e2⟩ := Option.bind_eq_some_iff.mp e
    split at e2
    · rename_i hh
      cases e2
      obtain ⟨x, _, rfl, h, rfl⟩ := vr
      exact ⟨t, p, x, rfl, h, e1, hh.1, hh.2.1, hh.2.2.1, hh.2.2.2, q _ rfl⟩
    · cases e2
def xRepr := liftD oRepr
section
variable {X : Cx} {k : Nat} {f g C : Addr} {fd : FuncData} {ps : List Str} {sp : Sp} {E : XS} {x : Str} {p : Addr} {pos apos : Pos} {e o : Expr} {es : List Expr} {ta : TE} {t : TA}
def tPropG (C : Addr) (sp : Sp) (E : XS) (ta : TE) : TE := fun σ H Q => ta σ H fun x H1 => (∃ a dx fs, x = .ref a ∧ H1 a = some (.ins C dx fs)) ∧ sp [x] H1 Q (E σ)
theorem goG1 {pins : List (Addr × Obj)} {σ : L2.St} {H : Hp} {s : Shared} {Q : VK} {v : V} {u : Value} {A : Around} (F : FnG X.prog X.w X.K X.mg X.base k g fd ps sp) (hr : Room k A) (hg : Gq k A) (hb : Binds X.K fd ps [])
    (I : Inv X pins σ H s) (e0 : Env0 X.prog X.w X.K X.mg X.base A X.stack s H) (r : RelV v u) (h : sp [v] H Q E0) : codeAny (model X.prog X.w) A (.call (.ref g) ⟨[u], []⟩) (fun r s' => match r with | .ok (.ret y) => EP X pins σ Q y s' | .ok _ => False | .error e => False) s := by
  have hl : ([u] ++ []).length = ps.length := by rw [List.append_nil]; exact F.len _ _ _ _ h
  have hb' := hb s [u] I.kIn hl
  rw [List.append_nil] at hb'
  refine codeAny_mono (F.go A X.stack s H ⟨[u], []⟩ [u] [v] Q E0 hr hg e0 hb' (.cons r .nil) h) fun r s' hq => ?_
  cases r with
  | error e => exact (passL (X := X.nox) pins σ H s e s' (I.wish _) hq).elim
  | ok fl => cases fl with
    | ret u => exact I.after hq
    | next => exact hq.elim
    | brk => exact hq.elim
    | cont => exact hq.elim
theorem pe_propG {f : Str} (he : PE X e ta) (c : Cls X.K C) (hp : PropOf X.K C f p g) (F : FnG X.prog X.w X.K X.mg X.base k g fd ps sp) (hr : Room (k + 1) X.A) (hgd : Gq (k + 1) X.A) (hb : Binds X.K fd ps []) (h0 : ∀ σ vs H Q, sp vs H Q (E σ) → sp vs H Q E0)
    (hab : attributeBase e f X.env (eval e X.env) = eval e X.env) : PE X (.Attribute e f pos) (tPropG C sp E ta) := by
  refine ⟨fun pins s σ H Q I h => ?_⟩
  refine attr_of hab (thn (he.run pins s σ H _ I h) fun u s1 ⟨x, H1, I1, rx, ⟨a, dx, fs, ex, ea⟩, q⟩ => ?_)
  subst ex
  obtain rfl : u = Value.ref a := rx
  obtain ⟨mA, O, _, _, _, _⟩ := ins_get I1.hok ea
  obtain ⟨od, J, _⟩ := O.look
  obtain ⟨rest, hrec⟩ := hp.rec_
  have I2 := I1.tok (s1.toks + 1)
  have hc : (PySem.W.clsIn X.K C).isSome = true := by
    obtain ⟨cd, hc, _⟩ := PySem.W.any_some c.hd
    rw [hc]
    rfl
  refine PySem.W.get_bind I1.kIn J (PySem.W.plainGet_of (c.get f)).1 (PySem.W.findObj_data hc hp.at_ hp.get hp.tak) (PySem.W.plainGet_of (c.get f)).2 (wpAny_call (PySem.W.prop_get (s := { s1 with toks := s1.toks + 1 }) I1.kIn hrec ?_))
  refine codeAny_mono (goG1 F hr.in1 (by exact hgd.mono (Nat.le_succ _)) hb I2 I2.env0.in1 (show RelV (V.ref a) (Value.ref a) from rfl) (h0 _ _ _ _ q)) fun r s' hq => ?_
  cases r with
  | error er => exact hq.elim
  | ok fl =>
    cases fl with
    | ret u =>
      obtain ⟨v, H', I3, rv, q3⟩ := hq
      show wpAny _ _ (handedOut u) _ _ _
      rw [PySem.W.handedOut_of (handed_of rv)]
      exact wpAny_pure ⟨v, H', I3, rv, q3⟩
    | next => exact False.elim hq
    | brk => exact False.elim hq
    | cont => exact False.elim hq
end
def nxF (f : MF) : MF := fun ss => match f ss with
  | .exc _ _ => .st
  | r => r
theorem nxF_sp {K : Kf} {n : Nat} {f : MF} {vs : List V} {H : Hp} {Q : VK} {E E' : XK} (h : spD K n (nxF f) vs H Q E) : spD K n (nxF f) vs H Q E' := by
  obtain ⟨h1, B, F, ss, h2, h3, h4⟩ := h
  refine ⟨h1, B, F, ss, h2, h3, ?_⟩
  unfold nxF at h4 ⊢
  cases e : f ss with
  | st => rw [e] at h4; exact h4.elim
  | exc c m => rw [e] at h4; exact h4.elim
  | ret t m => rw [e] at h4; cases m <;> exact h4
theorem nxF_f {K : Kf} {n : Nat} {f : MF} {vs : List V} {H : Hp} {Q : VK} {E : XK} (h : spD K n (nxF f) vs H Q E) : spD K n f vs H Q E := by
  obtain ⟨h1, B, F, ss, h2, h3, h4⟩ := h
  refine ⟨h1, B, F, ss, h2, h3, ?_⟩
  unfold nxF at h4
  cases e : f ss with
  | st => rw [e] at h4; exact h4.elim
  | exc c m => rw [e] at h4; exact h4.elim
  | ret t m => rw [e] at h4; exact h4
theorem FnG.nx {P : Program} {w : World} {K : Kf} {mg : Str → Option Value} {base : Heap} {k n : Nat} {g : Addr} {fd : FuncData} {ps : List Str} {f : MF} (F : FnG P w K mg base k g fd ps (spD K n f)) : FnG P w K mg base k g fd ps (spD K n (nxF f)) :=
  ⟨fun vs H Q E h => F.len vs H Q E (nxF_f h), fun A out s H args us vs Q E hr hg e0 hb r h => F.go A out s H args us vs Q E hr hg e0 hb r (nxF_f h)⟩
def isC (C : Addr) : T → Bool
  | .sh (.ins C' _) => C' == C
  | .ins C' _ => C' == C
  | _ => false
theorem isC_ok {K : Kf} {F H : Hp} {C : Addr} {t : T} {x : V} (h : isC C t = true) (r : VR K H F t x) (sf : SubR F H) : ∃ a dx fs, x = .ref a ∧ H a = some (.ins C dx fs) := by
  cases t with
  | sh d =>
    cases d <;> simp only [isC] at h <;> try cases h
    rename_i C' fs
    cases eq_of_beq h
    obtain ⟨a, dx, vs, rfl, q, _⟩ := (show DR K F _ x from r)
    exact ⟨a, dx, vs, rfl, sf.is _ _ _ _ q⟩
  | lst _ => cases h
  | dct _ => cases h
  | ins C' fs =>
    cases eq_of_beq h
    obtain ⟨a, dx, vs, rfl, q, _⟩ := r
    exact ⟨a, dx, vs, rfl, q⟩
def mProp (C : Addr) (f : MF) (m : ME) : ME := mCall 1 (nxF f) (mCons (mChk (isC C) m) mNil)
theorem ev_prop {K : Kf} {E : XS} {C : Addr} {f : MF} {te : TE} {m : ME} (h : EvT K E te m) : EvT K E (tPropG C (spD K 1 (nxF f)) E te) (mProp C f m) :=
  ev_callF (ev_cons (ev_chk (Pr := fun x H1 => ∃ a dx fs, x = .ref a ∧ H1 a = some (.ins C dx fs)) h fun t x F H c r sf => isC_ok c r sf) ev_nil)
section
variable {P : Program} {w : World} {base : Heap} {K : Kf} {mg : Str → Option Value} {k : Nat} {ι : Type} {X : ι → Cx} {E : XS} {e a b c o : Expr} {es : List Expr} {pos apos p p' : Pos} {m n l : ME} {ms : MA} {x y : Str}
theorem eProp (fm : Fm P w K mg base k X E) {k' : Nat} {f : MF} {g C pa : Addr} {nm : Str} (d : Df P w K mg base k' 1 f g) (hc : Cls K C) (hp : PropOf K C nm pa g) (hk : k' + 1 ≤ k) (ho : DE K E X o m) (hb : ∀ j, attributeBase o nm (X j).env (eval o (X j).env) = eval o (X j).env := by intro _; rfl) :
    DE K E X (.Attribute o nm pos) (mProp C f m) := by
  obtain ⟨t, h1, h2⟩ := ho
  obtain ⟨fd, ps, F, B⟩ := d.ok
  refine ⟨_, fun j => ?_, ev_prop h2⟩
  have F' : FnG (X j).prog (X j).w (X j).K (X j).mg (X j).base k' g fd ps (spD K 1 (nxF f)) := by rw [fm.hP j, fm.hw j, fm.hb j, fm.hk j, fm.hm j]; exact F.nx
  exact pe_propG (E := E) (h1 j) (by rw [fm.hk j]; exact hc) (by rw [fm.hk j]; exact hp) F' ((fm.room j).mono hk) ((fm.gd j).mono hk) (by rw [fm.hk j]; exact B) (fun _ vs H Q z => nxF_sp z) (hb j)
end
def updP {α : Type} (i : Nat) (p : List PEl) (f : T → Option (T × α)) (e : Env) : Option (α × Env) :=
  (e[i]?).bind fun s => s.own.bind fun t => (T.get p t).bind fun u => if notSh u = true then (f u).bind fun q => (T.put p t q.1).map fun t' => (q.2, e.set i (s.wth t')) else none
section
variable {K : Kf} {E : XS} {B F H : Hp} {env : Env} {σ : L2.St}
theorem updP_ok {α : Type} {i : Nat} {p : List PEl} {f : T → Option (T × α)} {e' : Env} {r : α} (h : updP i p f env = some (r, e')) : ∃ s t u u' t', env[i]? = some s ∧ s.own = some t ∧ T.get p t = some u ∧ notSh u = true ∧ f u = some (u', r) ∧ T.put p t u' = some t' ∧ e' = env.set i (s.wth t') := by
  obtain ⟨s, h1, h⟩ := Option.bind_eq_some_iff.mp h
  obtain ⟨t, h2, h⟩ := Option.bind_eq_some_iff.mp h
  obtain ⟨u, h3, h⟩ := Option.bind_eq_some_iff.mp h
  split at h
  · obtain ⟨⟨u', r'⟩, h4, h⟩ := Option.bind_eq_some_iff.mp h
    obtain ⟨t', h5, h⟩ := Option.map_eq_some_iff.mp h
    cases h
    exact ⟨s, t, u, u', t', h1, h2, h3, by assumption, h4, h5, rfl⟩
  · cases h
def putT (d : D) (t : T) : T → Option (T × Unit)
  | .dct kts => (keyD d).bind fun k => if kts.length < sizeLine then some (.dct (pk kts k t), ()) else none
  | .lst ts => match d with
    | .int j => (ixN ts.length j).map fun n => (.lst (ts.set n t), ())
    | _ => none
  | _ => none
def rSetA : TSet := fun o i v H Q => rSetL o i v H Q ∨ rSetD o i v H Q
theorem set_all {X : Cx} (hu : X.A.units + 1 < cLine) : PSet X rSetA := by
  intro pins s σ H o i v ov iv u Q I ro ri rv h
  rcases h with h | h
  · exact set_list pins s σ H o i v ov iv u Q I ro ri rv h
  · exact set_dict hu pins s σ H o i v ov iv u Q I ro ri rv h
theorem put_ok {d : D} {t u u' : T} {x y z : V} {a : Addr} {S' S1 : List Addr} {Q : Hp → Prop} (n : Node K F H u x a S') (ty : TR K F H t y S1) (kz : DR K H d z) (nd : (S1 ++ a :: S').Nodup) (e : putT d t u = some (u', ()))
    (q : ∀ (o' : HO) (S'' : List Addr), TR K F (upd H a o') u' x (a :: S'') → (a :: S'').Nodup → (∀ b ∈ S'', b ∈ S1 ++ S') → Q (upd H a o')) : rSetA x z y H Q := by
  have nd0 := List.nodup_append.mp nd
  have na : a ∉ S1 ∧ a ∉ S' := ⟨fun z => nd0.2.2 a z a (by simp) rfl, (List.nodup_cons.mp nd0.2.1).1⟩
  have ndS : (S' ++ S1).Nodup := List.nodup_append.mpr ⟨(List.nodup_cons.mp nd0.2.1).2, nd0.1, fun b hb c hc z => nd0.2.2 c hc b (by simp [hb]) z.symm⟩
  cases u with
  | sh _ => cases e
  | ins _ _ => cases e
  | dct kts =>
    obtain ⟨k, ek, e⟩ := Option.bind_eq_some_iff.mp e
    by_cases hz : kts.length < sizeLine
    case neg => rw [if_neg hz] at e; cases e
    rw [if_pos hz] at e
    cases e
    obtain ⟨a', kvs, S2, e1, e2, e3, r, ndk⟩ := n.tr
    cases e3
    have := n.ex
    rw [e1] at this; cases this
    have r' := TRk_iff.mp (r.upd (o := .dK (putK kvs k y)) na.2)
    have hl := r'.length
    obtain ⟨S3, f3, sub, nd3⟩ := Fs.pk (k := k) (ty.upd (o := .dK (putK kvs k y)) na.1) r'
    refine .inr ⟨a, upd H a (.dK (putK kvs k y)), e1, .inl ⟨kvs, k, e2, keyD_ok ek kz, by omega, rfl⟩, q (.dK (putK kvs k y)) S3 ⟨a, putK kvs k y, S3, e1, upd_same, rfl, ?_, pk_nodup ndk⟩ ?_ fun b hb => ?_⟩
    · have ep : putK kvs k y = DL.pk kvs k y := putK_pk (by rw [Fs.keys r']; exact ndk)
      rw [← ep] at f3
      exact TRk_iff.mpr f3
    · refine List.nodup_cons.mpr ⟨fun z => ?_, nd3 ndS⟩
      rcases List.mem_append.mp (sub a z) with w | w
      · exact na.2 w
      · exact na.1 w
    · rcases List.mem_append.mp (sub b hb) with w | w <;> simp [w]
  | lst ts =>
    cases d with
    | int j =>
      obtain ⟨i, ei, e0⟩ := Option.map_eq_some_iff.mp e
      cases e0
      obtain ⟨a', vs, S2, e1, e2, e3, r⟩ := n.tr
      cases e3
      have := n.ex
      rw [e1] at this; cases this
      have r' := TRs_iff.mp (r.upd (o := .lst (vs.set i y)) na.2)
      have hl := r'.length
      have hi : i < ts.length := by
        unfold ixN at ei
        split at ei
        · split at ei
          · cases ei; omega
          · cases ei
        · split at ei
          · cases ei; omega
          · cases ei
      obtain ⟨L, Sa, Rr, h1, h2⟩ := Fs.store r' hi (ty.upd (o := .lst (vs.set i y)) na.1)
      refine .inl ⟨a, vs, j, i, e1, kz, e2, by rw [← hl]; exact ei, q (.lst (vs.set i y)) (L ++ S1 ++ Rr) ⟨a, vs.set i y, _, e1, upd_same, rfl, TRs_iff.mpr h2⟩ ?_ fun b hb => ?_⟩
      · subst h1
        simp only [List.nodup_append, List.nodup_cons, List.mem_append, List.mem_cons] at nd ⊢
        grind
      · subst h1
        simp only [List.mem_append] at hb ⊢
        grind
    | _ => cases e
def mPut (mv mo mi : ME) : MS := fun e => match mCons (mK mv) (mCons mo (mCons mi mNil)) e with
  | .ok ([.tv t, .pl i p, .tv (.sh d)], e1) => match updP i p (putT d t) e1 with
    | some (_, e2) => .ok (.nx e2)
    | none => .st
  | .ok _ => .st
  | .ex c e1 => .ex c e1
  | .st => .st
theorem ds_put {tv to ti : TE} {mv mo mi : ME} (h : EvT K E tv mv) (ho : EvT K E to mo) (hi : EvT K E ti mi) : DsT K E (tAsg tv (gSub to ti rSetA)) (mPut mv mo mi) := by
  intro B F H σ env D hs hv hp
  refine (show (tCons tv (tCons to (tCons ti tNil))) σ H (fun vs H1 => match vs with | [v, o, i] => rSetA o i v H1 (fun H3 => D.nx σ H3) | _ => False) from ev_cons (ev_k h) (ev_cons ho (ev_cons hi ev_nil)) B F H σ env _ hs hv ?_)
  unfold mPut at hp
  cases e : mCons (mK mv) (mCons mo (mCons mi mNil)) env with
  | st => rw [e] at hp; exact hp
  | ex c e1 => rw [e] at hp; exact fun od F' H' g kd st hx => hp od σ F' H' g (Kp.of kd) st hx
  | ok a =>
    obtain ⟨vs, e1⟩ := a
    rw [e] at hp
    intro xs F' H' g kd got
    split at hp
    · rename_i t i p d e1' ea
      cases ea
      cases e2 : updP i p (putT d t) e1 with
      | none => rw [e2] at hp; exact hp.elim
      | some q =>
        obtain ⟨⟨⟩, e3⟩ := q
        rw [e2] at hp
        obtain ⟨s, ts, u, u', t', h1, h2, h3, h4, h5, h6, rfl⟩ := updP_ok e2
        match xs, got with
        | [y, x, z], got =>
          have st : St K B F' H' ([.va t, .va (.sh d)] ++ e1) ([some y, some z] ++ σ) := got.st
          have pl : PlOk H' σ (.pl i p) x := by
            obtain ⟨_, _, ex0, _, _, _, ex, pl, _⟩ := got.pl
            cases ex0
            cases ex
            exact pl
          obtain ⟨a, S', Sq, n1, n2, n3, n4, go⟩ := st.node rfl h1 h2 h3 pl (fun d z => by subst z; cases h4)
          obtain ⟨b, l', S1, S2, eb, eS, ⟨w, ew, ty⟩, ⟨b2, l2, S3, S4, eb2, eS2, ⟨w2, ew2, es3, kz⟩, z0⟩⟩ := n2
          cases eb; cases ew; cases eb2; cases ew2
          obtain ⟨z1, z2⟩ := z0
          subst z2; subst es3; subst eS2
          simp at eS
          subst eS
          refine put_ok n1 ty (kz.mono st.sf) n3 h5 fun o' S'' k1 k2 k3 => ?_
          refine hp σ F' _ g ((Kp.of kd).trans (Kp.of (Kd.set h1 (by rw [h2]; exact fun z => nomatch z)))) ?_
          exact go o' u' t' S'' [] [] [] k1 ⟨rfl, rfl⟩ (by simpa using k2) (by simpa using k3) h6
        | [], got => exact absurd got.len (by simp)
        | [_], got => exact absurd got.len (by simp)
        | [_, _], got => exact absurd got.len (by simp)
        | _ :: _ :: _ :: _ :: _, got => exact absurd got.len (by simp)
    · exact hp.elim
    · rename_i ea; cases ea
    · rename_i ea; cases ea
end
section
variable {K : Kf} {E : XS} {B F H : Hp} {env : Env} {σ : L2.St}
def putFT (C : Addr) (f : Str) (t : T) : T → Option (T × Unit)
  | .ins C' fs => if C' = C ∧ fs.length < 1000 then some (.ins C' (pk fs f t), ()) else none
  | _ => none
def mFld (C : Addr) (f : Str) (mv mo : ME) : MS := fun e => match mCons (mK mv) (mCons mo mNil) e with
  | .ok ([.tv t, .pl i p], e1) => match updP i p (putFT C f t) e1 with
    | some (_, e2) => .ok (.nx e2)
    | none => .st
  | .ok _ => .st
  | .ex c e1 => .ex c e1
  | .st => .st
theorem ds_fld {C : Addr} {f : Str} {tv to : TE} {mv mo : ME} (h : EvT K E tv mv) (ho : EvT K E to mo) (hc : Cls K C) (hn : NoAttr K C f) : DsT K E (sFld K to tv f) (mFld C f mv mo) := by
  intro B F H σ env D hs hv hp
  refine (show (tCons tv (tCons to tNil)) σ H (fun vs H1 => match vs with | [y, x] => ∃ a C dx fs, x = .ref a ∧ H1 a = some (.ins C dx fs) ∧ Cls K C ∧ NoAttr K C f ∧ fs.length < 1000 ∧ D.nx σ (upd H1 a (.ins C dx (putF f y fs))) | _ => False) from ev_cons (ev_k h) (ev_cons ho ev_nil) B F H σ env _ hs hv ?_)
  unfold mFld at hp
  cases e : mCons (mK mv) (mCons mo mNil) env with
  | st => rw [e] at hp; exact hp
  | ex c e1 => rw [e] at hp; exact fun od F' H' g kd st hx => hp od σ F' H' g (Kp.of kd) st hx
  | ok a =>
    obtain ⟨vs, e1⟩ := a
    rw [e] at hp
    intro xs F' H' g kd got
    split at hp
    · rename_i t i p e1' ea
      cases ea
      cases e2 : updP i p (putFT C f t) e1 with
      | none => rw [e2] at hp; exact hp.elim
      | some q =>
        obtain ⟨⟨⟩, e3⟩ := q
        rw [e2] at hp
        obtain ⟨s, ts, u, u', t', h1, h2, h3, h4, h5, h6, rfl⟩ := updP_ok e2
        match xs, got with
        | [y, x], got =>
          have st : St K B F' H' ([.va t] ++ e1) ([some y] ++ σ) := got.st
          have pl : PlOk H' σ (.pl i p) x := by
            obtain ⟨_, _, ex0, _, _, _, ex, pl, _⟩ := got.pl
            cases ex0
            cases ex
            exact pl
          obtain ⟨a, S', Sq, n1, n2, n3, n4, go⟩ := st.node rfl h1 h2 h3 pl (fun d z => by subst z; cases h4)
          obtain ⟨b, l', S1, S2, eb, eS, ⟨w, ew, ty⟩, z0⟩ := n2
          cases eb; cases ew
          obtain ⟨z1, z2⟩ := z0
          subst z2
          simp at eS
          subst eS
          cases u with
          | sh _ => cases h5
          | lst _ => cases h5
          | dct _ => cases h5
          | ins C' fs =>
          simp only [putFT] at h5
          by_cases hz : C' = C ∧ fs.length < 1000
          case neg => rw [if_neg hz] at h5; cases h5
          rw [if_pos hz] at h5
          cases h5
          obtain ⟨rfl, hz⟩ := hz
          obtain ⟨a', dx, vs, S2, e1', e2', e3', r⟩ := n1.tr
          cases e3'
          have := n1.ex
          rw [e1'] at this; cases this
          have nd0 := List.nodup_append.mp n3
          have na : a ∉ Sq ∧ a ∉ S' := ⟨fun z => nd0.2.2 a z a (by simp) rfl, (List.nodup_cons.mp nd0.2.1).1⟩
          have ndS : (S' ++ Sq).Nodup := List.nodup_append.mpr ⟨(List.nodup_cons.mp nd0.2.1).2, nd0.1, fun b hb c hc z => nd0.2.2 c hc b (by simp [hb]) z.symm⟩
          have r' := TRf_iff.mp (r.upd (o := .ins C' dx (putF f y vs)) na.2)
          have hl := r'.length
          obtain ⟨S3, f3, sub, nd3⟩ := Fs.pk (k := f) (ty.upd (o := .ins C' dx (putF f y vs)) na.1) r'
          refine ⟨a, C', dx, vs, e1', e2', hc, hn, by omega, ?_⟩
          refine hp σ F' _ g ((Kp.of kd).trans (Kp.of (Kd.set h1 (by rw [h2]; exact fun z => nomatch z)))) ?_
          refine go (.ins C' dx (putF f y vs)) (.ins C' (pk fs f t)) t' S3 [] [] [] ⟨a, dx, putF f y vs, S3, e1', upd_same, rfl, ?_⟩ ⟨rfl, rfl⟩ ?_ (fun b hb => ?_) h6
          · have ep : putF f y vs = DL.pk vs f y := putF_pk f y vs
            rw [← ep] at f3
            exact TRf_iff.mpr f3
          · rw [List.nil_append]
            refine List.nodup_cons.mpr ⟨fun z => ?_, nd3 ndS⟩
            rcases List.mem_append.mp (sub a z) with w | w
            · exact na.2 w
            · exact na.1 w
          · rw [List.nil_append] at hb
            rcases List.mem_append.mp (sub b hb) with w | w <;> simp [w]
        | [], got => exact absurd got.len (by simp)
        | [_], got => exact absurd got.len (by simp)
        | _ :: _ :: _ :: _, got => exact absurd got.len (by simp)
    · exact hp.elim
    · rename_i ea; cases ea
    · rename_i ea; cases ea
def gClear : T → List T → Option (T × T)
  | .dct _, [] => some (.dct [], .sh .non)
  | _, _ => none
def rDUpd : V → List V → Hp → VK → Prop := fun x vs H Q => ∃ a kvs b more, x = .ref a ∧ vs = [.ref b] ∧ H a = some (.dK kvs) ∧ Rd H b (.dK more) ∧ a ≠ b ∧ kvs.length + more.length ≤ sizeLine ∧ Q .non (upd H a (.dK (mergeK kvs more)))
theorem mt_dupd {X : Cx} : MtR X "dict.update" rDUpd := by
  intro pins s σ H x xs v us Q I rx rxs h
  obtain ⟨a, kvs, b, more, rfl, rfl, hH, hB, hab, hz, q⟩ := h
  cases (show v = Value.ref a from rx)
  obtain ⟨u, rfl, ru⟩ := rxs.one
  cases (show u = Value.ref b from ru)
  obtain ⟨z, hd, vs, rel, dd⟩ := dk_of I.hok hH
  obtain ⟨z2, hd2, vs2, rel2, dd2⟩ := dk_rd I.hok hB
  have l1 := rel.length
  have l2 := rel2.length
  refine call_meetsIn PySem.F.slot_dict_update dd.typeIs PySem.F.entry_dict_update (PySem.F.args_dict_update_2 _ _) (meets_dict_update (mixKind X.prog X.w) a b hab hd2) ⟨vs, vs2, dd, dd2, by omega, fun h' dd' _ hs => ?_⟩
  have hlen : (mergeK kvs more).length ≤ sizeLine := Nat.le_trans (length_mergeK more kvs) hz
  refine ⟨.non, _, d_write (t' := s.toks) I (by rw [hH]; exact True.intro) hs (let ⟨o, _, _, ho, _⟩ := dd'; ⟨o, ho⟩) (dk_new hlen hd (KV.merge rel2 rel) dd'), rfl, q⟩
def mergeT (kts : List (Key × T)) (kds : List (Key × D)) : List (Key × T) := kds.foldl (fun acc p => pk acc p.1 (.sh p.2)) kts
def gUpdate : T → List T → Option (T × T)
  | .dct kts, [.sh (.dct kds)] => if kts.length + kds.length ≤ sizeLine then some (.dct (mergeT kts kds), .sh .non) else none
  | _, _ => none
theorem merge_fs {H' : Hp} : ∀ {kds : List (Key × D)} {more : List (Key × V)} {kts : List (Key × T)} {kvs : List (Key × V)} {S : List Addr}, DRk K F kds more → Fs (TRp K F H') kts kvs S → (kts.map (·.1)).Nodup → S.Nodup →
    ∃ S2, Fs (TRp K F H') (mergeT kts kds) (mergeK kvs more) S2 ∧ (∀ b ∈ S2, b ∈ S) ∧ S2.Nodup ∧ ((mergeT kts kds).map (·.1)).Nodup
  | [], _, kts, kvs, S, h, f, nd, ndS => by
    cases (show _ = [] from h)
    exact ⟨S, f, fun _ h => h, ndS, nd⟩
  | (k, d) :: r, _, kts, kvs, S, ⟨v, vs, ev, ⟨hk, hd⟩, h⟩, f, nd, ndS => by
    subst ev
    obtain ⟨S3, f3, sub, nd3⟩ := Fs.pk (k := k) (H := H') (t := .sh d) (S1 := []) ⟨rfl, hd⟩ f
    have ep : putK kvs k v.2 = DL.pk kvs k v.2 := putK_pk (by rw [Fs.keys f]; exact nd)
    rw [← ep] at f3
    obtain ⟨S4, f4, sub4, nd4, ndk⟩ := merge_fs h f3 (pk_nodup nd) (nd3 (by simpa using ndS))
    refine ⟨S4, ?_, fun b hb => by simpa using sub b (sub4 b hb), nd4, ndk⟩
    have e1 : mergeK kvs (v :: vs) = mergeK (putK kvs k v.2) vs := by rw [← hk]; rfl
    rw [e1]
    exact f4
theorem om_dupd : OpM K rDUpd gUpdate := by
  intro F H x a u S' us xs Sq u' rt Q n tr nd fa sf e q
  unfold gUpdate at e
  split at e
  · rename_i kts kds
    by_cases hz : kts.length + kds.length ≤ sizeLine
    case neg => rw [if_neg hz] at e; cases e
    rw [if_pos hz] at e
    cases e
    obtain ⟨a', kvs, S2, e1, e2, e3, r, ndk⟩ := n.tr
    cases e3
    have := n.ex
    rw [e1] at this; cases this
    obtain ⟨y, _, S1, _, e4, e5, ⟨es, b, more, ey, hb, rb⟩, e6, e7⟩ := tr
    subst e6; subst e4; subst e7; subst es; subst ey; simp at e5; subst e5
    have nd' : a ∉ S' ∧ S'.Nodup := by simpa using nd
    have l1 := (TRk_iff.mp r).length
    have l2 := (DRk_iff.mp rb).length
    obtain ⟨S3, f3, sub, nd3, ndk3⟩ := merge_fs rb (TRk_iff.mp (r.upd (o := .dK (mergeK kvs more)) nd'.1)) ndk nd'.2
    refine ⟨a, kvs, b, more, e1, rfl, e2, sf.rd _ _ hb, fun z => ?_, by omega, q (.dK (mergeK kvs more)) .non S3 [] ⟨a, mergeK kvs more, S3, e1, upd_same, rfl, TRk_iff.mpr f3, ndk3⟩ ⟨rfl, rfl⟩ ?_ fun c hc => ?_⟩
    · subst z
      rcases hb with hb | ⟨o, hb⟩ <;> rw [fa] at hb <;> cases hb
    · simpa using ⟨fun z => nd'.1 (sub a z), nd3⟩
    · simpa using sub c (by simpa using hc)
  · cases e
end
def TyOk (X : Cx) (T : String) (ty : V → Hp → Prop) : Prop := ∀ (pins : List (Addr × Obj)) (σ : L2.St) (H : Hp) (s : Shared) (x : V) (v : Value), Inv X pins σ H s → RelV x v → ty x H → s.TypeIs v T ∧ ∀ a, v = .ref a → ∃ ob, s.heap.get? a = some ob ∧ ob.dict = none
section
variable {X : Cx} {o e : Expr} {es : List Expr} {to : TE} {t : TA} {name : Str} {apos cpos : Pos} {T id : String} {r : V → List V → Hp → VK → Prop} {ty : V → Hp → Prop}
theorem pe_bmG (pa : PlainAttrs T) (slot : PySem.Slot T name id) (hty : typeOf (.builtin id) = pure (.type "method_descriptor")) (tk : TyOk X T ty) (hm : MtR X id r) (ho : PE X o to) (ha : PA X (e :: es) t)
    (hbase : attributeBase o name X.env (eval o X.env) = eval o X.env := by rfl)
    (hfew : ((backTo cpos (starEach (e :: es) X.env)).all (fun x => !x.1) && (backToKw cpos (keywordEach [] X.env)).all (fun x => x.1.isSome)
      && decide ((e :: es).length + ([] : List Keyword).length + (if ([] : List Keyword).isEmpty then 0 else 1) < 30)) = true := by rfl)
    (hline : (apos.endLine == cpos.line) = true := by rfl) (hs : starEach (e :: es) X.env = (false, eval e X.env) :: starEach es X.env := by rfl) (hplain : (backTo cpos (starEach es X.env)).any (·.1) = false := by rfl) :
    PE X (.Call (.Attribute o name apos) (e :: es) [] cpos) (fun σ H Q => to σ H fun x H1 => ty x H1 ∧ t σ H1 fun xs H2 => r x xs H2 Q) := by
  refine ⟨fun pins s σ H Q I h => ?_⟩
  refine wpAny_Call_method_late hbase hfew hline rfl (thn (ho.run pins s σ H _ I h) fun v s1 ⟨x, H1, I1, r1, ty, q1⟩ => ?_)
  obtain ⟨h1, h2⟩ := tk _ _ _ _ _ _ I1 r1 ty
  refine ⟨T, id, pa, slot, hty, h1, h2, ?_⟩
  have hA := ha.run cpos pins s1 σ H1 _ I1 q1
  rw [hs] at hA ⊢
  refine Calls.callWith_builtin (by show (false || (backTo cpos (starEach es X.env)).any (·.1)) = false; rw [hplain] <;> rfl) (Calls.evalArgs_plain ?_)
  exact thn hA fun us s2 ⟨vs, H2, I2, r2, q2⟩ => hm pins s2 σ H2 x vs v us Q I2 r1 r2 q2
end
def tyL (K : Kf) (x : V) (H : Hp) : Prop := ∃ p xs, x = .ref p ∧ SqL K H p xs
def tyD (x : V) (H : Hp) : Prop := ∃ p kvs, x = .ref p ∧ Rd H p (.dK kvs)
def tyS (x : V) (_ : Hp) : Prop := ∃ z, x = .str z
theorem tyL_ok {X : Cx} : TyOk X "list" (tyL X.K) := by
  intro pins σ H s x v I r ⟨p, xs, e, h⟩
  subst e
  exact tyV_is (T := "list") I r (.inl ⟨rfl, xs, h⟩)
theorem tyD_ok {X : Cx} : TyOk X "dict" tyD := by
  intro pins σ H s x v I r ⟨p, kvs, e, h⟩
  subst e
  cases (show v = Value.ref p from r)
  obtain ⟨h1, h2, _⟩ := isD_at I (.inl ⟨kvs, h⟩)
  exact ⟨h1, h2⟩
theorem tyS_ok {X : Cx} : TyOk X "str" tyS := by
  intro pins σ H s x v I r ⟨z, e⟩
  subst e
  exact tyV_is (T := "str") I r rfl
def isL : T → Bool
  | .sh (.lst _) => true
  | .lst _ => true
  | _ => false
def isDc : T → Bool
  | .sh (.dct _) => true
  | .dct _ => true
  | _ => false
theorem isL_ok {K : Kf} {F H : Hp} {t : T} {x : V} (h : isL t = true) (r : VR K H F t x) (sf : SubR F H) : tyL K x H := by
  cases t with
  | sh d =>
    cases d <;> cases h
    obtain ⟨a, vs, rfl, q, _⟩ := (show DR K F _ x from r)
    exact ⟨a, vs, rfl, .inl (.inl (sf.ls q))⟩
  | lst _ => obtain ⟨a, vs, rfl, q, _⟩ := r; exact ⟨a, vs, rfl, .inl (.inl q)⟩
  | dct _ => cases h
  | ins _ _ => cases h
theorem isDc_ok {K : Kf} {F H : Hp} {t : T} {x : V} (h : isDc t = true) (r : VR K H F t x) (sf : SubR F H) : tyD x H := by
  cases t with
  | sh d =>
    cases d <;> cases h
    obtain ⟨a, vs, rfl, q, _⟩ := (show DR K F _ x from r)
    exact ⟨a, vs, rfl, sf.rd _ _ q⟩
  | lst _ => cases h
  | dct _ => obtain ⟨a, vs, rfl, q, _⟩ := r; exact ⟨a, vs, rfl, q⟩
  | ins _ _ => cases h
section
variable {P : Program} {w : World} {base : Heap} {K : Kf} {mg : Str → Option Value} {k : Nat} {ι : Type} {X : ι → Cx} {E : XS} {e a b c o value : Expr} {es : List Expr} {pos apos cpos p p' : Pos} {m n l : ME} {ms : MA} {x y : Str}
structure Me (K : Kf) (X : ι → Cx) (name : Str) (c : T → Bool) (f : T → List T → Option (T × T)) : Prop where
  ex : ∃ (T id : String) (ty : V → Hp → Prop) (r : V → List V → Hp → VK → Prop), PlainAttrs T ∧ PySem.Slot T name id ∧ typeOf (.builtin id) = pure (.type "method_descriptor") ∧ (∀ j, TyOk (X j) T ty) ∧ (∀ j, MtR (X j) id r) ∧ OpM K r f ∧ ∀ (t : DL.T) (x : V) (F H : Hp), c t = true → VR K H F t x → SubR F H → ty x H
theorem Me.list (fm : Fm P w K mg base k X E) {name : Str} {id : String} {r : V → List V → Hp → VK → Prop} {f : T → List T → Option (T × T)} (s : PySem.Slot "list" name id) (h : typeOf (.builtin id) = pure (.type "method_descriptor")) (hm : ∀ j, MtR (X j) id r) (ho : OpM K r f) : Me K X name isL f :=
  ⟨"list", id, tyL K, r, F.plainAttrs_list, s, h, fun j => (by have := tyL_ok (X := X j); rw [fm.hk j] at this; exact this), hm, ho, fun t x F H c r sf => isL_ok c r sf⟩
theorem Me.dict {name : Str} {id : String} {r : V → List V → Hp → VK → Prop} {f : T → List T → Option (T × T)} (s : PySem.Slot "dict" name id) (h : typeOf (.builtin id) = pure (.type "method_descriptor")) (hm : ∀ j, MtR (X j) id r) (ho : OpM K r f) : Me K X name isDc f :=
  ⟨"dict", id, tyD, r, F.plainAttrs_dict, s, h, fun j => tyD_ok, hm, ho, fun t x F H c r sf => isDc_ok c r sf⟩
theorem mAppend (fm : Fm P w K mg base k X E) : Me K X "append" isL gAppend := Me.list fm F.slot_list_append F.type_list_append (fun _ => mt_append) om_append
theorem mPopAt (fm : Fm P w K mg base k X E) : Me K X "pop" isL gPopAt := Me.list fm F.slot_list_pop F.type_list_pop (fun _ => mt_popAt) om_popAt
theorem mUpdate : Me K X "update" isDc gUpdate := Me.dict F.slot_dict_update F.type_dict_update (fun _ => mt_dupd) om_dupd
theorem eMe {name : Str} {ct : T → Bool} {f : T → List T → Option (T × T)} (h : Me K X name ct f) (ho : DE K E X o m) (ha : DA K E X (e :: es) ms) (hbase : ∀ j, attributeBase o name (X j).env (eval o (X j).env) = eval o (X j).env := by intro _; rfl)
    (hfew : ∀ j, ((backTo cpos (starEach (e :: es) (X j).env)).all (fun x => !x.1) && (backToKw cpos (keywordEach [] (X j).env)).all (fun x => x.1.isSome)
      && decide ((e :: es).length + ([] : List Keyword).length + (if ([] : List Keyword).isEmpty then 0 else 1) < 30)) = true := by intro _; rfl)
    (hline : (apos.endLine == cpos.line) = true := by rfl) (hs : ∀ j, starEach (e :: es) (X j).env = (false, eval e (X j).env) :: starEach es (X j).env := by intro _; rfl) (hplain : ∀ j, (backTo cpos (starEach es (X j).env)).any (·.1) = false := by intro _; rfl) :
    DE K E X (.Call (.Attribute o name apos) (e :: es) [] cpos) (mMut ct f m ms) := by
  obtain ⟨T, id, ty, r, h1, h2, h3, h4, h5, h6, h7⟩ := h.ex
  obtain ⟨to, h8, h9⟩ := ho
  obtain ⟨ta, h10, h11⟩ := ha
  exact ⟨_, fun j => pe_bmG h1 h2 h3 (h4 j) (h5 j) (h8 j) (h10 j) (hbase j) (hfew j) hline (hs j) (hplain j), ev_mut h9 h11 h7 h6⟩
theorem sput (fm : Fm P w K mg base k X E) {tpos : Pos} (hv : DE K E X value m) (ho : DE K E X o n) (hi : DE K E X a l)
    (ha : ∀ j v, assign (.Subscript o a tpos) (X j).env v = (do
      let ov ← holding [v] (eval o (X j).env)
      let iv ← holding [v, ov] (eval a (X j).env)
      standAt tpos
      holding [v, ov, iv] (setItem ov iv v)
      release [v, ov, iv] []) := by intro _ _; rfl)
    (hs : ∀ j, swapsWithSole [.Subscript o a tpos] value pos.line (X j).env = pure false := by intro _; rfl) (hw : ∀ j, swappedStores [.Subscript o a tpos] value (X j).env = pure none := by intro _; rfl)
    (h1 : ∀ j, (assignEach [.Subscript o a tpos] (X j).env).map (·.2) = [assign (.Subscript o a tpos) (X j).env] := by intro _; rfl) : DS K E X (.Assign [.Subscript o a tpos] value pos) (mPut m n l) := by
  obtain ⟨tv, h2, h3⟩ := hv
  obtain ⟨to, h4, h5⟩ := ho
  obtain ⟨ti, h6, h7⟩ := hi
  exact ⟨_, fun j => ps_asg (h2 j) (pg_sub (h4 j) (h6 j) (set_all (fm.un1 j)) (ha j)) (hs j) (hw j) (h1 j), ds_put h3 h5 h7⟩
theorem sfld (fm : Fm P w K mg base k X E) {C : Addr} {f : Str} (hc : Cls K C) (hn : NoAttr K C f) (hv : DE K E X value m) (ho : DE K E X o n) (hs : ∀ j, swapsWith value (some (.Attribute o f p')) pos.line (X j).env = pure false := by intro _; rfl) : DS K E X (.Assign [.Attribute o f p'] value pos) (mFld C f m n) := by
  obtain ⟨tv, h2, h3⟩ := hv
  obtain ⟨to, h4, h5⟩ := ho
  exact ⟨_, fun j => (by have := ps_fld (f := f) (pos := pos) (pos' := p') (h4 j) (h2 j) (hs j); rw [fm.hk j] at this; exact this), ds_fld h3 h5 hc hn⟩
end
def tLkA (P : Addr → Prop) (te : TE) : TE := fun σ H Q => te σ H fun x H1 => Q x H1 ∨ ∃ d kvs, x = .ref d ∧ Rd H1 d (.dK kvs) ∧
  ∀ od Hl, ((H1 d = some (.frz od (.dK kvs)) ∧ Hl = H1) ∨ (H1 d = some (.dK kvs) ∧ P d ∧ Hl = upd H1 d (.frz od (.dK kvs)))) → Q x Hl
def SqI (K : Kf) (R : It → Hp → Prop) (x : V) (H : Hp) : Prop := (∃ a xs, x = .ref a ∧ SqL K H a xs ∧ R (Itl K a) H) ∨ (∃ a xs, x = .ref a ∧ SqT K H a xs ∧ R (Itt K a) H) ∨ (∃ z, x = .str z ∧ R (Its z) H)
def iAny (K : Kf) (te : TE) : TI := fun σ H R => te σ H fun x H1 => SqI K R x H1 ∨ ∃ d o kvs, x = .ref d ∧ H1 d = some (.frz o (.dK kvs)) ∧ R (Itk d o kvs) H1
section
variable {X : Cx} {e tg : Expr} {te : TE}
theorem pe_lkA (h : PE X e te) : PE X e (tLkA (Pf X) te) := by
  refine ⟨fun pins s σ H Q I hw => ?_⟩
  refine thn (h.run pins s σ _ _ I hw) fun v s1 ⟨x, H1, I1, r, q⟩ => ?_
  rcases q with q | ⟨d, kvs, ex, rd, q⟩
  · exact ⟨x, H1, I1, r, q⟩
  · rcases rd with hd | ⟨od, hd⟩
    · obtain ⟨od, I2⟩ := I1.lock hd trivial
      exact ⟨x, _, I2, r, q od _ (.inr ⟨hd, I1.nofrz hd trivial, rfl⟩)⟩
    · exact ⟨x, H1, I1, r, q od H1 (.inl ⟨hd, rfl⟩)⟩
theorem pyIter_seq {pins : List (Addr × Obj)} {σ : L2.St} {H : Hp} {s : Shared} {R : It → Hp → Prop} {x : V} {v : Value} (I : Inv X pins σ H s) (r : RelV x v) (q : SqI X.K R x H) : wpAny (model X.prog X.w) X.A (pyIter v) (PIE X pins σ tg R) X.xe s := by
  rcases q with ⟨a, xs, ex, hq, q⟩ | ⟨a, xs, ex, hq, q⟩ | ⟨z, ex, q⟩
  · subst ex
    cases (show v = Value.ref a from r)
    obtain ⟨its, rv, p, hz⟩ := I.list hq
    exact wpAny_pyIter_list p.isList (pi_one (tk := s.toks) I _ (turn_list a _) ⟨_, Heap.get?_push_size _ rfl, rfl, rfl⟩ q)
  · subst ex
    cases (show v = Value.ref a from r)
    obtain ⟨its, rv, p, hz⟩ := I.tuple hq
    exact wpAny_pyIter_tuple (show s.heap.IsTuple a its.toArray from p) (pi_one (tk := s.toks) I _ (turn_tuple a _) ⟨_, Heap.get?_push_size _ rfl, rfl, rfl⟩ q)
  · subst ex
    obtain ⟨t, rfl⟩ := (show ∃ t, v = Value.str z t from r)
    cases ha : z.cps.all (· < 128)
    · exact wpAny_pyIter_wide ha (pi_one (tk := s.toks) I _ (turn_str _ z t "str_iterator" (.inr rfl)) ⟨_, Heap.get?_push_size _ rfl, rfl, rfl⟩ q)
    · exact wpAny_pyIter_ascii ha (pi_one (tk := s.toks) I _ (turn_str _ z t "str_ascii_iterator" (.inl rfl)) ⟨_, Heap.get?_push_size _ rfl, rfl, rfl⟩ q)
theorem pi_any (h : PE X e te) : PI X tg e (iAny X.K te) := by
  refine ⟨fun pins s σ H R I hw => thn (h.run pins s σ H _ I hw) fun v s1 ⟨x, H1, I1, r, q⟩ => ?_⟩
  rcases q with q | ⟨d, o, kvs, ex, hd, q⟩
  · exact pyIter_seq I1 r q
  · subst ex
    obtain rfl : v = Value.ref d := r
    obtain ⟨hs, hgd, hx, es, ep, vs, hdt, hsz, kv, hm⟩ := I1.frzK hd
    refine iter_keys hs hgd hx hdt (pi_one (tk := s1.toks) I1 _ (turn_keys _ hdt) ⟨_, Heap.get?_push_size _ rfl, rfl, ?_⟩ q)
    rw [hsz] <;> rfl
end
def viewV (v : Val) (e : Env) : Option T := match v with
  | .pl i p => match e[i]? with
    | some (.vw t) => T.get p t
    | _ => none
  | .tv _ => none
def srcV (v : Val) (e : Env) : Option (T × Env) := match viewV v e with
  | some t => some (t, e)
  | none => (frzV v e).map fun q => (.sh q.1, q.2)
def mSrc (f : T → Option (List D)) (m : ME) : MI := fun e => (m e).bnd fun v e1 => match srcV v e1 with
  | some (t, e2) => match f t with
    | some ds => .ok (ds, e2)
    | none => .st
  | none => .st
section
variable {K : Kf} {E : XS} {B F H : Hp} {env : Env} {σ : L2.St} {te : TE} {m : ME}
theorem Got.frz {v : Val} {x : V} {d : D} {env' : Env} (got : Got K B F H env σ [v] [x]) (e : frzV v env = some (d, env')) : ∃ F', Gr B F F' ∧ Kd env env' ∧ St K B F' H env' σ ∧ DR K F' d x := by
  cases v with
  | tv t =>
    cases e
    obtain ⟨F', g, st⟩ := got.tv.frzHd
    refine ⟨F', g, Kd.refl _, st.drop, ?_⟩
    obtain ⟨S, ⟨b, l', S1, S2, eb, eS, ⟨w, ew, _, r⟩, _⟩, _⟩ := st.fp
    cases eb; cases ew; exact r
  | pl i p =>
    obtain ⟨x', _, ex, pl, _⟩ := got.pl
    cases ex
    obtain ⟨F', g, kd, st⟩ := St.frzP (qs := []) (xs := []) rfl got.base pl e
    refine ⟨F', g, kd, st.drop, ?_⟩
    obtain ⟨S, ⟨b, l', S1, S2, eb, eS, ⟨w, ew, _, r⟩, _⟩, _⟩ := st.fp
    cases eb; cases ew; exact r
theorem Got.src {v : Val} {x : V} {t : T} {env' : Env} (got : Got K B F H env σ [v] [x]) (hv : Vw K B F env σ) (e : srcV v env = some (t, env')) : ∃ F', Gr B F F' ∧ Kd env env' ∧ St K B F' H env' σ ∧ VR K B F' t x := by
  unfold srcV at e
  cases e1 : viewV v env with
  | some u =>
    rw [e1] at e
    cases e
    cases v with
    | tv _ => cases e1
    | pl i p =>
      unfold viewV at e1
      simp only at e1
      split at e1
      · rename_i t' e2
        obtain ⟨x', _, ex, ⟨v0, ev, wk⟩, _⟩ := got.pl
        cases ex
        obtain ⟨w0, ew, vr⟩ := hv i t' e2
        rw [ev] at ew
        cases ew
        obtain ⟨y, wk', r⟩ := vr.path e1
        have := (wk'.monoV got.base.sb.v).det wk
        subst this
        exact ⟨F, Gr.refl _ _, Kd.refl _, got.base, r⟩
      · cases e1
  | none =>
    rw [e1] at e
    obtain ⟨⟨d, e2⟩, h1, h2⟩ := Option.map_eq_some_iff.mp e
    cases h2
    obtain ⟨F', g, kd, st, r⟩ := got.frz h1
    exact ⟨F', g, kd, st, r⟩
theorem ev_src {f : T → Option (List D)} {Q : VK} (he : EvT K E te m) (hs : St K B F H env σ) (hv : Vw K B F env σ)
    (hp : match mSrc f m env with
      | .ok (ds, env') => ∀ x t F' H', Gr B F F' → Kd env env' → St K B F' H' env' σ → VR K B F' t x → f t = some ds → Q x H'
      | .ex c env' => ∀ od F' H', Gr B F F' → Kd env env' → St K B F' H' env' σ → ExOk K F' H' c od → E σ (.ref c.C) od H'
      | .st => False) : te σ H Q := by
  refine he B F H σ env Q hs hv ?_
  unfold mSrc at hp
  cases e : m env with
  | st => rw [e] at hp; exact hp
  | ex c e1 => rw [e] at hp; exact hp
  | ok a =>
    obtain ⟨v, e1⟩ := a
    rw [e] at hp
    simp only [R.bnd] at hp
    intro x F' H' g kd got
    cases e2 : srcV v e1 with
    | none => rw [e2] at hp; exact hp.elim
    | some q =>
      obtain ⟨t, e3⟩ := q
      rw [e2] at hp
      simp only at hp
      cases e4 : f t with
      | none => rw [e4] at hp; exact hp.elim
      | some ds =>
        rw [e4] at hp
        simp only at hp
        obtain ⟨F2, g2, kd2, st, r⟩ := got.src (Got.kd (H' := H') hv g kd) e2
        exact hp x t F2 H' (g.trans g2) (kd.trans kd2) st r e4
def seqT : T → Option (List D)
  | .sh (.lst ds) => some ds
  | .sh (.tup ds) => some ds
  | .sh (.str z) => some (z.cps.toList.map fun c => .str ⟨#[c]⟩)
  | .lst ts => allSh ts
  | _ => none
theorem walk_l {a : Addr} {vs : List V} {ds : List D} (hq : ∀ F2 H2 env σ, Gr B F F2 → St K B F2 H2 env σ → SqL K H2 a vs) (r : DRs K F ds vs) : WalkD K B F (Itl K a) ds := by
  have r' := DRs_iff.mp r
  have hl := r'.length
  refine ⟨fun i F2 H2 env σ hi g st => ?_, fun F2 H2 env σ g st => ⟨vs, hq F2 H2 env σ g st, by omega⟩, fun i d F2 H2 env σ x H3 ed g st y => ?_⟩
  · obtain ⟨v, hv⟩ : ∃ v, vs[i]? = some v := ⟨_, List.getElem?_eq_getElem (by omega)⟩
    exact ⟨vs, v, hq F2 H2 env σ g st, hv⟩
  · obtain ⟨e1, e2⟩ := y
    subst e1
    obtain ⟨v, hv, rv⟩ := r'.get ed
    have := e2 vs (hq F2 H3 env σ g st)
    rw [hv] at this
    cases this
    exact ⟨F2, Gr.refl _ _, st.push (rv.mono g.sub)⟩
theorem walk_t {a : Addr} {vs : List V} {ds : List D} (hq : ∀ F2 H2 env σ, Gr B F F2 → St K B F2 H2 env σ → SqT K H2 a vs) (r : DRs K F ds vs) : WalkD K B F (Itt K a) ds := by
  have r' := DRs_iff.mp r
  have hl := r'.length
  refine ⟨fun i F2 H2 env σ hi g st => ?_, fun F2 H2 env σ g st => ⟨vs, hq F2 H2 env σ g st, by omega⟩, fun i d F2 H2 env σ x H3 ed g st y => ?_⟩
  · obtain ⟨v, hv⟩ : ∃ v, vs[i]? = some v := ⟨_, List.getElem?_eq_getElem (by omega)⟩
    exact ⟨vs, v, hq F2 H2 env σ g st, hv⟩
  · obtain ⟨e1, e2⟩ := y
    subst e1
    obtain ⟨v, hv, rv⟩ := r'.get ed
    have := e2 vs (hq F2 H3 env σ g st)
    rw [hv] at this
    cases this
    exact ⟨F2, Gr.refl _ _, st.push (rv.mono g.sub)⟩
theorem walk_s {z : Str} : WalkD K B F (Its z) (z.cps.toList.map fun c => .str ⟨#[c]⟩) := by
  refine ⟨fun i F2 H2 env σ hi g st => ?_, fun F2 H2 env σ g st => ?_, fun i d F2 H2 env σ x H3 ed g st y => ?_⟩
  · show i < z.cps.size
    simpa using hi
  · show z.cps.size ≤ _
    simp
  · obtain ⟨e1, c, e2, e3⟩ := y
    subst e1; subst e3
    rw [List.getElem?_map] at ed
    obtain ⟨c', h1, rfl⟩ := Option.map_eq_some_iff.mp ed
    rw [Array.getElem?_toList, e2] at h1
    cases h1
    exact ⟨F2, Gr.refl _ _, st.push rfl⟩
theorem seq_walk {t : T} {x : V} {ds : List D} {Rr : It → Hp → Prop} (st : St K B F H env σ) (vr : VR K B F t x) (e : seqT t = some ds) (q : ∀ J, WalkD K B F J ds → Rr J H) : SqI K Rr x H := by
  unfold seqT at e
  split at e
  · cases e
    obtain ⟨a, vs, rfl, hq, r⟩ := (show DR K F _ x from vr)
    exact .inl ⟨a, vs, rfl, .inl (.inl (st.sf.ls hq)), q _ (walk_l (fun F2 H2 env σ g st => .inl (.inl (st.sf.ls (g.same _ _ hq)))) r)⟩
  · cases e
    obtain ⟨a, vs, rfl, hq, r⟩ := (show DR K F _ x from vr)
    exact .inr (.inl ⟨a, vs, rfl, .inl (.inl (st.sf.tp hq)), q _ (walk_t (fun F2 H2 env σ g st => .inl (.inl (st.sf.tp (g.same _ _ hq)))) r)⟩)
  · cases e
    exact .inr (.inr ⟨_, vr, q _ walk_s⟩)
  · obtain ⟨a, vs, rfl, hq, r⟩ := vr
    exact .inl ⟨a, vs, rfl, .inl (.inl (st.sb.at hq)), q _ (walk_l (fun F2 H2 env σ g st => .inl (.inl (st.sb.at hq))) (allSh_dr e (VRs_iff.mp r)))⟩
  · cases e
end
section
variable {K : Kf} {E : XS} {B F H : Hp} {env : Env} {σ : L2.St} {te : TE} {m : ME}
def LkC (P : Addr → Prop) (H Hl : Hp) (d : Addr) (od : Obj) (kvs : List (Key × V)) : Prop := (H d = some (.frz od (.dK kvs)) ∧ Hl = H) ∨ (H d = some (.dK kvs) ∧ P d ∧ Hl = upd H d (.frz od (.dK kvs)))
theorem upd_id {G : Hp} {d : Addr} {o : HO} (h : G d = some o) : upd G d o = G := by
  funext b
  by_cases hb : b = d
  · rw [hb, upd_same, h]
  · rw [upd_ne hb]
theorem lock_dict {P : Addr → Prop} {Hl : Hp} {d : Addr} {od : Obj} {kvs : List (Key × V)} (st : St K B F H env σ) (hc : LkC P H Hl d od kvs) (hd : F d ≠ none ∨ B d ≠ none) :
    ∃ Bl, SubR B Bl ∧ (∀ a, Bl a = none → B a = none) ∧ Bl d = some (.frz od (.dK kvs)) ∧ St K Bl F Hl env σ ∧ ∀ (F2 H2 : Hp) (qs : List Slot) (os : List (Option V)), Gr Bl F F2 → St K Bl F2 H2 qs os → ∃ Hu, Unl P H2 Hu ∧ St K B F2 Hu qs os := by
  have own : ∀ {S : List Addr}, (∀ a ∈ S, B a = none ∧ F a = none) → d ∉ S := fun k z => by
    obtain ⟨h1, h2⟩ := k d z
    rcases hd with h | h
    · exact h h2
    · exact h h1
  have hld : Hl d = some (.frz od (.dK kvs)) := by
    rcases hc with ⟨h1, h2⟩ | ⟨h1, _, h2⟩
    · rw [h2, h1]
    · rw [h2, upd_same]
  have hoff : ∀ b, b ≠ d → Hl b = H b := fun b hb => by
    rcases hc with ⟨h1, h2⟩ | ⟨h1, _, h2⟩
    · rw [h2]
    · rw [h2, upd_ne hb]
  have hsub : SubR H Hl := ⟨fun a o e => by
    by_cases ha : a = d
    · subst ha
      rcases hc with ⟨h1, h2⟩ | ⟨h1, _, h2⟩
      · rw [h2]; exact .inl e
      · rw [h1] at e; cases e
        exact .inr ⟨od, kvs, rfl, hld⟩
    · rw [hoff a ha]; exact .inl e⟩
  refine ⟨upd B d (.frz od (.dK kvs)), ⟨fun a o e => ?_⟩, fun a e => ?_, upd_same, ?_, fun F2 H2 qs os g st2 => ?_⟩
  · by_cases ha : a = d
    · subst ha
      rw [upd_same]
      rcases hc with ⟨h1, h2⟩ | ⟨h1, _, h2⟩
      · cases st.sb.eq e h1; exact .inl rfl
      · cases st.sb.eq e h1; exact .inr ⟨od, kvs, rfl, rfl⟩
    · rw [upd_ne ha]; exact .inl e
  · by_cases ha : a = d
    · subst ha; rw [upd_same] at e; cases e
    · rw [upd_ne ha] at e; exact e
  · obtain ⟨S, f, nd, k⟩ := st.fp
    have ndS := own k
    have hm : ∀ a ∈ S, ∀ o, H a = some o → Hl a = some o := fun a ha o e => by rw [hoff a (fun z => ndS (z ▸ ha))]; exact e
    refine ⟨st.sb.upd2 hoff hld (fun _ z => nomatch z) (fun q z => by unfold LamX.CodeO at z; cases z) (fun q z => by unfold LamX.CodeO at z; rcases hc with ⟨h1, _⟩ | ⟨h1, _⟩ <;> rw [h1] at z <;> cases z) (fun q z => by rcases hc with ⟨h1, _⟩ | ⟨h1, _⟩ <;> rw [h1] at z <;> cases z), st.sf.trans hsub, S, f.imp fun c q Sc hS z => z.mono (SubR.refl _) fun a ha o e => hm a (hS a ha) o e, nd, fun a ha => ⟨?_, (k a ha).2⟩⟩
    · have : a ≠ d := fun z => ndS (z ▸ ha)
      rw [upd_ne this]; exact (k a ha).1
  · have h2d : H2 d = some (.frz od (.dK kvs)) := st2.sb.at upd_same
    obtain ⟨S, f, nd, k⟩ := st2.fp
    have kB : ∀ a ∈ S, a ≠ d ∧ B a = none := fun a ha => by
      have h1 := (k a ha).1
      by_cases z : a = d
      · subst z; rw [upd_same] at h1; cases h1
      · rw [upd_ne z] at h1; exact ⟨z, h1⟩
    cases eB : B d with
    | none =>
      refine ⟨H2, .inl rfl, .pre (fun b u e => ?_) st2.sb, st2.sf, S, f, nd, fun a ha => ⟨(kB a ha).2, (k a ha).2⟩⟩
      rw [upd_ne (fun z => by rw [z, eB] at e; cases e)]; exact e
    | some o0 =>
      rcases hc with ⟨h1, h2⟩ | ⟨h1, hP, h2⟩
      · cases st.sb.eq eB h1
        refine ⟨H2, .inl rfl, (by have := st2.sb; rw [upd_id eB] at this; exact this), st2.sf, S, f, nd, fun a ha => ⟨(kB a ha).2, (k a ha).2⟩⟩
      · cases st.sb.eq eB h1
        have e0 := h1
        have hm : ∀ a ∈ S, ∀ o, H2 a = some o → upd H2 d (.dK kvs) a = some o := fun a ha o e => by rw [upd_ne (kB a ha).1]; exact e
        refine ⟨upd H2 d (.dK kvs), .inr ⟨d, od, _, h2d, hP, rfl⟩, ?_, ⟨⟨fun a o e => ?_⟩, st2.sf.nt⟩, S, f.imp fun c q Sc hS z => z.mono (SubR.refl _) fun a ha o e => hm a (hS a ha) o e, nd, fun a ha => ⟨(kB a ha).2, (k a ha).2⟩⟩
        · have := st2.sb.upd2 (u := .dK kvs) (Hl := upd H2 d (.dK kvs)) (fun b hb => upd_ne hb) upd_same (fun _ z => nomatch z) (fun q z => by unfold LamX.CodeO at z; cases z) (fun q z => by unfold LamX.CodeO at z; rw [h2d] at z; cases z) (fun q z => by rw [h2d] at z; cases z)
          have eu : upd (upd B d (.frz od (.dK kvs))) d (.dK kvs) = B := by
            funext b
            by_cases hb : b = d
            · subst hb; rw [upd_same, eB]
            · rw [upd_ne hb, upd_ne hb]
          rw [eu] at this
          exact this
        · by_cases ha : a = d
          · subst ha
            rw [upd_same]
            cases eF : F a with
            | none =>
              have := g.new a eF (by rw [e]; exact fun z => nomatch z)
              rw [upd_same] at this; cases this
            | some o1 =>
              have e2 := g.same a o1 eF
              rw [e] at e2
              cases e2
              rcases st.sf.sub a o eF with z | ⟨_, _, _, z⟩
              · rw [e0] at z; cases z; exact .inl rfl
              · rw [e0] at z; cases z
          · rw [upd_ne ha]; exact st2.sf.sub a o e
theorem rd_at {t : T} {a : Addr} {kvs : List (Key × V)} (st : St K B F H env σ) (h : Rd F a (.dK kvs) ∨ Rd B a (.dK kvs)) : Rd H a (.dK kvs) ∧ (F a ≠ none ∨ B a ≠ none) := by
  rcases h with h | h
  · refine ⟨st.sf.rd _ _ h, .inl fun z => ?_⟩
    rcases h with h | ⟨_, h⟩ <;> rw [z] at h <;> cases h
  · refine ⟨st.sb.v.rd _ _ h, .inr fun z => ?_⟩
    rcases h with h | ⟨_, h⟩ <;> rw [z] at h <;> cases h
def anyT (t : T) : Option (List D) := match keysT t with
  | some ks => some (ks.map kD)
  | none => seqT t
theorem keys_at {t : T} {ks : List Key} {x : V} (st : St K B F H env σ) (e : keysT t = some ks) (h : VR K B F t x) : ∃ p vs, x = .ref p ∧ Rd H p (.dK vs) ∧ vs.map (·.1) = ks ∧ (F p ≠ none ∨ B p ≠ none) := by
  cases t with
  | sh d =>
    have h : DR K F d x := h
    cases d <;> cases e
    obtain ⟨a, vs, ex, q, r⟩ := h
    obtain ⟨h1, h2⟩ := rd_at (t := .sh .non) st (.inl q)
    exact ⟨a, vs, ex, h1, All2.keys (DRk_iff.mp r), h2⟩
  | lst _ => cases e
  | dct kts =>
    cases e
    obtain ⟨a, vs, ex, q, r⟩ := h
    obtain ⟨h1, h2⟩ := rd_at (t := .sh .non) st (.inr q)
    exact ⟨a, vs, ex, h1, All2.keys (VRk_iff.mp r), h2⟩
  | ins _ _ => cases e
theorem walk_k {d : Addr} {od : Obj} {kvs : List (Key × V)} (hb : B d = some (.frz od (.dK kvs))) : WalkD K B F (Itk d od kvs) ((kvs.map (·.1)).map kD) := by
  refine ⟨fun i F2 H2 env σ hi g st => ⟨st.sb.at hb, by simpa using hi⟩, fun F2 H2 env σ g st => ⟨st.sb.at hb, by simp⟩, fun i dd F2 H2 env σ x H3 ed g st y => ?_⟩
  obtain ⟨e1, k, v, e2, e3⟩ := y
  subst e1; subst e3
  rw [List.getElem?_map, List.getElem?_map, e2] at ed
  cases ed
  exact ⟨F2, Gr.refl _ _, st.push kD_ok⟩
theorem ev_any (he : EvT K E te m) : EvI K E (fun P => iAny K (tLkA P te)) (mSrc anyT m) := by
  intro P B F H σ env Rr hs hv hp
  show te σ H _
  refine ev_src (f := anyT) he hs hv ?_
  cases e : mSrc anyT m env with
  | st => rw [e] at hp; exact hp
  | ex c e1 => rw [e] at hp; exact hp
  | ok a =>
    obtain ⟨ds, e1⟩ := a
    rw [e] at hp
    intro x t F' H' g kd st vr ef
    unfold anyT at ef
    cases ek : keysT t with
    | none =>
      rw [ek] at ef
      exact .inl (.inl (seq_walk st vr ef fun J w => hp J F' H' B g kd st (SubR.refl _) (fun _ h => h) w fun F2 H2 qs os g2 st2 => ⟨H2, .inl rfl, st2⟩))
    | some ks =>
      rw [ek] at ef
      cases ef
      obtain ⟨p, vs, rfl, rd, hks, hd⟩ := keys_at st ek vr
      refine .inr ⟨p, vs, rfl, rd, fun od Hl hc => .inr ?_⟩
      obtain ⟨Bl, b1, b2, b3, b4, b5⟩ := lock_dict st hc hd
      refine ⟨p, od, vs, rfl, b4.sb.at b3, hp _ F' Hl Bl g kd b4 b1 b2 ?_ b5⟩
      rw [← hks]
      exact walk_k b3
def valsT (t : T) : Option (List D) := (kidsD t).map fun kds => kds.map (·.2)
theorem kids_at {t : T} {kds : List (Key × D)} {x : V} (st : St K B F H env σ) (e : kidsD t = some kds) (h : VR K B F t x) : ∃ p vs, x = .ref p ∧ Rd H p (.dK vs) ∧ DRk K F kds vs ∧ (F p ≠ none ∨ B p ≠ none) := by
  cases t with
  | sh d =>
    have h : DR K F d x := h
    cases d <;> cases e
    obtain ⟨a, vs, ex, q, r⟩ := h
    obtain ⟨h1, h2⟩ := rd_at (t := .sh .non) st (.inl q)
    exact ⟨a, vs, ex, h1, r, h2⟩
  | lst _ => cases e
  | dct kts =>
    obtain ⟨a, vs, ex, q, r⟩ := h
    obtain ⟨h1, h2⟩ := rd_at (t := .sh .non) st (.inr q)
    exact ⟨a, vs, ex, h1, allShK_dr e r, h2⟩
  | ins _ _ => cases e
theorem walk_v {d : Addr} {od : Obj} {kds : List (Key × D)} {kvs : List (Key × V)} (hb : B d = some (.frz od (.dK kvs))) (r : DRk K F kds kvs) : WalkD K B F (Itd d od kvs) (kds.map (·.2)) := by
  have r' := DRk_iff.mp r
  have hl := r'.length
  refine ⟨fun i F2 H2 env σ hi g st => ⟨st.sb.at hb, by simp at hi; omega⟩, fun F2 H2 env σ g st => ⟨st.sb.at hb, by simp; omega⟩, fun i dd F2 H2 env σ x H3 ed g st y => ?_⟩
  obtain ⟨e1, k, e2⟩ := y
  subst e1
  rw [List.getElem?_map] at ed
  obtain ⟨q, h1, rfl⟩ := Option.map_eq_some_iff.mp ed
  obtain ⟨b, h2, h3, h4⟩ := r'.get h1
  rw [e2] at h2
  cases h2
  exact ⟨F2, Gr.refl _ _, st.push (h4.mono g.sub)⟩
theorem ev_vals (he : EvT K E te m) : EvI K E (fun P => iVals (tLkD P te)) (mSrc valsT m) := by
  intro P B F H σ env Rr hs hv hp
  show te σ H _
  refine ev_src (f := valsT) he hs hv ?_
  cases e : mSrc valsT m env with
  | st => rw [e] at hp; exact hp
  | ex c e1 => rw [e] at hp; exact hp
  | ok a =>
    obtain ⟨ds, e1⟩ := a
    rw [e] at hp
    intro x t F' H' g kd st vr ef
    obtain ⟨kds, ek, rfl⟩ := Option.map_eq_some_iff.mp ef
    obtain ⟨p, vs, rfl, rd, rk, hd⟩ := kids_at st ek vr
    refine ⟨p, vs, rfl, rd, fun od Hl hc => ?_⟩
    obtain ⟨Bl, b1, b2, b3, b4, b5⟩ := lock_dict st hc hd
    exact ⟨p, od, vs, rfl, b4.sb.at b3, hp _ F' Hl Bl g kd b4 b1 b2 (walk_v b3 rk) b5⟩
def rngD (lo : Int) (n : Nat) : List D := (List.range n).map fun i => .int (lo + (i : Nat))
theorem walk_r {lo : Int} {n : Nat} : WalkD K B F (Itr lo n) (rngD lo n) := by
  refine ⟨fun i F2 H2 env σ hi g st => ?_, fun F2 H2 env σ g st => ?_, fun i dd F2 H2 env σ x H3 ed g st y => ?_⟩
  · show i < n
    simpa [rngD] using hi
  · show n ≤ _
    simp [rngD]
  · obtain ⟨e1, e2⟩ := y
    subst e1; subst e2
    have hi := (List.getElem?_eq_some_iff.mp ed).1
    simp [rngD] at hi
    rw [rngD, List.getElem?_map, List.getElem?_range hi] at ed
    cases ed
    exact ⟨F2, Gr.refl _ _, st.push rfl⟩
def r62 : Int → Bool
  | .ofNat n => Nat.ble n 4611686018427387903
  | .negSucc n => Nat.ble n 4611686018427387903
theorem r62_iff (j : Int) : r62 j = true ↔ -(2 ^ 62) ≤ j ∧ j < 2 ^ 62 := by
  cases j with
  | ofNat n => simp only [r62, Nat.ble_eq, Int.ofNat_eq_natCast]; omega
  | negSucc n => simp only [r62, Nat.ble_eq]; omega
def mR1 (ms : MA) : MI := fun e => (ms e).bnd fun vs e1 => match cns vs e1 with
  | some [.sh (.int j)] => if r62 j = true then .ok (rngD 0 j.toNat, e1) else .st
  | _ => .st
theorem ev_r1 {ta : TA} {ms : MA} (ha : EvA K E ta ms) : EvI0 K E (iRng1 ta) (mR1 ms) := by
  intro B F H σ env Rr hs hv hp
  refine ha B F H σ env _ hs hv ?_
  unfold mR1 at hp
  cases e : ms env with
  | st => rw [e] at hp; exact hp
  | ex c e1 => rw [e] at hp; exact hp
  | ok a =>
    obtain ⟨vs, e1⟩ := a
    rw [e] at hp
    simp only [R.bnd] at hp
    intro xs F' H' g kd got
    split at hp
    · rename_i j ec
      by_cases hr : r62 j = true
      case neg => rw [if_neg hr] at hp; exact hp.elim
      rw [if_pos hr] at hp
      have hz := (r62_iff j).mp hr
      obtain ⟨x, _, rfl, vx, rfl⟩ := got.vrs (Got.kd (H' := H') hv g kd) ec
      cases (show x = .int j from vx)
      exact ⟨j, rfl, hz.1, hz.2, hp _ F' H' g kd got.base walk_r⟩
    · exact hp.elim
end
section
variable {K : Kf} {E : XS} {B F H : Hp} {env : Env} {σ : L2.St} {te : TE} {m : ME}
abbrev MGs := List D → Env → R Env
def gsNil : MGs := fun ds e => match ds with
  | [] => .ok e
  | _ => .st
def gsCons (m : MG) (ms : MGs) : MGs := fun ds e => match ds with
  | d :: r => match m (.sh d) e with
    | .ok e1 => ms r e1
    | _ => .st
  | [] => .st
def gTm (ms : MGs) : MG := fun t e => match t with
  | .sh (.tup ds) => ms ds e
  | _ => .st
def pairD : D → Option (Key × D)
  | .tup [k, d] => (keyD k).map fun k => (k, d)
  | _ => none
def pairsD : List D → Option (List (Key × D))
  | [] => some []
  | d :: r => match pairD d, pairsD r with
    | some p, some ps => some (p :: ps)
    | _, _ => none
def mergeD (ps : List (Key × D)) : List (Key × D) := ps.foldl (fun acc p => pk acc p.1 p.2) []
theorem mergeD_ok : ∀ {ps : List (Key × D)} {more : List (Key × V)} {kds : List (Key × D)} {kvs : List (Key × V)}, DRk K F ps more → DRk K F kds kvs → (kds.map (·.1)).Nodup →
    DRk K F (ps.foldl (fun acc p => pk acc p.1 p.2) kds) (mergeK kvs more) ∧ ((ps.foldl (fun acc p => pk acc p.1 p.2) kds).map (·.1)).Nodup
  | [], _, kds, kvs, h, h2, nd => by cases (show _ = [] from h); exact ⟨h2, nd⟩
  | (k, d) :: r, _, kds, kvs, ⟨v, vs, ev, ⟨hk, hd⟩, h⟩, h2, nd => by
    subst ev
    have e1 : mergeK kvs (v :: vs) = mergeK (putK kvs k v.2) vs := by rw [← hk]; rfl
    have ek := All2.keys (DRk_iff.mp h2)
    have ep : putK kvs k v.2 = DL.pk kvs k v.2 := putK_pk (by rw [ek]; exact nd)
    have pk2 : DRk K F (DL.pk kds k d) (DL.pk kvs k v.2) := by
      obtain ⟨S', f, _⟩ := Fs.pk (K := K) (F := F) (H := F) (k := k) (t := .sh d) (S1 := []) ⟨rfl, hd⟩ (TRk_iff.mp (TRk.shs (G := F) h2))
      have e3 : DL.pk (kds.map fun p => (p.1, T.sh p.2)) k (.sh d) = (DL.pk kds k d).map fun p => (p.1, T.sh p.2) := by
        clear h2 nd ek f
        induction kds with
        | nil => rfl
        | cons p r ih =>
          by_cases c : p.1 = k
          · simp [DL.pk, c]
          · simp [DL.pk, c, ih]
      rw [e3] at f
      have back : ∀ {as : List (Key × D)} {bs : List (Key × V)} {S : List Addr}, Fs (TRp K F F) (as.map fun p => (p.1, T.sh p.2)) bs S → DRk K F as bs := by
        intro as
        induction as with
        | nil => intro bs S h; exact h.1
        | cons p r ih => obtain ⟨pk, pd⟩ := p; intro bs S ⟨b, l, S1, S2, eb, _, ⟨h1, _, h2⟩, h3⟩; exact ⟨b, l, eb, (show b.1 = pk ∧ DR K F pd b.2 from ⟨h1, h2⟩), ih h3⟩
      exact back f
    rw [e1, ep]
    exact mergeD_ok (ps := r) h pk2 (pk_nodup nd)
def oDictP : List T → Option T
  | [t] => (kidsL t).bind fun ds => (pairsD ds).map fun ps => .dct ((mergeD ps).map fun p => (p.1, T.sh p.2))
  | _ => none
theorem pairs_ok {Hx : Hp} (sf : SubR F Hx) : ∀ {ds : List D} {ps : List (Key × D)} {vs : List V}, pairsD ds = some ps → DRs K F ds vs → ∃ (as : List Addr) (kvs : List (Key × V)), vs = as.map V.ref ∧ Paired (fun p kv => SqT K Hx p [kV kv.1, kv.2]) as kvs ∧ DRk K F ps kvs
  | [], _, _, e, r => by cases e; cases (show _ = [] from r); exact ⟨[], [], rfl, .nil, rfl⟩
  | d :: ds, _, _, e, ⟨v, vs, ev, hd, r⟩ => by
    subst ev
    unfold pairsD at e
    split at e
    · rename_i p ps e1 e2
      cases e
      obtain ⟨as, kvs, e3, h1, h2⟩ := pairs_ok sf e2 r
      unfold pairD at e1
      split at e1
      · rename_i k dd
        obtain ⟨kk, ek, rfl⟩ := Option.map_eq_some_iff.mp e1
        obtain ⟨a, xs, rfl, hq, y, _, rfl, hy, z, _, rfl, hz, rfl⟩ := hd
        have := keyD_ok ek hy
        subst this
        exact ⟨a :: as, (kk, z) :: kvs, by rw [e3]; rfl, .cons (.inl (.inl (sf.tp hq))) h1, ⟨(kk, z), kvs, rfl, ⟨rfl, hz⟩, h2⟩⟩
      · cases e1
    · cases e
theorem on_dictP : OpN K (fun xs H Q => ∃ (a : Addr) (ps : List Addr) (kvs : List (Key × V)), xs = [.ref a] ∧ SqL K H a (ps.map V.ref) ∧ Paired (fun p kv => SqT K H p [kV kv.1, kv.2]) ps kvs ∧
    ∀ p, H p = none → Q (.ref p) (upd H p (.dK (mergeK [] kvs)))) oDictP := by
  intro B F H ss os us xs t' Q st vr e q
  match us, e with
  | [t], e =>
    obtain ⟨ds, e1, e2⟩ := Option.bind_eq_some_iff.mp e
    obtain ⟨ps, e3, rfl⟩ := Option.map_eq_some_iff.mp e2
    obtain ⟨x, _, rfl, h, rfl⟩ := vr
    obtain ⟨p, vs, rfl, hq, r⟩ := kidsL_ok st.sf e1 h
    obtain ⟨as, kvs, rfl, h1, h2⟩ := pairs_ok st.sf.toSubR e3 r
    obtain ⟨h3, h4⟩ := mergeD_ok (kds := []) (kvs := []) h2 rfl List.nodup_nil
    exact ⟨p, as, kvs, rfl, .inl (.inl hq), h1, fun p hp => q _ _ (Same.upd hp) (st.newD hp h3 h4)⟩
end
section
variable {P : Program} {w : World} {base : Heap} {K : Kf} {mg : Str → Option Value} {k : Nat} {ι : Type} {X : ι → Cx} {E : XS} {e a b c o tg it : Expr} {es : List Expr} {pos apos cpos p p' : Pos} {m n l : ME} {ms : MA} {x y : Str}
theorem cDictP (fm : Fm P w K mg base k X E) : Ca K X (.type "dict") (fun us => (oDictD us).or (oDictP us)) := cDict.or (Ca.of (fun j => (by have := call_dictP (X := X j) (fm.calm j); rw [fm.hk j] at this; exact this)) on_dictP)
theorem diAny (fm : Fm P w K mg base k X E) (h : DE K E X e m) : DI K E X tg e (mSrc anyT m) := let ⟨_, h1, h2⟩ := h; ⟨_, fun j => (by have := pi_any (tg := tg) (pe_lkA (h1 j)); rw [fm.hk j] at this; exact this), ev_any h2⟩
theorem DI0.i {mi : MI} (h : DI0 K E X tg it mi) : DI K E X tg it mi := let ⟨_, h1, h2⟩ := h; ⟨_, h1, h2.i⟩
theorem diVals (h : DE K E X e m) (hbase : ∀ j, attributeBase e "values" (X j).env (eval e (X j).env) = eval e (X j).env := by intro _; rfl) (hline : (apos.endLine == cpos.line) = true := by rfl) : DI K E X tg (.Call (.Attribute e "values" apos) [] [] cpos) (mSrc valsT m) :=
  let ⟨_, h1, h2⟩ := h; ⟨_, fun j => pi_values (pe_lkD (h1 j)) (hbase j) hline, ev_vals h2⟩
theorem diR1 (fm : Fm P w K mg base k X E) (h : DA K E X [a] ms) (hm : mg "range" = none) (hg : ∀ j, Gl (X j) "range" := by intro _; rfl) (hs : ∀ j, starEach [a] (X j).env = [(false, eval a (X j).env)] := by intro _; rfl) : DI0 K E X tg (.Call (.Name "range" p) [a] [] pos) (mR1 ms) :=
  let ⟨_, h1, h2⟩ := h; ⟨_, fun j => pi_range1 (hg j) (by rw [fm.hm j]; exact hm) (h1 j) (hs j), ev_r1 h2⟩
end
section
variable {K : Kf} {E : XS} {B F H : Hp} {env : Env} {σ : L2.St} {te : TE} {m : ME}
theorem St.ownAt {i : Nat} {s : Slot} {t u : T} {x : V} {p : List PEl} (h : St K B F H env σ) (e : env[i]? = some s) (c : s.own = some t) (g : T.get p t = some u) (w : PlOk H σ (.pl i p) x) : ∃ S, TR K F H u x S := by
  obtain ⟨S, f, _, _⟩ := h.fp
  obtain ⟨b, L, Sa, Rr, h1, h2, h3, _⟩ := Fs.at f e
  obtain ⟨v, rfl, tr⟩ := h3.own c
  obtain ⟨v0, ev, wk⟩ := w
  rw [h1] at ev
  cases ev
  obtain ⟨y, L2, Su, R2, _, wk2, tu, _⟩ := tr.path g
  cases wk.det wk2
  exact ⟨Su, tu⟩
def mItems (m : ME) : ME := fun e => (m e).bnd fun v e1 => match v with
  | .pl i p => match e1[i]? with
    | some s => match s.own with
      | some t => match T.get p t with
        | some (.dct kts) => match allShK kts with
          | some kds => .ok (.tv (.lst (kds.map fun q => .sh (.tup [kD q.1, q.2]))), e1)
          | none => .st
        | _ => .st
      | none => .st
    | none => .st
  | .tv _ => .st
theorem ev_listItems (he : EvT K E te m) : EvT K E (LiI.tListItems te) (mItems m) := by
  intro B F H σ env Q hs hv hp
  refine he B F H σ env _ hs hv ?_
  unfold mItems at hp
  cases e : m env with
  | st => rw [e] at hp; exact hp
  | ex c e1 => rw [e] at hp; exact hp
  | ok a =>
    obtain ⟨v, e1⟩ := a
    rw [e] at hp
    simp only [R.bnd] at hp
    intro x F' H' g kd got
    split at hp
    · rename_i i p
      split at hp
      · rename_i s e2
        split at hp
        · rename_i t e3
          split at hp
          · rename_i kts e4
            split at hp
            · rename_i kds e5
              obtain ⟨x', _, ex, pl, _⟩ := got.pl
              cases ex
              have st := got.base
              obtain ⟨S, a, kvs, S', rfl, hq, eS, r, nd⟩ := st.ownAt e2 e3 e4 pl
              have r' : DRk K F' kds kvs := allShK_dr e5 (TRk.vr r)
              refine ⟨a, kvs, rfl, hq, fun H2 q ts sm hn ht hqt hl pr => ?_⟩
              have fN : ∀ t ∈ ts, F' t = none := fun t h => st.sf.off (ht t h)
              let F2 : Hp := fun b => if b ∈ ts then H2 b else F' b
              have f2 : ∀ b, b ∉ ts → F2 b = F' b := fun b hb => if_neg hb
              have f2t : ∀ b, b ∈ ts → F2 b = H2 b := fun b hb => if_pos hb
              have sF : Same F' F2 := fun b u e => by rw [f2 b (fun z => by rw [fN b z] at e; cases e)]; exact e
              have bq : ∀ b, H' b = none → B b = none := fun b h => by
                exact st.sb.ne b h
              have gr : Gr B F' F2 := ⟨sF, fun b h1 h2 => by
                by_cases hb : b ∈ ts
                · exact bq b (ht b hb)
                · rw [f2 b hb] at h2; exact absurd h1 h2⟩
              have dr : DRs K F2 (kds.map fun q => D.tup [kD q.1, q.2]) (ts.map V.ref) := by
                have go : ∀ {kds : List (Key × D)} {kvs : List (Key × V)} {us : List Addr}, (∀ u ∈ us, u ∈ ts) → DRk K F' kds kvs → Paired (fun (t : Addr) (q : Key × V) => H2 t = some (.tup [kV q.1, q.2])) us kvs → DRs K F2 (kds.map fun q => D.tup [kD q.1, q.2]) (us.map V.ref) := by
                  intro kds
                  induction kds with
                  | nil => intro kvs us hu h pr; cases (show kvs = [] from h); cases pr; rfl
                  | cons kd kds ih =>
                    intro kvs us hu h pr
                    obtain ⟨k, d⟩ := kd
                    obtain ⟨v, vs, rfl, hkd, h⟩ := h
                    obtain ⟨hk, hd⟩ := (show v.1 = k ∧ DR K F' d v.2 from hkd)
                    cases pr with
                    | @cons u _ us _ p1 p2 =>
                    have p1 : H2 u = some (.tup [kV v.1, v.2]) := p1
                    exact ⟨_, _, rfl, ⟨u, _, rfl, by rw [f2t u (hu u List.mem_cons_self)]; exact p1, _, _, rfl, by rw [hk]; exact kD_ok, _, _, rfl, hd.mono (.of sF), rfl⟩, ih (fun u h => hu u (List.mem_cons_of_mem _ h)) h p2⟩
                exact go (fun _ h => h) r' pr
              refine hp (.ref q) F2 H2 (g.trans gr) kd (.of ?_)
              obtain ⟨S0, f, nd0, k0⟩ := st.fp
              have nq : q ∉ S0 := fun z => by
                obtain ⟨o, ho, _⟩ := f.has q z
                rw [hn] at ho; cases ho
              refine ⟨st.sb.trans (fun b o e => sm b o e), ⟨⟨fun b o e => ?_⟩, fun b ps e => by
    by_cases hb : b ∈ ts
    · rw [f2t b hb] at e; obtain ⟨_, _, _, _, e3⟩ := LiI.paired_ix pr hb; rw [e3] at e; cases e; exact True.intro
    · rw [f2 b hb] at e; exact st.sf.nt b ps e⟩, q :: S0, ⟨_, _, [q], S0, rfl, rfl, ⟨_, rfl, q, _, [], rfl, hl, rfl, ?_⟩, f.imp fun c d Sc hS z => z.mono (.of sF) fun a ha o e => sm a o e⟩, List.nodup_cons.mpr ⟨nq, nd0⟩, fun b hb => ?_⟩
              · by_cases hb : b ∈ ts
                · rw [f2t b hb] at e; exact .inl e
                · rw [f2 b hb] at e
                  rcases st.sf.sub b o e with z | ⟨od, kv, e1, z⟩
                  · exact .inl (sm b o z)
                  · exact .inr ⟨od, kv, e1, sm b _ z⟩
              · have := TRs.shs (G := H2) dr
                rw [List.map_map] at this
                exact this
              · rcases List.mem_cons.mp hb with z | z
                · subst z; exact ⟨bq b hn, by rw [f2 b hqt]; exact st.sf.off hn⟩
                · refine ⟨(k0 b z).1, ?_⟩
                  have : b ∉ ts := fun w => by
                    obtain ⟨o, ho, _⟩ := f.has b z
                    rw [ht b w] at ho; cases ho
                  rw [f2 b this]; exact (k0 b z).2
            · exact hp.elim
          · exact hp.elim
        · exact hp.elim
      · exact hp.elim
    · exact hp.elim
end
section
variable {P : Program} {w : World} {base : Heap} {K : Kf} {mg : Str → Option Value} {k : Nat} {ι : Type} {X : ι → Cx} {E : XS} {e : Expr} {pos apos cpos p : Pos} {m : ME}
theorem eItems (fm : Fm P w K mg base k X E) (h : DE K E X e m) (hm : mg "list" = none) (hg : ∀ j, Gl (X j) "list" := by intro _; rfl) (hv : bootBuiltins "list" = some (.type "list") := by rfl) (hbase : ∀ j, attributeBase e "items" (X j).env (eval e (X j).env) = eval e (X j).env := by intro _; rfl) (hline : (apos.endLine == cpos.line) = true := by rfl)
    (hs : ∀ j, starEach [.Call (.Attribute e "items" apos) [] [] cpos] (X j).env = (false, eval (.Call (.Attribute e "items" apos) [] [] cpos) (X j).env) :: starEach [] (X j).env := by intro _; rfl) :
    DE K E X (.Call (.Name "list" p) [.Call (.Attribute e "items" apos) [] [] cpos] [] pos) (mItems m) :=
  let ⟨_, h1, h2⟩ := h; ⟨_, fun j => LiI.pe_listItems (fm.calm j) (h1 j) (hg j) (by rw [fm.hm j]; exact hm) hv (hbase j) hline (hs j), ev_listItems h2⟩
end
def rStepI (K : Kf) (x : V) (o : Option Int) (H : Hp) (Q : VK) : Prop := ∃ a xs, x = .ref a ∧ SqL K H a xs ∧ ((o = some 1 ∧ ∀ p, H p = none → Q (.ref p) (upd H p (.lst xs))) ∨ (o = some (-1) ∧ ∀ p, H p = none → Q (.ref p) (upd H p (.lst xs.reverse))))
theorem pick_one (its : List Value) : slicePick its.toArray none none (some 1) = its.toArray := by
  have := slicePick_cut its none none
  have e : slicePick its.toArray none none (some 1) = slicePick its.toArray none none none := rfl
  rw [e, this]
  simp [HT.sIx]
theorem pe_step {X : Cx} {e b : Expr} {te tb : TE} {p3 pos : Pos} (he : PE X e te) (hb : PE X b tb) : PE X (.Subscript e (.Slice none none (some b) p3) pos) (fun σ H Q => te σ H fun x H1 => tb σ H1 fun y H2 => (∃ i, y = .int i) ∧ rStepI X.K x (intOf y) H2 Q) := by
  refine ⟨fun pins s σ H Q I h => ?_⟩
  refine Subscript_ (thn (he.run pins s σ H _ I h) fun v s1 ⟨x, H1, I1, r1, q1⟩ => ?_)
  refine wpAny_Slice (thn (po_none.run pins s1 σ H1 (fun o H2 => o = none ∧ H2 = H1) I1 ⟨rfl, rfl⟩) fun vl s2 ⟨l, H2, I2, pl, el, e2⟩ => ?_)
  subst el e2
  refine thn (po_none.run pins s2 σ H2 (fun o H3 => o = none ∧ H3 = H2) I2 ⟨rfl, rfl⟩) fun vu s3 ⟨u, H3, I3, pu, eu, e3⟩ => ?_
  subst eu e3
  refine thn ((po_int hb).run pins s3 σ H3 (fun o H4 => rStepI X.K x o H4 Q) I3 q1) fun vs s4 ⟨o, H4, I4, ps, a, xs, ex, hx, q⟩ => ?_
  subst ex
  cases r1
  have I5 : Inv X pins σ H4 { s4 with heap := s4.heap.push { cls := .type "slice", data := .fields #[vl, vu, vs] } } := I4.kept (t' := s4.toks) fun b ob q => Heap.get?_push_of_some _ q
  obtain ⟨its, r, ht, hz⟩ := I5.list hx
  have hlen := r.length
  show wpAny (model X.prog X.w) X.A (subscriptTail e (.Slice none none (some b) p3) (.ref a) (.ref s4.heap.objs.size)) (EP X pins σ Q) X.xe { s4 with heap := s4.heap.push { cls := .type "slice", data := .fields #[vl, vu, vs] } }
  refine tail_any (ops := [.ref a, .ref s4.heap.objs.size]) ht.isList.typeIs (PySem.slot_list_getitem.lookup) ?_ (by with_unfolding_all rfl)
  rcases q with ⟨eo, q⟩ | ⟨eo, q⟩
  · subst eo
    refine wpAny_getItem_list_slice ht.isList (Heap.IsSliceOf.new _ vl vu vs) pl pu ps (by decide) ?_ (by rw [List.size_toArray]; omega)
    rw [pick_one]
    exact ⟨.ref _, _, I5.laid (t' := s4.toks) (o := .lst xs) (fun b ob q => Heap.get?_push_of_some _ q) (Nat.le_refl _) ⟨hz, _, 0, r, Heap.get?_push_size _ rfl⟩, rfl, q _ (I5.hok.fresh (Nat.le_refl _))⟩
  · subst eo
    refine wpAny_getItem_list_slice ht.isList (Heap.IsSliceOf.new _ vl vu vs) pl pu ps (by decide) ?_ (by rw [List.size_toArray]; omega)
    rw [PySem.W.krv_pick]
    refine ⟨.ref _, _, I5.laid (t' := s4.toks) (o := .lst xs.reverse) (fun b ob q => Heap.get?_push_of_some _ q) (Nat.le_refl _) ?_, rfl, q _ (I5.hok.fresh (Nat.le_refl _))⟩
    exact ⟨by rw [List.length_reverse]; exact hz, _, 0, r.reverse, Heap.get?_push_size _ rfl⟩
def rStep (K : Kf) : List V → Hp → VK → Prop := fun xs H Q => match xs with
  | [x, y] => rStepI K x (intOf y) H Q
  | _ => False
def oStep : List T → Option T
  | [t, .sh (.int 1)] => (kidsL t).map fun ds => .lst (ds.map .sh)
  | [t, .sh (.int (-1))] => (kidsL t).map fun ds => .lst (ds.reverse.map .sh)
  | _ => none
theorem on_step {K : Kf} : OpN K (rStep K) oStep := by
  intro B F H ss os us xs t' Q st vr e q
  unfold oStep at e
  split at e
  · obtain ⟨ds, e1, rfl⟩ := Option.map_eq_some_iff.mp e
    obtain ⟨x, _, rfl, h, y, _, rfl, h', rfl⟩ := vr
    cases (show y = _ from h')
    obtain ⟨p, vs, rfl, hq, r⟩ := kidsL_ok st.sf e1 h
    exact ⟨p, vs, rfl, .inl (.inl hq), .inl ⟨rfl, fun p hp => q _ _ (Same.upd hp) (st.newL hp r)⟩⟩
  · obtain ⟨ds, e1, rfl⟩ := Option.map_eq_some_iff.mp e
    obtain ⟨x, _, rfl, h, y, _, rfl, h', rfl⟩ := vr
    cases (show y = _ from h')
    obtain ⟨p, vs, rfl, hq, r⟩ := kidsL_ok st.sf e1 h
    exact ⟨p, vs, rfl, .inl (.inl hq), .inr ⟨rfl, fun p hp => q _ _ (Same.upd hp) (st.newL hp (DRs_iff.mpr (DRs_iff.mp r).reverse))⟩⟩
  · cases e
section
variable {P : Program} {w : World} {base : Heap} {K : Kf} {mg : Str → Option Value} {k : Nat} {ι : Type} {X : ι → Cx} {E : XS} {a b : Expr} {pos p2 : Pos} {m n : ME}
theorem eStep (fm : Fm P w K mg base k X E) (ha : DE K E X a m) (hb : DE K E X b n) : DE K E X (.Subscript a (.Slice none none (some b) p2) pos) (mOp oStep (mCons m (mCons (mChk isIntT n) mNil))) := by
  obtain ⟨ta, h1, h2⟩ := ha
  obtain ⟨tb, h3, h4⟩ := hb
  exact ⟨fun σ H Q => (tCons ta (tCons (fun σ H Q => tb σ H fun x H1 => (∃ i, x = .int i) ∧ Q x H1) tNil)) σ H fun vs H1 => rStep K vs H1 Q,
    fun j => (by have := pe_step (pos := pos) (p3 := p2) (h1 j) (h3 j); rw [fm.hk j] at this; exact this),
    ev_op (ev_cons h2 (ev_cons (ev_chk (Pr := fun x _ => ∃ i, x = .int i) h4 fun t x F H c r _ => isIntT_ok c r) ev_nil)) on_step⟩
end
abbrev Ix (qual : Str) (st : Stmt) (f : Addr) (k : Nat) : Type := { q : Value × Around × List PySem.Env × Shared × Hp // Room k (q.2.1.deeper (envOfC qual (defScope st) q.2.2.2.1.heap.objs.size f q.1)) ∧ Gq k (q.2.1.deeper (envOfC qual (defScope st) q.2.2.2.1.heap.objs.size f q.1)) }
abbrev cxD (P : Program) (w : World) (K : Kf) (mg : Str → Option Value) (base : Heap) (N : List Str) (qual : Str) (st : Stmt) (f : Addr) (k : Nat) (E : XK) : Ix qual st f k → Cx :=
  fun q => cxOf (L2.CX P w) P w K mg base N qual (defScope st) f q.1.1 q.1.2.1 q.1.2.2.1 q.1.2.2.2.1 q.1.2.2.2.2 E
section
variable {P : Program} {w : World} {K : Kf} {mg : Str → Option Value} {base : Heap} {N ps : List Str} {x qual : Str} {st : Stmt} {f : Addr} {fd : FuncData} {k : Nat}
theorem fmD (S : FnScope N ps (defScope st)) (E : XK) : Fm P w K mg base k (cxD P w K mg base N qual st f k E) (fun _ => E) where
  hP := fun _ => rfl
  hw := fun _ => rfl
  hb := fun _ => rfl
  hk := fun _ => rfl
  hm := fun _ => rfl
  calm := fun _ => rfl
  gd := fun q => q.2.2
  room := fun q => q.2.1
  nd := fun _ => S.nd
  tk := fun q => takes_of rfl rfl rfl rfl
  po := fun q => passes_of rfl
theorem Df.of {mb : MS} (Fn : Fun K x qual st f fd) (kp : PySem.W.keepIn K (.ref f) = true) (B : Binds K fd ps []) (S : FnScope N ps (defScope st)) (hn : ps.length ≤ N.length)
    (body : ∀ E : XK, DSs K (fun _ => E) (cxD P w K mg base N qual st f k E) (defBody st) mb) : Df P w K mg base (k + 1) ps.length (bodyF N.length mb) f := by
  refine ⟨kp, fd, ps, Fun.okG Fn S (fun vs H Q E h => h.1) fun cdv A out s H vs Q E hr hg h => ?_, B⟩
  obtain ⟨t, h1, h2⟩ := body E
  exact ⟨t, h1 ⟨(cdv, A, out, s, H), hr, hg⟩, body_ok rfl h2 hn h⟩
end
def seenH (K : Kf) (a : Addr) (vs : List Value) (ns : List Int) : Hp := fun b => if b = a ∧ K.lookup a = none then some (.frz { cls := .type "list", data := .seq vs.toArray } (.lst (ns.map V.int))) else none
section
variable {P : Program} {w : World} {K : Kf} {mg mb : Str → Option Value} {a : Addr} {s : Shared} {vs : List Value} {ns : List Int}
theorem seen_some {b : Addr} {u : HO} (h : seenH K a vs ns b = some u) : b = a ∧ K.lookup a = none ∧ u = .frz { cls := .type "list", data := .seq vs.toArray } (.lst (ns.map V.int)) := by
  unfold seenH at h
  split at h
  · rename_i c
    cases h
    exact ⟨c.1, c.2, rfl⟩
  · cases h
theorem seen_sq (KX : K.In s.heap) (ha : s.heap.get? a = some { cls := .type "list", data := .seq vs.toArray }) (hi : IntsAre vs ns) (hl : ns.length ≤ sizeLine) : SqL K (seenH K a vs ns) a (ns.map V.int) := by
  cases hk : K.lookup a with
  | none => exact .inl (.inr ⟨_, by unfold seenH; rw [if_pos ⟨rfl, hk⟩]⟩)
  | some o =>
    have e := KX a o hk
    rw [ha] at e
    cases e
    exact .inr ⟨_, vs.toArray, _, hk, rfl, rfl, rfl, by rw [List.size_toArray, hi.length]; exact hl, by simpa using vals_ints hi⟩
end
theorem callerA_guards : callerA.guards = some [] := by first | rfl | decide
section
variable {K : Kf}
def truF : T → Option Bool
  | .sh .non => some false
  | .sh (.bl b) => some b
  | .sh (.int i) => some (i != 0)
  | .sh (.str y) => if y.length ≤ sizeLine then some ((y.length : Int) != 0) else none
  | .sh (.lst ds) => some (!ds.isEmpty)
  | .sh (.tup ds) => some (!ds.isEmpty)
  | .lst ts => some (!ts.isEmpty)
  | _ => none
theorem all2_empty {α β : Type} {R : α → β → Prop} {as : List α} {bs : List β} (h : All2 R as bs) : bs.isEmpty = as.isEmpty := by
  have := h.length
  cases as <;> cases bs <;> simp at this <;> rfl
theorem truN : TruN K truF := by
  intro H F u x b r sf e
  unfold truF at e
  split at e
  · cases e; cases (show x = _ from r); rfl
  · cases e; cases (show x = _ from r); rfl
  · cases e; cases (show x = _ from r); rfl
  · rename_i y
    by_cases hz : y.length ≤ sizeLine
    case neg => rw [if_neg hz] at e; cases e
    rw [if_pos hz] at e
    cases e; cases (show x = _ from r); exact ⟨hz, rfl⟩
  · cases e
    obtain ⟨a, vs, rfl, hq, r⟩ := (show DR K F _ x from r)
    exact .inl ⟨vs, .inl (.inl (sf.ls hq)), by rw [all2_empty (DRs_iff.mp r)]⟩
  · cases e
    obtain ⟨a, vs, rfl, hq, r⟩ := (show DR K F _ x from r)
    exact .inr (.inl ⟨vs, .inl (.inl (sf.tp hq)), by rw [all2_empty (DRs_iff.mp r)]⟩)
  · cases e
    obtain ⟨a, vs, rfl, hq, r⟩ := r
    exact .inl ⟨vs, .inl (.inl hq), by rw [all2_empty (VRs_iff.mp r)]⟩
  · cases e
end
section
variable {P : Program} {w : World} {base : Heap} {K : Kf} {mg : Str → Option Value} {k : Nat} {ι : Type} {X : ι → Cx} {E : XS} {e a b c o : Expr} {es : List Expr} {kws : List Keyword} {pos apos cpos p p' : Pos} {m n l : ME} {ms : MA} {x y : Str}
theorem Fm.z (fm : Fm P w K mg base k X E) : Fm P w K mg base k X NX := { fm with tk := fun _ => takesN }
theorem cRepr (fm : Fm P w K mg base k X E) (h40 : 40 ≤ k := by decide) : Ca K X (.builtin "repr") xRepr := Ca.of (fun j => (by have := call_reprK (X := X j) (fm.gd j h40) (fm.un j); rw [fm.hk j] at this; exact this)) od_repr.n
end
theorem kit_own {K : Kf} {C : Addr} {b : String} {r : Bool} (hm : PySem.W.kitMeta b = true) (h : PySem.W.mroIn K C (.type b) = some r) : PySem.W.kitOne K (.ref C) (.type b) = some r := by
  unfold PySem.W.kitOne PySem.W.kitCls
  rw [if_neg (by simp)]
  show (if PySem.W.kitMeta b = true then PySem.W.mroIn K C (.type b) else none) = some r
  rw [if_pos hm]
  exact h
def allO : List (Option Bool) → Option Bool
  | [] => some true
  | o :: r => match o, allO r with
    | some a, some b => some (a && b)
    | _, _ => none
def deq : Nat → D → D → Option Bool
  | 0, d, e => if flD d = true ∧ flD e = true then some (eqF d e) else none
  | n + 1, d, e => match d, e with
    | .lst ds, .lst es => if ds.length = es.length then allO ((ds.zip es).map fun p => deq n p.1 p.2) else some false
    | .tup ds, .tup es => (allO ((ds.zip es).map fun p => deq n p.1 p.2)).map fun b => b && ds.length == es.length
    | .dct ks, .dct ls => if (ks.map (·.1)).Nodup ∧ (ls.map (·.1)).Nodup then (allO (ks.map fun p => match lk ls p.1 with
        | none => some false
        | some v => deq n p.2 v)).map fun b => ks.length == ls.length && b else none
    | d, e => if flD d = true ∧ flD e = true then some (eqF d e) else none
theorem allO_cons {o : Option Bool} {r : List (Option Bool)} {b : Bool} (h : allO (o :: r) = some b) : ∃ a c, o = some a ∧ allO r = some c ∧ b = (a && c) := by
  unfold allO at h
  cases o with
  | none => simp at h
  | some a => cases hr : allO r with
    | none => rw [hr] at h; simp at h
    | some c => rw [hr] at h; cases h; exact ⟨a, c, rfl, rfl, rfl⟩
theorem allO_some {l : List (Option Bool)} {b : Bool} (h : allO l = some b) : ∀ o ∈ l, ∃ c, o = some c := by
  induction l generalizing b with
  | nil => intro o ho; cases ho
  | cons o r ih =>
    obtain ⟨a, c, rfl, hr, _⟩ := allO_cons h
    intro o' ho
    rcases List.mem_cons.mp ho with e | ho
    · exact ⟨a, e⟩
    · exact ih hr o' ho
theorem allO_eq {l : List (Option Bool)} {b : Bool} (h : allO l = some b) : b = l.all (fun o => o == some true) := by
  induction l generalizing b with
  | nil => cases h; rfl
  | cons o r ih =>
    obtain ⟨a, c, rfl, hr, rfl⟩ := allO_cons h
    rw [List.all_cons, ← ih hr]
    cases a <;> rfl
theorem range_all_list {α : Type} (l : List α) (f : Nat → Bool) (g : α → Bool) (h : ∀ i (hi : i < l.length), f i = g l[i]) : (List.range l.length).all f = l.all g := by
  rw [Bool.eq_iff_iff, List.all_eq_true, List.all_eq_true]
  constructor
  · intro k x hx
    obtain ⟨i, hi, e⟩ := List.getElem_of_mem hx
    have := k i (List.mem_range.mpr hi)
    rw [h i hi, e] at this
    exact this
  · intro k i hi
    have hi := List.mem_range.mp hi
    rw [h i hi]
    exact k _ (List.getElem_mem hi)
theorem DRs.get {K : Kf} {F : Hp} : ∀ {ds : List D} {vs : List V}, DRs K F ds vs → vs.length = ds.length ∧ ∀ (i : Nat) (d : D) (v : V), ds[i]? = some d → vs[i]? = some v → DR K F d v
  | [], vs, h => by cases (show vs = [] from h); exact ⟨rfl, fun i d v h => by simp at h⟩
  | d :: r, vs, ⟨v, vs', e, h1, h2⟩ => by
    subst e
    obtain ⟨hl, hg⟩ := DRs.get h2
    refine ⟨by simp [hl], fun i d' v' hd hv => ?_⟩
    cases i with
    | zero => simp at hd hv; subst hd; subst hv; exact h1
    | succ i => simp at hd hv; exact hg i d' v' hd hv
theorem DRk.keys {K : Kf} {F : Hp} : ∀ {ds : List (Key × D)} {vs : List (Key × V)}, DRk K F ds vs → vs.map (·.1) = ds.map (·.1)
  | [], vs, h => by cases (show vs = [] from h); rfl
  | (k, d) :: r, vs, ⟨v, vs', e, h1, h2⟩ => by
    subst e
    simp only [List.map_cons, DRk.keys h2, h1.1]
theorem DRk.lk {K : Kf} {F : Hp} {k : Key} : ∀ {ds : List (Key × D)} {vs : List (Key × V)}, DRk K F ds vs → match DL.lk ds k, DL.lk vs k with
    | some d, some v => DR K F d v
    | none, none => True
    | _, _ => False
  | [], vs, h => by cases (show vs = [] from h); trivial
  | (k', d) :: r, vs, ⟨v, vs', e, h1, h2⟩ => by
    subst e
    simp only [DL.lk, h1.1]
    by_cases hk : k' = k
    · simp only [hk, if_true]; exact h1.2
    · simp only [hk, if_false]; exact DRk.lk h2
theorem flD_noref {K : Kf} {F : Hp} {d : D} {x : V} (f : flD d = true) (h : DR K F d x) (a : Addr) : x ≠ .ref a := by
  cases d <;> simp [flD] at f <;> (cases (show x = _ from h); intro e; cases e)
theorem lk_at {κ α : Type} [DecidableEq κ] {l : List (κ × α)} {k : κ} {a : α} (nd : (l.map (·.1)).Nodup) (h : (k, a) ∈ l) : lk l k = some a := by
  induction l with
  | nil => cases h
  | cons p r ih =>
    simp only [List.map_cons, List.nodup_cons] at nd
    simp only [lk]
    rcases List.mem_cons.mp h with e | h
    · subst e; simp
    · rw [if_neg, ih nd.2 h]
      intro e; exact nd.1 (e ▸ List.mem_map_of_mem (f := (·.1)) h)
theorem deq_same {K : Kf} {F : Hp} : ∀ (n : Nat) (d e : D) (x : V) (b : Bool), DR K F d x → DR K F e x → deq n d e = some b → b = true
  | 0, d, e, x, b, hd, he, h => by
    unfold deq at h
    split at h
    · rename_i hf
      cases h
      have := eqF_ok hf.1 hf.2 hd he
      rw [← this]
      cases d <;> simp [flD] at hf <;> cases (show x = _ from hd) <;> simp [eqV]
    · cases h
  | n + 1, d, e, x, b, hd, he, h => by
    have flat : ∀ d e, DR K F d x → DR K F e x → flD d = true ∧ flD e = true → eqF d e = true := fun d e hd he hf => by
      have := eqF_ok hf.1 hf.2 hd he
      rw [← this]
      cases d <;> simp [flD] at hf <;> cases (show x = _ from hd) <;> simp [eqV]
    have items : ∀ {ds es : List D} {vs : List V}, DRs K F ds vs → DRs K F es vs → ∀ {c}, allO ((ds.zip es).map fun p => deq n p.1 p.2) = some c → c = true := fun {ds es vs} h1 h2 {c} hc => by
      rw [allO_eq hc, List.all_eq_true]
      intro o ho
      obtain ⟨⟨d', e'⟩, hm, rfl⟩ := List.mem_map.mp ho
      obtain ⟨c', hc'⟩ := allO_some hc _ ho
      obtain ⟨i, hi, e1⟩ := List.getElem_of_mem hm
      rw [List.getElem_zip] at e1
      have hi' := hi
      rw [List.length_zip] at hi'
      have e2 : ds[i]? = some d' := by rw [List.getElem?_eq_getElem (by omega)]; exact congrArg some (congrArg Prod.fst e1)
      have e3 : es[i]? = some e' := by rw [List.getElem?_eq_getElem (by omega)]; exact congrArg some (congrArg Prod.snd e1)
      have hvl : i < vs.length := by rw [h1.get.1]; omega
      have := deq_same n d' e' vs[i] c' (h1.get.2 i d' _ e2 (List.getElem?_eq_getElem hvl)) (h2.get.2 i e' _ e3 (List.getElem?_eq_getElem hvl)) hc'
      subst this
      simp only [hc']; rfl
    unfold deq at h
    split at h
    · obtain ⟨a, vs, e1, q1, r1⟩ := hd
      obtain ⟨a', vs', e2, q2, r2⟩ := he
      subst e1; cases e2
      cases q1.symm.trans q2
      rw [if_pos (r1.get.1.symm.trans r2.get.1)] at h
      exact items r1 r2 h
    · obtain ⟨a, vs, e1, q1, r1⟩ := hd
      obtain ⟨a', vs', e2, q2, r2⟩ := he
      subst e1; cases e2
      cases q1.symm.trans q2
      obtain ⟨c, hc, rfl⟩ := Option.map_eq_some_iff.mp h
      rw [items r1 r2 hc, r1.get.1.symm.trans r2.get.1]; simp
    · obtain ⟨a, vs, e1, q1, r1⟩ := hd
      obtain ⟨a', vs', e2, q2, r2⟩ := he
      subst e1; cases e2
      cases Rd.dK_inj q1 q2
      split at h
      · rename_i ks ls nd
        obtain ⟨c, hc, rfl⟩ := Option.map_eq_some_iff.mp h
        have hl : ks.length = ls.length := by
          have := congrArg List.length (r1.keys.symm.trans r2.keys); simpa using this
        rw [hl]
        simp only [BEq.rfl, Bool.true_and]
        rw [allO_eq hc, List.all_eq_true]
        intro o ho
        obtain ⟨⟨k, d'⟩, hm, rfl⟩ := List.mem_map.mp ho
        obtain ⟨c', hc'⟩ := allO_some hc _ ho
        have k1 : lk ks k = some d' := lk_at nd.1 hm
        have g1 := r1.lk (k := k)
        have g2 := r2.lk (k := k)
        rw [k1] at g1
        cases hv : lk vs k with
        | none => rw [hv] at g1; exact g1.elim
        | some v =>
          rw [hv] at g1 g2
          cases hls : lk ls k with
          | none => rw [hls] at g2; exact g2.elim
          | some e' =>
            rw [hls] at g2
            simp only [hls] at hc' ⊢
            have := deq_same n d' e' v c' g1 g2 hc'
            subst this
            simp only [hc']; rfl
      · cases h
    · rename_i d e n1 n2 n3
      split at h
      · rename_i hf; cases h; exact flat _ _ hd he hf
      · cases h
section
variable {X : Cx} {pins : List (Addr × Obj)} {σ : L2.St} {H : Hp} {s : Shared}
theorem vals_get : ∀ {vs : List V} {us : List Value}, Vals vs us → ∀ (i : Nat) (v : V) (u : Value), vs[i]? = some v → us[i]? = some u → RelV v u
  | _, _, .nil, i, v, u, h, _ => by simp at h
  | _, _, .cons a b, i, v, u, h, h' => by
    cases i with
    | zero => simp at h h'; subst h; subst h'; exact a
    | succ i => simp at h h'; exact vals_get b i v u h h'
theorem deq_run (I : Inv X pins σ H s) : ∀ (n : Nat) (d e : D) (x y : V) (v u : Value) (b : Bool), DR X.K H d x → DR X.K H e y → deq n d e = some b → RelV x v → RelV y u →
    (∀ A : Around, A.units + n < cLine → SeqAt.EqIn X.prog X.w A s v u b) ∧ ((∃ p q, x = .ref p ∧ y = .ref q) → ∀ A : Around, A.units + n < cLine → ∀ (E Q : Value → Shared → Prop), Q (.bool b) s → wpAny (model X.prog X.w) A (richCompare .Eq v u) Q E s)
  | 0, d, e, x, y, v, u, b, hd, he, h, rx, ry => by
    unfold deq at h
    split at h
    · rename_i hf
      cases h
      refine ⟨fun A _ => ?_, fun ⟨p, q, e1, _⟩ => absurd e1 (flD_noref hf.1 hd p)⟩
      rw [← eqF_ok hf.1 hf.2 hd he]
      have f1 : flatV x = true := by cases d <;> simp [flD] at hf <;> cases (show x = _ from hd) <;> rfl
      have f2 : flatV y = true := by cases e <;> simp [flD] at hf <;> cases (show y = _ from he) <;> rfl
      exact (eqAt_V rx ry f1 f2).inModel _ _
    · cases h
  | n + 1, d, e, x, y, v, u, b, hd, he, h, rx, ry => by
    have flat : flD d = true ∧ flD e = true → b = eqF d e → (∀ A : Around, A.units + (n + 1) < cLine → SeqAt.EqIn X.prog X.w A s v u b) ∧ ((∃ p q, x = .ref p ∧ y = .ref q) → ∀ A : Around, A.units + (n + 1) < cLine → ∀ (E Q : Value → Shared → Prop), Q (.bool b) s → wpAny (model X.prog X.w) A (richCompare .Eq v u) Q E s) := fun hf hb => by
      refine ⟨fun A _ => ?_, fun ⟨p, q, e1, _⟩ => absurd e1 (flD_noref hf.1 hd p)⟩
      rw [hb, ← eqF_ok hf.1 hf.2 hd he]
      have f1 : flatV x = true := by cases d <;> simp [flD] at hf <;> cases (show x = _ from hd) <;> rfl
      have f2 : flatV y = true := by cases e <;> simp [flD] at hf <;> cases (show y = _ from he) <;> rfl
      exact (eqAt_V rx ry f1 f2).inModel _ _
    have wrap : ∀ p q, x = .ref p → y = .ref q → (∀ A : Around, A.units + (n + 1) < cLine → ∀ (E Q : Value → Shared → Prop), Q (.bool b) s → wpAny (model X.prog X.w) A (richCompare .Eq v u) Q E s) →
        (∀ A : Around, A.units + (n + 1) < cLine → SeqAt.EqIn X.prog X.w A s v u b) ∧ ((∃ p q, x = .ref p ∧ y = .ref q) → ∀ A : Around, A.units + (n + 1) < cLine → ∀ (E Q : Value → Shared → Prop), Q (.bool b) s → wpAny (model X.prog X.w) A (richCompare .Eq v u) Q E s) := fun p q e1 e2 k => by
      refine ⟨fun A hu => ?_, fun _ => k⟩
      subst e1; subst e2
      cases (show v = Value.ref p from rx)
      cases (show u = Value.ref q from ry)
      by_cases hpq : p = q
      · subst hpq
        rw [deq_same (n + 1) d e (.ref p) b hd he h]
        exact (SeqAt.EqAt.same _).inModel _ _
      · exact SeqAt.EqIn.of_refs hpq (k A hu)
    have items : ∀ {ds es : List D} {vs ws : List V} {us us' : List Value}, DRs X.K H ds vs → DRs X.K H es ws → Vals vs us → Vals ws us' → ∀ {c}, allO ((ds.zip es).map fun p => deq n p.1 p.2) = some c → ∀ A : Around, A.units + n < cLine →
        ∀ j (h1 : j < us.toArray.size) (h2 : j < us'.toArray.size), ∃ (hj : j < (ds.zip es).length), SeqAt.EqIn X.prog X.w A s us.toArray[j] us'.toArray[j] (deq n (ds.zip es)[j].1 (ds.zip es)[j].2 == some true) := by
      intro ds es vs ws us us' h1 h2 r1 r2 c hc A hu j b1 b2
      simp only [List.size_toArray] at b1 b2
      have l1 := h1.get.1; have l2 := h2.get.1; have l3 := r1.length; have l4 := r2.length
      have hj : j < (ds.zip es).length := by rw [List.length_zip]; omega
      refine ⟨hj, ?_⟩
      obtain ⟨c', hc'⟩ := allO_some hc _ (List.mem_map_of_mem (f := fun p => deq n p.1 p.2) (List.getElem_mem hj))
      have hc'' : deq n (ds.zip es)[j].1 (ds.zip es)[j].2 = some c' := hc'
      rw [hc'']
      have e0 : (ds.zip es)[j] = (ds[j]'(by omega), es[j]'(by omega)) := List.getElem_zip
      rw [e0] at hc''
      have := (deq_run I n ds[j] es[j] vs[j] ws[j] us[j] us'[j] c' (h1.get.2 j _ _ (List.getElem?_eq_getElem (by omega)) (List.getElem?_eq_getElem (by omega))) (h2.get.2 j _ _ (List.getElem?_eq_getElem (by omega)) (List.getElem?_eq_getElem (by omega))) hc''
        (vals_get r1 j _ _ (List.getElem?_eq_getElem (by omega)) (List.getElem?_eq_getElem (by omega))) (vals_get r2 j _ _ (List.getElem?_eq_getElem (by omega)) (List.getElem?_eq_getElem (by omega)))).1 A hu
      have e3 : (some c' == some true) = c' := by cases c' <;> rfl
      rw [e3]
      simpa using this
    unfold deq at h
    split at h
    · rename_i ds es
      obtain ⟨p, vs, e1, q1, r1⟩ := id hd
      obtain ⟨q, ws, e2, q2, r2⟩ := id he
      subst e1; subst e2
      cases (show v = Value.ref p from rx)
      cases (show u = Value.ref q from ry)
      refine wrap p q rfl rfl fun A hu E Q hq => ?_
      obtain ⟨us, s1, p1, _⟩ := I.list (SqL.of q1)
      obtain ⟨us', s2, p2, _⟩ := I.list (SqL.of q2)
      have l1 := r1.get.1; have l2 := r2.get.1; have l3 := s1.length; have l4 := s2.length
      split at h
      · rename_i hl
        have hsz : us.toArray.size = us'.toArray.size := by simp only [List.size_toArray]; omega
        have it := items r1 r2 s1 s2 h A.in1 (by show A.units + 1 + n < cLine; omega)
        refine SeqAt.rcIn_lists (e := fun j => if hj : j < (ds.zip es).length then (deq n (ds.zip es)[j].1 (ds.zip es)[j].2 == some true) else true) p1.isList p2.isList hsz (by omega) (fun j b1 b2 => ?_) ?_
        · obtain ⟨hj, k⟩ := it j b1 b2
          simp only [hj, dif_pos]; exact k
        · have hz : us.toArray.size = (ds.zip es).length := by simp only [List.size_toArray, List.length_zip]; omega
          rw [hz, range_all_list (ds.zip es) _ (fun p => deq n p.1 p.2 == some true) (fun i hi => by simp only [hi, dif_pos])]
          rw [allO_eq h, List.all_map] at hq
          exact hq
      · rename_i hl
        cases h
        exact SeqAt.RcAt.lists_lengths p1.isList p2.isList (by simp only [List.size_toArray, bne_iff_ne]; omega) (by omega) X.prog X.w E Q hq
    · rename_i ds es
      obtain ⟨p, vs, e1, q1, r1⟩ := id hd
      obtain ⟨q, ws, e2, q2, r2⟩ := id he
      subst e1; subst e2
      cases (show v = Value.ref p from rx)
      cases (show u = Value.ref q from ry)
      refine wrap p q rfl rfl fun A hu E Q hq => ?_
      obtain ⟨us, s1, p1, _⟩ := I.tuple (.inl (.inl q1))
      obtain ⟨us', s2, p2, _⟩ := I.tuple (.inl (.inl q2))
      have l1 := r1.get.1; have l2 := r2.get.1; have l3 := s1.length; have l4 := s2.length
      obtain ⟨c, hc, rfl⟩ := Option.map_eq_some_iff.mp h
      have it := items r1 r2 s1 s2 hc A.in1 (by show A.units + 1 + n < cLine; omega)
      refine SeqAt.rcIn_tuples (e := fun j => if hj : j < (ds.zip es).length then (deq n (ds.zip es)[j].1 (ds.zip es)[j].2 == some true) else true) p1 p2 (by omega) (fun j b1 b2 => ?_) ?_
      · obtain ⟨hj, k⟩ := it j b1 b2
        simp only [hj, dif_pos]; exact k
      · have hz : min us.toArray.size us'.toArray.size = (ds.zip es).length := by simp only [List.size_toArray, List.length_zip]; omega
        have hl : (us.toArray.size == us'.toArray.size) = (ds.length == es.length) := by
          simp only [List.size_toArray]; rw [show us.length = ds.length by omega, show us'.length = es.length by omega]
        rw [hz, hl, range_all_list (ds.zip es) _ (fun p => deq n p.1 p.2 == some true) (fun i hi => by simp only [hi, dif_pos])]
        rw [allO_eq hc, List.all_map] at hq
        exact hq
    · rename_i ks ls
      split at h
      · rename_i nd
        obtain ⟨p, kvs, e1, q1, r1⟩ := id hd
        obtain ⟨q, lvs, e2, q2, r2⟩ := id he
        subst e1; subst e2
        cases (show v = Value.ref p from rx)
        cases (show u = Value.ref q from ry)
        refine wrap p q rfl rfl fun A hu E Q hq => ?_
        obtain ⟨_, ya, va, ra, da⟩ := q1.ok I.hok
        obtain ⟨_, yb, vb, rb, db⟩ := q2.ok I.hok
        obtain ⟨c, hc, rfl⟩ := Option.map_eq_some_iff.mp h
        have hits : ∀ (ks0 : List (Key × D)) (kvs0 : List (Key × V)) (va0 : List (Key × Value)) (c0 : Bool), DRk X.K H ks0 kvs0 → KV kvs0 va0 → allO (ks0.map fun p => match lk ls p.1 with | none => some false | some v => deq n p.2 v) = some c0 → PySem.W.KeqHitsIn X.prog X.w A.in1 s vb va0 c0 := by
          intro ks0
          induction ks0 with
          | nil =>
            intro kvs0 va0 c0 g1 g2 g3
            cases (show kvs0 = [] from g1)
            cases g2
            cases g3
            exact .nil
          | cons kd ks0 ih =>
            obtain ⟨k0, d0⟩ := kd
            rintro kvs0 va0 c0 ⟨v0, kvs1, rfl, g0, g1⟩ g3 g4
            obtain ⟨g0, gd⟩ := g0
            obtain ⟨a1, c1, x1, x2, rfl⟩ := allO_cons g4
            unfold KV at g3
            cases g3 with
            | @cons _ q1' _ va1 t1 t2 =>
            obtain ⟨key, v1⟩ := q1'
            obtain ⟨t3, t4⟩ := t1
            have t3 : v0.1 = key := t3
            rw [g0] at t3
            subst t3
            have rv := rb.val k0
            have gl := r2.lk (k := k0)
            rw [valV_lk] at rv
            simp only at x1
            cases hk : lk ls k0 with
            | none =>
              rw [hk] at x1 gl
              cases x1
              cases hv : lk lvs k0 with
              | some _ => rw [hv] at gl; exact gl.elim
              | none =>
                rw [hv] at rv
                refine .miss ?_
                cases hva : valueAt vb k0 with
                | none => rfl
                | some _ => rw [hva] at rv; exact rv.elim
            | some e0 =>
              rw [hk] at x1 gl
              cases hv : lk lvs k0 with
              | none => rw [hv] at gl; exact gl.elim
              | some w0 =>
                rw [hv] at rv gl
                obtain ⟨y1, hy, ry⟩ := rv.some_of
                refine .hit hy ?_ (ih kvs1 va1 c1 g1 t2 x2)
                exact (deq_run I n d0 e0 v0.2 w0 v1 y1 a1 gd gl x1 t4 ry).1 A.in1 (by show A.units + 1 + n < cLine; omega)
        refine PySem.W.keq_eqIn (knd := mixKind X.prog X.w) ya yb da db (by omega) (fun _ => hits ks kvs va c r1 ra hc) ?_
        have l1 : va.length = ks.length := by rw [← ra.length]; have := congrArg List.length r1.keys; simpa using this
        have l2 : vb.length = ls.length := by rw [← rb.length]; have := congrArg List.length r2.keys; simpa using this
        rw [l1, l2]
        exact hq
      · cases h
    · rename_i d e n1 n2 n3
      split at h
      · rename_i hf; cases h; exact flat hf rfl
      · cases h
end
def nodeK : D → D → Bool
  | .lst _, .lst _ => true | .tup _, .tup _ => true | .dct _, .dct _ => true
  | _, _ => false
def rEqDD (K : Kf) : R2 := fun x y H Q => ∃ d e b, DR K H d x ∧ DR K H e y ∧ nodeK d e = true ∧ deq 60 d e = some b ∧ Q (.bl b) H
def oEqDD : List D → Option D
  | [a, b] => if nodeK a b = true then (deq 60 a b).map .bl else none
  | _ => none
theorem nodeK_ref {K : Kf} {F : Hp} {d e : D} {x y : V} (f : nodeK d e = true) (h : DR K F d x) (k : DR K F e y) : ∃ p q, x = .ref p ∧ y = .ref q := by
  cases d <;> cases e <;> simp [nodeK] at f <;> (obtain ⟨a, _, e1, _⟩ := h; obtain ⟨b, _, e2, _⟩ := k; exact ⟨a, b, e1, e2⟩)
theorem op_eqDD {X : Cx} (hu : X.A.units + 64 < cLine) : OpR X (compareOp .Eq) (rEqDD X.K) := by
  intro pins s σ H x y v u Q I rx ry h
  obtain ⟨d, e, b, hd, he, hn, hq, q⟩ := h
  exact (deq_run I 60 d e x y v u b hd he hq rx ry).2 (nodeK_ref hn hd he) X.A (by omega) _ _ ⟨.bl b, H, I, rfl, q⟩
theorem od_eqDD {K : Kf} : OpD K (r2 (rEqDD K)) oEqDD := by
  intro H us xs d Q vr e q
  unfold oEqDD at e
  split at e
  · obtain ⟨x, _, rfl, hx, y, _, rfl, hy, rfl⟩ := vr
    split at e
    · rename_i hn
      obtain ⟨c, h1, rfl⟩ := Option.map_eq_some_iff.mp e
      exact ⟨_, _, c, hx, hy, hn, h1, q _ rfl⟩
    · cases e
  · cases e
def yEq (us : List T) : Option T := (xEq us).or (liftD oEqDD us)
theorem bEq2 {P : Program} {w : World} {base : Heap} {K : Kf} {mg : Str → Option Value} {k : Nat} {ι : Type} {X : ι → Cx} {E : XS} (fm : Fm P w K mg base k X E) : Bi K X (compareOp .Eq) yEq :=
  (bEq fm).or (Bi.of (fun j => (by have := op_eqDD (X := X j) (fm.un j); rw [fm.hk j] at this; exact this)) od_eqDD.n)
def mTupOf (m : ME) : ME := fun e => (m e).bnd fun v e1 => match (cn v e1).bind kids with
  | some ds => .ok (.tv (.sh (.tup ds)), e1)
  | none => .st
theorem ev_tupOf {K : Kf} {E : XS} {te : TE} {m : ME} (ha : EvT K E te m) : EvT K E (tThen te (kTup K)) (mTupOf m) := by
  intro B F H σ env Q hs hv hp
  refine ha B F H σ env _ hs hv ?_
  unfold mTupOf at hp
  cases e : m env with
  | st => rw [e] at hp; exact hp
  | ex c e1 => rw [e] at hp; exact hp
  | ok a =>
    obtain ⟨v, e1⟩ := a
    rw [e] at hp
    simp only [R.bnd] at hp
    intro x F' H' g kd got
    cases ck : (cn v e1).bind kids with
    | none => rw [ck] at hp; exact hp.elim
    | some ds =>
      rw [ck] at hp
      simp only at hp
      obtain ⟨t, hc, hk⟩ := Option.bind_eq_some_iff.mp ck
      have vr := got.vrs (Got.kd (H' := H') hv g kd) (ts := [t]) (by simp only [cns, hc, Option.bind_some, Option.map_some])
      obtain ⟨x', _, ex, h, en⟩ := vr
      cases ex
      have tupc : ∀ ds, t = .sh (.tup ds) → kTup K x H' Q ∨ kids t ≠ some ds ∨ True := fun _ _ => .inr (.inr trivial)
      cases t with
      | sh d =>
        cases d with
        | tup es =>
          cases hk
          obtain ⟨p, vs, rfl, q, r⟩ := (show DR K F' _ x from h)
          exact .inr ⟨p, vs, rfl, .inl (.inl (got.st.sf.tp q)), hp (.ref p) F' H' g kd (.of (got.base.push h))⟩
        | lst es =>
          cases hk
          obtain ⟨p, vs, rfl, q, r⟩ := (show DR K F' _ x from h)
          refine .inl ⟨p, vs, rfl, SqL.of (got.st.sf.ls q), fun l hl => ?_⟩
          obtain ⟨F2, g2, st⟩ := got.base.newSh (o := .tup vs) (d := .tup ds) hl fun F2 sF e2 => ⟨l, vs, rfl, e2, DRs.mono (.of sF) r⟩
          exact hp (.ref l) F2 _ (g.trans g2) kd (.of st)
        | _ => cases hk
      | lst ts =>
        obtain ⟨p, vs, rfl, q, r⟩ := kidsL_ok got.st.sf (show kidsL (.lst ts) = some ds from hk) h
        refine .inl ⟨p, vs, rfl, SqL.of q, fun l hl => ?_⟩
        obtain ⟨F2, g2, st⟩ := got.base.newSh (o := .tup vs) (d := .tup ds) hl fun F2 sF e2 => ⟨l, vs, rfl, e2, DRs.mono (.of sF) r⟩
        exact hp (.ref l) F2 _ (g.trans g2) kd (.of st)
      | dct _ => cases hk
      | ins _ _ => cases hk
section
variable {P : Program} {w : World} {base : Heap} {K : Kf} {mg : Str → Option Value} {k : Nat} {ι : Type} {X : ι → Cx} {E : XS} {e a b c o : Expr} {es : List Expr} {pos apos p p' : Pos} {m n l : ME} {ms : MA} {x y : Str}
theorem eTupOf (fm : Fm P w K mg base k X E) (ha : DE K E X a m) (hm : mg "tuple" = none) (hg : ∀ j, Gl (X j) "tuple" := by intro _; rfl) (na : ∀ j, starEach [a] (X j).env = (false, eval a (X j).env) :: starEach [] (X j).env := by intro _; rfl) :
    DE K E X (.Call (.Name "tuple" p) [a] [] pos) (mTupOf m) := by
  obtain ⟨t, h1, h2⟩ := ha
  refine ⟨_, fun j => ?_, ev_tupOf h2⟩
  have := pe_tupleOf (p := p) (pos := pos) (hg j) (by rw [fm.hm j]; exact hm) (h1 j) (na j)
  rw [fm.hk j] at this
  exact this
end
section
variable {P : Program} {w : World} {base : Heap} {K : Kf} {mg : Str → Option Value} {k : Nat} {ι : Type} {X : ι → Cx} {E : XS} {e a b c o : Expr} {es : List Expr} {pos apos p p' tpos : Pos} {m n l : ME} {ms : MA} {x y : Str}
def oIsNotB : List D → Option D
  | [.bl a, .bl b] => some (.bl (!decide (a = b)))
  | _ => none
end
def isM : Slot → Bool
  | .mu _ => true
  | _ => false
def setAll : List Nat → List T → Env → Option Env
  | [], [], e => some e
  | i :: is, t :: ts, e => match e[i]? with
    | some s => if isM s = true then none else setAll is ts (e.set i (.va t))
    | none => none
  | _, _, _ => none
def mAsgT (is : List Nat) (ms : MA) : MS := fun e => match ms e with
  | .ok (vs, e1) => match tvs vs with
    | some ts => if ts.length ≤ sizeLine ∧ ts.length = is.length then match setAll is ts e1 with
        | some e2 => .ok (.nx e2)
        | none => .st
      else .st
    | none => .st
  | .ex c e1 => .ex c e1
  | .st => .st
def mStar (i j : Nat) (m : ME) : MS := fun e => match m e with
  | .ok (v, e1) => match cn v e1 with
    | some (.sh (.tup (d :: ds))) => match setAll [i, j] [.sh d, .lst (ds.map .sh)] e1 with
      | some e2 => .ok (.nx e2)
      | none => .st
    | _ => .st
  | .ex c e1 => .ex c e1
  | .st => .st
theorem kit_self {K : Kf} (t : Value) : PySem.W.kitOne K t t = some true := by unfold PySem.W.kitOne; rw [if_pos (by simp)]
section
variable {K : Kf} {ι : Type} {X : ι → Cx}
def yIsNot (us : List T) : Option T := (xIsNot us).or (liftD oIsNotB us)
end
end DL
namespace DL
variable [Lf]
open PySem PySem.Spec PyProof.Rows L2 RZ
def zipD (a b : List D) : List D := List.zipWith (fun x y => .tup [x, y]) a b
def mZipS (ms : MA) : MI := fun e => (ms e).bnd fun vs e1 => match cns vs e1 with
  | some [.sh (.tup a), .sh (.tup b)] => if a.length = b.length then .ok (zipD a b, e1) else .st
  | _ => .st
end DL
namespace DL
variable [Lf]
open PySem PySem.Spec PyProof.Rows L2
def oReprF : List D → Option D
  | [.bl b] => some (.str (if b then "True" else "False"))
  | [.non] => some (.str "None")
  | [.int i] => if i.natAbs.log2 < 1920 then some (.str (toString i)) else none
  | [.str y] => if (reprText y).length ≤ sizeLine then some (.str (reprText y)) else none
  | _ => none
def rReprF : List V → Hp → VK → Prop := fun xs H Q => (∃ b, xs = [.bl b] ∧ Q (.str (if b then "True" else "False")) H) ∨ (xs = [.non] ∧ Q (.str "None") H) ∨ (∃ i, xs = [.int i] ∧ i.natAbs.log2 < 1920 ∧ Q (.str (toString i)) H) ∨ (∃ y, xs = [.str y] ∧ (reprText y).length ≤ sizeLine ∧ Q (.str (reprText y)) H)
theorem call_reprF {X : Cx} : CallR X (.builtin "repr") rReprF := by
  intro pins s σ H xs us Q I r h
  rcases h with ⟨b, ex, q⟩ | ⟨ex, q⟩ | ⟨i, ex, hz, q⟩ | ⟨y, ex, hz, q⟩
  · subst ex
    obtain ⟨u, eu, rx⟩ := vals1 r
    subst eu
    cases rx
    exact P.repr_of_bool ⟨.str _, H, I.kept (h' := s.heap) fun _ _ e => e, ⟨_, rfl⟩, q⟩
  · subst ex
    obtain ⟨u, eu, rx⟩ := vals1 r
    subst eu
    cases rx
    exact P.repr_of_none ⟨.str _, H, I.kept (h' := s.heap) fun _ _ e => e, ⟨_, rfl⟩, q⟩
  · subst ex
    obtain ⟨u, eu, rx⟩ := vals1 r
    subst eu
    obtain ⟨t, rfl⟩ := rx
    exact P.repr_of_int hz ⟨.str _, H, I.kept (h' := s.heap) fun _ _ e => e, ⟨_, rfl⟩, q⟩
  · subst ex
    obtain ⟨u, eu, rx⟩ := vals1 r
    subst eu
    obtain ⟨t, rfl⟩ := rx
    exact P.repr_of_str ⟨.str _, H, I.kept (h' := s.heap) fun _ _ e => e, ⟨_, rfl⟩, q⟩ (hsz := hz)
theorem od_reprF {K : Kf} : OpD K rReprF oReprF := by
  intro H us xs d Q vr e q
  match us, e, vr with
  | [.bl b], e, vr => cases e; obtain ⟨x, _, rfl, h, rfl⟩ := vr; cases h; exact .inl ⟨b, rfl, q _ rfl⟩
  | [.non], e, vr => cases e; obtain ⟨x, _, rfl, h, rfl⟩ := vr; cases h; exact .inr (.inl ⟨rfl, q _ rfl⟩)
  | [.int i], e, vr =>
    obtain ⟨x, _, rfl, h, rfl⟩ := vr
    cases h
    by_cases hz : i.natAbs.log2 < 1920
    · simp only [oReprF, if_pos hz] at e; cases e
      exact .inr (.inr (.inl ⟨i, rfl, hz, q _ rfl⟩))
    · simp only [oReprF, if_neg hz] at e; cases e
  | [.str y], e, vr =>
    obtain ⟨x, _, rfl, h, rfl⟩ := vr
    cases h
    by_cases hz : (reprText y).length ≤ sizeLine
    · simp only [oReprF, if_pos hz] at e; cases e
      exact .inr (.inr (.inr ⟨y, rfl, hz, q _ rfl⟩))
    · simp only [oReprF, if_neg hz] at e; cases e
def yRepr (us : List T) : Option T := (xRepr us).or (liftD oReprF us)
section
variable {P : Program} {w : World} {base : Heap} {K : Kf} {mg : Str → Option Value} {k : Nat} {ι : Type} {X : ι → Cx} {E : XS}
theorem cRepr2 (fm : Fm P w K mg base k X E) (h40 : 40 ≤ k := by decide) : Ca K X (.builtin "repr") yRepr := (cRepr fm h40).or (Ca.of (fun _ => call_reprF) od_reprF.n)
end
theorem yRepr_x {us : List T} {r : T} (h : xRepr us = some r) : yRepr us = some r := by simp [yRepr, h]
@[simp] theorem yRepr_non : yRepr [.sh .non] = some (.sh (.str "None")) := rfl
@[simp] theorem yRepr_bl (b : Bool) : yRepr [.sh (.bl b)] = some (.sh (.str (if b then "True" else "False"))) := rfl
end DL
namespace DL
variable [Lf]
open PySem PySem.Spec PyProof.Rows L2 SrtO
def ltSv (v u : Value) : Bool := decide ((strOf v).cps.toList < (strOf u).cps.toList)
theorem swo_str : Swo ltSv := by
  refine ⟨fun x y h => ?_, fun x y z h1 h2 => ?_⟩
  · have a := of_decide_eq_true (p := (strOf x).cps.toList < (strOf y).cps.toList) h
    exact decide_eq_false (p := (strOf y).cps.toList < (strOf x).cps.toList) (fun b => List.lt_irrefl _ (List.lt_trans a b))
  · have a := of_decide_eq_false (p := (strOf y).cps.toList < (strOf x).cps.toList) h1
    have b := of_decide_eq_false (p := (strOf z).cps.toList < (strOf y).cps.toList) h2
    exact decide_eq_false (p := (strOf z).cps.toList < (strOf x).cps.toList) (fun c => List.not_lt.mpr (List.le_trans (List.not_lt.mp a) (List.not_lt.mp b)) c)
section
variable {prog : Program} {w : World} {A : Around} {E : Value → Shared → Prop} {s : Shared}
theorem str_cmp {vs : List Value} {ss : List Str} (hI : StrsAre vs ss) : Cmp prog w A s oneType' (fun p => p.1 ∈ vs) (lt2 ltSv) := by
  intro p q hm hm'
  obtain ⟨a, t, e⟩ := hI.all _ hm
  obtain ⟨b, u, e'⟩ := hI.all _ hm'
  show wpAny (model prog w) A (keyLt' oneType' p.1 q.1) (fun r s' => s' = s ∧ r = ltSv p.1 q.1) (fun _ _ => False) s
  rw [e, e', keyLt'_oneType]
  exact oneLt_str ⟨rfl, rfl⟩
theorem strs_sortable {a : Addr} {vs : List Value} {ss : List Str} (hI : StrsAre vs ss) (h2 : 2 ≤ vs.length) : SortableO prog w A s a vs ltSv := by
  intro h' _
  refine ⟨oneType', fun Q E hq => ?_, str_cmp hI⟩
  match vs, hI, h2 with
  | v1 :: v2 :: rest, hI, _ => rw [keyKind_strs hI]; exact wpAny_pure hq
  | [], _, h => exact absurd h (by decide)
  | [v], _, h => exact absurd h (by simp)
theorem strs_out {vs out : List Value} {ss : List Str} (hI : StrsAre vs ss) (hs : Srtd ltSv out) (hb : Stb ltSv out vs) : StrsAre out (srt ss) := by
  have h1 : StrsAre out (out.map strOf) := strsAre_map out fun v hv => hI.all v (hb.perm.mem_iff.mp hv)
  have h2 : (out.map strOf).Perm ss := by have q := hb.perm.map strOf; rw [hI.strs] at q; exact q
  have h3 : (out.map strOf).Pairwise fun a b => sle a b = true := List.pairwise_map.mpr (hs.imp fun {x y} h => by
    have h : decide ((strOf y).cps.toList < (strOf x).cps.toList) = false := h
    exact sle_iff.mpr (List.not_lt.mp (of_decide_eq_false h)))
  have : out.map strOf = srt ss := List.Perm.eq_of_pairwise (fun _ _ _ _ h k => sle_anti h k) h3 (List.pairwise_mergeSort sle_trans sle_total _) (h2.trans (List.mergeSort_perm _ _).symm)
  rw [← this]; exact h1
end
def rSortedQ (K : Kf) : List V → Hp → VK → Prop := fun vs H Q => ∃ (a : Addr) (ss : List Str), vs = [V.ref a] ∧ (SqL K H a (ss.map V.str) ∨ SqT K H a (ss.map V.str)) ∧ ∀ p, H p = none → Q (.ref p) (upd H p (.lst ((srt ss).map V.str)))
theorem cr_sortedQ {X : Cx} : CallR X (.builtin "sorted") (rSortedQ X.K) := by
  intro pins s σ H vs us Q I r h
  obtain ⟨a, ss, rfl, hs, q⟩ := h
  rw [Vals.ref1 r]
  have key : ∀ (T : String) (its : List Value) (o : Obj) (n : Nat), (T = "list" ∨ T = "tuple") → s.heap.get? a = some o → o.cls = .type T → o.data = .seq its.toArray n → Vals (ss.map V.str) its → (ss.map V.str).length ≤ sizeLine →
      wpAny (model X.prog X.w) X.A (call (.builtin "sorted") [.ref a]) (EP X pins σ Q) X.xe s := by
    intro T its o n hT ho hc hd rv hz
    have hlen := rv.length
    refine Calls.call_function_entry kind_sorted plain_sorted entry_sorted (args_sorted1 _) ?_
    unfold Builtin.«sorted»
    refine wpAny_bind (m := checkCount "sorted" 1 1 _) (wpAny_pure ?_)
    refine wpAny_bind (wpAny_collect_seq a hT ho hc hd (fun h1 k1 => ?_) (by rw [List.size_toArray]; omega))
    have J : Inv X pins σ H { s with heap := h1 } := I.kept k1
    have et : its.toArray.toList = its := by simp
    rw [et]
    refine wpAny_bind (wpAny_newList ?_ (by omega))
    have hoL : (h1.push (seqObj "list" its.toArray 0)).get? h1.objs.size = some (seqObj "list" its.toArray 0) := Heap.get?_push_size _ rfl
    refine wpAny_bind (wpAny_holding (wpAny_call_entry slot_list_sort ⟨_, hoL, rfl⟩ entry_list_sort (list_sort_ord swo_str hoL (by omega) (fun h2 => strs_sortable rv.strs h2) fun out k2 k3 => ⟨_, rfl, ?_⟩) (args_list_sort _)))
    have ho2 := strs_out rv.strs k2 k3
    obtain ⟨ep, he⟩ := sortedHeap_at (h := h1.push (seqObj "list" its.toArray 0)) (vs := its) (out := out.toArray) hoL
    refine wpAny_pure ⟨_, rfl, ?_⟩
    have hl2 : ((srt ss).map V.str).length ≤ sizeLine := by
      have e := (List.mergeSort_perm ss sle).length_eq
      rw [List.length_map] at hz ⊢
      show (ss.mergeSort sle).length ≤ _
      omega
    refine ⟨.ref h1.objs.size, upd H h1.objs.size (.lst ((srt ss).map V.str)), J.laid (t' := s.toks) (fun b u e => ?_) (Nat.le_refl _) ⟨hl2, out, ep, vals_of_strs ho2, he⟩, rfl, q _ (J.hok.fresh (Nat.le_refl _))⟩
    have hlt : b < h1.objs.size := Heap.lt_size e
    rw [sortedHeap_old (Nat.ne_of_lt hlt) (by rw [Heap.size_push]; exact Nat.lt_succ_of_lt hlt)]
    exact Heap.get?_push_of_some _ e
  rcases hs with hs | hs
  · obtain ⟨its, rv, hl, hz⟩ := I.list hs
    obtain ⟨o, ho, hc, n, hd⟩ := hl.isList
    exact key "list" its o n (.inl rfl) ho hc hd rv hz
  · obtain ⟨its, rv, hl, hz⟩ := I.tuple hs
    obtain ⟨o, ho, hc, n, hd⟩ := hl
    exact key "tuple" its o n (.inr rfl) ho hc hd rv hz
theorem cr_sortedDQ {X : Cx} (hcalm : X.calm = true) : CallR X (.builtin "sorted") (fun xs H Q => ∃ (a : Addr) (kvs : List (Key × V)) (ks : List Str), xs = [.ref a] ∧ Rd H a (.dK kvs) ∧ kvs.map (·.1) = ks.map Sum.inr ∧
    ∀ p, H p = none → Q (.ref p) (upd H p (.lst ((srt ks).map V.str)))) := by
  intro pins s σ H xs us Q I r q
  obtain ⟨a, kvs, ks, ex, hd, hks, q⟩ := q
  subst ex
  obtain ⟨u, eu, rx⟩ := vals1 r
  subst eu
  cases rx
  obtain ⟨z, lo, vs, rel, dd⟩ := dk_rd I.hok hd
  obtain ⟨ep, hat⟩ := dd.dictAt
  have hkeys : vs.map (·.1) = ks.map Sum.inr := rel.keys.symm.trans hks
  have hl : vs.length = ks.length := by
    have e := congrArg List.length hkeys
    rw [List.length_map, List.length_map] at e
    exact e
  have h16 : vs.length ≤ sizeLine := by rw [← rel.length]; exact z
  refine Calls.call_function_entry PyProof.Rows.kind_sorted PyProof.Rows.plain_sorted PyProof.Rows.entry_sorted (PyProof.Rows.args_sorted1 _) ?_
  unfold Builtin.«sorted»
  refine wpAny_bind (m := checkCount "sorted" 1 1 _) (wpAny_pure ?_)
  refine wpAny_bind (PySem.W.kdu_collect (A := X.A.in1) (PySem.W.kdl_dict (knd := mixKind X.prog X.w) (kvs := vs) (ep := ep) lo) (I.ok.hd hcalm) hat h16 fun h' tk acc hk hacc => ?_)
  have hal : acc.toList.length = ks.length := by rw [Array.length_toList, hacc.1, hl]
  have hS : StrsAre acc.toList ks := strs_at hal fun j v e => by
    obtain ⟨k, x, e1, e2⟩ := hacc.2 j v (by rw [← Array.getElem?_toList]; exact e)
    have e3 : (vs.map (·.1))[j]? = some k := by rw [List.getElem?_map, e1]; all_goals rfl
    rw [hkeys, List.getElem?_map] at e3
    cases e4 : ks[j]? with
    | none => rw [e4] at e3; cases e3
    | some y =>
      rw [e4] at e3
      have e5 : Sum.inr y = k := Option.some.inj e3
      subst e5
      obtain ⟨t, ev⟩ := Value.isStrOf_shape (x := y) (v := v) e2
      exact ⟨y, t, rfl, ev⟩
  have I1 : Inv X pins σ H { s with heap := h', toks := tk } := I.kept hk
  have hz16 : acc.toList.length ≤ sizeLine := by rw [hal, ← hl]; exact h16
  refine wpAny_bind (wpAny_newList ?_ hz16)
  have hoL : (h'.push (seqObj "list" acc.toList.toArray 0)).get? h'.objs.size = some (seqObj "list" acc.toList.toArray 0) := Heap.get?_push_size _ rfl
  refine wpAny_bind (wpAny_holding (wpAny_call_entry slot_list_sort ⟨_, hoL, rfl⟩ entry_list_sort (list_sort_ord swo_str hoL hz16 (fun h2 => strs_sortable hS h2) fun out k2 k3 => ⟨_, rfl, ?_⟩) (args_list_sort _)))
  have ho2 := strs_out hS k2 k3
  obtain ⟨ep', he⟩ := sortedHeap_at (h := h'.push (seqObj "list" acc.toList.toArray 0)) (vs := acc.toList) (out := out.toArray) hoL
  refine wpAny_pure ⟨_, rfl, ?_⟩
  have hl2 : ((srt ks).map V.str).length ≤ sizeLine := by
    have e := (List.mergeSort_perm ks sle).length_eq
    rw [List.length_map]
    show (ks.mergeSort sle).length ≤ _
    rw [e, ← hl]; exact h16
  refine ⟨.ref h'.objs.size, upd H h'.objs.size (.lst ((srt ks).map V.str)), I1.laid (t' := tk) (fun b u e => ?_) (Nat.le_refl _) ⟨hl2, out, ep', vals_of_strs ho2, he⟩, rfl, q _ (I1.hok.fresh (Nat.le_refl _))⟩
  have hlt : b < h'.objs.size := Heap.lt_size e
  rw [sortedHeap_old (Nat.ne_of_lt hlt) (by rw [Heap.size_push]; exact Nat.lt_succ_of_lt hlt)]
  exact Heap.get?_push_of_some _ e
def oSortDQ : List T → Option T
  | [t] => (keysT t).bind fun ks => (strsK ks).map fun l => strL (srt l)
  | _ => none
theorem on_sortDQ {K : Kf} : OpN K (fun xs H Q => ∃ (a : Addr) (kvs : List (Key × V)) (ks : List Str), xs = [.ref a] ∧ Rd H a (.dK kvs) ∧ kvs.map (·.1) = ks.map Sum.inr ∧
    ∀ p, H p = none → Q (.ref p) (upd H p (.lst ((srt ks).map V.str)))) oSortDQ := by
  intro B F H ss os us xs t' Q st vr e q
  match us, e with
  | [t], e =>
    obtain ⟨ks, e1, e2⟩ := Option.bind_eq_some_iff.mp e
    obtain ⟨l, e3, rfl⟩ := Option.map_eq_some_iff.mp e2
    obtain ⟨x, _, rfl, h, rfl⟩ := vr
    obtain ⟨p, vs, rfl, sq, r⟩ := keysT_ok st.sf e1 h
    exact ⟨p, vs, l, rfl, sq, by rw [r, strsK_ok e3], fun p hn => q _ _ (Same.upd hn) (st.newL hn (strs_dr _))⟩
def kidsQ : T → Option (List D)
  | .sh (.tup ds) => some ds
  | t => kidsL t
def oSortQ : List T → Option T
  | [t] => (kidsQ t).bind fun ks => (strsD ks).map fun l => strL (srt l)
  | _ => none
theorem on_sortQ {K : Kf} : OpN K (rSortedQ K) oSortQ := by
  intro B F H ss os us xs t' Q st vr e q
  match us, e with
  | [t], e =>
    obtain ⟨ks, e1, e2⟩ := Option.bind_eq_some_iff.mp e
    obtain ⟨l, e3, rfl⟩ := Option.map_eq_some_iff.mp e2
    obtain ⟨x, _, rfl, h, rfl⟩ := vr
    have fin : ∀ p vs, x = .ref p → (SqL K H p vs ∨ SqT K H p vs) → DRs K F ks vs → rSortedQ K [x] H Q := by
      intro p vs ex sq r
      subst ex
      refine ⟨p, l, rfl, ?_, fun p hn => q _ _ (Same.upd hn) (st.newL hn (strs_dr _))⟩
      rw [← strsD_ok e3 r]; exact sq
    unfold kidsQ at e1
    split at e1
    · cases e1
      obtain ⟨p, vs, ex, hq, r⟩ := (show DR K F _ x from h)
      exact fin p vs ex (.inr (.inl (.inl (st.sf.tp hq)))) r
    · obtain ⟨p, vs, ex, sq, r⟩ := kidsL_ok st.sf e1 h
      exact fin p vs ex (.inl (.inl (.inl sq))) r
def ySorted (us : List T) : Option T := ((xSorted us).or (oSortQ us)).or (oSortDQ us)
section
variable {P : Program} {w : World} {base : Heap} {K : Kf} {mg : Str → Option Value} {k : Nat} {ι : Type} {X : ι → Cx} {E : XS}
theorem cSorted2 (fm : Fm P w K mg base k X E) : Ca K X (.builtin "sorted") ySorted := ((cSorted fm).or (Ca.of (fun j => (by have := cr_sortedQ (X := X j); rw [fm.hk j] at this; exact this)) on_sortQ)).or (Ca.of (fun j => cr_sortedDQ (fm.calm j)) on_sortDQ)
end
end DL
namespace DL
variable [Lf]
open PySem PySem.Spec PyProof.Rows L2
section
variable {K : Kf} {B F H : Hp} {E : XS}
def mStarD (m mk mv : ME) : ME := fun e => (m e).bnd fun v e1 => match (cn v e1).bind kidsD with
  | some ds => if (ds.map (·.1)).Nodup ∧ ds.length < sizeLine then (mk e1).bnd fun kv e2 => match kv with
      | .tv t => match keyT t with
        | some k => (mv e2).bnd fun v2 e3 => match v2 with
          | .tv (.sh d) => .ok (.tv (.dct ((pk ds k d).map fun p => (p.1, T.sh p.2))), e3)
          | _ => .st
        | none => .st
      | _ => .st
    else .st
  | none => .st
end
end DL
namespace DL
variable [Lf]
open PySem PySem.Spec PyProof.Rows L2 HT
def mStep2 (ms : MA) : ME := fun e => (ms e).bnd fun vs e1 => match cns vs e1 with
  | some us => match oStep us with
    | some t => .ok (.tv t, e1)
    | none => match us with
      | [.sh (.tup ds), .sh (.int (-1))] => .ok (.tv (.sh (.tup ds.reverse)), e1)
      | _ => .st
  | none => .st
end DL
namespace DL
variable [Lf]
open PySem PySem.Spec PyProof.Rows L2
def augFT (C : Addr) (f : Str) (g : Int → Int → Int) (k : Int) : T → Option (T × Unit)
  | .ins C' fs => match lk fs f with
    | some (.sh (.int a)) => if C' = C ∧ fs.length < 1000 then some (.ins C' (pk fs f (.sh (.int (g a k)))), ()) else none
    | _ => none
  | _ => none
def mAugF (C : Addr) (f : Str) (g : Int → Int → Int) (k : Int) (mo : ME) : MS := fun e => match mo e with
  | .ok (.pl i p, e1) => match updP i p (augFT C f g k) e1 with
    | some (_, e2) => .ok (.nx e2)
    | none => .st
  | .ok _ => .st
  | .ex c e1 => .ex c e1
  | .st => .st
@[simp] theorem mAugF_ap (C : Addr) (f : Str) (g : Int → Int → Int) (k : Int) (mo : ME) (e : Env) : mAugF C f g k mo e = (match mo e with
  | .ok (.pl i p, e1) => match updP i p (augFT C f g k) e1 with
    | some (_, e2) => .ok (.nx e2)
    | none => .st
  | .ok _ => .st
  | .ex c e1 => .ex c e1
  | .st => .st) := rfl
def gLClear : T → List T → Option (T × T)
  | .lst _, [] => some (.lst [], .sh .non)
  | _, _ => none
@[simp] theorem gLClear_lst (x) : gLClear (.lst x) [] = some (.lst [], .sh .non) := rfl
def arr {α : Type} (dm : α) : List (Option Nat) → List α → List α → List α
  | [], _, _ => []
  | some i :: ix, _ :: ds, l => l.getD i dm :: arr dm ix ds l
  | none :: ix, d :: ds, l => d :: arr dm ix ds l
  | _ :: _, [], _ => []
def mMakeA (C : Addr) (m : Nat) (ix : List (Option Nat)) (ds : List Int) (f : MF) (ms : MA) : ME := fun e => (ms e).bnd fun vs e1 => if vs.length = m then match cns vs e1 with
    | some ts => match f (.mu (.ins C []) :: (arr (.sh .non) ix (ds.map fun i => .sh (.int i)) ts).map argS) with
      | .ret (.sh .non) (some u) => .ok (.tv u, e1)
      | .exc c (some _) => .ex c e1
      | _ => .st
    | none => .st
  else .st
@[simp] theorem mMakeA_ap (C : Addr) (m : Nat) (ix : List (Option Nat)) (ds : List Int) (f : MF) (ms : MA) (e : Env) : mMakeA C m ix ds f ms e = (ms e).bnd fun vs e1 => if vs.length = m then match cns vs e1 with
    | some ts => match f (.mu (.ins C []) :: (arr (.sh .non) ix (ds.map fun i => .sh (.int i)) ts).map argS) with
      | .ret (.sh .non) (some u) => .ok (.tv u, e1)
      | .exc c (some _) => .ex c e1
      | _ => .st
    | none => .st
  else .st := rfl
@[simp] theorem arr_nil {α : Type} (dm : α) (ds l) : arr dm [] ds l = [] := rfl
@[simp] theorem arr_some {α : Type} (dm d : α) (i ix ds l) : arr dm (some i :: ix) (d :: ds) l = l.getD i dm :: arr dm ix ds l := rfl
@[simp] theorem arr_none {α : Type} (dm d : α) (ix ds l) : arr dm (none :: ix) (d :: ds) l = d :: arr dm ix ds l := rfl
def rFst (r : V → List V → Hp → VK → Prop) : List V → Hp → VK → Prop := fun vs H Q => match vs with
  | x :: xs => r x xs H Q
  | [] => False
structure Mr (K : Kf) {ι : Type} (X : ι → Cx) (name : Str) (c : T → Bool) (f : List T → Option T) : Prop where
  ex : ∃ (T id : String) (ty : V → Hp → Prop) (r : V → List V → Hp → VK → Prop), PlainAttrs T ∧ PySem.Slot T name id ∧ typeOf (.builtin id) = pure (.type "method_descriptor") ∧ (∀ j, TyOk (X j) T ty) ∧ (∀ j, MtR (X j) id r) ∧ OpN K (rFst r) f ∧ ∀ (t : DL.T) (x : V) (F H : Hp), c t = true → VR K H F t x → SubR F H → ty x H
section
variable {P : Program} {w : World} {base : Heap} {K : Kf} {mg : Str → Option Value} {k : Nat} {ι : Type} {X : ι → Cx} {E : XS} {e o : Expr} {es : List Expr} {apos cpos : Pos} {m : ME} {ms : MA}
theorem eMr {name : Str} {ct : T → Bool} {f : List T → Option T} (h : Mr K X name ct f) (ho : DE K E X o m) (ha : DA K E X (e :: es) ms) (hbase : ∀ j, attributeBase o name (X j).env (eval o (X j).env) = eval o (X j).env := by intro _; rfl)
    (hfew : ∀ j, ((backTo cpos (starEach (e :: es) (X j).env)).all (fun x => !x.1) && (backToKw cpos (keywordEach [] (X j).env)).all (fun x => x.1.isSome)
      && decide ((e :: es).length + ([] : List Keyword).length + (if ([] : List Keyword).isEmpty then 0 else 1) < 30)) = true := by intro _; rfl)
    (hline : (apos.endLine == cpos.line) = true := by rfl) (hs : ∀ j, starEach (e :: es) (X j).env = (false, eval e (X j).env) :: starEach es (X j).env := by intro _; rfl) (hplain : ∀ j, (backTo cpos (starEach es (X j).env)).any (·.1) = false := by intro _; rfl) :
    DE K E X (.Call (.Attribute o name apos) (e :: es) [] cpos) (mOp f (mCons (mChk ct m) ms)) := by
  obtain ⟨T, id, ty, r, h1, h2, h3, h4, h5, h6, h7⟩ := h.ex
  obtain ⟨to, h8, h9⟩ := ho
  obtain ⟨ta, h10, h11⟩ := ha
  exact ⟨_, fun j => pe_bmG h1 h2 h3 (h4 j) (h5 j) (h8 j) (h10 j) (hbase j) (hfew j) hline (hs j) (hplain j), ev_op (r := rFst r) (ev_cons (ev_chk h9 h7) h11) h6⟩
def extT (ds : List D) : T → Option (T × Unit)
  | .lst ts => if ts.length + ds.length ≤ sizeLine then some (.lst (ts ++ ds.map .sh), ()) else none
  | _ => none
def mExt (mo ma : ME) : ME := fun e => (mCons (mChk isL mo) (mCons ma mNil) e).bnd fun vs e1 => match vs with
  | [.pl i p, w] => match (cn w e1).bind kidsL with
    | some ds => match updP i p (extT ds) e1 with
      | some (_, e2) => .ok (.tv (.sh .non), e2)
      | none => .st
    | none => .st
  | _ => .st
end
@[simp] theorem mExt_ap (mo ma : ME) (e : Env) : mExt mo ma e = (mCons (mChk isL mo) (mCons ma mNil) e).bnd fun vs e1 => match vs with
  | [.pl i p, w] => match (cn w e1).bind kidsL with
    | some ds => match updP i p (extT ds) e1 with
      | some (_, e2) => .ok (.tv (.sh .non), e2)
      | none => .st
    | none => .st
  | _ => .st := rfl
def mMutT (c : T → Bool) (f : T → List T → Option (T × T)) (m : ME) (ms : MA) : ME := fun e => (mCons (mChk c m) ms e).bnd fun vs e1 => match vs with
  | .tv t :: r => match tvs r with
    | some us => if notSh t = true then match f t us with
        | some (_, rt) => .ok (.tv rt, e1)
        | none => .st
      else .st
    | none => .st
  | _ => .st
@[simp] theorem mMutT_ap (c : T → Bool) (f : T → List T → Option (T × T)) (m : ME) (ms : MA) (e : Env) : mMutT c f m ms e = (mCons (mChk c m) ms e).bnd fun vs e1 => match vs with
  | .tv t :: r => match tvs r with
    | some us => if notSh t = true then match f t us with
        | some (_, rt) => .ok (.tv rt, e1)
        | none => .st
      else .st
    | none => .st
  | _ => .st := rfl
end DL
namespace DL
variable [Lf]
open PySem PySem.Spec PyProof.Rows L2 HT
def mSlA (ms : MA) : ME := fun e => (ms e).bnd fun vs e1 => match cns vs e1 with
  | some us => match oSl us with
    | some t => .ok (.tv t, e1)
    | none => match us with
      | [.sh (.tup ds), .sh (.int i)] => .ok (.tv (.sh (.tup (cut ds (some i) none))), e1)
      | _ => .st
  | none => .st
@[simp] theorem mSlA_ap (ms : MA) (e : Env) : mSlA ms e = (ms e).bnd fun vs e1 => match cns vs e1 with
  | some us => match oSl us with
    | some t => .ok (.tv t, e1)
    | none => match us with
      | [.sh (.tup ds), .sh (.int i)] => .ok (.tv (.sh (.tup (cut ds (some i) none))), e1)
      | _ => .st
  | none => .st := rfl
end DL
namespace DL
variable [Lf]
open PySem PySem.Spec PyProof PyProof.Rows L2 HT
section
variable {X : Cx} {e : Expr} {te : TE} {p apos cpos pos : Pos}
def rItemsR : V → Hp → VK → Prop := fun x H Q => ∃ (d : Addr) (kvs : List (Key × V)), x = .ref d ∧ Rd H d (.dK kvs) ∧
  ∀ (H' : Hp) (p : Addr) (ts : List Addr), (∀ b o, H b = some o → H' b = some o) → H p = none → (∀ t ∈ ts, H t = none) → p ∉ ts → H' p = some (.lst (ts.map V.ref)) → Paired (fun (t : Addr) (q : Key × V) => H' t = some (.tup [kV q.1, q.2])) ts kvs → Q (.ref p) H'
def tItemsR (te : TE) : TE := fun σ H Q => te σ H fun x H1 => rItemsR x H1 Q
theorem dK_ok {pins : List (Addr × Obj)} {σ : L2.St} {H : Hp} {s : Shared} {d : Addr} {kvs : List (Key × V)} (I : Inv X pins σ H s) (hd : Rd H d (.dK kvs)) : ObjOk X.prog X.w H s.heap d (.dK kvs) := by
  rcases hd with hd | ⟨o, hd⟩
  · exact I.hok d _ hd
  · exact (I.hok d _ hd).2
theorem pe_itemsR (hc : X.calm = true) (he : PE X e te) (hg : Gl X "list") (hm : X.mg "list" = none) (hv : bootBuiltins "list" = some (.type "list")) (hbase : attributeBase e "items" X.env (eval e X.env) = eval e X.env := by rfl) (hline : (apos.endLine == cpos.line) = true := by rfl)
    (hs : starEach [.Call (.Attribute e "items" apos) [] [] cpos] X.env = (false, eval (.Call (.Attribute e "items" apos) [] [] cpos) X.env) :: starEach [] X.env := by rfl) :
    PE X (.Call (.Name "list" p) [.Call (.Attribute e "items" apos) [] [] cpos] [] pos) (tItemsR te) := by
  refine ⟨fun pins s σ H Q I hq => ?_⟩
  refine wpAny_Call_Name_kw (ld_blt I hg hm hv ?_)
  refine PyProof.Rows.callWith_type1 ?_ hs rfl
  rw [hs]
  show wpAny _ _ (spliced ((false, eval (.Call (.Attribute e "items" apos) [] [] cpos) X.env) :: backTo pos (starEach [] X.env))) _ _ s
  refine Calls.spliced_cons ?_
  refine wpAny_Call_method (T := "dict") (id := "dict.items") hbase rfl hline F.plainAttrs_dict F.slot_dict_items F.type_dict_items (thn (he.run pins s σ H _ I hq) fun u s1 ⟨x, H1, I1, rx, d, kvs, ex, hd, q⟩ => ?_)
  subst ex
  obtain rfl : u = Value.ref d := rx
  obtain ⟨hz, hs0, vs, kv, hdo⟩ := dK_ok I1 hd
  obtain ⟨ep, hat⟩ := hdo.dictAt
  have lk : kvs.length = vs.length := Paired.length kv
  have I2 : Inv X pins σ H1 { s1 with heap := s1.heap.push { cls := .type "dict_items", data := .fields #[.ref d] } } := I1.kept (t' := s1.toks) fun b ob q => Heap.get?_push_of_some _ q
  refine ⟨hdo.typeIs, hdo.mapOf.noDict, ?_⟩
  show wpAny _ _ (callWith cpos (.builtin "dict.items") [.ref d] [] []) _ X.xe s1
  refine method_meetsIn F.slot_dict_items F.entry_dict_items rfl (PySem.evalArgs_none ⟨rfl, hdo.typeIs, F.args_dict_items_1 _, _, meets_dict_items (mixKind X.prog X.w) d hs0, ⟨vs, hdo⟩, ?_⟩)
  refine Calls.spliced_nil ?_
  refine PySem.W.kdx_call (knd := mixKind X.prog X.w) (kvs := vs) (ep := ep) (I1.ok.hd hc) ⟨_, Heap.get?_push_size _ rfl, rfl, rfl⟩ (hat.push _) (by omega) fun h' tk acc c as hk hS hl hG hacc => ?_
  obtain ⟨H', k1, k2, k3, k4, k5, k6, J⟩ := LiI.items_laid (tk := tk) I2 hz kv hk hS hl hG hacc
  exact ⟨.ref _, H', J, rfl, q H' _ as k1 k2 k3 k4 k5 k6⟩
end
def mItemsA (m : ME) : ME := fun e => (m e).bnd fun v e1 => match cns [v] e1 with
  | some [.sh (.dct kds)] => .ok (.tv (.lst (kds.map fun q => .sh (.tup [kD q.1, q.2]))), e1)
  | some [.dct kts] => match allShK kts with
    | some kds => .ok (.tv (.lst (kds.map fun q => .sh (.tup [kD q.1, q.2]))), e1)
    | none => .st
  | _ => .st
theorem items_new {K : Kf} {B F' H' : Hp} {env : Env} {e1 : Env} {σ : L2.St} {E : XS} {Q : VK} {F : Hp} {a : Addr} {kvs : List (Key × V)} {kds : List (Key × D)} (st : St K B F' H' e1 σ) (g : Gr B F F') (kd : Kd env e1)
    (hq : Rd H' a (.dK kvs)) (r' : DRk K F' kds kvs)
    (hp : ∀ x F2 H2, Gr B F F2 → Kd env e1 → Got K B F2 H2 e1 σ [.tv (.lst (kds.map fun q => .sh (.tup [kD q.1, q.2])))] [x] → Q x H2) : rItemsR (.ref a) H' Q := by
  refine ⟨a, kvs, rfl, hq, fun H2 q ts sm hn ht hqt hl pr => ?_⟩
  have fN : ∀ t ∈ ts, F' t = none := fun t h => st.sf.off (ht t h)
  let F2 : Hp := fun b => if b ∈ ts then H2 b else F' b
  have f2 : ∀ b, b ∉ ts → F2 b = F' b := fun b hb => if_neg hb
  have f2t : ∀ b, b ∈ ts → F2 b = H2 b := fun b hb => if_pos hb
  have sF : Same F' F2 := fun b u e => by rw [f2 b (fun z => by rw [fN b z] at e; cases e)]; exact e
  have bq : ∀ b, H' b = none → B b = none := fun b h => by
    exact st.sb.ne b h
  have gr : Gr B F' F2 := ⟨sF, fun b h1 h2 => by
    by_cases hb : b ∈ ts
    · exact bq b (ht b hb)
    · rw [f2 b hb] at h2; exact absurd h1 h2⟩
  have dr : DRs K F2 (kds.map fun q => D.tup [kD q.1, q.2]) (ts.map V.ref) := by
    have go : ∀ {kds : List (Key × D)} {kvs : List (Key × V)} {us : List Addr}, (∀ u ∈ us, u ∈ ts) → DRk K F' kds kvs → Paired (fun (t : Addr) (q : Key × V) => H2 t = some (.tup [kV q.1, q.2])) us kvs → DRs K F2 (kds.map fun q => D.tup [kD q.1, q.2]) (us.map V.ref) := by
      intro kds
      induction kds with
      | nil => intro kvs us hu h pr; cases (show kvs = [] from h); cases pr; rfl
      | cons kd kds ih =>
        intro kvs us hu h pr
        obtain ⟨k, d⟩ := kd
        obtain ⟨v, vs, rfl, hkd, h⟩ := h
        obtain ⟨hk, hd⟩ := (show v.1 = k ∧ DR K F' d v.2 from hkd)
        cases pr with
        | @cons u _ us _ p1 p2 =>
        have p1 : H2 u = some (.tup [kV v.1, v.2]) := p1
        exact ⟨_, _, rfl, ⟨u, _, rfl, by rw [f2t u (hu u List.mem_cons_self)]; exact p1, _, _, rfl, by rw [hk]; exact kD_ok, _, _, rfl, hd.mono (.of sF), rfl⟩, ih (fun u h => hu u (List.mem_cons_of_mem _ h)) h p2⟩
    exact go (fun _ h => h) r' pr
  refine hp (.ref q) F2 H2 (g.trans gr) kd (.of ?_)
  obtain ⟨S0, f, nd0, k0⟩ := st.fp
  have nq : q ∉ S0 := fun z => by
    obtain ⟨o, ho, _⟩ := f.has q z
    rw [hn] at ho; cases ho
  refine ⟨st.sb.trans (fun b o e => sm b o e), ⟨⟨fun b o e => ?_⟩, fun b ps e => by
    by_cases hb : b ∈ ts
    · rw [f2t b hb] at e; obtain ⟨_, _, _, _, e3⟩ := LiI.paired_ix pr hb; rw [e3] at e; cases e; exact True.intro
    · rw [f2 b hb] at e; exact st.sf.nt b ps e⟩, q :: S0, ⟨_, _, [q], S0, rfl, rfl, ⟨_, rfl, q, _, [], rfl, hl, rfl, ?_⟩, f.imp fun c d Sc hS z => z.mono (.of sF) fun a ha o e => sm a o e⟩, List.nodup_cons.mpr ⟨nq, nd0⟩, fun b hb => ?_⟩
  · by_cases hb : b ∈ ts
    · rw [f2t b hb] at e; exact .inl e
    · rw [f2 b hb] at e
      rcases st.sf.sub b o e with z | ⟨od, kv, e1, z⟩
      · exact .inl (sm b o z)
      · exact .inr ⟨od, kv, e1, sm b _ z⟩
  · have := TRs.shs (G := H2) dr
    rw [List.map_map] at this
    exact this
  · rcases List.mem_cons.mp hb with z | z
    · subst z; exact ⟨bq b hn, by rw [f2 b hqt]; exact st.sf.off hn⟩
    · refine ⟨(k0 b z).1, ?_⟩
      have : b ∉ ts := fun w => by
        obtain ⟨o, ho, _⟩ := f.has b z
        rw [ht b w] at ho; cases ho
      rw [f2 b this]; exact (k0 b z).2
theorem ev_itemsA {K : Kf} {E : XS} {te : TE} {m : ME} (he : EvT K E te m) : EvT K E (tItemsR te) (mItemsA m) := by
  intro B F H σ env Q hs hv hp
  refine he B F H σ env _ hs hv ?_
  unfold mItemsA at hp
  cases e : m env with
  | st => rw [e] at hp; exact hp
  | ex c e1 => rw [e] at hp; exact hp
  | ok a =>
    obtain ⟨v, e1⟩ := a
    rw [e] at hp
    simp only [R.bnd] at hp
    intro x F' H' g kd got
    cases ec : cns [v] e1 with
    | none => rw [ec] at hp; exact hp.elim
    | some us =>
      rw [ec] at hp
      have vr := got.vrs (Got.kd (H' := H') hv g kd) ec
      split at hp
      · rename_i kds heq
        cases heq
        obtain ⟨y, _, ey, h, rfl⟩ := vr
        cases ey
        obtain ⟨p, vs, rfl, q, r⟩ := (show DR K F' (.dct kds) _ from h)
        exact items_new (E := E) got.base g kd (got.st.sf.rd _ _ q) r fun x F2 H2 g2 k2 got2 => hp x F2 H2 g2 k2 got2
      · rename_i kts heq
        cases heq
        obtain ⟨y, _, ey, h, rfl⟩ := vr
        cases ey
        obtain ⟨p, vs, rfl, q, r⟩ := h
        split at hp
        · rename_i kds e5
          exact items_new (E := E) got.base g kd q (allShK_dr e5 r) fun x F2 H2 g2 k2 got2 => hp x F2 H2 g2 k2 got2
        · exact hp.elim
      · exact hp.elim
section
variable {P : Program} {w : World} {base : Heap} {K : Kf} {mg : Str → Option Value} {k : Nat} {ι : Type} {X : ι → Cx} {E : XS} {e : Expr} {pos apos cpos p : Pos} {m : ME}
theorem eItemsA (fm : Fm P w K mg base k X E) (h : DE K E X e m) (hm : mg "list" = none) (hg : ∀ j, Gl (X j) "list" := by intro _; rfl) (hv : bootBuiltins "list" = some (.type "list") := by rfl) (hbase : ∀ j, attributeBase e "items" (X j).env (eval e (X j).env) = eval e (X j).env := by intro _; rfl) (hline : (apos.endLine == cpos.line) = true := by rfl)
    (hs : ∀ j, starEach [.Call (.Attribute e "items" apos) [] [] cpos] (X j).env = (false, eval (.Call (.Attribute e "items" apos) [] [] cpos) (X j).env) :: starEach [] (X j).env := by intro _; rfl) :
    DE K E X (.Call (.Name "list" p) [.Call (.Attribute e "items" apos) [] [] cpos] [] pos) (mItemsA m) :=
  let ⟨_, h1, h2⟩ := h; ⟨_, fun j => pe_itemsR (fm.calm j) (h1 j) (hg j) (by rw [fm.hm j]; exact hm) hv (hbase j) hline (hs j), ev_itemsA h2⟩
end
@[simp] theorem mItemsA_ap (m : ME) (e : Env) : mItemsA m e = (m e).bnd fun v e1 => match cns [v] e1 with
  | some [.sh (.dct kds)] => .ok (.tv (.lst (kds.map fun q => .sh (.tup [kD q.1, q.2]))), e1)
  | some [.dct kts] => match allShK kts with
    | some kds => .ok (.tv (.lst (kds.map fun q => .sh (.tup [kD q.1, q.2]))), e1)
    | none => .st
  | _ => .st := rfl
end DL
namespace DL
variable [Lf]
open PySem PySem.Spec PyProof.Rows L2 HT
def mCallA (m : Nat) (ix : List (Option Nat)) (ds : List Int) (f : MF) (ms : MA) : ME := fun e => (ms e).bnd fun vs e1 => if vs.length = m + 1 then match cns vs e1 with
    | some (t :: ts) => match f (argS t :: (arr (.sh .non) ix (ds.map fun i => .sh (.int i)) ts).map argS) with
      | .ret t none => .ok (.tv t, e1)
      | .exc c none => .ex c e1
      | _ => .st
    | _ => .st
  else .st
def mMethA (C : Addr) (mn : Str) (m : Nat) (ix : List (Option Nat)) (ds : List Int) (f : MF) (o : ME) (ms : MA) : ME := mCallA m ix ds f (mCons (mChk (isI C mn) o) ms)
@[simp] theorem mMethA_ap (C : Addr) (mn : Str) (m : Nat) (ix : List (Option Nat)) (ds : List Int) (f : MF) (o : ME) (ms : MA) (e : Env) : mMethA C mn m ix ds f o ms e = (mCons (mChk (isI C mn) o) ms e).bnd fun vs e1 => if vs.length = m + 1 then match cns vs e1 with
    | some (t :: ts) => match f (argS t :: (arr (.sh .non) ix (ds.map fun i => .sh (.int i)) ts).map argS) with
      | .ret t none => .ok (.tv t, e1)
      | .exc c none => .ex c e1
      | _ => .st
    | _ => .st
  else .st := rfl
def blsD : List D → Option (List Bool)
  | [] => some []
  | .bl b :: r => (blsD r).map fun l => b :: l
  | _ :: _ => none
theorem blsD_ok {K : Kf} {F : Hp} : ∀ {ds : List D} {l : List Bool} {vs : List V}, blsD ds = some l → DRs K F ds vs → vs = l.map V.bl
  | [], _, _, h, r => by cases h; exact r
  | .bl s :: ds, _, _, h, ⟨v, vs, ev, hv, r⟩ => by
    obtain ⟨l, e, rfl⟩ := Option.map_eq_some_iff.mp h
    rw [ev, blsD_ok e r, show v = .bl s from hv]; rfl
  | .non :: _, _, _, h, _ => by cases h
  | .str _ :: _, _, _, h, _ => by cases h
  | .int _ :: _, _, _, h, _ => by cases h
  | .lst _ :: _, _, _, h, _ => by cases h
  | .tup _ :: _, _, _, h, _ => by cases h
  | .dct _ :: _, _, _, h, _ => by cases h
  | .ins _ _ :: _, _, _, h, _ => by cases h
  | .scr _ :: _, _, _, h, _ => by cases h
  | .exn _ _ _ :: _, _, _, h, _ => by cases h
def eqkB (k : Bool) (v : Value) : Bool := match v with
  | .bool b => b == k
  | _ => false
theorem eqkB_at {A : Around} {s : Shared} {k : Bool} : ∀ {bs : List Bool} {us : List Value}, Vals (bs.map V.bl) us → ∀ y ∈ us, SeqAt.EqAt A s y (.bool k) (eqkB k y)
  | [], us, h, y, hy => by cases h; cases hy
  | b :: bs, us, h, y, hy => by
    cases h with
    | cons r1 r2 =>
      cases (show _ = Value.bool b from r1)
      rcases List.mem_cons.mp hy with e | e
      · rw [e]; exact SeqAt.EqAt.bool_bool b k
      · exact eqkB_at r2 y e
theorem eqkB_count {k : Bool} : ∀ {bs : List Bool} {us : List Value}, Vals (bs.map V.bl) us → us.countP (eqkB k) = bs.count k
  | [], us, h => by cases h; rfl
  | b :: bs, us, h => by
    cases h with
    | cons r1 r2 =>
      cases (show _ = Value.bool b from r1)
      have ih := eqkB_count (k := k) r2
      rw [List.countP_cons, List.count_cons, ih] <;> rfl
def rCntB (K : PySem.W.Frag) : V → List V → Hp → VK → Prop := fun x xs H Q => ∃ (p : Addr) (bs : List Bool) (k : Bool), x = .ref p ∧ xs = [.bl k] ∧ SqL K H p (bs.map V.bl) ∧ Q (.int (bs.count k : Nat)) H
theorem mt_lcountB {X : Cx} : MtR X "list.count" (rCntB X.K) := by
  intro pins s σ H x xs v us Q I rx rxs h
  obtain ⟨p, bs, k, rfl, rfl, hs, q⟩ := h
  cases rx
  obtain ⟨u, rfl, ru⟩ := rxs.one
  cases (show u = Value.bool k from ru)
  obtain ⟨its, rv, ⟨⟨cls, dd, data, sl⟩, n, ho, hc, hdn, hd⟩, hlen⟩ := I.list hs
  simp only at hc hd
  subst hc hd
  refine call_meets PySem.F.slot_list_count ⟨_, ho, rfl⟩ PySem.F.entry_list_count (PySem.F.args_list_count_2 _ _)
    (SeqAt.list_countAt p its.toArray n dd sl (.bool k) (eqkB k)) ⟨ho, fun y hy => eqkB_at rv y (by simpa using hy), ?_⟩
  have ec : its.toArray.toList.countP (eqkB k) = bs.count k := eqkB_count rv
  refine ⟨.int (bs.count k : Nat), H, I.tok _, ⟨s.toks, ?_⟩, q⟩
  show Value.int ((its.toArray.toList.countP (eqkB k) : Nat) : Int) s.toks = Value.int ((bs.count k : Nat) : Int) s.toks
  rw [ec]
def xCntB : List T → Option T
  | [t, .sh (.bl k)] => (kidsL t).bind fun ds => (blsD ds).map fun l => .sh (.int (l.count k : Nat))
  | _ => none
section
variable {P : Program} {w : World} {base : Heap} {K : Kf} {mg : Str → Option Value} {k : Nat} {ι : Type} {X : ι → Cx} {E : XS}
theorem on_cntB : OpN K (rFst (rCntB K)) xCntB := by
  intro B F H ss os us xs t' Q st vr e q
  unfold xCntB at e
  split at e
  · rename_i t b
    obtain ⟨x, _, rfl, vx, y, _, rfl, vy, rfl⟩ := vr
    obtain ⟨ds, e1, e⟩ := Option.bind_eq_some_iff.mp e
    obtain ⟨l, e2, rfl⟩ := Option.map_eq_some_iff.mp e
    obtain ⟨p, vs, rfl, hq, r⟩ := kidsL_ok st.sf e1 vx
    cases (show y = V.bl b from vy)
    refine ⟨p, l, b, rfl, rfl, .inl (.inl ?_), q _ _ (Same.refl _) (st.push (d := .int _) rfl)⟩
    rw [← blsD_ok e2 r]; exact hq
  · cases e
theorem mCntB (fm : Fm P w K mg base k X E) : Mr K X "count" isL xCntB :=
  ⟨"list", "list.count", tyL K, rCntB K, F.plainAttrs_list, F.slot_list_count, F.type_list_count, fun j => (by have := tyL_ok (X := X j); rw [fm.hk j] at this; exact this), fun j => (by have := mt_lcountB (X := X j); rw [fm.hk j] at this; exact this), on_cntB, fun t x F H c r sf => isL_ok c r sf⟩
end
end DL
namespace PySem.W
open PySem PySem.Spec PyProof.Rows PySem.Builtin PySem.Builtin.ObjectAttr
section
variable {K : Frag} {prog : Program} {w : World} {A : Around} {E : Value → Shared → Prop} {s : Shared} {a D : Addr} {oa : Obj} {od : Option Obj}
theorem fo_data {name : Str} {t g : Value} (hc : (clsIn K D).isSome = true) (ha : findIn K (.ref D) name = some (some t)) (hg : specialIn K t "__get__" = some (some g)) (ht : takesIn K t = some true) : findObj K D od name = some (.bind g t) := by
  obtain ⟨cd, q⟩ := Option.isSome_iff_exists.mp hc
  simp only [findObj, q, ha, hg, ht, Option.bind_some]
theorem exn_class (C : L2.ExcC K D) {Q : Option Value → Shared → Prop} (X : K.In s.heap) (I : InstAt s.heap a oa D od) (h : Q (some (.ref D)) { s with toks := s.toks + 1 }) : wpAny (model prog w) A (getAttr? (.ref a) "__class__") Q E s := by
  obtain ⟨hp, gs, dr, tk, os⟩ := s
  have ty0 := I.type (M := model prog w); have hk1 := looks_findIn (M := model prog w) X C.hg; have hk2 := looks_findIn (M := model prog w) X C.hk
  have fd := looks_find (M := model prog w) X I (fo_data (od := od) (by obtain ⟨cd, z, _⟩ := any_some C.hd; rw [z]; rfl) C.ha C.hn C.ht)
  have isB : Looks (model prog w) hp (isInstance (.ref a) (.type "BaseException")) true := ty0.andThen (looks_subIn X C.hs)
  have n0 : (Value.builtin "BaseException.__getattribute__" == Value.builtin "object.__getattribute__") = false := by decide +kernel
  have n1 : (onTheHeap (Value.ref D) && Value.builtin "BaseException.__getattribute__" == Value.builtin "object.__getattribute__") = false := by rw [n0]; rfl
  have n2 : (false && onTheHeap (Value.builtin "BaseException.__getattribute__")) = false := rfl
  unfold getAttr? getAttrBy? getAttrBy
  refine wpAny_bind (wpAny_mkText (wpAny_bind (wpAny_attempt (wpAny_holding (wpAny_bind (ty0.at (wpAny_bind (hk1.at ?_))))))))
  show wpAny _ _ (if (onTheHeap (Value.ref D) && Value.builtin "BaseException.__getattribute__" == Value.builtin "object.__getattribute__") = true then _ else _) _ _ _
  rw [n1, if_neg Bool.false_ne_true]
  unfold getAttrByItsOwn hookBefore; refine wpAny_bind ?_
  rw [if_pos (show onTheHeap (Value.ref D) = true from rfl)]
  refine hk2.at (wpAny_bind (wpAny_attempt (wpAny_holding ?_)))
  unfold callGetattribute; rw [n2, if_neg Bool.false_ne_true]
  unfold boundAndCalled; rw [PySem.F.excAttr_ValueError.ga.bind (.ref a)]
  refine wpAny_bind (wpAny_pure ?_)
  show wpAny _ _ (call (.builtin "BaseException.__getattribute__") [.ref a, .str "__class__" tk]) _ _ _
  refine wpAny_call (codeAny_call_builtin PySem.F.excAttr_ValueError.ga.plain PySem.F.entry_bexc_ga (@check_slot (model prog w) _ _ ⟨hp, gs, dr, tk + 1, os⟩ "BaseException.__getattribute__" "BaseException" "__getattribute__" (.ref a) [.str "__class__" tk] [] _ (by decide +kernel) (by decide +kernel) isB (PySem.F.args_bexc_ga (.ref a) (.str "__class__" tk)) ?_))
  unfold Builtin.«object.__getattribute__»
  refine wpAny_bind (wpAny_of_eq (a := ((Value.ref a : Value), [Value.str "__class__" tk])) (by first | rfl | (simp only [slotArgs]; rfl)) (wpAny_bind (wpAny_pure (wpAny_bind (ty0.at (wpAny_bind (fd.at ?_)))))))
  show wpAny _ _ (holding [Value.builtin "object.__class__"] (call (.builtin "getset_descriptor.__get__") [.builtin "object.__class__", .ref a, .ref D]) >>= ret) _ _ _
  refine wpAny_bind (wpAny_holding (wpAny_call (class_get (s := ⟨hp, gs, dr, tk + 1, os⟩) (ox := oa) (od := od) X I C.hm (wpAny_pure ?_))))
  show wpAny _ _ (handedOut (.ref D)) _ _ _
  rw [handedOut_of (v := .ref D) rfl]
  first | exact wpAny_pure (wpAny_pure h) | exact wpAny_pure h | exact wpAny_pure (wpAny_bind (wpAny_pure (wpAny_pure h)))
theorem exn_kit (C : L2.ExcC K D) : KitX K (.ref a) (.ref D) (fun h => InstAt h a oa D od) where
  ty := fun _ _ _ I => I.type
  it := fun _ _ X _ => by
    obtain ⟨cd, z, _⟩ := any_some C.hd
    unfold clsIn at z
    split at z
    · rename_i q1 q2 q3 q4 ho
      exact fun A' Q' E' s' k q => by unfold isType loadHead; exact wpAny_bind (wpAny_loadPart (k _ _ (X _ _ ho)) (wpAny_pure q))
    · cases z
  ne := fun h tp dd its n sl X htp => Bool.eq_false_iff.mpr fun q => by
    cases Value.ref.inj (beq_iff_eq.mp q)
    obtain ⟨cd, z, _⟩ := any_some C.hd
    unfold clsIn at z
    split at z
    · rename_i q1 q2 q3 q4 ho
      cases (X _ _ ho).symm.trans htp
    · cases z
  ca := fun X I k => exn_class C X I k
end
end PySem.W
namespace DL
variable [Lf]
open PySem PySem.Spec PyProof.Rows L2 HT
structure Exc (K : Kf) (C : Addr) : Prop where
  ex : PySem.W.excIn K C [.type "ValueError", .type "Exception", .type "BaseException", .type "object"] "ValueError.__new__" = true
  kp : PySem.W.keepIn K (.ref C) = true
  su : PySem.W.subIn K (.ref C) (.type "BaseException") = some true
  ty : PySem.W.typeIn K (.ref C) = some (.type "type")
def mRaise (C : Addr) : MS := fun e => .ex ⟨C, none⟩ e
section
variable {P : Program} {w : World} {base : Heap} {K : Kf} {mg : Str → Option Value} {k : Nat} {ι : Type} {X : ι → Cx} {E : XS} {e : Expr} {pos p p2 p3 : Pos} {m : ME} {x : Str}
theorem sraise (fm : Fm P w K mg base k X E) {C : Addr} {tx : Str} {jj : Nat} (h : Exc K C) (hm : mg x = some (.ref C)) (hg : ∀ j, Gl (X j) x := by intro _; rfl) (hd : (x == ("__debug__" : Str)) = false := by decide +kernel) :
    DS K E X (.Raise (some (.Call (.Name x p) [.Constant (.str tx) jj p2] [] p3)) none pos) (mRaise C) :=
  ⟨_, fun j => ps_raise (fm.calm j) (fm.tk j) (pmk_own F.excBase_ValueError (by rw [fm.hk j]; exact h.ex) (by rw [fm.hm j]; exact hm) (by rw [fm.hk j]; exact h.kp) (raises_own (by rw [fm.hk j]; exact h.su) (by rw [fm.hk j]; exact h.ty)) (hg j) hd),
    fun B F H σ env D hs hv hp => hp none σ F H (Gr.refl _ _) (Kp.refl _ _) hs rfl⟩
end
def DcIn (H : Hp) (od : Option Addr) : Prop := od = none ∨ ∃ d fvs, od = some d ∧ H d = some (.xd fvs)
def TyE (K : Kf) (H : Hp) (x : V) (t : Value) : Prop := TyX K H x t ∨ ∃ a C od, x = .ref a ∧ t = .ref C ∧ H a = some (exR a C od) ∧ DcIn H od ∧ ExcC K C
theorem exn_at {X : Cx} {pins : List (Addr × Obj)} {σ : L2.St} {H : Hp} {s : Shared} {a C : Addr} {od : Option Addr} (I : Inv X pins σ H s) (ha : H a = some (exR a C od)) (hd : DcIn H od) :
    ∃ oe oo, PySem.W.InstAt s.heap a oe C oo ∧ (∃ vs, oe.data = .fields vs) ∧ ∀ d fvs, od = some d → H d = some (.xd fvs) → ∃ o, oo = some o ∧ ∃ mA : Str → Option Value, (∀ n, PySem.W.lookIn n o = some (mA n)) ∧ ∀ f, RelO (fvs.lookup f) (mA f) := by
  obtain ⟨⟨oe, vs, h1, ⟨h2, h3⟩, h4⟩, _, _⟩ := I.hok a _ ha
  have hno : PySem.W.notCls oe = true := by unfold PySem.W.notCls; rw [h4] <;> rfl
  rcases hd with rfl | ⟨d, fvs, rfl, hd⟩
  · exact ⟨oe, none, ⟨h1, h2, hno, by rw [h3]; trivial⟩, ⟨vs, h4⟩, fun _ _ z => nomatch z⟩
  · obtain ⟨mA, hns, hr⟩ := (show ObjOk X.prog X.w H s.heap d (.xd fvs) from I.hok d _ hd)
    obtain ⟨o, ho, hl⟩ := lookIn_ns hns
    refine ⟨oe, some o, ⟨h1, h2, hno, by rw [h3]; exact ho⟩, ⟨vs, h4⟩, fun d' fvs' z hd' => ?_⟩
    cases z
    rw [hd] at hd'
    cases hd'
    exact ⟨o, rfl, mA, hl, hr⟩
theorem kit_ofE {X : Cx} {pins : List (Addr × Obj)} {σ : L2.St} {H : Hp} {s : Shared} {x : V} {u t : Value} (I : Inv X pins σ H s) (rx : RelV x u) (ty : TyE X.K H x t) :
    ∃ Pr : Heap → Prop, PySem.W.KitX X.K u t Pr ∧ Pr s.heap ∧ u ≠ .builtin "__main__.__loader__#opaque" := by
  rcases ty with ty | ⟨a, C, od, rfl, rfl, ha, hd, hC⟩
  · obtain ⟨Pr, Z, p, hx⟩ := kit_of I rx ty
    exact ⟨Pr, Z, p, hx⟩
  · cases (show u = Value.ref a from rx)
    obtain ⟨oe, oo, J, _⟩ := exn_at I ha hd
    exact ⟨_, PySem.W.exn_kit hC, J, fun z => nomatch z⟩
def rIE (K : Kf) (c : V) (u : Value) : List V → Hp → VK → Prop := fun xs H Q => ∃ (x : V) (t : Value) (b : Bool), xs = [x, c] ∧ TyE K H x t ∧ PySem.W.kitOne K t u = some b ∧ Q (.bl b) H
theorem call_IE {X : Cx} {c : V} {u : Value} (hc : ClsV c u) : CallR X (.builtin "isinstance") (rIE X.K c u) := by
  intro pins s σ H xs us Q I r h
  obtain ⟨x, t, b, rfl, ty, e, q⟩ := h
  obtain ⟨u1, u2, rfl, r1, r2⟩ := vals2 r
  cases hc.eq r2
  obtain ⟨Pr, Z, p, hx⟩ := kit_ofE I r1 ty
  exact PySem.W.kia_one Z I.kIn p e hx fun tk => ⟨.bl b, H, I.tok tk, rfl, q⟩
structure IsiE (K : Kf) (u : Value) (xc : List (Addr × Bool)) : Prop where
  non : PySem.W.kitOne K (.type "NoneType") u = some false
  exn : ∀ q ∈ xc, ExcC K q.1 ∧ PySem.W.kitOne K (.ref q.1) u = some q.2
def isiE (xc : List (Addr × Bool)) : D → Option Bool
  | .exn C _ _ => lk xc C
  | .non => some false
  | _ => none
theorem exd_in {F H : Hp} (sf : SubR F H) {own : Bool} {od : Option Addr} {fvs : List (Str × V)} (h : ExD F own od fvs) : DcIn H od := by
  rcases h with ⟨_, d, e, q⟩ | ⟨_, e, _⟩
  · exact .inr ⟨d, fvs, e, sf.ex q (fun _ z => nomatch z)⟩
  · exact .inl e
theorem isiE_ok {K : Kf} {u : Value} {xc : List (Addr × Bool)} (ok : IsiE K u xc) {H F : Hp} {d : D} {v : V} {r : Bool} (sf : SubR F H) (h : DR K H d v) (e : isiE xc d = some r) : ∃ q, TyE K H v q ∧ PySem.W.kitOne K q u = some r := by
  cases d with
  | non => cases e; cases (show v = _ from h); exact ⟨_, .inl (.base .non), ok.non⟩
  | exn C own fs =>
    obtain ⟨a, od, fvs, rfl, q, x, _⟩ := h
    obtain ⟨h1, h2⟩ := ok.exn _ (lk_mem e)
    exact ⟨_, .inr ⟨a, C, od, rfl, rfl, q, exd_in (SubR.refl _) x, h1⟩, h2⟩
  | bl _ => cases e
  | int _ => cases e
  | str _ => cases e
  | lst _ => cases e
  | tup _ => cases e
  | dct _ => cases e
  | ins _ _ => cases e
  | scr _ => cases e
def oIsE (xc : List (Addr × Bool)) : List T → Option T
  | [t] => (isiE xc t.er).map fun b => .sh (.bl b)
  | _ => none
section
variable {P : Program} {w : World} {base : Heap} {K : Kf} {mg : Str → Option Value} {k : Nat} {ι : Type} {X : ι → Cx} {E : XS} {e : Expr} {pos p p2 p3 : Pos} {m : ME} {x : Str}
theorem eIsE (fm : Fm P w K mg base k X E) {c : V} {u : Value} {cls : Expr} {xc : List (Addr × Bool)} (ha : DE K E X e m) (ok : IsiE K u xc) (kc : ClsV c u) (hc : ∀ j, PE (X j) cls (tC c)) (hm : mg x = none) (hb : bootBuiltins x = some (.builtin "isinstance"))
    (hg : ∀ j, Gl (X j) x := by intro _; rfl) (hn : x ≠ "__name__" := by decide +kernel) (hd : (x == ("__debug__" : Str)) = false := by decide +kernel) (he : ∀ j, starEach [e, cls] (X j).env = (false, eval e (X j).env) :: starEach [cls] (X j).env := by intro _; rfl) (he2 : ∀ j, starEach [cls] (X j).env = (false, eval cls (X j).env) :: starEach [] (X j).env := by intro _; rfl)
    (hp : ∀ j, (backTo pos (starEach [cls] (X j).env)).any (·.1) = false := by intro _; rfl) : DE K E X (.Call (.Name x p) [e, cls] [] pos) (mOp (oIsE xc) (mCons m mNil)) := by
  obtain ⟨t, h1, h2⟩ := ha
  refine ⟨fun σ H Q => (tCons t tNil) σ H fun vs H1 => (match vs with | [v] => rIE K c u [v, c] H1 Q | _ => False), fun j => ?_, ev_op (ev_cons h2 ev_nil) fun B F H ss os us xs t' Q st vr e q => ?_⟩
  · have := pe_callB (pos := pos) (p := p) (call_IE (X := X j) kc) (hg j) (by rw [fm.hm j]; exact hm) hb (pa_cons (h1 j) (pa_cons (hc j) pa_nil (he2 j)) (he j)) hn hd (he j) (hp j)
    rw [fm.hk j] at this
    exact this
  · match us, e with
    | [t], e =>
      obtain ⟨r, e1, rfl⟩ := Option.map_eq_some_iff.mp e
      obtain ⟨v, _, rfl, hv, rfl⟩ := vr
      obtain ⟨q', h3, h4⟩ := isiE_ok ok st.sf.toSubR (hv.dr st.sf) e1
      exact ⟨v, q', r, rfl, h3, h4, q _ H (Same.refl _) (st.push rfl)⟩
end
def isiA : List (List (Addr × Bool)) → D → Option Bool
  | [], d => (isiE [] d).or (match d with | .exn _ _ _ => some false | _ => none)
  | xc :: r, d => (isiE xc d).bind fun b => (isiA r d).map fun b' => b || b'
def oIsA (xcs : List (List (Addr × Bool))) : List T → Option T
  | [t] => (isiA xcs t.er).map fun b => .sh (.bl b)
  | _ => none
def okD : D → Bool
  | .str y => decide (y.length ≤ 1000)
  | .int i => decide (i.natAbs.log2 < 1920)
  | _ => false
def mRaiseF (C : Addr) (f : Str) (m : ME) : MS := fun e => match m e with
  | .ok (v, e1) => match cn v e1 with
    | some (.sh d) => if okD d = true then .ex ⟨C, some [(f, d)]⟩ e1 else .st
    | _ => .st
  | .ex c e1 => .ex c e1
  | .st => .st
end DL
namespace L2
open PySem PySem.Spec PyProof.Rows
def exV (a : Addr) (cls : Value) (d : Option Addr) : HO := .ext fun h => ∃ (oe : Obj) (vs : Array Value), h.get? a = some oe ∧ Zc cls d oe ∧ oe.data = .fields vs
section
variable {X : Cx} {pins : List (Addr × Obj)} {σ : St} {H : Hp} {s : Shared} {a : Addr} {oe : Obj} {vs : Array Value} {cls : Value} {d : Option Addr}
theorem Inv.track (I : Inv X pins σ H s) (he : s.heap.get? a = some oe) (hz : Zc cls d oe) (hd : oe.data = .fields vs) (hn : H a = none) (h0 : X.s_0.heap.get? a = none) (hL : a ≠ X.env.locals) (hp : ∀ q ∈ X.pn ++ pins, q.1 ≠ a) : Inv X pins σ (upd H a (exV a cls d)) s := by
  have new : ∀ {H' : Hp}, ObjOk X.prog X.w H' s.heap a (exV a cls d) := fun {H'} => ⟨⟨oe, vs, he, hz, hd⟩, ⟨oe, he⟩, fun _ _ ⟨o, v, q, r⟩ k => ⟨o, v, k o q, r⟩⟩
  have ne : ∀ {b : Addr} {u : HO}, H b = some u → b ≠ a := fun {b u} e z => by rw [z, hn] at e; cases e
  refine ⟨I.ok, I.os, I.bare, ⟨I.base.keep, I.base.slot, fun b o e n x => ?_, I.base.there, fun b xs e => ?_, fun b o u e => ?_, fun b ps e => ?_⟩, I.loc, I.cell, ?_, fun x c e => ?_, fun q hq => ?_, I.hok.laidN (fun _ _ z => z) hn new, I.len⟩
  · rw [upd_ne (fun z => by rw [z, h0] at e; cases e)]; exact I.base.free b o e n x
  · have q := I.base.tups b xs e; rw [upd_ne (ne q)]; exact q
  · have q := I.base.frzs b o u e; rw [upd_ne (ne q)]; exact q
  · obtain ⟨m, q⟩ := I.base.tbls b ps e; exact ⟨m, by rw [upd_ne (ne q)]; exact q⟩
  · rw [upd_ne (Ne.symm hL)]; exact I.free
  · obtain ⟨v, o, ho, hv⟩ := I.cell x c e
    rw [upd_ne (fun z => by rw [z, he] at ho; cases ho; rw [hd] at hv; cases hv)]
    exact I.freeC x c e
  · obtain ⟨q1, q2, q3⟩ := I.pin q hq
    exact ⟨q1, by rw [upd_ne (hp q hq)]; exact q2, q3⟩
end
def wKept (K : PySem.W.Frag) (c : Value) (i : Nat) (ts : Addr → Value → Option Addr → TS) (Wout : WX) (D : Ends) : WX := fun cls d σ H =>
  ∃ b, PySem.W.exmOne K cls c = some b ∧ (b = false → Wout cls d σ H) ∧
    (b = true → ∀ a, H a = none → ts a cls d { nx := fun σ' H' => H' a = none ∧ D.nx (σ'.set i none) (upd H' a (exV a cls d)), rt := fun _ _ => False } (σ.set i (some (.ref a))) H)
section
variable {X : Cx} {x n : Str} {c : Value} {i : Nat} {body suite : List Stmt} {b₀ : Stmt} {np pos pos' : Pos} {tb : WX → TS} {ts : Addr → Value → Option Addr → TS} {Wout : WX}
theorem ps_try_kept (hex : X.ex = []) (hs : X.stack = X.env :: X.outer) (hf : X.env.frame = some X.env.locals) (hN : X.N.Nodup) (hi : X.N[i]? = some n) (hln : X.env.kindOf n = some .local) (hc : Names X x c) (tk : Takes X Wout)
    (hb : ∀ (W : WX) (pn : List (Addr × Obj)) (xe : Value → Shared → Prop), Takes (X.tr pn xe) W → PassesOwn (model X.prog X.w) X.A X.env xe → PSs (X.tr pn xe) body (tb W))
    (hsu : ∀ (a : Addr) (oe : Obj) (cls : Value) (d : Option Addr) (pn : List (Addr × Obj)), Zc cls d oe → (∃ vs, oe.data = .fields vs) → PSs (X.suite a ((a, oe) :: pn)) (b₀ :: suite) (ts a cls d)) :
    PS X (.Try body [.ExceptHandler (some (.Name x np)) (some n) (b₀ :: suite) pos'] [] [] pos) (fun D σ H => tb (wKept X.K c i ts Wout D) D σ H) := by
  refine ⟨fun pins s σ H D I h => ?_⟩
  have ok := I.ok
  have frm : X.A.frames = some (X.env :: X.outer) := by rw [ok.frames, hs]
  refine wpAny_Try_except (wpAny_mono ((hb (wKept X.K c i ts Wout D) (X.pn ++ pins) (fun u s1 => wpAny (model X.prog X.w) X.A (noteFrame u X.env) (fun _ s2 => wpAny (model X.prog X.w) X.A (setFlight u none) (fun _ s3 =>
    wpAny (model X.prog X.w) X.A (handleBy u X.env [.ExceptHandler (some (.Name x np)) (some n) (b₀ :: suite) pos']) (SP X pins D) X.xe s3) X.xe s2) X.xe s1) (fun u s' q => ?_) PassesOwn.looking).run [] s σ H D (I.toTry _) h) (fun f s1 q => ?_) (fun _ _ z => z))
  case _ =>
    obtain ⟨a, B, sI, pins2, σ2, H2, cls, d, rfl, J0, inB, upB, sky, na, os, ag, b, hb1, hno, hyes⟩ := q
    have J : Inv X pins σ2 H2 sI := J0.ofTry ok
    have sk : Sky B (X.env :: X.outer) a (Zc cls d) X.env.locals s'.heap := by rw [← hs]; exact sky
    show wpAny (model X.prog X.w) X.A (noteFrame (.ref a) X.env) _ _ _
    refine Sky.land Zc.steady frm hf sk fun h3 fl up3 => ?_
    have J3 : Inv X pins σ2 H2 { s' with heap := h3 } := J.landed inB fl.1 (upB.trans up3) os ag
    obtain ⟨o3, v3, e3, z3, d3⟩ := fl.there
    have aB : B.get? a = none := fl.2.1
    have offF : a ∉ frs (X.env :: X.outer) := fun hm => by
      obtain ⟨_, o', e', hnf⟩ := fl.2.2.1.mem hm
      cases e3.symm.trans e'
      exact hnf _ d3
    have nL : a ≠ X.env.locals := fun z => offF (List.mem_filterMap.mpr ⟨X.env, List.mem_cons_self, by rw [hf, z]⟩)
    have nF : a ∉ X.fs := fun hm => by
      obtain ⟨e, he, q⟩ := List.mem_filterMap.mp hm
      exact offF (List.mem_filterMap.mpr ⟨e, List.mem_cons_of_mem _ he, q⟩)
    have aI : sI.heap.get? a = none := by
      cases q : sI.heap.get? a with
      | none => rfl
      | some o => rw [inB a o q (by rw [hs]; exact offF)] at aB; cases aB
    have a0 : X.s_0.heap.get? a = none := by
      cases q : X.s_0.heap.get? a with
      | none => rfl
      | some o =>
        obtain ⟨o', z⟩ := J.base.there a o q (by rw [hex]; exact fun z => nomatch z)
        rw [aI] at z; cases z
    have aP : ∀ q ∈ X.pn ++ pins, q.1 ≠ a := fun q hq z => by
      have := (J.pin q hq).1
      rw [z, aI] at this; cases this
    have S3 := J3.suite e3 d3 na nL nF
    refine wpAny_handleBy_cons (codeAny_handlers_test ?_) (by intro z; cases z)
    have lk := PySem.W.exm_one (M := model X.prog X.w) J3.kIn (fun A Q E s k q => wpAny_typeOf_ref (k _ _ e3) (by rw [z3.1]; exact q)) hb1
    have nm : ∀ {Q : Value → Shared → Prop} {E : Value → Shared → Prop}, Q c { s' with heap := h3 } → wpAny (model X.prog X.w) (X.A.mark (some (.ref a))) (eval (.Name x np) X.env) Q E { s' with heap := h3 } := fun {Q E} q => by
      obtain ⟨h1, h2, h3 | ⟨h3, h4, h5⟩⟩ := hc
      · exact ld_glob (X := X.suite a ((a, o3) :: (X.pn ++ pins))) S3 h1 h3 q h2
      · exact ld_blt (X := X.suite a ((a, o3) :: (X.pn ++ pins))) S3 h1 h3 h4 q h5 h2
    refine nm (lk.here ?_)
    cases b with
    | false =>
      show wpAny _ X.A (handleBy (.ref a) X.env []) _ _ _
      refine wpAny_handleBy_nil ?_
      obtain ⟨_, _, _, o, v, T, oT, t', he, hz, hd, h1, hr⟩ := id fl
      unfold PySem.passOn
      refine wpAny_bind (wpAny_field he hd h1 ?_)
      rw [if_neg (show ¬ ((Value.ref T == Value.none) = true) from by simp)]
      have go : wpAny (model X.prog X.w) X.A (setFlight (.ref a) X.env.frame) (fun _ s4 => wpAny (model X.prog X.w) X.A (throw (.ref a) : Sem Flow) (SP X pins D) X.xe s4) X.xe { s' with heap := h3 } := by
        rw [hf]
        exact HandSPX.setFlight_upZ fl fun h4 hh up4 => wpAny_throw (tk _ _ ⟨a, B, sI, pins, σ2, H2, cls, d, rfl, J, inB, (upB.trans up3).trans up4, .inr (.inr (by rw [hs]; exact hh)), na, os, ag, hno rfl⟩)
      first
        | exact wpAny_bind (wpAny_pure (wpAny_bind go))
        | exact wpAny_bind go
    | true =>
      refine codeAny_handlers_suite_as (HandSPX.lands_againZ fl fun h4 fl4 up4 => ?_)
      have J4 : Inv X pins σ2 H2 { s' with heap := h4 } := J.landed inB fl4.1 ((upB.trans up3).trans up4) os ag
      obtain ⟨o4, v4, e4, z4, d4⟩ := fl4.there
      refine store_ok (X := X.suite a ((a, o4) :: (X.pn ++ pins))) (v := .ref a) (J4.suite e4 d4 na nL nF) hN hi (.inl hln) rfl (fun s5 S5 => ?_) (.inr hln)
      refine wpAny_mono ((hsu a o4 cls d (X.pn ++ pins) z4 ⟨_, d4⟩).run [] s5 _ H2 _ S5 (hyes rfl a na)) (fun f s6 q => ?_) (fun _ _ z => False.elim z)
      cases f with
      | next =>
        obtain ⟨σ6, H6, S6, n6, q6⟩ := q
        have p6 := S6.pin (a, o4) (List.mem_append_left _ List.mem_cons_self)
        exact gone_ok ((S6.unsuite ok).track p6.1 z4 d4 n6 a0 nL aP) hN hi hln fun s7 J7 => ⟨_, _, J7, q6⟩
      | brk => obtain ⟨_, _, _, q6⟩ := q; exact q6.elim
      | cont => obtain ⟨_, _, _, q6⟩ := q; exact q6.elim
      | ret u => obtain ⟨_, _, _, _, _, q6⟩ := q; exact q6.elim
  case _ =>
    cases f with
    | next => obtain ⟨σ', H', J', q⟩ := q; exact wpAny_execs_nil ⟨σ', H', J'.ofTry ok, q⟩
    | brk => obtain ⟨σ', H', J', q⟩ := q; exact ⟨σ', H', J'.ofTry ok, q⟩
    | cont => obtain ⟨σ', H', J', q⟩ := q; exact ⟨σ', H', J'.ofTry ok, q⟩
    | ret u => obtain ⟨v, σ', H', J', r, q⟩ := q; exact ⟨v, σ', H', J'.ofTry ok, r, q⟩
end
end L2
namespace DL
variable [Lf]
open PySem PySem.Spec PyProof.Rows L2 HT
def Exn.D (c : Exn) : D := match c.fs with
  | none => .exn c.C false []
  | some fs => .exn c.C true fs
theorem exV_eq (a C : Addr) (od : Option Addr) : exV a (.ref C) od = exR a C od := rfl
theorem DR.exn {K : Kf} {F : Hp} {c : Exn} {a : Addr} {od : Option Addr} (ha : F a = some (exR a c.C od)) (h : ∀ H, ExOk K F H c od) : DR K F c.D (.ref a) := by
  obtain ⟨C, fs⟩ := c
  cases fs with
  | none => exact ⟨a, od, [], rfl, ha, .inr ⟨rfl, h F, rfl⟩, rfl⟩
  | some fs =>
    obtain ⟨d, fvs, h1, h2, h3⟩ := h F
    exact ⟨a, od, fvs, rfl, ha, .inl ⟨rfl, d, h1, h2⟩, h3⟩
theorem ExOk.mono {K : Kf} {F F' H : Hp} {c : Exn} {od : Option Addr} (s : SubR F F') (h : ExOk K F H c od) : ∀ H', ExOk K F' H' c od := by
  intro H'
  obtain ⟨C, fs⟩ := c
  cases fs with
  | none => exact h
  | some fs =>
    obtain ⟨d, fvs, h1, h2, h3⟩ := h
    exact ⟨d, fvs, h1, s.ex h2 (fun _ z => nomatch z), DRf.mono s h3⟩
def tsKeep (i j : Nat) (_ : Addr) (_ : Value) (_ : Option Addr) : TS := tAsg (tVar i) (gName j)
end DL
namespace DL
variable [Lf]
open PySem PySem.Spec PyProof.Rows L2
abbrev MGn := List D → Env → R (List D × Out)
def gPl (m : MS) : MGn := fun ds e => match m e with
  | .ok o => .ok (ds, o)
  | .ex c e1 => .ex c e1
  | .st => .st
def gYld (m : ME) : MGn := fun ds e => if ds.length < sizeLine then match m e with
  | .ok (.tv (.sh d), e1) => .ok (ds ++ [d], .nx e1)
  | .ok _ => .st
  | .ex c e1 => .ex c e1
  | .st => .st
  else .st
def gSk : MGn := fun ds e => .ok (ds, .nx e)
def gSq (m n : MGn) : MGn := fun ds e => match m ds e with
  | .ok (ds1, .nx e1) => n ds1 e1
  | r => r
def gIf (c : MB) (m n : MGn) : MGn := fun ds e => match c e with
  | .ok (b, e1) => if b = true then m ds e1 else n ds e1
  | .ex c e1 => .ex c e1
  | .st => .st
def loopG (mg : MG) (mb : MGn) : List D → List D → Env → R (List D × Out)
  | [], ds, e => .ok (ds, .nx e)
  | d :: r, ds, e => match mg (.sh d) e with
    | .ok e1 => match mb ds e1 with
      | .ok (ds2, .nx e2) => loopG mg mb r ds2 e2
      | .ok (ds2, .ct e2) => loopG mg mb r ds2 e2
      | .ok (ds2, .bk e2) => .ok (ds2, .nx e2)
      | .ok (ds2, .rt t e2) => .ok (ds2, .rt t e2)
      | .ex c e2 => .ex c e2
      | .st => .st
    | _ => .st
def gFor (mi : MI) (mg : MG) (mb : MGn) : MGn := fun ds e => match mi e with
  | .ok (xs, e1) => loopG mg mb xs ds e1
  | .ex c e1 => .ex c e1
  | .st => .st
inductive FRG where
  | ret (ds : List D) | exc (c : Exn) | st
abbrev MFG := List Slot → FRG
def mListG (cl : List Addr) (n : Nat) (f : MFG) (ms : MA) : ME := fun e => (ms e).bnd fun vs e1 => if vs.length = n then match cns vs e1 with
    | some ts => match f (ts.map argS) with
      | .ret ds => .ok (.tv (.lst (ds.map .sh)), e1)
      | .exc c => if cl.contains c.C = true then .ex c e1 else .st
      | .st => .st
    | none => .st
  else .st
section
variable (m : MS) (me : ME) (a b : MGn) (c : MB) (mi : MI) (mg : MG) (ds : List D) (e : Env)
@[simp] theorem gPl_ap : gPl m ds e = (match m e with | .ok o => .ok (ds, o) | .ex c e1 => .ex c e1 | .st => .st) := rfl
@[simp] theorem gYld_ap : gYld me ds e = (if ds.length < sizeLine then match me e with
  | .ok (.tv (.sh d), e1) => .ok (ds ++ [d], .nx e1)
  | .ok _ => .st
  | .ex c e1 => .ex c e1
  | .st => .st
  else .st) := rfl
@[simp] theorem gSk_ap : gSk ds e = .ok (ds, .nx e) := rfl
@[simp] theorem gSq_ap : gSq a b ds e = (match a ds e with
  | .ok (ds1, .nx e1) => b ds1 e1
  | r => r) := rfl
@[simp] theorem gIf_ap : gIf c a b ds e = (match c e with
  | .ok (b1, e1) => if b1 = true then a ds e1 else b ds e1
  | .ex c e1 => .ex c e1
  | .st => .st) := rfl
@[simp] theorem gFor_ap : gFor mi mg a ds e = (match mi e with
  | .ok (xs, e1) => loopG mg a xs ds e1
  | .ex c e1 => .ex c e1
  | .st => .st) := rfl
@[simp] theorem mListG_ap (cl : List Addr) (n : Nat) (f : MFG) (ms : MA) : mListG cl n f ms e = (ms e).bnd fun vs e1 => if vs.length = n then match cns vs e1 with
    | some ts => match f (ts.map argS) with
      | .ret ds => .ok (.tv (.lst (ds.map .sh)), e1)
      | .exc c => if cl.contains c.C = true then .ex c e1 else .st
      | .st => .st
    | none => .st
  else .st := rfl
end
end DL
namespace DL
variable [Lf]
open PySem PySem.Spec PyProof.Rows L2 HT
theorem kit_exc {K : Kf} {C : Addr} {t : Value} {b : Bool} (hd : PySem.W.hasDictIn K C = true) (ty : PySem.W.typeIn K (.ref C) = some (.type "type")) (ne : t ≠ .ref C) (h : PySem.W.subIn K t (.ref C) = some b) : PySem.W.kitOne K t (.ref C) = some b := by
  unfold PySem.W.kitOne
  rw [if_neg (by simpa using ne)]
  obtain ⟨cd, hc, _⟩ := PySem.W.any_some hd
  show (if ((PySem.W.clsIn K C).isSome && PySem.W.typeIn K (.ref C) == some (.type "type")) = true then PySem.W.subIn K t (.ref C) else none) = some b
  rw [if_pos (by rw [hc, ty]; simp)]
  exact h
theorem excC_of {K : Kf} {D : Addr} (a : PySem.W.findIn K (.ref D) "__getattribute__" = some (some (.builtin "BaseException.__getattribute__"))) (b : PySem.W.findIn K (.ref D) "__getattr__" = some none) (c : PySem.W.subIn K (.ref D) (.type "BaseException") = some true) (d : PySem.W.hasDictIn K D = true)
    (e : PySem.W.findIn K (.ref D) "__class__" = some (some (.builtin "object.__class__"))) (f : PySem.W.specialIn K (.builtin "object.__class__") "__get__" = some (some (.builtin "getset_descriptor.__get__"))) (g : PySem.W.takesIn K (.builtin "object.__class__") = some true) (h : PySem.W.mroIn K D (.type "object") = some true) : ExcC K D := ⟨a, b, c, d, e, f, g, h⟩
end DL
namespace PySem.SeqAt
open PySem PySem.Spec PyProof.Rows
end PySem.SeqAt
namespace DL
variable [Lf]
open PySem PySem.Spec PyProof.Rows L2 HT
theorem strs_at {A : Around} {s : Shared} {v : Value} (h : ∀ (z : Str) (t : Tok), SeqAt.EqAt A s (.str z t) v false) : ∀ {l : List Str} {us : List Value}, Vals (l.map V.str) us → ∀ w ∈ us, SeqAt.EqAt A s w v false
  | [], us, r, w, hw => by cases r; cases hw
  | z :: l, us, r, w, hw => by
    cases r with
    | cons r1 r2 =>
      obtain ⟨t, rfl⟩ := r1
      rcases List.mem_cons.mp hw with e | e
      · rw [e]; exact h z t
      · exact strs_at h r2 w e
end DL
namespace DL
variable [Lf]
open PySem PySem.Spec PyProof.Rows L2
section
variable {P : Program} {w : World} {base : Heap} {K : Kf} {mg : Str → Option Value} {k : Nat} {ι : Type} {X : ι → Cx} {E : XS} {e o : Expr} {es : List Expr} {pos apos p : Pos} {m : ME} {ms : MA} {x : Str}
def xIdxB : List T → Option T
  | [t, .sh (.bl k)] => (kidsL t).bind fun ds => (blsD ds).bind fun l => if k ∈ l then some (.sh (.int (l.idxOf k : Nat))) else none
  | _ => none
theorem on_idxB : OpN K (rFst (rIndex K)) xIdxB := by
  intro B F H ss os us xs t' Q st vr e q
  unfold xIdxB at e
  split at e
  · rename_i t b
    obtain ⟨x, _, rfl, vx, y, _, rfl, vy, rfl⟩ := vr
    obtain ⟨ds, e1, e⟩ := Option.bind_eq_some_iff.mp e
    obtain ⟨l, e2, e⟩ := Option.bind_eq_some_iff.mp e
    by_cases hb : b ∈ l
    case neg => rw [if_neg hb] at e; cases e
    rw [if_pos hb] at e
    cases e
    obtain ⟨p, vs, rfl, hq, r⟩ := kidsL_ok st.sf e1 vx
    cases (show y = V.bl b from vy)
    rw [blsD_ok e2 r] at hq
    have hlt : l.idxOf b < l.length := List.idxOf_lt_length_iff.mpr hb
    refine ⟨p, l.map V.bl, .bl b, l.idxOf b, .bl b, rfl, rfl, .inl (.inl hq), rfl, by simp [List.all_eq_true, flatV], ?_, by simp [eqV], fun m z hm hz => ?_, q _ _ (Same.refl _) (st.push (d := .int _) rfl)⟩
    · rw [List.getElem?_map, List.getElem?_eq_getElem hlt, List.getElem_idxOf hlt]; rfl
    · obtain ⟨b', hb', rfl⟩ := List.getElem?_map ▸ hz |> Option.map_eq_some_iff.mp
      have hml : m < l.length := by omega
      rw [List.getElem?_eq_getElem hml] at hb'
      cases hb'
      have := List.not_of_lt_findIdx (p := fun x => x == b) (xs := l) (i := m) hm
      simp only [eqV]
      simpa using this
  · cases e
theorem mIdxB (fm : Fm P w K mg base k X E) : Mr K X "index" isL xIdxB :=
  ⟨"list", "list.index", tyL K, rIndex K, F.plainAttrs_list, F.slot_list_index, F.type_list_index, fun j => (by have := tyL_ok (X := X j); rw [fm.hk j] at this; exact this), fun j => (by have := mt_index (X := X j); rw [fm.hk j] at this; exact this), on_idxB, fun t x F H c r sf => isL_ok c r sf⟩
end
def mCallT (n : Nat) (f : MF) (ms : MA) : ME := fun e => (ms e).bnd fun vs e1 => if vs.length = n then match vs with
  | .tv u :: rest => match cns rest e1 with
    | some ts => match f (.mu u :: ts.map argS) with
      | .ret r (some _) => .ok (.tv r, e1)
      | .exc c (some _) => .ex c e1
      | _ => .st
    | none => .st
  | _ => .st
  else .st
@[simp] theorem mCallT_ap (n : Nat) (f : MF) (ms : MA) (e : Env) : mCallT n f ms e = (ms e).bnd fun vs e1 => if vs.length = n then match vs with
  | .tv u :: rest => match cns rest e1 with
    | some ts => match f (.mu u :: ts.map argS) with
      | .ret r (some _) => .ok (.tv r, e1)
      | .exc c (some _) => .ex c e1
      | _ => .st
    | none => .st
  | _ => .st
  else .st := rfl
inductive FR2 where
  | ret (t u1 u2 : T) | st
def fin2 (t : T) : Env → FR2
  | .mu u1 :: .mu u2 :: _ => .ret t u1 u2
  | _ => .st
def okP : List Val → Bool
  | [] => true
  | .tv _ :: r => okP r
  | .pl _ [] :: r => okP r
  | .pl _ (_ :: _) :: _ => false
def oUpper : List D → Option D
  | [.str a] => if a.length ≤ 5592405 then some (.str (Txt.upper a)) else none
  | _ => none
def xUpper := liftD oUpper
@[simp] theorem xUpper_str (a : Str) : xUpper [.sh (.str a)] = if a.length ≤ 5592405 then some (.sh (.str (Txt.upper a))) else none := by
  simp only [xUpper, liftD, List.map_cons, List.map_nil, T.er, oUpper]
  split <;> rfl
end DL
namespace DL
variable [Lf]
open PySem PySem.Spec PyProof.Rows L2 HT
def mShA (ms : MA) : ME := fun e => (ms e).bnd fun vs e1 => match cns vs e1 with
  | some us => match oSh us with
    | some t => .ok (.tv t, e1)
    | none => match us with
      | [.sh (.tup ds), .sh (.int i)] => .ok (.tv (.sh (.tup (cut ds none (some i)))), e1)
      | _ => .st
  | none => .st
def mAddA (ms : MA) : ME := fun e => (ms e).bnd fun vs e1 => match cns vs e1 with
  | some us => match xAdd us with
    | some t => .ok (.tv t, e1)
    | none => match us with
      | [.sh (.tup a), .sh (.tup b)] => if a.length + b.length ≤ 4096 then .ok (.tv (.sh (.tup (a ++ b))), e1) else .st
      | _ => .st
  | none => .st
@[simp] theorem mShA_ap (ms : MA) (e : Env) : mShA ms e = (ms e).bnd fun vs e1 => match cns vs e1 with
  | some us => match oSh us with
    | some t => .ok (.tv t, e1)
    | none => match us with
      | [.sh (.tup ds), .sh (.int i)] => .ok (.tv (.sh (.tup (cut ds none (some i)))), e1)
      | _ => .st
  | none => .st := rfl
@[simp] theorem mAddA_ap (ms : MA) (e : Env) : mAddA ms e = (ms e).bnd fun vs e1 => match cns vs e1 with
  | some us => match xAdd us with
    | some t => .ok (.tv t, e1)
    | none => match us with
      | [.sh (.tup a), .sh (.tup b)] => if a.length + b.length ≤ 4096 then .ok (.tv (.sh (.tup (a ++ b))), e1) else .st
      | _ => .st
  | none => .st := rfl
end DL
namespace DL
variable [Lf]
open PySem PySem.Spec PyProof.Rows L2
def mSrcF (m : ME) : MI := fun e => (m e).bnd fun v e1 => match frzV v e1 with
  | some (d, e2) => match seqT (.sh d) with
    | some ds => .ok (ds, e2)
    | none => .st
  | none => .st
def loopC2 (vs : List Nat) (mg : MG) (mt : MB) (mi1 : MI) (vs1 : List Nat) (mg1 : MG) (mt1 : MB) (me : ME) : List D → List T → Env → R (List T × Env)
  | [], acc, e => .ok (acc, e)
  | d :: r, acc, e => match mg (.sh d) (wpE e vs) with
    | .ok e1 => match mt e1 with
      | .ok (b, e2) => if b = true then match mi1 e2 with
          | .ok (ds1, e3) => match loopC vs1 mg1 mt1 me ds1 acc e3 with
            | .ok (acc', e4) => loopC2 vs mg mt mi1 vs1 mg1 mt1 me r acc' e4
            | _ => .st
          | _ => .st
        else loopC2 vs mg mt mi1 vs1 mg1 mt1 me r acc e2
      | _ => .st
    | _ => .st
def mLc2 (vs : List Nat) (mi : MI) (mg : MG) (mt : MB) (mi1 : MI) (vs1 : List Nat) (mg1 : MG) (mt1 : MB) (me : ME) : ME := fun e => (mi e).bnd fun ds e1 => if litesAt e1 vs = true then match loopC2 vs mg mt mi1 vs1 mg1 mt1 me ds [] e1 with
    | .ok (ts, e2) => .ok (.tv (.lst ts), rst e1 vs e2)
    | _ => .st
  else .st
@[simp] theorem mLc2_ap (vs : List Nat) (mi : MI) (mg : MG) (mt : MB) (mi1 : MI) (vs1 : List Nat) (mg1 : MG) (mt1 : MB) (me : ME) (e : Env) : mLc2 vs mi mg mt mi1 vs1 mg1 mt1 me e = (mi e).bnd fun ds e1 => if litesAt e1 vs = true then match loopC2 vs mg mt mi1 vs1 mg1 mt1 me ds [] e1 with
    | .ok (ts, e2) => .ok (.tv (.lst ts), rst e1 vs e2)
    | _ => .st
  else .st := rfl
@[simp] theorem mSrcF_ap (m : ME) (e : Env) : mSrcF m e = (m e).bnd fun v e1 => match frzV v e1 with
  | some (d, e2) => match seqT (.sh d) with
    | some ds => .ok (ds, e2)
    | none => .st
  | none => .st := rfl
def rtOk (C : Addr) (tb : String → Bool) (ic : List (Addr × Bool)) (b : T) : Bool := isC C b || (isiF tb ic b.er == some false)
def mOwnA (C : Addr) (tb : String → Bool) (ic : List (Addr × Bool)) (f : MF) (neg : Bool) (ms : MA) : ME := fun e => (ms e).bnd fun vs e1 => match cns vs e1 with
  | some [a, b] => if isC C a = true ∧ rtOk C tb ic b = true then match nxF f [argS a, argS b] with
      | .ret (.sh (.bl r)) none => .ok (.tv (.sh (.bl (if neg then !r else r))), e1)
      | _ => .st
    else .st
  | _ => .st
@[simp] theorem mOwnA_ap (C : Addr) (tb : String → Bool) (ic : List (Addr × Bool)) (f : MF) (neg : Bool) (ms : MA) (e : Env) : mOwnA C tb ic f neg ms e = (ms e).bnd fun vs e1 => match cns vs e1 with
  | some [a, b] => if isC C a = true ∧ rtOk C tb ic b = true then match nxF f [argS a, argS b] with
      | .ret (.sh (.bl r)) none => .ok (.tv (.sh (.bl (if neg then !r else r))), e1)
      | _ => .st
    else .st
  | _ => .st := rfl
end DL
namespace DL
variable [Lf]
open PySem PySem.Spec PyProof.Rows L2 PySem.W
end DL
namespace DL
variable [Lf]
open PySem PySem.Spec PyProof.Rows L2
theorem St.sameB {K : Kf} {B F H H' : Hp} {ss : List Slot} {os : List (Option V)} (h : St K B F H ss os) (s : Bs K H H') : St K B F H' ss os := by
  obtain ⟨S, f, nd, k⟩ := h.fp
  exact ⟨h.sb.step s, h.sf.transB s, S, f.imp fun c d Sc hS z => z.mono (SubR.refl _) fun a ha o e => s.ex a o e (by
    obtain ⟨o', ho, w⟩ := f.hasO a (hS a ha)
    rw [e] at ho; cases ho
    exact w.nt), nd, k⟩
end DL
namespace L2
open PySem PySem.Spec PyProof.Rows GenW
end L2
namespace DL
variable [Lf]
open PySem PySem.Spec PyProof.Rows L2
theorem Df.stuck {P : Program} {w : World} {K : Kf} {mg : Str → Option Value} {base : Heap} {k n : Nat} {g : Addr} {fd : FuncData} {ps : List Str} (kp : PySem.W.keepIn K (.ref g) = true) (B : Binds K fd ps []) : Df P w K mg base k n (fun _ => .st) g :=
  ⟨kp, fd, ps, ⟨fun vs H Q E h => (by obtain ⟨_, _, _, _, _, _, z⟩ := h; exact z.elim), fun A out s H args us vs Q E _ _ _ _ _ h => (by obtain ⟨_, _, _, _, _, _, z⟩ := h; exact z.elim)⟩, B⟩
end DL
namespace DL
variable [Lf]
open PySem PySem.Spec PyProof.Rows L2 PySem.W
end DL
namespace DL
variable [Lf]
open PySem PySem.Spec PyProof.Rows L2
end DL
namespace DL
variable [Lf]
open PySem PySem.Spec PyProof.Rows L2 SrtO PySem.Froz
def inT (xs : List Str) : Nat → List Str
  | 0 => []
  | i + 1 => if xs.getD i Str.empty ∈ inT xs i then inT xs i else xs.getD i Str.empty :: inT xs i
end DL
namespace W
open PySem PySem.Spec PyProof.Rows L2 DL
def fuel : Nat := 1000
structure Cs where
  ad : Nat → Addr
  on : List Nat
  inj : ∀ i ∈ on, ∀ j ∈ on, ad i = ad j → i = j
  xs : List Nat
  injx : ∀ i ∈ xs, ∀ j ∈ xs, ad i = ad j → i = j
abbrev Cs.Groups (c : Cs) : Addr := c.ad 0
abbrev Cs.Roll (c : Cs) : Addr := c.ad 1
abbrev Cs.Plan (c : Cs) : Addr := c.ad 6
abbrev Cs.QuotaError (c : Cs) : Addr := c.ad 20
abbrev Cs.InvalidGroups (c : Cs) : Addr := c.ad 24
abbrev Cs.UnknownGroup (c : Cs) : Addr := c.ad 25
def tb_str : String → Bool := fun n => n == "str"
def ic_str (c : Cs) : List (Addr × Bool) := c.on.map fun i => (c.ad i, false)
def tb_dict : String → Bool := fun n => n == "dict"
def ic_dict (c : Cs) : List (Addr × Bool) := c.on.map fun i => (c.ad i, false)
def ix_InvalidGroups (c : Cs) : List (Addr × Bool) := c.xs.map fun i => (c.ad i, decide (i = 24))
def ix_UnknownGroup (c : Cs) : List (Addr × Bool) := c.xs.map fun i => (c.ad i, decide (i = 25))
def cx_QuotaError (c : Cs) : List (Addr × Bool) := c.xs.map fun i => (c.ad i, true)
def c_is_name_0 (c : Cs) : ME := mLc [1] (mSrc anyT (mN 0)) (gN 1) ((fun e => .ok (true, e))) (mOp xIn (mCons (mN 1) (mCons (mC (.str "abcdefghijklmnopqrstuvwxyz")) mNil)))
def b_is_name (c : Cs) : MS := mRet (mAndV (mOp (oIsi tb_str (ic_str c)) (mCons (mN 0) mNil)) (mAndV (mChain xLe xLe (mC (.int 1)) (mOp xLen (mCons (mN 0) (mNil))) (mC (.int 8))) (mOp xAll (mCons (c_is_name_0 c) (mNil)))))
def f_is_name (c : Cs) : MF := bodyF 2 (b_is_name c)
def l_Groups_made_path_0 (c : Cs) : MS := whileS (mTst asB (mOp xIsNot (mCons (mN 1) (mCons (mC .non) mNil)))) (mSeq (mDrop (mMut isL gAppend (mN 2) (mCons (mK (mN 1)) (mNil))))
 (mAsg (mIx (mAttr c.Groups "parent_of" (mN 0)) (mN 1)) (gN 1))) fuel
def b_Groups_made_path (c : Cs) : MS := mSeq (mAsg (mLst (mNil)) (gN 2))
 (mSeq (l_Groups_made_path_0 c)
 (mRet (mN 2)))
def f_Groups_made_path (c : Cs) : MF := bodyF 3 (b_Groups_made_path c)
def l_has_ring_0 (c : Cs) : MS := whileS (mAnd (mTst asB (mOp xIsNot (mCons (mN 2) (mCons (mC .non) mNil)))) (mTst asB (mOp xNotIn (mCons (mN 2) (mCons (mN 1) mNil))))) (mSeq (mIfS (mTst asB (mOp xIn (mCons (mN 2) (mCons (mN 3) mNil)))) (mRet (mC (.bl true))) (mSkip))
 (mSeq (mPut (mC (.bl true)) (mN 3) (mN 2))
 (mAsg (mIx (mN 0) (mN 2)) (gN 2)))) fuel
def l_has_ring_1 (c : Cs) : MS := mForL (mSrc anyT (mN 0)) (gN 2) (mSeq (mAsg (mNewD) (gN 3))
 (mSeq (l_has_ring_0 c)
 (mDrop (mMut isDc gUpdate (mN 1) (mCons (mF (mN 3)) (mNil))))))
def b_has_ring (c : Cs) : MS := mSeq (mAsg (mNewD) (gN 1))
 (mSeq (l_has_ring_1 c)
 (mRet (mC (.bl false))))
def f_has_ring (c : Cs) : MF := bodyF 4 (b_has_ring c)
def c_Groups___init_0 (c : Cs) : ME := mLc [2] (mSrc anyT (mN 1)) (gN 2) ((fun e => .ok (true, e))) (mCall 1 (f_is_name c) (mCons (mN 2) (mNil)))
def c_Groups___init_1 (c : Cs) : ME := mLc [3] (mSrc valsT (mN 1)) (gN 3) ((fun e => .ok (true, e))) (mOrV (mOp xIs (mCons (mN 3) (mCons (mC .non) mNil))) (mAndV (mCall 1 (f_is_name c) (mCons (mN 3) (mNil))) (mOp xIn (mCons (mN 3) (mCons (mN 1) mNil)))))
def c_Groups___init_2 (c : Cs) : ME := mDc [2] (mSrc anyT (mOp ySorted (mCons (mN 1) (mNil)))) (gN 2) ((fun e => .ok (true, e))) (mN 2) (mIx (mN 1) (mN 2))
def c_Groups___init_3 (c : Cs) : ME := mDc [2] (mSrc anyT (mAttr c.Groups "parent_of" (mN 0))) (gN 2) ((fun e => .ok (true, e))) (mN 2) (mMeth c.Groups "made_path" 2 (f_Groups_made_path c) (mN 0) (mCons (mN 2) (mNil)))
def b_Groups___init (c : Cs) : MS := mSeq (mIfS (mOr (mNot (mTst truF (mOp (oIsi tb_dict (ic_dict c)) (mCons (mN 1) mNil)))) (mNot (mTst truF (mOp xAll (mCons (c_Groups___init_0 c) (mNil)))))) (mRaise c.InvalidGroups) (mSkip))
 (mSeq (mIfS (mNot (mTst truF (mOp xAll (mCons (c_Groups___init_1 c) (mNil))))) (mRaise c.InvalidGroups) (mSkip))
 (mSeq (mIfS (mTst truF (mCall 1 (f_has_ring c) (mCons (mN 1) (mNil)))) (mRaise c.InvalidGroups) (mSkip))
 (mSeq (mFld c.Groups "parent_of" (c_Groups___init_2 c) (mN 0))
 (mFld c.Groups "paths" (c_Groups___init_3 c) (mN 0)))))
def f_Groups___init (c : Cs) : MF := bodyF 4 (b_Groups___init c)
def b_Groups_check (c : Cs) : MS := mIfS (mOr (mNot (mTst truF (mOp (oIsi tb_str (ic_str c)) (mCons (mN 1) mNil)))) (mTst asB (mOp xNotIn (mCons (mN 1) (mCons (mAttr c.Groups "parent_of" (mN 0)) mNil))))) (mRaise c.UnknownGroup) (mSkip)
def f_Groups_check (c : Cs) : MF := bodyF 2 (b_Groups_check c)
def c_Groups_below_0 (c : Cs) : ME := mLc [2] (mSrc anyT (mAttr c.Groups "parent_of" (mN 0))) (gN 2) (mAnd (mTst asB (mOp xNe (mCons (mN 2) (mCons (mN 1) mNil)))) (mTst asB (mOp xIn (mCons (mN 1) (mCons (mIx (mAttr c.Groups "paths" (mN 0)) (mN 2)) mNil))))) (mN 2)
def b_Groups_below (c : Cs) : MS := mSeq (mDrop (mMeth c.Groups "check" 2 (f_Groups_check c) (mN 0) (mCons (mN 1) (mNil))))
 (mRet (c_Groups_below_0 c))
def f_Groups_below (c : Cs) : MF := bodyF 3 (b_Groups_below c)
def b_Groups_parents (c : Cs) : MS := mRet (mOp (fun us => (oDictD us).or (oDictP us)) (mCons (mAttr c.Groups "parent_of" (mN 0)) (mNil)))
def f_Groups_parents (c : Cs) : MF := bodyF 1 (b_Groups_parents c)
def b_Groups_path (c : Cs) : MS := mSeq (mDrop (mMeth c.Groups "check" 2 (f_Groups_check c) (mN 0) (mCons (mN 1) (mNil))))
 (mRet (mOp xList (mCons (mIx (mAttr c.Groups "paths" (mN 0)) (mN 1)) (mNil))))
def f_Groups_path (c : Cs) : MF := bodyF 2 (b_Groups_path c)
def b_law_next (c : Cs) : MS := mSeq (mAsg (mIx (mN 0) (mC (.int 1))) (gN 1))
 (mSeq (mPut (mOp xAdd (mCons (mN 1) (mCons (mC (.int 1)) mNil))) (mN 0) (mC (.int 1)))
 (mSeq (mAsg (mOp xAdd (mCons (mOp xMul (mCons (mN 1) (mCons (mC (.int 1051)) mNil))) (mCons (mC (.int 31)) mNil))) (gN 2))
 (mSeq (mIfS (mTst asB (mOp xNe (mCons (mIx (mN 0) (mC (.int 0))) (mCons (mLst (mNil)) mNil)))) (mAsg (mIx (mIx (mN 0) (mC (.int 0))) (mOp xMod (mCons (mN 1) (mCons (mOp xLen (mCons (mIx (mN 0) (mC (.int 0))) (mNil))) mNil)))) (gN 2)) (mSkip))
 (mSeq (mIfS (mAnd (mTst asB (mOp xLt (mCons (mN 1) (mCons (mOp xLen (mCons (mIx (mN 0) (mC (.int 0))) (mNil))) mNil)))) (mTst asB (mOp xGe (mCons (mN 2) (mCons (mOp xPow (mCons (mC (.int 10)) (mCons (mC (.int 18)) mNil))) mNil))))) (mRet (mN 2)) (mSkip))
 (mSeq (mAsg (mOp xMod (mCons (mOp xAdd (mCons (mOp xAdd (mCons (mOp xMod (mCons (mN 2) (mCons (mC (.int 2147483587)) mNil))) (mCons (mOp xMul (mCons (mN 1) (mCons (mC (.int 60083)) mNil))) mNil))) (mCons (mC (.int 59)) mNil))) (mCons (mC (.int 2147483587)) mNil))) (gN 3))
 (mSeq (mAsg (mOp xMod (mCons (mOp xAdd (mCons (mOp xAdd (mCons (mOp xMul (mCons (mN 3) (mCons (mN 3) mNil))) (mCons (mOp xMul (mCons (mN 1) (mCons (mC (.int 20011)) mNil))) mNil))) (mCons (mC (.int 41)) mNil))) (mCons (mC (.int 2147483563)) mNil))) (gN 4))
 (mSeq (mAsg (mOp xMod (mCons (mOp xAdd (mCons (mOp xAdd (mCons (mOp xMul (mCons (mN 4) (mCons (mN 4) mNil))) (mCons (mN 3) mNil))) (mCons (mOp xMul (mCons (mOp xMul (mCons (mN 1) (mCons (mN 1) mNil))) (mCons (mC (.int 17)) mNil))) mNil))) (mCons (mC (.int 2147483549)) mNil))) (gN 5))
 (mRet (mOp xAdd (mCons (mOp xMul (mCons (mOp xAdd (mCons (mOp xMul (mCons (mN 5) (mCons (mC (.int 2147483587)) mNil))) (mCons (mN 4) mNil))) (mCons (mC (.int 2147483563)) mNil))) (mCons (mN 3) mNil)))))))))))
def f_law_next (c : Cs) : MF := bodyF 6 (b_law_next c)
def b_law_draw (c : Cs) : MS := mSeq (mIfS (mTst asB (mOp xLt (mCons (mIx (mN 0) (mC (.int 2))) (mCons (mN 1) mNil)))) (mPut (mCallM 1 (f_law_next c) (mCons (mN 0) (mNil))) (mN 0) (mC (.int 2))) (mSkip))
 (mSeq (mAsg (mOp xMod (mCons (mIx (mN 0) (mC (.int 2))) (mCons (mN 1) mNil))) (gN 2))
 (mSeq (mPut (mOp xDiv (mCons (mIx (mN 0) (mC (.int 2))) (mCons (mN 1) mNil))) (mN 0) (mC (.int 2)))
 (mRet (mN 2))))
def f_law_draw (c : Cs) : MF := bodyF 3 (b_law_draw c)
def c_law_any_0 (c : Cs) (fR : MF) : ME := mLc [4] (mR1 (mCons (mCallM 2 (f_law_draw c) (mCons (mN 0) (mCons (mC (.int 4)) (mNil)))) (mNil))) (gN 4) ((fun e => .ok (true, e))) (mF (mCallM 2 (fR) (mCons (mN 0) (mCons (mOp xSub (mCons (mN 1) (mCons (mC (.int 1)) mNil))) (mNil)))))
def c_law_any_1 (c : Cs) : ME := mLc [5] (mR1 (mCons (mOp xLen (mCons (mN 3) (mNil))) (mNil))) (gN 5) ((fun e => .ok (true, e))) (mTup (mCons (mF (mIx (mLst (mCons (mC (.str "a")) (mCons (mC (.str "b")) (mCons (mC (.str "c")) (mCons (mC (.int 0)) (mNil)))))) (mN 5))) (mCons (mF (mIx (mN 3) (mN 5))) (mNil))))
def b_law_any (c : Cs) (fR : MF) : MS := mSeq (mAsg (mCallM 2 (f_law_draw c) (mCons (mN 0) (mCons (mIf (mTst asB (mOp xGt (mCons (mN 1) (mCons (mC (.int 0)) mNil)))) (mC (.int 15)) (mC (.int 11))) (mNil)))) (gN 2))
 (mSeq (mIfS (mTst asB (mOp xLt (mCons (mN 2) (mCons (mC (.int 11)) mNil)))) (mRet (mIx (mLst (mCons (mC (.int 0)) (mCons (mC (.int 1)) (mCons (mF (mOp xNeg (mCons (mC (.int 1)) mNil))) (mCons (mC (.bl true)) (mCons (mC .non) (mCons (mC (.str "")) (mCons (mC (.str "0")) (mCons (mC (.str "a")) (mCons (mC (.str "aA")) (mCons (mF (mOp xPow (mCons (mC (.int 10)) (mCons (mC (.int 39)) mNil)))) (mCons (mC (.str "10")) (mNil))))))))))))) (mN 2))) (mSkip))
 (mSeq (mAsg (c_law_any_0 c fR) (gN 3))
 (mSeq (mIfS (mTst asB (mOp yEq (mCons (mN 2) (mCons (mC (.int 11)) mNil)))) (mRet (mN 3)) (mSkip))
 (mSeq (mIfS (mTst asB (mOp yEq (mCons (mN 2) (mCons (mC (.int 12)) mNil)))) (mRet (mOp (fun us => (oDictD us).or (oDictP us)) (mCons (mF (c_law_any_1 c)) (mNil)))) (mSkip))
 (mRet (mTupOf (mN 3)))))))
def g_law_any : Nat → Cs → MF
  | 0, _ => fun _ => .st
  | n + 1, c => bodyF 6 (b_law_any c (g_law_any n c))
def f_law_any (c : Cs) : MF := g_law_any 50 c
def c_law_some_0 (c : Cs) : ME := mLc [4] (mR1 (mCons (mCallM 2 (f_law_draw c) (mCons (mN 0) (mCons (mOp xAdd (mCons (mOp xMin (mCons (mN 2) (mCons (mOp xLen (mCons (mN 3) (mNil))) (mNil)))) (mCons (mC (.int 1)) mNil))) (mNil)))) (mNil))) (gN 4) ((fun e => .ok (true, e))) (mMut isL gPopAt (mN 3) (mCons (mCallM 2 (f_law_draw c) (mCons (mN 0) (mCons (mOp xLen (mCons (mN 3) (mNil))) (mNil)))) (mNil)))
def b_law_some (c : Cs) : MS := mSeq (mAsg (mOp xList (mCons (mN 1) (mNil))) (gN 3))
 (mRet (c_law_some_0 c))
def f_law_some (c : Cs) : MF := bodyF 5 (b_law_some c)
def l_law_forest_0 (c : Cs) : MS := mForL (mSrc anyT (mCallM 3 (f_law_some c) (mCons (mN 0) (mCons (mLst (mCons (mC (.str "a")) (mCons (mC (.str "ab")) (mCons (mC (.str "b")) (mCons (mC (.str "c")) (mCons (mC (.str "main")) (mCons (mC (.str "over")) (mCons (mC (.str "abcdefgh")) (mCons (mC (.str "under")) (mNil)))))))))) (mCons (mN 1) (mNil)))))) (gN 3) (mSeq (mAsg (mOp xList (mCons (mN 2) (mNil))) (gN 4))
 (mPut (mIf (mAnd (mTst asB (mOp xNe (mCons (mN 4) (mCons (mLst (mNil)) mNil)))) (mTst asB (mOp xGt (mCons (mCallM 2 (f_law_draw c) (mCons (mN 0) (mCons (mC (.int 4)) (mNil)))) (mCons (mC (.int 0)) mNil))))) (mIx (mN 4) (mCallM 2 (f_law_draw c) (mCons (mN 0) (mCons (mOp xLen (mCons (mN 4) (mNil))) (mNil))))) (mC .non)) (mN 2) (mN 3)))
def b_law_forest (c : Cs) : MS := mSeq (mAsg (mNewD) (gN 2))
 (mSeq (l_law_forest_0 c)
 (mSeq (mAsg (mItems (mN 2)) (gN 5))
 (mRet (mOp (fun us => (oDictD us).or (oDictP us)) (mCons (mF (mOp oStep (mCons (mN 5) (mCons (mChk isIntT (mIx (mLst (mCons (mC (.int 1)) (mCons (mF (mOp xNeg (mCons (mC (.int 1)) mNil))) (mNil)))) (mCallM 2 (f_law_draw c) (mCons (mN 0) (mCons (mC (.int 2)) (mNil)))))) mNil)))) (mNil))))))
def f_law_forest (c : Cs) : MF := bodyF 6 (b_law_forest c)
def c_law_is_name_v1_0 (c : Cs) : ME := mLc [1] (mSrc anyT (mN 0)) (gN 1) ((fun e => .ok (true, e))) (mChain xLe xLe (mC (.str "a")) (mN 1) (mC (.str "z")))
def b_law_is_name_v1 (c : Cs) : MS := mSeq (mIfS (mOr (mNot (mTst truF (mOp (oIsi tb_str (ic_str c)) (mCons (mN 0) mNil)))) (mNot (mTst asB (mChain xLe xLe (mC (.int 1)) (mOp xLen (mCons (mN 0) (mNil))) (mC (.int 8)))))) (mRet (mC (.bl false))) (mSkip))
 (mRet (mOp xAll (mCons (c_law_is_name_v1_0 c) (mNil))))
def f_law_is_name_v1 (c : Cs) : MF := bodyF 2 (b_law_is_name_v1 c)
def b_law_pen (c : Cs) : MS := mRet (mLst (mCons (mK (mOp xList (mCons (mF (mOp oSh (mCons (mN 0) (mCons (mC (.int 60)) mNil)))) (mNil)))) (mCons (mC (.int 0)) (mCons (mC (.int 0)) (mNil)))))
def f_law_pen (c : Cs) : MF := bodyF 1 (b_law_pen c)
end W
namespace DL
variable [Lf]
open PySem PySem.Spec PyProof.Rows L2
def repS (z : Str) (k : Nat) : Str := ⟨(List.replicate k z.cps).foldl (· ++ ·) #[]⟩
theorem foldl_size : ∀ (l : List (Array Nat)) (a : Array Nat), (l.foldl (· ++ ·) a).size = a.size + (l.map (·.size)).sum
  | [], a => by simp
  | x :: r, a => by
    rw [List.foldl_cons, foldl_size r, List.map_cons, List.sum_cons, Array.size_append]
    omega
theorem repS_len (z : Str) (k : Nat) : (repS z k).length = k * z.length := by
  show ((List.replicate k z.cps).foldl (· ++ ·) #[]).size = _
  rw [foldl_size]
  have : ((List.replicate k z.cps).map (·.size)).sum = k * z.length := by
    induction k with
    | zero => simp
    | succ k ih => rw [List.replicate_succ, List.map_cons, List.sum_cons, ih, Nat.succ_mul]; show z.cps.size + _ = _ + z.cps.size; omega
  rw [this]
  simp
theorem foldl_mem : ∀ (l : List (Array Nat)) (a : Array Nat) (x : Nat), x ∈ (l.foldl (· ++ ·) a).toList → x ∈ a.toList ∨ ∃ b ∈ l, x ∈ b.toList
  | [], a, x, h => .inl h
  | b :: r, a, x, h => by
    rcases foldl_mem r (a ++ b) x h with h | ⟨d, h1, h2⟩
    · rw [Array.toList_append] at h
      rcases List.mem_append.mp h with h | h
      · exact .inl h
      · exact .inr ⟨b, List.mem_cons_self, h⟩
    · exact .inr ⟨d, List.mem_cons_of_mem _ h1, h2⟩
theorem repS_mem {z : Str} {k x : Nat} (h : x ∈ (repS z k).cps.toList) : x ∈ z.cps.toList := by
  rcases foldl_mem _ _ x h with h | ⟨b, h1, h2⟩
  · simp at h
  · rw [List.eq_of_mem_replicate h1] at h2
    exact h2
def rRepS : R2 := fun x y H Q => ∃ (z : Str) (k : Int), x = .str z ∧ y = .int k ∧ 2 ≤ k ∧ k ≤ 100000 ∧ 1 ≤ z.length ∧ z.length ≤ 100 ∧ Q (.str (repS z k.toNat)) H
theorem op_repS {X : Cx} : OpR X (binaryOp .Mult) rRepS := by
  intro pins s σ H x y v u Q I rx ry h
  obtain ⟨z, k, rfl, rfl, h1, h2, h3, h4, q⟩ := h
  obtain ⟨t, rfl⟩ := rx
  obtain ⟨t2, rfl⟩ := ry
  have hm : z.length * k.toNat ≤ 10000000 := by
    have := Nat.mul_le_mul h4 (show k.toNat ≤ 100000 by omega)
    omega
  have ok : PySem.MulOk z k := ⟨by rw [decide_eq_false (by omega), decide_eq_false (by omega)]; rfl, fun _ _ => by
    have : (100 : Int) ≤ (2 ^ 63 - 1) / k := by
      rw [Int.le_ediv_iff_mul_le (by omega)]
      omega
    omega, fun _ _ => by
    unfold PySem.Builtin.Str.tooLong
    rw [sizeLine_eq]
    exact decide_eq_false (by omega)⟩
  have e : Txt.mul z k = repS z k.toNat := by
    unfold Txt.mul repS
    rw [if_neg (by omega), if_neg (by
      have h5 : (k == 1) = false := beq_eq_false_iff_ne.mpr (by omega)
      have h6 : (z.length == 0) = false := beq_eq_false_iff_ne.mpr (by omega)
      rw [h5, h6]
      simp)]
  refine PySem.SB.mul ok fun t' n => ?_
  rw [e]
  exact ⟨.str (repS z k.toNat), H, I.tok _, ⟨_, rfl⟩, q⟩
def oRepS : List T → Option T
  | [.sh (.str z), .sh (.int k)] => if 2 ≤ k ∧ k ≤ 100000 ∧ 1 ≤ z.length ∧ z.length ≤ 100 then some (.sh (.str (repS z k.toNat))) else none
  | _ => none
theorem on_repS {K : Kf} : OpN K (r2 rRepS) oRepS := by
  intro B F H ss os us xs t' Q st vr e q
  unfold oRepS at e
  split at e
  · rename_i z k
    split at e
    · rename_i hc
      cases e
      obtain ⟨x, _, rfl, h, y, _, rfl, h', rfl⟩ := vr
      cases (show x = _ from h)
      cases (show y = _ from h')
      exact ⟨z, k, rfl, rfl, hc.1, hc.2.1, hc.2.2.1, hc.2.2.2, q _ _ (Same.refl _) (st.push rfl)⟩
    · cases e
  · cases e
section
variable {K : Kf} {ι : Type} {X : ι → Cx}
theorem bRepS : Bi K X (binaryOp .Mult) oRepS := Bi.of (fun _ => op_repS) on_repS
end
end DL
namespace DL
variable [Lf]
open PySem PySem.Spec PyProof PyProof.Rows L2 HT
section
variable {X : Cx} {e : Expr} {te : TE} {p apos cpos pos : Pos}
def leP (a b : Int × Int) : Bool := !SrtO.lexB b a
end
def srP (l : List (Int × Int)) : List (Int × Int) := l.mergeSort leP
def pairsI : List (Key × D) → Option (List (Int × Int))
  | [] => some []
  | (.inl i, .int j) :: r => (pairsI r).map ((i, j) :: ·)
  | _ => none
def pT (q : Int × Int) : T := .sh (.tup [.int q.1, .int q.2])
def mSortItems (m : ME) : ME := fun e => (m e).bnd fun v e1 => match cns [v] e1 with
  | some [.sh (.dct kds)] => match pairsI kds with
    | some l => .ok (.tv (.lst ((srP l).map pT)), e1)
    | none => .st
  | some [.dct kts] => match (allShK kts).bind pairsI with
    | some l => .ok (.tv (.lst ((srP l).map pT)), e1)
    | none => .st
  | _ => .st
@[simp] theorem mSortItems_ap (m : ME) (e : Env) : mSortItems m e = (m e).bnd fun v e1 => match cns [v] e1 with
  | some [.sh (.dct kds)] => match pairsI kds with
    | some l => .ok (.tv (.lst ((srP l).map pT)), e1)
    | none => .st
  | some [.dct kts] => match (allShK kts).bind pairsI with
    | some l => .ok (.tv (.lst ((srP l).map pT)), e1)
    | none => .st
  | _ => .st := rfl
def mValuesL (m : ME) : ME := fun e => (m e).bnd fun v e1 => match cns [v] e1 with
  | some [.sh (.dct kds)] => .ok (.tv (.lst (kds.map fun q => .sh q.2)), e1)
  | some [.dct kts] => match allShK kts with
    | some kds => .ok (.tv (.lst (kds.map fun q => .sh q.2)), e1)
    | none => .st
  | _ => .st
@[simp] theorem mValuesL_ap (m : ME) (e : Env) : mValuesL m e = (m e).bnd fun v e1 => match cns [v] e1 with
  | some [.sh (.dct kds)] => .ok (.tv (.lst (kds.map fun q => .sh q.2)), e1)
  | some [.dct kts] => match allShK kts with
    | some kds => .ok (.tv (.lst (kds.map fun q => .sh q.2)), e1)
    | none => .st
  | _ => .st := rfl
end DL
namespace HC
open PySem PySem.Spec PyProof PyProof.Rows
end HC
namespace DL
variable [Lf]
open PySem PySem.Spec PyProof PyProof.Rows L2
def plT (t : T) : Bool := match t.er with
  | .non => true
  | .bl _ => true
  | .int _ => true
  | .str _ => true
  | .lst _ => true
  | .dct _ => true
  | _ => false
def mOwnB (C : Addr) (tb : String → Bool) (ic : List (Addr × Bool)) (f : MF) (ms : MA) : ME := fun e => (ms e).bnd fun vs e1 => match cns vs e1 with
  | some [a, b] => if isC C a = true ∧ rtOk C tb ic b = true then match nxF f [argS a, argS b] with
      | .ret (.sh (.bl r)) none => .ok (.tv (.sh (.bl r)), e1)
      | _ => .st
    else if plT a = true ∧ isC C b = true then match nxF f [argS b, argS a] with
      | .ret (.sh (.bl r)) none => .ok (.tv (.sh (.bl r)), e1)
      | _ => .st
    else .st
  | _ => .st
@[simp] theorem mOwnB_ap (C : Addr) (tb : String → Bool) (ic : List (Addr × Bool)) (f : MF) (ms : MA) (e : Env) : mOwnB C tb ic f ms e = (ms e).bnd fun vs e1 => match cns vs e1 with
  | some [a, b] => if isC C a = true ∧ rtOk C tb ic b = true then match nxF f [argS a, argS b] with
      | .ret (.sh (.bl r)) none => .ok (.tv (.sh (.bl r)), e1)
      | _ => .st
    else if plT a = true ∧ isC C b = true then match nxF f [argS b, argS a] with
      | .ret (.sh (.bl r)) none => .ok (.tv (.sh (.bl r)), e1)
      | _ => .st
    else .st
  | _ => .st := rfl
end DL
namespace DL
variable [Lf]
open PySem PySem.Spec PyProof.Rows L2 HT
def mSlhA (ms : MA) : ME := fun e => (ms e).bnd fun vs e1 => match cns vs e1 with
  | some us => match oSlh us with
    | some t => .ok (.tv t, e1)
    | none => match us with
      | [.sh (.tup ds), .sh (.int i), .sh (.int j)] => .ok (.tv (.sh (.tup (cut ds (some i) (some j)))), e1)
      | _ => .st
  | none => .st
@[simp] theorem mSlhA_ap (ms : MA) (e : Env) : mSlhA ms e = (ms e).bnd fun vs e1 => match cns vs e1 with
  | some us => match oSlh us with
    | some t => .ok (.tv t, e1)
    | none => match us with
      | [.sh (.tup ds), .sh (.int i), .sh (.int j)] => .ok (.tv (.sh (.tup (cut ds (some i) (some j)))), e1)
      | _ => .st
  | none => .st := rfl
end DL
namespace DL
open PySem PySem.Spec PyProof.Rows L2
@[simp] theorem mSeq_ap (m n : MS) (e : Env) : mSeq m n e = (match m e with | .ok (.nx e1) => n e1 | r => r) := rfl
@[simp] theorem mIfS_ap (c : MB) (m n : MS) (e : Env) : mIfS c m n e = (match c e with | .ok (b, e1) => if b = true then m e1 else n e1 | .ex c e1 => .ex c e1 | .st => .st) := rfl
@[simp] theorem mE_ap (m : ME) (k) (e : Env) : mE m k e = (match m e with | .ok (v, e1) => k v e1 | .ex c e1 => .ex c e1 | .st => .st) := rfl
@[simp] theorem mSkip_ap (e : Env) : mSkip e = .ok (.nx e) := rfl
@[simp] theorem mDrop_ap (m : ME) (e : Env) : mDrop m e = (match m e with | .ok (_, e1) => .ok (.nx e1) | .ex c e1 => .ex c e1 | .st => .st) := rfl
@[simp] theorem mRet_ap (m : ME) (e : Env) : mRet m e = (match m e with | .ok (v, e1) => (match retV v e1 with | some (t, e1) => .ok (.rt t e1) | none => .st) | .ex c e1 => .ex c e1 | .st => .st) := rfl
@[simp] theorem mAsg_ap (m : ME) (g : MG) (e : Env) : mAsg m g e = (match m e with | .ok (v, e1) => (match keep v e1 with | some (t, e1) => (match g t e1 with | .ok e2 => .ok (.nx e2) | _ => .st) | none => .st) | .ex c e1 => .ex c e1 | .st => .st) := rfl
@[simp] theorem mC_ap (d : D) (e : Env) : mC d e = .ok (.tv (.sh d), e) := rfl
@[simp] theorem mN_ap (i : Nat) (e : Env) : mN i e = (match e[i]? with
  | some s => match s.con with
    | some (.sh d) => .ok (.tv (.sh d), e)
    | some _ => .ok (.pl i [], e)
    | none => .st
  | none => .st) := rfl
@[simp] theorem mOp_ap (f) (ms : MA) (e : Env) : mOp f ms e = (ms e).bnd fun vs e1 => match (cns vs e1).bind f with
  | some t => .ok (.tv t, e1)
  | none => .st := rfl
@[simp] theorem mCons_ap (m : ME) (ms : MA) (e : Env) : mCons m ms e = (m e).bnd fun v e1 => (pend v ms e1).bnd fun vs e2 => .ok (v :: vs, e2) := rfl
@[simp] theorem mNil_ap (e : Env) : mNil e = .ok ([], e) := rfl
@[simp] theorem mTst_ap (f) (m : ME) (e : Env) : mTst f m e = (m e).bnd fun v e1 => match (cn v e1).bind f with
  | some b => .ok (b, e1)
  | none => .st := rfl
@[simp] theorem mNot_ap (m : MB) (e : Env) : mNot m e = (m e).bnd fun b e1 => .ok (!b, e1) := rfl
@[simp] theorem mAnd_ap (m n : MB) (e : Env) : mAnd m n e = (m e).bnd fun b e1 => if b = true then n e1 else .ok (false, e1) := rfl
@[simp] theorem mOr_ap (m n : MB) (e : Env) : mOr m n e = (m e).bnd fun b e1 => if b = true then .ok (true, e1) else n e1 := rfl
@[simp] theorem mIf_ap (c : MB) (m n : ME) (e : Env) : mIf c m n e = (c e).bnd fun b e1 => if b = true then m e1 else n e1 := rfl
def bC {α : Type} (o : Option Bool) (x y z : α) : α := match o with
  | some true => x
  | some false => y
  | none => z
@[simp] theorem bC_some {α : Type} (b : Bool) (x y z : α) : bC (some b) x y z = if b = true then x else y := by cases b <;> rfl
@[simp] theorem bC_none {α : Type} (x y z : α) : bC none x y z = z := rfl
def bV : Val → Option Bool
  | .tv (.sh (.bl b)) => some b
  | _ => none
@[simp] theorem bV_bl (b : Bool) : bV (.tv (.sh (.bl b))) = some b := rfl
@[simp] theorem mAndV_ap (m n : ME) (e : Env) : mAndV m n e = (m e).bnd fun v e1 => bC (bV v) (n e1) (.ok (.tv (.sh (.bl false)), e1)) .st := by
  unfold mAndV
  congr 1
  funext v e1
  rcases v with t | ⟨i, p⟩
  · cases t with
    | sh d => cases d with
      | bl b => cases b <;> rfl
      | _ => rfl
    | _ => rfl
  · rfl
@[simp] theorem mOrV_ap (m n : ME) (e : Env) : mOrV m n e = (m e).bnd fun v e1 => bC (bV v) (.ok (.tv (.sh (.bl true)), e1)) (n e1) .st := by
  unfold mOrV
  congr 1
  funext v e1
  rcases v with t | ⟨i, p⟩
  · cases t with
    | sh d => cases d with
      | bl b => cases b <;> rfl
      | _ => rfl
    | _ => rfl
  · rfl
@[simp] theorem mIx_ap (m n : ME) (e : Env) : mIx m n e = (mCons m (mCons n mNil) e).bnd fun vs e1 => match vs with
  | [v, w] => match cn v e1, cn w e1 with
    | some t, some (.sh i) => match ixT v t i with
      | some r => .ok (r, e1)
      | none => .st
    | _, _ => .st
  | _ => .st := rfl
@[simp] theorem mPut_ap (mv mo mi : ME) (e : Env) : mPut mv mo mi e = (match mCons (mK mv) (mCons mo (mCons mi mNil)) e with
  | .ok ([.tv t, .pl i p, .tv (.sh d)], e1) => match updP i p (putT d t) e1 with
    | some (_, e2) => .ok (.nx e2)
    | none => .st
  | .ok _ => .st
  | .ex c e1 => .ex c e1
  | .st => .st) := rfl
@[simp] theorem mK_ap (m : ME) (e : Env) : mK m e = (m e).bnd fun v e1 => match keep v e1 with
  | some (t, e2) => .ok (.tv t, e2)
  | none => .st := rfl
@[simp] theorem mF_ap (m : ME) (e : Env) : mF m e = (m e).bnd fun v e1 => match frzV v e1 with
  | some (d, e2) => .ok (.tv (.sh d), e2)
  | none => .st := rfl
@[simp] theorem mLst_ap (ms : MA) (e : Env) : mLst ms e = (ms e).bnd fun vs e1 => match tvs vs with
  | some ts => if ts.length ≤ sizeLine then .ok (.tv (.lst ts), e1) else .st
  | none => .st := rfl
@[simp] theorem mTup_ap (ms : MA) (e : Env) : mTup ms e = (ms e).bnd fun vs e1 => match (tvs vs).bind allSh with
  | some ds => if ds.length ≤ sizeLine then .ok (.tv (.sh (.tup ds)), e1) else .st
  | none => .st := rfl
@[simp] theorem mNewD_ap (e : Env) : mNewD e = .ok (.tv (.dct []), e) := rfl
@[simp] theorem mCall_ap (n : Nat) (f : MF) (ms : MA) (e : Env) : mCall n f ms e = (ms e).bnd fun vs e1 => if vs.length = n then match cns vs e1 with
    | some ts => match f (ts.map argS) with
      | .ret t none => .ok (.tv t, e1)
      | .exc c none => .ex c e1
      | _ => .st
    | none => .st
  else .st := rfl
@[simp] theorem mCallM_ap (n : Nat) (f : MF) (ms : MA) (e : Env) : mCallM n f ms e = (ms e).bnd fun vs e1 => if vs.length = n then match vs with
  | .pl i p :: rest => match e1[i]? with
    | some s => match s.own with
      | some t => match T.get p t with
        | some u => match cns rest e1 with
          | some ts => if okR i rest = true then match f (.mu u :: ts.map argS) with
              | .ret r (some u') => match T.put p t u' with
                | some t' => .ok (.tv r, e1.set i (s.wth t'))
                | none => .st
              | .exc c (some u') => match T.put p t u' with
                | some t' => .ex c (e1.set i (s.wth t'))
                | none => .st
              | _ => .st
            else .st
          | none => .st
        | none => .st
      | none => .st
    | none => .st
  | _ => .st
  else .st := rfl
@[simp] theorem mForL_ap (mi : MI) (mg : MG) (mb : MS) (e : Env) : mForL mi mg mb e = (match mi e with
  | .ok (ds, e1) => loopL mg mb ds e1
  | .ex c e1 => .ex c e1
  | .st => .st) := rfl
@[simp] theorem mFor_ap (mi : MI) (mg : MG) (mb : MS) (e : Env) : mFor mi mg mb e = (match mi e with
  | .ok (ds, e1) => loopS mg mb ds e1
  | .ex c e1 => .ex c e1
  | .st => .st) := rfl
@[simp] theorem mSrc_ap (f) (m : ME) (e : Env) : mSrc f m e = (m e).bnd fun v e1 => match srcV v e1 with
  | some (t, e2) => match f t with
    | some ds => .ok (ds, e2)
    | none => .st
  | none => .st := rfl
theorem r62_if {α : Type} (j : Int) (a b : α) : (if r62 j = true then a else b) = if -(2 ^ 62) ≤ j ∧ j < 2 ^ 62 then a else b := by
  by_cases h : r62 j = true
  · rw [if_pos h, if_pos ((r62_iff j).mp h)]
  · rw [if_neg h, if_neg fun z => h ((r62_iff j).mpr z)]
@[simp] theorem mR1_ap (ms : MA) (e : Env) : mR1 ms e = (ms e).bnd fun vs e1 => match cns vs e1 with
  | some [.sh (.int j)] => if -(2 ^ 62) ≤ j ∧ j < 2 ^ 62 then .ok (rngD 0 j.toNat, e1) else .st
  | _ => .st := by
  first | (simp only [mR1, r62_if]; done) | (simp only [mR1, r62_if]; rfl)
@[simp] theorem mMut_ap (c : T → Bool) (f) (m : ME) (ms : MA) (e : Env) : mMut c f m ms e = (mCons (mChk c m) ms e).bnd fun vs e1 => match vs with
  | .pl i p :: r => match tvs r with
    | some us => match e1[i]? with
      | some s => match s.own with
        | some t => match T.get p t with
          | some u => if notSh u = true then match f u us with
              | some (u', rt) => match T.put p t u' with
                | some t' => .ok (.tv rt, e1.set i (s.wth t'))
                | none => .st
              | none => .st
            else .st
          | none => .st
        | none => .st
      | none => .st
    | none => .st
  | _ => .st := rfl
@[simp] theorem mChk_ap (c : T → Bool) (m : ME) (e : Env) : mChk c m e = (m e).bnd fun v e1 => match cn v e1 with
  | some t => if c t = true then .ok (v, e1) else .st
  | none => .st := Eq.symm (Eq.symm rfl)
@[simp] theorem mAttr_ap (C : Addr) (f : Str) (m : ME) (e : Env) : mAttr C f m e = (m e).bnd fun v e1 => match (cn v e1).bind (attrT C f v) with
  | some w => .ok (w, e1)
  | none => .st := rfl
@[simp] theorem mMake_ap (C : Addr) (n : Nat) (f : MF) (ms : MA) (e : Env) : mMake C n f ms e = (ms e).bnd fun vs e1 => if vs.length + 1 = n then match cns vs e1 with
    | some ts => match f (.mu (.ins C []) :: ts.map argS) with
      | .ret (.sh .non) (some u) => .ok (.tv u, e1)
      | .exc c (some _) => .ex c e1
      | _ => .st
    | none => .st
  else .st := rfl
@[simp] theorem mFld_ap (C : Addr) (f : Str) (mv mo : ME) (e : Env) : mFld C f mv mo e = (match mCons (mK mv) (mCons mo mNil) e with
  | .ok ([.tv t, .pl i p], e1) => match updP i p (putFT C f t) e1 with
    | some (_, e2) => .ok (.nx e2)
    | none => .st
  | .ok _ => .st
  | .ex c e1 => .ex c e1
  | .st => .st) := rfl
@[simp] theorem bnd_ok {α β : Type} (a : α) (e : Env) (k : α → Env → R β) : (R.ok (a, e)).bnd k = k a e := rfl
@[simp] theorem bnd_ex {α β : Type} (c : Exn) (e : Env) (k : α → Env → R β) : (R.ex c e : R (α × Env)).bnd k = .ex c e := rfl
@[simp] theorem pend_tv {α : Type} (t : T) (m : Env → R (α × Env)) (e : Env) : pend (.tv t) m e = m e := rfl
@[simp] theorem pend_0 {α : Type} (i : Nat) (m : Env → R (α × Env)) (e : Env) : pend (.pl i []) m e = m e := rfl
@[simp] theorem pend_1 {α : Type} (i : Nat) (q : PEl) (p : List PEl) (m : Env → R (α × Env)) (e : Env) : pend (.pl i (q :: p)) m e = (match e[i]? with
    | some s => match s.con with
      | some t => match T.get (q :: p) t with
        | some _ => match m (e.set i (.vw t)) with
          | .ok (a, e') => .ok (a, e'.set i s)
          | .ex c e' => .ex c (e'.set i s)
          | .st => .st
        | none => .st
      | none => .st
    | none => .st) := rfl
@[simp] theorem bodyF_ap (n : Nat) (mb : MS) (ss : List Slot) : bodyF n mb ss = (match mb (ss ++ List.replicate (n - ss.length) .un) with
  | .ok (.nx e) => fin (isMu ss) (.sh .non) e
  | .ok (.rt t e) => fin (isMu ss) t e
  | .ex c e => finX (isMu ss) c e
  | _ => .st) := rfl
@[simp] theorem ite_ok {α : Type} (p : Prop) [Decidable p] (x y : α) (e : Env) : (if p then (R.ok (x, e) : R (α × Env)) else R.ok (y, e)) = R.ok (if p then x else y, e) := by split <;> rfl
def sts (l : List Str) : List D := l.map D.str
def kDs (ks : List Key) : List D := ks.map kD
@[simp] theorem sts_nil : sts [] = [] := rfl
@[simp] theorem sts_cons (s : Str) (l) : sts (s :: l) = .str s :: sts l := rfl
@[simp] theorem sts_snoc (a : List Str) (s : Str) : sts a ++ [D.str s] = sts (a ++ [s]) := by simp [sts]
@[simp] theorem sts_length (l : List Str) : (sts l).length = l.length := by simp [sts]
@[simp] theorem sts_isEmpty (l : List Str) : (sts l).isEmpty = l.isEmpty := by cases l <;> rfl
@[simp] theorem sts_get (l : List Str) (i : Nat) : (sts l)[i]? = (l[i]?).map D.str := by simp [sts]
theorem sts_mem {l : List Str} {d : D} : d ∈ sts l ↔ ∃ s ∈ l, d = .str s := by
  simp only [sts, List.mem_map]; constructor <;> rintro ⟨s, h, e⟩ <;> exact ⟨s, h, e.symm⟩
@[simp] theorem kDs_nil : kDs [] = [] := rfl
@[simp] theorem kDs_inr (l : List Str) : kDs (l.map Sum.inr) = sts l := by simp [kDs, sts, kD, List.map_map, Function.comp_def]
@[simp] theorem kDs_length (l : List Key) : (kDs l).length = l.length := by simp [kDs]
@[simp] theorem ofs_inj (s t : String) : (Str.ofString s = Str.ofString t) ↔ s = t := by
  constructor
  · intro h
    rw [Str.ofString_eq_toList, Str.ofString_eq_toList] at h
    have h := congrArg (fun x => x.cps.toList) h
    simp only [List.toList_toArray] at h
    have hi : ∀ a b : Char, a.toNat = b.toNat → a = b := fun a b e => Char.ext (UInt32.toNat_inj.mp e)
    have : ∀ l m : List Char, l.map Char.toNat = m.map Char.toNat → l = m := by
      intro l
      induction l with
      | nil => intro m h; cases m with
        | nil => rfl
        | cons _ _ => cases h
      | cons a l ih => intro m h; cases m with
        | nil => cases h
        | cons b m => simp only [List.map_cons, List.cons.injEq] at h; rw [hi _ _ h.1, ih _ h.2]
    exact String.toList_inj.mp (this _ _ h)
  · rintro rfl; rfl
@[simp] theorem lk_nil {κ α : Type} [DecidableEq κ] (k : κ) : lk ([] : List (κ × α)) k = none := rfl
@[simp] theorem lk_cons {κ α : Type} [DecidableEq κ] (p : κ × α) (r) (k : κ) : lk (p :: r) k = if p.1 = k then some p.2 else lk r k := rfl
@[simp] theorem rk_nil {κ α : Type} [DecidableEq κ] (k : κ) (a : α) : rk ([] : List (κ × α)) k a = [] := rfl
@[simp] theorem rk_cons {κ α : Type} [DecidableEq κ] (p : κ × α) (r) (k : κ) (a : α) : rk (p :: r) k a = if p.1 = k then (k, a) :: r else p :: rk r k a := rfl
@[simp] theorem pk_nil {κ α : Type} [DecidableEq κ] (k : κ) (a : α) : pk ([] : List (κ × α)) k a = [(k, a)] := rfl
@[simp] theorem pk_cons {κ α : Type} [DecidableEq κ] (p : κ × α) (r) (k : κ) (a : α) : pk (p :: r) k a = if p.1 = k then (k, a) :: r else p :: pk r k a := rfl
@[simp] theorem ge0 {α : Type} (a0 : α) (l : List α) : (a0 :: l)[0]? = some a0 := rfl
@[simp] theorem ge1 {α : Type} (a0 a1 : α) (l : List α) : (a0 :: a1 :: l)[1]? = some a1 := rfl
@[simp] theorem ge2 {α : Type} (a0 a1 a2 : α) (l : List α) : (a0 :: a1 :: a2 :: l)[2]? = some a2 := rfl
@[simp] theorem ge3 {α : Type} (a0 a1 a2 a3 : α) (l : List α) : (a0 :: a1 :: a2 :: a3 :: l)[3]? = some a3 := rfl
@[simp] theorem ge4 {α : Type} (a0 a1 a2 a3 a4 : α) (l : List α) : (a0 :: a1 :: a2 :: a3 :: a4 :: l)[4]? = some a4 := rfl
@[simp] theorem ge5 {α : Type} (a0 a1 a2 a3 a4 a5 : α) (l : List α) : (a0 :: a1 :: a2 :: a3 :: a4 :: a5 :: l)[5]? = some a5 := rfl
@[simp] theorem ge6 {α : Type} (a0 a1 a2 a3 a4 a5 a6 : α) (l : List α) : (a0 :: a1 :: a2 :: a3 :: a4 :: a5 :: a6 :: l)[6]? = some a6 := rfl
@[simp] theorem ge7 {α : Type} (a0 a1 a2 a3 a4 a5 a6 a7 : α) (l : List α) : (a0 :: a1 :: a2 :: a3 :: a4 :: a5 :: a6 :: a7 :: l)[7]? = some a7 := rfl
@[simp] theorem ge8 {α : Type} (a0 a1 a2 a3 a4 a5 a6 a7 a8 : α) (l : List α) : (a0 :: a1 :: a2 :: a3 :: a4 :: a5 :: a6 :: a7 :: a8 :: l)[8]? = some a8 := rfl
@[simp] theorem ge9 {α : Type} (a0 a1 a2 a3 a4 a5 a6 a7 a8 a9 : α) (l : List α) : (a0 :: a1 :: a2 :: a3 :: a4 :: a5 :: a6 :: a7 :: a8 :: a9 :: l)[9]? = some a9 := rfl
@[simp] theorem ge10 {α : Type} (a0 a1 a2 a3 a4 a5 a6 a7 a8 a9 a10 : α) (l : List α) : (a0 :: a1 :: a2 :: a3 :: a4 :: a5 :: a6 :: a7 :: a8 :: a9 :: a10 :: l)[10]? = some a10 := rfl
@[simp] theorem ge11 {α : Type} (a0 a1 a2 a3 a4 a5 a6 a7 a8 a9 a10 a11 : α) (l : List α) : (a0 :: a1 :: a2 :: a3 :: a4 :: a5 :: a6 :: a7 :: a8 :: a9 :: a10 :: a11 :: l)[11]? = some a11 := rfl
@[simp] theorem ge12 {α : Type} (a0 a1 a2 a3 a4 a5 a6 a7 a8 a9 a10 a11 a12 : α) (l : List α) : (a0 :: a1 :: a2 :: a3 :: a4 :: a5 :: a6 :: a7 :: a8 :: a9 :: a10 :: a11 :: a12 :: l)[12]? = some a12 := rfl
@[simp] theorem ge13 {α : Type} (a0 a1 a2 a3 a4 a5 a6 a7 a8 a9 a10 a11 a12 a13 : α) (l : List α) : (a0 :: a1 :: a2 :: a3 :: a4 :: a5 :: a6 :: a7 :: a8 :: a9 :: a10 :: a11 :: a12 :: a13 :: l)[13]? = some a13 := rfl
@[simp] theorem ge14 {α : Type} (a0 a1 a2 a3 a4 a5 a6 a7 a8 a9 a10 a11 a12 a13 a14 : α) (l : List α) : (a0 :: a1 :: a2 :: a3 :: a4 :: a5 :: a6 :: a7 :: a8 :: a9 :: a10 :: a11 :: a12 :: a13 :: a14 :: l)[14]? = some a14 := rfl
@[simp] theorem ge15 {α : Type} (a0 a1 a2 a3 a4 a5 a6 a7 a8 a9 a10 a11 a12 a13 a14 a15 : α) (l : List α) : (a0 :: a1 :: a2 :: a3 :: a4 :: a5 :: a6 :: a7 :: a8 :: a9 :: a10 :: a11 :: a12 :: a13 :: a14 :: a15 :: l)[15]? = some a15 := rfl
@[simp] theorem ge16 {α : Type} (a0 a1 a2 a3 a4 a5 a6 a7 a8 a9 a10 a11 a12 a13 a14 a15 a16 : α) (l : List α) : (a0 :: a1 :: a2 :: a3 :: a4 :: a5 :: a6 :: a7 :: a8 :: a9 :: a10 :: a11 :: a12 :: a13 :: a14 :: a15 :: a16 :: l)[16]? = some a16 := rfl
@[simp] theorem ge17 {α : Type} (a0 a1 a2 a3 a4 a5 a6 a7 a8 a9 a10 a11 a12 a13 a14 a15 a16 a17 : α) (l : List α) : (a0 :: a1 :: a2 :: a3 :: a4 :: a5 :: a6 :: a7 :: a8 :: a9 :: a10 :: a11 :: a12 :: a13 :: a14 :: a15 :: a16 :: a17 :: l)[17]? = some a17 := rfl
@[simp] theorem ge18 {α : Type} (a0 a1 a2 a3 a4 a5 a6 a7 a8 a9 a10 a11 a12 a13 a14 a15 a16 a17 a18 : α) (l : List α) : (a0 :: a1 :: a2 :: a3 :: a4 :: a5 :: a6 :: a7 :: a8 :: a9 :: a10 :: a11 :: a12 :: a13 :: a14 :: a15 :: a16 :: a17 :: a18 :: l)[18]? = some a18 := rfl
@[simp] theorem ge19 {α : Type} (a0 a1 a2 a3 a4 a5 a6 a7 a8 a9 a10 a11 a12 a13 a14 a15 a16 a17 a18 a19 : α) (l : List α) : (a0 :: a1 :: a2 :: a3 :: a4 :: a5 :: a6 :: a7 :: a8 :: a9 :: a10 :: a11 :: a12 :: a13 :: a14 :: a15 :: a16 :: a17 :: a18 :: a19 :: l)[19]? = some a19 := rfl
@[simp] theorem ge20 {α : Type} (a0 a1 a2 a3 a4 a5 a6 a7 a8 a9 a10 a11 a12 a13 a14 a15 a16 a17 a18 a19 a20 : α) (l : List α) : (a0 :: a1 :: a2 :: a3 :: a4 :: a5 :: a6 :: a7 :: a8 :: a9 :: a10 :: a11 :: a12 :: a13 :: a14 :: a15 :: a16 :: a17 :: a18 :: a19 :: a20 :: l)[20]? = some a20 := rfl
@[simp] theorem ge21 {α : Type} (a0 a1 a2 a3 a4 a5 a6 a7 a8 a9 a10 a11 a12 a13 a14 a15 a16 a17 a18 a19 a20 a21 : α) (l : List α) : (a0 :: a1 :: a2 :: a3 :: a4 :: a5 :: a6 :: a7 :: a8 :: a9 :: a10 :: a11 :: a12 :: a13 :: a14 :: a15 :: a16 :: a17 :: a18 :: a19 :: a20 :: a21 :: l)[21]? = some a21 := rfl
@[simp] theorem ge22 {α : Type} (a0 a1 a2 a3 a4 a5 a6 a7 a8 a9 a10 a11 a12 a13 a14 a15 a16 a17 a18 a19 a20 a21 a22 : α) (l : List α) : (a0 :: a1 :: a2 :: a3 :: a4 :: a5 :: a6 :: a7 :: a8 :: a9 :: a10 :: a11 :: a12 :: a13 :: a14 :: a15 :: a16 :: a17 :: a18 :: a19 :: a20 :: a21 :: a22 :: l)[22]? = some a22 := rfl
@[simp] theorem ge23 {α : Type} (a0 a1 a2 a3 a4 a5 a6 a7 a8 a9 a10 a11 a12 a13 a14 a15 a16 a17 a18 a19 a20 a21 a22 a23 : α) (l : List α) : (a0 :: a1 :: a2 :: a3 :: a4 :: a5 :: a6 :: a7 :: a8 :: a9 :: a10 :: a11 :: a12 :: a13 :: a14 :: a15 :: a16 :: a17 :: a18 :: a19 :: a20 :: a21 :: a22 :: a23 :: l)[23]? = some a23 := rfl
@[simp] theorem ge24 {α : Type} (a0 a1 a2 a3 a4 a5 a6 a7 a8 a9 a10 a11 a12 a13 a14 a15 a16 a17 a18 a19 a20 a21 a22 a23 a24 : α) (l : List α) : (a0 :: a1 :: a2 :: a3 :: a4 :: a5 :: a6 :: a7 :: a8 :: a9 :: a10 :: a11 :: a12 :: a13 :: a14 :: a15 :: a16 :: a17 :: a18 :: a19 :: a20 :: a21 :: a22 :: a23 :: a24 :: l)[24]? = some a24 := rfl
@[simp] theorem ge25 {α : Type} (a0 a1 a2 a3 a4 a5 a6 a7 a8 a9 a10 a11 a12 a13 a14 a15 a16 a17 a18 a19 a20 a21 a22 a23 a24 a25 : α) (l : List α) : (a0 :: a1 :: a2 :: a3 :: a4 :: a5 :: a6 :: a7 :: a8 :: a9 :: a10 :: a11 :: a12 :: a13 :: a14 :: a15 :: a16 :: a17 :: a18 :: a19 :: a20 :: a21 :: a22 :: a23 :: a24 :: a25 :: l)[25]? = some a25 := rfl
def shs (ds : List D) : List T := ds.map T.sh
def shk (ds : List (Key × D)) : List (Key × T) := ds.map fun p => (p.1, T.sh p.2)
theorem shs_nil : shs [] = [] := rfl
theorem shs_cons (d : D) (r) : shs (d :: r) = .sh d :: shs r := rfl
@[simp] theorem shs_length (ds) : (shs ds).length = ds.length := by simp [shs]
@[simp] theorem shs_snoc (a) (d : D) : shs a ++ [T.sh d] = shs (a ++ [d]) := by simp [shs]
@[simp] theorem shs_get (ds) (i : Nat) : (shs ds)[i]? = (ds[i]?).map T.sh := by simp [shs]
@[simp] theorem shs_erase (ds) (i : Nat) : (shs ds).eraseIdx i = shs (ds.eraseIdx i) := by
  induction ds generalizing i with
  | nil => simp [shs]
  | cons d r ih => cases i with
    | zero => simp [shs]
    | succ i => simp only [shs_cons, List.eraseIdx_cons_succ, ih]
@[simp] theorem shs_isEmpty (ds) : (shs ds).isEmpty = ds.isEmpty := by cases ds <;> rfl
@[simp] theorem shk_length (ds) : (shk ds).length = ds.length := by simp [shk]
@[simp] theorem shk_keys (ds) : (shk ds).map (·.1) = ds.map (·.1) := by simp [shk]
theorem lk_shk (ds : List (Key × D)) (k : Key) : lk (shk ds) k = (lk ds k).map T.sh := by
  induction ds with
  | nil => rfl
  | cons p r ih => simp only [shk, List.map_cons, lk] at ih ⊢; split <;> simp_all
theorem hk_shk (ds : List (Key × D)) (k : Key) : DL.hk (shk ds) k = DL.hk ds k := by simp [DL.hk, lk_shk]
theorem pk_shk (ds : List (Key × D)) (k : Key) (d : D) : pk (shk ds) k (.sh d) = shk (pk ds k d) := by
  induction ds with
  | nil => rfl
  | cons p r ih => simp only [shk, List.map_cons, pk] at ih ⊢; split <;> simp_all
@[simp] theorem con_un : Slot.con .un = none := rfl
@[simp] theorem con_va (t : T) : Slot.con (.va t) = some t := rfl
@[simp] theorem con_mu (t : T) : Slot.con (.mu t) = some t := rfl
@[simp] theorem con_vw (t : T) : Slot.con (.vw t) = some t := rfl
@[simp] theorem own_un : Slot.own .un = none := rfl
@[simp] theorem own_va (t : T) : Slot.own (.va t) = some t := rfl
@[simp] theorem own_mu (t : T) : Slot.own (.mu t) = some t := rfl
@[simp] theorem own_vw (t : T) : Slot.own (.vw t) = none := rfl
@[simp] theorem wth_va (t u : T) : Slot.wth (.va t) u = .va u := rfl
@[simp] theorem wth_mu (t u : T) : Slot.wth (.mu t) u = .mu u := rfl
@[simp] theorem cn_tv (t : T) (e : Env) : cn (.tv t) e = some t := rfl
@[simp] theorem cn_pl (i : Nat) (p : List PEl) (e : Env) : cn (.pl i p) e = (e[i]?).bind fun s => s.con.bind (T.get p) := rfl
@[simp] theorem cns_nil (e : Env) : cns [] e = some [] := rfl
@[simp] theorem cns_cons (v : Val) (r : List Val) (e : Env) : cns (v :: r) e = (cn v e).bind fun t => (cns r e).map fun ts => t :: ts := rfl
@[simp] theorem get_nil (t : T) : T.get [] t = some t := by cases t <;> rfl
@[simp] theorem get_fld (f : Str) (p : List PEl) (C : Addr) (fs) : T.get (.fld f :: p) (.ins C fs) = (lk fs f).bind (T.get p) := rfl
@[simp] theorem get_key (k : Key) (p : List PEl) (ks) : T.get (.key k :: p) (.dct ks) = (lk ks k).bind (T.get p) := rfl
@[simp] theorem get_idx (n : Nat) (p : List PEl) (ts) : T.get (.idx n :: p) (.lst ts) = (ts[n]?).bind (T.get p) := rfl
@[simp] theorem put_nil (t u : T) : T.put [] t u = some u := by cases t <;> rfl
@[simp] theorem put_fld (f : Str) (p : List PEl) (C : Addr) (fs) (u : T) : T.put (.fld f :: p) (.ins C fs) u = (lk fs f).bind fun t => (T.put p t u).map fun t' => .ins C (rk fs f t') := rfl
@[simp] theorem put_key (k : Key) (p : List PEl) (ks) (u : T) : T.put (.key k :: p) (.dct ks) u = (lk ks k).bind fun t => (T.put p t u).map fun t' => .dct (rk ks k t') := rfl
@[simp] theorem put_idx (n : Nat) (p : List PEl) (ts) (u : T) : T.put (.idx n :: p) (.lst ts) u = (ts[n]?).bind fun t => (T.put p t u).map fun t' => .lst (ts.set n t') := rfl
@[simp] theorem frzP_eq (i : Nat) (p : List PEl) (e : Env) : frzP i p e = (e[i]?).bind fun s => s.own.bind fun t => (T.get p t).bind fun u => (T.put p t (.sh u.er)).map fun t' => (u.er, e.set i (s.wth t')) := rfl
@[simp] theorem keep_tv (t : T) (e : Env) : keep (.tv t) e = some (t, e) := rfl
@[simp] theorem keep_pl (i : Nat) (p : List PEl) (e : Env) : keep (.pl i p) e = (frzP i p e).map fun q => (.sh q.1, q.2) := rfl
@[simp] theorem frzV_tv (t : T) (e : Env) : frzV (.tv t) e = some (t.er, e) := rfl
@[simp] theorem frzV_pl (i : Nat) (p : List PEl) (e : Env) : frzV (.pl i p) e = frzP i p e := rfl
@[simp] theorem er_sh (d : D) : T.er (.sh d) = d := by simp [T.er]
@[simp] theorem er_lst (ts : List T) : T.er (.lst ts) = .lst (ts.map T.er) := by simp [T.er, T.ers_map]
@[simp] theorem er_dct (ts : List (Key × T)) : T.er (.dct ts) = .dct (ts.map fun p => (p.1, p.2.er)) := by simp [T.er, T.erk_map]
@[simp] theorem er_shs (ds : List D) : (shs ds).map T.er = ds := by simp [shs, List.map_map, Function.comp_def]
@[simp] theorem er_shk (ds : List (Key × D)) : (shk ds).map (fun p => (p.1, p.2.er)) = ds := by simp [shk, List.map_map, Function.comp_def]
@[simp] theorem allSh_nil : allSh [] = some [] := rfl
@[simp] theorem allSh_cons (d : D) (r : List T) : allSh (.sh d :: r) = (allSh r).map fun ds => d :: ds := rfl
@[simp] theorem allSh_map (ds : List D) : allSh (shs ds) = some ds := by
  induction ds with
  | nil => rfl
  | cons d r ih => simp [shs_cons, ih]
@[simp] theorem allShK_nil : allShK [] = some [] := rfl
@[simp] theorem allShK_cons (k : Key) (d : D) (r) : allShK ((k, .sh d) :: r) = (allShK r).map fun ds => (k, d) :: ds := rfl
@[simp] theorem allShK_map (ds : List (Key × D)) : allShK (shk ds) = some ds := by
  induction ds with
  | nil => rfl
  | cons d r ih => simp only [shk, List.map_cons] at ih ⊢; simp [ih]
@[simp] theorem tvs_nil : tvs [] = some [] := rfl
@[simp] theorem tvs_cons (t : T) (r) : tvs (.tv t :: r) = (tvs r).map fun ts => t :: ts := rfl
@[simp] theorem argS_sh (d : D) : argS (.sh d) = .va (.sh d) := rfl
@[simp] theorem argS_lst (d) : argS (.lst d) = .vw (.lst d) := rfl
@[simp] theorem argS_dct (d) : argS (.dct d) = .vw (.dct d) := rfl
@[simp] theorem argS_ins (C) (d) : argS (.ins C d) = .vw (.ins C d) := rfl
@[simp] theorem okR_nil (i : Nat) : okR i [] = true := rfl
@[simp] theorem okR_tv (i : Nat) (t : T) (r) : okR i (.tv t :: r) = okR i r := rfl
@[simp] theorem okR_pl (i j : Nat) (p) (r) : okR i (.pl j p :: r) = (decide (j ≠ i) && okR i r) := rfl
@[simp] theorem notSh_lst (x) : notSh (.lst x) = true := rfl
@[simp] theorem notSh_dct (x) : notSh (.dct x) = true := rfl
@[simp] theorem notSh_ins (C) (x) : notSh (.ins C x) = true := rfl
@[simp] theorem isMu_mu (t) (r) : isMu (.mu t :: r) = true := rfl
@[simp] theorem isMu_va (t) (r) : isMu (.va t :: r) = false := rfl
@[simp] theorem isMu_vw (t) (r) : isMu (.vw t :: r) = false := rfl
@[simp] theorem isMu_nil : isMu [] = false := rfl
@[simp] theorem fin_f (t : T) (e : Env) : fin false t e = .ret t none := rfl
@[simp] theorem fin_t (t u : T) (r : Env) : fin true t (.mu u :: r) = .ret t (some u) := rfl
@[simp] theorem finX_f (c : Exn) (e : Env) : finX false c e = .exc c none := rfl
@[simp] theorem finX_t (c : Exn) (u : T) (r : Env) : finX true c (.mu u :: r) = .exc c (some u) := rfl
@[simp] theorem retV_tv (t : T) (e : Env) : retV (.tv t) e = some (t, e) := rfl
@[simp] theorem retV_pl (i : Nat) (e : Env) : retV (.pl i []) e = (match e[i]? with | some (.va t) => some (t, e.set i .un) | _ => keep (.pl i []) e) := rfl
@[simp] theorem retV_pl1 (i : Nat) (q) (p) (e : Env) : retV (.pl i (q :: p)) e = keep (.pl i (q :: p)) e := rfl
@[simp] theorem isM_un : isM .un = false := rfl
@[simp] theorem isM_va (t : T) : isM (.va t) = false := rfl
@[simp] theorem isM_vw (t : T) : isM (.vw t) = false := rfl
@[simp] theorem isM_mu (t : T) : isM (.mu t) = true := rfl
@[simp] theorem gN_ap (i : Nat) (t : T) (e : Env) : gN i t e = (match e[i]? with
  | some s => if isM s = true then .st else .ok (e.set i (.va t))
  | none => .st) := by
  unfold gN
  cases e[i]? with
  | none => rfl
  | some s => cases s <;> rfl
@[simp] theorem updP_ap {α : Type} (i : Nat) (p : List PEl) (f : T → Option (T × α)) (e : Env) : updP i p f e = (e[i]?).bind fun s => s.own.bind fun t => (T.get p t).bind fun u => if notSh u = true then (f u).bind fun q => (T.put p t q.1).map fun t' => (q.2, e.set i (s.wth t')) else none := rfl
@[simp] theorem keyD_int (i : Int) : keyD (.int i) = some (.inl i) := rfl
@[simp] theorem keyD_str (i : Str) : keyD (.str i) = some (.inr i) := rfl
@[simp] theorem kD_int (i : Int) : kD (.inl i) = .int i := rfl
@[simp] theorem kD_str (i : Str) : kD (.inr i) = .str i := rfl
@[simp] theorem kids_lst (ts) : kids (.lst ts) = allSh ts := rfl
@[simp] theorem kids_shl (ds) : kids (.sh (.lst ds)) = some ds := rfl
@[simp] theorem kids_sht (ds) : kids (.sh (.tup ds)) = some ds := rfl
@[simp] theorem kidsL_lst (ts) : kidsL (.lst ts) = allSh ts := rfl
@[simp] theorem kidsL_shl (ds) : kidsL (.sh (.lst ds)) = some ds := rfl
@[simp] theorem kidsD_dct (ts) : kidsD (.dct ts) = allShK ts := rfl
@[simp] theorem kidsD_sh (ds) : kidsD (.sh (.dct ds)) = some ds := rfl
@[simp] theorem keysT_dct (ts) : keysT (.dct ts) = some (ts.map (·.1)) := rfl
@[simp] theorem keysT_sh (ds) : keysT (.sh (.dct ds)) = some (ds.map (·.1)) := rfl
theorem keysT_lst (ts) : keysT (.lst ts) = none := rfl
@[simp] theorem viewV_pl (i : Nat) (p) (e : Env) : viewV (.pl i p) e = (match e[i]? with | some (.vw t) => T.get p t | _ => none) := rfl
@[simp] theorem viewV_tv (t) (e : Env) : viewV (.tv t) e = none := rfl
@[simp] theorem srcV_ap (v : Val) (e : Env) : srcV v e = (match viewV v e with | some t => some (t, e) | none => (frzV v e).map fun q => (.sh q.1, q.2)) := rfl
@[simp] theorem anyT_dct (ts) : anyT (.dct ts) = some (kDs (ts.map (·.1))) := rfl
@[simp] theorem anyT_sh (ds) : anyT (.sh (.dct ds)) = some (kDs (ds.map (·.1))) := rfl
@[simp] theorem anyT_lst (ts) : anyT (.lst ts) = allSh ts := rfl
@[simp] theorem anyT_shl (ds) : anyT (.sh (.lst ds)) = some ds := rfl
@[simp] theorem anyT_sht (ds) : anyT (.sh (.tup ds)) = some ds := rfl
@[simp] theorem anyT_shs (z) : anyT (.sh (.str z)) = some (z.cps.toList.map fun c => .str ⟨#[c]⟩) := rfl
@[simp] theorem seqT_lst (ts) : seqT (.lst ts) = allSh ts := rfl
@[simp] theorem seqT_shl (ds) : seqT (.sh (.lst ds)) = some ds := rfl
@[simp] theorem seqT_sht (ds) : seqT (.sh (.tup ds)) = some ds := rfl
@[simp] theorem isL_lst (x) : isL (.lst x) = true := rfl
@[simp] theorem isL_shl (x) : isL (.sh (.lst x)) = true := rfl
@[simp] theorem isDc_dct (x) : isDc (.dct x) = true := rfl
@[simp] theorem isDc_shd (x) : isDc (.sh (.dct x)) = true := rfl
@[simp] theorem isIntT_int (i) : isIntT (.sh (.int i)) = true := rfl
@[simp] theorem asB_bl (b) : asB (.sh (.bl b)) = some b := rfl
@[simp] theorem truF_bl (b) : truF (.sh (.bl b)) = some b := rfl
@[simp] theorem ixN_ap (n : Nat) (i : Int) : ixN n i = if 0 ≤ i then (if i < n then some i.toNat else none) else if -(n : Int) ≤ i then some (i + n).toNat else none := rfl
@[simp] theorem subV_sh (v : Val) (q) (d : D) : subV v q (.sh d) = some (.tv (.sh d)) := rfl
@[simp] theorem subV_lst (i : Nat) (p) (q) (x) : subV (.pl i p) q (.lst x) = some (.pl i (p ++ [q])) := rfl
@[simp] theorem subV_dct (i : Nat) (p) (q) (x) : subV (.pl i p) q (.dct x) = some (.pl i (p ++ [q])) := rfl
@[simp] theorem subV_ins (i : Nat) (p) (q) (C) (x) : subV (.pl i p) q (.ins C x) = some (.pl i (p ++ [q])) := rfl
@[simp] theorem ixT_shl (v : Val) (ds) (i : Int) : ixT v (.sh (.lst ds)) (.int i) = (atI ds i).map fun d => .tv (.sh d) := rfl
@[simp] theorem ixT_sht (v : Val) (ds) (i : Int) : ixT v (.sh (.tup ds)) (.int i) = (atI ds i).map fun d => .tv (.sh d) := rfl
@[simp] theorem ixT_shd (v : Val) (kds) (i : D) : ixT v (.sh (.dct kds)) i = (keyD i).bind fun k => (lk kds k).map fun d => .tv (.sh d) := by cases i <;> rfl
@[simp] theorem ixT_lst (v : Val) (ts) (i : Int) : ixT v (.lst ts) (.int i) = (ixN ts.length i).bind fun n => (ts[n]?).bind (subV v (.idx n)) := rfl
@[simp] theorem ixT_dct (v : Val) (kts) (i : D) : ixT v (.dct kts) i = (keyD i).bind fun k => (lk kts k).bind (subV v (.key k)) := by cases i <;> rfl
@[simp] theorem atI_ap {α : Type} (xs : List α) (i : Int) : atI xs i = (ixN xs.length i).bind fun j => xs[j]? := rfl
@[simp] theorem xAdd_int (i j : Int) : xAdd [.sh (.int i), .sh (.int j)] = some (.sh (.int (i + j))) := by simp [xAdd, liftD, oAdd, f2i]
@[simp] theorem xSub_int (i j : Int) : xSub [.sh (.int i), .sh (.int j)] = some (.sh (.int (i - j))) := by simp [xSub, liftD, oSub, f2i]
theorem xMul_int (i j : Int) (h : i.natAbs.log2 + j.natAbs.log2 < 1000000) : xMul [.sh (.int i), .sh (.int j)] = some (.sh (.int (i * j))) := by simp [xMul, liftD, oMul, f2i, h]
theorem xMul_b (i j : Int) (h : -(2 ^ 500) < i ∧ i < 2 ^ 500) (h' : -(2 ^ 500) < j ∧ j < 2 ^ 500) : xMul [.sh (.int i), .sh (.int j)] = some (.sh (.int (i * j))) := by
  refine xMul_int i j ?_
  have a : i.natAbs < 2 ^ 500 := by omega
  have b : j.natAbs < 2 ^ 500 := by omega
  have lg : ∀ n : Nat, n < 2 ^ 500 → n.log2 < 500 := fun n hn => by
    rcases Nat.eq_zero_or_pos n with z | z
    · subst z; decide
    · exact (Nat.log2_lt (by omega)).mpr hn
  have := lg _ a; have := lg _ b
  omega
theorem xMod_int (i j : Int) (h : 0 < j) : xMod [.sh (.int i), .sh (.int j)] = some (.sh (.int (i % j))) := by simp [xMod, liftD, oMod, f2i, h]
theorem xDiv_int (i j : Int) (h : 0 < j) (h' : j.natAbs.log2 < 9000) : xDiv [.sh (.int i), .sh (.int j)] = some (.sh (.int (i / j))) := by simp [xDiv, liftD, oDiv, f2i, h, h']
@[simp] theorem xNeg_int (i : Int) : xNeg [.sh (.int i)] = some (.sh (.int (-i))) := by simp [xNeg, liftD, oNeg]
@[simp] theorem xLt_int (i j : Int) : xLt [.sh (.int i), .sh (.int j)] = some (.sh (.bl (decide (i < j)))) := by simp [xLt, liftD, oLt, f2i]
@[simp] theorem xLe_int (i j : Int) : xLe [.sh (.int i), .sh (.int j)] = some (.sh (.bl (decide (i ≤ j)))) := by simp [xLe, liftD, oLe, f2i]
@[simp] theorem xGt_int (i j : Int) : xGt [.sh (.int i), .sh (.int j)] = some (.sh (.bl (decide (j < i)))) := by simp [xGt, liftD, oGt, f2i]
@[simp] theorem xGe_int (i j : Int) : xGe [.sh (.int i), .sh (.int j)] = some (.sh (.bl (decide (j ≤ i)))) := by simp [xGe, liftD, oGe, f2i]
@[simp] theorem xEq_int (i j : Int) : xEq [.sh (.int i), .sh (.int j)] = some (.sh (.bl (decide (i = j)))) := by simp [xEq, liftD, oEqS, eqS]
theorem yEq_of {us : List T} {t : T} (h : xEq us = some t) : yEq us = some t := by simp [yEq, h]
@[simp] theorem yEq_int (i j : Int) : yEq [.sh (.int i), .sh (.int j)] = some (.sh (.bl (decide (i = j)))) := yEq_of (xEq_int i j)
@[simp] theorem xNe_str (i j : Str) : xNe [.sh (.str i), .sh (.str j)] = some (.sh (.bl (!decide (i = j)))) := by simp [xNe, liftD, oNeS, eqS]
@[simp] theorem xMin_int (i j : Int) : xMin [.sh (.int i), .sh (.int j)] = some (.sh (.int (if j < i then j else i))) := by simp [xMin, liftD, oMin2]
@[simp] theorem xIs_non (t : T) : xIs [t, .sh .non] = some (.sh (.bl (isNon t.er))) := by simp [xIs, liftD, oIsN]
@[simp] theorem xIsNot_non (t : T) : xIsNot [t, .sh .non] = some (.sh (.bl (!isNon t.er))) := by simp [xIsNot, liftD, oNotN]
@[simp] theorem isNon_non : isNon .non = true := rfl
@[simp] theorem isNon_str (x) : isNon (.str x) = false := rfl
@[simp] theorem isNon_int (x) : isNon (.int x) = false := rfl
@[simp] theorem isNon_lst (x) : isNon (.lst x) = false := rfl
@[simp] theorem isNon_tup (x) : isNon (.tup x) = false := rfl
@[simp] theorem isNon_dct (x) : isNon (.dct x) = false := rfl
@[simp] theorem isNon_bl (x) : isNon (.bl x) = false := rfl
theorem xList_kids {t : T} {ds : List D} (h : kids t = some ds) : xList [t] = some (.lst (shs ds)) := by simp [shs, xList, oListOf, h]
@[simp] theorem xList_lst (ts : List T) : xList [.lst ts] = (allSh ts).map fun ds => .lst (shs ds) := by simp [shs, xList, oListOf, oListD, keysT_lst]
@[simp] theorem xList_shl (ds) : xList [.sh (.lst ds)] = some (.lst (shs ds)) := xList_kids rfl
@[simp] theorem xList_sht (ds) : xList [.sh (.tup ds)] = some (.lst (shs ds)) := xList_kids rfl
@[simp] theorem xList_dct (ts : List (Key × T)) : xList [.dct ts] = some (.lst (shs (kDs (ts.map (·.1))))) := by simp [shs, kDs, xList, oListOf, oListD, kids]
@[simp] theorem xList_shd (ts : List (Key × D)) : xList [.sh (.dct ts)] = some (.lst (shs (kDs (ts.map (·.1))))) := by simp [shs, kDs, xList, oListOf, oListD, kids, items]
@[simp] theorem xLen_lst (ts : List T) : xLen [.lst ts] = some (.sh (.int ts.length)) := by simp [xLen, liftD, oLen, lenD]
@[simp] theorem xLen_shd (ts : List (Key × D)) : xLen [.sh (.dct ts)] = some (.sh (.int ts.length)) := by simp [xLen, liftD, oLen, lenD, oLenD]
theorem xLen_str (s : Str) (h : s.length ≤ sizeLine) : xLen [.sh (.str s)] = some (.sh (.int s.length)) := by simp [xLen, liftD, oLen, lenD, h]
@[simp] theorem xIn_shd (k : D) (ts : List (Key × D)) : xIn [.sh k, .sh (.dct ts)] = (keyD k).map fun kk => .sh (.bl (DL.hk ts kk)) := by cases h : keyD k <;> simp [xIn, liftD, inDct, h, oInQ, items]; cases k <;> rfl
@[simp] theorem xNotIn_shd (k : D) (ts : List (Key × D)) : xNotIn [.sh k, .sh (.dct ts)] = (keyD k).map fun kk => .sh (.bl (!DL.hk ts kk)) := by cases h : keyD k <;> simp [xNotIn, liftD, ninDct, h, oInQ, items]; cases k <;> rfl
theorem lk_er {κ : Type} [DecidableEq κ] (ts : List (κ × T)) (k : κ) : lk (ts.map fun p => (p.1, p.2.er)) k = (lk ts k).map T.er := by
  induction ts with
  | nil => rfl
  | cons p r ih => simp only [List.map_cons, lk]; split <;> simp_all
theorem hk_er {κ : Type} [DecidableEq κ] (ts : List (κ × T)) (k : κ) : DL.hk (ts.map fun p => (p.1, p.2.er)) k = DL.hk ts k := by simp [DL.hk, lk_er]
@[simp] theorem xIn_dct (k : D) (ts : List (Key × T)) : xIn [.sh k, .dct ts] = (keyD k).map fun kk => .sh (.bl (DL.hk ts kk)) := by cases h : keyD k <;> simp [xIn, liftD, inDct, h, oInQ, items, hk_er]; cases k <;> rfl
@[simp] theorem xNotIn_dct (k : D) (ts : List (Key × T)) : xNotIn [.sh k, .dct ts] = (keyD k).map fun kk => .sh (.bl (!DL.hk ts kk)) := by cases h : keyD k <;> simp [xNotIn, liftD, ninDct, h, oInQ, items, hk_er]; cases k <;> rfl
theorem xAdd_l {s t : T} {a b : List D} (h : kidsL s = some a) (h' : kidsL t = some b) (hl : a.length + b.length ≤ sizeLine) : xAdd [s, t] = some (.lst (shs (a ++ b))) := by
  cases s with
  | sh d => cases d <;> simp [kidsL] at h; subst h; cases t with
    | sh d' => cases d' <;> simp [shs, kidsL] at h'; subst h'; simp [shs, xAdd, liftD, oAdd, oCatS, oCatL, f2i, hl]
    | lst ts => simp at h'; simp [shs, xAdd, liftD, oAdd, oCatS, oCatL, f2i, hl, h']
    | dct _ => simp [kidsL] at h'
    | ins _ _ => simp [kidsL] at h'
  | lst ts => simp at h; cases t with
    | sh d' => cases d' <;> simp [shs, kidsL] at h'; subst h'; simp [shs, xAdd, liftD, oAdd, oCatS, oCatL, f2i, hl, h]
    | lst ts => simp at h'; simp [shs, xAdd, liftD, oAdd, oCatS, oCatL, f2i, hl, h, h']
    | dct _ => simp [kidsL] at h'
    | ins _ _ => simp [kidsL] at h'
  | dct _ => simp [kidsL] at h
  | ins _ _ => simp [kidsL] at h
@[simp] theorem oSh_l (ts) (i : Int) : oSh [.lst ts, .sh (.int i)] = (allSh ts).map fun ds => .lst (shs (cut ds none (some i))) := by cases h : allSh ts <;> simp [shs, oSh, slT, h]
@[simp] theorem oSl_l (ts) (i : Int) : oSl [.lst ts, .sh (.int i)] = (allSh ts).map fun ds => .lst (shs (cut ds (some i) none)) := by cases h : allSh ts <;> simp [shs, oSl, slT, h]
@[simp] theorem oSh_scr (ns) (i : Int) : oSh [.sh (.scr ns), .sh (.int i)] = some (.lst (shs (cut (ns.map D.int) none (some i)))) := by simp [shs, oSh, slT, kidsL]
@[simp] theorem gAppend_lst (ts : List T) (t : T) : gAppend (.lst ts) [t] = if ts.length < sizeLine then some (.lst (ts ++ [t]), .sh .non) else none := rfl
@[simp] theorem gClear_dct (ts) : gClear (.dct ts) [] = some (.dct [], .sh .non) := rfl
@[simp] theorem putT_dct (d : D) (t : T) (kts) : putT d t (.dct kts) = (keyD d).bind fun k => if kts.length < sizeLine then some (.dct (pk kts k t), ()) else none := rfl
@[simp] theorem putT_lst (j : Int) (t : T) (ts) : putT (.int j) t (.lst ts) = (ixN ts.length j).map fun n => (.lst (ts.set n t), ()) := rfl
@[simp] theorem putFT_ins (C : Addr) (f : Str) (t : T) (fs) : putFT C f t (.ins C fs) = if fs.length < 1000 then some (.ins C (pk fs f t), ()) else none := by simp [putFT]
@[simp] theorem sizeLine_eq : sizeLine = 16777216 := rfl
@[simp] theorem cut_hi {α : Type} (xs : List α) (i : Int) : cut xs none (some i) = if i < 0 then xs.take (i + xs.length).toNat else xs.take i.toNat := by
  simp only [cut, HT.sIx]
  by_cases h : i < 0
  · simp [h]
  · simp only [h, if_false, List.drop_zero, Nat.sub_zero]
    rcases Nat.le_total i.toNat xs.length with h' | h'
    · rw [Nat.min_eq_left h']
    · rw [Nat.min_eq_right h', List.take_length, List.take_of_length_le h']
@[simp] theorem cut_lo {α : Type} (xs : List α) (i : Int) : cut xs (some i) none = if i < 0 then xs.drop (i + xs.length).toNat else xs.drop i.toNat := by
  simp only [cut, HT.sIx]
  by_cases h : i < 0
  · simp only [h, if_true]
    rw [List.take_of_length_le]; simp
  · simp only [h, if_false]
    rcases Nat.le_total i.toNat xs.length with h' | h'
    · rw [Nat.min_eq_left h', List.take_of_length_le]; simp
    · rw [Nat.min_eq_right h', List.drop_length, List.drop_of_length_le h']; simp
abbrev penT (cs : List Int) (i p : Int) : T := .lst [.lst (shs (cs.map D.int)), .sh (.int i), .sh (.int p)]
end DL
namespace DL
variable [Lf]
open PySem PySem.Spec PyProof.Rows L2
def okO : Val → Bool
  | .pl _ [] => true
  | .tv (.sh _) => true
  | _ => false
def mCallO (n : Nat) (f : MF) (ms : MA) : ME := fun e => (ms e).bnd fun vs e1 => if vs.length = n then match vs with
  | v0 :: .tv u :: rest => if okO v0 = true ∧ okP rest = true then match cn v0 e1, cns rest e1 with
    | some t0, some ts => match f (argS t0 :: .va u :: ts.map argS) with
      | .ret r none => .ok (.tv r, e1)
      | .exc c none => .ex c e1
      | _ => .st
    | _, _ => .st
    else .st
  | _ => .st
  else .st
@[simp] theorem mCallO_ap (n : Nat) (f : MF) (ms : MA) (e : Env) : mCallO n f ms e = (ms e).bnd fun vs e1 => if vs.length = n then match vs with
  | v0 :: .tv u :: rest => if okO v0 = true ∧ okP rest = true then match cn v0 e1, cns rest e1 with
    | some t0, some ts => match f (argS t0 :: .va u :: ts.map argS) with
      | .ret r none => .ok (.tv r, e1)
      | .exc c none => .ex c e1
      | _ => .st
    | _, _ => .st
    else .st
  | _ => .st
  else .st := rfl
@[simp] theorem okO_tv (d : D) : okO (.tv (.sh d)) = true := rfl
@[simp] theorem okO_pl (i : Nat) : okO (.pl i []) = true := rfl
@[simp] theorem okP_nil : okP [] = true := rfl
@[simp] theorem okP_tv (t : T) (r : List Val) : okP (.tv t :: r) = okP r := rfl
@[simp] theorem okP_pl (i : Nat) (r : List Val) : okP (.pl i [] :: r) = okP r := rfl
def lendB (s : Slot) (i : Nat) : R (Val × Env) → R (Val × Env)
  | .ok (.tv u, e1) => .ok (.tv u, e1.set i s)
  | .ok _ => .st
  | .ex c e1 => .ex c (e1.set i s)
  | .st => .st
def mLend (i : Nat) (m : ME) : ME := fun e => match e[i]? with
  | some (.va (.sh _)) => m e
  | some (.va t) => lendB (.va t) i (m (e.set i (.vw t)))
  | some (.mu t) => lendB (.mu t) i (m (e.set i (.vw t)))
  | _ => m e
@[simp] theorem mLend_ap (i : Nat) (m : ME) (e : Env) : mLend i m e = (match e[i]? with
  | some (.va (.sh _)) => m e
  | some (.va t) => lendB (.va t) i (m (e.set i (.vw t)))
  | some (.mu t) => lendB (.mu t) i (m (e.set i (.vw t)))
  | _ => m e) := rfl
@[simp] theorem lendB_ok (s : Slot) (i : Nat) (u : T) (e1 : Env) : lendB s i (.ok (.tv u, e1)) = .ok (.tv u, e1.set i s) := rfl
@[simp] theorem lendB_ex (s : Slot) (i : Nat) (c : Exn) (e1 : Env) : lendB s i (.ex c e1) = .ex c (e1.set i s) := rfl
def isSt : T → Bool
  | .sh (.str _) => true
  | _ => false
theorem isSt_ok {K : Kf} {F H : Hp} {t : T} {x : V} (h : isSt t = true) (r : VR K H F t x) : tyS x H := by
  cases t with
  | sh d => cases d <;> cases h; exact ⟨_, r⟩
  | _ => cases h
def lenS (l : List Str) : Nat := (l.map (·.length)).sum
def xJoin : List T → Option T
  | [.sh (.str a), t] => (kidsL t).bind fun ds => (strsD ds).bind fun l => if lenS l + l.length * a.length ≤ 16777216 then some (.sh (.str (Txt.join a l))) else none
  | _ => none
def rJoin (K : Kf) (x : V) (xs : List V) (H : Hp) (Q : VK) : Prop := ∃ a p, ∃ ys : List Str, x = .str a ∧ xs = [.ref p] ∧ (SqL K H p (ys.map V.str) ∨ SqT K H p (ys.map V.str)) ∧ (ys.map (·.length)).sum + ys.length * a.length ≤ 16777216 ∧ Q (.str (Txt.join a ys)) H
theorem on_join {K : Kf} : OpN K (rFst (rJoin K)) xJoin := by
  intro B F H ss os us xs t' Q st vr e q
  unfold xJoin at e
  split at e
  · rename_i a t
    obtain ⟨x, _, rfl, vx, y, _, rfl, vy, rfl⟩ := vr
    obtain ⟨ds, e1, e⟩ := Option.bind_eq_some_iff.mp e
    obtain ⟨l, e2, e⟩ := Option.bind_eq_some_iff.mp e
    by_cases hb : lenS l + l.length * a.length ≤ 16777216
    case neg => rw [if_neg hb] at e; cases e
    rw [if_pos hb] at e
    cases e
    cases (show x = V.str a from vx)
    obtain ⟨p, vs, rfl, hq, r⟩ := kidsL_ok st.sf e1 vy
    rw [strsD_ok e2 r] at hq
    exact ⟨a, p, l, rfl, rfl, .inl (.inl (.inl hq)), hb, q _ _ (Same.refl _) (st.push (d := .str _) rfl)⟩
  · cases e
section
variable {P : Program} {w : World} {base : Heap} {K : Kf} {mg : Str → Option Value} {k : Nat} {ι : Type} {X : ι → Cx} {E : XS} {e o : Expr} {es : List Expr} {apos cpos pos : Pos} {m : ME} {ms : MA} {x : Str}
theorem mJoin (fm : Fm P w K mg base k X E) : Mr K X "join" isSt xJoin :=
  ⟨"str", "str.join", tyS, rJoin K, F.plainAttrs_str, F.slot_str_join, F.type_str_join, fun _ => tyS_ok, fun j => (by have := mt_join (X := X j); rw [fm.hk j] at this; exact this), on_join, fun t x F H c r _ => isSt_ok c r⟩
end
end DL
namespace DL
variable [Lf]
open PySem PySem.Spec PyProof.Rows L2 HT
end DL
namespace DL
variable [Lf]
open PySem PySem.Spec PyProof.Rows L2
theorem ne_dicts {prog : Program} {w : World} {A : Around} {s : Shared} {E Q : Value → Shared → Prop} {p q : Addr} {kp kq : List (Key × Value)} {r : Bool} (np : (p == sysModules) = false) (nq : (q == sysModules) = false) (hp : s.heap.DictOf (mixKind prog w) p kp) (hq : s.heap.DictOf (mixKind prog w) q kq) (room : A.units < cLine)
    (meet : kp.length = kq.length → PySem.W.KeqHitsIn prog w A.in1 s kq kp r) (fin : Q (.bool (!(kp.length == kq.length && r))) s) : wpAny (model prog w) A (compareOp .NotEq (.ref p) (.ref q)) Q E s := by
  have tp := hp.typeIs
  have tq := hq.typeIs
  refine wpAny_richCompare_same_room (op := .NotEq) tp tq PySem.F.slot_dict_ne (wpAny_call_entry PySem.F.slot_dict_ne tp PySem.F.entry_dict_ne ?body (PySem.F.args_dict_ne_2 _ _)) room
  case body =>
    show wpAny _ _ (Builtin.Dict.dictSlotArgs "__ne__" ⟨[.ref p, .ref q], []⟩ >>= _) _ _ s
    refine wpAny_bind ?_; unfold Builtin.Dict.dictSlotArgs
    refine wpAny_bind (wpAny_notOrdered_dict tp ?_); show wpAny _ _ (pure (Value.ref p, Value.ref q)) _ _ s
    refine wpAny_pure (wpAny_bind (wpAny_isInstance (T := "dict") tq PySem.F.sub_dict_dict ?_))
    simp only [Bool.not_true, Bool.false_eq_true, if_false]
    refine wpAny_bind (wpAny_pure (wpAny_bind (wpAny_pure (wpAny_bind (PySem.W.keq_samePairsIn np nq hp hq meet ?_)))))
    exact wpAny_pure ⟨_, rfl, (fun x => nomatch x), by simpa using fin⟩
section
variable {X : Cx} {pins : List (Addr × Obj)} {σ : L2.St} {H : Hp} {s : Shared}
theorem dd_meet (I : Inv X pins σ H s) {n : Nat} {A : Around} (hu : A.units + n < cLine) {ls : List (Key × D)} {lvs : List (Key × V)} {vb : List (Key × Value)} (rb : KV lvs vb) (r2 : DRk X.K H ls lvs) :
    ∀ (ks0 : List (Key × D)) (kvs0 : List (Key × V)) (va0 : List (Key × Value)) (c0 : Bool), DRk X.K H ks0 kvs0 → KV kvs0 va0 → allO (ks0.map fun p => match lk ls p.1 with | none => some false | some v => deq n p.2 v) = some c0 → PySem.W.KeqHitsIn X.prog X.w A s vb va0 c0 := by
  intro ks0
  induction ks0 with
  | nil =>
    intro kvs0 va0 c0 g1 g2 g3
    cases (show kvs0 = [] from g1)
    cases g2
    cases g3
    exact .nil
  | cons kd ks0 ih =>
    obtain ⟨k0, d0⟩ := kd
    rintro kvs0 va0 c0 ⟨v0, kvs1, rfl, g0, g1⟩ g3 g4
    obtain ⟨g0, gd⟩ := g0
    obtain ⟨a1, c1, x1, x2, rfl⟩ := allO_cons g4
    unfold KV at g3
    cases g3 with
    | @cons _ q1' _ va1 t1 t2 =>
    obtain ⟨key, v1⟩ := q1'
    obtain ⟨t3, t4⟩ := t1
    have t3 : v0.1 = key := t3
    rw [g0] at t3
    subst t3
    have rv := rb.val k0
    have gl := r2.lk (k := k0)
    rw [valV_lk] at rv
    simp only at x1
    cases hk : lk ls k0 with
    | none =>
      rw [hk] at x1 gl
      cases x1
      cases hv : lk lvs k0 with
      | some _ => rw [hv] at gl; exact gl.elim
      | none =>
        rw [hv] at rv
        refine .miss ?_
        cases hva : valueAt vb k0 with
        | none => rfl
        | some _ => rw [hva] at rv; exact rv.elim
    | some e0 =>
      rw [hk] at x1 gl
      cases hv : lk lvs k0 with
      | none => rw [hv] at gl; exact gl.elim
      | some w0 =>
        rw [hv] at rv gl
        obtain ⟨y1, hy, ry⟩ := rv.some_of
        refine .hit hy ?_ (ih kvs1 va1 c1 g1 t2 x2)
        exact (deq_run I n d0 e0 v0.2 w0 v1 y1 a1 gd gl x1 t4 ry).1 A hu
end
def rNeDD (K : Kf) : R2 := fun x y H Q => ∃ ks ls b, DR K H (.dct ks) x ∧ DR K H (.dct ls) y ∧ deq 60 (.dct ks) (.dct ls) = some b ∧ Q (.bl (!b)) H
theorem op_neDD {X : Cx} (hu : X.A.units + 64 < cLine) : OpR X (compareOp .NotEq) (rNeDD X.K) := by
  intro pins s σ H x y v u Q I rx ry h
  obtain ⟨ks, ls, b, hd, he, hq, q⟩ := h
  obtain ⟨p1, kvs, e1, q1, r1⟩ := id hd
  obtain ⟨p2, lvs, e2, q2, r2⟩ := id he
  subst e1; subst e2
  cases (show v = Value.ref p1 from rx)
  cases (show u = Value.ref p2 from ry)
  obtain ⟨_, ya, va, ra, da⟩ := q1.ok I.hok
  obtain ⟨_, yb, vb, rb, db⟩ := q2.ok I.hok
  rw [show deq 60 (D.dct ks) (D.dct ls) = (if (ks.map (·.1)).Nodup ∧ (ls.map (·.1)).Nodup then (allO (ks.map fun p => match lk ls p.1 with | none => some false | some v => deq 59 p.2 v)).map fun b => ks.length == ls.length && b else none) from rfl] at hq
  split at hq
  · obtain ⟨c, hc, rfl⟩ := Option.map_eq_some_iff.mp hq
    refine ne_dicts (r := c) ya yb da db (by omega) (fun _ => dd_meet I (n := 59) (by show X.A.units + 1 + 59 < cLine; omega) rb r2 ks kvs va c r1 ra hc) ?_
    have l1 : va.length = ks.length := by rw [← ra.length]; have := congrArg List.length r1.keys; simpa using this
    have l2 : vb.length = ls.length := by rw [← rb.length]; have := congrArg List.length r2.keys; simpa using this
    rw [l1, l2]
    exact ⟨.bl _, H, I, rfl, q⟩
  · cases hq
def oNeDD : List D → Option D
  | [.dct ks, .dct ls] => (deq 60 (.dct ks) (.dct ls)).map fun b => .bl (!b)
  | _ => none
theorem od_neDD {K : Kf} : OpD K (r2 (rNeDD K)) oNeDD := by
  intro H us xs d Q vr e q
  unfold oNeDD at e
  split at e
  · obtain ⟨x, _, rfl, hx, y, _, rfl, hy, rfl⟩ := vr
    obtain ⟨c, h1, rfl⟩ := Option.map_eq_some_iff.mp e
    exact ⟨_, _, c, hx, hy, h1, q _ rfl⟩
  · cases e
def yNe (us : List T) : Option T := (xNe us).or (liftD oNeDD us)
theorem bNe2 {P : Program} {w : World} {base : Heap} {K : Kf} {mg : Str → Option Value} {k : Nat} {ι : Type} {X : ι → Cx} {E : XS} (fm : Fm P w K mg base k X E) : Bi K X (compareOp .NotEq) yNe :=
  (bNe fm).or (Bi.of (fun j => (by have := op_neDD (X := X j) (fm.un j); rw [fm.hk j] at this; exact this)) od_neDD.n)
def LamU (K : Kf) (P : Addr) (q : Str) : Prop := ∀ g c q', lamT K g = some (c, P, q') → q' = q
section
variable {K : Kf} {H : Hp} {P c : Addr} {q : Str} {ps : Array Value} {pos : Pos}
theorem Bs.table (hP : H P = some (.tbl ps)) (hc : H c = none) (hu : LamU K P q) : Bs K H (upd (upd H P (.tbl (ps ++ #[rawInt pos.line, rawInt pos.col, .ref c]))) c (LamX.CodeO c q)) := by
  have nPc : P ≠ c := ne_of_none hP hc
  have off : ∀ b, b ≠ P → b ≠ c → upd (upd H P (.tbl (ps ++ #[rawInt pos.line, rawInt pos.col, .ref c]))) c (LamX.CodeO c q) b = H b := fun b h1 h2 => by rw [upd_ne h2, upd_ne h1]
  have onP : upd (upd H P (.tbl (ps ++ #[rawInt pos.line, rawInt pos.col, .ref c]))) c (LamX.CodeO c q) P = some (.tbl (ps ++ #[rawInt pos.line, rawInt pos.col, .ref c])) := by rw [upd_ne nPc, upd_same]
  have some_c : ∀ b u, H b = some u → b ≠ c := fun b u e => ne_of_none e hc
  have kp : ∀ b u, H b = some u → (∀ w, u ≠ .tbl w) → upd (upd H P (.tbl (ps ++ #[rawInt pos.line, rawInt pos.col, .ref c]))) c (LamX.CodeO c q) b = some u := fun b u e n => by
    rw [off b (fun z => n ps (Option.some.inj (e.symm.trans (by rw [z]; exact hP)))) (some_c b u e)]
    exact e
  refine ⟨kp, fun T g0 c0 P0 q0 e0 => ?_, fun b w e => ?_, fun b e => ?_⟩
  · obtain ⟨ps0, t1, t2, t3⟩ := T g0 c0 P0 q0 e0
    by_cases hb : P0 = P
    · subst hb
      have eq0 : q0 = q := hu g0 c0 q0 e0
      subst eq0
      cases hP.symm.trans t1
      have el : (ps ++ #[rawInt pos.line, rawInt pos.col, .ref c]).toList = ps.toList ++ [rawInt pos.line, rawInt pos.col, .ref c] := by simp
      refine ⟨_, onP, by rw [el]; exact PySem.TriplesOk_snoc _ _ _ _ t2, fun p' cv hcv => ?_⟩
      rw [el] at hcv
      rcases LamX.among_app _ t2 hcv with z | z
      · obtain ⟨c1, u1, u2⟩ := t3 p' cv z
        exact ⟨c1, u1, kp c1 _ u2 LamX.codeO_ne⟩
      · exact ⟨c, z, upd_same⟩
    · refine ⟨ps0, by rw [off P0 hb (some_c P0 _ t1)]; exact t1, t2, fun p' cv hcv => ?_⟩
      obtain ⟨c1, u1, u2⟩ := t3 p' cv hcv
      exact ⟨c1, u1, kp c1 _ u2 LamX.codeO_ne⟩
  · by_cases hb : b = P
    · exact ⟨_, by rw [hb]; exact onP⟩
    · exact ⟨w, by rw [off b hb (some_c b _ e)]; exact e⟩
  · have n1 : b ≠ c := fun z => by rw [z, upd_same] at e; cases e
    have n2 : b ≠ P := fun z => by rw [z, onP] at e; cases e
    rw [off b n2 n1] at e
    exact e
end
section
variable {X : Cx} {pins : List (Addr × Obj)} {σ : L2.St} {H HZ : Hp} {s s1 : Shared} {g c P : Addr} {q : Str} {params : Arguments} {body : Expr} {scope : Scope} {pos : Pos}
theorem lam_mk {E : Value → Shared → Prop} {Q : Value → Shared → Prop} (I : Inv X pins σ H s) (TB : LamX.TabB X.base X.mg c P) (hcode : X.env.code = .ref c) (hl : lamT X.K g = some (c, P, q)) (hu : LamU X.K P q) (hq : X.env.qual ++ "<lambda>" = q) (hT : TabsK X.K H)
    (hdef : defaultsOf params X.env = ([], [])) (hfree : ∀ y ∈ scope.names, y.2 = .free → ∃ c, X.env.cells.lookup y.1 = some c)
    (h : ∀ (f c1 : Addr) (pm ctv : Value) (H1 : Hp) (s1 : Shared), Inv X pins σ H1 s1 → Bs X.K H H1 → s1.heap.get? f = some (PySem.W.kla_obj "<lambda>" q params body scope (cloFrom X.env.cells scope.names []) pm c1 ctv) → H1 f = none → f ∉ frs X.stack → H1 c1 = some (LamX.CodeO c1 q) → Q (.ref f) s1) :
    wpAny (model X.prog X.w) X.A (eval (.Lambda params body scope pos) X.env) Q E s := by
  subst hq
  obtain ⟨ps, hP, ht, ha⟩ := hT g c P _ hl
  refine PySem.W.kla_eval hdef ?_
  have bk := TB.bm.keeps I.bk
  have objP : s.heap.get? P = some { cls := .none, data := .fields ps } := I.hok P _ hP
  have off : ∀ f, s.heap.objs.size ≤ f → f ∉ frs X.stack := fun f hf z => by
    rcases List.mem_cons.mp (I.stkSub _ z) with e | e
    · have := I.lt
      rw [← e] at this
      exact absurd (Nat.lt_of_lt_of_le this hf) (Nat.lt_irrefl _)
    · exact I.nofs hf e
  cases hc : codeAmong pos ps.toList with
  | some cv =>
    obtain ⟨c1, e, hco⟩ := ha pos cv hc
    subst e
    refine PySem.W.kla_makeFunctionHit (mg := X.mg) (c := c) (P := P) (ps := ps) (closure_ok hfree) I.ok.glob (I.mod.glob.keeps I.bk) hcode (TB.code.keeps I.bk) objP ht hc bk fun ctv h1 tk hx hsz => ?_
    exact h h1.objs.size c1 ((X.mg "__name__").getD .none) ctv H _ (I.kept (h' := h1.push (PySem.W.kla_obj "<lambda>" (X.env.qual ++ "<lambda>") params body scope (cloFrom X.env.cells scope.names []) ((X.mg "__name__").getD .none) c1 ctv)) fun b o e => Heap.get?_push_of_some _ (hx b o e)) (Bs.refl H) (Heap.get?_push_size _ rfl) (I.hok.fresh hsz) (off _ hsz) hco
  | none =>
    refine PySem.W.kla_makeFunction (mg := X.mg) (c := c) (P := P) (ps := ps) (closure_ok hfree) I.ok.glob (I.mod.glob.keeps I.bk) hcode (TB.code.keeps I.bk) objP ht hc TB.gP bk fun c1 ctv h1 tk hx hge hlt hrec htb => ?_
    obtain ⟨c2, oc, vs, t, e2, hoc, hd, hv⟩ := hrec
    cases e2
    have n0 : H c1 = none := I.hok.fresh hge
    have hsz : s.heap.objs.size ≤ h1.objs.size := Nat.le_trans hge (Nat.le_of_lt hlt)
    refine h h1.objs.size c1 ((X.mg "__name__").getD .none) ctv _ _ (LamX.inv_table (t' := tk) (more := #[rawInt pos.line, rawInt pos.col, .ref c1]) (q := X.env.qual ++ "<lambda>") (h' := h1.push (PySem.W.kla_obj "<lambda>" (X.env.qual ++ "<lambda>") params body scope (cloFrom X.env.cells scope.names []) ((X.mg "__name__").getD .none) c1 ctv)) I hP
      (fun b o hb e => Heap.get?_push_of_some _ (hx b o hb e)) (Heap.get?_push_of_some _ htb) hge ⟨oc, vs, t, Heap.get?_push_of_some _ hoc, hd, hv⟩) (Bs.table hP n0 hu) (Heap.get?_push_size _ rfl) ?_ (off _ hsz) upd_same
    rw [upd_ne (Nat.ne_of_gt hlt), upd_ne (Nat.ne_of_gt (Nat.lt_of_lt_of_le (Heap.lt_size objP) hsz))]
    exact I.hok.fresh hsz
theorem pe_actS {CXg : CXT} {Eg : XK} {Ng : List Str} {qg : Str} {sg : Scope} {gz f c1 : Addr} {cdg pm ctv : Value} {k i : Nat} {a : Str} {pn : List (Addr × Obj)} {xe : Value → Shared → Prop} {ES : XS} {tb : XK → TE} {p1 p2 : Pos}
    (I : Inv X pins σ H s) (L : LamX.LamS X.env.scope scope) (hf : s.heap.get? f = some (PySem.W.kla_obj "<lambda>" q params body scope (cloFrom X.env.cells scope.names []) pm c1 ctv)) (hq : X.env.qual ++ "<lambda>" = q) (hfn : H f = none) (hfr : f ∉ frs X.stack)
    (hbind : bindArgs (PySem.W.kla_fn "<lambda>" q params body scope (cloFrom X.env.cells scope.names []) pm (.ref c1) ctv) ⟨[], []⟩ = pure [])
    (tk : Takes ((cxOf CXg X.prog X.w X.K X.mg X.base Ng qg sg gz cdg X.A X.stack s H Eg).tr pn xe) (fun cls d σ H => ES σ cls d H)) (hr : Room (k + 1) (X.A.deeper (envOfC qg sg s.heap.objs.size gz cdg)))
    (hbody : ∀ (E : XK) (s1 : Shared) (HZ : Hp), Room k ((X.A.deeper (envOfC qg sg s.heap.objs.size gz cdg)).deeper (LamX.lamEnv X scope s1.heap.objs.size f c1)) → PE (LamX.lamCx X (X.A.deeper (envOfC qg sg s.heap.objs.size gz cdg)) (envOfC qg sg s.heap.objs.size gz cdg :: X.stack) s1 HZ E scope f c1) body (tb E))
    (hN : Ng[i]? = some a) (hv : Vis sg a) (hd : (a == ("__debug__" : Str)) = false := by decide +kernel) (hcd : (a == ("__classdict__" : Str)) = false := by decide +kernel) :
    PE ((cxOf CXg X.prog X.w X.K X.mg X.base Ng qg sg gz cdg X.A X.stack s H Eg).tr pn xe) (.Call (.Name a p1) [] [] p2)
      (fun σZ HZ Q => σZ[i]? = some (some (.ref f)) ∧ HZ c1 = some (LamX.CodeO c1 q) ∧ tb (ES σZ) σ HZ Q) := by
  subst hq
  refine ⟨fun pinsZ sZ σZ HZ Q IZ h => ?_⟩
  obtain ⟨h1, h2, h3⟩ := h
  refine wpAny_Call_Name_kw (thn ((pe_var (pos := p1) (i := i) hN hv hd hcd).run pinsZ sZ σZ HZ (fun v H1 => v = .ref f ∧ H1 = HZ) IZ ⟨.ref f, h1, rfl, rfl⟩) fun u s1 ⟨v, H1, I1, r1, ev, eH⟩ => ?_)
  subst ev
  subst eH
  cases (show u = Value.ref f from r1)
  have of1 := I1.base.keep f _ hf hfn hfr (fun z => nomatch (show f ∈ ([] : List Addr) from z))
  refine PySem.W.callWith_F0 ⟨_, _, _, _, of1⟩ ?_
  obtain ⟨⟨oc, vs, t, hoc, hdc, hvc⟩, _, _⟩ := I1.hok c1 _ h2
  refine wpAny_call (codeAny_mono (R := CR (L2.CX X.prog X.w) (envOfC qg sg s.heap.objs.size gz cdg :: X.stack) X.prog X.w H1 s1 Q (ES σZ)) ?_ fun r s2 hq => ?_)
  · show codeAny _ _ (.call (.ref f) ⟨[], []⟩) _ _
    refine PySem.W.kla_callFunE hr.depth of1 rfl L.co L.gen rfl ⟨c1, oc, vs, t, rfl, hoc, hdc, hvc⟩ ?_
    rw [hbind]
    refine wpAny_pure (wpAny_newFunctionEnv (fun y hy => (L.own y hy).2) (fun y hy => absurd hy (by simp)) (fun h₁ hns hsb => ⟨I1.nolimit.fresh _ hsb, ?_⟩) L.kind)
    have J : Inv (LamX.lamCx X (X.A.deeper (envOfC qg sg s.heap.objs.size gz cdg)) (envOfC qg sg s.heap.objs.size gz cdg :: X.stack) s1 H1 (ES σZ) scope f c1) [] σ H1 { s1 with heap := h₁, toks := s1.toks + ([] : List (Str × Value)).length } :=
      LamX.lam_start2 I L I1.env0 hr.hd I1.base hns fun b o e => hsb.extBut b o (Nat.ne_of_lt (Heap.lt_size e)) (Heap.get?_push_of_some _ e)
    exact PySem.W.kla_codeExpr (wpAny_mono ((hbody (ES σZ) s1 H1 (hr.deeper _)).run [] _ _ H1 Q J h3) (fun v s' ⟨w', H', J', rv, q⟩ => ⟨w', H', J'.os, J'.bare, J'.base, J'.hok, rv, q⟩) fun e s' hq => hq)
  · cases r with
    | error e => exact tk e s2 (XE.of_call (W := fun cls d σ H => ES σ cls d H) I1 (fun _ _ _ h => h) hq)
    | ok fl =>
      cases fl with
      | ret u => exact I1.after hq
      | next => exact hq.elim
      | brk => exact hq.elim
      | cont => exact hq.elim
end
def runZ (mr : MS) (n j : Nat) (d : D) (e1 : Env) : R (Val × Env) := match mr ((List.replicate n Slot.un).set j (.va (.sh d))) with
  | .ok (.rt t _) => .ok (.tv t, e1)
  | .ok (.nx _) => .ok (.tv (.sh .non), e1)
  | _ => .st
def mLam (xc : List (Addr × Bool)) (n j : Nat) (mr : MS) (mb : ME) : ME := fun e => match mb e with
  | .ok (_, e1) => runZ mr n j .non e1
  | .ex c e1 => match lk xc c.C with
    | some true => runZ mr n j c.D e1
    | _ => .st
  | .st => .st
section
variable {K : Kf} {B F H : Hp} {e1 : Env} {σ : L2.St}
theorem runZ_ok {tr : TS} {mr : MS} {n j : Nat} {d : D} {v : V} {σz : List (Option V)} {Q : VK} (hr : DsT K NX tr mr) (hn : σz.length = n) (hj : j < n) (hσ : σz[j]? = some (some v)) (hv : DR K F d v) (st : St K B F H e1 σ)
    (hp : match runZ mr n j d e1 with
      | .ok (w, e2) => ∀ x F' H', Gr B F F' → Got K B F' H' e2 σ [w] [x] → Q x H'
      | _ => False) : tr { nx := fun _ H' => Q .non H', rt := Q } σz H := by
  have z0 : St K H F H [] [] := ⟨st.sb.fr, st.sf, [], ⟨rfl, rfl⟩, List.nodup_nil, fun a h => by cases h⟩
  have z1 : St K H F H (List.replicate n .un) σz := by simpa using z0.ext (xs := σz) hn
  have z2 := (z1.push hv).store (by simpa using hj)
  have es : σz.set j (some v) = σz := by
    refine List.ext_getElem? fun i => ?_
    by_cases h : j = i
    · subst h; rw [List.getElem?_set_self (by omega), hσ]
    · rw [List.getElem?_set_ne h]
  rw [es] at z2
  refine hr H F H σz _ _ z2 (fun i t e => ?_) ?_
  · by_cases h : j = i
    · subst h
      rw [List.getElem?_set_self (by simpa using hj)] at e
      cases e
    · rw [List.getElem?_set_ne h, List.getElem?_replicate] at e
      split at e <;> cases e
  · unfold runZ at hp
    cases em : mr ((List.replicate n Slot.un).set j (.va (.sh d))) with
    | st => rw [em] at hp; exact hp.elim
    | ex c e2 => rw [em] at hp; exact hp.elim
    | ok o =>
      rw [em] at hp
      cases o with
      | nx e2 =>
        intro σ' F' H' g kp s2
        have q := St.back (rs := []) (ys := []) st g (s2.pre (qs := []) (xs := []) rfl)
        exact hp .non F' H' q.1 (.of (q.2.push (d := .non) (v := .non) rfl))
      | rt t e2 =>
        intro x σ' F' H' g kp s2
        have q := St.back (rs := [.va t]) (ys := [some x]) st g (s2.pre (qs := [.va t]) (xs := [some x]) rfl)
        exact hp x F' H' q.1 (.of q.2)
      | bk e2 => exact hp.elim
      | ct e2 => exact hp.elim
end
def dZ (Q : VK) : Ends := { nx := fun _ H' => Q .non H', rt := Q }
def eZ (K : Kf) (C : Addr) (je jc : Nat) (tr : TS) (σz : L2.St) (Q : VK) : XK := fun cls d H' => wKept K (.ref C) je (tsKeep je jc) (fun _ _ _ _ => False) { dZ Q with nx := tr (dZ Q) } cls d σz H'
def tLamS (K : Kf) (C : Addr) (je jc : Nat) (Ng : List Str) (q : Str) (tb : XK → TE) (tr : TS) : TE := fun σ H Q => TabsK K H ∧ ∀ f c1 H1, Bs K H H1 → H1 c1 = some (LamX.CodeO c1 q) →
  tb (eZ K C je jc tr ((L2.start Ng [.ref f]).set jc (some .non)) Q) σ H1 fun _ H' => tr (dZ Q) ((L2.start Ng [.ref f]).set jc (some .non)) H'
section
variable {X : Cx}
theorem pe_lamS {x a y n ec : Str} {gz g c P C : Addr} {q : Str} {kz kb je jc : Nat} {st : Stmt} {fd : FuncData} {Ng : List Str} {tb : XK → TE} {tr : TS} {params : Arguments} {body : Expr} {scope : Scope} {rest : List Stmt} {cj : Nat}
    {p lpos pos ap cp asp p1 p2 ep np p3 p4 p5 hpos tp : Pos} (hg : Gl X x) (hm : X.mg x = some (.ref gz)) (hk : PySem.W.keepIn X.K (.ref gz) = true) (Fn : Fun X.K x x st gz fd) (hb : L2.Binds X.K fd [a] []) (S : FnScope Ng [a] (defScope st))
    (hz : defBody st = .Assign [.Name y ap] (.Constant .none cj cp) asp :: .Try [.Expr (.Call (.Name a p1) [] [] p2) ep] [.ExceptHandler (some (.Name ec np)) (some n) [.Assign [.Name y p3] (.Name n p4) p5] hpos] [] [] tp :: rest)
    (hrest : ∀ qz, PSs (cxD X.prog X.w X.K X.mg X.base Ng x st gz kz E0 qz) rest tr)
    (TB : LamX.TabB X.base X.mg c P) (hcode : X.env.code = .ref c) (hl : lamT X.K g = some (c, P, q)) (hu : LamU X.K P q) (hq : X.env.qual ++ "<lambda>" = q) (hr : Room (kz + 1) X.A) (hgq : Gq (kz + 1) X.A) (hkb : kb + 1 ≤ kz)
    (L : LamX.LamS X.env.scope scope) (hdef : defaultsOf params X.env = ([], [])) (hbind : ∀ (q : Str) (cl : List (Str × Addr)) (pm cv ctv : Value), bindArgs (PySem.W.kla_fn "<lambda>" q params body scope cl pm cv ctv) ⟨[], []⟩ = pure [])
    (hbody : ∀ (E : XK) (A : Around) (outer : List PySem.Env) (s : Shared) (H : Hp) (f c1 : Addr), Room kb (A.deeper (LamX.lamEnv X scope s.heap.objs.size f c1)) → Gq kb (A.deeper (LamX.lamEnv X scope s.heap.objs.size f c1)) → PE (LamX.lamCx X A outer s H E scope f c1) body (tb E))
    (h0 : Ng[0]? = some a) (hne : jc ≠ 0) (hje : Ng[je]? = some n) (hjc : Ng[jc]? = some y) (hva : Vis (defScope st) a) (hvn : (defScope st).names.lookup n = some .local) (hvy : (defScope st).names.lookup y = some .local) (hec : (defScope st).names.lookup ec = some .globalImplicit) (hmC : X.mg ec = some (.ref C))
    (hdx : (x == ("__debug__" : Str)) = false) (hda : (a == ("__debug__" : Str)) = false) (hca : (a == ("__classdict__" : Str)) = false) (hdn : (n == ("__debug__" : Str)) = false) (hcn : (n == ("__classdict__" : Str)) = false) (hde : (ec == ("__debug__" : Str)) = false) :
    PE X (.Call (.Name x p) [.Lambda params body scope lpos] [] pos) (tLamS X.K C je jc Ng q tb tr) := by
  refine ⟨fun pins s σ H Q I h => ?_⟩
  obtain ⟨hT, h⟩ := h
  obtain ⟨oc, od, kV, doc, pm, an, cdv, ct, osl, rfl, lk, hcd⟩ := Fn.ex
  refine wpAny_Call_Name_kw (ld_glob I hg hm ?_ hdx)
  refine PySem.W.callWith_K (h₀ := X.base) I.ok.mod.kin hk ?_ (by rfl) (by rfl)
  show wpAny _ _ (spliced ((false, eval (.Lambda params body scope lpos) X.env) :: backTo pos (starEach [] X.env))) _ _ s
  refine Calls.spliced_cons (lam_mk I TB hcode hl hu hq hT hdef (L.has I.ok) fun f c1 pm' ctv H1 s1 I1 b1 hf hfn hfr hco => ?_)
  refine Calls.spliced_nil ⟨I1.kIn, ?_⟩
  have rd := h f c1 H1 b1 hco
  refine wpAny_call (codeAny_mono (R := CR (L2.CX X.prog X.w) X.stack X.prog X.w H1 s1 Q E0) ?_ fun r s2 hq => ?_)
  · show codeAny _ _ (.call (.ref gz) ⟨[.ref f], []⟩) _ _
    refine LamX.run_ofS (CX := L2.CX X.prog X.w) (N := Ng) (ps := [a]) (us := [.ref f]) (vs := [.ref f]) lk hcd S hr I1.env0 (hb s1 [.ref f] I1.kIn rfl) (.cons rfl .nil) rfl fun hr2 => ?_
    have gq2 := guards_deeper (e := envOfC x (defScope st) s1.heap.objs.size gz cdv) hgq
    have e0 : ((L2.start Ng [.ref f]).set jc (some .non))[0]? = some (some (.ref f)) := by
      rw [List.getElem?_set_ne hne]
      rfl
    let Z := cxOf (L2.CX X.prog X.w) X.prog X.w X.K X.mg X.base Ng x (defScope st) gz cdv X.A X.stack s1 H1 E0
    have pa : PS Z (.Assign [.Name y ap] (.Constant .none cj cp) asp) (tAsg (tC .non) (gName jc)) := ps_asg pe_non (pg_name S.nd hjc (.inl hvy) (.inl rfl))
    have pt := ps_try_kept (X := Z) (x := ec) (n := n) (c := .ref C) (i := je) (body := [.Expr (.Call (.Name a p1) [] [] p2) ep]) (suite := []) (b₀ := .Assign [.Name y p3] (.Name n p4) p5) (np := np) (pos := tp) (pos' := hpos)
      (tb := fun W => tDrop fun σZ HZ Q => σZ[0]? = some (some (.ref f)) ∧ HZ c1 = some (LamX.CodeO c1 q) ∧ tb (fun cls d H => W cls d σZ H) σ HZ Q) (ts := tsKeep je jc) (Wout := fun _ _ _ _ => False) rfl rfl rfl S.nd hje hvn ⟨hec, hde, .inl hmC⟩ (takes_of rfl rfl rfl rfl)
      (fun W pn xe h1 h2 => pss_one (ps_expr (pe_actS (ES := fun σ cls d H => W cls d σ H) (tb := tb) (k := kb) I1 L hf hq hfn hfr (hbind _ _ _ _ _) h1 (hr2.mono hkb) (fun E s2 HZ r2 => hbody E _ _ s2 HZ f c1 r2 (guards_deeper (gq2.mono hkb))) h0 hva hda hca)))
      (fun b oe cls d pn hz hf2 => pss_one (ps_asg (pe_var hje (.inl hvn) hdn hcn) (pg_name S.nd hjc (.inl hvy) (.inl rfl))))
    have pr := hrest ⟨(cdv, X.A, X.stack, s1, H1), hr2, gq2⟩
    rw [hz]
    refine ⟨_, pss_cons pa (pss_cons pt pr), ?_⟩
    exact ⟨e0, hco, rd⟩
  · cases r with
    | error e => obtain ⟨_, _, _, _, _, _, _, _, _, _, _, _, z⟩ := hq; exact z.elim
    | ok fl =>
      cases fl with
      | ret u => exact I1.after hq
      | next => exact hq.elim
      | brk => exact hq.elim
      | cont => exact hq.elim
end
abbrev LIx {ι : Type} (X : ι → Cx) (scope : Scope) (k : Nat) : Type := { q : ι × Around × List PySem.Env × Shared × Hp × Addr × Addr // Room k (q.2.1.deeper (LamX.lamEnv (X q.1) scope q.2.2.2.1.heap.objs.size q.2.2.2.2.2.1 q.2.2.2.2.2.2)) ∧ Gq k (q.2.1.deeper (LamX.lamEnv (X q.1) scope q.2.2.2.1.heap.objs.size q.2.2.2.2.2.1 q.2.2.2.2.2.2)) }
abbrev lamX {ι : Type} (X : ι → Cx) (scope : Scope) (k : Nat) (E : XK) : LIx X scope k → Cx := fun q => LamX.lamCx (X q.1.1) q.1.2.1 q.1.2.2.1 q.1.2.2.2.1 q.1.2.2.2.2.1 E scope q.1.2.2.2.2.2.1 q.1.2.2.2.2.2.2
section
variable {P : Program} {w : World} {base : Heap} {K : Kf} {mg : Str → Option Value} {k : Nat} {ι : Type} {X : ι → Cx} {E : XS} {scope : Scope}
theorem Fm.lam (fm : Fm P w K mg base k X E) (k' : Nat) (E' : XK) : Fm P w K mg base k' (lamX X scope k' E') (fun _ => E') where
  hP := fun q => fm.hP q.1.1
  hw := fun q => fm.hw q.1.1
  hb := fun q => fm.hb q.1.1
  hk := fun q => fm.hk q.1.1
  hm := fun q => fm.hm q.1.1
  calm := fun _ => rfl
  gd := fun q => q.2.2
  room := fun q => q.2.1
  nd := fun q => fm.nd q.1.1
  tk := fun q => takes_of rfl rfl rfl rfl
  po := fun q => passes_of rfl
theorem ev_lam (hon : Lf.on) {C : Addr} {xc : List (Addr × Bool)} {je jc : Nat} {Ng : List Str} {q : Str} {tb : XK → TE} {tr : TS} {mb : ME} {mr : MS} (hb : ∀ E' : XK, EvT K (fun _ => E') (tb E') mb) (hr : DsT K NX tr mr) (hx : ∀ p ∈ xc, PySem.W.exmOne K (.ref p.1) (.ref C) = some p.2) (hje : je < Ng.length) (hjc : jc < Ng.length) (hne : je ≠ jc) (hN : 0 < Ng.length) :
    EvT K E (tLamS K C je jc Ng q tb tr) (mLam xc Ng.length jc mr mb) := by
  intro B F H σ env Q hs hv hp
  refine ⟨hs.sb.tk hon, fun f c1 H1 b1 hco => ?_⟩
  have hl : ((L2.start Ng [.ref f]).set jc (some .non)).length = Ng.length := by
    rw [List.length_set]
    unfold L2.start
    simp
    omega
  have hj2 : jc < (L2.start Ng [.ref f]).length := by rw [List.length_set] at hl; omega
  refine hb _ B F H1 σ env _ (hs.sameB b1) hv ?_
  unfold mLam at hp
  cases em : mb env with
  | st => rw [em] at hp; exact hp.elim
  | ok r =>
    obtain ⟨v, e1⟩ := r
    rw [em] at hp
    intro x F' H' g kd got
    refine runZ_ok (n := Ng.length) (j := jc) (d := .non) (v := .non) (mr := mr) hr hl hjc (List.getElem?_set_self hj2) rfl got.base ?_
    cases ez : runZ mr Ng.length jc .non e1 with
    | st => simp only [ez] at hp; exact hp.elim
    | ex c e2 => unfold runZ at ez; split at ez <;> cases ez
    | ok o =>
      obtain ⟨w, e2⟩ := o
      simp only [ez] at hp
      have e12 : e2 = e1 := by unfold runZ at ez; split at ez <;> cases ez <;> rfl
      subst e12
      intro x F2 H2 g2 got2
      exact hp x F2 H2 (g.trans g2) kd got2
  | ex c e1 =>
    rw [em] at hp
    intro od F' H' g kd st ok
    simp only at hp
    cases e2 : lk xc c.C with
    | none => rw [e2] at hp; exact hp.elim
    | some b =>
      rw [e2] at hp
      cases b with
      | false => exact hp.elim
      | true =>
      refine ⟨true, hx _ (lk_mem e2), fun z => (Bool.noConfusion z), fun _ a ha => ?_⟩
      have sH : Same H' (upd H' a (exR a c.C od)) := Same.upd ha
      have fn : F' a = none := st.sf.off ha
      have sF : Same F' (upd F' a (exR a c.C od)) := Same.upd fn
      have sf2 : SubF (upd F' a (exR a c.C od)) (upd H' a (exR a c.C od)) := ⟨⟨fun b o h => by
        by_cases z : b = a
        · subst z; rw [upd_same] at h ⊢; exact .inl h
        · rw [upd_ne z] at h ⊢; exact st.sf.sub b o h⟩, fun b ps h => by
        by_cases z : b = a
        · subst z; rw [upd_same] at h; cases h; exact exR_fz
        · rw [upd_ne z] at h; exact st.sf.nt b ps h⟩
      have gH : Gr H' F' (upd F' a (exR a c.C od)) := ⟨sF, fun b h1 h2 => by
        by_cases z : b = a
        · rw [z]; exact ha
        · rw [upd_ne z] at h2; exact absurd h1 h2⟩
      have q := St.back (rs := []) (ys := []) st gH ⟨st.sb.frs sH, sf2, [], ⟨rfl, rfl⟩, List.nodup_nil, fun a h => by cases h⟩
      have q2 : St K B (upd F' a (exR a c.C od)) (upd H' a (exR a c.C od)) e1 σ := q.2
      have dr : DR K (upd F' a (exR a c.C od)) c.D (.ref a) := DR.exn upd_same (ok.mono (.of sF))
      refine ⟨.ref a, ?_, ha, ?_⟩
      · rw [List.getElem?_set_self (by omega)]
      · show tr (dZ Q) _ _
        rw [exV_eq]
        have eσ : (((((L2.start Ng [V.ref f]).set jc (some .non)).set je (some (.ref a))).set jc (some (.ref a))).set je none) = (((L2.start Ng [V.ref f]).set jc (some (.ref a))).set je none) := by
          rw [List.set_comm _ _ hne, List.set_set, List.set_set]
        rw [eσ]
        refine runZ_ok (n := Ng.length) (j := jc) (d := c.D) (v := .ref a) (mr := mr) hr (by rw [List.length_set]; rw [List.length_set] at hl ⊢; exact hl) hjc (by rw [List.getElem?_set_ne hne, List.getElem?_set_self hj2]) dr q2 ?_
        cases ez : runZ mr Ng.length jc c.D e1 with
        | st => simp only [ez] at hp; exact hp.elim
        | ex c e2 => unfold runZ at ez; split at ez <;> cases ez
        | ok o =>
          obtain ⟨w, e2⟩ := o
          simp only [ez] at hp
          have e12 : e2 = e1 := by unfold runZ at ez; split at ez <;> cases ez <;> rfl
          subst e12
          intro x F2 H2 g2 got2
          exact hp x F2 H2 ((g.trans q.1).trans g2) kd got2
structure LamF (K : Kf) (mg : Str → Option Value) (x a y n ec : Str) (gz C : Addr) (je jc : Nat) (st : Stmt) (Ng : List Str) (rest : List Stmt) : Prop where
  ok : ∃ fd, Fun K x x st gz fd ∧ L2.Binds K fd [a] []
  kp : PySem.W.keepIn K (.ref gz) = true
  S : FnScope Ng [a] (defScope st)
  hz : ∃ ap cj cp asp p1 p2 ep np p3 p4 p5 hpos tp, defBody st = .Assign [.Name y ap] (.Constant .none cj cp) asp :: .Try [.Expr (.Call (.Name a p1) [] [] p2) ep] [.ExceptHandler (some (.Name ec np)) (some n) [.Assign [.Name y p3] (.Name n p4) p5] hpos] [] [] tp :: rest
  mC : mg ec = some (.ref C)
  h0 : Ng[0]? = some a
  hje : Ng[je]? = some n
  hjc : Ng[jc]? = some y
  hne : jc ≠ 0
  hnj : je ≠ jc
  hva : Vis (defScope st) a
  hvn : (defScope st).names.lookup n = some .local
  hvy : (defScope st).names.lookup y = some .local
  hec : (defScope st).names.lookup ec = some .globalImplicit
  hdb : (a == ("__debug__" : Str)) = false ∧ (a == ("__classdict__" : Str)) = false ∧ (n == ("__debug__" : Str)) = false ∧ (n == ("__classdict__" : Str)) = false ∧ (ec == ("__debug__" : Str)) = false
theorem dlam (hon : Lf.on) (fm : Fm P w K mg base k X E) {x a y n ec : Str} {gz g c Pt C : Addr} {q : Str} {kz kb je jc : Nat} {st : Stmt} {Ng : List Str} {rest : List Stmt} {xc : List (Addr × Bool)} {params : Arguments} {body : Expr} {p lpos pos : Pos} {mb : ME} {mr : MS}
    (F : LamF K mg x a y n ec gz C je jc st Ng rest) (hm : mg x = some (.ref gz)) (hx : ∀ p ∈ xc, PySem.W.exmOne K (.ref p.1) (.ref C) = some p.2) (hrest : DSs K NX (cxD P w K mg base Ng x st gz kz E0) rest mr)
    (TB : LamX.TabB base mg c Pt) (hl : lamT K g = some (c, Pt, q)) (hu : LamU K Pt q) (hk : kz + 1 ≤ k) (hkb : kb + 1 ≤ kz) (hb : ∀ E' : XK, DE K (fun _ => E') (lamX X scope kb E') body mb)
    (hcode : ∀ j, (X j).env.code = .ref c) (hq : ∀ j, (X j).env.qual ++ "<lambda>" = q)
    (L : ∀ j, LamX.lamSB (X j).env.scope scope = true := by intro _; rfl) (hg : ∀ j, Gl (X j) x := by intro _; rfl) (hdef : ∀ j, defaultsOf params (X j).env = ([], []) := by intro _; rfl)
    (hbind : ∀ (q : Str) (cl : List (Str × Addr)) (pm cv ctv : Value), bindArgs (PySem.W.kla_fn "<lambda>" q params body scope cl pm cv ctv) ⟨[], []⟩ = pure [] := by intro _ _ _ _ _; rfl) (hdx : (x == ("__debug__" : Str)) = false := by decide +kernel) :
    DE K E X (.Call (.Name x p) [.Lambda params body scope lpos] [] pos) (mLam xc Ng.length jc mr mb) := by
  obtain ⟨tr, r1, r2⟩ := hrest
  obtain ⟨fd, Fn, B⟩ := F.ok
  obtain ⟨ap, cj, cp, asp, p1, p2, ep, np, p3, p4, p5, hpos, tp, hz⟩ := F.hz
  obtain ⟨d1, d2, d3, d4, d5⟩ := F.hdb
  obtain ⟨tb, hbj, hbe⟩ : ∃ tb : XK → TE, (∀ E' j, PE (lamX X scope kb E' j) body (tb E')) ∧ ∀ E', EvT K (fun _ => E') (tb E') mb := ⟨fun E' => Classical.choose (hb E'), fun E' => (Classical.choose_spec (hb E')).1, fun E' => (Classical.choose_spec (hb E')).2⟩
  refine ⟨tLamS K C je jc Ng q tb tr, fun j => ?_, ev_lam hon hbe r2 hx (List.getElem?_eq_some_iff.mp F.hje).1 (List.getElem?_eq_some_iff.mp F.hjc).1 F.hnj (List.getElem?_eq_some_iff.mp F.h0).1⟩
  have e1 := fm.hP j; have e2 := fm.hw j; have e3 := fm.hb j; have e4 := fm.hk j; have e5 := fm.hm j
  have hr := fm.room j; have hgq := fm.gd j
  have hmC := F.mC; have hkp := F.kp; have hS := F.S; have f0 := F.h0; have f1 := F.hne; have f2 := F.hje; have f3 := F.hjc; have f4 := F.hva; have f5 := F.hvn; have f6 := F.hvy; have f7 := F.hec
  clear F fm hb
  subst e1 e2 e3 e4 e5
  exact pe_lamS (hg j) hm hkp Fn B hS hz r1 TB (hcode j) hl hu (hq j) (hr.mono hk) (hgq.mono hk) hkb (LamX.lamS_by (L j)) (hdef j) hbind (fun E' A outer s H f c1 h1 h2 => hbj E' ⟨(j, A, outer, s, H, f, c1), h1, h2⟩) f0 f1 f2 f3 f4 f5 f6 f7 hmC hdx d1 d2 d3 d4 d5
end
end DL
namespace W
open PySem PySem.Spec PyProof.Rows L2 DL
def c_law_odd_name_0 (c : Cs) : ME := mLc [3] (mR1 (mCons (mCallM 2 (f_law_draw c) (mCons (mN 0) (mCons (mC (.int 10)) (mNil)))) (mNil))) (gN 3) ((fun e => .ok (true, e))) (mIx (mN 1) (mCallM 2 (f_law_draw c) (mCons (mN 0) (mCons (mC (.int 26)) (mNil)))))
def b_law_odd_name (c : Cs) : MS := mSeq (mAsg (mC (.str "abcdefghijklmnopqrstuvwxyz")) (gN 1))
 (mSeq (mAsg (mOp xJoin (mCons (mChk isSt (mC (.str ""))) (mCons (c_law_odd_name_0 c) (mNil)))) (gN 2))
 (mSeq (mAsg (mCallM 2 (f_law_draw c) (mCons (mN 0) (mCons (mOp xAdd (mCons (mOp xLen (mCons (mN 2) (mNil))) (mCons (mC (.int 1)) mNil))) (mNil)))) (gN 4))
 (mSeq (mAsg (mC (.str " -!./019:@AZ[_`{|}~\n\t\"'\\")) (gN 5))
 (mSeq (mAsg (mOp xAdd (mCons (mOp xAdd (mCons (mOp oSh (mCons (mN 2) (mCons (mN 4) mNil))) (mCons (mIx (mN 5) (mCallM 2 (f_law_draw c) (mCons (mN 0) (mCons (mOp xLen (mCons (mN 5) (mNil))) (mNil))))) mNil))) (mCons (mOp oSl (mCons (mN 2) (mCons (mN 4) mNil))) mNil))) (gN 6))
 (mRet (mIx (mLst (mCons (mF (mN 2)) (mCons (mF (mN 6)) (mCons (mC (.str "")) (mCons (mC (.str "abcdefghi")) (mCons (mC (.str "A")) (mCons (mC (.int 5)) (mCons (mF (mOp oRepS (mCons (mC (.str "a")) (mCons (mC (.int 5000)) mNil)))) (mCons (mC (.str "a")) (mNil)))))))))) (mCallM 2 (f_law_draw c) (mCons (mN 0) (mCons (mC (.int 8)) (mNil))))))))))
def f_law_odd_name (c : Cs) : MF := bodyF 7 (b_law_odd_name c)
def b_law_bent (c : Cs) : MS := mSeq (mAsg (mItemsA (mN 1)) (gN 2))
 (mSeq (mAsg (mCallM 2 (f_law_draw c) (mCons (mN 0) (mCons (mOp xAdd (mCons (mOp xLen (mCons (mN 2) (mNil))) (mCons (mC (.int 1)) mNil))) (mNil)))) (gN 3))
 (mSeq (mAsg (mOp xAdd (mCons (mF (mOp xList (mCons (mN 1) (mNil)))) (mCons (mF (mLst (mCons (mC (.str "late")) (mNil)))) mNil))) (gN 4))
 (mSeq (mAsg (mIx (mN 4) (mCallM 2 (f_law_draw c) (mCons (mN 0) (mCons (mOp xLen (mCons (mN 4) (mNil))) (mNil))))) (gN 5))
 (mSeq (mAsg (mIx (mLst (mCons (mC .non) (mCons (mC (.int 5)) (mCons (mC (.bl true)) (mCons (mC (.str "")) (mCons (mC (.str "nobody")) (mCons (mF (mLst (mCons (mC (.str "a")) (mNil)))) (mCons (mF (mTup (mCons (mC (.str "a")) (mNil)))) (mCons (mF (mTup (mCons (mF (mLst (mCons (mC (.str "a")) (mNil)))) (mNil)))) (mCons (mF (mNewD)) (mCons (mF (mN 5)) (mNil)))))))))))) (mCallM 2 (f_law_draw c) (mCons (mN 0) (mCons (mC (.int 10)) (mNil))))) (gN 6))
 (mSeq (mAsg (mLst (mCons (mF (mTup (mCons (mF (mCallM 1 (f_law_odd_name c) (mCons (mN 0) (mNil)))) (mCons (mC .non) (mNil))))) (mCons (mF (mTup (mCons (mC (.str "late")) (mCons (mF (mN 6)) (mNil))))) (mCons (mF (mTup (mCons (mF (mN 5)) (mCons (mF (mIx (mN 4) (mCallM 2 (f_law_draw c) (mCons (mN 0) (mCons (mOp xLen (mCons (mN 4) (mNil))) (mNil)))))) (mNil))))) (mCons (mF (mTup (mCons (mF (mN 5)) (mCons (mF (mN 5)) (mNil))))) (mNil)))))) (gN 7))
 (mRet (mOp (fun us => (oDictD us).or (oDictP us)) (mCons (mF (mOp xAdd (mCons (mOp xAdd (mCons (mOp oSh (mCons (mN 2) (mCons (mN 3) mNil))) (mCons (mF (mLst (mCons (mF (mIx (mN 7) (mCallM 2 (f_law_draw c) (mCons (mN 0) (mCons (mC (.int 4)) (mNil)))))) (mNil)))) mNil))) (mCons (mOp oSl (mCons (mN 2) (mCons (mN 3) mNil))) mNil)))) (mNil)))))))))
def f_law_bent (c : Cs) : MF := bodyF 8 (b_law_bent c)
def r_law_word_v1 (c : Cs) : MS := mSeq (mIfS (mTst asB (mOp xIs (mCons (mN 1) (mCons (mC .non) mNil)))) (mRet (mC (.str ""))) (mSkip))
 (mSeq (mAsg (mLst (mCons (mK (mOp (oIsE (ix_InvalidGroups c)) (mCons (mN 1) mNil))) (mCons (mK (mOp (oIsE (ix_UnknownGroup c)) (mCons (mN 1) mNil))) (mNil)))) (gN 3))
 (mRet (mIf (mTst asB (mOp yEq (mCons (mOp xCntB (mCons (mChk isL (mN 3)) (mCons (mC (.bl true)) (mNil)))) (mCons (mC (.int 1)) mNil)))) (mIx (mLst (mCons (mC (.str "groups")) (mCons (mC (.str "unknown")) (mNil)))) (mOp xIdxB (mCons (mChk isL (mN 3)) (mCons (mC (.bl true)) (mNil))))) (mC (.str "other")))))
def c_law_is_forest_0 (c : Cs) : ME := mLc [1] (mSrc anyT (mN 0)) (gN 1) ((fun e => .ok (true, e))) (mCall 1 (f_law_is_name_v1 c) (mCons (mN 1) (mNil)))
def l_law_is_forest_0 (c : Cs) : MS := mForL (mSrc anyT (mN 0)) (gN 1) (mIfS (mAnd (mTst asB (mOp xIsNot (mCons (mIx (mN 0) (mN 1)) (mCons (mC .non) mNil)))) (mOr (mNot (mTst truF (mOp (oIsi tb_str (ic_str c)) (mCons (mIx (mN 0) (mN 1)) mNil)))) (mTst asB (mOp xNotIn (mCons (mIx (mN 0) (mN 1)) (mCons (mN 0) mNil)))))) (mRet (mC (.bl false))) (mSkip))
def l_law_is_forest_1 (c : Cs) : MS := mForL (mR1 (mCons (mOp xLen (mCons (mN 0) (mNil))) (mNil))) (gN 3) (mAsg (mIf (mTst asB (mOp xIsNot (mCons (mN 2) (mCons (mC .non) mNil)))) (mIx (mN 0) (mN 2)) (mC .non)) (gN 2))
def l_law_is_forest_2 (c : Cs) : MS := mForL (mSrc anyT (mN 0)) (gN 1) (mSeq (mAsg (mN 1) (gN 2))
 (mSeq (l_law_is_forest_1 c)
 (mIfS (mTst asB (mOp xIsNot (mCons (mN 2) (mCons (mC .non) mNil)))) (mRet (mC (.bl false))) (mSkip))))
def b_law_is_forest (c : Cs) : MS := mSeq (mIfS (mOr (mNot (mTst truF (mOp (oIsi tb_dict (ic_dict c)) (mCons (mN 0) mNil)))) (mNot (mTst truF (mOp xAll (mCons (c_law_is_forest_0 c) (mNil)))))) (mRet (mC (.bl false))) (mSkip))
 (mSeq (l_law_is_forest_0 c)
 (mSeq (l_law_is_forest_2 c)
 (mRet (mC (.bl true)))))
def f_law_is_forest (c : Cs) : MF := bodyF 4 (b_law_is_forest c)
def l_law_0 (c : Cs) : MS := mForL (mR1 (mCons (mOp xAdd (mCons (mC (.int 1)) (mCons (mF (mCallM 2 (f_law_draw c) (mCons (mN 1) (mCons (mC (.int 2)) (mNil))))) mNil))) (mNil))) (gN 4) (mAsg (mF (mCallM 2 (f_law_bent c) (mCons (mN 1) (mCons (mN 3) (mNil))))) (gN 3))
def c_law_0 (c : Cs) : ME := mLam (cx_QuotaError c) 4 1 (r_law_word_v1 c) (mMake c.Groups 2 (f_Groups___init c) (mCons (mN 3) (mNil)))
def l_law_1 (c : Cs) : MS := mForL (mR1 (mCons (mC (.int 20)) (mNil))) (gN 2) (mSeq (mAsg (mF (mCallM 2 (f_law_forest c) (mCons (mN 1) (mCons (mC (.int 6)) (mNil))))) (gN 3))
 (mSeq (l_law_0 c)
 (mSeq (mIfS (mTst asB (mOp yEq (mCons (mCallM 2 (f_law_draw c) (mCons (mN 1) (mCons (mC (.int 6)) (mNil)))) (mCons (mC (.int 0)) mNil)))) (mAsg (mF (mIx (mLst (mCons (mC .non) (mCons (mF (mLst (mNil))) (mCons (mF (mItemsA (mN 3))) (mCons (mC (.str "")) (mCons (mC (.int 5)) (mCons (mC (.bl true)) (mCons (mF (mCallM 2 (f_law_any c) (mCons (mN 1) (mCons (mC (.int 2)) (mNil))))) (mNil))))))))) (mCallM 2 (f_law_draw c) (mCons (mN 1) (mCons (mC (.int 7)) (mNil)))))) (gN 3)) (mSkip))
 (mSeq (mAsg (mOp yRepr (mCons (mN 3) (mNil))) (gN 5))
 (mIfS (mOr (mTst asB (mOp yNe (mCons (c_law_0 c) (mCons (mIf (mTst truF (mCall 1 (f_law_is_forest c) (mCons (mN 3) (mNil)))) (mC (.str "")) (mC (.str "groups"))) mNil)))) (mTst asB (mOp yNe (mCons (mOp yRepr (mCons (mN 3) (mNil))) (mCons (mN 5) mNil))))) (mRet (mC (.bl false))) (mSkip))))))
def c_law_1 (c : Cs) : ME := mLc [7] (mR1 (mCons (mC (.int 40)) (mNil))) (gN 7) ((fun e => .ok (true, e))) (mOp xAdd (mCons (mOp xAdd (mCons (mC (.str "g")) (mCons (mIx (mC (.str "abcdefghij")) (mOp xMod (mCons (mN 7) (mCons (mC (.int 10)) mNil)))) mNil))) (mCons (mIx (mC (.str "abcd")) (mOp xDiv (mCons (mN 7) (mCons (mC (.int 10)) mNil)))) mNil)))
def c_law_2 (c : Cs) : ME := mLc [7] (mR1 (mCons (mC (.int 40)) (mNil))) (gN 7) ((fun e => .ok (true, e))) (mTup (mCons (mF (mIx (mN 6) (mN 7))) (mCons (mF (mIf (mTst asB (mOp xLt (mCons (mN 7) (mCons (mC (.int 39)) mNil)))) (mIx (mN 6) (mOp xAdd (mCons (mN 7) (mCons (mC (.int 1)) mNil)))) (mC .non))) (mNil))))
def c_law_3 (c : Cs) : ME := mLam (cx_QuotaError c) 4 1 (r_law_word_v1 c) (mMake c.Groups 2 (f_Groups___init c) (mCons (mN 8) (mNil)))
def c_law_4 (c : Cs) : ME := mLam (cx_QuotaError c) 4 1 (r_law_word_v1 c) (mMeth c.Groups "path" 2 (f_Groups_path c) (mN 10) (mCons (mN 3) (mNil)))
def c_law_5 (c : Cs) : ME := mLam (cx_QuotaError c) 4 1 (r_law_word_v1 c) (mMeth c.Groups "below" 2 (f_Groups_below c) (mN 10) (mCons (mN 3) (mNil)))
def l_law_2 (c : Cs) : MS := mForL (mSrc anyT (mOp xAdd (mCons (mF (mOp xList (mCons (mN 9) (mNil)))) (mCons (mN 11) mNil)))) (gN 3) (mSeq (mAsg (mIf (mAnd (mTst truF (mOp (oIsi tb_str (ic_str c)) (mCons (mN 3) mNil))) (mTst asB (mOp xIn (mCons (mN 3) (mCons (mN 9) mNil))))) (mC (.str "")) (mC (.str "unknown"))) (gN 12))
 (mSeq (mIfS (mOr (mTst asB (mOp yNe (mCons (c_law_4 c) (mCons (mN 12) mNil)))) (mTst asB (mOp yNe (mCons (mProp c.Groups (f_Groups_parents c) (mN 10)) (mCons (mN 9) mNil))))) (mRet (mC (.bl false))) (mSkip))
 (mIfS (mTst asB (mOp yNe (mCons (c_law_5 c) (mCons (mN 12) mNil)))) (mRet (mC (.bl false))) (mSkip))))
def b_law (c : Cs) : MS := mSeq (mAsg (mCall 1 (f_law_pen c) (mCons (mN 0) (mNil))) (gN 1))
 (mSeq (l_law_1 c)
 (mSeq (mAsg (c_law_1 c) (gN 6))
 (mSeq (mAsg (mOp (fun us => (oDictD us).or (oDictP us)) (mCons (mF (c_law_2 c)) (mNil))) (gN 8))
 (mSeq (mIfS (mTst asB (mOp yNe (mCons (c_law_3 c) (mCons (mC (.str "")) mNil)))) (mRet (mC (.bl false))) (mSkip))
 (mSeq (mPut (mIx (mN 6) (mCallM 2 (f_law_draw c) (mCons (mN 1) (mCons (mC (.int 40)) (mNil))))) (mN 8) (mIx (mN 6) (mC (.int 39))))
 (mSeq (mIfS (mTst asB (mOp yNe (mCons (c_law_3 c) (mCons (mC (.str "groups")) mNil)))) (mRet (mC (.bl false))) (mSkip))
 (mSeq (mAsg (mCallM 2 (f_law_forest c) (mCons (mN 1) (mCons (mC (.int 6)) (mNil)))) (gN 9))
 (mSeq (mAsg (mMake c.Groups 2 (f_Groups___init c) (mCons (mN 9) (mNil))) (gN 10))
 (mSeq (mAsg (mLst (mCons (mC (.str "nobody")) (mCons (mC (.str "")) (mCons (mC (.str "A")) (mCons (mC .non) (mCons (mC (.int 0)) (mCons (mC (.bl true)) (mCons (mF (mLst (mCons (mC (.str "a")) (mNil)))) (mCons (mF (mTup (mCons (mC (.str "a")) (mNil)))) (mCons (mF (mTup (mCons (mF (mLst (mCons (mC (.str "a")) (mNil)))) (mNil)))) (mCons (mF (mNewD)) (mCons (mF (mOp xPow (mCons (mC (.int 10)) (mCons (mC (.int 39)) mNil)))) (mCons (mF (mCallM 1 (f_law_odd_name c) (mCons (mN 1) (mNil)))) (mNil)))))))))))))) (gN 11))
 (mSeq (l_law_2 c)
 (mRet (mC (.bl true)))))))))))))
def f_law (c : Cs) : MF := bodyF 13 (b_law c)
end W
namespace DL
open PySem PySem.Spec PyProof.Rows L2
theorem mSeq_nx {m n : MS} {e e1 : Env} (h : m e = .ok (.nx e1)) : mSeq m n e = n e1 := by rw [mSeq_ap, h]
theorem loopC_inv {vs : List Nat} {mg : MG} {mt : MB} {me : ME} (I : List D → List T → Env → Prop)
    (st : ∀ d r acc e, I (d :: r) acc e → ∃ e1 b e2, mg (.sh d) (wpE e vs) = .ok e1 ∧ mt e1 = .ok (b, e2) ∧ (b = true → ∃ v e3 t e4, me e2 = .ok (v, e3) ∧ keep v e3 = some (t, e4) ∧ acc.length < sizeLine ∧ I r (acc ++ [t]) e4) ∧ (b = false → I r acc e2)) :
    ∀ (ds : List D) (acc : List T) (e : Env), I ds acc e → ∃ ts e', loopC vs mg mt me ds acc e = .ok (ts, e') ∧ I [] ts e' := by
  intro ds
  induction ds with
  | nil => intro acc e h; exact ⟨acc, e, rfl, h⟩
  | cons d r ih =>
    intro acc e h
    obtain ⟨e1, b, e2, h1, h2, h3, h4⟩ := st d r acc e h
    simp only [loopC, h1, h2]
    cases b with
    | true =>
      obtain ⟨v, e3, t, e4, h5, h6, h7, h8⟩ := h3 rfl
      simp only [h5, h6, h7, if_true]
      exact ih _ _ h8
    | false => exact ih _ _ (h4 rfl)
theorem mLc_inv {vs : List Nat} {mi : MI} {mg : MG} {mt : MB} {me : ME} {e e0 : Env} {ds : List D} (I : List D → List T → Env → Prop) (hi : mi e = .ok (ds, e0)) (hl : litesAt e0 vs = true) (h0 : I ds [] e0)
    (st : ∀ d r acc e, I (d :: r) acc e → ∃ e1 b e2, mg (.sh d) (wpE e vs) = .ok e1 ∧ mt e1 = .ok (b, e2) ∧ (b = true → ∃ v e3 t e4, me e2 = .ok (v, e3) ∧ keep v e3 = some (t, e4) ∧ acc.length < sizeLine ∧ I r (acc ++ [t]) e4) ∧ (b = false → I r acc e2)) :
    ∃ ts e', mLc vs mi mg mt me e = .ok (.tv (.lst ts), rst e0 vs e') ∧ I [] ts e' := by
  obtain ⟨ts, e', h, h'⟩ := loopC_inv I st ds [] e0 h0
  exact ⟨ts, e', by simp only [mLc, hi, bnd_ok, hl, if_true, h], h'⟩
theorem rst_self (e : Env) : ∀ vs : List Nat, rst e vs e = e
  | [] => rfl
  | v :: vs => by
    unfold rst
    rw [rst_self e vs]
    cases h : e[v]? with
    | none => rfl
    | some x =>
      obtain ⟨hl, h⟩ := List.getElem?_eq_some_iff.mp h
      simp only
      rw [← h, List.set_getElem_self]
@[simp] theorem litesAt_nil (e : Env) : litesAt e [] = true := rfl
@[simp] theorem litesAt_cons (e : Env) (v : Nat) (vs) : litesAt e (v :: vs) = ((match e[v]? with | some s => lite s | none => true) && litesAt e vs) := rfl
@[simp] theorem lite_un : lite .un = true := rfl
@[simp] theorem lite_sh (d : D) : lite (.va (.sh d)) = true := rfl
@[simp] theorem wpE_nil (e : Env) : wpE e [] = e := rfl
@[simp] theorem wpE_cons (e : Env) (v : Nat) (vs) : wpE e (v :: vs) = (wpE e vs).set v .un := rfl
@[simp] theorem rst_nil {α : Type} (b l : List α) : rst b [] l = l := rfl
@[simp] theorem rst_cons {α : Type} (b l : List α) (v : Nat) (vs) : rst b (v :: vs) l = (match b[v]? with | some x => (rst b vs l).set v x | none => rst b vs l) := rfl
theorem popAt_ok (ds : List D) (k : Int) (h0 : 0 ≤ k) (h1 : k < ds.length) (h2 : ds.length ≤ sizeLine) : ∃ d, ds[k.toNat]? = some d ∧ gPopAt (.lst (shs ds)) [.sh (.int k)] = some (.lst (shs (ds.eraseIdx k.toNat)), .sh d) := by
  have hk : k.toNat < ds.length := by omega
  refine ⟨ds[k.toNat], List.getElem?_eq_getElem hk, ?_⟩
  have e : seqIndex? k (shs ds).length = some k.toNat := by
    have : ixN (shs ds).length k = some k.toNat := by simp [h0, h1]
    exact (ixN_seq this).1
  simp only [sizeLine_eq] at h2
  have b : -(2 ^ 63) ≤ k ∧ k < 2 ^ 63 := by omega
  simp only [gPopAt, e, b, and_self, if_true, shs_get, List.getElem?_eq_getElem hk, Option.map_some, shs_erase]
@[simp] theorem rngD_length (lo : Int) (n : Nat) : (rngD lo n).length = n := by simp [rngD]
theorem body_rt {n : Nat} {mb : MS} {ss : List Slot} {t : T} {e : Env} (h : mb (ss ++ List.replicate (n - ss.length) .un) = .ok (.rt t e)) : bodyF n mb ss = fin (isMu ss) t e := by rw [bodyF_ap, h]
theorem body_nx {n : Nat} {mb : MS} {ss : List Slot} {e : Env} (h : mb (ss ++ List.replicate (n - ss.length) .un) = .ok (.nx e)) : bodyF n mb ss = fin (isMu ss) (.sh .non) e := by rw [bodyF_ap, h]
theorem map_erase {α β : Type} (f : α → β) : ∀ (l : List α) (i : Nat), (l.map f).eraseIdx i = (l.eraseIdx i).map f
  | [], i => by simp
  | a :: l, 0 => by simp
  | a :: l, i + 1 => by simp [map_erase f l i]
@[simp] theorem sts_erase (l : List Str) (i : Nat) : (sts l).eraseIdx i = sts (l.eraseIdx i) := map_erase _ _ _
theorem erase_perm {α : Type} : ∀ (l : List α) (i : Nat) (a : α), l[i]? = some a → (a :: l.eraseIdx i).Perm l
  | [], i, a, h => by simp at h
  | b :: l, 0, a, h => by simp at h; subst h; simp
  | b :: l, i + 1, a, h => by
    simp only [List.getElem?_cons_succ] at h
    simp only [List.eraseIdx_cons_succ]
    exact (List.Perm.swap b a _).trans ((erase_perm l i a h).cons b)
def Ret (r : FR) (Q : T → Option T → Prop) : Prop := ∃ t m, r = .ret t m ∧ Q t m
def Run (r : R Out) (Q : Out → Prop) : Prop := ∃ o, r = .ok o ∧ Q o
theorem Ret_body {n : Nat} {mb : MS} {ss : List Slot} {Q : T → Option T → Prop} (h : Run (mb (ss ++ List.replicate (n - ss.length) .un)) (fun o => match o with | .nx e => Ret (fin (isMu ss) (.sh .non) e) Q | .rt t e => Ret (fin (isMu ss) t e) Q | _ => False)) : Ret (bodyF n mb ss) Q := by
  obtain ⟨o, h, q⟩ := h
  cases o <;> simp only at q
  · rwa [body_nx h]
  · rwa [body_rt h]
theorem Run_of {r : R Out} {o : Out} {Q : Out → Prop} (h : r = .ok o) (q : Q o) : Run r Q := ⟨o, h, q⟩
theorem Ret_of {r : FR} {t : T} {m : Option T} {Q : T → Option T → Prop} (h : r = .ret t m) (q : Q t m) : Ret r Q := ⟨t, m, h, q⟩
theorem Run_seq {m n : MS} {e : Env} {Q : Out → Prop} (h : Run (m e) (fun o => match o with | .nx e1 => Run (n e1) Q | o => Q o)) : Run (mSeq m n e) Q := by
  obtain ⟨o, h, q⟩ := h
  rw [mSeq_ap, h]
  cases o <;> simp only at q ⊢
  · exact q
  all_goals exact ⟨_, rfl, q⟩
theorem Run_nx {m n : MS} {e e1 : Env} {Q : Out → Prop} (h : m e = .ok (.nx e1)) (k : Run (n e1) Q) : Run (mSeq m n e) Q := by rwa [mSeq_nx h]
theorem Run_mono {r : R Out} {P Q : Out → Prop} (h : Run r P) (k : ∀ o, P o → Q o) : Run r Q := let ⟨o, h, p⟩ := h; ⟨o, h, k o p⟩
abbrev turn (Q : Out → Prop) (J : Env → Prop) : Out → Prop := fun o => match o with | .nx e => J e | .ct e => J e | .bk e => Q (.nx e) | .rt t e => Q (.rt t e)
theorem Run_loopL {mg : MG} {mb : MS} {Q : Out → Prop} (I : List D → Env → Prop)
    (st : ∀ d r e, I (d :: r) e → ∃ e1, mg (.sh d) e = .ok e1 ∧ Run (mb e1) (turn Q (I r))) (fin : ∀ e, I [] e → Q (.nx e)) :
    ∀ (ds : List D) (e : Env), I ds e → Run (loopL mg mb ds e) Q := by
  intro ds
  induction ds with
  | nil => intro e h; exact ⟨_, rfl, fin e h⟩
  | cons d r ih =>
    intro e h
    obtain ⟨e1, h1, o, h2, h3⟩ := st d r e h
    cases o <;> simp only [turn] at h3 <;> simp only [loopL, h1, h2]
    · exact ih _ h3
    · exact ⟨_, rfl, h3⟩
    · exact ⟨_, rfl, h3⟩
    · exact ih _ h3
theorem Run_for {mi : MI} {mg : MG} {mb : MS} {e e0 : Env} {ds : List D} {Q : Out → Prop} (I : List D → Env → Prop) (hi : mi e = .ok (ds, e0)) (h0 : I ds e0)
    (st : ∀ d r e, I (d :: r) e → ∃ e1, mg (.sh d) e = .ok e1 ∧ Run (mb e1) (turn Q (I r))) (fin : ∀ e, I [] e → Q (.nx e)) : Run (mForL mi mg mb e) Q := by
  rw [mForL_ap, hi]; exact Run_loopL I st fin ds e0 h0
theorem Run_while {c : MB} {mb : MS} {Q : Out → Prop} (I : Nat → Env → Prop)
    (st : ∀ n e, I n e → ∃ b e1, c e = .ok (b, e1) ∧ (b = false → Q (.nx e1)) ∧ (b = true → Run (mb e1) (turn Q fun e2 => ∃ m, m < n ∧ I m e2))) :
    ∀ {k : Nat} {n : Nat} {e : Env}, n < k → I n e → Run (whileS c mb k e) Q := by
  intro k
  induction k with
  | zero => intro n e h _; omega
  | succ k ih =>
    intro n e hk h
    obtain ⟨b, e1, h1, h2, h3⟩ := st n e h
    simp only [whileS, h1]
    cases b with
    | false => exact ⟨_, rfl, h2 rfl⟩
    | true =>
      obtain ⟨o, h4, h5⟩ := h3 rfl
      simp only [if_true]
      cases o <;> simp only [turn] at h5 <;> simp only [h4]
      · obtain ⟨m, hm, h5⟩ := h5; exact ih (by omega) h5
      · exact ⟨_, rfl, h5⟩
      · exact ⟨_, rfl, h5⟩
      · obtain ⟨m, hm, h5⟩ := h5; exact ih (by omega) h5
theorem loopC_pm {α : Type} {vs : List Nat} {mg : MG} {mt : MB} {me : ME} {e0 : Env} (emb : α → D) (E : α → Env) (p : α → Bool) (g : α → T) :
    ∀ (l : List α) (acc : List T) (e : Env), acc.length + l.length ≤ sizeLine → wpE e vs = wpE e0 vs → rst e0 vs e = e0 →
    (∀ a ∈ l, mg (.sh (emb a)) (wpE e0 vs) = .ok (E a) ∧ wpE (E a) vs = wpE e0 vs ∧ rst e0 vs (E a) = e0 ∧ mt (E a) = .ok (p a, E a) ∧ (p a = true → ∃ v, me (E a) = .ok (v, E a) ∧ keep v (E a) = some (g a, E a))) →
    ∃ e', loopC vs mg mt me (l.map emb) acc e = .ok (acc ++ (l.filter p).map g, e') ∧ rst e0 vs e' = e0 := by
  intro l
  induction l with
  | nil => intro acc e _ _ h _; exact ⟨e, by simp [loopC], h⟩
  | cons d r ih =>
    intro acc e hl hw hr st
    obtain ⟨h1, h2, h3, h4, h5⟩ := st d List.mem_cons_self
    have st' := fun d' hd => st d' (List.mem_cons_of_mem _ hd)
    simp only [List.length_cons] at hl
    simp only [List.map_cons, loopC, hw, h1, h4]
    cases hp : p d with
    | true =>
      obtain ⟨v, h6, h7⟩ := h5 hp
      have : acc.length < sizeLine := by omega
      simp only [if_true, h6, h7, this]
      obtain ⟨e', h8, h9⟩ := ih (acc ++ [g d]) (E d) (by simp only [List.length_append, List.length_singleton]; omega) h2 h3 st'
      exact ⟨e', by rw [h8]; simp [hp], h9⟩
    | false =>
      simp only [Bool.false_eq_true, if_false]
      obtain ⟨e', h8, h9⟩ := ih acc (E d) (by omega) h2 h3 st'
      exact ⟨e', by rw [h8]; simp [hp], h9⟩
theorem mLc_pm {α : Type} {vs : List Nat} {mi : MI} {mg : MG} {mt : MB} {me : ME} {e e0 : Env} {l : List α} (emb : α → D) (E : α → Env) (p : α → Bool) (g : α → T) (hi : mi e = .ok (l.map emb, e0)) (hl : litesAt e0 vs = true) (hn : l.length ≤ sizeLine)
    (st : ∀ a ∈ l, mg (.sh (emb a)) (wpE e0 vs) = .ok (E a) ∧ wpE (E a) vs = wpE e0 vs ∧ rst e0 vs (E a) = e0 ∧ mt (E a) = .ok (p a, E a) ∧ (p a = true → ∃ v, me (E a) = .ok (v, E a) ∧ keep v (E a) = some (g a, E a))) :
    mLc vs mi mg mt me e = .ok (.tv (.lst ((l.filter p).map g)), e0) := by
  obtain ⟨e', h, h'⟩ := loopC_pm emb E p g l [] e0 (by simpa using hn) rfl (rst_self e0 vs) st
  simp only [mLc, hi, bnd_ok, hl, if_true, h, h', List.nil_append]
theorem mLc_map {α : Type} {vs : List Nat} {mi : MI} {mg : MG} {me : ME} {e e0 : Env} {l : List α} (emb : α → D) (E : α → Env) (g : α → T) (hi : mi e = .ok (l.map emb, e0)) (hl : litesAt e0 vs = true) (hn : l.length ≤ sizeLine)
    (st : ∀ a ∈ l, mg (.sh (emb a)) (wpE e0 vs) = .ok (E a) ∧ wpE (E a) vs = wpE e0 vs ∧ rst e0 vs (E a) = e0 ∧ ∃ v, me (E a) = .ok (v, E a) ∧ keep v (E a) = some (g a, E a)) :
    mLc vs mi mg (fun e => .ok (true, e)) me e = .ok (.tv (.lst (l.map g)), e0) := by
  have := mLc_pm (mt := fun e => .ok (true, e)) (me := me) emb E (fun _ => true) g hi hl hn (fun a ha => let ⟨h1, h2, h3, h4⟩ := st a ha; ⟨h1, h2, h3, rfl, fun _ => h4⟩)
  rwa [List.filter_eq_self.mpr (fun _ _ => rfl)] at this
theorem loopD_pm {α : Type} {vs : List Nat} {mg : MG} {mt : MB} {mk me : ME} {e0 : Env} (emb : α → D) (E : α → Env) (p : α → Bool) (k : α → Key) (g : α → T) :
    ∀ (l : List α) (acc : List (Key × T)) (e : Env), acc.length + l.length ≤ sizeLine → (∀ a ∈ l, k a ∉ acc.map (·.1)) → (l.map k).Nodup → wpE e vs = wpE e0 vs → rst e0 vs e = e0 →
    (∀ a ∈ l, mg (.sh (emb a)) (wpE e0 vs) = .ok (E a) ∧ wpE (E a) vs = wpE e0 vs ∧ rst e0 vs (E a) = e0 ∧ mt (E a) = .ok (p a, E a) ∧ (p a = true → ∃ t v, mk (E a) = .ok (.tv t, E a) ∧ keyT t = some (k a) ∧ me (E a) = .ok (v, E a) ∧ keep v (E a) = some (g a, E a))) →
    ∃ e', loopD vs mg mt mk me (l.map emb) acc e = .ok (acc ++ (l.filter p).map (fun a => (k a, g a)), e') ∧ rst e0 vs e' = e0 := by
  intro l
  induction l with
  | nil => intro acc e _ _ _ _ h _; exact ⟨e, by simp [loopD], h⟩
  | cons d r ih =>
    intro acc e hl ha hn hw hr st
    obtain ⟨h1, h2, h3, h4, h5⟩ := st d List.mem_cons_self
    have st' := fun d' hd => st d' (List.mem_cons_of_mem _ hd)
    simp only [List.length_cons] at hl
    simp only [List.map_cons, List.nodup_cons] at hn
    simp only [List.map_cons, loopD, hw, h1, h4]
    cases hp : p d with
    | true =>
      obtain ⟨t, v, h6, hk, h7, h8⟩ := h5 hp
      have : acc.length < sizeLine := by omega
      have hnew : pk acc (k d) (g d) = acc ++ [(k d, g d)] := by
        apply DL.pk_new
        cases hh : lk acc (k d) with
        | none => rfl
        | some x => exact absurd (List.mem_map_of_mem (f := (·.1)) (DL.lk_mem hh)) (ha d List.mem_cons_self)
      simp only [if_true, h6, hk, h7, h8, this, hnew]
      obtain ⟨e', h8, h9⟩ := ih (acc ++ [(k d, g d)]) (E d) (by simp only [List.length_append, List.length_singleton]; omega) (fun a har hm => by
        simp only [List.map_append, List.map_cons, List.map_nil, List.mem_append, List.mem_singleton] at hm
        rcases hm with hm | hm
        · exact ha a (List.mem_cons_of_mem _ har) hm
        · exact hn.1 (hm ▸ List.mem_map_of_mem har)) hn.2 h2 h3 st'
      exact ⟨e', by rw [h8]; simp [hp], h9⟩
    | false =>
      simp only [Bool.false_eq_true, if_false]
      obtain ⟨e', h8, h9⟩ := ih acc (E d) (by omega) (fun a har => ha a (List.mem_cons_of_mem _ har)) hn.2 h2 h3 st'
      exact ⟨e', by rw [h8]; simp [hp], h9⟩
theorem mDc_map {α : Type} {vs : List Nat} {mi : MI} {mg : MG} {mk me : ME} {e e0 : Env} {l : List α} (emb : α → D) (E : α → Env) (k : α → Key) (g : α → T) (hi : mi e = .ok (l.map emb, e0)) (hl : litesAt e0 vs = true) (hn : l.length ≤ sizeLine) (nd : (l.map k).Nodup)
    (st : ∀ a ∈ l, mg (.sh (emb a)) (wpE e0 vs) = .ok (E a) ∧ wpE (E a) vs = wpE e0 vs ∧ rst e0 vs (E a) = e0 ∧ ∃ t v, mk (E a) = .ok (.tv t, E a) ∧ keyT t = some (k a) ∧ me (E a) = .ok (v, E a) ∧ keep v (E a) = some (g a, E a)) :
    mDc vs mi mg (fun e => .ok (true, e)) mk me e = .ok (.tv (.dct (l.map fun a => (k a, g a))), e0) := by
  obtain ⟨e', h, h'⟩ := loopD_pm (mt := fun e => .ok (true, e)) (mk := mk) (me := me) emb E (fun _ => true) k g l [] e0 (by simpa using hn) (by simp) nd rfl (rst_self e0 vs) (fun a ha => let ⟨h1, h2, h3, h4⟩ := st a ha; ⟨h1, h2, h3, rfl, fun _ => h4⟩)
  simp only [mDc, hi, bnd_ok, hl, if_true, h, h', List.nil_append, List.filter_eq_self.mpr (fun _ _ => rfl)]
section
variable {κ α : Type} [DecidableEq κ]
theorem lk_none {l : List (κ × α)} {k : κ} : lk l k = none ↔ k ∉ l.map (·.1) := by
  induction l with
  | nil => simp [lk]
  | cons p r ih =>
    simp only [lk, List.map_cons, List.mem_cons, not_or]
    by_cases h : p.1 = k
    · simp [h]
    · simp only [h, if_false, ih]; constructor
      · intro z; exact ⟨fun e => h e.symm, z⟩
      · exact fun z => z.2
theorem hk_iff {l : List (κ × α)} {k : κ} : DL.hk l k = true ↔ k ∈ l.map (·.1) := by
  unfold DL.hk
  by_cases h : k ∈ l.map (·.1)
  · simp only [h, iff_true]
    cases e : lk l k with
    | none => exact absurd h (lk_none.mp e)
    | some _ => rfl
  · simp only [h, iff_false]; rw [lk_none.mpr h]; simp
theorem hk_eq (l : List (κ × α)) (k : κ) : DL.hk l k = decide (k ∈ l.map (·.1)) := by
  rw [Bool.eq_iff_iff, hk_iff]; simp
theorem pk_nw {l : List (κ × α)} {k : κ} {a : α} (h : k ∉ l.map (·.1)) : pk l k a = l ++ [(k, a)] := by
  induction l with
  | nil => rfl
  | cons p r ih =>
    simp only [List.map_cons, List.mem_cons, not_or] at h
    simp only [pk, if_neg (fun e => h.1 (Eq.symm e)), ih h.2, List.cons_append]
theorem lk_mm {l : List (κ × α)} {k : κ} {a : α} (h : lk l k = some a) : (k, a) ∈ l := by
  induction l with
  | nil => cases h
  | cons p r ih =>
    simp only [lk] at h
    split at h
    · rename_i e; cases h; subst e; exact List.mem_cons_self
    · exact List.mem_cons_of_mem _ (ih h)
theorem lk_of_mem {l : List (κ × α)} {k : κ} {a : α} (nd : (l.map (·.1)).Nodup) (h : (k, a) ∈ l) : lk l k = some a := by
  induction l with
  | nil => cases h
  | cons p r ih =>
    simp only [List.map_cons, List.nodup_cons] at nd
    simp only [lk]
    rcases List.mem_cons.mp h with e | h
    · subst e; simp
    · rw [if_neg, ih nd.2 h]
      intro e; exact nd.1 (e ▸ List.mem_map_of_mem (f := (·.1)) h)
theorem foldl_pk_new (ps : List (κ × α)) : ∀ acc : List (κ × α), ((acc ++ ps).map (·.1)).Nodup → ps.foldl (fun acc p => pk acc p.1 p.2) acc = acc ++ ps := by
  induction ps with
  | nil => intro acc _; simp
  | cons p r ih =>
    intro acc h
    have : p.1 ∉ acc.map (·.1) := by
      simp only [List.map_append, List.map_cons] at h
      intro hm
      exact (List.nodup_append.mp h).2.2 _ hm _ List.mem_cons_self rfl
    simp only [List.foldl_cons, pk_nw this]
    rw [ih (acc ++ [(p.1, p.2)]) (by simpa using h)]
    simp
end
theorem mergeD_nodup {ps : List (Key × D)} (h : (ps.map (·.1)).Nodup) : mergeD ps = ps := by
  unfold mergeD; rw [foldl_pk_new ps [] (by simpa using h)]; simp
@[simp] theorem keyD_kD (k : Key) : keyD (kD k) = some k := by cases k <;> rfl
def tupD (p : Key × D) : D := .tup [kD p.1, p.2]
@[simp] theorem pairD_tupD (p : Key × D) : pairD (tupD p) = some p := by simp [pairD, tupD]
theorem pairsD_map (ps : List (Key × D)) : pairsD (ps.map tupD) = some ps := by
  induction ps with
  | nil => rfl
  | cons p r ih => simp [pairsD, ih]
@[simp] theorem mItems_ap (m : ME) (e : Env) : mItems m e = (m e).bnd fun v e1 => match v with
  | .pl i p => match e1[i]? with
    | some s => match s.own with
      | some t => match T.get p t with
        | some (.dct kts) => match allShK kts with
          | some kds => .ok (.tv (.lst (kds.map fun q => .sh (.tup [kD q.1, q.2]))), e1)
          | none => .st
        | _ => .st
      | none => .st
    | none => .st
  | .tv _ => .st := rfl
@[simp] theorem items_map (kds : List (Key × D)) : (kds.map fun q => T.sh (.tup [kD q.1, q.2])) = shs (kds.map tupD) := by simp [shs, tupD]
@[simp] theorem oStep_1 (ts : List T) : oStep [.lst ts, .sh (.int 1)] = (allSh ts).map fun ds => .lst (shs ds) := rfl
@[simp] theorem oStep_n1 (ts : List T) : oStep [.lst ts, .sh (.int (-1))] = (allSh ts).map fun ds => .lst (shs ds.reverse) := rfl
theorem oDictP_pairs {ps : List (Key × D)} (h : (ps.map (·.1)).Nodup) : ((oDictD [.sh (.lst (ps.map tupD))]).or (oDictP [.sh (.lst (ps.map tupD))])) = some (.dct (shk ps)) := by
  simp [oDictD, oDictP, kidsD, pairsD_map, mergeD_nodup h, shk]
theorem oDictD_sh {ps : List (Key × D)} (h : (ps.map (·.1)).Nodup) : ((oDictD [.sh (.dct ps)]).or (oDictP [.sh (.dct ps)])) = some (.dct (shk ps)) := by
  simp [oDictD, kidsD, h, shk]
def flatD : D → Bool
  | .non => true | .bl _ => true | .int _ => true | .str x => PyData.canLay0 (.str x)
  | _ => false
theorem py_flat {d : D} (h : flatD d = true) : ∃ p, d.py = some p ∧ p.canLay0 = true ∧ p.depth = 0 := by
  cases d <;> simp [flatD] at h <;> first | exact ⟨_, rfl, h, rfl⟩ | exact ⟨_, rfl, rfl, rfl⟩
theorem pys_flat {ds : List D} (h : ∀ d ∈ ds, flatD d = true) : ∃ ps, D.pys ds = some ps ∧ PyData.canLayAll0 ps = true ∧ PyData.depthAll ps = 0 ∧ ps.length = ds.length := by
  induction ds with
  | nil => exact ⟨[], rfl, rfl, rfl, rfl⟩
  | cons d r ih =>
    obtain ⟨p, h1, h2, h3⟩ := py_flat (h d List.mem_cons_self)
    obtain ⟨ps, h4, h5, h6, h7⟩ := ih (fun d hd => h d (List.mem_cons_of_mem _ hd))
    exact ⟨p :: ps, by simp [D.pys, h1, h4], by simp [PyData.canLayAll0, h2, h5], by simp [PyData.depthAll, h3, h6], by simp [h7]⟩
theorem xNe_empty {ds : List D} (h : ∀ d ∈ ds, flatD d = true) : xNe [.lst (shs ds), .lst []] = some (.sh (.bl (!ds.isEmpty))) := by
  obtain ⟨ps, h1, h2, h3, h4⟩ := pys_flat h
  simp [xNe, liftD, oNeS, eqS, oNeD, eqDp, D.py, h1, D.pys, SeqAt.shaped, PyData.canLay0, h2, PyData.depth, h3, PyData.canLayAll0, PyData.depthAll]
  cases ps <;> cases ds <;> simp [PyData.eqv, PyData.eqvAll] at h4 ⊢
def nmOk (s : Str) : Bool := decide (1 ≤ s.length) && decide (s.length ≤ 8) && s.cps.toList.all fun c => decide (97 ≤ c) && decide (c ≤ 122)
theorem nmOk_lay {s : Str} (h : nmOk s = true) : PyData.canLay0 (.str s) = true := by
  simp only [nmOk, Bool.and_eq_true, List.all_eq_true, decide_eq_true_eq] at h
  show PyData.strOk s = true
  unfold PyData.strOk
  rw [← Array.all_toList, List.all_eq_true]
  intro c hc
  have := (h.2 c hc).2
  simp only [decide_eq_true_eq]; omega
theorem flat_sts {l : List Str} (h : ∀ s ∈ l, nmOk s = true) : ∀ d ∈ sts l, flatD d = true := by
  intro d hd
  obtain ⟨s, hs, rfl⟩ := sts_mem.mp hd
  exact nmOk_lay (h s hs)
abbrev Fo := List (Str × Option Str)
def parD : Option Str → D
  | none => .non
  | some s => .str s
def foK (F : Fo) : List (Key × D) := F.map fun q => (.inr q.1, parD q.2)
def nms (F : Fo) : List Str := F.map (·.1)
@[simp] theorem foK_nil : foK [] = [] := rfl
@[simp] theorem foK_cons (q) (r : Fo) : foK (q :: r) = (.inr q.1, parD q.2) :: foK r := rfl
@[simp] theorem parD_none : parD none = .non := rfl
@[simp] theorem parD_some (s) : parD (some s) = .str s := rfl
theorem foK_keys (F : Fo) : (foK F).map (·.1) = (nms F).map Sum.inr := by simp [foK, nms, List.map_map, Function.comp_def]
@[simp] theorem foK_kD (F : Fo) : kDs ((foK F).map (·.1)) = sts (nms F) := by rw [foK_keys, kDs_inr]
@[simp] theorem nms_length (F : Fo) : (nms F).length = F.length := by simp [nms]
@[simp] theorem foK_len (F : Fo) : (foK F).length = F.length := by simp [foK]
theorem inr_nodup {l : List Str} (h : l.Nodup) : (l.map (Sum.inr : Str → Key)).Nodup := by
  unfold List.Nodup at h ⊢
  rw [List.pairwise_map]
  exact h.imp fun h e => h (Sum.inr.inj e)
theorem foK_nodup {F : Fo} (h : (nms F).Nodup) : ((foK F).map (·.1)).Nodup := by rw [foK_keys]; exact inr_nodup h
theorem foK_hk (F : Fo) (n : Str) : DL.hk (foK F) (.inr n) = decide (n ∈ nms F) := by
  rw [hk_eq, foK_keys]; simp
theorem foK_lk (F : Fo) (n : Str) : lk (foK F) (.inr n) = (lk F n).map parD := by
  induction F with
  | nil => rfl
  | cons q r ih => simp only [foK, List.map_cons, lk] at ih ⊢; by_cases h : q.1 = n <;> simp [h, ih]
theorem foK_append (F G : Fo) : foK (F ++ G) = foK F ++ foK G := by simp [foK]
structure Wf (F : Fo) : Prop where
  nd : (nms F).Nodup
  rk : ∃ rank : Str → Nat, (∀ n ∈ nms F, rank n < F.length) ∧ ∀ n m, (n, some m) ∈ F → m ∈ nms F ∧ rank m < rank n
theorem Wf.rev {F : Fo} (h : Wf F) : Wf F.reverse := by
  obtain ⟨nd, r, h1, h2⟩ := h
  refine ⟨by simp only [nms, List.map_reverse] at nd ⊢; exact List.pairwise_reverse.mpr (nd.imp fun h => Ne.symm h), r, fun n hn => by simpa using h1 n (by simpa [nms] using hn), fun n m hm => ?_⟩
  have := h2 n m (by simpa using hm)
  exact ⟨by simpa [nms] using this.1, this.2⟩
theorem Wf.nil : Wf [] := ⟨List.nodup_nil, fun _ => 0, by simp [nms], by simp⟩
theorem Wf.snoc {F : Fo} (h : Wf F) {n : Str} {o : Option Str} (hn : n ∉ nms F) (ho : ∀ m, o = some m → m ∈ nms F) : Wf (F ++ [(n, o)]) := by
  obtain ⟨nd, r, h1, h2⟩ := h
  refine ⟨?_, fun x => if x = n then F.length else r x, ?_, ?_⟩
  · simp only [nms, List.map_append, List.map_cons, List.map_nil]
    rw [List.nodup_append]
    refine ⟨nd, by simp, ?_⟩
    intro a ha b hb e
    simp only [List.mem_singleton] at hb
    subst hb; subst e
    exact hn ha
  · intro x hx
    simp only [nms, List.map_append, List.map_cons, List.map_nil, List.mem_append, List.mem_singleton] at hx
    simp only [List.length_append, List.length_singleton]
    by_cases e : x = n
    · simp [e]
    · simp only [e, if_false]; have := h1 x (hx.resolve_right e); omega
  · intro x m hm
    simp only [List.mem_append, List.mem_singleton, Prod.mk.injEq] at hm
    rcases hm with hm | ⟨rfl, e⟩
    · obtain ⟨a, b⟩ := h2 x m hm
      have hx : x ∈ nms F := List.mem_map_of_mem (f := (·.1)) hm
      have e1 : x ≠ n := fun e => hn (e ▸ hx)
      have e2 : m ≠ n := fun e => hn (e ▸ a)
      refine ⟨by simp [nms] at a ⊢; exact .inl a, by simp [e1, e2, b]⟩
    · have a := ho m e.symm
      have e2 : m ≠ x := fun e => hn (e ▸ a)
      refine ⟨by simp [nms] at a ⊢; exact .inl a, by simp [e2]; exact h1 m a⟩
def bO : Option T → Option Bool
  | some (.sh (.bl b)) => some b
  | _ => none
@[simp] theorem bO_bl (b : Bool) : bO (some (.sh (.bl b))) = some b := rfl
@[simp] theorem mChain_ap (f f' : List T → Option T) (m n l : ME) (e : Env) : mChain f f' m n l e = (mCons m (mCons n mNil) e).bnd fun vs e1 => match cns vs e1 with
  | some [t, .sh d] => if flD d = true then bC (bO (f [t, .sh d])) (mOp f' (mCons (mC d) (mCons l mNil)) e1) (.ok (.tv (.sh (.bl false)), e1)) .st
    else .st
  | _ => .st := by
  unfold mChain
  congr 1
  funext vs e1
  have key : ∀ t d, (match f [t, T.sh d] with
      | some (.sh (.bl true)) => mOp f' (mCons (mC d) (mCons l mNil)) e1
      | some (.sh (.bl false)) => .ok (.tv (.sh (.bl false)), e1)
      | _ => .st) = bC (bO (f [t, .sh d])) (mOp f' (mCons (mC d) (mCons l mNil)) e1) (.ok (.tv (.sh (.bl false)), e1)) .st := by
    intro t d
    cases f [t, T.sh d] with
    | none => rfl
    | some t => cases t with
      | sh d => cases d with
        | bl b => cases b <;> rfl
        | _ => rfl
      | _ => rfl
  cases cns vs e1 with
  | none => rfl
  | some l => match l with
    | [] => rfl
    | [_] => rfl
    | [t, .sh d] => exact congrArg (fun z => if flD d = true then z else R.st) (key t d)
    | [_, .lst _] => rfl
    | [_, .dct _] => rfl
    | [_, .ins _ _] => rfl
    | _ :: .sh _ :: _ :: _ => rfl
    | _ :: .lst _ :: _ :: _ => rfl
    | _ :: .dct _ :: _ :: _ => rfl
    | _ :: .ins _ _ :: _ :: _ => rfl
@[simp] theorem flD_int (i) : flD (.int i) = true := rfl
@[simp] theorem flD_str (i) : flD (.str i) = true := rfl
theorem boolsD_map {α : Type} (f : α → Bool) (l : List α) : boolsD (l.map fun a => .bl (f a)) = some (l.map f) := by
  induction l with
  | nil => rfl
  | cons a r ih => simp [boolsD, ih]
theorem xAll_bls {α : Type} (f : α → Bool) (l : List α) : xAll [.lst (l.map fun a => .sh (.bl (f a)))] = some (.sh (.bl (l.all f))) := by
  have : (l.map fun a => T.sh (.bl (f a))).map T.er = l.map fun a => D.bl (f a) := by simp
  simp only [xAll, liftD, List.map_cons, List.map_nil, er_lst, this, oAll, boolsD_map]
  simp [List.all_map, Function.comp_def]
theorem strsK_inr (l : List Str) : strsK (l.map Sum.inr) = some l := by
  induction l with
  | nil => rfl
  | cons a r ih => simp [strsK, ih]
theorem strsD_sts (l : List Str) : strsD (sts l) = some l := by
  induction l with
  | nil => rfl
  | cons a r ih => simp [strsD, ih]
theorem strL_eq (l : List Str) : strL l = .lst (shs (sts l)) := rfl
theorem xSorted_dct {ts : List (Key × T)} {l : List Str} (h : ts.map (·.1) = l.map Sum.inr) (hl : l.length < 64) : xSorted [.dct ts] = some (.lst (shs (sts (srt l)))) := by
  simp [xSorted, oSortD, h, strsK_inr, hl, strL_eq]
theorem xSorted_shd {ts : List (Key × D)} {l : List Str} (h : ts.map (·.1) = l.map Sum.inr) (hl : l.length < 64) : xSorted [.sh (.dct ts)] = some (.lst (shs (sts (srt l)))) := by
  simp [xSorted, oSortD, h, strsK_inr, hl, strL_eq]
theorem srt_pm (l : List Str) : (srt l).Perm l := List.mergeSort_perm l _
@[simp] theorem srt_length (l : List Str) : (srt l).length = l.length := (srt_pm l).length_eq
theorem srt_mem {l : List Str} {s : Str} : s ∈ srt l ↔ s ∈ l := (srt_pm l).mem_iff
theorem srt_nodup {l : List Str} : (srt l).Nodup ↔ l.Nodup := (srt_pm l).nodup_iff
def par (F : Fo) (n : Str) : Option Str := (lk F n).getD none
def srF (F : Fo) : Fo := (srt (nms F)).map fun n => (n, par F n)
@[simp] theorem nms_srF (F : Fo) : nms (srF F) = srt (nms F) := by simp [nms, srF, List.map_map, Function.comp_def]
@[simp] theorem srF_length (F : Fo) : (srF F).length = F.length := by simp [srF]
theorem par_mem {F : Fo} (nd : (nms F).Nodup) {n : Str} {o : Option Str} (h : (n, o) ∈ F) : par F n = o := by
  simp [par, lk_of_mem nd h]
theorem mem_par {F : Fo} {n : Str} (h : n ∈ nms F) : (n, par F n) ∈ F := by
  cases e : lk F n with
  | none => exact absurd h (lk_none.mp e)
  | some o => simp [par, e]; exact lk_mm e
theorem lk_par {F : Fo} {n : Str} (h : n ∈ nms F) : lk F n = some (par F n) := by
  cases e : lk F n with
  | none => exact absurd h (lk_none.mp e)
  | some o => simp [par, e]
theorem mem_srF {F : Fo} (nd : (nms F).Nodup) {n : Str} {o : Option Str} : (n, o) ∈ srF F ↔ (n, o) ∈ F := by
  simp only [srF, List.mem_map, Prod.mk.injEq, srt_mem]
  constructor
  · rintro ⟨m, hm, rfl, rfl⟩; exact mem_par hm
  · intro h; exact ⟨n, List.mem_map_of_mem (f := (·.1)) h, rfl, par_mem nd h⟩
theorem Wf.sr {F : Fo} (h : Wf F) : Wf (srF F) := by
  obtain ⟨nd, r, h1, h2⟩ := h
  refine ⟨by rw [nms_srF]; exact srt_nodup.mpr nd, r, fun n hn => ?_, fun n m hm => ?_⟩
  · rw [nms_srF, srt_mem] at hn; simpa using h1 n hn
  · rw [nms_srF, srt_mem]; exact h2 n m ((mem_srF nd).mp hm)
def wayK (F : Fo) : Nat → Option Str → List Str
  | 0, _ => []
  | _ + 1, none => []
  | k + 1, some n => n :: wayK F k (par F n)
def way (F : Fo) (n : Str) : List Str := wayK F (F.length + 1) (some n)
structure Rk (F : Fo) (r : Str → Nat) : Prop where
  lt : ∀ n ∈ nms F, r n < F.length
  up : ∀ n m, (n, some m) ∈ F → m ∈ nms F ∧ r m < r n
theorem Rk.par {F : Fo} {r : Str → Nat} (h : Rk F r) {n m : Str} (hn : n ∈ nms F) (e : par F n = some m) : m ∈ nms F ∧ r m < r n := by
  have := mem_par hn; rw [e] at this; exact h.up n m this
theorem Wf.rank {F : Fo} (h : Wf F) : ∃ r, Rk F r := let ⟨_, r, a, b⟩ := h; ⟨r, a, b⟩
theorem wayK_stable {F : Fo} {r : Str → Nat} (h : Rk F r) : ∀ (k j : Nat) (n : Str), n ∈ nms F → r n < k → r n < j → wayK F k (some n) = wayK F j (some n)
  | 0, _, _, _, hk, _ => by omega
  | _ + 1, 0, _, _, _, hj => by omega
  | k + 1, j + 1, n, hn, hk, hj => by
    simp only [wayK]
    cases e : DL.par F n with
    | none => cases k <;> cases j <;> rfl
    | some m =>
      obtain ⟨hm, hr⟩ := h.par hn e
      rw [wayK_stable h k j m hm (by omega) (by omega)]
theorem way_eq {F : Fo} (w : Wf F) {n : Str} (hn : n ∈ nms F) : way F n = n :: (match par F n with | none => [] | some m => way F m) := by
  obtain ⟨r, h⟩ := w.rank
  unfold way
  simp only [wayK]
  cases e : par F n with
  | none => cases F <;> rfl
  | some m =>
    obtain ⟨hm, hr⟩ := h.par hn e
    have := h.lt n hn; have := h.lt m hm
    rw [wayK_stable h F.length (F.length + 1) m hm (by omega) (by omega)]
    simp only [wayK]
def trK (Z : List Str) : List (Key × D) := Z.map fun z => (.inr z, .bl true)
theorem trK_keys (Z : List Str) : (trK Z).map (·.1) = Z.map Sum.inr := by simp [trK, List.map_map, Function.comp_def]
@[simp] theorem trK_length (Z : List Str) : (trK Z).length = Z.length := by simp [trK]
@[simp] theorem hk_tr (Z : List Str) (m : Str) : DL.hk (trK Z) (.inr m) = decide (m ∈ Z) := by rw [hk_eq, trK_keys]; simp
theorem pk_tr (Z : List Str) (m : Str) : pk (trK Z) (.inr m) (.bl true) = trK (if m ∈ Z then Z else Z ++ [m]) := by
  induction Z with
  | nil => rfl
  | cons z r ih =>
    simp only [trK, List.map_cons, pk] at ih ⊢
    by_cases h : z = m
    · subst h; simp
    · have h' : ¬ (Sum.inr z : Key) = Sum.inr m := fun e => h (Sum.inr.inj e)
      have h'' : ¬ m = z := fun e => h e.symm
      simp only [h', if_false, ih, List.mem_cons, h'', false_or]
      split <;> simp
theorem mergeT_tr (P : List Str) : ∀ Z : List Str, ∃ Z', mergeT (shk (trK Z)) (trK P) = shk (trK Z') ∧ Z'.length ≤ Z.length + P.length := by
  induction P with
  | nil => intro Z; exact ⟨Z, rfl, by simp⟩
  | cons p r ih =>
    intro Z
    obtain ⟨Z', h, hl⟩ := ih (if p ∈ Z then Z else Z ++ [p])
    refine ⟨Z', ?_, ?_⟩
    · rw [← h, ← pk_tr, ← pk_shk]; rfl
    · simp only [List.length_cons]; split at hl <;> (try simp only [List.length_append, List.length_singleton] at hl) <;> omega
theorem gUpdate_tr (Z P : List Str) (h : Z.length + P.length ≤ sizeLine) : ∃ Z', gUpdate (.dct (shk (trK Z))) [.sh (.dct (trK P))] = some (.dct (shk (trK Z')), .sh .non) ∧ Z'.length ≤ Z.length + P.length := by
  obtain ⟨Z', e, hl⟩ := mergeT_tr P Z
  exact ⟨Z', by simp only [gUpdate, shk_length, trK_length, h, if_true, e], hl⟩
@[simp] theorem lk_shk_s (ds : List (Key × D)) (k : Key) : lk (shk ds) k = (lk ds k).map T.sh := lk_shk ds k
@[simp] theorem hk_shk_s (ds : List (Key × D)) (k : Key) : DL.hk (shk ds) k = DL.hk ds k := hk_shk ds k
@[simp] theorem foK_lk_s (F : Fo) (n : Str) : lk (foK F) (.inr n) = (lk F n).map parD := foK_lk F n
@[simp] theorem foK_hk_s (F : Fo) (n : Str) : DL.hk (foK F) (.inr n) = decide (n ∈ nms F) := foK_hk F n
@[simp] theorem isNon_par (o : Option Str) : isNon (parD o) = o.isNone := by cases o <;> rfl
def wayO (F : Fo) : Option Str → List Str
  | none => []
  | some m => way F m
@[simp] theorem wayO_none (F : Fo) : wayO F none = [] := rfl
@[simp] theorem wayO_some (F : Fo) (m) : wayO F (some m) = way F m := rfl
theorem way_cons {F : Fo} (w : Wf F) {n : Str} (hn : n ∈ nms F) : way F n = n :: wayO F (par F n) := by
  rw [way_eq w hn]; cases par F n <;> rfl
theorem oInQ_sts (b : Bool) (n : Str) (l : List Str) : oInQ b [.str n, .lst (sts l)] = some (.bl (if b then !decide (n ∈ l) else decide (n ∈ l))) := by
  have h1 : (sts l).all flD = true := by
    rw [List.all_eq_true]; intro d hd; obtain ⟨s, _, rfl⟩ := sts_mem.mp hd; rfl
  have h2 : ((sts l).any fun d => eqF d (.str n)) = decide (n ∈ l) := by
    rw [Bool.eq_iff_iff]
    simp only [List.any_eq_true, decide_eq_true_eq]
    constructor
    · rintro ⟨d, hd, he⟩; obtain ⟨s, hs, rfl⟩ := sts_mem.mp hd; simp only [eqF, beq_iff_eq] at he; exact he ▸ hs
    · intro h; exact ⟨.str n, sts_mem.mpr ⟨n, h, rfl⟩, by simp [eqF]⟩
  simp only [oInQ, items, flD, h1, and_self, if_true, h2]
@[simp] theorem xIn_sts (n : Str) (l : List Str) : xIn [.sh (.str n), .sh (.lst (sts l))] = some (.sh (.bl (decide (n ∈ l)))) := by
  simp [xIn, liftD, inDct, oInQ_sts]
@[simp] theorem xIn_stl (n : Str) (l : List Str) : xIn [.sh (.str n), .lst (shs (sts l))] = some (.sh (.bl (decide (n ∈ l)))) := by
  simp [xIn, liftD, inDct, oInQ_sts]
@[simp] theorem mProp_ap (C : Addr) (f : MF) (m : ME) (e : Env) : mProp C f m e = mCall 1 (nxF f) (mCons (mChk (isC C) m) mNil) e := rfl
@[simp] theorem mMeth_ap (C : Addr) (mn : Str) (n : Nat) (f : MF) (m : ME) (ms : MA) (e : Env) : mMeth C mn n f m ms e = mCall n f (mCons (mChk (isI C mn) m) ms) e := rfl
@[simp] theorem mMethM_ap (C : Addr) (mn : Str) (n : Nat) (f : MF) (m : ME) (ms : MA) (e : Env) : mMethM C mn n f m ms e = mCallM n f (mCons (mChk (isI C mn) m) ms) e := rfl
@[simp] theorem isC_ins (C : Addr) (fs) : isC C (.ins C fs) = true := by simp [isC]
@[simp] theorem isI_sh (C : Addr) (m) (fs) : isI C m (.sh (.ins C fs)) = (lk fs m).isNone := by simp [isI]
@[simp] theorem isI_ins (C : Addr) (m) (fs) : isI C m (.ins C fs) = (lk fs m).isNone := by simp [isI]
@[simp] theorem nxF_ap (f : MF) (ss : List Slot) : nxF f ss = (match f ss with | .exc _ _ => .st | r => r) := rfl
def Rb (n k : Nat) (d : D) : Prop := ∃ p, d.pyv = some p ∧ p.showable = true ∧ p.shown.length ≤ n ∧ p.depth ≤ k
theorem Rb.mono {n k n' k' : Nat} {d : D} (h : Rb n k d) (hn : n ≤ n') (hk : k ≤ k') : Rb n' k' d := let ⟨p, a, b, c, e⟩ := h; ⟨p, a, b, Nat.le_trans c hn, Nat.le_trans e hk⟩
theorem ofs_len (s : String) : (Str.ofString s).length = s.length := by
  rw [Str.ofString_eq_toList]; simp only [Str.length, List.size_toArray, List.length_map, String.length_toList]
theorem Rb.non : Rb 4 0 .non := ⟨.none, rfl, rfl, by rw [PyData.shown, ofs_len]; decide, Nat.le_refl _⟩
theorem Rb.bl (b : Bool) : Rb 5 0 (.bl b) := ⟨.bool b, rfl, rfl, by cases b <;> simp [PyData.shown, ofs_len] <;> decide, Nat.le_refl _⟩
theorem Rb.int {i : Int} {k : Nat} (hk : 0 < k) (hk' : k ≤ 400) (h : i.natAbs < 10 ^ k) : Rb (k + 1) 0 (.int i) := by
  refine ⟨.int i, rfl, ?_, ?_, Nat.le_refl _⟩
  · simp only [PyData.showable, decide_eq_true_eq]
    rcases Nat.eq_zero_or_pos i.natAbs with z | z
    · rw [z]; decide
    · refine (Nat.log2_lt (by omega)).mpr (Nat.lt_of_lt_of_le h ?_)
      calc 10 ^ k ≤ 10 ^ 400 := Nat.pow_le_pow_right (by decide) hk'
        _ ≤ 2 ^ 1920 := by decide +kernel
  · simp only [PyData.shown]
    rw [ofs_len]
    exact int_text_length_le10 hk h
theorem Rb.str {s : Str} {m : Nat} (h : ∀ c ∈ s.cps.toList, c < 16 ^ 8) (hl : 10 * s.length + 2 ≤ m) : Rb m 0 (.str s) := ⟨.str s, rfl, rfl, by simp only [PyData.shown]; exact Nat.le_trans (StrLaws.reprText_len s h) hl, Nat.le_refl _⟩
theorem Rb.nm {s : Str} (h : nmOk s = true) : Rb 82 0 (.str s) := by
  simp only [nmOk, Bool.and_eq_true, List.all_eq_true, decide_eq_true_eq] at h
  refine Rb.str (fun c hc => ?_) (by omega)
  have := (h.2 c hc).2
  omega
theorem piled_le {ts : List Str} {n : Nat} (h : ∀ t ∈ ts, t.length ≤ n) : piled ts ≤ ts.length * (n + 2) := by
  induction ts with
  | nil => simp [piled]
  | cons t r ih =>
    rw [piled_cons]
    have := ih (fun t ht => h t (List.mem_cons_of_mem _ ht))
    have := h t List.mem_cons_self
    simp only [List.length_cons, Nat.add_mul]
    omega
theorem listText_le (ts : List Str) : (listText ts).length ≤ 2 + piled ts := by
  cases ts with
  | nil => show (textFrom 0 "[" [] ++ "]").length ≤ _; rw [strLen_append]; exact Nat.le_add_right _ _
  | cons t r =>
    have h := textFrom_length_pos r 1 (("[" : Str) ++ (if (0 : Nat) > 0 then ", " else "" : String) ++ t) (Nat.succ_pos 0)
    have e : ((("[" : Str) ++ (if (0 : Nat) > 0 then ", " else "" : String) ++ t)).length = 1 + t.length := by
      rw [strLen_append, strLen_append]; rfl
    have hX : (listText (t :: r)).length = (textFrom 0 "[" (t :: r)).length + 1 := by
      show (textFrom 0 "[" (t :: r) ++ "]").length = _
      rw [strLen_append]; rfl
    have hY : (textFrom 0 "[" (t :: r)).length = (textFrom 1 (("[" : Str) ++ (if (0 : Nat) > 0 then ", " else "" : String) ++ t) r).length := rfl
    rw [hX, hY, h, e, piled_cons]; omega
theorem join_le (ts : List Str) : (Str.join ", " ts).length ≤ piled ts := by
  cases ts with
  | nil => simp [Str.join, piled]; rfl
  | cons t r => have := join_length_add (t :: r) (by simp); omega
theorem tupleText_le (ts : List Str) : (tupleText ts).length ≤ 3 + piled ts := by
  unfold tupleText
  rw [strLen_append, strLen_append]
  have e1 : ((("(" : String) : Str)).length = 1 := rfl
  have e3 : (((if ts.length == 1 then ",)" else ")" : String) : Str)).length ≤ 2 := by split <;> decide
  have := join_le ts
  omega
theorem dictText_le (ts : List Str) : (dictText ts).length ≤ 2 + piled ts := by
  unfold dictText
  rw [strLen_append, strLen_append]
  have e1 : ((("{" : String) : Str)).length = 1 := rfl
  have e3 : ((("}" : String) : Str)).length = 1 := rfl
  have := join_le ts
  omega
theorem Rb.all {n k : Nat} {ds : List D} (h : ∀ d ∈ ds, Rb n k d) : ∃ ps, D.pyvs ds = some ps ∧ PyData.showableAll ps = true ∧ (∀ t ∈ PyData.shownAll ps, t.length ≤ n) ∧ PyData.depthAll ps ≤ k ∧ (PyData.shownAll ps).length = ds.length := by
  induction ds with
  | nil => exact ⟨[], rfl, rfl, by simp [PyData.shownAll], Nat.zero_le _, rfl⟩
  | cons d r ih =>
    obtain ⟨p, h1, h2, h3, h4⟩ := h d List.mem_cons_self
    obtain ⟨ps, h5, h6, h7, h8, h9⟩ := ih (fun d hd => h d (List.mem_cons_of_mem _ hd))
    refine ⟨p :: ps, by simp [D.pyvs, h1, h5], by simp [PyData.showableAll, h2, h6], ?_, by simp [PyData.depthAll]; omega, by simp [PyData.shownAll, h9]⟩
    intro t ht
    simp only [PyData.shownAll, List.mem_cons] at ht
    rcases ht with rfl | ht
    · exact h3
    · exact h7 t ht
theorem Rb.lst {n k : Nat} {ds : List D} (h : ∀ d ∈ ds, Rb n k d) : Rb (2 + ds.length * (n + 2)) (k + 1) (.lst ds) := by
  obtain ⟨ps, h1, h2, h3, h4, h5⟩ := Rb.all h
  refine ⟨.list ps, by simp [D.pyv, h1], by simpa [PyData.showable] using h2, ?_, by simp [PyData.depth]; omega⟩
  simp only [PyData.shown]
  have := listText_le (PyData.shownAll ps)
  have := piled_le h3
  rw [h5] at this
  omega
theorem Rb.tup {n k : Nat} {ds : List D} (h : ∀ d ∈ ds, Rb n k d) : Rb (3 + ds.length * (n + 2)) (k + 1) (.tup ds) := by
  obtain ⟨ps, h1, h2, h3, h4, h5⟩ := Rb.all h
  refine ⟨.tuple ps, by simp [D.pyv, h1], by simpa [PyData.showable] using h2, ?_, by simp [PyData.depth]; omega⟩
  simp only [PyData.shown]
  have := tupleText_le (PyData.shownAll ps)
  have := piled_le h3
  rw [h5] at this
  omega
theorem pyv_kD (k : Key) : (kD k).pyv = some (keyP k) := by cases k <;> rfl
theorem Rb.dct {m n k : Nat} {ds : List (Key × D)} (h : ∀ q ∈ ds, Rb m 0 (kD q.1) ∧ Rb n k q.2) : Rb (2 + ds.length * (m + n + 4)) (k + 1) (.dct ds) := by
  have key : ∃ ps, D.pyvk ds = some ps ∧ PyData.showableKv ps = true ∧ (∀ t ∈ PyData.shownKv ps, t.length ≤ m + 2 + n) ∧ PyData.depthKv ps ≤ k ∧ (PyData.shownKv ps).length = ds.length := by
    induction ds with
    | nil => exact ⟨[], rfl, rfl, by simp [PyData.shownKv], Nat.zero_le _, rfl⟩
    | cons d r ih =>
      rcases d with ⟨kk, d⟩
      obtain ⟨⟨p0, g1, g2, g3, g4⟩, p, h1, h2, h3, h4⟩ := h (kk, d) List.mem_cons_self
      rw [pyv_kD] at g1; cases g1
      dsimp only at g3 h1 h3
      obtain ⟨ps, h5, h6, h7, h8, h9⟩ := ih (fun d hd => h d (List.mem_cons_of_mem _ hd))
      have hk0 : (keyP kk).depth = 0 := by cases kk <;> rfl
      refine ⟨(keyP kk, p) :: ps, by simp [D.pyvk, D.pyvp, h1, h5], by simp [PyData.showableKv, g2, h2, h6], ?_, by simp only [PyData.depthKv, hk0]; omega, by simp [PyData.shownKv, h9]⟩
      intro t ht
      simp only [PyData.shownKv, List.mem_cons] at ht
      rcases ht with rfl | ht
      · rw [strLen_append, strLen_append]
        have : ((": " : String) : Str).length = 2 := rfl
        omega
      · exact h7 t ht
  obtain ⟨ps, h1, h2, h3, h4, h5⟩ := key
  refine ⟨.dict ps, by simp [D.pyv, h1], by simpa [PyData.showable] using h2, ?_, by simp [PyData.depth]; omega⟩
  simp only [PyData.shown]
  have := dictText_le (PyData.shownKv ps)
  have := piled_le h3
  rw [h5] at this
  have e : m + 2 + n + 2 = m + n + 4 := by omega
  rw [e] at this
  omega
theorem Rb.repr {n k : Nat} {d : D} (h : Rb n k d) (hn : n ≤ 16777216) (hk : k ≤ 60) (hi : isNode d = true) : ∃ r, ∀ t : T, t.er = d → xRepr [t] = some (.sh (.str r)) := by
  obtain ⟨p, h1, h2, h3, h4⟩ := h
  refine ⟨p.shown, fun t ht => ?_⟩
  have h5 : p.shown.length ≤ sizeLine := Nat.le_trans h3 hn
  have h6 : p.depth ≤ 60 := Nat.le_trans h4 hk
  simp only [xRepr, liftD, List.map_cons, List.map_nil, ht, oRepr, h1, Option.bind_some, hi, h2, h5, h6, and_self, if_true, Option.map_some]
@[simp] theorem mRaise_ap (C : Addr) (e : Env) : mRaise C e = .ex ⟨C, none⟩ e := rfl
@[simp] theorem mRaiseF_ap (C : Addr) (f : Str) (m : ME) (e : Env) : mRaiseF C f m e = (match m e with
  | .ok (v, e1) => match cn v e1 with
    | some (.sh d) => if okD d = true then .ex ⟨C, some [(f, d)]⟩ e1 else .st
    | _ => .st
  | .ex c e1 => .ex c e1
  | .st => .st) := rfl
theorem ySorted_of {us : List T} {t : T} (h : xSorted us = some t) : ySorted us = some t := by simp [ySorted, h]
theorem ySorted_dct {ts : List (Key × T)} {l : List Str} (h : ts.map (·.1) = l.map Sum.inr) (_ : l.length < 16777216) : ySorted [.dct ts] = some (.lst (shs (sts (srt l)))) := by
  by_cases hl : l.length < 64
  · exact ySorted_of (xSorted_dct h hl)
  · have h1 : xSorted [.dct ts] = none := by simp [xSorted, oSortD, oSortL, h, strsK_inr, hl, kidsL]
    have h2 : oSortQ [.dct ts] = none := rfl
    simp [ySorted, h1, h2, oSortDQ, h, strsK_inr, strL_eq]
theorem ySorted_shd {ts : List (Key × D)} {l : List Str} (h : ts.map (·.1) = l.map Sum.inr) (_ : l.length < 16777216) : ySorted [.sh (.dct ts)] = some (.lst (shs (sts (srt l)))) := by
  by_cases hl : l.length < 64
  · exact ySorted_of (xSorted_shd h hl)
  · have h1 : xSorted [.sh (.dct ts)] = none := by simp [xSorted, oSortD, oSortL, h, strsK_inr, hl, kidsL]
    have h2 : oSortQ [.sh (.dct ts)] = none := rfl
    simp [ySorted, h1, h2, oSortDQ, h, strsK_inr, strL_eq]
end DL
namespace W
open PySem PySem.Spec PyProof.Rows L2 DL
theorem isi_str (c : Cs) (s : Str) : oIsi tb_str (ic_str c) [.sh (.str s)] = some (.sh (.bl true)) := by simp [oIsi, isiF, tb_str, tyN]
theorem isi_dictT (c : Cs) (x) : oIsi tb_dict (ic_dict c) [.dct x] = some (.sh (.bl true)) := by simp [oIsi, isiF, tb_dict, tyN]
theorem isi_dictD (c : Cs) (x) : oIsi tb_dict (ic_dict c) [.sh (.dct x)] = some (.sh (.bl true)) := by simp [oIsi, isiF, tb_dict, tyN]
theorem letters : ("abcdefghijklmnopqrstuvwxyz" : Str).cps.toList = [97, 98, 99, 100, 101, 102, 103, 104, 105, 106, 107, 108, 109, 110, 111, 112, 113, 114, 115, 116, 117, 118, 119, 120, 121, 122] := by decide +kernel
theorem xIn_letters (n : Nat) : xIn [.sh (.str ⟨#[n]⟩), .sh (.str "abcdefghijklmnopqrstuvwxyz")] = some (.sh (.bl (decide (97 ≤ n) && decide (n ≤ 122)))) := by
  have : (decide (n ∈ ("abcdefghijklmnopqrstuvwxyz" : Str).cps.toList)) = (decide (97 ≤ n) && decide (n ≤ 122)) := by
    have hr : [97, 98, 99, 100, 101, 102, 103, 104, 105, 106, 107, 108, 109, 110, 111, 112, 113, 114, 115, 116, 117, 118, 119, 120, 121, 122] = List.range' 97 26 := rfl
    rw [letters, hr, Bool.eq_iff_iff]
    simp only [decide_eq_true_eq, List.mem_range'_1, Bool.and_eq_true]
    omega
  simp only [xIn, liftD, List.map_cons, List.map_nil, er_sh, inDct, oInQ, items, oInS, Option.map_none, Option.none_or, Bool.false_eq_true, if_false, this, Option.map_some]
theorem c_name (c : Cs) (s : Str) (h : s.length ≤ sizeLine) : c_is_name_0 c [.va (.sh (.str s)), .un] = .ok (.tv (.lst (s.cps.toList.map fun n => .sh (.bl (decide (97 ≤ n) && decide (n ≤ 122))))), [.va (.sh (.str s)), .un]) := by
  refine mLc_map (fun n => .str ⟨#[n]⟩) (fun n => [.va (.sh (.str s)), .va (.sh (.str ⟨#[n]⟩))]) _ ?_ ?_ ?_ ?_
  · simp
  · simp
  · exact h
  · intro n _
    simp [xIn_letters]
theorem name_str (c : Cs) (s : Str) (h : s.length ≤ sizeLine) : f_is_name c [.va (.sh (.str s))] = .ret (.sh (.bl (nmOk s))) none := by
  have hl := xLen_str s h
  have a1 : decide ((1 : Int) ≤ (s.length : Int)) = decide (1 ≤ s.length) := by rw [decide_eq_decide]; omega
  have a2 : decide ((s.length : Int) ≤ (8 : Int)) = decide (s.length ≤ 8) := by rw [decide_eq_decide]; omega
  simp only [nmOk]
  by_cases h1 : 1 ≤ s.length <;> by_cases h2 : s.length ≤ 8 <;> simp [-Array.all_toList, f_is_name, b_is_name, isi_str, hl, c_name c s h, xAll_bls, nmOk, h1, h2, a1, a2]
def foS (F : Fo) (s : Slot) : Prop := s = .va (.sh (.dct (foK F))) ∨ s = .vw (.dct (shk (foK F)))
theorem ring_in (c : Cs) (F : Fo) (r : Str → Nat) (w : Rk F r) (hl : F.length < 100) (s : Slot) (hs : foS F s) (Z : List Str) (n : Str) (hn : n ∈ nms F) (y : Slot) :
    Run (l_has_ring_0 c [s, .va (.dct (shk (trK Z))), .va (.sh (.str n)), .va (.dct (shk (trK [])))]) fun o => ∃ P x, o = .nx [s, .va (.dct (shk (trK Z))), .va (.sh x), .va (.dct (shk (trK P)))] ∧ P.length ≤ 100 := by
  refine Run_while (n := F.length) (fun k e => ∃ (o : Option Str) (P : List Str), e = [s, .va (.dct (shk (trK Z))), .va (.sh (parD o)), .va (.dct (shk (trK P)))] ∧ P.length + k ≤ 100 ∧ ∀ m, o = some m → m ∈ nms F ∧ r m < k ∧ ∀ p ∈ P, r m < r p) ?_ (by unfold fuel; omega) ⟨some n, [], rfl, by simp; omega, fun m e => by cases e; exact ⟨hn, w.lt _ hn, by simp⟩⟩
  rintro k e ⟨o, P, rfl, hP, ho⟩
  cases o with
  | none =>
    refine ⟨false, [s, .va (.dct (shk (trK Z))), .va (.sh .non), .va (.dct (shk (trK P)))], by simp, fun _ => ⟨P, _, rfl, by omega⟩, by simp⟩
  | some m =>
    obtain ⟨hm, hk, hp⟩ := ho m rfl
    refine ⟨!decide (m ∈ Z), [s, .va (.dct (shk (trK Z))), .va (.sh (.str m)), .va (.dct (shk (trK P)))], by simp, fun _ => ⟨P, _, rfl, by omega⟩, fun _ => ?_⟩
    have hmP : m ∉ P := fun h => by have := hp m h; omega
    have hPl : P.length < 16777216 := by omega
    refine Run_of (o := .nx [s, .va (.dct (shk (trK Z))), .va (.sh (parD (par F m))), .va (.dct (shk (trK (P ++ [m]))))]) ?_ ?_
    · have hput : pk (shk (trK P)) (.inr m) (.sh (.bl true)) = shk (trK (P ++ [m])) := by rw [pk_shk, pk_tr, if_neg hmP]
      rcases hs with rfl | rfl <;> simp [hmP, hPl, hput, lk_par hm]
    · refine ⟨k - 1, by omega, par F m, P ++ [m], rfl, by simp; omega, fun q hq => ?_⟩
      obtain ⟨h1, h2⟩ := w.par hm hq
      refine ⟨h1, by omega, fun p hpp => ?_⟩
      rcases List.mem_append.mp hpp with h | h
      · have := hp p h; omega
      · simp at h; subst h; exact h2
theorem ring_ok (c : Cs) (F : Fo) (w : Wf F) (hl : F.length < 100) (s : Slot) (hs : foS F s) : f_has_ring c [s] = .ret (.sh (.bl false)) none := by
  obtain ⟨r, hr⟩ := w.rank
  have : Ret (f_has_ring c [s]) (fun t m => t = .sh (.bl false) ∧ m = none) := by
    apply Ret_body
    refine Run_nx (e1 := [s, .va (.dct (shk (trK []))), .un, .un]) (by simp [trK, shk]) ?_
    apply Run_seq
    refine Run_for (fun ds e => ∃ (Z l2 : List Str) (x y : Slot), e = [s, .va (.dct (shk (trK Z))), x, y] ∧ isM x = false ∧ isM y = false ∧ ds = sts l2 ∧ (∀ n ∈ l2, n ∈ nms F) ∧ Z.length + 100 * l2.length ≤ 10000) (ds := sts (nms F)) (e0 := [s, .va (.dct (shk (trK []))), .un, .un]) ?_ ?_ ?_ ?_
    · rcases hs with rfl | rfl <;> simp
    · exact ⟨[], nms F, .un, .un, rfl, rfl, rfl, rfl, fun _ h => h, by simp; omega⟩
    · rintro d q e ⟨Z, l2, x, y, rfl, hx, hy, hd, hm, hZ⟩
      obtain ⟨n, l3, rfl, rfl, rfl⟩ : ∃ n l3, l2 = n :: l3 ∧ d = .str n ∧ q = sts l3 := by
        cases l2 with
        | nil => cases hd
        | cons n l3 => simp at hd; exact ⟨n, l3, rfl, hd.1, hd.2⟩
      refine ⟨[s, .va (.dct (shk (trK Z))), .va (.sh (.str n)), y], by simp [hx], ?_⟩
      refine Run_nx (e1 := [s, .va (.dct (shk (trK Z))), .va (.sh (.str n)), .va (.dct (shk (trK [])))]) (by simp [hy, trK, shk]) ?_
      apply Run_seq
      refine Run_mono (ring_in c F r hr hl s hs Z n (hm n List.mem_cons_self) y) ?_
      rintro o ⟨P, x', rfl, hP⟩
      simp only [List.length_cons] at hZ
      obtain ⟨Z', h1, h2⟩ := gUpdate_tr Z P (by show _ ≤ 16777216; omega)
      refine Run_of (o := .nx [s, .va (.dct (shk (trK Z'))), .va (.sh x'), .va (.sh (.dct (trK P)))]) (by simp [h1]) ?_
      exact ⟨Z', l3, _, _, rfl, rfl, rfl, rfl, fun n hn => hm n (List.mem_cons_of_mem _ hn), by omega⟩
    · rintro e ⟨Z, l2, x, y, rfl, hx, hy, -⟩
      exact Run_of (o := .rt (.sh (.bl false)) [s, .va (.dct (shk (trK Z))), x, y]) (by simp) (Ret_of (by rcases hs with rfl | rfl <;> simp) ⟨rfl, rfl⟩)
  obtain ⟨t, m, h, rfl, rfl⟩ := this
  exact h
def pathsT (S : Fo) : List (Key × T) := (nms S).map fun n => (.inr n, .lst (shs (sts (way S n))))
def pathsD (S : Fo) : List (Key × D) := (nms S).map fun n => (.inr n, .lst (sts (way S n)))
abbrev grT (c : Cs) (S : Fo) : T := .ins c.Groups [("parent_of", .sh (.dct (foK S))), ("paths", .dct (pathsT S))]
abbrev grD (c : Cs) (S : Fo) : D := .ins c.Groups [("parent_of", .dct (foK S)), ("paths", .dct (pathsD S))]
@[simp] theorem attrT_ins (C : Addr) (f : Str) (v : Val) (fs : List (Str × T)) : attrT C f v (.ins C fs) = (lk fs f).bind (subV v (.fld f)) := by
  simp only [attrT, if_true]
  cases lk fs f with
  | none => rfl
  | some t => cases t <;> cases v <;> rfl
@[simp] theorem attrT_sh (C : Addr) (f : Str) (v : Val) (fs : List (Str × D)) : attrT C f v (.sh (.ins C fs)) = (lk fs f).map fun d => .tv (.sh d) := by simp [attrT]
theorem way_loop_mp (c : Cs) (F : Fo) (w : Wf F) (hl : F.length < 900) (n : Str) (hn : n ∈ nms F) :
    Run (l_Groups_made_path_0 c [.vw (.ins c.Groups [("parent_of", .sh (.dct (foK F)))]), .va (.sh (.str n)), .va (.lst (shs (sts [])))]) fun o => o = .nx [.vw (.ins c.Groups [("parent_of", .sh (.dct (foK F)))]), .va (.sh .non), .va (.lst (shs (sts (way F n))))] := by
  obtain ⟨r, hr⟩ := w.rank
  refine Run_while (n := F.length) (fun k e => ∃ (o : Option Str) (P : List Str), e = [.vw (.ins c.Groups [("parent_of", .sh (.dct (foK F)))]), .va (.sh (parD o)), .va (.lst (shs (sts P)))] ∧ P.length + k ≤ 900 ∧ P ++ wayO F o = way F n ∧ ∀ m, o = some m → m ∈ nms F ∧ r m < k) ?_ (by unfold fuel; omega) ⟨some n, [], rfl, by simp; omega, by simp, fun m e => by cases e; exact ⟨hn, hr.lt _ hn⟩⟩
  rintro k e ⟨o, P, rfl, hP, hw, ho⟩
  cases o with
  | none =>
    refine ⟨false, _, by simp; rfl, fun _ => ?_, by simp⟩
    simp at hw
    simp [hw]
  | some m =>
    obtain ⟨hm, hk⟩ := ho m rfl
    refine ⟨true, _, by simp; rfl, by simp, fun _ => ?_⟩
    have hPl : P.length < 16777216 := by omega
    refine Run_of (o := .nx [.vw (.ins c.Groups [("parent_of", .sh (.dct (foK F)))]), .va (.sh (parD (par F m))), .va (.lst (shs (sts (P ++ [m]))))]) ?_ ?_
    · simp [hPl, lk_par hm]
    · refine ⟨k - 1, by omega, par F m, P ++ [m], rfl, by simp; omega, ?_, fun q hq => ?_⟩
      · rw [← hw, wayO_some, way_cons w hm]; simp
      · obtain ⟨h1, h2⟩ := hr.par hm hq
        exact ⟨h1, by omega⟩
theorem made_path_ok (c : Cs) (F : Fo) (w : Wf F) (hl : F.length < 900) (n : Str) (hn : n ∈ nms F) :
    f_Groups_made_path c [.vw (.ins c.Groups [("parent_of", .sh (.dct (foK F)))]), .va (.sh (.str n))] = .ret (.lst (shs (sts (way F n)))) none := by
  obtain ⟨o, h, rfl⟩ := way_loop_mp c F w hl n hn
  simp [shs, sts] at h
  simp [f_Groups_made_path, b_Groups_made_path, h]
  simp [shs, sts]
theorem vals_foK (F : Fo) : (foK F).map (·.2) = F.map fun q => parD q.2 := by simp [foK, List.map_map, Function.comp_def]
@[simp] theorem valsT_sh (kds) : valsT (.sh (.dct kds)) = some (kds.map (·.2)) := rfl
@[simp] theorem valsT_shk (kds) : valsT (.dct (shk kds)) = some (kds.map (·.2)) := by simp [valsT]
theorem gi0 (c : Cs) (F : Fo) (s : Slot) (hs : foS F s) (u : Slot) (hn : ∀ n ∈ nms F, n.length ≤ sizeLine) (hl : F.length < 900) :
    c_Groups___init_0 c [u, s, .un, .un] = .ok (.tv (.lst ((nms F).map fun n => .sh (.bl (nmOk n)))), [u, s, .un, .un]) := by
  refine mLc_map D.str (fun n => [u, s, .va (.sh (.str n)), .un]) _ ?_ ?_ ?_ ?_
  · rcases hs with rfl | rfl <;> simp [sts]
  · simp
  · simp; omega
  · intro n hm
    simp [name_str c n (hn n hm)]
def parOk (F : Fo) (o : Option Str) : Bool := match o with
  | none => true
  | some m => nmOk m && decide (m ∈ nms F)
theorem gi1 (c : Cs) (F : Fo) (s : Slot) (hs : foS F s) (u : Slot) (hn : ∀ q ∈ F, ∀ m, q.2 = some m → m.length ≤ sizeLine) (hl : F.length < 900) :
    c_Groups___init_1 c [u, s, .un, .un] = .ok (.tv (.lst (F.map fun q => .sh (.bl (parOk F q.2)))), [u, s, .un, .un]) := by
  refine mLc_map (fun q => parD q.2) (fun q => [u, s, .un, .va (.sh (parD q.2))]) _ ?_ ?_ ?_ ?_
  · rcases hs with rfl | rfl <;> simp [vals_foK]
  · simp
  · simp; omega
  · rintro ⟨n, o⟩ hm
    cases o with
    | none => simp [parOk]
    | some m =>
      have := name_str c m (hn _ hm m rfl)
      by_cases h1 : nmOk m = true <;> rcases hs with rfl | rfl <;> simp [parOk, this, h1]
theorem gi2 (c : Cs) (F : Fo) (nd : (nms F).Nodup) (s : Slot) (hs : foS F s) (u : Slot) (hl : F.length < 64) :
    c_Groups___init_2 c [u, s, .un, .un] = .ok (.tv (.dct (shk (foK (srF F)))), [u, s, .un, .un]) := by
  have : shk (foK (srF F)) = (srt (nms F)).map fun n => ((.inr n : Key), T.sh (parD (par F n))) := by simp [shk, foK, srF, List.map_map, Function.comp_def]
  rw [this]
  have x1 := ySorted_shd (foK_keys F) (by simp; omega)
  have x2 := ySorted_dct (ts := shk (foK F)) (by rw [shk_keys, foK_keys]) (by simp; omega)
  refine mDc_map D.str (fun n => [u, s, .va (.sh (.str n)), .un]) (fun n => .inr n) _ ?_ ?_ ?_ ?_ ?_
  · rcases hs with rfl | rfl
    · simp [x1]; simp [sts]
    · simp [x2]; simp [sts]
  · simp
  · simp; omega
  · exact inr_nodup (srt_nodup.mpr nd)
  · intro n hm
    have hm := srt_mem.mp hm
    rcases hs with rfl | rfl <;> simp [lk_par hm, keyT]
theorem gi3 (c : Cs) (S : Fo) (w : Wf S) (s : Slot) (hl : S.length < 64) :
    c_Groups___init_3 c [.mu (.ins c.Groups [("parent_of", .dct (shk (foK S)))]), s, .un, .un] = .ok (.tv (.dct (pathsT S)), [.mu (.ins c.Groups [("parent_of", .sh (.dct (foK S)))]), s, .un, .un]) := by
  refine mDc_map D.str (fun n => [.mu (.ins c.Groups [("parent_of", .sh (.dct (foK S)))]), s, .va (.sh (.str n)), .un]) (fun n => .inr n) (fun n => .lst (shs (sts (way S n)))) ?_ ?_ ?_ ?_ ?_
  · simp [sts]
    done
  · simp
  · simp; omega
  · exact inr_nodup w.nd
  · intro n hm
    simp [keyT, made_path_ok c S w (by omega) n hm]
theorem all_true {α : Type} (l : List α) (f : α → Bool) (h : ∀ a ∈ l, f a = true) : l.all f = true := List.all_eq_true.mpr h
theorem nm_len {s : Str} (h : nmOk s = true) : s.length ≤ sizeLine := by
  simp only [nmOk, Bool.and_eq_true, decide_eq_true_eq] at h
  have := h.1.2
  show _ ≤ 16777216
  omega
def NmF (F : Fo) : Prop := ∀ n ∈ nms F, nmOk n = true
theorem init_ok (c : Cs) (F : Fo) (w : Wf F) (hn : NmF F) (hl : F.length < 64) (s : Slot) (hs : foS F s) :
    f_Groups___init c [.mu (.ins c.Groups []), s] = .ret (.sh .non) (some (grT c (srF F))) := by
  have hm : ∀ q ∈ F, ∀ m, q.2 = some m → m ∈ nms F := by
    obtain ⟨r, hr⟩ := w.rank
    rintro ⟨n, o⟩ hq m rfl
    exact (hr.up n m hq).1
  have g0 := gi0 c F s hs (.mu (.ins c.Groups [])) (fun n h => nm_len (hn n h)) (by omega)
  have g1 := gi1 c F s hs (.mu (.ins c.Groups [])) (fun q hq m e => nm_len (hn m (hm q hq m e))) (by omega)
  have g2 := gi2 c F w.nd s hs (.mu (.ins c.Groups [])) hl
  have g3 := gi3 c (srF F) w.sr s (by simpa using hl)
  have g3' : c_Groups___init_3 c [.mu (.ins c.Groups [("parent_of", .dct (shk (foK (srF F))))]), s, .un, .un] = .ok (.tv (.dct (pathsT (srF F))), [.mu (.ins c.Groups [("parent_of", .sh (.dct (foK (srF F))))]), s, .un, .un]) := g3
  have a0 : (nms F).all nmOk = true := all_true _ _ hn
  have a1 : F.all (fun q => parOk F q.2) = true := all_true _ _ fun q hq => by
    rcases q with ⟨n, o⟩
    cases o with
    | none => rfl
    | some m => simp only [parOk, hn m (hm _ hq m rfl), hm _ hq m rfl, decide_true, Bool.and_self]
  rcases hs with rfl | rfl <;> simp [f_Groups___init, b_Groups___init, isi_dictD, isi_dictT, g0, g1, xAll_bls, a0, a1, ring_ok c F w (by omega) _ (.inl rfl), ring_ok c F w (by omega) _ (.inr rfl), g2, g3']
def grS (c : Cs) (S : Fo) (s : Slot) : Prop := s = .va (.sh (grD c S)) ∨ s = .vw (grT c S)
theorem parents_ok (c : Cs) (S : Fo) (nd : (nms S).Nodup) (s : Slot) (hs : grS c S s) : f_Groups_parents c [s] = .ret (.dct (shk (foK S))) none := by
  rcases hs with rfl | rfl <;> simp [f_Groups_parents, b_Groups_parents, oDictD_sh (foK_nodup nd)]
theorem check_ok (c : Cs) (S : Fo) (n : Str) (hn : n ∈ nms S) (s : Slot) (hs : grS c S s) : f_Groups_check c [s, .va (.sh (.str n))] = .ret (.sh .non) none := by
  rcases hs with rfl | rfl <;> simp [f_Groups_check, b_Groups_check, isi_str, hn]
theorem lk_pathsD {S : Fo} {n : Str} (hn : n ∈ nms S) : lk (pathsD S) (.inr n) = some (.lst (sts (way S n))) := by
  unfold pathsD
  generalize nms S = l at hn ⊢
  induction l with
  | nil => cases hn
  | cons m r ih =>
    simp only [List.map_cons, lk_cons]
    by_cases h : m = n
    · subst h; simp
    · rw [if_neg (fun e => h (Sum.inr.inj e)), ih ((List.mem_cons.mp hn).resolve_left (fun e => h e.symm))]
theorem lk_pathsT {S : Fo} {n : Str} (hn : n ∈ nms S) : lk (pathsT S) (.inr n) = some (.lst (shs (sts (way S n)))) := by
  unfold pathsT
  generalize nms S = l at hn ⊢
  induction l with
  | nil => cases hn
  | cons m r ih =>
    simp only [List.map_cons, lk_cons]
    by_cases h : m = n
    · subst h; simp
    · rw [if_neg (fun e => h (Sum.inr.inj e)), ih ((List.mem_cons.mp hn).resolve_left (fun e => h e.symm))]
theorem path_ok (c : Cs) (S : Fo) (n : Str) (hn : n ∈ nms S) (s : Slot) (hs : grS c S s) : f_Groups_path c [s, .va (.sh (.str n))] = .ret (.lst (shs (sts (way S n)))) none := by
  have h1 := check_ok c S n hn _ (.inl rfl)
  have h2 := check_ok c S n hn _ (.inr rfl)
  rcases hs with rfl | rfl <;> simp [f_Groups_path, b_Groups_path, h1, h2, lk_pathsD hn, lk_pathsT hn]
def nmD : D → Bool
  | .str s => nmOk s
  | _ => false
def TxOk (d : D) : Prop := ∀ s, d = .str s → s.length ≤ sizeLine
def Pl : D → Prop
  | .ins _ _ => False
  | .exn _ _ _ => False
  | .scr _ => False
  | _ => True
section
variable (c : Cs)
theorem isi_non {d : D} (hp : Pl d) (hs : ∀ s, d ≠ .str s) : oIsi tb_str (ic_str c) [.sh d] = some (.sh (.bl false)) := by
  cases d <;> first | exact hp.elim | rfl | exact absurd rfl (hs _)
theorem isd_non {d : D} (hp : Pl d) (hs : ∀ kvs, d ≠ .dct kvs) : oIsi tb_dict (ic_dict c) [.sh d] = some (.sh (.bl false)) := by
  cases d <;> first | exact hp.elim | rfl | exact absurd rfl (hs _)
theorem name_any (d : D) (h : TxOk d) (hp : Pl d) : f_is_name c [.va (.sh d)] = .ret (.sh (.bl (nmD d))) none := by
  by_cases e : ∃ s, d = .str s
  · obtain ⟨s, rfl⟩ := e
    exact name_str c s (h s rfl)
  · have hn : nmD d = false := by
      cases d <;> first | rfl | exact absurd ⟨_, rfl⟩ e
    have := isi_non c hp (fun s z => e ⟨s, z⟩)
    rw [hn]
    simp [f_is_name, b_is_name, this]
theorem kDs_map (l : List Key) : DL.kDs l = l.map kD := by
  induction l with
  | nil => rfl
  | cons a r ih => simp only [List.map_cons, ← ih]; rfl
theorem pl_kD (k : Key) : Pl (kD k) := by cases k <;> trivial
theorem gi0D (kvs : List (Key × D)) (u : Slot) (hk : ∀ q ∈ kvs, TxOk (kD q.1)) (hl : kvs.length < 900) :
    c_Groups___init_0 c [u, .va (.sh (.dct kvs)), .un, .un] = .ok (.tv (.lst (kvs.map fun q => .sh (.bl (nmD (kD q.1))))), [u, .va (.sh (.dct kvs)), .un, .un]) := by
  refine mLc_map (fun q : Key × D => kD q.1) (fun q => [u, .va (.sh (.dct kvs)), .va (.sh (kD q.1)), .un]) _ ?_ ?_ ?_ ?_
  · simp [kDs_map, List.map_map, Function.comp_def]
  · simp
  · rw [PySem.sizeLine_eq]; omega
  · intro q hq
    have := name_any c (kD q.1) (hk q hq) (pl_kD _)
    refine ⟨by simp [wpE], by simp [wpE], by simp [rst], .tv (.sh (.bl (nmD (kD q.1)))), ?_, rfl⟩
    generalize kD q.1 = d at this
    simp [this]
def parD2 (kvs : List (Key × D)) : D → Bool
  | .non => true
  | .str s => nmOk s && hk kvs (.inr s)
  | _ => false
theorem gi1D (kvs : List (Key × D)) (u : Slot) (hv : ∀ q ∈ kvs, TxOk q.2 ∧ Pl q.2) (hl : kvs.length < 900) :
    c_Groups___init_1 c [u, .va (.sh (.dct kvs)), .un, .un] = .ok (.tv (.lst (kvs.map fun q => .sh (.bl (parD2 kvs q.2)))), [u, .va (.sh (.dct kvs)), .un, .un]) := by
  refine mLc_map (fun q : Key × D => q.2) (fun q => [u, .va (.sh (.dct kvs)), .un, .va (.sh q.2)]) _ ?_ ?_ ?_ ?_
  · simp
  · simp
  · rw [PySem.sizeLine_eq]; omega
  · intro q hq
    obtain ⟨h1, h2⟩ := hv q hq
    have := name_any c q.2 h1 h2
    refine ⟨by simp [wpE], by simp [wpE], by simp [rst], .tv (.sh (.bl (parD2 kvs q.2))), ?_, rfl⟩
    obtain ⟨k, d⟩ := q
    simp only at this ⊢
    cases d with
    | non => simp [parD2]
    | str s =>
      simp only [nmD] at this
      cases hn : nmOk s <;> rw [hn] at this <;> simp [parD2, this, hn]
    | bl b => simp only [nmD] at this; simp [parD2, this]
    | int i => simp only [nmD] at this; simp [parD2, this]
    | lst l => simp only [nmD] at this; simp [parD2, this]
    | tup l => simp only [nmD] at this; simp [parD2, this]
    | dct l => simp only [nmD] at this; simp [parD2, this]
    | ins C fs => exact h2.elim
    | exn C b fs => exact h2.elim
    | scr ns => exact h2.elim
theorem grp_nodict {d : D} (hp : Pl d) (hd : ∀ kvs, d ≠ .dct kvs) : f_Groups___init c [.mu (.ins c.Groups []), .va (.sh d)] = .exc ⟨c.InvalidGroups, none⟩ (some (.ins c.Groups [])) := by
  have := isd_non c hp hd
  simp [f_Groups___init, b_Groups___init, this]
theorem isd_dct (kvs : List (Key × D)) : oIsi tb_dict (ic_dict c) [.sh (.dct kvs)] = some (.sh (.bl true)) := rfl
theorem grp_bad (kvs : List (Key × D)) (hk : ∀ q ∈ kvs, TxOk (kD q.1)) (hv : ∀ q ∈ kvs, TxOk q.2 ∧ Pl q.2) (hl : kvs.length < 900) (hb : (kvs.all fun q => nmD (kD q.1)) = false ∨ (kvs.all fun q => parD2 kvs q.2) = false) :
    f_Groups___init c [.mu (.ins c.Groups []), .va (.sh (.dct kvs))] = .exc ⟨c.InvalidGroups, none⟩ (some (.ins c.Groups [])) := by
  have g0 := gi0D c kvs (.mu (.ins c.Groups [])) hk hl
  have g1 := gi1D c kvs (.mu (.ins c.Groups [])) hv hl
  have i1 := isd_dct c kvs
  have a0 : xAll [.lst (kvs.map fun q => .sh (.bl (nmD (kD q.1))))] = some (.sh (.bl (kvs.all fun q => nmD (kD q.1)))) := xAll_bls _ _
  have a1 : xAll [.lst (kvs.map fun q => .sh (.bl (parD2 kvs q.2)))] = some (.sh (.bl (kvs.all fun q => parD2 kvs q.2))) := xAll_bls _ _
  generalize (kvs.map fun q => (T.sh (.bl (nmD (kD q.1))))) = L0 at g0 a0
  generalize (kvs.map fun q => (T.sh (.bl (parD2 kvs q.2)))) = L1 at g1 a1
  cases h0 : (kvs.all fun q => nmD (kD q.1)) with
  | false =>
    rw [h0] at a0
    simp [f_Groups___init, b_Groups___init, i1, g0, a0]
  | true =>
    rw [h0] at a0
    have h1 : (kvs.all fun q => parD2 kvs q.2) = false := hb.resolve_left (by rw [h0]; simp)
    rw [h1] at a1
    simp [f_Groups___init, b_Groups___init, i1, g0, a0, g1, a1]
theorem grp_names : ∀ (kvs ls : List (Key × D)), (kvs.all fun q => nmD (kD q.1)) = true → (kvs.all fun q => parD2 ls q.2) = true → ∃ F : Fo, kvs = foK F ∧ NmF F ∧ ∀ q ∈ F, ∀ m, q.2 = some m → nmOk m = true ∧ hk ls (.inr m) = true
  | [], _, _, _ => ⟨[], rfl, (fun n hn => by cases hn), (fun q hq => by cases hq)⟩
  | (k, d) :: r, ls, h0, h1 => by
    simp only [List.all_cons, Bool.and_eq_true] at h0 h1
    obtain ⟨F, rfl, a, b⟩ := grp_names r ls h0.2 h1.2
    obtain ⟨n, rfl, hn⟩ : ∃ n, k = .inr n ∧ nmOk n = true := by
      cases k with
      | inl i => simp [kD, nmD] at h0
      | inr n => exact ⟨n, rfl, h0.1⟩
    obtain ⟨o, rfl, ho⟩ : ∃ o, d = parD o ∧ ∀ m, o = some m → nmOk m = true ∧ hk ls (.inr m) = true := by
      cases d with
      | non => exact ⟨none, rfl, fun m hm => by cases hm⟩
      | str s =>
        have h := h1.1
        simp only [parD2, Bool.and_eq_true] at h
        exact ⟨some s, rfl, fun m hm => by cases hm; exact h⟩
      | _ => simp [parD2] at h1
    refine ⟨(n, o) :: F, by simp [foK], ?_, ?_⟩
    · intro m hm
      simp only [nms, List.map_cons, List.mem_cons] at hm
      rcases hm with rfl | hm
      · exact hn
      · exact a m hm
    · intro q hq m hm
      rcases List.mem_cons.mp hq with rfl | hq
      · exact ho m hm
      · exact b q hq m hm
end
inductive Up (F : Fo) : Nat → Option Str → Prop
  | top : Up F 0 none
  | one {k n} : n ∈ nms F → Up F k (par F n) → Up F (k + 1) (some n)
theorem Up.eq {F : Fo} : ∀ {k j : Nat} {o : Option Str}, Up F k o → Up F j o → k = j
  | _, _, _, .top, .top => rfl
  | _, _, _, .one _ h, .one _ h' => by rw [Up.eq h h']
theorem Up.list {F : Fo} : ∀ {k : Nat} {o : Option Str}, Up F k o → ∃ L : List Str, L.length = k ∧ L.Nodup ∧ ∀ x ∈ L, x ∈ nms F ∧ ∃ j, j ≤ k ∧ Up F j (some x)
  | _, _, .top => ⟨[], rfl, List.nodup_nil, fun x hx => by cases hx⟩
  | _, _, .one (k := k) (n := n) hn h => by
    obtain ⟨L, h1, h2, h3⟩ := Up.list h
    refine ⟨n :: L, by simp [h1], List.nodup_cons.mpr ⟨fun hm => ?_, h2⟩, fun x hx => ?_⟩
    · obtain ⟨_, j, hj, hu⟩ := h3 n hm
      have := Up.eq hu (.one hn h)
      omega
    · rcases List.mem_cons.mp hx with rfl | hx
      · exact ⟨hn, k + 1, Nat.le_refl _, .one hn h⟩
      · obtain ⟨a, j, hj, hu⟩ := h3 x hx
        exact ⟨a, j, by omega, hu⟩
theorem Up.le {F : Fo} {k : Nat} {o : Option Str} (h : Up F k o) : k ≤ F.length := by
  obtain ⟨L, h1, h2, h3⟩ := h.list
  have := List.Nodup.length_le_of_subset h2 fun x hx => (h3 x hx).1
  rw [nms_length] at this
  omega
open Classical in
theorem wf_of_up {F : Fo} (nd : (nms F).Nodup) (h : ∀ n ∈ nms F, ∃ k, Up F k (some n)) : Wf F := by
  refine ⟨nd, fun n => if hn : ∃ k, Up F (k + 1) (some n) then hn.choose else 0, fun n hn => ?_, fun n m hm => ?_⟩
  · obtain ⟨k, hk⟩ := h n hn
    cases hk with
    | @one k _ h1 h2 =>
    have he : ∃ k, Up F (k + 1) (some n) := ⟨k, .one h1 h2⟩
    simp only [he, dif_pos]
    have := he.choose_spec.le
    omega
  · have hn : n ∈ nms F := List.mem_map.mpr ⟨_, hm, rfl⟩
    have hp : par F n = some m := par_mem nd hm
    obtain ⟨k, hk⟩ := h n hn
    cases hk with
    | @one k _ h1 h2 =>
    rw [hp] at h2
    cases h2 with
    | @one k' _ h3 h4 =>
    have e1 : ∃ k, Up F (k + 1) (some n) := ⟨k' + 1, .one h1 (by rw [hp]; exact .one h3 h4)⟩
    have e2 : ∃ k, Up F (k + 1) (some m) := ⟨k', .one h3 h4⟩
    refine ⟨h3, ?_⟩
    simp only [e1, e2, dif_pos]
    have a := Up.eq e1.choose_spec (.one h1 (by rw [hp]; exact .one h3 h4) : Up F (k' + 1 + 1) (some n))
    have b := Up.eq e2.choose_spec (.one h3 h4 : Up F (k' + 1) (some m))
    omega
theorem up_of_wf {F : Fo} (w : Wf F) : ∀ n ∈ nms F, ∃ k, Up F k (some n) := by
  obtain ⟨r, hr⟩ := w.rank
  intro n
  induction h : r n using Nat.strongRecOn generalizing n with
  | _ k ih =>
    intro hn
    cases hp : par F n with
    | none => exact ⟨1, .one hn (by rw [hp]; exact .top)⟩
    | some p =>
      obtain ⟨a, b⟩ := hr.par hn hp
      obtain ⟨j, hj⟩ := ih (r p) (by omega) p rfl a
      exact ⟨j + 1, .one hn (by rw [hp]; exact hj)⟩
theorem mergeT_mem : ∀ (P Z : List Str), ∃ Z', (trK P).foldl (fun m q => DL.pk m q.1 (.sh q.2)) (shk (trK Z)) = shk (trK Z') ∧ Z'.length ≤ Z.length + P.length ∧ ∀ z ∈ Z', z ∈ Z ∨ z ∈ P
  | [], Z => ⟨Z, rfl, by simp, fun z hz => .inl hz⟩
  | p :: P, Z => by
    have e : DL.pk (shk (trK Z)) (.inr p) (.sh (.bl true)) = shk (trK (if p ∈ Z then Z else Z ++ [p])) := by rw [pk_shk, pk_tr]
    obtain ⟨Z', h, hl, hm⟩ := mergeT_mem P (if p ∈ Z then Z else Z ++ [p])
    refine ⟨Z', ?_, ?_, fun z hz => ?_⟩
    · rw [← h, ← e]; rfl
    · simp only [List.length_cons]; split at hl <;> (try simp only [List.length_append, List.length_singleton] at hl) <;> omega
    · rcases hm z hz with h | h
      · split at h
        · exact .inl h
        · rcases List.mem_append.mp h with h | h
          · exact .inl h
          · simp at h; subst h; exact .inr (by simp)
      · exact .inr (List.mem_cons_of_mem _ h)
theorem gUpdate_mem (Z P : List Str) (h : Z.length + P.length ≤ sizeLine) : ∃ Z', gUpdate (.dct (shk (trK Z))) [.sh (.dct (trK P))] = some (.dct (shk (trK Z')), .sh .non) ∧ Z'.length ≤ Z.length + P.length ∧ ∀ z ∈ Z', z ∈ Z ∨ z ∈ P := by
  obtain ⟨Z', e, hl, hm⟩ := mergeT_mem P Z
  refine ⟨Z', ?_, hl, hm⟩
  obtain ⟨Z2, e2, _⟩ := mergeT_tr P Z
  simp only [gUpdate, shk_length, trK_length, h, if_true]
  first | rw [e] | (rw [e2]; rw [← e, ← e2])
  try rfl
section
variable (c : Cs) (F : Fo) (hcl : ∀ q ∈ F, ∀ m, q.2 = some m → m ∈ nms F) (hl : F.length < 100)
include hcl hl
theorem ring2_in (Z : List Str) (hZ : ∀ z ∈ Z, ∃ k, Up F k (some z)) (n : Str) (hn : n ∈ nms F) :
    Run (l_has_ring_0 c [.va (.sh (.dct (foK F))), .va (.dct (shk (trK Z))), .va (.sh (.str n)), .va (.dct (shk (trK [])))]) fun o =>
      (∃ P x, o = .nx [.va (.sh (.dct (foK F))), .va (.dct (shk (trK Z))), .va (.sh x), .va (.dct (shk (trK P)))] ∧ P.length ≤ 100 ∧ (∀ p ∈ P, ∃ k, Up F k (some p)) ∧ ∃ k, Up F k (some n)) ∨
      (∃ e, o = .rt (.sh (.bl true)) e ∧ e.head? = some (.va (.sh (.dct (foK F)))) ∧ ¬ ∃ k, Up F k (some n)) := by
  let s : Slot := .va (.sh (.dct (foK F)))
  let E : Option Str → List Str → DL.Env := fun o P => [s, .va (.dct (shk (trK Z))), .va (.sh (parD o)), .va (.dct (shk (trK P)))]
  refine Run_while (n := F.length + 1) (fun k e => ∃ (o : Option Str) (P : List Str), e = E o P ∧ P.Nodup ∧ (∀ p ∈ P, p ∈ nms F) ∧ P.length + k = F.length + 1 ∧ (∀ m, o = some m → m ∈ nms F) ∧
      (∀ k, Up F k o → ∀ p ∈ P, ∃ j, k < j ∧ Up F j (some p)) ∧ (∀ k, Up F k o → ∃ j, Up F j (some n)) ∧ ((∃ k, Up F k (some n)) → ∃ k, Up F k o)) ?_ (by unfold fuel; omega) ⟨some n, [], rfl, List.nodup_nil, (fun p hp => by cases hp), by simp, (fun m e => by cases e; exact hn), (fun k h p hp => by cases hp), (fun k h => ⟨k, h⟩), id⟩
  rintro k e ⟨o, P, rfl, nd, hP, hk, ho, i1, i2, i3⟩
  have pl : P.length ≤ F.length := by
    have := List.Nodup.length_le_of_subset nd hP
    rwa [nms_length] at this
  cases o with
  | none =>
    refine ⟨false, E none P, by simp [E, s], fun _ => .inl ⟨P, _, rfl, by omega, fun p hp => ?_, i2 0 .top⟩, by simp⟩
    obtain ⟨j, _, h⟩ := i1 0 .top p hp
    exact ⟨j, h⟩
  | some m =>
    have hm := ho m rfl
    refine ⟨!decide (m ∈ Z), E (some m) P, by simp [E, s], fun hz => .inl ⟨P, _, rfl, by omega, ?_⟩, fun hz => ?_⟩
    · have hz : m ∈ Z := by simpa using hz
      obtain ⟨k0, h0⟩ := hZ m hz
      refine ⟨fun p hp => ?_, i2 k0 h0⟩
      obtain ⟨j, _, h⟩ := i1 k0 h0 p hp
      exact ⟨j, h⟩
    · have hz : m ∉ Z := by simpa using hz
      by_cases hmP : m ∈ P
      · refine Run_of (o := .rt (.sh (.bl true)) (E (some m) P)) (by simp [E, s, hmP]) (.inr ⟨_, rfl, rfl, fun hu => ?_⟩)
        obtain ⟨k0, h0⟩ := i3 hu
        obtain ⟨j, hj, h1⟩ := i1 k0 h0 m hmP
        have := Up.eq h0 h1
        omega
      · have hPl : P.length < 16777216 := by omega
        have hput : pk (shk (trK P)) (.inr m) (.sh (.bl true)) = shk (trK (P ++ [m])) := by rw [pk_shk, pk_tr, if_neg hmP]
        have hlt : P.length < F.length := by
          have := List.Nodup.length_le_of_subset (List.nodup_append.mpr ⟨nd, (by simp), fun a ha b hb z => by simp at hb; subst hb; subst z; exact hmP ha⟩ : (P ++ [m]).Nodup) fun x hx => by
            rcases List.mem_append.mp hx with h | h
            · exact hP x h
            · simp at h; subst h; exact hm
          rw [nms_length] at this
          simp at this; omega
        refine Run_of (o := .nx (E (par F m) (P ++ [m]))) (by simp [E, s, hmP, hPl, hput, lk_par hm]) ?_
        refine ⟨k - 1, by omega, par F m, P ++ [m], rfl, List.nodup_append.mpr ⟨nd, (by simp), fun a ha b hb z => by simp at hb; subst hb; subst z; exact hmP ha⟩, fun x hx => ?_, by simp; omega, fun q hq => ?_, fun k0 h0 p hp => ?_, fun k0 h0 => i2 (k0 + 1) (.one hm h0), fun hu => ?_⟩
        · rcases List.mem_append.mp hx with h | h
          · exact hP x h
          · simp at h; subst h; exact hm
        · have h1 : (m, some q) ∈ F := lk_mm (by rw [lk_par hm, hq])
          exact hcl _ h1 q rfl
        · rcases List.mem_append.mp hp with h | h
          · obtain ⟨j, hj, h1⟩ := i1 (k0 + 1) (.one hm h0) p h
            exact ⟨j, by omega, h1⟩
          · simp at h; subst h; exact ⟨k0 + 1, by omega, .one hm h0⟩
        · obtain ⟨k0, h0⟩ := i3 hu
          cases h0 with
          | @one k1 _ _ h1 => exact ⟨k1, h1⟩
theorem has_ring_ok : Ret (f_has_ring c [.va (.sh (.dct (foK F)))]) fun t m => m = none ∧ ((t = .sh (.bl false) ∧ ∀ n ∈ nms F, ∃ k, Up F k (some n)) ∨ (t = .sh (.bl true) ∧ ∃ n ∈ nms F, ¬ ∃ k, Up F k (some n))) := by
  let s : Slot := .va (.sh (.dct (foK F)))
  apply Ret_body
  refine Run_nx (e1 := [s, .va (.dct (shk (trK []))), .un, .un]) (by simp [s, trK, shk]) ?_
  apply Run_seq
  refine Run_for (fun ds e => ∃ (Z l1 l2 : List Str) (x y : Slot), e = [s, .va (.dct (shk (trK Z))), x, y] ∧ isM x = false ∧ isM y = false ∧ ds = sts l2 ∧ nms F = l1 ++ l2 ∧ (∀ n ∈ l1, ∃ k, Up F k (some n)) ∧ (∀ z ∈ Z, ∃ k, Up F k (some z)) ∧ Z.length + 100 * l2.length ≤ 10000) (ds := sts (nms F)) (e0 := [s, .va (.dct (shk (trK []))), .un, .un]) ?_ ?_ ?_ ?_
  · simp [s]
  · exact ⟨[], [], nms F, .un, .un, rfl, rfl, rfl, rfl, rfl, (fun n hn => by cases hn), (fun z hz => by cases hz), by simp [nms_length]; omega⟩
  · rintro d q e ⟨Z, l1, l2, x, y, rfl, hx, hy, hd, hm, hu, hZ, hb⟩
    obtain ⟨n, l3, rfl, rfl, rfl⟩ : ∃ n l3, l2 = n :: l3 ∧ d = .str n ∧ q = sts l3 := by
      cases l2 with
      | nil => cases hd
      | cons n l3 => simp at hd; exact ⟨n, l3, rfl, hd.1, hd.2⟩
    have hn : n ∈ nms F := by rw [hm]; simp
    refine ⟨[s, .va (.dct (shk (trK Z))), .va (.sh (.str n)), y], by simp [s, hx], ?_⟩
    refine Run_nx (e1 := [s, .va (.dct (shk (trK Z))), .va (.sh (.str n)), .va (.dct (shk (trK [])))]) (by simp [hy, trK, shk]) ?_
    apply Run_seq
    refine Run_mono (ring2_in c F hcl hl Z hZ n hn) ?_
    rintro o (⟨P, x', rfl, hP, hup, hun⟩ | ⟨e, rfl, he, hun⟩)
    · simp only [List.length_cons] at hb
      obtain ⟨Z', h1, h2, h3⟩ := gUpdate_mem Z P (by show _ ≤ 16777216; omega)
      refine Run_of (o := .nx [s, .va (.dct (shk (trK Z'))), .va (.sh x'), .va (.sh (.dct (trK P)))]) (by simp [h1, s]) ?_
      refine ⟨Z', l1 ++ [n], l3, _, _, rfl, rfl, rfl, rfl, by rw [hm]; simp, fun m hm' => ?_, fun z hz => ?_, by omega⟩
      · rcases List.mem_append.mp hm' with h | h
        · exact hu m h
        · simp at h; subst h; exact hun
      · rcases h3 z hz with h | h
        · exact hZ z h
        · exact hup z h
    · obtain ⟨a, r, rfl⟩ : ∃ a r, e = a :: r := by
        cases e with
        | nil => simp at he
        | cons a r => exact ⟨a, r, rfl⟩
      simp at he; subst he
      exact Ret_of (t := .sh (.bl true)) (m := none) (by simp) ⟨rfl, .inr ⟨rfl, n, hn, hun⟩⟩
  · rintro e ⟨Z, l1, l2, x, y, rfl, hx, hy, hd, hm, hu, -⟩
    have : l2 = [] := by cases l2 with | nil => rfl | cons _ _ => cases hd
    subst this
    rw [List.append_nil] at hm
    exact Run_of (o := .rt (.sh (.bl false)) [s, .va (.dct (shk (trK Z))), x, y]) (by simp [s]) (Ret_of (t := .sh (.bl false)) (m := none) (by simp [s]) ⟨rfl, .inl ⟨rfl, fun n hn => hu n (by rw [← hm]; exact hn)⟩⟩)
end
section
variable (c : Cs)
theorem grp_ring {F : Fo} (nd : (nms F).Nodup) (nm : NmF F) (hcl : ∀ q ∈ F, ∀ m, q.2 = some m → m ∈ nms F) (hl : F.length < 64) (hw : ¬ Wf F) : f_Groups___init c [.mu (.ins c.Groups []), .va (.sh (.dct (foK F)))] = .exc ⟨c.InvalidGroups, none⟩ (some (.ins c.Groups [])) := by
  have g0 := gi0 c F _ (.inl rfl) (.mu (.ins c.Groups [])) (fun n h => nm_len (nm n h)) (by omega)
  have g1 := gi1 c F _ (.inl rfl) (.mu (.ins c.Groups [])) (fun q hq m e => nm_len (nm m (hcl q hq m e))) (by omega)
  have a0 : (nms F).all nmOk = true := all_true _ _ nm
  have a1 : F.all (fun q => parOk F q.2) = true := all_true _ _ fun q hq => by
    rcases q with ⟨n, o⟩
    cases o with
    | none => rfl
    | some m => simp only [parOk, nm m (hcl _ hq m rfl), hcl _ hq m rfl, decide_true, Bool.and_self]
  obtain ⟨t, m, h, rfl, ht⟩ := has_ring_ok c F hcl (by omega)
  have ht : t = .sh (.bl true) := by
    rcases ht with ⟨_, hu⟩ | ⟨ht, _⟩
    · exact absurd (wf_of_up nd hu) hw
    · exact ht
  subst ht
  simp [f_Groups___init, b_Groups___init, isi_dictD, g0, g1, xAll_bls, a0, a1, h]
theorem grp_word (kvs : List (Key × D)) (nd : (kvs.map (·.1)).Nodup) (hk : ∀ q ∈ kvs, TxOk (kD q.1)) (hv : ∀ q ∈ kvs, TxOk q.2 ∧ Pl q.2) (hl : kvs.length < 64) :
    (∃ F, kvs = foK F ∧ Wf F ∧ NmF F ∧ f_Groups___init c [.mu (.ins c.Groups []), .va (.sh (.dct kvs))] = .ret (.sh .non) (some (grT c (srF F)))) ∨
    ((¬ ∃ F, kvs = foK F ∧ Wf F ∧ NmF F) ∧ f_Groups___init c [.mu (.ins c.Groups []), .va (.sh (.dct kvs))] = .exc ⟨c.InvalidGroups, none⟩ (some (.ins c.Groups []))) := by
  have foKinj : ∀ {A B : Fo}, foK A = foK B → A = B := by
    intro A
    induction A with
    | nil => intro B h; cases B with
      | nil => rfl
      | cons b s => simp [foK] at h
    | cons a r ih =>
      intro B h
      cases B with
      | nil => simp [foK] at h
      | cons b s =>
        obtain ⟨a1, a2⟩ := a; obtain ⟨b1, b2⟩ := b
        simp only [foK, List.map_cons, List.cons.injEq, Prod.mk.injEq, Sum.inr.injEq] at h
        obtain ⟨⟨h1, h2⟩, h3⟩ := h
        subst h1
        have : a2 = b2 := by cases a2 <;> cases b2 <;> simp [parD] at h2 <;> first | rfl | rw [h2]
        subst this
        rw [ih h3]
  have fwd : ∀ F, Wf F → NmF F → ((foK F).all fun q => nmD (kD q.1)) = true ∧ ((foK F).all fun q => parD2 (foK F) q.2) = true := fun F w nm => by
    obtain ⟨r, hr⟩ := w.rank
    refine ⟨List.all_eq_true.mpr fun q hq => ?_, List.all_eq_true.mpr fun q hq => ?_⟩
    · obtain ⟨⟨n, o⟩, hm, rfl⟩ := List.mem_map.mp hq
      exact nm n (List.mem_map.mpr ⟨_, hm, rfl⟩)
    · obtain ⟨⟨n, o⟩, hm, rfl⟩ := List.mem_map.mp hq
      cases o with
      | none => rfl
      | some m =>
        have hmm := (hr.up n m hm).1
        simp [parD, parD2, nm m hmm, hmm]
  by_cases hb : (kvs.all fun q => nmD (kD q.1)) = true ∧ (kvs.all fun q => parD2 kvs q.2) = true
  · obtain ⟨F, rfl, nm, hp⟩ := grp_names kvs kvs hb.1 hb.2
    have ndF : (nms F).Nodup := by
      rw [foK_keys] at nd
      exact List.Pairwise.of_map Sum.inr (fun a b h e => h (by rw [e])) nd
    have hcl : ∀ q ∈ F, ∀ m, q.2 = some m → m ∈ nms F := fun q hq m hm => by
      have := (hp q hq m hm).2
      simpa using this
    have hl' : F.length < 64 := by simpa [foK] using hl
    by_cases hw : Wf F
    · exact .inl ⟨F, rfl, hw, nm, init_ok c F hw nm hl' _ (.inl rfl)⟩
    · refine .inr ⟨fun ⟨F2, e, w2, _⟩ => hw (foKinj e ▸ w2), grp_ring c ndF nm hcl hl' hw⟩
  · refine .inr ⟨fun ⟨F, e, w, nm⟩ => hb (e ▸ fwd F w nm), grp_bad c kvs hk hv (by omega) ?_⟩
    cases h0 : (kvs.all fun q => nmD (kD q.1)) with
    | false => exact .inl rfl
    | true =>
      right
      cases h1 : (kvs.all fun q => parD2 kvs q.2) with
      | false => rfl
      | true => exact absurd ⟨h0, h1⟩ hb
end
theorem pen_ok (c : Cs) (ns : List Int) : f_law_pen c [.va (.sh (.scr ns))] = .ret (penT (ns.take 60) 0 0) none := by
  simp [f_law_pen, b_law_pen, penT, List.map_take]
theorem pys_ints (cs : List Int) : D.pys (cs.map D.int) = some (cs.map PyData.int) := by
  induction cs with
  | nil => rfl
  | cons a r ih => simp [D.pys, D.py, ih]
theorem canLay_ints (cs : List Int) : PyData.canLayAll0 (cs.map PyData.int) = true := by
  induction cs with
  | nil => rfl
  | cons a r ih => simp [PyData.canLayAll0, PyData.canLay0, ih]
theorem depth_ints (cs : List Int) : PyData.depthAll (cs.map PyData.int) = 0 := by
  induction cs with
  | nil => rfl
  | cons a r ih => simp [PyData.depthAll, PyData.depth, ih]
theorem xNe_ints (cs : List Int) : xNe [.lst (shs (cs.map D.int)), .lst []] = some (.sh (.bl (!cs.isEmpty))) := by
  simp [xNe, liftD, oNeS, eqS, oNeD, eqDp, D.py, pys_ints, D.pys, SeqAt.shaped, PyData.canLay0, canLay_ints, PyData.depth, depth_ints, PyData.canLayAll0, PyData.depthAll]
  cases cs <;> simp [PyData.eqv, PyData.eqvAll]
theorem xPow18 : xPow [.sh (.int 10), .sh (.int 18)] = some (.sh (.int 1000000000000000000)) := by
  simp [xPow, liftD, oPow, f2i]
theorem next_ok (c : Cs) (cs : List Int) (i p : Int) (hi : 0 ≤ i) (hi' : i < 2 ^ 100) : ∃ q, f_law_next c [.mu (penT cs i p)] = .ret (.sh (.int q)) (some (penT cs (i + 1) p)) := by
  have h0 : 0 ≤ i * i := Int.mul_nonneg hi hi
  have h9 : i * i ≤ 2 ^ 100 * 2 ^ 100 := Int.mul_le_mul (by omega) (by omega) hi (by omega)
  have hq : xMul [.sh (.int (i * i)), .sh (.int 17)] = some (.sh (.int (i * i * 17))) := xMul_b _ _ ⟨by omega, by omega⟩ (by omega)
  by_cases h : cs = []
  · have hE : cs.isEmpty = true := by simp [h]
    have hL : ¬ i < (cs.length : Int) := by simp [h, hi]
    simp (disch := omega) [-getElem?_pos, f_law_next, b_law_next, penT, xNe_ints, xMul_b, xMod_int, xPow18, hq, hE, hL]
    done
  · have hl : 0 < cs.length := List.length_pos_iff.mpr h
    have h1 := Int.emod_nonneg i (b := cs.length) (by omega)
    have h2 := Int.emod_lt_of_pos i (b := cs.length) (by omega)
    have hx : ∃ x, cs[(i % (cs.length : Int)).toNat]? = some x := ⟨_, List.getElem?_eq_getElem (by omega)⟩
    obtain ⟨x, hx⟩ := hx
    have hE : cs.isEmpty = false := by simp [h]
    by_cases ha : i < (cs.length : Int) <;> by_cases hb : 1000000000000000000 ≤ x
    all_goals simp (disch := omega) [-getElem?_pos, f_law_next, b_law_next, penT, xNe_ints, xMul_b, xMod_int, xPow18, hq, hE, h1, h2, hx, ha, hb]
theorem draw_ok (c : Cs) (cs : List Int) (i p n : Int) (hi : 0 ≤ i) (hi' : i < 2 ^ 100) (hn : 0 < n) (hn' : n < 2 ^ 500) : ∃ k i' p', f_law_draw c [.mu (penT cs i p), .va (.sh (.int n))] = .ret (.sh (.int k)) (some (penT cs i' p')) ∧ 0 ≤ k ∧ k < n ∧ i ≤ i' ∧ i' ≤ i + 1 := by
  have hlg : n.natAbs.log2 < 9000 := by
    have : n.natAbs < 2 ^ 9000 := Nat.lt_of_lt_of_le (by omega : n.natAbs < 2 ^ 500) (Nat.pow_le_pow_right (by decide) (by decide))
    exact (Nat.log2_lt (by omega)).mpr this
  have hd : ∀ x, xDiv [.sh (.int x), .sh (.int n)] = some (.sh (.int (x / n))) := fun x => xDiv_int x n hn hlg
  have hm : ∀ x, xMod [.sh (.int x), .sh (.int n)] = some (.sh (.int (x % n))) := fun x => xMod_int x n hn
  by_cases h : p < n
  · obtain ⟨q, hq⟩ := next_ok c cs i p hi hi'
    refine ⟨q % n, i + 1, q / n, ?_, Int.emod_nonneg _ (by omega), Int.emod_lt_of_pos _ hn, by omega, by omega⟩
    simp only [penT] at hq
    simp [f_law_draw, b_law_draw, penT, hd, hm, h, hq]
  · refine ⟨p % n, i, p / n, ?_, Int.emod_nonneg _ (by omega), Int.emod_lt_of_pos _ hn, by omega, by omega⟩
    simp [f_law_draw, b_law_draw, penT, hd, hm, h]
theorem some_ok (c : Cs) (cs : List Int) (i p m : Int) (l : List Str) (hi : 0 ≤ i) (hi' : i + l.length < 2 ^ 99) (hm : 0 ≤ m) (hl : l.length < 1000) :
    ∃ (l' : List Str) (i' p' : Int), f_law_some c [.mu (penT cs i p), .vw (.lst (shs (sts l))), .va (.sh (.int m))] = .ret (.lst (shs (sts l'))) (some (penT cs i' p')) ∧ i ≤ i' ∧ i' ≤ i + l.length + 1 ∧ l'.length ≤ l.length ∧ (l'.length : Int) ≤ m ∧ ∃ r, (l' ++ r).Perm l := by
  obtain ⟨k, i1, p1, hd, k0, k1, hi1, hi2⟩ := draw_ok c cs i p ((if (l.length : Int) < m then (l.length : Int) else m) + 1) hi (by omega) (by omega) (by split <;> omega)
  have hkl : k ≤ l.length ∧ k ≤ m := by split at k1 <;> omega
  rw [f_law_some, bodyF_ap, b_law_some, mSeq_nx (e1 := [.mu (penT cs i p), .vw (.lst (shs (sts l))), .va (.sh (.int m)), .va (.lst (shs (sts l))), .un]) (by simp), mRet_ap]
  obtain ⟨ts, e', h1, l', r, i', p', x, rfl, rfl, h4, h5, h6, h7⟩ : ∃ ts e', c_law_some_0 c [.mu (penT cs i p), .vw (.lst (shs (sts l))), .va (.sh (.int m)), .va (.lst (shs (sts l))), .un] = .ok (.tv (.lst ts), rst [.mu (penT cs i1 p1), .vw (.lst (shs (sts l))), .va (.sh (.int m)), .va (.lst (shs (sts l))), .un] [4] e') ∧ 
      ∃ (l' r : List Str) (i' p' : Int) (x : Slot), ts = shs (sts l') ∧ e' = [.mu (penT cs i' p'), .vw (.lst (shs (sts l))), .va (.sh (.int m)), .va (.lst (shs (sts r))), x] ∧ (l' ++ r).Perm l ∧ l'.length + ([] : List D).length = k ∧ i1 ≤ i' ∧ i' ≤ i1 + l'.length := by
    refine mLc_inv (fun ds acc e => ∃ (l' r : List Str) (i' p' : Int) (x : Slot), acc = shs (sts l') ∧ e = [.mu (penT cs i' p'), .vw (.lst (shs (sts l))), .va (.sh (.int m)), .va (.lst (shs (sts r))), x] ∧ (l' ++ r).Perm l ∧ l'.length + ds.length = k ∧ i1 ≤ i' ∧ i' ≤ i1 + l'.length) (ds := rngD 0 k.toNat) ?_ ?_ ?_ ?_
    · simp [hd]
      split at k1 <;> omega
    · simp
    · exact ⟨[], l, i1, p1, .un, rfl, rfl, by simp, by simp; omega, by omega, by simp⟩
    · rintro d r acc e ⟨l', r', i', p', x, rfl, rfl, hp, hk, h1, h2⟩
      have hpl := hp.length_eq
      simp only [List.length_append, List.length_cons] at hpl hk
      obtain ⟨j, i2, p2, hj, j0, j1, hj1, hj2⟩ := draw_ok c cs i' p' r'.length (by omega) (by omega) (by omega) (by omega)
      obtain ⟨d', hd', hpop⟩ := popAt_ok (sts r') j j0 (by simpa using j1) (by simp; omega)
      simp [map_erase] at hd' hpop
      obtain ⟨s, hs, rfl⟩ := hd'
      refine ⟨[.mu (penT cs i' p'), .vw (.lst (shs (sts l))), .va (.sh (.int m)), .va (.lst (shs (sts r'))), .va (.sh d)], true, _, by simp, rfl, fun _ => ⟨.tv (.sh (.str s)), [.mu (penT cs i2 p2), .vw (.lst (shs (sts l))), .va (.sh (.int m)), .va (.lst (shs (sts (r'.eraseIdx j.toNat)))), .va (.sh d)], .sh (.str s), _, ?_, rfl, ?_, ?_⟩, by simp⟩
      · simp [hj, hpop]
        done
      · simp; omega
      · refine ⟨l' ++ [s], r'.eraseIdx j.toNat, i2, p2, _, by simp, rfl, ?_, by simp; omega, by omega, by simp; omega⟩
        simpa using ((DL.erase_perm _ _ _ hs).append_left l').trans hp
  refine ⟨l', i', p', by simp [h1], by omega, by omega, by omega, by omega, r, h4⟩
def pool : List Str := ["a", "ab", "b", "c", "main", "over", "abcdefgh", "under"]
theorem pool_nd : pool.Nodup := by decide +kernel
theorem pool_ok : ∀ s ∈ pool, nmOk s = true := by decide +kernel
theorem forest_ok (c : Cs) (cs : List Int) (i p m : Int) (hi : 0 ≤ i) (hi' : i < 2 ^ 98) (hm : 0 ≤ m) :
    Ret (f_law_forest c [.mu (penT cs i p), .va (.sh (.int m))]) fun t u => ∃ (F : Fo) (i' p' : Int), t = .dct (shk (foK F)) ∧ u = some (penT cs i' p') ∧ i ≤ i' ∧ i' ≤ i + 50 ∧ (F.length : Int) ≤ m ∧ F.length ≤ 8 ∧ Wf F ∧ ∀ n ∈ nms F, n ∈ pool := by
  obtain ⟨l, i1, p1, hs, h1, h2, h3, h4, r, h5⟩ := some_ok c cs i p m pool hi (by simp [pool]; omega) hm (by simp [pool])
  have hl8 : l.length ≤ 8 := h3
  have hlnd : l.Nodup := (List.nodup_append.mp ((h5.nodup_iff).mpr pool_nd)).1
  have hlp : ∀ n ∈ l, n ∈ pool := fun n hn => h5.mem_iff.mp (List.mem_append_left _ hn)
  have h2 : i1 ≤ i + 9 := by simp only [pool, List.length_cons, List.length_nil] at h2; omega
  apply Ret_body
  refine Run_nx (e1 := [.mu (penT cs i p), .va (.sh (.int m)), .va (.dct (shk (foK []))), .un, .un, .un]) (by simp [foK, shk]) ?_
  apply Run_seq
  refine Run_for (fun ds e => ∃ (F : Fo) (i' p' : Int) (x y : Slot), e = [.mu (penT cs i' p'), .va (.sh (.int m)), .va (.dct (shk (foK F))), x, y, .un] ∧ isM x = false ∧ isM y = false ∧ Wf F ∧ (∃ l2, l = nms F ++ l2 ∧ ds = sts l2) ∧ i1 ≤ i' ∧ i' ≤ i1 + 2 * F.length) (ds := sts l) (e0 := [.mu (penT cs i1 p1), .va (.sh (.int m)), .va (.dct (shk (foK []))), .un, .un, .un]) ?_ ?_ ?_ ?_
  · simp only [pool, sts_cons, sts_nil, shs_cons, shs_nil] at hs
    simp [hs]
    done
  · exact ⟨[], i1, p1, .un, .un, rfl, rfl, rfl, .nil, ⟨l, rfl, rfl⟩, by omega, by simp⟩
  · rintro d r e ⟨F, i', p', x, y, rfl, hx, hy, hF, ⟨l2, hl, hd⟩, b1, b2⟩
    obtain ⟨n, l3, rfl, rfl, rfl⟩ : ∃ n l3, l2 = n :: l3 ∧ d = .str n ∧ r = sts l3 := by
      cases l2 with
      | nil => cases hd
      | cons n l3 => simp at hd; exact ⟨n, l3, rfl, hd.1, hd.2⟩
    refine ⟨_, by simp [hx]; rfl, ?_⟩
    have hFl : F.length ≤ 8 := by have := congrArg List.length hl; simp at this; omega
    have hn : n ∉ nms F := by
      rw [hl] at hlnd
      intro hm
      exact (List.nodup_append.mp hlnd).2.2 _ hm _ List.mem_cons_self rfl
    have hok : ∀ s ∈ nms F, nmOk s = true := fun s hs => pool_ok s (hlp s (hl ▸ List.mem_append_left _ hs))
    obtain ⟨k, i2, p2, hk, k0, k1, q1, q2⟩ := draw_ok c cs i' p' 4 (by omega) (by omega) (by omega) (by omega)
    refine Run_nx (e1 := [.mu (penT cs i' p'), .va (.sh (.int m)), .va (.dct (shk (foK F))), .va (.sh (.str n)), .va (.lst (shs (sts (nms F)))), .un]) (by simp [hy, foK_kD]) ?_
    have hlt : F.length < 16777216 := by omega
    have hne := xNe_empty (flat_sts hok)
    have hput : ∀ d : D, pk (shk (foK F)) (.inr n) (.sh d) = shk (foK F ++ [(.inr n, d)]) := fun d => by rw [pk_shk, pk_nw]; rw [foK_keys]; simpa using hn
    by_cases hE : F = []
    · have hne' : (nms F).isEmpty = true := by simp [hE, nms]
      refine Run_of (o := .nx [.mu (penT cs i' p'), .va (.sh (.int m)), .va (.dct (shk (foK (F ++ [(n, none)])))), .va (.sh (.str n)), .va (.lst (shs (sts (nms F)))), .un]) ?_ ?_
      · simp [hlt, hne, hne', hput, foK_append]
        done
      · exact ⟨F ++ [(n, none)], i', p', _, _, rfl, rfl, rfl, hF.snoc hn (by simp), ⟨l3, by simpa [nms] using hl, rfl⟩, by omega, by simp; omega⟩
    · have hpos : 0 < F.length := List.length_pos_iff.mpr hE
      have hne' : (nms F).isEmpty = false := by cases F with | nil => exact absurd rfl hE | cons _ _ => rfl
      by_cases hk0 : 0 < k
      · obtain ⟨j, i3, p3, hj, j0, j1, q3, q4⟩ := draw_ok c cs i2 p2 F.length (by omega) (by omega) (by omega) (by omega)
        obtain ⟨s, hs'⟩ : ∃ s, (nms F)[j.toNat]? = some s := ⟨_, List.getElem?_eq_getElem (by simp; omega)⟩
        refine Run_of (o := .nx [.mu (penT cs i3 p3), .va (.sh (.int m)), .va (.dct (shk (foK (F ++ [(n, some s)])))), .va (.sh (.str n)), .va (.lst (shs (sts (nms F)))), .un]) ?_ ?_
        · simp [-getElem?_pos, hlt, hne, hk, hj, hk0, hne', j0, j1, hs', hput, foK_append]
          done
        · exact ⟨F ++ [(n, some s)], i3, p3, _, _, rfl, rfl, rfl, hF.snoc hn (by simp; exact List.mem_of_getElem? hs'), ⟨l3, by simpa [nms] using hl, rfl⟩, by omega, by simp; omega⟩
      · refine Run_of (o := .nx [.mu (penT cs i2 p2), .va (.sh (.int m)), .va (.dct (shk (foK (F ++ [(n, none)])))), .va (.sh (.str n)), .va (.lst (shs (sts (nms F)))), .un]) ?_ ?_
        · simp [hlt, hne, hk, hk0, hne', hput, foK_append]
          done
        · exact ⟨F ++ [(n, none)], i2, p2, _, _, rfl, rfl, rfl, hF.snoc hn (by simp), ⟨l3, by simpa [nms] using hl, rfl⟩, by omega, by simp; omega⟩
  · rintro e ⟨F, i', p', x, y, rfl, hx, hy, hF, ⟨l2, hl, hd⟩, b1, b2⟩
    have hl2 : l2 = [] := by cases l2 <;> simp at hd; rfl
    subst hl2
    simp only [List.append_nil] at hl
    subst hl
    have hFl : F.length ≤ 8 := by simpa using hl8
    refine Run_nx (e1 := [.mu (penT cs i' p'), .va (.sh (.int m)), .va (.dct (shk (foK F))), x, y, .va (.lst (shs ((foK F).map tupD)))]) (by simp) ?_
    obtain ⟨k, i2, p2, hk, k0, k1, q1, q2⟩ := draw_ok c cs i' p' 2 (by omega) (by omega) (by omega) (by omega)
    have hk2 : k = 0 ∨ k = 1 := by omega
    rcases hk2 with rfl | rfl
    · refine Run_of (o := .rt (.dct (shk (foK F))) [.mu (penT cs i2 p2), .va (.sh (.int m)), .va (.dct (shk (foK F))), x, y, .va (.lst (shs ((foK F).map tupD)))]) ?_ ?_
      · simp [hk, oDictP_pairs (foK_nodup hF.nd)]
        done
      · exact Ret_of rfl ⟨F, i2, p2, rfl, rfl, by omega, by omega, by simpa using h4, hFl, hF, hlp⟩
    · refine Run_of (o := .rt (.dct (shk (foK F.reverse))) [.mu (penT cs i2 p2), .va (.sh (.int m)), .va (.dct (shk (foK F))), x, y, .va (.lst (shs ((foK F).map tupD)))]) ?_ ?_
      · have : ((foK F).map tupD).reverse = (foK F.reverse).map tupD := by simp [foK]
        simp [hk, this, oDictP_pairs (foK_nodup hF.rev.nd)]
        done
      · exact Ret_of rfl ⟨F.reverse, i2, p2, rfl, rfl, by omega, by omega, by simpa using h4, by simpa using hFl, hF.rev, by simpa [nms] using hlp⟩
end W
namespace DL
open PySem PySem.Spec PyProof.Rows L2
theorem allO_map {α : Type} (l : List α) (f : α → Option Bool) (g : α → Bool) (h : ∀ a ∈ l, f a = some (g a)) : allO (l.map f) = some (l.all g) := by
  induction l with
  | nil => rfl
  | cons a r ih =>
    have h1 := h a List.mem_cons_self
    have h2 := ih fun b hb => h b (List.mem_cons_of_mem _ hb)
    simp only [List.map_cons, allO, h1, h2, List.all_cons]
end DL
namespace W
open PySem PySem.Spec PyProof.Rows L2 DL
theorem er_shk (ds : List (Key × D)) : (shk ds).map (fun p => (p.1, p.2.er)) = ds := by simp [shk, List.map_map, Function.comp_def]
structure Ppl (F P : Fo) : Prop where
  nd : (nms P).Nodup
  nm : ∀ n ∈ nms P, nmOk n = true
  gr : ∀ q ∈ P, ∃ g, q.2 = some g ∧ g ∈ nms F
  le : P.length ≤ 112
theorem filter_sts (l : List Str) (p : Str → Bool) : (l.filter p).map (fun s => T.sh (.str s)) = shs (sts (l.filter p)) := by simp [shs, sts, List.map_map, Function.comp_def]
structure Sel (P : Fo) (l : List Str) : Prop where
  nd : l.Nodup
  mem : ∀ n ∈ l, n ∈ nms P
def tal (F P : Fo) (l : List Str) (n : Str) : Nat := (l.filter fun x => decide (n ∈ wayO F (par P x))).length
end W
namespace DL
open PySem PySem.Spec PyProof.Rows L2
end DL
namespace W
open PySem PySem.Spec PyProof.Rows L2 DL
abbrev Qu := List (Str × Int × Int)
def quD (q : Int × Int) : D := .tup [.int q.1, .int q.2]
def quK (Q : Qu) : List (Key × D) := Q.map fun q => (.inr q.1, quD q.2)
def qns (Q : Qu) : List Str := Q.map (·.1)
def stl (Ls : List (List Str)) : List D := Ls.map fun l => .lst (sts l)
def qf (Q : Qu) (n : Str) : Int × Int := (lk Q n).getD (0, 0)
abbrev rlT (c : Cs) (S : Fo) (Q : Qu) (P : Fo) : T := .ins c.Roll [("forest", .sh (grD c S)), ("limits", .dct (shk (quK Q))), ("group_of", .dct (shk (foK P)))]
abbrev rlD (c : Cs) (S : Fo) (Q : Qu) (P : Fo) : D := .ins c.Roll [("forest", grD c S), ("limits", .dct (quK Q)), ("group_of", .dct (foK P))]
end W
namespace DL
open PySem PySem.Spec PyProof.Rows L2
@[simp] theorem mStar_ap (i j : Nat) (m : ME) (e : Env) : mStar i j m e = match m e with
  | .ok (v, e1) => match cn v e1 with
    | some (.sh (.tup (d :: ds))) => match setAll [i, j] [.sh d, .lst (ds.map .sh)] e1 with
      | some e2 => .ok (.nx e2)
      | none => .st
    | _ => .st
  | .ex c e1 => .ex c e1
  | .st => .st := rfl
end DL
namespace W
open PySem PySem.Spec PyProof.Rows L2 DL
def rlS (c : Cs) (S : Fo) (Q : Qu) (P : Fo) (s : Slot) : Prop := s = .va (.sh (rlD c S Q P)) ∨ s = .vw (rlT c S Q P)
inductive Dd where
  | add (x : Str) | rem (x : Str) | swp (x y : Str)
def Dd.ws : Dd → List Str
  | .add x => ["add", x] | .rem x => ["remove", x] | .swp x y => ["swap", x, y]
def Dd.D (d : Dd) : DL.D := .tup (sts d.ws)
def Dd.kp : Dd → Str → Bool
  | .add _, _ => true | .rem x, n => !decide (n = x) | .swp x _, n => !decide (n = x)
def Dd.nw : Dd → List Str
  | .add x => [x] | .rem _ => [] | .swp _ y => [y]
def Dd.after (d : Dd) (l : List Str) : List Str := srt (l.filter d.kp ++ d.nw)
theorem ne_ar : ¬ ("add" : Str) = "remove" := by decide +kernel
theorem ne_ra : ¬ ("remove" : Str) = "add" := by decide +kernel
end W
namespace DL
open PySem PySem.Spec PyProof.Rows L2
@[simp] theorem gTm_tup (ms : MGs) (ds : List D) (e : Env) : gTm ms (.sh (.tup ds)) e = ms ds e := rfl
@[simp] theorem gsCons_cons (m : MG) (ms : MGs) (d : D) (r : List D) (e : Env) : gsCons m ms (d :: r) e = match m (.sh d) e with
  | .ok e1 => ms r e1
  | _ => .st := rfl
@[simp] theorem gsNil_nil (e : Env) : gsNil [] e = .ok e := rfl
end DL
namespace W
open PySem PySem.Spec PyProof.Rows L2 DL
end W
namespace DL
open PySem PySem.Spec PyProof.Rows L2
@[simp] theorem mTupOf_ap (m : ME) (e : Env) : mTupOf m e = (m e).bnd fun v e1 => match (cn v e1).bind kids with
  | some ds => .ok (.tv (.sh (.tup ds)), e1)
  | none => .st := rfl
@[simp] theorem mAsgT_ap (is : List Nat) (ms : MA) (e : Env) : mAsgT is ms e = match ms e with
  | .ok (vs, e1) => match tvs vs with
    | some ts => if ts.length ≤ sizeLine ∧ ts.length = is.length then match setAll is ts e1 with
        | some e2 => .ok (.nx e2)
        | none => .st
      else .st
    | none => .st
  | .ex c e1 => .ex c e1
  | .st => .st := rfl
end DL
namespace W
open PySem PySem.Spec PyProof.Rows L2 DL
def dds (ds : List Dd) : List DL.D := ds.map Dd.D
@[simp] theorem tal_nil (F P : Fo) (n : Str) : tal F P [] n = 0 := rfl
end W
namespace DL
open PySem PySem.Spec PyProof.Rows L2
@[simp] theorem mZipS_ap (ms : MA) (e : Env) : mZipS ms e = (ms e).bnd fun vs e1 => match cns vs e1 with
  | some [.sh (.tup a), .sh (.tup b)] => if a.length = b.length then .ok (zipD a b, e1) else .st
  | _ => .st := rfl
@[simp] theorem zipD_nil : zipD [] [] = [] := rfl
@[simp] theorem zipD_cons (x y : D) (a b : List D) : zipD (x :: a) (y :: b) = .tup [x, y] :: zipD a b := rfl
end DL
namespace W
open PySem PySem.Spec PyProof.Rows L2 DL
end W
namespace DL
open PySem PySem.Spec PyProof.Rows L2
@[simp] theorem yIsNot_bl (a b : Bool) : yIsNot [.sh (.bl a), .sh (.bl b)] = some (.sh (.bl (a != b))) := by cases a <;> cases b <;> rfl
end DL
namespace W
open PySem PySem.Spec PyProof.Rows L2 DL
theorem ws_inj {a b : Dd} (h : a.ws = b.ws) : a = b := by
  cases a <;> cases b <;> simp [Dd.ws] at h <;> first | (obtain ⟨h1, h2⟩ := h; subst h1; subst h2; rfl) | (subst h; rfl) | (exact absurd h.1 ne_ar) | (exact absurd h.1 ne_ra)
instance : DecidableEq Dd := fun a b => if h : a.ws = b.ws then isTrue (ws_inj h) else isFalse fun e => h (e ▸ rfl)
end W
namespace DL
open PySem PySem.Spec PyProof.Rows L2
end DL
namespace W
open PySem PySem.Spec PyProof.Rows L2 DL
end W
namespace DL
open PySem PySem.Spec PyProof.Rows L2
end DL
namespace W
open PySem PySem.Spec PyProof.Rows L2 DL
def Dd.py (d : Dd) : PyData := .tuple (d.ws.map PyData.str)
end W
namespace DL
open PySem PySem.Spec PyProof.Rows L2
@[simp] theorem mStarD_ap (m mk mv : ME) (e : Env) : mStarD m mk mv e = (m e).bnd fun v e1 => match (cn v e1).bind kidsD with
  | some ds => if (ds.map (·.1)).Nodup ∧ ds.length < sizeLine then (mk e1).bnd fun kv e2 => match kv with
      | .tv t => match keyT t with
        | some k => (mv e2).bnd fun v2 e3 => match v2 with
          | .tv (.sh d) => .ok (.tv (.dct ((pk ds k d).map fun p => (p.1, T.sh p.2))), e3)
          | _ => .st
        | none => .st
      | _ => .st
    else .st
  | none => .st := rfl
end DL
namespace W
open PySem PySem.Spec PyProof.Rows L2 DL
def brk (S P : Fo) (Q : Qu) (l : List Str) : List Str := (nms S).filter fun n => !(decide ((qf Q n).1 ≤ (tal S P l n : Nat)) && decide (((tal S P l n : Nat) : Int) ≤ (qf Q n).2))
def adm (F P : Fo) (Q : Qu) (l : List Str) : Prop := ∀ n ∈ nms F, (qf Q n).1 ≤ (tal F P l n : Nat) ∧ ((tal F P l n : Nat) : Int) ≤ (qf Q n).2
end W
namespace DL
open PySem PySem.Spec PyProof.Rows L2
end DL
namespace W
open PySem PySem.Spec PyProof.Rows L2 DL
end W
namespace DL
open PySem PySem.Spec PyProof.Rows L2
@[simp] theorem mStep2_ap (ms : MA) (e : Env) : mStep2 ms e = (ms e).bnd fun vs e1 => match cns vs e1 with
  | some us => match oStep us with
    | some t => .ok (.tv t, e1)
    | none => match us with
      | [.sh (.tup ds), .sh (.int (-1))] => .ok (.tv (.sh (.tup ds.reverse)), e1)
      | _ => .st
  | none => .st := rfl
end DL
namespace W
open PySem PySem.Spec PyProof.Rows L2 DL
theorem srt_perm {a b : List Str} (h : a.Perm b) : srt a = srt b := List.Perm.eq_of_pairwise (fun _ _ _ _ h k => sle_anti h k) (List.pairwise_mergeSort sle_trans sle_total _) (List.pairwise_mergeSort sle_trans sle_total _) ((List.mergeSort_perm _ _).trans (h.trans (List.mergeSort_perm _ _).symm))
section
variable (c : Cs) (F P : Fo) (Q : Qu) (w : Wf F) (hF : F.length ≤ 8) (hN : NmF F) (hP : Ppl F P) (hQ : (qns Q).Perm (nms F)) (ok : ∀ q ∈ Q, 0 ≤ q.2.1 ∧ q.2.1 ≤ q.2.2 ∧ q.2.2 ≤ 999)
def lt2 (l : List Str) (g : D) : Prop := g = .lst (sts l) ∨ g = .tup (sts l)
include w hF hP hQ
end
end W
namespace DL
open PySem PySem.Spec PyProof.Rows L2
end DL
namespace W
open PySem PySem.Spec PyProof.Rows L2 DL
end W
namespace DL
open PySem PySem.Spec PyProof.Rows L2
theorem mR1_ok {ms : MA} {e e1 : Env} {j : Int} (h : ms e = .ok ([.tv (.sh (.int j))], e1)) (h1 : -(2 ^ 62) ≤ j) (h2 : j < 2 ^ 62) : mR1 ms e = .ok (rngD 0 j.toNat, e1) := by
  rw [mR1_ap, h]
  simp only [bnd_ok, cns_cons, cns_nil, cn_tv, Option.bind_some, Option.map_some, h1, h2, and_self, if_true]
end DL
namespace W
open PySem PySem.Spec PyProof.Rows L2 DL
def stpF (F : Fo) : Option Str → Option Str
  | none => none
  | some n => par F n
def upI (F : Fo) : Nat → Option Str → Option Str
  | 0, o => o
  | k + 1, o => upI F k (stpF F o)
theorem upI_none (F : Fo) : ∀ k, upI F k none = none
  | 0 => rfl
  | k + 1 => upI_none F k
theorem upI_up {F : Fo} : ∀ {k : Nat} {o : Option Str}, Up F k o → ∀ j, k ≤ j → upI F j o = none
  | _, _, .top, j, _ => upI_none F j
  | _, _, .one (k := k) (n := n) hn h, j, hj => by
    obtain ⟨i, rfl⟩ : ∃ i, j = i + 1 := ⟨j - 1, by omega⟩
    exact upI_up h i (by omega)
theorem up_upI {F : Fo} (hcl : ∀ q ∈ F, ∀ m, q.2 = some m → m ∈ nms F) : ∀ (j : Nat) (o : Option Str), (∀ m, o = some m → m ∈ nms F) → upI F j o = none → ∃ k, Up F k o
  | 0, o, _, h => by
    have : o = none := h
    subst this; exact ⟨0, .top⟩
  | j + 1, none, _, _ => ⟨0, .top⟩
  | j + 1, some n, ho, h => by
    have hn := ho n rfl
    obtain ⟨k, hk⟩ := up_upI hcl j (par F n) (fun m hm => hcl _ (lk_mm (by rw [lk_par hn, hm])) m rfl) h
    exact ⟨k + 1, .one hn hk⟩
section
variable (c : Cs) (F : Fo) (hcl : ∀ q ∈ F, ∀ m, q.2 = some m → m ∈ nms F) (hl : F.length < 64)
include hcl hl
theorem spot_ok (x1 x3 : Slot) (h3 : isM x3 = false) : ∀ (o : Option Str), (∀ m, o = some m → m ∈ nms F) → Run (l_law_is_forest_1 c [.va (.sh (.dct (foK F))), x1, .va (.sh (parD o)), x3]) fun out => ∃ y3, isM y3 = false ∧ out = .nx [.va (.sh (.dct (foK F))), x1, .va (.sh (parD (upI F F.length o))), y3] := by
  intro o ho
  let E : Option Str → Slot → DL.Env := fun o y => [.va (.sh (.dct (foK F))), x1, .va (.sh (parD o)), y]
  refine Run_for (fun ds e => ∃ (k : Nat) (o1 : Option Str) (y : Slot), ds.length = k ∧ (∀ m, o1 = some m → m ∈ nms F) ∧ upI F k o1 = upI F F.length o ∧ isM y = false ∧ e = E o1 y) (ds := rngD 0 F.length) (e0 := E o x3) ?_ ?_ ?_ ?_
  · have xlen : xLen [.sh (.dct (foK F))] = some (.sh (.int (F.length : Nat))) := by simp
    simp only [E]
    generalize foK F = KK at xlen
    have e9 : rngD 0 F.length = rngD 0 ((F.length : Nat) : Int).toNat := by rw [Int.toNat_natCast]
    rw [e9]
    exact mR1_ok (by simp [xlen]) (by omega) (by omega)
  · exact ⟨F.length, o, x3, by simp, ho, rfl, h3, rfl⟩
  · rintro d ds e ⟨k, o1, y, hk, h1, h2, hy, rfl⟩
    obtain ⟨j, rfl⟩ : ∃ j, k = j + 1 := ⟨ds.length, by simpa using hk.symm⟩
    refine ⟨E o1 (.va (.sh d)), by simp [E, hy], ?_⟩
    refine Run_of (o := .nx (E (stpF F o1) (.va (.sh d)))) ?_ ⟨j, stpF F o1, _, by simpa using hk, fun m hm => ?_, h2, rfl, rfl⟩
    · cases o1 with
      | none => rw [mAsg_ap]; simp [E, stpF, parD]
      | some n =>
        have lp := lk_par (h1 n rfl)
        rw [mAsg_ap]
        simp [E, stpF, parD, lp]
    · cases o1 with
      | none => cases hm
      | some n =>
        have hn := h1 n rfl
        exact hcl _ (lk_mm (by rw [lk_par hn]; exact congrArg some hm)) m rfl
  · rintro e ⟨k, o1, y, hk, h1, h2, hy, rfl⟩
    have : k = 0 := by simpa using hk.symm
    subst this
    have h2 : o1 = upI F F.length o := h2
    subst h2
    exact ⟨y, hy, rfl⟩
theorem forest2 (x1 x2 x3 : Slot) (h1 : isM x1 = false) (h2 : isM x2 = false) (h3 : isM x3 = false) : Run (l_law_is_forest_2 c [.va (.sh (.dct (foK F))), x1, x2, x3]) fun o =>
    (∃ y1 y2 y3, o = .nx [.va (.sh (.dct (foK F))), y1, y2, y3] ∧ ∀ n ∈ nms F, ∃ k, Up F k (some n)) ∨
    (∃ y1 y2 y3, o = .rt (.sh (.bl false)) [.va (.sh (.dct (foK F))), y1, y2, y3] ∧ ∃ n ∈ nms F, ¬ ∃ k, Up F k (some n)) := by
  let E : Slot → Slot → Slot → DL.Env := fun a b d => [.va (.sh (.dct (foK F))), a, b, d]
  refine Run_for (fun ds e => ∃ (l1 l2 : List Str) (a b d : Slot), nms F = l1 ++ l2 ∧ ds = sts l2 ∧ (∀ n ∈ l1, ∃ k, Up F k (some n)) ∧ isM a = false ∧ isM b = false ∧ isM d = false ∧ e = E a b d) (ds := sts (nms F)) (e0 := E x1 x2 x3) ?_ ?_ ?_ ?_
  · have hk : kDs ((foK F).map (·.1)) = sts (nms F) := by (rw [foK_keys, kDs_inr]); try rfl
    simp [E, hk]
  · exact ⟨[], nms F, x1, x2, x3, rfl, rfl, (fun n hn => by cases hn), h1, h2, h3, rfl⟩
  · rintro d ds e ⟨l1, l2, a, b, z, hm, hd, hu, ha, hb, hz, rfl⟩
    obtain ⟨n, l3, rfl, rfl, rfl⟩ : ∃ n l3, l2 = n :: l3 ∧ d = .str n ∧ ds = sts l3 := by
      cases l2 with
      | nil => cases hd
      | cons n l3 => simp at hd; exact ⟨n, l3, rfl, hd.1, hd.2⟩
    have hn : n ∈ nms F := by rw [hm]; simp
    let A : Slot := .va (.sh (.str n))
    refine ⟨E A b z, by simp [E, ha, A], ?_⟩
    refine Run_nx (e1 := E A (.va (.sh (parD (some n)))) z) (by simp [E, A, hb, parD]) ?_
    apply Run_seq
    refine Run_mono (spot_ok c F hcl hl A z hz (some n) (fun m hm => by cases hm; exact hn)) ?_
    rintro o ⟨y3, m3, rfl⟩
    cases hI : upI F F.length (some n) with
    | none =>
      refine Run_of (o := .nx (E A (.va (.sh (parD none))) y3)) (by simp [E, parD]) ⟨l1 ++ [n], l3, _, _, _, by rw [hm]; simp, rfl, fun m hm' => ?_, rfl, rfl, m3, rfl⟩
      rcases List.mem_append.mp hm' with h | h
      · exact hu m h
      · simp at h; subst h; exact up_upI hcl F.length (some m) (fun q hq => by cases hq; exact hn) hI
    | some q =>
      exact Run_of (o := .rt (.sh (.bl false)) (E A (.va (.sh (parD (some q)))) y3)) (by simp [E, parD]) (.inr ⟨_, _, _, rfl, n, hn, fun ⟨k, hk⟩ => by
        have := upI_up hk F.length hk.le
        rw [hI] at this; cases this⟩)
  · rintro e ⟨l1, l2, a, b, z, hm, hd, hu, ha, hb, hz, rfl⟩
    have : l2 = [] := by cases l2 with | nil => rfl | cons _ _ => cases hd
    subst this
    rw [List.append_nil] at hm
    exact .inl ⟨a, b, z, rfl, fun n hn => hu n (by rw [← hm]; exact hn)⟩
end
theorem xLe_s4 (a b : Str) : xLe [.sh (.str a), .sh (.str b)] = some (.sh (.bl (!decide (b.cps.toList < a.cps.toList)))) := by
  simp only [xLe, liftD, List.map_cons, List.map_nil, T.er, sLe, f2s, oLe, f2i, Option.map_none, Option.map_some, Option.none_or]
theorem le_a (n : Nat) : xLe [.sh (.str "a"), .sh (.str ⟨#[n]⟩)] = some (.sh (.bl (decide (97 ≤ n)))) := by
  rw [xLe_s4]
  have h : ("a" : Str).cps.toList = [97] := by decide +kernel
  rw [h]
  by_cases e : 97 ≤ n
  · have : ¬ n < 97 := by omega
    simp [e, this, List.cons_lt_cons_iff]
  · have : n < 97 := by omega
    simp [e, this, List.cons_lt_cons_iff]
theorem le_z (n : Nat) : xLe [.sh (.str ⟨#[n]⟩), .sh (.str "z")] = some (.sh (.bl (decide (n ≤ 122)))) := by
  rw [xLe_s4]
  have h : ("z" : Str).cps.toList = [122] := by decide +kernel
  rw [h]
  by_cases e : n ≤ 122
  · have : ¬ 122 < n := by omega
    simp [e, this, List.cons_lt_cons_iff]
  · have : 122 < n := by omega
    simp [e, this, List.cons_lt_cons_iff]
section
variable (c : Cs)
theorem c_name4 (s : Str) (h : s.length ≤ sizeLine) : c_law_is_name_v1_0 c [.va (.sh (.str s)), .un] = .ok (.tv (.lst (s.cps.toList.map fun n => .sh (.bl (decide (97 ≤ n) && decide (n ≤ 122))))), [.va (.sh (.str s)), .un]) := by
  refine mLc_map (fun n => .str ⟨#[n]⟩) (fun n => [.va (.sh (.str s)), .va (.sh (.str ⟨#[n]⟩))]) _ ?_ ?_ ?_ ?_
  · simp
  · simp
  · exact h
  · intro n _
    have h1 := le_a n
    have h2 := le_z n
    by_cases e : 97 ≤ n
    · rw [decide_eq_true e] at h1
      simp [h1, h2, e]
    · rw [decide_eq_false e] at h1
      simp [h1, e]
theorem law_name (d : D) (h : TxOk d) (hp : Pl d) : f_law_is_name_v1 c [.va (.sh d)] = .ret (.sh (.bl (nmD d))) none := by
  by_cases e : ∃ s, d = .str s
  · obtain ⟨s, rfl⟩ := e
    have hs := h s rfl
    have hl := xLen_str s hs
    have a1 : decide ((1 : Int) ≤ (s.length : Int)) = decide (1 ≤ s.length) := by rw [decide_eq_decide]; omega
    have a2 : decide ((s.length : Int) ≤ (8 : Int)) = decide (s.length ≤ 8) := by rw [decide_eq_decide]; omega
    simp only [nmD, nmOk]
    by_cases h1 : 1 ≤ s.length <;> by_cases h2 : s.length ≤ 8 <;> simp [-Array.all_toList, f_law_is_name_v1, b_law_is_name_v1, isi_str, hl, c_name4 c s hs, xAll_bls, nmOk, h1, h2, a1, a2]
  · have hn : nmD d = false := by
      cases d <;> first | rfl | exact absurd ⟨_, rfl⟩ e
    have := isi_non c hp (fun s z => e ⟨s, z⟩)
    rw [hn]
    simp [f_law_is_name_v1, b_law_is_name_v1, this]
end
def gK (G : List (Str × D)) : List (Key × D) := G.map fun p => (.inr p.1, p.2)
theorem gK_keys (G : List (Str × D)) : (gK G).map (·.1) = (G.map (·.1)).map Sum.inr := by simp [gK, List.map_map, Function.comp_def]
theorem lk_gK {G : List (Str × D)} (nd : (G.map (·.1)).Nodup) {n : Str} {d : D} (h : (n, d) ∈ G) : lk (gK G) (.inr n) = some d := by
  refine lk_of_mem ?_ (List.mem_map.mpr ⟨(n, d), h, rfl⟩)
  rw [gK_keys]
  exact inr_nodup nd
theorem hk_gK (G : List (Str × D)) (n : Str) : hk (gK G) (.inr n) = decide (n ∈ G.map (·.1)) := by
  rw [hk_eq, gK_keys]; simp
def okV (G : List (Str × D)) : D → Bool
  | .non => true
  | .str s => decide (s ∈ G.map (·.1))
  | _ => false
section
variable (c : Cs) (G : List (Str × D)) (nd : (G.map (·.1)).Nodup) (hv : ∀ p ∈ G, Pl p.2) (hl : G.length < 64)
include nd hv hl
theorem forest0 : Run (l_law_is_forest_0 c [.va (.sh (.dct (gK G))), .un, .un, .un]) fun o =>
    (∃ y, isM y = false ∧ o = .nx [.va (.sh (.dct (gK G))), y, .un, .un] ∧ ∀ p ∈ G, okV G p.2 = true) ∨
    (∃ y, o = .rt (.sh (.bl false)) [.va (.sh (.dct (gK G))), y, .un, .un] ∧ ∃ p ∈ G, okV G p.2 = false) := by
  let E : Slot → DL.Env := fun a => [.va (.sh (.dct (gK G))), a, .un, .un]
  refine Run_for (fun ds e => ∃ (l1 l2 : List (Str × D)) (a : Slot), G = l1 ++ l2 ∧ ds = sts (l2.map (·.1)) ∧ (∀ p ∈ l1, okV G p.2 = true) ∧ isM a = false ∧ e = E a) (ds := sts (G.map (·.1))) (e0 := E .un) ?_ ?_ ?_ ?_
  · have hk : kDs ((gK G).map (·.1)) = sts (G.map (·.1)) := by (rw [gK_keys, kDs_inr]); try rfl
    simp [E, hk]
  · exact ⟨[], G, .un, rfl, rfl, (fun p hp => by cases hp), rfl, rfl⟩
  · rintro d ds e ⟨l1, l2, a, hG, hd, hu, ha, rfl⟩
    obtain ⟨⟨n, x⟩, l3, rfl, rfl, rfl⟩ : ∃ p l3, l2 = p :: l3 ∧ d = .str p.1 ∧ ds = sts (l3.map (·.1)) := by
      cases l2 with
      | nil => cases hd
      | cons p l3 => simp at hd; exact ⟨p, l3, rfl, hd.1, hd.2⟩
    have hm : (n, x) ∈ G := by rw [hG]; simp
    have lp := lk_gK nd hm
    have hp := hv _ hm
    simp only at hp
    let A : Slot := .va (.sh (.str n))
    refine ⟨E A, by simp [E, ha, A], ?_⟩
    have fin1 : okV G x = true → ∃ l1' l2' a', G = l1' ++ l2' ∧ sts (l3.map (·.1)) = sts (l2'.map (·.1)) ∧ (∀ p ∈ l1', okV G p.2 = true) ∧ isM a' = false ∧ E A = E a' := fun hx => by
      refine ⟨l1 ++ [(n, x)], l3, A, by rw [hG]; simp, rfl, fun p hp => ?_, rfl, rfl⟩
      rcases List.mem_append.mp hp with h | h
      · exact hu p h
      · simp at h; subst h; exact hx
    have fin2 : okV G x = false → (∃ y, isM y = false ∧ (Out.rt (.sh (.bl false)) (E A)) = .nx [.va (.sh (.dct (gK G))), y, .un, .un] ∧ ∀ p ∈ G, okV G p.2 = true) ∨ (∃ y, (Out.rt (.sh (.bl false)) (E A)) = .rt (.sh (.bl false)) [.va (.sh (.dct (gK G))), y, .un, .un] ∧ ∃ p ∈ G, okV G p.2 = false) := fun hx => .inr ⟨A, rfl, _, hm, hx⟩
    cases x with
    | non => exact Run_of (o := .nx (E A)) (by simp [E, A, lp]) (fin1 rfl)
    | str s =>
      by_cases hs : s ∈ G.map (·.1)
      · have h1 : hk (gK G) (.inr s) = true := by rw [hk_gK, decide_eq_true hs]
        exact Run_of (o := .nx (E A)) (by simp [E, A, lp, isi_str, h1]) (fin1 (by simp [okV]; simpa using hs))
      · have h1 : hk (gK G) (.inr s) = false := by rw [hk_gK, decide_eq_false hs]
        exact Run_of (o := .rt (.sh (.bl false)) (E A)) (by simp [E, A, lp, isi_str, h1]) (fin2 (by simp only [okV]; exact decide_eq_false hs))
    | bl b => have h1 := isi_non c (d := .bl b) trivial (fun s z => by cases z); exact Run_of (o := .rt (.sh (.bl false)) (E A)) (by simp [E, A, lp, h1]) (fin2 rfl)
    | int b => have h1 := isi_non c (d := .int b) trivial (fun s z => by cases z); exact Run_of (o := .rt (.sh (.bl false)) (E A)) (by simp [E, A, lp, h1]) (fin2 rfl)
    | lst b => have h1 := isi_non c (d := .lst b) trivial (fun s z => by cases z); exact Run_of (o := .rt (.sh (.bl false)) (E A)) (by simp [E, A, lp, h1]) (fin2 rfl)
    | tup b => have h1 := isi_non c (d := .tup b) trivial (fun s z => by cases z); exact Run_of (o := .rt (.sh (.bl false)) (E A)) (by simp [E, A, lp, h1]) (fin2 rfl)
    | dct b => have h1 := isi_non c (d := .dct b) trivial (fun s z => by cases z); exact Run_of (o := .rt (.sh (.bl false)) (E A)) (by simp [E, A, lp, h1]) (fin2 rfl)
    | ins C fs => exact hp.elim
    | exn C b fs => exact hp.elim
    | scr ns => exact hp.elim
  · rintro e ⟨l1, l2, a, hG, hd, hu, ha, rfl⟩
    have : l2 = [] := by cases l2 with | nil => rfl | cons _ _ => cases hd
    subst this
    rw [List.append_nil] at hG
    exact .inl ⟨a, ha, rfl, fun p hp => hu p (by rw [← hG]; exact hp)⟩
end
theorem gK_of : ∀ (kvs : List (Key × D)), (kvs.all fun q => nmD (kD q.1)) = true → ∃ G, kvs = gK G ∧ ∀ p ∈ G, nmOk p.1 = true
  | [], _ => ⟨[], rfl, fun p hp => by cases hp⟩
  | (k, d) :: r, h => by
    simp only [List.all_cons, Bool.and_eq_true] at h
    obtain ⟨G, rfl, hG⟩ := gK_of r h.2
    cases k with
    | inl i => simp [kD, nmD] at h
    | inr n =>
      refine ⟨(n, d) :: G, rfl, fun p hp => ?_⟩
      rcases List.mem_cons.mp hp with rfl | hp
      · exact h.1
      · exact hG p hp
theorem fo_of : ∀ (G L : List (Str × D)), (∀ p ∈ G, okV L p.2 = true) → ∃ F : Fo, gK G = foK F ∧ nms F = G.map (·.1) ∧ ∀ q ∈ F, ∀ m, q.2 = some m → m ∈ L.map (·.1)
  | [], _, _ => ⟨[], rfl, rfl, fun q hq => by cases hq⟩
  | (n, d) :: r, L, h => by
    obtain ⟨F, h1, h2, h3⟩ := fo_of r L fun p hp => h p (List.mem_cons_of_mem _ hp)
    have h0 := h (n, d) (by simp)
    obtain ⟨o, rfl, ho⟩ : ∃ o, d = parD o ∧ ∀ m, o = some m → m ∈ L.map (·.1) := by
      cases d with
      | non => exact ⟨none, rfl, fun m hm => by cases hm⟩
      | str s => exact ⟨some s, rfl, fun m hm => by cases hm; simpa [okV] using h0⟩
      | _ => simp [okV] at h0
    refine ⟨(n, o) :: F, by simp only [gK, List.map_cons, foK] at h1 ⊢; rw [h1], by simp only [nms, List.map_cons] at h2 ⊢; rw [h2], fun q hq m hm => ?_⟩
    rcases List.mem_cons.mp hq with rfl | hq
    · exact ho m hm
    · exact h3 q hq m hm
theorem gK_fo {G : List (Str × D)} {F : Fo} (h : gK G = foK F) : G.map (·.1) = nms F ∧ ∀ p ∈ G, ∃ o, (p.1, o) ∈ F ∧ p.2 = parD o := by
  induction G generalizing F with
  | nil => cases F with
    | nil => exact ⟨rfl, fun p hp => by cases hp⟩
    | cons a r => simp [gK, foK] at h
  | cons a r ih =>
    cases F with
    | nil => simp [gK, foK] at h
    | cons b s =>
      simp only [gK, foK, List.map_cons, List.cons.injEq, Prod.mk.injEq, Sum.inr.injEq] at h ih
      obtain ⟨⟨h1, h2⟩, h3⟩ := h
      obtain ⟨i1, i2⟩ := ih h3
      refine ⟨by simp only [List.map_cons, nms] at i1 ⊢; rw [h1, i1], fun p hp => ?_⟩
      rcases List.mem_cons.mp hp with rfl | hp
      · exact ⟨b.2, by rw [h1]; simp, h2⟩
      · obtain ⟨o, a1, a2⟩ := i2 p hp
        exact ⟨o, List.mem_cons_of_mem _ a1, a2⟩
section
variable (c : Cs)
theorem is_forest_ok (kvs : List (Key × D)) (nd : (kvs.map (·.1)).Nodup) (hk : ∀ q ∈ kvs, TxOk (kD q.1)) (hv : ∀ q ∈ kvs, Pl q.2) (hl : kvs.length < 64) :
    Ret (f_law_is_forest c [.va (.sh (.dct kvs))]) fun t m => m = none ∧ ((t = .sh (.bl true) ∧ ∃ F, kvs = foK F ∧ Wf F ∧ NmF F) ∨ (t = .sh (.bl false) ∧ ¬ ∃ F, kvs = foK F ∧ Wf F ∧ NmF F)) := by
  have g0 : c_law_is_forest_0 c [.va (.sh (.dct kvs)), .un, .un, .un] = .ok (.tv (.lst (kvs.map fun q => .sh (.bl (nmD (kD q.1))))), [.va (.sh (.dct kvs)), .un, .un, .un]) := by
    refine mLc_map (fun q : Key × D => kD q.1) (fun q => [.va (.sh (.dct kvs)), .va (.sh (kD q.1)), .un, .un]) _ ?_ ?_ ?_ ?_
    · simp [kDs_map, List.map_map, Function.comp_def]
    · simp
    · rw [PySem.sizeLine_eq]; omega
    · intro q hq
      have := law_name c (kD q.1) (hk q hq) (pl_kD _)
      refine ⟨by simp [wpE], by simp [wpE], by simp [rst], .tv (.sh (.bl (nmD (kD q.1)))), ?_, rfl⟩
      generalize kD q.1 = d at this
      simp [this]
  have i1 := isd_dct c kvs
  have a0 : xAll [.lst (kvs.map fun q => .sh (.bl (nmD (kD q.1))))] = some (.sh (.bl (kvs.all fun q => nmD (kD q.1)))) := xAll_bls _ _
  generalize (kvs.map fun q => (T.sh (.bl (nmD (kD q.1))))) = L0 at g0 a0
  apply Ret_body
  cases h0 : (kvs.all fun q => nmD (kD q.1)) with
  | false =>
    rw [h0] at a0
    apply Run_seq
    refine Run_of (o := .rt (.sh (.bl false)) [.va (.sh (.dct kvs)), .un, .un, .un]) (by simp [i1, g0, a0]) (Ret_of (t := .sh (.bl false)) (m := none) (by simp) ⟨rfl, .inr ⟨rfl, fun ⟨F, e, w, nm⟩ => ?_⟩⟩)
    have : (kvs.all fun q => nmD (kD q.1)) = true := by
      rw [e]
      refine List.all_eq_true.mpr fun q hq => ?_
      obtain ⟨⟨n, o⟩, hm, rfl⟩ := List.mem_map.mp hq
      exact nm n (List.mem_map.mpr ⟨_, hm, rfl⟩)
    rw [h0] at this; cases this
  | true =>
    rw [h0] at a0
    refine Run_nx (e1 := [.va (.sh (.dct kvs)), .un, .un, .un]) (by simp [i1, g0, a0]) ?_
    obtain ⟨G, rfl, hG⟩ := gK_of kvs h0
    have ndG : (G.map (·.1)).Nodup := by
      rw [gK_keys] at nd
      exact List.Pairwise.of_map Sum.inr (fun a b h e => h (by rw [e])) nd
    have hlG : G.length < 64 := by simpa [gK] using hl
    have hvG : ∀ p ∈ G, Pl p.2 := fun p hp => hv (.inr p.1, p.2) (List.mem_map.mpr ⟨p, hp, rfl⟩)
    apply Run_seq
    refine Run_mono (forest0 c G ndG hvG hlG) ?_
    rintro o (⟨y, my, rfl, hok⟩ | ⟨y, rfl, p, hp, hno⟩)
    · obtain ⟨F, e1, e2, e3⟩ := fo_of G G hok
      have hcl : ∀ q ∈ F, ∀ m, q.2 = some m → m ∈ nms F := fun q hq m hm => by rw [e2]; exact e3 q hq m hm
      have ndF : (nms F).Nodup := by rw [e2]; exact ndG
      have nm : NmF F := fun n hn => by
        rw [e2] at hn
        obtain ⟨p, hp, rfl⟩ := List.mem_map.mp hn
        exact hG p hp
      have hlF : F.length < 64 := by rw [← nms_length, e2]; simpa using hlG
      rw [e1]
      apply Run_seq
      refine Run_mono (forest2 c F hcl hlF y .un .un my rfl rfl) ?_
      rintro o (⟨y1, y2, y3, rfl, hu⟩ | ⟨y1, y2, y3, rfl, n, hn, hu⟩)
      · exact Run_of (o := .rt (.sh (.bl true)) [.va (.sh (.dct (foK F))), y1, y2, y3]) (by simp) (Ret_of (t := .sh (.bl true)) (m := none) (by simp) ⟨rfl, .inl ⟨rfl, F, rfl, wf_of_up ndF hu, nm⟩⟩)
      · refine Ret_of (t := .sh (.bl false)) (m := none) (by simp) ⟨rfl, .inr ⟨rfl, fun ⟨F2, e, w2, _⟩ => ?_⟩⟩
        have hn2 : n ∈ nms F2 := by
          have := congrArg (List.map (·.1)) e
          rw [foK_keys, foK_keys] at this
          have hm : (Sum.inr n : Key) ∈ (nms F).map Sum.inr := List.mem_map.mpr ⟨n, hn, rfl⟩
          rw [this] at hm
          obtain ⟨a, ha, he⟩ := List.mem_map.mp hm
          cases he; exact ha
        obtain ⟨k, hk2⟩ := up_of_wf w2 n hn2
        have tr : ∀ {k : Nat} {o : Option Str}, Up F2 k o → Up F k o := by
          intro k o hup
          induction hup with
          | top => exact .top
          | @one k m hm _ ih =>
            have hm2 : m ∈ nms F := by
              have := congrArg (List.map (·.1)) e
              rw [foK_keys, foK_keys] at this
              have hq : (Sum.inr m : Key) ∈ (nms F2).map Sum.inr := List.mem_map.mpr ⟨m, hm, rfl⟩
              rw [← this] at hq
              obtain ⟨a, ha, he⟩ := List.mem_map.mp hq
              cases he; exact ha
            have hpar : par F m = par F2 m := by
              have l1 := foK_lk F m
              have l2 := foK_lk F2 m
              rw [e, l2, lk_par hm, lk_par hm2] at l1
              simp only [Option.map_some, Option.some.injEq] at l1
              cases h1 : par F m <;> cases h2 : par F2 m <;> rw [h1, h2] at l1 <;> simp [parD] at l1 <;> first | rfl | rw [l1]
            exact .one hm2 (by rw [hpar]; exact ih)
        exact hu ⟨k, tr hk2⟩
    · refine Ret_of (t := .sh (.bl false)) (m := none) (by simp) ⟨rfl, .inr ⟨rfl, fun ⟨F, e, w, _⟩ => ?_⟩⟩
      obtain ⟨f1, f2⟩ := gK_fo e
      obtain ⟨o, a1, a2⟩ := f2 p hp
      obtain ⟨r, hr⟩ := w.rank
      have : okV G p.2 = true := by
        rw [a2]
        cases o with
        | none => rfl
        | some m => simp only [parD, okV]; exact decide_eq_true (by rw [f1]; exact (hr.up _ _ a1).1)
      rw [hno] at this; cases this
end
abbrev plT (c : Cs) (S : Fo) (Q : Qu) (P : Fo) (ds : List Dd) (l0 : List Str) (Ls : List (List Str)) (k : Nat) : T := .ins c.Plan [("row", .sh (.lst (dds ds))), ("rules", .sh (rlD c S Q P)), ("states", .lst (shs (stl (l0 :: Ls)))), ("place", .sh (.int k))]
end W
namespace DL
open PySem PySem.Spec PyProof.Rows L2
end DL
namespace W
open PySem PySem.Spec PyProof.Rows L2 DL
def plD : D → Bool
  | .ins _ _ => false | .scr _ => false | .exn _ _ _ => false
  | _ => true
def isS : D → Bool
  | .str _ => true
  | _ => false
theorem isi_strP (c : Cs) {d : D} (h : plD d = true) : oIsi tb_str (ic_str c) [.sh d] = some (.sh (.bl (isS d))) := by
  cases d <;> first | (simp [plD] at h; done) | simp [oIsi, isiF, tb_str, tyN, isS]
abbrev Ow := List (Str × Option Int)
def opD : Option Int → D
  | none => .non
  | some i => .int i
@[simp] theorem opD_none : opD none = .non := rfl
@[simp] theorem opD_some (i : Int) : opD (some i) = .int i := rfl
def owns (O : Ow) : List Str := O.map (·.1)
def chg (old l : List Str) (n : Str) : Bool := decide (n ∈ old) != decide (n ∈ l)
@[simp] theorem xNe_bls (a b : Bool) : xNe [.sh (.bl a), .sh (.bl b)] = some (.sh (.bl (a != b))) := by cases a <;> cases b <;> rfl
theorem pw39 : xPow [.sh (.int 10), .sh (.int 39)] = some (.sh (.int 1000000000000000000000000000000000000000)) := by
  rfl
def ins (l : List Str) (n : Nat) (q : D) : List D := sts (l.take n) ++ q :: sts (l.drop n)
theorem non_exn (C : Addr) (b : Bool) (fs : List (Str × D)) : DL.isNon (.exn C b fs) = false := rfl
theorem lk_xs {c : Cs} (f : Nat → Bool) : ∀ {xs : List Nat} (hi : ∀ i ∈ xs, ∀ j ∈ xs, c.ad i = c.ad j → i = j) {i : Nat} (h : i ∈ xs), lk (xs.map fun i => (c.ad i, f i)) (c.ad i) = some (f i)
  | [], _, _, h => by cases h
  | x :: r, hi, i, h => by
    simp only [List.map_cons, lk]
    by_cases e : c.ad x = c.ad i
    · rw [if_pos e, hi x (by simp) i h e]
    · rw [if_neg e]
      rcases List.mem_cons.mp h with rfl | h
      · exact absurd rfl e
      · exact lk_xs f (fun i hi' j hj => hi i (by simp [hi']) j (by simp [hj])) h
section
variable (c : Cs) (hxs : c.xs = [24, 25])
theorem word4_ret (e : DL.Env) : runZ (r_law_word_v1 c) 4 1 .non e = .ok (.tv (.sh (.str "")), e) := by
  simp [runZ, r_law_word_v1]
include hxs
theorem x4g : lk (cx_QuotaError c) c.InvalidGroups = some true ∧ lk (ix_InvalidGroups c) c.InvalidGroups = some true ∧ lk (ix_UnknownGroup c) c.InvalidGroups = some false := by
  have h : 24 ∈ c.xs := by rw [hxs]; simp
  exact ⟨lk_xs (fun _ => true) c.injx h, lk_xs _ c.injx h, lk_xs _ c.injx h⟩
theorem x4u : lk (cx_QuotaError c) c.UnknownGroup = some true ∧ lk (ix_InvalidGroups c) c.UnknownGroup = some false ∧ lk (ix_UnknownGroup c) c.UnknownGroup = some true := by
  have h : 25 ∈ c.xs := by rw [hxs]; simp
  exact ⟨lk_xs (fun _ => true) c.injx h, lk_xs _ c.injx h, lk_xs _ c.injx h⟩
theorem word4_groups (e : DL.Env) : runZ (r_law_word_v1 c) 4 1 (Exn.D ⟨c.InvalidGroups, none⟩) e = .ok (.tv (.sh (.str "groups")), e) := by
  obtain ⟨h1, h2, h3⟩ := x4g c hxs
  have k1 : xCntB [.lst [.sh (.bl true), .sh (.bl false)], .sh (.bl true)] = some (.sh (.int 1)) := rfl
  have k2 : xIdxB [.lst [.sh (.bl true), .sh (.bl false)], .sh (.bl true)] = some (.sh (.int 0)) := rfl
  simp [runZ, r_law_word_v1, Exn.D, h1, h2, h3, oIsA, oIsE, isiA, isiE, lk, non_exn, k1, k2]
theorem word4_unknown (e : DL.Env) : runZ (r_law_word_v1 c) 4 1 (Exn.D ⟨c.UnknownGroup, none⟩) e = .ok (.tv (.sh (.str "unknown")), e) := by
  obtain ⟨h1, h2, h3⟩ := x4u c hxs
  have k1 : xCntB [.lst [.sh (.bl false), .sh (.bl true)], .sh (.bl true)] = some (.sh (.int 1)) := rfl
  have k2 : xIdxB [.lst [.sh (.bl false), .sh (.bl true)], .sh (.bl true)] = some (.sh (.int 1)) := rfl
  simp [runZ, r_law_word_v1, Exn.D, h1, h2, h3, oIsA, oIsE, isiA, isiE, lk, non_exn, k1, k2]
end
def nobody : Str := "nobody"
theorem lk_mem {O : Ow} {n : Str} (h : n ∈ owns O) : ∃ v, lk O n = some v ∧ (n, v) ∈ O := by
  induction O with
  | nil => simp [owns] at h
  | cons q t ih =>
    simp only [lk]
    by_cases e : q.1 = n
    · exact ⟨q.2, by simp [e], by rw [← e]; exact List.mem_cons_self⟩
    · obtain ⟨v, h1, h2⟩ := ih (by simpa [owns, Ne.symm e] using h)
      exact ⟨v, by rw [if_neg e]; exact h1, List.mem_cons_of_mem _ h2⟩
theorem lk_none {O : Ow} {n : Str} (h : n ∉ owns O) : lk O n = none := by
  induction O with
  | nil => rfl
  | cons q t ih =>
    simp only [owns, List.map_cons, List.mem_cons, not_or] at h
    simp only [lk]
    rw [if_neg (Ne.symm h.1)]
    exact ih h.2
theorem Rb.yrepr {n k : Nat} {d : D} (h : Rb n k d) (hn : n ≤ 16777216) (hk : k ≤ 60) : ∃ r, ∀ t : T, t.er = d → yRepr [t] = some (.sh (.str r)) := by
  by_cases hi : isNode d = true
  · obtain ⟨r, hr⟩ := h.repr hn hk hi
    exact ⟨r, fun t ht => yRepr_x (hr t ht)⟩
  · have up : ∀ (d : D) (s : Str), isNode d = false → oReprF [d] = some (.str s) → ∀ t : T, t.er = d → yRepr [t] = some (.sh (.str s)) := by
      intro d s h1 h2 t ht
      have hx : xRepr [t] = none := by
        simp only [xRepr, liftD, List.map_cons, List.map_nil, ht, oRepr]
        cases e : d.pyv with
        | none => rfl
        | some p => simp [h1]
      rw [yRepr, hx]
      simp only [liftD, List.map_cons, List.map_nil, ht, h2]; rfl
    obtain ⟨p, h1, h2, h3, h4⟩ := h
    cases d with
    | non => exact ⟨_, up _ _ rfl rfl⟩
    | bl b => exact ⟨_, up _ _ rfl rfl⟩
    | int i =>
      cases h1
      refine ⟨toString i, up _ _ rfl ?_⟩
      simp only [PyData.showable, decide_eq_true_eq] at h2
      simp only [oReprF]
      rw [if_pos (by omega)]
    | str y =>
      cases h1
      refine ⟨reprText y, up _ _ rfl ?_⟩
      simp only [PyData.shown] at h3
      simp only [oReprF]
      have h5 : (reprText y).length ≤ sizeLine := Nat.le_trans h3 hn
      rw [if_pos h5]
    | lst _ => exact absurd rfl hi
    | tup _ => exact absurd rfl hi
    | dct _ => exact absurd rfl hi
    | ins _ _ => cases h1
    | scr _ => cases h1
    | exn _ _ _ => cases h1
def anR : Nat → Nat
  | 0 => 60
  | n + 1 => 3 * anR n + 300
structure OkA (n : Nat) (t : D) : Prop where
  p : plD t = true
  it : ∀ ds, t = .lst ds ∨ t = .tup ds → ds.length ≤ 3 ∧ ∀ d ∈ ds, plD d = true
  rb : Rb (anR n) n t
theorem OkA.up {n m : Nat} {t : D} (h : OkA n t) (hn : n ≤ m) : OkA m t := ⟨h.p, h.it, h.rb.mono (by
  induction hn with
  | refl => exact Nat.le_refl _
  | step _ ih => simp only [anR]; omega) hn⟩
def cA : List D := [.int 0, .int 1, .int (-1), .bl true, .non, .str "", .str "0", .str "a", .str "aA", .int 1000000000000000000000000000000000000000, .str "10"]
theorem cA_ok : ∀ t ∈ cA, OkA 0 t := by
  have st : ∀ s : Str, (∀ c ∈ s.cps.toList, c < 16 ^ 8) → s.length ≤ 5 → OkA 0 (.str s) := fun s h1 h2 => ⟨rfl, fun ds e => (by rcases e with e | e <;> cases e), (Rb.str (m := 60) h1 (by omega)).mono (by decide) (by omega)⟩
  have nt : ∀ i : Int, i.natAbs < 10 ^ 40 → OkA 0 (.int i) := fun i h => ⟨rfl, fun ds e => (by rcases e with e | e <;> cases e), (Rb.int (k := 40) (by omega) (by omega) h).mono (by decide) (by omega)⟩
  intro t ht
  simp only [cA, List.mem_cons, List.not_mem_nil, or_false] at ht
  rcases ht with rfl | rfl | rfl | rfl | rfl | rfl | rfl | rfl | rfl | rfl | rfl
  · exact nt _ (by decide)
  · exact nt _ (by decide)
  · exact nt _ (by decide)
  · exact ⟨rfl, fun ds e => (by rcases e with e | e <;> cases e), (Rb.bl true).mono (by decide) (by omega)⟩
  · exact ⟨rfl, fun ds e => (by rcases e with e | e <;> cases e), Rb.non.mono (by decide) (by omega)⟩
  · exact st _ (by decide +kernel) (by decide +kernel)
  · exact st _ (by decide +kernel) (by decide +kernel)
  · exact st _ (by decide +kernel) (by decide +kernel)
  · exact st _ (by decide +kernel) (by decide +kernel)
  · exact nt _ (by decide)
  · exact st _ (by decide +kernel) (by decide +kernel)
theorem cA_ix (v : Val) (j : Int) (h0 : 0 ≤ j) (h1 : j < 11) : ∃ d ∈ cA, ixT v (.lst (shs cA)) (.int j) = some (.tv (.sh d)) := by
  have : j = 0 ∨ j = 1 ∨ j = 2 ∨ j = 3 ∨ j = 4 ∨ j = 5 ∨ j = 6 ∨ j = 7 ∨ j = 8 ∨ j = 9 ∨ j = 10 := by omega
  rcases this with rfl | rfl | rfl | rfl | rfl | rfl | rfl | rfl | rfl | rfl | rfl <;> exact ⟨_, by simp only [cA, List.mem_cons, true_or, or_true], rfl⟩
theorem OkA.lst {n : Nat} {ds : List D} (h : ∀ d ∈ ds, OkA n d) (hl : ds.length ≤ 3) : OkA (n + 1) (.lst ds) :=
  ⟨rfl, fun es e => (by rcases e with e | e <;> cases e; exact ⟨hl, fun d hd => (h d hd).p⟩), (Rb.lst fun d hd => (h d hd).rb).mono (by simp only [anR]; have := Nat.mul_le_mul_right (anR n + 2) hl; omega) (Nat.le_refl _)⟩
theorem OkA.tup {n : Nat} {ds : List D} (h : ∀ d ∈ ds, OkA n d) (hl : ds.length ≤ 3) : OkA (n + 1) (.tup ds) :=
  ⟨rfl, fun es e => (by rcases e with e | e <;> cases e; exact ⟨hl, fun d hd => (h d hd).p⟩), (Rb.tup fun d hd => (h d hd).rb).mono (by simp only [anR]; have := Nat.mul_le_mul_right (anR n + 2) hl; omega) (Nat.le_refl _)⟩
theorem OkA.dct {n : Nat} {ps : List (Key × D)} (hk : ∀ q ∈ ps, ∃ s, q.1 = .inr s ∧ nmOk s = true) (h : ∀ q ∈ ps, OkA n q.2) (hl : ps.length ≤ 3) : OkA (n + 1) (.dct ps) :=
  ⟨rfl, fun es e => (by rcases e with e | e <;> cases e), (Rb.dct (m := 82) fun q hq => ⟨by obtain ⟨s, e, hs⟩ := hk q hq; rw [e]; exact Rb.nm hs, (h q hq).rb⟩).mono (by simp only [anR]; have := Nat.mul_le_mul_right (82 + anR n + 4) hl; omega) (Nat.le_refl _)⟩
def anD : Nat → Nat
  | 0 => 1
  | n + 1 => 3 * anD n + 2
def kA : List Str := ["a", "b", "c"]
def zipA (ds : List D) : List (Key × D) := (List.range ds.length).map fun k => (.inr (kA.getD k ""), ds.getD k .non)
theorem kA_ix (v : Val) (k : Nat) (h : k < 3) : ixT v (.lst [.sh (.str "a"), .sh (.str "b"), .sh (.str "c"), .sh (.int 0)]) (.int (k : Int)) = some (.tv (.sh (.str (kA.getD k "")))) := by
  have : k = 0 ∨ k = 1 ∨ k = 2 := by omega
  rcases this with rfl | rfl | rfl <;> rfl
theorem kA_nm (k : Nat) (h : k < 3) : nmOk (kA.getD k "") = true := by
  have : k = 0 ∨ k = 1 ∨ k = 2 := by omega
  rcases this with rfl | rfl | rfl <;> decide +kernel
theorem zipA_nd (ds : List D) (hl : ds.length ≤ 3) : ((zipA ds).map (·.1)).Nodup := by
  have e : (zipA ds).map (·.1) = (List.range ds.length).map fun k => (.inr (kA.getD k "") : Key) := by simp [zipA, List.map_map, Function.comp_def]
  rw [e]
  have : ds.length = 0 ∨ ds.length = 1 ∨ ds.length = 2 ∨ ds.length = 3 := by omega
  rcases this with h | h | h | h <;> rw [h] <;> decide +kernel
theorem shs_ix (v : Val) (ds : List D) (k : Nat) (h : k < ds.length) : ixT v (.lst (shs ds)) (.int (k : Int)) = some (.tv (.sh (ds.getD k .non))) := by
  have hk : (shs ds)[k]? = some (.sh (ds.getD k .non)) := by
    simp [shs, List.getElem?_eq_getElem h, List.getD_eq_getElem?_getD]
  have h0 : (0 : Int) ≤ (k : Int) := by omega
  have h1 : (k : Int) < ((shs ds).length : Nat) := by simp [shs]; omega
  have hg : ds[k]? = some ds[k] := List.getElem?_eq_getElem h
  simp [ixT, ixN, h0, h1, hk, h, hg, subV]
theorem any_1 (c : Cs) (M L R : Slot) (ds : List D) (hl : ds.length ≤ 3) (hM : isM M = false ∨ True) : c_law_any_1 c [M, L, R, .va (.lst (shs ds)), .un, .un] = .ok (.tv (.lst (shs ((zipA ds).map tupD))), [M, L, R, .va (.lst (shs ds)), .un, .un]) := by
  have e : shs ((zipA ds).map tupD) = (List.range ds.length).map fun k => T.sh (.tup [.str (kA.getD k ""), ds.getD k .non]) := by simp [shs, zipA, tupD, kD, List.map_map, Function.comp_def]
  rw [e]
  refine mLc_map (fun k : Nat => D.int (k : Int)) (fun k => [M, L, R, .va (.lst (shs ds)), .un, .va (.sh (.int (k : Int)))]) _ ?_ ?_ ?_ ?_
  · have := mR1_ok (ms := mCons (mOp xLen (mCons (mN 3) (mNil))) (mNil)) (e := [M, L, R, .va (.lst (shs ds)), .un, .un]) (e1 := [M, L, R, .va (.lst (shs ds)), .un, .un]) (j := (ds.length : Int)) (by simp) (by omega) (by omega)
    rw [this]
    simp [rngD]
  · simp
  · rw [List.length_range]; exact Nat.le_trans hl (by decide)
  · intro k hk
    have hk := List.mem_range.mp hk
    have g1 := fun v => kA_ix v k (by omega)
    have g2 := fun v => shs_ix v ds k hk
    obtain ⟨a, ha⟩ : ∃ a, a = kA.getD k "" := ⟨_, rfl⟩
    obtain ⟨b, hb⟩ : ∃ b, b = ds.getD k .non := ⟨_, rfl⟩
    rw [← ha] at g1 ⊢
    rw [← hb] at g2 ⊢
    refine ⟨by simp, by simp, by simp, .tv (.sh (.tup [.str a, b])), ?_, rfl⟩
    simp [-ixT_lst, -getElem?_pos, g1, g2]
structure AnyP (Pn : Nat → D → Prop) : Prop where
  c0 : ∀ n, ∀ t ∈ cA, Pn n t
  ls : ∀ n (ds : List D), (∀ d ∈ ds, Pn n d) → ds.length ≤ 3 → Pn (n + 1) (.lst ds)
  tp : ∀ n (ds : List D), (∀ d ∈ ds, Pn n d) → ds.length ≤ 3 → Pn (n + 1) (.tup ds)
  dc : ∀ n (ds : List D), (∀ d ∈ ds, Pn n d) → ds.length ≤ 3 → Pn (n + 1) (.dct (zipA ds))
theorem any_gen (c : Cs) (cs : List Int) {Pn : Nat → D → Prop} (A : AnyP Pn) : ∀ (n lv : Nat) (i p : Int), lv < n → lv ≤ 3 → 0 ≤ i → i + 1000 * (lv + 1) ≤ 2 ^ 97 → Ret (g_law_any n c [.mu (penT cs i p), .va (.sh (.int (lv : Int)))]) fun t u => ∃ i' p', Pn lv t.er ∧ u = some (penT cs i' p') ∧ i ≤ i' ∧ i' ≤ i + anD lv
  | 0, lv, i, p, h, _, _, _ => by omega
  | n + 1, lv, i, p, h, h3, hi, hi' => by
    let L : Slot := .va (.sh (.int (lv : Int)))
    have hx : ∃ m : Int, m = (if lv = 0 then 11 else 15) := ⟨_, rfl⟩
    obtain ⟨m, hm⟩ := hx
    have hm1 : 0 < m ∧ m ≤ 15 := by split at hm <;> omega
    obtain ⟨r, i1, p1, hd, r0, r1, b1, b2⟩ := draw_ok c cs i p m hi (by omega) (by omega) (by omega)
    show Ret (bodyF 6 (b_law_any c (g_law_any n c)) [.mu (penT cs i p), L]) _
    apply Ret_body
    let R : Slot := .va (.sh (.int r))
    refine Run_nx (e1 := [.mu (penT cs i1 p1), L, R, .un, .un, .un]) (by
      rw [mAsg_ap]
      by_cases h0 : lv = 0
      · rw [if_pos h0] at hm
        subst h0; subst hm
        simp [L, R, hd]
      · rw [if_neg h0] at hm
        have hp : (0 : Int) < (lv : Int) := by omega
        subst hm
        have hpn : 0 < lv := by omega
        simp [L, R, hd, hpn]) ?_
    by_cases hr : r < 11
    · obtain ⟨d, hdm, hix⟩ := cA_ix (.tv (.lst (shs cA))) r r0 hr
      apply Run_seq
      refine Run_of (o := .rt (.sh d) [.mu (penT cs i1 p1), L, R, .un, .un, .un]) ?_ ?_
      · have e : shs cA = [.sh (.int 0), .sh (.int 1), .sh (.int (-1)), .sh (.bl true), .sh .non, .sh (.str ""), .sh (.str "0"), .sh (.str "a"), .sh (.str "aA"), .sh (.int 1000000000000000000000000000000000000000), .sh (.str "10")] := rfl
        rw [e] at hix
        have pw := pw39
        simp [-ixT_lst, -getElem?_pos, L, R, hr, pw, hix]
      · refine Ret_of (t := .sh d) (m := some (penT cs i1 p1)) (by simp) ⟨i1, p1, A.c0 _ d hdm, rfl, b1, ?_⟩
        have : 1 ≤ anD lv := by cases lv <;> simp [anD]
        omega
    · have h0 : lv ≠ 0 := fun z => by rw [if_pos z] at hm; omega
      obtain ⟨k, rfl⟩ : ∃ k, lv = k + 1 := ⟨lv - 1, by omega⟩
      refine Run_nx (e1 := [.mu (penT cs i1 p1), L, R, .un, .un, .un]) (by simp [L, R, hr]) ?_
      obtain ⟨q, i2, p2, hq, q0, q1, b3, b4⟩ := draw_ok c cs i1 p1 4 (by omega) (by omega) (by omega) (by omega)
      let E : Int → Int → Slot → DL.Env := fun a b x => [.mu (penT cs a b), L, R, .un, x, .un]
      obtain ⟨ts, e', hc, ds, i', p', x, rfl, rfl, hok, hlen, c1, c2⟩ : ∃ ts e', c_law_any_0 c (g_law_any n c) (E i1 p1 .un) = .ok (.tv (.lst ts), rst (E i2 p2 .un) [4] e') ∧
          ∃ (ds : List D) (i' p' : Int) (x : Slot), ts = shs ds ∧ e' = E i' p' x ∧ (∀ d ∈ ds, Pn k d) ∧ ds.length + ([] : List D).length = q.toNat ∧ i2 ≤ i' ∧ i' ≤ i2 + anD k * ds.length := by
        refine mLc_inv (fun rs acc e => ∃ (ds : List D) (i' p' : Int) (x : Slot), acc = shs ds ∧ e = E i' p' x ∧ (∀ d ∈ ds, Pn k d) ∧ ds.length + rs.length = q.toNat ∧ i2 ≤ i' ∧ i' ≤ i2 + anD k * ds.length) (e0 := E i2 p2 .un) (ds := rngD 0 q.toNat) ?_ ?_ ?_ ?_
        · exact mR1_ok (by simp [E, hq]) (by omega) (by omega)
        · simp [E]
        · exact ⟨[], i2, p2, .un, rfl, rfl, by simp, by simp [rngD], by omega, by simp⟩
        · rintro d rr acc e ⟨ds, i', p', x, rfl, rfl, hok, hlen, c1, c2⟩
          simp only [List.length_cons] at hlen
          have hk3 : anD k ≤ 100 := by
            have : k = 0 ∨ k = 1 ∨ k = 2 := by omega
            rcases this with rfl | rfl | rfl <;> decide
          have hds : ds.length ≤ 3 := by omega
          have hmul : anD k * ds.length ≤ 300 := Nat.le_trans (Nat.mul_le_mul hk3 hds) (by decide)
          obtain ⟨t, u, hg, i3, p3, ho, rfl, d1, d2⟩ := any_gen c cs A n k i' p' (by omega) (by omega) (by omega) (by omega)
          refine ⟨E i' p' (.va (.sh d)), true, E i' p' (.va (.sh d)), by simp [E], rfl, fun _ => ⟨.tv (.sh t.er), E i3 p3 (.va (.sh d)), .sh t.er, E i3 p3 (.va (.sh d)), ?_, rfl, ?_, ?_⟩, fun h => by cases h⟩
          · have : ((k + 1 : Nat) : Int) - 1 = (k : Int) := by omega
            simp [E, L, this, hg]
          · simp [shs]; exact Nat.lt_of_lt_of_le (by omega : ds.length < 100) (by decide)
          · refine ⟨ds ++ [t.er], i3, p3, _, by simp [shs], rfl, fun d hd => ?_, by simp; omega, by omega, ?_⟩
            · rcases List.mem_append.mp hd with h | h
              · exact hok d h
              · simp at h; subst h; exact ho
            · have e : (ds ++ [t.er]).length = ds.length + 1 := by simp
              rw [e]
              push_cast
              rw [Int.mul_add, Int.mul_one]
              omega
      have hds : ds.length ≤ 3 := by simp at hlen; omega
      have hb : i ≤ i' ∧ i' ≤ i + anD (k + 1) := by
        have := Nat.mul_le_mul_left (anD k) hds
        simp only [anD]
        push_cast
        push_cast at c2
        omega
      let M : Slot := .mu (penT cs i' p')
      refine Run_nx (e1 := [M, L, R, .va (.lst (shs ds)), .un, .un]) (by rw [mAsg_ap, hc]; simp [E, M]) ?_
      by_cases r11 : r = 11
      · apply Run_seq
        refine Run_of (o := .rt (.lst (shs ds)) [M, L, R, .un, .un, .un]) (by simp [M, L, R, r11]) ?_
        exact Ret_of (t := .lst (shs ds)) (m := some (penT cs i' p')) (by simp [M]) ⟨i', p', by simpa [shs, List.map_map, Function.comp_def] using A.ls _ _ hok hds, rfl, hb.1, hb.2⟩
      · refine Run_nx (e1 := [M, L, R, .va (.lst (shs ds)), .un, .un]) (by simp [M, L, R, r11]) ?_
        by_cases r12 : r = 12
        · have a1 := any_1 c M L R ds hds (.inr trivial)
          have od := oDictP_pairs (zipA_nd ds hds)
          obtain ⟨Z, hZ⟩ : ∃ Z, Z = zipA ds := ⟨_, rfl⟩
          rw [← hZ] at a1 od
          apply Run_seq
          refine Run_of (o := .rt (.dct (shk Z)) [M, L, R, .va (.lst (shs ds)), .un, .un]) (by
            simp only [M] at a1 ⊢
            simp [L, R, r12] at a1 ⊢
            simp [a1, od]) ?_
          refine Ret_of (t := .dct (shk Z)) (m := some (penT cs i' p')) (by simp [M]) ⟨i', p', ?_, rfl, hb.1, hb.2⟩
          have e : (T.dct (shk Z)).er = .dct Z := by simp
          rw [e, hZ]
          exact A.dc _ _ hok hds
        · refine Run_nx (e1 := [M, L, R, .va (.lst (shs ds)), .un, .un]) (by simp [M, L, R, r12]) ?_
          refine Run_of (o := .rt (.sh (.tup ds)) [M, L, R, .va (.lst (shs ds)), .un, .un]) (by simp [M, L, R]) ?_
          exact Ret_of (t := .sh (.tup ds)) (m := some (penT cs i' p')) (by simp [M]) ⟨i', p', by simpa using A.tp _ _ hok hds, rfl, hb.1, hb.2⟩
abbrev one (c : Nat) : Str := ⟨#[c]⟩
theorem cps_app (a b : Str) : (a ++ b).cps.toList = a.cps.toList ++ b.cps.toList := by
  show (Str.append a b).cps.toList = _
  simp [Str.append]
theorem len_cps (a : Str) : a.length = a.cps.toList.length := by simp [Str.length]
end W
namespace W
def SrtI (L : List Int) : Prop := L.Pairwise (· ≤ ·)
end W
namespace W
open PySem PySem.Spec PyProof.Rows L2 DL
def kd (F : Fo) (g : Str) : List Str := (nms F).filter fun h => decide (par F h = some g)
structure In where
  F : Fo
  X : List Str
  gr : Str → Str
  lo : Str → Nat
  hi : Str → Nat
  co : Str → Int
  fx : Str → Option Bool
structure In.Ok (I : In) : Prop where
  w : Wf I.F
  nd : I.X.Nodup
  gr : ∀ x ∈ I.X, I.gr x ∈ nms I.F
  lh : ∀ g ∈ nms I.F, I.lo g ≤ I.hi g
def In.inn (I : In) (g x : Str) : Bool := decide (g ∈ way I.F (I.gr x))
def In.cn (I : In) (χ : Str → Bool) (g : Str) : Nat := (I.X.filter fun x => χ x && I.inn g x).length
def In.cs (I : In) (χ : Str → Bool) (g : Str) : Int := ((I.X.filter fun x => χ x && I.inn g x).map I.co).sum
def In.tc (I : In) (χ : Str → Bool) : Int := ((I.X.filter χ).map I.co).sum
def In.Fx (I : In) (χ : Str → Bool) (x : Str) : Prop := ∀ b, I.fx x = some b → χ x = b
def In.Sub (I : In) (χ : Str → Bool) (g : Str) : Prop := (∀ h ∈ nms I.F, g ∈ way I.F h → I.lo h ≤ I.cn χ h ∧ I.cn χ h ≤ I.hi h) ∧ ∀ x ∈ I.X, I.inn g x = true → I.Fx χ x
def big : Int := 999999999999
abbrev Pr := Option (Int × Int)
structure Rg where
  lo : Str → Int
  hi : Str → Int
  st : Str → Int
  po : Str → Int
def pnD : Pr → D
  | none => .non
  | some q => quD q
@[simp] theorem pnD_none : pnD none = .non := rfl
@[simp] theorem pnD_some (q) : pnD (some q) = quD q := rfl
@[simp] theorem isNon_pnD (o : Pr) : isNon (pnD o) = o.isNone := by cases o <;> rfl
def Lz (s : Slot) : Prop := s = .un ∨ ∃ d, s = .va (.sh d)
theorem Lz.l {s : Slot} (h : Lz s) : lite s = true := by rcases h with rfl | ⟨d, rfl⟩ <;> rfl
abbrev CL := List (Int × Str)
def In.om (I : In) (g : Str) : List Str := I.X.filter fun x => decide (I.gr x = g) && decide (I.fx x = some true)
def In.ol (I : In) (g : Str) : List Str := I.X.filter fun x => decide (I.gr x = g) && decide (I.fx x = none)
def In.cx (I : In) (x : Str) : Int × Str := (I.co x, x)
structure Cl (I : In) (g : Str) (mu : List Str) (ma : CL) : Prop where
  nd : (mu ++ ma.map (·.2)).Nodup
  inn : ∀ x ∈ mu ++ ma.map (·.2), x ∈ I.X ∧ I.inn g x = true
  mx : ∀ x ∈ mu, I.fx x ≠ some false
  cx : ∀ q ∈ ma, q.1 = I.co q.2 ∧ I.fx q.2 = none
  srt : SrtI (ma.map (·.1))
  lb : ∀ χ, I.Sub χ g → mu.length ≤ I.cn χ g ∧ I.cn χ g ≤ mu.length + ma.length ∧ (mu.map I.co).sum + ((ma.map (·.1)).take (I.cn χ g - mu.length)).sum ≤ I.cs χ g
structure Op (I : In) (g : Str) (must : Str → List Str) (may : Str → CL) (mu : List Str) (M : CL) : Prop where
  pm : mu.Perm (I.om g ++ (kd I.F g).flatMap must)
  pa : M.Perm ((I.ol g).map I.cx ++ (kd I.F g).flatMap may)
  srt : SrtI (M.map (·.1))
  cl : ∀ h ∈ kd I.F g, Cl I h (must h) (may h)
abbrev Tb := List (Option Int)
theorem mExt_ap (mo ma : ME) (e : DL.Env) : mExt mo ma e = (mCons (mChk isL mo) (mCons ma mNil) e).bnd fun vs e1 => match vs with
  | [.pl i p, w] => match (cn w e1).bind kidsL with
    | some ds => match updP i p (extT ds) e1 with
      | some (_, e2) => .ok (.tv (.sh .non), e2)
      | none => .st
    | none => .st
  | _ => .st := rfl
abbrev Wn := List (Str × Bool)
theorem xAdd_st (s t : Str) (h : s.length + t.length ≤ 16777216) : xAdd [.sh (.str s), .sh (.str t)] = some (.sh (.str (s ++ t))) := by
  simp [xAdd, liftD, oAdd, f2i, oCatS, h]
section
variable (c : Cs) (cs : List Int) (n : Nat) (hn : n ≤ 40) (hn1 : 0 < n)
abbrev lS : Slot := .va (.sh (.str "abcdefghijklmnopqrstuvwxyz"))
abbrev nS (n : Nat) : Slot := .va (.sh (.int (n : Int)))
end
structure Sm (n : Nat) (s : Str) : Prop where
  l : s.length ≤ n
  c : ∀ x ∈ s.cps.toList, x < 128
theorem Sm.mono {n m : Nat} {s : Str} (h : Sm n s) (hm : n ≤ m) : Sm m s := ⟨Nat.le_trans h.l hm, h.c⟩
theorem Sm.app {n m : Nat} {a b : Str} (ha : Sm n a) (hb : Sm m b) : Sm (n + m) (a ++ b) := by
  refine ⟨?_, fun x hx => ?_⟩
  · have := ha.l; have := hb.l
    rw [len_cps, cps_app, List.length_append, ← len_cps, ← len_cps]; omega
  · rw [cps_app] at hx
    rcases List.mem_append.mp hx with h | h
    · exact ha.c x h
    · exact hb.c x h
theorem Sm.join {k n : Nat} {a : Str} (ha : Sm k a) : ∀ {ls : List Str}, (∀ s ∈ ls, Sm n s) → Sm (ls.length * (n + k)) (Txt.join a ls)
  | [], _ => by rw [TL.join_eq, Str.join.eq_1]; exact ⟨Nat.zero_le _, fun x hx => by cases hx⟩
  | [z], h => by
    rw [TL.join_eq, Str.join.eq_2]
    exact (h z (by simp)).mono (by simp)
  | z :: b :: r, h => by
    have ih := Sm.join ha (ls := b :: r) fun s hs => h s (List.mem_cons_of_mem _ hs)
    rw [TL.join_eq] at ih ⊢
    rw [Str.join.eq_3 _ _ _ (by simp)]
    refine (((h z (by simp)).app ha).app ih).mono ?_
    simp only [List.length_cons, Nat.add_mul]; omega
theorem Sm.cut {n : Nat} {z : Str} (h : Sm n z) (lo hi : Option Int) : Sm n (cutS z lo hi) := by
  have e : (cutS z lo hi).cps.toList = ((z.cps.toList.drop (HT.sIx z.length 0 lo)).take (HT.sIx z.length z.length hi - HT.sIx z.length 0 lo)) := by
    simp [cutS]
  refine ⟨?_, fun x hx => ?_⟩
  · have := h.l
    rw [len_cps] at this
    rw [len_cps, e]
    simp only [List.length_take, List.length_drop]; omega
  · rw [e] at hx
    exact h.c x (List.drop_subset _ _ (List.take_subset _ _ hx))
theorem Sm.rb {n : Nat} {s : Str} (h : Sm n s) : Rb (10 * n + 2) 0 (.str s) := Rb.str (fun c hc => by have := h.c c hc; omega) (by have := h.l; omega)
theorem Sm.one {x : Nat} (h : x < 128) : Sm 1 (⟨#[x]⟩ : Str) := ⟨Nat.le_refl _, fun y hy => by simp at hy; omega⟩
theorem Sm.lit {s : Str} {n : Nat} (h : (decide (s.length ≤ n) && s.cps.toList.all fun x => decide (x < 128)) = true) : Sm n s := by
  simp only [Bool.and_eq_true, decide_eq_true_eq, List.all_eq_true] at h
  exact ⟨h.1, h.2⟩
theorem ixT_str (v : Val) {z : Str} {j : Int} (hz : z.length ≤ 16777216) (h0 : 0 ≤ j) (h1 : j < z.length) : ∃ x ∈ z.cps.toList, ixT v (.sh (.str z)) (.int j) = some (.tv (.sh (.str ⟨#[x]⟩))) := by
  have hl : j.toNat < z.cps.toList.length := by rw [← len_cps]; omega
  have h1' : j < (z.cps.toList.length : Int) := by rw [← len_cps]; exact h1
  refine ⟨z.cps.toList[j.toNat], List.getElem_mem hl, ?_⟩
  have hz' : z.length ≤ sizeLine := hz
  show (if z.length ≤ sizeLine then (atI z.cps.toList j).map fun c => Val.tv (.sh (.str ⟨#[c]⟩)) else none) = _
  rw [if_pos hz', atI_ap, ixN_ap, if_pos h0, if_pos h1']
  simp only [Option.bind_some, List.getElem?_eq_getElem hl, Option.map_some]
theorem xJoin_l {a : Str} {ls : List Str} (h : lenS ls + ls.length * a.length ≤ 16777216) : xJoin [.sh (.str a), .lst (shs (sts ls))] = some (.sh (.str (Txt.join a ls))) := by
  have e : kidsL (.lst (shs (sts ls))) = some (sts ls) := by simp
  simp only [xJoin, e, Option.bind_some, strsD_sts, h, if_true]
theorem lenS_le2 {n : Nat} : ∀ {ls : List Str}, (∀ s ∈ ls, s.length ≤ n) → lenS ls ≤ ls.length * n
  | [], _ => Nat.zero_le _
  | a :: r, h => by
    have ih := lenS_le2 (ls := r) fun s hs => h s (List.mem_cons_of_mem _ hs)
    have := h a (by simp)
    simp only [lenS, List.map_cons, List.sum_cons, List.length_cons, Nat.add_mul] at ih ⊢
    omega
theorem oSh_str {z : Str} (hz : z.length ≤ 16777216) (j : Int) : oSh [.sh (.str z), .sh (.int j)] = some (.sh (.str (cutS z none (some j)))) := by
  have hz' : z.length ≤ sizeLine := hz
  simp only [oSh, slT, kidsL, hz', if_true]
theorem oSl_str {z : Str} (hz : z.length ≤ 16777216) (j : Int) : oSl [.sh (.str z), .sh (.int j)] = some (.sh (.str (cutS z (some j) none))) := by
  have hz' : z.length ≤ sizeLine := hz
  simp only [oSl, slT, kidsL, hz', if_true]
theorem zs04 : (repS "a" 5000).length = 5000 ∧ ∀ x ∈ (repS "a" 5000).cps.toList, x = 97 := by
  refine ⟨?_, fun x hx => ?_⟩
  · rw [repS_len]
    have : ("a" : Str).length = 1 := by decide +kernel
    rw [this]
  · have h2 := repS_mem hx
    have e : ("a" : Str).cps.toList = [97] := by decide +kernel
    rw [e] at h2
    simpa using h2
def Nmy (d : D) : Prop := (∃ s, d = .str s ∧ Sm 5000 s) ∨ d = .int 5
theorem odd_name_ok (c : Cs) (cs : List Int) (i p : Int) (hi : 0 ≤ i) (hi' : i < 2 ^ 95) :
    Ret (f_law_odd_name c [.mu (penT cs i p)]) fun t u => ∃ (d : D) (i' p' : Int), t = .sh d ∧ u = some (penT cs i' p') ∧ i ≤ i' ∧ i' ≤ i + 20 ∧ Nmy d := by
  obtain ⟨lt, hlt⟩ : ∃ lt : Str, lt = "abcdefghijklmnopqrstuvwxyz" := ⟨_, rfl⟩
  have lL : lt.length = 26 := by rw [hlt]; decide +kernel
  have sL : Sm 26 lt := by rw [hlt]; exact Sm.lit (by decide +kernel)
  obtain ⟨sg, hsg⟩ : ∃ sg : Str, sg = " -!./019:@AZ[_`{|}~\n\t\"'\\" := ⟨_, rfl⟩
  have lS : sg.length = 24 := by rw [hsg]; decide +kernel
  have sS : Sm 24 sg := by rw [hsg]; exact Sm.lit (by decide +kernel)
  obtain ⟨zz, hzz⟩ : ∃ zz : Str, zz = repS "a" 5000 := ⟨_, rfl⟩
  have sZ : Sm 5000 zz := by
    obtain ⟨h1, h2⟩ := zs04
    rw [← hzz] at h1 h2
    exact ⟨by omega, fun x hx => by rw [h2 x hx]; omega⟩
  have rp : oRepS [.sh (.str "a"), .sh (.int 5000)] = some (.sh (.str zz)) := by
    have : ("a" : Str).length = 1 := by decide +kernel
    rw [hzz]
    simp [oRepS, this]
  let LT : Slot := .va (.sh (.str lt))
  let SG : Slot := .va (.sh (.str sg))
  let E : Int → Int → Slot → Slot → Slot → Slot → Slot → DL.Env := fun a b x2 x3 x4 x5 x6 => [.mu (penT cs a b), LT, x2, x3, x4, x5, x6]
  apply Ret_body
  refine Run_nx (e1 := E i p .un .un .un .un .un) (by rw [mAsg_ap]; rw [← hlt]; simp [E, LT]) ?_
  obtain ⟨n, i1, p1, hd, n0, n1, b1, b2⟩ := draw_ok c cs i p 10 hi (by omega) (by omega) (by omega)
  obtain ⟨ts, e', hc, l, i2, p2, x3, rfl, rfl, hl, hlen, c1, c2⟩ : ∃ ts e', c_law_odd_name_0 c (E i p .un .un .un .un .un) = .ok (.tv (.lst ts), rst (E i1 p1 .un .un .un .un .un) [3] e') ∧
      ∃ (l : List Str) (i' p' : Int) (x : Slot), ts = shs (sts l) ∧ e' = E i' p' .un x .un .un .un ∧ (∀ s ∈ l, Sm 1 s) ∧ l.length + ([] : List D).length = n.toNat ∧ i1 ≤ i' ∧ i' ≤ i1 + l.length := by
    refine mLc_inv (fun ds acc e => ∃ (l : List Str) (i' p' : Int) (x : Slot), acc = shs (sts l) ∧ e = E i' p' .un x .un .un .un ∧ (∀ s ∈ l, Sm 1 s) ∧ l.length + ds.length = n.toNat ∧ i1 ≤ i' ∧ i' ≤ i1 + l.length) (e0 := E i1 p1 .un .un .un .un .un) (ds := rngD 0 n.toNat) ?_ ?_ ?_ ?_
    · exact mR1_ok (by simp [E, hd]) (by omega) (by omega)
    · simp [E]
    · exact ⟨[], i1, p1, .un, rfl, rfl, by simp, by simp [rngD], by omega, by simp⟩
    · rintro d rr acc e ⟨l, i', p', x, rfl, rfl, hl, hlen, c1, c2⟩
      simp only [List.length_cons] at hlen
      obtain ⟨j, i3, p3, hj, j0, j1, d1, d2⟩ := draw_ok c cs i' p' 26 (by omega) (by omega) (by omega) (by omega)
      obtain ⟨y, hy, hix⟩ : ∃ y ∈ lt.cps.toList, ∀ v, ixT v (.sh (.str lt)) (.int j) = some (.tv (.sh (.str ⟨#[y]⟩))) := by
        obtain ⟨y, hy, h⟩ := ixT_str (.tv (.sh .non)) (z := lt) (j := j) (by omega) j0 (by omega)
        exact ⟨y, hy, fun v => h⟩
      refine ⟨E i' p' .un (.va (.sh d)) .un .un .un, true, E i' p' .un (.va (.sh d)) .un .un .un, by simp [E, LT], rfl, fun _ => ⟨.tv (.sh (.str ⟨#[y]⟩)), E i3 p3 .un (.va (.sh d)) .un .un .un, .sh (.str ⟨#[y]⟩), E i3 p3 .un (.va (.sh d)) .un .un .un, ?_, rfl, ?_, ?_⟩, fun h => by cases h⟩
      · simp [E, LT, hj, hix]
      · simp [shs]; exact Nat.lt_of_lt_of_le (by omega : l.length < 100) (by decide)
      · refine ⟨l ++ [⟨#[y]⟩], i3, p3, _, by simp [shs, sts], rfl, fun s hs => ?_, by simp; omega, by omega, by simp; omega⟩
        rcases List.mem_append.mp hs with h | h
        · exact hl s h
        · simp at h; subst h; exact Sm.one (sL.c y hy)
  have hl9 : l.length ≤ 9 := by simp at hlen; omega
  obtain ⟨w, hw⟩ : ∃ w : Str, w = Txt.join "" l := ⟨_, rfl⟩
  have sw : Sm 9 w := by
    have := Sm.join (k := 0) (a := "") (Sm.lit (by decide +kernel)) hl
    rw [← hw] at this
    exact this.mono (by omega)
  have xj : xJoin [.sh (.str ""), .lst (shs (sts l))] = some (.sh (.str w)) := by
    rw [hw]
    refine xJoin_l ?_
    have := lenS_le2 fun s hs => (hl s hs).l
    have e0 : ("" : Str).length = 0 := rfl
    rw [e0]; omega
  have xl : xLen [.sh (.str w)] = some (.sh (.int w.length)) := xLen_str w (by rw [PySem.sizeLine_eq]; have := sw.l; omega)
  let W2 : Slot := .va (.sh (.str w))
  refine Run_nx (e1 := E i2 p2 W2 .un .un .un .un) (by
    rw [mAsg_ap]
    have hsx : isSt (.sh (.str "")) = true := rfl
    rw [mOp_ap, mCons_ap, mChk_ap, mC_ap]
    simp only [bnd_ok, cn, hsx, if_true, pend_tv]
    rw [mCons_ap]
    obtain ⟨SL, hSL⟩ : ∃ SL, SL = shs (sts l) := ⟨_, rfl⟩
    rw [← hSL] at hc xj
    simp [hc, E, LT, W2, xj]) ?_
  obtain ⟨k, i3, p3, hk, k0, k1, b3, b4⟩ := draw_ok c cs i2 p2 ((w.length : Int) + 1) (by omega) (by omega) (by omega) (by have := sw.l; omega)
  let K4 : Slot := .va (.sh (.int k))
  refine Run_nx (e1 := E i3 p3 W2 .un K4 .un .un) (by rw [mAsg_ap]; simp [E, W2, K4, LT, xl, hk]) ?_
  refine Run_nx (e1 := E i3 p3 W2 .un K4 SG .un) (by rw [mAsg_ap]; rw [← hsg]; simp [E, SG, W2, K4, LT]) ?_
  obtain ⟨j, i4, p4, hj, j0, j1, b5, b6⟩ := draw_ok c cs i3 p3 24 (by omega) (by omega) (by omega) (by omega)
  obtain ⟨y, hy, hix⟩ : ∃ y ∈ sg.cps.toList, ∀ v, ixT v (.sh (.str sg)) (.int j) = some (.tv (.sh (.str ⟨#[y]⟩))) := by
    obtain ⟨y, hy, h⟩ := ixT_str (.tv (.sh .non)) (z := sg) (j := j) (by omega) j0 (by omega)
    exact ⟨y, hy, fun v => h⟩
  have sy : Sm 1 (⟨#[y]⟩ : Str) := Sm.one (sS.c y hy)
  have lw := sw.l
  have o1 := oSh_str (z := w) (by omega) k
  have o2 := oSl_str (z := w) (by omega) k
  have s1 := sw.cut none (some k)
  have s2 := sw.cut (some k) none
  have a1 := xAdd_st (cutS w none (some k)) ⟨#[y]⟩ (by have := s1.l; have := sy.l; omega)
  have s3 := s1.app sy
  have a2 := xAdd_st (cutS w none (some k) ++ ⟨#[y]⟩) (cutS w (some k) none) (by have := s3.l; have := s2.l; omega)
  have s4 := (s3.app s2).mono (m := 5000) (by omega)
  have xs : xLen [.sh (.str sg)] = some (.sh (.int 24)) := by
    have := xLen_str sg (by rw [PySem.sizeLine_eq]; omega)
    rw [lS] at this
    exact this
  obtain ⟨od, hod⟩ : ∃ od : Str, od = cutS w none (some k) ++ ⟨#[y]⟩ ++ cutS w (some k) none := ⟨_, rfl⟩
  rw [← hod] at a2 s4
  let O6 : Slot := .va (.sh (.str od))
  refine Run_nx (e1 := E i4 p4 W2 .un K4 SG O6) (by
    rw [mAsg_ap]
    obtain ⟨C1, hC1⟩ : ∃ C1, C1 = cutS w none (some k) := ⟨_, rfl⟩
    obtain ⟨C2, hC2⟩ : ∃ C2, C2 = cutS w (some k) none := ⟨_, rfl⟩
    rw [← hC1] at o1 a1 a2
    rw [← hC2] at o2 a2
    simp [E, W2, K4, SG, LT, O6, o1, o2, xs, hj, hix, a1, a2]) ?_
  obtain ⟨q, i5, p5, hq, q0, q1, b7, b8⟩ := draw_ok c cs i4 p4 8 (by omega) (by omega) (by omega) (by omega)
  let L : List D := [.str w, .str od, .str "", .str "abcdefghi", .str "A", .int 5, .str zz, .str "a"]
  have hL : ∀ d ∈ L, Nmy d := by
    intro d hd
    simp only [L, List.mem_cons, List.not_mem_nil, or_false] at hd
    rcases hd with rfl | rfl | rfl | rfl | rfl | rfl | rfl | rfl
    · exact .inl ⟨_, rfl, sw.mono (by omega)⟩
    · exact .inl ⟨_, rfl, s4⟩
    · exact .inl ⟨_, rfl, Sm.lit (by decide +kernel)⟩
    · exact .inl ⟨_, rfl, Sm.lit (by decide +kernel)⟩
    · exact .inl ⟨_, rfl, Sm.lit (by decide +kernel)⟩
    · exact .inr rfl
    · exact .inl ⟨_, rfl, sZ⟩
    · exact .inl ⟨_, rfl, Sm.lit (by decide +kernel)⟩
  obtain ⟨d, hdm, dix⟩ : ∃ d ∈ L, ∀ v, ixT v (.lst [.sh (.str w), .sh (.str od), .sh (.str ""), .sh (.str "abcdefghi"), .sh (.str "A"), .sh (.int 5), .sh (.str zz), .sh (.str "a")]) (.int q) = some (.tv (.sh d)) := by
    have ql : q.toNat < L.length := by show _ < 8; omega
    refine ⟨L.getD q.toNat .non, ?_, fun v => ?_⟩
    · rw [List.getD_eq_getElem?_getD, List.getElem?_eq_getElem ql]
      exact List.getElem_mem ql
    · have := shs_ix v L q.toNat ql
      have e : ((q.toNat : Nat) : Int) = q := by omega
      rw [e] at this
      exact this
  refine Run_of (o := .rt (.sh d) (E i5 p5 W2 .un K4 SG O6)) (by
    simp [-ixT_lst, -getElem?_pos, E, W2, K4, SG, LT, O6, rp, hq, dix]) ?_
  exact Ret_of (t := .sh d) (m := some (penT cs i5 p5)) (by simp [E]) ⟨d, i5, p5, rfl, rfl, by omega, by omega, hL d hdm⟩
section
variable {κ α : Type} [DecidableEq κ]
theorem pk_in4 {l : List (κ × α)} {k : κ} {a : α} {q : κ × α} (h : q ∈ DL.pk l k a) : q ∈ l ∨ q = (k, a) := by
  induction l with
  | nil => simp [DL.pk] at h; exact .inr h
  | cons p r ih =>
    simp only [DL.pk] at h
    split at h
    · rcases List.mem_cons.mp h with h | h
      · exact .inr h
      · exact .inl (List.mem_cons_of_mem _ h)
    · rcases List.mem_cons.mp h with h | h
      · exact .inl (by rw [h]; simp)
      · rcases ih h with h | h
        · exact .inl (List.mem_cons_of_mem _ h)
        · exact .inr h
theorem pk_k4 (l : List (κ × α)) (k : κ) (a : α) : ∀ x, x ∈ (DL.pk l k a).map (·.1) → x ∈ l.map (·.1) ∨ x = k := fun x hx => by
  obtain ⟨q, hq, rfl⟩ := List.mem_map.mp hx
  rcases pk_in4 hq with h | h
  · exact .inl (List.mem_map_of_mem h)
  · exact .inr (by rw [h])
theorem pk_nd4 {l : List (κ × α)} (k : κ) (a : α) (h : (l.map (·.1)).Nodup) : ((DL.pk l k a).map (·.1)).Nodup := by
  induction l with
  | nil => simp [DL.pk]
  | cons p r ih =>
    simp only [List.map_cons, List.nodup_cons] at h
    simp only [DL.pk]
    split
    · rename_i e
      simp only [List.map_cons, List.nodup_cons]
      exact ⟨by rw [← e]; exact h.1, h.2⟩
    · rename_i e
      simp only [List.map_cons, List.nodup_cons]
      refine ⟨fun hm => ?_, ih h.2⟩
      rcases pk_k4 r k a _ hm with z | z
      · exact h.1 z
      · exact e z
theorem pk_l4 (l : List (κ × α)) (k : κ) (a : α) : (DL.pk l k a).length ≤ l.length + 1 := by
  induction l with
  | nil => simp [DL.pk]
  | cons p r ih =>
    simp only [DL.pk]
    split
    · simp
    · simp only [List.length_cons]; omega
end
theorem fold4 : ∀ (ps acc : List (Key × D)), (acc.map (·.1)).Nodup → let m := ps.foldl (fun acc p => DL.pk acc p.1 p.2) acc
    (m.map (·.1)).Nodup ∧ m.length ≤ acc.length + ps.length ∧ ∀ q ∈ m, q ∈ acc ∨ q ∈ ps
  | [], acc, h => ⟨h, by simp, fun q hq => .inl hq⟩
  | p :: r, acc, h => by
    obtain ⟨h1, h2, h3⟩ := fold4 r (DL.pk acc p.1 p.2) (pk_nd4 _ _ h)
    refine ⟨h1, ?_, fun q hq => ?_⟩
    · have := pk_l4 acc p.1 p.2
      simp only [List.foldl_cons, List.length_cons] at h2 ⊢
      omega
    · rcases h3 q hq with z | z
      · rcases pk_in4 z with z | z
        · exact .inl z
        · exact .inr (by rw [z]; simp)
      · exact .inr (List.mem_cons_of_mem _ z)
theorem merge4 (ps : List (Key × D)) : ((mergeD ps).map (·.1)).Nodup ∧ (mergeD ps).length ≤ ps.length ∧ ∀ q ∈ mergeD ps, q ∈ ps := by
  obtain ⟨h1, h2, h3⟩ := fold4 ps [] (by simp)
  exact ⟨h1, by rw [List.length_nil, Nat.zero_add] at h2; exact h2, fun q hq => (h3 q hq).resolve_left (by simp)⟩
theorem oDictP_any (ps : List (Key × D)) : ((oDictD [.sh (.lst (ps.map tupD))]).or (oDictP [.sh (.lst (ps.map tupD))])) = some (.dct (shk (mergeD ps))) := by
  simp [oDictD, oDictP, kidsD, pairsD_map, shk]
theorem oSh_ds (ds : List D) (k : Int) (h : 0 ≤ k) : oSh [.lst (shs ds), .sh (.int k)] = some (.lst (shs (ds.take k.toNat))) := by
  have : ¬ k < 0 := by omega
  simp [this]
theorem oSl_ds (ds : List D) (k : Int) (h : 0 ≤ k) : oSl [.lst (shs ds), .sh (.int k)] = some (.lst (shs (ds.drop k.toNat))) := by
  have : ¬ k < 0 := by omega
  simp [this]
structure Vl (d : D) : Prop where
  p : Pl d
  t : TxOk d
  r : Rb 60000 3 d
structure Kv (n : Nat) (kvs : List (Key × D)) : Prop where
  nd : (kvs.map (·.1)).Nodup
  k : ∀ q ∈ kvs, Nmy (kD q.1)
  v : ∀ q ∈ kvs, Vl q.2
  l : kvs.length ≤ n
theorem Nmy.key {d : D} (h : Nmy d) : ∃ k : Key, d = kD k := by
  rcases h with ⟨s, rfl, _⟩ | rfl
  · exact ⟨.inr s, rfl⟩
  · exact ⟨.inl 5, rfl⟩
theorem Nmy.rb {d : D} (h : Nmy d) : Rb 50002 0 d := by
  rcases h with ⟨s, rfl, h⟩ | rfl
  · exact h.rb
  · exact (Rb.int (k := 1) (by omega) (by omega) (by decide)).mono (by omega) (by omega)
theorem Nmy.tx {d : D} (h : Nmy d) : TxOk d := by
  intro s e
  rcases h with ⟨s', rfl, h⟩ | rfl
  · cases e; have := h.l; show _ ≤ 16777216; omega
  · cases e
theorem Nmy.vl {d : D} (h : Nmy d) : Vl d := ⟨by rcases h with ⟨s, rfl, _⟩ | rfl <;> trivial, h.tx, h.rb.mono (by omega) (by omega)⟩
theorem vl10 : ∀ d ∈ ([.non, .int 5, .bl true, .str "", .str "nobody", .lst [.str "a"], .tup [.str "a"], .tup [.lst [.str "a"]], .dct []] : List D), Vl d := by
  have x1 : Rb 82 0 (.str "a") := Rb.nm (by decide +kernel)
  have st : ∀ s : Str, Sm 10 s → Vl (.str s) := fun s h => (show Nmy (.str s) from .inl ⟨s, rfl, h.mono (by omega)⟩).vl
  have nt : ∀ (d : D) (n k : Nat), Pl d → (∀ s, d ≠ .str s) → Rb n k d → n ≤ 60000 → k ≤ 3 → Vl d := fun d n k h1 h2 h3 h4 h5 => ⟨h1, fun s e => absurd e (h2 s), h3.mono h4 h5⟩
  intro d h
  simp only [List.mem_cons, List.not_mem_nil, or_false] at h
  rcases h with rfl | rfl | rfl | rfl | rfl | rfl | rfl | rfl | rfl
  · exact nt _ _ _ trivial (fun s z => nomatch z) Rb.non (by omega) (by omega)
  · exact nt _ _ _ trivial (fun s z => nomatch z) (Rb.int (k := 1) (by omega) (by omega) (by decide)) (by omega) (by omega)
  · exact nt _ _ _ trivial (fun s z => nomatch z) (Rb.bl true) (by omega) (by omega)
  · exact st _ (Sm.lit (by decide +kernel))
  · exact st _ (Sm.lit (by decide +kernel))
  · exact nt _ _ _ trivial (fun s z => nomatch z) (Rb.lst (ds := [.str "a"]) (n := 82) (k := 0) (by simpa using x1)) (by simp) (by omega)
  · exact nt _ _ _ trivial (fun s z => nomatch z) (Rb.tup (ds := [.str "a"]) (n := 82) (k := 0) (by simpa using x1)) (by simp) (by omega)
  · exact nt _ _ _ trivial (fun s z => nomatch z) (Rb.tup (ds := [.lst [.str "a"]]) (n := 86) (k := 1) (by simpa using (Rb.lst (ds := [.str "a"]) (n := 82) (k := 0) (by simpa using x1)).mono (by simp) (by omega))) (by simp) (by omega)
  · exact nt _ _ _ trivial (fun s z => nomatch z) (Rb.dct (ds := []) (m := 0) (n := 0) (k := 0) (by simp)) (by simp) (by omega)
theorem ix_in (L : List D) (q : Int) (h0 : 0 ≤ q) (h1 : q < L.length) : ∃ d ∈ L, ∀ v, ixT v (.lst (shs L)) (.int q) = some (.tv (.sh d)) := by
  have ql : q.toNat < L.length := by omega
  refine ⟨L.getD q.toNat .non, ?_, fun v => ?_⟩
  · rw [List.getD_eq_getElem?_getD, List.getElem?_eq_getElem ql]
    exact List.getElem_mem ql
  · have := shs_ix v L q.toNat ql
    have e : ((q.toNat : Nat) : Int) = q := by omega
    rw [e] at this
    exact this
theorem bent4_ok (c : Cs) (cs : List Int) (i p : Int) (kvs : List (Key × D)) (n : Nat) (kv : Kv n kvs) (hn : n ≤ 20) (hi : 0 ≤ i) (hi' : i < 2 ^ 94) :
    Ret (f_law_bent c [.mu (penT cs i p), .va (.sh (.dct kvs))]) fun t u => ∃ (kvs' : List (Key × D)) (i' p' : Int), t = .dct (shk kvs') ∧ u = some (penT cs i' p') ∧ i ≤ i' ∧ i' ≤ i + 40 ∧ Kv (n + 1) kvs' := by
  have hln := kv.l
  let W : Slot := .va (.sh (.dct kvs))
  let I2 : Slot := .va (.lst (shs (kvs.map tupD)))
  let E : Int → Int → Slot → Slot → Slot → Slot → Slot → DL.Env := fun a b x3 x4 x5 x6 x7 => [.mu (penT cs a b), W, I2, x3, x4, x5, x6, x7]
  apply Ret_body
  refine Run_nx (e1 := E i p .un .un .un .un .un) (by rw [mAsg_ap]; simp [E, W, I2]) ?_
  obtain ⟨sp, i1, p1, hs, s0, s1, b1, b2⟩ := draw_ok c cs i p ((kvs.length : Int) + 1) hi (by omega) (by omega) (by omega)
  let S3 : Slot := .va (.sh (.int sp))
  refine Run_nx (e1 := E i1 p1 S3 .un .un .un .un) (by rw [mAsg_ap]; simp [E, W, I2, S3, hs]) ?_
  obtain ⟨NL, hNL⟩ : ∃ NL : List D, NL = kDs (kvs.map (·.1)) ++ [.str "late"] := ⟨_, rfl⟩
  have lNL : NL.length = kvs.length + 1 := by rw [hNL]; simp
  have nNL : ∀ d ∈ NL, Nmy d := by
    intro d hd
    rw [hNL] at hd
    rcases List.mem_append.mp hd with h | h
    · rw [kDs_map, List.map_map] at h
      obtain ⟨q, hq, rfl⟩ := List.mem_map.mp h
      exact kv.k q hq
    · simp at h; subst h; exact .inl ⟨_, rfl, Sm.lit (by decide +kernel)⟩
  have xa : xAdd [.sh (.lst (kDs (kvs.map (·.1)))), .sh (.lst [.str "late"])] = some (.lst (shs NL)) := by
    rw [hNL]
    exact xAdd_l rfl rfl (by simp; omega)
  let N4 : Slot := .va (.lst (shs NL))
  refine Run_nx (e1 := E i1 p1 S3 N4 .un .un .un) (by
    rw [mAsg_ap]
    obtain ⟨KK, hKK⟩ : ∃ KK, KK = kDs (kvs.map (·.1)) := ⟨_, rfl⟩
    rw [← hKK] at xa
    have xk : xList [.sh (.dct kvs)] = some (.lst (shs KK)) := by rw [hKK]; simp
    simp [-xList_shd, E, W, I2, S3, N4, xk, xa]) ?_
  obtain ⟨j, i2, p2, hj, j0, j1, b3, b4⟩ := draw_ok c cs i1 p1 (NL.length : Int) (by omega) (by omega) (by omega) (by omega)
  obtain ⟨d5, hd5, ix5⟩ := ix_in NL j j0 j1
  have n5 := nNL d5 hd5
  have xlN : xLen [.lst (shs NL)] = some (.sh (.int (NL.length : Int))) := by simp
  let X5 : Slot := .va (.sh d5)
  refine Run_nx (e1 := E i2 p2 S3 N4 X5 .un .un) (by
    rw [mAsg_ap]
    obtain ⟨SN, hSN⟩ : ∃ SN, SN = shs NL := ⟨_, rfl⟩
    obtain ⟨LN, hLN⟩ : ∃ LN, LN = (NL.length : Int) := ⟨_, rfl⟩
    simp only [N4]
    rw [← hSN] at ix5 xlN ⊢
    rw [← hLN] at xlN hj
    simp [-xLen_lst, -ixT_lst, -getElem?_pos, E, W, I2, S3, X5, xlN, hj, ix5]) ?_
  obtain ⟨k, i3, p3, hk, k0, k1, b5, b6⟩ := draw_ok c cs i2 p2 10 (by omega) (by omega) (by omega) (by omega)
  let OL : List D := [.non, .int 5, .bl true, .str "", .str "nobody", .lst [.str "a"], .tup [.str "a"], .tup [.lst [.str "a"]], .dct [], d5]
  obtain ⟨d6, hd6, ix6⟩ := ix_in OL k k0 k1
  have v6 : Vl d6 := by
    have : d6 ∈ ([.non, .int 5, .bl true, .str "", .str "nobody", .lst [.str "a"], .tup [.str "a"], .tup [.lst [.str "a"]], .dct []] : List D) ++ [d5] := hd6
    rcases List.mem_append.mp this with h | h
    · exact vl10 d6 h
    · simp at h; subst h; exact n5.vl
  have ix6 : ∀ v, ixT v (.lst [.sh .non, .sh (.int 5), .sh (.bl true), .sh (.str ""), .sh (.str "nobody"), .sh (.lst [.str "a"]), .sh (.tup [.str "a"]), .sh (.tup [.lst [.str "a"]]), .sh (.dct []), .sh d5]) (.int k) = some (.tv (.sh d6)) := ix6
  let X6 : Slot := .va (.sh d6)
  refine Run_nx (e1 := E i3 p3 S3 N4 X5 X6 .un) (by
    rw [mAsg_ap]
    obtain ⟨SN, hSN⟩ : ∃ SN, SN = shs NL := ⟨_, rfl⟩
    simp only [N4]
    rw [← hSN]
    simp [-ixT_lst, -getElem?_pos, E, W, I2, S3, X5, X6, hk, ix6]) ?_
  obtain ⟨t7, u7, ho, d7, i4, p4, rfl, rfl, b7, b8, n7⟩ := odd_name_ok c cs i3 p3 (by omega) (by omega)
  obtain ⟨j2, i5, p5, hj2, j20, j21, b9, b10⟩ := draw_ok c cs i4 p4 (NL.length : Int) (by omega) (by omega) (by omega) (by omega)
  obtain ⟨d8, hd8, ix8⟩ := ix_in NL j2 j20 j21
  have n8 := nNL d8 hd8
  let ML : List D := [.tup [d7, .non], .tup [.str "late", d6], .tup [d5, d8], .tup [d5, d5]]
  let M7 : Slot := .va (.lst [.sh (.tup [d7, .non]), .sh (.tup [.str "late", d6]), .sh (.tup [d5, d8]), .sh (.tup [d5, d5])])
  refine Run_nx (e1 := E i5 p5 S3 N4 X5 X6 M7) (by
    rw [mAsg_ap]
    obtain ⟨SN, hSN⟩ : ∃ SN, SN = shs NL := ⟨_, rfl⟩
    obtain ⟨LN, hLN⟩ : ∃ LN, LN = (NL.length : Int) := ⟨_, rfl⟩
    simp only [N4]
    rw [← hSN] at ix8 xlN ⊢
    rw [← hLN] at xlN hj2
    simp [-xLen_lst, -ixT_lst, -getElem?_pos, E, W, I2, S3, X5, X6, M7, ho, xlN, hj2, ix8]) ?_
  obtain ⟨q, i6, p6, hq, q0, q1, b11, b12⟩ := draw_ok c cs i5 p5 4 (by omega) (by omega) (by omega) (by omega)
  obtain ⟨d9, hd9, ix9⟩ := ix_in ML q q0 q1
  obtain ⟨nk, nv, rfl, hnk, hnv⟩ : ∃ (nk : Key) (nv : D), d9 = tupD (nk, nv) ∧ Nmy (kD nk) ∧ Vl nv := by
    have n9 : Nmy (.str "late") := .inl ⟨_, rfl, Sm.lit (by decide +kernel)⟩
    simp only [ML, List.mem_cons, List.not_mem_nil, or_false] at hd9
    rcases hd9 with rfl | rfl | rfl | rfl
    · obtain ⟨kk, rfl⟩ := n7.key; exact ⟨kk, _, rfl, n7, vl10 _ (by simp)⟩
    · exact ⟨.inr "late", _, rfl, n9, v6⟩
    · obtain ⟨kk, rfl⟩ := n5.key; exact ⟨kk, _, rfl, n5, n8.vl⟩
    · obtain ⟨kk, hkk⟩ := n5.key; subst hkk; exact ⟨kk, _, rfl, n5, n5.vl⟩
  have ix9 : ∀ v, ixT v (.lst [.sh (.tup [d7, .non]), .sh (.tup [.str "late", d6]), .sh (.tup [d5, d8]), .sh (.tup [d5, d5])]) (.int q) = some (.tv (.sh (tupD (nk, nv)))) := ix9
  obtain ⟨ps, hps⟩ : ∃ ps, ps = kvs.take sp.toNat ++ [(nk, nv)] ++ kvs.drop sp.toNat := ⟨_, rfl⟩
  have lps : ps.length ≤ n + 1 := by rw [hps]; simp; omega
  have o1 := oSh_ds (kvs.map tupD) sp s0
  have o2 := oSl_ds (kvs.map tupD) sp s0
  have a1 : xAdd [.lst (shs ((kvs.map tupD).take sp.toNat)), .sh (.lst [tupD (nk, nv)])] = some (.lst (shs ((kvs.map tupD).take sp.toNat ++ [tupD (nk, nv)]))) := xAdd_l (by simp) rfl (by simp; omega)
  have a2 : xAdd [.lst (shs ((kvs.map tupD).take sp.toNat ++ [tupD (nk, nv)])), .lst (shs ((kvs.map tupD).drop sp.toNat))] = some (.lst (shs (ps.map tupD))) := by
    have e : ps.map tupD = (kvs.map tupD).take sp.toNat ++ [tupD (nk, nv)] ++ (kvs.map tupD).drop sp.toNat := by rw [hps]; simp
    rw [e]
    exact xAdd_l (by simp) (by simp) (by simp; omega)
  have od := oDictP_any ps
  obtain ⟨h1, h2, h3⟩ := merge4 ps
  have hall : ∀ q ∈ ps, Nmy (kD q.1) ∧ Vl q.2 := by
    intro q hq
    rw [hps] at hq
    rcases List.mem_append.mp hq with h | h
    · rcases List.mem_append.mp h with h | h
      · have := List.mem_of_mem_take h; exact ⟨kv.k q this, kv.v q this⟩
      · simp at h; subst h; exact ⟨hnk, hnv⟩
    · have := List.mem_of_mem_drop h; exact ⟨kv.k q this, kv.v q this⟩
  refine Run_of (o := .rt (.dct (shk (mergeD ps))) (E i6 p6 S3 N4 X5 X6 M7)) (by
    have e1 : (shs (ps.map tupD)).map DL.T.er = ps.map tupD := er_shs _
    obtain ⟨SN, hSN⟩ : ∃ SN, SN = shs NL := ⟨_, rfl⟩
    obtain ⟨A0, hA0⟩ : ∃ A0, A0 = shs (kvs.map tupD) := ⟨_, rfl⟩
    obtain ⟨A1, hA1⟩ : ∃ A1, A1 = shs ((kvs.map tupD).take sp.toNat) := ⟨_, rfl⟩
    obtain ⟨A2, hA2⟩ : ∃ A2, A2 = shs ((kvs.map tupD).drop sp.toNat) := ⟨_, rfl⟩
    obtain ⟨A3, hA3⟩ : ∃ A3, A3 = shs ((kvs.map tupD).take sp.toNat ++ [tupD (nk, nv)]) := ⟨_, rfl⟩
    obtain ⟨A4, hA4⟩ : ∃ A4, A4 = shs (ps.map tupD) := ⟨_, rfl⟩
    obtain ⟨A5, hA5⟩ : ∃ A5, A5 = ps.map tupD := ⟨_, rfl⟩
    obtain ⟨D9, hD9⟩ : ∃ D9, D9 = tupD (nk, nv) := ⟨_, rfl⟩
    simp only [N4, I2, E]
    rw [← hSN]
    rw [← hA0] at o1 o2 ⊢
    rw [← hA1] at o1 a1
    rw [← hA2] at o2 a2
    rw [← hA3] at a1 a2
    rw [← hA4] at a2 e1
    rw [← hA5] at e1 od
    rw [← hD9] at ix9 a1
    simp [-ixT_lst, -oSh_l, -oSl_l, -getElem?_pos, W, S3, X5, X6, M7, o1, o2, hq, ix9, a1, a2, e1, od]) ?_
  exact Ret_of (t := .dct (shk (mergeD ps))) (m := some (penT cs i6 p6)) (by simp [E]) ⟨mergeD ps, i6, p6, rfl, rfl, by omega, by omega, h1, fun q hq => (hall q (h3 q hq)).1, fun q hq => (hall q (h3 q hq)).2, by omega⟩
section
variable (c : Cs) (F : Fo) (hcl : ∀ q ∈ F, ∀ m, q.2 = some m → m ∈ nms F) (hl : F.length < 100)
include hcl hl
theorem ring2_vw (Z : List Str) (hZ : ∀ z ∈ Z, ∃ k, Up F k (some z)) (n : Str) (hn : n ∈ nms F) :
    Run (l_has_ring_0 c [.vw (.dct (shk (foK F))), .va (.dct (shk (trK Z))), .va (.sh (.str n)), .va (.dct (shk (trK [])))]) fun o =>
      (∃ P x, o = .nx [.vw (.dct (shk (foK F))), .va (.dct (shk (trK Z))), .va (.sh x), .va (.dct (shk (trK P)))] ∧ P.length ≤ 100 ∧ (∀ p ∈ P, ∃ k, Up F k (some p)) ∧ ∃ k, Up F k (some n)) ∨
      (∃ e, o = .rt (.sh (.bl true)) e ∧ e.head? = some (.vw (.dct (shk (foK F)))) ∧ ¬ ∃ k, Up F k (some n)) := by
  let s : Slot := .vw (.dct (shk (foK F)))
  let E : Option Str → List Str → DL.Env := fun o P => [s, .va (.dct (shk (trK Z))), .va (.sh (parD o)), .va (.dct (shk (trK P)))]
  refine Run_while (n := F.length + 1) (fun k e => ∃ (o : Option Str) (P : List Str), e = E o P ∧ P.Nodup ∧ (∀ p ∈ P, p ∈ nms F) ∧ P.length + k = F.length + 1 ∧ (∀ m, o = some m → m ∈ nms F) ∧
      (∀ k, Up F k o → ∀ p ∈ P, ∃ j, k < j ∧ Up F j (some p)) ∧ (∀ k, Up F k o → ∃ j, Up F j (some n)) ∧ ((∃ k, Up F k (some n)) → ∃ k, Up F k o)) ?_ (by unfold fuel; omega) ⟨some n, [], rfl, List.nodup_nil, (fun p hp => by cases hp), by simp, (fun m e => by cases e; exact hn), (fun k h p hp => by cases hp), (fun k h => ⟨k, h⟩), id⟩
  rintro k e ⟨o, P, rfl, nd, hP, hk, ho, i1, i2, i3⟩
  have pl : P.length ≤ F.length := by
    have := List.Nodup.length_le_of_subset nd hP
    rwa [nms_length] at this
  cases o with
  | none =>
    refine ⟨false, E none P, by simp [E, s], fun _ => .inl ⟨P, _, rfl, by omega, fun p hp => ?_, i2 0 .top⟩, by simp⟩
    obtain ⟨j, _, h⟩ := i1 0 .top p hp
    exact ⟨j, h⟩
  | some m =>
    have hm := ho m rfl
    refine ⟨!decide (m ∈ Z), E (some m) P, by simp [E, s], fun hz => .inl ⟨P, _, rfl, by omega, ?_⟩, fun hz => ?_⟩
    · have hz : m ∈ Z := by simpa using hz
      obtain ⟨k0, h0⟩ := hZ m hz
      refine ⟨fun p hp => ?_, i2 k0 h0⟩
      obtain ⟨j, _, h⟩ := i1 k0 h0 p hp
      exact ⟨j, h⟩
    · have hz : m ∉ Z := by simpa using hz
      by_cases hmP : m ∈ P
      · refine Run_of (o := .rt (.sh (.bl true)) (E (some m) P)) (by simp [E, s, hmP]) (.inr ⟨_, rfl, rfl, fun hu => ?_⟩)
        obtain ⟨k0, h0⟩ := i3 hu
        obtain ⟨j, hj, h1⟩ := i1 k0 h0 m hmP
        have := Up.eq h0 h1
        omega
      · have hPl : P.length < 16777216 := by omega
        have hput : pk (shk (trK P)) (.inr m) (.sh (.bl true)) = shk (trK (P ++ [m])) := by rw [pk_shk, pk_tr, if_neg hmP]
        have hlt : P.length < F.length := by
          have := List.Nodup.length_le_of_subset (List.nodup_append.mpr ⟨nd, (by simp), fun a ha b hb z => by simp at hb; subst hb; subst z; exact hmP ha⟩ : (P ++ [m]).Nodup) fun x hx => by
            rcases List.mem_append.mp hx with h | h
            · exact hP x h
            · simp at h; subst h; exact hm
          rw [nms_length] at this
          simp at this; omega
        refine Run_of (o := .nx (E (par F m) (P ++ [m]))) (by simp [E, s, hmP, hPl, hput, lk_par hm]) ?_
        refine ⟨k - 1, by omega, par F m, P ++ [m], rfl, List.nodup_append.mpr ⟨nd, (by simp), fun a ha b hb z => by simp at hb; subst hb; subst z; exact hmP ha⟩, fun x hx => ?_, by simp; omega, fun q hq => ?_, fun k0 h0 p hp => ?_, fun k0 h0 => i2 (k0 + 1) (.one hm h0), fun hu => ?_⟩
        · rcases List.mem_append.mp hx with h | h
          · exact hP x h
          · simp at h; subst h; exact hm
        · have h1 : (m, some q) ∈ F := lk_mm (by rw [lk_par hm, hq])
          exact hcl _ h1 q rfl
        · rcases List.mem_append.mp hp with h | h
          · obtain ⟨j, hj, h1⟩ := i1 (k0 + 1) (.one hm h0) p h
            exact ⟨j, by omega, h1⟩
          · simp at h; subst h; exact ⟨k0 + 1, by omega, .one hm h0⟩
        · obtain ⟨k0, h0⟩ := i3 hu
          cases h0 with
          | @one k1 _ _ h1 => exact ⟨k1, h1⟩
theorem has_ring_vw : Ret (f_has_ring c [.vw (.dct (shk (foK F)))]) fun t m => m = none ∧ ((t = .sh (.bl false) ∧ ∀ n ∈ nms F, ∃ k, Up F k (some n)) ∨ (t = .sh (.bl true) ∧ ∃ n ∈ nms F, ¬ ∃ k, Up F k (some n))) := by
  let s : Slot := .vw (.dct (shk (foK F)))
  apply Ret_body
  refine Run_nx (e1 := [s, .va (.dct (shk (trK []))), .un, .un]) (by simp [s, trK, shk]) ?_
  apply Run_seq
  refine Run_for (fun ds e => ∃ (Z l1 l2 : List Str) (x y : Slot), e = [s, .va (.dct (shk (trK Z))), x, y] ∧ isM x = false ∧ isM y = false ∧ ds = sts l2 ∧ nms F = l1 ++ l2 ∧ (∀ n ∈ l1, ∃ k, Up F k (some n)) ∧ (∀ z ∈ Z, ∃ k, Up F k (some z)) ∧ Z.length + 100 * l2.length ≤ 10000) (ds := sts (nms F)) (e0 := [s, .va (.dct (shk (trK []))), .un, .un]) ?_ ?_ ?_ ?_
  · simp [s]
  · exact ⟨[], [], nms F, .un, .un, rfl, rfl, rfl, rfl, rfl, (fun n hn => by cases hn), (fun z hz => by cases hz), by simp [nms_length]; omega⟩
  · rintro d q e ⟨Z, l1, l2, x, y, rfl, hx, hy, hd, hm, hu, hZ, hb⟩
    obtain ⟨n, l3, rfl, rfl, rfl⟩ : ∃ n l3, l2 = n :: l3 ∧ d = .str n ∧ q = sts l3 := by
      cases l2 with
      | nil => cases hd
      | cons n l3 => simp at hd; exact ⟨n, l3, rfl, hd.1, hd.2⟩
    have hn : n ∈ nms F := by rw [hm]; simp
    refine ⟨[s, .va (.dct (shk (trK Z))), .va (.sh (.str n)), y], by simp [s, hx], ?_⟩
    refine Run_nx (e1 := [s, .va (.dct (shk (trK Z))), .va (.sh (.str n)), .va (.dct (shk (trK [])))]) (by simp [hy, trK, shk]) ?_
    apply Run_seq
    refine Run_mono (ring2_vw c F hcl hl Z hZ n hn) ?_
    rintro o (⟨P, x', rfl, hP, hup, hun⟩ | ⟨e, rfl, he, hun⟩)
    · simp only [List.length_cons] at hb
      obtain ⟨Z', h1, h2, h3⟩ := gUpdate_mem Z P (by show _ ≤ 16777216; omega)
      refine Run_of (o := .nx [s, .va (.dct (shk (trK Z'))), .va (.sh x'), .va (.sh (.dct (trK P)))]) (by simp [h1, s]) ?_
      refine ⟨Z', l1 ++ [n], l3, _, _, rfl, rfl, rfl, rfl, by rw [hm]; simp, fun m hm' => ?_, fun z hz => ?_, by omega⟩
      · rcases List.mem_append.mp hm' with h | h
        · exact hu m h
        · simp at h; subst h; exact hun
      · rcases h3 z hz with h | h
        · exact hZ z h
        · exact hup z h
    · obtain ⟨a, r, rfl⟩ : ∃ a r, e = a :: r := by
        cases e with
        | nil => simp at he
        | cons a r => exact ⟨a, r, rfl⟩
      simp at he; subst he
      exact Ret_of (t := .sh (.bl true)) (m := none) (by simp) ⟨rfl, .inr ⟨rfl, n, hn, hun⟩⟩
  · rintro e ⟨Z, l1, l2, x, y, rfl, hx, hy, hd, hm, hu, -⟩
    have : l2 = [] := by cases l2 with | nil => rfl | cons _ _ => cases hd
    subst this
    rw [List.append_nil] at hm
    exact Run_of (o := .rt (.sh (.bl false)) [s, .va (.dct (shk (trK Z))), x, y]) (by simp [s]) (Ret_of (t := .sh (.bl false)) (m := none) (by simp [s]) ⟨rfl, .inl ⟨rfl, fun n hn => hu n (by rw [← hm]; exact hn)⟩⟩)
end
section
variable (c : Cs)
theorem grp_ring_vw {F : Fo} (nd : (nms F).Nodup) (nm : NmF F) (hcl : ∀ q ∈ F, ∀ m, q.2 = some m → m ∈ nms F) (hl : F.length < 64) (hw : ¬ Wf F) : f_Groups___init c [.mu (.ins c.Groups []), .vw (.dct (shk (foK F)))] = .exc ⟨c.InvalidGroups, none⟩ (some (.ins c.Groups [])) := by
  have g0 := gi0 c F _ (.inr rfl) (.mu (.ins c.Groups [])) (fun n h => nm_len (nm n h)) (by omega)
  have g1 := gi1 c F _ (.inr rfl) (.mu (.ins c.Groups [])) (fun q hq m e => nm_len (nm m (hcl q hq m e))) (by omega)
  have a0 : (nms F).all nmOk = true := all_true _ _ nm
  have a1 : F.all (fun q => parOk F q.2) = true := all_true _ _ fun q hq => by
    rcases q with ⟨n, o⟩
    cases o with
    | none => rfl
    | some m => simp only [parOk, nm m (hcl _ hq m rfl), hcl _ hq m rfl, decide_true, Bool.and_self]
  obtain ⟨t, m, h, rfl, ht⟩ := has_ring_vw c F hcl (by omega)
  have ht : t = .sh (.bl true) := by
    rcases ht with ⟨_, hu⟩ | ⟨ht, _⟩
    · exact absurd (wf_of_up nd hu) hw
    · exact ht
  subst ht
  simp [f_Groups___init, b_Groups___init, isi_dictT, g0, g1, xAll_bls, a0, a1, h]
end
theorem lkM {κ α : Type} [DecidableEq κ] {l : List (κ × α)} {k : κ} {v : α} (h : lk l k = some v) : (k, v) ∈ l := by
  induction l with
  | nil => cases h
  | cons a r ih =>
    by_cases e : a.1 = k
    · subst e; simp [lk] at h; subst h; exact List.mem_cons_self
    · simp [lk, e] at h; exact List.mem_cons_of_mem _ (ih h)
def foE (F S : Fo) : Bool := F.length == S.length && F.all fun q => decide (q.1 ∈ nms S) && decide (q.2 = par S q.1)
theorem deq_parD (n : Nat) (a b : Option Str) : deq n (parD a) (parD b) = some (decide (a = b)) := by
  cases a <;> cases b <;> cases n <;> simp [parD, deq, flD, eqF] <;> exact Bool.beq_eq_decide_eq _ _
structure Th (d : D) : Prop where
  p : Pl d
  r : Rb 2000000 10 d
  dc : ∀ kvs, d = .dct kvs → (kvs.map (·.1)).Nodup ∧ (∀ q ∈ kvs, TxOk (kD q.1)) ∧ (∀ q ∈ kvs, TxOk q.2 ∧ Pl q.2) ∧ kvs.length < 64
theorem pl_of {d : D} (h : plD d = true) : Pl d := by
  cases d <;> first | trivial | simp [plD] at h
theorem of_pl {d : D} (h : Pl d) : plD d = true := by
  cases d <;> first | rfl | exact h.elim
structure An4 (n : Nat) (t : D) : Prop where
  a : OkA n t
  x : TxOk t
  dc : ∀ kvs, t = .dct kvs → (kvs.map (·.1)).Nodup ∧ (∀ q ∈ kvs, TxOk (kD q.1)) ∧ (∀ q ∈ kvs, TxOk q.2 ∧ Pl q.2) ∧ kvs.length < 64
theorem an4 : AnyP An4 where
  c0 n t ht := ⟨(cA_ok t ht).up (Nat.zero_le _), fun s e => by
      subst e
      have : s.length ≤ 100 := by
        simp only [cA, List.mem_cons, List.not_mem_nil, or_false] at ht
        rcases ht with h | h | h | h | h | h | h | h | h | h | h <;> first | (cases h; done) | (cases h; decide +kernel)
      show s.length ≤ 16777216
      omega, fun kvs e => by
      subst e
      simp only [cA, List.mem_cons, List.not_mem_nil, or_false] at ht
      rcases ht with h | h | h | h | h | h | h | h | h | h | h <;> cases h⟩
  ls n ds h hl := ⟨OkA.lst (fun d hd => (h d hd).a) hl, fun s e => (nomatch e), fun kvs e => (nomatch e)⟩
  tp n ds h hl := ⟨OkA.tup (fun d hd => (h d hd).a) hl, fun s e => (nomatch e), fun kvs e => (nomatch e)⟩
  dc n ds h hl := by
    have hm : ∀ q ∈ zipA ds, (∃ s, q.1 = .inr s ∧ nmOk s = true) ∧ q.2 ∈ ds := fun q hq => by
      obtain ⟨j, hj, rfl⟩ := List.mem_map.mp hq
      have := List.mem_range.mp hj
      refine ⟨⟨_, rfl, kA_nm j (by omega)⟩, ?_⟩
      simp only [List.getD_eq_getElem?_getD, List.getElem?_eq_getElem this, Option.getD_some]
      exact List.getElem_mem this
    have lz : (zipA ds).length ≤ 3 := by simp [zipA]; exact hl
    refine ⟨OkA.dct (fun q hq => (hm q hq).1) (fun q hq => (h _ (hm q hq).2).a) lz, fun s e => (nomatch e), fun kvs e => ?_⟩
    cases e
    refine ⟨zipA_nd ds hl, fun q hq => ?_, fun q hq => ⟨(h _ (hm q hq).2).x, pl_of (h _ (hm q hq).2).a.p⟩, by omega⟩
    obtain ⟨⟨s, e, hs⟩, _⟩ := hm q hq
    intro z ez
    rw [e] at ez
    cases ez
    have := nm_len hs
    show s.length ≤ 16777216
    simp only [nmOk, Bool.and_eq_true, decide_eq_true_eq] at hs
    omega
theorem An4.th {t : D} (h : An4 2 t) : Th t := ⟨pl_of h.a.p, h.a.rb.mono (by decide) (by decide), h.dc⟩
theorem Kv.th {n : Nat} {kvs : List (Key × D)} (h : Kv n kvs) (hn : n ≤ 10) : Th (.dct kvs) :=
  ⟨trivial, (Rb.dct (m := 50002) (n := 60000) (k := 3) fun q hq => ⟨(h.k q hq).rb, (h.v q hq).r⟩).mono (by have := h.l; have := Nat.mul_le_mul_right (50002 + 60000 + 4) (Nat.le_trans h.l hn); omega) (by omega), fun ks e => by
    cases e
    exact ⟨h.nd, fun q hq => (h.k q hq).tx, fun q hq => ⟨(h.v q hq).t, (h.v q hq).p⟩, by have := h.l; omega⟩⟩
theorem Kv.its {n : Nat} {kvs : List (Key × D)} (h : Kv n kvs) (hn : n ≤ 10) : Th (.lst (kvs.map tupD)) :=
  ⟨trivial, (Rb.lst (n := 120007) (k := 4) fun d hd => by
      obtain ⟨q, hq, rfl⟩ := List.mem_map.mp hd
      exact (Rb.tup (n := 60000) (k := 3) (ds := [kD q.1, q.2]) fun x hx => by
        simp only [List.mem_cons, List.not_mem_nil, or_false] at hx
        rcases hx with rfl | rfl
        · exact (h.k q hq).rb.mono (by omega) (by omega)
        · exact (h.v q hq).r).mono (by simp) (by omega)).mono (by
      rw [List.length_map]
      have := Nat.mul_le_mul_right (120007 + 2) (Nat.le_trans h.l hn)
      omega) (by omega), fun ks e => (nomatch e)⟩
theorem fo_kv {F : Fo} {n : Nat} (w : Wf F) (hn : ∀ m ∈ nms F, m ∈ pool) (hl : F.length ≤ n) : Kv n (foK F) := by
  have np : ∀ m ∈ pool, Nmy (.str m) := fun m hm => by
    have h := pool_ok m hm
    simp only [nmOk, Bool.and_eq_true, decide_eq_true_eq, List.all_eq_true] at h
    refine .inl ⟨m, rfl, by omega, fun x hx => ?_⟩
    have := h.2 x hx
    omega
  obtain ⟨r, hr⟩ := w.rank
  refine ⟨foK_nodup w.nd, fun q hq => ?_, fun q hq => ?_, by simpa [foK] using hl⟩
  · obtain ⟨⟨m, o⟩, hm, rfl⟩ := List.mem_map.mp hq
    exact np m (hn m (List.mem_map.mpr ⟨_, hm, rfl⟩))
  · obtain ⟨⟨m, o⟩, hm, rfl⟩ := List.mem_map.mp hq
    cases o with
    | none => exact vl10 _ (by simp [parD])
    | some z => exact (np z (hn z (hr.up _ _ hm).1)).vl
section
variable (c : Cs) (hxs : c.xs = [24, 25])
include hxs
theorem th_word {d : D} (h : Th d) : ∃ b : Bool, f_law_is_forest c [.va (.sh d)] = .ret (.sh (.bl b)) none ∧ ∀ e : DL.Env, e[3]? = some (.va (.sh d)) → c_law_0 c e = .ok (.tv (.sh (.str (if b = true then "" else "groups"))), e) := by
  have w0 := fun e => word4_ret c e
  have w1 := fun e => word4_groups c hxs e
  have ln := (x4g c hxs).1
  by_cases hd : ∃ kvs, d = .dct kvs
  · obtain ⟨kvs, rfl⟩ := hd
    obtain ⟨h1, h2, h3, h4⟩ := h.dc kvs rfl
    obtain ⟨t, m, hf, rfl, hb⟩ := is_forest_ok c kvs h1 h2 (fun q hq => (h3 q hq).2) h4
    have hg := grp_word c kvs h1 h2 h3 h4
    rcases hb with ⟨rfl, hb⟩ | ⟨rfl, hb⟩
    · refine ⟨true, hf, fun e he => ?_⟩
      rcases hg with ⟨F, _, _, _, hg⟩ | ⟨hno, _⟩
      · simp [c_law_0, mLam, he, hg, w0]
      · exact absurd hb hno
    · refine ⟨false, hf, fun e he => ?_⟩
      rcases hg with ⟨F, h5, h6, h7, hg⟩ | ⟨hno, hg⟩
      · exact absurd ⟨F, h5, h6, h7⟩ hb
      · simp [c_law_0, mLam, he, hg, ln, w1]
  · have hd : ∀ kvs, d ≠ .dct kvs := fun kvs e => hd ⟨kvs, e⟩
    have i1 := isd_non c h.p hd
    have hg := grp_nodict c h.p hd
    refine ⟨false, by simp [f_law_is_forest, b_law_is_forest, i1], fun e he => ?_⟩
    simp [c_law_0, mLam, he, hg, ln, w1]
end
theorem yNe_foE {F S : Fo} (nd : (nms F).Nodup) (nd' : (nms S).Nodup) {s t : T} (h : s.er = .dct (foK F)) (h' : t.er = .dct (foK S)) : yNe [s, t] = some (.sh (.bl (!foE F S))) := by
  have k1 : ((foK F).map (·.1)).Nodup := foK_nodup nd
  have k2 : ((foK S).map (·.1)).Nodup := foK_nodup nd'
  have hd : ∀ n, deq (n + 2) (.dct (foK F)) (.dct (foK S)) = some (foE F S) := by
    intro n
    unfold deq
    simp only [k1, k2, and_self, if_true]
    rw [show foK F = F.map (fun q => (Sum.inr q.1, parD q.2)) from rfl, List.map_map, allO_map F _ (fun q => decide (q.1 ∈ nms S) && decide (q.2 = par S q.1)) (fun q hq => ?_)]
    · simp [foE, foK]
    · simp only [Function.comp]
      by_cases hm : q.1 ∈ nms S
      · rw [foK_lk, lk_par hm]; simp only [Option.map_some, deq_parD, hm, decide_true, Bool.true_and]
      · have : lk (foK S) (.inr q.1) = none := by
          cases e : lk (foK S) (.inr q.1) with
          | none => rfl
          | some v =>
            have := List.mem_map_of_mem (f := (·.1)) (lkM e)
            rw [foK_keys] at this
            simp at this; exact absurd this hm
        rw [this]; simp [hm]
  have x0 : ∀ a b : List (Key × D), oNeS [.dct a, .dct b] = none ∧ oNeD [.dct a, .dct b] = none := fun a b => ⟨by simp [oNeS, eqS], by simp [oNeD, eqDp, D.py]⟩
  obtain ⟨x1, x2⟩ := x0 (foK F) (foK S)
  have hd := hd 58
  generalize foK F = A at h hd x1 x2
  generalize foK S = B at h' hd x1 x2
  simp only [yNe, xNe, liftD, List.map_cons, List.map_nil, h, h', x1, x2, oNeDD]
  rw [hd]
  rfl
theorem foE_sr {F : Fo} (nd : (nms F).Nodup) : foE (srF F) F = true := by
  simp only [foE, Bool.and_eq_true, beq_iff_eq, List.all_eq_true, decide_eq_true_eq]
  refine ⟨by simp [srF, nms_length], fun q hq => ?_⟩
  have h1 : (q.1, q.2) ∈ F := (mem_srF nd).mp hq
  exact ⟨List.mem_map.mpr ⟨q, h1, rfl⟩, by have := lk_of_mem nd h1; rw [par, this]; rfl⟩
def ny04 : List Str := (["a", "b", "c", "d"] : List Str).flatMap fun a => (["a", "b", "c", "d", "e", "f", "g", "h", "i", "j"] : List Str).map fun b => "g" ++ b ++ a
def ch04 : Fo := (List.range 40).map fun k => (ny04.getD k "", if k < 39 then some (ny04.getD (k + 1) "") else none)
theorem ny04_len : ny04.length = 40 := by decide +kernel
theorem ch04_len : ch04.length = 40 := by decide +kernel
theorem ch04_nms : nms ch04 = ny04 := by decide +kernel
theorem ny04_nd : ny04.Nodup := by decide +kernel
theorem ny04_ok : ∀ n ∈ ny04, nmOk n = true := by decide +kernel
theorem ch04_rk : ∀ q ∈ ch04, ∀ m, q.2 = some m → m ∈ ny04 ∧ 39 - ny04.idxOf m < 39 - ny04.idxOf q.1 := by
  have : ∀ q ∈ ch04, (match q.2 with | some m => decide (m ∈ ny04) && decide (39 - ny04.idxOf m < 39 - ny04.idxOf q.1) | none => true) = true := by decide +kernel
  intro q hq m hm
  have := this q hq
  rw [hm] at this
  simpa using this
theorem ch04_wf : Wf ch04 := by
  refine ⟨by rw [ch04_nms]; exact ny04_nd, fun n => 39 - ny04.idxOf n, fun n _ => ?_, fun n m h => ?_⟩
  · rw [ch04_len]
    show 39 - ny04.idxOf n < 40
    omega
  · obtain ⟨h1, h2⟩ := ch04_rk (n, some m) h m rfl
    exact ⟨by rw [ch04_nms]; exact h1, h2⟩
theorem ch04_top : ∀ q ∈ ch04, q.2 = none → q.1 = ny04.getD 39 "" := by decide +kernel
def ri04 (m : Str) : Fo := DL.pk ch04 (ny04.getD 39 "") (some m)
theorem foK_pk (F : Fo) (n : Str) (o : Option Str) : DL.pk (foK F) (.inr n) (parD o) = foK (DL.pk F n o) := by
  induction F with
  | nil => rfl
  | cons q r ih =>
    simp only [foK_cons, DL.pk]
    by_cases h : q.1 = n
    · subst h; simp
    · have h' : ¬ (Sum.inr q.1 : Key) = .inr n := fun e => h (Sum.inr.inj e)
      rw [if_neg h', if_neg h, ih]; rfl
theorem ri04_nms (m : Str) : nms (ri04 m) = ny04 := by
  have hm : ny04.getD 39 "" ∈ ch04.map (·.1) := by
    have : ch04.map (·.1) = ny04 := ch04_nms
    rw [this]; decide +kernel
  unfold nms ri04
  rw [DL.pk_keys, if_pos hm]
  exact ch04_nms
theorem ri04_len (m : Str) : (ri04 m).length = 40 := by rw [← nms_length, ri04_nms, ny04_len]
theorem ri04_in (m : Str) : ∀ q ∈ ri04 m, q ∈ ch04 ∨ q = (ny04.getD 39 "", some m) := fun q hq => pk_in4 hq
theorem ri04_some (m : Str) : ∀ q ∈ ri04 m, q.2 ≠ none := by
  intro q hq he
  rcases ri04_in m q hq with h | h
  · have h1 := ch04_top q h he
    have nd : (nms (ri04 m)).Nodup := by rw [ri04_nms]; exact ny04_nd
    have l1 := lk_of_mem nd (show (q.1, q.2) ∈ ri04 m from hq)
    have l2 : lk (ri04 m) q.1 = some (some m) := by
      rw [h1]
      unfold ri04
      have : ∀ (l : Fo) (k : Str) (a : Option Str), lk (DL.pk l k a) k = some a := by
        intro l k a
        induction l with
        | nil => simp [DL.pk]
        | cons p r ih =>
          simp only [DL.pk]
          by_cases h : p.1 = k
          · rw [if_pos h]; simp
          · rw [if_neg h]; simp [h, ih]
      exact this _ _ _
    rw [l2, he] at l1
    cases l1
  · rw [h] at he; cases he
theorem ri04_cl {m : Str} (hm : m ∈ ny04) : ∀ q ∈ ri04 m, ∀ z, q.2 = some z → z ∈ nms (ri04 m) := by
  intro q hq z hz
  rw [ri04_nms]
  rcases ri04_in m q hq with h | h
  · exact (ch04_rk q h z hz).1
  · rw [h] at hz; cases hz; exact hm
theorem ri04_bad (m : Str) : ¬ Wf (ri04 m) := by
  intro w
  have key : ∀ k o, Up (ri04 m) k o → o = none := by
    intro k o h
    induction h with
    | top => rfl
    | @one k n hn h ih =>
      exfalso
      have h1 := lk_mm (lk_par hn)
      exact ri04_some m _ h1 ih
  have hn : ny04.getD 39 "" ∈ nms (ri04 m) := by rw [ri04_nms]; decide +kernel
  obtain ⟨k, hk⟩ := up_of_wf w _ hn
  cases key _ _ hk
section
variable (c : Cs) (hxs : c.xs = [24, 25])
theorem lam3_good {F : Fo} (w : Wf F) (nm : NmF F) (hl : F.length < 64) (e : DL.Env) (h8 : e[8]? = some (.va (.dct (shk (foK F))))) : c_law_3 c e = .ok (.tv (.sh (.str "")), e) := by
  have w0 := word4_ret c e
  have hg := init_ok c F w nm hl (.vw (.dct (shk (foK F)))) (.inr rfl)
  generalize shk (foK F) = A at h8 hg
  simp [c_law_3, mLam, h8, hg, w0]
include hxs
theorem lam3_bad {m : Str} (hm : m ∈ ny04) (e : DL.Env) (h8 : e[8]? = some (.va (.dct (shk (foK (ri04 m)))))) : c_law_3 c e = .ok (.tv (.sh (.str "groups")), e) := by
  have w1 := word4_groups c hxs e
  have ln := (x4g c hxs).1
  have hg := grp_ring_vw c (F := ri04 m) (by rw [ri04_nms]; exact ny04_nd) (fun n hn => by rw [ri04_nms] at hn; exact ny04_ok n hn) (ri04_cl hm) (by rw [ri04_len]; omega) (ri04_bad m)
  generalize shk (foK (ri04 m)) = A at h8 hg
  simp [c_law_3, mLam, h8, hg, ln, w1]
omit hxs
def good4 (F : Fo) : D → Bool
  | .str s => decide (s ∈ nms F)
  | _ => false
def blw4 (S : Fo) (n : Str) : List Str := (nms S).filter fun m => !decide (m = n) && decide (n ∈ way S m)
theorem blw4_ok (c : Cs) (S : Fo) (n : Str) (hn : n ∈ nms S) (hl : S.length < 900) (s : Slot) (hs : grS c S s) :
    f_Groups_below c [s, .va (.sh (.str n))] = .ret (.lst (shs (sts (blw4 S n)))) none := by
  have h1 := check_ok c S n hn s hs
  have key : c_Groups_below_0 c [s, .va (.sh (.str n)), .un] = .ok (.tv (.lst (shs (sts (blw4 S n)))), [s, .va (.sh (.str n)), .un]) := by
    unfold blw4
    rw [← filter_sts]
    refine mLc_pm D.str (fun m => [s, .va (.sh (.str n)), .va (.sh (.str m))]) _ _ ?_ ?_ ?_ ?_
    · rcases hs with rfl | rfl <;> simp [sts]
    · simp
    · simp; omega
    · intro m hm
      rcases hs with rfl | rfl <;> simp [lk_pathsD hm, lk_pathsT hm]
  rcases hs with rfl | rfl <;> simp [f_Groups_below, b_Groups_below, h1, key]
theorem check4_bad {F : Fo} {t : D} (hp : plD t = true) (hb : good4 F t = false) (s : Slot) (hs : grS c (srF F) s) : f_Groups_check c [s, .va (.sh t)] = .exc ⟨c.UnknownGroup, none⟩ none := by
  have hi := isi_strP c hp
  cases h : isS t with
  | false => rw [h] at hi; rcases hs with rfl | rfl <;> simp [f_Groups_check, b_Groups_check, hi]
  | true =>
    rw [h] at hi
    cases t with
    | str z =>
      have h1 : z ∉ nms F := by simpa [good4] using hb
      have h2 : z ∉ srt (nms F) := fun y => h1 (srt_mem.mp y)
      rcases hs with rfl | rfl <;> simp [f_Groups_check, b_Groups_check, hi, h2]
    | _ => cases h
include hxs
theorem lam45 {F : Fo} (hl : F.length < 64) {t : D} (hp : plD t = true) (e : DL.Env) (h10 : e[10]? = some (.va (grT c (srF F)))) (h3 : e[3]? = some (.va (.sh t))) :
    c_law_4 c e = .ok (.tv (.sh (.str (if good4 F t = true then "" else "unknown"))), e) ∧ c_law_5 c e = .ok (.tv (.sh (.str (if good4 F t = true then "" else "unknown"))), e) := by
  have w0 := word4_ret c e
  have w1 := word4_unknown c hxs e
  have ln := (x4u c hxs).1
  cases hg : good4 F t with
  | false =>
    have ck := check4_bad c hp hg _ (.inr rfl)
    have p1 : f_Groups_path c [.vw (grT c (srF F)), .va (.sh t)] = .exc ⟨c.UnknownGroup, none⟩ none := by simp [f_Groups_path, b_Groups_path, ck]
    have p2 : f_Groups_below c [.vw (grT c (srF F)), .va (.sh t)] = .exc ⟨c.UnknownGroup, none⟩ none := by simp [f_Groups_below, b_Groups_below, ck]
    exact ⟨by simp [c_law_4, mLam, h10, h3, p1, ln, w1], by simp [c_law_5, mLam, h10, h3, p2, ln, w1]⟩
  | true =>
    cases t with
    | str s =>
      have hs : s ∈ nms F := by simpa [good4] using hg
      have hs' : s ∈ nms (srF F) := by rw [nms_srF]; exact srt_mem.mpr hs
      have p1 := path_ok c (srF F) s hs' _ (.inr rfl)
      have p2 := blw4_ok c (srF F) s hs' (by simp [srF, nms_length]; omega) _ (.inr rfl)
      exact ⟨by simp [c_law_4, mLam, h10, h3, p1, w0], by simp [c_law_5, mLam, h10, h3, p2, w0]⟩
    | _ => cases hg
end
abbrev e04 (ns cs : List Int) (i p : Int) (x2 x3 x4 x5 x6 x7 x8 x9 x10 x11 x12 : Slot) : DL.Env := [.va (.sh (.scr ns)), .va (penT cs i p), x2, x3, x4, x5, x6, x7, x8, x9, x10, x11, x12]
section
variable (c : Cs) (hxs : c.xs = [24, 25]) (ns cs : List Int)
theorem changes4 (i p : Int) (hi : 0 ≤ i) (hi' : i < 2 ^ 90) (x2 x4 x5 : Slot) (h4 : isM x4 = false) (kvs : List (Key × D)) (kv : Kv 6 kvs) :
    Run (l_law_0 c (e04 ns cs i p x2 (.va (.sh (.dct kvs))) x4 x5 .un .un .un .un .un .un .un)) fun o => ∃ (i' p' : Int) (kvs' : List (Key × D)) (y4 : Slot), o = .nx (e04 ns cs i' p' x2 (.va (.sh (.dct kvs'))) y4 x5 .un .un .un .un .un .un .un) ∧ isM y4 = false ∧ Kv 8 kvs' ∧ i ≤ i' ∧ i' ≤ i + 100 := by
  obtain ⟨k, i1, p1, hk, k0, k1, b1, b2⟩ := draw_ok c cs i p 2 hi (by omega) (by omega) (by omega)
  let E : Int → Int → List (Key × D) → Slot → DL.Env := fun a b K y => e04 ns cs a b x2 (.va (.sh (.dct K))) y x5 .un .un .un .un .un .un .un
  refine Run_for (fun ds e => ∃ (i' p' : Int) (K : List (Key × D)) (y : Slot) (n : Nat), e = E i' p' K y ∧ isM y = false ∧ Kv n K ∧ n + ds.length ≤ 8 ∧ i ≤ i' ∧ i' + 40 * ds.length ≤ i + 90) (ds := rngD 0 (1 + k).toNat) (e0 := E i1 p1 kvs x4) ?_ ?_ ?_ ?_
  · exact mR1_ok (by simp [E, hk]) (by omega) (by omega)
  · refine ⟨i1, p1, kvs, x4, 6, rfl, h4, kv, ?_, by omega, ?_⟩
    · rw [rngD_length]; omega
    · rw [rngD_length]; omega
  · rintro d ds e ⟨i', p', K, y, n, rfl, my, kn, hn, c1, c2⟩
    simp only [List.length_cons] at hn c2
    let Y : Slot := .va (.sh d)
    refine ⟨E i' p' K Y, by simp [E, my, Y], ?_⟩
    obtain ⟨t, u, hb, K', i2, p2, rfl, rfl, d1, d2, kn'⟩ := bent4_ok c cs i' p' K n kn (by omega) (by omega) (by omega)
    refine Run_of (o := .nx (E i2 p2 K' Y)) ?_ ⟨i2, p2, K', Y, n + 1, rfl, rfl, kn', by omega, by omega, by omega⟩
    rw [mAsg_ap]
    have e1 : (T.dct (shk K')).er = .dct K' := by simp
    simp [E, Y, hb]
  · rintro e ⟨i', p', K, y, n, rfl, my, kn, hn, c1, c2⟩
    simp only [List.length_nil] at hn c2
    exact ⟨i', p', K, y, rfl, my, ⟨kn.nd, kn.k, kn.v, Nat.le_trans kn.l (by omega)⟩, c1, by omega⟩
include hxs
theorem turns4 (i p : Int) (hi : 0 ≤ i) (hi' : i < 2 ^ 80) :
    Run (l_law_1 c (e04 ns cs i p .un .un .un .un .un .un .un .un .un .un .un)) fun o => ∃ (i' p' : Int) (x2 x3 x4 x5 : Slot), o = .nx (e04 ns cs i' p' x2 x3 x4 x5 .un .un .un .un .un .un .un) ∧ isM x2 = false ∧ isM x3 = false ∧ isM x4 = false ∧ isM x5 = false ∧ i ≤ i' ∧ i' ≤ i + 100000 := by
  let E : Int → Int → Slot → Slot → Slot → Slot → DL.Env := fun a b x2 x3 x4 x5 => e04 ns cs a b x2 x3 x4 x5 .un .un .un .un .un .un .un
  refine Run_for (fun ds e => ∃ (i' p' : Int) (x2 x3 x4 x5 : Slot), e = E i' p' x2 x3 x4 x5 ∧ isM x2 = false ∧ isM x3 = false ∧ isM x4 = false ∧ isM x5 = false ∧ i ≤ i' ∧ i' + 1000 * ds.length ≤ i + 100000) (ds := rngD 0 20) (e0 := E i p .un .un .un .un) ?_ ?_ ?_ ?_
  · simp [E]
  · exact ⟨i, p, .un, .un, .un, .un, rfl, rfl, rfl, rfl, rfl, by omega, by simp [rngD]⟩
  · rintro d ds e ⟨i', p', x2, x3, x4, x5, rfl, m2, m3, m4, m5, b1, b2⟩
    simp only [List.length_cons] at b2
    let X2 : Slot := .va (.sh d)
    refine ⟨E i' p' X2 x3 x4 x5, by simp [E, m2, X2], ?_⟩
    obtain ⟨t, u, hf, F, i1, p1, rfl, rfl, c1, c2, hF6, hF8, w, hpl⟩ := forest_ok c cs i' p' 6 (by omega) (by omega) (by omega)
    have kv := fo_kv (n := 6) w hpl (by omega)
    refine Run_nx (e1 := E i1 p1 X2 (.va (.sh (.dct (foK F)))) x4 x5) (by rw [mAsg_ap]; simp [E, X2, hf, m3]) ?_
    apply Run_seq
    refine Run_mono (changes4 c ns cs i1 p1 (by omega) (by omega) X2 x4 x5 m4 (foK F) kv) ?_
    rintro o ⟨i2, p2, K, y4, rfl, my4, kv8, c3, c4⟩
    show Run _ _
    obtain ⟨q, i3, p3, hq, q0, q1, c5, c6⟩ := draw_ok c cs i2 p2 6 (by omega) (by omega) (by omega) (by omega)
    have k1 : ∃ (i' p' : Int) (th : D), mIfS (mTst asB (mOp yEq (mCons (mCallM 2 (f_law_draw c) (mCons (mN 1) (mCons (mC (.int 6)) (mNil)))) (mCons (mC (.int 0)) mNil)))) (mAsg (mF (mIx (mLst (mCons (mC .non) (mCons (mF (mLst (mNil))) (mCons (mF (mItemsA (mN 3))) (mCons (mC (.str "")) (mCons (mC (.int 5)) (mCons (mC (.bl true)) (mCons (mF (mCallM 2 (f_law_any c) (mCons (mN 1) (mCons (mC (.int 2)) (mNil))))) (mNil))))))))) (mCallM 2 (f_law_draw c) (mCons (mN 1) (mCons (mC (.int 7)) (mNil)))))) (gN 3)) (mSkip) (E i2 p2 X2 (.va (.sh (.dct K))) y4 x5) = .ok (.nx (E i' p' X2 (.va (.sh th)) y4 x5)) ∧ Th th ∧ i2 ≤ i' ∧ i' ≤ i2 + 100 := by
      by_cases h0 : q = 0
      · subst h0
        obtain ⟨t, u, ha, i4, p4, oa, rfl, c7, c8⟩ := any_gen c cs an4 50 2 i3 p3 (by omega) (by omega) (by omega) (by omega)
        have ha : f_law_any c [.mu (penT cs i3 p3), .va (.sh (.int 2))] = .ret t (some (penT cs i4 p4)) := ha
        have an2 : anD 2 = 17 := rfl
        rw [an2] at c8
        obtain ⟨a, hat⟩ : ∃ a, a = t.er := ⟨_, rfl⟩
        rw [← hat] at oa
        obtain ⟨j, i5, p5, hj, j0, j1, c9, c10⟩ := draw_ok c cs i4 p4 7 (by omega) (by omega) (by omega) (by omega)
        let L : List D := [.non, .lst [], .lst (K.map tupD), .str "", .int 5, .bl true, a]
        obtain ⟨th, hth, ix⟩ := ix_in L j j0 j1
        have nt : ∀ (d : D) (n k : Nat), Pl d → Rb n k d → n ≤ 2000000 → k ≤ 10 → (∀ kvs, d ≠ .dct kvs) → Th d := fun d n k h1 h2 h3 h4 h5 => ⟨h1, h2.mono h3 h4, fun kvs e => absurd e (h5 kvs)⟩
        have hT : Th th := by
          simp only [L, List.mem_cons, List.not_mem_nil, or_false] at hth
          rcases hth with rfl | rfl | rfl | rfl | rfl | rfl | rfl
          · exact nt _ _ _ trivial Rb.non (by omega) (by omega) (fun _ z => nomatch z)
          · exact nt _ _ _ trivial (Rb.lst (ds := []) (n := 0) (k := 0) (by simp)) (by simp) (by omega) (fun _ z => nomatch z)
          · exact kv8.its (by omega)
          · exact nt _ _ _ trivial (Sm.rb (n := 0) (Sm.lit (by decide +kernel))) (by omega) (by omega) (fun _ z => nomatch z)
          · exact nt _ _ _ trivial (Rb.int (k := 1) (by omega) (by omega) (by decide)) (by omega) (by omega) (fun _ z => nomatch z)
          · exact nt _ _ _ trivial (Rb.bl true) (by omega) (by omega) (fun _ z => nomatch z)
          · exact oa.th
        have ix : ∀ v, ixT v (.lst [.sh .non, .sh (.lst []), .sh (.lst (K.map tupD)), .sh (.str ""), .sh (.int 5), .sh (.bl true), .sh a]) (.int j) = some (.tv (.sh th)) := ix
        refine ⟨i5, p5, th, ?_, hT, by omega, by omega⟩
        have e1 : (K.map fun q => T.sh (.tup [kD q.1, q.2])) = shs (K.map tupD) := items_map K
        have e2 : (shs (K.map tupD)).map DL.T.er = K.map tupD := er_shs _
        obtain ⟨KT, hKT⟩ : ∃ KT, KT = K.map tupD := ⟨_, rfl⟩
        rw [← hKT] at ix e1 e2
        rw [mIfS_ap]
        simp [-ixT_lst, -items_map, -getElem?_pos, E, X2, hq, ha, hat.symm, hj, ix, e1, e2]
      · refine ⟨i3, p3, .dct K, ?_, kv8.th (by omega), by omega, by omega⟩
        rw [mIfS_ap]
        simp [E, X2, hq, h0]
    obtain ⟨i4, p4, th, k1, hT, c7, c8⟩ := k1
    refine Run_nx (e1 := E i4 p4 X2 (.va (.sh th)) y4 x5) k1 ?_
    obtain ⟨z, hz⟩ := Rb.yrepr hT.r (by omega) (by omega)
    have hz := hz (.sh th) (by simp)
    let X3 : Slot := .va (.sh th)
    let X5 : Slot := .va (.sh (.str z))
    refine Run_nx (e1 := E i4 p4 X2 X3 y4 X5) (by rw [mAsg_ap]; simp [E, X2, X3, X5, hz, m5]) ?_
    obtain ⟨b, hb, hw⟩ := th_word c hxs hT
    have hw := hw (E i4 p4 X2 X3 y4 X5) rfl
    refine Run_of (o := .nx (E i4 p4 X2 X3 y4 X5)) ?_ ⟨i4, p4, X2, X3, y4, X5, rfl, rfl, rfl, my4, rfl, by omega, by omega⟩
    have nn : ∀ a : Str, yNe [.sh (.str a), .sh (.str a)] = some (.sh (.bl false)) := fun a => by simp [yNe]
    rw [mIfS_ap, mOr_ap, mTst_ap, mOp_ap, mCons_ap, hw]
    simp only [E, X2, X3, X5]
    cases b <;> simp [hb, hz, nn]
  · rintro e ⟨i', p', x2, x3, x4, x5, rfl, m2, m3, m4, m5, b1, b2⟩
    exact ⟨i', p', x2, x3, x4, x5, rfl, m2, m3, m4, m5, b1, by simp at b2; omega⟩
end
theorem plain (c : Cs) (ns : List Int) (hon : c.on = [0]) (hxs : c.xs = [24, 25]) (hl63 : ns.length ≤ 63) : f_law c [.va (.sh (.scr ns))] = .ret (.sh (.bl true)) none := by
  have pn := pen_ok c ns
  obtain ⟨cs, hcs⟩ : ∃ cs, cs = ns.take 60 := ⟨_, rfl⟩
  rw [← hcs] at pn
  have this : Ret (f_law c [.va (.sh (.scr ns))]) (fun t u => t = .sh (.bl true) ∧ u = none) := by
    apply Ret_body
    refine Run_nx (e1 := e04 ns cs 0 0 .un .un .un .un .un .un .un .un .un .un .un) (by rw [mAsg_ap]; simp [pn]) ?_
    apply Run_seq
    refine Run_mono (turns4 c hxs ns cs 0 0 (by omega) (by omega)) ?_
    rintro o ⟨i1, p1, x2, x3, x4, x5, rfl, m2, m3, m4, m5, b1, b2⟩
    show Run _ _
    let N6 : Slot := .va (.lst (shs (sts ny04)))
    refine Run_nx (e1 := e04 ns cs i1 p1 x2 x3 x4 x5 N6 .un .un .un .un .un .un) (by kernel_rfl) ?_
    refine Run_nx (e1 := e04 ns cs i1 p1 x2 x3 x4 x5 N6 .un (.va (.dct (shk (foK ch04)))) .un .un .un .un) (by kernel_rfl) ?_
    have l3 := lam3_good c ch04_wf (fun n hn => by rw [ch04_nms] at hn; exact ny04_ok n hn) (by rw [ch04_len]; omega) (e04 ns cs i1 p1 x2 x3 x4 x5 N6 .un (.va (.dct (shk (foK ch04)))) .un .un .un .un) rfl
    have nn : ∀ a : Str, yNe [.sh (.str a), .sh (.str a)] = some (.sh (.bl false)) := fun a => by simp [yNe]
    refine Run_nx (e1 := e04 ns cs i1 p1 x2 x3 x4 x5 N6 .un (.va (.dct (shk (foK ch04)))) .un .un .un .un) (by
      rw [mIfS_ap, mTst_ap, mOp_ap, mCons_ap, l3]
      simp [nn]) ?_
    obtain ⟨j, i2, p2, hj, j0, j1, b3, b4⟩ := draw_ok c cs i1 p1 40 (by omega) (by omega) (by omega) (by omega)
    obtain ⟨d, hd, ix⟩ := ix_in (sts ny04) j j0 (by rw [sts_length, ny04_len]; omega)
    obtain ⟨m, hm, rfl⟩ := sts_mem.mp hd
    have ix39 : ∀ v, ixT v (.lst (shs (sts ny04))) (.int 39) = some (.tv (.sh (.str (ny04.getD 39 "")))) := fun v => by
      obtain ⟨d, _, h⟩ := ix_in (sts ny04) 39 (by omega) (by rw [sts_length, ny04_len]; omega)
      have e : ixT v (.lst (shs (sts ny04))) (.int 39) = some (.tv (.sh (.str (ny04.getD 39 "")))) := by
        have := shs_ix v (sts ny04) 39 (by rw [sts_length, ny04_len]; omega)
        have e2 : (sts ny04).getD 39 .non = .str (ny04.getD 39 "") := by
          have h : 39 < ny04.length := by rw [ny04_len]; omega
          simp [sts, List.getD_eq_getElem?_getD, List.getElem?_eq_getElem h]
        rw [e2] at this
        exact this
      exact e
    have pk39 : DL.pk (shk (foK ch04)) (.inr (ny04.getD 39 "")) (.sh (.str m)) = shk (foK (ri04 m)) := by
      have := foK_pk ch04 (ny04.getD 39 "") (some m)
      rw [pk_shk]
      exact congrArg shk this
    have l40 : (shk (foK ch04)).length < 16777216 := by
      rw [shk_length, foK_len, ch04_len]; omega
    refine Run_nx (e1 := e04 ns cs i2 p2 x2 x3 x4 x5 N6 .un (.va (.dct (shk (foK (ri04 m))))) .un .un .un .un) (by
      obtain ⟨NN, hNN⟩ : ∃ NN, NN = shs (sts ny04) := ⟨_, rfl⟩
      obtain ⟨A, hA⟩ : ∃ A, A = shk (foK ch04) := ⟨_, rfl⟩
      obtain ⟨B, hB⟩ : ∃ B, B = shk (foK (ri04 m)) := ⟨_, rfl⟩
      obtain ⟨g, hg⟩ : ∃ g, g = ny04.getD 39 "" := ⟨_, rfl⟩
      simp only [N6]
      rw [← hNN] at ix ix39 ⊢
      rw [← hA] at pk39 l40 ⊢
      rw [← hB] at pk39 ⊢
      rw [← hg] at ix39 pk39
      rw [mPut_ap]
      simp [-ixT_lst, -getElem?_pos, hj, ix, ix39, pk39, l40]) ?_
    have l3 := lam3_bad c hxs hm (e04 ns cs i2 p2 x2 x3 x4 x5 N6 .un (.va (.dct (shk (foK (ri04 m))))) .un .un .un .un) rfl
    let R8 : Slot := .va (.dct (shk (foK (ri04 m))))
    refine Run_nx (e1 := e04 ns cs i2 p2 x2 x3 x4 x5 N6 .un R8 .un .un .un .un) (by
      rw [mIfS_ap, mTst_ap, mOp_ap, mCons_ap, l3]
      simp [nn, R8]) ?_
    obtain ⟨t, u, hf, F, i3, p3, rfl, rfl, c1, c2, hF6, hF8, w, hpl⟩ := forest_ok c cs i2 p2 6 (by omega) (by omega) (by omega)
    let T9 : Slot := .va (.dct (shk (foK F)))
    refine Run_nx (e1 := e04 ns cs i3 p3 x2 x3 x4 x5 N6 .un R8 T9 .un .un .un) (by rw [mAsg_ap]; simp [R8, T9, hf]) ?_
    have nm : NmF F := fun n hn => pool_ok n (hpl n hn)
    have hi := init_ok c F w nm (by omega) (.vw (.dct (shk (foK F)))) (.inr rfl)
    obtain ⟨fs, hfs⟩ : ∃ fs, grT c (srF F) = .ins c.Groups fs := ⟨_, rfl⟩
    let G10 : Slot := .va (.ins c.Groups fs)
    refine Run_nx (e1 := e04 ns cs i3 p3 x2 x3 x4 x5 N6 .un R8 T9 G10 .un .un) (by
      rw [mAsg_ap]
      simp only [G10]
      rw [hfs] at hi
      simp [R8, T9, hi]) ?_
    obtain ⟨t, u, ho, dn, i4, p4, rfl, rfl, c3, c4, n7⟩ := odd_name_ok c cs i3 p3 (by omega) (by omega)
    let OD : List D := [.str "nobody", .str "", .str "A", .non, .int 0, .bl true, .lst [.str "a"], .tup [.str "a"], .tup [.lst [.str "a"]], .dct [], .int 1000000000000000000000000000000000000000, dn]
    have hOD : ∀ d ∈ OD, plD d = true := by
      intro d hd
      simp only [OD, List.mem_cons, List.not_mem_nil, or_false] at hd
      rcases hd with rfl | rfl | rfl | rfl | rfl | rfl | rfl | rfl | rfl | rfl | rfl | rfl <;> first | rfl | exact of_pl n7.vl.p
    let O11 : Slot := .va (.lst (shs OD))
    refine Run_nx (e1 := e04 ns cs i4 p4 x2 x3 x4 x5 N6 .un R8 T9 G10 O11 .un) (by
      rw [mAsg_ap]
      simp [R8, T9, G10, O11, OD, pw39, ho, shs]) ?_
    apply Run_seq
    let AL : List D := sts (nms F) ++ OD
    have hAL : ∀ t ∈ AL, plD t = true := by
      intro t ht
      rcases List.mem_append.mp ht with h | h
      · obtain ⟨s, _, rfl⟩ := sts_mem.mp h; rfl
      · exact hOD t h
    have xa : xAdd [.sh (.lst (sts (nms F))), .lst (shs OD)] = some (.lst (shs AL)) := xAdd_l rfl (by simp) (by simp [nms_length, OD]; omega)
    let E : Slot → Slot → DL.Env := fun a b => e04 ns cs i4 p4 x2 a x4 x5 N6 .un R8 T9 G10 O11 b
    refine Run_for (fun ds e => ∃ (a b : Slot), e = E a b ∧ isM a = false ∧ isM b = false ∧ ∀ t ∈ ds, t ∈ AL) (ds := AL) (e0 := E x3 .un) ?_ ?_ ?_ ?_
    · obtain ⟨OO, hOO⟩ : ∃ OO, OO = OD := ⟨_, rfl⟩
      obtain ⟨AA, hAA⟩ : ∃ AA, AA = AL := ⟨_, rfl⟩
      have kF : kDs ((shk (foK F)).map (·.1)) = sts (nms F) := by
        have : (shk (foK F)).map (·.1) = (foK F).map (·.1) := by simp [shk, List.map_map, Function.comp_def]
        rw [this, foK_kD]
      have xl : xList [.dct (shk (foK F))] = some (.lst (shs (sts (nms F)))) := by rw [xList_dct, kF]
      obtain ⟨SF, hSF⟩ : ∃ SF, SF = sts (nms F) := ⟨_, rfl⟩
      simp only [E, O11, T9]
      rw [← hSF] at xl xa
      rw [← hOO] at xa ⊢
      rw [← hAA] at xa ⊢
      simp [-xList_dct, R8, G10, xl, xa]
    · exact ⟨x3, .un, rfl, m3, rfl, fun t h => h⟩
    · rintro t ds e ⟨a, b, rfl, ma, mb, hm2⟩
      have hp := hAL t (hm2 t List.mem_cons_self)
      let A3 : Slot := .va (.sh t)
      refine ⟨E A3 b, by simp [E, ma, A3], ?_⟩
      let D12 : Slot := .va (.sh (.str (if good4 F t = true then "" else "unknown")))
      refine Run_nx (e1 := E A3 D12) (by
        rw [mAsg_ap]
        simp only [E, A3, D12, T9]
        have hi := isi_strP c hp
        cases hs : isS t with
        | false =>
          have : good4 F t = false := by cases t with
            | str s => cases hs
            | _ => rfl
          rw [hs] at hi
          simp [hi, this, mb]
        | true =>
          rw [hs] at hi
          cases t with
          | str s => by_cases hsF : s ∈ nms F <;> simp [hi, good4, mb, hsF]
          | _ => cases hs) ?_
      obtain ⟨l4, l5⟩ := lam45 c hxs (F := F) (by omega) hp (E A3 D12) (by rw [hfs]; rfl) rfl
      have pr := parents_ok c (srF F) w.sr.nd _ (.inr rfl)
      have ne : yNe [.dct (shk (foK (srF F))), .dct (shk (foK F))] = some (.sh (.bl false)) := by
        rw [yNe_foE w.sr.nd w.nd (by simp [er_shk]) (by simp [er_shk]), foE_sr w.nd]; rfl
      refine Run_nx (e1 := E A3 D12) (by
        rw [mIfS_ap, mOr_ap, mTst_ap, mOp_ap, mCons_ap, l4]
        simp only [E, G10, T9, D12]
        obtain ⟨P1, hP1⟩ : ∃ P1, P1 = shk (foK (srF F)) := ⟨_, rfl⟩
        obtain ⟨P2, hP2⟩ : ∃ P2, P2 = shk (foK F) := ⟨_, rfl⟩
        rw [← hP1] at pr ne
        rw [← hP2] at ne ⊢
        rw [hfs] at pr
        simp [nn, pr, ne]) ?_
      refine Run_of (o := .nx (E A3 D12)) ?_ ⟨A3, D12, rfl, rfl, rfl, fun u h => hm2 u (List.mem_cons_of_mem _ h)⟩
      rw [mIfS_ap, mTst_ap, mOp_ap, mCons_ap, l5]
      simp [E, D12, nn]
    · rintro e ⟨a, b, rfl, ma, mb, hm2⟩
      refine Run_of (o := .rt (.sh (.bl true)) (E a b)) (by simp [E]) ?_
      exact Ret_of (t := .sh (.bl true)) (m := none) (by simp [E]) ⟨rfl, rfl⟩
  obtain ⟨t, u, hh, rfl, rfl⟩ := this
  exact hh
end W
namespace DL
variable [Lf]
open PySem PySem.Spec PyProof.Rows L2
def codeV (vs : Array Value) (P : Addr) : Bool := (match (vs[11]? : Option Value) with | some (.ref P1) => P1 == P | _ => false) && (match vs.getD 18 .none with | .str _ _ => true | _ => false) &&
      (match vs.getD 7 .none with | .int _ _ => true | _ => false) && (match vs.getD 9 .none with | .bool _ => true | _ => false) && (match vs.getD 10 .none with | .int _ _ => true | _ => false)
def codeB (o : Obj) (c P : Addr) : Bool := match o.cls, o.data with
  | .type nm, .fields vs => nm == "code" && codeV vs P && !(c == P)
  | _, _ => false
theorem codeV_ok {vs : Array Value} {P : Addr} (e : codeV vs P = true) : ∃ file tf flags tg inF text tt, vs[11]? = some (.ref P) ∧ vs.getD 11 .none = .ref P ∧ vs.getD 18 .none = .str file tf ∧ vs.getD 7 .none = .int flags tg ∧ vs.getD 9 .none = .bool inF ∧ vs.getD 10 .none = .int text tt := by
  unfold codeV at e
  simp only [Bool.and_eq_true] at e
  obtain ⟨⟨⟨⟨e2, e3⟩, e4⟩, e5⟩, e6⟩ := e
  split at e2
  · rename_i P1 q1
    have : P1 = P := beq_iff_eq.mp e2
    subst this
    split at e3
    · rename_i f1 t1 q3
      split at e4
      · rename_i f2 t2 q4
        split at e5
        · rename_i f3 q5
          split at e6
          · rename_i f4 t4 q6
            exact ⟨f1, t1, f2, t2, f3, f4, t4, q1, by rw [Array.getD_eq_getD_getElem?, q1]; rfl, q3, q4, q5, q6⟩
          · cases e6
        · cases e5
      · cases e4
    · cases e3
  · cases e2
theorem codeB_ok {o : Obj} {c P : Addr} {h : Heap} (e : codeB o c P = true) (g : h.get? c = some o) : PySem.W.CodeHd h c P := by
  unfold codeB at e
  split at e
  · rename_i nm vs h1 h2
    simp only [Bool.and_eq_true] at e
    obtain ⟨⟨e1, e2⟩, e7⟩ := e
    have : nm = "code" := beq_iff_eq.mp e1
    subst this
    obtain ⟨f1, t1, f2, t2, f3, f4, t4, q1, q2, q3, q4, q5, q6⟩ := codeV_ok e2
    exact ⟨o, vs, f1, t1, f2, t2, f3, f4, t4, g, h1, h2, q1, q2, q3, q4, q5, q6, by simpa using e7⟩
  · cases e
theorem lookup_in : ∀ {K : Kf} {g : Addr} {o : Obj}, K.lookup g = some o → (g, o) ∈ K
  | [], _, _, h => by cases h
  | (b, x) :: r, g, o, h => by
    unfold List.lookup at h
    split at h
    · rename_i e
      cases h
      rw [beq_iff_eq.mp e]
      exact List.mem_cons_self
    · exact List.mem_cons_of_mem _ (lookup_in h)
def lcK (K : Kf) (g : Addr) : Addr := match lamT K g with | some z => z.1 | none => 0
def lpK (K : Kf) (g : Addr) : Addr := match lamT K g with | some z => z.2.1 | none => 0
def lqK (K : Kf) (g : Addr) : Str := match lamT K g with | some z => z.2.2 | none => ""
def lamB (K : Kf) (g : Addr) (q : Str) : Bool := match lamT K g with
  | some (c, P, q1) => q1 == q && (match K.lookup c with | some o => codeB o c P | none => false) && (K.lookup P).isNone
  | none => false
theorem lamB_ok {K : Kf} {g : Addr} {q : Str} (h : lamB K g q = true) : lamT K g = some (lcK K g, lpK K g, q) ∧ (∃ o, K.lookup (lcK K g) = some o ∧ codeB o (lcK K g) (lpK K g) = true) ∧ K.lookup (lpK K g) = none := by
  unfold lamB at h
  cases e : lamT K g with
  | none => rw [e] at h; cases h
  | some z =>
    obtain ⟨c, P, q1⟩ := z
    have ec : lcK K g = c := by unfold lcK; rw [e]
    have eP : lpK K g = P := by unfold lpK; rw [e]
    rw [e] at h
    simp only [Bool.and_eq_true] at h
    obtain ⟨⟨h1, h2⟩, h3⟩ := h
    have : q1 = q := beq_iff_eq.mp h1
    subst this
    rw [ec, eP]
    refine ⟨rfl, ?_, by simpa using h3⟩
    split at h2
    · rename_i o eo; exact ⟨o, eo, h2⟩
    · cases h2
def lamAll (K : Kf) (gs : List Addr) : Bool := K.all fun p => !lamO p.2 || gs.contains p.1
theorem lamO_of {K : Kf} {g c P : Addr} {q : Str} (h : lamT K g = some (c, P, q)) : ∃ o fd, K.lookup g = some o ∧ lamO o = true ∧ o.data = .func fd ∧ fd.code = .ref c ∧ ∃ oc vs, K.lookup c = some oc ∧ oc.data = .fields vs ∧ vs.getD 11 .none = .ref P := by
  unfold lamT at h
  split at h
  · rename_i o e
    split at h
    · rename_i fd h1 h2
      split at h
      · rename_i c1 h3
        split at h
        · rename_i x1 x2 vs x3 h4
          split at h
          · rename_i P1 h5
            cases h
            exact ⟨o, fd, e, h1, h2, h3, _, vs, h4, rfl, h5⟩
          · cases h
        · cases h
      · cases h
    · cases h
  · cases h
theorem lamAll_ok {K : Kf} {gs : List Addr} (h : lamAll K gs = true) {g c P : Addr} {q : Str} (e : lamT K g = some (c, P, q)) : g ∈ gs := by
  obtain ⟨o, fd, h1, h2, _⟩ := lamO_of e
  have := List.all_eq_true.mp h (g, o) (lookup_in h1)
  rw [h2] at this
  simpa using this
def lamUB (K : Kf) (gs : List Addr) : Bool := gs.all fun g => gs.all fun g1 => !(lpK K g == lpK K g1) || lqK K g == lqK K g1
theorem lamU_ok {K : Kf} {gs : List Addr} (h : lamAll K gs = true) (hu : lamUB K gs = true) {g : Addr} {q : Str} (hg : lamB K g q = true) : LamU K (lpK K g) q := by
  intro g1 c1 q1 e1
  have h1 := (lamB_ok hg).1
  have m1 := lamAll_ok h h1
  have m2 := lamAll_ok h e1
  have := List.all_eq_true.mp (List.all_eq_true.mp hu g m1) g1 m2
  have eP : lpK K g1 = lpK K g := by unfold lpK; rw [e1]; unfold lpK; rfl
  have q1e : lqK K g1 = q1 := by unfold lqK; rw [e1]
  have qe : lqK K g = q := by unfold lqK; rw [h1]
  rw [eP, q1e, qe] at this
  have hb : (lpK K g == lpK K g) = true := beq_self_eq_true _
  rw [hb, Bool.not_true, Bool.false_or] at this
  exact (beq_iff_eq.mp this).symm
class TBs (K : Kf) (mg : Str → Option Value) (base : Heap) : Prop where
  tb : ∀ g c P q, lamT K g = some (c, P, q) → LamX.TabB base mg c P
theorem tbs_of {K : Kf} {mg : Str → Option Value} {base : Heap} {gs : List Addr} (hall : lamAll K gs = true) (h : ∀ g ∈ gs, LamX.TabB base mg (lcK K g) (lpK K g)) : TBs K mg base := ⟨fun g c P q e => by
  have := h g (lamAll_ok hall e)
  unfold lcK lpK at this
  rw [e] at this
  exact this⟩
abbrev IxL (qual : Str) (st : Stmt) (f : Addr) (k : Nat) (c : Addr) : Type := { q : Ix qual st f k // q.1.1 = .ref c }
abbrev cxL (P : Program) (w : World) (K : Kf) (mg : Str → Option Value) (base : Heap) (N : List Str) (qual : Str) (st : Stmt) (f : Addr) (k : Nat) (c : Addr) (E : XK) : IxL qual st f k c → Cx := fun q => cxD P w K mg base N qual st f k E q.1
section
variable {P : Program} {w : World} {K : Kf} {mg : Str → Option Value} {base : Heap} {N ps : List Str} {x qual : Str} {st : Stmt} {f : Addr} {fd : FuncData} {k : Nat}
theorem fmL {c : Addr} (S : FnScope N ps (defScope st)) (E : XK) : Fm P w K mg base k (cxL P w K mg base N qual st f k c E) (fun _ => E) where
  hP := fun _ => rfl
  hw := fun _ => rfl
  hb := fun _ => rfl
  hk := fun _ => rfl
  hm := fun _ => rfl
  calm := fun _ => rfl
  gd := fun q => q.1.2.2
  room := fun q => q.1.2.1
  nd := fun _ => S.nd
  tk := fun q => takes_of rfl rfl rfl rfl
  po := fun q => passes_of rfl
theorem Fun.okL {c T : Addr} {q : Str} {sp : Sp} (Fn : Fun K x qual st f fd) (hl : lamT K f = some (c, T, q)) (S : FnScope N ps (defScope st)) (hlen : ∀ vs H Q E, sp vs H Q E → vs.length = ps.length)
    (hbody : ∀ (A : Around) (out : List PySem.Env) (s : Shared) (H : Hp) (vs : List V) (Q : VK) (E : XK), Room k (A.deeper (envOfC qual (defScope st) s.heap.objs.size f (.ref c))) → Gq k (A.deeper (envOfC qual (defScope st) s.heap.objs.size f (.ref c))) → sp vs H Q E →
      ∃ t, PSs (cxOf (L2.CX P w) P w K mg base N qual (defScope st) f (.ref c) A out s H E) (defBody st) t ∧ t { nx := fun _ H' => Q .non H', rt := Q } (L2.start N vs) H) : FnG P w K mg base (k + 1) f fd ps sp := by
  obtain ⟨oc, od, kV, doc, pm, an, cdv, ct, osl, rfl, lk, hcd⟩ := Fn.ex
  obtain ⟨o2, fd2, l1, _, l3, l4, _⟩ := lamO_of hl
  rw [lk] at l1
  cases l1
  cases l3
  cases (show cdv = .ref c from l4)
  refine ⟨hlen, fun A out s H args us vs Q E hr hg e0 hb r hsp => ?_⟩
  refine LamX.run_ofS (CX := L2.CX P w) lk hcd S hr e0 hb r (hlen _ _ _ _ hsp) fun hr2 => ?_
  exact hbody A out s H vs Q E hr2 (guards_deeper hg) hsp
end
def seenT (K : Kf) (a : Addr) (vs : List Value) (ns : List Int) (cs : List Addr) : Hp := fun b => if b ∈ cs then some (.tbl #[]) else seenH K a vs ns b
section
variable {P : Program} {w : World} {K : Kf} {mg mb : Str → Option Value} {a : Addr} {s : Shared} {vs : List Value} {ns : List Int} {cs : List (Addr × Addr)}
theorem law_callT {k : Nat} {fa : Addr} {fd : FuncData} {x : Str} {sp : Sp} (hr : Room k callerA) (hgd : callerA.guards = some [])
    (KX : K.In s.heap) (hns : s.heap.Ns mainGlobals mg) (hb : s.heap.Ns builtinsNs mb) (hbb : ∀ x : Str, x ≠ "__name__" → mb x = bootBuiltins x) (hlim : s.heap.NoLimit) (hg : s.gens = #[])
    (hT : ∀ p ∈ cs, s.heap.get? p.2 = some { cls := .none, data := .fields #[] }) (nT : ∀ p ∈ cs, K.lookup p.2 = none) (C : ∀ p ∈ cs, PySem.W.CodeHd s.heap p.1 p.2)
    (hbm : ∃ (bm : Addr) (ob : Obj), mg "__builtins__" = some (.ref bm) ∧ bm ≠ builtinsNs ∧ s.heap.get? bm = some ob ∧ ob.cls = .type "module" ∧ ob.dict = some builtinsNs ∧ ob.data = .plain)
    (ha : s.heap.get? a = some { cls := .type "list", data := .seq vs.toArray }) (hi : IntsAre vs ns) (hl : ns.length ≤ sizeLine)
    (F : ∀ base : Heap, K.In base → base.Ns mainGlobals mg → (∀ p ∈ cs, LamX.TabB base mg p.1 p.2) → FnG P w K mg base k fa fd [x] sp) (hbind : ∀ (s : Shared) (u : Value), BindsTo s fd ⟨[u], []⟩ [(x, u)])
    (hsp : sp [.ref a] (seenT K a vs ns (cs.map (·.2))) (fun v _ => v = .bl true) E0) :
    codeAny (model P w) callerA (.call (.ref fa) ⟨[.ref a], []⟩) (fun r s' => r = .ok (.ret (.bool true)) ∧ OldK s.heap s'.heap ∧ s'.os = s.os ∧ AllBare s'.gens) s := by
  have inT : ∀ b ∈ cs.map (·.2), s.heap.get? b = some { cls := .none, data := .fields #[] } ∧ K.lookup b = none := fun b hb => by
    obtain ⟨p, hp, rfl⟩ := List.mem_map.mp hb
    exact ⟨hT p hp, nT p hp⟩
  have aT : a ∉ cs.map (·.2) := fun z => by
    have q := (inT a z).1
    rw [ha] at q
    cases q
  have cases3 : ∀ b u, seenT K a vs ns (cs.map (·.2)) b = some u → (b ∈ cs.map (·.2) ∧ u = .tbl #[]) ∨ (b ∉ cs.map (·.2) ∧ b = a ∧ K.lookup a = none ∧ u = .frz { cls := .type "list", data := .seq vs.toArray } (.lst (ns.map V.int))) := fun b u e => by
    unfold seenT at e
    by_cases hb : b ∈ cs.map (·.2)
    · rw [if_pos hb] at e; cases e; exact .inl ⟨hb, rfl⟩
    · rw [if_neg hb] at e
      exact .inr ⟨hb, seen_some e⟩
  have free : ∀ {b : Addr} {o : Obj}, s.heap.get? b = some o → (∀ l n, o.data ≠ .seq l n) → o.data ≠ .fields #[] → seenT K a vs ns (cs.map (·.2)) b = none := fun {b o} e h1 h2 => by
    cases q : seenT K a vs ns (cs.map (·.2)) b with
    | none => rfl
    | some u =>
      rcases cases3 b u q with ⟨hb, _⟩ | ⟨_, rfl, _⟩
      · rw [(inT b hb).1] at e; cases e; exact (h2 rfl).elim
      · rw [ha] at e; cases e; exact (h1 _ _ rfl).elim
  have at_ : ∀ {b : Addr} {o : Obj}, s.heap.get? b = some o → (∀ l n, o.data ≠ .seq l n) → o.data ≠ .fields #[] → (hidT s.heap (seenT K a vs ns (cs.map (·.2)))).get? b = some o := fun {b o} e h1 h2 => hidT_get e (free e h1 h2)
  have nsH : ∀ {b : Addr} {m : Str → Option Value}, s.heap.Ns b m → (hidT s.heap (seenT K a vs ns (cs.map (·.2)))).Ns b m := fun ⟨o, es, ep, e, d, r⟩ => ⟨o, es, ep, at_ e (fun l n z => by rw [d] at z; cases z) (fun z => by rw [d] at z; cases z), d, r⟩
  have kin : K.In (hidT s.heap (seenT K a vs ns (cs.map (·.2)))) := fun b o e => hidT_get (KX b o e) (by
    cases q : seenT K a vs ns (cs.map (·.2)) b with
    | none => rfl
    | some u =>
      rcases cases3 b u q with ⟨hb, _⟩ | ⟨_, rfl, hk, _⟩
      · rw [(inT b hb).2] at e; cases e
      · rw [hk] at e; cases e)
  have TB : ∀ p ∈ cs, LamX.TabB (hidT s.heap (seenT K a vs ns (cs.map (·.2)))) mg p.1 p.2 := fun p hp => by
    refine ⟨?_, ?_, fun z => ?_⟩
    · obtain ⟨o, us, file, tf, flags, tg, inF, text, tt, e1, r1, r2, r3, r4⟩ := C p hp
      exact ⟨o, us, file, tf, flags, tg, inF, text, tt, at_ e1 (fun l n z => by rw [r2] at z; cases z) (fun z => by rw [r2] at z; cases z; simp at r3), r1, r2, r3, r4⟩
    · obtain ⟨bm, ob, b1, b2, b3, b4, b5, b6⟩ := hbm
      refine ⟨bm, ob, b1, b2, fun q => ?_, fun q => ?_, at_ b3 (fun l n z => by rw [b6] at z; cases z) (fun z => by rw [b6] at z; cases z), b4, b5, b6⟩
      · obtain ⟨o, es, ep, e, hd, _⟩ := hns
        rw [q, e] at b3
        cases b3
        rw [hd] at b6
        cases b6
      · rw [q, hT p hp] at b3
        cases b3
        cases b6
    · obtain ⟨o, es, ep, e, hd, _⟩ := hns
      rw [z, hT p hp] at e
      cases e
      cases hd
  obtain ⟨mc, l1, l2⟩ := hlim
  have e0 : Env0 P w K mg (hidT s.heap (seenT K a vs ns (cs.map (·.2)))) callerA [] s (seenT K a vs ns (cs.map (·.2))) :=
    ⟨rfl, ⟨kin, nsH hns, ⟨mb, nsH hb, hbb⟩, ⟨mc, nsH l1, l2⟩⟩, fun b o e => of_hidT e, Nat.le_of_eq (hidT_size _ _), trivial, fun b hb => absurd (show b ∈ ([] : List Addr) from hb) (by simp), fun b u q => by
      rcases cases3 b u q with ⟨hb, rfl⟩ | ⟨_, rfl, _, rfl⟩
      · exact (inT b hb).1
      · exact ⟨ha, by rw [List.length_map]; exact hl, vs, _, vals_ints hi, ha⟩, .of_eq hg⟩
  refine codeAny_mono ((F _ kin (nsH hns) TB).go callerA [] s _ ⟨[.ref a], []⟩ [.ref a] [.ref a] _ _ hr (fun _ => hgd) e0 (hbind s (.ref a)) (.cons rfl .nil) hsp) fun r s' h => ?_
  match r, h with
  | .error e, h =>
    obtain ⟨_, _, _, _, _, _, _, _, _, _, _, _, z⟩ := h
    exact z.elim
  | .ok (.ret u), ⟨v, H', os, bare, un, hok', r', q⟩ =>
    cases (show v = .bl true from q)
    cases (show u = Value.bool true from r')
    have grown : ∀ p ∈ cs, ∃ more : Array Value, s'.heap.get? p.2 = some { cls := .none, data := .fields more } := fun p hp => by
      obtain ⟨more, z⟩ := un.tbls p.2 #[] (by unfold seenT; rw [if_pos (List.mem_map.mpr ⟨p, hp, rfl⟩)])
      exact ⟨_, hok' p.2 _ z⟩
    have rest : ∀ b o, b ∉ cs.map (·.2) → s.heap.get? b = some o → s'.heap.get? b = some o := fun b o nb e => by
      cases q : seenT K a vs ns (cs.map (·.2)) b with
      | none => exact un.keep b o e q (fun z => absurd (show b ∈ ([] : List Addr) from z) (by simp)) (fun z => absurd (show b ∈ ([] : List Addr) from z) (by simp))
      | some u =>
        rcases cases3 b u q with ⟨hb, _⟩ | ⟨_, rfl, _, rfl⟩
        · exact absurd hb nb
        · obtain ⟨e2, _⟩ := hok' b _ (un.frzs b _ _ q)
          rw [ha] at e
          cases e
          exact e2
    refine ⟨rfl, ⟨fun b o e => ?_, fun b o e => ?_⟩, os, bare⟩
    · by_cases hb : b ∈ cs.map (·.2)
      · obtain ⟨p, hp, rfl⟩ := List.mem_map.mp hb
        obtain ⟨more, hm⟩ := grown p hp
        rw [hT p hp] at e
        cases e
        exact .inr (.inl ⟨((C p hp).tab (hT p hp)).isCodeTable, rfl, #[], more, rfl, by rw [Array.empty_append]; exact hm⟩)
      · exact .inl (rest b o hb e)
    · by_cases hb : b ∈ cs.map (·.2)
      · obtain ⟨p, hp, rfl⟩ := List.mem_map.mp hb
        obtain ⟨more, hm⟩ := grown p hp
        exact ⟨_, hm⟩
      · exact ⟨o, rest b o hb e⟩
  | .ok .next, h => exact h.elim
  | .ok .brk, h => exact h.elim
  | .ok .cont, h => exact h.elim
end
abbrev LamL : Type := List (Str × Addr × Str)
theorem walk_ofT {l : PySem.W.OpenLaw} {n k : Nat} {q : Program} {loose : List Str} {XP : (Str → Option Value) → Heap → Prop} {YP : World → Heap → Prop} {d : DefRec} {K : Params → PySem.W.Frag} {sp : World → Sp} {x : Str}
    (hn : l.most = some n) (hn2 : n ≤ sizeLine) (hdf : d.params.defaults = []) (hr : Room k callerA) (hgd : callerA.guards = some [])
    (hY : ∀ (w : World) (h : Heap), YP w h → (K w.params).In h)
    (F : ∀ (w : World) (mg : Str → Option Value) (fa : Addr) (h : Heap), (K w.params).In h → h.Ns mainGlobals mg → mg d.name = some (.ref fa) →
      ∃ (fd : FuncData) (L : LamL), (∀ (s : Shared) (u : Value), BindsTo s fd ⟨[u], []⟩ [(x, u)]) ∧ lamAll (K w.params) (L.map (·.2.1)) = true ∧ (∀ z ∈ L, mg z.1 = some (.ref z.2.1) ∧ lamB (K w.params) z.2.1 z.2.2 = true ∧ ((recsOf q).any fun e => e.name == z.1) = true) ∧
        ∀ base : Heap, (K w.params).In base → base.Ns mainGlobals mg → (∀ z ∈ L, LamX.TabB base mg (lcK (K w.params) z.2.1) (lpK (K w.params) z.2.1)) → FnG l.prog w (K w.params) mg base k fa fd [x] (sp w))
    (hsp : ∀ (w : World) (s : Shared) (a : Addr) (vs : List Value) (ns : List Int) (H : Hp), ns.length ≤ n → SqL (K w.params) H a (ns.map V.int) → (∀ b u, H b = some u → (∃ o xs, u = .frz o (.lst xs)) ∨ u = .tbl #[]) → TabsK (K w.params) H → sp w [.ref a] H (fun v _ => v = .bl true) E0) :
    PySem.W.WalkO q loose XP YP l.row.toRowW d [] (fun f vs => PySem.call f vs) := by
  refine Att.attach_call hn hdf fun w s₀ s₁ mg mb fa o pm cd doc a vs ns G Y ho hd hcd hmg hobj hints hlen hg => ?_
  have KX := hY w _ Y
  obtain ⟨fd, L, hb, hall, hL, hF⟩ := F w mg fa _ KX G.T.g hmg
  have tabs : ∀ z ∈ L, s₁.heap.get? (lpK (K w.params) z.2.1) = some { cls := .none, data := .fields #[] } := fun z hz => by
    obtain ⟨h1, h2, h3⟩ := hL z hz
    obtain ⟨dL, hm, hn1⟩ := List.any_eq_true.mp h3
    have hn2 : dL.name = z.1 := beq_iff_eq.mp hn1
    obtain ⟨lt, ⟨oc, lc, cb⟩, ln⟩ := lamB_ok h2
    obtain ⟨o2, fd2, k1, k2, k3, k4, oc2, vc2, k5, k6, k7⟩ := lamO_of lt
    obtain ⟨a', o', fd', c', P', g1, g2, g3, g4, g5, g6⟩ := G.T.tab dL hm
    rw [hn2, h1] at g1
    cases g1
    rw [KX _ _ k1] at g2
    cases g2
    rw [k3] at g3
    cases g3
    rw [k4] at g4
    cases g4
    obtain ⟨⟨oc3, vc3, e1, _, e3, e4⟩, hP⟩ := g6
    rw [KX _ _ k5] at e1
    cases e1
    rw [k6] at e3
    cases e3
    rw [Array.getD_eq_getD_getElem?, e4] at k7
    cases k7
    exact hP
  have hsq : SqL (K w.params) (seenT (K w.params) a vs ns ((L.map fun z => (lcK (K w.params) z.2.1, lpK (K w.params) z.2.1)).map (·.2))) a (ns.map V.int) := by
    have na : a ∉ (L.map fun z => (lcK (K w.params) z.2.1, lpK (K w.params) z.2.1)).map (·.2) := fun z => by
      simp only [List.map_map, List.mem_map] at z
      obtain ⟨y, hy, e⟩ := z
      have q := tabs y hy
      simp only [Function.comp_apply] at e
      rw [e, hobj] at q
      cases q
    rcases seen_sq KX hobj hints (Nat.le_trans hlen hn2) with q | q
    · refine .inl ?_
      rcases q with q | ⟨o, q⟩
      · exact .inl (by unfold seenT; rw [if_neg na]; exact q)
      · exact .inr ⟨o, by unfold seenT; rw [if_neg na]; exact q⟩
    · exact .inr q
  refine law_callT (cs := L.map fun z => (lcK (K w.params) z.2.1, lpK (K w.params) z.2.1)) hr hgd KX G.T.g G.T.b G.T.builtins G.T.nolimit hg (fun p hp => ?_) (fun p hp => ?_) (fun p hp => ?_) G.T.bmain hobj hints (Nat.le_trans hlen hn2)
    (fun base h1 h2 h3 => hF base h1 h2 fun z hz => h3 _ (List.mem_map.mpr ⟨z, hz, rfl⟩)) hb (hsp w s₁ a vs ns _ hlen hsq (fun b u e => ?_) fun g c P q e => ?_)
  · obtain ⟨z, hz, rfl⟩ := List.mem_map.mp hp
    exact tabs z hz
  · obtain ⟨z, hz, rfl⟩ := List.mem_map.mp hp
    exact (lamB_ok (hL z hz).2.1).2.2
  · obtain ⟨z, hz, rfl⟩ := List.mem_map.mp hp
    obtain ⟨lt, ⟨oc, lc, cb⟩, ln⟩ := lamB_ok (hL z hz).2.1
    exact codeB_ok cb (KX _ _ lc)
  · unfold seenT at e
    split at e
    · cases e; exact .inr rfl
    · obtain ⟨_, _, rfl⟩ := seen_some e; exact .inl ⟨_, _, rfl⟩
  · have hg := lamAll_ok hall e
    obtain ⟨z, hz, rfl⟩ := List.mem_map.mp hg
    refine LamX.TabS.nil ?_
    have eP : lpK (K w.params) z.2.1 = P := by unfold lpK; rw [e]
    unfold seenT
    rw [if_pos (List.mem_map.mpr ⟨(lcK (K w.params) z.2.1, lpK (K w.params) z.2.1), List.mem_map.mpr ⟨z, hz, rfl⟩, eP⟩)]
theorem spD_law {K : Kf} {f : MF} {a : Addr} {ns : List Int} {H : Hp} {Q : VK} {E : XK} (hl : ns.length ≤ 63) (sq : SqL K H a (ns.map V.int)) (hO : ∀ b u, H b = some u → (∃ o xs, u = .frz o (.lst xs)) ∨ u = .tbl #[]) (hT : TabsK K H)
    (pl : f [.va (.sh (.scr ns))] = .ret (.sh (.bl true)) none) (q : ∀ H', Q (.bl true) H') : spD K 1 f [.ref a] H Q E := by
  let F : Hp := fun b => match H b with
    | some (.frz o u) => some (.frz o u)
    | _ => none
  have sub : ∀ b o, F b = some o → H b = some o ∧ ∃ o' u, o = .frz o' u := fun b o e => by
    show _
    have e : (match H b with | some (.frz o u) => some (HO.frz o u) | _ => none) = some o := e
    split at e
    · rename_i o' u h; cases e; exact ⟨h, _, _, rfl⟩
    · cases e
  have sqF : SqL K F a (ns.map V.int) := by
    rcases sq with z | z
    · rcases z with z | ⟨o, z⟩
      · rcases hO a _ z with ⟨_, _, e⟩ | e <;> cases e
      · exact .inl (.inr ⟨o, by show (match H a with | some (.frz o u) => some (HO.frz o u) | _ => none) = _; rw [z]⟩)
    · exact .inr z
  refine ⟨rfl, fun _ => none, F, [.va (.sh (.scr ns))], ⟨⟨.of (fun b o e => nomatch e), fun _ => hT⟩, ⟨⟨fun b o e => .inl (sub b o e).1⟩, fun b o e => by
    obtain ⟨h, _, _, e2⟩ := sub b _ e
    rcases hO b _ h with ⟨_, _, z⟩ | z
    · rw [z]; exact True.intro
    · rw [z] at e2; cases e2⟩, [], ⟨_, _, [], [], rfl, rfl, ⟨_, rfl, rfl, a, rfl, sqF⟩, rfl, rfl⟩, List.nodup_nil, (fun a h => nomatch h)⟩, fun i u e => ?_, ?_⟩
  · cases i <;> simp at e
  · rw [pl]
    intro x F' H' g st
    obtain ⟨S, ⟨b, l', S1, S2, eb, eS, ⟨w, ew, _, r⟩, _⟩, _⟩ := st.fp
    cases eb; cases ew
    rw [show x = .bl true from r]
    exact q H'
end DL
namespace W
open PySem PySem.Spec PyProof.Rows L2 DL
def top (i : Nat) : Stmt := PySem.Challenge.pw_quotasteps_k04_invalid_groups.main.body.getD i (.Pass ⟨0, 0, 0, 0⟩)
abbrev st_law_pen : Stmt := top 12
abbrev st_law_next : Stmt := top 13
abbrev st_law_draw : Stmt := top 14
abbrev st_law_some : Stmt := top 15
abbrev st_law_forest : Stmt := top 16
abbrev st_law_odd_name : Stmt := top 21
abbrev st_law_bent : Stmt := top 22
abbrev st_law_any : Stmt := top 17
abbrev st_law_word_v1 : Stmt := top 18
abbrev st_is_name : Stmt := top 8
abbrev st_has_ring : Stmt := top 9
abbrev st_Groups_made_path : Stmt := inClass (top 10) 1
abbrev st_Groups___init : Stmt := inClass (top 10) 0
abbrev st_law_is_name_v1 : Stmt := top 19
abbrev st_law_is_forest : Stmt := top 20
abbrev st_Groups_check : Stmt := inClass (top 10) 4
abbrev st_Groups_path : Stmt := inClass (top 10) 5
abbrev st_Groups_parents : Stmt := inClass (top 10) 3
abbrev st_Groups_below : Stmt := inClass (top 10) 6
abbrev st_law : Stmt := top 23
set_option genInjectivity false in
set_option genSizeOf false in
structure Tx (K : Kf) (mg : Str → Option Value) (c : Cs) where
  a_law_pen : Addr
  fd_law_pen : FuncData
  u_law_pen : Fun K "_law_pen" "_law_pen" st_law_pen a_law_pen fd_law_pen
  kp_law_pen : PySem.W.keepIn K (.ref a_law_pen) = true
  b_law_pen : Binds K fd_law_pen ["_law_script"] []
  m__law_pen : mg "_law_pen" = some (.ref a_law_pen)
  a_law_next : Addr
  fd_law_next : FuncData
  u_law_next : Fun K "_law_next" "_law_next" st_law_next a_law_next fd_law_next
  kp_law_next : PySem.W.keepIn K (.ref a_law_next) = true
  b_law_next : Binds K fd_law_next ["_law_pen_here"] []
  m__law_next : mg "_law_next" = some (.ref a_law_next)
  a_law_draw : Addr
  fd_law_draw : FuncData
  u_law_draw : Fun K "_law_draw" "_law_draw" st_law_draw a_law_draw fd_law_draw
  kp_law_draw : PySem.W.keepIn K (.ref a_law_draw) = true
  b_law_draw : Binds K fd_law_draw ["_law_pen_here", "_law_below_this"] []
  m__law_draw : mg "_law_draw" = some (.ref a_law_draw)
  a_law_some : Addr
  fd_law_some : FuncData
  u_law_some : Fun K "_law_some" "_law_some" st_law_some a_law_some fd_law_some
  kp_law_some : PySem.W.keepIn K (.ref a_law_some) = true
  b_law_some : Binds K fd_law_some ["_law_pen_here", "_law_pool", "_law_most"] []
  m__law_some : mg "_law_some" = some (.ref a_law_some)
  a_law_forest : Addr
  fd_law_forest : FuncData
  u_law_forest : Fun K "_law_forest" "_law_forest" st_law_forest a_law_forest fd_law_forest
  kp_law_forest : PySem.W.keepIn K (.ref a_law_forest) = true
  b_law_forest : Binds K fd_law_forest ["_law_pen_here", "_law_most"] []
  m__law_forest : mg "_law_forest" = some (.ref a_law_forest)
  a_law_odd_name : Addr
  fd_law_odd_name : FuncData
  u_law_odd_name : Fun K "_law_odd_name" "_law_odd_name" st_law_odd_name a_law_odd_name fd_law_odd_name
  kp_law_odd_name : PySem.W.keepIn K (.ref a_law_odd_name) = true
  b_law_odd_name : Binds K fd_law_odd_name ["_law_pen_here"] []
  m__law_odd_name : mg "_law_odd_name" = some (.ref a_law_odd_name)
  a_law_bent : Addr
  fd_law_bent : FuncData
  u_law_bent : Fun K "_law_bent" "_law_bent" st_law_bent a_law_bent fd_law_bent
  kp_law_bent : PySem.W.keepIn K (.ref a_law_bent) = true
  b_law_bent : Binds K fd_law_bent ["_law_pen_here", "_law_trees"] []
  m__law_bent : mg "_law_bent" = some (.ref a_law_bent)
  a_law_any : Addr
  fd_law_any : FuncData
  u_law_any : Fun K "_law_any" "_law_any" st_law_any a_law_any fd_law_any
  kp_law_any : PySem.W.keepIn K (.ref a_law_any) = true
  b_law_any : Binds K fd_law_any ["_law_pen_here", "_law_levels"] []
  m__law_any : mg "_law_any" = some (.ref a_law_any)
  a_law_word_v1 : Addr
  fd_law_word_v1 : FuncData
  u_law_word_v1 : Fun K "_law_word" "_law_word" st_law_word_v1 a_law_word_v1 fd_law_word_v1
  kp_law_word_v1 : PySem.W.keepIn K (.ref a_law_word_v1) = true
  b_law_word_v1 : Binds K fd_law_word_v1 ["_law_act"] []
  m__law_word : mg "_law_word" = some (.ref a_law_word_v1)
  a_is_name : Addr
  fd_is_name : FuncData
  u_is_name : Fun K "is_name" "is_name" st_is_name a_is_name fd_is_name
  kp_is_name : PySem.W.keepIn K (.ref a_is_name) = true
  b_is_name : Binds K fd_is_name ["thing"] []
  m_is_name : mg "is_name" = some (.ref a_is_name)
  a_has_ring : Addr
  fd_has_ring : FuncData
  u_has_ring : Fun K "has_ring" "has_ring" st_has_ring a_has_ring fd_has_ring
  kp_has_ring : PySem.W.keepIn K (.ref a_has_ring) = true
  b_has_ring : Binds K fd_has_ring ["parents"] []
  m_has_ring : mg "has_ring" = some (.ref a_has_ring)
  a_Groups_made_path : Addr
  fd_Groups_made_path : FuncData
  u_Groups_made_path : Fun K "made_path" "Groups.made_path" st_Groups_made_path a_Groups_made_path fd_Groups_made_path
  kp_Groups_made_path : PySem.W.keepIn K (.ref a_Groups_made_path) = true
  b_Groups_made_path : Binds K fd_Groups_made_path ["self", "name"] []
  h_Groups_made_path : Meth K c.Groups "made_path" a_Groups_made_path
  a_Groups___init : Addr
  fd_Groups___init : FuncData
  u_Groups___init : Fun K "__init__" "Groups.__init__" st_Groups___init a_Groups___init fd_Groups___init
  kp_Groups___init : PySem.W.keepIn K (.ref a_Groups___init) = true
  b_Groups___init : Binds K fd_Groups___init ["self", "parents"] []
  k_Groups : Mk K c.Groups a_Groups___init
  a_law_is_name_v1 : Addr
  fd_law_is_name_v1 : FuncData
  u_law_is_name_v1 : Fun K "_law_is_name" "_law_is_name" st_law_is_name_v1 a_law_is_name_v1 fd_law_is_name_v1
  kp_law_is_name_v1 : PySem.W.keepIn K (.ref a_law_is_name_v1) = true
  b_law_is_name_v1 : Binds K fd_law_is_name_v1 ["_law_thing"] []
  m__law_is_name : mg "_law_is_name" = some (.ref a_law_is_name_v1)
  a_law_is_forest : Addr
  fd_law_is_forest : FuncData
  u_law_is_forest : Fun K "_law_is_forest" "_law_is_forest" st_law_is_forest a_law_is_forest fd_law_is_forest
  kp_law_is_forest : PySem.W.keepIn K (.ref a_law_is_forest) = true
  b_law_is_forest : Binds K fd_law_is_forest ["_law_thing"] []
  m__law_is_forest : mg "_law_is_forest" = some (.ref a_law_is_forest)
  a_Groups_check : Addr
  fd_Groups_check : FuncData
  u_Groups_check : Fun K "check" "Groups.check" st_Groups_check a_Groups_check fd_Groups_check
  kp_Groups_check : PySem.W.keepIn K (.ref a_Groups_check) = true
  b_Groups_check : Binds K fd_Groups_check ["self", "name"] []
  h_Groups_check : Meth K c.Groups "check" a_Groups_check
  a_Groups_path : Addr
  fd_Groups_path : FuncData
  u_Groups_path : Fun K "path" "Groups.path" st_Groups_path a_Groups_path fd_Groups_path
  kp_Groups_path : PySem.W.keepIn K (.ref a_Groups_path) = true
  b_Groups_path : Binds K fd_Groups_path ["self", "name"] []
  h_Groups_path : Meth K c.Groups "path" a_Groups_path
  a_Groups_parents : Addr
  fd_Groups_parents : FuncData
  u_Groups_parents : Fun K "parents" "Groups.parents" st_Groups_parents a_Groups_parents fd_Groups_parents
  kp_Groups_parents : PySem.W.keepIn K (.ref a_Groups_parents) = true
  b_Groups_parents : Binds K fd_Groups_parents ["self"] []
  pa_Groups_parents : Addr
  p_Groups_parents : PropOf K c.Groups "parents" pa_Groups_parents a_Groups_parents
  a_Groups_below : Addr
  fd_Groups_below : FuncData
  u_Groups_below : Fun K "below" "Groups.below" st_Groups_below a_Groups_below fd_Groups_below
  kp_Groups_below : PySem.W.keepIn K (.ref a_Groups_below) = true
  b_Groups_below : Binds K fd_Groups_below ["self", "name"] []
  h_Groups_below : Meth K c.Groups "below" a_Groups_below
  a_law : Addr
  fd_law : FuncData
  u_law : Fun K "law" "law" st_law a_law fd_law
  kp_law : PySem.W.keepIn K (.ref a_law) = true
  b_law : Binds K fd_law ["_law_script"] []
  m_law : mg "law" = some (.ref a_law)
  c_Groups : Cls K c.Groups
  m_Groups : mg "Groups" = some (.ref c.Groups)
  z_all : mg "all" = none
  z_dict : mg "dict" = none
  z_isinstance : mg "isinstance" = none
  z_len : mg "len" = none
  z_list : mg "list" = none
  z_min : mg "min" = none
  z_range : mg "range" = none
  z_repr : mg "repr" = none
  z_sorted : mg "sorted" = none
  z_str : mg "str" = none
  z_tuple : mg "tuple" = none
  q_LETTERS : Value
  g_LETTERS : mg "LETTERS" = some q_LETTERS
  r_LETTERS : RelV (.str "abcdefghijklmnopqrstuvwxyz") q_LETTERS
  q_MAX_NAME : Value
  g_MAX_NAME : mg "MAX_NAME" = some q_MAX_NAME
  r_MAX_NAME : RelV (.int 8) q_MAX_NAME
  m_QuotaError : mg "QuotaError" = some (.ref c.QuotaError)
  m_InvalidGroups : mg "InvalidGroups" = some (.ref c.InvalidGroups)
  m_UnknownGroup : mg "UnknownGroup" = some (.ref c.UnknownGroup)
  x_InvalidGroups : Exc K c.InvalidGroups
  x_UnknownGroup : Exc K c.UnknownGroup
  ie_InvalidGroups : IsiE K (.ref c.InvalidGroups) (ix_InvalidGroups c)
  ie_UnknownGroup : IsiE K (.ref c.UnknownGroup) (ix_UnknownGroup c)
  ct_QuotaError : ∀ q ∈ cx_QuotaError c, PySem.W.exmOne K (.ref q.1) (.ref c.QuotaError) = some q.2
  lb_law : lamB K a_law "law.<locals>.<lambda>" = true
  la : lamAll K [a_law] = true
  lu : lamUB K [a_law] = true
  n_Groups_parent_of : NoAttr K c.Groups "parent_of"
  n_Groups_paths : NoAttr K c.Groups "paths"
  i_dict : IsiOk K (.type "dict") tb_dict (ic_dict c)
  i_str : IsiOk K (.type "str") tb_str (ic_str c)
theorem sc_law_pen : FnScope ["_law_script"] ["_law_script"] (defScope st_law_pen) := ⟨rfl, rfl, rfl, by decide +kernel, rfl, by decide +kernel, by decide +kernel⟩
section
variable {P : Program} {w : World} {K : Kf} {mg : Str → Option Value} {base : Heap} {c : Cs} [Lf]
theorem s_law_pen (t : Tx K mg c) (E : XK) {f : Addr} : DSs K (fun _ => E) (cxD P w K mg base ["_law_script"] "_law_pen" st_law_pen f 0 E) (defBody st_law_pen) (b_law_pen c) :=
 have fm0 := fmD (P := P) (w := w) (K := K) (mg := mg) (base := base) (qual := "_law_pen") (f := f) (k := 0) sc_law_pen E
 ss1 (sret (dlst (da (dk (eCt fm0 (cList fm0) t.z_list rfl (da (df (eSh fm0 (dn 0) (di))) (da0)))) (da (di) (da (di) (da0))))))
theorem d_law_pen (t : Tx K mg c) : Df P w K mg base 1 1 (f_law_pen c) t.a_law_pen := Df.of t.u_law_pen t.kp_law_pen t.b_law_pen sc_law_pen (by decide) (fun E => s_law_pen t E)
end
theorem sc_law_next : FnScope ["_law_pen_here", "_law_index", "_law_cell", "_law_low", "_law_mid", "_law_top"] ["_law_pen_here"] (defScope st_law_next) := ⟨rfl, rfl, rfl, by decide +kernel, rfl, by decide +kernel, by decide +kernel⟩
section
variable {P : Program} {w : World} {K : Kf} {mg : Str → Option Value} {base : Heap} {c : Cs} [Lf]
theorem s_law_next (t : Tx K mg c) (E : XK) {f : Addr} : DSs K (fun _ => E) (cxD P w K mg base ["_law_pen_here", "_law_index", "_law_cell", "_law_low", "_law_mid", "_law_top"] "_law_next" st_law_next f 0 E) (defBody st_law_next) (b_law_next c) :=
 have fm0 := fmD (P := P) (w := w) (K := K) (mg := mg) (base := base) (qual := "_law_next") (f := f) (k := 0) sc_law_next E
 ssc (sset fm0 1 (eIx fm0 (dn 0) (di)))
 (ssc (sput fm0 (eBin bAdd (dn 1) (di)) (dn 0) (di))
 (ssc (sset fm0 2 (eBin bAdd (eBin bMul (dn 1) (di)) (di)))
 (ssc (sif (tCmp' (bNe fm0) (eIx fm0 (dn 0) (di)) (dlst (da0))) (ss1 (sset fm0 2 (eIx fm0 (eIx fm0 (dn 0) (di)) (eBin bMod (dn 1) (eCb fm0 (cLen fm0) t.z_len rfl (da (eIx fm0 (dn 0) (di)) (da0))))))) (ss0))
 (ssc (sif (dw (dand (tCmp' (bLt) (dn 1) (eCb fm0 (cLen fm0) t.z_len rfl (da (eIx fm0 (dn 0) (di)) (da0)))) (dand1 (tCmp' (bGe) (dn 2) (eBin bPow (di) (di)))))) (ss1 (sret (dn 2))) (ss0))
 (ssc (sset fm0 3 (eBin bMod (eBin bAdd (eBin bAdd (eBin bMod (dn 2) (di)) (eBin bMul (dn 1) (di))) (di)) (di)))
 (ssc (sset fm0 4 (eBin bMod (eBin bAdd (eBin bAdd (eBin bMul (dn 3) (dn 3)) (eBin bMul (dn 1) (di))) (di)) (di)))
 (ssc (sset fm0 5 (eBin bMod (eBin bAdd (eBin bAdd (eBin bMul (dn 4) (dn 4)) (dn 3)) (eBin bMul (eBin bMul (dn 1) (dn 1)) (di))) (di)))
 (ss1 (sret (eBin bAdd (eBin bMul (eBin bAdd (eBin bMul (dn 5) (di)) (dn 4)) (di)) (dn 3)))))))))))
theorem d_law_next (t : Tx K mg c) : Df P w K mg base 1 1 (f_law_next c) t.a_law_next := Df.of t.u_law_next t.kp_law_next t.b_law_next sc_law_next (by decide) (fun E => s_law_next t E)
end
theorem sc_law_draw : FnScope ["_law_pen_here", "_law_below_this", "_law_digit"] ["_law_pen_here", "_law_below_this"] (defScope st_law_draw) := ⟨rfl, rfl, rfl, by decide +kernel, rfl, by decide +kernel, by decide +kernel⟩
section
variable {P : Program} {w : World} {K : Kf} {mg : Str → Option Value} {base : Heap} {c : Cs} [Lf]
theorem s_law_draw (t : Tx K mg c) (E : XK) {f : Addr} : DSs K (fun _ => E) (cxD P w K mg base ["_law_pen_here", "_law_below_this", "_law_digit"] "_law_draw" st_law_draw f 1 E) (defBody st_law_draw) (b_law_draw c) :=
 have fm0 := fmD (P := P) (w := w) (K := K) (mg := mg) (base := base) (qual := "_law_draw") (f := f) (k := 1) sc_law_draw E
 ssc (sif (tCmp' (bLt) (eIx fm0 (dn 0) (di)) (dn 1)) (ss1 (sput fm0 (dcallM fm0 (d_law_next (P := P) (w := w) (base := base) t) t.m__law_next (by decide) (da (dn 0) (da0))) (dn 0) (di))) (ss0))
 (ssc (sset fm0 2 (eBin bMod (eIx fm0 (dn 0) (di)) (dn 1)))
 (ssc (sput fm0 (eBin bDiv (eIx fm0 (dn 0) (di)) (dn 1)) (dn 0) (di))
 (ss1 (sret (dn 2)))))
theorem d_law_draw (t : Tx K mg c) : Df P w K mg base 2 2 (f_law_draw c) t.a_law_draw := Df.of t.u_law_draw t.kp_law_draw t.b_law_draw sc_law_draw (by decide) (fun E => s_law_draw t E)
end
theorem sc_law_some : FnScope ["_law_pen_here", "_law_pool", "_law_most", "_law_left", "_law_turn"] ["_law_pen_here", "_law_pool", "_law_most"] (defScope st_law_some) := ⟨rfl, rfl, rfl, by decide +kernel, rfl, by decide +kernel, by decide +kernel⟩
section
variable {P : Program} {w : World} {K : Kf} {mg : Str → Option Value} {base : Heap} {c : Cs} [Lf]
theorem s_law_some (t : Tx K mg c) (E : XK) {f : Addr} : DSs K (fun _ => E) (cxD P w K mg base ["_law_pen_here", "_law_pool", "_law_most", "_law_left", "_law_turn"] "_law_some" st_law_some f 2 E) (defBody st_law_some) (b_law_some c) :=
 have fm0 := fmD (P := P) (w := w) (K := K) (mg := mg) (base := base) (qual := "_law_some") (f := f) (k := 2) sc_law_some E
 ssc (sset fm0 3 (eCt fm0 (cList fm0) t.z_list rfl (da (dn 1) (da0))))
 (ss1 (sret (dlc fm0 (DI0.i (diR1 fm0 (da (dcallM fm0 (d_law_draw (P := P) (w := w) (base := base) t) t.m__law_draw (by decide) (da (dn 0) (da (eBin bAdd (eCb fm0 (cMin fm0) t.z_min rfl (da (dn 2) (da (eCb fm0 (cLen fm0) t.z_len rfl (da (dn 3) (da0))) (da0)))) (di)) (da0)))) (da0)) t.z_range)) (fun _ => blkOk_by (own := [("_law_turn", 4)]) (by rfl)) (dgN (Fm.blk fm0) 4) (by decide) (dq0) (eMe (mPopAt (Fm.blk fm0)) (dn 3) (da (dcallM (Fm.blk fm0) (d_law_draw (P := P) (w := w) (base := base) t) t.m__law_draw (by decide) (da (dn 0) (da (eCb (Fm.blk fm0) (cLen (Fm.blk fm0)) t.z_len rfl (da (dn 3) (da0))) (da0)))) (da0))))))
theorem d_law_some (t : Tx K mg c) : Df P w K mg base 3 3 (f_law_some c) t.a_law_some := Df.of t.u_law_some t.kp_law_some t.b_law_some sc_law_some (by decide) (fun E => s_law_some t E)
end
theorem sc_law_forest : FnScope ["_law_pen_here", "_law_most", "_law_found", "_law_nym", "_law_over", "_law_turned"] ["_law_pen_here", "_law_most"] (defScope st_law_forest) := ⟨rfl, rfl, rfl, by decide +kernel, rfl, by decide +kernel, by decide +kernel⟩
section
variable {P : Program} {w : World} {K : Kf} {mg : Str → Option Value} {base : Heap} {c : Cs} [Lf]
theorem s_law_forest (t : Tx K mg c) (E : XK) {f : Addr} : DSs K (fun _ => E) (cxD P w K mg base ["_law_pen_here", "_law_most", "_law_found", "_law_nym", "_law_over", "_law_turned"] "_law_forest" st_law_forest f 3 E) (defBody st_law_forest) (b_law_forest c) :=
 have fm0 := fmD (P := P) (w := w) (K := K) (mg := mg) (base := base) (qual := "_law_forest") (f := f) (k := 3) sc_law_forest E
 ssc (sset fm0 2 (dnewd))
 (ssc (sforL fm0 (diAny fm0 (dcallM fm0 (d_law_some (P := P) (w := w) (base := base) t) t.m__law_some (by decide) (da (dn 0) (da (dlst (da (dst) (da (dst) (da (dst) (da (dst) (da (dst) (da (dst) (da (dst) (da (dst) (da0)))))))))) (da (dn 1) (da0)))))) (dgN fm0 3) (ssc (sset (Fm.z fm0) 4 (eCt (Fm.z fm0) (cList (Fm.z fm0)) t.z_list rfl (da (dn 2) (da0))))
 (ss1 (sput (Fm.z fm0) (dif (dw (dand (tCmp' (bNe (Fm.z fm0)) (dn 4) (dlst (da0))) (dand1 (tCmp' (bGt) (dcallM (Fm.z fm0) (d_law_draw (P := P) (w := w) (base := base) t) t.m__law_draw (by decide) (da (dn 0) (da (di) (da0)))) (di))))) (eIx (Fm.z fm0) (dn 4) (dcallM (Fm.z fm0) (d_law_draw (P := P) (w := w) (base := base) t) t.m__law_draw (by decide) (da (dn 0) (da (eCb (Fm.z fm0) (cLen (Fm.z fm0)) t.z_len rfl (da (dn 4) (da0))) (da0))))) (dnon)) (dn 2) (dn 3)))))
 (ssc (sset fm0 5 (eItems fm0 (dn 2) t.z_list))
 (ss1 (sret (eCt fm0 (cDictP fm0) t.z_dict rfl (da (df (eStep fm0 (dn 5) (eIx fm0 (dlst (da (di) (da (df (eNeg (di))) (da0)))) (dcallM fm0 (d_law_draw (P := P) (w := w) (base := base) t) t.m__law_draw (by decide) (da (dn 0) (da (di) (da0))))))) (da0)))))))
theorem d_law_forest (t : Tx K mg c) : Df P w K mg base 4 2 (f_law_forest c) t.a_law_forest := Df.of t.u_law_forest t.kp_law_forest t.b_law_forest sc_law_forest (by decide) (fun E => s_law_forest t E)
end
theorem sc_law_odd_name : FnScope ["_law_pen_here", "_law_letters", "_law_word_here", "_law_k", "_law_spot", "_law_signs", "_law_odd"] ["_law_pen_here"] (defScope st_law_odd_name) := ⟨rfl, rfl, rfl, by decide +kernel, rfl, by decide +kernel, by decide +kernel⟩
section
variable {P : Program} {w : World} {K : Kf} {mg : Str → Option Value} {base : Heap} {c : Cs} [Lf]
theorem s_law_odd_name (t : Tx K mg c) (E : XK) {f : Addr} : DSs K (fun _ => E) (cxD P w K mg base ["_law_pen_here", "_law_letters", "_law_word_here", "_law_k", "_law_spot", "_law_signs", "_law_odd"] "_law_odd_name" st_law_odd_name f 2 E) (defBody st_law_odd_name) (b_law_odd_name c) :=
 have fm0 := fmD (P := P) (w := w) (K := K) (mg := mg) (base := base) (qual := "_law_odd_name") (f := f) (k := 2) sc_law_odd_name E
 ssc (sset fm0 1 (dst))
 (ssc (sset fm0 2 (eMr (mJoin fm0) (dst) (da (dlc fm0 (DI0.i (diR1 fm0 (da (dcallM fm0 (d_law_draw (P := P) (w := w) (base := base) t) t.m__law_draw (by decide) (da (dn 0) (da (di) (da0)))) (da0)) t.z_range)) (fun _ => blkOk_by (own := [("_law_k", 3)]) (by rfl)) (dgN (Fm.blk fm0) 3) (by decide) (dq0) (eIx (Fm.blk fm0) (dn 1) (dcallM (Fm.blk fm0) (d_law_draw (P := P) (w := w) (base := base) t) t.m__law_draw (by decide) (da (dn 0) (da (di) (da0)))))) (da0))))
 (ssc (sset fm0 4 (dcallM fm0 (d_law_draw (P := P) (w := w) (base := base) t) t.m__law_draw (by decide) (da (dn 0) (da (eBin bAdd (eCb fm0 (cLen fm0) t.z_len rfl (da (dn 2) (da0))) (di)) (da0)))))
 (ssc (sset fm0 5 (dst))
 (ssc (sset fm0 6 (eBin bAdd (eBin bAdd (eSh fm0 (dn 2) (dn 4)) (eIx fm0 (dn 5) (dcallM fm0 (d_law_draw (P := P) (w := w) (base := base) t) t.m__law_draw (by decide) (da (dn 0) (da (eCb fm0 (cLen fm0) t.z_len rfl (da (dn 5) (da0))) (da0)))))) (eSl fm0 (dn 2) (dn 4))))
 (ss1 (sret (eIx fm0 (dlst (da (df (dn 2)) (da (df (dn 6)) (da (dst) (da (dst) (da (dst) (da (di) (da (df (eBin bRepS (dst) (di))) (da (dst) (da0)))))))))) (dcallM fm0 (d_law_draw (P := P) (w := w) (base := base) t) t.m__law_draw (by decide) (da (dn 0) (da (di) (da0)))))))))))
theorem d_law_odd_name (t : Tx K mg c) : Df P w K mg base 3 1 (f_law_odd_name c) t.a_law_odd_name := Df.of t.u_law_odd_name t.kp_law_odd_name t.b_law_odd_name sc_law_odd_name (by decide) (fun E => s_law_odd_name t E)
end
theorem sc_law_bent : FnScope ["_law_pen_here", "_law_trees", "_law_pairs", "_law_spot", "_law_nyms", "_law_one", "_law_odd", "_law_more"] ["_law_pen_here", "_law_trees"] (defScope st_law_bent) := ⟨rfl, rfl, rfl, by decide +kernel, rfl, by decide +kernel, by decide +kernel⟩
section
variable {P : Program} {w : World} {K : Kf} {mg : Str → Option Value} {base : Heap} {c : Cs} [Lf]
theorem s_law_bent (t : Tx K mg c) (E : XK) {f : Addr} : DSs K (fun _ => E) (cxD P w K mg base ["_law_pen_here", "_law_trees", "_law_pairs", "_law_spot", "_law_nyms", "_law_one", "_law_odd", "_law_more"] "_law_bent" st_law_bent f 3 E) (defBody st_law_bent) (b_law_bent c) :=
 have fm0 := fmD (P := P) (w := w) (K := K) (mg := mg) (base := base) (qual := "_law_bent") (f := f) (k := 3) sc_law_bent E
 ssc (sset fm0 2 (eItemsA fm0 (dn 1) t.z_list))
 (ssc (sset fm0 3 (dcallM fm0 (d_law_draw (P := P) (w := w) (base := base) t) t.m__law_draw (by decide) (da (dn 0) (da (eBin bAdd (eCb fm0 (cLen fm0) t.z_len rfl (da (dn 2) (da0))) (di)) (da0)))))
 (ssc (sset fm0 4 (eBin bAdd (df (eCt fm0 (cList fm0) t.z_list rfl (da (dn 1) (da0)))) (df (dlst (da (dst) (da0))))))
 (ssc (sset fm0 5 (eIx fm0 (dn 4) (dcallM fm0 (d_law_draw (P := P) (w := w) (base := base) t) t.m__law_draw (by decide) (da (dn 0) (da (eCb fm0 (cLen fm0) t.z_len rfl (da (dn 4) (da0))) (da0))))))
 (ssc (sset fm0 6 (eIx fm0 (dlst (da (dnon) (da (di) (da (dbl) (da (dst) (da (dst) (da (df (dlst (da (dst) (da0)))) (da (df (dtup (da (dst) (da0)))) (da (df (dtup (da (df (dlst (da (dst) (da0)))) (da0)))) (da (df (dnewd)) (da (df (dn 5)) (da0)))))))))))) (dcallM fm0 (d_law_draw (P := P) (w := w) (base := base) t) t.m__law_draw (by decide) (da (dn 0) (da (di) (da0))))))
 (ssc (sset fm0 7 (dlst (da (df (dtup (da (df (dcallM fm0 (d_law_odd_name (P := P) (w := w) (base := base) t) t.m__law_odd_name (by decide) (da (dn 0) (da0)))) (da (dnon) (da0))))) (da (df (dtup (da (dst) (da (df (dn 6)) (da0))))) (da (df (dtup (da (df (dn 5)) (da (df (eIx fm0 (dn 4) (dcallM fm0 (d_law_draw (P := P) (w := w) (base := base) t) t.m__law_draw (by decide) (da (dn 0) (da (eCb fm0 (cLen fm0) t.z_len rfl (da (dn 4) (da0))) (da0)))))) (da0))))) (da (df (dtup (da (df (dn 5)) (da (df (dn 5)) (da0))))) (da0)))))))
 (ss1 (sret (eCt fm0 (cDictP fm0) t.z_dict rfl (da (df (eBin bAdd (eBin bAdd (eSh fm0 (dn 2) (dn 3)) (df (dlst (da (df (eIx fm0 (dn 7) (dcallM fm0 (d_law_draw (P := P) (w := w) (base := base) t) t.m__law_draw (by decide) (da (dn 0) (da (di) (da0)))))) (da0))))) (eSl fm0 (dn 2) (dn 3)))) (da0))))))))))
theorem d_law_bent (t : Tx K mg c) : Df P w K mg base 4 2 (f_law_bent c) t.a_law_bent := Df.of t.u_law_bent t.kp_law_bent t.b_law_bent sc_law_bent (by decide) (fun E => s_law_bent t E)
end
theorem sc_law_any : FnScope ["_law_pen_here", "_law_levels", "_law_road", "_law_parts", "_law_turn", "_law_k"] ["_law_pen_here", "_law_levels"] (defScope st_law_any) := ⟨rfl, rfl, rfl, by decide +kernel, rfl, by decide +kernel, by decide +kernel⟩
section
variable {P : Program} {w : World} {K : Kf} {mg : Str → Option Value} {base : Heap} {c : Cs} [Lf]
theorem s_law_any (t : Tx K mg c) (n : Nat) (fR : MF) (dR : Df P w K mg base (3 + n) 2 fR t.a_law_any) (E : XK) {f : Addr} : DSs K (fun _ => E) (cxD P w K mg base ["_law_pen_here", "_law_levels", "_law_road", "_law_parts", "_law_turn", "_law_k"] "_law_any" st_law_any f (3 + n) E) (defBody st_law_any) (b_law_any c fR) :=
 have fm0 := fmD (P := P) (w := w) (K := K) (mg := mg) (base := base) (qual := "_law_any") (f := f) (k := 3 + n) sc_law_any E
 ssc (sset fm0 2 (dcallM fm0 (d_law_draw (P := P) (w := w) (base := base) t) t.m__law_draw (by first | decide | omega) (da (dn 0) (da (dif (tCmp' (bGt) (dn 1) (di)) (di) (di)) (da0)))))
 (ssc (sif (tCmp' (bLt) (dn 2) (di)) (ss1 (sret (eIx fm0 (dlst (da (di) (da (di) (da (df (eNeg (di))) (da (dbl) (da (dnon) (da (dst) (da (dst) (da (dst) (da (dst) (da (df (eBin bPow (di) (di))) (da (dst) (da0))))))))))))) (dn 2)))) (ss0))
 (ssc (sset fm0 3 (dlc fm0 (DI0.i (diR1 fm0 (da (dcallM fm0 (d_law_draw (P := P) (w := w) (base := base) t) t.m__law_draw (by first | decide | omega) (da (dn 0) (da (di) (da0)))) (da0)) t.z_range)) (fun _ => blkOk_by (own := [("_law_turn", 4)]) (by rfl)) (dgN (Fm.blk fm0) 4) (by first | decide | omega) (dq0) (df (dcallM (Fm.blk fm0) (dR) t.m__law_any (by first | decide | omega) (da (dn 0) (da (eBin bSub (dn 1) (di)) (da0)))))))
 (ssc (sif (tCmp' (bEq2 fm0) (dn 2) (di)) (ss1 (sret (dn 3))) (ss0))
 (ssc (sif (tCmp' (bEq2 fm0) (dn 2) (di)) (ss1 (sret (eCt fm0 (cDictP fm0) t.z_dict rfl (da (df (dlc fm0 (DI0.i (diR1 fm0 (da (eCb fm0 (cLen fm0) t.z_len rfl (da (dn 3) (da0))) (da0)) t.z_range)) (fun _ => blkOk_by (own := [("_law_k", 5)]) (by rfl)) (dgN (Fm.blk fm0) 5) (by first | decide | omega) (dq0) (dtup (da (df (eIx (Fm.blk fm0) (dlst (da (dst) (da (dst) (da (dst) (da (di) (da0)))))) (dn 5))) (da (df (eIx (Fm.blk fm0) (dn 3) (dn 5))) (da0)))))) (da0))))) (ss0))
 (ss1 (sret (eTupOf fm0 (dn 3) t.z_tuple)))))))
theorem dr_law_any (t : Tx K mg c) : ∀ n, Df P w K mg base (3 + n) 2 (g_law_any n c) t.a_law_any
  | 0 => Df.stuck t.kp_law_any t.b_law_any
  | n + 1 => Df.of t.u_law_any t.kp_law_any t.b_law_any sc_law_any (by decide) (fun E => s_law_any t n (g_law_any n c) (dr_law_any t n) E)
theorem d_law_any (t : Tx K mg c) : Df P w K mg base 53 2 (f_law_any c) t.a_law_any := dr_law_any t 50
end
theorem sc_law_word_v1 : FnScope ["_law_act", "_law_caught", "e", "_law_kinds"] ["_law_act"] (defScope st_law_word_v1) := ⟨rfl, rfl, rfl, by decide +kernel, rfl, by decide +kernel, by decide +kernel⟩
section
variable {P : Program} {w : World} {K : Kf} {mg : Str → Option Value} {base : Heap} {c : Cs} [Lf]
theorem s_law_word_v1 (t : Tx K mg c) {f : Addr} {k : Nat} : DSs K NX (cxD P w K mg base ["_law_act", "_law_caught", "e", "_law_kinds"] "_law_word" st_law_word_v1 f k E0) ((defBody st_law_word_v1).drop 2) (r_law_word_v1 c) :=
 have fm0 := fmD (P := P) (w := w) (K := K) (mg := mg) (base := base) (qual := "_law_word") (f := f) (k := k) sc_law_word_v1 E0
 ssc (sif (tCmp' (bIs) (dn 1) (dnon)) (ss1 (sret (dst))) (ss0))
 (ssc (sset fm0 3 (dlst (da (dk (eIsE fm0 (dn 1) t.ie_InvalidGroups (.own _) (cOwn fm0 t.m_InvalidGroups) t.z_isinstance rfl)) (da (dk (eIsE fm0 (dn 1) t.ie_UnknownGroup (.own _) (cOwn fm0 t.m_UnknownGroup) t.z_isinstance rfl)) (da0)))))
 (ss1 (sret (dif (tCmp' (bEq2 fm0) (eMr (mCntB fm0) (dn 3) (da (dbl) (da0))) (di)) (eIx fm0 (dlst (da (dst) (da (dst) (da0)))) (eMr (mIdxB fm0) (dn 3) (da (dbl) (da0)))) (dst)))))
theorem lf_law_word_v1 (t : Tx K mg c) : LamF K mg "_law_word" "_law_act" "_law_caught" "e" "QuotaError" t.a_law_word_v1 c.QuotaError 2 1 st_law_word_v1 ["_law_act", "_law_caught", "e", "_law_kinds"] ((defBody st_law_word_v1).drop 2) :=
 ⟨⟨_, t.u_law_word_v1, t.b_law_word_v1⟩, t.kp_law_word_v1, sc_law_word_v1, ⟨_, _, _, _, _, _, _, _, _, _, _, _, _, rfl⟩, t.m_QuotaError, rfl, rfl, rfl, by decide, by decide, .inl rfl, rfl, rfl, rfl, by decide +kernel⟩
end
theorem sc_is_name : FnScope ["thing", "sign"] ["thing"] (defScope st_is_name) := ⟨rfl, rfl, rfl, by decide +kernel, rfl, by decide +kernel, by decide +kernel⟩
section
variable {P : Program} {w : World} {K : Kf} {mg : Str → Option Value} {base : Heap} {c : Cs} [Lf]
theorem s_is_name (t : Tx K mg c) (E : XK) {f : Addr} : DSs K (fun _ => E) (cxD P w K mg base ["thing", "sign"] "is_name" st_is_name f 0 E) (defBody st_is_name) (b_is_name c) :=
 have fm0 := fmD (P := P) (w := w) (K := K) (mg := mg) (base := base) (qual := "is_name") (f := f) (k := 0) sc_is_name E
 ss1 (sret (dandV (eIsi fm0 (dn 0) t.i_str (.ty _) (cName fm0 t.z_str rfl) t.z_isinstance rfl) (dandV (eChain (bLe) (bLe) (di) (eCb fm0 (cLen fm0) t.z_len rfl (da (dn 0) (da0))) (dgl fm0 t.g_MAX_NAME rfl t.r_MAX_NAME)) (done (eCb fm0 (cAll fm0) t.z_all rfl (da (dlc fm0 (diAny fm0 (dn 0)) (fun _ => blkOk_by (own := [("sign", 1)]) (by rfl)) (dgN (Fm.blk fm0) 1) (by decide) (dq0) (eCmp (bIn (Fm.blk fm0)) (dn 1) (dgl (Fm.blk fm0) t.g_LETTERS rfl t.r_LETTERS))) (da0)))))))
theorem d_is_name (t : Tx K mg c) : Df P w K mg base 1 1 (f_is_name c) t.a_is_name := Df.of t.u_is_name t.kp_is_name t.b_is_name sc_is_name (by decide) (fun E => s_is_name t E)
end
theorem sc_has_ring : FnScope ["parents", "settled", "name", "path"] ["parents"] (defScope st_has_ring) := ⟨rfl, rfl, rfl, by decide +kernel, rfl, by decide +kernel, by decide +kernel⟩
section
variable {P : Program} {w : World} {K : Kf} {mg : Str → Option Value} {base : Heap} {c : Cs} [Lf]
theorem s_has_ring (t : Tx K mg c) (E : XK) {f : Addr} : DSs K (fun _ => E) (cxD P w K mg base ["parents", "settled", "name", "path"] "has_ring" st_has_ring f 0 E) (defBody st_has_ring) (b_has_ring c) :=
 have fm0 := fmD (P := P) (w := w) (K := K) (mg := mg) (base := base) (qual := "has_ring") (f := f) (k := 0) sc_has_ring E
 ssc (sset fm0 1 (dnewd))
 (ssc (sforL fm0 (diAny fm0 (dn 0)) (dgN fm0 2) (ssc (sset (Fm.z fm0) 3 (dnewd))
 (ssc (swhile fuel (Fm.z fm0) (dw (dand (tCmp' (bIsNot) (dn 2) (dnon)) (dand1 (tCmp' (bNotIn (Fm.z fm0)) (dn 2) (dn 1))))) (ssc (sif (tCmp' (bIn (Fm.z fm0)) (dn 2) (dn 3)) (ss1 (sret (dbl))) (ss0))
 (ssc (sput (Fm.z fm0) (dbl) (dn 3) (dn 2))
 (ss1 (sset (Fm.z fm0) 2 (eIx (Fm.z fm0) (dn 0) (dn 2)))))))
 (ss1 (sexp (eMe mUpdate (dn 1) (da (df (dn 3)) (da0))))))))
 (ss1 (sret (dbl))))
theorem d_has_ring (t : Tx K mg c) : Df P w K mg base 1 1 (f_has_ring c) t.a_has_ring := Df.of t.u_has_ring t.kp_has_ring t.b_has_ring sc_has_ring (by decide) (fun E => s_has_ring t E)
end
theorem sc_Groups_made_path : FnScope ["self", "name", "found"] ["self", "name"] (defScope st_Groups_made_path) := ⟨rfl, rfl, rfl, by decide +kernel, rfl, by decide +kernel, by decide +kernel⟩
section
variable {P : Program} {w : World} {K : Kf} {mg : Str → Option Value} {base : Heap} {c : Cs} [Lf]
theorem s_Groups_made_path (t : Tx K mg c) (E : XK) {f : Addr} : DSs K (fun _ => E) (cxD P w K mg base ["self", "name", "found"] "Groups.made_path" st_Groups_made_path f 0 E) (defBody st_Groups_made_path) (b_Groups_made_path c) :=
 have fm0 := fmD (P := P) (w := w) (K := K) (mg := mg) (base := base) (qual := "Groups.made_path") (f := f) (k := 0) sc_Groups_made_path E
 ssc (sset fm0 2 (dlst (da0)))
 (ssc (swhile fuel fm0 (tCmp' (bIsNot) (dn 1) (dnon)) (ssc (sexp (eMe (mAppend fm0) (dn 2) (da (dk (dn 1)) (da0))))
 (ss1 (sset fm0 1 (eIx fm0 (dattr fm0 t.c_Groups t.n_Groups_parent_of (dn 0)) (dn 1))))))
 (ss1 (sret (dn 2))))
theorem d_Groups_made_path (t : Tx K mg c) : Df P w K mg base 1 2 (f_Groups_made_path c) t.a_Groups_made_path := Df.of t.u_Groups_made_path t.kp_Groups_made_path t.b_Groups_made_path sc_Groups_made_path (by decide) (fun E => s_Groups_made_path t E)
end
theorem sc_Groups___init : FnScope ["self", "parents", "name", "parent"] ["self", "parents"] (defScope st_Groups___init) := ⟨rfl, rfl, rfl, by decide +kernel, rfl, by decide +kernel, by decide +kernel⟩
section
variable {P : Program} {w : World} {K : Kf} {mg : Str → Option Value} {base : Heap} {c : Cs} [Lf]
theorem s_Groups___init (t : Tx K mg c) (E : XK) {f : Addr} : DSs K (fun _ => E) (cxD P w K mg base ["self", "parents", "name", "parent"] "Groups.__init__" st_Groups___init f 1 E) (defBody st_Groups___init) (b_Groups___init c) :=
 have fm0 := fmD (P := P) (w := w) (K := K) (mg := mg) (base := base) (qual := "Groups.__init__") (f := f) (k := 1) sc_Groups___init E
 ssc (sif (dw (dor (dnot (dtru (eIsi fm0 (dn 1) t.i_dict (.ty _) (cName fm0 t.z_dict rfl) t.z_isinstance rfl) truN fm0)) (dor1 (dnot (dtru (eCb fm0 (cAll fm0) t.z_all rfl (da (dlc fm0 (diAny fm0 (dn 1)) (fun _ => blkOk_by (own := [("name", 2)]) (by rfl)) (dgN (Fm.blk fm0) 2) (by decide) (dq0) (dcall (Fm.blk fm0) (d_is_name (P := P) (w := w) (base := base) t) t.m_is_name (by decide) (da (dn 2) (da0)))) (da0))) truN fm0))))) (ss1 (sraise fm0 t.x_InvalidGroups t.m_InvalidGroups)) (ss0))
 (ssc (sif (dnot (dtru (eCb fm0 (cAll fm0) t.z_all rfl (da (dlc fm0 (diVals (dn 1)) (fun _ => blkOk_by (own := [("parent", 3)]) (by rfl)) (dgN (Fm.blk fm0) 3) (by decide) (dq0) (dorV (eCmp (bIs) (dn 3) (dnon)) (done (dandV (dcall (Fm.blk fm0) (d_is_name (P := P) (w := w) (base := base) t) t.m_is_name (by decide) (da (dn 3) (da0))) (done (eCmp (bIn (Fm.blk fm0)) (dn 3) (dn 1))))))) (da0))) truN fm0)) (ss1 (sraise fm0 t.x_InvalidGroups t.m_InvalidGroups)) (ss0))
 (ssc (sif (dtru (dcall fm0 (d_has_ring (P := P) (w := w) (base := base) t) t.m_has_ring (by decide) (da (dn 1) (da0))) truN fm0) (ss1 (sraise fm0 t.x_InvalidGroups t.m_InvalidGroups)) (ss0))
 (ssc (sfld fm0 t.c_Groups t.n_Groups_parent_of (ddc fm0 (diAny fm0 (eCb fm0 (cSorted2 fm0) t.z_sorted rfl (da (dn 1) (da0)))) (fun _ => blkOk_by (own := [("name", 2)]) (by rfl)) (dgN (Fm.blk fm0) 2) (by decide) (dq0) (dn 2) (eIx (Fm.blk fm0) (dn 1) (dn 2))) (dn 0))
 (ss1 (sfld fm0 t.c_Groups t.n_Groups_paths (ddc fm0 (diAny fm0 (dattr fm0 t.c_Groups t.n_Groups_parent_of (dn 0))) (fun _ => blkOk_by (own := [("name", 2)]) (by rfl)) (dgN (Fm.blk fm0) 2) (by decide) (dq0) (dn 2) (dmeth (Fm.blk fm0) (d_Groups_made_path (P := P) (w := w) (base := base) t) t.c_Groups t.h_Groups_made_path (by decide) (dn 0) (da (dn 2) (da0)))) (dn 0))))))
theorem d_Groups___init (t : Tx K mg c) : Df P w K mg base 2 2 (f_Groups___init c) t.a_Groups___init := Df.of t.u_Groups___init t.kp_Groups___init t.b_Groups___init sc_Groups___init (by decide) (fun E => s_Groups___init t E)
end
theorem sc_law_is_name_v1 : FnScope ["_law_thing", "_law_sign"] ["_law_thing"] (defScope st_law_is_name_v1) := ⟨rfl, rfl, rfl, by decide +kernel, rfl, by decide +kernel, by decide +kernel⟩
section
variable {P : Program} {w : World} {K : Kf} {mg : Str → Option Value} {base : Heap} {c : Cs} [Lf]
theorem s_law_is_name_v1 (t : Tx K mg c) (E : XK) {f : Addr} : DSs K (fun _ => E) (cxD P w K mg base ["_law_thing", "_law_sign"] "_law_is_name" st_law_is_name_v1 f 0 E) (defBody st_law_is_name_v1) (b_law_is_name_v1 c) :=
 have fm0 := fmD (P := P) (w := w) (K := K) (mg := mg) (base := base) (qual := "_law_is_name") (f := f) (k := 0) sc_law_is_name_v1 E
 ssc (sif (dw (dor (dnot (dtru (eIsi fm0 (dn 0) t.i_str (.ty _) (cName fm0 t.z_str rfl) t.z_isinstance rfl) truN fm0)) (dor1 (dnot (tChain' (bLe) (bLe) (di) (eCb fm0 (cLen fm0) t.z_len rfl (da (dn 0) (da0))) (di)))))) (ss1 (sret (dbl))) (ss0))
 (ss1 (sret (eCb fm0 (cAll fm0) t.z_all rfl (da (dlc fm0 (diAny fm0 (dn 0)) (fun _ => blkOk_by (own := [("_law_sign", 1)]) (by rfl)) (dgN (Fm.blk fm0) 1) (by decide) (dq0) (eChain (bLe) (bLe) (dst) (dn 1) (dst))) (da0)))))
theorem d_law_is_name_v1 (t : Tx K mg c) : Df P w K mg base 1 1 (f_law_is_name_v1 c) t.a_law_is_name_v1 := Df.of t.u_law_is_name_v1 t.kp_law_is_name_v1 t.b_law_is_name_v1 sc_law_is_name_v1 (by decide) (fun E => s_law_is_name_v1 t E)
end
theorem sc_law_is_forest : FnScope ["_law_thing", "_law_nym", "_law_spot", "_law_turn"] ["_law_thing"] (defScope st_law_is_forest) := ⟨rfl, rfl, rfl, by decide +kernel, rfl, by decide +kernel, by decide +kernel⟩
section
variable {P : Program} {w : World} {K : Kf} {mg : Str → Option Value} {base : Heap} {c : Cs} [Lf]
theorem s_law_is_forest (t : Tx K mg c) (E : XK) {f : Addr} : DSs K (fun _ => E) (cxD P w K mg base ["_law_thing", "_law_nym", "_law_spot", "_law_turn"] "_law_is_forest" st_law_is_forest f 1 E) (defBody st_law_is_forest) (b_law_is_forest c) :=
 have fm0 := fmD (P := P) (w := w) (K := K) (mg := mg) (base := base) (qual := "_law_is_forest") (f := f) (k := 1) sc_law_is_forest E
 ssc (sif (dw (dor (dnot (dtru (eIsi fm0 (dn 0) t.i_dict (.ty _) (cName fm0 t.z_dict rfl) t.z_isinstance rfl) truN fm0)) (dor1 (dnot (dtru (eCb fm0 (cAll fm0) t.z_all rfl (da (dlc fm0 (diAny fm0 (dn 0)) (fun _ => blkOk_by (own := [("_law_nym", 1)]) (by rfl)) (dgN (Fm.blk fm0) 1) (by decide) (dq0) (dcall (Fm.blk fm0) (d_law_is_name_v1 (P := P) (w := w) (base := base) t) t.m__law_is_name (by decide) (da (dn 1) (da0)))) (da0))) truN fm0))))) (ss1 (sret (dbl))) (ss0))
 (ssc (sforL fm0 (diAny fm0 (dn 0)) (dgN fm0 1) (ss1 (sif (dw (dand (tCmp' (bIsNot) (eIx (Fm.z fm0) (dn 0) (dn 1)) (dnon)) (dand1 (dw (dor (dnot (dtru (eIsi (Fm.z fm0) (eIx (Fm.z fm0) (dn 0) (dn 1)) t.i_str (.ty _) (cName (Fm.z fm0) t.z_str rfl) t.z_isinstance rfl) truN (Fm.z fm0))) (dor1 (tCmp' (bNotIn (Fm.z fm0)) (eIx (Fm.z fm0) (dn 0) (dn 1)) (dn 0)))))))) (ss1 (sret (dbl))) (ss0))))
 (ssc (sforL fm0 (diAny fm0 (dn 0)) (dgN fm0 1) (ssc (sset (Fm.z fm0) 2 (dn 1))
 (ssc (sforL (Fm.z fm0) (DI0.i (diR1 (Fm.z fm0) (da (eCb (Fm.z fm0) (cLen (Fm.z fm0)) t.z_len rfl (da (dn 0) (da0))) (da0)) t.z_range)) (dgN (Fm.z fm0) 3) (ss1 (sset (Fm.z (Fm.z fm0)) 2 (dif (tCmp' (bIsNot) (dn 2) (dnon)) (eIx (Fm.z (Fm.z fm0)) (dn 0) (dn 2)) (dnon)))))
 (ss1 (sif (tCmp' (bIsNot) (dn 2) (dnon)) (ss1 (sret (dbl))) (ss0))))))
 (ss1 (sret (dbl)))))
theorem d_law_is_forest (t : Tx K mg c) : Df P w K mg base 2 1 (f_law_is_forest c) t.a_law_is_forest := Df.of t.u_law_is_forest t.kp_law_is_forest t.b_law_is_forest sc_law_is_forest (by decide) (fun E => s_law_is_forest t E)
end
theorem sc_Groups_check : FnScope ["self", "name"] ["self", "name"] (defScope st_Groups_check) := ⟨rfl, rfl, rfl, by decide +kernel, rfl, by decide +kernel, by decide +kernel⟩
section
variable {P : Program} {w : World} {K : Kf} {mg : Str → Option Value} {base : Heap} {c : Cs} [Lf]
theorem s_Groups_check (t : Tx K mg c) (E : XK) {f : Addr} : DSs K (fun _ => E) (cxD P w K mg base ["self", "name"] "Groups.check" st_Groups_check f 0 E) (defBody st_Groups_check) (b_Groups_check c) :=
 have fm0 := fmD (P := P) (w := w) (K := K) (mg := mg) (base := base) (qual := "Groups.check") (f := f) (k := 0) sc_Groups_check E
 ss1 (sif (dw (dor (dnot (dtru (eIsi fm0 (dn 1) t.i_str (.ty _) (cName fm0 t.z_str rfl) t.z_isinstance rfl) truN fm0)) (dor1 (tCmp' (bNotIn fm0) (dn 1) (dattr fm0 t.c_Groups t.n_Groups_parent_of (dn 0)))))) (ss1 (sraise fm0 t.x_UnknownGroup t.m_UnknownGroup)) (ss0))
theorem d_Groups_check (t : Tx K mg c) : Df P w K mg base 1 2 (f_Groups_check c) t.a_Groups_check := Df.of t.u_Groups_check t.kp_Groups_check t.b_Groups_check sc_Groups_check (by decide) (fun E => s_Groups_check t E)
end
theorem sc_Groups_path : FnScope ["self", "name"] ["self", "name"] (defScope st_Groups_path) := ⟨rfl, rfl, rfl, by decide +kernel, rfl, by decide +kernel, by decide +kernel⟩
section
variable {P : Program} {w : World} {K : Kf} {mg : Str → Option Value} {base : Heap} {c : Cs} [Lf]
theorem s_Groups_path (t : Tx K mg c) (E : XK) {f : Addr} : DSs K (fun _ => E) (cxD P w K mg base ["self", "name"] "Groups.path" st_Groups_path f 1 E) (defBody st_Groups_path) (b_Groups_path c) :=
 have fm0 := fmD (P := P) (w := w) (K := K) (mg := mg) (base := base) (qual := "Groups.path") (f := f) (k := 1) sc_Groups_path E
 ssc (sexp (dmeth fm0 (d_Groups_check (P := P) (w := w) (base := base) t) t.c_Groups t.h_Groups_check (by decide) (dn 0) (da (dn 1) (da0))))
 (ss1 (sret (eCt fm0 (cList fm0) t.z_list rfl (da (eIx fm0 (dattr fm0 t.c_Groups t.n_Groups_paths (dn 0)) (dn 1)) (da0)))))
theorem d_Groups_path (t : Tx K mg c) : Df P w K mg base 2 2 (f_Groups_path c) t.a_Groups_path := Df.of t.u_Groups_path t.kp_Groups_path t.b_Groups_path sc_Groups_path (by decide) (fun E => s_Groups_path t E)
end
theorem sc_Groups_parents : FnScope ["self"] ["self"] (defScope st_Groups_parents) := ⟨rfl, rfl, rfl, by decide +kernel, rfl, by decide +kernel, by decide +kernel⟩
section
variable {P : Program} {w : World} {K : Kf} {mg : Str → Option Value} {base : Heap} {c : Cs} [Lf]
theorem s_Groups_parents (t : Tx K mg c) (E : XK) {f : Addr} : DSs K (fun _ => E) (cxD P w K mg base ["self"] "Groups.parents" st_Groups_parents f 0 E) (defBody st_Groups_parents) (b_Groups_parents c) :=
 have fm0 := fmD (P := P) (w := w) (K := K) (mg := mg) (base := base) (qual := "Groups.parents") (f := f) (k := 0) sc_Groups_parents E
 ss1 (sret (eCt fm0 (cDictP fm0) t.z_dict rfl (da (dattr fm0 t.c_Groups t.n_Groups_parent_of (dn 0)) (da0))))
theorem d_Groups_parents (t : Tx K mg c) : Df P w K mg base 1 1 (f_Groups_parents c) t.a_Groups_parents := Df.of t.u_Groups_parents t.kp_Groups_parents t.b_Groups_parents sc_Groups_parents (by decide) (fun E => s_Groups_parents t E)
end
theorem sc_Groups_below : FnScope ["self", "name", "other"] ["self", "name"] (defScope st_Groups_below) := ⟨rfl, rfl, rfl, by decide +kernel, rfl, by decide +kernel, by decide +kernel⟩
section
variable {P : Program} {w : World} {K : Kf} {mg : Str → Option Value} {base : Heap} {c : Cs} [Lf]
theorem s_Groups_below (t : Tx K mg c) (E : XK) {f : Addr} : DSs K (fun _ => E) (cxD P w K mg base ["self", "name", "other"] "Groups.below" st_Groups_below f 1 E) (defBody st_Groups_below) (b_Groups_below c) :=
 have fm0 := fmD (P := P) (w := w) (K := K) (mg := mg) (base := base) (qual := "Groups.below") (f := f) (k := 1) sc_Groups_below E
 ssc (sexp (dmeth fm0 (d_Groups_check (P := P) (w := w) (base := base) t) t.c_Groups t.h_Groups_check (by decide) (dn 0) (da (dn 1) (da0))))
 (ss1 (sret (dlc fm0 (diAny fm0 (dattr fm0 t.c_Groups t.n_Groups_parent_of (dn 0))) (fun _ => blkOk_by (own := [("other", 2)]) (by rfl)) (dgN (Fm.blk fm0) 2) (by decide) (dq1 (dw (dand (tCmp' (bNe (Fm.blk fm0)) (dn 2) (dn 1)) (dand1 (tCmp' (bIn (Fm.blk fm0)) (dn 1) (eIx (Fm.blk fm0) (dattr (Fm.blk fm0) t.c_Groups t.n_Groups_paths (dn 0)) (dn 2))))))) (dn 2))))
theorem d_Groups_below (t : Tx K mg c) : Df P w K mg base 2 2 (f_Groups_below c) t.a_Groups_below := Df.of t.u_Groups_below t.kp_Groups_below t.b_Groups_below sc_Groups_below (by decide) (fun E => s_Groups_below t E)
end
theorem sc_law : FnScope ["_law_script", "_law_pen_here", "_law_turn", "_law_thing", "_law_change", "_law_seen", "_law_nyms", "_law_k", "_law_chain", "_law_trees", "_law_made", "_law_odd", "_law_due"] ["_law_script"] (defScope st_law) := ⟨rfl, rfl, rfl, by decide +kernel, rfl, by decide +kernel, by decide +kernel⟩
section
variable {P : Program} {w : World} {K : Kf} {mg : Str → Option Value} {base : Heap} {c : Cs} [TBs K mg base]
theorem s_law (t : Tx K mg c) (E : XK) : DSs K (fun _ => E) (cxL P w K mg base ["_law_script", "_law_pen_here", "_law_turn", "_law_thing", "_law_change", "_law_seen", "_law_nyms", "_law_k", "_law_chain", "_law_trees", "_law_made", "_law_odd", "_law_due"] "law" st_law t.a_law 55 (lcK K t.a_law) E) (defBody st_law) (b_law c) :=
 have fm0 := fmL (P := P) (w := w) (K := K) (mg := mg) (base := base) (qual := "law") (f := t.a_law) (k := 55) (c := lcK K t.a_law) sc_law E
 ssc (sset fm0 1 (dcall fm0 (d_law_pen (P := P) (w := w) (base := base) t) t.m__law_pen (by decide) (da (dn 0) (da0))))
 (ssc (sforL fm0 (DI0.i (diR1 fm0 (da (di) (da0)) t.z_range)) (dgN fm0 2) (ssc (sset (Fm.z fm0) 3 (df (dcallM (Fm.z fm0) (d_law_forest (P := P) (w := w) (base := base) t) t.m__law_forest (by decide) (da (dn 1) (da (di) (da0))))))
 (ssc (sforL (Fm.z fm0) (DI0.i (diR1 (Fm.z fm0) (da (eBin bAdd (di) (df (dcallM (Fm.z fm0) (d_law_draw (P := P) (w := w) (base := base) t) t.m__law_draw (by decide) (da (dn 1) (da (di) (da0)))))) (da0)) t.z_range)) (dgN (Fm.z fm0) 4) (ss1 (sset (Fm.z (Fm.z fm0)) 3 (df (dcallM (Fm.z (Fm.z fm0)) (d_law_bent (P := P) (w := w) (base := base) t) t.m__law_bent (by decide) (da (dn 1) (da (dn 3) (da0))))))))
 (ssc (sif (tCmp' (bEq2 (Fm.z fm0)) (dcallM (Fm.z fm0) (d_law_draw (P := P) (w := w) (base := base) t) t.m__law_draw (by decide) (da (dn 1) (da (di) (da0)))) (di)) (ss1 (sset (Fm.z fm0) 3 (df (eIx (Fm.z fm0) (dlst (da (dnon) (da (df (dlst (da0))) (da (df (eItemsA (Fm.z fm0) (dn 3) t.z_list)) (da (dst) (da (di) (da (dbl) (da (df (dcallM (Fm.z fm0) (d_law_any (P := P) (w := w) (base := base) t) t.m__law_any (by decide) (da (dn 1) (da (di) (da0))))) (da0))))))))) (dcallM (Fm.z fm0) (d_law_draw (P := P) (w := w) (base := base) t) t.m__law_draw (by decide) (da (dn 1) (da (di) (da0)))))))) (ss0))
 (ssc (sset (Fm.z fm0) 5 (eCb (Fm.z fm0) (cRepr2 (Fm.z fm0)) t.z_repr rfl (da (dn 3) (da0))))
 (ss1 (sif (dw (dor (tCmp' (bNe2 (Fm.z fm0)) (dlam trivial (Fm.z fm0) (kz := 4) (kb := 3) (lf_law_word_v1 t) t.m__law_word t.ct_QuotaError (s_law_word_v1 (P := P) (w := w) (base := base) t) (TBs.tb _ _ _ _ (lamB_ok t.lb_law).1) (lamB_ok t.lb_law).1 (lamU_ok t.la t.lu t.lb_law) (by decide) (by decide) (fun E2 => dmake (Fm.lam (Fm.z fm0) _ E2) (d_Groups___init (P := P) (w := w) (base := base) t) t.k_Groups t.m_Groups (by decide) (da (dn 3) (da0))) (fun j => j.2) (fun _ => (by decide +kernel : (("law" : Str) ++ (".<locals>." : Str)) ++ ("<lambda>" : Str) = "law.<locals>.<lambda>"))) (dif (dtru (dcall (Fm.z fm0) (d_law_is_forest (P := P) (w := w) (base := base) t) t.m__law_is_forest (by decide) (da (dn 3) (da0))) truN (Fm.z fm0)) (dst) (dst))) (dor1 (tCmp' (bNe2 (Fm.z fm0)) (eCb (Fm.z fm0) (cRepr2 (Fm.z fm0)) t.z_repr rfl (da (dn 3) (da0))) (dn 5))))) (ss1 (sret (dbl))) (ss0))))))))
 (ssc (sset fm0 6 (dlc fm0 (DI0.i (diR1 fm0 (da (di) (da0)) t.z_range)) (fun _ => blkOk_by (own := [("_law_k", 7)]) (by rfl)) (dgN (Fm.blk fm0) 7) (by decide) (dq0) (eBin bAdd (eBin bAdd (dst) (eIx (Fm.blk fm0) (dst) (eBin bMod (dn 7) (di)))) (eIx (Fm.blk fm0) (dst) (eBin bDiv (dn 7) (di))))))
 (ssc (sset fm0 8 (eCt fm0 (cDictP fm0) t.z_dict rfl (da (df (dlc fm0 (DI0.i (diR1 fm0 (da (di) (da0)) t.z_range)) (fun _ => blkOk_by (own := [("_law_k", 7)]) (by rfl)) (dgN (Fm.blk fm0) 7) (by decide) (dq0) (dtup (da (df (eIx (Fm.blk fm0) (dn 6) (dn 7))) (da (df (dif (tCmp' (bLt) (dn 7) (di)) (eIx (Fm.blk fm0) (dn 6) (eBin bAdd (dn 7) (di))) (dnon))) (da0)))))) (da0))))
 (ssc (sif (tCmp' (bNe2 fm0) (dlam trivial fm0 (kz := 4) (kb := 3) (lf_law_word_v1 t) t.m__law_word t.ct_QuotaError (s_law_word_v1 (P := P) (w := w) (base := base) t) (TBs.tb _ _ _ _ (lamB_ok t.lb_law).1) (lamB_ok t.lb_law).1 (lamU_ok t.la t.lu t.lb_law) (by decide) (by decide) (fun E2 => dmake (Fm.lam fm0 _ E2) (d_Groups___init (P := P) (w := w) (base := base) t) t.k_Groups t.m_Groups (by decide) (da (dn 8) (da0))) (fun j => j.2) (fun _ => (by decide +kernel : (("law" : Str) ++ (".<locals>." : Str)) ++ ("<lambda>" : Str) = "law.<locals>.<lambda>"))) (dst)) (ss1 (sret (dbl))) (ss0))
 (ssc (sput fm0 (eIx fm0 (dn 6) (dcallM fm0 (d_law_draw (P := P) (w := w) (base := base) t) t.m__law_draw (by decide) (da (dn 1) (da (di) (da0))))) (dn 8) (eIx fm0 (dn 6) (di)))
 (ssc (sif (tCmp' (bNe2 fm0) (dlam trivial fm0 (kz := 4) (kb := 3) (lf_law_word_v1 t) t.m__law_word t.ct_QuotaError (s_law_word_v1 (P := P) (w := w) (base := base) t) (TBs.tb _ _ _ _ (lamB_ok t.lb_law).1) (lamB_ok t.lb_law).1 (lamU_ok t.la t.lu t.lb_law) (by decide) (by decide) (fun E2 => dmake (Fm.lam fm0 _ E2) (d_Groups___init (P := P) (w := w) (base := base) t) t.k_Groups t.m_Groups (by decide) (da (dn 8) (da0))) (fun j => j.2) (fun _ => (by decide +kernel : (("law" : Str) ++ (".<locals>." : Str)) ++ ("<lambda>" : Str) = "law.<locals>.<lambda>"))) (dst)) (ss1 (sret (dbl))) (ss0))
 (ssc (sset fm0 9 (dcallM fm0 (d_law_forest (P := P) (w := w) (base := base) t) t.m__law_forest (by decide) (da (dn 1) (da (di) (da0)))))
 (ssc (sset fm0 10 (dmake fm0 (d_Groups___init (P := P) (w := w) (base := base) t) t.k_Groups t.m_Groups (by decide) (da (dn 9) (da0))))
 (ssc (sset fm0 11 (dlst (da (dst) (da (dst) (da (dst) (da (dnon) (da (di) (da (dbl) (da (df (dlst (da (dst) (da0)))) (da (df (dtup (da (dst) (da0)))) (da (df (dtup (da (df (dlst (da (dst) (da0)))) (da0)))) (da (df (dnewd)) (da (df (eBin bPow (di) (di))) (da (df (dcallM fm0 (d_law_odd_name (P := P) (w := w) (base := base) t) t.m__law_odd_name (by decide) (da (dn 1) (da0)))) (da0)))))))))))))))
 (ssc (sforL fm0 (diAny fm0 (eBin bAdd (df (eCt fm0 (cList fm0) t.z_list rfl (da (dn 9) (da0)))) (dn 11))) (dgN fm0 3) (ssc (sset (Fm.z fm0) 12 (dif (dw (dand (dtru (eIsi (Fm.z fm0) (dn 3) t.i_str (.ty _) (cName (Fm.z fm0) t.z_str rfl) t.z_isinstance rfl) truN (Fm.z fm0)) (dand1 (tCmp' (bIn (Fm.z fm0)) (dn 3) (dn 9))))) (dst) (dst)))
 (ssc (sif (dw (dor (tCmp' (bNe2 (Fm.z fm0)) (dlam trivial (Fm.z fm0) (kz := 3) (kb := 2) (lf_law_word_v1 t) t.m__law_word t.ct_QuotaError (s_law_word_v1 (P := P) (w := w) (base := base) t) (TBs.tb _ _ _ _ (lamB_ok t.lb_law).1) (lamB_ok t.lb_law).1 (lamU_ok t.la t.lu t.lb_law) (by decide) (by decide) (fun E2 => dmeth (Fm.lam (Fm.z fm0) _ E2) (d_Groups_path (P := P) (w := w) (base := base) t) t.c_Groups t.h_Groups_path (by decide) (dn 10) (da (dn 3) (da0))) (fun j => j.2) (fun _ => (by decide +kernel : (("law" : Str) ++ (".<locals>." : Str)) ++ ("<lambda>" : Str) = "law.<locals>.<lambda>"))) (dn 12)) (dor1 (tCmp' (bNe2 (Fm.z fm0)) (eProp (Fm.z fm0) (d_Groups_parents (P := P) (w := w) (base := base) t) t.c_Groups t.p_Groups_parents (by decide) (dn 10)) (dn 9))))) (ss1 (sret (dbl))) (ss0))
 (ss1 (sif (tCmp' (bNe2 (Fm.z fm0)) (dlam trivial (Fm.z fm0) (kz := 3) (kb := 2) (lf_law_word_v1 t) t.m__law_word t.ct_QuotaError (s_law_word_v1 (P := P) (w := w) (base := base) t) (TBs.tb _ _ _ _ (lamB_ok t.lb_law).1) (lamB_ok t.lb_law).1 (lamU_ok t.la t.lu t.lb_law) (by decide) (by decide) (fun E2 => dmeth (Fm.lam (Fm.z fm0) _ E2) (d_Groups_below (P := P) (w := w) (base := base) t) t.c_Groups t.h_Groups_below (by decide) (dn 10) (da (dn 3) (da0))) (fun j => j.2) (fun _ => (by decide +kernel : (("law" : Str) ++ (".<locals>." : Str)) ++ ("<lambda>" : Str) = "law.<locals>.<lambda>"))) (dn 12)) (ss1 (sret (dbl))) (ss0))))))
 (ss1 (sret (dbl)))))))))))))
end
theorem tx_mk {K : Kf} {mg : Str → Option Value} {h : Heap} (X : K.In h) (G : h.Ns mainGlobals mg) {fa : Addr} (hfa : mg "law" = some (.ref fa))
  {C_Groups : Addr}
  {f_law_pen : Addr} {od_law_pen an_law_pen : Option Addr} {sl_law_pen : Array (Option Value)} {oc_law_pen kV_law_pen dc_law_pen pm_law_pen cd_law_pen ct_law_pen : Value}
  {f_law_next : Addr} {od_law_next an_law_next : Option Addr} {sl_law_next : Array (Option Value)} {oc_law_next kV_law_next dc_law_next pm_law_next cd_law_next ct_law_next : Value}
  {f_law_draw : Addr} {od_law_draw an_law_draw : Option Addr} {sl_law_draw : Array (Option Value)} {oc_law_draw kV_law_draw dc_law_draw pm_law_draw cd_law_draw ct_law_draw : Value}
  {f_law_some : Addr} {od_law_some an_law_some : Option Addr} {sl_law_some : Array (Option Value)} {oc_law_some kV_law_some dc_law_some pm_law_some cd_law_some ct_law_some : Value}
  {f_law_forest : Addr} {od_law_forest an_law_forest : Option Addr} {sl_law_forest : Array (Option Value)} {oc_law_forest kV_law_forest dc_law_forest pm_law_forest cd_law_forest ct_law_forest : Value}
  {f_law_odd_name : Addr} {od_law_odd_name an_law_odd_name : Option Addr} {sl_law_odd_name : Array (Option Value)} {oc_law_odd_name kV_law_odd_name dc_law_odd_name pm_law_odd_name cd_law_odd_name ct_law_odd_name : Value}
  {f_law_bent : Addr} {od_law_bent an_law_bent : Option Addr} {sl_law_bent : Array (Option Value)} {oc_law_bent kV_law_bent dc_law_bent pm_law_bent cd_law_bent ct_law_bent : Value}
  {f_law_any : Addr} {od_law_any an_law_any : Option Addr} {sl_law_any : Array (Option Value)} {oc_law_any kV_law_any dc_law_any pm_law_any cd_law_any ct_law_any : Value}
  {f_law_word_v1 : Addr} {od_law_word_v1 an_law_word_v1 : Option Addr} {sl_law_word_v1 : Array (Option Value)} {oc_law_word_v1 kV_law_word_v1 dc_law_word_v1 pm_law_word_v1 cd_law_word_v1 ct_law_word_v1 : Value}
  {f_is_name : Addr} {od_is_name an_is_name : Option Addr} {sl_is_name : Array (Option Value)} {oc_is_name kV_is_name dc_is_name pm_is_name cd_is_name ct_is_name : Value}
  {f_has_ring : Addr} {od_has_ring an_has_ring : Option Addr} {sl_has_ring : Array (Option Value)} {oc_has_ring kV_has_ring dc_has_ring pm_has_ring cd_has_ring ct_has_ring : Value}
  {f_Groups_made_path : Addr} {od_Groups_made_path an_Groups_made_path : Option Addr} {sl_Groups_made_path : Array (Option Value)} {oc_Groups_made_path kV_Groups_made_path dc_Groups_made_path pm_Groups_made_path cd_Groups_made_path ct_Groups_made_path : Value}
  {f_Groups___init : Addr} {od_Groups___init an_Groups___init : Option Addr} {sl_Groups___init : Array (Option Value)} {oc_Groups___init kV_Groups___init dc_Groups___init pm_Groups___init cd_Groups___init ct_Groups___init : Value}
  {f_law_is_name_v1 : Addr} {od_law_is_name_v1 an_law_is_name_v1 : Option Addr} {sl_law_is_name_v1 : Array (Option Value)} {oc_law_is_name_v1 kV_law_is_name_v1 dc_law_is_name_v1 pm_law_is_name_v1 cd_law_is_name_v1 ct_law_is_name_v1 : Value}
  {f_law_is_forest : Addr} {od_law_is_forest an_law_is_forest : Option Addr} {sl_law_is_forest : Array (Option Value)} {oc_law_is_forest kV_law_is_forest dc_law_is_forest pm_law_is_forest cd_law_is_forest ct_law_is_forest : Value}
  {f_Groups_check : Addr} {od_Groups_check an_Groups_check : Option Addr} {sl_Groups_check : Array (Option Value)} {oc_Groups_check kV_Groups_check dc_Groups_check pm_Groups_check cd_Groups_check ct_Groups_check : Value}
  {f_Groups_path : Addr} {od_Groups_path an_Groups_path : Option Addr} {sl_Groups_path : Array (Option Value)} {oc_Groups_path kV_Groups_path dc_Groups_path pm_Groups_path cd_Groups_path ct_Groups_path : Value}
  {f_Groups_parents : Addr} {od_Groups_parents an_Groups_parents : Option Addr} {sl_Groups_parents : Array (Option Value)} {oc_Groups_parents kV_Groups_parents dc_Groups_parents pm_Groups_parents cd_Groups_parents ct_Groups_parents : Value}
  {pp_Groups_parents : Addr}
  {rs_Groups_parents : List Value}
  {f_Groups_below : Addr} {od_Groups_below an_Groups_below : Option Addr} {sl_Groups_below : Array (Option Value)} {oc_Groups_below kV_Groups_below dc_Groups_below pm_Groups_below cd_Groups_below ct_Groups_below : Value}
  {f_law : Addr} {od_law an_law : Option Addr} {sl_law : Array (Option Value)} {oc_law kV_law dc_law pm_law cd_law ct_law : Value}
  {q_LETTERS : Value}
  {q_MAX_NAME : Value}
  {C_QuotaError : Addr}
  {C_InvalidGroups : Addr}
  {C_UnknownGroup : Addr}
  (aC_Groups : PySem.W.nsIn K mainGlobals "Groups" = some (some (.ref C_Groups)))
  (pg_Groups : PySem.W.plainGet K C_Groups Str.empty = true)
  (hd_Groups : PySem.W.hasDictIn K C_Groups = true)
  (po_Groups : PySem.W.plainOver K C_Groups = true)
  (sa_Groups : PySem.W.findIn K (.ref C_Groups) "__setattr__" = some (some (.builtin "object.__setattr__")))
  (g_law_pen : PySem.W.nsIn K mainGlobals "_law_pen" = some (some (.ref f_law_pen)))
  (l_law_pen : K.lookup f_law_pen = some ⟨oc_law_pen, od_law_pen, .func (PySem.W.fnOf "_law_pen" "_law_pen" (defArgs st_law_pen) (defBody st_law_pen) (defScope st_law_pen) .none kV_law_pen dc_law_pen pm_law_pen an_law_pen cd_law_pen ct_law_pen), sl_law_pen⟩)
  (c_law_pen : PySem.W.codeIn K cd_law_pen "_law_pen" = true)
  (k_law_pen : PySem.W.keepIn K (.ref f_law_pen) = true)
  (g_law_next : PySem.W.nsIn K mainGlobals "_law_next" = some (some (.ref f_law_next)))
  (l_law_next : K.lookup f_law_next = some ⟨oc_law_next, od_law_next, .func (PySem.W.fnOf "_law_next" "_law_next" (defArgs st_law_next) (defBody st_law_next) (defScope st_law_next) .none kV_law_next dc_law_next pm_law_next an_law_next cd_law_next ct_law_next), sl_law_next⟩)
  (c_law_next : PySem.W.codeIn K cd_law_next "_law_next" = true)
  (k_law_next : PySem.W.keepIn K (.ref f_law_next) = true)
  (g_law_draw : PySem.W.nsIn K mainGlobals "_law_draw" = some (some (.ref f_law_draw)))
  (l_law_draw : K.lookup f_law_draw = some ⟨oc_law_draw, od_law_draw, .func (PySem.W.fnOf "_law_draw" "_law_draw" (defArgs st_law_draw) (defBody st_law_draw) (defScope st_law_draw) .none kV_law_draw dc_law_draw pm_law_draw an_law_draw cd_law_draw ct_law_draw), sl_law_draw⟩)
  (c_law_draw : PySem.W.codeIn K cd_law_draw "_law_draw" = true)
  (k_law_draw : PySem.W.keepIn K (.ref f_law_draw) = true)
  (g_law_some : PySem.W.nsIn K mainGlobals "_law_some" = some (some (.ref f_law_some)))
  (l_law_some : K.lookup f_law_some = some ⟨oc_law_some, od_law_some, .func (PySem.W.fnOf "_law_some" "_law_some" (defArgs st_law_some) (defBody st_law_some) (defScope st_law_some) .none kV_law_some dc_law_some pm_law_some an_law_some cd_law_some ct_law_some), sl_law_some⟩)
  (c_law_some : PySem.W.codeIn K cd_law_some "_law_some" = true)
  (k_law_some : PySem.W.keepIn K (.ref f_law_some) = true)
  (g_law_forest : PySem.W.nsIn K mainGlobals "_law_forest" = some (some (.ref f_law_forest)))
  (l_law_forest : K.lookup f_law_forest = some ⟨oc_law_forest, od_law_forest, .func (PySem.W.fnOf "_law_forest" "_law_forest" (defArgs st_law_forest) (defBody st_law_forest) (defScope st_law_forest) .none kV_law_forest dc_law_forest pm_law_forest an_law_forest cd_law_forest ct_law_forest), sl_law_forest⟩)
  (c_law_forest : PySem.W.codeIn K cd_law_forest "_law_forest" = true)
  (k_law_forest : PySem.W.keepIn K (.ref f_law_forest) = true)
  (g_law_odd_name : PySem.W.nsIn K mainGlobals "_law_odd_name" = some (some (.ref f_law_odd_name)))
  (l_law_odd_name : K.lookup f_law_odd_name = some ⟨oc_law_odd_name, od_law_odd_name, .func (PySem.W.fnOf "_law_odd_name" "_law_odd_name" (defArgs st_law_odd_name) (defBody st_law_odd_name) (defScope st_law_odd_name) .none kV_law_odd_name dc_law_odd_name pm_law_odd_name an_law_odd_name cd_law_odd_name ct_law_odd_name), sl_law_odd_name⟩)
  (c_law_odd_name : PySem.W.codeIn K cd_law_odd_name "_law_odd_name" = true)
  (k_law_odd_name : PySem.W.keepIn K (.ref f_law_odd_name) = true)
  (g_law_bent : PySem.W.nsIn K mainGlobals "_law_bent" = some (some (.ref f_law_bent)))
  (l_law_bent : K.lookup f_law_bent = some ⟨oc_law_bent, od_law_bent, .func (PySem.W.fnOf "_law_bent" "_law_bent" (defArgs st_law_bent) (defBody st_law_bent) (defScope st_law_bent) .none kV_law_bent dc_law_bent pm_law_bent an_law_bent cd_law_bent ct_law_bent), sl_law_bent⟩)
  (c_law_bent : PySem.W.codeIn K cd_law_bent "_law_bent" = true)
  (k_law_bent : PySem.W.keepIn K (.ref f_law_bent) = true)
  (g_law_any : PySem.W.nsIn K mainGlobals "_law_any" = some (some (.ref f_law_any)))
  (l_law_any : K.lookup f_law_any = some ⟨oc_law_any, od_law_any, .func (PySem.W.fnOf "_law_any" "_law_any" (defArgs st_law_any) (defBody st_law_any) (defScope st_law_any) .none kV_law_any dc_law_any pm_law_any an_law_any cd_law_any ct_law_any), sl_law_any⟩)
  (c_law_any : PySem.W.codeIn K cd_law_any "_law_any" = true)
  (k_law_any : PySem.W.keepIn K (.ref f_law_any) = true)
  (g_law_word_v1 : PySem.W.nsIn K mainGlobals "_law_word" = some (some (.ref f_law_word_v1)))
  (l_law_word_v1 : K.lookup f_law_word_v1 = some ⟨oc_law_word_v1, od_law_word_v1, .func (PySem.W.fnOf "_law_word" "_law_word" (defArgs st_law_word_v1) (defBody st_law_word_v1) (defScope st_law_word_v1) .none kV_law_word_v1 dc_law_word_v1 pm_law_word_v1 an_law_word_v1 cd_law_word_v1 ct_law_word_v1), sl_law_word_v1⟩)
  (c_law_word_v1 : PySem.W.codeIn K cd_law_word_v1 "_law_word" = true)
  (k_law_word_v1 : PySem.W.keepIn K (.ref f_law_word_v1) = true)
  (g_is_name : PySem.W.nsIn K mainGlobals "is_name" = some (some (.ref f_is_name)))
  (l_is_name : K.lookup f_is_name = some ⟨oc_is_name, od_is_name, .func (PySem.W.fnOf "is_name" "is_name" (defArgs st_is_name) (defBody st_is_name) (defScope st_is_name) .none kV_is_name dc_is_name pm_is_name an_is_name cd_is_name ct_is_name), sl_is_name⟩)
  (c_is_name : PySem.W.codeIn K cd_is_name "is_name" = true)
  (k_is_name : PySem.W.keepIn K (.ref f_is_name) = true)
  (g_has_ring : PySem.W.nsIn K mainGlobals "has_ring" = some (some (.ref f_has_ring)))
  (l_has_ring : K.lookup f_has_ring = some ⟨oc_has_ring, od_has_ring, .func (PySem.W.fnOf "has_ring" "has_ring" (defArgs st_has_ring) (defBody st_has_ring) (defScope st_has_ring) .none kV_has_ring dc_has_ring pm_has_ring an_has_ring cd_has_ring ct_has_ring), sl_has_ring⟩)
  (c_has_ring : PySem.W.codeIn K cd_has_ring "has_ring" = true)
  (k_has_ring : PySem.W.keepIn K (.ref f_has_ring) = true)
  (g_Groups_made_path : PySem.W.findIn K (.ref C_Groups) "made_path" = some (some (.ref f_Groups_made_path)))
  (i_Groups_made_path : PySem.W.isFn K (.ref f_Groups_made_path) = true)
  (l_Groups_made_path : K.lookup f_Groups_made_path = some ⟨oc_Groups_made_path, od_Groups_made_path, .func (PySem.W.fnOf "made_path" "Groups.made_path" (defArgs st_Groups_made_path) (defBody st_Groups_made_path) (defScope st_Groups_made_path) .none kV_Groups_made_path dc_Groups_made_path pm_Groups_made_path an_Groups_made_path cd_Groups_made_path ct_Groups_made_path), sl_Groups_made_path⟩)
  (c_Groups_made_path : PySem.W.codeIn K cd_Groups_made_path "Groups.made_path" = true)
  (k_Groups_made_path : PySem.W.keepIn K (.ref f_Groups_made_path) = true)
  (g_Groups___init : PySem.W.findIn K (.ref C_Groups) "__init__" = some (some (.ref f_Groups___init)))
  (i_Groups___init : PySem.W.isFn K (.ref f_Groups___init) = true)
  (mk_Groups : PySem.W.makesIn K C_Groups = true)
  (kc_Groups : PySem.W.keepIn K (.ref C_Groups) = true)
  (l_Groups___init : K.lookup f_Groups___init = some ⟨oc_Groups___init, od_Groups___init, .func (PySem.W.fnOf "__init__" "Groups.__init__" (defArgs st_Groups___init) (defBody st_Groups___init) (defScope st_Groups___init) .none kV_Groups___init dc_Groups___init pm_Groups___init an_Groups___init cd_Groups___init ct_Groups___init), sl_Groups___init⟩)
  (c_Groups___init : PySem.W.codeIn K cd_Groups___init "Groups.__init__" = true)
  (k_Groups___init : PySem.W.keepIn K (.ref f_Groups___init) = true)
  (g_law_is_name_v1 : PySem.W.nsIn K mainGlobals "_law_is_name" = some (some (.ref f_law_is_name_v1)))
  (l_law_is_name_v1 : K.lookup f_law_is_name_v1 = some ⟨oc_law_is_name_v1, od_law_is_name_v1, .func (PySem.W.fnOf "_law_is_name" "_law_is_name" (defArgs st_law_is_name_v1) (defBody st_law_is_name_v1) (defScope st_law_is_name_v1) .none kV_law_is_name_v1 dc_law_is_name_v1 pm_law_is_name_v1 an_law_is_name_v1 cd_law_is_name_v1 ct_law_is_name_v1), sl_law_is_name_v1⟩)
  (c_law_is_name_v1 : PySem.W.codeIn K cd_law_is_name_v1 "_law_is_name" = true)
  (k_law_is_name_v1 : PySem.W.keepIn K (.ref f_law_is_name_v1) = true)
  (g_law_is_forest : PySem.W.nsIn K mainGlobals "_law_is_forest" = some (some (.ref f_law_is_forest)))
  (l_law_is_forest : K.lookup f_law_is_forest = some ⟨oc_law_is_forest, od_law_is_forest, .func (PySem.W.fnOf "_law_is_forest" "_law_is_forest" (defArgs st_law_is_forest) (defBody st_law_is_forest) (defScope st_law_is_forest) .none kV_law_is_forest dc_law_is_forest pm_law_is_forest an_law_is_forest cd_law_is_forest ct_law_is_forest), sl_law_is_forest⟩)
  (c_law_is_forest : PySem.W.codeIn K cd_law_is_forest "_law_is_forest" = true)
  (k_law_is_forest : PySem.W.keepIn K (.ref f_law_is_forest) = true)
  (g_Groups_check : PySem.W.findIn K (.ref C_Groups) "check" = some (some (.ref f_Groups_check)))
  (i_Groups_check : PySem.W.isFn K (.ref f_Groups_check) = true)
  (l_Groups_check : K.lookup f_Groups_check = some ⟨oc_Groups_check, od_Groups_check, .func (PySem.W.fnOf "check" "Groups.check" (defArgs st_Groups_check) (defBody st_Groups_check) (defScope st_Groups_check) .none kV_Groups_check dc_Groups_check pm_Groups_check an_Groups_check cd_Groups_check ct_Groups_check), sl_Groups_check⟩)
  (c_Groups_check : PySem.W.codeIn K cd_Groups_check "Groups.check" = true)
  (k_Groups_check : PySem.W.keepIn K (.ref f_Groups_check) = true)
  (g_Groups_path : PySem.W.findIn K (.ref C_Groups) "path" = some (some (.ref f_Groups_path)))
  (i_Groups_path : PySem.W.isFn K (.ref f_Groups_path) = true)
  (l_Groups_path : K.lookup f_Groups_path = some ⟨oc_Groups_path, od_Groups_path, .func (PySem.W.fnOf "path" "Groups.path" (defArgs st_Groups_path) (defBody st_Groups_path) (defScope st_Groups_path) .none kV_Groups_path dc_Groups_path pm_Groups_path an_Groups_path cd_Groups_path ct_Groups_path), sl_Groups_path⟩)
  (c_Groups_path : PySem.W.codeIn K cd_Groups_path "Groups.path" = true)
  (k_Groups_path : PySem.W.keepIn K (.ref f_Groups_path) = true)
  (g_Groups_parents : PySem.W.findIn K (.ref C_Groups) "parents" = some (some (.ref pp_Groups_parents)))
  (gg_Groups_parents : PySem.W.specialIn K (.ref pp_Groups_parents) "__get__" = some (some (.builtin "property.__get__")))
  (gt_Groups_parents : PySem.W.takesIn K (.ref pp_Groups_parents) = some true)
  (gr_Groups_parents : PySem.W.recIn K pp_Groups_parents "property" = some (.ref f_Groups_parents :: rs_Groups_parents))
  (l_Groups_parents : K.lookup f_Groups_parents = some ⟨oc_Groups_parents, od_Groups_parents, .func (PySem.W.fnOf "parents" "Groups.parents" (defArgs st_Groups_parents) (defBody st_Groups_parents) (defScope st_Groups_parents) .none kV_Groups_parents dc_Groups_parents pm_Groups_parents an_Groups_parents cd_Groups_parents ct_Groups_parents), sl_Groups_parents⟩)
  (c_Groups_parents : PySem.W.codeIn K cd_Groups_parents "Groups.parents" = true)
  (k_Groups_parents : PySem.W.keepIn K (.ref f_Groups_parents) = true)
  (g_Groups_below : PySem.W.findIn K (.ref C_Groups) "below" = some (some (.ref f_Groups_below)))
  (i_Groups_below : PySem.W.isFn K (.ref f_Groups_below) = true)
  (l_Groups_below : K.lookup f_Groups_below = some ⟨oc_Groups_below, od_Groups_below, .func (PySem.W.fnOf "below" "Groups.below" (defArgs st_Groups_below) (defBody st_Groups_below) (defScope st_Groups_below) .none kV_Groups_below dc_Groups_below pm_Groups_below an_Groups_below cd_Groups_below ct_Groups_below), sl_Groups_below⟩)
  (c_Groups_below : PySem.W.codeIn K cd_Groups_below "Groups.below" = true)
  (k_Groups_below : PySem.W.keepIn K (.ref f_Groups_below) = true)
  (g_law : PySem.W.nsIn K mainGlobals "law" = some (some (.ref f_law)))
  (l_law : K.lookup f_law = some ⟨oc_law, od_law, .func (PySem.W.fnOf "law" "law" (defArgs st_law) (defBody st_law) (defScope st_law) .none kV_law dc_law pm_law an_law cd_law ct_law), sl_law⟩)
  (c_law : PySem.W.codeIn K cd_law "law" = true)
  (k_law : PySem.W.keepIn K (.ref f_law) = true)
  (z_all : PySem.W.nsIn K mainGlobals "all" = some none)
  (z_dict : PySem.W.nsIn K mainGlobals "dict" = some none)
  (z_isinstance : PySem.W.nsIn K mainGlobals "isinstance" = some none)
  (z_len : PySem.W.nsIn K mainGlobals "len" = some none)
  (z_list : PySem.W.nsIn K mainGlobals "list" = some none)
  (z_min : PySem.W.nsIn K mainGlobals "min" = some none)
  (z_range : PySem.W.nsIn K mainGlobals "range" = some none)
  (z_repr : PySem.W.nsIn K mainGlobals "repr" = some none)
  (z_sorted : PySem.W.nsIn K mainGlobals "sorted" = some none)
  (z_str : PySem.W.nsIn K mainGlobals "str" = some none)
  (z_tuple : PySem.W.nsIn K mainGlobals "tuple" = some none)
  (gc_LETTERS : PySem.W.nsIn K mainGlobals "LETTERS" = some (some q_LETTERS))
  (rc_LETTERS : RelV (.str "abcdefghijklmnopqrstuvwxyz") q_LETTERS)
  (gc_MAX_NAME : PySem.W.nsIn K mainGlobals "MAX_NAME" = some (some q_MAX_NAME))
  (rc_MAX_NAME : RelV (.int 8) q_MAX_NAME)
  (aC_QuotaError : PySem.W.nsIn K mainGlobals "QuotaError" = some (some (.ref C_QuotaError)))
  (aC_InvalidGroups : PySem.W.nsIn K mainGlobals "InvalidGroups" = some (some (.ref C_InvalidGroups)))
  (aC_UnknownGroup : PySem.W.nsIn K mainGlobals "UnknownGroup" = some (some (.ref C_UnknownGroup)))
  (xs_QuotaError : PySem.W.subIn K (.ref C_QuotaError) (.type "BaseException") = some true)
  (xt_QuotaError : PySem.W.typeIn K (.ref C_QuotaError) = some (.type "type"))
  (xd_QuotaError : PySem.W.hasDictIn K C_QuotaError = true)
  (xs_InvalidGroups : PySem.W.subIn K (.ref C_InvalidGroups) (.type "BaseException") = some true)
  (xt_InvalidGroups : PySem.W.typeIn K (.ref C_InvalidGroups) = some (.type "type"))
  (xd_InvalidGroups : PySem.W.hasDictIn K C_InvalidGroups = true)
  (xs_UnknownGroup : PySem.W.subIn K (.ref C_UnknownGroup) (.type "BaseException") = some true)
  (xt_UnknownGroup : PySem.W.typeIn K (.ref C_UnknownGroup) = some (.type "type"))
  (xd_UnknownGroup : PySem.W.hasDictIn K C_UnknownGroup = true)
  (xk_InvalidGroups : PySem.W.keepIn K (.ref C_InvalidGroups) = true)
  (xe_InvalidGroups : PySem.W.excIn K C_InvalidGroups [.type "ValueError", .type "Exception", .type "BaseException", .type "object"] "ValueError.__new__" = true)
  (xk_UnknownGroup : PySem.W.keepIn K (.ref C_UnknownGroup) = true)
  (xe_UnknownGroup : PySem.W.excIn K C_UnknownGroup [.type "ValueError", .type "Exception", .type "BaseException", .type "object"] "ValueError.__new__" = true)
  (oc_get2 : PySem.W.specialIn K (.builtin "object.__class__") "__get__" = some (some (.builtin "getset_descriptor.__get__")))
  (oc_tak2 : PySem.W.takesIn K (.builtin "object.__class__") = some true)
  (xg_InvalidGroups : PySem.W.findIn K (.ref C_InvalidGroups) "__getattribute__" = some (some (.builtin "BaseException.__getattribute__")))
  (xh_InvalidGroups : PySem.W.findIn K (.ref C_InvalidGroups) "__getattr__" = some none)
  (xo_InvalidGroups : PySem.W.findIn K (.ref C_InvalidGroups) "__class__" = some (some (.builtin "object.__class__")))
  (xm_InvalidGroups : PySem.W.mroIn K C_InvalidGroups (.type "object") = some true)
  (xg_UnknownGroup : PySem.W.findIn K (.ref C_UnknownGroup) "__getattribute__" = some (some (.builtin "BaseException.__getattribute__")))
  (xh_UnknownGroup : PySem.W.findIn K (.ref C_UnknownGroup) "__getattr__" = some none)
  (xo_UnknownGroup : PySem.W.findIn K (.ref C_UnknownGroup) "__class__" = some (some (.builtin "object.__class__")))
  (xm_UnknownGroup : PySem.W.mroIn K C_UnknownGroup (.type "object") = some true)
  (xq_InvalidGroups_non : PySem.W.subIn K (.type "NoneType") (.ref C_InvalidGroups) = some false)
  (xq_InvalidGroups_UnknownGroup : PySem.W.subIn K (.ref C_UnknownGroup) (.ref C_InvalidGroups) = some false)
  (xq_UnknownGroup_non : PySem.W.subIn K (.type "NoneType") (.ref C_UnknownGroup) = some false)
  (xq_UnknownGroup_InvalidGroups : PySem.W.subIn K (.ref C_InvalidGroups) (.ref C_UnknownGroup) = some false)
  (xq2_QuotaError_InvalidGroups : PySem.W.subIn K (.ref C_InvalidGroups) (.ref C_QuotaError) = some true)
  (xq2_QuotaError_UnknownGroup : PySem.W.subIn K (.ref C_UnknownGroup) (.ref C_QuotaError) = some true)
  (lb_law : lamB K f_law "law.<locals>.<lambda>" = true)
  (la : lamAll K [f_law] = true)
  (lu : lamUB K [f_law] = true)
  (n_Groups_parent_of : PySem.W.findIn K (.ref C_Groups) "parent_of" = some none)
  (n_Groups_paths : PySem.W.findIn K (.ref C_Groups) "paths" = some none)
  (oc_get : PySem.W.specialIn K (.builtin "object.__class__") "__get__" = some (some (.builtin "getset_descriptor.__get__")))
  (oc_tak : PySem.W.takesIn K (.builtin "object.__class__") = some true)
  (oc_Groups : PySem.W.findIn K (.ref C_Groups) "__class__" = some (some (.builtin "object.__class__")))
  (mo_Groups : PySem.W.mroIn K C_Groups (.type "object") = some true)
  (t_dict_Groups : PySem.W.mroIn K C_Groups (.type "dict") = some false)
  (t_str_Groups : PySem.W.mroIn K C_Groups (.type "str") = some false)
  (xne_InvalidGroups_UnknownGroup : C_InvalidGroups ≠ C_UnknownGroup) :
  ∃ (c : Cs) (t : Tx K mg c), t.a_law = fa ∧ c.on = [0] ∧ c.xs = [24, 25] := ⟨⟨fun i => match i with | 0 => C_Groups | 20 => C_QuotaError | 24 => C_InvalidGroups | 25 => C_UnknownGroup | _ => 0, [0], by simp, [24, 25], by simp [xne_InvalidGroups_UnknownGroup, xne_InvalidGroups_UnknownGroup.symm]⟩, {
    a_law_pen := f_law_pen,
    fd_law_pen := _,
    u_law_pen := fun_mk l_law_pen c_law_pen k_law_pen,
    kp_law_pen := k_law_pen,
    b_law_pen := (fun_mk (st := st_law_pen) l_law_pen c_law_pen k_law_pen).binds (ps := ["_law_script"]) (fun _ _ _ _ _ _ us hl => match us, hl with | [_], _ => rfl),
    m__law_pen := PySem.W.mg_of X G g_law_pen,
    a_law_next := f_law_next,
    fd_law_next := _,
    u_law_next := fun_mk l_law_next c_law_next k_law_next,
    kp_law_next := k_law_next,
    b_law_next := (fun_mk (st := st_law_next) l_law_next c_law_next k_law_next).binds (ps := ["_law_pen_here"]) (fun _ _ _ _ _ _ us hl => match us, hl with | [_], _ => rfl),
    m__law_next := PySem.W.mg_of X G g_law_next,
    a_law_draw := f_law_draw,
    fd_law_draw := _,
    u_law_draw := fun_mk l_law_draw c_law_draw k_law_draw,
    kp_law_draw := k_law_draw,
    b_law_draw := (fun_mk (st := st_law_draw) l_law_draw c_law_draw k_law_draw).binds (ps := ["_law_pen_here", "_law_below_this"]) (fun _ _ _ _ _ _ us hl => match us, hl with | [_, _], _ => rfl),
    m__law_draw := PySem.W.mg_of X G g_law_draw,
    a_law_some := f_law_some,
    fd_law_some := _,
    u_law_some := fun_mk l_law_some c_law_some k_law_some,
    kp_law_some := k_law_some,
    b_law_some := (fun_mk (st := st_law_some) l_law_some c_law_some k_law_some).binds (ps := ["_law_pen_here", "_law_pool", "_law_most"]) (fun _ _ _ _ _ _ us hl => match us, hl with | [_, _, _], _ => rfl),
    m__law_some := PySem.W.mg_of X G g_law_some,
    a_law_forest := f_law_forest,
    fd_law_forest := _,
    u_law_forest := fun_mk l_law_forest c_law_forest k_law_forest,
    kp_law_forest := k_law_forest,
    b_law_forest := (fun_mk (st := st_law_forest) l_law_forest c_law_forest k_law_forest).binds (ps := ["_law_pen_here", "_law_most"]) (fun _ _ _ _ _ _ us hl => match us, hl with | [_, _], _ => rfl),
    m__law_forest := PySem.W.mg_of X G g_law_forest,
    a_law_odd_name := f_law_odd_name,
    fd_law_odd_name := _,
    u_law_odd_name := fun_mk l_law_odd_name c_law_odd_name k_law_odd_name,
    kp_law_odd_name := k_law_odd_name,
    b_law_odd_name := (fun_mk (st := st_law_odd_name) l_law_odd_name c_law_odd_name k_law_odd_name).binds (ps := ["_law_pen_here"]) (fun _ _ _ _ _ _ us hl => match us, hl with | [_], _ => rfl),
    m__law_odd_name := PySem.W.mg_of X G g_law_odd_name,
    a_law_bent := f_law_bent,
    fd_law_bent := _,
    u_law_bent := fun_mk l_law_bent c_law_bent k_law_bent,
    kp_law_bent := k_law_bent,
    b_law_bent := (fun_mk (st := st_law_bent) l_law_bent c_law_bent k_law_bent).binds (ps := ["_law_pen_here", "_law_trees"]) (fun _ _ _ _ _ _ us hl => match us, hl with | [_, _], _ => rfl),
    m__law_bent := PySem.W.mg_of X G g_law_bent,
    a_law_any := f_law_any,
    fd_law_any := _,
    u_law_any := fun_mk l_law_any c_law_any k_law_any,
    kp_law_any := k_law_any,
    b_law_any := (fun_mk (st := st_law_any) l_law_any c_law_any k_law_any).binds (ps := ["_law_pen_here", "_law_levels"]) (fun _ _ _ _ _ _ us hl => match us, hl with | [_, _], _ => rfl),
    m__law_any := PySem.W.mg_of X G g_law_any,
    a_law_word_v1 := f_law_word_v1,
    fd_law_word_v1 := _,
    u_law_word_v1 := fun_mk l_law_word_v1 c_law_word_v1 k_law_word_v1,
    kp_law_word_v1 := k_law_word_v1,
    b_law_word_v1 := (fun_mk (st := st_law_word_v1) l_law_word_v1 c_law_word_v1 k_law_word_v1).binds (ps := ["_law_act"]) (fun _ _ _ _ _ _ us hl => match us, hl with | [_], _ => rfl),
    m__law_word := PySem.W.mg_of X G g_law_word_v1,
    a_is_name := f_is_name,
    fd_is_name := _,
    u_is_name := fun_mk l_is_name c_is_name k_is_name,
    kp_is_name := k_is_name,
    b_is_name := (fun_mk (st := st_is_name) l_is_name c_is_name k_is_name).binds (ps := ["thing"]) (fun _ _ _ _ _ _ us hl => match us, hl with | [_], _ => rfl),
    m_is_name := PySem.W.mg_of X G g_is_name,
    a_has_ring := f_has_ring,
    fd_has_ring := _,
    u_has_ring := fun_mk l_has_ring c_has_ring k_has_ring,
    kp_has_ring := k_has_ring,
    b_has_ring := (fun_mk (st := st_has_ring) l_has_ring c_has_ring k_has_ring).binds (ps := ["parents"]) (fun _ _ _ _ _ _ us hl => match us, hl with | [_], _ => rfl),
    m_has_ring := PySem.W.mg_of X G g_has_ring,
    a_Groups_made_path := f_Groups_made_path,
    fd_Groups_made_path := _,
    u_Groups_made_path := fun_mk l_Groups_made_path c_Groups_made_path k_Groups_made_path,
    kp_Groups_made_path := k_Groups_made_path,
    b_Groups_made_path := (fun_mk (st := st_Groups_made_path) l_Groups_made_path c_Groups_made_path k_Groups_made_path).binds (ps := ["self", "name"]) (fun _ _ _ _ _ _ us hl => match us, hl with | [_, _], _ => rfl),
    h_Groups_made_path := ⟨g_Groups_made_path, i_Groups_made_path, k_Groups_made_path⟩,
    a_Groups___init := f_Groups___init,
    fd_Groups___init := _,
    u_Groups___init := fun_mk l_Groups___init c_Groups___init k_Groups___init,
    kp_Groups___init := k_Groups___init,
    b_Groups___init := (fun_mk (st := st_Groups___init) l_Groups___init c_Groups___init k_Groups___init).binds (ps := ["self", "parents"]) (fun _ _ _ _ _ _ us hl => match us, hl with | [_, _], _ => rfl),
    k_Groups := ⟨mk_Groups, g_Groups___init, i_Groups___init, kc_Groups⟩,
    a_law_is_name_v1 := f_law_is_name_v1,
    fd_law_is_name_v1 := _,
    u_law_is_name_v1 := fun_mk l_law_is_name_v1 c_law_is_name_v1 k_law_is_name_v1,
    kp_law_is_name_v1 := k_law_is_name_v1,
    b_law_is_name_v1 := (fun_mk (st := st_law_is_name_v1) l_law_is_name_v1 c_law_is_name_v1 k_law_is_name_v1).binds (ps := ["_law_thing"]) (fun _ _ _ _ _ _ us hl => match us, hl with | [_], _ => rfl),
    m__law_is_name := PySem.W.mg_of X G g_law_is_name_v1,
    a_law_is_forest := f_law_is_forest,
    fd_law_is_forest := _,
    u_law_is_forest := fun_mk l_law_is_forest c_law_is_forest k_law_is_forest,
    kp_law_is_forest := k_law_is_forest,
    b_law_is_forest := (fun_mk (st := st_law_is_forest) l_law_is_forest c_law_is_forest k_law_is_forest).binds (ps := ["_law_thing"]) (fun _ _ _ _ _ _ us hl => match us, hl with | [_], _ => rfl),
    m__law_is_forest := PySem.W.mg_of X G g_law_is_forest,
    a_Groups_check := f_Groups_check,
    fd_Groups_check := _,
    u_Groups_check := fun_mk l_Groups_check c_Groups_check k_Groups_check,
    kp_Groups_check := k_Groups_check,
    b_Groups_check := (fun_mk (st := st_Groups_check) l_Groups_check c_Groups_check k_Groups_check).binds (ps := ["self", "name"]) (fun _ _ _ _ _ _ us hl => match us, hl with | [_, _], _ => rfl),
    h_Groups_check := ⟨g_Groups_check, i_Groups_check, k_Groups_check⟩,
    a_Groups_path := f_Groups_path,
    fd_Groups_path := _,
    u_Groups_path := fun_mk l_Groups_path c_Groups_path k_Groups_path,
    kp_Groups_path := k_Groups_path,
    b_Groups_path := (fun_mk (st := st_Groups_path) l_Groups_path c_Groups_path k_Groups_path).binds (ps := ["self", "name"]) (fun _ _ _ _ _ _ us hl => match us, hl with | [_, _], _ => rfl),
    h_Groups_path := ⟨g_Groups_path, i_Groups_path, k_Groups_path⟩,
    a_Groups_parents := f_Groups_parents,
    fd_Groups_parents := _,
    u_Groups_parents := fun_mk l_Groups_parents c_Groups_parents k_Groups_parents,
    kp_Groups_parents := k_Groups_parents,
    b_Groups_parents := (fun_mk (st := st_Groups_parents) l_Groups_parents c_Groups_parents k_Groups_parents).binds (ps := ["self"]) (fun _ _ _ _ _ _ us hl => match us, hl with | [_], _ => rfl),
    pa_Groups_parents := pp_Groups_parents,
    p_Groups_parents := ⟨g_Groups_parents, gg_Groups_parents, gt_Groups_parents, _, gr_Groups_parents⟩,
    a_Groups_below := f_Groups_below,
    fd_Groups_below := _,
    u_Groups_below := fun_mk l_Groups_below c_Groups_below k_Groups_below,
    kp_Groups_below := k_Groups_below,
    b_Groups_below := (fun_mk (st := st_Groups_below) l_Groups_below c_Groups_below k_Groups_below).binds (ps := ["self", "name"]) (fun _ _ _ _ _ _ us hl => match us, hl with | [_, _], _ => rfl),
    h_Groups_below := ⟨g_Groups_below, i_Groups_below, k_Groups_below⟩,
    a_law := f_law,
    fd_law := _,
    u_law := fun_mk l_law c_law k_law,
    kp_law := k_law,
    b_law := (fun_mk (st := st_law) l_law c_law k_law).binds (ps := ["_law_script"]) (fun _ _ _ _ _ _ us hl => match us, hl with | [_], _ => rfl),
    m_law := PySem.W.mg_of X G g_law,
    c_Groups := ⟨pg_Groups, hd_Groups, po_Groups, sa_Groups⟩,
    m_Groups := PySem.W.mg_of X G aC_Groups,
    z_all := PySem.W.mg_none_of X G z_all,
    z_dict := PySem.W.mg_none_of X G z_dict,
    z_isinstance := PySem.W.mg_none_of X G z_isinstance,
    z_len := PySem.W.mg_none_of X G z_len,
    z_list := PySem.W.mg_none_of X G z_list,
    z_min := PySem.W.mg_none_of X G z_min,
    z_range := PySem.W.mg_none_of X G z_range,
    z_repr := PySem.W.mg_none_of X G z_repr,
    z_sorted := PySem.W.mg_none_of X G z_sorted,
    z_str := PySem.W.mg_none_of X G z_str,
    z_tuple := PySem.W.mg_none_of X G z_tuple,
    q_LETTERS := q_LETTERS,
    g_LETTERS := PySem.W.mg_of X G gc_LETTERS,
    r_LETTERS := rc_LETTERS,
    q_MAX_NAME := q_MAX_NAME,
    g_MAX_NAME := PySem.W.mg_of X G gc_MAX_NAME,
    r_MAX_NAME := rc_MAX_NAME,
    m_QuotaError := PySem.W.mg_of X G aC_QuotaError,
    m_InvalidGroups := PySem.W.mg_of X G aC_InvalidGroups,
    m_UnknownGroup := PySem.W.mg_of X G aC_UnknownGroup,
    x_InvalidGroups := ⟨xe_InvalidGroups, xk_InvalidGroups, xs_InvalidGroups, xt_InvalidGroups⟩,
    x_UnknownGroup := ⟨xe_UnknownGroup, xk_UnknownGroup, xs_UnknownGroup, xt_UnknownGroup⟩,
    ie_InvalidGroups := ⟨kit_exc xd_InvalidGroups xt_InvalidGroups (fun z => nomatch z) xq_InvalidGroups_non, fun q hq => by simp [ix_InvalidGroups] at hq; rcases hq with rfl | rfl; exact ⟨excC_of xg_InvalidGroups xh_InvalidGroups xs_InvalidGroups xd_InvalidGroups xo_InvalidGroups oc_get2 oc_tak2 xm_InvalidGroups, kit_self _⟩; exact ⟨excC_of xg_UnknownGroup xh_UnknownGroup xs_UnknownGroup xd_UnknownGroup xo_UnknownGroup oc_get2 oc_tak2 xm_UnknownGroup, kit_exc xd_InvalidGroups xt_InvalidGroups (fun h => xne_InvalidGroups_UnknownGroup.symm (Value.ref.inj h)) xq_InvalidGroups_UnknownGroup⟩⟩,
    ie_UnknownGroup := ⟨kit_exc xd_UnknownGroup xt_UnknownGroup (fun z => nomatch z) xq_UnknownGroup_non, fun q hq => by simp [ix_UnknownGroup] at hq; rcases hq with rfl | rfl; exact ⟨excC_of xg_InvalidGroups xh_InvalidGroups xs_InvalidGroups xd_InvalidGroups xo_InvalidGroups oc_get2 oc_tak2 xm_InvalidGroups, kit_exc xd_UnknownGroup xt_UnknownGroup (fun h => xne_InvalidGroups_UnknownGroup (Value.ref.inj h)) xq_UnknownGroup_InvalidGroups⟩; exact ⟨excC_of xg_UnknownGroup xh_UnknownGroup xs_UnknownGroup xd_UnknownGroup xo_UnknownGroup oc_get2 oc_tak2 xm_UnknownGroup, kit_self _⟩⟩,
    ct_QuotaError := fun q hq => by simp [cx_QuotaError] at hq; rcases hq with rfl | rfl; exact PySem.W.exm_ref xs_QuotaError xd_QuotaError xt_QuotaError xq2_QuotaError_InvalidGroups; exact PySem.W.exm_ref xs_QuotaError xd_QuotaError xt_QuotaError xq2_QuotaError_UnknownGroup,
    lb_law := lb_law,
    la := la,
    lu := lu,
    n_Groups_parent_of := n_Groups_parent_of,
    n_Groups_paths := n_Groups_paths,
    i_dict := { non := kit_ty (by decide +kernel), bl := kit_ty (by decide +kernel), int := kit_ty (by decide +kernel), str := kit_ty (by decide +kernel), lst := kit_ty (by decide +kernel), tup := kit_ty (by decide +kernel), dct := kit_ty (by decide +kernel), ins := fun q hq => by simp [ic_dict] at hq; subst hq; exact ⟨⟨pg_Groups, hd_Groups, po_Groups, sa_Groups⟩, oc_Groups, oc_get, oc_tak, mo_Groups, kit_own (by decide +kernel) t_dict_Groups⟩ },
    i_str := { non := kit_ty (by decide +kernel), bl := kit_ty (by decide +kernel), int := kit_ty (by decide +kernel), str := kit_ty (by decide +kernel), lst := kit_ty (by decide +kernel), tup := kit_ty (by decide +kernel), dct := kit_ty (by decide +kernel), ins := fun q hq => by simp [ic_str] at hq; subst hq; exact ⟨⟨pg_Groups, hd_Groups, po_Groups, sa_Groups⟩, oc_Groups, oc_get, oc_tak, mo_Groups, kit_own (by decide +kernel) t_str_Groups⟩ } }, Value.ref.inj (Option.some.inj ((PySem.W.mg_of X G g_law).symm.trans hfa)), rfl, rfl⟩
def spLaw (K : Kf) : Sp := fun vs H Q _ => ∃ (a : Addr) (ns : List Int), vs = [.ref a] ∧ SqL K H a (ns.map V.int) ∧ ns.length ≤ 63 ∧ (∀ b u, H b = some u → (∃ o xs, u = .frz o (.lst xs)) ∨ u = .tbl #[]) ∧ TabsK K H ∧ ∀ H', Q (.bl true) H'
theorem law_ok {P : Program} {w : World} {K : Kf} {mg : Str → Option Value} {base : Heap} {c : Cs} (t : Tx K mg c) [TBs K mg base] (plain : ∀ ns : List Int, ns.length ≤ 63 → f_law c [.va (.sh (.scr ns))] = .ret (.sh (.bl true)) none) :
    FnG P w K mg base 56 t.a_law t.fd_law ["_law_script"] (spLaw K) := by
  have F : FnG P w K mg base 56 t.a_law t.fd_law ["_law_script"] (spD K 1 (f_law c)) := Fun.okL t.u_law (lamB_ok t.lb_law).1 sc_law (fun vs H Q E h => h.1) fun A out s H vs Q E hr hg h => let ⟨tt, h1, h2⟩ := s_law t E; ⟨tt, h1 ⟨⟨(.ref _, A, out, s, H), hr, hg⟩, rfl⟩, body_ok rfl h2 (by decide) h⟩
  have key : ∀ vs H Q E, spLaw K vs H Q E → spD K 1 (f_law c) vs H Q E := by
    rintro vs H Q E ⟨a, ns, rfl, sq, hl, hO, hT, q⟩
    exact spD_law (f := f_law c) hl sq hO hT (plain ns hl) q
  exact ⟨fun vs H Q E h => F.len vs H Q E (key vs H Q E h), fun A out s H args us vs Q E hr hg e0 hb r h => F.go A out s H args us vs Q E hr hg e0 hb r (key vs H Q E h)⟩
theorem walk {l : PySem.W.OpenLaw} {q : Program} {loose : List Str} {XP : (Str → Option Value) → Heap → Prop} {YP : World → Heap → Prop} {d : DefRec} {K : Params → PySem.W.Frag} (hn : l.most = some 63) (hdf : d.params.defaults = []) (hrec : ((["law"] : List Str).all fun x => (recsOf q).any fun e => e.name == x) = true)
    (hY : ∀ (w : World) (h : Heap), YP w h → (K w.params).In h) (plain : ∀ (c : Cs) (ns : List Int), c.on = [0] → c.xs = [24, 25] → ns.length ≤ 63 → f_law c [.va (.sh (.scr ns))] = .ret (.sh (.bl true)) none)
    (F : ∀ (w : World) (mg : Str → Option Value) (fa : Addr) (h : Heap), (K w.params).In h → h.Ns mainGlobals mg → mg d.name = some (.ref fa) → ∃ (c : Cs) (t : Tx (K w.params) mg c), t.a_law = fa ∧ c.on = [0] ∧ c.xs = [24, 25]) :
    PySem.W.WalkO q loose XP YP l.row.toRowW d [] (fun f vs => PySem.call f vs) :=
  walk_ofT (n := 63) (k := 56) (x := "_law_script") (sp := fun w => spLaw (K w.params)) hn (by decide) hdf ⟨rfl, by decide, by decide⟩ callerA_guards hY
    (fun w mg fa h KX G hmg => by
      obtain ⟨c, t, rfl, hon, hxs⟩ := F w mg fa h KX G hmg
      obtain ⟨oc, od, kV, doc, pm, an, cdv, ct, osl, e, _⟩ := t.u_law.ex
      refine ⟨t.fd_law, [("law", t.a_law, "law.<locals>.<lambda>")], fun s u => ?_, t.la, fun z hz => ?_, fun base _ _ TB => ?_⟩
      · rw [e]
        exact .of_eq rfl
      · have hr2 := List.all_eq_true.mp hrec
        simp only [List.mem_cons, List.not_mem_nil, or_false] at hz
        rcases hz with rfl
        · exact ⟨t.m_law, t.lb_law, hr2 "law" (by simp)⟩
      · haveI : TBs (K w.params) mg base := tbs_of t.la fun g hg => by
          obtain ⟨z, hz, rfl⟩ := List.mem_map.mp (show g ∈ ([("law", t.a_law, "law.<locals>.<lambda>")] : LamL).map (·.2.1) from hg)
          exact TB z hz
        exact law_ok t (fun ns => plain c ns hon hxs))
    fun w s a vs ns H hl sq hO hT => ⟨a, ns, rfl, sq, hl, hO, hT, fun _ => rfl⟩
end W
end
open PySem PySem.W PyProof.Rows
def PySem.W.Fast.tw17872172872021176270 : Nat := 0
def PySem.W.Fast.tw4685936472527412727 : Nat := 0
def PySem.W.Fast.tw16622912851236085111 : Nat := 0
def PySem.W.Fast.tw7355983473860419551 : Nat := 0
def PySem.W.Fast.tw7050572540938252253 : Nat := 0
set_option maxRecDepth 100000 in
set_option maxHeartbeats 0 in
theorem PySem.Challenge.cw_quotasteps_k04_invalid_groups_holds : PySem.Challenge.rw_quotasteps_k04_invalid_groups.Holds := by
  w_on; o_law; k_head; (case hw => w_witness2)
  k_fill
  refine W.walk (l := PySem.Challenge.rw_quotasteps_k04_invalid_groups) rfl rfl ?R (fun w h Y => PySem.W.km_in_of Y) W.plain ?F
  case R => kernel_rfl
  case F => as_aux_lemma =>
    intro w mg fa h KX G hmg
    refine' W.tx_mk KX G hmg ?aC_Groups ?pg_Groups ?hd_Groups ?po_Groups ?sa_Groups ?g_law_pen ?l_law_pen ?c_law_pen ?k_law_pen ?g_law_next ?l_law_next ?c_law_next ?k_law_next ?g_law_draw ?l_law_draw ?c_law_draw ?k_law_draw ?g_law_some ?l_law_some ?c_law_some ?k_law_some ?g_law_forest ?l_law_forest ?c_law_forest ?k_law_forest ?g_law_odd_name ?l_law_odd_name ?c_law_odd_name ?k_law_odd_name ?g_law_bent ?l_law_bent ?c_law_bent ?k_law_bent ?g_law_any ?l_law_any ?c_law_any ?k_law_any ?g_law_word_v1 ?l_law_word_v1 ?c_law_word_v1 ?k_law_word_v1 ?g_is_name ?l_is_name ?c_is_name ?k_is_name ?g_has_ring ?l_has_ring ?c_has_ring ?k_has_ring ?g_Groups_made_path ?i_Groups_made_path ?l_Groups_made_path ?c_Groups_made_path ?k_Groups_made_path ?g_Groups___init ?i_Groups___init ?mk_Groups ?kc_Groups ?l_Groups___init ?c_Groups___init ?k_Groups___init ?g_law_is_name_v1 ?l_law_is_name_v1 ?c_law_is_name_v1 ?k_law_is_name_v1 ?g_law_is_forest ?l_law_is_forest ?c_law_is_forest ?k_law_is_forest ?g_Groups_check ?i_Groups_check ?l_Groups_check ?c_Groups_check ?k_Groups_check ?g_Groups_path ?i_Groups_path ?l_Groups_path ?c_Groups_path ?k_Groups_path ?g_Groups_parents ?gg_Groups_parents ?gt_Groups_parents ?gr_Groups_parents ?l_Groups_parents ?c_Groups_parents ?k_Groups_parents ?g_Groups_below ?i_Groups_below ?l_Groups_below ?c_Groups_below ?k_Groups_below ?g_law ?l_law ?c_law ?k_law ?z_all ?z_dict ?z_isinstance ?z_len ?z_list ?z_min ?z_range ?z_repr ?z_sorted ?z_str ?z_tuple ?gc_LETTERS ?rc_LETTERS ?gc_MAX_NAME ?rc_MAX_NAME ?aC_QuotaError ?aC_InvalidGroups ?aC_UnknownGroup ?xs_QuotaError ?xt_QuotaError ?xd_QuotaError ?xs_InvalidGroups ?xt_InvalidGroups ?xd_InvalidGroups ?xs_UnknownGroup ?xt_UnknownGroup ?xd_UnknownGroup ?xk_InvalidGroups ?xe_InvalidGroups ?xk_UnknownGroup ?xe_UnknownGroup ?oc_get2 ?oc_tak2 ?xg_InvalidGroups ?xh_InvalidGroups ?xo_InvalidGroups ?xm_InvalidGroups ?xg_UnknownGroup ?xh_UnknownGroup ?xo_UnknownGroup ?xm_UnknownGroup ?xq_InvalidGroups_non ?xq_InvalidGroups_UnknownGroup ?xq_UnknownGroup_non ?xq_UnknownGroup_InvalidGroups ?xq2_QuotaError_InvalidGroups ?xq2_QuotaError_UnknownGroup ?lb_law ?la ?lu ?n_Groups_parent_of ?n_Groups_paths ?oc_get ?oc_tak ?oc_Groups ?mo_Groups ?t_dict_Groups ?t_str_Groups ?xne_InvalidGroups_UnknownGroup
    (case aC_Groups => k_is)
    (case pg_Groups => k_is)
    (case hd_Groups => k_is)
    (case po_Groups => k_is)
    (case sa_Groups => k_is)
    (case g_law_pen => k_is)
    (case l_law_pen => k_is)
    (case c_law_pen => k_is)
    (case k_law_pen => k_is)
    (case g_law_next => k_is)
    (case l_law_next => k_is)
    (case c_law_next => k_is)
    (case k_law_next => k_is)
    (case g_law_draw => k_is)
    (case l_law_draw => k_is)
    (case c_law_draw => k_is)
    (case k_law_draw => k_is)
    (case g_law_some => k_is)
    (case l_law_some => k_is)
    (case c_law_some => k_is)
    (case k_law_some => k_is)
    (case g_law_forest => k_is)
    (case l_law_forest => k_is)
    (case c_law_forest => k_is)
    (case k_law_forest => k_is)
    (case g_law_odd_name => k_is)
    (case l_law_odd_name => k_is)
    (case c_law_odd_name => k_is)
    (case k_law_odd_name => k_is)
    (case g_law_bent => k_is)
    (case l_law_bent => k_is)
    (case c_law_bent => k_is)
    (case k_law_bent => k_is)
    (case g_law_any => k_is)
    (case l_law_any => k_is)
    (case c_law_any => k_is)
    (case k_law_any => k_is)
    (case g_law_word_v1 => k_is)
    (case l_law_word_v1 => k_is)
    (case c_law_word_v1 => k_is)
    (case k_law_word_v1 => k_is)
    (case g_is_name => k_is)
    (case l_is_name => k_is)
    (case c_is_name => k_is)
    (case k_is_name => k_is)
    (case g_has_ring => k_is)
    (case l_has_ring => k_is)
    (case c_has_ring => k_is)
    (case k_has_ring => k_is)
    (case g_Groups_made_path => k_is)
    (case i_Groups_made_path => k_is)
    (case l_Groups_made_path => k_is)
    (case c_Groups_made_path => k_is)
    (case k_Groups_made_path => k_is)
    (case g_Groups___init => k_is)
    (case i_Groups___init => k_is)
    (case mk_Groups => k_is)
    (case kc_Groups => k_is)
    (case l_Groups___init => k_is)
    (case c_Groups___init => k_is)
    (case k_Groups___init => k_is)
    (case g_law_is_name_v1 => k_is)
    (case l_law_is_name_v1 => k_is)
    (case c_law_is_name_v1 => k_is)
    (case k_law_is_name_v1 => k_is)
    (case g_law_is_forest => k_is)
    (case l_law_is_forest => k_is)
    (case c_law_is_forest => k_is)
    (case k_law_is_forest => k_is)
    (case g_Groups_check => k_is)
    (case i_Groups_check => k_is)
    (case l_Groups_check => k_is)
    (case c_Groups_check => k_is)
    (case k_Groups_check => k_is)
    (case g_Groups_path => k_is)
    (case i_Groups_path => k_is)
    (case l_Groups_path => k_is)
    (case c_Groups_path => k_is)
    (case k_Groups_path => k_is)
    (case g_Groups_parents => k_is)
    (case gg_Groups_parents => k_is)
    (case gt_Groups_parents => k_is)
    (case gr_Groups_parents => k_is)
    (case l_Groups_parents => k_is)
    (case c_Groups_parents => k_is)
    (case k_Groups_parents => k_is)
    (case g_Groups_below => k_is)
    (case i_Groups_below => k_is)
    (case l_Groups_below => k_is)
    (case c_Groups_below => k_is)
    (case k_Groups_below => k_is)
    (case g_law => k_is)
    (case l_law => k_is)
    (case c_law => k_is)
    (case k_law => k_is)
    (case z_all => k_is)
    (case z_dict => k_is)
    (case z_isinstance => k_is)
    (case z_len => k_is)
    (case z_list => k_is)
    (case z_min => k_is)
    (case z_range => k_is)
    (case z_repr => k_is)
    (case z_sorted => k_is)
    (case z_str => k_is)
    (case z_tuple => k_is)
    (case gc_LETTERS => k_is)
    (case rc_LETTERS => exact ⟨_, rfl⟩)
    (case gc_MAX_NAME => k_is)
    (case rc_MAX_NAME => exact ⟨_, rfl⟩)
    (case aC_QuotaError => k_is)
    (case aC_InvalidGroups => k_is)
    (case aC_UnknownGroup => k_is)
    (case xs_QuotaError => k_is)
    (case xt_QuotaError => k_is)
    (case xd_QuotaError => k_is)
    (case xs_InvalidGroups => k_is)
    (case xt_InvalidGroups => k_is)
    (case xd_InvalidGroups => k_is)
    (case xs_UnknownGroup => k_is)
    (case xt_UnknownGroup => k_is)
    (case xd_UnknownGroup => k_is)
    (case xk_InvalidGroups => k_is)
    (case xe_InvalidGroups => kernel_rfl)
    (case xk_UnknownGroup => k_is)
    (case xe_UnknownGroup => kernel_rfl)
    (case oc_get2 => k_is)
    (case oc_tak2 => k_is)
    (case xg_InvalidGroups => k_is)
    (case xh_InvalidGroups => k_is)
    (case xo_InvalidGroups => k_is)
    (case xm_InvalidGroups => k_is)
    (case xg_UnknownGroup => k_is)
    (case xh_UnknownGroup => k_is)
    (case xo_UnknownGroup => k_is)
    (case xm_UnknownGroup => k_is)
    (case xq_InvalidGroups_non => k_is)
    (case xq_InvalidGroups_UnknownGroup => k_is)
    (case xq_UnknownGroup_non => k_is)
    (case xq_UnknownGroup_InvalidGroups => k_is)
    (case xq2_QuotaError_InvalidGroups => k_is)
    (case xq2_QuotaError_UnknownGroup => k_is)
    (case lb_law => kernel_rfl)
    (case la => kernel_rfl)
    (case lu => kernel_rfl)
    (case n_Groups_parent_of => k_is)
    (case n_Groups_paths => k_is)
    (case oc_get => k_is)
    (case oc_tak => k_is)
    (case oc_Groups => k_is)
    (case mo_Groups => k_is)
    (case t_dict_Groups => k_is)
    (case t_str_Groups => k_is)
    (case xne_InvalidGroups_UnknownGroup => decide)
