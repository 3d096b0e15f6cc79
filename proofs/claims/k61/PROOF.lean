import PyProof.Rows.All
import Wide.All
import OpenK.AllK
import Wide.FinOn
import HandS.ForMost
import HandS.ForExc
import HandS.Deep
import HandS.TupAny
import HandS.SortInts
import HandS.SortOrd
import HandS.Wide
import KE.KeyNested
import HandS.Style
import HandS.IsInst
import KE.SortData
import HandS.Flt
import PyProof.ListStr
import PyProof.TupleOfStr
import KE.KIndexOf
import HandS.Zip
import KE.GoesMore
import HandS.Rev
import HandS.ListItems
import HandS.More
import HandS.Text
import HandS.SetFor
import HandS.Strs
import HandS.TupSets
import HandS.SetKeys
import HandS.Dict
import PyProof.Rows.TupTab
import KE.KDictZip
import PyProof.DictUpdate
import HandS.Iter
import HandS.ExcIs
import HandS.DeepEq
import HandS.TryOnly
import HandS.TupMul
import PyProof.Rows.CountFlat
import PyProof.StrOps2
import PySem.Challenge.RW_joinwood_k61_questions_as_texts
set_option Elab.async false
set_option linter.all false
set_option maxRecDepth 100000
namespace J
open PySem PySem.Spec PyProof.Rows L2
abbrev Sl := List (Option V)
abbrev NK := Int × List Int
def nkey (k : NK) : NestedKey := .tup [.num k.1, .tup (k.2.map .num)]
def TabN (a : Addr) (kb : List (NK × Addr)) : HO := .ext fun h => (a == sysModules) = false ∧ (kb.map (·.1)).Nodup ∧ ∀ w : World, ∃ o es ep, h.get? a = some o ∧ o.ExactDict ∧ o.data = .dict es ep ∧ es.toList = kb.map fun p => ⟨(nkey p.1).hash w, .ref p.2, .bool true⟩
def KeyTs (F : Hp) (kb : List (NK × Addr)) : Prop := ∀ p ∈ kb, ∃ c, F p.2 = some (.tup [.int p.1.1, .ref c]) ∧ F c = some (.tup (p.1.2.map V.int))
inductive FV where
  | non
  | bl (b : Bool)
  | int (i : Int)
  | str (x : Str)
  | tup (xs : List FV)
  | tuz (xs : List FV)
  | lst (xs : List FV)
  | dK (kvs : List (Key × FV))
  | dT (kvs : List (List Key × FV))
  | ins (c : Str) (fs : List (Str × FV))
  | exc (c : Str)
  | scr (xs : List Int)
  | dN (ks : List NK)
inductive OV where
  | fz (x : FV)
  | ol (xs : List FV)
  | oK (kvs : List (Key × FV))
  | oT (kvs : List (List Key × FV))
  | dl (xs : List OV)
  | dd (kvs : List (Key × OV))
  | tp (xs : List OV)
  | ob (c : Str) (t : Option Addr) (fs : List (Str × OV))
  | oN (ks : List NK)
section
variable (M : Str → Option Value) (F : Hp)
mutual
def FDen : FV → V → Prop
  | .non, v => v = .non
  | .bl b, v => v = .bl b
  | .int i, v => v = .int i
  | .str x, v => v = .str x
  | .tup xs, v => ∃ a vs, v = .ref a ∧ F a = some (.tup vs) ∧ FDenL xs vs
  | .tuz xs, v => ∃ a vs o, v = .ref a ∧ F a = some (.frz o (.tup vs)) ∧ o.cls = .type "tuple" ∧ o.dict = none ∧ FDenL xs vs
  | .lst xs, v => ∃ a vs, v = .ref a ∧ F a = some (.lst vs) ∧ FDenL xs vs
  | .dK kvs, v => ∃ a ws, v = .ref a ∧ F a = some (.dK ws) ∧ FDenK kvs ws
  | .dT kvs, v => ∃ a ws, v = .ref a ∧ F a = some (.dT ws) ∧ FDenT kvs ws
  | .ins c fs, v => ∃ a C dx ws, v = .ref a ∧ M c = some (.ref C) ∧ F a = some (.ins C dx ws) ∧ F dx = some (.own a) ∧ FDenA fs ws
  | .exc c, v => ∃ a C, v = .ref a ∧ M c = some (.ref C) ∧ F a = some (.ext fun h => ∃ oe vs, h.get? a = some oe ∧ Zc (.ref C) none oe ∧ oe.data = .fields vs)
  | .scr xs, v => ∃ a, v = .ref a ∧ Rd F a (.lst (xs.map V.int))
  | .dN ks, v => ∃ a kb, v = .ref a ∧ F a = some (TabN a kb) ∧ kb.map (·.1) = ks ∧ KeyTs F kb
def FDenL : List FV → List V → Prop
  | [], vs => vs = []
  | x :: xs, vs => ∃ v ws, vs = v :: ws ∧ FDen x v ∧ FDenL xs ws
def FDenK : List (Key × FV) → List (Key × V) → Prop
  | [], ws => ws = []
  | (k, x) :: r, ws => ∃ v rs, ws = (k, v) :: rs ∧ FDen x v ∧ FDenK r rs
def FDenT : List (List Key × FV) → List (List Key × V) → Prop
  | [], ws => ws = []
  | (k, x) :: r, ws => ∃ v rs, ws = (k, v) :: rs ∧ FDen x v ∧ FDenT r rs
def FDenA : List (Str × FV) → List (Str × V) → Prop
  | [], ws => ws = []
  | (k, x) :: r, ws => ∃ v rs, ws = (k, v) :: rs ∧ FDen x v ∧ FDenA r rs
end
abbrev Cells := List (Addr × HO)
mutual
def Own : OV → V → Cells → Prop
  | .fz x, v, L => FDen M F x v ∧ L = []
  | .ol xs, v, L => ∃ a vs, v = .ref a ∧ FDenL M F xs vs ∧ L = [(a, .lst vs)]
  | .oK kvs, v, L => ∃ a ws, v = .ref a ∧ FDenK M F kvs ws ∧ L = [(a, .dK ws)]
  | .oT kvs, v, L => ∃ a ws, v = .ref a ∧ FDenT M F kvs ws ∧ L = [(a, .dT ws)]
  | .dl xs, v, L => ∃ a vs L', v = .ref a ∧ OwnL xs vs L' ∧ L = (a, .lst vs) :: L'
  | .dd kvs, v, L => ∃ a ws L', v = .ref a ∧ OwnK kvs ws L' ∧ L = (a, .dK ws) :: L'
  | .tp xs, v, L => ∃ a vs, v = .ref a ∧ F a = some (.tup vs) ∧ OwnL xs vs L
  | .ob c t fs, v, L => ∃ a C dx ws L', v = .ref a ∧ (M c = some (.ref C) ∧ ∀ x, t = some x → a = x) ∧ F dx = some (.own a) ∧ OwnA fs ws L' ∧ L = (a, .ins C dx ws) :: L'
  | .oN ks, v, L => ∃ a kb, v = .ref a ∧ kb.map (·.1) = ks ∧ KeyTs F kb ∧ L = [(a, TabN a kb)]
def OwnL : List OV → List V → Cells → Prop
  | [], vs, L => vs = [] ∧ L = []
  | x :: xs, vs, L => ∃ v ws A B, vs = v :: ws ∧ Own x v A ∧ OwnL xs ws B ∧ L = A ++ B
def OwnK : List (Key × OV) → List (Key × V) → Cells → Prop
  | [], ws, L => ws = [] ∧ L = []
  | (k, x) :: r, ws, L => ∃ v rs A B, ws = (k, v) :: rs ∧ Own x v A ∧ OwnK r rs B ∧ L = A ++ B
def OwnA : List (Str × OV) → List (Str × V) → Cells → Prop
  | [], ws, L => ws = [] ∧ L = []
  | (k, x) :: r, ws, L => ∃ v rs A B, ws = (k, v) :: rs ∧ Own x v A ∧ OwnA r rs B ∧ L = A ++ B
end
end
section
variable {M : Str → Option Value} {F F' : Hp}
theorem KeyTs.mono (h : Same F F') {kb : List (NK × Addr)} (k : KeyTs F kb) : KeyTs F' kb := fun p hp => let ⟨c, a, b⟩ := k p hp; ⟨c, h _ _ a, h _ _ b⟩
mutual
theorem FDen.mono (h : Same F F') : ∀ {x : FV} {v : V}, FDen M F x v → FDen M F' x v
  | .non, _, d => d
  | .bl _, _, d => d
  | .int _, _, d => d
  | .str _, _, d => d
  | .tup xs, _, ⟨a, vs, e, q, r⟩ => ⟨a, vs, e, h _ _ q, FDenL.mono h r⟩
  | .tuz xs, _, ⟨a, vs, o, e, q, q1, q2, r⟩ => ⟨a, vs, o, e, h _ _ q, q1, q2, FDenL.mono h r⟩
  | .lst xs, _, ⟨a, vs, e, q, r⟩ => ⟨a, vs, e, h _ _ q, FDenL.mono h r⟩
  | .dK kvs, _, ⟨a, vs, e, q, r⟩ => ⟨a, vs, e, h _ _ q, FDenK.mono h r⟩
  | .dT kvs, _, ⟨a, vs, e, q, r⟩ => ⟨a, vs, e, h _ _ q, FDenT.mono h r⟩
  | .ins c fs, _, ⟨a, C, dx, ws, e, m, q, q2, r⟩ => ⟨a, C, dx, ws, e, m, h _ _ q, h _ _ q2, FDenA.mono h r⟩
  | .exc c, _, ⟨a, C, e, m, q⟩ => ⟨a, C, e, m, h _ _ q⟩
  | .scr xs, _, ⟨a, e, q⟩ => ⟨a, e, q.elim (fun q => .inl (h _ _ q)) fun ⟨o, q⟩ => .inr ⟨o, h _ _ q⟩⟩
  | .dN ks, _, ⟨a, kb, e, q, n, k⟩ => ⟨a, kb, e, h _ _ q, n, k.mono h⟩
theorem FDenL.mono (h : Same F F') : ∀ {xs : List FV} {vs : List V}, FDenL M F xs vs → FDenL M F' xs vs
  | [], _, d => d
  | _ :: _, _, ⟨v, ws, e, d, r⟩ => ⟨v, ws, e, FDen.mono h d, FDenL.mono h r⟩
theorem FDenK.mono (h : Same F F') : ∀ {xs : List (Key × FV)} {vs : List (Key × V)}, FDenK M F xs vs → FDenK M F' xs vs
  | [], _, d => d
  | (_, _) :: _, _, ⟨v, ws, e, d, r⟩ => ⟨v, ws, e, FDen.mono h d, FDenK.mono h r⟩
theorem FDenT.mono (h : Same F F') : ∀ {xs : List (List Key × FV)} {vs : List (List Key × V)}, FDenT M F xs vs → FDenT M F' xs vs
  | [], _, d => d
  | (_, _) :: _, _, ⟨v, ws, e, d, r⟩ => ⟨v, ws, e, FDen.mono h d, FDenT.mono h r⟩
theorem FDenA.mono (h : Same F F') : ∀ {xs : List (Str × FV)} {vs : List (Str × V)}, FDenA M F xs vs → FDenA M F' xs vs
  | [], _, d => d
  | (_, _) :: _, _, ⟨v, ws, e, d, r⟩ => ⟨v, ws, e, FDen.mono h d, FDenA.mono h r⟩
end
mutual
theorem Own.mono (h : Same F F') : ∀ {x : OV} {v : V} {L : Cells}, Own M F x v L → Own M F' x v L
  | .fz _, _, _, ⟨d, e⟩ => ⟨d.mono h, e⟩
  | .ol _, _, _, ⟨a, vs, e, r, q⟩ => ⟨a, vs, e, r.mono h, q⟩
  | .oK _, _, _, ⟨a, vs, e, r, q⟩ => ⟨a, vs, e, r.mono h, q⟩
  | .oT _, _, _, ⟨a, vs, e, r, q⟩ => ⟨a, vs, e, r.mono h, q⟩
  | .dl _, _, _, ⟨a, vs, L', e, r, q⟩ => ⟨a, vs, L', e, OwnL.mono h r, q⟩
  | .dd _, _, _, ⟨a, vs, L', e, r, q⟩ => ⟨a, vs, L', e, OwnK.mono h r, q⟩
  | .tp _, _, _, ⟨a, vs, e, q, r⟩ => ⟨a, vs, e, h _ _ q, OwnL.mono h r⟩
  | .ob _ _ _, _, _, ⟨a, C, dx, ws, L', e, m, q, r, q2⟩ => ⟨a, C, dx, ws, L', e, m, h _ _ q, OwnA.mono h r, q2⟩
  | .oN ks, _, _, ⟨a, kb, e, n, k, q⟩ => ⟨a, kb, e, n, k.mono h, q⟩
theorem OwnL.mono (h : Same F F') : ∀ {xs : List OV} {vs : List V} {L : Cells}, OwnL M F xs vs L → OwnL M F' xs vs L
  | [], _, _, d => d
  | _ :: _, _, _, ⟨v, ws, A, B, e, d, r, q⟩ => ⟨v, ws, A, B, e, Own.mono h d, OwnL.mono h r, q⟩
theorem OwnK.mono (h : Same F F') : ∀ {xs : List (Key × OV)} {vs : List (Key × V)} {L : Cells}, OwnK M F xs vs L → OwnK M F' xs vs L
  | [], _, _, d => d
  | (_, _) :: _, _, _, ⟨v, ws, A, B, e, d, r, q⟩ => ⟨v, ws, A, B, e, Own.mono h d, OwnK.mono h r, q⟩
theorem OwnA.mono (h : Same F F') : ∀ {xs : List (Str × OV)} {vs : List (Str × V)} {L : Cells}, OwnA M F xs vs L → OwnA M F' xs vs L
  | [], _, _, d => d
  | (_, _) :: _, _, _, ⟨v, ws, A, B, e, d, r, q⟩ => ⟨v, ws, A, B, e, Own.mono h d, OwnA.mono h r, q⟩
end
end
mutual
def OV.fv : OV → FV
  | .fz x => x
  | .ol xs => .lst xs
  | .oK kvs => .dK kvs
  | .oT kvs => .dT kvs
  | .dl xs => .lst (OV.fvL xs)
  | .dd kvs => .dK (OV.fvK kvs)
  | .tp xs => .tup (OV.fvL xs)
  | .ob c _ fs => .ins c (OV.fvA fs)
  | .oN ks => .dN ks
def OV.fvL : List OV → List FV
  | [] => []
  | x :: xs => x.fv :: OV.fvL xs
def OV.fvK : List (Key × OV) → List (Key × FV)
  | [] => []
  | (k, x) :: xs => (k, x.fv) :: OV.fvK xs
def OV.fvA : List (Str × OV) → List (Str × FV)
  | [] => []
  | (k, x) :: xs => (k, x.fv) :: OV.fvA xs
end
section
variable {M : Str → Option Value} {F H : Hp}
mutual
theorem Own.fden (h : Same F H) : ∀ {x : OV} {v : V} {L : Cells}, Own M F x v L → (∀ p ∈ L, H p.1 = some p.2) → FDen M H x.fv v
  | .fz _, _, _, ⟨d, e⟩, _ => d.mono h
  | .ol _, _, _, ⟨a, vs, e, r, q⟩, c => ⟨a, vs, e, by subst q; exact c _ List.mem_cons_self, r.mono h⟩
  | .oK _, _, _, ⟨a, vs, e, r, q⟩, c => ⟨a, vs, e, by subst q; exact c _ List.mem_cons_self, r.mono h⟩
  | .oT _, _, _, ⟨a, vs, e, r, q⟩, c => ⟨a, vs, e, by subst q; exact c _ List.mem_cons_self, r.mono h⟩
  | .dl _, _, _, ⟨a, vs, L', e, r, q⟩, c => by
    subst q
    exact ⟨a, vs, e, c _ List.mem_cons_self, OwnL.fden h r fun p hp => c p (List.mem_cons_of_mem _ hp)⟩
  | .dd _, _, _, ⟨a, vs, L', e, r, q⟩, c => by
    subst q
    exact ⟨a, vs, e, c _ List.mem_cons_self, OwnK.fden h r fun p hp => c p (List.mem_cons_of_mem _ hp)⟩
  | .tp _, _, _, ⟨a, vs, e, q, r⟩, c => ⟨a, vs, e, h _ _ q, OwnL.fden h r c⟩
  | .ob _ _ _, _, _, ⟨a, C, dx, ws, L', e, m, q, r, q2⟩, c => by
    subst q2
    exact ⟨a, C, dx, ws, e, m.1, c _ List.mem_cons_self, h _ _ q, OwnA.fden h r fun p hp => c p (List.mem_cons_of_mem _ hp)⟩
  | .oN ks, _, _, ⟨a, kb, e, n, k, q⟩, c => ⟨a, kb, e, by subst q; exact c _ List.mem_cons_self, n, k.mono h⟩
theorem OwnL.fden (h : Same F H) : ∀ {xs : List OV} {vs : List V} {L : Cells}, OwnL M F xs vs L → (∀ p ∈ L, H p.1 = some p.2) → FDenL M H (OV.fvL xs) vs
  | [], _, _, d, _ => d.1
  | _ :: _, _, _, ⟨v, ws, A, B, e, d, r, q⟩, c => by
    subst q
    exact ⟨v, ws, e, Own.fden h d fun p hp => c p (List.mem_append_left _ hp), OwnL.fden h r fun p hp => c p (List.mem_append_right _ hp)⟩
theorem OwnK.fden (h : Same F H) : ∀ {xs : List (Key × OV)} {vs : List (Key × V)} {L : Cells}, OwnK M F xs vs L → (∀ p ∈ L, H p.1 = some p.2) → FDenK M H (OV.fvK xs) vs
  | [], _, _, d, _ => d.1
  | (_, _) :: _, _, _, ⟨v, ws, A, B, e, d, r, q⟩, c => by
    subst q
    exact ⟨v, ws, e, Own.fden h d fun p hp => c p (List.mem_append_left _ hp), OwnK.fden h r fun p hp => c p (List.mem_append_right _ hp)⟩
theorem OwnA.fden (h : Same F H) : ∀ {xs : List (Str × OV)} {vs : List (Str × V)} {L : Cells}, OwnA M F xs vs L → (∀ p ∈ L, H p.1 = some p.2) → FDenA M H (OV.fvA xs) vs
  | [], _, _, d, _ => d.1
  | (_, _) :: _, _, _, ⟨v, ws, A, B, e, d, r, q⟩, c => by
    subst q
    exact ⟨v, ws, e, Own.fden h d fun p hp => c p (List.mem_append_left _ hp), OwnA.fden h r fun p hp => c p (List.mem_append_right _ hp)⟩
end
end
inductive Rv where
  | st (o : OV)
  | bo (o : OV)
def Rv.ov : Rv → OV
  | .st o => o
  | .bo o => o
def Rv.fv (r : Rv) : FV := r.ov.fv
inductive Ans (α : Type) where
  | ok (a : α)
  | ex (c : Str)
  | no
def Ans.bind {α β : Type} (x : Ans α) (f : α → Ans β) : Ans β := match x with
  | .ok a => f a
  | .ex c => .ex c
  | .no => .no
def Ans.map {α β : Type} (f : α → β) (x : Ans α) : Ans β := match x with
  | .ok a => .ok (f a)
  | .ex c => .ex c
  | .no => .no
abbrev VEnv := List (Option OV)
abbrev DE := VEnv → Ans Rv
abbrev DT := VEnv → Ans Bool
inductive SO where
  | nx (e : VEnv)
  | rt (o : OV) (e : VEnv)
  | bk (e : VEnv)
  | ct (e : VEnv)
abbrev DS := VEnv → Ans SO
def updL (F : Hp) : Cells → Hp
  | [] => F
  | p :: L => upd (updL F L) p.1 p.2
theorem updL_out {F : Hp} {a : Addr} : ∀ {L : Cells}, (∀ p ∈ L, p.1 ≠ a) → updL F L a = F a
  | [], _ => rfl
  | p :: L, h => by
    unfold updL
    rw [upd_ne (fun e => h p List.mem_cons_self e.symm)]
    exact updL_out fun q hq => h q (List.mem_cons_of_mem _ hq)
theorem updL_in {F : Hp} : ∀ {L : Cells}, (L.map (·.1)).Nodup → ∀ p ∈ L, updL F L p.1 = some p.2
  | [], _, _, h => nomatch h
  | q :: L, nd, p, h => by
    rw [List.map_cons, List.nodup_cons] at nd
    unfold updL
    rcases List.mem_cons.mp h with rfl | h
    · exact upd_same
    · rw [upd_ne (fun e => nd.1 (by rw [← e]; exact List.mem_map.mpr ⟨p, h, rfl⟩))]
      exact updL_in nd.2 p h
theorem updL_cases {F : Hp} {a : Addr} {o : HO} : ∀ {L : Cells}, updL F L a = some o → F a = some o ∨ (a, o) ∈ L
  | [], h => .inl h
  | q :: L, h => by
    unfold updL at h
    by_cases e : a = q.1
    · rw [e, upd_same] at h
      cases h
      exact .inr (by rw [e]; exact List.mem_cons_self)
    · rw [upd_ne e] at h
      exact (updL_cases h).imp id (List.mem_cons_of_mem _)
structure Good (F Z H : Hp) (L : Cells) : Prop where
  nd : (L.map (·.1)).Nodup
  hp : ∀ p ∈ L, H p.1 = some p.2
  fr : ∀ p ∈ L, F p.1 = none
  zr : ∀ p ∈ L, Z p.1 = none
section
variable {F F' Z H H' : Hp} {L L' D : Cells}
theorem Good.nil : Good F Z H [] := ⟨List.nodup_nil, (fun _ h => nomatch h), (fun _ h => nomatch h), (fun _ h => nomatch h)⟩
theorem Good.perm (g : Good F Z H L) (p : L.Perm L') : Good F Z H L' :=
  ⟨(p.map _).nodup_iff.mp g.nd, fun q hq => g.hp q (p.mem_iff.mpr hq), fun q hq => g.fr q (p.mem_iff.mpr hq), fun q hq => g.zr q (p.mem_iff.mpr hq)⟩
theorem Good.left (g : Good F Z H (L ++ L')) : Good F Z H L := by
  have n := g.nd
  rw [List.map_append, List.nodup_append] at n
  exact ⟨n.1, fun q hq => g.hp q (List.mem_append_left _ hq), fun q hq => g.fr q (List.mem_append_left _ hq), fun q hq => g.zr q (List.mem_append_left _ hq)⟩
theorem Good.right (g : Good F Z H (L ++ L')) : Good F Z H L' := (g.perm List.perm_append_comm).left
theorem Good.apart (g : Good F Z H (L ++ L')) : ∀ p ∈ L, ∀ q ∈ L', p.1 ≠ q.1 := fun p hp q hq e => by
  have n := g.nd
  rw [List.map_append, List.nodup_append] at n
  exact n.2.2 p.1 (List.mem_map.mpr ⟨p, hp, rfl⟩) q.1 (List.mem_map.mpr ⟨q, hq, rfl⟩) e
theorem Good.same (g : Good F Z H L) (h : Same H H') : Good F Z H' L := ⟨g.nd, fun p hp => h _ _ (g.hp p hp), g.fr, g.zr⟩
theorem Good.mk' (g : Good F Z H L) (g' : Good F Z H L') (h : ∀ p ∈ L, ∀ q ∈ L', p.1 ≠ q.1) : Good F Z H (L ++ L') := by
  refine ⟨?_, fun p hp => (List.mem_append.mp hp).elim (g.hp p) (g'.hp p), fun p hp => (List.mem_append.mp hp).elim (g.fr p) (g'.fr p), fun p hp => (List.mem_append.mp hp).elim (g.zr p) (g'.zr p)⟩
  rw [List.map_append, List.nodup_append]
  refine ⟨g.nd, g'.nd, fun a ha b hb e => ?_⟩
  obtain ⟨p, hp, e1⟩ := List.mem_map.mp ha
  obtain ⟨q, hq, e2⟩ := List.mem_map.mp hb
  exact h p hp q hq (by rw [e1, e2, e])
end
section
variable (M : Str → Option Value) (F H : Hp)
inductive EnvOwn : Sl → VEnv → Cells → Prop
  | nil : EnvOwn [] [] []
  | skip {s : Option V} {σ : Sl} {env : VEnv} {L : Cells} : EnvOwn σ env L → EnvOwn (s :: σ) (none :: env) L
  | cons {v : V} {o : OV} {σ : Sl} {env : VEnv} {A B : Cells} : Own M F o v A → EnvOwn σ env B → EnvOwn (some v :: σ) (some o :: env) (A ++ B)
def Bor (o : OV) (v : V) : Prop := ∃ A, Own M F o v A ∧ ∀ p ∈ A, H p.1 = some p.2
inductive TmpOwn : List (V × Rv) → Cells → Prop
  | nil : TmpOwn [] []
  | st {v : V} {o : OV} {T : List (V × Rv)} {A B : Cells} : Own M F o v A → TmpOwn T B → TmpOwn ((v, .st o) :: T) (A ++ B)
  | bo {v : V} {o : OV} {T : List (V × Rv)} {B : Cells} : Bor M F H o v → TmpOwn T B → TmpOwn ((v, .bo o) :: T) B
end
section
variable {M : Str → Option Value} {F F' H H' : Hp} {σ : Sl} {env : VEnv} {L : Cells} {T : List (V × Rv)} {o : OV} {v : V}
theorem EnvOwn.mono (h : Same F F') (e : EnvOwn M F σ env L) : EnvOwn M F' σ env L := by
  induction e with
  | nil => exact .nil
  | skip _ ih => exact .skip ih
  | cons d _ ih => exact .cons (d.mono h) ih
theorem Bor.mono (h : Same F F') (h' : Same H H') (b : Bor M F H o v) : Bor M F' H' o v :=
  let ⟨A, d, c⟩ := b
  ⟨A, d.mono h, fun p hp => h' _ _ (c p hp)⟩
theorem Bor.fden (h : Same F H) (b : Bor M F H o v) : FDen M H o.fv v :=
  let ⟨_, d, c⟩ := b
  d.fden h c
theorem TmpOwn.mono (h : Same F F') (h' : Same H H') (e : TmpOwn M F H T L) : TmpOwn M F' H' T L := by
  induction e with
  | nil => exact .nil
  | st d _ ih => exact .st (d.mono h) ih
  | bo d _ ih => exact .bo (d.mono h h') ih
theorem EnvOwn.len (e : EnvOwn M F σ env L) : σ.length = env.length := by
  induction e with
  | nil => rfl
  | skip _ ih => simp [ih]
  | cons _ _ ih => simp [ih]
theorem EnvOwn.repl (e : EnvOwn M F σ env L) : ∀ {i : Nat}, env[i]? = some (some o) → ∃ v A Lr, σ[i]? = some (some v) ∧ Own M F o v A ∧ L.Perm (A ++ Lr) ∧
    (∀ o' v' A', Own M F o' v' A' → ∃ L', EnvOwn M F (σ.set i (some v')) (env.set i (some o')) L' ∧ L'.Perm (A' ++ Lr)) ∧ ∀ s, EnvOwn M F (σ.set i s) (env.set i none) Lr := by
  induction e with
  | nil => intro i h; simp at h
  | @skip s σ env L e ih =>
    intro i h
    cases i with
    | zero => simp at h
    | succ i =>
      obtain ⟨v, A, Lr, h1, h2, h3, h4, h5⟩ := ih (i := i) (by simpa using h)
      refine ⟨v, A, Lr, by simpa using h1, h2, h3, fun o' v' A' d => ?_, fun s => .skip (h5 s)⟩
      obtain ⟨L', q1, q2⟩ := h4 o' v' A' d
      exact ⟨L', .skip q1, q2⟩
  | @cons v o2 σ env A B d e ih =>
    intro i h
    cases i with
    | zero =>
      have h' : o2 = o := by simpa using h
      subst h'
      exact ⟨v, A, B, rfl, d, .refl _, fun o' v' A' d' => ⟨A' ++ B, .cons d' e, .refl _⟩, fun s => .skip e⟩
    | succ i =>
      obtain ⟨w, A2, Lr, h1, h2, h3, h4, h5⟩ := ih (i := i) (by simpa using h)
      refine ⟨w, A2, A ++ Lr, by simpa using h1, h2, ?_, fun o' v' A' d' => ?_, fun s => .cons d (h5 s)⟩
      · exact (List.Perm.append_left A h3).trans (by
          rw [← List.append_assoc, ← List.append_assoc]
          exact List.perm_append_comm.append_right _)
      · obtain ⟨L', q1, q2⟩ := h4 o' v' A' d'
        refine ⟨A ++ L', .cons d q1, (List.Perm.append_left A q2).trans ?_⟩
        rw [← List.append_assoc, ← List.append_assoc]
        exact List.perm_append_comm.append_right _
theorem EnvOwn.set (e : EnvOwn M F σ env L) : ∀ (i : Nat) {A : Cells}, Own M F o v A → ∃ L' D, EnvOwn M F (σ.set i (some v)) (env.set i (some o)) L' ∧ (A ++ L).Perm (L' ++ D) := by
  induction e with
  | nil => intro i A d; exact ⟨[], A, .nil, by simp⟩
  | @skip s σ env L e ih =>
    intro i A d
    cases i with
    | zero => exact ⟨A ++ L, [], .cons d e, by simp⟩
    | succ i =>
      obtain ⟨L', D, q1, q2⟩ := ih i d
      exact ⟨L', D, .skip q1, q2⟩
  | @cons v2 o2 σ env A2 B d2 e ih =>
    intro i A d
    cases i with
    | zero =>
      refine ⟨A ++ B, A2, .cons d e, ?_⟩
      rw [List.append_assoc]
      exact List.Perm.append_left A List.perm_append_comm
    | succ i =>
      obtain ⟨L', D, q1, q2⟩ := ih i d
      refine ⟨A2 ++ L', D, .cons d2 q1, ?_⟩
      rw [List.append_assoc]
      refine List.Perm.trans ?_ (List.Perm.append_left A2 q2)
      rw [← List.append_assoc, ← List.append_assoc]
      exact List.perm_append_comm.append_right _
theorem EnvOwn.unset (e : EnvOwn M F σ env L) (i : Nat) (s : Option V) : ∃ L' D, EnvOwn M F (σ.set i s) (env.set i none) L' ∧ L.Perm (L' ++ D) := by
  induction e generalizing i with
  | nil => exact ⟨[], [], .nil, by simp⟩
  | @skip s2 σ env L e ih =>
    cases i with
    | zero => exact ⟨L, [], .skip e, by simp⟩
    | succ i =>
      obtain ⟨L', D, q1, q2⟩ := ih i
      exact ⟨L', D, .skip q1, q2⟩
  | @cons v2 o2 σ env A2 B d2 e ih =>
    cases i with
    | zero => exact ⟨B, A2, .skip e, List.perm_append_comm⟩
    | succ i =>
      obtain ⟨L', D, q1, q2⟩ := ih i
      refine ⟨A2 ++ L', D, .cons d2 q1, ?_⟩
      rw [List.append_assoc]
      exact List.Perm.append_left A2 q2
theorem TmpOwn.sub {T' : List (V × Rv)} (e : TmpOwn M F H T L) (h : T'.Sublist T) : ∃ L' D, TmpOwn M F H T' L' ∧ L.Perm (L' ++ D) := by
  induction h generalizing L with
  | slnil => exact ⟨L, [], e, by simp⟩
  | cons a _ ih =>
    cases e with
    | st d e =>
      obtain ⟨L', D, q1, q2⟩ := ih e
      rename_i A B
      refine ⟨L', A ++ D, q1, ?_⟩
      refine (List.Perm.append_left A q2).trans ?_
      rw [← List.append_assoc, ← List.append_assoc]
      exact List.perm_append_comm.append_right _
    | bo d e => exact ih e
  | cons_cons a _ ih =>
    cases e with
    | st d e =>
      obtain ⟨L', D, q1, q2⟩ := ih e
      rename_i A B
      refine ⟨A ++ L', D, .st d q1, ?_⟩
      rw [List.append_assoc]
      exact List.Perm.append_left A q2
    | bo d e =>
      obtain ⟨L', D, q1, q2⟩ := ih e
      exact ⟨L', D, .bo d q1, q2⟩
end
structure RF (M : Str → Option Value) (G Z H F : Hp) (σ : Sl) (env : VEnv) (T : List (V × Rv)) (L1 L2 : Cells) : Prop where
  gf : Same G F
  fg : ∀ a o, F a = some o → G a = some o ∨ Z a = none
  fh : Same F H
  zh : Same Z H
  ev : EnvOwn M F σ env L1
  tm : TmpOwn M F H T L2
  gd : Good F Z H (L1 ++ L2)
def R (M : Str → Option Value) (G Z H : Hp) (σ : Sl) (env : VEnv) (T : List (V × Rv)) : Prop := ∃ F L1 L2, RF M G Z H F σ env T L1 L2
structure NewF (M : Str → Option Value) (F H H' F' : Hp) (o : OV) (v : V) (L : Cells) : Prop where
  ff : Same F F'
  fn : ∀ a u, F' a = some u → F a = some u ∨ H a = none
  fh : Same F' H'
  hh : Same H H'
  ow : Own M F' o v L
  gd : Good F' H H' L
def New (M : Str → Option Value) (F H H' : Hp) (o : OV) (v : V) : Prop := ∃ F' L, NewF M F H H' F' o v L
section
variable {M : Str → Option Value} {G Z H H' F F' : Hp} {σ : Sl} {env : VEnv} {T T' : List (V × Rv)} {L1 L2 : Cells} {o : OV} {v : V} {i : Nat}
theorem RF.r (r : RF M G Z H F σ env T L1 L2) : R M G Z H σ env T := ⟨F, L1, L2, r⟩
theorem RF.same (r : RF M G Z H F σ env T L1 L2) (h : Same H H') : RF M G Z H' F σ env T L1 L2 :=
  ⟨r.gf, r.fg, r.fh.trans h, r.zh.trans h, r.ev, r.tm.mono (Same.refl _) h, r.gd.same h⟩
theorem R.same (r : R M G Z H σ env T) (h : Same H H') : R M G Z H' σ env T := let ⟨_, _, _, r⟩ := r; (r.same h).r
theorem RF.sub (r : RF M G Z H F σ env T L1 L2) (h : T'.Sublist T) : R M G Z H σ env T' := by
  obtain ⟨L', D, q1, q2⟩ := r.tm.sub h
  refine ⟨F, L1, L', r.gf, r.fg, r.fh, r.zh, r.ev, q1, ?_⟩
  have g := r.gd.perm (List.Perm.append_left L1 q2)
  rw [← List.append_assoc] at g
  exact g.left
theorem R.sub (r : R M G Z H σ env T) (h : T'.Sublist T) : R M G Z H σ env T' := let ⟨_, _, _, r⟩ := r; r.sub h
theorem R.pop {p : V × Rv} (r : R M G Z H σ env (p :: T)) : R M G Z H σ env T := r.sub (List.sublist_cons_self _ _)
theorem R.pop2 {p q : V × Rv} (r : R M G Z H σ env (p :: q :: T)) : R M G Z H σ env (p :: T) := r.sub ((List.sublist_cons_self _ _).cons_cons _)
theorem RF.new (r : RF M G Z H F σ env T L1 L2) (n : New M F H H' o v) : R M G Z H' σ env ((v, .st o) :: T) := by
  obtain ⟨F', L, n⟩ := n
  refine ⟨F', L1, L ++ L2, r.gf.trans n.ff, fun a u e => ?_, n.fh, r.zh.trans n.hh, r.ev.mono n.ff, .st n.ow (r.tm.mono n.ff n.hh), ?_⟩
  · rcases n.fn a u e with e | e
    · exact r.fg a u e
    · refine .inr ?_
      cases q : Z a with
      | none => rfl
      | some z => rw [r.zh a z q] at e; cases e
  · have g : Good F' Z H' (L1 ++ L2) := ⟨r.gd.nd, fun p hp => n.hh _ _ (r.gd.hp p hp), (fun p hp => by
      cases q : F' p.1 with
      | none => rfl
      | some u =>
        rcases n.fn _ _ q with e | e
        · rw [r.gd.fr p hp] at e; cases e
        · rw [r.gd.hp p hp] at e; cases e), r.gd.zr⟩
    have g2 : Good F' Z H' L := ⟨n.gd.nd, n.gd.hp, n.gd.fr, fun p hp => by
      cases q : Z p.1 with
      | none => rfl
      | some z =>
        have e := n.gd.zr p hp
        rw [r.zh _ z q] at e
        cases e⟩
    have g3 := g2.mk' g fun p hp q hq e => by
      have e1 := n.gd.zr p hp
      rw [e, r.gd.hp q hq] at e1
      cases e1
    refine g3.perm ?_
    rw [← List.append_assoc, ← List.append_assoc]
    exact List.perm_append_comm.append_right _
theorem RF.look (r : RF M G Z H F σ env T L1 L2) (h : env[i]? = some (some o)) : ∃ v, σ[i]? = some (some v) ∧ RF M G Z H F σ env ((v, .bo o) :: T) L1 L2 := by
  obtain ⟨v, A, Lr, h1, h2, h3, _⟩ := r.ev.repl h
  refine ⟨v, h1, r.gf, r.fg, r.fh, r.zh, r.ev, .bo ⟨A, h2, fun p hp => r.gd.hp p (List.mem_append_left _ (h3.mem_iff.mpr (List.mem_append_left _ hp)))⟩ r.tm, r.gd⟩
theorem RF.lookF {x : FV} (r : RF M G Z H F σ env T L1 L2) (h : env[i]? = some (some (.fz x))) : ∃ v, σ[i]? = some (some v) ∧ RF M G Z H F σ env ((v, .st (.fz x)) :: T) L1 L2 := by
  obtain ⟨v, A, Lr, h1, h2, h3, _⟩ := r.ev.repl h
  have hA : A = [] := h2.2
  subst hA
  exact ⟨v, h1, r.gf, r.fg, r.fh, r.zh, r.ev, .st (A := []) h2 r.tm, r.gd⟩
theorem R.set (r : R M G Z H σ env ((v, .st o) :: T)) (i : Nat) : R M G Z H (σ.set i (some v)) (env.set i (some o)) T := by
  obtain ⟨F, L1, L2, r⟩ := r
  cases r.tm with
  | @st _ _ _ A B d t =>
    obtain ⟨L', D, q1, q2⟩ := r.ev.set i d
    refine ⟨F, L', B, r.gf, r.fg, r.fh, r.zh, q1, t, ?_⟩
    have g := r.gd
    have p1 : (L1 ++ (A ++ B)).Perm ((L' ++ B) ++ D) := by
      refine List.Perm.trans ?_ (List.Perm.trans (q2.append_right B) ?_)
      · rw [← List.append_assoc]
        exact (List.perm_append_comm).append_right B
      · rw [List.append_assoc, List.append_assoc]
        exact List.Perm.append_left L' List.perm_append_comm
    exact (g.perm p1).left
theorem R.unset (r : R M G Z H σ env T) (i : Nat) (s : Option V) : R M G Z H (σ.set i s) (env.set i none) T := by
  obtain ⟨F, L1, L2, r⟩ := r
  obtain ⟨L', D, q1, q2⟩ := r.ev.unset i s
  refine ⟨F, L', L2, r.gf, r.fg, r.fh, r.zh, q1, r.tm, ?_⟩
  have p1 : (L1 ++ L2).Perm ((L' ++ L2) ++ D) := by
    refine (q2.append_right L2).trans ?_
    rw [List.append_assoc, List.append_assoc]
    exact List.Perm.append_left L' List.perm_append_comm
  exact (r.gd.perm p1).left
theorem RF.ice (r : RF M G Z H F σ env T L1 L2) {A Lr : Cells} (p : (L1 ++ L2).Perm (A ++ Lr)) :
    Same G (updL F A) ∧ (∀ a o, updL F A a = some o → G a = some o ∨ Z a = none) ∧ Same F (updL F A) ∧ Same (updL F A) H ∧ Good (updL F A) Z H Lr ∧ ∀ p ∈ A, updL F A p.1 = some p.2 := by
  have g := r.gd.perm p
  have ff : Same F (updL F A) := fun a o e => by
    rw [updL_out fun q hq z => by
      have := g.fr q (List.mem_append_left _ hq)
      rw [z, e] at this
      cases this]
    exact e
  refine ⟨r.gf.trans ff, fun a o e => ?_, ff, fun a o e => ?_, ⟨g.right.nd, g.right.hp, fun q hq => ?_, g.right.zr⟩, fun q hq => updL_in g.left.nd q hq⟩
  · rcases updL_cases e with e | e
    · exact r.fg a o e
    · exact .inr (g.zr _ (List.mem_append_left _ e))
  · rcases updL_cases e with e | e
    · exact r.fh a o e
    · exact g.hp _ (List.mem_append_left _ e)
  · rw [updL_out fun q2 hq2 z => g.apart q2 hq2 q hq z]
    exact g.right.fr q hq
theorem R.freeze (r : R M G Z H σ env T) (h : env[i]? = some (some o)) : R M G Z H σ (env.set i (some (.fz o.fv))) T := by
  obtain ⟨F, L1, L2, r⟩ := r
  obtain ⟨v, A, Lr, h1, h2, h3, h4, _⟩ := r.ev.repl h
  obtain ⟨i1, i2, i3, i4, i5, i6⟩ := r.ice (A := A) (Lr := Lr ++ L2) (by rw [← List.append_assoc]; exact h3.append_right L2)
  obtain ⟨v2, A2, Lr2, k1, k2, k3, k4, _⟩ := (r.ev.mono i3).repl h
  rw [h1] at k1
  obtain rfl := Option.some.inj (Option.some.inj k1)
  have e2 := h4 (.fz .non) .non [] ⟨rfl, rfl⟩
  obtain ⟨L', q1, q2⟩ := e2
  have hset : env.set i (some (OV.fz o.fv)) = (env.set i (some (OV.fz .non))).set i (some (OV.fz o.fv)) := by rw [List.set_set]
  have hσ : σ = (σ.set i (some V.non)).set i (some v) := by
    rw [List.set_set]
    apply List.ext_getElem?
    intro j
    by_cases hj : i = j
    · subst hj
      obtain ⟨hlt, _⟩ := List.getElem?_eq_some_iff.mp h1
      rw [List.getElem?_set_self hlt, h1]
    · rw [List.getElem?_set_ne hj]
  have hi : (env.set i (some (OV.fz .non)))[i]? = some (some (OV.fz .non)) := by
    obtain ⟨hlt, _⟩ := List.getElem?_eq_some_iff.mp h
    exact List.getElem?_set_self hlt
  obtain ⟨v3, A3, Lr3, j1, j2, j3, j4, _⟩ := (q1.mono i3).repl hi
  have hA3 : A3 = [] := j2.2
  subst hA3
  obtain ⟨L4, u1, u2⟩ := j4 (.fz o.fv) v [] ⟨h2.fden i3 i6, rfl⟩
  rw [← hσ, ← hset] at u1
  refine ⟨updL F A, L4, L2, i1, i2, i4, r.zh, u1, r.tm.mono i3 (Same.refl _), i5.perm (List.Perm.append_right L2 ?_)⟩
  exact (q2.symm.trans j3).trans u2.symm
end
end J
namespace J
open PySem PySem.Spec PyProof.Rows L2
section
variable {M : Str → Option Value} {G Z H H1 H2 F : Hp} {σ : Sl} {env : VEnv} {T T' T2 : List (V × Rv)} {W : WX} {Q : VK} {v : V} {o : OV} {L L1 L2 : Cells}
theorem TmpOwn.perm {H : Hp} (h : T.Perm T') : ∀ {L : Cells}, TmpOwn M F H T L → ∃ L', TmpOwn M F H T' L' ∧ L.Perm L' := by
  induction h with
  | nil => intro L e; exact ⟨L, e, .refl _⟩
  | cons x _ ih =>
    intro L e
    cases e with
    | st d e =>
      obtain ⟨L', q1, q2⟩ := ih e
      exact ⟨_, .st d q1, List.Perm.append_left _ q2⟩
    | bo d e =>
      obtain ⟨L', q1, q2⟩ := ih e
      exact ⟨_, .bo d q1, q2⟩
  | swap x y l =>
    intro L e
    cases e with
    | st d e =>
      cases e with
      | st d2 e =>
        refine ⟨_, .st d2 (.st d e), ?_⟩
        rw [← List.append_assoc, ← List.append_assoc]
        exact List.perm_append_comm.append_right _
      | bo d2 e => exact ⟨_, .bo d2 (.st d e), .refl _⟩
    | bo d e =>
      cases e with
      | st d2 e => exact ⟨_, .st d2 (.bo d e), .refl _⟩
      | bo d2 e => exact ⟨_, .bo d2 (.bo d e), .refl _⟩
  | trans _ _ ih1 ih2 =>
    intro L e
    obtain ⟨L1, q1, q2⟩ := ih1 e
    obtain ⟨L2, q3, q4⟩ := ih2 q1
    exact ⟨L2, q3, q2.trans q4⟩
theorem R.perm (r : R M G Z H σ env T) (h : T.Perm T') : R M G Z H σ env T' := by
  obtain ⟨F, L1, L2, r⟩ := r
  obtain ⟨L', q1, q2⟩ := r.tm.perm h
  exact ⟨F, L1, L', r.gf, r.fg, r.fh, r.zh, r.ev, q1, r.gd.perm (List.Perm.append_left _ q2)⟩
def Sb (T' T : List (V × Rv)) : Prop := ∃ D, T.Perm (T' ++ D)
theorem Sb.refl : Sb T T := ⟨[], by simp⟩
theorem Sb.cons {p : V × Rv} (h : Sb T' T) : Sb T' (p :: T) := by
  obtain ⟨D, h⟩ := h
  refine ⟨p :: D, (h.cons p).trans ?_⟩
  exact List.perm_middle.symm
theorem Sb.both {p : V × Rv} (h : Sb T' T) : Sb (p :: T') (p :: T) := by
  obtain ⟨D, h⟩ := h
  exact ⟨D, h.cons p⟩
theorem Sb.trans (a : Sb T T') (b : Sb T' T2) : Sb T T2 := by
  obtain ⟨D, a⟩ := a
  obtain ⟨E, b⟩ := b
  refine ⟨D ++ E, b.trans ?_⟩
  rw [← List.append_assoc]
  exact a.append_right E
theorem R.sb (r : R M G Z H σ env T) (h : Sb T' T) : R M G Z H σ env T' := by
  obtain ⟨D, h⟩ := h
  exact (r.perm h).sub (List.sublist_append_left _ _)
theorem RF.bor {p : V × Rv} (r : RF M G Z H F σ env T L1 L2) (h : p ∈ T) : Bor M F H p.2.ov p.1 := by
  obtain ⟨gf, fg, fh, zh, ev, tm, gd⟩ := r
  have key : ∀ {T : List (V × Rv)} {L : Cells}, TmpOwn M F H T L → (∀ q ∈ L, H q.1 = some q.2) → p ∈ T → Bor M F H p.2.ov p.1 := by
    intro T L e
    induction e with
    | nil => intro _ h; exact nomatch h
    | st d _ ih =>
      intro hc h
      rcases List.mem_cons.mp h with rfl | h
      · exact ⟨_, d, fun q hq => hc q (List.mem_append_left _ hq)⟩
      · exact ih (fun q hq => hc q (List.mem_append_right _ hq)) h
    | bo d _ ih =>
      intro hc h
      rcases List.mem_cons.mp h with rfl | h
      · exact d
      · exact ih hc h
  exact key tm (fun q hq => gd.hp q (List.mem_append_right _ hq)) h
def Post (M : Str → Option Value) (W : WX) (G Z : Hp) (σ : Sl) (env : VEnv) (T : List (V × Rv)) (Q : VK) (H : Hp) : Ans Rv → Prop
  | .ok r => ∀ v H', Same H H' → R M G Z H' σ env ((v, r) :: T) → Q v H'
  | .ex c => ∀ C H', M c = some (.ref C) → Same H H' → R M G Z H' σ env T → W (.ref C) none σ H'
  | .no => False
def tE (M : Str → Option Value) (W : WX) (f : DE) : TE := fun σ H Q => ∃ G Z env T, R M G Z H σ env T ∧ Post M W G Z σ env T Q H (f env)
def PostT (M : Str → Option Value) (W : WX) (G Z : Hp) (σ : Sl) (env : VEnv) (T : List (V × Rv)) (Q : Bool → Hp → Prop) (H : Hp) : Ans Bool → Prop
  | .ok b => ∀ H', Same H H' → R M G Z H' σ env T → Q b H'
  | .ex c => ∀ C H', M c = some (.ref C) → Same H H' → R M G Z H' σ env T → W (.ref C) none σ H'
  | .no => False
def tT (M : Str → Option Value) (W : WX) (f : DT) : TT := fun σ H Q => ∃ G Z env T, R M G Z H σ env T ∧ PostT M W G Z σ env T Q H (f env)
def PostA (M : Str → Option Value) (W : WX) (G Z : Hp) (σ : Sl) (env : VEnv) (T : List (V × Rv)) (Q : List V → Hp → Prop) (H : Hp) : Ans (List Rv) → Prop
  | .ok rs => ∀ vs H', vs.length = rs.length → Same H H' → R M G Z H' σ env (vs.zip rs ++ T) → Q vs H'
  | .ex c => ∀ C H', M c = some (.ref C) → Same H H' → R M G Z H' σ env T → W (.ref C) none σ H'
  | .no => False
def tA (M : Str → Option Value) (W : WX) (f : VEnv → Ans (List Rv)) : TA := fun σ H Q => ∃ G Z env T, R M G Z H σ env T ∧ PostA M W G Z σ env T Q H (f env)
theorem Post.later {x : Ans Rv} (p : Post M W G Z σ env T Q H x) (h : Same H H1) : Post M W G Z σ env T Q H1 x := by
  cases x with
  | ok r => exact fun v H' s r => p v H' (h.trans s) r
  | ex c => exact fun C H' m s r => p C H' m (h.trans s) r
  | no => exact p
theorem PostT.later {x : Ans Bool} {Q : Bool → Hp → Prop} (p : PostT M W G Z σ env T Q H x) (h : Same H H1) : PostT M W G Z σ env T Q H1 x := by
  cases x with
  | ok r => exact fun H' s r => p H' (h.trans s) r
  | ex c => exact fun C H' m s r => p C H' m (h.trans s) r
  | no => exact p
theorem PostA.later {x : Ans (List Rv)} {Q : List V → Hp → Prop} (p : PostA M W G Z σ env T Q H x) (h : Same H H1) : PostA M W G Z σ env T Q H1 x := by
  cases x with
  | ok r => exact fun v H' hl s r => p v H' hl (h.trans s) r
  | ex c => exact fun C H' m s r => p C H' m (h.trans s) r
  | no => exact p
theorem tE.then {f : DE} {Q1 : VK} (r : R M G Z H σ env T2) (hs : Sb T T2)
    (hok : ∀ rv v H1, f env = .ok rv → Same H H1 → R M G Z H1 σ env ((v, rv) :: T2) → Q1 v H1)
    (hex : ∀ c C H1, f env = .ex c → M c = some (.ref C) → Same H H1 → R M G Z H1 σ env T → W (.ref C) none σ H1) (hno : f env ≠ .no) : tE M W f σ H Q1 := by
  refine ⟨G, Z, env, T2, r, ?_⟩
  cases e : f env with
  | ok rv => exact fun v H1 s r => hok rv v H1 e s r
  | ex c => exact fun C H1 m s r => hex c C H1 e m s (r.sb hs)
  | no => exact absurd e hno
theorem tE.bind {f : DE} {k : Rv → Ans Rv} {Q1 : VK} (r : R M G Z H σ env T2) (hs : Sb T T2) (p : Post M W G Z σ env T Q H ((f env).bind k))
    (h : ∀ rv v H1, f env = .ok rv → Same H H1 → R M G Z H1 σ env ((v, rv) :: T2) → Post M W G Z σ env T Q H1 (k rv) → Q1 v H1) : tE M W f σ H Q1 := by
  refine tE.then r hs (fun rv v H1 e s r => h rv v H1 e s r ?_) (fun c C H1 e m s r => ?_) fun e => ?_
  · rw [e] at p; exact p.later s
  · rw [e] at p; exact p C H1 m s r
  · rw [e] at p; exact p
theorem tE.bindT {f : DE} {k : Rv → Ans Bool} {Q1 : VK} {Q : Bool → Hp → Prop} (r : R M G Z H σ env T2) (hs : Sb T T2) (p : PostT M W G Z σ env T Q H ((f env).bind k))
    (h : ∀ rv v H1, f env = .ok rv → Same H H1 → R M G Z H1 σ env ((v, rv) :: T2) → PostT M W G Z σ env T Q H1 (k rv) → Q1 v H1) : tE M W f σ H Q1 := by
  refine tE.then r hs (fun rv v H1 e s r => h rv v H1 e s r ?_) (fun c C H1 e m s r => ?_) fun e => ?_
  · rw [e] at p; exact p.later s
  · rw [e] at p; exact p C H1 m s r
  · rw [e] at p; exact p
theorem tE.bindA {f : DE} {k : Rv → Ans (List Rv)} {Q1 : VK} {Q : List V → Hp → Prop} (r : R M G Z H σ env T2) (hs : Sb T T2) (p : PostA M W G Z σ env T Q H ((f env).bind k))
    (h : ∀ rv v H1, f env = .ok rv → Same H H1 → R M G Z H1 σ env ((v, rv) :: T2) → PostA M W G Z σ env T Q H1 (k rv) → Q1 v H1) : tE M W f σ H Q1 := by
  refine tE.then r hs (fun rv v H1 e s r => h rv v H1 e s r ?_) (fun c C H1 e m s r => ?_) fun e => ?_
  · rw [e] at p; exact p.later s
  · rw [e] at p; exact p C H1 m s r
  · rw [e] at p; exact p
theorem tT.bind {f : DT} {k : Bool → Ans Rv} {Q1 : Bool → Hp → Prop} (r : R M G Z H σ env T2) (hs : Sb T T2) (p : Post M W G Z σ env T Q H ((f env).bind k))
    (h : ∀ b H1, f env = .ok b → Same H H1 → R M G Z H1 σ env T2 → Post M W G Z σ env T Q H1 (k b) → Q1 b H1) : tT M W f σ H Q1 := by
  refine ⟨G, Z, env, T2, r, ?_⟩
  cases e : f env with
  | ok b =>
    rw [e] at p
    exact fun H1 s r => h b H1 e s r (p.later s)
  | ex c =>
    rw [e] at p
    exact fun C H1 m s r => p C H1 m s (r.sb hs)
  | no => rw [e] at p; exact p
theorem tT.bindT {f : DT} {k : Bool → Ans Bool} {Q1 : Bool → Hp → Prop} {Q : Bool → Hp → Prop} (r : R M G Z H σ env T2) (hs : Sb T T2) (p : PostT M W G Z σ env T Q H ((f env).bind k))
    (h : ∀ b H1, f env = .ok b → Same H H1 → R M G Z H1 σ env T2 → PostT M W G Z σ env T Q H1 (k b) → Q1 b H1) : tT M W f σ H Q1 := by
  refine ⟨G, Z, env, T2, r, ?_⟩
  cases e : f env with
  | ok b =>
    rw [e] at p
    exact fun H1 s r => h b H1 e s r (p.later s)
  | ex c =>
    rw [e] at p
    exact fun C H1 m s r => p C H1 m s (r.sb hs)
  | no => rw [e] at p; exact p
theorem tA.bind {f : VEnv → Ans (List Rv)} {k : List Rv → Ans Rv} {Q1 : List V → Hp → Prop} (r : R M G Z H σ env T2) (hs : Sb T T2) (p : Post M W G Z σ env T Q H ((f env).bind k))
    (h : ∀ rs vs H1, f env = .ok rs → vs.length = rs.length → Same H H1 → R M G Z H1 σ env (vs.zip rs ++ T2) → Post M W G Z σ env T Q H1 (k rs) → Q1 vs H1) : tA M W f σ H Q1 := by
  refine ⟨G, Z, env, T2, r, ?_⟩
  cases e : f env with
  | ok rs =>
    rw [e] at p
    exact fun vs H1 hl s r => h rs vs H1 e hl s r (p.later s)
  | ex c =>
    rw [e] at p
    exact fun C H1 m s r => p C H1 m s (r.sb hs)
  | no => rw [e] at p; exact p
end
abbrev JE (X : Cx) (W : WX) (e : Expr) (f : DE) : Prop := PE X e (tE X.mg W f)
abbrev JT (X : Cx) (W : WX) (e : Expr) (f : DT) : Prop := PT X e (tT X.mg W f)
abbrev JW (X : Cx) (W : WX) (e : Expr) (f : DT) : Prop := PW X e (tT X.mg W f)
abbrev JA (X : Cx) (W : WX) (es : List Expr) (f : VEnv → Ans (List Rv)) : Prop := PA X es (tA X.mg W f)
theorem PE.imp {X : Cx} {e : Expr} {t t' : TE} (p : PE X e t) (h : ∀ σ H Q, t' σ H Q → t σ H Q) : PE X e t' := ⟨fun pins s σ H Q I q => p.run pins s σ H Q I (h σ H Q q)⟩
theorem PT.imp {X : Cx} {e : Expr} {t t' : TT} (p : PT X e t) (h : ∀ σ H Q, t' σ H Q → t σ H Q) : PT X e t' := ⟨fun pins s σ H Q I q => p.run pins s σ H Q I (h σ H Q q)⟩
theorem PW.imp {X : Cx} {e : Expr} {t t' : TT} (p : PW X e t) (h : ∀ σ H Q, t' σ H Q → t σ H Q) : PW X e t' := ⟨fun w pins s σ H Q I q => p.run w pins s σ H Q I (h σ H Q q)⟩
theorem PA.imp {X : Cx} {e : List Expr} {t t' : TA} (p : PA X e t) (h : ∀ σ H Q, t' σ H Q → t σ H Q) : PA X e t' := ⟨fun pos pins s σ H Q I q => p.run pos pins s σ H Q I (h σ H Q q)⟩
theorem PE.or {X : Cx} {e : Expr} {t t' : TE} (p : PE X e t) (p' : PE X e t') : PE X e (fun σ H Q => t σ H Q ∨ t' σ H Q) := ⟨fun pins s σ H Q I q => q.elim (p.run pins s σ H Q I) (p'.run pins s σ H Q I)⟩
theorem PT.or {X : Cx} {e : Expr} {t t' : TT} (p : PT X e t) (p' : PT X e t') : PT X e (fun σ H Q => t σ H Q ∨ t' σ H Q) := ⟨fun pins s σ H Q I q => q.elim (p.run pins s σ H Q I) (p'.run pins s σ H Q I)⟩
section
variable {M : Str → Option Value} {F H H' : Hp} {o : OV} {v : V} {x : FV} {xs : List FV} {vs : List V} {p : Addr}
theorem New.old (hf : Same F H) (d : FDen M F x v) : New M F H H (.fz x) v := ⟨F, [], Same.refl _, fun _ _ e => .inl e, hf, Same.refl _, ⟨d, rfl⟩, Good.nil⟩
theorem New.int {i : Int} (hf : Same F H) : New M F H H (.fz (.int i)) (.int i) := New.old hf rfl
theorem New.bl {i : Bool} (hf : Same F H) : New M F H H (.fz (.bl i)) (.bl i) := New.old hf rfl
theorem New.str {i : Str} (hf : Same F H) : New M F H H (.fz (.str i)) (.str i) := New.old hf rfl
theorem New.non (hf : Same F H) : New M F H H (.fz .non) .non := New.old hf rfl
theorem same_upd {H : Hp} {p : Addr} {o : HO} (h : H p = none) : Same H (upd H p o) := fun b x e => by
  rw [upd_ne (ne_of_none e h)]; exact e
theorem none_of_same (hf : Same F H) (h : H p = none) : F p = none := by
  cases q : F p with
  | none => rfl
  | some z => rw [hf _ _ q] at h; cases h
theorem New.cell {u : HO} (hf : Same F H) (h : H p = none) (ow : Own M F o v [(p, u)]) : New M F H (upd H p u) o v := by
  refine ⟨F, [(p, u)], Same.refl _, fun _ _ e => .inl e, hf.trans (same_upd h), same_upd h, ow, ⟨by simp, fun q hq => ?_, fun q hq => ?_, fun q hq => ?_⟩⟩
  · rw [List.mem_singleton] at hq; subst hq; exact upd_same
  · rw [List.mem_singleton] at hq; subst hq; exact none_of_same hf h
  · rw [List.mem_singleton] at hq; subst hq; exact h
theorem New.lst (hf : Same F H) (h : H p = none) (d : FDenL M F xs vs) : New M F H (upd H p (.lst vs)) (.ol xs) (.ref p) := New.cell hf h ⟨p, vs, rfl, d, rfl⟩
theorem New.dK {ks : List (Key × FV)} {ws : List (Key × V)} (hf : Same F H) (h : H p = none) (d : FDenK M F ks ws) : New M F H (upd H p (.dK ws)) (.oK ks) (.ref p) := New.cell hf h ⟨p, ws, rfl, d, rfl⟩
theorem New.dT {ks : List (List Key × FV)} {ws : List (List Key × V)} (hf : Same F H) (h : H p = none) (d : FDenT M F ks ws) : New M F H (upd H p (.dT ws)) (.oT ks) (.ref p) := New.cell hf h ⟨p, ws, rfl, d, rfl⟩
theorem New.ice {u : HO} (hf : Same F H) (h : H p = none) (d : FDen M (upd F p u) x v) : New M F H (upd H p u) (.fz x) v := by
  have hF := none_of_same hf h
  refine ⟨upd F p u, [], same_upd hF, fun a z e => ?_, fun a z e => ?_, same_upd h, ⟨d, rfl⟩, Good.nil⟩
  · by_cases q : a = p
    · subst q; exact .inr h
    · rw [upd_ne q] at e; exact .inl e
  · by_cases q : a = p
    · subst q; rw [upd_same] at e ⊢; exact e
    · rw [upd_ne q] at e ⊢; exact hf _ _ e
theorem New.tup (hf : Same F H) (h : H p = none) (d : FDenL M F xs vs) : New M F H (upd H p (.tup vs)) (.fz (.tup xs)) (.ref p) :=
  New.ice hf h ⟨p, vs, rfl, upd_same, d.mono (same_upd (none_of_same hf h))⟩
theorem FDenL.length : ∀ {xs : List FV} {vs : List V}, FDenL M F xs vs → vs.length = xs.length
  | [], _, e => by rw [show _ = [] from e]; rfl
  | _ :: xs, _, ⟨v, ws, e, _, r⟩ => by rw [e, List.length_cons, List.length_cons, FDenL.length r]
theorem FDenL.get : ∀ {xs : List FV} {vs : List V} {i : Nat} {x : FV}, FDenL M F xs vs → xs[i]? = some x → ∃ v, vs[i]? = some v ∧ FDen M F x v
  | [], _, _, _, _, h => by simp at h
  | _ :: _, _, 0, _, ⟨v, ws, e, d, _⟩, h => by
    rw [List.getElem?_cons_zero] at h
    cases h
    exact ⟨v, by rw [e]; rfl, d⟩
  | _ :: _, _, i + 1, _, ⟨v, ws, e, _, r⟩, h => by
    rw [List.getElem?_cons_succ] at h
    obtain ⟨w, q, d⟩ := FDenL.get r h
    exact ⟨w, by rw [e, List.getElem?_cons_succ]; exact q, d⟩
theorem FDenL.append : ∀ {xs ys : List FV} {vs ws : List V}, FDenL M F xs vs → FDenL M F ys ws → FDenL M F (xs ++ ys) (vs ++ ws)
  | [], _, _, _, e, h => by rw [show _ = [] from e]; exact h
  | _ :: _, _, _, _, ⟨v, us, e, d, r⟩, h => by
    rw [e]
    exact ⟨v, us ++ _, rfl, d, FDenL.append r h⟩
theorem FDenL.take : ∀ {xs : List FV} {vs : List V} (n : Nat), FDenL M F xs vs → FDenL M F (xs.take n) (vs.take n)
  | _, _, 0, _ => by simp [FDenL]
  | [], _, _ + 1, e => by rw [show _ = [] from e]; simp [FDenL]
  | _ :: _, _, n + 1, ⟨v, us, e, d, r⟩ => by
    rw [e]
    exact ⟨v, us.take n, rfl, d, FDenL.take n r⟩
theorem FDenL.drop : ∀ {xs : List FV} {vs : List V} (n : Nat), FDenL M F xs vs → FDenL M F (xs.drop n) (vs.drop n)
  | _, _, 0, h => h
  | [], _, _ + 1, e => by rw [show _ = [] from e]; simp [FDenL]
  | _ :: _, _, n + 1, ⟨v, us, e, d, r⟩ => by
    rw [e]
    exact FDenL.drop n r
theorem FDenL.reverse {xs : List FV} {vs : List V} (h : FDenL M F xs vs) : FDenL M F xs.reverse vs.reverse := by
  induction xs generalizing vs with
  | nil => rw [show _ = [] from h]; simp [FDenL]
  | cons x xs ih =>
    obtain ⟨v, us, e, d, r⟩ := h
    rw [e, List.reverse_cons, List.reverse_cons]
    exact (ih r).append ⟨v, [], rfl, d, rfl⟩
end
end J
namespace J
open PySem PySem.Spec PyProof.Rows L2
mutual
def FV.toD : FV → Option PyData
  | .non => some .none
  | .bl b => some (.bool b)
  | .int i => some (.int i)
  | .str x => some (.str x)
  | .tup xs => (FV.toDL xs).map .tuple
  | .tuz xs => (FV.toDL xs).map .tuple
  | .lst xs => (FV.toDL xs).map .list
  | _ => none
def FV.toDL : List FV → Option (List PyData)
  | [] => some []
  | x :: xs => match x.toD, FV.toDL xs with
    | some d, some ds => some (d :: ds)
    | _, _ => none
end
section
variable {M : Str → Option Value} {K : PySem.W.Frag} {F H H' : Hp} {x : FV} {v : V} {d : PyData}
mutual
theorem FDen.dp : ∀ {x : FV} {v : V} {d : PyData}, FDen M H x v → x.toD = some d → Dp K H v d
  | .non, _, _, h, e => by cases e; rw [show _ = V.non from h]; exact .non
  | .bl b, _, _, h, e => by cases e; rw [show _ = V.bl b from h]; exact .bl b
  | .int i, _, _, h, e => by cases e; rw [show _ = V.int i from h]; exact .int i
  | .str x, _, _, h, e => by cases e; rw [show _ = V.str x from h]; exact .str x
  | .tup xs, _, d, ⟨a, vs, ev, q, r⟩, e => by
    obtain ⟨ds, e1, e2⟩ := Option.map_eq_some_iff.mp (show (FV.toDL xs).map PyData.tuple = some d from e)
    subst e2
    rw [ev]
    exact .tup (SqT.of q) (FDenL.dp r e1)
  | .tuz xs, _, d, ⟨a, vs, o, ev, q, _, _, r⟩, e => by
    obtain ⟨ds, e1, e2⟩ := Option.map_eq_some_iff.mp (show (FV.toDL xs).map PyData.tuple = some d from e)
    subst e2
    rw [ev]
    exact .tup (.inl (.inr ⟨o, q⟩)) (FDenL.dp r e1)
  | .lst xs, _, d, ⟨a, vs, ev, q, r⟩, e => by
    obtain ⟨ds, e1, e2⟩ := Option.map_eq_some_iff.mp (show (FV.toDL xs).map PyData.list = some d from e)
    subst e2
    rw [ev]
    exact .lst (SqL.of q) (FDenL.dp r e1)
  | .dK _, _, _, _, e => nomatch e
  | .dT _, _, _, _, e => nomatch e
  | .ins _ _, _, _, _, e => nomatch e
  | .exc _, _, _, _, e => nomatch e
  | .scr _, _, _, _, e => nomatch e
  | .dN _, _, _, _, e => nomatch e
theorem FDenL.dp : ∀ {xs : List FV} {vs : List V} {ds : List PyData}, FDenL M H xs vs → FV.toDL xs = some ds → DpAll K H vs ds
  | [], _, _, h, e => by cases e; rw [show _ = [] from h]; exact .nil
  | x :: xs, _, _, ⟨v, ws, ev, d, r⟩, e => by
    unfold FV.toDL at e
    split at e
    · rename_i d1 ds1 e1 e2
      cases e
      rw [ev]
      exact .cons (FDen.dp d e1) (FDenL.dp r e2)
    · cases e
end
end
def dVar (i : Nat) : DE := fun env => match env[i]? with
  | some (some (.fz x)) => .ok (.st (.fz x))
  | some (some o) => .ok (.bo o)
  | _ => .no
def dC (x : FV) : DE := fun _ => .ok (.st (.fz x))
section
variable {X : Cx} {W : WX} {pos p : Pos} {x : Str}
theorem je_var (i : Nat) (hN : X.N[i]? = some x := by rfl) (hv : Vis X.env.scope x := by first | exact Or.inl rfl | exact Or.inr (Or.inl rfl) | exact Or.inr (Or.inr rfl)) (hd : (x == ("__debug__" : Str)) = false := by decide)
    (hcd : (x == ("__classdict__" : Str)) = false := by decide) : JE X W (.Name x pos) (dVar i) := by
  refine PE.imp (pe_var hN hv hd hcd) fun σ H Q ⟨G, Z, env, T, ⟨F, C1, C2, r⟩, p⟩ => ?_
  have hp : Post X.mg W G Z σ env T Q H (dVar i env) := p
  unfold dVar at hp
  split at hp
  · rename_i x e
    obtain ⟨v, e1, r1⟩ := r.lookF e
    exact ⟨v, e1, hp v H (Same.refl _) r1.r⟩
  · rename_i o _ e
    obtain ⟨v, e1, r1⟩ := r.look e
    exact ⟨v, e1, hp v H (Same.refl _) r1.r⟩
  · exact hp.elim
theorem je_c {e : Expr} {v : V} {y : FV} (h : PE X e (tC v)) (d : ∀ M F, FDen M F y v) : JE X W e (dC y) := by
  refine PE.imp h fun σ H Q ⟨G, Z, env, T, ⟨F, C1, C2, r⟩, p⟩ => ?_
  exact p v H (Same.refl _) (r.new (New.old r.fh (d _ _)))
theorem je_int {i : Int} {j} : JE X W (.Constant (.int i) j pos) (dC (.int i)) := je_c pe_int fun _ _ => rfl
theorem je_bl {i : Bool} {j} : JE X W (.Constant (.bool i) j pos) (dC (.bl i)) := je_c pe_bl fun _ _ => rfl
theorem je_str {i : Str} {j} : JE X W (.Constant (.str i) j pos) (dC (.str i)) := je_c pe_str fun _ _ => rfl
theorem je_non {j} : JE X W (.Constant .none j pos) (dC .non) := je_c pe_non fun _ _ => rfl
theorem je_gint {i : Int} {t : Tok} (hm : X.mg x = some (.int i t)) (hg : Gl X x := by rfl) (hd : (x == ("__debug__" : Str)) = false := by decide) : JE X W (.Name x pos) (dC (.int i)) := je_c (pe_glob hg hm (v := .int i) ⟨t, rfl⟩ hd) fun _ _ => rfl
theorem je_gstr {i : Str} {t : Tok} (hm : X.mg x = some (.str i t)) (hg : Gl X x := by rfl) (hd : (x == ("__debug__" : Str)) = false := by decide) : JE X W (.Name x pos) (dC (.str i)) := je_c (pe_glob hg hm (v := .str i) ⟨t, rfl⟩ hd) fun _ _ => rfl
end
def Ans.of {α : Type} : Option α → Ans α
  | some a => .ok a
  | none => .no
def dBin (op : OV → OV → Option OV) (f g : DE) : DE := fun env => (f env).bind fun x => (g env).bind fun y => (Ans.of (op x.ov y.ov)).map .st
def dUn (op : OV → Option OV) (f : DE) : DE := fun env => (f env).bind fun x => (Ans.of (op x.ov)).map .st
def rJ (M : Str → Option Value) (op : OV → OV → Option OV) : R2 := fun u w H Q => ∃ F x y o, Same F H ∧ Bor M F H x u ∧ Bor M F H y w ∧ op x y = some o ∧ ∀ v H', New M F H H' o v → Q v H'
abbrev OJ (X : Cx) (f : Value → Value → Sem Value) (op : OV → OV → Option OV) : Prop := OpR X f (rJ X.mg op)
section
variable {M : Str → Option Value} {G Z H F : Hp} {σ : Sl} {env : VEnv} {T T2 : List (V × Rv)} {W : WX} {Q : VK} {C1 C2 : Cells}
theorem RF.fin (r : RF M G Z H F σ env T2 C1 C2) (hs : Sb T T2) {oo : Option OV} (p : Post M W G Z σ env T Q H ((Ans.of oo).map .st)) : ∃ o, oo = some o ∧ ∀ v H', New M F H H' o v → Q v H' := by
  cases oo with
  | none => exact p.elim
  | some o => exact ⟨o, rfl, fun v H' n => p v H' (let ⟨_, _, n⟩ := n; n.hh) ((r.new n).sb hs.both)⟩
theorem RF.rj {op : OV → OV → Option OV} {u w : V} {x y : Rv} (r : RF M G Z H F σ env ((w, y) :: (u, x) :: T2) C1 C2) (hs : Sb T T2) (p : Post M W G Z σ env T Q H ((Ans.of (op x.ov y.ov)).map .st)) : rJ M op u w H Q := by
  obtain ⟨o, e, k⟩ := r.fin (hs.cons.cons) p
  exact ⟨F, x.ov, y.ov, o, r.fh, r.bor (List.mem_cons_of_mem _ List.mem_cons_self), r.bor List.mem_cons_self, e, k⟩
end
section
variable {X : Cx} {W : WX} {pos : Pos} {a b : Expr} {f g : DE}
theorem bin_red {op : OV → OV → Option OV} {σ : Sl} {H : Hp} {Q : VK} (h : tE X.mg W (dBin op f g) σ H Q) : tE X.mg W f σ H fun u H1 => tE X.mg W g σ H1 fun w H2 => rJ X.mg op u w H2 Q := by
  obtain ⟨G, Z, env, T, r, p⟩ := h
  refine tE.bind r Sb.refl p fun x u H1 _ s1 r1 p1 => ?_
  refine tE.bind r1 Sb.refl.cons p1 fun y w H2 _ s2 r2 p2 => ?_
  obtain ⟨F, C1, C2, r2⟩ := r2
  exact r2.rj Sb.refl p2
theorem je_bin {op : Operator} {opd : OV → OV → Option OV} (ho : OJ X (binaryOp op) opd) (ha : JE X W a f) (hb : JE X W b g) : JE X W (.BinOp a op b pos) (dBin opd f g) :=
  PE.imp (pe_op ho ha hb) fun σ H Q h => bin_red h
theorem je_cmp {op : CmpOp} {opd : OV → OV → Option OV} (ho : OJ X (compareOp op) opd) (ha : JE X W a f) (hb : JE X W b g) (hm : behindInMarks op b = false := by first | exact nomark _ | rfl) : JE X W (.Compare a [op] [b] pos) (dBin opd f g) :=
  PE.imp (pe_cmpR ho ha hb hm) fun σ H Q h => bin_red h
end
abbrev BIG : Nat := 16777216
theorem big_eq : sizeLine = BIG := by rw [sizeLine_eq]
def OV.lst? : OV → Option (List FV)
  | .ol xs => some xs
  | .fz (.lst xs) => some xs
  | _ => none
def FV.tup? : FV → Option (List FV)
  | .tup xs => some xs
  | .tuz xs => some xs
  | _ => none
def opAdd : OV → OV → Option OV
  | .fz (.int i), .fz (.int j) => some (.fz (.int (i + j)))
  | .fz (.str x), .fz (.str y) => if x.length + y.length ≤ BIG then some (.fz (.str (x ++ y))) else none
  | .fz (.tup x), .fz (.tup y) => if x.length + y.length ≤ BIG then some (.fz (.tup (x ++ y))) else none
  | x, y => match x.lst?, y.lst? with
    | some a, some b => if a.length + b.length ≤ BIG then some (.ol (a ++ b)) else none
    | _, _ => none
def mulOk (i j : Int) : Bool := decide (i.natAbs < 2 ^ 62) || decide (j.natAbs < 2 ^ 62) || decide (i.natAbs.log2 + j.natAbs.log2 < 1000000)
def opMul : OV → OV → Option OV
  | .fz (.int i), .fz (.int j) => if mulOk i j then some (.fz (.int (i * j))) else none
  | _, _ => none
def opMod : OV → OV → Option OV
  | .fz (.int i), .fz (.int j) => if 0 < j then some (.fz (.int (i % j))) else none
  | _, _ => none
def opShr : OV → OV → Option OV
  | .fz (.int i), .fz (.int j) => if 0 ≤ j then some (.fz (.int (i / 2 ^ j.toNat))) else none
  | _, _ => none
def opCmp (p : Int → Int → Bool) : OV → OV → Option OV
  | .fz (.int i), .fz (.int j) => some (.fz (.bl (p i j)))
  | _, _ => none
abbrev opLt := opCmp fun i j => decide (i < j)
abbrev opLe := opCmp fun i j => decide (i ≤ j)
abbrev opGt := opCmp fun i j => decide (j < i)
def FV.atom : FV → Bool
  | .non => true
  | .bl _ => true
  | .int _ => true
  | .str _ => true
  | _ => false
def FV.eqD (x y : FV) : Option Bool :=
  match x.toD, y.toD with
    | some d, some e => if SeqAt.shaped d && SeqAt.shaped e then some (PyData.eqv d e) else none
    | _, _ => none
def opEq (x y : OV) : Option OV := match x, y with
  | .fz (.int i), .fz (.int j) => some (.fz (.bl (decide (i = j))))
  | .fz (.str i), .fz (.str j) => some (.fz (.bl (decide (i = j))))
  | _, _ => (x.fv.eqD y.fv).map fun b => .fz (.bl b)
def opNe (x y : OV) : Option OV := match x, y with
  | .fz (.int i), .fz (.int j) => some (.fz (.bl (!decide (i = j))))
  | .fz (.str i), .fz (.str j) => some (.fz (.bl (!decide (i = j))))
  | _, _ => (x.fv.eqD y.fv).map fun b => .fz (.bl !b)
section
variable {M : Str → Option Value} {F H : Hp} {x y : OV} {u w : V}
theorem Bor.int {i : Int} (b : Bor M F H (.fz (.int i)) u) : u = .int i := let ⟨_, d, _⟩ := b; d.1
theorem Bor.bl {i : Bool} (b : Bor M F H (.fz (.bl i)) u) : u = .bl i := let ⟨_, d, _⟩ := b; d.1
theorem Bor.str {i : Str} (b : Bor M F H (.fz (.str i)) u) : u = .str i := let ⟨_, d, _⟩ := b; d.1
theorem Bor.fz {i : FV} (b : Bor M F H (.fz i) u) : FDen M F i u := let ⟨_, d, _⟩ := b; d.1
theorem Bor.lst {xs : List FV} (hf : Same F H) (b : Bor M F H x u) (e : x.lst? = some xs) : ∃ a vs, u = .ref a ∧ H a = some (.lst vs) ∧ FDenL M F xs vs := by
  unfold OV.lst? at e
  split at e
  · cases e
    obtain ⟨A, ⟨a, vs, e, d, q⟩, c⟩ := b
    subst q
    exact ⟨a, vs, e, c _ List.mem_cons_self, d⟩
  · cases e
    obtain ⟨a, vs, e, q, d⟩ := b.fz
    exact ⟨a, vs, e, hf _ _ q, d⟩
  · cases e
theorem FDen.tupT {K : PySem.W.Frag} {xs : List FV} {z : FV} (d : FDen M F z u) (e : z.tup? = some xs) : ∃ a vs, u = .ref a ∧ SqT K F a vs ∧ FDenL M F xs vs := by
  unfold FV.tup? at e
  split at e
  · cases e
    obtain ⟨a, vs, e, q, d⟩ := d
    exact ⟨a, vs, e, SqT.of q, d⟩
  · cases e
    obtain ⟨a, vs, o, e, q, _, _, d⟩ := d
    exact ⟨a, vs, e, .inl (.inr ⟨o, q⟩), d⟩
  · cases e
end
theorem SqT.sameS {K : PySem.W.Frag} {F H : Hp} {a : Addr} {xs : List V} (h : Same F H) (q : SqT K F a xs) : SqT K H a xs := by
  rcases q with (q | ⟨o, q⟩) | q
  · exact .inl (.inl (h _ _ q))
  · exact .inl (.inr ⟨o, h _ _ q⟩)
  · exact .inr q
section
variable {X : Cx}
theorem oj_of {f : Value → Value → Sem Value} {op : OV → OV → Option OV} {r : R2} (ho : OpR X f r) (h : ∀ F H x y u w o Q, Same F H → Bor X.mg F H x u → Bor X.mg F H y w → op x y = some o → (∀ v H', New X.mg F H H' o v → Q v H') → r u w H Q) : OJ X f op :=
  fun pins s σ H u w v1 v2 Q I r1 r2 ⟨F, x, y, o, hf, bx, by', e, k⟩ => ho pins s σ H u w v1 v2 Q I r1 r2 (h F H x y u w o Q hf bx by' e k)
theorem oj_add : OJ X (binaryOp .Add) opAdd := by
  refine oj_of ((op_add.or op_add_str).or (op_catA.or op_cat)) fun F H x y u w o Q hf bx by' e k => ?_
  unfold opAdd at e
  split at e
  · cases e
    exact .inl (.inl ⟨_, _, bx.int, by'.int, k _ _ (New.int hf)⟩)
  · split at e
    · cases e
      exact .inl (.inr ⟨_, _, bx.str, by'.str, by rw [big_eq]; assumption, k _ _ (New.str hf)⟩)
    · cases e
  · split at e
    · rename_i xs ys hz
      cases e
      obtain ⟨a, vs, rfl, q, d⟩ := FDen.tupT (K := X.K) bx.fz (xs := _) rfl
      obtain ⟨b, ws, rfl, q2, d2⟩ := FDen.tupT (K := X.K) by'.fz (xs := _) rfl
      refine .inr (.inl ⟨a, b, vs, ws, rfl, rfl, SqT.sameS hf q, SqT.sameS hf q2, by rw [d.length, d2.length, big_eq]; exact hz, fun e => ?_, fun _ e => ?_, fun _ _ p hp => ?_⟩)
      · subst e
        have ex := d.length
        obtain rfl : xs = [] := List.eq_nil_of_length_eq_zero (by simpa using ex.symm)
        exact k _ _ (New.old hf by'.fz)
      · subst e
        have ex := d2.length
        obtain rfl : ys = [] := List.eq_nil_of_length_eq_zero (by simpa using ex.symm)
        rw [List.append_nil] at k
        exact k _ _ (New.old hf bx.fz)
      · exact k _ _ (New.tup hf hp (d.append d2))
    · cases e
  · split at e
    · rename_i a b e1 e2
      split at e
      · rename_i hz
        cases e
        obtain ⟨p, vs, rfl, q, d⟩ := bx.lst hf e1
        obtain ⟨p2, ws, rfl, q2, d2⟩ := by'.lst hf e2
        exact .inr (.inr ⟨p, p2, vs, ws, rfl, rfl, q, q2, by rw [d.length, d2.length, big_eq]; exact hz, fun p hp => k _ _ (New.lst hf hp (d.append d2))⟩)
      · cases e
    · cases e
theorem mul_le {i : Int} (h : i.natAbs < 2 ^ 62) : -(2 ^ 64) < i ∧ i < 2 ^ 64 := by omega
theorem oj_mul : OJ X (binaryOp .Mult) opMul := by
  refine oj_of (op_mul.or op_mulW) fun F H x y u w o Q hf bx by' e k => ?_
  unfold opMul at e
  split at e
  · split at e
    · rename_i i j hm
      cases e
      unfold mulOk at hm
      rw [Bool.or_eq_true, Bool.or_eq_true] at hm
      rcases hm with (hm | hm) | hm
      · exact .inl ⟨_, _, bx.int, by'.int, .inl (mul_le (of_decide_eq_true hm)), k _ _ (New.int hf)⟩
      · exact .inl ⟨_, _, bx.int, by'.int, .inr (mul_le (of_decide_eq_true hm)), k _ _ (New.int hf)⟩
      · exact .inr ⟨_, _, bx.int, by'.int, show _ from (of_decide_eq_true hm : i.natAbs.log2 + j.natAbs.log2 < 1000000), k _ _ (New.int hf)⟩
    · cases e
  · cases e
theorem oj_mod : OJ X (binaryOp .Mod) opMod := by
  refine oj_of op_mod fun F H x y u w o Q hf bx by' e k => ?_
  unfold opMod at e
  split at e
  · split at e
    · rename_i i j hm
      cases e
      exact ⟨_, _, bx.int, by'.int, hm, k _ _ (New.int hf)⟩
    · cases e
  · cases e
theorem oj_shr : OJ X (binaryOp .RShift) opShr := by
  refine oj_of op_shr fun F H x y u w o Q hf bx by' e k => ?_
  unfold opShr at e
  split at e
  · split at e
    · rename_i i j hm
      cases e
      exact ⟨_, _, bx.int, by'.int, hm, k _ _ (New.int hf)⟩
    · cases e
  · cases e
theorem oj_cmp {op : CmpOp} {p : Int → Int → Bool} (ho : OpR X (compareOp op) (rI0 fun i j => .bl (p i j))) : OJ X (compareOp op) (opCmp p) := by
  refine oj_of ho fun F H x y u w o Q hf bx by' e k => ?_
  unfold opCmp at e
  split at e
  · cases e
    exact ⟨_, _, bx.int, by'.int, k _ _ (New.bl hf)⟩
  · cases e
theorem oj_lt : OJ X (compareOp .Lt) opLt := oj_cmp op_lt
theorem oj_le : OJ X (compareOp .LtE) opLe := oj_cmp op_le
theorem oj_gt : OJ X (compareOp .Gt) opGt := oj_cmp op_gt
theorem eqD_of {M : Str → Option Value} {K : PySem.W.Frag} {F H : Hp} {x y : OV} {u w : V} {b : Bool} (hf : Same F H) (bx : Bor M F H x u) (by' : Bor M F H y w) (e : x.fv.eqD y.fv = some b) :
    ∃ d e, Dp K H u d ∧ Dp K H w e ∧ SeqAt.shaped d = true ∧ SeqAt.shaped e = true ∧ b = PyData.eqv d e := by
  unfold FV.eqD at e
  split at e
  · rename_i d1 d2 e1 e2
    split at e
    · rename_i hs
      cases e
      rw [Bool.and_eq_true] at hs
      exact ⟨d1, d2, (bx.fden hf).dp e1, (by'.fden hf).dp e2, hs.1, hs.2, rfl⟩
    · cases e
  · cases e
theorem oj_eq (hu : X.A.units + 64 < cLine) : OJ X (compareOp .Eq) opEq := by
  refine oj_of (op_eq.or (op_eqD hu)) fun F H x y u w o Q hf bx by' e k => ?_
  unfold opEq at e
  split at e
  · cases e
    rename_i i j
    exact .inl ⟨by rw [bx.int, by'.int]; rfl, by rw [bx.int, by'.int, dec_int, Bool.beq_eq_decide_eq]; exact k _ _ (New.bl hf)⟩
  · cases e
    rename_i i j
    exact .inl ⟨by rw [bx.str, by'.str]; rfl, by rw [bx.str, by'.str, dec_str, Bool.beq_eq_decide_eq]; exact k _ _ (New.bl hf)⟩
  · obtain ⟨b, e1, e2⟩ := Option.map_eq_some_iff.mp e
    subst e2
    obtain ⟨d, d', h1, h2, h3, h4, rfl⟩ := eqD_of (K := X.K) hf bx by' e1
    exact .inr ⟨d, d', h1, h2, h3, h4, k _ _ (New.bl hf)⟩
theorem oj_ne (hu : X.A.units + 64 < cLine) : OJ X (compareOp .NotEq) opNe := by
  refine oj_of (op_ne.or (op_neD hu)) fun F H x y u w o Q hf bx by' e k => ?_
  unfold opNe at e
  split at e
  · cases e
    rename_i i j
    exact .inl ⟨by rw [bx.int, by'.int]; rfl, by rw [bx.int, by'.int, dec_int, Bool.beq_eq_decide_eq]; exact k _ _ (New.bl hf)⟩
  · cases e
    rename_i i j
    exact .inl ⟨by rw [bx.str, by'.str]; rfl, by rw [bx.str, by'.str, dec_str, Bool.beq_eq_decide_eq]; exact k _ _ (New.bl hf)⟩
  · obtain ⟨b, e1, e2⟩ := Option.map_eq_some_iff.mp e
    subst e2
    obtain ⟨d, d', h1, h2, h3, h4, rfl⟩ := eqD_of (K := X.K) hf bx by' e1
    exact .inr ⟨d, d', h1, h2, h3, h4, k _ _ (New.bl hf)⟩
end
end J
namespace J
open PySem PySem.Spec PyProof.Rows L2
theorem Ans.bind_assoc {α β γ : Type} (x : Ans α) (f : α → Ans β) (g : β → Ans γ) : (x.bind f).bind g = x.bind fun a => (f a).bind g := by cases x <;> rfl
def Rv.bool (r : Rv) : Ans Bool := match r.ov with
  | .fz (.bl b) => .ok b
  | _ => .no
theorem Rv.bool_or (r : Rv) : (∃ b, r.ov = .fz (.bl b) ∧ r.bool = .ok b) ∨ r.bool = .no := by
  unfold Rv.bool
  split
  · rename_i b e
    exact .inl ⟨b, e, rfl⟩
  · exact .inr rfl
def dTest (f : DE) : DT := fun env => (f env).bind Rv.bool
def dNotT (f : DT) : DT := fun env => (f env).bind fun b => .ok !b
def dAndT (f g : DT) : DT := fun env => (f env).bind fun b => if b then g env else .ok false
def dOrT (f g : DT) : DT := fun env => (f env).bind fun b => if b then .ok true else g env
section
variable {M : Str → Option Value} {G Z H F : Hp} {σ : Sl} {env : VEnv} {T T2 : List (V × Rv)} {C1 C2 : Cells} {u : V} {x : Rv}
theorem RF.boolT {W : WX} {Q : Bool → Hp → Prop} {k : Bool → Ans Bool} (r : RF M G Z H F σ env T2 C1 C2) (h : (u, x) ∈ T2) (p : PostT M W G Z σ env T Q H (x.bool.bind k)) : ∃ b, u = .bl b ∧ PostT M W G Z σ env T Q H (k b) := by
  rcases x.bool_or with ⟨b, e, e2⟩ | e
  · have hb := r.bor h
    rw [show (u, x).2.ov = x.ov from rfl, e] at hb
    rw [e2] at p
    exact ⟨b, hb.bl, p⟩
  · rw [e] at p; exact p.elim
theorem RF.bool {W : WX} {Q : VK} {k : Bool → Ans Rv} (r : RF M G Z H F σ env T2 C1 C2) (h : (u, x) ∈ T2) (p : Post M W G Z σ env T Q H (x.bool.bind k)) : ∃ b, u = .bl b ∧ Post M W G Z σ env T Q H (k b) := by
  rcases x.bool_or with ⟨b, e, e2⟩ | e
  · have hb := r.bor h
    rw [show (u, x).2.ov = x.ov from rfl, e] at hb
    rw [e2] at p
    exact ⟨b, hb.bl, p⟩
  · rw [e] at p; exact p.elim
end
section
variable {X : Cx} {W : WX} {pos : Pos} {a b e : Expr} {rest : List Expr} {f g : DE} {ft gt : DT}
theorem Ans.bind_ok {α : Type} (x : Ans α) : x.bind .ok = x := by cases x <;> rfl
theorem tB_red {Q : Bool → Hp → Prop} {σ : Sl} {H : Hp} (h : tT X.mg W (dTest f) σ H Q) : tE X.mg W f σ H fun x H1 => ∃ c, x = .bl c ∧ Q c H1 := by
  obtain ⟨G, Z, env, T, r, p⟩ := h
  refine tE.bindT r Sb.refl p fun x u H1 _ s1 ⟨F, C1, C2, r1⟩ p1 => ?_
  rw [← Ans.bind_ok x.bool] at p1
  obtain ⟨b, e, p1⟩ := r1.boolT List.mem_cons_self p1
  exact ⟨b, e, p1 H1 (Same.refl _) r1.r.pop⟩
theorem jt_val (h : JE X W e f) (he : ∀ whole, isTrue e X.env whole = (do let v ← whole; standAt e.pos; holding [v] (truthy v)) := by intro _; rfl) : JT X W e (dTest f) :=
  PT.imp (pt_val h he) fun σ H Q h => tB_red h
theorem jt_cmp {op : CmpOp} {opd : OV → OV → Option OV} (ho : OJ X (compareOp op) opd) (ha : JE X W a f) (hb : JE X W b g) (hm : behindInMarks op b = false := by first | exact nomark _ | rfl) : JT X W (.Compare a [op] [b] pos) (dTest (dBin opd f g)) := by
  refine PT.imp (pt_cmpR ho ha hb hm) fun σ H Q ⟨G, Z, env, T, r, p⟩ => ?_
  show tE X.mg W f σ H fun u H1 => tE X.mg W g σ H1 fun w H2 => rJ X.mg opd u w H2 fun x H' => ∃ k, x = .bl k ∧ Q k H'
  have p' : PostT X.mg W G Z σ env T Q H ((f env).bind fun x => (g env).bind fun y => ((Ans.of (opd x.ov y.ov)).map .st).bind Rv.bool) := by
    have p2 := p
    unfold dTest dBin at p2
    rw [Ans.bind_assoc] at p2
    simp only [Ans.bind_assoc] at p2
    exact p2
  refine tE.bindT r Sb.refl p' fun x u H1 _ s1 r1 p1 => ?_
  refine tE.bindT r1 Sb.refl.cons p1 fun y w H2 _ s2 ⟨F, C1, C2, r2⟩ p2 => ?_
  cases e : opd x.ov y.ov with
  | none => rw [e] at p2; exact p2.elim
  | some o =>
    rw [e] at p2
    refine ⟨F, x.ov, y.ov, o, r2.fh, r2.bor (List.mem_cons_of_mem _ List.mem_cons_self), r2.bor List.mem_cons_self, e, fun v H' n => ?_⟩
    obtain ⟨F3, C3, C4, r3⟩ := r2.new n
    have p3 : PostT X.mg W G Z σ env T Q H2 (Rv.bool (.st o)) := p2
    rw [← Ans.bind_ok (Rv.bool _)] at p3
    obtain ⟨b, e, p3⟩ := r3.boolT List.mem_cons_self (p3.later (let ⟨_, _, n⟩ := n; n.hh))
    exact ⟨b, e, p3 H' (Same.refl _) (r3.r.sb (Sb.refl.cons.cons.cons))⟩
theorem jt_not (h : JT X W a ft) : JT X W (.UnaryOp .Not a pos) (dNotT ft) := by
  refine PT.imp (pt_not h) fun σ H Q ⟨G, Z, env, T, r, p⟩ => ⟨G, Z, env, T, r, ?_⟩
  unfold dNotT at p
  cases e : ft env with
  | ok b => rw [e] at p; exact p
  | ex c => rw [e] at p; exact p
  | no => rw [e] at p; exact p
theorem jw_and1 (h : JT X W a ft) : JW X W (.BoolOp .And [a] pos) ft := pw_and1 h
theorem jw_or1 (h : JT X W a ft) : JW X W (.BoolOp .Or [a] pos) ft := pw_or1 h
theorem jw_and (ha : JT X W a ft) (hb : JW X W (.BoolOp .And (b :: rest) pos) gt) : JW X W (.BoolOp .And (a :: b :: rest) pos) (dAndT ft gt) := by
  refine PW.imp (pw_and ha hb) fun σ H Q ⟨G, Z, env, T, r, p⟩ => ?_
  refine tT.bindT r Sb.refl p fun c H1 _ s1 r1 p1 => ?_
  cases c with
  | true =>
    rw [if_pos rfl] at p1 ⊢
    exact ⟨G, Z, env, T, r1, p1⟩
  | false =>
    rw [if_neg Bool.false_ne_true] at p1 ⊢
    exact p1 H1 (Same.refl _) r1
theorem jw_or (ha : JT X W a ft) (hb : JW X W (.BoolOp .Or (b :: rest) pos) gt) : JW X W (.BoolOp .Or (a :: b :: rest) pos) (dOrT ft gt) := by
  refine PW.imp (pw_or ha hb) fun σ H Q ⟨G, Z, env, T, r, p⟩ => ?_
  refine tT.bindT r Sb.refl p fun c H1 _ s1 r1 p1 => ?_
  cases c with
  | true =>
    rw [if_pos rfl] at p1 ⊢
    exact p1 H1 (Same.refl _) r1
  | false =>
    rw [if_neg Bool.false_ne_true] at p1 ⊢
    exact ⟨G, Z, env, T, r1, p1⟩
theorem jt_w (h : JW X W a ft) : JT X W a ft := PW.pt h
theorem b_red {σ : Sl} {H : Hp} {Q : VK} {G Z : Hp} {env : VEnv} {T : List (V × Rv)} {b : Bool} (r : R X.mg G Z H σ env T) (p : Post X.mg W G Z σ env T Q H (.ok (.st (.fz (.bl b))))) : Q (.bl b) H :=
  let ⟨F, C1, C2, r⟩ := r
  p _ H (Same.refl _) (r.new (New.bl r.fh))
theorem test_bind {σ : Sl} {H : Hp} {Q : VK} {G Z : Hp} {env : VEnv} {T : List (V × Rv)} {k : Bool → Ans Rv} {Q1 : Bool → Hp → Prop} (r : R X.mg G Z H σ env T) (p : Post X.mg W G Z σ env T Q H ((dTest f env).bind k))
    (h : ∀ b H1, Same H H1 → R X.mg G Z H1 σ env T → Post X.mg W G Z σ env T Q H1 (k b) → Q1 b H1) : tE X.mg W f σ H fun x H1 => ∃ c, x = .bl c ∧ Q1 c H1 := by
  unfold dTest at p
  rw [Ans.bind_assoc] at p
  refine tE.bind r Sb.refl p fun x u H1 _ s1 ⟨F, C1, C2, r1⟩ p1 => ?_
  obtain ⟨b, e, p1⟩ := r1.bool List.mem_cons_self p1
  exact ⟨b, e, h b H1 s1 r1.r.pop p1⟩
def dAndV (f g : DE) : DE := fun env => (dTest f env).bind fun b => if b then g env else .ok (.st (.fz (.bl false)))
theorem je_one {op} (h : JE X W a f) : JE X W (.BoolOp op [a] pos) f := pe_one h
theorem je_and (ha : JE X W a f) (hb : JE X W (.BoolOp .And (b :: rest) pos) g) : JE X W (.BoolOp .And (a :: b :: rest) pos) (dAndV f g) := by
  refine PE.imp (pe_and ha hb) fun σ H Q ⟨G, Z, env, T, r, p⟩ => test_bind r p fun c H1 s1 r1 p1 => ?_
  cases c with
  | true =>
    rw [if_pos rfl] at p1 ⊢
    exact ⟨G, Z, env, T, r1, p1⟩
  | false =>
    rw [if_neg Bool.false_ne_true] at p1 ⊢
    exact b_red r1 p1
end
def FV.isNon : FV → Bool
  | .non => true
  | _ => false
def opIsN (x : OV) : Option OV := some (.fz (.bl x.fv.isNon))
def opNotN (x : OV) : Option OV := some (.fz (.bl !x.fv.isNon))
theorem FDen.isNon {M : Str → Option Value} {F : Hp} {x : FV} {v : V} (d : FDen M F x v) : decide (v = .non) = x.isNon := by
  cases x with
  | non => rw [show v = .non from d]; rfl
  | bl b => rw [show v = .bl b from d]; rfl
  | int b => rw [show v = .int b from d]; rfl
  | str b => rw [show v = .str b from d]; rfl
  | tup b => obtain ⟨a, vs, e, _⟩ := d; rw [e]; rfl
  | tuz b => obtain ⟨a, vs, o, e, _⟩ := d; rw [e]; rfl
  | lst b => obtain ⟨a, vs, e, _⟩ := d; rw [e]; rfl
  | dK b => obtain ⟨a, vs, e, _⟩ := d; rw [e]; rfl
  | dT b => obtain ⟨a, vs, e, _⟩ := d; rw [e]; rfl
  | ins c b => obtain ⟨a, C, dx, vs, e, _⟩ := d; rw [e]; rfl
  | exc b => obtain ⟨a, C, e, _⟩ := d; rw [e]; rfl
  | scr b => obtain ⟨a, e, _⟩ := d; rw [e]; rfl
  | dN b => obtain ⟨a, kb, e, _⟩ := d; rw [e]; rfl
section
variable {X : Cx} {W : WX} {pos pos' : Pos} {a b c : Expr} {f g h : DE}
theorem tt_red {opd : OV → Option OV} {p : Bool → Bool} (hp : ∀ x, opd x = some (.fz (.bl (p x.fv.isNon)))) {σ : Sl} {H : Hp} {Q : Bool → Hp → Prop} (h : tT X.mg W (dTest (dUn opd f)) σ H Q) : tE X.mg W f σ H fun x H1 => ∃ c, V.bl (p (decide (x = .non))) = .bl c ∧ Q c H1 := by
  obtain ⟨G, Z, env, T, r, q⟩ := h
  have q' : PostT X.mg W G Z σ env T Q H ((f env).bind fun x => .ok (p x.ov.fv.isNon)) := by
    have q2 := q
    unfold dTest dUn at q2
    simp only [Ans.bind_assoc, hp] at q2
    exact q2
  refine tE.bindT r Sb.refl q' fun x u H1 _ s1 r1 p1 => ?_
  obtain ⟨F, C1, C2, r1⟩ := r1
  have hb := r1.bor List.mem_cons_self
  have e : decide (u = .non) = x.ov.fv.isNon := (hb.fden r1.fh).isNon
  refine ⟨_, rfl, ?_⟩
  rw [e]
  exact p1 H1 (Same.refl _) r1.r.pop
theorem jt_isN {j} (ha : JE X W a f) : JT X W (.Compare a [.Is] [.Constant .none j pos'] pos) (dTest (dUn opIsN f)) :=
  PT.imp (pt_cmp (pc_isN ha)) fun σ H Q h => tt_red (p := fun b => b) (fun _ => rfl) h
theorem jt_notN {j} (ha : JE X W a f) : JT X W (.Compare a [.IsNot] [.Constant .none j pos'] pos) (dTest (dUn opNotN f)) :=
  PT.imp (pt_cmp (pc_notN ha)) fun σ H Q h => tt_red (p := fun b => !b) (fun _ => rfl) h
end
def dNil : VEnv → Ans (List Rv) := fun _ => .ok []
def dCons (f : DE) (g : VEnv → Ans (List Rv)) : VEnv → Ans (List Rv) := fun env => (f env).bind fun r => (g env).bind fun rs => .ok (r :: rs)
section
variable {X : Cx} {W : WX} {pos : Pos} {e : Expr} {es : List Expr} {f : DE} {g : VEnv → Ans (List Rv)}
theorem ja_nil : JA X W [] dNil := PA.imp pa_nil fun σ H Q ⟨G, Z, env, T, r, p⟩ => p [] H rfl (Same.refl _) r
theorem ja_cons (he : JE X W e f) (hr : JA X W es g) (hs : starEach (e :: es) X.env = (false, eval e X.env) :: starEach es X.env := by rfl) : JA X W (e :: es) (dCons f g) := by
  refine PA.imp (pa_cons he hr hs) fun σ H Q ⟨G, Z, env, T, r, p⟩ => ?_
  refine tE.bindA r Sb.refl p fun x u H1 _ s1 r1 p1 => ?_
  refine ⟨G, Z, env, (u, x) :: T, r1, ?_⟩
  cases e2 : g env with
  | ok rs =>
    rw [e2] at p1
    intro vs H2 hl s2 r2
    refine p1 (u :: vs) H2 (by simp [hl]) s2 (r2.perm ?_)
    rw [List.zip_cons_cons]
    exact List.perm_middle
  | ex c =>
    rw [e2] at p1
    exact fun C H2 m s2 r2 => p1 C H2 m s2 r2.pop
  | no => rw [e2] at p1; exact p1
end
def Rv.fz? : Rv → Option FV
  | .st (.fz x) => some x
  | _ => none
def Rv.st? : Rv → Option OV
  | .st o => some o
  | _ => none
def allFz : List Rv → Option (List FV)
  | [] => some []
  | r :: rs => match r.fz?, allFz rs with
    | some x, some xs => some (x :: xs)
    | _, _ => none
def dList (g : VEnv → Ans (List Rv)) : DE := fun env => (g env).bind fun rs => if rs.length ≤ 1000 then (match allFz rs with | some xs => .ok (.st (.ol xs)) | none => .no) else .no
def dTup (g : VEnv → Ans (List Rv)) : DE := fun env => (g env).bind fun rs => if rs.length ≤ 1000 then (match allFz rs with | some xs => .ok (.st (.fz (.tup xs))) | none => .no) else .no
theorem le1000 {n : Nat} (h : n ≤ 1000) : n ≤ sizeLine := Nat.le_trans h (by rw [sizeLine_eq]; decide)
section
variable {M : Str → Option Value} {G Z H F : Hp} {σ : Sl} {env : VEnv} {T T2 : List (V × Rv)} {C1 C2 : Cells}
theorem fz_den : ∀ {rs : List Rv} {vs : List V} {xs : List FV}, vs.length = rs.length → allFz rs = some xs → (∀ p ∈ vs.zip rs, Bor M F H p.2.ov p.1) → FDenL M F xs vs
  | [], vs, xs, hl, e, _ => by
    cases e
    exact List.eq_nil_of_length_eq_zero hl
  | r :: rs, [], xs, hl, e, _ => by simp at hl
  | r :: rs, v :: vs, xs, hl, e, hb => by
    unfold allFz at e
    split at e
    · rename_i x ys e1 e2
      cases e
      have hr : r = .st (.fz x) := by
        unfold Rv.fz? at e1
        split at e1
        · cases e1; rfl
        · cases e1
      subst hr
      exact ⟨v, vs, rfl, (hb (v, .st (.fz x)) (by simp)).fz, fz_den (by simpa using hl) e2 fun p hp => hb p (by rw [List.zip_cons_cons]; exact List.mem_cons_of_mem _ hp)⟩
    · cases e
end
section
variable {X : Cx} {W : WX} {pos : Pos} {es : List Expr} {g : VEnv → Ans (List Rv)}
theorem je_list (h : JA X W es g) : JE X W (.List es pos) (dList g) := by
  refine PE.imp (pe_lst h) fun σ H Q ⟨G, Z, env, T, r, p⟩ => ?_
  refine tA.bind r Sb.refl p fun rs vs H1 _ hl s1 ⟨F, C1, C2, r1⟩ p1 => ?_
  split at p1
  · rename_i hz
    split at p1
    · rename_i xs e
      refine ⟨by rw [hl]; exact le1000 hz, fun q hq => p1 _ _ (same_upd hq) ?_⟩
      exact (r1.new (New.lst r1.fh hq (fz_den hl e fun p hp => r1.bor (List.mem_append_left _ hp)))).sb (Sb.both ⟨vs.zip rs, List.perm_append_comm⟩)
    · exact p1.elim
  · exact p1.elim
theorem je_tup {k} (h : JA X W es g) : JE X W (.Tuple es k pos) (dTup g) := by
  refine PE.imp (pe_tup h) fun σ H Q ⟨G, Z, env, T, r, p⟩ => ?_
  refine tA.bind r Sb.refl p fun rs vs H1 _ hl s1 ⟨F, C1, C2, r1⟩ p1 => ?_
  split at p1
  · rename_i hz
    split at p1
    · rename_i xs e
      refine ⟨by rw [hl]; exact le1000 hz, fun q hq => p1 _ _ (same_upd hq) ?_⟩
      exact (r1.new (New.tup r1.fh hq (fz_den hl e fun p hp => r1.bor (List.mem_append_left _ hp)))).sb (Sb.both ⟨vs.zip rs, List.perm_append_comm⟩)
    · exact p1.elim
  · exact p1.elim
def dNewK : DE := fun _ => .ok (.st (.oK []))
theorem je_newK : JE X W (.Dict [] [] pos) dNewK := PE.imp pe_dnewK fun σ H Q ⟨G, Z, env, T, ⟨F, C1, C2, r⟩, p⟩ => fun q hq => p _ _ (same_upd hq) (r.new (New.dK r.fh hq rfl))
end
end J
namespace J
open PySem PySem.Spec PyProof.Rows L2
theorem atI_den {M : Str → Option Value} {F : Hp} {xs : List FV} {vs : List V} {i : Int} {x : FV} (d : FDenL M F xs vs) (e : atI xs i = some x) : ∃ v, atI vs i = some v ∧ FDen M F x v := by
  unfold atI at e ⊢
  obtain ⟨j, e1, e2⟩ := Option.bind_eq_some_iff.mp e
  obtain ⟨v, e3, e4⟩ := d.get e2
  exact ⟨v, by rw [d.length, e1]; exact e3, e4⟩
theorem OwnL.length {M : Str → Option Value} {F : Hp} : ∀ {xs : List OV} {vs : List V} {L : Cells}, OwnL M F xs vs L → vs.length = xs.length
  | [], _, _, h => by rw [h.1]; rfl
  | _ :: _, _, _, ⟨v, ws, A, B, e, d, r, q⟩ => by rw [e, List.length_cons, List.length_cons, OwnL.length r]
theorem OwnL.get {M : Str → Option Value} {F : Hp} : ∀ {xs : List OV} {vs : List V} {L : Cells} {i : Nat} {x : OV}, OwnL M F xs vs L → xs[i]? = some x → ∃ v A, vs[i]? = some v ∧ Own M F x v A ∧ ∀ p ∈ A, p ∈ L
  | [], _, _, _, _, _, h => by simp at h
  | _ :: _, _, _, 0, _, ⟨v, ws, A, B, e, d, r, q⟩, h => by
    rw [List.getElem?_cons_zero] at h
    cases h
    exact ⟨v, A, by rw [e]; rfl, d, fun p hp => by rw [q]; exact List.mem_append_left _ hp⟩
  | _ :: _, _, _, i + 1, _, ⟨v, ws, A, B, e, d, r, q⟩, h => by
    rw [List.getElem?_cons_succ] at h
    obtain ⟨w, A2, h1, h2, h3⟩ := OwnL.get r h
    exact ⟨w, A2, by rw [e, List.getElem?_cons_succ]; exact h1, h2, fun p hp => by rw [q]; exact List.mem_append_right _ (h3 p hp)⟩
theorem atI_own {M : Str → Option Value} {F H : Hp} {xs : List OV} {vs : List V} {L : Cells} {i : Int} {x : OV} (d : OwnL M F xs vs L) (c : ∀ p ∈ L, H p.1 = some p.2) (e : atI xs i = some x) : ∃ v, atI vs i = some v ∧ Bor M F H x v := by
  unfold atI at e ⊢
  obtain ⟨j, e1, e2⟩ := Option.bind_eq_some_iff.mp e
  obtain ⟨v, A, e3, e4, e5⟩ := d.get e2
  exact ⟨v, by rw [d.length, e1]; exact e3, A, e4, fun p hp => c p (e5 p hp)⟩
def lookK {κ α : Type} [DecidableEq κ] (kvs : List (κ × α)) (k : κ) : Option α := (kvs.find? fun kv => decide (kv.1 = k)).map (·.2)
theorem lookK_cons {κ α : Type} [DecidableEq κ] (p : κ × α) (kvs : List (κ × α)) (k : κ) : lookK (p :: kvs) k = if p.1 = k then some p.2 else lookK kvs k := by
  unfold lookK
  rw [List.find?_cons]
  by_cases h : p.1 = k
  · simp [h]
  · simp [h]
section
variable {M : Str → Option Value} {F H : Hp}
theorem FDenK.look : ∀ {kvs : List (Key × FV)} {ws : List (Key × V)} (k : Key), FDenK M F kvs ws → (∃ x v, lookK kvs k = some x ∧ valV ws k = some v ∧ FDen M F x v) ∨ (lookK kvs k = none ∧ valV ws k = none)
  | [], _, k, e => by rw [show _ = [] from e]; exact .inr ⟨rfl, rfl⟩
  | (j, x) :: r, _, k, ⟨v, rs, e, d, q⟩ => by
    rw [e, lookK_cons]
    by_cases h : j = k
    · rw [if_pos h]
      exact .inl ⟨x, v, rfl, valV_pos h, d⟩
    · rw [if_neg h, valV_neg (p := (j, v)) h]
      exact FDenK.look k q
theorem FDenT.look : ∀ {kvs : List (List Key × FV)} {ws : List (List Key × V)} (k : List Key), FDenT M F kvs ws → (∃ x v, lookK kvs k = some x ∧ valV ws k = some v ∧ FDen M F x v) ∨ (lookK kvs k = none ∧ valV ws k = none)
  | [], _, k, e => by rw [show _ = [] from e]; exact .inr ⟨rfl, rfl⟩
  | (j, x) :: r, _, k, ⟨v, rs, e, d, q⟩ => by
    rw [e, lookK_cons]
    by_cases h : j = k
    · rw [if_pos h]
      exact .inl ⟨x, v, rfl, valV_pos h, d⟩
    · rw [if_neg h, valV_neg (p := (j, v)) h]
      exact FDenT.look k q
theorem OwnK.look : ∀ {kvs : List (Key × OV)} {ws : List (Key × V)} {L : Cells} (k : Key), OwnK M F kvs ws L → (∃ x v A, lookK kvs k = some x ∧ valV ws k = some v ∧ Own M F x v A ∧ ∀ p ∈ A, p ∈ L) ∨ (lookK kvs k = none ∧ valV ws k = none)
  | [], _, _, k, e => by rw [e.1]; exact .inr ⟨rfl, rfl⟩
  | (j, x) :: r, _, _, k, ⟨v, rs, A, B, e, d, q, z⟩ => by
    rw [e, lookK_cons]
    by_cases h : j = k
    · rw [if_pos h]
      exact .inl ⟨x, v, A, rfl, valV_pos h, d, fun p hp => by rw [z]; exact List.mem_append_left _ hp⟩
    · rw [if_neg h, valV_neg (p := (j, v)) h]
      rcases OwnK.look k q with ⟨y, w, A2, h1, h2, h3, h4⟩ | h
      · exact .inl ⟨y, w, A2, h1, h2, h3, fun p hp => by rw [z]; exact List.mem_append_right _ (h4 p hp)⟩
      · exact .inr h
end
def FV.key? : FV → Option Key
  | .int i => some (.inl i)
  | .str x => some (.inr x)
  | _ => none
def keys? : List FV → Option (List Key)
  | [] => some []
  | x :: xs => match x.key?, keys? xs with
    | some k, some ks => some (k :: ks)
    | _, _ => none
def FV.keyT? : FV → Option (List Key)
  | .tup xs => keys? xs
  | _ => none
theorem FDen.key {M : Str → Option Value} {F : Hp} {x : FV} {v : V} {k : Key} (d : FDen M F x v) (e : x.key? = some k) : v = kV k := by
  unfold FV.key? at e
  split at e
  · cases e; exact d
  · cases e; exact d
  · cases e
theorem FDenL.keys {M : Str → Option Value} {F : Hp} : ∀ {xs : List FV} {vs : List V} {ks : List Key}, FDenL M F xs vs → keys? xs = some ks → vs = ks.map kV
  | [], _, _, d, e => by cases e; exact d
  | x :: xs, _, ks, ⟨v, ws, ev, d, r⟩, e => by
    unfold keys? at e
    split at e
    · rename_i k ks' e1 e2
      cases e
      rw [ev, d.key e1, FDenL.keys r e2]
      rfl
    · cases e
theorem FDen.keyT {M : Str → Option Value} {F : Hp} {x : FV} {v : V} {k : List Key} (d : FDen M F x v) (e : x.keyT? = some k) : ∃ b, v = .ref b ∧ F b = some (.tup (k.map kV)) := by
  unfold FV.keyT? at e
  split at e
  · obtain ⟨a, vs, ev, q, r⟩ := d
    rw [r.keys e] at q
    exact ⟨a, ev, q⟩
  · cases e
def OV.isD : OV → Bool
  | .oK _ => true
  | .oT _ => true
  | .dd _ => true
  | .fz (.dK _) => true
  | .fz (.dT _) => true
  | _ => false
def dGet (x : OV) (k : FV) : Option (Option Rv) := match x with
  | .oK kvs => k.key?.map fun k => (lookK kvs k).map fun v => .st (.fz v)
  | .fz (.dK kvs) => k.key?.map fun k => (lookK kvs k).map fun v => .st (.fz v)
  | .dd kvs => k.key?.map fun k => (lookK kvs k).map .bo
  | .oT kvs => k.keyT?.map fun k => (lookK kvs k).map fun v => .st (.fz v)
  | .fz (.dT kvs) => k.keyT?.map fun k => (lookK kvs k).map fun v => .st (.fz v)
  | _ => none
def ResIs (M : Str → Option Value) (F H : Hp) (r : Rv) (v : V) : Prop := match r with
  | .st (.fz x) => FDen M F x v
  | .bo o => Bor M F H o v
  | _ => False
theorem RF.res {M : Str → Option Value} {G Z H F : Hp} {σ : Sl} {env : VEnv} {T : List (V × Rv)} {C1 C2 : Cells} {r : Rv} {v : V} (q : RF M G Z H F σ env T C1 C2) (h : ResIs M F H r v) : R M G Z H σ env ((v, r) :: T) := by
  unfold ResIs at h
  split at h
  · exact q.new (New.old q.fh h)
  · exact ⟨F, C1, C2, q.gf, q.fg, q.fh, q.zh, q.ev, .bo h q.tm, q.gd⟩
  · exact h.elim
theorem dGet_den {M : Str → Option Value} {F H : Hp} {x : OV} {k : FV} {u w : V} {o : Option Rv} (hf : Same F H) (bx : Bor M F H x u) (dk : FDen M F k w) (e : dGet x k = some o) :
    ∃ a ov, u = .ref a ∧ DGet H a w ov ∧ ov.isSome = o.isSome ∧ ∀ r, o = some r → ∃ v, ov = some v ∧ ResIs M F H r v := by
  have caseK : ∀ {kvs : List (Key × FV)} {ws : List (Key × V)} {a : Addr}, H a = some (.dK ws) → FDenK M F kvs ws → (k.key?.map fun k => (lookK kvs k).map fun v => Rv.st (.fz v)) = some o → ∃ ov, DGet H a w ov ∧ ov.isSome = o.isSome ∧ ∀ r, o = some r → ∃ v, ov = some v ∧ ResIs M F H r v := by
    intro kvs ws a hH d e
    obtain ⟨j, e1, e2⟩ := Option.map_eq_some_iff.mp e
    subst e2
    rw [dk.key e1]
    refine ⟨_, DGet.k hH, ?_⟩
    rcases d.look j with ⟨x, v, h1, h2, h3⟩ | ⟨h1, h2⟩
    · rw [h1, h2]
      exact ⟨rfl, fun r e => by cases e; exact ⟨v, rfl, h3⟩⟩
    · rw [h1, h2]
      exact ⟨rfl, fun r e => nomatch e⟩
  have caseT : ∀ {kvs : List (List Key × FV)} {ws : List (List Key × V)} {a : Addr}, H a = some (.dT ws) → FDenT M F kvs ws → (k.keyT?.map fun k => (lookK kvs k).map fun v => Rv.st (.fz v)) = some o → ∃ ov, DGet H a w ov ∧ ov.isSome = o.isSome ∧ ∀ r, o = some r → ∃ v, ov = some v ∧ ResIs M F H r v := by
    intro kvs ws a hH d e
    obtain ⟨j, e1, e2⟩ := Option.map_eq_some_iff.mp e
    subst e2
    obtain ⟨b, rfl, hb⟩ := dk.keyT e1
    refine ⟨_, DGet.t hH (hf _ _ hb), ?_⟩
    rcases d.look j with ⟨x, v, h1, h2, h3⟩ | ⟨h1, h2⟩
    · rw [h1, h2]
      exact ⟨rfl, fun r e => by cases e; exact ⟨v, rfl, h3⟩⟩
    · rw [h1, h2]
      exact ⟨rfl, fun r e => nomatch e⟩
  obtain ⟨A, ow, c⟩ := bx
  unfold dGet at e
  split at e
  · obtain ⟨a, ws, rfl, d, q⟩ := ow
    subst q
    obtain ⟨ov, h⟩ := caseK (c _ List.mem_cons_self) d e
    exact ⟨a, ov, rfl, h⟩
  · obtain ⟨⟨a, ws, rfl, q, d⟩, _⟩ := ow
    obtain ⟨ov, h⟩ := caseK (hf _ _ q) d e
    exact ⟨a, ov, rfl, h⟩
  · obtain ⟨a, ws, L', rfl, d, q⟩ := ow
    subst q
    obtain ⟨j, e1, e2⟩ := Option.map_eq_some_iff.mp e
    subst e2
    rw [dk.key e1]
    refine ⟨a, _, rfl, DGet.k (c _ List.mem_cons_self), ?_⟩
    rcases d.look j with ⟨x, v, B, h1, h2, h3, h4⟩ | ⟨h1, h2⟩
    · rw [h1, h2]
      exact ⟨rfl, fun r e => by cases e; exact ⟨v, rfl, B, h3, fun p hp => c p (List.mem_cons_of_mem _ (h4 p hp))⟩⟩
    · rw [h1, h2]
      exact ⟨rfl, fun r e => nomatch e⟩
  · obtain ⟨a, ws, rfl, d, q⟩ := ow
    subst q
    obtain ⟨ov, h⟩ := caseT (c _ List.mem_cons_self) d e
    exact ⟨a, ov, rfl, h⟩
  · obtain ⟨⟨a, ws, rfl, q, d⟩, _⟩ := ow
    obtain ⟨ov, h⟩ := caseT (hf _ _ q) d e
    exact ⟨a, ov, rfl, h⟩
  · cases e
def subTp : OV → Rv
  | .fz x => .st (.fz x)
  | o => .bo o
def opIx (x : OV) (i : Int) : Option Rv := match x with
  | .ol xs => (atI xs i).map fun v => .st (.fz v)
  | .fz (.lst xs) => (atI xs i).map fun v => .st (.fz v)
  | .fz (.tup xs) => (atI xs i).map fun v => .st (.fz v)
  | .fz (.tuz xs) => (atI xs i).map fun v => .st (.fz v)
  | .fz (.str z) => if z.length ≤ BIG then (atI z.cps.toList i).map fun c => .st (.fz (.str ⟨#[c]⟩)) else none
  | .dl os => (atI os i).map .bo
  | .tp os => (atI os i).map subTp
  | _ => none
def opSub' (x y : OV) : Option Rv := if x.isD then (dGet x y.fv).bind id else match y with
  | .fz (.int i) => opIx x i
  | _ => none
def FV.frozenKey : OV → Bool
  | .fz _ => true
  | _ => false
def dSub (f g : DE) : DE := fun env => (f env).bind fun x => (g env).bind fun y => if FV.frozenKey y.ov then Ans.of (opSub' x.ov y.ov) else .no
section
variable {M : Str → Option Value} {K : PySem.W.Frag} {F H : Hp} {x : OV} {u : V}
theorem opIx_den {i : Int} {r : Rv} (hf : Same F H) (bx : Bor M F H x u) (e : opIx x i = some r) (Q : VK) (k : ∀ v, ResIs M F H r v → Q v H) : rIx K u (.int i) H Q := by
  obtain ⟨A, ow, c⟩ := bx
  unfold opIx at e
  split at e
  · obtain ⟨a, vs, rfl, d, q⟩ := ow
    subst q
    obtain ⟨y, e1, e2⟩ := Option.map_eq_some_iff.mp e
    subst e2
    obtain ⟨v, h1, h2⟩ := atI_den d e1
    exact .inl ⟨a, vs, i, v, rfl, rfl, SqL.of (c _ List.mem_cons_self), h1, k v h2⟩
  · obtain ⟨⟨a, vs, rfl, q, d⟩, _⟩ := ow
    obtain ⟨y, e1, e2⟩ := Option.map_eq_some_iff.mp e
    subst e2
    obtain ⟨v, h1, h2⟩ := atI_den d e1
    exact .inl ⟨a, vs, i, v, rfl, rfl, SqL.of (hf _ _ q), h1, k v h2⟩
  · obtain ⟨⟨a, vs, rfl, q, d⟩, _⟩ := ow
    obtain ⟨y, e1, e2⟩ := Option.map_eq_some_iff.mp e
    subst e2
    obtain ⟨v, h1, h2⟩ := atI_den d e1
    exact .inr (.inl ⟨a, vs, i, v, rfl, rfl, SqT.of (hf _ _ q), h1, k v h2⟩)
  · obtain ⟨⟨a, vs, o, rfl, q, _, _, d⟩, _⟩ := ow
    obtain ⟨y, e1, e2⟩ := Option.map_eq_some_iff.mp e
    subst e2
    obtain ⟨v, h1, h2⟩ := atI_den d e1
    exact .inr (.inl ⟨a, vs, i, v, rfl, rfl, .inl (.inr ⟨o, hf _ _ q⟩), h1, k v h2⟩)
  · split at e
    · rename_i hz
      obtain ⟨h, _⟩ := ow
      obtain ⟨y, e1, e2⟩ := Option.map_eq_some_iff.mp e
      subst e2
      exact .inr (.inr ⟨_, i, y, h, rfl, by rw [big_eq]; exact hz, e1, k _ rfl⟩)
    · cases e
  · obtain ⟨a, vs, L', rfl, d, q⟩ := ow
    subst q
    obtain ⟨y, e1, e2⟩ := Option.map_eq_some_iff.mp e
    subst e2
    obtain ⟨v, h1, h2⟩ := atI_own d (fun p hp => c p (List.mem_cons_of_mem _ hp)) e1
    exact .inl ⟨a, vs, i, v, rfl, rfl, SqL.of (c _ List.mem_cons_self), h1, k v h2⟩
  · obtain ⟨a, vs, rfl, q, d⟩ := ow
    obtain ⟨y, e1, e2⟩ := Option.map_eq_some_iff.mp e
    subst e2
    obtain ⟨v, h1, h2⟩ := atI_own d c e1
    refine .inr (.inl ⟨a, vs, i, v, rfl, rfl, SqT.of (hf _ _ q), h1, k v ?_⟩)
    cases y with
    | fz x => exact (let ⟨_, z, _⟩ := h2; z.1)
    | _ => exact h2
  · cases e
end
section
variable {X : Cx} {W : WX} {pos p2 : Pos} {a b : Expr} {f g : DE}
theorem je_sub (hu : X.A.units + 1 < cLine) (ha : JE X W a f) (hb : JE X W b g) (hs : PlainIx b := by first | exact fun _ _ => rfl | (intro _ _; rfl)) : JE X W (.Subscript a b pos) (dSub f g) := by
  refine PE.imp (PE.or (pe_ix (ix_seq (X := X)) ha hb hs) (pe_dget hu ha hb hs)) fun σ H Q ⟨G, Z, env, T, r, p⟩ => ?_
  have fin : ∀ (x : Rv), f env = .ok x → (x.ov.isD = false ∧ ∀ y, (g env = .ok y → FV.frozenKey y.ov = true → ∀ r, opSub' x.ov y.ov = some r → ∃ i, y.ov = .fz (.int i) ∧ opIx x.ov i = some r)) ∨ x.ov.isD = true := by
    intro x _
    cases hd : x.ov.isD with
    | true => exact .inr rfl
    | false =>
      refine .inl ⟨rfl, fun y _ _ r e => ?_⟩
      unfold opSub' at e
      rw [hd, if_neg Bool.false_ne_true] at e
      split at e
      · rename_i i e2
        exact ⟨i, e2, e⟩
      · cases e
  have left : (∀ x, f env = .ok x → x.ov.isD = false) → tOp (rIx X.K) (tE X.mg W f) (tE X.mg W g) σ H Q := by
    intro hd
    refine tE.bind r Sb.refl p fun x u H1 ef s1 r1 p1 => ?_
    refine tE.bind r1 Sb.refl.cons p1 fun y w H2 eg s2 ⟨F, C1, C2, r2⟩ p2 => ?_
    split at p2
    · rename_i hk
      cases e : opSub' x.ov y.ov with
      | none => rw [e] at p2; exact p2.elim
      | some rv =>
        rw [e] at p2
        rcases fin x ef with ⟨_, h⟩ | h
        · obtain ⟨i, e1, e2⟩ := h y eg hk rv e
          have hw := r2.bor (List.mem_cons_self (a := (w, y)))
          rw [show (w, y).2.ov = y.ov from rfl, e1] at hw
          rw [show w = .int i from hw.int]
          exact opIx_den r2.fh (r2.bor (List.mem_cons_of_mem _ List.mem_cons_self)) e2 Q fun v h => p2 v H2 (Same.refl _) ((r2.res h).sb (Sb.refl.cons.cons.both))
        · rw [hd x ef] at h; cases h
    · exact p2.elim
  cases ef : f env with
  | ex c => exact .inl (left fun x e => by rw [ef] at e; cases e)
  | no => exact .inl (left fun x e => by rw [ef] at e; cases e)
  | ok x =>
    cases hd : x.ov.isD with
    | false => exact .inl (left fun x' e => by rw [ef] at e; cases e; exact hd)
    | true =>
      refine .inr ?_
      refine tE.bind r Sb.refl p fun x' u H1 ef' s1 r1 p1 => ?_
      rw [ef] at ef'
      cases ef'
      refine tE.bind r1 Sb.refl.cons p1 fun y w H2 eg s2 ⟨F, C1, C2, r2⟩ p2 => ?_
      split at p2
      · rename_i hk
        unfold opSub' at p2
        rw [hd, if_pos rfl] at p2
        cases e : dGet x.ov y.ov.fv with
        | none => rw [e] at p2; exact p2.elim
        | some oo =>
          rw [e] at p2
          cases oo with
          | none => exact p2.elim
          | some rv =>
            have hy := r2.bor (List.mem_cons_self (a := (w, y)))
            have hy' : FDen X.mg F y.ov.fv w := by
              unfold FV.frozenKey at hk
              split at hk
              · rename_i z ez
                rw [show (w, y).2.ov = y.ov from rfl, ez] at hy
                rw [ez]
                exact hy.fz
              · cases hk
            obtain ⟨a, ov, h1, h2, h3, h4⟩ := dGet_den r2.fh (r2.bor (List.mem_cons_of_mem _ List.mem_cons_self)) hy' e
            obtain ⟨v, e3, h5⟩ := h4 rv rfl
            subst e3
            exact ⟨a, v, h1, h2, p2 v H2 (Same.refl _) ((r2.res h5).sb (Sb.refl.cons.cons.both))⟩
      · exact p2.elim
end
end J
namespace J
open PySem PySem.Spec PyProof.Rows L2
def cutF {α : Type} (xs : List α) (lo hi : Option Int) : List α := (xs.drop (HT.sIx xs.length 0 lo)).take (HT.sIx xs.length xs.length hi - HT.sIx xs.length 0 lo)
theorem FDenL.cut {M : Str → Option Value} {F : Hp} {xs : List FV} {vs : List V} (d : FDenL M F xs vs) (lo hi : Option Int) : FDenL M F (cutF xs lo hi) (cutV vs lo hi) := by
  unfold cutF cutV
  rw [d.length]
  exact (d.drop _).take _
theorem FDenL_ints {M : Str → Option Value} {F : Hp} : ∀ ns : List Int, FDenL M F (ns.map .int) (ns.map V.int)
  | [] => rfl
  | n :: ns => ⟨.int n, _, rfl, rfl, FDenL_ints ns⟩
theorem FDenL_strs {M : Str → Option Value} {F : Hp} : ∀ ns : List Str, FDenL M F (ns.map .str) (ns.map V.str)
  | [] => rfl
  | n :: ns => ⟨.str n, _, rfl, rfl, FDenL_strs ns⟩
theorem cutF_map {α β : Type} (f : α → β) (xs : List α) (lo hi : Option Int) : cutF (xs.map f) lo hi = (cutF xs lo hi).map f := by
  unfold cutF
  rw [List.length_map, List.map_take, List.map_drop]
theorem cutF_all {α : Type} {xs : List α} {lo hi : Option Int} (h : HT.sIx xs.length 0 lo = 0 ∧ HT.sIx xs.length xs.length hi = xs.length) : cutF xs lo hi = xs := by
  unfold cutF
  rw [h.1, h.2]
  simp
def opSl (x : OV) (lo hi : Option Int) : Option OV := match x with
  | .ol xs => some (.ol (cutF xs lo hi))
  | .fz (.lst xs) => some (.ol (cutF xs lo hi))
  | .fz (.scr xs) => some (.ol ((cutF xs lo hi).map .int))
  | .fz (.tup xs) => some (.fz (.tup (cutF xs lo hi)))
  | .fz (.str z) => if z.length ≤ BIG then some (.fz (.str (cutS z lo hi))) else none
  | _ => none
def rSlJ (M : Str → Option Value) : V → Option Int → Option Int → Hp → VK → Prop := fun u lo hi H Q => ∃ F x o, Same F H ∧ Bor M F H x u ∧ opSl x lo hi = some o ∧ ∀ v H', New M F H H' o v → Q v H'
theorem rSlJ_red {M : Str → Option Value} {K : PySem.W.Frag} {u : V} {lo hi : Option Int} {H : Hp} {Q : VK} (h : rSlJ M u lo hi H Q) : rSlL K u lo hi H Q ∨ rSlA K u lo hi H Q ∨ rSlS u lo hi H Q := by
  obtain ⟨F, x, o, hf, bx, e, k⟩ := h
  unfold opSl at e
  split at e
  · cases e
    obtain ⟨a, vs, rfl, q, d⟩ := bx.lst hf rfl
    exact .inl ⟨a, vs, rfl, SqL.of q, fun p hp => k _ _ (New.lst hf hp (d.cut lo hi))⟩
  · cases e
    obtain ⟨a, vs, rfl, q, d⟩ := bx.lst hf rfl
    exact .inl ⟨a, vs, rfl, SqL.of q, fun p hp => k _ _ (New.lst hf hp (d.cut lo hi))⟩
  · cases e
    rename_i xs
    obtain ⟨a, rfl, q⟩ := bx.fz
    refine .inl ⟨a, xs.map V.int, rfl, .inl (q.elim (fun q => .inl (hf _ _ q)) fun ⟨o, q⟩ => .inr ⟨o, hf _ _ q⟩), fun p hp => k _ _ (New.lst hf hp ?_)⟩
    rw [show cutV (xs.map V.int) lo hi = cutF (xs.map V.int) lo hi from rfl, cutF_map]
    exact FDenL_ints _
  · cases e
    obtain ⟨a, vs, rfl, q, d⟩ := bx.fz
    refine .inr (.inl ⟨a, vs, rfl, SqT.of (hf _ _ q), fun h => ?_, fun _ p hp => k _ _ (New.tup hf hp (d.cut lo hi))⟩)
    rw [d.length] at h
    rw [cutF_all h] at k
    exact k _ _ (New.old hf bx.fz)
  · split at e
    · rename_i hz
      cases e
      exact .inr (.inr ⟨_, bx.str, by rw [big_eq]; exact hz, k _ _ (New.str hf)⟩)
    · cases e
  · cases e
theorem sl_j {X : Cx} : SlR X (rSlJ X.mg) := by
  intro pins s σ H u v vl vu lo hi sl Q I r hs h1 h2 q
  exact (SlR.or sl_list (SlR.or sl_tupA sl_str)) pins s σ H u v vl vu lo hi sl Q I r hs h1 h2 (rSlJ_red q)
def dPN : VEnv → Ans (Option Int) := fun _ => .ok none
def dPS (f : DE) : VEnv → Ans (Option Int) := fun env => (f env).bind fun x => match x.ov with
  | .fz (.int i) => .ok (some i)
  | _ => .no
def PostO (M : Str → Option Value) (W : WX) (G Z : Hp) (σ : Sl) (env : VEnv) (T : List (V × Rv)) (Q : Option Int → Hp → Prop) (H : Hp) : Ans (Option Int) → Prop
  | .ok b => ∀ H', Same H H' → R M G Z H' σ env T → Q b H'
  | .ex c => ∀ C H', M c = some (.ref C) → Same H H' → R M G Z H' σ env T → W (.ref C) none σ H'
  | .no => False
def tO (M : Str → Option Value) (W : WX) (f : VEnv → Ans (Option Int)) : TO := fun σ H Q => ∃ G Z env T, R M G Z H σ env T ∧ PostO M W G Z σ env T Q H (f env)
abbrev JO (X : Cx) (W : WX) (e : Option Expr) (f : VEnv → Ans (Option Int)) : Prop := PO X e (tO X.mg W f)
theorem PO.imp {X : Cx} {e : Option Expr} {t t' : TO} (p : PO X e t) (h : ∀ σ H Q, t' σ H Q → t σ H Q) : PO X e t' := ⟨fun pins s σ H Q I q => p.run pins s σ H Q I (h σ H Q q)⟩
section
variable {M : Str → Option Value} {G Z H F : Hp} {σ : Sl} {env : VEnv} {T T2 : List (V × Rv)} {W : WX} {Q : VK} {C1 C2 : Cells}
theorem tO.bind {f : VEnv → Ans (Option Int)} {k : Option Int → Ans Rv} {Q1 : Option Int → Hp → Prop} (r : R M G Z H σ env T2) (hs : Sb T T2) (p : Post M W G Z σ env T Q H ((f env).bind k))
    (h : ∀ b H1, f env = .ok b → Same H H1 → R M G Z H1 σ env T2 → Post M W G Z σ env T Q H1 (k b) → Q1 b H1) : tO M W f σ H Q1 := by
  refine ⟨G, Z, env, T2, r, ?_⟩
  cases e : f env with
  | ok b =>
    rw [e] at p
    exact fun H1 s r => h b H1 e s r (p.later s)
  | ex c =>
    rw [e] at p
    exact fun C H1 m s r => p C H1 m s (r.sb hs)
  | no => rw [e] at p; exact p
theorem tE.bindO {f : DE} {k : Rv → Ans (Option Int)} {Q1 : VK} {Q : Option Int → Hp → Prop} (r : R M G Z H σ env T2) (hs : Sb T T2) (p : PostO M W G Z σ env T Q H ((f env).bind k))
    (h : ∀ rv v H1, f env = .ok rv → Same H H1 → R M G Z H1 σ env ((v, rv) :: T2) → PostO M W G Z σ env T Q H1 (k rv) → Q1 v H1) : tE M W f σ H Q1 := by
  refine tE.then r hs (fun rv v H1 e s r => h rv v H1 e s r ?_) (fun c C H1 e m s r => ?_) fun e => ?_
  · rw [e] at p
    cases e2 : k rv with
    | ok b => rw [show (Ans.ok rv).bind k = k rv from rfl, e2] at p; exact fun H' s' r' => p H' (s.trans s') r'
    | ex c => rw [show (Ans.ok rv).bind k = k rv from rfl, e2] at p; exact fun C H' m s' r' => p C H' m (s.trans s') r'
    | no => rw [show (Ans.ok rv).bind k = k rv from rfl, e2] at p; exact p
  · rw [e] at p; exact p C H1 m s r
  · rw [e] at p; exact p
end
def dSl (f : DE) (l h : VEnv → Ans (Option Int)) : DE := fun env => (f env).bind fun x => (l env).bind fun i => (h env).bind fun j => (Ans.of (opSl x.ov i j)).map .st
section
variable {X : Cx} {W : WX} {pos p2 : Pos} {a e : Expr} {lo hi : Option Expr} {f : DE} {l h : VEnv → Ans (Option Int)}
theorem jo_none : JO X W none dPN := PO.imp po_none fun σ H Q ⟨G, Z, env, T, r, p⟩ => p H (Same.refl _) r
theorem jo_some (he : JE X W e f) : JO X W (some e) (dPS f) := by
  refine PO.imp (po_some he) fun σ H Q ⟨G, Z, env, T, r, p⟩ => ?_
  refine tE.bindO r Sb.refl p fun x u H1 _ s1 ⟨F, C1, C2, r1⟩ p1 => ?_
  have hb := r1.bor List.mem_cons_self
  split at p1
  · rename_i i e
    rw [show (u, x).2.ov = x.ov from rfl, e] at hb
    exact ⟨i, hb.int, p1 H1 (Same.refl _) r1.r.pop⟩
  · exact p1.elim
theorem je_slice (he : JE X W e f) (hl : JO X W lo l) (hh : JO X W hi h) : JE X W (.Subscript e (.Slice lo hi none p2) pos) (dSl f l h) := by
  refine PE.imp (pe_slice sl_j he hl hh) fun σ H Q ⟨G, Z, env, T, r, p⟩ => ?_
  refine tE.bind r Sb.refl p fun x u H1 _ s1 r1 p1 => ?_
  refine tO.bind r1 Sb.refl.cons p1 fun i H2 _ s2 r2 p2 => ?_
  refine tO.bind r2 Sb.refl.cons p2 fun j H3 _ s3 ⟨F, C1, C2, r3⟩ p3 => ?_
  obtain ⟨o, e, k⟩ := r3.fin Sb.refl.cons p3
  exact ⟨F, x.ov, o, r3.fh, r3.bor List.mem_cons_self, e, k⟩
end
theorem PC.or {X : Cx} {op : CmpOp} {a b : Expr} {t t' : TE} (p : PC X op a b t) (p' : PC X op a b t') : PC X op a b (fun σ H Q => t σ H Q ∨ t' σ H Q) := ⟨fun pins s σ H Q I q => q.elim (p.run pins s σ H Q I) (p'.run pins s σ H Q I)⟩
theorem pc_of {X : Cx} {op : CmpOp} {a b : Expr} {r : R2} {ta tb : TE} (ho : OpR X (compareOp op) r) (ha : PE X a ta) (hb : PE X b tb) : PC X op a b (tOp r ta tb) :=
  ⟨fun pins s σ H Q I h => binT ha hb I h fun v u s2 x y H2 I2 rx ry q => ho pins s2 σ H2 x y v u Q I2 rx ry q⟩
def FV.lst? : FV → Option (List FV)
  | .lst xs => some xs
  | _ => none
def inSeq (x y : FV) : Option Bool := match y with
  | .lst ys => match x.toD, FV.toDL ys with
    | some d, some ds => if SeqAt.shaped d && SeqAt.shaped (.list ds) then some (ds.any fun z => PyData.eqv z d) else none
    | _, _ => none
  | .tup ys => if x.atom && ys.all FV.atom then (match x.toD, FV.toDL ys with
    | some d, some ds => some (ds.any fun z => PyData.eqv z d)
    | _, _ => none) else none
  | .tuz ys => if x.atom && ys.all FV.atom then (match x.toD, FV.toDL ys with
    | some d, some ds => some (ds.any fun z => PyData.eqv z d)
    | _, _ => none) else none
  | .str z => match x with
    | .str s => match s.cps.toList with
      | [c] => some (decide (c ∈ z.cps.toList))
      | _ => none
    | _ => none
  | _ => none
def opIn (neg : Bool) (x y : OV) : Option OV := if y.isD then (if FV.frozenKey x then (dGet y x.fv).map fun o => .fz (.bl (neg != o.isSome)) else none)
  else (inSeq x.fv y.fv).map fun b => .fz (.bl (neg != b))
section
variable {M : Str → Option Value} {K : PySem.W.Frag} {F H : Hp} {x y : FV} {u w : V}
theorem atom_eq {d e : PyData} (dx : FDen M F x u) (dy : FDen M F y w) (hx : x.atom = true) (hy : y.atom = true) (ex : x.toD = some d) (ey : y.toD = some e) : eqV w u = PyData.eqv e d := by
  cases x <;> first | (refine absurd hx ?_; simp [FV.atom]; done) | skip
  all_goals
    cases y <;> first | (refine absurd hy ?_; simp [FV.atom]; done) | skip
  all_goals
    (cases ex; cases ey; rw [show u = _ from dx, show w = _ from dy]; first | rfl | simp [eqV, PyData.eqv])
theorem atom_flat (dx : FDen M F x u) (hx : x.atom = true) : flatV u = true := by
  cases x <;> first | (refine absurd hx ?_; simp [FV.atom]; done) | skip
  all_goals (rw [show u = _ from dx]; rfl)
theorem atoms_any {d : PyData} (dx : FDen M F x u) (hx : x.atom = true) (ex : x.toD = some d) : ∀ {ys : List FV} {vs : List V} {ds : List PyData}, FDenL M F ys vs → ys.all FV.atom = true → FV.toDL ys = some ds → vs.all flatV = true ∧ inV u vs = ds.any fun z => PyData.eqv z d
  | [], _, _, h, _, e => by cases e; rw [show _ = [] from h]; exact ⟨rfl, rfl⟩
  | y :: ys, _, ds, ⟨v, ws, ev, dy, r⟩, ha, e => by
    rw [List.all_cons, Bool.and_eq_true] at ha
    unfold FV.toDL at e
    split at e
    · rename_i d1 ds1 e1 e2
      cases e
      obtain ⟨h1, h2⟩ := atoms_any dx hx ex r ha.2 e2
      rw [ev]
      refine ⟨by rw [List.all_cons, atom_flat dy ha.1, h1]; rfl, ?_⟩
      unfold inV at h2 ⊢
      rw [List.any_cons, List.any_cons, h2, atom_eq dx dy hx ha.1 ex e1]
    · cases e
end
section
variable {X : Cx} {W : WX} {pos : Pos} {a b : Expr} {f g : DE}
def rInJ (M : Str → Option Value) (neg : Bool) : R2 := fun u w H Q => ∃ F x y c, Same F H ∧ Bor M F H x u ∧ Bor M F H y w ∧ inSeq x.fv y.fv = some c ∧ Q (.bl (neg != c)) H
theorem rInJ_red {neg : Bool} {u w : V} {H : Hp} {Q : VK} (h : rInJ X.mg neg u w H Q) : (∃ d ds, Dp X.K H u d ∧ Dp X.K H w (.list ds) ∧ SeqAt.shaped d = true ∧ SeqAt.shaped (.list ds) = true ∧ Q (.bl (neg != ds.any fun z => PyData.eqv z d)) H) ∨
    (∃ p xs, w = .ref p ∧ (SqL X.K H p xs ∨ SqT X.K H p xs) ∧ flatV u = true ∧ xs.all flatV = true ∧ Q (.bl (neg != inV u xs)) H) ∨ ∃ (c : Nat) (z : Str), u = .str ⟨#[c]⟩ ∧ w = .str z ∧ Q (.bl (neg != decide (c ∈ z.cps.toList))) H := by
  obtain ⟨F, x, y, c, hf, bx, by', e, q⟩ := h
  have dx := bx.fden hf
  have dy := by'.fden hf
  revert e dy
  generalize y.fv = yf
  intro e dy
  unfold inSeq at e
  split at e
  · split at e
    · rename_i d ds e1 e2
      split at e
      · rename_i hs
        cases e
        rw [Bool.and_eq_true] at hs
        obtain ⟨p, vs, rfl, qq, dd⟩ := dy
        exact .inl ⟨d, ds, dx.dp e1, .lst (SqL.of qq) (dd.dp e2), hs.1, hs.2, q⟩
      · cases e
    · cases e
  · split at e
    · rename_i ha
      rw [Bool.and_eq_true] at ha
      split at e
      · rename_i d ds e1 e2
        cases e
        obtain ⟨p, vs, rfl, qq, dd⟩ := dy
        obtain ⟨h1, h2⟩ := atoms_any dx ha.1 e1 dd ha.2 e2
        exact .inr (.inl ⟨p, vs, rfl, .inr (SqT.of qq), atom_flat dx ha.1, h1, by rw [h2]; exact q⟩)
      · cases e
    · cases e
  · split at e
    · rename_i ha
      rw [Bool.and_eq_true] at ha
      split at e
      · rename_i d ds e1 e2
        cases e
        obtain ⟨p, vs, o, rfl, qq, _, _, dd⟩ := dy
        obtain ⟨h1, h2⟩ := atoms_any dx ha.1 e1 dd ha.2 e2
        exact .inr (.inl ⟨p, vs, rfl, .inr (.inl (.inr ⟨o, qq⟩)), atom_flat dx ha.1, h1, by rw [h2]; exact q⟩)
      · cases e
    · cases e
  · split at e
    · rename_i s ex
      split at e
      · rename_i c ec
        cases e
        rw [ex] at dx
        refine .inr (.inr ⟨c, _, ?_, dy, q⟩)
        rw [show u = .str s from dx]
        congr 1
        cases s with
        | mk cps =>
          have : cps = #[c] := by
            apply Array.toList_inj.mp
            exact ec
          rw [this]
      · cases e
    · cases e
  · cases e
theorem neg_ite (neg b : Bool) : (if neg = true then !b else b) = (neg != b) := by cases neg <;> cases b <;> rfl
theorem op_notInJ (hu : X.A.units + 65 < cLine) : OpR X (compareOp .NotIn) (rInJ X.mg true) := by
  intro pins s σ H u w v1 v2 Q I r1 r2 h
  rcases rInJ_red h with ⟨d, ds, h1, h2, h3, h4, q⟩ | ⟨p, xs, rfl, h1, h2, h3, q⟩ | ⟨c, z, h1, h2, q⟩
  · exact op_notInD hu pins s σ H u w v1 v2 Q I r1 r2 ⟨d, ds, h1, h2, h3, h4, by simpa using q⟩
  · exact op_notIn_seq pins s σ H u _ v1 v2 Q I r1 r2 ⟨p, xs, rfl, h1, h2, h3, by rw [neg_ite]; exact q⟩
  · exact op_notIn_sign pins s σ H u w v1 v2 Q I r1 r2 ⟨c, z, h1, h2, by simpa using q⟩
theorem frozenKey_fz {o : OV} (h : FV.frozenKey o = true) : o = .fz o.fv := by
  unfold FV.frozenKey at h
  split at h
  · rfl
  · cases h
def tInD (neg : Bool) (ty td : TE) : TE := fun σ H Q => ty σ H fun y H1 => td σ H1 fun x H2 => ∃ a o, x = .ref a ∧ DGet H2 a y o ∧ Q (.bl (neg != o.isSome)) H2
theorem in_red {neg : Bool} {σ : Sl} {H : Hp} {Q : VK} (h : tE X.mg W (dBin (opIn neg) f g) σ H Q) : tOp (rInJ X.mg neg) (tE X.mg W f) (tE X.mg W g) σ H Q ∨ tInD neg (tE X.mg W f) (tE X.mg W g) σ H Q := by
  obtain ⟨G, Z, env, T, r, p⟩ := h
  have left : (∀ y, g env = .ok y → y.ov.isD = false) → tOp (rInJ X.mg neg) (tE X.mg W f) (tE X.mg W g) σ H Q := by
    intro hd
    refine tE.bind r Sb.refl p fun x u H1 ef s1 r1 p1 => ?_
    refine tE.bind r1 Sb.refl.cons p1 fun y w H2 eg s2 ⟨F, C1, C2, r2⟩ p2 => ?_
    obtain ⟨o, e, k⟩ := r2.fin (Sb.refl.cons.cons) p2
    unfold opIn at e
    rw [hd y eg, if_neg Bool.false_ne_true] at e
    obtain ⟨c, e1, e2⟩ := Option.map_eq_some_iff.mp e
    subst e2
    exact ⟨F, x.ov, y.ov, c, r2.fh, r2.bor (List.mem_cons_of_mem _ List.mem_cons_self), r2.bor List.mem_cons_self, e1, k _ _ (New.bl r2.fh)⟩
  cases eg : g env with
  | ex c => exact .inl (left fun x e => by rw [eg] at e; cases e)
  | no => exact .inl (left fun x e => by rw [eg] at e; cases e)
  | ok y =>
    cases hd : y.ov.isD with
    | false => exact .inl (left fun x' e => by rw [eg] at e; cases e; exact hd)
    | true =>
      refine .inr ?_
      refine tE.bind r Sb.refl p fun x u H1 ef s1 r1 p1 => ?_
      refine tE.bind r1 Sb.refl.cons p1 fun y' w H2 eg' s2 ⟨F, C1, C2, r2⟩ p2 => ?_
      rw [eg] at eg'
      cases eg'
      obtain ⟨o, e, k⟩ := r2.fin (Sb.refl.cons.cons) p2
      unfold opIn at e
      rw [hd, if_pos rfl] at e
      split at e
      · rename_i hk
        obtain ⟨oo, e1, e2⟩ := Option.map_eq_some_iff.mp e
        subst e2
        have hx := r2.bor (List.mem_cons_of_mem _ (List.mem_cons_self (a := (u, x))))
        rw [show (u, x).2.ov = x.ov from rfl, frozenKey_fz hk] at hx
        obtain ⟨a, ov, h1, h2, h3, h4⟩ := dGet_den r2.fh (r2.bor List.mem_cons_self) hx.fz e1
        exact ⟨a, ov, h1, h2, by rw [h3]; exact k _ _ (New.bl r2.fh)⟩
      · cases e
theorem pc_notInJ (hu : X.A.units + 65 < cLine) (ha : JE X W a f) (hb : JE X W b g) : PC X .NotIn a b (tE X.mg W (dBin (opIn true) f g)) :=
  ⟨fun pins s σ H Q I q => (PC.or (pc_of (op_notInJ hu) ha hb) (pc_dnotin (Nat.lt_of_le_of_lt (by omega) hu) ha hb)).run pins s σ H Q I ((in_red q).imp id fun q => by simpa [tInD, tDNotIn] using q)⟩
theorem jt_notIn (hu : X.A.units + 65 < cLine) (ha : JE X W a f) (hb : JE X W b g) (hm : behindInMarks .NotIn b = false := by rfl) : JT X W (.Compare a [.NotIn] [b] pos) (dTest (dBin (opIn true) f g)) := PT.imp (pt_cmp (pc_notInJ hu ha hb) hm) fun _ _ _ h => tB_red h
end
end J
namespace J
open PySem PySem.Spec PyProof.Rows L2
def rJn (M : Str → Option Value) (op : List OV → Option OV) : List V → Hp → VK → Prop := fun us H Q => ∃ F os o, Same F H ∧ Paired (fun x u => Bor M F H x u) os us ∧ op os = some o ∧ ∀ v H', New M F H H' o v → Q v H'
def dCallB (op : List OV → Option OV) (g : VEnv → Ans (List Rv)) : DE := fun env => (g env).bind fun rs => (Ans.of (op (rs.map Rv.ov))).map .st
theorem zip_bor {M : Str → Option Value} {F H : Hp} : ∀ {rs : List Rv} {vs : List V}, vs.length = rs.length → (∀ p ∈ vs.zip rs, Bor M F H p.2.ov p.1) → Paired (fun x u => Bor M F H x u) (rs.map Rv.ov) vs
  | [], vs, hl, _ => by
    obtain rfl : vs = [] := List.eq_nil_of_length_eq_zero hl
    exact .nil
  | r :: rs, [], hl, _ => by simp at hl
  | r :: rs, v :: vs, hl, h => .cons (h (v, r) (by simp)) (zip_bor (by simpa using hl) fun p hp => h p (by rw [List.zip_cons_cons]; exact List.mem_cons_of_mem _ hp))
section
variable {M : Str → Option Value} {G Z H F : Hp} {σ : Sl} {env : VEnv} {T T2 : List (V × Rv)} {W : WX} {Q : VK} {C1 C2 : Cells}
theorem RF.rjn {op : List OV → Option OV} {us : List V} {rs : List Rv} (r : RF M G Z H F σ env (us.zip rs ++ T2) C1 C2) (hl : us.length = rs.length) (hs : Sb T T2) (p : Post M W G Z σ env T Q H ((Ans.of (op (rs.map Rv.ov))).map .st)) : rJn M op us H Q := by
  obtain ⟨o, e, k⟩ := r.fin (T := T) (hs.trans ⟨us.zip rs, List.perm_append_comm⟩) p
  exact ⟨F, rs.map Rv.ov, o, r.fh, zip_bor hl fun p hp => r.bor (List.mem_append_left _ hp), e, k⟩
end
section
variable {X : Cx} {W : WX} {pos p : Pos} {x : Str} {e : Expr} {es : List Expr} {g : VEnv → Ans (List Rv)} {op : List OV → Option OV}
theorem callb_red {σ : Sl} {H : Hp} {Q : VK} (h : tE X.mg W (dCallB op g) σ H Q) : tA X.mg W g σ H fun vs H1 => rJn X.mg op vs H1 Q := by
  obtain ⟨G, Z, env, T, r, p⟩ := h
  exact tA.bind r Sb.refl p fun rs vs H1 _ hl s1 ⟨F, C1, C2, r1⟩ p1 => r1.rjn hl Sb.refl p1
theorem je_callB {id : String} (hc : CallR X (.builtin id) (rJn X.mg op)) (ha : JA X W (e :: es) g) (hm : X.mg x = none) (hv : bootBuiltins x = some (.builtin id)) (hg : Gl X x := by rfl) (hn : x ≠ "__name__" := by decide) (hdb : (x == ("__debug__" : Str)) = false := by decide)
    (he : starEach (e :: es) X.env = (false, eval e X.env) :: starEach es X.env := by rfl) (hpl : (backTo pos (starEach es X.env)).any (·.1) = false := by rfl) : JE X W (.Call (.Name x p) (e :: es) [] pos) (dCallB op g) :=
  PE.imp (pe_callB hc hg hm hv ha hn hdb he hpl) fun σ H Q h => callb_red h
theorem je_callTy {T : String} (hc : CallR X (.type T) (rJn X.mg op)) (ha : JA X W (e :: es) g) (hm : X.mg x = none) (hv : bootBuiltins x = some (.type T)) (hg : Gl X x := by rfl) (hn : x ≠ "__name__" := by decide) (hdb : (x == ("__debug__" : Str)) = false := by decide)
    (he : starEach (e :: es) X.env = (false, eval e X.env) :: starEach es X.env := by rfl) (hpl : (backTo pos (starEach es X.env)).any (·.1) = false := by rfl) : JE X W (.Call (.Name x p) (e :: es) [] pos) (dCallB op g) :=
  PE.imp (pe_callTy hc hg hm hv ha hn hdb he hpl) fun σ H Q h => callb_red h
end
theorem CallR.imp {X : Cx} {f : Value} {r r' : List V → Hp → VK → Prop} (h : CallR X f r) (k : ∀ us H Q, r' us H Q → r us H Q) : CallR X f r' := fun pins s σ H us vs Q I rs q => h pins s σ H us vs Q I rs (k us H Q q)
def opLen : List OV → Option OV
  | [.ol xs] => some (.fz (.int xs.length))
  | [.fz (.lst xs)] => some (.fz (.int xs.length))
  | [.fz (.tup xs)] => some (.fz (.int xs.length))
  | [.fz (.tuz xs)] => some (.fz (.int xs.length))
  | [.fz (.str z)] => if z.length ≤ BIG then some (.fz (.int z.length)) else none
  | [.dl xs] => some (.fz (.int xs.length))
  | [.tp xs] => some (.fz (.int xs.length))
  | [.oK xs] => some (.fz (.int xs.length))
  | [.fz (.dK xs)] => some (.fz (.int xs.length))
  | [.fz (.scr xs)] => some (.fz (.int xs.length))
  | _ => none
theorem FDenK.length {M : Str → Option Value} {F : Hp} : ∀ {xs : List (Key × FV)} {vs : List (Key × V)}, FDenK M F xs vs → vs.length = xs.length
  | [], _, e => by rw [show _ = [] from e]; rfl
  | (k, x) :: xs, _, ⟨v, ws, e, _, r⟩ => by rw [e, List.length_cons, List.length_cons, FDenK.length r]
theorem paired1 {α β : Type} {P : α → β → Prop} {x : α} {us : List β} (h : Paired P [x] us) : ∃ u, us = [u] ∧ P x u := by
  cases h with
  | cons a b => cases b; exact ⟨_, rfl, a⟩
section
variable {X : Cx}
theorem cj_len : CallR X (.builtin "len") (rJn X.mg opLen) := by
  refine CallR.imp (call_len_seq.or (call_len_str.or call_lenD)) fun us H Q ⟨F, os, o, hf, ps, e, k⟩ => ?_
  unfold opLen at e
  split at e <;> first | (cases e; done) | skip
  · cases e
    obtain ⟨u, rfl, b⟩ := paired1 ps
    obtain ⟨a, vs, rfl, q, d⟩ := b.lst hf rfl
    exact .inl ⟨a, vs, rfl, .inl (SqL.of q), by rw [d.length]; exact k _ _ (New.int hf)⟩
  · cases e
    obtain ⟨u, rfl, b⟩ := paired1 ps
    obtain ⟨a, vs, rfl, q, d⟩ := b.lst hf rfl
    exact .inl ⟨a, vs, rfl, .inl (SqL.of q), by rw [d.length]; exact k _ _ (New.int hf)⟩
  · cases e
    obtain ⟨u, rfl, b⟩ := paired1 ps
    obtain ⟨a, vs, rfl, q, d⟩ := FDen.tupT (K := X.K) b.fz (xs := _) rfl
    exact .inl ⟨a, vs, rfl, .inr (SqT.sameS hf q), by rw [d.length]; exact k _ _ (New.int hf)⟩
  · cases e
    obtain ⟨u, rfl, b⟩ := paired1 ps
    obtain ⟨a, vs, rfl, q, d⟩ := FDen.tupT (K := X.K) b.fz (xs := _) rfl
    exact .inl ⟨a, vs, rfl, .inr (SqT.sameS hf q), by rw [d.length]; exact k _ _ (New.int hf)⟩
  · split at e
    · rename_i hz
      cases e
      obtain ⟨u, rfl, b⟩ := paired1 ps
      exact .inr (.inl ⟨_, by rw [b.str], by rw [big_eq]; exact hz, k _ _ (New.int hf)⟩)
    · cases e
  · cases e
    obtain ⟨u, rfl, A, ⟨a, vs, L', rfl, d, q⟩, c⟩ := paired1 ps
    subst q
    exact .inl ⟨a, vs, rfl, .inl (SqL.of (c _ List.mem_cons_self)), by rw [d.length]; exact k _ _ (New.int hf)⟩
  · cases e
    obtain ⟨u, rfl, A, ⟨a, vs, rfl, q, d⟩, c⟩ := paired1 ps
    exact .inl ⟨a, vs, rfl, .inr (SqT.of (hf _ _ q)), by rw [d.length]; exact k _ _ (New.int hf)⟩
  · cases e
    obtain ⟨u, rfl, A, ⟨a, vs, rfl, d, q⟩, c⟩ := paired1 ps
    subst q
    exact .inr (.inr ⟨a, vs, rfl, c _ List.mem_cons_self, by rw [d.length]; exact k _ _ (New.int hf)⟩)
  · cases e
    obtain ⟨u, rfl, b⟩ := paired1 ps
    obtain ⟨a, vs, rfl, q, d⟩ := b.fz
    exact .inr (.inr ⟨a, vs, rfl, hf _ _ q, by rw [d.length]; exact k _ _ (New.int hf)⟩)
  · cases e
    rename_i xs
    obtain ⟨u, rfl, b⟩ := paired1 ps
    obtain ⟨a, rfl, q⟩ := b.fz
    refine .inl ⟨a, xs.map V.int, rfl, .inl (.inl (q.elim (fun q => .inl (hf _ _ q)) fun ⟨o, q⟩ => .inr ⟨o, hf _ _ q⟩)), ?_⟩
    rw [List.length_map]
    exact k _ _ (New.int hf)
end
def FV.seq? : FV → Option (List FV)
  | .lst xs => some xs
  | .tup xs => some xs
  | .tuz xs => some xs
  | _ => none
def OV.seq? : OV → Option (List FV)
  | .ol xs => some xs
  | .fz x => x.seq?
  | _ => none
def opList : List OV → Option OV
  | [.fz (.str z)] => if z.length ≤ BIG then some (.ol (z.cps.toList.map fun c => .str ⟨#[c]⟩)) else none
  | [x] => x.seq?.map .ol
  | _ => none
def opTup : List OV → Option OV
  | [.fz (.str z)] => if z.length ≤ BIG then some (.fz (.tup (z.cps.toList.map fun c => .str ⟨#[c]⟩))) else none
  | [x] => x.lst?.map fun xs => .fz (.tup xs)
  | _ => none
theorem Bor.seq {M : Str → Option Value} {K : PySem.W.Frag} {F H : Hp} {x : OV} {u : V} {xs : List FV} (hf : Same F H) (b : Bor M F H x u) (e : x.seq? = some xs) : ∃ a vs, u = .ref a ∧ (SqL K H a vs ∨ SqT K H a vs) ∧ FDenL M F xs vs := by
  unfold OV.seq? at e
  split at e
  · cases e
    obtain ⟨a, vs, rfl, q, d⟩ := b.lst hf rfl
    exact ⟨a, vs, rfl, .inl (SqL.of q), d⟩
  · rename_i x
    unfold FV.seq? at e
    split at e
    · cases e
      obtain ⟨a, vs, rfl, q, d⟩ := b.lst hf rfl
      exact ⟨a, vs, rfl, .inl (SqL.of q), d⟩
    · cases e
      obtain ⟨a, vs, rfl, q, d⟩ := FDen.tupT (K := K) b.fz (xs := _) rfl
      exact ⟨a, vs, rfl, .inr (SqT.sameS hf q), d⟩
    · cases e
      obtain ⟨a, vs, rfl, q, d⟩ := FDen.tupT (K := K) b.fz (xs := _) rfl
      exact ⟨a, vs, rfl, .inr (SqT.sameS hf q), d⟩
    · cases e
  · cases e
theorem signs_vals {z : Str} {acc : Array Value} (h : ItemsOf (SignAt z) acc z.cps.size) : Vals (z.cps.toList.map fun c => V.str ⟨#[c]⟩) acc.toList := by
  obtain ⟨h1, h2⟩ := h
  have key : ∀ (cs : List Nat) (us : List Value), us.length = cs.length → (∀ (i : Nat) (u : Value), us[i]? = some u → ∃ c t, cs[i]? = some c ∧ u = Value.str ⟨#[c]⟩ t) → Vals (cs.map fun c => V.str ⟨#[c]⟩) us := by
    intro cs
    induction cs with
    | nil =>
      intro us hl _
      obtain rfl : us = [] := List.eq_nil_of_length_eq_zero (by simpa using hl)
      exact .nil
    | cons c cs ih =>
      intro us hl h
      cases us with
      | nil => simp at hl
      | cons u us =>
        obtain ⟨c', t, e1, e2⟩ := h 0 u rfl
        have e1' : c = c' := by simpa using e1
        subst e1'
        exact .cons ⟨t, e2⟩ (ih us (by simpa using hl) fun i u e => h (i + 1) u (by simpa using e))
  refine key _ _ (by simpa using h1) fun i u e => ?_
  obtain ⟨c, t, e1, e2⟩ := h2 i u (by rw [← Array.getElem?_toList]; exact e)
  exact ⟨c, t, by rw [Array.getElem?_toList]; exact e1, e2⟩
section
variable {X : Cx}
theorem call_list_txt (hc : X.calm = true) : CallR X (.type "list") (fun xs H Q => ∃ z, xs = [.str z] ∧ z.length ≤ sizeLine ∧ ∀ l, H l = none → Q (.ref l) (upd H l (.lst (z.cps.toList.map fun c => V.str ⟨#[c]⟩)))) := by
  intro pins s σ H xs us Q I r h
  obtain ⟨z, rfl, hz, q⟩ := h
  obtain ⟨u, rfl, t, rfl⟩ := vals1 r
  refine call_list_str (I.ok.hd hc) z t (fun h' tk acc c' kp e hi => ?_) hz
  refine ⟨.ref s.heap.objs.size, _, I.laid (t' := tk) kp (Nat.le_refl _) (show ObjOk X.prog X.w _ h' _ (.lst _) from ⟨?_, acc.toList, c', signs_vals hi, by rw [Array.toArray_toList]; exact e⟩), rfl, q _ (I.hok.fresh (Nat.le_refl _))⟩
  rw [List.length_map, Array.length_toList]
  exact hz
theorem call_tuple_txt (hc : X.calm = true) : CallR X (.type "tuple") (fun xs H Q => ∃ z, xs = [.str z] ∧ z.length ≤ sizeLine ∧ ∀ l, H l = none → Q (.ref l) (upd H l (.tup (z.cps.toList.map fun c => V.str ⟨#[c]⟩)))) := by
  intro pins s σ H xs us Q I r h
  obtain ⟨z, rfl, hz, q⟩ := h
  obtain ⟨u, rfl, t, rfl⟩ := vals1 r
  refine call_tuple_str (I.ok.hd hc) z t (fun h' tk acc kp hi => ?_) hz
  have I1 : Inv X pins σ H { s with heap := h', toks := tk } := I.kept kp
  refine ⟨.ref h'.objs.size, _, I1.laid (t' := tk) (fun b o e => Heap.get?_push_of_some _ e) (Nat.le_refl _) (show ObjOk X.prog X.w _ _ _ (.tup _) from ⟨?_, acc.toList, signs_vals hi, by rw [Array.toArray_toList]; exact IsTup.new _ _⟩), rfl, q _ (I1.hok.fresh (Nat.le_refl _))⟩
  rw [List.length_map, Array.length_toList]
  exact hz
theorem FDenL_signs {M : Str → Option Value} {F : Hp} (cs : List Nat) : FDenL M F (cs.map fun c => FV.str ⟨#[c]⟩) (cs.map fun c => V.str ⟨#[c]⟩) := by
  have := FDenL_strs (M := M) (F := F) (cs.map fun c => (⟨#[c]⟩ : Str))
  rw [List.map_map, List.map_map] at this
  exact this
theorem cj_list (hc : X.calm = true) : CallR X (.type "list") (rJn X.mg opList) := by
  refine CallR.imp ((call_list_txt hc).or call_list_of) fun us H Q ⟨F, os, o, hf, ps, e, k⟩ => ?_
  unfold opList at e
  split at e
  · split at e
    · rename_i hz
      cases e
      obtain ⟨u, rfl, b⟩ := paired1 ps
      exact .inl ⟨_, by rw [b.str], by rw [big_eq]; exact hz, fun p hp => k _ _ (New.lst hf hp (FDenL_signs _))⟩
    · cases e
  · obtain ⟨u, rfl, b⟩ := paired1 ps
    obtain ⟨xs, e1, e2⟩ := Option.map_eq_some_iff.mp e
    subst e2
    obtain ⟨a, vs, rfl, q, d⟩ := b.seq (K := X.K) hf e1
    exact .inr ⟨a, vs, rfl, q, fun p hp => k _ _ (New.lst hf hp d)⟩
  · cases e
theorem cj_tup (hc : X.calm = true) : CallR X (.type "tuple") (rJn X.mg opTup) := by
  refine CallR.imp ((call_tuple_txt hc).or call_tuple_of) fun us H Q ⟨F, os, o, hf, ps, e, k⟩ => ?_
  unfold opTup at e
  split at e
  · split at e
    · rename_i hz
      cases e
      obtain ⟨u, rfl, b⟩ := paired1 ps
      exact .inl ⟨_, by rw [b.str], by rw [big_eq]; exact hz, fun p hp => k _ _ (New.tup hf hp (FDenL_signs _))⟩
    · cases e
  · obtain ⟨u, rfl, b⟩ := paired1 ps
    obtain ⟨xs, e1, e2⟩ := Option.map_eq_some_iff.mp e
    subst e2
    obtain ⟨a, vs, rfl, q, d⟩ := b.lst hf e1
    exact .inr ⟨a, vs, rfl, .inl ⟨SqL.of q, fun p hp => k _ _ (New.tup hf hp d)⟩⟩
  · cases e
end
def strs? : List FV → Option (List Str)
  | [] => some []
  | .str i :: xs => (strs? xs).map (i :: ·)
  | _ => none
section
variable {M : Str → Option Value} {F : Hp}
theorem FDenL.strs? : ∀ {xs : List FV} {vs : List V} {ns : List Str}, FDenL M F xs vs → J.strs? xs = some ns → vs = ns.map V.str
  | [], _, _, d, e => by cases e; exact d
  | x :: xs, _, _, ⟨v, ws, ev, d, r⟩, e => by
    cases x <;> first | (cases e; done) | skip
    obtain ⟨ms, e1, e2⟩ := Option.map_eq_some_iff.mp e
    subst e2
    rw [ev, show v = _ from d, FDenL.strs? r e1]
    rfl
end
section
variable {X : Cx}
end
end J
namespace J
open PySem PySem.Spec PyProof.Rows L2
mutual
def FV.pure : FV → Bool
  | .non => true
  | .bl _ => true
  | .int _ => true
  | .str _ => true
  | .tup xs => FV.pureL xs
  | .tuz xs => FV.pureL xs
  | _ => false
def FV.pureL : List FV → Bool
  | [] => true
  | x :: xs => x.pure && FV.pureL xs
end
def FV.pureK {κ : Type} : List (κ × FV) → Bool
  | [] => true
  | (_, x) :: xs => x.pure && FV.pureK xs
mutual
def OV.clean : OV → Bool
  | .fz x => x.pure
  | .ol xs => FV.pureL xs
  | .oK kvs => FV.pureK kvs
  | .oT kvs => FV.pureK kvs
  | .dl xs => OV.cleanL xs
  | .dd kvs => OV.cleanK kvs
  | .tp xs => OV.cleanL xs
  | .ob _ _ fs => OV.cleanA fs
  | .oN _ => true
def OV.cleanL : List OV → Bool
  | [] => true
  | x :: xs => x.clean && OV.cleanL xs
def OV.cleanK : List (Key × OV) → Bool
  | [] => true
  | (_, x) :: xs => x.clean && OV.cleanK xs
def OV.cleanA : List (Str × OV) → Bool
  | [] => true
  | (_, x) :: xs => x.clean && OV.cleanA xs
end
def HO.mutable : HO → Bool
  | .lst _ => true
  | .dK _ => true
  | .dT _ => true
  | .ins _ _ _ => true
  | .ext _ => true
  | _ => false
def mutG (F H : Hp) : Hp := fun a => match F a with
  | some o => some o
  | none => match H a with
    | some o => if HO.mutable o then some o else none
    | none => none
def backF (F H F' : Hp) : Hp := fun a => match H a with
  | some _ => F a
  | none => F' a
section
variable {M : Str → Option Value} {F H H' F' : Hp}
theorem mutG_F (F H : Hp) : Same F (mutG F H) := fun a o e => by unfold mutG; rw [e]
theorem mutG_H (hf : Same F H) : Same (mutG F H) H := fun a o e => by
  unfold mutG at e
  split at e
  · rename_i o' e'
    cases e
    exact hf _ _ e'
  · split at e
    · split at e
      · cases e; assumption
      · cases e
    · cases e
theorem mutG_in {a : Addr} {o : HO} (e : H a = some o) (m : HO.mutable o = true) (hf : Same F H) : mutG F H a = some o := by
  unfold mutG
  split
  · rename_i o' e'
    rw [hf _ _ e'] at e
    exact e
  · rw [e]
    simp [m]
theorem mutG_of {a : Addr} {o : HO} (e : mutG F H a = some o) (m : HO.mutable o = false) : F a = some o := by
  unfold mutG at e
  split at e
  · rename_i o' e'
    cases e
    exact e'
  · split at e
    · split at e
      · rename_i h
        cases e
        rw [m] at h
        cases h
      · cases e
    · cases e
theorem backF_in {a : Addr} {o : HO} (fn : ∀ a u, F' a = some u → mutG F H a = some u ∨ H a = none) (e : F' a = some o) (m : HO.mutable o = false) : backF F H F' a = some o := by
  unfold backF
  cases h : H a with
  | none => exact e
  | some z =>
    rcases fn a o e with q | q
    · exact mutG_of q m
    · rw [h] at q; cases q
mutual
theorem FDen.pure (k : ∀ a o, F' a = some o → HO.mutable o = false → F a = some o) : ∀ {x : FV} {v : V}, x.pure = true → FDen M F' x v → FDen M F x v
  | .non, _, _, d => d
  | .bl _, _, _, d => d
  | .int _, _, _, d => d
  | .str _, _, _, d => d
  | .tup xs, _, p, ⟨a, vs, e, q, r⟩ => ⟨a, vs, e, k _ _ q rfl, FDenL.pure k (by simpa [FV.pure] using p) r⟩
  | .tuz xs, _, p, ⟨a, vs, o, e, q, q1, q2, r⟩ => ⟨a, vs, o, e, k _ _ q rfl, q1, q2, FDenL.pure k (by simpa [FV.pure] using p) r⟩
  | .lst _, _, p, _ => by simp [FV.pure] at p
  | .dK _, _, p, _ => by simp [FV.pure] at p
  | .dT _, _, p, _ => by simp [FV.pure] at p
  | .ins _ _, _, p, _ => by simp [FV.pure] at p
  | .exc _, _, p, _ => by simp [FV.pure] at p
  | .scr _, _, p, _ => by simp [FV.pure] at p
  | .dN _, _, p, _ => by simp [FV.pure] at p
theorem FDenL.pure (k : ∀ a o, F' a = some o → HO.mutable o = false → F a = some o) : ∀ {xs : List FV} {vs : List V}, FV.pureL xs = true → FDenL M F' xs vs → FDenL M F xs vs
  | [], _, _, d => d
  | x :: xs, _, p, ⟨v, ws, e, d, r⟩ => by
    simp only [FV.pureL, Bool.and_eq_true] at p
    exact ⟨v, ws, e, FDen.pure k p.1 d, FDenL.pure k p.2 r⟩
end
theorem FDenK.pure (k : ∀ a o, F' a = some o → HO.mutable o = false → F a = some o) : ∀ {xs : List (Key × FV)} {vs : List (Key × V)}, FV.pureK xs = true → FDenK M F' xs vs → FDenK M F xs vs
  | [], _, _, d => d
  | (_, x) :: xs, _, p, ⟨v, ws, e, d, r⟩ => by
    simp only [FV.pureK, Bool.and_eq_true] at p
    exact ⟨v, ws, e, FDen.pure k p.1 d, FDenK.pure k p.2 r⟩
theorem FDenT.pure (k : ∀ a o, F' a = some o → HO.mutable o = false → F a = some o) : ∀ {xs : List (List Key × FV)} {vs : List (List Key × V)}, FV.pureK xs = true → FDenT M F' xs vs → FDenT M F xs vs
  | [], _, _, d => d
  | (_, x) :: xs, _, p, ⟨v, ws, e, d, r⟩ => by
    simp only [FV.pureK, Bool.and_eq_true] at p
    exact ⟨v, ws, e, FDen.pure k p.1 d, FDenT.pure k p.2 r⟩
mutual
theorem Own.clean (k : ∀ a o, F' a = some o → HO.mutable o = false → F a = some o) : ∀ {x : OV} {v : V} {L : Cells}, x.clean = true → Own M F' x v L → Own M F x v L
  | .fz _, _, _, p, ⟨d, e⟩ => ⟨d.pure k (by simpa [OV.clean] using p), e⟩
  | .ol _, _, _, p, ⟨a, vs, e, r, q⟩ => ⟨a, vs, e, r.pure k (by simpa [OV.clean] using p), q⟩
  | .oK _, _, _, p, ⟨a, vs, e, r, q⟩ => ⟨a, vs, e, r.pure k (by simpa [OV.clean] using p), q⟩
  | .oT _, _, _, p, ⟨a, vs, e, r, q⟩ => ⟨a, vs, e, r.pure k (by simpa [OV.clean] using p), q⟩
  | .dl _, _, _, p, ⟨a, vs, L', e, r, q⟩ => ⟨a, vs, L', e, OwnL.clean k (by simpa [OV.clean] using p) r, q⟩
  | .dd _, _, _, p, ⟨a, vs, L', e, r, q⟩ => ⟨a, vs, L', e, OwnK.clean k (by simpa [OV.clean] using p) r, q⟩
  | .tp _, _, _, p, ⟨a, vs, e, q, r⟩ => ⟨a, vs, e, k _ _ q rfl, OwnL.clean k (by simpa [OV.clean] using p) r⟩
  | .ob _ _ _, _, _, p, ⟨a, C, dx, ws, L', e, m, q, r, q2⟩ => ⟨a, C, dx, ws, L', e, m, k _ _ q rfl, OwnA.clean k (by simpa [OV.clean] using p) r, q2⟩
  | .oN _, _, _, _, ⟨a, kb, e, n, kt, q⟩ => ⟨a, kb, e, n, fun p hp => let ⟨c, x, y⟩ := kt p hp; ⟨c, k _ _ x rfl, k _ _ y rfl⟩, q⟩
theorem OwnL.clean (k : ∀ a o, F' a = some o → HO.mutable o = false → F a = some o) : ∀ {xs : List OV} {vs : List V} {L : Cells}, OV.cleanL xs = true → OwnL M F' xs vs L → OwnL M F xs vs L
  | [], _, _, _, d => d
  | _ :: _, _, _, p, ⟨v, ws, A, B, e, d, r, q⟩ => by
    simp only [OV.cleanL, Bool.and_eq_true] at p
    exact ⟨v, ws, A, B, e, Own.clean k p.1 d, OwnL.clean k p.2 r, q⟩
theorem OwnK.clean (k : ∀ a o, F' a = some o → HO.mutable o = false → F a = some o) : ∀ {xs : List (Key × OV)} {vs : List (Key × V)} {L : Cells}, OV.cleanK xs = true → OwnK M F' xs vs L → OwnK M F xs vs L
  | [], _, _, _, d => d
  | (_, _) :: _, _, _, p, ⟨v, ws, A, B, e, d, r, q⟩ => by
    simp only [OV.cleanK, Bool.and_eq_true] at p
    exact ⟨v, ws, A, B, e, Own.clean k p.1 d, OwnK.clean k p.2 r, q⟩
theorem OwnA.clean (k : ∀ a o, F' a = some o → HO.mutable o = false → F a = some o) : ∀ {xs : List (Str × OV)} {vs : List (Str × V)} {L : Cells}, OV.cleanA xs = true → OwnA M F' xs vs L → OwnA M F xs vs L
  | [], _, _, _, d => d
  | (_, _) :: _, _, _, p, ⟨v, ws, A, B, e, d, r, q⟩ => by
    simp only [OV.cleanA, Bool.and_eq_true] at p
    exact ⟨v, ws, A, B, e, Own.clean k p.1 d, OwnA.clean k p.2 r, q⟩
end
theorem New.clean {o : OV} {v : V} (hf : Same F H) (n : New M (mutG F H) H H' o v) (p : o.clean = true) : New M F H H' o v := by
  obtain ⟨F', L, ff, fn, fh, hh, ow, gd⟩ := n
  refine ⟨backF F H F', L, fun a u e => ?_, fun a u e => ?_, fun a u e => ?_, hh, ow.clean (fun a o e m => backF_in fn e m) p, ⟨gd.nd, gd.hp, fun q hq => ?_, gd.zr⟩⟩
  · unfold backF
    rw [hf _ _ e]
    exact e
  · unfold backF at e
    cases h : H a with
    | none => exact .inr rfl
    | some z => rw [h] at e; exact .inl e
  · unfold backF at e
    cases h : H a with
    | none => rw [h] at e; exact fh _ _ e
    | some z => rw [h] at e; exact hh _ _ (hf _ _ e)
  · unfold backF
    rw [gd.zr q hq]
    exact gd.fr q hq
mutual
theorem Own.mut (hf : Same F H) : ∀ {x : OV} {v : V} {L : Cells}, Own M F x v L → (∀ p ∈ L, H p.1 = some p.2) → FDen M (mutG F H) x.fv v
  | .fz _, _, _, ⟨d, e⟩, _ => d.mono (mutG_F F H)
  | .ol _, _, _, ⟨a, vs, e, r, q⟩, c => ⟨a, vs, e, mutG_in (by subst q; exact c _ List.mem_cons_self) rfl hf, r.mono (mutG_F F H)⟩
  | .oK _, _, _, ⟨a, vs, e, r, q⟩, c => ⟨a, vs, e, mutG_in (by subst q; exact c _ List.mem_cons_self) rfl hf, r.mono (mutG_F F H)⟩
  | .oT _, _, _, ⟨a, vs, e, r, q⟩, c => ⟨a, vs, e, mutG_in (by subst q; exact c _ List.mem_cons_self) rfl hf, r.mono (mutG_F F H)⟩
  | .dl _, _, _, ⟨a, vs, L', e, r, q⟩, c => by
    subst q
    exact ⟨a, vs, e, mutG_in (c _ List.mem_cons_self) rfl hf, OwnL.mut hf r fun p hp => c p (List.mem_cons_of_mem _ hp)⟩
  | .dd _, _, _, ⟨a, vs, L', e, r, q⟩, c => by
    subst q
    exact ⟨a, vs, e, mutG_in (c _ List.mem_cons_self) rfl hf, OwnK.mut hf r fun p hp => c p (List.mem_cons_of_mem _ hp)⟩
  | .tp _, _, _, ⟨a, vs, e, q, r⟩, c => ⟨a, vs, e, mutG_F F H _ _ q, OwnL.mut hf r c⟩
  | .ob _ _ _, _, _, ⟨a, C, dx, ws, L', e, m, q, r, q2⟩, c => by
    subst q2
    exact ⟨a, C, dx, ws, e, m.1, mutG_in (c _ List.mem_cons_self) rfl hf, mutG_F F H _ _ q, OwnA.mut hf r fun p hp => c p (List.mem_cons_of_mem _ hp)⟩
  | .oN _, _, _, ⟨a, kb, e, n, kt, q⟩, c => ⟨a, kb, e, mutG_in (by subst q; exact c _ List.mem_cons_self) rfl hf, n, kt.mono (mutG_F F H)⟩
theorem OwnL.mut (hf : Same F H) : ∀ {xs : List OV} {vs : List V} {L : Cells}, OwnL M F xs vs L → (∀ p ∈ L, H p.1 = some p.2) → FDenL M (mutG F H) (OV.fvL xs) vs
  | [], _, _, d, _ => d.1
  | _ :: _, _, _, ⟨v, ws, A, B, e, d, r, q⟩, c => by
    subst q
    exact ⟨v, ws, e, Own.mut hf d fun p hp => c p (List.mem_append_left _ hp), OwnL.mut hf r fun p hp => c p (List.mem_append_right _ hp)⟩
theorem OwnK.mut (hf : Same F H) : ∀ {xs : List (Key × OV)} {vs : List (Key × V)} {L : Cells}, OwnK M F xs vs L → (∀ p ∈ L, H p.1 = some p.2) → FDenK M (mutG F H) (OV.fvK xs) vs
  | [], _, _, d, _ => d.1
  | (_, _) :: _, _, _, ⟨v, ws, A, B, e, d, r, q⟩, c => by
    subst q
    exact ⟨v, ws, e, Own.mut hf d fun p hp => c p (List.mem_append_left _ hp), OwnK.mut hf r fun p hp => c p (List.mem_append_right _ hp)⟩
theorem OwnA.mut (hf : Same F H) : ∀ {xs : List (Str × OV)} {vs : List (Str × V)} {L : Cells}, OwnA M F xs vs L → (∀ p ∈ L, H p.1 = some p.2) → FDenA M (mutG F H) (OV.fvA xs) vs
  | [], _, _, d, _ => d.1
  | (_, _) :: _, _, _, ⟨v, ws, A, B, e, d, r, q⟩, c => by
    subst q
    exact ⟨v, ws, e, Own.mut hf d fun p hp => c p (List.mem_append_left _ hp), OwnA.mut hf r fun p hp => c p (List.mem_append_right _ hp)⟩
end
end
abbrev FM := List FV → Ans OV
def spF (M : Str → Option Value) (n : Nat) (m : FM) : Sp := fun vs H Q E => ∃ G as, Same G H ∧ vs.length = n ∧ FDenL M G as vs ∧ match m as with
  | .ok o => ∀ v H', New M G H H' o v → Q v H'
  | .ex c => ∀ C H', M c = some (.ref C) → Same H H' → E (.ref C) none H'
  | .no => False
def Rv.isFz (r : Rv) : Bool := match r.ov with
  | .fz _ => true
  | _ => false
def dCall (m : FM) (g : VEnv → Ans (List Rv)) : DE := fun env => (g env).bind fun rs => (m (rs.map Rv.fv)).bind fun o => if rs.all Rv.isFz || o.clean then .ok (.st o) else .no
def dFrz (f : DE) : DE := fun env => (f env).bind fun r => match r with
  | .st o => .ok (.st (.fz o.fv))
  | .bo o => .ok (.bo o)
theorem zip_den {M : Str → Option Value} {F H : Hp} (hf : Same F H) : ∀ {rs : List Rv} {vs : List V}, vs.length = rs.length → (∀ p ∈ vs.zip rs, Bor M F H p.2.ov p.1) → FDenL M (mutG F H) (rs.map Rv.fv) vs
  | [], vs, hl, _ => List.eq_nil_of_length_eq_zero hl
  | r :: rs, [], hl, _ => by simp at hl
  | r :: rs, v :: vs, hl, h => ⟨v, vs, rfl, (let ⟨A, d, c⟩ := h (v, r) (by simp); d.mut hf c), zip_den hf (by simpa using hl) fun p hp => h p (by rw [List.zip_cons_cons]; exact List.mem_cons_of_mem _ hp)⟩
theorem zip_denF {M : Str → Option Value} {F H : Hp} : ∀ {rs : List Rv} {vs : List V}, rs.all Rv.isFz = true → vs.length = rs.length → (∀ p ∈ vs.zip rs, Bor M F H p.2.ov p.1) → FDenL M F (rs.map Rv.fv) vs
  | [], vs, _, hl, _ => List.eq_nil_of_length_eq_zero hl
  | r :: rs, [], _, hl, _ => by simp at hl
  | r :: rs, v :: vs, ha, hl, h => by
    rw [List.all_cons, Bool.and_eq_true] at ha
    refine ⟨v, vs, rfl, ?_, zip_denF ha.2 (by simpa using hl) fun p hp => h p (by rw [List.zip_cons_cons]; exact List.mem_cons_of_mem _ hp)⟩
    have hb := h (v, r) (by simp)
    have h1 := ha.1
    unfold Rv.isFz at h1
    split at h1
    · rename_i x e
      rw [show (v, r).2.ov = r.ov from rfl, e] at hb
      show FDen M F r.ov.fv v
      rw [e]
      exact hb.fz
    · cases h1
def DL (g : VEnv → Ans (List Rv)) (n : Nat) : Prop := ∀ env rs, g env = .ok rs → rs.length = n
theorem dl_nil : DL dNil 0 := fun env rs h => by cases h; rfl
theorem dl_cons {f : DE} {g : VEnv → Ans (List Rv)} {n : Nat} (h : DL g n) : DL (dCons f g) (n + 1) := fun env rs e => by
  unfold dCons at e
  cases e1 : f env with
  | ok r =>
    rw [e1] at e
    cases e2 : g env with
    | ok rs' =>
      simp only [Ans.bind, e2] at e
      cases e
      rw [List.length_cons, h env rs' e2]
    | ex c => simp only [Ans.bind, e2] at e; cases e
    | no => simp only [Ans.bind, e2] at e; cases e
  | ex c => rw [e1] at e; cases e
  | no => rw [e1] at e; cases e
section
variable {M : Str → Option Value} {G Z H F : Hp} {σ : Sl} {env : VEnv} {T T2 : List (V × Rv)} {W : WX} {Q : VK} {C1 C2 : Cells}
theorem TmpOwn.freeze {v : V} {o : OV} {L : Cells} (t : TmpOwn M F H ((v, .st o) :: T) L) : ∃ A B, L = A ++ B ∧ Own M F o v A ∧ TmpOwn M F H T B := by
  cases t with
  | st d t => exact ⟨_, _, rfl, d, t⟩
theorem R.frz {v : V} {o : OV} (r : R M G Z H σ env ((v, .st o) :: T)) : R M G Z H σ env ((v, .st (.fz o.fv)) :: T) := by
  obtain ⟨F, C1, C2, r⟩ := r
  obtain ⟨A, B, e, d, t⟩ := r.tm.freeze
  subst e
  obtain ⟨i1, i2, i3, i4, i5, i6⟩ := r.ice (A := A) (Lr := C1 ++ B) (by rw [← List.append_assoc, ← List.append_assoc]; exact List.perm_append_comm.append_right _)
  exact ⟨updL F A, C1, B, i1, i2, i4, r.zh, r.ev.mono i3, .st (A := []) ⟨d.fden i3 i6, rfl⟩ (t.mono i3 (Same.refl _)), i5⟩
end
section
variable {X : Cx} {W : WX} {pos p : Pos} {x : Str} {e : Expr} {es : List Expr} {f : DE} {g : VEnv → Ans (List Rv)} {m : FM} {k : Nat} {fa : Addr} {fd : FuncData} {ps : List Str} {n : Nat}
theorem je_frz (h : JE X W e f) : JE X W e (dFrz f) := by
  refine PE.imp h fun σ H Q ⟨G, Z, env, T, r, p⟩ => ?_
  refine tE.bind r Sb.refl p fun x u H1 _ s1 r1 p1 => ?_
  cases x with
  | st o => exact p1 u H1 (Same.refl _) r1.frz
  | bo o => exact p1 u H1 (Same.refl _) r1
theorem call_red {vs : List V} {rs : List Rv} {G Z H : Hp} {σ : Sl} {env : VEnv} {T : List (V × Rv)} {Q : VK} (hl : vs.length = rs.length) (hn : rs.length = n) (r : R X.mg G Z H σ env (vs.zip rs ++ T))
    (p : Post X.mg W G Z σ env T Q H ((m (rs.map Rv.fv)).bind fun o => if rs.all Rv.isFz || o.clean then .ok (.st o) else .no)) : spF X.mg n m vs H Q fun cls d H => W cls d σ H := by
  obtain ⟨F, C1, C2, r⟩ := r
  have hb : ∀ p ∈ vs.zip rs, Bor X.mg F H p.2.ov p.1 := fun p hp => r.bor (List.mem_append_left _ hp)
  have hs : Sb T (vs.zip rs ++ T) := ⟨vs.zip rs, List.perm_append_comm⟩
  cases ha : rs.all Rv.isFz with
  | true =>
    refine ⟨F, rs.map Rv.fv, r.fh, by rw [hl, hn], zip_denF ha hl hb, ?_⟩
    cases em : m (rs.map Rv.fv) with
    | ok o =>
      rw [em] at p
      simp only [Ans.bind, ha, Bool.true_or, if_true] at p
      exact fun v H' nw => p v H' (let ⟨_, _, n⟩ := nw; n.hh) ((r.new nw).sb hs.both)
    | ex c =>
      rw [em] at p
      exact fun C H' mc s => p C H' mc s ((r.same s).r.sb hs)
    | no => rw [em] at p; exact p
  | false =>
    refine ⟨mutG F H, rs.map Rv.fv, mutG_H r.fh, by rw [hl, hn], zip_den r.fh hl hb, ?_⟩
    cases em : m (rs.map Rv.fv) with
    | ok o =>
      rw [em] at p
      simp only [Ans.bind, ha, Bool.false_or] at p
      split at p
      · rename_i hc
        exact fun v H' nw => p v H' (let ⟨_, _, n⟩ := nw; n.hh) ((r.new (nw.clean r.fh hc)).sb hs.both)
      · exact p.elim
    | ex c =>
      rw [em] at p
      exact fun C H' mc s => p C H' mc s ((r.same s).r.sb hs)
    | no => rw [em] at p; exact p
theorem je_call (tk : Takes X W) (F : FnOk X.prog X.w X.K X.mg X.base (L2.CX X.prog X.w) k fa fd ps (spF X.mg n m)) (hr : Room k X.A) (hm : X.mg x = some (.ref fa)) (hk : PySem.W.keepIn X.K (.ref fa) = true) (hb : Binds X.K fd ps []) (ha : JA X W (e :: es) g)
    (hl : (e :: es).length = n := by rfl) (hgl : DL g (e :: es).length := by repeat (first | exact dl_nil | refine dl_cons ?_)) (hg : Gl X x := by rfl) (hdb : (x == ("__debug__" : Str)) = false := by decide)
    (he : starEach (e :: es) X.env = (false, eval e X.env) :: starEach es X.env := by rfl) (hpl : (backTo pos (starEach es X.env)).any (·.1) = false := by rfl) : JE X W (.Call (.Name x p) (e :: es) [] pos) (dCall m g) := by
  refine PE.imp (pe_callS F hr hg hm hk hb (E := WE W) (passAt tk) ha hdb he hpl) fun σ H Q ⟨G, Z, env, T, r, p⟩ => ?_
  exact tA.bind r Sb.refl p fun rs vs H1 eg hlv s1 r1 p1 => call_red hlv (by rw [hgl env rs eg, hl]) r1 p1
end
end J
namespace J
open PySem PySem.Spec PyProof.Rows L2
def AllSt (T : List (V × Rv)) : Prop := ∀ p ∈ T, ∃ o, p.2 = .st o
def PostS (M : Str → Option Value) (W : WX) (G Z : Hp) (T : List (V × Rv)) (D : Ends) : Ans SO → Prop
  | .ok (.nx e) => ∀ σ' H', R M G Z H' σ' e T → D.nx σ' H'
  | .ok (.rt o e) => ∀ v σ' H', R M G Z H' σ' e ((v, .st o) :: T) → D.rt v H'
  | .ok (.bk e) => ∀ σ' H', R M G Z H' σ' e T → D.bk σ' H'
  | .ok (.ct e) => ∀ σ' H', R M G Z H' σ' e T → D.ct σ' H'
  | .ex c => ∀ C σ' H', M c = some (.ref C) → Same Z H' → W (.ref C) none σ' H'
  | .no => False
def sJ (M : Str → Option Value) (W : WX) (f : DS) : TS := fun D σ H => ∃ G Z env T, AllSt T ∧ R M G Z H σ env T ∧ PostS M W G Z T D (f env)
abbrev JS (X : Cx) (W : WX) (st : Stmt) (f : DS) : Prop := PS X st (sJ X.mg W f)
abbrev JSs (X : Cx) (W : WX) (st : List Stmt) (f : DS) : Prop := PSs X st (sJ X.mg W f)
theorem PS.imp {X : Cx} {st : Stmt} {t t' : TS} (p : PS X st t) (h : ∀ D σ H, t' D σ H → t D σ H) : PS X st t' := ⟨fun pins s σ H D I q => p.run pins s σ H D I (h D σ H q)⟩
theorem PSs.imp {X : Cx} {st : List Stmt} {t t' : TS} (p : PSs X st t) (h : ∀ D σ H, t' D σ H → t D σ H) : PSs X st t' := ⟨fun pins s σ H D I q => p.run pins s σ H D I (h D σ H q)⟩
def SO.bind (x : Ans SO) (f : VEnv → Ans SO) : Ans SO := match x with
  | .ok (.nx e) => f e
  | x => x
def dSkip : DS := fun env => .ok (.nx env)
def dSeq (f g : DS) : DS := fun env => SO.bind (f env) g
def dSet (i : Nat) (f : DE) : DS := fun env => (f env).bind fun r => match r with
  | .st o => .ok (.nx (env.set i (some o)))
  | .bo _ => .no
def dRet (f : DE) : DS := fun env => (f env).bind fun r => match r with
  | .st o => .ok (.rt o env)
  | .bo _ => .no
def dRetV (i : Nat) : DS := fun env => match env[i]? with
  | some (some o) => .ok (.rt o (env.set i none))
  | _ => .no
def dIf (c : DT) (f g : DS) : DS := fun env => (c env).bind fun b => if b then f env else g env
def dIce (i : Nat) (f : DS) : DS := fun env => match env[i]? with
  | some (some o) => f (env.set i (some (.fz o.fv)))
  | _ => f env
section
variable {M : Str → Option Value} {G Z H F : Hp} {σ : Sl} {env : VEnv} {T T2 : List (V × Rv)} {W : WX} {C1 C2 : Cells} {D : Ends}
theorem tE.bindS {f : DE} {k : Rv → Ans SO} {Q1 : VK} (r : R M G Z H σ env T) (p : PostS M W G Z T D ((f env).bind k))
    (h : ∀ rv v H1, f env = .ok rv → Same H H1 → R M G Z H1 σ env ((v, rv) :: T) → PostS M W G Z T D (k rv) → Q1 v H1) : tE M W f σ H Q1 := by
  refine tE.then r Sb.refl (fun rv v H1 e s r => h rv v H1 e s r ?_) (fun c C H1 e m s r => ?_) fun e => ?_
  · rw [e] at p; exact p
  · rw [e] at p
    obtain ⟨_, _, _, r⟩ := r
    exact p C σ H1 m r.zh
  · rw [e] at p; exact p
theorem tT.bindS {f : DT} {k : Bool → Ans SO} {Q1 : Bool → Hp → Prop} (r : R M G Z H σ env T) (p : PostS M W G Z T D ((f env).bind k))
    (h : ∀ b H1, f env = .ok b → Same H H1 → R M G Z H1 σ env T → PostS M W G Z T D (k b) → Q1 b H1) : tT M W f σ H Q1 := by
  refine ⟨G, Z, env, T, r, ?_⟩
  cases e : f env with
  | ok b =>
    rw [e] at p
    exact fun H1 s r => h b H1 e s r p
  | ex c =>
    rw [e] at p
    exact fun C H1 m s r => let ⟨_, _, _, r⟩ := r; p C σ H1 m r.zh
  | no => rw [e] at p; exact p
theorem PostS.seq {f : DS} {g : DS} (p : PostS M W G Z T D (SO.bind (f env) g)) (hT : AllSt T) : PostS M W G Z T { D with nx := sJ M W g D } (f env) := by
  unfold SO.bind at p
  split at p
  · rename_i e e1
    rw [e1]
    exact fun σ' H' r => ⟨G, Z, e, T, hT, r, p⟩
  · rename_i x hx
    cases e : f env with
    | ok s =>
      rw [e] at p hx
      cases s with
      | nx e2 => exact absurd rfl (hx e2)
      | rt o e2 => exact p
      | bk e2 => exact p
      | ct e2 => exact p
    | ex c => rw [e] at p; exact p
    | no => rw [e] at p; exact p
end
section
variable {X : Cx} {W : WX} {pos pos' : Pos} {e : Expr} {st : Stmt} {rest a b : List Stmt} {f g : DS} {fe : DE} {c : Expr} {fc : DT}
theorem jss_nil : JSs X W [] dSkip := PSs.imp pss_nil fun D σ H ⟨G, Z, env, T, hT, r, p⟩ => p σ H r
theorem jss_cons (h1 : JS X W st f) (h2 : JSs X W rest g) : JSs X W (st :: rest) (dSeq f g) :=
  PSs.imp (pss_cons h1 h2) fun D σ H ⟨G, Z, env, T, hT, r, p⟩ => ⟨G, Z, env, T, hT, r, p.seq hT⟩
theorem jss_one (h1 : JS X W st f) : JSs X W [st] f := pss_one h1
theorem js_set (i : Nat) {x : Str} (hN : X.N.Nodup) (he : JE X W e fe) (hi : X.N[i]? = some x := by rfl) (hx : Loc X.env.scope x := by first | exact .inl rfl | exact .inr rfl) (hs : swapsWith e (some (.Name x pos')) pos.line X.env = pure false := by rfl)
    (hf : X.fn x = true ∨ X.env.scope.names.lookup x = some .local := by first | exact .inl rfl | exact .inr rfl) : JS X W (.Assign [.Name x pos'] e pos) (dSet i fe) :=
  PS.imp (ps_set hN hi hx he hs hf) fun D σ H ⟨G, Z, env, T, hT, r, p⟩ => tE.bindS r p fun rv v H1 _ s r1 p1 => by
    cases rv with
    | st o => exact p1 _ _ (r1.set i)
    | bo o => exact p1.elim
theorem js_ret (he : JE X W e fe) : JS X W (.Return (some e) pos) (dRet fe) :=
  PS.imp (ps_ret he) fun D σ H ⟨G, Z, env, T, hT, r, p⟩ => tE.bindS r p fun rv v H1 _ s r1 p1 => by
    cases rv with
    | st o => exact p1 v σ H1 r1
    | bo o => exact p1.elim
theorem R.take {M : Str → Option Value} {G Z H : Hp} {σ : Sl} {env : VEnv} {T : List (V × Rv)} {o : OV} {i : Nat} (r : R M G Z H σ env T) (h : env[i]? = some (some o)) : ∃ v, σ[i]? = some (some v) ∧ R M G Z H σ (env.set i none) ((v, .st o) :: T) := by
  obtain ⟨F, C1, C2, r⟩ := r
  obtain ⟨v, A, Lr, h1, h2, h3, h4, h5⟩ := r.ev.repl h
  refine ⟨v, h1, F, Lr, A ++ C2, r.gf, r.fg, r.fh, r.zh, ?_, .st h2 r.tm, r.gd.perm ?_⟩
  · have h6 := h5 (some v)
    have e : σ.set i (some v) = σ := by
      apply List.ext_getElem?
      intro j
      by_cases hj : i = j
      · subst hj
        obtain ⟨hlt, _⟩ := List.getElem?_eq_some_iff.mp h1
        rw [List.getElem?_set_self hlt, h1]
      · rw [List.getElem?_set_ne hj]
    rw [e] at h6
    exact h6
  · refine (h3.append_right C2).trans ?_
    rw [← List.append_assoc]
    exact List.perm_append_comm.append_right _
theorem js_retV (i : Nat) {x : Str} (hN : X.N[i]? = some x := by rfl) (hv : Vis X.env.scope x := by first | exact Or.inl rfl | exact Or.inr (Or.inl rfl) | exact Or.inr (Or.inr rfl)) (hd : (x == ("__debug__" : Str)) = false := by decide)
    (hcd : (x == ("__classdict__" : Str)) = false := by decide) : JS X W (.Return (some (.Name x pos')) pos) (dRetV i) := by
  refine PS.imp (ps_ret (pe_var hN hv hd hcd)) fun D σ H ⟨G, Z, env, T, hT, r, p⟩ => ?_
  have hp : PostS X.mg W G Z T D (dRetV i env) := p
  unfold dRetV at hp
  split at hp
  · rename_i o e
    obtain ⟨v, h1, r1⟩ := r.take e
    exact ⟨v, h1, hp v σ H r1⟩
  · exact hp.elim
theorem js_if (hc : JT X W c fc) (ha : JSs X W a f) (hb : JSs X W b g) : JS X W (.If c a b pos) (dIf fc f g) := by
  refine PS.imp (ps_if hc ha hb) fun D σ H ⟨G, Z, env, T, hT, r, p⟩ => tT.bindS r p fun b H1 _ s r1 p1 => ?_
  cases b with
  | true =>
    rw [if_pos rfl] at p1 ⊢
    exact ⟨G, Z, env, T, hT, r1, p1⟩
  | false =>
    rw [if_neg Bool.false_ne_true] at p1 ⊢
    exact ⟨G, Z, env, T, hT, r1, p1⟩
theorem js_ice (i : Nat) (h : JS X W st f) : JS X W st (dIce i f) := by
  refine PS.imp h fun D σ H ⟨G, Z, env, T, hT, r, p⟩ => ?_
  have hp : PostS X.mg W G Z T D (dIce i f env) := p
  unfold dIce at hp
  split at hp
  · rename_i o e
    exact ⟨G, Z, _, T, hT, r.freeze e, hp⟩
  · exact ⟨G, Z, env, T, hT, r, hp⟩
end
def startE (n : Nat) (as : List FV) : VEnv := as.map (fun x => some (.fz x)) ++ List.replicate (n - as.length) none
def runF (n : Nat) (f : DS) : FM := fun as => match f (startE n as) with
  | .ok (.nx _) => .ok (.fz .non)
  | .ok (.rt o _) => .ok o
  | .ex c => .ex c
  | _ => .no
theorem env_none {M : Str → Option Value} {F : Hp} : ∀ (σ : Sl) , EnvOwn M F σ (List.replicate σ.length none) []
  | [] => .nil
  | s :: σ => .skip (env_none σ)
theorem env_start {M : Str → Option Value} {F : Hp} (σ2 : Sl) : ∀ {as : List FV} {vs : List V}, FDenL M F as vs → EnvOwn M F (vs.map some ++ σ2) (as.map (fun x => some (.fz x)) ++ List.replicate σ2.length none) []
  | [], vs, d => by rw [show vs = [] from d]; exact env_none σ2
  | a :: as, _, ⟨v, ws, e, d, r⟩ => by
    rw [e]
    exact .cons (A := []) (B := []) ⟨d, rfl⟩ (env_start σ2 r)
theorem r_start {M : Str → Option Value} {G H : Hp} {as : List FV} {vs : List V} {N : List Str} (hg : Same G H) (d : FDenL M G as vs) : R M G H H (L2.start N vs) (startE N.length as) [] := by
  refine ⟨G, [], [], Same.refl _, fun a o e => .inl e, hg, Same.refl _, ?_, .nil, Good.nil⟩
  unfold L2.start startE
  rw [d.length]
  have := env_start (M := M) (F := G) (List.replicate (N.length - as.length) none) d
  rw [List.length_replicate] at this
  exact this
section
variable {P : Program} {w : World} {K : PySem.W.Frag} {mg : Str → Option Value} {base : Heap}
theorem run_post {M : Str → Option Value} {G H : Hp} {as : List FV} {n : Nat} {f : DS} {Q : VK} {E : XK}
    (p : match runF n f as with | .ok o => ∀ v H', New M G H H' o v → Q v H' | .ex c => ∀ C H', M c = some (.ref C) → Same H H' → E (.ref C) none H' | .no => False) :
    PostS M (fun cls d _ H => E cls d H) G H [] { nx := fun _ H' => Q .non H', rt := Q } (f (startE n as)) := by
  have key : ∀ {o : OV} {v : V} {σ' : Sl} {e : VEnv} {H' : Hp}, R M G H H' σ' e [(v, .st o)] → New M G H H' o v := by
    intro o v σ' e H' ⟨F, C1, C2, r⟩
    obtain ⟨A, B, e1, d, t⟩ := r.tm.freeze
    cases t
    rw [List.append_nil] at e1
    subst e1
    have g := r.gd.right
    exact ⟨F, C2, r.gf, r.fg, r.fh, r.zh, d, ⟨g.nd, g.hp, g.fr, g.zr⟩⟩
  unfold runF at p
  cases e : f (startE n as) with
  | ok s =>
    rw [e] at p
    cases s with
    | nx e2 =>
      intro σ' H' ⟨F, C1, C2, r⟩
      exact p .non H' (key (r.new (New.non r.fh)))
    | rt o e2 => exact fun v σ' H' r => p v H' (key r)
    | bk e2 => exact p.elim
    | ct e2 => exact p.elim
  | ex c =>
    rw [e] at p
    exact fun C σ' H' m s => p C H' m s
  | no => rw [e] at p; exact p
theorem ok_of {x qual : Str} {st : Stmt} {f : Addr} {fd : FuncData} {N ps : List Str} {k : Nat} {fD : DS} (F : Fun K x qual st f fd) (S : FnScope N ps (defScope st))
    (hb : ∀ (cdv : Value) (A : Around) (outer : List PySem.Env) (s : Shared) (H : Hp) (E : XK), Room k (A.deeper (envOfC qual (defScope st) s.heap.objs.size f cdv)) →
      Takes (cxOf (L2.CX P w) P w K mg base N qual (defScope st) f cdv A outer s H E) (fun cls d _ H => E cls d H) →
      PassesOwn (model P w) (A.deeper (envOfC qual (defScope st) s.heap.objs.size f cdv)) (envOfC qual (defScope st) s.heap.objs.size f cdv) (cxOf (L2.CX P w) P w K mg base N qual (defScope st) f cdv A outer s H E).xe →
      JSs (cxOf (L2.CX P w) P w K mg base N qual (defScope st) f cdv A outer s H E) (fun cls d _ H => E cls d H) (defBody st) fD) :
    FnOk P w K mg base (L2.CX P w) (k + 1) f fd ps (spF mg ps.length (runF N.length fD)) := by
  refine F.okX S (fun vs H Q E ⟨G, as, h1, h2, _⟩ => h2) fun cdv A outer s H vs Q E hr ⟨G, as, h1, h2, h3, p⟩ => ?_
  exact ⟨_, hb cdv A outer s H E hr (takes_of rfl rfl rfl rfl) (passes_of rfl), G, H, _, [], (fun _ h => nomatch h), r_start h1 h3, run_post p⟩
end
end J
namespace J
open PySem PySem.Spec PyProof.Rows L2
end J
namespace J
open PySem PySem.Spec PyProof.Rows L2 RZ
def WalkJ (M : Str → Option Value) (J : It) (kept : List (V × Rv)) (items : List FV) : Prop :=
  ∀ F H i, Same F H → (∀ p ∈ kept, Bor M F H p.2.ov p.1) → (∀ x, items[i]? = some x → J.go i H ∧ ∀ v H', J.yld i H v H' → New M F H H' (.fz x) v) ∧ (items.length ≤ i → J.stop i H)
def PostI (M : Str → Option Value) (W : WX) (G Z : Hp) (σ : Sl) (env : VEnv) (T : List (V × Rv)) (Q : It → Hp → Prop) (H : Hp) : Ans (List FV) → Prop
  | .ok items => ∀ J H' kept, AllSt kept → Same H H' → R M G Z H' σ env (kept ++ T) → WalkJ M J kept items → Q J H'
  | .ex c => ∀ C H', M c = some (.ref C) → Same H H' → R M G Z H' σ env T → W (.ref C) none σ H'
  | .no => False
def tI (M : Str → Option Value) (W : WX) (f : VEnv → Ans (List FV)) : TI := fun σ H Q => ∃ G Z env T, R M G Z H σ env T ∧ PostI M W G Z σ env T Q H (f env)
abbrev JI (X : Cx) (W : WX) (tg e : Expr) (f : VEnv → Ans (List FV)) : Prop := PI X tg e (tI X.mg W f)
theorem PI.imp {X : Cx} {tg e : Expr} {t t' : TI} (p : PI X tg e t) (h : ∀ σ H Q, t' σ H Q → t σ H Q) : PI X tg e t' := ⟨fun pins s σ H Q I q => p.run pins s σ H Q I (h σ H Q q)⟩
theorem PI.or {X : Cx} {tg e : Expr} {t t' : TI} (p : PI X tg e t) (p' : PI X tg e t') : PI X tg e (fun σ H Q => t σ H Q ∨ t' σ H Q) := ⟨fun pins s σ H Q I q => q.elim (p.run pins s σ H Q I) (p'.run pins s σ H Q I)⟩
section
variable {M : Str → Option Value} {G Z H F : Hp} {σ : Sl} {env : VEnv} {T T2 : List (V × Rv)} {W : WX} {C1 C2 : Cells}
theorem PostI.later {x : Ans (List FV)} {Q : It → Hp → Prop} {H1 : Hp} (p : PostI M W G Z σ env T Q H x) (h : Same H H1) : PostI M W G Z σ env T Q H1 x := by
  cases x with
  | ok r => exact fun J H' kp hk s r w => p J H' kp hk (h.trans s) r w
  | ex c => exact fun C H' m s r => p C H' m (h.trans s) r
  | no => exact p
theorem tE.bindI {f : DE} {k : Rv → Ans (List FV)} {Q1 : VK} {Q : It → Hp → Prop} (r : R M G Z H σ env T2) (hs : Sb T T2) (p : PostI M W G Z σ env T Q H ((f env).bind k))
    (h : ∀ rv v H1, f env = .ok rv → Same H H1 → R M G Z H1 σ env ((v, rv) :: T2) → PostI M W G Z σ env T Q H1 (k rv) → Q1 v H1) : tE M W f σ H Q1 := by
  refine tE.then r hs (fun rv v H1 e s r => h rv v H1 e s r ?_) (fun c C H1 e m s r => ?_) fun e => ?_
  · rw [e] at p; exact p.later s
  · rw [e] at p; exact p C H1 m s r
  · rw [e] at p; exact p
theorem tA.bindI {f : VEnv → Ans (List Rv)} {k : List Rv → Ans (List FV)} {Q1 : List V → Hp → Prop} {Q : It → Hp → Prop} (r : R M G Z H σ env T2) (hs : Sb T T2) (p : PostI M W G Z σ env T Q H ((f env).bind k))
    (h : ∀ rs vs H1, f env = .ok rs → vs.length = rs.length → Same H H1 → R M G Z H1 σ env (vs.zip rs ++ T2) → PostI M W G Z σ env T Q H1 (k rs) → Q1 vs H1) : tA M W f σ H Q1 := by
  refine ⟨G, Z, env, T2, r, ?_⟩
  cases e : f env with
  | ok rs =>
    rw [e] at p
    exact fun vs H1 hl s r => h rs vs H1 e hl s r (p.later s)
  | ex c =>
    rw [e] at p
    exact fun C H1 m s r => p C H1 m s (r.sb hs)
  | no => rw [e] at p; exact p
end
theorem walk_list {M : Str → Option Value} {K : PySem.W.Frag} {a : Addr} {o : OV} {xs : List FV} (e : o.lst? = some xs) : WalkJ M (Itl K a) [(.ref a, .st o)] xs := fun F H i hf hk => by
  obtain ⟨a', vs, ea, q, d⟩ := (hk _ (List.mem_singleton_self _)).lst hf e
  cases ea
  refine ⟨fun x hx => ?_, fun hi => ⟨vs, SqL.of q, by rw [d.length]; exact hi⟩⟩
  obtain ⟨v, h1, h2⟩ := d.get hx
  refine ⟨⟨vs, v, SqL.of q, h1⟩, fun w H' ⟨e1, e2⟩ => ?_⟩
  have e3 := e2 vs (SqL.of q)
  rw [h1] at e3
  cases e3
  rw [e1]
  exact New.old hf h2
theorem walk_tup {M : Str → Option Value} {K : PySem.W.Frag} {a : Addr} {y : FV} {xs : List FV} (e : y.tup? = some xs) : WalkJ M (Itt K a) [(.ref a, .st (.fz y))] xs := fun F H i hf hk => by
  obtain ⟨a', vs, ea, q, d⟩ := FDen.tupT (K := K) (hk _ (List.mem_singleton_self _)).fz e
  cases ea
  have q := SqT.sameS hf q
  refine ⟨fun x hx => ?_, fun hi => ⟨vs, q, by rw [d.length]; exact hi⟩⟩
  obtain ⟨v, h1, h2⟩ := d.get hx
  refine ⟨⟨vs, v, q, h1⟩, fun w H' ⟨e1, e2⟩ => ?_⟩
  have e3 := e2 vs q
  rw [h1] at e3
  cases e3
  rw [e1]
  exact New.old hf h2
theorem walk_str {M : Str → Option Value} {z : Str} {kept : List (V × Rv)} : WalkJ M (Its z) kept (z.cps.toList.map fun c => .str ⟨#[c]⟩) := fun F H i hf _ => by
  refine ⟨fun x hx => ?_, fun hi => ?_⟩
  · rw [List.getElem?_map] at hx
    obtain ⟨c, h1, h2⟩ := Option.map_eq_some_iff.mp hx
    subst h2
    rw [Array.getElem?_toList] at h1
    refine ⟨?_, fun v H' ⟨e1, c', h3, h4⟩ => ?_⟩
    · show i < z.cps.size
      exact (Array.getElem?_eq_some_iff.mp h1).1
    · rw [h1] at h3
      cases h3
      rw [e1, h4]
      exact New.str hf
  · show z.cps.size ≤ i
    rw [List.length_map, Array.length_toList] at hi
    exact hi
theorem walk_range {M : Str → Option Value} {n : Nat} {kept : List (V × Rv)} : WalkJ M (Itr 0 n) kept ((List.range n).map fun i => .int (i : Nat)) := fun F H i hf _ => by
  refine ⟨fun x hx => ?_, fun hi => ?_⟩
  · rw [List.getElem?_map] at hx
    obtain ⟨c, h1, h2⟩ := Option.map_eq_some_iff.mp hx
    subst h2
    obtain ⟨h3, h4⟩ := List.getElem?_eq_some_iff.mp h1
    rw [List.length_range] at h3
    rw [List.getElem_range] at h4
    subst h4
    refine ⟨h3, fun v H' ⟨e1, e2⟩ => ?_⟩
    rw [e1, e2, Int.zero_add]
    exact New.int hf
  · show n ≤ i
    rw [List.length_map, List.length_range] at hi
    exact hi
def dItems (f : DE) : VEnv → Ans (List FV) := fun env => (f env).bind fun r => match r with
  | .st (.ol xs) => .ok xs
  | .st (.fz (.lst xs)) => .ok xs
  | .st (.fz (.tup xs)) => .ok xs
  | .st (.fz (.tuz xs)) => .ok xs
  | .st (.fz (.str z)) => .ok (z.cps.toList.map fun c => .str ⟨#[c]⟩)
  | _ => .no
def dRange (f : DE) : VEnv → Ans (List FV) := fun env => (f env).bind fun r => match r.ov with
  | .fz (.int n) => if n < 2 ^ 60 ∧ -(2 ^ 60) < n then .ok ((List.range n.toNat).map fun i => .int (i : Nat)) else .no
  | _ => .no
theorem allst1 {v : V} {o : OV} : AllSt [(v, .st o)] := fun p hp => by rw [List.mem_singleton] at hp; subst hp; exact ⟨o, rfl⟩
theorem allst0 : AllSt [] := fun _ h => nomatch h
section
variable {X : Cx} {W : WX} {pos p : Pos} {tg e e2 : Expr} {f g : DE}
theorem ji_items (he : JE X W e f) : JI X W tg e (dItems f) := by
  refine PI.imp (PI.or (pi_list he) (PI.or (pi_tup he) (pi_str he))) fun σ H Q ⟨G, Z, env, T, r, q⟩ => ?_
  have qq := q
  unfold dItems at qq
  cases ef : f env with
  | ex c =>
    refine .inl (tE.bindI r Sb.refl q fun x u H1 e1 s1 r1 p1 => ?_)
    rw [ef] at e1; cases e1
  | no => rw [ef] at qq; exact qq.elim
  | ok rv =>
    rw [ef] at qq
    simp only [Ans.bind] at qq
    split at qq
    · refine .inl (tE.bindI r Sb.refl q fun x u H1 e1 s1 r1 p1 => ?_)
      rw [ef] at e1; cases e1
      obtain ⟨F, C1, C2, r1⟩ := r1
      obtain ⟨a, vs, rfl, h1, d⟩ := (r1.bor List.mem_cons_self).lst r1.fh rfl
      exact ⟨a, rfl, ⟨vs, SqL.of h1⟩, p1 _ _ [_] allst1 (Same.refl _) r1.r (walk_list rfl)⟩
    · refine .inl (tE.bindI r Sb.refl q fun x u H1 e1 s1 r1 p1 => ?_)
      rw [ef] at e1; cases e1
      obtain ⟨F, C1, C2, r1⟩ := r1
      obtain ⟨a, vs, rfl, h1, d⟩ := (r1.bor List.mem_cons_self).lst r1.fh rfl
      exact ⟨a, rfl, ⟨vs, SqL.of h1⟩, p1 _ _ [_] allst1 (Same.refl _) r1.r (walk_list rfl)⟩
    · refine .inr (.inl (tE.bindI r Sb.refl q fun x u H1 e1 s1 r1 p1 => ?_))
      rw [ef] at e1; cases e1
      obtain ⟨F, C1, C2, r1⟩ := r1
      obtain ⟨a, vs, rfl, h1, d⟩ := FDen.tupT (K := X.K) (r1.bor List.mem_cons_self).fz rfl
      exact ⟨a, rfl, ⟨vs, SqT.sameS r1.fh h1⟩, p1 _ _ [_] allst1 (Same.refl _) r1.r (walk_tup rfl)⟩
    · refine .inr (.inl (tE.bindI r Sb.refl q fun x u H1 e1 s1 r1 p1 => ?_))
      rw [ef] at e1; cases e1
      obtain ⟨F, C1, C2, r1⟩ := r1
      obtain ⟨a, vs, rfl, h1, d⟩ := FDen.tupT (K := X.K) (r1.bor List.mem_cons_self).fz rfl
      exact ⟨a, rfl, ⟨vs, SqT.sameS r1.fh h1⟩, p1 _ _ [_] allst1 (Same.refl _) r1.r (walk_tup rfl)⟩
    · refine .inr (.inr (tE.bindI r Sb.refl q fun x u H1 e1 s1 r1 p1 => ?_))
      rw [ef] at e1; cases e1
      obtain ⟨F, C1, C2, r1⟩ := r1
      exact ⟨_, (r1.bor List.mem_cons_self).str, p1 _ _ [] allst0 (Same.refl _) r1.r.pop walk_str⟩
    · exact qq.elim
theorem ji_range (he : JE X W e f) (hm : X.mg "range" = none) (hg : Gl X "range" := by rfl) (hs : starEach [e] X.env = [(false, eval e X.env)] := by rfl) (hs2 : starEach [e] X.env = (false, eval e X.env) :: starEach [] X.env := by rfl) : JI X W tg (.Call (.Name "range" p) [e] [] pos) (dRange f) := by
  refine PI.imp (pi_range1 hg hm (pa_cons he pa_nil hs2) hs) fun σ H Q ⟨G, Z, env, T, r, q⟩ => ?_
  refine tE.bindI r Sb.refl q fun x u H1 e1 s1 ⟨F, C1, C2, r1⟩ p1 => ?_
  split at p1
  · rename_i n en
    split at p1
    · rename_i hn
      have hb : Bor X.mg F H1 x.ov u := r1.bor List.mem_cons_self
      rw [en] at hb
      exact ⟨n, by rw [hb.int], by omega, by omega, p1 _ _ [] allst0 (Same.refl _) r1.r.pop walk_range⟩
    · exact p1.elim
  · exact p1.elim
end
end J
namespace J
open PySem PySem.Spec PyProof.Rows L2
structure Only (vs : List Nat) (σ σ' : Sl) : Prop where
  len : σ'.length = σ.length
  get : ∀ j, j ∉ vs → σ'[j]? = σ[j]?
theorem Only.refl {vs : List Nat} {σ : Sl} : Only vs σ σ := ⟨rfl, fun _ _ => rfl⟩
theorem Only.set {vs : List Nat} {σ : Sl} {i : Nat} {x : Option V} (h : i ∈ vs) : Only vs σ (σ.set i x) := ⟨by simp, fun j hj => List.getElem?_set_ne fun e => hj (by rw [← e]; exact h)⟩
theorem Only.trans {vs : List Nat} {σ σ1 σ2 : Sl} (a : Only vs σ σ1) (b : Only vs σ1 σ2) : Only vs σ σ2 := ⟨b.len.trans a.len, fun j hj => (b.get j hj).trans (a.get j hj)⟩
theorem Only.mono {vs ws : List Nat} {σ σ' : Sl} (a : Only vs σ σ') (h : ∀ i ∈ vs, i ∈ ws) : Only ws σ σ' := ⟨a.len, fun j hj => a.get j fun z => hj (h j z)⟩
theorem wipe_get {σ : Sl} {j : Nat} : ∀ {vs : List Nat}, (wipe σ vs)[j]? = if j ∈ vs ∧ j < σ.length then some none else σ[j]?
  | [] => by simp [wipe]
  | v :: vs => by
    unfold wipe
    by_cases h : v = j
    · subst h
      by_cases hl : v < σ.length
      · rw [List.getElem?_set_self (by rw [wipe_length]; exact hl), if_pos ⟨List.mem_cons_self, hl⟩]
      · rw [if_neg (fun z => hl z.2), List.getElem?_eq_none (by rw [List.length_set, wipe_length]; omega), List.getElem?_eq_none (by omega)]
    · rw [List.getElem?_set_ne h, wipe_get]
      by_cases h2 : j ∈ vs
      · simp [h2, h]
      · simp [h2, Ne.symm h]
theorem Only.wipe {vs : List Nat} {σ σ' : Sl} (a : Only vs σ σ') : wipe σ' vs = wipe σ vs := by
  apply List.ext_getElem?
  intro j
  rw [wipe_get, wipe_get, a.len]
  by_cases h : j ∈ vs
  · by_cases h2 : j < σ.length
    · simp [h, h2]
    · rw [if_neg (fun z => h2 z.2), if_neg (fun z => h2 z.2), List.getElem?_eq_none (by rw [a.len]; omega), List.getElem?_eq_none (by omega)]
  · rw [if_neg (fun z => h z.1), if_neg (fun z => h z.1), a.get j h]
abbrev TgF := FV → VEnv → Option VEnv
def gJ (M : Str → Option Value) (vs : List Nat) (t : TgF) : TG := fun v σ H Q => ∃ G Z env T x, R M G Z H σ env ((v, .st (.fz x)) :: T) ∧ match t x env with
  | some e => ∀ σ', Only vs σ σ' → R M G Z H σ' e T → Q σ' H
  | none => False
abbrev JG (X : Cx) (tg : Expr) (vs : List Nat) (t : TgF) : Prop := PG X tg (gJ X.mg vs t)
theorem PG.imp {X : Cx} {tg : Expr} {t t' : TG} (p : PG X tg t) (h : ∀ v σ H Q, t' v σ H Q → t v σ H Q) : PG X tg t' := ⟨fun pins s σ H v u Q I r q => p.run pins s σ H v u Q I r (h v σ H Q q)⟩
def tName (i : Nat) : TgF := fun x env => some (env.set i (some (.fz x)))
def tTup2 (i j : Nat) : TgF := fun x env => match x with
  | .tup [a, b] => some ((env.set i (some (.fz a))).set j (some (.fz b)))
  | _ => none
theorem tTup2_some {i j : Nat} {x : FV} {env e : VEnv} (h : tTup2 i j x env = some e) : ∃ a b, x = .tup [a, b] ∧ e = (env.set i (some (.fz a))).set j (some (.fz b)) := by
  unfold tTup2 at h
  split at h
  · cases h; exact ⟨_, _, rfl, rfl⟩
  · cases h
section
variable {X : Cx} {pos p1 p2 : Pos} {x y : Str}
theorem jg_name (i : Nat) (hN : X.N.Nodup) (hi : X.N[i]? = some x := by rfl) (hx : Loc X.env.scope x := by first | exact .inl rfl | exact .inr rfl) (hf : X.fn x = true ∨ X.env.scope.names.lookup x = some .local := by first | exact .inl rfl | exact .inr rfl) : JG X (.Name x pos) [i] (tName i) :=
  PG.imp (pg_name hN hi hx hf) fun v σ H Q ⟨G, Z, env, T, y, r, q⟩ => q _ (Only.set (by simp)) (r.set i)
theorem jg_tup2 (i j : Nat) {k : Nat} (hc : X.calm = true) (hN : X.N.Nodup) (hi : X.N[i]? = some x := by rfl) (hx : Loc X.env.scope x := by first | exact .inl rfl | exact .inr rfl) (hf : X.fn x = true ∨ X.env.scope.names.lookup x = some .local := by first | exact .inl rfl | exact .inr rfl)
    (hj : X.N[j]? = some y := by rfl) (hy : Loc X.env.scope y := by first | exact .inl rfl | exact .inr rfl) (hf2 : X.fn y = true ∨ X.env.scope.names.lookup y = some .local := by first | exact .inl rfl | exact .inr rfl)
    (hn : (assignEach [.Name x p1, .Name y p2] X.env).length = 2 := by rfl) (hst : (assignEach [.Name x p1, .Name y p2] X.env).findIdx? (·.1) = none := by rfl)
    (hs : (assignEach [.Name x p1, .Name y p2] X.env).map (·.2) = assign (.Name x p1) X.env :: (assignEach [.Name y p2] X.env).map (·.2) := by rfl)
    (hs2 : (assignEach [.Name y p2] X.env).map (·.2) = assign (.Name y p2) X.env :: (assignEach [] X.env).map (·.2) := by rfl) : JG X (.Tuple [.Name x p1, .Name y p2] k pos) [i, j] (tTup2 i j) := by
  refine PG.imp (pg_tup hc (pgs_cons (pg_name hN hi hx hf) (pgs_cons (pg_name hN hj hy hf2) pgs_nil hs2) hs) hn hst) fun v σ H Q ⟨G, Z, env, T, z, ⟨F, C1, C2, r⟩, q⟩ => ?_
  cases et : tTup2 i j z env with
  | none => rw [et] at q; exact q.elim
  | some e =>
    rw [et] at q
    obtain ⟨a, b, e1, e2⟩ := tTup2_some et
    subst e1 e2
    have hb : Bor X.mg F H (.fz (.tup [a, b])) v := r.bor List.mem_cons_self
    obtain ⟨p, vs, e, h1, u, ws, e1, d1, w, ws2, e2, d2, e3⟩ := hb.fz
    rw [show _ = [] from e3] at e2
    rw [e2] at e1
    subst e1
    refine ⟨p, _, e, SqT.of (r.fh _ _ h1), rfl, u, [w], rfl, w, [], rfl, rfl, ?_⟩
    refine q _ ((Only.set (by simp)).trans (Only.set (by simp))) ?_
    have r1 : R X.mg G Z H σ env ((w, .st (.fz b)) :: (v, .st (.fz (.tup [a, b]))) :: T) := r.new (New.old r.fh d2)
    obtain ⟨F6, D5, D6, r6⟩ := r1.pop2
    have r0 : R X.mg G Z H σ env ((u, .st (.fz a)) :: (w, .st (.fz b)) :: T) := by
      obtain ⟨F7, D7, D8, r7⟩ := r1
      have hb2 : Bor X.mg F7 H (.fz (.tup [a, b])) v := r7.bor (List.mem_cons_of_mem _ List.mem_cons_self)
      obtain ⟨p', vs', e', h1', u', ws', e1', d1', _⟩ := hb2.fz
      cases e.symm.trans e'
      have hh := r7.fh _ _ h1'
      rw [r.fh _ _ h1] at hh
      cases hh
      cases e1'
      exact (r7.new (New.old r7.fh d1')).sb (Sb.both (Sb.both Sb.refl.cons))
    exact (r0.set i).set j
end
def loopK (k : VEnv → Ans SO) : SO → Ans SO
  | .nx e => k e
  | .ct e => k e
  | .bk e => .ok (.nx e)
  | .rt o e => .ok (.rt o e)
def forL (t : TgF) (body : DS) : List FV → VEnv → Ans SO
  | [], env => .ok (.nx env)
  | x :: xs, env => match t x env with
    | some e1 => (body e1).bind (loopK (forL t body xs))
    | none => .no
def dFor (it : VEnv → Ans (List FV)) (t : TgF) (body : DS) : DS := fun env => (it env).bind fun xs => forL t body xs env
theorem RF.kept {M : Str → Option Value} {G Z H F : Hp} {σ : Sl} {env : VEnv} {T kept : List (V × Rv)} {C1 C2 : Cells} (r : RF M G Z H F σ env (kept ++ T) C1 C2) : ∀ p ∈ kept, Bor M F H p.2.ov p.1 := fun p hp => r.bor (List.mem_append_left _ hp)
theorem AllSt.app {A B : List (V × Rv)} (a : AllSt A) (b : AllSt B) : AllSt (A ++ B) := fun p hp => (List.mem_append.mp hp).elim (a p) (b p)
theorem sb_app {A T : List (V × Rv)} : Sb T (A ++ T) := ⟨A, List.perm_append_comm⟩
section
variable {X : Cx} {W : WX} {pos : Pos} {tg iter : Expr} {body : List Stmt} {it : VEnv → Ans (List FV)} {t : TgF} {fb : DS} {vs : List Nat}
theorem js_for (hp : PassesOwn (model X.prog X.w) X.A X.env X.xe) (hc : X.calm = true) (hi : JI X W tg iter it) (hg : JG X tg vs t) (hb : JSs X W body fb) (hs : ∀ x, foldedSetIterable iter X.env x = pure x := by intro _; rfl) :
    JS X W (.For tg iter body [] pos) (dFor it t fb) := by
  refine PS.imp (ps_for hp hc hi hg hb hs) fun D σ H ⟨G, Z, env, T, hT, r, p⟩ => ?_
  refine ⟨G, Z, env, T, r, ?_⟩
  have hp := p
  unfold dFor at hp
  cases ei : it env with
  | no => rw [ei] at hp; exact hp.elim
  | ex c =>
    rw [ei] at hp
    exact fun C H' m s r' => let ⟨_, _, _, r'⟩ := r'; hp C σ H' m r'.zh
  | ok items =>
    rw [ei] at hp
    intro J H1 kept hk s1 r1 wk
    have hp : PostS X.mg W G Z T D (forL t fb items env) := hp
    refine ⟨fun i m σ H => i + m = items.length ∧ ∃ env, R X.mg G Z H σ env (kept ++ T) ∧ PostS X.mg W G Z T D (forL t fb (items.drop i) env), ⟨items.length, by omega, env, r1, by rw [List.drop_zero]; exact hp⟩, ?_⟩
    rintro i m σ H ⟨him, env, ⟨F, C1, C2, r⟩, hpost⟩
    obtain ⟨w1, w2⟩ := wk F H i r.fh r.kept
    by_cases hlt : i < items.length
    · obtain ⟨hgo, hy⟩ := w1 items[i] (List.getElem?_eq_getElem hlt)
      rw [List.drop_eq_getElem_cons hlt] at hpost
      have hpost : PostS X.mg W G Z T D (match t items[i] env with
        | some e1 => (fb e1).bind (loopK (forL t fb (items.drop (i + 1))))
        | none => .no) := hpost
      refine .inr ⟨hgo, fun σ' H' => ∃ env', R X.mg G Z H' σ' env' (kept ++ T) ∧ PostS X.mg W G Z T D (forL t fb (items.drop (i + 1)) env'), fun σ' H' ⟨env', r', p'⟩ => ⟨m - 1, by omega, by omega, env', r', p'⟩, fun v H' yl => ?_⟩
      refine ⟨G, Z, env, kept ++ T, items[i], r.new (hy v H' yl), ?_⟩
      cases et : t items[i] env with
      | none => rw [et] at hpost; exact hpost.elim
      | some e1 =>
        rw [et] at hpost
        intro σ' _ r2
        have hpost : PostS X.mg W G Z T D ((fb e1).bind (loopK (forL t fb (items.drop (i + 1))))) := hpost
        refine ⟨G, Z, e1, kept ++ T, hk.app hT, r2, ?_⟩
        cases eb : fb e1 with
        | no => rw [eb] at hpost; exact hpost.elim
        | ex c => rw [eb] at hpost; exact hpost
        | ok s =>
          rw [eb] at hpost
          cases s with
          | nx e => exact fun σ3 H3 r3 => ⟨e, r3, hpost⟩
          | ct e => exact fun σ3 H3 r3 => ⟨e, r3, hpost⟩
          | bk e => exact fun σ3 H3 r3 => hpost σ3 H3 (r3.sb sb_app)
          | rt o e => exact fun v σ3 H3 r3 => hpost v σ3 H3 (r3.sb sb_app.both)
    · refine .inl ⟨w2 (by omega), ?_⟩
      rw [List.drop_of_length_le (by omega)] at hpost
      exact hpost σ H (r.r.sb sb_app)
end
open Classical in
section
variable {X : Cx} {W : WX} {pos : Pos} {c : Expr} {body : List Stmt} {fc : DT} {fb : DS}
end
end J
namespace J
open PySem PySem.Spec PyProof.Rows L2 RZ
def kfz (p : V × Rv) : V × Rv := (p.1, .st (.fz p.2.fv))
def allFzE (env : VEnv) : Bool := env.all fun o => match o with
  | some (.fz _) => true
  | none => true
  | _ => false
def sbR (env : VEnv) : Rv → Bool
  | .st _ => true
  | .bo _ => !allFzE env
def PostC (M : Str → Option Value) (W : WX) (G Z : Hp) (σ : Sl) (env : VEnv) (T : List (V × Rv)) (Q : It → Hp → Prop) (H : Hp) : Ans (List FV) → Prop
  | .ok items => ∀ J H' kept, Same H H' → R M G Z H' σ env (kept ++ T) → WalkJ M J (kept.map kfz) items → (∀ p ∈ kept, sbR env p.2 = true) → Q J H'
  | .ex c => ∀ C H', M c = some (.ref C) → Same H H' → R M G Z H' σ env T → W (.ref C) none σ H'
  | .no => False
def tIC (M : Str → Option Value) (W : WX) (f : VEnv → Ans (List FV)) : TI := fun σ H Q => ∃ G Z env T, R M G Z H σ env T ∧ PostC M W G Z σ env T Q H (f env)
abbrev JC (X : Cx) (W : WX) (tg e : Expr) (f : VEnv → Ans (List FV)) : Prop := PI X tg e (tIC X.mg W f)
section
variable {M : Str → Option Value} {G Z H F : Hp} {σ : Sl} {env : VEnv} {T T2 : List (V × Rv)} {W : WX} {C1 C2 : Cells}
theorem PostC.later {x : Ans (List FV)} {Q : It → Hp → Prop} {H1 : Hp} (p : PostC M W G Z σ env T Q H x) (h : Same H H1) : PostC M W G Z σ env T Q H1 x := by
  cases x with
  | ok r => exact fun J H' kp s r w k => p J H' kp (h.trans s) r w k
  | ex c => exact fun C H' m s r => p C H' m (h.trans s) r
  | no => exact p
theorem tE.bindC {f : DE} {k : Rv → Ans (List FV)} {Q1 : VK} {Q : It → Hp → Prop} (r : R M G Z H σ env T2) (hs : Sb T T2) (p : PostC M W G Z σ env T Q H ((f env).bind k))
    (h : ∀ rv v H1, f env = .ok rv → Same H H1 → R M G Z H1 σ env ((v, rv) :: T2) → PostC M W G Z σ env T Q H1 (k rv) → Q1 v H1) : tE M W f σ H Q1 := by
  refine tE.then r hs (fun rv v H1 e s r => h rv v H1 e s r ?_) (fun c C H1 e m s r => ?_) fun e => ?_
  · rw [e] at p; exact p.later s
  · rw [e] at p; exact p C H1 m s r
  · rw [e] at p; exact p
end
def FV.items? : FV → Option (List FV)
  | .lst xs => some xs
  | .tup xs => some xs
  | .tuz xs => some xs
  | .str z => some (z.cps.toList.map fun c => .str ⟨#[c]⟩)
  | _ => none
def cItems (f : DE) : VEnv → Ans (List FV) := fun env => (f env).bind fun r => if sbR env r then Ans.of r.fv.items? else .no
section
variable {X : Cx} {W : WX} {pos p : Pos} {tg e e2 : Expr} {f g : DE}
theorem jc_items (he : JE X W e f) : JC X W tg e (cItems f) := by
  refine PI.imp (PI.or (pi_list he) (PI.or (pi_tup he) (pi_str he))) fun σ H Q ⟨G, Z, env, T, r, q⟩ => ?_
  have qq := q
  unfold cItems at qq
  cases ef : f env with
  | ex c =>
    refine .inl (tE.bindC r Sb.refl q fun x u H1 e1 s1 r1 p1 => ?_)
    rw [ef] at e1; cases e1
  | no => rw [ef] at qq; exact qq.elim
  | ok rv =>
    rw [ef] at qq
    simp only [Ans.bind] at qq
    by_cases hsb : sbR env rv = true
    rotate_left
    · rw [if_neg hsb] at qq; exact qq.elim
    rw [if_pos hsb] at qq
    have one : ∀ u : V, ∀ p ∈ [(u, rv)], sbR env p.2 = true := fun u p hp => by rw [List.mem_singleton.mp hp]; exact hsb
    cases ei : rv.fv.items? with
    | none => rw [ei] at qq; exact qq.elim
    | some items =>
      have ei' := ei
      unfold FV.items? at ei'
      split at ei'
      · rename_i xs ex
        cases ei'
        refine .inl (tE.bindC r Sb.refl q fun x u H1 e1 s1 r1 p1 => ?_)
        rw [ef] at e1; cases e1
        rw [if_pos hsb, ei] at p1
        obtain ⟨F, C1, C2, r1⟩ := r1
        have d : FDen X.mg H1 rv.fv u := (r1.bor (List.mem_cons_self (a := (u, rv)))).fden r1.fh
        rw [ex] at d
        obtain ⟨a, vs, rfl, h1, d⟩ := d
        refine ⟨a, rfl, ⟨vs, SqL.of h1⟩, p1 _ _ [(V.ref a, rv)] (Same.refl _) r1.r ?_ (one _)⟩
        show WalkJ X.mg _ [(V.ref a, .st (.fz rv.fv))] _
        rw [ex]
        exact walk_list rfl
      · rename_i xs ex
        cases ei'
        refine .inr (.inl (tE.bindC r Sb.refl q fun x u H1 e1 s1 r1 p1 => ?_))
        rw [ef] at e1; cases e1
        rw [if_pos hsb, ei] at p1
        obtain ⟨F, C1, C2, r1⟩ := r1
        have d : FDen X.mg H1 rv.fv u := (r1.bor (List.mem_cons_self (a := (u, rv)))).fden r1.fh
        rw [ex] at d
        obtain ⟨a, vs, rfl, h1, _⟩ := FDen.tupT (K := X.K) d rfl
        refine ⟨a, rfl, ⟨vs, h1⟩, p1 _ _ [(V.ref a, rv)] (Same.refl _) r1.r ?_ (one _)⟩
        show WalkJ X.mg _ [(V.ref a, .st (.fz rv.fv))] _
        rw [ex]
        exact walk_tup rfl
      · rename_i xs ex
        cases ei'
        refine .inr (.inl (tE.bindC r Sb.refl q fun x u H1 e1 s1 r1 p1 => ?_))
        rw [ef] at e1; cases e1
        rw [if_pos hsb, ei] at p1
        obtain ⟨F, C1, C2, r1⟩ := r1
        have d : FDen X.mg H1 rv.fv u := (r1.bor (List.mem_cons_self (a := (u, rv)))).fden r1.fh
        rw [ex] at d
        obtain ⟨a, vs, rfl, h1, _⟩ := FDen.tupT (K := X.K) d rfl
        refine ⟨a, rfl, ⟨vs, h1⟩, p1 _ _ [(V.ref a, rv)] (Same.refl _) r1.r ?_ (one _)⟩
        show WalkJ X.mg _ [(V.ref a, .st (.fz rv.fv))] _
        rw [ex]
        exact walk_tup rfl
      · rename_i z ex
        cases ei'
        refine .inr (.inr (tE.bindC r Sb.refl q fun x u H1 e1 s1 r1 p1 => ?_))
        rw [ef] at e1; cases e1
        rw [if_pos hsb, ei] at p1
        obtain ⟨F, C1, C2, r1⟩ := r1
        have d : FDen X.mg H1 rv.fv u := (r1.bor (List.mem_cons_self (a := (u, rv)))).fden r1.fh
        rw [ex] at d
        exact ⟨_, d, p1 _ _ [] (Same.refl _) r1.r.pop walk_str (fun _ h => nomatch h)⟩
      · cases ei'
theorem jc_range (he : JE X W e f) (hm : X.mg "range" = none) (hg : Gl X "range" := by rfl) (hs : starEach [e] X.env = [(false, eval e X.env)] := by rfl) (hs2 : starEach [e] X.env = (false, eval e X.env) :: starEach [] X.env := by rfl) : JC X W tg (.Call (.Name "range" p) [e] [] pos) (dRange f) := by
  refine PI.imp (pi_range1 hg hm (pa_cons he pa_nil hs2) hs) fun σ H Q ⟨G, Z, env, T, r, q⟩ => ?_
  refine tE.bindC r Sb.refl q fun x u H1 e1 s1 ⟨F, C1, C2, r1⟩ p1 => ?_
  split at p1
  · rename_i n en
    split at p1
    · rename_i hn
      have hb : Bor X.mg F H1 x.ov u := r1.bor List.mem_cons_self
      rw [en] at hb
      exact ⟨n, by rw [hb.int], by omega, by omega, p1 _ _ [] (Same.refl _) r1.r.pop walk_range (fun _ h => nomatch h)⟩
    · exact p1.elim
  · exact p1.elim
end
def wipeE (env : VEnv) : List Nat → VEnv
  | [] => env
  | v :: vs => (wipeE env vs).set v none
def frzE (env : VEnv) : VEnv := env.map fun o => o.map fun o => .fz o.fv
def Ans.nox {α : Type} : Ans α → Ans α
  | .ok a => .ok a
  | _ => .no
def dTrue : DT := fun _ => .ok true
def lcF (t : TgF) (c : DT) (e : DE) (env : VEnv) : List FV → Ans (List FV)
  | [] => .ok []
  | x :: xs => match t x env with
    | some e1 => (c e1).nox.bind fun b => if b then (e e1).nox.bind fun r => match r.fz? with
        | some y => (lcF t c e env xs).bind fun ys => .ok (y :: ys)
        | none => .no
      else lcF t c e env xs
    | none => .no
def lcD (t : TgF) (c : DT) (e : DE) (env : VEnv) : List FV → Ans (List OV)
  | [] => .ok []
  | x :: xs => match t x env with
    | some e1 => (c e1).nox.bind fun b => if b then (e e1).nox.bind fun r => match r.st? with
        | some y => (lcD t c e env xs).bind fun ys => .ok (y :: ys)
        | none => .no
      else lcD t c e env xs
    | none => .no
def dLc (it : VEnv → Ans (List FV)) (t : TgF) (c : DT) (e : DE) (vs : List Nat) : DE := fun env => (it env).bind fun items => (lcF t c e (frzE (wipeE env vs)) items).bind fun ys =>
  if decide (ys.length ≤ BIG) && (allFzE env || FV.pureL ys) then .ok (.st (.ol ys)) else .no
def dLcD (it : VEnv → Ans (List FV)) (t : TgF) (c : DT) (e : DE) (vs : List Nat) : DE := fun env => (it env).bind fun items => (lcD t c e (frzE (wipeE env vs)) items).bind fun ys =>
  if decide (ys.length ≤ BIG) && (allFzE env || OV.cleanL ys) then .ok (.st (.dl ys)) else .no
theorem fz_ol {M : Str → Option Value} {F : Hp} : ∀ {xs : List FV} {vs : List V} {L : Cells}, OwnL M F (xs.map .fz) vs L → FDenL M F xs vs ∧ L = []
  | [], _, _, h => h
  | x :: xs, _, _, ⟨v, ws, A, B, e, d, r, q⟩ => by
    obtain ⟨h1, h2⟩ := fz_ol r
    rw [q, d.2, h2]
    exact ⟨⟨v, ws, e, d.1, h1⟩, rfl⟩
theorem own_dl_ol {M : Str → Option Value} {F : Hp} {xs : List FV} {v : V} {L : Cells} (h : Own M F (.dl (xs.map .fz)) v L) : Own M F (.ol xs) v L := by
  obtain ⟨a, vs, L', e, r, q⟩ := h
  obtain ⟨h1, h2⟩ := fz_ol r
  rw [q, h2]
  exact ⟨a, vs, e, h1, rfl⟩
theorem lcF_D {t : TgF} {c : DT} {e : DE} {env : VEnv} : ∀ {items ys : List FV}, lcF t c e env items = .ok ys → lcD t c e env items = .ok (ys.map .fz)
  | [], ys, h => by cases h; rfl
  | x :: xs, ys, h => by
    unfold lcF at h
    unfold lcD
    cases et : t x env with
    | none => rw [et] at h; cases h
    | some e1 =>
      rw [et] at h
      simp only at h ⊢
      cases ec : (c e1).nox with
      | no => rw [ec] at h; cases h
      | ex z => rw [ec] at h; cases h
      | ok b =>
        rw [ec] at h
        cases b with
        | false =>
          simp only [Ans.bind, Bool.false_eq_true, if_false] at h ⊢
          exact lcF_D h
        | true =>
          simp only [Ans.bind, if_true] at h ⊢
          cases ee : (e e1).nox with
          | no => rw [ee] at h; cases h
          | ex z => rw [ee] at h; cases h
          | ok r =>
            rw [ee] at h
            simp only at h ⊢
            cases ef : r.fz? with
            | none => rw [ef] at h; cases h
            | some y =>
              rw [ef] at h
              have hs : r.st? = some (.fz y) := by
                unfold Rv.fz? at ef
                split at ef
                · cases ef; rfl
                · cases ef
              rw [hs]
              simp only at h ⊢
              cases el : lcF t c e env xs with
              | no => rw [el] at h; cases h
              | ex z => rw [el] at h; cases h
              | ok zs =>
                rw [el] at h
                cases h
                rw [lcF_D el]
                rfl
def TgOk (vs : List Nat) (t : TgF) : Prop := ∀ x env e, t x env = some e → e.length = env.length ∧ ∀ j, j ∉ vs → e[j]? = env[j]?
theorem tg_name {i : Nat} : TgOk [i] (tName i) := fun x env e h => by
  cases h
  exact ⟨by simp, fun j hj => List.getElem?_set_ne fun z => hj (by simp [z])⟩
theorem tg_tup2 {i j : Nat} : TgOk [i, j] (tTup2 i j) := fun x env e h => by
  obtain ⟨a, b, _, e2⟩ := tTup2_some h
  subst e2
  refine ⟨by simp, fun k hk => ?_⟩
  rw [List.getElem?_set_ne fun z => hk (by simp [z]), List.getElem?_set_ne fun z => hk (by simp [z])]
theorem wipeE_length (env : VEnv) : ∀ vs, (wipeE env vs).length = env.length
  | [] => rfl
  | v :: vs => by unfold wipeE; rw [List.length_set, wipeE_length env vs]
theorem wipeE_get {env : VEnv} {j : Nat} : ∀ {vs : List Nat}, (wipeE env vs)[j]? = if j ∈ vs ∧ j < env.length then some none else env[j]?
  | [] => by simp [wipeE]
  | v :: vs => by
    unfold wipeE
    by_cases h : v = j
    · subst h
      by_cases hl : v < env.length
      · rw [List.getElem?_set_self (by rw [wipeE_length]; exact hl), if_pos ⟨List.mem_cons_self, hl⟩]
      · rw [if_neg (fun z => hl z.2), List.getElem?_eq_none (by rw [List.length_set, wipeE_length]; omega), List.getElem?_eq_none (by omega)]
    · rw [List.getElem?_set_ne h, wipeE_get]
      by_cases h2 : j ∈ vs
      · simp [h2, h]
      · simp [h2, Ne.symm h]
theorem frz_wipe (env : VEnv) : ∀ vs, frzE (wipeE env vs) = wipeE (frzE env) vs
  | [] => rfl
  | v :: vs => by
    unfold wipeE
    unfold frzE
    rw [List.map_set]
    have := frz_wipe env vs
    unfold frzE at this
    rw [this]
    rfl
theorem wipeE_of {env e : VEnv} {vs : List Nat} (hl : e.length = env.length) (h : ∀ j, j ∉ vs → e[j]? = env[j]?) : wipeE e vs = wipeE env vs := by
  apply List.ext_getElem?
  intro j
  rw [wipeE_get, wipeE_get, hl]
  by_cases hv : j ∈ vs
  · by_cases h2 : j < env.length
    · simp [hv, h2]
    · rw [if_neg (fun z => h2 z.2), if_neg (fun z => h2 z.2), List.getElem?_eq_none (by rw [hl]; omega), List.getElem?_eq_none (by omega)]
  · rw [if_neg (fun z => hv z.1), if_neg (fun z => hv z.1), h j hv]
theorem wipeE_idem (env : VEnv) (vs : List Nat) : wipeE (wipeE env vs) vs = wipeE env vs := wipeE_of (wipeE_length _ _) fun j hj => by rw [wipeE_get, if_neg (fun z => hj z.1)]
theorem wipe_idem (σ : Sl) (vs : List Nat) : wipe (wipe σ vs) vs = wipe σ vs := (Only.wipe ⟨wipe_length _ _, fun j hj => by rw [wipe_get, if_neg (fun z => hj z.1)]⟩)
section
variable {M : Str → Option Value} {G Z H F : Hp} {σ : Sl} {env : VEnv} {T T2 : List (V × Rv)} {C1 C2 : Cells}
theorem R.wipeD (r : R M G Z H σ env T) : ∀ vs, R M G Z H (wipe σ vs) (wipeE env vs) T
  | [] => r
  | v :: vs => (R.wipeD r vs).unset v none
theorem EnvOwn.fz {L : Cells} (h : Same F H) (e : EnvOwn M F σ env L) : (∀ p ∈ L, H p.1 = some p.2) → EnvOwn M (mutG F H) σ (frzE env) [] := by
  induction e with
  | nil => intro _; exact .nil
  | skip _ ih => intro c; exact .skip (ih c)
  | cons d _ ih => intro c; exact .cons (A := []) (B := []) ⟨d.mut h fun p hp => c p (List.mem_append_left _ hp), rfl⟩ (ih fun p hp => c p (List.mem_append_right _ hp))
theorem EnvOwn.allFz {L : Cells} (e : EnvOwn M F σ env L) : allFzE env = true → EnvOwn M F σ (frzE env) [] := by
  induction e with
  | nil => intro _; exact .nil
  | skip _ ih => intro h; exact .skip (ih (by simpa [allFzE] using h))
  | @cons v o σ env A B d _ ih =>
    intro h
    have h1 : (match some o with | some (.fz _) => true | none => true | _ => false) = true ∧ allFzE env = true := by
      unfold allFzE at h ⊢
      rw [List.all_cons, Bool.and_eq_true] at h
      exact h
    have h0 := h1.1
    cases o with
    | fz x => exact .cons (A := []) (B := []) ⟨d.1, rfl⟩ (ih h1.2)
    | ol x => cases h0
    | oK x => cases h0
    | oT x => cases h0
    | dl x => cases h0
    | dd x => cases h0
    | tp x => cases h0
    | ob c x => cases h0
    | oN x => cases h0
theorem EnvOwn.wipe {L : Cells} (e : EnvOwn M F σ env L) : ∀ vs, ∃ L', EnvOwn M F (wipe σ vs) (wipeE env vs) L' ∧ ∀ p ∈ L', p ∈ L
  | [] => ⟨L, e, fun _ h => h⟩
  | v :: vs => by
    obtain ⟨L', e', h⟩ := EnvOwn.wipe e vs
    obtain ⟨L2, D, h1, h2⟩ := e'.unset v none
    exact ⟨L2, h1, fun p hp => h p (h2.mem_iff.mpr (List.mem_append_left _ hp))⟩
theorem RF.block (r : RF M G Z H F σ env T C1 C2) (vs : List Nat) : R M (mutG F H) H H (wipe σ vs) (frzE (wipeE env vs)) [] := by
  have e := r.ev.fz r.fh fun p hp => r.gd.hp p (List.mem_append_left _ hp)
  obtain ⟨L', e', h⟩ := e.wipe vs
  have hL : L' = [] := List.eq_nil_iff_forall_not_mem.mpr fun p hp => nomatch h p hp
  subst hL
  rw [frz_wipe]
  exact ⟨mutG F H, [], [], Same.refl _, fun a o e => .inl e, mutG_H r.fh, Same.refl _, e', .nil, Good.nil⟩
theorem RF.blockF (r : RF M G Z H F σ env T C1 C2) (vs : List Nat) (h : allFzE env = true) : R M F H H (wipe σ vs) (frzE (wipeE env vs)) [] := by
  have e := r.ev.allFz h
  obtain ⟨L', e', h⟩ := e.wipe vs
  have hL : L' = [] := List.eq_nil_iff_forall_not_mem.mpr fun p hp => nomatch h p hp
  subst hL
  rw [frz_wipe]
  exact ⟨F, [], [], Same.refl _, fun a o e => .inl e, r.fh, Same.refl _, e', .nil, Good.nil⟩
theorem TmpOwn.split {H : Hp} : ∀ {kept T : List (V × Rv)} {L : Cells}, TmpOwn M F H (kept ++ T) L → (∀ p ∈ kept, ∃ o, p.2 = .st o) → ∃ A B, L = A ++ B ∧ TmpOwn M F H T B ∧ ∀ p ∈ kept, ∃ Lp, Own M F p.2.ov p.1 Lp ∧ ∀ q ∈ Lp, q ∈ A
  | [], T, L, t, _ => ⟨[], L, rfl, t, fun _ h => nomatch h⟩
  | (v, r) :: kept, T, L, t, h => by
    obtain ⟨o, ho⟩ := h _ List.mem_cons_self
    simp only at ho
    subst ho
    cases t with
    | @st _ _ _ A1 B1 d t =>
      obtain ⟨A, B, e, t2, k⟩ := TmpOwn.split t fun p hp => h p (List.mem_cons_of_mem _ hp)
      subst e
      refine ⟨A1 ++ A, B, by rw [List.append_assoc], t2, fun p hp => ?_⟩
      rcases List.mem_cons.mp hp with rfl | hp
      · exact ⟨A1, d, fun q hq => List.mem_append_left _ hq⟩
      · obtain ⟨Lp, q1, q2⟩ := k p hp
        exact ⟨Lp, q1, fun q hq => List.mem_append_right _ (q2 q hq)⟩
theorem RF.iceK {kept : List (V × Rv)} (r : RF M G Z H F σ env (kept ++ T) C1 C2) (h : ∀ p ∈ kept, ∃ o, p.2 = .st o) :
    ∃ F2 C3 C4, RF M G Z H F2 σ env T C3 C4 ∧ ∀ p ∈ kept, FDen M F2 p.2.fv p.1 := by
  obtain ⟨A, B, e, t, k⟩ := r.tm.split h
  subst e
  obtain ⟨i1, i2, i3, i4, i5, i6⟩ := r.ice (A := A) (Lr := C1 ++ B) (by
    rw [← List.append_assoc, ← List.append_assoc]
    exact List.perm_append_comm.append_right _)
  refine ⟨updL F A, C1, B, ⟨i1, i2, i4, r.zh, r.ev.mono i3, t.mono i3 (Same.refl _), i5⟩, fun p hp => ?_⟩
  obtain ⟨Lp, d, c⟩ := k p hp
  exact d.fden i3 fun q hq => i6 q (c q hq)
theorem R.grow {D : Addr} {os : List OV} {o : OV} {y : V} (r : R M G Z H σ env [(y, .st o), (.ref D, .st (.dl os))]) : ∃ acc, H D = some (.lst acc) ∧ acc.length = os.length ∧ R M G Z (upd H D (.lst (acc ++ [y]))) σ env [(.ref D, .st (.dl (os ++ [o])))] := by
  obtain ⟨F, C1, C2, r⟩ := r
  obtain ⟨A, B, e1, dy, t⟩ := r.tm.freeze
  obtain ⟨A2, B2, e2, dD, t2⟩ := t.freeze
  cases t2
  rw [List.append_nil] at e2
  subst e2
  subst e1
  obtain ⟨a, vs, L', ea, ow, q⟩ := dD
  cases ea
  subst q
  have gd := r.gd
  have hD : H D = some (.lst vs) := gd.hp (D, .lst vs) (by simp)
  have fD : F D = none := gd.fr (D, .lst vs) (by simp)
  have zD : Z D = none := gd.zr (D, .lst vs) (by simp)
  have ne : ∀ p ∈ C1 ++ (A ++ L'), p.1 ≠ D := by
    have g2 := gd.perm (L' := (C1 ++ (A ++ L')) ++ [(D, .lst vs)]) (by
      rw [List.append_assoc, List.append_assoc]
      refine List.Perm.append_left C1 (List.Perm.append_left A ?_)
      exact (List.perm_append_comm (l₁ := [(D, HO.lst vs)]) (l₂ := L')))
    exact fun p hp e => g2.apart p hp (D, .lst vs) (by simp) e
  refine ⟨vs, hD, ow.length, F, C1, (D, .lst (vs ++ [y])) :: (L' ++ A), r.gf, r.fg, fun b u e => ?_, fun b u e => ?_, r.ev, ?_, ?_⟩
  · rw [upd_ne (fun z => by rw [z, fD] at e; cases e)]
    exact r.fh _ _ e
  · rw [upd_ne (fun z => by rw [z, zD] at e; cases e)]
    exact r.zh _ _ e
  · have key : ∀ {os : List OV} {vs : List V} {L : Cells}, OwnL M F os vs L → OwnL M F (os ++ [o]) (vs ++ [y]) (L ++ A) := by
      intro os
      induction os with
      | nil => intro vs L h; rw [h.1, h.2]; exact ⟨y, [], A, [], rfl, dy, ⟨rfl, rfl⟩, by simp⟩
      | cons x xs ih =>
        intro vs L ⟨v, ws, A', B', e, d, r, q⟩
        rw [e, q]
        exact ⟨v, ws ++ [y], A', B' ++ A, rfl, d, ih r, by rw [List.append_assoc]⟩
    have t := TmpOwn.st (H := upd H D (.lst (vs ++ [y]))) (T := []) (B := []) (show Own M F (.dl (os ++ [o])) (.ref D) ((D, .lst (vs ++ [y])) :: (L' ++ A)) from ⟨D, _, _, rfl, key ow, rfl⟩) .nil
    rw [List.append_nil] at t
    exact t
  · have g1 : Good F Z (upd H D (.lst (vs ++ [y]))) (C1 ++ (A ++ L')) := by
      have g2 := gd.perm (L' := (C1 ++ (A ++ L')) ++ [(D, .lst vs)]) (by
        rw [List.append_assoc, List.append_assoc]
        refine List.Perm.append_left C1 (List.Perm.append_left A ?_)
        exact (List.perm_append_comm (l₁ := [(D, HO.lst vs)]) (l₂ := L')))
      have g3 := g2.left
      exact ⟨g3.nd, fun p hp => by rw [upd_ne (ne p hp)]; exact g3.hp p hp, g3.fr, g3.zr⟩
    have g4 : Good F Z (upd H D (.lst (vs ++ [y]))) [(D, .lst (vs ++ [y]))] := ⟨by simp, fun p hp => by rw [List.mem_singleton] at hp; subst hp; exact upd_same, fun p hp => by rw [List.mem_singleton] at hp; subst hp; exact fD, fun p hp => by rw [List.mem_singleton] at hp; subst hp; exact zD⟩
    refine (g1.mk' g4 fun p hp q hq => by rw [List.mem_singleton] at hq; subst hq; exact ne p hp).perm ?_
    rw [List.append_assoc]
    refine List.Perm.append_left C1 ?_
    refine (List.perm_append_comm (l₁ := A ++ L')).trans ?_
    show ((D, HO.lst (vs ++ [y])) :: (A ++ L')).Perm _
    exact (List.perm_append_comm).cons _
end
abbrev W0 : WX := fun _ _ _ _ => False
abbrev JTs (X : Cx) (W : WX) (ifs : List Expr) (f : DT) : Prop := PTs X ifs (tT X.mg W f)
theorem jts_nil {X : Cx} {W : WX} : JTs X W [] dTrue := ⟨fun pins s σ H Q I ⟨G, Z, env, T, r, p⟩ => pts_nil.run pins s σ H Q I (p H (Same.refl _) r)⟩
theorem jts_one {X : Cx} {W : WX} {c : Expr} {f : DT} (h : JT X W c f) : JTs X W [c] f := pts_one h
theorem WalkJ.at {M : Str → Option Value} {J : It} {kept : List (V × Rv)} {items : List FV} (w : WalkJ M J (kept.map kfz) items) {F H : Hp} (hf : Same F H) (hk : ∀ p ∈ kept, FDen M F p.2.fv p.1) (i : Nat) :
    (∀ x, items[i]? = some x → J.go i H ∧ ∀ v H', J.yld i H v H' → New M F H H' (.fz x) v) ∧ (items.length ≤ i → J.stop i H) :=
  w F H i hf fun p hp => by
    obtain ⟨q, hq, e⟩ := List.mem_map.mp hp
    subst e
    exact ⟨[], ⟨hk q hq, rfl⟩, fun _ h => nomatch h⟩
theorem lc_run {M : Str → Option Value} {G Z H1 : Hp} {σw : Sl} {envw : VEnv} {vs ws : List Nat} {t : TgF} {c : DT} {e : DE} {J : It} {kept : List (V × Rv)} {items : List FV} {ys : List OV} {D : Addr} {Qd : Hp → Prop}
    (hw : σw = wipe σw vs) (hwe : envw = wipeE envw vs) (hws : ∀ i ∈ ws, i ∈ vs) (hto : TgOk ws t) (wk : WalkJ M J (kept.map kfz) items) (hk : ∀ p ∈ kept, FDen M G p.2.fv p.1) (hlen : ys.length ≤ BIG)
    (hl : lcD t c e envw items = .ok ys) (r : R M G Z (upd H1 D (.lst [])) σw envw [(.ref D, .st (.dl []))]) (hd : ∀ H, R M G Z H σw envw [(.ref D, .st (.dl ys))] → Qd H) :
    ∃ W : Nat → Nat → Hp → Prop, (∃ m, W 0 m (upd H1 D (.lst []))) ∧ ∀ i m H, W i m H →
      (J.stop i H ∧ Qd H) ∨ (J.go i H ∧ ∃ Nx : Hp → Prop, (∀ H', Nx H' → ∃ m', m' < m ∧ W (i + 1) m' H') ∧ ∀ x H', J.yld i H x H' → gJ M ws t x σw H' fun σ2 H2 => wipe σ2 vs = σw ∧ tT M W0 c σ2 H2 fun b H3 =>
        if b = true then tE M W0 e σ2 H3 fun y H4 => ∃ acc, H4 D = some (.lst acc) ∧ acc.length < sizeLine ∧ Nx (upd H4 D (.lst (acc ++ [y]))) else Nx H3) := by
  refine ⟨fun i m H => i + m = items.length ∧ ∃ done rest, lcD t c e envw (items.drop i) = .ok rest ∧ done ++ rest = ys ∧ R M G Z H σw envw [(.ref D, .st (.dl done))], ⟨items.length, by omega, [], ys, by rw [List.drop_zero]; exact hl, rfl, r⟩, ?_⟩
  rintro i m H ⟨him, done, rest, h1, h2, ⟨F, C1, C2, r⟩⟩
  obtain ⟨w1, w2⟩ := wk.at r.fh (fun p hp => (hk p hp).mono r.gf) i
  by_cases hlt : i < items.length
  · obtain ⟨hgo, hy⟩ := w1 items[i] (List.getElem?_eq_getElem hlt)
    rw [List.drop_eq_getElem_cons hlt] at h1
    have h1' : (match t items[i] envw with
      | some e1 => (c e1).nox.bind fun b => if b then (e e1).nox.bind fun r => match r.st? with
          | some y => (lcD t c e envw (items.drop (i + 1))).bind fun ys => .ok (y :: ys)
          | none => .no
        else lcD t c e envw (items.drop (i + 1))
      | none => .no) = Ans.ok rest := h1
    refine .inr ⟨hgo, fun H' => ∃ done rest, lcD t c e envw (items.drop (i + 1)) = .ok rest ∧ done ++ rest = ys ∧ R M G Z H' σw envw [(.ref D, .st (.dl done))], fun H' q => ⟨m - 1, by omega, by omega, q⟩, fun x H' yl => ?_⟩
    refine ⟨G, Z, envw, _, items[i], r.new (hy x H' yl), ?_⟩
    cases et : t items[i] envw with
    | none => rw [et] at h1'; cases h1'
    | some e1 =>
      rw [et] at h1'
      intro σ2 hon r2
      have hσ : wipe σ2 vs = σw := by rw [(hon.mono hws).wipe, ← hw]
      have hE : wipeE e1 vs = envw := by
        obtain ⟨hl1, hl2⟩ := hto _ _ _ et
        rw [wipeE_of hl1 fun j hj => hl2 j fun z => hj (hws j z), ← hwe]
      have back : ∀ {H : Hp} {T : List (V × Rv)}, R M G Z H σ2 e1 T → R M G Z H σw envw T := fun {H T} r => by
        have := r.wipeD vs
        rw [hσ, hE] at this
        exact this
      refine ⟨hσ, G, Z, e1, _, r2, ?_⟩
      cases ec : c e1 with
      | no => simp [ec, Ans.nox, Ans.bind] at h1'
      | ex z => simp [ec, Ans.nox, Ans.bind] at h1'
      | ok b =>
        simp only [ec, Ans.nox, Ans.bind] at h1'
        intro H3 s3 r3
        cases b with
        | false =>
          rw [if_neg Bool.false_ne_true] at h1' ⊢
          exact ⟨done, rest, h1', h2, back r3⟩
        | true =>
          rw [if_pos rfl] at h1' ⊢
          refine ⟨G, Z, e1, _, r3, ?_⟩
          cases ee : e e1 with
          | no => simp [ee] at h1'
          | ex z => simp [ee] at h1'
          | ok rv =>
            rw [ee] at h1'
            simp only at h1'
            intro y H4 s4 r4
            cases es : rv.st? with
            | none => rw [es] at h1'; cases h1'
            | some o =>
              rw [es] at h1'
              have hrv : rv = .st o := by
                unfold Rv.st? at es
                split at es
                · cases es; rfl
                · cases es
              subst hrv
              simp only at h1'
              cases el : lcD t c e envw (items.drop (i + 1)) with
              | no => rw [el] at h1'; cases h1'
              | ex z => rw [el] at h1'; cases h1'
              | ok zs =>
                rw [el] at h1'
                have h1' : Ans.ok (o :: zs) = Ans.ok rest := h1'
                injection h1' with h1'
                subst h1'
                obtain ⟨acc, hD, hla, r5⟩ := r4.grow
                refine ⟨acc, hD, ?_, done ++ [o], zs, (by first | exact el | rfl), by rw [List.append_assoc]; exact h2, back r5⟩
                rw [hla, big_eq]
                have := congrArg List.length h2
                rw [List.length_append, List.length_cons] at this
                omega
  · refine .inl ⟨w2 (by omega), ?_⟩
    rw [List.drop_of_length_le (by omega)] at h1
    cases h1
    rw [List.append_nil] at h2
    subst h2
    exact hd H r.r
section
variable {X : Cx} {W : WX} {pos spos py : Pos} {tg iter elt : Expr} {ifs : List Expr} {scope : Scope} {own : List (Str × Nat)} {it : VEnv → Ans (List FV)} {t : TgF} {fc : DT} {fe : DE} {ws : List Nat}
theorem R.newOf {M : Str → Option Value} {G H H' : Hp} {σ : Sl} {env : VEnv} {v : V} {o : OV} (r : R M G H H' σ env [(v, .st o)]) : New M G H H' o v := by
  obtain ⟨F, C1, C2, r⟩ := r
  obtain ⟨A, B, e1, d, t⟩ := r.tm.freeze
  cases t
  rw [List.append_nil] at e1
  subst e1
  have g := r.gd.right
  exact ⟨F, C2, r.gf, r.fg, r.fh, r.zh, d, ⟨g.nd, g.hp, g.fr, g.zr⟩⟩
theorem lc_post (hws : ∀ i ∈ ws, i ∈ own.map (·.2)) (hto : TgOk ws t) {σ : Sl} {H : Hp} {Q : VK} {G Z : Hp} {env : VEnv} {T : List (V × Rv)} (r : R X.mg G Z H σ env T)
    (p : Post X.mg W G Z σ env T Q H (dLcD it t fc fe (own.map (·.2)) env)) : tLc (tIC X.mg W it) (gJ X.mg ws t) (tT X.mg W0 fc) (tE X.mg W0 fe) (own.map (·.2)) σ H Q := by
  refine ⟨G, Z, env, T, r, ?_⟩
  unfold dLcD at p
  cases ei : it env with
  | no => rw [ei] at p; exact p.elim
  | ex c => rw [ei] at p; exact fun C H' m s r' => p C H' m s r'
  | ok items =>
    rw [ei] at p
    intro J H1 kept s1 ⟨F, C1, C2, r1⟩ wk hsbk D hD
    have p : Post X.mg W G Z σ env T Q H ((lcD t fc fe (frzE (wipeE env (own.map (·.2)))) items).bind fun ys => if decide (ys.length ≤ BIG) && (allFzE env || OV.cleanL ys) then .ok (.st (.dl ys)) else .no) := p
    cases el : lcD t fc fe (frzE (wipeE env (own.map (·.2)))) items with
    | no => rw [el] at p; exact p.elim
    | ex c =>
      -- no exception comes out of lcD
      exfalso
      have key : ∀ items c, lcD t fc fe (frzE (wipeE env (own.map (·.2)))) items ≠ .ex c := by
        intro items
        induction items with
        | nil => intro c h; cases h
        | cons x xs ih =>
          intro c h
          unfold lcD at h
          split at h
          · rename_i e1 _
            cases ec : fc e1 with
            | no => simp [ec, Ans.nox, Ans.bind] at h
            | ex z => simp [ec, Ans.nox, Ans.bind] at h
            | ok b =>
              simp only [ec, Ans.nox, Ans.bind] at h
              cases b with
              | false => exact ih c (by simpa using h)
              | true =>
                rw [if_pos rfl] at h
                cases ee : fe e1 with
                | no => simp [ee] at h
                | ex z => simp [ee] at h
                | ok rv =>
                  rw [ee] at h
                  simp only at h
                  split at h
                  · cases el2 : lcD t fc fe (frzE (wipeE env (own.map (·.2)))) xs with
                    | no => rw [el2] at h; cases h
                    | ex z => exact ih z el2
                    | ok zs => rw [el2] at h; cases h
                  · cases h
          · cases h
      exact key items c el
    | ok ys =>
      rw [el] at p
      simp only [Ans.bind] at p
      split at p
      · rename_i hc
        rw [Bool.and_eq_true] at hc
        have hlen : ys.length ≤ BIG := of_decide_eq_true hc.1
        have hwe : frzE (wipeE env (own.map (·.2))) = wipeE (frzE (wipeE env (own.map (·.2)))) (own.map (·.2)) := by
          rw [frz_wipe, wipeE_idem]
        have fin : ∀ H', New X.mg F H1 H' (.dl ys) (.ref D) → Q (.ref D) H' := fun H' n => p _ H' (s1.trans (let ⟨_, _, n⟩ := n; n.hh)) ((r1.new n).sb sb_app.both)
        have start : ∀ {K0 : Hp} (r0 : R X.mg K0 H1 H1 (wipe σ (own.map (·.2))) (frzE (wipeE env (own.map (·.2)))) []), R X.mg K0 H1 (upd H1 D (.lst [])) (wipe σ (own.map (·.2))) (frzE (wipeE env (own.map (·.2)))) [(.ref D, .st (.dl []))] := fun {K0} r0 => by
          obtain ⟨F0, D1, D2, r0⟩ := r0
          exact r0.new (New.cell r0.fh hD ⟨D, [], [], rfl, ⟨rfl, rfl⟩, rfl⟩)
        cases ha : allFzE env with
        | true =>
          -- all frozen: what is walked is frozen first
          obtain ⟨F2, C3, C4, r2, hkA⟩ := r1.iceK (fun p hp => by
            have := hsbk p hp
            revert this
            cases p.2 with
            | st o => exact fun _ => ⟨o, rfl⟩
            | bo o => intro h; rw [show sbR env (.bo o) = !allFzE env from rfl, ha] at h; cases h)
          refine lc_run (hw := (wipe_idem _ _).symm) (hwe := hwe) hws hto wk (G := F2) (Z := H1) hkA hlen el (start (r2.blockF _ ha)) fun H' r' => ?_
          have n := r'.newOf
          exact p _ H' (s1.trans (let ⟨_, _, n⟩ := n; n.hh)) (r2.new n)
        | false =>
          rw [ha, Bool.false_or] at hc
          refine lc_run (hw := (wipe_idem _ _).symm) (hwe := hwe) hws hto wk (G := mutG F H1) (Z := H1) (fun p hp => ?_) hlen el (start (r1.block _)) fun H' r' => fin H' (r'.newOf.clean r1.fh (by simpa [OV.clean] using hc.2))
          obtain ⟨A, d, c⟩ := r1.bor (List.mem_append_left T hp)
          exact d.mut r1.fh c
      · exact p.elim
theorem R.dl_ol {M : Str → Option Value} {G Z H : Hp} {σ : Sl} {env : VEnv} {T : List (V × Rv)} {v : V} {ys : List FV} (r : R M G Z H σ env ((v, .st (.dl (ys.map .fz))) :: T)) : R M G Z H σ env ((v, .st (.ol ys)) :: T) := by
  obtain ⟨F, C1, C2, r⟩ := r
  obtain ⟨A, B, e, d, t⟩ := r.tm.freeze
  subst e
  exact ⟨F, C1, A ++ B, r.gf, r.fg, r.fh, r.zh, r.ev, .st (own_dl_ol d) t, r.gd⟩
theorem cleanL_fz : ∀ ys : List FV, OV.cleanL (ys.map .fz) = FV.pureL ys
  | [] => rfl
  | y :: ys => by
    show ((OV.fz y).clean && OV.cleanL (ys.map .fz)) = (FV.pure y && FV.pureL ys)
    rw [cleanL_fz ys]
    rfl
theorem lcF_ex {c : DT} {e : DE} {t : TgF} {env : VEnv} : ∀ (items : List FV) (z : Str), lcF t c e env items ≠ .ex z := by
  intro items
  induction items with
  | nil => intro c h; cases h
  | cons x xs ih =>
    intro z h
    unfold lcF at h
    split at h
    · rename_i e1 _
      cases ec : c e1 with
      | no => simp [ec, Ans.nox, Ans.bind] at h
      | ex z => simp [ec, Ans.nox, Ans.bind] at h
      | ok b =>
        simp only [ec, Ans.nox, Ans.bind] at h
        cases b with
        | false => exact ih z (by simpa using h)
        | true =>
          rw [if_pos rfl] at h
          cases ee : e e1 with
          | no => simp [ee] at h
          | ex z => simp [ee] at h
          | ok rv =>
            rw [ee] at h
            simp only at h
            split at h
            · cases el2 : lcF t c e env xs with
              | no => rw [el2] at h; cases h
              | ex z => exact ih z el2
              | ok zs => rw [el2] at h; cases h
            · cases h
    · cases h
theorem lc_postF {σ : Sl} {H : Hp} {Q : VK} {G Z : Hp} {env : VEnv} {T : List (V × Rv)} {vs : List Nat}
    (p : Post X.mg W G Z σ env T Q H (dLc it t fc fe vs env)) : Post X.mg W G Z σ env T Q H (dLcD it t fc fe vs env) := by
  unfold dLc at p
  unfold dLcD
  cases ei : it env with
  | no => rw [ei] at p; exact p.elim
  | ex c => rw [ei] at p; exact p
  | ok items =>
    rw [ei] at p
    simp only [Ans.bind] at p ⊢
    cases el : lcF t fc fe (frzE (wipeE env vs)) items with
    | no => rw [el] at p; exact p.elim
    | ex c => exact absurd el (lcF_ex _ _)
    | ok ys =>
      rw [el] at p
      rw [lcF_D el]
      simp only at p ⊢
      rw [cleanL_fz, List.length_map]
      split at p
      · rename_i hc
        rw [if_pos hc]
        exact fun v H' s r => p v H' s r.dl_ol
      · exact p.elim
theorem je_lcD (hc : X.calm = true) (hN : X.N.Nodup) (hi : JC X W tg iter it) (ok : BlkOk X.N X.env.scope scope own)
    (hg : ∀ (s : Shared) (H : Hp) (C : Addr) (cl : List (Str × Addr)) (fp : List Addr), JG (X.blk s H scope (compEnvC scope cl C X.env) fp) tg ws t)
    (ht : ∀ (s : Shared) (H : Hp) (C : Addr) (cl : List (Str × Addr)) (fp : List Addr), JTs (X.blk s H scope (compEnvC scope cl C X.env) fp) W0 ifs fc)
    (he : ∀ (s : Shared) (H : Hp) (C : Addr) (cl : List (Str × Addr)) (fp : List Addr), JE (X.blk s H scope (compEnvC scope cl C X.env) fp) W0 elt fe)
    (hto : TgOk ws t) (hws : ∀ i ∈ ws, i ∈ own.map (·.2) := by decide) (hs : ∀ x, foldedSetIterable iter X.env x = pure x := by intro _; rfl) :
    JE X W (.ListComp elt [⟨tg, iter, ifs, 0⟩] scope pos) (dLcD it t fc fe (own.map (·.2))) :=
  PE.imp (pe_lc hc hN hi ok hg ht he hs) fun σ H Q ⟨G, Z, env, T, r, p⟩ => lc_post hws hto r p
theorem je_lc (hc : X.calm = true) (hN : X.N.Nodup) (hi : JC X W tg iter it) (ok : BlkOk X.N X.env.scope scope own)
    (hg : ∀ (s : Shared) (H : Hp) (C : Addr) (cl : List (Str × Addr)) (fp : List Addr), JG (X.blk s H scope (compEnvC scope cl C X.env) fp) tg ws t)
    (ht : ∀ (s : Shared) (H : Hp) (C : Addr) (cl : List (Str × Addr)) (fp : List Addr), JTs (X.blk s H scope (compEnvC scope cl C X.env) fp) W0 ifs fc)
    (he : ∀ (s : Shared) (H : Hp) (C : Addr) (cl : List (Str × Addr)) (fp : List Addr), JE (X.blk s H scope (compEnvC scope cl C X.env) fp) W0 elt fe)
    (hto : TgOk ws t) (hws : ∀ i ∈ ws, i ∈ own.map (·.2) := by decide) (hs : ∀ x, foldedSetIterable iter X.env x = pure x := by intro _; rfl) :
    JE X W (.ListComp elt [⟨tg, iter, ifs, 0⟩] scope pos) (dLc it t fc fe (own.map (·.2))) :=
  PE.imp (je_lcD hc hN hi ok hg ht he hto hws hs) fun σ H Q ⟨G, Z, env, T, r, p⟩ => ⟨G, Z, env, T, r, lc_postF p⟩
end
end J
namespace J
open PySem PySem.Spec PyProof.Rows L2
def Wrote (M : Str → Option Value) (F : Hp) (L B : Cells) (v : V) (a : Addr) (ho ho' : HO) (o' : OV) : Prop := ∃ A D L', L.Perm ((a, ho) :: (A ++ D)) ∧ Own M F o' v L' ∧ L'.Perm ((a, ho') :: (A ++ B))
section
variable {M : Str → Option Value} {G Z H F : Hp} {σ : Sl} {env : VEnv} {T : List (V × Rv)} {o p p' : OV} {v y : V} {i : Nat} {L B : Cells} {L1 L2 : Cells} {a : Addr} {ho ho' : HO}
theorem TmpOwn.anyH {H' : Hp} (t : TmpOwn M F H T L) (h : AllSt T) : TmpOwn M F H' T L := by
  induction t with
  | nil => exact .nil
  | st d _ ih => exact .st d (ih fun p hp => h p (List.mem_cons_of_mem _ hp))
  | bo d _ ih =>
    obtain ⟨o, e⟩ := h _ List.mem_cons_self
    cases e
theorem RF.write (r : RF M G Z H F σ env ((y, .st o) :: T) L1 L2) (hT : AllSt T) (he : env[i]? = some (some p)) :
    ∃ v L B, σ[i]? = some (some v) ∧ Own M F p v L ∧ Own M F o y B ∧ (∀ q ∈ L, H q.1 = some q.2) ∧ ∀ a ho ho' p', Wrote M F L B v a ho ho' p' → ∃ E1 E2, RF M G Z (upd H a ho') F σ (env.set i (some p')) T E1 E2 := by
  obtain ⟨v, L, Lr, h1, h2, h3, h4, _⟩ := r.ev.repl he
  obtain ⟨B, C, e, d, t⟩ := r.tm.freeze
  subst e
  refine ⟨v, L, B, h1, h2, d, fun q hq => r.gd.hp q (List.mem_append_left _ (h3.mem_iff.mpr (List.mem_append_left _ hq))), fun a ho ho' p' ⟨A, D, L', q1, q2, q3⟩ => ?_⟩
  obtain ⟨L3, k1, k2⟩ := h4 p' v L' q2
  have hσ : σ.set i (some v) = σ := by
    apply List.ext_getElem?
    intro j
    by_cases hj : i = j
    · subst hj
      obtain ⟨hlt, _⟩ := List.getElem?_eq_some_iff.mp h1
      rw [List.getElem?_set_self hlt, h1]
    · rw [List.getElem?_set_ne hj]
  rw [hσ] at k1
  -- all cells of before
  have pm : (L1 ++ (B ++ C)).Perm ((a, ho) :: ((A ++ B) ++ Lr ++ C) ++ D) := by
    refine (h3.append_right _).trans ?_
    refine ((q1.append_right Lr).append_right (B ++ C)).trans ?_
    have e1 : ((a, ho) :: (A ++ D) ++ Lr ++ (B ++ C)) = (a, ho) :: (A ++ (D ++ (Lr ++ (B ++ C)))) := by simp
    have e2 : ((a, ho) :: ((A ++ B) ++ Lr ++ C) ++ D) = (a, ho) :: (A ++ (B ++ (Lr ++ (C ++ D)))) := by simp
    rw [e1, e2]
    refine List.Perm.cons _ (List.Perm.append_left A ?_)
    -- D ++ (Lr ++ (B ++ C)) ~ B ++ (Lr ++ (C ++ D))
    refine List.perm_append_comm.trans ?_
    have e3 : Lr ++ (B ++ C) ++ D = (Lr ++ B) ++ (C ++ D) := by simp
    have e4 : B ++ (Lr ++ (C ++ D)) = (B ++ Lr) ++ (C ++ D) := by simp
    rw [e3, e4]
    exact List.perm_append_comm.append_right _
  have g := (r.gd.perm pm).left
  have nd := g.nd
  rw [List.map_cons, List.nodup_cons] at nd
  have ne : ∀ q ∈ (A ++ B) ++ Lr ++ C, q.1 ≠ a := fun q hq z => nd.1 (by rw [← z]; exact List.mem_map.mpr ⟨q, hq, rfl⟩)
  have fa : F a = none := g.fr (a, ho) List.mem_cons_self
  have za : Z a = none := g.zr (a, ho) List.mem_cons_self
  have g2 : Good F Z (upd H a ho') ((a, ho') :: ((A ++ B) ++ Lr ++ C)) := by
    refine ⟨by rw [List.map_cons, List.nodup_cons]; exact nd, fun q hq => ?_, fun q hq => ?_, fun q hq => ?_⟩
    · rcases List.mem_cons.mp hq with rfl | hq
      · exact upd_same
      · rw [upd_ne (ne q hq)]; exact g.hp q (List.mem_cons_of_mem _ hq)
    · rcases List.mem_cons.mp hq with rfl | hq
      · exact fa
      · exact g.fr q (List.mem_cons_of_mem _ hq)
    · rcases List.mem_cons.mp hq with rfl | hq
      · exact za
      · exact g.zr q (List.mem_cons_of_mem _ hq)
  refine ⟨L3, C, r.gf, r.fg, fun b u e => ?_, fun b u e => ?_, k1, t.anyH hT, g2.perm ?_⟩
  · rw [upd_ne (fun z => by rw [z, fa] at e; cases e)]; exact r.fh b u e
  · rw [upd_ne (fun z => by rw [z, za] at e; cases e)]; exact r.zh b u e
  · refine List.Perm.symm ((k2.append_right C).trans ?_)
    exact (q3.append_right Lr).append_right C
theorem OwnL.snoc {os : List OV} {vs : List V} {y : V} (h : OwnL M F os vs L) (d : Own M F o y B) : OwnL M F (os ++ [o]) (vs ++ [y]) (L ++ B) := by
  induction os generalizing vs L with
  | nil =>
    obtain ⟨e1, e2⟩ := h
    subst e1 e2
    exact ⟨y, [], B, [], rfl, d, ⟨rfl, rfl⟩, by simp⟩
  | cons x os ih =>
    obtain ⟨v, ws, A, C, e, q, r, e2⟩ := h
    subst e e2
    exact ⟨v, ws ++ [y], A, C ++ B, rfl, q, ih r, by rw [List.append_assoc]⟩
end
def OV.app : OV → OV → Option OV
  | .ol xs, .fz x => some (.ol (xs ++ [x]))
  | .ol [], o => some (.dl [o])
  | .dl os, o => some (.dl (os ++ [o]))
  | _, _ => none
def OV.size : OV → Nat
  | .ol xs => xs.length
  | .dl os => os.length
  | .oK k => k.length
  | .oT k => k.length
  | .dd k => k.length
  | _ => 0
section
variable {M : Str → Option Value} {G Z H F : Hp} {σ : Sl} {env : VEnv} {T : List (V × Rv)} {o p p' : OV} {v y : V} {i : Nat} {L B : Cells} {L1 L2 : Cells} {a : Addr} {ho ho' : HO}
theorem own_app (e : p.app o = some p') (h : Own M F p v L) (d : Own M F o y B) : ∃ a vs, v = .ref a ∧ (a, HO.lst vs) ∈ L ∧ vs.length = p.size ∧ Wrote M F L B v a (.lst vs) (.lst (vs ++ [y])) p' := by
  unfold OV.app at e
  split at e
  · rename_i xs x
    cases e
    obtain ⟨a, vs, e1, r, e2⟩ := h
    obtain ⟨d, hB⟩ := d
    subst hB e1 e2
    exact ⟨a, vs, rfl, List.mem_singleton.mpr rfl, r.length, [], [], _, .refl _, ⟨a, _, rfl, r.append ⟨y, [], rfl, d, rfl⟩, rfl⟩, .refl _⟩
  · rename_i o' _
    cases e
    obtain ⟨a, vs, e1, r, e2⟩ := h
    cases (show vs = [] from r)
    subst e1 e2
    exact ⟨a, [], rfl, List.mem_singleton.mpr rfl, rfl, [], [], _, .refl _, ⟨a, [y], B, rfl, ⟨y, [], B, [], rfl, d, ⟨rfl, rfl⟩, by simp⟩, rfl⟩, .refl _⟩
  · rename_i os o'
    cases e
    obtain ⟨a, vs, L', e1, r, e2⟩ := h
    subst e1 e2
    exact ⟨a, vs, rfl, List.mem_cons_self, r.length, L', [], _, by simp, ⟨a, _, _, rfl, r.snoc d, rfl⟩, .refl _⟩
  · cases e
end
def OV.isL : OV → Bool
  | .ol _ => true
  | .dl _ => true
  | _ => false
theorem own_isL {M : Str → Option Value} {F : Hp} {p : OV} {v : V} {L : Cells} (h : p.isL = true) (d : Own M F p v L) : ∃ a vs, v = .ref a ∧ (a, HO.lst vs) ∈ L := by
  unfold OV.isL at h
  split at h
  · obtain ⟨a, vs, e1, r, e2⟩ := d
    exact ⟨a, vs, e1, by rw [e2]; exact List.mem_singleton.mpr rfl⟩
  · obtain ⟨a, vs, L', e1, r, e2⟩ := d
    exact ⟨a, vs, e1, by rw [e2]; exact List.mem_cons_self⟩
  · cases h
theorem RF.isL {M : Str → Option Value} {G Z H F : Hp} {σ : Sl} {env : VEnv} {T : List (V × Rv)} {C1 C2 : Cells} {p : OV} {i : Nat} (r : RF M G Z H F σ env T C1 C2) (h : p.isL = true) (e : env[i]? = some (some p)) : ∃ a vs, σ[i]? = some (some (.ref a)) ∧ H a = some (.lst vs) := by
  obtain ⟨v, A, Lr, h1, h2, h3, _⟩ := r.ev.repl e
  obtain ⟨a, vs, e1, hm⟩ := own_isL h h2
  subst e1
  exact ⟨a, vs, h1, r.gd.hp (a, .lst vs) (List.mem_append_left _ (h3.mem_iff.mpr (List.mem_append_left _ hm)))⟩
def dApp (i : Nat) (f : DE) : DS := fun env => match env[i]? with
  | some (some p) => if p.isL then (f env).bind fun r => match r with
    | .st o => if p.size < BIG then match p.app o with
      | some p' => .ok (.nx (env.set i (some p')))
      | none => .no
      else .no
    | _ => .no
    else .no
  | _ => .no
section
variable {X : Cx} {W : WX} {pos pos' apos : Pos} {e : Expr} {f g : DE} {x : Str}
theorem PS.or {st : Stmt} {t t' : TS} (p : PS X st t) (p' : PS X st t') : PS X st (fun D σ H => t D σ H ∨ t' D σ H) := ⟨fun pins s σ H D I h => h.elim (p.run pins s σ H D I) (p'.run pins s σ H D I)⟩
theorem js_append (i : Nat) (he : JE X W e f) (hN : X.N[i]? = some x := by rfl) (hv : Vis X.env.scope x := by first | exact Or.inl rfl | exact Or.inr (Or.inl rfl) | exact Or.inr (Or.inr rfl))
    (hd : (x == ("__debug__" : Str)) = false := by decide) (hcd : (x == ("__classdict__" : Str)) = false := by decide)
    (hs : swapsWith (.Call (.Attribute (.Name x pos') "append" apos) [e] [] cpos) none pos.line X.env = pure false := by rfl)
    (hbase : attributeBase (.Name x pos') "append" X.env (eval (.Name x pos') X.env) = eval (.Name x pos') X.env := by rfl)
    (hfew : ((backTo cpos (starEach [e] X.env)).all (fun x => !x.1) && (backToKw cpos (keywordEach [] X.env)).all (fun x => x.1.isSome)
      && decide ([e].length + ([] : List Keyword).length + (if ([] : List Keyword).isEmpty then 0 else 1) < 30)) = true := by rfl)
    (hline : (apos.endLine == cpos.line) = true := by rfl) (hst : starEach [e] X.env = (false, eval e X.env) :: starEach [] X.env := by rfl) (hplain : (backTo cpos (starEach [] X.env)).any (·.1) = false := by rfl) :
    JS X W (.Expr (.Call (.Attribute (.Name x pos') "append" apos) [e] [] cpos) pos) (dApp i f) := by
  refine PS.imp (ps_expr (pe_bm F.plainAttrs_list F.slot_list_append (by rfl) (fun pins s σ H x xs v us Q I r rv q => mt_append pins s σ H x xs v us Q I r rv q) (pe_var hN hv hd hcd) (pa_cons he pa_nil hst) hbase hfew hline hst hplain) hs) fun D σ H ⟨G, Z, env, T, hT, r, p⟩ => ?_
  unfold dApp at p
  cases ei : env[i]? with
  | none => rw [ei] at p; exact p.elim
  | some ov =>
    cases ov with
    | none => rw [ei] at p; exact p.elim
    | some q =>
      rw [ei] at p
      simp only at p
      by_cases hl : q.isL = true
      · rw [if_pos hl] at p
        obtain ⟨F, C1, C2, r⟩ := r
        obtain ⟨a0, vs0, k1, k2⟩ := r.isL hl ei
        refine ⟨_, k1, .inl ⟨rfl, vs0, SqL.of k2⟩, ?_⟩
        refine tE.bindS r.r p fun rv y H1 _ s1 r1 p1 => ?_
        cases rv with
        | bo o => exact p1.elim
        | st o =>
          simp only at p1
          split at p1
          · rename_i hb
            split at p1
            · rename_i p' ep
              obtain ⟨F2, D1, D2, r1⟩ := r1
              obtain ⟨v, L, B, j1, j2, j3, j4, j5⟩ := r1.write hT ei
              rw [k1] at j1
              obtain rfl := Option.some.inj (Option.some.inj j1)
              obtain ⟨a, vs, e1, m1, m2, wr⟩ := own_app ep j2 j3
              cases e1
              exact ⟨a0, vs, y, rfl, rfl, j4 _ m1, by rw [m2, big_eq] at *; exact hb, p1 σ _ (let ⟨_, _, z⟩ := j5 _ _ _ _ wr; z.r)⟩
            · exact p1.elim
          · exact p1.elim
      · rw [if_neg hl] at p; exact p.elim
def dAppPop (i j : Nat) (f : DE) : DS := fun env => match env[i]?, env[j]? with
  | some (some p), some (some (.ol xs)) => if p.isL && decide (i ≠ j) && decide (xs.length ≤ BIG) && decide (p.size < BIG) then (f env).bind fun r => match r.fv with
      | .int k => match ixN xs.length k with
        | some m => match xs[m]? with
          | some x => match p.app (.fz x) with
            | some p' => .ok (.nx ((env.set j (some (.ol (xs.eraseIdx m)))).set i (some p')))
            | none => .no
          | none => .no
        | none => .no
      | _ => .no
    else .no
  | _, _ => .no
theorem FDenL.erase {M : Str → Option Value} {F : Hp} : ∀ {xs : List FV} {vs : List V} (m : Nat), FDenL M F xs vs → FDenL M F (xs.eraseIdx m) (vs.eraseIdx m)
  | [], _, m, d => by rw [show _ = [] from d]; rfl
  | x :: xs, _, 0, ⟨v, ws, e, d, r⟩ => by rw [e]; exact r
  | x :: xs, _, m + 1, ⟨v, ws, e, d, r⟩ => by rw [e]; exact ⟨v, _, rfl, d, r.erase m⟩
theorem js_appPop (i j : Nat) {y : Str} {cpos cpos2 apos2 pos2 : Pos} (he : JE X W e f) (hN : X.N[i]? = some x := by rfl) (hv : Vis X.env.scope x := by first | exact Or.inl rfl | exact Or.inr (Or.inl rfl) | exact Or.inr (Or.inr rfl))
    (hd : (x == ("__debug__" : Str)) = false := by decide) (hcd : (x == ("__classdict__" : Str)) = false := by decide)
    (hN2 : X.N[j]? = some y := by rfl) (hv2 : Vis X.env.scope y := by first | exact Or.inl rfl | exact Or.inr (Or.inl rfl) | exact Or.inr (Or.inr rfl))
    (hd2 : (y == ("__debug__" : Str)) = false := by decide) (hcd2 : (y == ("__classdict__" : Str)) = false := by decide)
    (hs : swapsWith (.Call (.Attribute (.Name x pos') "append" apos) [.Call (.Attribute (.Name y pos2) "pop" apos2) [e] [] cpos2] [] cpos) none pos.line X.env = pure false := by rfl)
    (hbase : attributeBase (.Name x pos') "append" X.env (eval (.Name x pos') X.env) = eval (.Name x pos') X.env := by rfl)
    (hfew : ((backTo cpos (starEach [.Call (.Attribute (.Name y pos2) "pop" apos2) [e] [] cpos2] X.env)).all (fun x => !x.1) && (backToKw cpos (keywordEach [] X.env)).all (fun x => x.1.isSome)
      && decide ([Expr.Call (.Attribute (.Name y pos2) "pop" apos2) [e] [] cpos2].length + ([] : List Keyword).length + (if ([] : List Keyword).isEmpty then 0 else 1) < 30)) = true := by rfl)
    (hline : (apos.endLine == cpos.line) = true := by rfl) (hst : starEach [.Call (.Attribute (.Name y pos2) "pop" apos2) [e] [] cpos2] X.env = (false, eval (.Call (.Attribute (.Name y pos2) "pop" apos2) [e] [] cpos2) X.env) :: starEach [] X.env := by rfl) (hplain : (backTo cpos (starEach [] X.env)).any (·.1) = false := by rfl)
    (hbase2 : attributeBase (.Name y pos2) "pop" X.env (eval (.Name y pos2) X.env) = eval (.Name y pos2) X.env := by rfl)
    (hfew2 : ((backTo cpos2 (starEach [e] X.env)).all (fun x => !x.1) && (backToKw cpos2 (keywordEach [] X.env)).all (fun x => x.1.isSome)
      && decide ([e].length + ([] : List Keyword).length + (if ([] : List Keyword).isEmpty then 0 else 1) < 30)) = true := by rfl)
    (hline2 : (apos2.endLine == cpos2.line) = true := by rfl) (hst2 : starEach [e] X.env = (false, eval e X.env) :: starEach [] X.env := by rfl) (hplain2 : (backTo cpos2 (starEach [] X.env)).any (·.1) = false := by rfl) :
    JS X W (.Expr (.Call (.Attribute (.Name x pos') "append" apos) [.Call (.Attribute (.Name y pos2) "pop" apos2) [e] [] cpos2] [] cpos) pos) (dAppPop i j f) := by
  have hpop := pe_bm F.plainAttrs_list F.slot_list_pop (by rfl) (fun pins s σ H x xs v us Q I r rv q => mt_popAt pins s σ H x xs v us Q I r rv q) (pe_var (pos := pos2) hN2 hv2 hd2 hcd2) (pa_cons he pa_nil hst2) hbase2 hfew2 hline2 hst2 hplain2
  refine PS.imp (ps_expr (pe_bm F.plainAttrs_list F.slot_list_append (by rfl) (fun pins s σ H x xs v us Q I r rv q => mt_append pins s σ H x xs v us Q I r rv q) (pe_var hN hv hd hcd) (pa_cons hpop pa_nil hst) hbase hfew hline hst hplain) hs) fun D σ H ⟨G, Z, env, T, hT, r, p⟩ => ?_
  unfold dAppPop at p
  split at p
  · rename_i p0 xs ei ej
    split at p
    · rename_i hc
      simp only [Bool.and_eq_true, decide_eq_true_eq] at hc
      obtain ⟨⟨⟨hl, hij⟩, hx⟩, hsz⟩ := hc
      obtain ⟨F, C1, C2, r⟩ := r
      obtain ⟨a0, vs0, k1, k2⟩ := r.isL hl ei
      obtain ⟨a1, vs1, k3, k4⟩ := r.isL (p := .ol xs) rfl ej
      refine ⟨_, k1, .inl ⟨rfl, vs0, SqL.of k2⟩, ⟨_, k3, .inl ⟨rfl, vs1, SqL.of k4⟩, ?_⟩⟩
      refine tE.bindS r.r p fun rv y H1 _ s1 r1 p1 => ?_
      split at p1
      · rename_i k ek
        split at p1
        · rename_i m em
          split at p1
          · rename_i z ez
            split at p1
            · rename_i p' ep
              obtain ⟨F2, D1, D2, r1⟩ := r1
              have hb : FDen X.mg H1 rv.fv y := (r1.bor (List.mem_cons_self (a := (y, rv)))).fden r1.fh
              rw [ek] at hb
              have hy : y = .int k := hb
              obtain ⟨F3, E1, E2, r2⟩ := r1.r.pop
              obtain ⟨F4, E3, E4, r2⟩ := r2.new (New.non r2.fh)
              obtain ⟨v, L, B, j1, j2, j3, j4, j5⟩ := r2.write hT ej
              rw [k3] at j1
              obtain rfl := Option.some.inj (Option.some.inj j1)
              obtain ⟨a, vs, e1, dd, e2⟩ := j2
              cases e1
              have hB : B = [] := j3.2
              subst hB e2
              have hlen : vs.length = xs.length := dd.length
              have hH1 : H1 a1 = some (.lst vs) := j4 (a1, .lst vs) (List.mem_singleton.mpr rfl)
              obtain ⟨q1, q2, q3, q4⟩ := ixN_seq em
              obtain ⟨w, hw, dw⟩ := dd.get ez
              have hx2 : xs.length ≤ 16777216 := hx
              refine ⟨a1, vs, k, m, w, rfl, by rw [hy], hH1, by omega, by omega, by rw [hlen]; exact q1, hw, ?_⟩
              have r3 := j5 a1 (.lst vs) (.lst (vs.eraseIdx m)) (.ol (xs.eraseIdx m)) ⟨[], [], _, .refl _, ⟨a1, _, rfl, dd.erase m, rfl⟩, .refl _⟩
              obtain ⟨E5, E6, r3⟩ := r3
              have ei' : (env.set j (some (.ol (xs.eraseIdx m))))[i]? = some (some p0) := by rw [List.getElem?_set_ne (Ne.symm hij)]; exact ei
              have r4 : RF X.mg G Z (upd H1 a1 (.lst (vs.eraseIdx m))) F4 σ (env.set j (some (.ol (xs.eraseIdx m)))) ((w, .st (.fz z)) :: T) E5 ([] ++ E6) := ⟨r3.gf, r3.fg, r3.fh, r3.zh, r3.ev, .st ⟨dw, rfl⟩ r3.tm, r3.gd⟩
              obtain ⟨v2, L2, B2, j1, j2, j3, j4, j5⟩ := r4.write hT ei'
              rw [k1] at j1
              obtain rfl := Option.some.inj (Option.some.inj j1)
              obtain ⟨a2, vs2, e1, m1, m2, wr⟩ := own_app ep j2 j3
              cases e1
              exact ⟨a0, vs2, w, rfl, rfl, j4 _ m1, by rw [m2]; exact hsz, p1 σ _ (let ⟨_, _, z⟩ := j5 _ _ _ _ wr; z.r)⟩
            · exact p1.elim
          · exact p1.elim
        · exact p1.elim
      · exact p1.elim
    · exact p.elim
  · exact p.elim
end
end J
namespace J
open PySem PySem.Spec PyProof.Rows L2
def putKV {κ α : Type} [DecidableEq κ] (kvs : List (κ × α)) (k : κ) (v : α) : List (κ × α) := if kvs.any (fun kv => decide (kv.1 = k)) then kvs.map (fun kv => if kv.1 = k then (kv.1, v) else kv) else kvs ++ [(k, v)]
def OV.isD2 : OV → Bool
  | .oK _ => true
  | .oT _ => true
  | .dd _ => true
  | _ => false
def OV.put (p : OV) (k : FV) (o : OV) : Option OV := match p, k, o with
  | .ol xs, .int i, .fz x => (ixN xs.length i).map fun j => .ol (xs.set j x)
  | .dl os, .int i, o => (ixN os.length i).map fun j => .dl (os.set j o)
  | .oK kvs, k, .fz x => k.key?.map fun k => .oK (putKV kvs k x)
  | .oK [], k, o => k.key?.map fun k => .dd [(k, o)]
  | .dd kvs, k, o => k.key?.bind fun k => if kvs.any (fun kv => decide (kv.1 = k)) then none else some (.dd (kvs ++ [(k, o)]))
  | .oT kvs, k, .fz x => k.keyT?.map fun k => .oT (putKV kvs k x)
  | _, _, _ => none
section
variable {M : Str → Option Value} {G Z H F : Hp} {σ : Sl} {env : VEnv} {T : List (V × Rv)} {o p p' : OV} {v y : V} {i : Nat} {L B : Cells} {L1 L2 : Cells} {a : Addr} {ho ho' : HO}
theorem OwnL.put {os : List OV} {vs : List V} (h : OwnL M F os vs L) (d : Own M F o y B) : ∀ {j : Nat}, j < os.length → ∃ D A L', L.Perm (A ++ D) ∧ OwnL M F (os.set j o) (vs.set j y) L' ∧ L'.Perm (A ++ B) := by
  induction os generalizing vs L with
  | nil => intro j hj; simp at hj
  | cons x os ih =>
    intro j hj
    obtain ⟨v, ws, A, C, e, q, r, e2⟩ := h
    subst e e2
    cases j with
    | zero => exact ⟨A, C, _, List.perm_append_comm, ⟨y, ws, B, C, rfl, d, r, rfl⟩, List.perm_append_comm⟩
    | succ j =>
      obtain ⟨D, A2, L', q1, q2, q3⟩ := ih r (j := j) (by simpa using hj)
      refine ⟨D, A ++ A2, _, ?_, ⟨v, _, A, L', rfl, q, q2, rfl⟩, ?_⟩
      · rw [List.append_assoc]; exact List.Perm.append_left A q1
      · rw [List.append_assoc]; exact List.Perm.append_left A q3
theorem FDenL.put {x : FV} {xs : List FV} {vs : List V} (h : FDenL M F xs vs) (d : FDen M F x y) : ∀ (j : Nat), FDenL M F (xs.set j x) (vs.set j y) := by
  induction xs generalizing vs with
  | nil => intro j; rw [show vs = [] from h]; exact rfl
  | cons z xs ih =>
    intro j
    obtain ⟨v, ws, e, q, r⟩ := h
    subst e
    cases j with
    | zero => exact ⟨y, ws, rfl, d, r⟩
    | succ j => exact ⟨v, _, rfl, q, ih r j⟩
theorem FDenK.any {kvs : List (Key × FV)} {ws : List (Key × V)} (h : FDenK M F kvs ws) (k : Key) : kvs.any (fun kv => decide (kv.1 = k)) = ws.any (fun kv => decide (kv.1 = k)) := by
  induction kvs generalizing ws with
  | nil => rw [show ws = [] from h]; rfl
  | cons p kvs ih =>
    obtain ⟨j, x⟩ := p
    obtain ⟨v, rs, e, q, r⟩ := h
    subst e
    rw [List.any_cons, List.any_cons, ih r]
theorem FDenT.any {kvs : List (List Key × FV)} {ws : List (List Key × V)} (h : FDenT M F kvs ws) (k : List Key) : kvs.any (fun kv => decide (kv.1 = k)) = ws.any (fun kv => decide (kv.1 = k)) := by
  induction kvs generalizing ws with
  | nil => rw [show ws = [] from h]; rfl
  | cons p kvs ih =>
    obtain ⟨j, x⟩ := p
    obtain ⟨v, rs, e, q, r⟩ := h
    subst e
    rw [List.any_cons, List.any_cons, ih r]
theorem OwnK.any {kvs : List (Key × OV)} {ws : List (Key × V)} (h : OwnK M F kvs ws L) (k : Key) : kvs.any (fun kv => decide (kv.1 = k)) = ws.any (fun kv => decide (kv.1 = k)) := by
  induction kvs generalizing ws L with
  | nil => rw [h.1]; rfl
  | cons p kvs ih =>
    obtain ⟨j, x⟩ := p
    obtain ⟨v, rs, A, C, e, q, r, _⟩ := h
    subst e
    rw [List.any_cons, List.any_cons, ih r]
theorem FDenK.snoc {x : FV} {k : Key} {kvs : List (Key × FV)} {ws : List (Key × V)} (h : FDenK M F kvs ws) (d : FDen M F x y) : FDenK M F (kvs ++ [(k, x)]) (ws ++ [(k, y)]) := by
  induction kvs generalizing ws with
  | nil => rw [show ws = [] from h]; exact ⟨y, [], rfl, d, rfl⟩
  | cons p kvs ih =>
    obtain ⟨j, z⟩ := p
    obtain ⟨v, rs, e, q, r⟩ := h
    subst e
    exact ⟨v, _, rfl, q, ih r⟩
theorem FDenT.snoc {x : FV} {k : List Key} {kvs : List (List Key × FV)} {ws : List (List Key × V)} (h : FDenT M F kvs ws) (d : FDen M F x y) : FDenT M F (kvs ++ [(k, x)]) (ws ++ [(k, y)]) := by
  induction kvs generalizing ws with
  | nil => rw [show ws = [] from h]; exact ⟨y, [], rfl, d, rfl⟩
  | cons p kvs ih =>
    obtain ⟨j, z⟩ := p
    obtain ⟨v, rs, e, q, r⟩ := h
    subst e
    exact ⟨v, _, rfl, q, ih r⟩
theorem OwnK.snoc {k : Key} {kvs : List (Key × OV)} {ws : List (Key × V)} (h : OwnK M F kvs ws L) (d : Own M F o y B) : OwnK M F (kvs ++ [(k, o)]) (ws ++ [(k, y)]) (L ++ B) := by
  induction kvs generalizing ws L with
  | nil =>
    obtain ⟨e1, e2⟩ := h
    subst e1 e2
    exact ⟨y, [], B, [], rfl, d, ⟨rfl, rfl⟩, by simp⟩
  | cons p kvs ih =>
    obtain ⟨j, z⟩ := p
    obtain ⟨v, rs, A, C, e, q, r, e2⟩ := h
    subst e e2
    exact ⟨v, _, A, _, rfl, q, ih r, by rw [List.append_assoc]⟩
theorem FDenK.repl {x : FV} {k : Key} {kvs : List (Key × FV)} {ws : List (Key × V)} (h : FDenK M F kvs ws) (d : FDen M F x y) : FDenK M F (kvs.map fun kv => if kv.1 = k then (kv.1, x) else kv) (ws.map fun kv => if kv.1 = k then (kv.1, y) else kv) := by
  induction kvs generalizing ws with
  | nil => rw [show ws = [] from h]; exact rfl
  | cons p kvs ih =>
    obtain ⟨j, z⟩ := p
    obtain ⟨v, rs, e, q, r⟩ := h
    subst e
    rw [List.map_cons, List.map_cons]
    by_cases hj : j = k
    · simp only [hj, if_true]; exact ⟨y, _, rfl, d, ih r⟩
    · simp only [hj, if_false]; exact ⟨v, _, rfl, q, ih r⟩
theorem FDenT.repl {x : FV} {k : List Key} {kvs : List (List Key × FV)} {ws : List (List Key × V)} (h : FDenT M F kvs ws) (d : FDen M F x y) : FDenT M F (kvs.map fun kv => if kv.1 = k then (kv.1, x) else kv) (ws.map fun kv => if kv.1 = k then (kv.1, y) else kv) := by
  induction kvs generalizing ws with
  | nil => rw [show ws = [] from h]; exact rfl
  | cons p kvs ih =>
    obtain ⟨j, z⟩ := p
    obtain ⟨v, rs, e, q, r⟩ := h
    subst e
    rw [List.map_cons, List.map_cons]
    by_cases hj : j = k
    · simp only [hj, if_true]; exact ⟨y, _, rfl, d, ih r⟩
    · simp only [hj, if_false]; exact ⟨v, _, rfl, q, ih r⟩
theorem FDenK.put {x : FV} {k : Key} {kvs : List (Key × FV)} {ws : List (Key × V)} (h : FDenK M F kvs ws) (d : FDen M F x y) : FDenK M F (putKV kvs k x) (putK ws k y) := by
  unfold putKV putK
  rw [h.any]
  split
  · exact h.repl d
  · exact h.snoc d
theorem FDenT.put {x : FV} {k : List Key} {kvs : List (List Key × FV)} {ws : List (List Key × V)} (h : FDenT M F kvs ws) (d : FDen M F x y) : FDenT M F (putKV kvs k x) (putK ws k y) := by
  unfold putKV putK
  rw [h.any]
  split
  · exact h.repl d
  · exact h.snoc d
theorem FDenT.length {kvs : List (List Key × FV)} {ws : List (List Key × V)} (h : FDenT M F kvs ws) : ws.length = kvs.length := by
  induction kvs generalizing ws with
  | nil => rw [show ws = [] from h]; rfl
  | cons p kvs ih => obtain ⟨j, z⟩ := p; obtain ⟨v, rs, e, q, r⟩ := h; subst e; rw [List.length_cons, List.length_cons, ih r]
theorem OwnK.length {kvs : List (Key × OV)} {ws : List (Key × V)} (h : OwnK M F kvs ws L) : ws.length = kvs.length := by
  induction kvs generalizing ws L with
  | nil => rw [h.1]; rfl
  | cons p kvs ih => obtain ⟨j, z⟩ := p; obtain ⟨v, rs, A, C, e, q, r, _⟩ := h; subst e; rw [List.length_cons, List.length_cons, ih r]
theorem own_put {k : FV} {w : V} (e : p.put k o = some p') (h : Own M F p v L) (d : Own M F o y B) (dk : FDen M H k w) (hH : ∀ q ∈ L, H q.1 = some q.2) (hs : p.size < BIG) :
    (p.isL = true ∧ ∃ a vs i j, v = .ref a ∧ w = .int i ∧ H a = some (.lst vs) ∧ ixN vs.length i = some j ∧ Wrote M F L B v a (.lst vs) (.lst (vs.set j y)) p') ∨
    (p.isD2 = true ∧ ∃ a ho ho', v = .ref a ∧ DPut H a w y (upd H a ho') ∧ Wrote M F L B v a ho ho' p') := by
  unfold OV.put at e
  split at e
  · rename_i xs i x
    obtain ⟨j, ej, e⟩ := Option.map_eq_some_iff.mp e
    subst e
    obtain ⟨a, vs, e1, r, e2⟩ := h
    obtain ⟨d, hB⟩ := d
    subst hB e1 e2
    exact .inl ⟨rfl, a, vs, i, j, rfl, dk, hH _ (List.mem_singleton.mpr rfl), by rw [r.length]; exact ej, [], [], _, .refl _, ⟨a, _, rfl, r.put d j, rfl⟩, .refl _⟩
  · rename_i os i
    obtain ⟨j, ej, e⟩ := Option.map_eq_some_iff.mp e
    subst e
    obtain ⟨a, vs, L', e1, r, e2⟩ := h
    subst e1 e2
    obtain ⟨D, A, L2, q1, q2, q3⟩ := r.put d (ixN_seq ej).2.1
    exact .inl ⟨rfl, a, vs, i, j, rfl, dk, hH _ List.mem_cons_self, by rw [r.length]; exact ej, A, D, _, q1.cons _, ⟨a, _, _, rfl, q2, rfl⟩, q3.cons _⟩
  · rename_i kvs k x
    obtain ⟨k', ek, e⟩ := Option.map_eq_some_iff.mp e
    subst e
    obtain ⟨a, ws, e1, r, e2⟩ := h
    obtain ⟨d, hB⟩ := d
    subst hB e1 e2
    refine .inr ⟨rfl, a, .dK ws, .dK (putK ws k' y), rfl, ?_, [], [], _, .refl _, ⟨a, _, rfl, r.put d, rfl⟩, .refl _⟩
    rw [dk.key ek]
    exact DPut.k (hH (a, .dK ws) (List.mem_singleton.mpr rfl)) (by rw [r.length, big_eq]; exact hs)
  · rename_i k o _
    obtain ⟨k', ek, e⟩ := Option.map_eq_some_iff.mp e
    subst e
    obtain ⟨a, ws, e1, r, e2⟩ := h
    cases (show ws = [] from r)
    subst e1 e2
    refine .inr ⟨rfl, a, .dK [], .dK [(k', y)], rfl, ?_, [], [], _, .refl _, ⟨a, _, _, rfl, ⟨y, [], B, [], rfl, d, ⟨rfl, rfl⟩, rfl⟩, rfl⟩, by simp⟩
    rw [dk.key ek]
    exact DPut.k (kvs := []) (k := k') (hH (a, .dK []) (List.mem_singleton.mpr rfl)) (by rw [big_eq]; decide)
  · rename_i kvs k o
    obtain ⟨k', ek, e⟩ := Option.bind_eq_some_iff.mp e
    split at e
    · cases e
    · rename_i hn
      cases e
      obtain ⟨a, ws, L', e1, r, e2⟩ := h
      subst e1 e2
      have hp : putK ws k' y = ws ++ [(k', y)] := by
        unfold putK
        rw [← r.any, if_neg hn]
      refine .inr ⟨rfl, a, .dK ws, .dK (putK ws k' y), rfl, ?_, L', [], _, by simp, ⟨a, _, _, rfl, by rw [hp]; exact r.snoc d, rfl⟩, .refl _⟩
      rw [dk.key ek]
      exact DPut.k (hH (a, .dK ws) List.mem_cons_self) (by rw [r.length, big_eq]; exact hs)
  · rename_i kvs k x
    obtain ⟨k', ek, e⟩ := Option.map_eq_some_iff.mp e
    subst e
    obtain ⟨a, ws, e1, r, e2⟩ := h
    obtain ⟨d, hB⟩ := d
    subst hB e1 e2
    obtain ⟨b, eb, hb⟩ := dk.keyT ek
    subst eb
    exact .inr ⟨rfl, a, .dT ws, .dT (putK ws k' y), rfl, DPut.t (hH (a, .dT ws) (List.mem_singleton.mpr rfl)) hb (by rw [r.length, big_eq]; exact hs), [], [], _, .refl _, ⟨a, _, rfl, r.put d, rfl⟩, .refl _⟩
  · cases e
end
theorem isL_D2 {p : OV} (h : p.isL = true) (h2 : p.isD2 = true) : False := by
  cases p <;> simp [OV.isL, OV.isD2] at h h2
def dPut (i : Nat) (fk fe : DE) : DS := fun env => match env[i]? with
  | some (some p) => if p.isL || p.isD2 then (fe env).bind fun r => match r with
      | .st o => (fk env).bind fun kr => if p.size < BIG then match p.put kr.fv o with
          | some p' => .ok (.nx (env.set i (some p')))
          | none => .no
        else .no
      | _ => .no
    else .no
  | _ => .no
theorem tE.bindS2 {M : Str → Option Value} {G Z H : Hp} {σ : Sl} {env : VEnv} {T T2 : List (V × Rv)} {W : WX} {D : Ends} {f : DE} {k : Rv → Ans SO} {Q1 : VK} (r : R M G Z H σ env T2) (hs : Sb T T2) (p : PostS M W G Z T D ((f env).bind k))
    (h : ∀ rv v H1, f env = .ok rv → Same H H1 → R M G Z H1 σ env ((v, rv) :: T2) → PostS M W G Z T D (k rv) → Q1 v H1) : tE M W f σ H Q1 := by
  refine tE.then r hs (fun rv v H1 e s r => h rv v H1 e s r ?_) (fun c C H1 e m s r => ?_) fun e => ?_
  · rw [e] at p; exact p
  · rw [e] at p
    obtain ⟨_, _, _, r⟩ := r
    exact p C σ H1 m r.zh
  · rw [e] at p; exact p
section
variable {X : Cx} {W : WX} {pos pos' apos tpos : Pos} {e k : Expr} {f fk fe : DE} {x : Str}
theorem put_run {M : Str → Option Value} {G Z H : Hp} {σ : Sl} {env : VEnv} {T : List (V × Rv)} {i : Nat} {D : Ends} {p : OV} (hT : AllSt T) (ei : env[i]? = some (some p)) (r : R M G Z H σ env T) (h : PostS M W G Z T D ((fe env).bind fun r => match r with
      | .st o => (fk env).bind fun kr => if p.size < BIG then match p.put kr.fv o with
          | some p' => .ok (.nx (env.set i (some p')))
          | none => .no
        else .no
      | _ => .no)) (Qf : V → V → V → Hp → Prop)
    (hQ : ∀ a w y H3, ((p.isL = true ∧ ∃ vs i j, w = .int i ∧ H3 a = some (.lst vs) ∧ ixN vs.length i = some j ∧ D.nx σ (upd H3 a (.lst (vs.set j y)))) ∨ (p.isD2 = true ∧ ∃ H4, DPut H3 a w y H4 ∧ D.nx σ H4)) → Qf (.ref a) w y H3) :
    tE M W fe σ H fun y H1 => ∃ v, σ[i]? = some (some v) ∧ tE M W fk σ H1 fun w H3 => Qf v w y H3 := by
  refine tE.bindS r h fun rv y H1 _ s1 r1 p1 => ?_
  cases rv with
  | bo o => exact p1.elim
  | st o =>
    simp only at p1
    obtain ⟨F1, D1, D2, r1⟩ := r1
    obtain ⟨v0, A0, _, h1, _⟩ := r1.ev.repl ei
    refine ⟨v0, h1, ?_⟩
    refine tE.bindS2 r1.r Sb.refl.cons p1 fun kr w H3 _ s3 r3 p3 => ?_
    split at p3
    · rename_i hs
      split at p3
      · rename_i p' ep
        obtain ⟨F3, D3, D4, r3⟩ := r3
        have dk : FDen M H3 kr.fv w := (r3.bor (List.mem_cons_self (a := (w, kr)))).fden r3.fh
        obtain ⟨F4, D5, D6, r4⟩ := r3.r.pop
        obtain ⟨v, L, B, j1, j2, j3, j4, j5⟩ := r4.write hT ei
        rw [h1] at j1
        obtain rfl := Option.some.inj (Option.some.inj j1)
        rcases own_put ep j2 j3 dk j4 hs with ⟨hp, a, vs, n, j, e1, e2, e3, e4, wr⟩ | ⟨hp, a, ho, ho', e1, e2, wr⟩
        · subst e1
          exact hQ a w y H3 (.inl ⟨hp, vs, n, j, e2, e3, e4, p3 σ _ (let ⟨_, _, z⟩ := j5 _ _ _ _ wr; z.r)⟩)
        · subst e1
          exact hQ a w y H3 (.inr ⟨hp, _, e2, p3 σ _ (let ⟨_, _, z⟩ := j5 _ _ _ _ wr; z.r)⟩)
      · exact p3.elim
    · exact p3.elim
theorem js_put (i : Nat) (hu : X.A.units + 1 < cLine) (hk : JE X W k fk) (he : JE X W e fe) (hN : X.N[i]? = some x := by rfl) (hv : Vis X.env.scope x := by first | exact Or.inl rfl | exact Or.inr (Or.inl rfl) | exact Or.inr (Or.inr rfl))
    (hd : (x == ("__debug__" : Str)) = false := by decide) (hcd : (x == ("__classdict__" : Str)) = false := by decide)
    (hs1 : swapsWith e (some (.Subscript (.Name x pos') k tpos)) pos.line X.env = pure false := by rfl)
    (hs : swapsWithSole [.Subscript (.Name x pos') k tpos] e pos.line X.env = pure false := by rfl) (hw : swappedStores [.Subscript (.Name x pos') k tpos] e X.env = pure none := by rfl)
    (h1 : (assignEach [.Subscript (.Name x pos') k tpos] X.env).map (·.2) = [assign (.Subscript (.Name x pos') k tpos) X.env] := by rfl)
    (ha : ∀ v, assign (.Subscript (.Name x pos') k tpos) X.env v = (do
      let ov ← holding [v] (eval (.Name x pos') X.env)
      let iv ← holding [v, ov] (eval k X.env)
      standAt tpos
      holding [v, ov, iv] (setItem ov iv v)
      release [v, ov, iv] []) := by intro _; rfl) :
    JS X W (.Assign [.Subscript (.Name x pos') k tpos] e pos) (dPut i fk fe) := by
  refine PS.imp (PS.or (ps_asg he (pg_sub (pe_var (pos := pos') hN hv hd hcd) hk set_list ha) hs hw h1) (ps_dput hu (pe_var (pos := pos') hN hv hd hcd) hk he hs1)) fun D σ H ⟨G, Z, env, T, hT, r, p⟩ => ?_
  unfold dPut at p
  split at p
  · rename_i q ei
    split at p
    · rename_i hq
      rw [Bool.or_eq_true] at hq
      rcases hq with hq | hq
      · refine .inl (put_run hT ei r p (fun o i y H3 => rSetL o i y H3 fun H4 => D.nx σ H4) fun a w y H3 h => ?_)
        rcases h with ⟨_, vs, n, j, e1, e2, e3, e4⟩ | ⟨hd, _⟩
        · exact ⟨a, vs, n, j, rfl, e1, e2, e3, e4⟩
        · exact (isL_D2 hq hd).elim
      · refine .inr (put_run hT ei r p (fun o i y H3 => ∃ a H4, o = .ref a ∧ DPut H3 a i y H4 ∧ D.nx σ H4) fun a w y H3 h => ?_)
        rcases h with ⟨hl, _⟩ | ⟨_, H4, e1, e2⟩
        · exact (isL_D2 hl hq).elim
        · exact ⟨a, H4, rfl, e1, e2⟩
    · exact p.elim
  · exact p.elim
end
end J
namespace J
open PySem PySem.Spec PyProof.Rows PySem.Calls PySem.SeqAt
section
variable {prog : Program} {w : World} {A : Around} {E : Value → Shared → Prop} {s : Shared}
def Emp (h : Heap) (v : Value) : Prop := ∃ a o n, v = .ref a ∧ h.get? a = some o ∧ o.cls = .type "tuple" ∧ o.data = .seq #[] n
theorem emp_of {h : Heap} {v : Value} {as : List Addr} (r : Reads h v (.tuple []) as) : Emp h v := by
  cases r with
  | @tuple a o xs n _ _ h1 h2 h3 h4 =>
    have e : xs = #[] := by
      cases q : xs.toList with
      | nil => exact Array.toList_eq_nil_iff.mp q
      | cons f r => rw [q] at h4; cases h4
    subst e
    exact ⟨a, o, n, rfl, h1, h2, h3⟩
theorem emp_kind {M : Model} {vs : List Value} {Q : SortKind → Shared → Prop} (h2 : 2 ≤ vs.length) (he : ∀ v ∈ vs, Emp s.heap v) (h : Q oneType' s) : wpAny M A (keyKind' vs.toArray) Q E s := by
  match vs, h2 with
  | v1 :: v2 :: rest, _ =>
    have look : ∀ v ∈ v1 :: v2 :: rest, PySem.W.Looks M s.heap (typeOf v) (Value.type "tuple") := fun v hv => by
      obtain ⟨a, o, n, rfl, e1, e2, e3⟩ := he v hv
      exact e2 ▸ (PySem.W.Looks.ld e1).andThen .now
    rw [keyKind'_eq, List.mapM_toArray, map_eq_pure_bind]
    refine wpAny_bind (wpAny_bind (PySem.W.kas_mapM (r := none) _ (fun v hv Q' hq => ?_) (wpAny_pure ?_)))
    · rw [PySem.W.kas_first_eq]
      refine wpAny_bind ((look v hv).here ?_)
      rw [if_neg (by first | decide | simp)]
      obtain ⟨a, o, n, rfl, e1, e2, e3⟩ := he v hv
      exact wpAny_bind (listItems_at e1 e3 (wpAny_pure hq))
    · rw [if_neg (by simp), if_neg (by simp), oneTypeOnly'_eq, List.mapM_toArray, map_eq_pure_bind]
      refine wpAny_bind (wpAny_bind (wpAny_bind (PySem.W.kas_mapM (r := Value.type "tuple") _ (fun v hv Q' hq => (look v hv).here hq) (wpAny_pure ?_))))
      have all : ((List.map (fun _ => Value.type "tuple") (v1 :: v2 :: rest)).toArray.all fun x => x == Value.type "tuple") = true := by
        simp only [List.all_toArray, List.all_map, List.all_eq_true]
        exact fun _ _ => beq_self_eq_true _
      have first : (List.map (fun _ => Value.type "tuple") (v1 :: v2 :: rest)).toArray[0]? = some (Value.type "tuple") := by simp
      rw [first]
      simp only [all, if_true]
      exact wpAny_pure (wpAny_pure h)
theorem emp_lt {x y : Value} {Q : Bool → Shared → Prop} (hx : Emp s.heap x) (hy : Emp s.heap y) (hu : A.units < cLine) (h : Q false s) : wpAny (model prog w) A (keyLt' oneType' x y) Q E s := by
  obtain ⟨a, o, n, rfl, e1, e2, e3⟩ := hx
  obtain ⟨b, p, k, rfl, f1, f2, f3⟩ := hy
  rw [keyLt'_oneType, oneLt'_eq]
  simp only [if_true]
  refine wpAny_bind (wpAny_cRoomFor hu ?_)
  obtain ⟨cls, dd, data, sl⟩ := o
  obtain ⟨cls2, dd2, data2, sl2⟩ := p
  simp only at e2 e3 f2 f3
  subst e2 e3 f2 f3
  refine wpAny_bind (wpAny_callSpecialIfBound?_slot (T := "tuple") ⟨_, e1, rfl⟩ F.slot_tuple_lt (call_meets F.slot_tuple_lt ⟨_, e1, rfl⟩ F.entry_tuple_lt (F.args_tuple_lt_2 _ _) (tuple_ltAt a b #[] #[] n k dd dd2 sl sl2 (fun _ => false) (fun _ => false)) ⟨e1, f1, fun j h => absurd h (by simp), fun j h => absurd h (by simp), ?_⟩))
  exact wpAny_truthy_bool h
theorem emp_sorts {vs : List Value} {ds : List PyData} (e : PySem.W.EachIs (fun v d => ∃ as, Reads s.heap v d as) vs ds) (hd : ∀ d ∈ ds, d = .tuple []) (hu : A.units < cLine) : PySem.W.SortsAt prog w A s (PySem.W.dataKind s.heap ds) vs := by
  have hal : PySem.W.AllAlike ds := fun d h d' h' => by
    rw [hd d h, hd d' h']
    simp [PySem.W.alike, PySem.W.alikeAll]
  refine ⟨fun v hv => ?_, oneType', fun E x y a b Q ha hb hq => ?_, fun h2 E Q hq => emp_kind h2 (fun v hv => ?_) hq⟩
  · obtain ⟨d, h, as, r⟩ := e.left v hv
    exact ⟨_, PySem.W.dataKind_some hal h r⟩
  · obtain ⟨d, as, h, ra, rfl⟩ := PySem.W.dataKind_inv ha
    obtain ⟨d', as', h', rb, rfl⟩ := PySem.W.dataKind_inv hb
    have q := hd d h
    have q' := hd d' h'
    subst q q'
    have hq' : Q (PySem.W.dataLt (.tuple []) (.tuple [])) s := hq
    rw [PySem.W.dataLt_tuple] at hq'
    exact emp_lt (emp_of ra) (emp_of rb) hu hq'
  · obtain ⟨d, h, as, r⟩ := e.left v hv
    rw [hd d h] at r
    exact emp_of r
theorem emp_sort_at {β : Type} {bs : List β} {enc : β → PyData} {vs : List Value} {R : Value → β → Prop} {a : Addr} {n : Nat} {Q : Value → Shared → Prop} (ho : s.heap.get? a = some (seqObj "list" vs.toArray n)) (e : PySem.W.EachIs R vs bs) (er : PySem.W.EachIs (fun v b => ∃ as, Reads s.heap v (enc b) as ∧ a ∉ as) vs bs) (hd : ∀ d ∈ bs.map enc, d = .tuple []) (hL : bs.length ≤ sizeLine) (hu : A.units + 1 < cLine)
    (h : ∀ out, out.length = bs.length → PySem.W.EachIs R out (bs.mergeSort (PySem.W.dataLe false enc)) → Q .none { s with heap := sortedHeap s.heap a vs (List.toArray out) }) : wpAny (model prog w) A (call (.builtin "list.sort") [.ref a]) Q E s := by
  have hal : PySem.W.AllAlike (bs.map enc) := fun d h d' h' => by
    rw [hd d h, hd d' h']
    simp [PySem.W.alike, PySem.W.alikeAll]
  have er' := PySem.W.each_keepBut (h' := PySem.W.sortingHeap s.heap a vs) (fun _ _ hb q => PySem.W.sortingHeap_old hb q) (fun o q => by rw [ho] at q; rw [← Option.some.inj q]) hal er
  refine PySem.wpAny_call_entry slot_list_sort ⟨_, ho, rfl⟩ entry_list_sort (PySem.W.list_sort_vals ho (emp_sorts (s := { s with heap := PySem.W.sortingHeap s.heap a vs }) (PySem.W.each_map (R := fun v d => ∃ as, Reads (PySem.W.sortingHeap s.heap a vs) v d as) enc er') hd hu) (by rw [e.length]; exact hL) ⟨.none, rfl, ?_⟩) (args_list_sort _)
  exact h _ (by rw [PySem.W.sortVals_length false rfl]; exact e.length) (PySem.W.sortVals_data false e er' hal)
end
end J
namespace J
open PySem PySem.Spec PyProof.Rows L2
def FV.enc (x : FV) : PyData := x.toD.getD .none
def sortFV (xs : List FV) : List FV := xs.mergeSort (PySem.W.dataLe false FV.enc)
def tupD : PyData → Bool
  | .tuple (_ :: _) => true
  | _ => false
def othD : PyData → Bool
  | .none => false
  | .tuple xs => xs.isEmpty
  | _ => true
def sortOk (xs : List FV) : Bool := xs.all (fun x => x.toD.isSome) && xs.all (fun x => xs.all fun y => PySem.W.alike x.enc y.enc) && (xs.all (fun x => tupD x.enc) || xs.all fun x => othD x.enc) && decide (xs.length ≤ BIG) && xs.all fun x => decide (x.enc.depth ≤ 60)
def SF (M : Str → Option Value) (F : Hp) (u : Value) (x : FV) : Prop := ∃ v, RelV v u ∧ FDen M F x v
theorem sf_of {M : Str → Option Value} {F : Hp} : ∀ {xs : List FV} {vs : List V} {us : List Value}, FDenL M F xs vs → Vals vs us → PySem.W.EachIs (SF M F) us xs
  | [], _, _, d, r => by
    rw [show _ = [] from d] at r
    cases r
    exact .nil
  | x :: xs, _, _, ⟨v, ws, e, d, q⟩, r => by
    rw [e] at r
    cases r with
    | cons r1 r2 => exact .cons ⟨v, r1, d⟩ (sf_of q r2)
theorem of_sf {M : Str → Option Value} {F : Hp} : ∀ {xs : List FV} {us : List Value}, PySem.W.EachIs (SF M F) us xs → ∃ vs, FDenL M F xs vs ∧ Vals vs us
  | [], _, h => by cases h; exact ⟨[], rfl, .nil⟩
  | x :: xs, _, h => by
    cases h with
    | cons h1 h2 =>
      obtain ⟨v, r, d⟩ := h1
      obtain ⟨vs, q1, q2⟩ := of_sf h2
      exact ⟨v :: vs, ⟨v, vs, rfl, d, q1⟩, .cons r q2⟩
theorem tupD_of {d : PyData} (h : tupD d = true) : ∃ x r, d = .tuple (x :: r) := by
  unfold tupD at h
  split at h
  · exact ⟨_, _, rfl⟩
  · cases h
theorem othD_of {d : PyData} (h : othD d = true) (ne : d ≠ .tuple []) : d ≠ .none ∧ ∀ xs, d ≠ .tuple xs := by
  constructor
  · rintro rfl; cases h
  · rintro xs rfl
    cases xs with
    | nil => exact ne rfl
    | cons x xs => cases h
theorem othD_emp {d : PyData} (h : othD d = true) (al : PySem.W.alike d (.tuple []) = true) : d = .tuple [] := by
  cases d with
  | tuple xs =>
    cases xs with
    | nil => rfl
    | cons x xs => cases h
  | _ => exact absurd al (by simp [PySem.W.alike])
theorem sort_at {prog : Program} {w : World} {A : Around} {E : Value → Shared → Prop} {s : Shared} {β : Type} {bs : List β} {enc : β → PyData} {vs : List Value} {R : Value → β → Prop} {a : Addr} {n : Nat} {Q : Value → Shared → Prop} (ho : s.heap.get? a = some (seqObj "list" vs.toArray n)) (e : PySem.W.EachIs R vs bs) (er : PySem.W.EachIs (fun v b => ∃ as, Reads s.heap v (enc b) as ∧ a ∉ as) vs bs) (hal : PySem.W.AllAlike (bs.map enc)) (hk : PySem.W.Sortable (bs.map enc) ∨ ∀ d ∈ bs.map enc, d = .tuple []) (hL : bs.length ≤ sizeLine) (h0 : A.units + 1 < cLine)
    (hu : ∀ b, b ∈ bs → A.units + 1 + (enc b).depth < cLine) (h : ∀ out, out.length = bs.length → PySem.W.EachIs R out (bs.mergeSort (PySem.W.dataLe false enc)) → Q .none { s with heap := sortedHeap s.heap a vs (List.toArray out) }) : wpAny (model prog w) A (call (.builtin "list.sort") [.ref a]) Q E s :=
  hk.elim (fun k => PySem.W.list_sort_data ho e er hal k hL hu h) fun k => emp_sort_at ho e er k hL h0 h
section
variable {X : Cx}
theorem sortable_of {xs : List FV} (h : (xs.all (fun x => tupD x.enc) || xs.all fun x => othD x.enc) = true) (al : xs.all (fun x => xs.all fun y => PySem.W.alike x.enc y.enc) = true) : PySem.W.Sortable (xs.map FV.enc) ∨ ∀ d ∈ xs.map FV.enc, d = .tuple [] := by
  rw [Bool.or_eq_true] at h
  rcases h with h | h
  · refine .inl (.inl fun d hd => ?_)
    obtain ⟨x, hx, rfl⟩ := List.mem_map.mp hd
    exact tupD_of (List.all_eq_true.mp h x hx)
  · by_cases e : ∃ x ∈ xs, x.enc = .tuple []
    · obtain ⟨z, hz, ez⟩ := e
      refine .inr fun d hd => ?_
      obtain ⟨x, hx, rfl⟩ := List.mem_map.mp hd
      have q := List.all_eq_true.mp (List.all_eq_true.mp al x hx) z hz
      rw [ez] at q
      exact othD_emp (List.all_eq_true.mp h x hx) q
    · refine .inl (.inr fun d hd => ?_)
      obtain ⟨x, hx, rfl⟩ := List.mem_map.mp hd
      exact othD_of (List.all_eq_true.mp h x hx) fun q => e ⟨x, hx, q⟩
theorem alike_of {xs : List FV} (h : xs.all (fun x => xs.all fun y => PySem.W.alike x.enc y.enc) = true) : PySem.W.AllAlike (xs.map FV.enc) := by
  intro d hd d' hd'
  obtain ⟨x, hx, rfl⟩ := List.mem_map.mp hd
  obtain ⟨y, hy, rfl⟩ := List.mem_map.mp hd'
  exact List.all_eq_true.mp (List.all_eq_true.mp h x hx) y hy
end
end J
namespace J
open PySem PySem.Spec PyProof.Rows L2
def keyF : Key → FV
  | .inl i => .int i
  | .inr x => .str x
def tKeys (te : TE) (r : List Key → Hp → VK → Prop) : TE := fun σ H Q => te σ H fun x H1 => ∃ d kvs, x = .ref d ∧ Rd H1 d (.dK kvs) ∧ r (kvs.map (·.1)) H1 Q
def rKeysS : List Key → Hp → VK → Prop := fun ks H Q => sortOk (ks.map keyF) = true ∧ ∀ ys p, (∀ M F, FDenL M F (sortFV (ks.map keyF)) ys) → H p = none → Q (.ref p) (upd H p (.lst ys))
theorem keyF_den {M : Str → Option Value} {F : Hp} : ∀ ks : List Key, FDenL M F (ks.map keyF) (ks.map kV)
  | [] => rfl
  | .inl i :: ks => ⟨.int i, _, rfl, rfl, keyF_den ks⟩
  | .inr x :: ks => ⟨.str x, _, rfl, rfl, keyF_den ks⟩
theorem keyF_flat {M M' : Str → Option Value} {F F' : Hp} : ∀ {xs : List FV} {vs : List V}, (∀ x ∈ xs, ∃ k, x = keyF k) → FDenL M F xs vs → FDenL M' F' xs vs
  | [], _, _, h => h
  | x :: xs, _, hk, ⟨v, ws, e, d, r⟩ => by
    refine ⟨v, ws, e, ?_, keyF_flat (fun x hx => hk x (List.mem_cons_of_mem _ hx)) r⟩
    obtain ⟨k, rfl⟩ := hk x List.mem_cons_self
    cases k with
    | inl i => exact d
    | inr x => exact d
theorem keyF_reads {h : Heap} {a : Addr} : ∀ {ks : List Key} {us : List Value}, Vals (ks.map kV) us → PySem.W.EachIs (fun v b => ∃ as, Reads h v (FV.enc b) as ∧ a ∉ as) us (ks.map keyF)
  | [], _, r => by cases r; exact .nil
  | .inl i :: ks, _, r => by
    cases r with
    | cons r1 r2 =>
      obtain ⟨t, rfl⟩ := r1
      exact .cons ⟨[], .int i t, by simp⟩ (keyF_reads r2)
  | .inr x :: ks, _, r => by
    cases r with
    | cons r1 r2 =>
      obtain ⟨t, rfl⟩ := r1
      exact .cons ⟨[], .str x t, by simp⟩ (keyF_reads r2)
section
variable {X : Cx} {e : Expr} {te : TE} {p apos cpos pos : Pos}
theorem keys_of {kvs : List (Key × V)} {vs : List (Key × Value)} {us : Array Value} (rel : KV kvs vs) (h : ItemsOf (fun i v => ∃ k x, vs[i]? = some (k, x) ∧ (mixKind X.prog X.w).is k v = true) us vs.length) : Vals ((kvs.map (·.1)).map kV) us.toList := by
  rw [rel.keys, List.map_map]
  exact L2.keys_at (by rw [Array.length_toList]; exact h.1) fun j v e => h.2 j v (by rw [← Array.getElem?_toList]; exact e)
abbrev keysView (d : Addr) : Obj := { cls := .type "dict_keys", data := .fields #[.ref d] }
theorem ev_view {pins : List (Addr × Obj)} {σ : L2.St} {H : Hp} {s : Shared} {C : List (Key × V) → Hp → Prop} {Q : Value → Shared → Prop} (he : PE X e te) (hbase : attributeBase e "keys" X.env (eval e X.env) = eval e X.env) (hline : (apos.endLine == cpos.line) = true) (I : Inv X pins σ H s)
    (ht : te σ H fun x H1 => ∃ d kvs, x = .ref d ∧ Rd H1 d (.dK kvs) ∧ C kvs H1)
    (q : ∀ (t : Shared) H1 d kvs vs ep, C kvs H1 → KV kvs vs → vs.length ≤ sizeLine → t.heap.DictAt (mixKind X.prog X.w) d vs ep → Inv X pins σ H1 t → Inv X pins σ H1 { t with heap := t.heap.push (keysView d) } → Q (.ref t.heap.objs.size) { t with heap := t.heap.push (keysView d) }) :
    wpAny (model X.prog X.w) X.A (eval (.Call (.Attribute e "keys" apos) [] [] cpos) X.env) Q X.xe s := by
  refine wpAny_Call_method (T := "dict") (id := "dict.keys") hbase rfl hline F.plainAttrs_dict F.slot_dict_keys F.type_dict_keys (thn (he.run pins s σ H _ I ht) ?_)
  rintro u t ⟨_, H1, I1, ru, d, kvs, rfl, hd, c⟩
  cases ru
  have ⟨few, notSys, vs, kv, isD⟩ := dk_rd I1.hok hd
  have ⟨ep, at_d⟩ := isD.dictAt
  rw [Paired.length kv] at few
  have I2 : Inv X pins σ H1 { t with heap := t.heap.push (keysView d) } := I1.kept (t' := t.toks) fun _ _ => Heap.get?_push_of_some _
  have mk := PySem.W.kdl_meets_keys (mixKind X.prog X.w) d notSys
  exact ⟨isD.typeIs, isD.mapOf.noDict, method_meetsIn F.slot_dict_keys F.entry_dict_keys rfl (PySem.evalArgs_none ⟨rfl, isD.typeIs, F.args_dict_keys_1 _, _, mk, ⟨vs, isD⟩, q t H1 d kvs vs ep c kv few at_d I1 I2⟩)⟩
theorem view_ok {t : Shared} {d : Addr} {vs : List (Key × Value)} {ep : Nat} (h : t.heap.DictAt (mixKind X.prog X.w) d vs ep) : PySem.W.KdlKeysView (t.heap.push (keysView d)) t.heap.objs.size d ∧ (t.heap.push (keysView d)).DictAt (mixKind X.prog X.w) d vs ep := ⟨⟨_, Heap.get?_push_size _ rfl, rfl, rfl⟩, h.push _⟩
theorem pe_sortedKeys (hc : X.calm = true) (hu : X.A.units + 62 < cLine) (he : PE X e te) (hg : Gl X "sorted") (hm : X.mg "sorted" = none) (hv : bootBuiltins "sorted" = some (.builtin "sorted")) (hbase : attributeBase e "keys" X.env (eval e X.env) = eval e X.env := by rfl) (hline : (apos.endLine == cpos.line) = true := by rfl)
    (hs : starEach [.Call (.Attribute e "keys" apos) [] [] cpos] X.env = (false, eval (.Call (.Attribute e "keys" apos) [] [] cpos) X.env) :: starEach [] X.env := by rfl) :
    PE X (.Call (.Name "sorted" p) [.Call (.Attribute e "keys" apos) [] [] cpos] [] pos) (tKeys te rKeysS) := by
  constructor
  intro pins s σ H Q I hq
  refine wpAny_Call_Name_kw (ld_blt I hg hm hv (PyProof.Rows.callWith_builtin1 ?_ hs rfl))
  rw [hs]
  refine Calls.spliced_cons (ev_view (C := fun kvs H1 => rKeysS (kvs.map fun q : Key × V => q.1) H1 Q) he hbase hline I hq fun t H1 d kvs vs ep c kv few at_d I1 I2 => Calls.spliced_nil (Calls.call_function_entry kind_sorted plain_sorted entry_sorted (args_sorted1 _) ?_))
  have ⟨can, c⟩ := c
  -- the keys into a list of their own
  unfold Builtin.«sorted»
  refine wpAny_bind (m := checkCount _ _ _ _) (wpAny_pure (wpAny_bind (PySem.W.kdu_collect (A := X.A.in1) (PySem.W.kdl_keys (knd := mixKind X.prog X.w) (kvs := vs) (ep := ep)) (I1.ok.hd hc) (view_ok at_d) few fun h' tk acc old got => ?_)))
  have I3 : Inv X pins σ H1 { t with heap := h', toks := tk } := I2.kept (t' := tk) old
  have ks := keys_of kv got
  have zk : acc.toList.length = ((kvs.map (·.1)).map keyF).length := by
    have e := ks.length
    rw [List.length_map] at e
    rw [List.length_map, ← e]
  have fewF : ((kvs.map (·.1)).map keyF).length ≤ sizeLine := by
    rw [List.length_map, List.length_map, Paired.length kv]
    exact few
  refine wpAny_bind (wpAny_newList ?_ (zk ▸ fewF))
  -- and that list sorted
  have fresh : (h'.push (seqObj "list" acc.toList.toArray 0)).get? h'.objs.size = some (seqObj "list" acc.toList.toArray 0) := Heap.get?_push_size _ rfl
  have can' := can
  simp only [sortOk, Bool.and_eq_true] at can'
  have ⟨⟨⟨⟨_, alike⟩, able⟩, _⟩, units⟩ := can'
  refine wpAny_bind (wpAny_holding (sort_at (s := { t with heap := h'.push (seqObj "list" acc.toList.toArray 0), toks := tk }) (enc := FV.enc) fresh (sf_of (M := X.mg) (keyF_den (F := H1) _) ks) (keyF_reads ks) (alike_of alike) (sortable_of able alike) fewF (by show X.A.units + 1 + 1 < cLine; omega) (fun b hb => ?_) fun out ho eo => ?_))
  · have u := of_decide_eq_true (List.all_eq_true.mp units b hb)
    show X.A.units + 1 + 1 + _ < cLine
    omega
  · have ⟨ys, den, rel⟩ := of_sf eo
    have ⟨c', isL⟩ := sortedHeap_at (vs := acc.toList) (out := out.toArray) fresh
    have flat : ∀ M F, FDenL M F (sortFV ((kvs.map (·.1)).map keyF)) ys := fun M F => keyF_flat (fun x hx => by
      have ⟨k, _, e⟩ := List.mem_map.mp ((List.mergeSort_perm _ _).mem_iff.mp hx)
      exact ⟨k, e.symm⟩) den
    have fewY : ys.length ≤ sizeLine := by
      rw [den.length, List.length_mergeSort]
      exact fewF
    refine wpAny_pure ⟨_, rfl, .ref h'.objs.size, upd H1 h'.objs.size (.lst ys), I3.laid (t' := tk) (fun b u e => ?_) (Nat.le_refl _) ⟨fewY, out, c', rel, isL⟩, rfl, c ys _ flat (I3.hok.fresh (Nat.le_refl _))⟩
    have lt := Heap.lt_size e
    have e2 := Heap.get?_push_of_some (seqObj "list" acc.toList.toArray 0) e
    rwa [← sortedHeap_old (out := out.toArray) (Nat.ne_of_lt lt) (size_push' h' _ ▸ Nat.lt_succ_of_lt lt)] at e2
def dKeysS (f : DE) : DE := fun env => (f env).bind fun r => match r.ov with
  | .oK kvs => if sortOk (kvs.map fun kv => keyF kv.1) then .ok (.st (.ol (sortFV (kvs.map fun kv => keyF kv.1)))) else .no
  | .fz (.dK kvs) => if sortOk (kvs.map fun kv => keyF kv.1) then .ok (.st (.ol (sortFV (kvs.map fun kv => keyF kv.1)))) else .no
  | _ => .no
theorem FDenK.keys {M : Str → Option Value} {F : Hp} : ∀ {kvs : List (Key × FV)} {ws : List (Key × V)}, FDenK M F kvs ws → ws.map (·.1) = kvs.map (·.1)
  | [], _, h => by rw [show _ = [] from h]; rfl
  | (k, x) :: r, _, ⟨v, rs, e, _, q⟩ => by rw [e, List.map_cons, List.map_cons, q.keys]
theorem Bor.dK {M : Str → Option Value} {F H : Hp} {o : OV} {u : V} {kvs : List (Key × FV)} (hf : Same F H) (b : Bor M F H o u) (e : o = .oK kvs ∨ o = .fz (.dK kvs)) : ∃ d ws, u = .ref d ∧ H d = some (.dK ws) ∧ ws.map (·.1) = kvs.map (·.1) := by
  rcases e with rfl | rfl
  · obtain ⟨A, ⟨a, ws, e, d, q⟩, c⟩ := b
    exact ⟨a, ws, e, c (a, .dK ws) (by rw [q]; exact List.mem_singleton.mpr rfl), d.keys⟩
  · obtain ⟨A, ⟨⟨a, ws, e, q, d⟩, _⟩, c⟩ := b
    exact ⟨a, ws, e, hf _ _ q, d.keys⟩
theorem keysS_red {W : WX} {f : DE} {σ : Sl} {H : Hp} {Q : VK} (h : tE X.mg W (dKeysS f) σ H Q) : tKeys (tE X.mg W f) rKeysS σ H Q := by
  obtain ⟨G, Z, env, T, r, p⟩ := h
  refine tE.bind r Sb.refl p fun rv v H1 _ s1 ⟨F, C1, C2, r1⟩ p1 => ?_
  have hb : Bor X.mg F H1 rv.ov v := r1.bor List.mem_cons_self
  have fin : ∀ kvs : List (Key × FV), (rv.ov = .oK kvs ∨ rv.ov = .fz (.dK kvs)) → Post X.mg W G Z σ env T Q H1 (if sortOk (kvs.map fun kv => keyF kv.1) then .ok (.st (.ol (sortFV (kvs.map fun kv => keyF kv.1)))) else .no) → ∃ d kvs, v = .ref d ∧ Rd H1 d (.dK kvs) ∧ rKeysS (kvs.map (·.1)) H1 Q := fun kvs e p1 => by
    obtain ⟨d, ws, e1, e2, e3⟩ := hb.dK r1.fh e
    have em : (ws.map (·.1)).map keyF = kvs.map fun kv => keyF kv.1 := by rw [e3, List.map_map]; rfl
    split at p1
    · rename_i hs
      refine ⟨d, ws, e1, .inl e2, by rw [em]; exact hs, fun ys q hd hq => ?_⟩
      rw [em] at hd
      have n := New.lst r1.fh hq (hd X.mg F)
      exact p1 _ _ (let ⟨_, _, n⟩ := n; n.hh) ((r1.new n).sb (Sb.refl.cons.both))
    · exact p1.elim
  split at p1
  · rename_i kvs e
    exact fin kvs (.inl e) p1
  · rename_i kvs e
    exact fin kvs (.inr e) p1
  · exact p1.elim
theorem je_sortedKeys {W : WX} {f : DE} (hc : X.calm = true) (hu : X.A.units + 62 < cLine) (he : JE X W e f) (hm : X.mg "sorted" = none) (hg : Gl X "sorted" := by rfl) (hv : bootBuiltins "sorted" = some (.builtin "sorted") := by rfl) (hbase : attributeBase e "keys" X.env (eval e X.env) = eval e X.env := by rfl) (hline : (apos.endLine == cpos.line) = true := by rfl)
    (hs : starEach [.Call (.Attribute e "keys" apos) [] [] cpos] X.env = (false, eval (.Call (.Attribute e "keys" apos) [] [] cpos) X.env) :: starEach [] X.env := by rfl) :
    JE X W (.Call (.Name "sorted" p) [.Call (.Attribute e "keys" apos) [] [] cpos] [] pos) (dKeysS f) := PE.imp (pe_sortedKeys hc hu he hg hm hv hbase hline hs) fun σ H Q h => keysS_red h
end
end J
namespace J
open PySem PySem.Spec PyProof.Rows L2
def FV.ty? : FV → Option String
  | .non => some "NoneType"
  | .bl _ => some "bool"
  | .int _ => some "int"
  | .str _ => some "str"
  | .tup _ => some "tuple"
  | .tuz _ => some "tuple"
  | .lst _ => some "list"
  | .dK _ => some "dict"
  | .dT _ => some "dict"
  | .scr _ => some "list"
  | _ => none
def OV.ty? : OV → Option String
  | .fz x => x.ty?
  | .ol _ => some "list"
  | .dl _ => some "list"
  | .oK _ => some "dict"
  | .oT _ => some "dict"
  | .dd _ => some "dict"
  | .tp _ => some "tuple"
  | _ => none
def isaT (a T : String) : Bool := a == T || (a == "bool" && T == "int")
def tyNs : List String := ["NoneType", "bool", "int", "str", "tuple", "list", "dict"]
theorem kit_isa : ∀ a ∈ tyNs, ∀ T ∈ tyNs, kitB a T = some (isaT a T) := by decide +kernel
theorem ty_ns {o : OV} {a : String} (h : o.ty? = some a) : a ∈ tyNs := by
  unfold tyNs
  cases o with
  | fz x => cases x <;> simp [OV.ty?, FV.ty?] at h <;> subst h <;> simp
  | _ => simp [OV.ty?] at h <;> subst h <;> simp
theorem Bor.tyX {M : Str → Option Value} {K : PySem.W.Frag} {F H : Hp} {o : OV} {u : V} {a : String} (hf : Same F H) (b : Bor M F H o u) (h : o.ty? = some a) : TyX K H u (.type a) := by
  have d := b.fden hf
  cases o with
  | fz x =>
    cases x with
    | non => cases h; rw [show u = .non from d]; exact .base .non
    | bl c => cases h; rw [show u = .bl c from d]; exact .base (.bl c)
    | int i => cases h; rw [show u = .int i from d]; exact .base (.int i)
    | str x => cases h; rw [show u = .str x from d]; exact .base (.str x)
    | tup xs => cases h; obtain ⟨a, vs, e, q, _⟩ := d; rw [e]; exact .base (.tup q)
    | tuz xs => cases h; obtain ⟨a, vs, o, e, q, _⟩ := d; rw [e]; exact .fTuple q
    | lst xs => cases h; obtain ⟨a, vs, e, q, _⟩ := d; rw [e]; exact .base (.lst q)
    | dK xs => cases h; obtain ⟨a, vs, e, q, _⟩ := d; rw [e]; exact .base (.dK q)
    | dT xs => cases h; obtain ⟨a, vs, e, q, _⟩ := d; rw [e]; exact .base (.dT q)
    | scr xs =>
      cases h
      obtain ⟨a, e, q⟩ := d
      rw [e]
      rcases q with q | ⟨o, q⟩
      · exact .base (.lst q)
      · exact .base (.frz q)
    | ins c fs => cases h
    | exc c => cases h
    | dN ks => cases h
  | ol xs => cases h; obtain ⟨a, vs, e, q, _⟩ := d; rw [e]; exact .base (.lst q)
  | oK xs => cases h; obtain ⟨a, vs, e, q, _⟩ := d; rw [e]; exact .base (.dK q)
  | oT xs => cases h; obtain ⟨a, vs, e, q, _⟩ := d; rw [e]; exact .base (.dT q)
  | dl xs => cases h; obtain ⟨a, vs, e, q, _⟩ := d; rw [e]; exact .base (.lst q)
  | dd xs => cases h; obtain ⟨a, vs, e, q, _⟩ := d; rw [e]; exact .base (.dK q)
  | tp xs => cases h; obtain ⟨a, vs, e, q, _⟩ := d; rw [e]; exact .base (.tup q)
  | ob c fs => cases h
  | oN ks => cases h
def opIsa (Ts : List String) : OV → Option OV := fun o => o.ty?.map fun a => .fz (.bl (Ts.any fun T => isaT a T))
section
variable {X : Cx} {W : WX} {e : Expr} {f : DE} {p p2 p3 p4 pos : Pos} {t t2 : Str} {T T2 : String}
theorem je_isa (he : JE X W e f) (hm : X.mg "isinstance" = none) (hmt : X.mg t = none) (hT : T ∈ tyNs := by decide) (hv : bootBuiltins t = some (.type T) := by rfl) (hg : Gl X "isinstance" := by rfl) (hgt : Gl X t := by rfl) (hn : t ≠ "__name__" := by decide) (hd : (t == ("__debug__" : Str)) = false := by decide)
    (hs : starEach [e, .Name t p2] X.env = (false, eval e X.env) :: starEach [.Name t p2] X.env := by rfl) (hs2 : starEach [.Name t p2] X.env = (false, eval (.Name t p2) X.env) :: starEach [] X.env := by rfl) (hpl : (backTo pos (starEach [.Name t p2] X.env)).any (·.1) = false := by rfl) (hbi : bootBuiltins "isinstance" = some (.builtin "isinstance") := by rfl) :
    JE X W (.Call (.Name "isinstance" p) [e, .Name t p2] [] pos) (dUn (opIsa [T]) f) := by
  refine PE.imp (pe_callB (call_isi (X := X)) hg hm hbi (pa_cons he (pa_cons (pe_bltn (v := .ty T) hgt hmt hv rfl hn hd) pa_nil hs2) hs) (by decide) (by decide) hs hpl) fun σ H Q ⟨G, Z, env, T2, r, q⟩ => ?_
  refine tE.bind r Sb.refl q fun x u H1 _ s1 ⟨F, C1, C2, r1⟩ p1 => ?_
  obtain ⟨o, eo, k⟩ := r1.fin Sb.refl.cons p1
  obtain ⟨a, ea, eo⟩ := Option.map_eq_some_iff.mp eo
  subst eo
  have b : Bor X.mg F H1 x.ov u := r1.bor List.mem_cons_self
  exact ⟨u, .ty T, .type a, .type T, isaT a T, rfl, .ty T, b.tyX r1.fh ea, kit_ty (kit_isa a (ty_ns ea) T hT), by
    have e : ([T].any fun T => isaT a T) = isaT a T := by simp
    rw [e] at k
    exact k _ _ (New.bl r1.fh)⟩
end
def rM (M : Str → Option Value) (op : OV → List OV → Option OV) : V → List V → Hp → VK → Prop := fun u us H Q => ∃ F x os o, Same F H ∧ Bor M F H x u ∧ Paired (fun x u => Bor M F H x u) os us ∧ op x os = some o ∧ ∀ v H', New M F H H' o v → Q v H'
def dMeth (ok : OV → Bool) (op : OV → List OV → Option OV) (f : DE) (g : VEnv → Ans (List Rv)) : DE := fun env => (f env).bind fun r => if ok r.ov then (g env).bind fun rs => (Ans.of (op r.ov (rs.map Rv.ov))).map .st else .no
def okStr : OV → Bool
  | .fz (.str _) => true
  | _ => false
def okLst : OV → Bool := fun o => o.lst?.isSome
theorem okStr_ty {M : Str → Option Value} {K : PySem.W.Frag} {F H : Hp} {o : OV} {u : V} (hf : Same F H) (b : Bor M F H o u) (h : okStr o = true) : tyV K "str" u H := by
  unfold okStr at h
  split at h
  · rw [b.str]; exact rfl
  · cases h
theorem okLst_ty {M : Str → Option Value} {K : PySem.W.Frag} {F H : Hp} {o : OV} {u : V} (hf : Same F H) (b : Bor M F H o u) (h : okLst o = true) : tyV K "list" u H := by
  obtain ⟨xs, e⟩ := Option.isSome_iff_exists.mp h
  obtain ⟨a, vs, rfl, q, _⟩ := b.lst hf e
  exact .inl ⟨rfl, vs, SqL.of q⟩
section
variable {X : Cx} {W : WX} {o e : Expr} {es : List Expr} {f : DE} {g : VEnv → Ans (List Rv)} {name : Str} {apos cpos : Pos} {T id : String} {ok : OV → Bool} {op : OV → List OV → Option OV}
theorem je_meth (pa : PlainAttrs T) (slot : Slot T name id) (hty : typeOf (.builtin id) = pure (.type "method_descriptor")) (hm : MtR X id (rM X.mg op)) (ht : ∀ {F H : Hp} {o : OV} {u : V}, Same F H → Bor X.mg F H o u → ok o = true → tyV X.K T u H) (ho : JE X W o f) (ha : JA X W (e :: es) g)
    (hbase : attributeBase o name X.env (eval o X.env) = eval o X.env := by rfl)
    (hfew : ((backTo cpos (starEach (e :: es) X.env)).all (fun x => !x.1) && (backToKw cpos (keywordEach [] X.env)).all (fun x => x.1.isSome)
      && decide ((e :: es).length + ([] : List Keyword).length + (if ([] : List Keyword).isEmpty then 0 else 1) < 30)) = true := by rfl)
    (hline : (apos.endLine == cpos.line) = true := by rfl) (hs : starEach (e :: es) X.env = (false, eval e X.env) :: starEach es X.env := by rfl) (hplain : (backTo cpos (starEach es X.env)).any (·.1) = false := by rfl) :
    JE X W (.Call (.Attribute o name apos) (e :: es) [] cpos) (dMeth ok op f g) := by
  refine PE.imp (pe_bm pa slot hty hm ho ha hbase hfew hline hs hplain) fun σ H Q ⟨G, Z, env, T, r, p⟩ => ?_
  refine tE.bind r Sb.refl p fun rv v H1 _ s1 r1 p1 => ?_
  split at p1
  · rename_i hk
    obtain ⟨F, C1, C2, r1⟩ := r1
    refine ⟨ht r1.fh (r1.bor (List.mem_cons_self (a := (v, rv)))) hk, ?_⟩
    refine tA.bind r1.r Sb.refl.cons p1 fun rs vs H2 _ hl s2 ⟨F2, D1, D2, r2⟩ p2 => ?_
    obtain ⟨o, e, k⟩ := r2.fin (T := T) (Sb.trans (Sb.refl.cons) ⟨vs.zip rs, List.perm_append_comm⟩) p2
    exact ⟨F2, rv.ov, rs.map Rv.ov, o, r2.fh, r2.bor (p := (v, rv)) (List.mem_append_right _ List.mem_cons_self), zip_bor hl fun p hp => r2.bor (List.mem_append_left _ hp), e, k⟩
  · exact p1.elim
end
def opJoin : OV → List OV → Option OV
  | .fz (.str a), [o] => o.seq?.bind fun xs => (strs? xs).bind fun ys => if (ys.map (·.length)).sum + ys.length * a.length ≤ BIG then some (.fz (.str (Txt.join a ys))) else none
  | _, _ => none
theorem mj_join {X : Cx} : MtR X "str.join" (rM X.mg opJoin) := by
  rintro pins s σ H x xs v us Q I rx rs ⟨F, o, os, res, hf, bx, ps, e, k⟩
  unfold opJoin at e
  split at e
  · rename_i a q
    obtain ⟨zs, e1, e⟩ := Option.bind_eq_some_iff.mp e
    obtain ⟨ys, e2, e⟩ := Option.bind_eq_some_iff.mp e
    split at e
    · rename_i hz
      cases e
      obtain ⟨u, rfl, b⟩ := paired1 ps
      obtain ⟨p, vs, rfl, hq, d⟩ := b.seq (K := X.K) hf e1
      exact mt_join pins s σ H x _ v us Q I rx rs ⟨a, p, ys, bx.str, rfl, (by rw [← d.strs? e2]; exact hq), hz, k _ _ (New.str hf)⟩
    · cases e
  · cases e
end J
namespace J
open PySem PySem.Spec PyProof.Rows L2
structure Cal (P : Program) (w : World) (K : PySem.W.Frag) (mg : Str → Option Value) (base : Heap) (k : Nat) (name : Str) (n : Nat) (m : FM) : Prop where
  ex : ∃ f fd ps, FnOk P w K mg base (L2.CX P w) k f fd ps (spF mg n m) ∧ mg name = some (.ref f) ∧ PySem.W.keepIn K (.ref f) = true ∧ Binds K fd ps []
section
variable {X : Cx} {W : WX} {pos p : Pos} {x : Str} {e : Expr} {es : List Expr} {g : VEnv → Ans (List Rv)} {m : FM} {k kk : Nat} {n : Nat}
theorem je_cal (tk : Takes X W) (C : Cal X.prog X.w X.K X.mg X.base k x n m) (hr : Room kk X.A) (ha : JA X W (e :: es) g) (hk : k ≤ kk := by decide)
    (hl : (e :: es).length = n := by rfl) (hgl : DL g (e :: es).length := by repeat (first | exact dl_nil | refine dl_cons ?_)) (hg : Gl X x := by rfl) (hdb : (x == ("__debug__" : Str)) = false := by decide)
    (he : starEach (e :: es) X.env = (false, eval e X.env) :: starEach es X.env := by rfl) (hpl : (backTo pos (starEach es X.env)).any (·.1) = false := by rfl) : JE X W (.Call (.Name x p) (e :: es) [] pos) (dCall m g) := by
  obtain ⟨f, fd, ps, F, h1, h2, h3⟩ := C.ex
  exact je_call tk F (hr.mono hk) h1 h2 h3 ha hl hgl hg hdb he hpl
end
def spLaw (K : PySem.W.Frag) : Sp := fun vs H Q _ => ∃ (a : Addr) (ns : List Int), vs = [.ref a] ∧ SqL K H a (ns.map V.int) ∧ ns.length ≤ 63 ∧ ∀ H', Q (.bl true) H'
theorem cut_take (ns : List Int) (c : Nat) : cutV (ns.map V.int) none (some (c : Int)) = (ns.take c).map V.int := by
  unfold cutV
  rw [HT.sIx_none, HT.sIx_nat, List.drop_zero, List.map_take, List.length_map, Nat.sub_zero]
  by_cases h : c ≤ ns.length
  · rw [Nat.min_eq_left h]
  · rw [Nat.min_eq_right (by omega), List.take_of_length_le (by rw [List.length_map]; exact Nat.le_refl _), List.take_of_length_le (by rw [List.length_map]; omega)]
section
variable {X : Cx} {W : WX} {c s : Str} {p1 p2 p3 p4 p5 p6 p7 p8 p9 : Pos} {j j2 : Nat} {n : Nat} {rest : List Stmt} {f : DS} {N : List Str}
theorem law_slice {a : Addr} {ns : List Int} {H : Hp} {cc : Nat} (hS : SqL X.K H a (ns.map V.int)) (Q : VK) (h : ∀ p H1, Same H H1 → H p = none → H1 p = some (.lst ((ns.take cc).map V.int)) → Q (.ref p) H1) (h2 : N ≠ []) :
    tSl (rSlL X.K) (tVar 0) tNoPart (tPart (tC (.int (cc : Int)))) (L2.start N [.ref a]) H Q := by
  refine ⟨.ref a, ?_, _, rfl, a, _, rfl, hS, fun p hp => ?_⟩
  · rfl
  · rw [cut_take]
    exact h p _ (same_upd hp) hp upd_same
theorem law_sliceP {a : Addr} {ns : List Int} {H : Hp} {cc : Nat} (hS : SqL X.K H a (ns.map V.int)) (Q : VK) (h : ∀ p H1, Same H H1 → H p = none → H1 p = some (.lst ((ns.take cc ++ [0]).map V.int)) → Q (.ref p) H1) (hl : ns.length ≤ 63) (h2 : N ≠ [] := by decide) :
    tOp rCat (tSl (rSlL X.K) (tVar 0) tNoPart (tPart (tC (.int (cc : Int))))) (tLst (tCons (tC (.int 0)) tNil)) (L2.start N [.ref a]) H Q := by
  refine law_slice hS _ (fun p H1 hs hp h1 => ?_) h2
  refine ⟨by rw [sizeLine_eq]; decide, fun b hb => ⟨p, b, _, _, rfl, rfl, same_upd hb _ _ h1, upd_same, ?_, fun q hq => ?_⟩⟩
  · rw [List.length_map, List.length_take, sizeLine_eq]
    simp
    omega
  · have q1 : H1 q = none := none_of_same (same_upd hb) hq
    refine h q _ ((hs.trans (same_upd hb)).trans (same_upd hq)) (none_of_same hs q1) ?_
    rw [upd_same, List.map_append]
    rfl
end
theorem boot_len : bootBuiltins "len" = some (.builtin "len") :=
  PySem.boot_len
theorem boot_list : bootBuiltins "list" = some (.type "list") :=
  PyProof.Rows.boot_list
theorem boot_tuple : bootBuiltins "tuple" = some (.type "tuple") :=
  PyProof.Rows.boot_tuple
theorem boot_str : bootBuiltins "str" = some (.type "str") :=
  PyProof.Rows.boot_str
theorem boot_sorted : bootBuiltins "sorted" = some (.builtin "sorted") :=
  PyProof.Rows.boot_sorted
theorem u1 {k : Nat} {A : Around} (hr : Room k A) : A.units + 1 < cLine := by have := hr.un; omega
theorem u62 {k : Nat} {A : Around} (hr : Room k A) : A.units + 62 < cLine := by have := hr.un; omega
theorem u64 {k : Nat} {A : Around} (hr : Room k A) : A.units + 64 < cLine := by have := hr.un; omega
theorem u65 {k : Nat} {A : Around} (hr : Room k A) : A.units + 65 < cLine := by have := hr.un; omega
end J
set_option maxHeartbeats 4000000
namespace J
open PySem PySem.Spec PyProof.Rows L2
section
variable {P : Program} {w : World} {A : Around} {E : Value → Shared → Prop} {s : Shared}
end
section
variable {X : Cx}
variable {W : WX} {f : DE} {e : Expr} {p p2 pos pos2 : Pos}
end
end J
set_option maxHeartbeats 4000000
namespace J
open PySem PySem.Spec PyProof.Rows L2
section
variable {X : Cx}
end
section
variable {X : Cx} {W : WX} {f : DE} {e : Expr} {p p2 pos pos2 : Pos}
end
end J
namespace J
open PySem PySem.Spec PyProof.Rows L2
section
variable {X : Cx} {W : WX} {pos pos' : Pos} {e tg : Expr} {st : Stmt} {rest a b body : List Stmt} {f g fb : DS} {fe : DE} {c : Expr} {fc : DT} {t : TgF} {vs : List Nat}
end
end J
namespace J
open PySem PySem.Spec PyProof.Rows L2
section
variable {M : Str → Option Value} {G Z H F : Hp} {o p p' q q' : OV} {v y : V} {i : Nat} {L B : Cells} {a : Addr} {ho ho' : HO}
end
section
variable {X : Cx} {W : WX} {pos pos' apos spos cpos : Pos} {e k : Expr} {f fk fe : DE} {x : Str}
end
end J
namespace J
open PySem PySem.Spec PyProof.Rows L2
section
variable {X : Cx} {W : WX} {pos pos' apos spos cpos : Pos} {e k : Expr} {f fk fe : DE} {x : Str}
end
end J
namespace J
open PySem PySem.Spec PyProof.Rows L2
end J
namespace J
open PySem PySem.Spec PyProof.Rows L2
section
variable {X : Cx} {W : WX} {o e : Expr} {es : List Expr} {to : TE} {t : TA} {f : DE} {g : VEnv → Ans (List Rv)} {name : Str} {apos cpos : Pos} {id : String} {r : V → List V → Hp → VK → Prop}
end
end J
set_option maxHeartbeats 4000000
namespace J
open PySem PySem.Spec PyProof.Rows L2
structure Hold (G Z G' Z' : Hp) (C : Cells) : Prop where
  gg : Same G G'
  gn : ∀ a o, G' a = some o → G a = some o ∨ Z a = none
  zin : ∀ q ∈ C, Z' q.1 = some q.2
  zout : ∀ a, (∀ q ∈ C, q.1 ≠ a) → Z' a = Z a
  nd : (C.map (·.1)).Nodup
  gc : ∀ q ∈ C, G' q.1 = none
  zc : ∀ q ∈ C, Z q.1 = none
section
variable {M : Str → Option Value} {G Z G' Z' H F : Hp} {C A Lr : Cells} {σ : Sl} {env : VEnv} {T : List (V × Rv)} {L1 L2 : Cells} {o : OV} {v : V} {i j : Nat}
theorem Hold.start (G Z : Hp) : Hold G Z G Z [] := ⟨Same.refl _, fun _ _ e => .inl e, nofun, fun _ _ => rfl, List.nodup_nil, nofun, nofun⟩
theorem Hold.zz (h : Hold G Z G' Z' C) : Same Z Z' := fun a o e => by
  rw [h.zout a fun q hq z => by
    have := h.zc q hq
    rw [z, e] at this
    cases this]
  exact e
theorem Hold.perm {C' : Cells} (h : Hold G Z G' Z' C) (p : C.Perm C') : Hold G Z G' Z' C' :=
  ⟨h.gg, h.gn, fun q hq => h.zin q (p.mem_iff.mpr hq), fun a ha => h.zout a fun q hq => ha q (p.mem_iff.mp hq), (p.map _).nodup_iff.mp h.nd, fun q hq => h.gc q (p.mem_iff.mpr hq), fun q hq => h.zc q (p.mem_iff.mpr hq)⟩
theorem Hold.znone (h : Hold G Z G' Z' C) {a : Addr} (e : Z' a = none) : Z a = none := by
  cases q : Z a with
  | none => rfl
  | some o =>
    rw [h.zz a o q] at e
    cases e
theorem Hold.take (h : Hold G Z G' Z' C) (r : R M G' Z' H σ env T) (e : env[i]? = some (some o)) :
    ∃ F Z2 A, Own M F o ((σ[i]?.bind id).getD .non) A ∧ (∃ w, σ[i]? = some (some w)) ∧ Same G' F ∧ Hold G Z F Z2 (A ++ C) ∧ R M F Z2 H σ (env.set i none) T := by
  obtain ⟨F, L1, L2, r⟩ := r
  obtain ⟨v, A, Lr, s1, own, pm, _, k⟩ := r.ev.repl e
  have g := r.gd.perm ((pm.append_right L2).trans (by rw [List.append_assoc]) : (L1 ++ L2).Perm (A ++ (Lr ++ L2)))
  have ga := g.left
  have nd := g.nd
  rw [List.map_append, List.nodup_append] at nd
  have fc : ∀ q ∈ C, F q.1 = none := fun q hq => by
    cases e : F q.1 with
    | none => rfl
    | some u =>
      rcases r.fg _ u e with e1 | e1
      · rw [h.gc q hq] at e1
        cases e1
      · rw [h.zin q hq] at e1
        cases e1
  have ap : ∀ p ∈ A, ∀ q ∈ C, p.1 ≠ q.1 := fun p hp q hq e => by
    have e1 := h.zin q hq
    rw [← e, ga.zr p hp] at e1
    cases e1
  have hσ : σ.set i (some v) = σ := by
    apply List.ext_getElem?
    intro k
    by_cases hk : i = k
    · subst hk
      rw [List.getElem?_set_self (List.getElem?_eq_some_iff.mp s1).1, s1]
    · rw [List.getElem?_set_ne hk]
  have ev := k (some v)
  rw [hσ] at ev
  refine ⟨F, updL Z' A, A, by rw [s1]; exact own, ⟨v, s1⟩, r.gf, ⟨h.gg.trans r.gf, fun a u e => ?_, fun q hq => ?_, fun a ha => ?_, ?_, fun q hq => ?_, fun q hq => ?_⟩, F, Lr, L2, Same.refl _, fun a u e => .inl e, r.fh, fun a u e => ?_, ev, r.tm, ⟨g.right.nd, g.right.hp, g.right.fr, fun q hq => ?_⟩⟩
  · rcases r.fg a u e with e1 | e1
    · exact h.gn a u e1
    · exact .inr (h.znone e1)
  · rcases List.mem_append.mp hq with hq | hq
    · exact updL_in ga.nd q hq
    · rw [updL_out fun p hp => ap p hp q hq]
      exact h.zin q hq
  · rw [updL_out fun p hp => ha p (List.mem_append_left _ hp)]
    exact h.zout a fun q hq => ha q (List.mem_append_right _ hq)
  · rw [List.map_append, List.nodup_append]
    refine ⟨ga.nd, h.nd, fun a ha b hb e => ?_⟩
    obtain ⟨p, hp, rfl⟩ := List.mem_map.mp ha
    obtain ⟨q, hq, rfl⟩ := List.mem_map.mp hb
    exact ap p hp q hq e
  · exact (List.mem_append.mp hq).elim (ga.fr q) (fc q)
  · exact (List.mem_append.mp hq).elim (fun hq => h.znone (ga.zr q hq)) (h.zc q)
  · rcases updL_cases e with e1 | e1
    · exact r.zh a u e1
    · exact ga.hp _ e1
  · rw [updL_out fun p hp e => nd.2.2 p.1 (List.mem_map_of_mem hp) q.1 (List.mem_map_of_mem hq) e]
    exact g.right.zr q hq
theorem Hold.write {t : Addr} {ho ho' : HO} {B : Cells} (h : Hold G Z G' Z' ((t, ho) :: B)) (r : R M G' Z' H σ env T) (hT : AllSt T) : Hold G Z G' (upd Z' t ho') ((t, ho') :: B) ∧ R M G' (upd Z' t ho') (upd H t ho') σ env T := by
  have nd := h.nd
  rw [List.map_cons, List.nodup_cons] at nd
  have nb : ∀ q ∈ B, q.1 ≠ t := fun q hq e => nd.1 (List.mem_map.mpr ⟨q, hq, e⟩)
  have zt := h.zin _ List.mem_cons_self
  have gt := h.gc _ List.mem_cons_self
  refine ⟨⟨h.gg, h.gn, fun q hq => ?_, fun a ha => ?_, h.nd, fun q hq => ?_, fun q hq => ?_⟩, ?_⟩
  · rcases List.mem_cons.mp hq with rfl | hq
    · exact upd_same
    · rw [upd_ne (nb q hq)]
      exact h.zin q (List.mem_cons_of_mem _ hq)
  · have ne : t ≠ a := ha (t, ho') List.mem_cons_self
    rw [upd_ne ne.symm]
    exact h.zout a fun q hq => (List.mem_cons.mp hq).elim (fun e => by rw [e]; exact ne) fun hq => ha q (List.mem_cons_of_mem _ hq)
  · rcases List.mem_cons.mp hq with rfl | hq
    · exact gt
    · exact h.gc q (List.mem_cons_of_mem _ hq)
  · rcases List.mem_cons.mp hq with rfl | hq
    · exact h.zc (t, ho) List.mem_cons_self
    · exact h.zc q (List.mem_cons_of_mem _ hq)
  · obtain ⟨F, L1, L2, r⟩ := r
    have ft : F t = none := by
      cases e : F t with
      | none => rfl
      | some u =>
        rcases r.fg _ u e with e1 | e1
        · rw [gt] at e1
          cases e1
        · rw [zt] at e1
          cases e1
    have nl : ∀ q ∈ L1 ++ L2, q.1 ≠ t := fun q hq e => by
      have := r.gd.zr q hq
      rw [e, zt] at this
      cases this
    refine ⟨F, L1, L2, r.gf, fun a u e => ?_, fun a u e => ?_, fun a u e => ?_, r.ev, r.tm.anyH hT, r.gd.nd, fun q hq => ?_, r.gd.fr, fun q hq => ?_⟩
    · have ne : a ≠ t := fun z => by rw [z, ft] at e; cases e
      rw [upd_ne ne]
      exact r.fg a u e
    · have ne : a ≠ t := fun z => by rw [z, ft] at e; cases e
      rw [upd_ne ne]
      exact r.fh a u e
    · by_cases z : a = t
      · subst z
        rw [upd_same] at e ⊢
        exact e
      · rw [upd_ne z] at e ⊢
        exact r.zh a u e
    · rw [upd_ne (nl q hq)]
      exact r.gd.hp q hq
    · rw [upd_ne (nl q hq)]
      exact r.gd.zr q hq
end
theorem OwnL.len {M : Str → Option Value} {F : Hp} : ∀ {xs : List OV} {vs : List V} {L : Cells}, OwnL M F xs vs L → vs.length = xs.length
  | [], _, _, ⟨e, _⟩ => by rw [e]; rfl
  | x :: xs, _, _, ⟨v, ws, A, B, e, _, r, _⟩ => by rw [e, List.length_cons, List.length_cons, OwnL.len r]
section
variable {X : Cx} {W : WX} {tg iter : Expr} {st1 st3 : Stmt} {body : List Stmt} {pos : Pos} {it : VEnv → Ans (List FV)} {t : TgF} {fe : DE} {vs : List Nat} {i j : Nat}
end
section
variable {X : Cx} {W : WX} {tg iter e : Expr} {x y : Str} {pos p1 p2 p3 p4 p5 p6 p7 p8 p9 p10 p11 apos cpos : Pos} {it : VEnv → Ans (List FV)} {t : TgF} {fe : DE} {vs : List Nat}
end
section
variable {X : Cx} {W : WX} {e : Expr} {f : DE} {x : Str} {pos pos' spos : Pos}
end
end J
namespace J
open PySem PySem.Spec PyProof.Rows L2
section
variable {X : Cx} {W : WX} {pos pos' : Pos} {e tg : Expr} {fe : DE} {t : TgF} {vs : List Nat} {x : Str}
end
end J
set_option maxHeartbeats 4000000
namespace J
open PySem PySem.Spec PyProof.Rows L2
section
variable {X : Cx} {pins : List (Addr × Obj)} {σ : L2.St} {H : Hp} {s : Shared}
def KeyT (H : Hp) (k : NK) (b : Addr) : Prop := ∃ c, H b = some (.tup [.int k.1, .ref c]) ∧ H c = some (.tup (k.2.map V.int))
theorem KeyT.mono {F H : Hp} (h : Same F H) {k : NK} {b : Addr} (t : KeyT F k b) : KeyT H k b := let ⟨c, x, y⟩ := t; ⟨c, h _ _ x, h _ _ y⟩
end
section
variable {X : Cx} {W : WX} {a b : Expr} {f g : DE} {pos : Pos}
end
section
variable {X : Cx} {W : WX} {pos pos' tpos : Pos} {e k : Expr} {fk fe : DE} {x : Str}
end
end J
set_option maxHeartbeats 4000000
namespace J
open PySem PySem.Spec PyProof.Rows L2
section
variable {X : Cx} {W : WX} {e : Expr} {x y : Str} {pos p1 p2 p3 p4 apos cpos : Pos}
end
end J
set_option maxHeartbeats 4000000
namespace J
open PySem PySem.Spec PyProof.Rows L2 RZ
section
variable {X : Cx} {pins : List (Addr × Obj)} {σ : L2.St} {H : Hp} {s : Shared} {A : Around} {E : Value → Shared → Prop}
end
section
variable {X : Cx} {W : WX} {pos pos' apos cpos : Pos} {e : Expr} {f : DE} {x : Str}
end
section
variable {prog : Program} {w : World} {A : Around} {E : Value → Shared → Prop} {s : Shared} {z TI TO i1 i2 T : Addr} {fp1 fp2 : List Addr} {n1 n2 i : Nat} {P1 P2 : Nat → Value → Prop} {St1 St2 : Nat → Heap → Prop} {f : Bool} {oT : Obj}
end
section
variable {X : Cx} {e e2 : Expr} {ta : TA} {p p2 q pos : Pos}
end
section
variable {X : Cx} {W : WX} {e e2 : Expr} {g : VEnv → Ans (List Rv)} {p p2 q pos : Pos}
end
end J
set_option maxHeartbeats 4000000
namespace J
open PySem PySem.Spec PyProof.Rows L2
mutual
def FV.noD : FV → Bool
  | .tup xs => FV.noDL xs
  | .tuz xs => FV.noDL xs
  | .lst xs => FV.noDL xs
  | .dK _ => false
  | .dT kvs => FV.noDT kvs
  | .ins _ fs => FV.noDA fs
  | _ => true
def FV.noDL : List FV → Bool
  | [] => true
  | x :: xs => x.noD && FV.noDL xs
def FV.noDT : List (List Key × FV) → Bool
  | [] => true
  | (_, x) :: xs => x.noD && FV.noDT xs
def FV.noDA : List (Str × FV) → Bool
  | [] => true
  | (_, x) :: xs => x.noD && FV.noDA xs
end
def noDK : List (Key × FV) → Bool
  | [] => true
  | (_, x) :: xs => x.noD && noDK xs
mutual
def OV.noD : OV → Bool
  | .fz x => x.noD
  | .ol xs => FV.noDL xs
  | .oK kvs => J.noDK kvs
  | .oT kvs => FV.noDT kvs
  | .dl xs => OV.noDL xs
  | .dd kvs => OV.noDK kvs
  | .tp xs => OV.noDL xs
  | .ob _ _ fs => OV.noDA fs
  | .oN _ => true
def OV.noDL : List OV → Bool
  | [] => true
  | x :: xs => x.noD && OV.noDL xs
def OV.noDK : List (Key × OV) → Bool
  | [] => true
  | (_, x) :: xs => x.noD && OV.noDK xs
def OV.noDA : List (Str × OV) → Bool
  | [] => true
  | (_, x) :: xs => x.noD && OV.noDA xs
end
def noDE : VEnv → Bool
  | [] => true
  | none :: e => noDE e
  | some o :: e => o.noD && noDE e
section
variable {M : Str → Option Value} {F : Hp} {d : Addr} {u : HO}
theorem ne_d {ws : List (Key × V)} (hd : F d = some (.dK ws)) {a : Addr} {o : HO} (e : F a = some o) (n : ∀ ws, o ≠ .dK ws) : upd F d u a = some o := by
  rw [upd_ne fun z => by rw [z, hd] at e; cases e; exact n _ rfl]
  exact e
theorem KeyTs.lock {ws : List (Key × V)} (hd : F d = some (.dK ws)) {kb : List (NK × Addr)} (k : KeyTs F kb) : KeyTs (upd F d u) kb := fun p hp => let ⟨c, x, y⟩ := k p hp; ⟨c, ne_d hd x nofun, ne_d hd y nofun⟩
mutual
theorem FDen.lock {ws : List (Key × V)} (hd : F d = some (.dK ws)) : ∀ {x : FV} {v : V}, x.noD = true → FDen M F x v → FDen M (upd F d u) x v
  | .non, _, _, q => q
  | .bl _, _, _, q => q
  | .int _, _, _, q => q
  | .str _, _, _, q => q
  | .tup xs, _, n, ⟨a, vs, e, q, r⟩ => ⟨a, vs, e, ne_d hd q nofun, FDenL.lock hd n r⟩
  | .tuz xs, _, n, ⟨a, vs, o, e, q, q1, q2, r⟩ => ⟨a, vs, o, e, ne_d hd q nofun, q1, q2, FDenL.lock hd n r⟩
  | .lst xs, _, n, ⟨a, vs, e, q, r⟩ => ⟨a, vs, e, ne_d hd q nofun, FDenL.lock hd n r⟩
  | .dK _, _, n, _ => nomatch n
  | .dT kvs, _, n, ⟨a, vs, e, q, r⟩ => ⟨a, vs, e, ne_d hd q nofun, FDenT.lock hd n r⟩
  | .ins c fs, _, n, ⟨a, C, dx, vs, e, m, q, q2, r⟩ => ⟨a, C, dx, vs, e, m, ne_d hd q nofun, ne_d hd q2 nofun, FDenA.lock hd n r⟩
  | .exc c, _, _, ⟨a, C, e, m, q⟩ => ⟨a, C, e, m, ne_d hd q nofun⟩
  | .scr xs, _, _, ⟨a, e, q⟩ => ⟨a, e, q.elim (fun q => .inl (ne_d hd q nofun)) fun ⟨o, q⟩ => .inr ⟨o, ne_d hd q nofun⟩⟩
  | .dN ks, _, _, ⟨a, kb, e, q, n, k⟩ => ⟨a, kb, e, ne_d hd q nofun, n, k.lock hd⟩
theorem FDenL.lock {ws : List (Key × V)} (hd : F d = some (.dK ws)) : ∀ {xs : List FV} {vs : List V}, FV.noDL xs = true → FDenL M F xs vs → FDenL M (upd F d u) xs vs
  | [], _, _, q => q
  | _ :: _, _, n, ⟨v, us, e, q, r⟩ => by
    unfold FV.noDL at n
    rw [Bool.and_eq_true] at n
    exact ⟨v, us, e, FDen.lock hd n.1 q, FDenL.lock hd n.2 r⟩
theorem FDenT.lock {ws : List (Key × V)} (hd : F d = some (.dK ws)) : ∀ {xs : List (List Key × FV)} {vs : List (List Key × V)}, FV.noDT xs = true → FDenT M F xs vs → FDenT M (upd F d u) xs vs
  | [], _, _, q => q
  | (_, _) :: _, _, n, ⟨v, us, e, q, r⟩ => by
    unfold FV.noDT at n
    rw [Bool.and_eq_true] at n
    exact ⟨v, us, e, FDen.lock hd n.1 q, FDenT.lock hd n.2 r⟩
theorem FDenA.lock {ws : List (Key × V)} (hd : F d = some (.dK ws)) : ∀ {xs : List (Str × FV)} {vs : List (Str × V)}, FV.noDA xs = true → FDenA M F xs vs → FDenA M (upd F d u) xs vs
  | [], _, _, q => q
  | (_, _) :: _, _, n, ⟨v, us, e, q, r⟩ => by
    unfold FV.noDA at n
    rw [Bool.and_eq_true] at n
    exact ⟨v, us, e, FDen.lock hd n.1 q, FDenA.lock hd n.2 r⟩
end
theorem FDenK.lock {ws : List (Key × V)} (hd : F d = some (.dK ws)) : ∀ {xs : List (Key × FV)} {vs : List (Key × V)}, noDK xs = true → FDenK M F xs vs → FDenK M (upd F d u) xs vs
  | [], _, _, q => q
  | (_, _) :: _, _, n, ⟨v, us, e, q, r⟩ => by
    unfold noDK at n
    rw [Bool.and_eq_true] at n
    exact ⟨v, us, e, FDen.lock hd n.1 q, FDenK.lock hd n.2 r⟩
mutual
theorem Own.lock {ws : List (Key × V)} (hd : F d = some (.dK ws)) : ∀ {x : OV} {v : V} {L : Cells}, x.noD = true → Own M F x v L → Own M (upd F d u) x v L
  | .fz _, _, _, n, ⟨q, e⟩ => ⟨q.lock hd n, e⟩
  | .ol _, _, _, n, ⟨a, vs, e, r, q⟩ => ⟨a, vs, e, r.lock hd n, q⟩
  | .oK _, _, _, n, ⟨a, vs, e, r, q⟩ => ⟨a, vs, e, r.lock hd n, q⟩
  | .oT _, _, _, n, ⟨a, vs, e, r, q⟩ => ⟨a, vs, e, r.lock hd n, q⟩
  | .dl _, _, _, n, ⟨a, vs, L', e, r, q⟩ => ⟨a, vs, L', e, OwnL.lock hd n r, q⟩
  | .dd _, _, _, n, ⟨a, vs, L', e, r, q⟩ => ⟨a, vs, L', e, OwnK.lock hd n r, q⟩
  | .tp _, _, _, n, ⟨a, vs, e, q, r⟩ => ⟨a, vs, e, ne_d hd q nofun, OwnL.lock hd n r⟩
  | .ob _ _ _, _, _, n, ⟨a, C, dx, vs, L', e, m, q, r, q2⟩ => ⟨a, C, dx, vs, L', e, m, ne_d hd q nofun, OwnA.lock hd n r, q2⟩
  | .oN ks, _, _, _, ⟨a, kb, e, n, k, q⟩ => ⟨a, kb, e, n, k.lock hd, q⟩
theorem OwnL.lock {ws : List (Key × V)} (hd : F d = some (.dK ws)) : ∀ {xs : List OV} {vs : List V} {L : Cells}, OV.noDL xs = true → OwnL M F xs vs L → OwnL M (upd F d u) xs vs L
  | [], _, _, _, q => q
  | _ :: _, _, _, n, ⟨v, us, A, B, e, q, r, z⟩ => by
    unfold OV.noDL at n
    rw [Bool.and_eq_true] at n
    exact ⟨v, us, A, B, e, Own.lock hd n.1 q, OwnL.lock hd n.2 r, z⟩
theorem OwnK.lock {ws : List (Key × V)} (hd : F d = some (.dK ws)) : ∀ {xs : List (Key × OV)} {vs : List (Key × V)} {L : Cells}, OV.noDK xs = true → OwnK M F xs vs L → OwnK M (upd F d u) xs vs L
  | [], _, _, _, q => q
  | (_, _) :: _, _, _, n, ⟨v, us, A, B, e, q, r, z⟩ => by
    unfold OV.noDK at n
    rw [Bool.and_eq_true] at n
    exact ⟨v, us, A, B, e, Own.lock hd n.1 q, OwnK.lock hd n.2 r, z⟩
theorem OwnA.lock {ws : List (Key × V)} (hd : F d = some (.dK ws)) : ∀ {xs : List (Str × OV)} {vs : List (Str × V)} {L : Cells}, OV.noDA xs = true → OwnA M F xs vs L → OwnA M (upd F d u) xs vs L
  | [], _, _, _, q => q
  | (_, _) :: _, _, _, n, ⟨v, us, A, B, e, q, r, z⟩ => by
    unfold OV.noDA at n
    rw [Bool.and_eq_true] at n
    exact ⟨v, us, A, B, e, Own.lock hd n.1 q, OwnA.lock hd n.2 r, z⟩
end
theorem EnvOwn.lock {ws : List (Key × V)} (hd : F d = some (.dK ws)) {σ : Sl} {env : VEnv} {L : Cells} (h : EnvOwn M F σ env L) (n : noDE env = true) : EnvOwn M (upd F d u) σ env L := by
  induction h with
  | nil => exact .nil
  | skip _ ih => exact .skip (ih n)
  | cons q _ ih =>
    unfold noDE at n
    rw [Bool.and_eq_true] at n
    exact .cons (q.lock hd n.1) (ih n.2)
def isLk : HO → Bool
  | .frz _ (.dK _) => true
  | _ => false
theorem ne_l {od : Obj} {ws : List (Key × V)} (hd : F d = some (.frz od (.dK ws))) {a : Addr} {o : HO} (e : F a = some o) (n : isLk o = false) : upd F d u a = some o := by
  rw [upd_ne fun z => by rw [z, hd] at e; cases e; cases n]
  exact e
mutual
theorem FDen.open {od : Obj} {ws : List (Key × V)} (hd : F d = some (.frz od (.dK ws))) : ∀ {x : FV} {v : V}, FDen M F x v → FDen M (upd F d u) x v
  | .non, _, q => q
  | .bl _, _, q => q
  | .int _, _, q => q
  | .str _, _, q => q
  | .tup xs, _, ⟨a, vs, e, q, r⟩ => ⟨a, vs, e, ne_l hd q rfl, FDenL.open hd r⟩
  | .tuz xs, _, ⟨a, vs, o, e, q, q1, q2, r⟩ => ⟨a, vs, o, e, ne_l hd q rfl, q1, q2, FDenL.open hd r⟩
  | .lst xs, _, ⟨a, vs, e, q, r⟩ => ⟨a, vs, e, ne_l hd q rfl, FDenL.open hd r⟩
  | .dK kvs, _, ⟨a, vs, e, q, r⟩ => ⟨a, vs, e, ne_l hd q rfl, FDenK.open hd r⟩
  | .dT kvs, _, ⟨a, vs, e, q, r⟩ => ⟨a, vs, e, ne_l hd q rfl, FDenT.open hd r⟩
  | .ins c fs, _, ⟨a, C, dx, vs, e, m, q, q2, r⟩ => ⟨a, C, dx, vs, e, m, ne_l hd q rfl, ne_l hd q2 rfl, FDenA.open hd r⟩
  | .exc c, _, ⟨a, C, e, m, q⟩ => ⟨a, C, e, m, ne_l hd q rfl⟩
  | .scr xs, _, ⟨a, e, q⟩ => ⟨a, e, q.elim (fun q => .inl (ne_l hd q rfl)) fun ⟨o, q⟩ => .inr ⟨o, ne_l hd q rfl⟩⟩
  | .dN ks, _, ⟨a, kb, e, q, n, k⟩ => ⟨a, kb, e, ne_l hd q rfl, n, fun p hp => let ⟨c, x, y⟩ := k p hp; ⟨c, ne_l hd x rfl, ne_l hd y rfl⟩⟩
theorem FDenL.open {od : Obj} {ws : List (Key × V)} (hd : F d = some (.frz od (.dK ws))) : ∀ {xs : List FV} {vs : List V}, FDenL M F xs vs → FDenL M (upd F d u) xs vs
  | [], _, q => q
  | _ :: _, _, ⟨v, us, e, q, r⟩ => ⟨v, us, e, FDen.open hd q, FDenL.open hd r⟩
theorem FDenK.open {od : Obj} {ws : List (Key × V)} (hd : F d = some (.frz od (.dK ws))) : ∀ {xs : List (Key × FV)} {vs : List (Key × V)}, FDenK M F xs vs → FDenK M (upd F d u) xs vs
  | [], _, q => q
  | (_, _) :: _, _, ⟨v, us, e, q, r⟩ => ⟨v, us, e, FDen.open hd q, FDenK.open hd r⟩
theorem FDenT.open {od : Obj} {ws : List (Key × V)} (hd : F d = some (.frz od (.dK ws))) : ∀ {xs : List (List Key × FV)} {vs : List (List Key × V)}, FDenT M F xs vs → FDenT M (upd F d u) xs vs
  | [], _, q => q
  | (_, _) :: _, _, ⟨v, us, e, q, r⟩ => ⟨v, us, e, FDen.open hd q, FDenT.open hd r⟩
theorem FDenA.open {od : Obj} {ws : List (Key × V)} (hd : F d = some (.frz od (.dK ws))) : ∀ {xs : List (Str × FV)} {vs : List (Str × V)}, FDenA M F xs vs → FDenA M (upd F d u) xs vs
  | [], _, q => q
  | (_, _) :: _, _, ⟨v, us, e, q, r⟩ => ⟨v, us, e, FDen.open hd q, FDenA.open hd r⟩
end
mutual
theorem Own.open {od : Obj} {ws : List (Key × V)} (hd : F d = some (.frz od (.dK ws))) : ∀ {x : OV} {v : V} {L : Cells}, Own M F x v L → Own M (upd F d u) x v L
  | .fz _, _, _, ⟨q, e⟩ => ⟨q.open hd, e⟩
  | .ol _, _, _, ⟨a, vs, e, r, q⟩ => ⟨a, vs, e, r.open hd, q⟩
  | .oK _, _, _, ⟨a, vs, e, r, q⟩ => ⟨a, vs, e, r.open hd, q⟩
  | .oT _, _, _, ⟨a, vs, e, r, q⟩ => ⟨a, vs, e, r.open hd, q⟩
  | .dl _, _, _, ⟨a, vs, L', e, r, q⟩ => ⟨a, vs, L', e, OwnL.open hd r, q⟩
  | .dd _, _, _, ⟨a, vs, L', e, r, q⟩ => ⟨a, vs, L', e, OwnK.open hd r, q⟩
  | .tp _, _, _, ⟨a, vs, e, q, r⟩ => ⟨a, vs, e, ne_l hd q rfl, OwnL.open hd r⟩
  | .ob _ _ _, _, _, ⟨a, C, dx, vs, L', e, m, q, r, q2⟩ => ⟨a, C, dx, vs, L', e, m, ne_l hd q rfl, OwnA.open hd r, q2⟩
  | .oN ks, _, _, ⟨a, kb, e, n, k, q⟩ => ⟨a, kb, e, n, fun p hp => let ⟨c, x, y⟩ := k p hp; ⟨c, ne_l hd x rfl, ne_l hd y rfl⟩, q⟩
theorem OwnL.open {od : Obj} {ws : List (Key × V)} (hd : F d = some (.frz od (.dK ws))) : ∀ {xs : List OV} {vs : List V} {L : Cells}, OwnL M F xs vs L → OwnL M (upd F d u) xs vs L
  | [], _, _, q => q
  | _ :: _, _, _, ⟨v, us, A, B, e, q, r, z⟩ => ⟨v, us, A, B, e, Own.open hd q, OwnL.open hd r, z⟩
theorem OwnK.open {od : Obj} {ws : List (Key × V)} (hd : F d = some (.frz od (.dK ws))) : ∀ {xs : List (Key × OV)} {vs : List (Key × V)} {L : Cells}, OwnK M F xs vs L → OwnK M (upd F d u) xs vs L
  | [], _, _, q => q
  | (_, _) :: _, _, _, ⟨v, us, A, B, e, q, r, z⟩ => ⟨v, us, A, B, e, Own.open hd q, OwnK.open hd r, z⟩
theorem OwnA.open {od : Obj} {ws : List (Key × V)} (hd : F d = some (.frz od (.dK ws))) : ∀ {xs : List (Str × OV)} {vs : List (Str × V)} {L : Cells}, OwnA M F xs vs L → OwnA M (upd F d u) xs vs L
  | [], _, _, q => q
  | (_, _) :: _, _, _, ⟨v, us, A, B, e, q, r, z⟩ => ⟨v, us, A, B, e, Own.open hd q, OwnA.open hd r, z⟩
end
theorem EnvOwn.open {od : Obj} {ws : List (Key × V)} (hd : F d = some (.frz od (.dK ws))) {σ : Sl} {env : VEnv} {L : Cells} (h : EnvOwn M F σ env L) : EnvOwn M (upd F d u) σ env L := by
  induction h with
  | nil => exact .nil
  | skip _ ih => exact .skip ih
  | cons q _ ih => exact .cons (q.open hd) ih
end
section
variable {M : Str → Option Value} {G Z H F : Hp} {σ : Sl} {env : VEnv} {T : List (V × Rv)} {L1 L2 : Cells} {d : Addr} {od : Obj} {ws : List (Key × V)} {kvs : List (Key × FV)} {i : Nat}
def lockZ (Z : Hp) (d : Addr) (L2 : Cells) : Hp := updL (fun a => if a = d then none else Z a) L2
theorem lockZ_in (nd : (L2.map (·.1)).Nodup) : ∀ p ∈ L2, lockZ Z d L2 p.1 = some p.2 := updL_in nd
theorem lockZ_out {a : Addr} (h : ∀ p ∈ L2, p.1 ≠ a) (n : a ≠ d) : lockZ Z d L2 a = Z a := by
  unfold lockZ
  rw [updL_out h]
  exact if_neg n
theorem RF.lock (r : RF M G Z H F σ env T L1 L2) (hd : F d = some (.dK ws)) (nv : env[i]? = some (some (.fz (.dK kvs)))) (n : noDE (env.set i none) = true) :
    R M (upd F d (.frz od (.dK ws))) (lockZ Z d L2) (upd H d (.frz od (.dK ws))) σ (env.set i none) [] := by
  obtain ⟨v, A, Lr, sv, own, pm, _, k⟩ := r.ev.repl nv
  have hA : A = [] := own.2
  subst hA
  have hσ : σ.set i (some v) = σ := by
    apply List.ext_getElem?
    intro j
    by_cases hj : i = j
    · subst hj
      rw [List.getElem?_set_self (List.getElem?_eq_some_iff.mp sv).1, sv]
    · rw [List.getElem?_set_ne hj]
  have ev := k (some v)
  rw [hσ] at ev
  have g := r.gd.perm (pm.append_right L2)
  rw [List.nil_append] at g
  have nd : ∀ p ∈ Lr ++ L2, p.1 ≠ d := fun p hp e => by
    have := g.fr p hp
    rw [e, hd] at this
    cases this
  have n2 := g.right.nd
  have ap := g.apart
  refine ⟨_, Lr, [], Same.refl _, fun a o e => .inl e, fun a o e => ?_, fun a o e => ?_, ev.lock hd n, .nil, ?_⟩
  · by_cases z : a = d
    · subst z
      rw [upd_same] at e ⊢
      exact e
    · rw [upd_ne z] at e ⊢
      exact r.fh a o e
  · by_cases hm : ∃ p ∈ L2, p.1 = a
    · obtain ⟨p, hp, rfl⟩ := hm
      rw [lockZ_in n2 p hp] at e
      cases e
      rw [upd_ne (nd p (List.mem_append_right _ hp))]
      exact g.hp p (List.mem_append_right _ hp)
    · have ho : ∀ p ∈ L2, p.1 ≠ a := fun p hp e => hm ⟨p, hp, e⟩
      by_cases z : a = d
      · subst z
        unfold lockZ at e
        rw [updL_out ho] at e
        simp at e
      · rw [lockZ_out ho z] at e
        rw [upd_ne z]
        exact r.zh a o e
  · rw [List.append_nil]
    refine ⟨g.left.nd, fun p hp => ?_, fun p hp => ?_, fun p hp => ?_⟩
    · rw [upd_ne (nd p (List.mem_append_left _ hp))]
      exact g.left.hp p hp
    · rw [upd_ne (nd p (List.mem_append_left _ hp))]
      exact g.left.fr p hp
    · rw [lockZ_out (fun q hq e => ap p hp q hq e.symm) (nd p (List.mem_append_left _ hp))]
      exact g.left.zr p hp
end
theorem FDenK.get {M : Str → Option Value} {F : Hp} : ∀ {kvs : List (Key × FV)} {ws : List (Key × V)} {n : Nat} {k : Key} {v : V}, FDenK M F kvs ws → ws[n]? = some (k, v) → ∃ x, kvs[n]? = some (k, x) ∧ FDen M F x v
  | [], _, n, _, _, e, h => by
    rw [show _ = [] from e] at h
    simp at h
  | (j, x) :: r, _, n, k, v, ⟨w, rs, e, q, z⟩, h => by
    subst e
    cases n with
    | zero =>
      cases h
      exact ⟨x, rfl, q⟩
    | succ n => exact z.get (by simpa using h)
section
variable {X : Cx} {W : WX} {x : Str} {pos px apos cpos tpos : Pos} {elts : List Expr} {kk : Nat} {body : List Stmt} {t : TgF} {fb : DS} {vs : List Nat}
end
end J
namespace J
open PySem PySem.Spec PyProof.Rows L2
def dChain (o1 o2 : OV → OV → Option OV) (f g h : DE) : DE := fun env => (f env).bind fun x => (g env).bind fun y => match o1 x.ov y.ov with
  | some (.fz (.bl true)) => (h env).bind fun z => (Ans.of (o2 y.ov z.ov)).map .st
  | some (.fz (.bl false)) => .ok (.st (.fz (.bl false)))
  | _ => .no
section
variable {X : Cx} {W : WX} {a b c : Expr} {f g h : DE} {pos : Pos} {p1 p2 : CmpOp} {o1 o2 : OV → OV → Option OV}
theorem chain_red {σ : L2.St} {H : Hp} {Q : VK} (q : tE X.mg W (dChain o1 o2 f g h) σ H Q) : tChain (rJ X.mg o1) (rJ X.mg o2) (tE X.mg W f) (tE X.mg W g) (tE X.mg W h) σ H Q := by
  obtain ⟨G, Z, env, T, r, p⟩ := q
  refine tE.bind r Sb.refl p fun x u H1 _ s1 r1 p1 => ?_
  refine tE.bind r1 Sb.refl.cons p1 fun y w H2 _ s2 ⟨F, C1, C2, r2⟩ p2 => ?_
  have bx := r2.bor (p := (u, x)) (List.mem_cons_of_mem _ List.mem_cons_self)
  have bw := r2.bor (p := (w, y)) List.mem_cons_self
  split at p2
  · rename_i e
    refine ⟨F, x.ov, y.ov, _, r2.fh, bx, bw, e, fun v H' n => ?_⟩
    have hh : Same H2 H' := let ⟨_, _, n⟩ := n; n.hh
    obtain ⟨F3, C3, C4, r3⟩ := r2.new n
    have hv : v = .bl true := (r3.bor (p := (v, .st (.fz (.bl true)))) List.mem_cons_self).bl
    refine ⟨true, hv, ?_⟩
    rw [if_pos rfl]
    refine tE.bind r3.r (Sb.refl.cons.cons.cons) (p2.later hh) fun z w' H4 _ s4 ⟨F4, C5, C6, r4⟩ p4 => ?_
    obtain ⟨o, e4, k⟩ := r4.fin (Sb.refl.cons.cons.cons.cons) p4
    exact ⟨F4, y.ov, z.ov, o, r4.fh, r4.bor (p := (w, y)) (List.mem_cons_of_mem _ (List.mem_cons_of_mem _ List.mem_cons_self)), r4.bor (p := (w', z)) List.mem_cons_self, e4, k⟩
  · rename_i e
    refine ⟨F, x.ov, y.ov, _, r2.fh, bx, bw, e, fun v H' n => ?_⟩
    have hh : Same H2 H' := let ⟨_, _, n⟩ := n; n.hh
    obtain ⟨F3, C3, C4, r3⟩ := r2.new n
    have hv : v = .bl false := (r3.bor (p := (v, .st (.fz (.bl false)))) List.mem_cons_self).bl
    refine ⟨false, hv, ?_⟩
    rw [if_neg Bool.false_ne_true, ← hv]
    exact p2 v H' hh (r3.r.sb (Sb.refl.cons.cons.both))
  · exact p2.elim
theorem je_chain (ho : OJ X (compareOp p1) o1) (ho2 : OJ X (compareOp p2) o2) (ha : JE X W a f) (hb : JE X W b g) (hc : JE X W c h) (hm : lastMarks [p1, p2] [b, c] = false := by with_unfolding_all rfl) :
    JE X W (.Compare a [p1, p2] [b, c] pos) (dChain o1 o2 f g h) := PE.imp (pe_chain ho ho2 ha hb hc hm) fun _ _ _ q => chain_red q
theorem jt_chain (ho : OJ X (compareOp p1) o1) (ho2 : OJ X (compareOp p2) o2) (ha : JE X W a f) (hb : JE X W b g) (hc : JE X W c h) (hm : lastMarks [p1, p2] [b, c] = false := by with_unfolding_all rfl) :
    JT X W (.Compare a [p1, p2] [b, c] pos) (dTest (dChain o1 o2 f g h)) := PT.imp (pt_chain ho ho2 ha hb hc hm) fun _ _ _ q => chain_red (tB_red q)
end
end J
set_option maxHeartbeats 4000000
namespace J
open PySem PySem.Spec PyProof.Rows L2
def ErrO (C a : Addr) : HO := .ext fun h => ∃ oe vs, h.get? a = some oe ∧ Zc (.ref C) none oe ∧ oe.data = .fields vs
theorem errO_ok {P : Program} {w : World} {H : Hp} {h : Heap} {a C : Addr} {oe : Obj} {vs : Array Value} (e : h.get? a = some oe) (z : Zc (.ref C) none oe) (d : oe.data = .fields vs) : ObjOk P w H h a (ErrO C a) :=
  ⟨⟨oe, vs, e, z, d⟩, ⟨oe, e⟩, fun _ _ ⟨o, v, q, r⟩ k => ⟨o, v, k o q, r⟩⟩
section
variable {X : Cx} {pins : List (Addr × Obj)} {σ : Sl} {H : Hp} {s : Shared}
theorem inv_known {a C : Addr} {oe : Obj} {vs : Array Value} (I : Inv X ((a, oe) :: pins) σ H s) (fresh : X.s_0.heap.get? a = none) (ne : ∀ p ∈ X.pn ++ pins, p.1 ≠ a) (hz : Zc (.ref C) none oe) (hd : oe.data = .fields vs) :
    Inv X pins σ (upd H a (ErrO C a)) s := by
  obtain ⟨ha, hn, nl, nf, nc⟩ := I.pin (a, oe) (List.mem_append_right _ List.mem_cons_self)
  have off : ∀ {b : Addr}, b ≠ a → upd H a (ErrO C a) b = H b := fun h => upd_ne h
  have trk : ∀ {b : Addr} {u : HO}, H b = some u → upd H a (ErrO C a) b = some u := fun {b u} h => (off fun z => by rw [z, hn] at h; cases h).trans h
  have cel : ∀ x c, X.env.cells.lookup x = some c → c ≠ a := fun x c e z => by
    obtain ⟨v, o, ho, hv⟩ := I.cell x c e
    rw [z, ha] at ho
    cases ho
    exact nc _ hv
  have bas := I.base
  constructor
  · exact I.ok
  · exact I.os
  · exact I.bare
  · constructor
    · exact bas.keep
    · exact bas.slot
    · intro b o h1 h2 h3
      rw [off fun z => by rw [z, fresh] at h1; cases h1]
      exact bas.free b o h1 h2 h3
    · exact bas.there
    · exact fun b xs h => trk (bas.tups b xs h)
    · exact fun b o u h => trk (bas.frzs b o u h)
    · intro b ps h
      obtain ⟨m, h⟩ := bas.tbls b ps h
      exact ⟨m, trk h⟩
  · exact I.loc
  · exact I.cell
  · rw [off (Ne.symm nl)]
    exact I.free
  · intro x c e
    rw [off (cel x c e)]
    exact I.freeC x c e
  · intro p hp
    have hp2 : p ∈ X.pn ++ (a, oe) :: pins := (List.mem_append.mp hp).elim (List.mem_append_left _) fun h => List.mem_append_right _ (List.mem_cons_of_mem _ h)
    obtain ⟨q1, q2, q3⟩ := I.pin p hp2
    exact ⟨q1, (off (ne p hp)).trans q2, q3⟩
  · intro b u e
    by_cases hb : b = a
    · subst hb
      rw [upd_same] at e
      cases e
      exact errO_ok ha hz hd
    · rw [off hb] at e
      exact (I.hok b u e).stay (fun _ _ _ q => q) (fun _ q => trk q) fun _ _ q => trk q
  · exact I.len
theorem inv_out {a : Addr} {q : Addr × Obj} (I : Inv (X.suite a (q :: (X.pn ++ pins))) [] σ H s) (ok : X.Ok) : Inv X (q :: pins) σ H s := by
  constructor
  · exact ok
  · exact I.os
  · exact I.bare
  · exact I.base
  · exact I.loc
  · exact I.cell
  · exact I.free
  · exact I.freeC
  · intro p hp
    refine I.pin p (List.mem_append_left _ ?_)
    rcases List.mem_append.mp hp with h | h
    · exact List.mem_cons_of_mem _ (List.mem_append_left _ h)
    · exact (List.mem_cons.mp h).elim (fun e => e ▸ List.mem_cons_self) fun h => List.mem_cons_of_mem _ (List.mem_append_right _ h)
  · exact I.hok
  · exact I.len
end
def wTold (K : PySem.W.Frag) (c : Value) (i j : Nat) (D : Ends) : WX := fun cls d σ H => d = none ∧ (∃ C, cls = .ref C ∧ PySem.W.exmOne K (.ref C) c = some true ∧
  ∀ a, H a = none → D.nx (((σ.set i (some (V.ref a))).set j (some (V.ref a))).set i none) (upd H a (ErrO C a)))
section
variable {X : Cx} {x n y : Str} {c : Value} {i j : Nat} {body : List Stmt} {np p1 p2 p3 pos pos' : Pos} {tb : WX → TS}
theorem ps_try_told (hx : X.ex = []) (hs : X.stack = X.env :: X.outer) (hf : X.env.frame = some X.env.locals) (hN : X.N.Nodup) (hi : X.N[i]? = some n) (hln : X.env.kindOf n = some .local) (hj : X.N[j]? = some y) (hly : X.env.kindOf y = some .local) (hc : Names X x c)
    (hsw : ∀ a pn, swapsWith (.Name n p2) (some (.Name y p1)) p3.line (X.suite a pn).env = pure false) (dn : (n == ("__debug__" : Str)) = false := by decide) (cn : (n == ("__classdict__" : Str)) = false := by decide)
    (hb : ∀ (W : WX) (pn : List (Addr × Obj)) (xe : Value → Shared → Prop), Takes (X.tr pn xe) W → PSs (X.tr pn xe) body (tb W)) :
    PS X (.Try body [.ExceptHandler (some (.Name x np)) (some n) [.Assign [.Name y p1] (.Name n p2) p3] pos'] [] [] pos) (fun D σ H => tb (wTold X.K c i j D) D σ H) := by
  constructor
  intro pins s σ H D I h
  have ok := I.ok
  have hfr : X.A.frames = some (X.env :: X.outer) := ok.frames.trans (by rw [hs])
  refine wpAny_Try_except (wpAny_mono ((hb (wTold X.K c i j D) (X.pn ++ pins) _ ?tk).run [] s σ H D (I.toTry _) h) ?fine fun _ _ z => z)
  case fine =>
    intro f s1 q
    match f, q with
    | .next, ⟨σ', H', J, q⟩ => exact wpAny_execs_nil ⟨σ', H', J.ofTry ok, q⟩
    | .brk, ⟨σ', H', J, q⟩ => exact ⟨σ', H', J.ofTry ok, q⟩
    | .cont, ⟨σ', H', J, q⟩ => exact ⟨σ', H', J.ofTry ok, q⟩
    | .ret u, ⟨v, σ', H', J, r, q⟩ => exact ⟨v, σ', H', J.ofTry ok, r, q⟩
  case tk =>
    intro u s' ⟨a, B, sI, pins', σ', H', cls, d, eu, J', nb, up, sky, na, eos, ag, ed, C, ec, em, fin⟩
    subst eu ed ec
    have J : Inv X pins σ' H' sI := J'.ofTry ok
    have sky2 : Sky B (X.env :: X.outer) a (Zc (.ref C) none) X.env.locals s'.heap := hs ▸ sky
    refine Sky.land Zc.steady hfr hf sky2 fun h3 fl3 up3 => ?_
    have new : B.get? a = none := fl3.2.1
    obtain ⟨oe, vs, he, hz, hd⟩ := fl3.there
    have J3 : Inv X pins σ' H' { s' with heap := h3 } := J.landed nb fl3.1 (up.trans up3) eos ag
    have offF : a ∉ frs (X.env :: X.outer) := fun hm => by
      obtain ⟨_, o, ho, nd⟩ := fl3.2.2.1.mem hm
      rw [he] at ho
      cases ho
      exact nd _ hd
    have offL : a ≠ X.env.locals := fun z => offF (List.mem_filterMap.mpr ⟨X.env, List.mem_cons_self, hf.trans (congrArg some z.symm)⟩)
    have offO : a ∉ X.fs := fun hm => offF (by
      obtain ⟨e, q1, q2⟩ := List.mem_filterMap.mp hm
      exact List.mem_filterMap.mpr ⟨e, List.mem_cons_of_mem _ q1, q2⟩)
    have notI : sI.heap.get? a = none := by
      cases e : sI.heap.get? a with
      | none => rfl
      | some o =>
        have := nb a o e (hs ▸ offF)
        rw [new] at this
        cases this
    have fresh : X.s_0.heap.get? a = none := by
      cases e : X.s_0.heap.get? a with
      | none => rfl
      | some o =>
        obtain ⟨o', q⟩ := J.base.there a o e (by rw [hx]; exact fun z => nomatch z)
        rw [notI] at q
        cases q
    have pinsNe : ∀ p ∈ X.pn ++ pins, p.1 ≠ a := fun p hp z => by
      have := (J.pin p hp).1
      rw [z, notI] at this
      cases this
    -- the clause's class
    have S3 := J3.suite he hd na offL offO
    have cls3 : PySem.W.Looks (model X.prog X.w) h3 (typeOf (.ref a)) (.ref C) := fun A Q E t k q => wpAny_typeOf_ref (k _ _ he) (hz.1.symm ▸ q)
    have asks := PySem.W.exm_one (M := model X.prog X.w) J3.kIn cls3 em
    refine wpAny_handleBy_cons (codeAny_handlers_test ?_) (fun q => by cases q)
    have readC : ∀ {Q E : Value → Shared → Prop}, Q c { s' with heap := h3 } → wpAny (model X.prog X.w) (X.A.mark (some (.ref a))) (eval (.Name x np) X.env) Q E { s' with heap := h3 } := fun q =>
      match hc with
      | ⟨hg, hdb, .inl hm⟩ => ld_glob (X := X.suite a ((a, oe) :: (X.pn ++ pins))) S3 hg hm q hdb
      | ⟨hg, hdb, .inr ⟨hm, hv, hnn⟩⟩ => ld_blt (X := X.suite a ((a, oe) :: (X.pn ++ pins))) S3 hg hm hv q hnn hdb
    refine readC (asks.here (codeAny_handlers_suite_as (HandSPX.lands_againZ fl3 fun h4 fl4 up4 => ?_)))
    obtain ⟨oe4, vs4, he4, hz4, hd4⟩ := fl4.there
    have J4 : Inv X pins σ' H' { s' with heap := h4 } := J.landed nb fl4.1 ((up.trans up3).trans up4) eos ag
    have S4 := J4.suite he4 hd4 na offL offO
    refine store_ok (X := X.suite a ((a, oe4) :: (X.pn ++ pins))) (v := V.ref a) S4 hN hi (.inl hln) rfl (fun s5 S5 => ?_) (.inr hln)
    -- the suite: y = n
    have suite : PSs (X.suite a ((a, oe4) :: (X.pn ++ pins))) [.Assign [.Name y p1] (.Name n p2) p3] (tAsg (tVar i) (gName j)) :=
      pss_one (ps_set hN hj (.inl hly) (pe_var hi (.inl hln) dn cn) (hsw _ _) (.inr hly))
    have li : i < σ'.length := by rw [J.len]; exact (List.getElem?_eq_some_iff.mp hi).1
    refine wpAny_mono (suite.run [] s5 _ H' { nx := fun σ6 H6 => σ6 = (σ'.set i (some (V.ref a))).set j (some (V.ref a)) ∧ H6 = H', rt := fun _ _ => False, bk := fun _ _ => False, ct := fun _ _ => False } S5 ⟨V.ref a, List.getElem?_set_self li, rfl, rfl⟩) ?_ fun _ _ z => z.elim
    intro f s6 q
    match f, q with
    | .next, ⟨σ6, H6, S6, e1, e2⟩ =>
      subst e1 e2
      refine gone_ok (inv_out S6 ok) hN hi hln fun s7 J7 => ?_
      exact ⟨_, _, inv_known J7 fresh pinsNe hz4 hd4, fin a na⟩
    | .ret u, ⟨_, _, _, _, _, z⟩ => exact z.elim
    | .brk, ⟨_, _, _, z⟩ => exact z.elim
    | .cont, ⟨_, _, _, z⟩ => exact z.elim
end
end J
set_option maxHeartbeats 4000000
namespace J
open PySem PySem.Spec PyProof.Rows L2
abbrev veMro : List Value := [.type "ValueError", .type "Exception", .type "BaseException", .type "object"]
structure ErrAt (K : PySem.W.Frag) (C : Addr) : Prop where
  kp : PySem.W.keepIn K (.ref C) = true
  ex : PySem.W.excIn K C veMro "ValueError.__new__" = true
  sb : PySem.W.subIn K (.ref C) (.type "BaseException") = some true
  sv : PySem.W.subIn K (.ref C) (.type "ValueError") = some true
  ss : PySem.W.subIn K (.ref C) (.ref C) = some true
  sn : PySem.W.subIn K (.type "NoneType") (.ref C) = some false
  ty : PySem.W.typeIn K (.ref C) = some (.type "type")
  hd : PySem.W.hasDictIn K C = true
  hg : PySem.W.findIn K (.ref C) "__getattribute__" = some (some (.builtin "BaseException.__getattribute__"))
  hk : PySem.W.findIn K (.ref C) "__getattr__" = some none
  ha : PySem.W.findIn K (.ref C) "__class__" = some (some (.builtin "object.__class__"))
  hm : PySem.W.mroIn K C (.type "object") = some true
structure ErrK (K : PySem.W.Frag) : Prop where
  hn : PySem.W.specialIn K (.builtin "object.__class__") "__get__" = some (some (.builtin "getset_descriptor.__get__"))
  ht : PySem.W.takesIn K (.builtin "object.__class__") = some true
def ErrC (K : PySem.W.Frag) (mg : Str → Option Value) (x : Str) : Prop := ∃ C, mg x = some (.ref C) ∧ ErrAt K C
def ErrP (K : PySem.W.Frag) (mg : Str → Option Value) (x y : Str) (b : Bool) : Prop := ∀ C D, mg x = some (.ref C) → mg y = some (.ref D) → PySem.W.subIn K (.ref C) (.ref D) = some b
theorem ErrP.mk {K : PySem.W.Frag} {mg : Str → Option Value} {x y : Str} {b : Bool} {C D : Addr} (h1 : mg x = some (.ref C)) (h2 : mg y = some (.ref D)) (h : PySem.W.subIn K (.ref C) (.ref D) = some b) : ErrP K mg x y b := fun C' D' e1 e2 => by
  rw [h1] at e1
  rw [h2] at e2
  cases e1
  cases e2
  exact h
theorem ErrAt.kit {K : PySem.W.Frag} {D : Addr} (E : ErrAt K D) {t : Value} {b : Bool} (h : PySem.W.subIn K t (.ref D) = some b) : PySem.W.kitOne K t (.ref D) = some b := by
  unfold PySem.W.kitOne
  by_cases e : (t == Value.ref D) = true
  · have e2 := beq_iff_eq.mp e
    subst e2
    rw [if_pos e, ← h, E.ss]
  · obtain ⟨cd, hc, _⟩ := PySem.W.any_some E.hd
    rw [if_neg e]
    show (if ((PySem.W.clsIn K D).isSome && PySem.W.typeIn K (.ref D) == some (.type "type")) = true then PySem.W.subIn K t (.ref D) else none) = some b
    rw [hc, E.ty, if_pos (by rfl)]
    exact h
theorem ErrAt.kitV {K : PySem.W.Frag} {C : Addr} (E : ErrAt K C) : PySem.W.kitOne K (.ref C) (.type "ValueError") = some true := by
  unfold PySem.W.kitOne
  rw [if_neg (fun z => Value.noConfusion (beq_iff_eq.mp z))]
  show (if PySem.W.kitMeta "ValueError" = true then PySem.W.subIn K (.ref C) (.type "ValueError") else none) = some true
  rw [if_pos (by decide +kernel)]
  exact E.sv
theorem ErrAt.exc {K : PySem.W.Frag} {C : Addr} (E : ErrAt K C) (k : ErrK K) : ExcC K C := ⟨E.hg, E.hk, E.sb, E.hd, E.ha, k.hn, k.ht, E.hm⟩
def dRaise (c : Str) : DS := fun _ => .ex c
section
variable {X : Cx} {W : WX} {x m : Str} {j : Nat} {p p2 pos pos' : Pos}
theorem js_raise (hc : X.calm = true) (tk : Takes X W) (E : ErrC X.K X.mg x) (hg : Gl X x := by rfl) (hdb : (x == ("__debug__" : Str)) = false := by decide) : JS X W (.Raise (some (.Call (.Name x p) [.Constant (.str m) j p2] [] pos)) none pos') (dRaise x) := by
  obtain ⟨C, gC, E⟩ := E
  exact PS.imp (ps_raise hc tk (pmk_own PySem.F.excBase_ValueError E.ex gC E.kp (raises_own E.sb E.ty) hg hdb)) fun D σ H ⟨_, _, _, _, _, ⟨_, _, _, r⟩, q⟩ => q C σ H gC r.zh
end
theorem set_over {α : Type} {l : List (Option α)} {i j : Nat} {a b : α} (h : i ≠ j) : ((l.set i (some a)).set j (some b)).set i none = (l.set j (some b)).set i none := by
  rw [List.set_comm _ _ h, List.set_set]
theorem EnvOwn.put {M : Str → Option Value} {F : Hp} {σ : Sl} {env : VEnv} {L : Cells} {s : Option V} (e : EnvOwn M F σ env L) : ∀ {i : Nat}, env[i]? = some none → EnvOwn M F (σ.set i s) env L := by
  induction e with
  | nil => intro i h; simp at h
  | skip e ih =>
    intro i h
    cases i with
    | zero => exact .skip e
    | succ i => exact .skip (ih (by simpa using h))
  | cons d e ih =>
    intro i h
    cases i with
    | zero => simp at h
    | succ i => exact .cons d (ih (by simpa using h))
theorem R.put {M : Str → Option Value} {G Z H : Hp} {σ : Sl} {env : VEnv} {T : List (V × Rv)} {i : Nat} {s : Option V} (r : R M G Z H σ env T) (h : env[i]? = some none) : R M G Z H (σ.set i s) env T := by
  obtain ⟨F, L1, L2, r⟩ := r
  exact ⟨F, L1, L2, r.gf, r.fg, r.fh, r.zh, r.ev.put h, r.tm, r.gd⟩
section
variable {X : Cx} {W : WX} {x n y : Str} {i j : Nat} {e : Expr} {f : DE} {np p1 p2 p3 pos pos' pe : Pos} {L : List Str}
end
def rIsX (K : PySem.W.Frag) : List V → Hp → VK → Prop := fun xs H Q => ∃ (a C : Addr) (c : V) (u : Value) (b : Bool), xs = [.ref a, c] ∧ H a = some (ErrO C a) ∧ ClsV c u ∧ ExcC K C ∧ PySem.W.kitOne K (.ref C) u = some b ∧ Q (.bl b) H
theorem call_isX {X : Cx} : CallR X (.builtin "isinstance") (rIsX X.K) := by
  intro pins s σ H xs us Q I r ⟨a, C, c, u, b, ex, ha, hc, E, k, q⟩
  subst ex
  obtain ⟨u1, u2, eu, r1, r2⟩ := vals2 r
  subst eu
  cases (show u1 = Value.ref a from r1)
  cases hc.eq r2
  have o : ObjOk X.prog X.w H s.heap a (ErrO C a) := I.hok a _ ha
  obtain ⟨⟨oe, vs, h1, ⟨h2, h3⟩, h4⟩, _⟩ := o
  have J : PySem.W.InstAt s.heap a oe C none := by
    constructor
    · exact h1
    · exact h2
    · obtain ⟨oc, od, dt, sl⟩ := oe
      cases (show dt = .fields vs from h4)
      rfl
    · rw [h3]
      exact trivial
  exact PySem.W.kia_one (PySem.W.handS_kitx_exc E.hg E.hk E.hs E.hd E.ha E.hn E.ht E.hm) I.kIn J k (fun z => nomatch z) fun tk => ⟨.bl b, H, I.tok tk, rfl, q⟩
def opIsE (tab : List (Str × Bool)) : OV → Option OV
  | .fz .non => some (.fz (.bl false))
  | .fz (.exc c) => (tab.lookup c).map fun b => .fz (.bl b)
  | _ => none
theorem lookup_mem {α β : Type} [BEq α] [LawfulBEq α] : ∀ {l : List (α × β)} {a : α} {b : β}, l.lookup a = some b → (a, b) ∈ l
  | [], _, _, h => nomatch h
  | (k, v) :: l, a, b, h => by
    unfold List.lookup at h
    cases e : a == k with
    | true =>
      rw [e] at h
      cases h
      rw [beq_iff_eq.mp e]
      exact List.mem_cons_self
    | false =>
      rw [e] at h
      exact List.mem_cons_of_mem _ (lookup_mem h)
section
variable {X : Cx} {W : WX} {e : Expr} {f : DE} {p p2 pos : Pos} {x : Str} {tab : List (Str × Bool)}
theorem je_isG {c : V} {u : Value} (he : JE X W e f) (hc : PE X (.Name x p2) (tC c)) (k : ClsV c u) (hn : PySem.W.kitOne X.K (.type "NoneType") u = some false) (ht : ∀ c b, (c, b) ∈ tab → ∀ C, X.mg c = some (.ref C) → ExcC X.K C ∧ PySem.W.kitOne X.K (.ref C) u = some b) (hm : X.mg "isinstance" = none) (hg : Gl X "isinstance" := by rfl)
    (hs : starEach [e, .Name x p2] X.env = (false, eval e X.env) :: starEach [.Name x p2] X.env := by rfl) (hs2 : starEach [.Name x p2] X.env = (false, eval (.Name x p2) X.env) :: starEach [] X.env := by rfl) (hpl : (backTo pos (starEach [.Name x p2] X.env)).any (·.1) = false := by rfl) (hbi : bootBuiltins "isinstance" = some (.builtin "isinstance") := by rfl) :
    JE X W (.Call (.Name "isinstance" p) [e, .Name x p2] [] pos) (dUn (opIsE tab) f) := by
  refine PE.imp (pe_callB ((call_isi (X := X)).or call_isX) hg hm hbi (pa_cons he (pa_cons hc pa_nil hs2) hs) (by decide) (by decide) hs hpl) fun σ H Q ⟨G, Z, env, T2, r, q⟩ => ?_
  refine tE.bind r Sb.refl q fun y w H1 _ s1 ⟨F, C1, C2, r1⟩ p1 => ?_
  obtain ⟨o, eo, kk⟩ := r1.fin Sb.refl.cons p1
  have b : Bor X.mg F H1 y.ov w := r1.bor List.mem_cons_self
  unfold opIsE at eo
  split at eo
  · rename_i ey
    cases eo
    rw [ey] at b
    have ew : w = .non := b.fz
    exact .inl ⟨w, c, .type "NoneType", u, false, rfl, k, by rw [ew]; exact .base .non, hn, kk _ _ (New.bl r1.fh)⟩
  · rename_i cn ey
    obtain ⟨bb, eb, rfl⟩ := Option.map_eq_some_iff.mp eo
    rw [ey] at b
    obtain ⟨a, C, ew, m, ha⟩ := b.fz
    obtain ⟨q1, q2⟩ := ht cn bb (lookup_mem eb) C m
    exact .inr ⟨a, C, c, u, bb, by rw [ew], r1.fh _ _ ha, k, q1, q2, kk _ _ (New.bl r1.fh)⟩
  · cases eo
theorem je_isE (tab : List (Str × Bool)) (he : JE X W e f) (EK : ErrK X.K) (E : ErrC X.K X.mg x) (ht : ∀ q ∈ tab, ErrC X.K X.mg q.1 ∧ ErrP X.K X.mg q.1 x q.2) (hm : X.mg "isinstance" = none) (hgx : Gl X x := by rfl) (hdb : (x == ("__debug__" : Str)) = false := by decide) (hg : Gl X "isinstance" := by rfl)
    (hs : starEach [e, .Name x p2] X.env = (false, eval e X.env) :: starEach [.Name x p2] X.env := by rfl) (hs2 : starEach [.Name x p2] X.env = (false, eval (.Name x p2) X.env) :: starEach [] X.env := by rfl) (hpl : (backTo pos (starEach [.Name x p2] X.env)).any (·.1) = false := by rfl) :
    JE X W (.Call (.Name "isinstance" p) [e, .Name x p2] [] pos) (dUn (opIsE tab) f) := by
  obtain ⟨D, gD, E⟩ := E
  refine je_isG (c := .ref D) he (pe_glob hgx gD rfl hdb) (.own D) (E.kit E.sn) (fun c b h C m => ?_) hm hg hs hs2 hpl
  obtain ⟨⟨C', m', E'⟩, P⟩ := ht _ h
  have e : C' = C := by
    have := m'.symm.trans m
    cases this
    rfl
  subst e
  exact ⟨E'.exc EK, E.kit (P C' D m gD)⟩
theorem boot_VE : bootBuiltins "ValueError" = some (.type "ValueError") := by decide +kernel
theorem je_isV (tab : List Str) (he : JE X W e f) (EK : ErrK X.K) (ht : ∀ q ∈ tab, ErrC X.K X.mg q) (hm : X.mg "isinstance" = none) (hmv : X.mg "ValueError" = none) (hgx : Gl X "ValueError" := by rfl) (hg : Gl X "isinstance" := by rfl)
    (hs : starEach [e, .Name "ValueError" p2] X.env = (false, eval e X.env) :: starEach [.Name "ValueError" p2] X.env := by rfl) (hs2 : starEach [.Name "ValueError" p2] X.env = (false, eval (.Name "ValueError" p2) X.env) :: starEach [] X.env := by rfl) (hpl : (backTo pos (starEach [.Name "ValueError" p2] X.env)).any (·.1) = false := by rfl) :
    JE X W (.Call (.Name "isinstance" p) [e, .Name "ValueError" p2] [] pos) (dUn (opIsE (tab.map fun c => (c, true))) f) := by
  refine je_isG (c := .ty "ValueError") he (pe_bltn (v := .ty "ValueError") hgx hmv boot_VE rfl (by decide) (by decide)) (.ty "ValueError") (kit_ty (by decide +kernel)) (fun c b h C m => ?_) hm hg hs hs2 hpl
  obtain ⟨q, hq, e⟩ := List.mem_map.mp h
  cases e
  obtain ⟨C', m', E'⟩ := ht _ hq
  have e : C' = C := by
    have := m'.symm.trans m
    cases this
    rfl
  subst e
  exact ⟨E'.exc EK, E'.kitV⟩
end
end J
namespace J
open PySem PySem.Spec PyProof.Rows L2
end J
set_option maxHeartbeats 4000000
namespace J
open PySem PySem.Spec PyProof.Rows L2
section
variable {X : Cx} {W : WX} {pos p1 p2 p3 : Pos} {e k k2 : Expr} {fk fj fe : DE} {x : Str}
end
end J
namespace J
open PySem PySem.Spec PyProof.Rows L2
theorem OwnK.keys {M : Str → Option Value} {F : Hp} : ∀ {kvs : List (Key × OV)} {ws : List (Key × V)} {L : Cells}, OwnK M F kvs ws L → ws.map (·.1) = kvs.map (·.1)
  | [], _, _, h => by rw [h.1]; rfl
  | (k, x) :: r, _, _, ⟨v, rs, A, B, e, _, q, _⟩ => by rw [e, List.map_cons, List.map_cons, q.keys]
section
variable {X : Cx} {e : Expr} {p pos apos cpos : Pos}
end
end J
namespace J
open PySem PySem.Spec PyProof.Rows L2
theorem FDenK.mem {M : Str → Option Value} {F : Hp} : ∀ {kvs : List (Key × FV)} {ws : List (Key × V)}, FDenK M F kvs ws → ∀ p ∈ ws, ∃ x, (p.1, x) ∈ kvs ∧ FDen M F x p.2
  | [], _, h, p, hp => by rw [show _ = [] from h] at hp; cases hp
  | (k, x) :: r, _, ⟨v, rs, e, d, q⟩, p, hp => by
    rw [e] at hp
    rcases List.mem_cons.mp hp with rfl | hp
    · exact ⟨x, List.mem_cons_self, d⟩
    · obtain ⟨y, h1, h2⟩ := q.mem p hp
      exact ⟨y, List.mem_cons_of_mem _ h1, h2⟩
theorem FDenK.len {M : Str → Option Value} {F : Hp} : ∀ {kvs : List (Key × FV)} {ws : List (Key × V)}, FDenK M F kvs ws → ws.length = kvs.length
  | [], _, h => by rw [show _ = [] from h]; rfl
  | _ :: _, _, ⟨v, rs, e, _, q⟩ => by rw [e, List.length_cons, List.length_cons, q.len]
end J
namespace J
open PySem PySem.Spec PyProof.Rows L2
theorem tA.bindS {M : Str → Option Value} {G Z H : Hp} {σ : Sl} {env : VEnv} {T : List (V × Rv)} {W : WX} {D : Ends} {f : VEnv → Ans (List Rv)} {k : List Rv → Ans SO} {Q1 : List V → Hp → Prop} (r : R M G Z H σ env T) (p : PostS M W G Z T D ((f env).bind k))
    (h : ∀ rs vs H1, f env = .ok rs → vs.length = rs.length → Same H H1 → R M G Z H1 σ env (vs.zip rs ++ T) → PostS M W G Z T D (k rs) → Q1 vs H1) : tA M W f σ H Q1 := by
  refine ⟨G, Z, env, T, r, ?_⟩
  cases e : f env with
  | ok rs =>
    rw [e] at p
    exact fun vs H1 hl s r => h rs vs H1 e hl s r p
  | ex c =>
    rw [e] at p
    exact fun C H1 m s ⟨_, _, _, r⟩ => p C σ H1 m r.zh
  | no => rw [e] at p; exact p
section
variable {X : Cx} {W : WX} {a b : Expr} {f g : DE} {x y : Str} {px py pt pos : Pos} {kt k2 : Nat} {pt2 : Pos}
end
section
variable {X : Cx} {pos p1 p2 p3 : Pos} {x y z : Str}
end
end J
set_option maxHeartbeats 4000000
namespace J
open PySem PySem.Spec PyProof.Rows L2
section
variable {X : Cx} {W : WX} {x z : Str} {pos px apos cpos tpos zp ap : Pos} {elts : List Expr} {kk : Nat} {ee : Expr} {t : TgF} {fe : DE} {vs : List Nat}
end
end J
set_option maxHeartbeats 4000000
namespace J
open PySem PySem.Spec PyProof.Rows L2
def ClC (K : PySem.W.Frag) (mg : Str → Option Value) (c : Str) : Prop := ∀ C, mg c = some (.ref C) → Cls K C
def ClF (K : PySem.W.Frag) (mg : Str → Option Value) (c f : Str) : Prop := ∀ C, mg c = some (.ref C) → NoAttr K C f
theorem ClC.mk' {K : PySem.W.Frag} {mg : Str → Option Value} {c : Str} {C : Addr} (h : mg c = some (.ref C)) (k : Cls K C) : ClC K mg c := fun C' e => by
  rw [h] at e
  cases e
  exact k
theorem ClF.mk' {K : PySem.W.Frag} {mg : Str → Option Value} {c f : Str} {C : Addr} (h : mg c = some (.ref C)) (k : NoAttr K C f) : ClF K mg c f := fun C' e => by
  rw [h] at e
  cases e
  exact k
def putA (f : Str) (o : OV) : List (Str × OV) → List (Str × OV)
  | [] => [(f, o)]
  | p :: r => if p.1 = f then (p.1, o) :: r else p :: putA f o r
section
variable {M : Str → Option Value} {G Z H F : Hp} {o p p' q q' : OV} {v y : V} {i : Nat} {L B : Cells} {a : Addr} {ho ho' : HO} {f : Str}
theorem look_cons {α : Type} (k f : Str) (x : α) (r : List (Str × α)) : List.lookup f ((k, x) :: r) = if k = f then some x else List.lookup f r := by
  by_cases h : k = f
  · have hb : (f == k) = true := beq_iff_eq.mpr h.symm
    simp only [List.lookup, hb, if_pos h]
  · have hb : (f == k) = false := beq_eq_false_iff_ne.mpr (fun e => h e.symm)
    simp only [List.lookup, hb, if_neg h]
theorem FDenA.get {fs : List (Str × FV)} {ws : List (Str × V)} {x : FV} (h : FDenA M F fs ws) (e : fs.lookup f = some x) : ∃ w, ws.lookup f = some w ∧ FDen M F x w := by
  induction fs generalizing ws with
  | nil => cases e
  | cons z fs ih =>
    obtain ⟨k, z⟩ := z
    obtain ⟨v, rs, ew, d, r⟩ := h
    subst ew
    rw [look_cons] at e ⊢
    by_cases hk : k = f
    · rw [if_pos hk] at e ⊢
      cases e
      exact ⟨v, rfl, d⟩
    · rw [if_neg hk] at e ⊢
      exact ih r e
theorem OwnA.length {fs : List (Str × OV)} {ws : List (Str × V)} (h : OwnA M F fs ws L) : ws.length = fs.length := by
  induction fs generalizing ws L with
  | nil => rw [h.1]; rfl
  | cons z fs ih =>
    obtain ⟨k, z⟩ := z
    obtain ⟨v, rs, A, C, e, d, r, _⟩ := h
    subst e
    rw [List.length_cons, List.length_cons, ih r]
theorem OwnA.put {fs : List (Str × OV)} {ws : List (Str × V)} (h : OwnA M F fs ws L) (d : Own M F o y B) : ∃ D A L', L.Perm (A ++ D) ∧ OwnA M F (putA f o fs) (putF f y ws) L' ∧ L'.Perm (A ++ B) := by
  induction fs generalizing ws L with
  | nil =>
    obtain ⟨e1, e2⟩ := h
    subst e1 e2
    exact ⟨[], [], B, .refl _, ⟨y, [], B, [], rfl, d, ⟨rfl, rfl⟩, by simp⟩, .refl _⟩
  | cons z fs ih =>
    obtain ⟨k, z⟩ := z
    obtain ⟨v, rs, A, C, ew, dz, r, eL⟩ := h
    subst ew eL
    unfold putA putF
    by_cases hk : k = f
    · rw [if_pos hk, if_pos hk]
      exact ⟨A, C, B ++ C, List.perm_append_comm, ⟨y, rs, B, C, rfl, d, r, rfl⟩, List.perm_append_comm⟩
    · rw [if_neg hk, if_neg hk]
      obtain ⟨D, A2, L', q1, q2, q3⟩ := ih r
      refine ⟨D, A ++ A2, A ++ L', ?_, ⟨v, _, A, L', rfl, dz, q2, rfl⟩, ?_⟩
      · rw [List.append_assoc]; exact List.Perm.append_left A q1
      · rw [List.append_assoc]; exact List.Perm.append_left A q3
end
section
variable {X : Cx} {W : WX} {pos p apos : Pos} {c f mn x : Str} {e o : Expr} {es : List Expr} {fo fe : DE} {g : VEnv → Ans (List Rv)} {m : FM} {k kk n : Nat}
open Classical in
open Classical in
end
section
variable {M : Str → Option Value} {G Z H F : Hp} {o q q' : OV} {v y : V} {i : Nat} {L B : Cells} {f c : Str} {t : Option Addr} {fs : List (Str × OV)}
end
section
variable {X : Cx} {W : WX} {pos pos' tpos p : Pos} {c f x : Str} {e k : Expr} {fk fe : DE}
end
def endI (x : Addr) (env : VEnv) : Ans OV := match env[(0 : Nat)]? with
  | some (some (.ob c' (some x') fs)) => if x' = x then .ok (.ob c' none fs) else .no
  | _ => .no
section
variable {P : Program} {w : World} {K : PySem.W.Frag} {mg : Str → Option Value} {base : Heap}
end
end J
namespace J
open PySem PySem.Spec PyProof.Rows L2
section
variable {X : Cx} {pos p1 p2 p3 p4 : Pos} {x y z u : Str}
end
end J
set_option maxHeartbeats 4000000
namespace J
open PySem PySem.Spec PyProof.Rows L2
section
variable {X : Cx} {W : WX} {x y : Str} {p1 p2 pos : Pos}
end
section
variable {X : Cx}
end
section
variable {X : Cx} {W : WX} {x y : Str} {j : Nat} {e e2 : Expr} {f : DE} {np p1 p3 pos pos' pe : Pos} {L : List Str} {u : V} {z : FV}
end
end J
namespace J
open PySem PySem.Spec PyProof.Rows L2
theorem set_same {env : VEnv} {i : Nat} {o : Option OV} (h : env[i]? = some o) : env.set i o = env := by
  obtain ⟨hl, rfl⟩ := List.getElem?_eq_some_iff.mp h
  exact List.set_getElem_self hl
section
variable {X : Cx} {W : WX} {pos pos' apos spos cpos : Pos} {e k : Expr} {f fk fe : DE} {x : Str}
end
end J
namespace J
open PySem PySem.Spec PyProof.Rows L2
section
variable {X : Cx} {W : WX} {pos pos' apos spos cpos : Pos} {e k : Expr} {x : Str}
end
end J
namespace J
open PySem PySem.Spec PyProof.Rows L2
section
variable {X : Cx} {W : WX} {st : Stmt} {f : DS}
end
end J
namespace J
open PySem PySem.Spec PyProof.Rows L2 RZ
section
variable {M : Model} {A : Around} {E : Value → Shared → Prop} {s : Shared} {env : Env}
def BlkEnd (M : Model) (A : Around) (E : Value → Shared → Prop) (use : Option (Value → Sem Unit)) (Q : Value → Shared → Prop) (scope : Scope) (env : Env) (acc : Value) (cenv : Env) (r : Result) (s' : Shared) : Prop :=
  match r, use with
  | .ok _, none => ∃ m, s'.heap.Ns cenv.locals m ∧ ∀ h', Heap.SameBut cenv.locals s'.heap h' → Q acc { s' with heap := h' }
  | .ok _, some f => wpAny M A (f acc) (fun _ t => ∃ m, t.heap.Ns cenv.locals m ∧ ∀ h', Heap.SameBut cenv.locals t.heap h' → Q .none { t with heap := h' }) E s'
  | .error x, _ => ∃ m, s'.heap.Ns cenv.locals m ∧ ∀ h', Heap.SameBut cenv.locals s'.heap h' → wpAny M A (passOn "comprehension.variables-let-go" x { cenv with scope := relabel scope env } : Sem Value) (fun _ _ => False) E { s' with heap := h' }
theorem comp_both {e : Expr} {scope : Scope} {pos : Pos} {mk first : Sem Value} {g : Comprehension} {gs : List Comprehension} {cl : List (Str × Addr)} {use : Option (Value → Sem Unit)} {Q : Value → Shared → Prop}
    (clauses : clausesOf e = g :: gs) (fold : ∀ x, foldedSetIterable g.iter env x = pure x) (clo : closureFor scope env = pure cl) (fn : scope.kind = .function) (locals : ∀ x ∈ scope.names, x.2 = .local → scope.names.lookup x.1 = some .local)
    (go : wpAny M A first (fun x t => wpAny M A (pyIter x) (fun it u => wpAny M A mk (fun acc v => wpAny M A (newFunctionEnv scope env.globals cl [] env.qual none .none (some env)) (fun cenv z =>
      codeAny M A (.compStart e 0 it acc { cenv with scope := relabel scope env }) (BlkEnd M A E use Q scope env acc cenv) z) E v) E u) E t) E s) : wpAny M A (comprehension e scope env pos mk false first use) Q E s := by
  unfold comprehension
  rw [clo, clauses]
  have same : ∀ (y : Value) (t : Shared), E y t → E y t := fun _ _ q => q
  refine wpAny_bind (wpAny_mono go (fun x t at_x => ?_) same)
  refine wpAny_bind (wpAny_standAt (wpAny_bind (wpAny_of_eq (fold x) (wpAny_bind (wpAny_holding (wpAny_mono at_x (fun it u at_it => ?_) same))))))
  refine wpAny_standIf (wpAny_bind (wpAny_mono at_it (fun acc v at_acc => ?_) same))
  refine wpAny_bind (wpAny_pure (wpAny_bind (wpAny_mono at_acc (fun cenv z at_env => ?_) same)))
  dsimp only
  have known : ∀ x ∈ (scope.names.filter fun x => (x.2 == .local || x.2 == .cell) && x.1 != (".0" : Str)).reverse, x.2 = .local → Env.kindOf { cenv with scope := relabel scope env } x.1 = some .local := fun x hx hl =>
    lookup_relabel_local (locals x (List.mem_filter.mp (List.mem_reverse.mp hx)).1 hl)
  refine wpAny_holding (wpAny_bind (wpAny_attempt (wpAny_holding (wpAny_run (codeAny_mono at_env fun r t ended => ?_)))))
  have turned : ∀ x ∈ (scope.names.filter fun x => (x.2 == .local || x.2 == .cell) && x.1 != (".0" : Str)).reverse.drop 1 ++ (scope.names.filter fun x => (x.2 == .local || x.2 == .cell) && x.1 != (".0" : Str)).reverse.take 1, x.2 = .local → Env.kindOf { cenv with scope := relabel scope env } x.1 = some .local := fun x hx hl =>
    (List.mem_append.mp hx).elim (fun q => known x (List.mem_of_mem_drop q) hl) fun q => known x (List.mem_of_mem_take q) hl
  cases r with
  | ok f =>
    cases use with
    | none =>
      obtain ⟨m, ns, ended⟩ := ended
      exact wpAny_bind (wpAny_holding (wpAny_comp_letGo (cenv := { cenv with scope := relabel scope env }) fn _ t m known ns fun h' _ _ sb => wpAny_pure (ended h' sb)))
    | some f =>
      refine wpAny_bind (wpAny_rule (wpAny_bind (wpAny_holding (wpAny_mono ended (fun _ t2 ended2 => ?_) same))))
      obtain ⟨m, ns, ended2⟩ := ended2
      exact wpAny_bind (wpAny_comp_letGo (cenv := { cenv with scope := relabel scope env }) fn _ t2 m turned ns fun h' _ _ sb => wpAny_pure (ended2 h' sb))
  | error x =>
    have ended : ∃ m, t.heap.Ns cenv.locals m ∧ ∀ h', Heap.SameBut cenv.locals t.heap h' → wpAny M A (passOn "comprehension.variables-let-go" x { cenv with scope := relabel scope env } : Sem Value) (fun _ _ => False) E { t with heap := h' } := by cases use <;> exact ended
    obtain ⟨m, ns, ended⟩ := ended
    exact wpAny_bind (wpAny_holding (wpAny_comp_letGo (cenv := { cenv with scope := relabel scope env }) fn _ t m known ns fun h' _ _ sb => wpAny_mono (ended h' sb) (fun _ _ f => f.elim) same))
end
section
variable {M : Model} {A : Around} {E : Value → Shared → Prop} {s : Shared} {Z : Obj → Prop} {base : Heap} {env env2 : Env} {outer : List Env} {L a : Addr}
theorem note_same (h : env2.frame = env.frame) (v : Value) : noteFrame v env2 = noteFrame v env := by
  unfold noteFrame PySem.frameOf
  rw [h]
theorem note_any {fl : Value} {Q : Unit → Shared → Prop} (hZ : HandSPX.Steady Z) (frames : A.frames = some (env :: outer)) (here : env.frame = some L) (stays : base.StaysIn s.heap) (new : base.get? a = none) (fun_ : s.heap.FunFrames base (env :: outer)) (tr : HandSPX.TracedZ s.heap base a Z fl) (ne : (fl == rawInt L) = false)
    (hQ : ∀ h', HandSPX.HeldZ base (env :: outer) a Z L h' → s.heap.UpToSlots h' → Q () { s with heap := h' }) : wpAny M A (noteFrame (.ref a) env) Q E s := by
  obtain ⟨ob, vs, T, oT, ts, at_a, z, ob_d, head, freshT, apart, at_T, T_d, flight⟩ := tr
  have else_ : ∀ b, b ≠ T → (s.heap.update T (Obj.mapFields (·.setIfInBounds 3 Value.none))).get? b = s.heap.get? b := fun b q => Heap.get?_update_other _ _ (Ne.symm q)
  have notT : ∀ b o, s.heap.get? b = some o → (∀ vs, o.data ≠ .fields vs) → b ≠ T := fun b o q nf e => by
    subst e
    rw [at_T] at q
    cases q
    exact nf ts T_d
  unfold noteFrame
  simp only [here]
  refine wpAny_bind (wpAny_field at_a ob_d head ?_)
  rw [if_pos (show (Value.ref T != Value.none) = true by simp)]
  refine wpAny_bind (wpAny_field at_T T_d flight ?_)
  rw [ne, if_neg Bool.false_ne_true]
  refine wpAny_bind (wpAny_setField at_T T_d (Array.getElem?_eq_some_iff.mp flight).1 ?_)
  have stays2 : base.StaysIn (s.heap.update T (Obj.mapFields (·.setIfInBounds 3 Value.none))) := fun b o q => (else_ b fun e => by rw [e, freshT] at q; cases q).trans (stays b o q)
  refine HandSPX.wpAny_entryZ hZ frames (fun_.of_keeps fun b o q nf => ⟨o, (else_ b (notT b o q nf)).trans q, rfl⟩) here ((else_ a (Ne.symm apart)).trans at_a) stays2 new ob_d (Array.getElem?_eq_some_iff.mp head).1 z fun h' ⟨x1, x2, x3, x4⟩ => ?_
  exact hQ h' ⟨x1, new, x2, x3⟩ fun b o q nf => x4 b o ((else_ b (notT b o q nf)).trans q) nf
theorem sky_note {C : Addr} {Q : Unit → Shared → Prop} (hZ : HandSPX.Steady Z) (frames : A.frames = some (env :: outer)) (here : env.frame = some L) (apart : C ≠ L) (sky : Sky base (env :: outer) a Z C s.heap)
    (hQ : ∀ h', HandSPX.HeldZ base (env :: outer) a Z L h' → s.heap.UpToSlots h' → Q () { s with heap := h' }) : wpAny M A (noteFrame (.ref a) env) Q E s := by
  rcases sky with ⟨x1, x2, x3, ob, vs, y1, y2, y3, y4⟩ | fly | held
  · exact HandSPX.look_newZ hZ frames x3 here y1 x1 x2 y3 y4 y2 hQ
  · exact HandSPX.looks_onZ hZ frames here fly hQ
  · obtain ⟨x1, x2, x3, x4⟩ := held
    refine note_any hZ frames here x1 x2 x3 x4 ?_ hQ
    refine beq_eq_false_iff_ne.mpr fun e => apart ?_
    unfold rawInt at e
    injection e with e
    exact Int.ofNat_inj.mp e
theorem held_but {C : Addr} {h h' : Heap} {l : List Env} (held : HandSPX.HeldZ base l a Z L h) (sb : Heap.SameBut C h h') (ns : ∃ m, h.Ns C m) (out : C ∉ frs l) : HandSPX.HeldZ (PySem.W.hideAll base [C]) l a Z L h' := by
  obtain ⟨x1, x2, x3, ob, vs, T, oT, ts, y1, y2, y3, y4, y5, y6, y7, y8, y9⟩ := held
  obtain ⟨m, oC, es, ep, z1, z2, _⟩ := ns
  have hid : ∀ b o, (PySem.W.hideAll base [C]).get? b = some o → b ≠ C ∧ base.get? b = some o := fun b o q => ⟨fun e => (by
    rw [PySem.W.hideAll_none [C] (by rw [e]; exact List.mem_singleton_self C)] at q
    cases q), PySem.W.of_hideAll _ q⟩
  have none_ : ∀ b, base.get? b = none → (PySem.W.hideAll base [C]).get? b = none := fun b q => by
    cases e : (PySem.W.hideAll base [C]).get? b with
    | none => rfl
    | some o => rw [(hid b o e).2] at q; cases q
  have notC : ∀ b o vs, h.get? b = some o → o.data = .fields vs → b ≠ C := fun b o vs q d e => by
    rw [e, z1] at q
    cases q
    rw [z2] at d
    cases d
  refine ⟨fun b o q => (sb.2 b (hid b o q).1).trans (x1 b o (hid b o q).2), none_ a x2, ?_, ob, vs, T, oT, ts, (sb.2 a (notC a ob vs y1 y3)).trans y1, y2, y3, y4, none_ T y5, y6, (sb.2 T (notC T oT ts y7 y8)).trans y7, y8, y9⟩
  clear y1
  revert out x3
  induction l with
  | nil => exact fun _ _ => trivial
  | cons e l ih =>
    intro out x3
    obtain ⟨q1, ⟨K, o, q2, q3, q4, q5⟩, q6⟩ := x3
    have mem : frs (e :: l) = K :: frs l := by unfold frs; rw [List.filterMap_cons, q2]
    rw [mem, List.mem_cons, not_or] at out
    exact ⟨q1, ⟨K, o, q2, none_ K q3, (sb.2 K (fun z => out.1 z.symm)).trans q4, q5⟩, ih out.2 q6⟩
end
section
variable {X : Cx} {pins : List (Addr × Obj)} {σ : L2.St} {H3 : Hp} {s3 : Shared} {scope : Scope} {fp : List Addr} {W : WX} {use : Option (Value → Sem Unit)} {Q : Value → Shared → Prop}
abbrev blkX (X : Cx) (s : Shared) (H : Hp) (scope : Scope) (ce : Env) (fp : List Addr) (xe : Value → Shared → Prop) : Cx := { X.blk s H scope ce fp with xe := xe }
theorem blk_error (tk : Takes X W) (hs : X.stack = X.env :: X.outer) (hf : X.env.frame = some X.env.locals) (I3 : L2.Inv X pins σ H3 s3) {ce cenv : Env} (ce_l : ce.locals = s3.heap.objs.size) (ce_f : ce.frame = X.env.frame) (same : { cenv with scope := relabel scope X.env } = ce) (cl : cenv.locals = ce.locals)
    (f3 : ∀ b ∈ fp, FpOk X pins H3 b) {xe : Value → Shared → Prop} {u acc : Value} {s' : Shared} (x : XE (blkX X s3 H3 scope ce fp xe) (fun c d _ H => W c d σ H) u s') :
    notedBy (model X.prog X.w) X.A ce (fun e t => BlkEnd (model X.prog X.w) X.A X.xe use Q scope X.env acc cenv (.error e) t) u s' := by
  obtain ⟨a, B, sI, pins8, σ8, H8, cls, d, rfl, I8, nb, up, sky, na, os, ag, w⟩ := x
  have frames : X.A.frames = some (X.env :: X.outer) := by rw [I3.ok.frames, hs]
  have sky : Sky B (X.env :: X.outer) a (Zc cls d) ce.locals s'.heap := by
    have : Sky B X.stack a (Zc cls d) ce.locals s'.heap := sky
    rwa [hs] at this
  have above : X.env.locals ≠ ce.locals := by
    rw [ce_l]
    exact Nat.ne_of_lt I3.lt
  have outC : ce.locals ∉ frs X.stack := fun hm => by
    obtain ⟨_, o, q, _⟩ := I3.stack.mem hm
    rw [ce_l] at q
    exact absurd (Heap.lt_size q) (Nat.lt_irrefl _)
  have free : H8 ce.locals = none := I8.free
  obtain ⟨m0, ns0, _⟩ := I8.loc
  have ns0 : sI.heap.Ns ce.locals m0 := ns0
  unfold notedBy
  rw [note_same ce_f]
  refine sky_note Zc.steady frames hf (fun e => above e.symm) sky fun h1 held up1 => ?_
  have ns1 : h1.Ns ce.locals m0 := (up.trans up1).ns ns0
  show BlkEnd (model X.prog X.w) X.A X.xe use Q scope X.env acc cenv (.error (.ref a)) { s' with heap := h1 }
  suffices fin : ∃ m, h1.Ns cenv.locals m ∧ ∀ h', Heap.SameBut cenv.locals h1 h' → wpAny (model X.prog X.w) X.A (passOn "comprehension.variables-let-go" (.ref a) { cenv with scope := relabel scope X.env } : Sem Value) (fun _ _ => False) X.xe { s' with heap := h' } by cases use <;> exact fin
  refine ⟨m0, by rw [cl]; exact ns1, fun h2 sb => ?_⟩
  rw [cl] at sb
  have held2 := held_but held sb ⟨m0, ns1⟩ (by rw [← hs]; exact outC)
  show wpAny (model X.prog X.w) X.A (passOn "comprehension.variables-let-go" (.ref a) { cenv with scope := relabel scope X.env } : Sem Value) (fun _ _ => False) X.xe { s' with heap := h2 }
  rw [same]
  have ⟨_, _, _, ob, vs, T, _, _, y1, _, y3, y4, _⟩ := held2
  unfold PySem.passOn
  refine wpAny_bind (wpAny_field (s := { s' with heap := h2 }) y1 y3 y4 ?_)
  rw [if_neg (show ¬ ((Value.ref T == Value.none) = true) by simp)]
  refine wpAny_bind ?_
  rw [ce_f, hf]
  refine HandSPX.setFlight_onZ (s := { s' with heap := h2 }) held2 fun h4 held4 up4 => wpAny_throw (tk _ _ ?_)
  have hid : ∀ b o, (PySem.W.hideAll sI.heap [ce.locals]).get? b = some o → b ≠ ce.locals ∧ sI.heap.get? b = some o := fun b o q => ⟨fun e => (by
    rw [PySem.W.hideAll_none [ce.locals] (by rw [e]; exact List.mem_singleton_self _)] at q
    cases q), PySem.W.of_hideAll _ q⟩
  have kept : ∀ b o, b ≠ ce.locals → sI.heap.get? b = some o → (PySem.W.hideAll sI.heap [ce.locals]).get? b = some o := fun b o n q => PySem.W.hideAll_get _ q fun hm => n (List.mem_singleton.mp hm)
  have low : ∀ b o, s3.heap.get? b = some o → b ≠ ce.locals := fun b o q e => by
    have := Heap.lt_size q
    rw [e, ce_l] at this
    exact Nat.lt_irrefl _ this
  have un : Un (frs X.stack) fp H3 H8 s3.heap sI.heap := I8.base
  have hok : HOk X.prog X.w H8 (PySem.W.hideAll sI.heap [ce.locals]) := fun b o q => (I8.hok b o q).stay (fun c v hc r => kept c v (fun e => by
    rw [e] at hc
    rcases hc with hc | hc
    · rw [← hc] at q
      rw [free] at q
      cases q
    · rw [free] at hc
      cases hc) r) (fun _ r => r) fun _ _ r => r
  have I7 : L2.Inv X pins σ H8 { sI with heap := PySem.W.hideAll sI.heap [ce.locals] } := I3.call' (ch := fp) (s' := { sI with heap := PySem.W.hideAll sI.heap [ce.locals] }) I8.os
    ⟨fun b o q n nf ne => kept b o (low b o q) (un.keep b o q n nf ne), fun b o q n nf ne => by
      obtain ⟨sl, e⟩ := un.slot b o q n nf ne
      exact ⟨sl, kept b _ (low b o q) e⟩, un.free, fun b o q ne => by
      obtain ⟨o', e⟩ := un.there b o q ne
      exact ⟨o', kept b o' (low b o q) e⟩, un.tups, un.frzs, un.tbls⟩ hok I8.bare fun b hb => ⟨(f3 b hb).2.2.2.1, (f3 b hb).2.1, (f3 b hb).2.2.2.2.1, (f3 b hb).2.2.2.2.2⟩
  refine ⟨a, PySem.W.hideAll B [ce.locals], { sI with heap := PySem.W.hideAll sI.heap [ce.locals] }, pins, σ, H8, cls, d, rfl, I7, fun b o q nf => ?_, fun b o q nf => ?_, .inr (.inr (by rw [hs]; exact held4)), na, os, ag, w⟩
  · obtain ⟨n, q⟩ := hid b o q
    exact PySem.W.hideAll_get _ (nb b o q nf) fun hm => n (List.mem_singleton.mp hm)
  · obtain ⟨n, q⟩ := hid b o q
    obtain ⟨sl, e⟩ := (up.trans up1) b o q nf
    obtain ⟨sl2, e2⟩ := up4 b _ ((sb.2 b n).trans e) nf
    exact ⟨sl2, e2⟩
end
section
variable {X : Cx} {W : WX} {elt tg iter : Expr} {ifs : List Expr} {scope : Scope} {own : List (Str × Nat)} {pos : Pos} {wi : TI} {g : TG} {tt : WX → TT} {te : WX → TE}
abbrev outW (W : WX) (σ : L2.St) : WX := fun c d _ H => W c d σ H
theorem lcE_core {pins : List (Addr × Obj)} {s : Shared} {σ : L2.St} {H : Hp} {Q : VK} {pos' : Pos} {use : Option (Value → Sem Unit)} {Qf : Value → Shared → Prop} (hc : X.calm = true) (hN : X.N.Nodup) (tk : Takes X W) (hs : X.stack = X.env :: X.outer) (hf : X.env.frame = some X.env.locals) (hi : PI X tg iter wi) (ok : BlkOk X.N X.env.scope scope own)
    (hg : ∀ (s : Shared) (H : Hp) (C : Addr) (cl : List (Str × Addr)) (fp : List Addr) (xe : Value → Shared → Prop), PG (blkX X s H scope (compEnvC scope cl C X.env) fp xe) tg g)
    (ht : ∀ (s : Shared) (H : Hp) (C : Addr) (cl : List (Str × Addr)) (fp : List Addr) (xe : Value → Shared → Prop) (V : WX), Takes (blkX X s H scope (compEnvC scope cl C X.env) fp xe) V → PTs (blkX X s H scope (compEnvC scope cl C X.env) fp xe) ifs (tt V))
    (he : ∀ (s : Shared) (H : Hp) (C : Addr) (cl : List (Str × Addr)) (fp : List Addr) (xe : Value → Shared → Prop) (V : WX), Takes (blkX X s H scope (compEnvC scope cl C X.env) fp xe) V → PE (blkX X s H scope (compEnvC scope cl C X.env) fp xe) elt (te V))
    (fold : ∀ x, foldedSetIterable iter X.env x = pure x) (I : L2.Inv X pins σ H s) (todo : tLc wi g (tt (outW W σ)) (te (outW W σ)) (own.map (·.2)) σ H Q)
    (fin : ∀ D cenv s' m H', L2.Inv X pins σ H' s' → Q (.ref D) H' → s'.heap.Ns cenv.locals m → FpOk X pins H' cenv.locals → BlkEnd (model X.prog X.w) X.A X.xe use Qf scope X.env (.ref D) cenv (.ok .next) s') :
    wpAny (model X.prog X.w) X.A (comprehension (.ListComp elt [⟨tg, iter, ifs, 0⟩] scope pos) scope X.env pos' (newList []) false (eval iter X.env) use) Qf X.xe s := by
  have cells : ∀ y ∈ scope.names, y.2 = .free → ∃ c, X.env.cells.lookup y.1 = some c := fun y hy e => I.ok.has _ (ok.free y hy e)
  refine comp_both rfl fold (closure_ok cells) ok.kind (fun y hy e => by rw [ok.uniq y hy, e]) (thn (hi.run pins s σ H _ I todo) fun src t at_src => thn at_src fun itv u at_it => ?_)
  obtain ⟨it, fp, tn, J, H2, e, I2, T, st2, f2, q⟩ := at_it
  subst e
  refine wpAny_newObj_type (newEnv_comp ?_) (by show 0 ≤ sizeLine; decide)
  generalize eD : u.heap.objs.size = D
  have freeD : H2 D = none := I2.hok.fresh (Nat.le_of_eq eD)
  obtain ⟨Wm, ⟨m0, w0⟩, turn⟩ := q D freeD
  generalize e3 : ({ u with heap := u.heap.push { cls := .type "list", data := .seq ([] : List Value).toArray } } : Shared) = s3
  have heap3 : s3.heap = u.heap.push { cls := .type "list", data := .seq ([] : List Value).toArray } := by rw [← e3]
  have I3 : L2.Inv X pins σ (upd H2 D (.lst [])) s3 := by
    rw [← e3]
    refine I2.laid (t' := u.toks) (fun b o e => Heap.get?_push_of_some _ e) (Nat.le_of_eq eD) ⟨Nat.zero_le _, [], 0, .nil, ?_⟩
    rw [← eD]
    exact Heap.get?_push_size _ rfl
  have f3 : ∀ b ∈ fp, FpOk X pins (upd H2 D (.lst [])) b ∧ b < s3.heap.objs.size := fun b hb => by
    obtain ⟨o, e, _⟩ := T.obj _ _ st2 b hb
    have lt := Heap.lt_size e
    refine ⟨⟨?_, (f2 b hb).2⟩, by rw [heap3, Heap.size_push]; exact Nat.lt_succ_of_lt lt⟩
    rw [upd_ne (by rw [← eD]; exact Nat.ne_of_lt lt)]
    exact (f2 b hb).1
  have st3 : tn 0 s3.heap := T.keep _ _ _ st2 fun b _ o e => by rw [heap3]; exact Heap.get?_push_of_some _ e
  have I4 := block_start I3 ok hN f3
  generalize eH : upd H2 D (.lst []) = H3 at I3 I4 w0 f3
  have noH : ∀ b ∈ fp, H3 b = none := fun b hb => (f3 b hb).1.1
  generalize ec : compEnvC scope (cellsFrom (s3.heap.objs.size + 1) scope.names (cloFrom X.env.cells scope.names [])) s3.heap.objs.size X.env = ce at I4
  have ce_l : ce.locals = s3.heap.objs.size := by subst ec; rfl
  have ce_f : ce.frame = X.env.frame := by subst ec; rfl
  suffices key : ∀ cenv : Env, { cenv with scope := relabel scope X.env } = ce → cenv.locals = ce.locals → codeAny (model X.prog X.w) X.A (.compStart (.ListComp elt [⟨tg, iter, ifs, 0⟩] scope pos) 0 (.ref it) (.ref D) ce) (BlkEnd (model X.prog X.w) X.A X.xe use Qf scope X.env (.ref D) cenv) { s3 with heap := pushCells (s3.heap.push { cls := .type "dict", data := .dict #[] }) scope.names } by
    subst ec
    subst e3
    exact key _ rfl rfl
  intro cenv is_ce same_l
  generalize e4 : ({ s3 with heap := pushCells (s3.heap.push { cls := .type "dict", data := .dict #[] }) scope.names } : Shared) = s4 at I4 ⊢
  have st4 : tn 0 s4.heap := T.keep _ _ _ st3 fun b _ o e => by rw [← e4]; exact pushCells_keeps _ _ _ _ (Heap.get?_push_of_some _ e)
  -- the hand that takes exceptions
  let xe : Value → Shared → Prop := notedBy (model X.prog X.w) X.A ce fun e t => BlkEnd (model X.prog X.w) X.A X.xe use Qf scope X.env (.ref D) cenv (.error e) t
  have takes : Takes (blkX X s3 H3 scope ce fp xe) (outW W σ) := fun v t x => blk_error tk hs hf I3 ce_l ce_f is_ce same_l (fun b hb => (f3 b hb).1) x
  have pg := hg s3 H3 s3.heap.objs.size (cellsFrom (s3.heap.objs.size + 1) scope.names (cloFrom X.env.cells scope.names [])) fp xe
  have pt := ht s3 H3 s3.heap.objs.size (cellsFrom (s3.heap.objs.size + 1) scope.names (cloFrom X.env.cells scope.names [])) fp xe (outW W σ)
  have pe := he s3 H3 s3.heap.objs.size (cellsFrom (s3.heap.objs.size + 1) scope.names (cloFrom X.env.cells scope.names [])) fp xe (outW W σ)
  rw [ec] at pg pt pe
  have pt := pt takes
  have pe := pe takes
  -- the context with the hand is the context without it
  have okX : ∀ {ps : List (Addr × Obj)} {σ' : L2.St} {H' : Hp} {t : Shared}, L2.Inv (X.blk s3 H3 scope ce fp) ps σ' H' t → L2.Inv (blkX X s3 H3 scope ce fp xe) ps σ' H' t := fun i => by
    obtain ⟨⟨o1, o2, o3, o4, o5, o6, o7, o8, o9, o10, o11, o12, o13, o14, o15, o16, o17, o18⟩, i2, i3, i4, i5, i6, i7, i8, i9, i10, i11⟩ := i
    exact ⟨⟨o1, o2, o3, o4, o5, o6, o7, o8, o9, o10, o11, o12, o13, o14, o15, o16, o17, o18⟩, i2, i3, i4, i5, i6, i7, i8, i9, i10, i11⟩
  have okB : ∀ {ps : List (Addr × Obj)} {σ' : L2.St} {H' : Hp} {t : Shared}, L2.Inv (blkX X s3 H3 scope ce fp xe) ps σ' H' t → L2.Inv (X.blk s3 H3 scope ce fp) ps σ' H' t := fun i => by
    obtain ⟨⟨o1, o2, o3, o4, o5, o6, o7, o8, o9, o10, o11, o12, o13, o14, o15, o16, o17, o18⟩, i2, i3, i4, i5, i6, i7, i8, i9, i10, i11⟩ := i
    exact ⟨⟨o1, o2, o3, o4, o5, o6, o7, o8, o9, o10, o11, o12, o13, o14, o15, o16, o17, o18⟩, i2, i3, i4, i5, i6, i7, i8, i9, i10, i11⟩
  have stand : ∀ {σ' : L2.St} {H' : Hp} {t : Shared}, L2.Inv (X.blk s3 H3 scope ce fp) [] σ' H' t → (∀ b ∈ fp, H' b = none) → ∀ b ∈ fp, FpOk (X.blk s3 H3 scope ce fp) [] H' b := fun {σ' H' t} i hn b hb =>
    ⟨hn b hb, (i.ok.exf b hb).1, i.ok.exfs b hb, .inl hb, fun x c e => (i.ok.exf b hb).2 x c e, fun p hp => absurd (show p ∈ ([] : List (Addr × Obj)) ++ [] from hp) (by simp)⟩
  have round : codeAny (model X.prog X.w) X.A (.compLoop (.ListComp elt [⟨tg, iter, ifs, 0⟩] scope pos) 0 (.ref it) (.ref D) ce) (BlkEnd (model X.prog X.w) X.A X.xe use Qf scope X.env (.ref D) cenv) s4 := by
    refine compLoop_any (fun n t => ∃ i H', L2.Inv (X.blk s3 H3 scope ce fp) [] (wipe σ (own.map (·.2))) H' t ∧ tn i t.heap ∧ (∀ b ∈ fp, H' b = none) ∧ Wm i n H') ?_ m0 ⟨0, H3, I4, st4, noH, w0⟩
    rintro n s5 ⟨i, H5, I5, st5, n5, w5⟩
    rcases turn i n H5 w5 with ⟨stop, q6⟩ | ⟨go, Nx, hNx, step⟩
    · refine thnF (T.done (X.blk s3 H3 scope ce fp) rfl rfl rfl hc i [] s5 _ H5 (fun _ _ => False) I5 (stand I5 n5) st5 stop) fun r s6 ⟨er, I6⟩ => ?_
      subst er
      have back : L2.Inv X pins σ H5 s6 := I3.call' (ch := fp) I6.os I6.base I6.hok I6.bare fun b hb => ⟨(f3 b hb).1.2.2.2.1, (f3 b hb).1.2.1, (f3 b hb).1.2.2.2.2.1, (f3 b hb).1.2.2.2.2.2⟩
      have noC : H5 ce.locals = none := I6.free
      obtain ⟨m, ns, _⟩ := I6.loc
      have fpC := I3.fpOk (b := ce.locals) (by rw [ce_l]; exact Nat.le_refl _) noC
      exact fin D cenv s6 m H5 back q6 (by rw [same_l]; exact ns) (by rw [same_l]; exact fpC)
    · refine thnF (T.item (X.blk s3 H3 scope ce fp) rfl rfl rfl hc i [] s5 _ H5 (fun _ _ => False) I5 (stand I5 n5) st5 go) fun r s6 ⟨v, er, h6⟩ => ?_
      subst er
      refine thnF h6 fun _ s7 ⟨x, H7, I7, r7, y7, st7, n7⟩ => ?_
      have I7' := okX (I7.pinned (stand I7 n7) (T.obj _ _ st7))
      refine thn (pg.run _ s7 _ H7 x v _ I7' r7 (step x H7 y7)) fun _ s8 ⟨σ8, H8, I8, wiped, q8⟩ => ?_
      refine thn (pt.run _ s8 σ8 H8 _ I8 q8) fun b s9 ⟨H9, I9, q9⟩ => ?_
      have turned : ∀ {t : Shared} {H' : Hp}, L2.Inv (X.blk s3 H3 scope ce fp) ([] ++ pinsAt fp s7.heap) σ8 H' t → Nx H' → ∃ m, m < n ∧ ∃ i H', L2.Inv (X.blk s3 H3 scope ce fp) [] (wipe σ (own.map (·.2))) H' t ∧ tn i t.heap ∧ (∀ b ∈ fp, H' b = none) ∧ Wm i m H' := fun {t H'} i' nx => by
        obtain ⟨m', lt, w'⟩ := hNx H' nx
        have held : ∀ b ∈ fp, ∀ o, s7.heap.get? b = some o → t.heap.get? b = some o ∧ H' b = none := fun b hb o e =>
          let z := i'.pin (b, o) (List.mem_append_right _ (List.mem_append_right _ (mem_pinsAt hb e)))
          ⟨z.1, z.2.1⟩
        have len : (wipe σ (own.map (·.2))).length = σ8.length := by rw [← wiped, wipe_length]
        refine ⟨m', lt, i + 1, H', (i'.unpinned (pins := [])).weak len (fun j v e => ?_), T.keep _ _ _ st7 fun b hb o e => (held b hb o e).1, fun b hb => ?_, w'⟩
        · rw [← wiped] at e
          exact (wipe_some e).1
        · obtain ⟨o, e, _⟩ := T.obj _ _ st7 b hb
          exact (held b hb o e).2
      cases b with
      | false =>
        simp only [Bool.false_eq_true, if_false] at q9 ⊢
        exact turned (okB I9) q9
      | true =>
        simp only [if_true] at q9 ⊢
        refine thn (pe.run _ s9 σ8 H9 _ I9 q9) fun z s10 ⟨yv, H10, I10, r10, acc, hD10, room, nx⟩ => ?_
        exact app_ok (X := blkX X s3 H3 scope ce fp xe) I10 hD10 room r10 fun s11 I11 => turned (okB I11) nx
  exact codeAny_compStart_list round (T.self X.A 0 _ _ _ st4 round)
theorem ps_setLcE {i : Nat} {y : Str} {py spos : Pos} (hc : X.calm = true) (hN : X.N.Nodup) (tk : Takes X W) (hs : X.stack = X.env :: X.outer) (hf : X.env.frame = some X.env.locals) (hy : X.N[i]? = some y) (hyl : X.env.scope.names.lookup y = some .local)
    (swap : swapsWith (.ListComp elt [⟨tg, iter, ifs, 0⟩] scope pos) (some (.Name y py)) spos.line X.env = pure true) (hi : PI X tg iter wi) (ok : BlkOk X.N X.env.scope scope own)
    (hg : ∀ (s : Shared) (H : Hp) (C : Addr) (cl : List (Str × Addr)) (fp : List Addr) (xe : Value → Shared → Prop), PG (blkX X s H scope (compEnvC scope cl C X.env) fp xe) tg g)
    (ht : ∀ (s : Shared) (H : Hp) (C : Addr) (cl : List (Str × Addr)) (fp : List Addr) (xe : Value → Shared → Prop) (V : WX), Takes (blkX X s H scope (compEnvC scope cl C X.env) fp xe) V → PTs (blkX X s H scope (compEnvC scope cl C X.env) fp xe) ifs (tt V))
    (he : ∀ (s : Shared) (H : Hp) (C : Addr) (cl : List (Str × Addr)) (fp : List Addr) (xe : Value → Shared → Prop) (V : WX), Takes (blkX X s H scope (compEnvC scope cl C X.env) fp xe) V → PE (blkX X s H scope (compEnvC scope cl C X.env) fp xe) elt (te V))
    (fold : ∀ x, foldedSetIterable iter X.env x = pure x := by intro _; rfl) :
    PS X (.Assign [.Name y py] (.ListComp elt [⟨tg, iter, ifs, 0⟩] scope pos) spos) (tAsg (fun σ H Q => tLc wi g (tt (outW W σ)) (te (outW W σ)) (own.map (·.2)) σ H Q) (gName i)) := by
  refine ⟨fun pins s σ H D I todo => ?_⟩
  rw [exec_Assign_Name_used _ _ _ _ swap]
  refine wpAny_bind (wpAny_standAt (wpAny_bind ?_))
  show wpAny _ X.A (do let _ ← comprehension (.ListComp elt [⟨tg, iter, ifs, 0⟩] scope pos) scope X.env (firstIterPos [⟨tg, iter, ifs, 0⟩] pos) (newList []) false (eval iter X.env) (some (assign (.Name y py) X.env))) _ _ s
  have todo : tLc wi g (tt (outW W σ)) (te (outW W σ)) (own.map (·.2)) σ H (fun x H1 => gName i x σ H1 D.nx) := todo
  refine wpAny_bind (thn (lcE_core (Qf := fun _ t => SP X pins D .next t) hc hN tk hs hf hi ok hg ht he fold I todo fun L cenv t m H' I' q ns fp => ?_) fun _ t q => wpAny_pure (wpAny_pure q))
  show wpAny _ _ (assign (.Name y py) X.env (.ref L)) _ _ _
  refine wpAny_assign_Name (store_ok2 (v := V.ref L) I' hN hy (.inl hyl) rfl (fun t2 I2 ⟨b, sb, hb⟩ => ?_) (.inr hyl))
  obtain ⟨g0, g1, g2, g3, g4, g5⟩ := fp
  have apart : cenv.locals ≠ b := by
    rcases hb with z | z
    · rw [z]; exact g1
    · exact fun e => g4 y b z e.symm
  exact ⟨m, ns.sameBut sb apart, fun h3 sb3 => ⟨_, H', I2.turned (t' := t2.toks) (fun c o hc e => (sb3.2 c hc).trans e) g0 g1 g3 g4 g5, q⟩⟩
end
end J
namespace J
open PySem PySem.Spec PyProof.Rows L2 RZ
def lcX (t : TgF) (c : DT) (e : DE) (env : VEnv) : List FV → Ans (List FV)
  | [] => .ok []
  | x :: xs => match t x env with
    | some e1 => (c e1).bind fun b => if b then (e e1).bind fun r => match r with
        | .st (.fz y) => (lcX t c e env xs).bind fun ys => .ok (y :: ys)
        | _ => .no
      else lcX t c e env xs
    | none => .no
def dLcX (it : VEnv → Ans (List FV)) (t : TgF) (c : DT) (e : DE) (vs : List Nat) : DE := fun env => (it env).bind fun items => if items.length ≤ BIG then (lcX t c e (frzE (wipeE env vs)) items).bind fun ys =>
  if allFzE env || FV.pureL ys then .ok (.st (.ol ys)) else .no else .no
def Rest (done : List FV) (rest whole : Ans (List FV)) : Prop := match rest with
  | .ok r => whole = .ok (done ++ r)
  | .ex z => whole = .ex z
  | .no => False
theorem lcX_run {M : Str → Option Value} {G Z H1 : Hp} {σw : Sl} {envw : VEnv} {vs ws : List Nat} {t : TgF} {c : DT} {e : DE} {J : It} {kept : List (V × Rv)} {items : List FV} {res : Ans (List FV)} {D : Addr} {Qd : Hp → Prop} {U : WX}
    (hw : σw = wipe σw vs) (hwe : envw = wipeE envw vs) (hws : ∀ i ∈ ws, i ∈ vs) (hto : TgOk ws t) (wk : WalkJ M J (kept.map kfz) items) (hk : ∀ p ∈ kept, FDen M G p.2.fv p.1) (hlen : items.length ≤ BIG)
    (hl : Rest [] (lcX t c e envw items) res) (r : R M G Z (upd H1 D (.lst [])) σw envw [(.ref D, .st (.dl []))]) (hd : ∀ ys H, res = .ok ys → R M G Z H σw envw [(.ref D, .st (.dl (ys.map .fz)))] → Qd H)
    (hx : ∀ z C H σ' env' T, res = .ex z → M z = some (.ref C) → R M G Z H σ' env' T → U (.ref C) none σ' H) :
    ∃ W : Nat → Nat → Hp → Prop, (∃ m, W 0 m (upd H1 D (.lst []))) ∧ ∀ i m H, W i m H →
      (J.stop i H ∧ Qd H) ∨ (J.go i H ∧ ∃ Nx : Hp → Prop, (∀ H', Nx H' → ∃ m', m' < m ∧ W (i + 1) m' H') ∧ ∀ x H', J.yld i H x H' → gJ M ws t x σw H' fun σ2 H2 => wipe σ2 vs = σw ∧ tT M U c σ2 H2 fun b H3 =>
        if b = true then tE M U e σ2 H3 fun y H4 => ∃ acc, H4 D = some (.lst acc) ∧ acc.length < sizeLine ∧ Nx (upd H4 D (.lst (acc ++ [y]))) else Nx H3) := by
  refine ⟨fun i m H => i + m = items.length ∧ ∃ done : List FV, Rest done (lcX t c e envw (items.drop i)) res ∧ done.length ≤ i ∧ R M G Z H σw envw [(.ref D, .st (.dl (done.map .fz)))], ⟨items.length, by omega, [], by rw [List.drop_zero]; exact hl, Nat.le_refl _, r⟩, ?_⟩
  rintro i m H ⟨him, done, h1, hdl, ⟨F, C1, C2, r⟩⟩
  obtain ⟨w1, w2⟩ := wk.at r.fh (fun p hp => (hk p hp).mono r.gf) i
  by_cases hlt : i < items.length
  · obtain ⟨hgo, hy⟩ := w1 items[i] (List.getElem?_eq_getElem hlt)
    rw [List.drop_eq_getElem_cons hlt] at h1
    have h1' : Rest done (match t items[i] envw with
      | some e1 => (c e1).bind fun b => if b then (e e1).bind fun r => match r with
          | .st (.fz y) => (lcX t c e envw (items.drop (i + 1))).bind fun ys => .ok (y :: ys)
          | _ => .no
        else lcX t c e envw (items.drop (i + 1))
      | none => .no) res := h1
    refine .inr ⟨hgo, fun H' => ∃ done : List FV, Rest done (lcX t c e envw (items.drop (i + 1))) res ∧ done.length ≤ i + 1 ∧ R M G Z H' σw envw [(.ref D, .st (.dl (done.map .fz)))], fun H' q => ⟨m - 1, by omega, by omega, q⟩, fun x H' yl => ?_⟩
    refine ⟨G, Z, envw, _, items[i], r.new (hy x H' yl), ?_⟩
    cases et : t items[i] envw with
    | none => rw [et] at h1'; exact h1'.elim
    | some e1 =>
      rw [et] at h1'
      intro σ2 hon r2
      have hσ : wipe σ2 vs = σw := by rw [(hon.mono hws).wipe, ← hw]
      have hE : wipeE e1 vs = envw := by
        obtain ⟨hl1, hl2⟩ := hto _ _ _ et
        rw [wipeE_of hl1 fun j hj => hl2 j fun z => hj (hws j z), ← hwe]
      have back : ∀ {H : Hp} {T : List (V × Rv)}, R M G Z H σ2 e1 T → R M G Z H σw envw T := fun {H T} r => by
        have := r.wipeD vs
        rw [hσ, hE] at this
        exact this
      refine ⟨hσ, G, Z, e1, _, r2, ?_⟩
      cases ec : c e1 with
      | no => simp only [ec, Ans.bind] at h1'; exact h1'.elim
      | ex z =>
        simp only [ec, Ans.bind] at h1'
        exact fun C H3 hm s3 r3 => hx z C H3 _ _ _ h1' hm r3
      | ok b =>
        simp only [ec, Ans.bind] at h1'
        intro H3 s3 r3
        cases b with
        | false =>
          rw [if_neg Bool.false_ne_true] at h1' ⊢
          exact ⟨done, h1', by omega, back r3⟩
        | true =>
          rw [if_pos rfl] at h1' ⊢
          refine ⟨G, Z, e1, _, r3, ?_⟩
          cases ee : e e1 with
          | no => simp only [ee] at h1'; exact h1'.elim
          | ex z =>
            simp only [ee] at h1'
            exact fun C H4 hm s4 r4 => hx z C H4 _ _ _ h1' hm r4
          | ok rv =>
            rw [ee] at h1'
            simp only at h1'
            intro y H4 s4 r4
            split at h1'
            · rename_i o
              obtain ⟨acc, hD, hla, r5⟩ := r4.grow
              have e5 : done.map OV.fz ++ [OV.fz o] = (done ++ [o]).map .fz := by rw [List.map_append]; rfl
              rw [e5] at r5
              refine ⟨acc, hD, ?_, done ++ [o], ?_, by rw [List.length_append, List.length_singleton]; omega, back r5⟩
              · rw [hla, big_eq, List.length_map]
                omega
              · cases el : lcX t c e envw (items.drop (i + 1)) with
                | no => rw [el] at h1'; exact h1'.elim
                | ex z => rw [el] at h1'; exact h1'
                | ok zs =>
                  rw [el] at h1'
                  show res = .ok ((done ++ [o]) ++ zs)
                  rw [List.append_assoc]
                  exact h1'
            · exact h1'.elim
  · refine .inl ⟨w2 (by omega), ?_⟩
    rw [List.drop_of_length_le (by omega)] at h1
    have h1 : res = .ok (done ++ []) := h1
    rw [List.append_nil] at h1
    exact hd done H h1 r.r
section
variable {X : Cx} {W : WX} {pos spos py : Pos} {tg iter elt : Expr} {ifs : List Expr} {scope : Scope} {own : List (Str × Nat)} {it : VEnv → Ans (List FV)} {t : TgF} {fc : DT} {fe : DE} {ws : List Nat}
theorem R.newNon {M : Str → Option Value} {F0 H H' : Hp} {σ : Sl} {env : VEnv} {T : List (V × Rv)} (r : R M F0 H H' σ env T) : New M F0 H H' (.fz .non) .non := by
  obtain ⟨F, C1, C2, r⟩ := r
  refine ⟨F, [], r.gf, r.fg, r.fh, r.zh, ⟨rfl, rfl⟩, ⟨List.nodup_nil, fun q hq => (nomatch hq), fun q hq => (nomatch hq), fun q hq => (nomatch hq)⟩⟩
theorem lcX_post (hws : ∀ i ∈ ws, i ∈ own.map (·.2)) (hto : TgOk ws t) {σ : Sl} {H : Hp} {Q : VK} {G Z : Hp} {env : VEnv} {T : List (V × Rv)} (r : R X.mg G Z H σ env T)
    (p : Post X.mg W G Z σ env T Q H (dLcX it t fc fe (own.map (·.2)) env)) : tLc (tIC X.mg W it) (gJ X.mg ws t) (tT X.mg (outW W σ) fc) (tE X.mg (outW W σ) fe) (own.map (·.2)) σ H Q := by
  refine ⟨G, Z, env, T, r, ?_⟩
  unfold dLcX at p
  cases ei : it env with
  | no => rw [ei] at p; exact p.elim
  | ex c => rw [ei] at p; exact fun C H' m s r' => p C H' m s r'
  | ok items =>
    rw [ei] at p
    intro J H1 kept s1 ⟨F, C1, C2, r1⟩ wk hsbk D hD
    have p : Post X.mg W G Z σ env T Q H (if items.length ≤ BIG then (lcX t fc fe (frzE (wipeE env (own.map (·.2)))) items).bind fun ys => if allFzE env || FV.pureL ys then .ok (.st (.ol ys)) else .no else .no) := p
    by_cases hlen : items.length ≤ BIG
    · rw [if_pos hlen] at p
      have hwe : frzE (wipeE env (own.map (·.2))) = wipeE (frzE (wipeE env (own.map (·.2)))) (own.map (·.2)) := by
        rw [frz_wipe, wipeE_idem]
      have start : ∀ {K0 : Hp} (r0 : R X.mg K0 H1 H1 (wipe σ (own.map (·.2))) (frzE (wipeE env (own.map (·.2)))) []), R X.mg K0 H1 (upd H1 D (.lst [])) (wipe σ (own.map (·.2))) (frzE (wipeE env (own.map (·.2)))) [(.ref D, .st (.dl []))] := fun {K0} r0 => by
        obtain ⟨F0, D1, D2, r0⟩ := r0
        exact r0.new (New.cell r0.fh hD ⟨D, [], [], rfl, ⟨rfl, rfl⟩, rfl⟩)
      have fine : ∃ res, Rest [] (lcX t fc fe (frzE (wipeE env (own.map (·.2)))) items) res ∧ res = lcX t fc fe (frzE (wipeE env (own.map (·.2)))) items := by
        refine ⟨_, ?_, rfl⟩
        cases el : lcX t fc fe (frzE (wipeE env (own.map (·.2)))) items with
        | no => rw [el] at p; exact p.elim
        | ex z => rfl
        | ok ys => rfl
      obtain ⟨res, hl, er⟩ := fine
      rw [← er] at p
      -- what is reached, by what was frozen
      have okD : ∀ {K0 : Hp} (new : ∀ {H' : Hp} {o : OV} {v : V}, New X.mg K0 H1 H' o v → (allFzE env = true ∨ o.clean = true) → R X.mg G Z H' σ env ((v, .st o) :: T)) (ys : List FV) (H' : Hp), res = .ok ys → R X.mg K0 H1 H' (wipe σ (own.map (·.2))) (frzE (wipeE env (own.map (·.2)))) [(.ref D, .st (.dl (ys.map .fz)))] → Q (.ref D) H' := fun {K0} new ys H' e r' => by
        rw [e] at p
        simp only [Ans.bind] at p
        split at p
        · rename_i hc
          rw [Bool.or_eq_true] at hc
          have n := r'.newOf
          have n2 := new n (hc.imp id fun q => by
            show OV.cleanL (ys.map .fz) = true
            rw [cleanL_fz]
            exact q)
          exact p _ H' (s1.trans (let ⟨_, _, n⟩ := n; n.hh)) n2.dl_ol
        · exact p.elim
      have exD : ∀ {K0 : Hp} (new : ∀ {H' : Hp} {o : OV} {v : V}, New X.mg K0 H1 H' o v → (allFzE env = true ∨ o.clean = true) → R X.mg G Z H' σ env ((v, .st o) :: T)) (z : Str) (C : Addr) (H' : Hp) (σ' : Sl) (env' : VEnv) (T' : List (V × Rv)), res = .ex z → X.mg z = some (.ref C) → R X.mg K0 H1 H' σ' env' T' → outW W σ (.ref C) none σ' H' := fun {K0} new z C H' σ' env' T' e hm r' => by
        rw [e] at p
        have n := r'.newNon
        exact p C H' hm (s1.trans (let ⟨_, _, n⟩ := n; n.hh)) (new n (.inr rfl)).pop
      cases ha : allFzE env with
      | true =>
        obtain ⟨F2, C3, C4, r2, hkA⟩ := r1.iceK (fun p hp => by
          have := hsbk p hp
          revert this
          cases p.2 with
          | st o => exact fun _ => ⟨o, rfl⟩
          | bo o => intro h; rw [show sbR env (.bo o) = !allFzE env from rfl, ha] at h; cases h)
        have new : ∀ {H' : Hp} {o : OV} {v : V}, New X.mg F2 H1 H' o v → (allFzE env = true ∨ o.clean = true) → R X.mg G Z H' σ env ((v, .st o) :: T) := fun {H' o v} n _ => r2.new n
        exact lcX_run (U := outW W σ) (hw := (wipe_idem _ _).symm) (hwe := hwe) hws hto wk (G := F2) (Z := H1) hkA hlen hl (start (r2.blockF _ ha)) (okD new) (exD new)
      | false =>
        have new : ∀ {H' : Hp} {o : OV} {v : V}, New X.mg (mutG F H1) H1 H' o v → (allFzE env = true ∨ o.clean = true) → R X.mg G Z H' σ env ((v, .st o) :: T) := fun {H' o v} n h => by
          rcases h with h | h
          · rw [ha] at h; cases h
          · exact (r1.new (n.clean r1.fh h)).sb sb_app.both
        refine lcX_run (U := outW W σ) (hw := (wipe_idem _ _).symm) (hwe := hwe) hws hto wk (G := mutG F H1) (Z := H1) (fun p hp => ?_) hlen hl (start (r1.block _)) (okD new) (exD new)
        obtain ⟨A, d, c⟩ := r1.bor (List.mem_append_left T hp)
        exact d.mut r1.fh c
    · rw [if_neg hlen] at p
      exact p.elim
theorem js_setLcX (i : Nat) {y : Str} (hc : X.calm = true) (hN : X.N.Nodup) (tk : Takes X W) (hs : X.stack = X.env :: X.outer) (hf : X.env.frame = some X.env.locals) (hsw : swapsWith (.ListComp elt [⟨tg, iter, ifs, 0⟩] scope pos) (some (.Name y py)) spos.line X.env = pure true) (hi : JC X W tg iter it) (ok : BlkOk X.N X.env.scope scope own)
    (hg : ∀ (s : Shared) (H : Hp) (C : Addr) (cl : List (Str × Addr)) (fp : List Addr) (xe : Value → Shared → Prop), JG (blkX X s H scope (compEnvC scope cl C X.env) fp xe) tg ws t)
    (ht : ∀ (s : Shared) (H : Hp) (C : Addr) (cl : List (Str × Addr)) (fp : List Addr) (xe : Value → Shared → Prop) (U : WX), Takes (blkX X s H scope (compEnvC scope cl C X.env) fp xe) U → JTs (blkX X s H scope (compEnvC scope cl C X.env) fp xe) U ifs fc)
    (he : ∀ (s : Shared) (H : Hp) (C : Addr) (cl : List (Str × Addr)) (fp : List Addr) (xe : Value → Shared → Prop) (U : WX), Takes (blkX X s H scope (compEnvC scope cl C X.env) fp xe) U → JE (blkX X s H scope (compEnvC scope cl C X.env) fp xe) U elt fe)
    (hto : TgOk ws t) (hws : ∀ i ∈ ws, i ∈ own.map (·.2) := by decide) (hy : X.N[i]? = some y := by rfl) (hyl : X.env.scope.names.lookup y = some .local := by rfl) (fold : ∀ x, foldedSetIterable iter X.env x = pure x := by intro _; rfl) :
    JS X W (.Assign [.Name y py] (.ListComp elt [⟨tg, iter, ifs, 0⟩] scope pos) spos) (dSet i (dLcX it t fc fe (own.map (·.2)))) := by
  refine PS.imp (ps_setLcE (wi := tIC X.mg W it) (g := gJ X.mg ws t) (tt := fun U => tT X.mg U fc) (te := fun U => tE X.mg U fe) hc hN tk hs hf hy hyl hsw hi ok hg ht he fold) fun D σ H ⟨G, Z, env, T, hT, r, p⟩ => ?_
  have q : tE X.mg W (dLcX it t fc fe (own.map (·.2))) σ H fun x H1 => gName i x σ H1 D.nx := by
    refine tE.bindS r p fun rv v H1 _ s r1 p1 => ?_
    cases rv with
    | st o => exact p1 _ _ (r1.set i)
    | bo o => exact p1.elim
  obtain ⟨G, Z, env, T, r, p⟩ := q
  exact lcX_post hws hto r p
end
end J
set_option maxHeartbeats 4000000
namespace J
open PySem PySem.Spec PyProof.Rows L2
def rIsXT (K : PySem.W.Frag) : List V → Hp → VK → Prop := fun xs H Q => ∃ (a C tp : Addr) (cs : List V) (us : List Value) (b : Bool), xs = [.ref a, .ref tp] ∧ H a = some (ErrO C a) ∧ H tp = some (.tup cs) ∧ Paired ClsV cs us ∧ ExcC K C ∧ PySem.W.kitAny K (.ref C) us = some b ∧ Q (.bl b) H
theorem call_isXT {X : Cx} : CallR X (.builtin "isinstance") (rIsXT X.K) := by
  intro pins s σ H xs us Q I r ⟨a, C, tp, cs, ws, b, ex, ha, hT, pc, E, k, q⟩
  subst ex
  obtain ⟨u1, u2, eu, r1, r2⟩ := vals2 r
  subst eu
  cases (show u1 = Value.ref a from r1)
  cases (show u2 = Value.ref tp from r2)
  obtain ⟨⟨oe, vs, h1, ⟨h2, h3⟩, h4⟩, _⟩ := (show ObjOk X.prog X.w H s.heap a (ErrO C a) from I.hok a _ ha)
  obtain ⟨_, its, rv, o, t1, t2, n, t3⟩ := (show ObjOk X.prog X.w H s.heap tp (.tup cs) from I.hok tp _ hT)
  have eq := ClsV.all pc rv
  subst eq
  have J : PySem.W.InstAt s.heap a oe C none := by
    refine ⟨h1, h2, ?_, by rw [h3]; exact trivial⟩
    obtain ⟨oc, od, dt, sl⟩ := oe
    cases (show dt = .fields vs from h4)
    rfl
  obtain ⟨oc, od, dt, sl⟩ := o
  simp only at t2 t3
  subst t2 t3
  exact PySem.W.kia_tup (PySem.W.handS_kitx_exc E.hg E.hk E.hs E.hd E.ha E.hn E.ht E.hm) I.kIn J t1 k (fun z => nomatch z) fun tk => ⟨.bl b, H, I.tok tk, rfl, q⟩
def tCs : List V → TA
  | [] => tNil
  | c :: cs => tCons (tC c) (tCs cs)
theorem tCs_run : ∀ {cs : List V} {σ : Sl} {H : Hp} {Q : List V → Hp → Prop}, Q cs H → tCs cs σ H Q
  | [], _, _, _, h => h
  | c :: cs, σ, H, Q, h => tCs_run (cs := cs) (Q := fun xs H1 => Q (c :: xs) H1) h
theorem kit_any {K : PySem.W.Frag} {t : Value} : ∀ {us : List Value} {bs : List Bool}, Paired (fun u b => PySem.W.kitOne K t u = some b) us bs → PySem.W.kitAny K t us = some (bs.any id)
  | _, _, .nil => rfl
  | _, _, .cons h r => by
    refine kitAny_cons h (fun e => ?_) fun e => ?_
    · subst e
      exact (kit_any r).trans rfl
    · subst e
      rfl
def NamesJ (X : Cx) (names : List Str) (ns : List Expr) : Prop := ∀ Ds : List Addr, Paired (fun n D => X.mg n = some (.ref D)) names Ds → PA X ns (tCs (Ds.map V.ref))
section
variable {X : Cx} {W : WX} {e : Expr} {f : DE} {p p2 pos : Pos} {x : Str} {tab : List (Str × Bool)} {names : List Str} {ns : List Expr}
theorem nj_nil : NamesJ X [] [] := fun Ds h => by
  cases h
  exact pa_nil
theorem nj_cons (h : NamesJ X names ns) (hg : Gl X x := by rfl) (hdb : (x == ("__debug__" : Str)) = false := by decide) (hs : starEach (.Name x p2 :: ns) X.env = (false, eval (.Name x p2) X.env) :: starEach ns X.env := by rfl) : NamesJ X (x :: names) (.Name x p2 :: ns) := fun Ds hd => by
  cases hd with
  | cons m r => exact pa_cons (pe_glob hg m rfl hdb) (h _ r) hs
theorem cls_own : ∀ Ds : List Addr, Paired ClsV (Ds.map V.ref) (Ds.map Value.ref)
  | [] => .nil
  | D :: Ds => .cons (.own D) (cls_own Ds)
theorem addrs_of {K : PySem.W.Frag} {mg : Str → Option Value} : ∀ {names : List Str}, (∀ n ∈ names, ErrC K mg n) → ∃ Ds : List Addr, Paired (fun n D => mg n = some (.ref D)) names Ds ∧ ∀ D ∈ Ds, ErrAt K D
  | [], _ => ⟨[], .nil, fun _ h => (nomatch h)⟩
  | n :: names, h => by
    obtain ⟨D, m, E⟩ := h n List.mem_cons_self
    obtain ⟨Ds, r, k⟩ := addrs_of fun q hq => h q (List.mem_cons_of_mem _ hq)
    exact ⟨D :: Ds, .cons m r, fun D' hd => (List.mem_cons.mp hd).elim (fun z => z ▸ E) (k D')⟩
theorem pair_kit {K : PySem.W.Frag} {mg : Str → Option Value} {c : Str} {C : Addr} (m : mg c = some (.ref C)) : ∀ {names : List Str} {Ds : List Addr} {bs : List Bool}, Paired (fun n D => mg n = some (.ref D)) names Ds → (∀ D ∈ Ds, ErrAt K D) → Paired (fun n b => ErrP K mg c n b) names bs → Paired (fun u b => PySem.W.kitOne K (.ref C) u = some b) (Ds.map Value.ref) bs
  | _, _, _, .nil, _, .nil => .nil
  | _, _, _, .cons md r, k, .cons pb q => .cons ((k _ List.mem_cons_self).kit (pb C _ m md)) (pair_kit m r (fun D hd => k D (List.mem_cons_of_mem _ hd)) q)
theorem none_kit {K : PySem.W.Frag} : ∀ {Ds : List Addr}, (∀ D ∈ Ds, ErrAt K D) → PySem.W.kitAny K (.type "NoneType") (Ds.map Value.ref) = some false
  | [], _ => rfl
  | D :: Ds, k => kitAny_cons ((k D List.mem_cons_self).kit (k D List.mem_cons_self).sn) (fun _ => none_kit fun E hE => k E (List.mem_cons_of_mem _ hE)) fun z => nomatch z
theorem je_isET (tab : List (Str × Bool)) {n : Nat} {pt : Pos} (he : JE X W e f) (EK : ErrK X.K) (hE : ∀ q ∈ names, ErrC X.K X.mg q) (hn : NamesJ X names ns) (ht : ∀ q ∈ tab, ErrC X.K X.mg q.1 ∧ ∃ bs : List Bool, Paired (fun n b => ErrP X.K X.mg q.1 n b) names bs ∧ bs.any id = q.2) (hm : X.mg "isinstance" = none) (hg : Gl X "isinstance" := by rfl)
    (hs : starEach [e, .Tuple ns n pt] X.env = (false, eval e X.env) :: starEach [.Tuple ns n pt] X.env := by rfl) (hs2 : starEach [.Tuple ns n pt] X.env = (false, eval (.Tuple ns n pt) X.env) :: starEach [] X.env := by rfl) (hpl : (backTo pos (starEach [.Tuple ns n pt] X.env)).any (·.1) = false := by rfl) (hbi : bootBuiltins "isinstance" = some (.builtin "isinstance") := by rfl) (hsz : names.length ≤ sizeLine := by rw [sizeLine_eq]; decide) :
    JE X W (.Call (.Name "isinstance" p) [e, .Tuple ns n pt] [] pos) (dUn (opIsE tab) f) := by
  obtain ⟨Ds, md, kd⟩ := addrs_of hE
  have hl : Ds.length = names.length := md.length.symm
  refine PE.imp (pe_callB ((call_isiT (X := X)).or call_isXT) hg hm hbi (pa_cons he (pa_cons (pe_tup (hn Ds md)) pa_nil hs2) hs) (by decide) (by decide) hs hpl) fun σ H Q ⟨G, Z, env, T2, r, q⟩ => ?_
  refine tE.bind r Sb.refl q fun y w H1 _ s1 ⟨F, C1, C2, r1⟩ p1 => ?_
  show tTup (tCs (Ds.map V.ref)) σ H1 _
  refine tCs_run ⟨by rw [List.length_map, hl]; exact hsz, fun tp hq => ?_⟩
  obtain ⟨o, eo, kk⟩ := r1.fin Sb.refl.cons p1
  have b : Bor X.mg F H1 y.ov w := r1.bor List.mem_cons_self
  have new : ∀ bb : Bool, New X.mg F H1 (upd H1 tp (.tup (Ds.map V.ref))) (.fz (.bl bb)) (.bl bb) := fun bb => ⟨F, [], Same.refl _, fun _ _ z => .inl z, r1.fh.trans (same_upd hq), same_upd hq, ⟨rfl, rfl⟩, ⟨List.nodup_nil, fun q hq => (nomatch hq), fun q hq => (nomatch hq), fun q hq => (nomatch hq)⟩⟩
  unfold opIsE at eo
  split at eo
  · rename_i ey
    cases eo
    rw [ey] at b
    have ew : w = .non := b.fz
    exact .inl ⟨w, tp, _, .type "NoneType", _, false, rfl, upd_same, cls_own Ds, by rw [ew]; exact .base .non, none_kit kd, kk _ _ (new false)⟩
  · rename_i cn ey
    obtain ⟨bb, eb, rfl⟩ := Option.map_eq_some_iff.mp eo
    rw [ey] at b
    obtain ⟨a, C, ew, m, ha⟩ := b.fz
    obtain ⟨⟨C', m', E'⟩, bs, pb, eb2⟩ := ht _ (lookup_mem eb)
    have eC : C' = C := by
      have := m'.symm.trans m
      cases this
      rfl
    subst eC
    have hk := kit_any (pair_kit m md kd pb)
    rw [eb2] at hk
    exact .inr ⟨a, C', tp, _, _, bb, by rw [ew], (same_upd hq) _ _ (r1.fh _ _ ha), upd_same, cls_own Ds, E'.exc EK, hk, kk _ _ (new bb)⟩
  · cases eo
end
def dTryA (L : List Str) (f : DE) (k i j : Nat) : DS := fun env => match env[i]? with
  | some none => match f env with
    | .ok (.st o) => .ok (.nx (env.set k (some o)))
    | .ex c => if L.contains c then .ok (.nx (env.set j (some (.fz (.exc c))))) else .no
    | _ => .no
  | _ => .no
section
variable {X : Cx} {W : WX} {x n y z : Str} {i j k : Nat} {e : Expr} {f : DE} {np p1 p2 p3 pz pos pos' pe : Pos} {L : List Str}
theorem js_tryA (k i j : Nat) (L : List Str) (hx : X.ex = []) (hs : X.stack = X.env :: X.outer) (hf : X.env.frame = some X.env.locals) (hN : X.N.Nodup) (E : ErrC X.K X.mg x) (hL : ∀ c ∈ L, ErrP X.K X.mg c x true)
    (he : ∀ (W : WX) (pn : List (Addr × Obj)) (xe : Value → Shared → Prop), Takes (X.tr pn xe) W → JE (X.tr pn xe) W e f)
    (hi : X.N[i]? = some n := by rfl) (hln : X.env.kindOf n = some .local := by rfl) (hj : X.N[j]? = some y := by rfl) (hly : X.env.kindOf y = some .local := by rfl) (hij : i ≠ j := by decide) (hg : Gl X x := by rfl) (hdb : (x == ("__debug__" : Str)) = false := by decide)
    (hsw : ∀ a pn, swapsWith (.Name n p2) (some (.Name y p1)) p3.line (X.suite a pn).env = pure false := by exact fun _ _ => rfl)
    (hk : X.N[k]? = some z := by rfl) (hz : Loc X.env.scope z := by first | exact .inl rfl | exact .inr rfl) (hse : swapsWith e (some (.Name z pz)) pe.line X.env = pure false := by rfl) (hfn : X.fn z = true ∨ X.env.scope.names.lookup z = some .local := by first | exact .inl rfl | exact .inr rfl)
    (dn : (n == ("__debug__" : Str)) = false := by decide) (cn : (n == ("__classdict__" : Str)) = false := by decide) :
    JS X W (.Try [.Assign [.Name z pz] e pe] [.ExceptHandler (some (.Name x np)) (some n) [.Assign [.Name y p1] (.Name n p2) p3] pos'] [] [] pos) (dTryA L f k i j) := by
  obtain ⟨CE, gE, E⟩ := E
  refine PS.imp (ps_try_told hx hs hf hN hi hln hj hly ⟨hg, hdb, .inl gE⟩ hsw dn cn (tb := fun W => tAsg (tE X.mg W f) (gName k)) fun W pn xe tk => pss_one (ps_set (X := X.tr pn xe) hN hk hz (he W pn xe tk) hse hfn)) fun D σ H ⟨G, Z, env, T, hT, r, p⟩ => ?_
  unfold dTryA at p
  show ∃ G Z env T, R X.mg G Z H σ env T ∧ _
  cases hn : env[i]? with
  | none => rw [hn] at p; exact p.elim
  | some o =>
    cases o with
    | some o => rw [hn] at p; exact p.elim
    | none =>
      rw [hn] at p
      simp only at p
      refine ⟨G, Z, env, T, r, ?_⟩
      cases hv : f env with
      | no => rw [hv] at p; exact p.elim
      | ok rv =>
        rw [hv] at p
        cases rv with
        | bo o => exact p.elim
        | st o => exact fun v H' s r' => p _ H' (r'.set k)
      | ex c =>
        rw [hv] at p
        simp only at p
        intro C H' m s r'
        by_cases hc : L.contains c = true
        · rw [if_pos hc] at p
          have sub := hL c (List.contains_iff_mem.mp hc) C CE m gE
          refine ⟨rfl, C, rfl, PySem.W.exm_ref E.sb E.hd E.ty sub, fun a na => p _ _ ?_⟩
          rw [set_over hij]
          obtain ⟨F, A, B, q⟩ := r'
          have new : New X.mg F H' (upd H' a (ErrO C a)) (.fz (.exc c)) (V.ref a) := New.ice q.fh na ⟨a, C, rfl, m, upd_same⟩
          refine ((q.new new).set j).put ?_
          rw [List.getElem?_set_ne (Ne.symm hij)]
          exact hn
        · rw [if_neg hc] at p
          exact p.elim
end
end J
set_option maxHeartbeats 4000000
namespace J
open PySem PySem.Spec PyProof.Rows L2
def opSplit : OV → List OV → Option OV
  | .fz (.str a), [.fz (.str b)] => if b.length ≠ 0 ∧ a.length + 2 ≤ BIG then some (.ol ((Txt.split a b).map .str)) else none
  | _, _ => none
theorem mj_split {X : Cx} : MtR X "str.split" (rM X.mg opSplit) := by
  rintro pins s σ H x xs v us Q I rx rs ⟨F, o, os, res, hf, bx, ps, e, k⟩
  unfold opSplit at e
  split at e
  · split at e
    · rename_i hz
      cases e
      obtain ⟨u, rfl, b⟩ := paired1 ps
      exact mt_split pins s σ H x _ v us Q I rx rs ⟨_, _, bx.str, by rw [b.str], by simpa using hz.1, by rw [big_eq]; exact hz.2, fun p hp => k _ _ (New.lst hf hp (FDenL_strs _))⟩
    · cases e
  · cases e
def opLcount : OV → List OV → Option OV
  | x, [.fz (.str b)] => x.lst?.bind fun xs => (strs? xs).map fun ys => .fz (.int (ys.count b : Nat))
  | _, _ => none
theorem str_count {k : Str} : ∀ {us : List Value} {ys : List Str}, StrsAre us ys → us.countP (isStrOf k) = ys.count k
  | _, _, .nil => rfl
  | _, _, .cons n t h => by
    have ih := str_count (k := k) h
    rw [List.countP_cons, List.count_cons, ih]
    rfl
theorem mt_lcountS {X : Cx} : MtR X "list.count" (fun x xs H Q => ∃ (p : Addr) (ys : List Str) (k : Str), x = .ref p ∧ xs = [.str k] ∧ SqL X.K H p (ys.map V.str) ∧ Q (.int (ys.count k : Nat)) H) := by
  intro pins s σ H x xs v us Q I rx rxs h
  obtain ⟨p, ys, k, rfl, rfl, hs, q⟩ := h
  cases rx
  obtain ⟨u, rfl, ru⟩ := rxs.one
  obtain ⟨t, rfl⟩ := ru
  obtain ⟨its, rv, ⟨⟨cls, dd, data, sl⟩, n, ho, hc, hdn, hd⟩, hlen⟩ := I.list hs
  simp only at hc hd
  subst hc hd
  have hi := strs_of_vals rv
  refine call_meets PySem.F.slot_list_count ⟨_, ho, rfl⟩ PySem.F.entry_list_count (PySem.F.args_list_count_2 _ _)
    (SeqAt.list_countAt p its.toArray n dd sl (.str k t) (isStrOf k)) ⟨ho, fun y hy => (eq_isStrOf k t hi y (by simpa using hy)).at _ _, ?_⟩
  refine ⟨.int (ys.count k : Nat), H, I.tok _, ⟨s.toks, ?_⟩, q⟩
  show Value.int ((its.toArray.toList.countP (isStrOf k) : Nat) : Int) s.toks = Value.int ((ys.count k : Nat) : Int) s.toks
  rw [show its.toArray.toList = its from rfl, str_count hi]
theorem mj_lcount {X : Cx} : MtR X "list.count" (rM X.mg opLcount) := by
  rintro pins s σ H x xs v us Q I rx rs ⟨F, o, os, res, hf, bx, ps, e, k⟩
  unfold opLcount at e
  split at e
  · obtain ⟨zs, e1, e⟩ := Option.bind_eq_some_iff.mp e
    obtain ⟨ys, e2, e⟩ := Option.map_eq_some_iff.mp e
    subst e
    obtain ⟨u, rfl, b⟩ := paired1 ps
    obtain ⟨p, vs, rfl, hq, d⟩ := bx.lst hf e1
    exact mt_lcountS pins s σ H _ _ v us Q I rx rs ⟨p, ys, _, rfl, by rw [b.str], by rw [← d.strs? e2]; exact SqL.of hq, k _ _ (New.int hf)⟩
  · cases e
section
variable {X : Cx} {W : WX} {pos : Pos} {x : Str}
theorem je_gintE {i : Int} (h : ∃ t, X.mg x = some (.int i t)) (hg : Gl X x := by rfl) (hd : (x == ("__debug__" : Str)) = false := by decide) : JE X W (.Name x pos) (dC (.int i)) := let ⟨_, h⟩ := h; je_gint h hg hd
theorem je_gstrE {i : Str} (h : ∃ t, X.mg x = some (.str i t)) (hg : Gl X x := by rfl) (hd : (x == ("__debug__" : Str)) = false := by decide) : JE X W (.Name x pos) (dC (.str i)) := let ⟨_, h⟩ := h; je_gstr h hg hd
end
end J
set_option maxHeartbeats 4000000
namespace J
open PySem PySem.Spec PyProof.Rows L2
def lawIt (cells : List Int) : VEnv → Ans (List FV) := fun _ => .ok (cells.map .int)
section
variable {X : Cx} {W : WX} {pos : Pos} {rest : List Stmt} {frest : DS} {N : List Str} {tg iter : Expr} {body : List Stmt} {t : TgF} {fb : DS} {vs : List Nat}
theorem law_bodyF (hN : X.N = N) (h2 : 1 ≤ N.length) (hp : PassesOwn (model X.prog X.w) X.A X.env X.xe) (hc : X.calm = true) {te : TE} (he : PE X iter te) (hg : JG X tg vs t) (hb : JSs X W body fb) (hr : JSs X W rest frest) {cells : List Int}
    (hrt : ∃ env, dSeq (dFor (lawIt cells) t fb) frest (List.replicate N.length none) = .ok (.rt (.fz (.bl true)) env)) {H : Hp} {a : Addr} {Q : VK} (hQ : ∀ H', Q (.bl true) H')
    (hte : ∀ (Q : VK), (∀ p H1, Same H H1 → H p = none → H1 p = some (.lst (cells.map V.int)) → Q (.ref p) H1) → te (L2.start N [.ref a]) H Q) (hs : ∀ x, foldedSetIterable iter X.env x = pure x := by intro _; rfl) :
    ∃ t, PSs X (.For tg iter body [] pos :: rest) t ∧ t { nx := fun _ H' => Q .non H', rt := Q } (L2.start N [.ref a]) H := by
  refine ⟨_, pss_cons (ps_for hp hc (pi_list he) hg hb hs) hr, ?_⟩
  obtain ⟨env', er⟩ := hrt
  have ppp : PostS X.mg W (fun _ => none) H [] { nx := fun _ H' => Q .non H', rt := Q } (dSeq (dFor (lawIt cells) t fb) frest (List.replicate N.length none)) := by
    rw [er]
    intro v σ' H' ⟨F, C1, C2, r⟩
    have hb : Bor X.mg F H' (.fz (.bl true)) v := r.bor (p := (v, .st (.fz (.bl true)))) List.mem_cons_self
    have hv : v = .bl true := hb.fden r.fh
    rw [hv]
    exact hQ H'
  have pp := PostS.seq (f := dFor (lawIt cells) t fb) ppp allst0
  refine hte _ fun p H1 hs1 hp1 h1 => ?_
  refine ⟨p, rfl, ⟨_, SqL.of h1⟩, ?_⟩
  have wk : WalkJ X.mg (Itl X.K p) [(V.ref p, Rv.st (.ol (cells.map .int)))] (cells.map .int) := walk_list rfl
  generalize hD : ({ nx := sJ X.mg W frest { nx := fun _ H' => Q .non H', rt := Q }, rt := Q } : Ends) = D at pp
  have hk : AllSt [(V.ref p, Rv.st (.ol (cells.map .int)))] := allst1
  have el : List.replicate N.length none = (List.replicate (L2.start N [.ref a]).length none : VEnv) := by
    unfold L2.start
    congr 1
    obtain ⟨m, hm⟩ : ∃ m, N.length = m + 1 := ⟨N.length - 1, by omega⟩
    simp [hm]
  have r1 : R X.mg (fun _ => none) H H1 (L2.start N [.ref a]) (List.replicate N.length none) ([(V.ref p, Rv.st (.ol (cells.map .int)))] ++ []) := by
    rw [el]
    refine ⟨fun _ => none, [], [(p, .lst (cells.map V.int))] ++ [], Same.refl _, (fun _ _ e => nomatch (show (none : Option HO) = some _ from e)), (fun _ _ e => nomatch (show (none : Option HO) = some _ from e)), hs1, env_none _, .st ⟨p, _, rfl, FDenL_ints cells, rfl⟩ .nil, ?_⟩
    refine ⟨by simp, fun q hq => ?_, fun q hq => rfl, fun q hq => ?_⟩
    · rw [List.append_nil, List.nil_append, List.mem_singleton] at hq; subst hq; exact h1
    · rw [List.append_nil, List.nil_append, List.mem_singleton] at hq; subst hq; exact hp1
  have hp : PostS X.mg W (fun _ => none) H [] D (forL t fb (cells.map .int) (List.replicate N.length none)) := pp
  generalize hKK : [(V.ref p, Rv.st (.ol (cells.map .int)))] = kept at wk r1 hk
  generalize hI : cells.map FV.int = items at wk hp
  have hT : AllSt ([] : List (V × Rv)) := allst0
  generalize (fun _ => none : Hp) = G at *
  generalize H = Z at r1 hp
  refine ⟨fun i m σ H => i + m = items.length ∧ ∃ env, R X.mg G Z H σ env (kept ++ []) ∧ PostS X.mg W G Z [] D (forL t fb (items.drop i) env), ⟨items.length, by omega, _, r1, by rw [List.drop_zero]; exact hp⟩, ?_⟩
  rintro i m σ H ⟨him, env, ⟨F, C1, C2, r⟩, hpost⟩
  obtain ⟨w1, w2⟩ := wk F H i r.fh r.kept
  by_cases hlt : i < items.length
  · obtain ⟨hgo, hy⟩ := w1 items[i] (List.getElem?_eq_getElem hlt)
    rw [List.drop_eq_getElem_cons hlt] at hpost
    have hpost : PostS X.mg W G Z [] D (match t items[i] env with
      | some e1 => (fb e1).bind (loopK (forL t fb (items.drop (i + 1))))
      | none => .no) := hpost
    refine .inr ⟨hgo, fun σ' H' => ∃ env', R X.mg G Z H' σ' env' (kept ++ []) ∧ PostS X.mg W G Z [] D (forL t fb (items.drop (i + 1)) env'), fun σ' H' ⟨env', r', p'⟩ => ⟨m - 1, by omega, by omega, env', r', p'⟩, fun v H' yl => ?_⟩
    refine ⟨G, Z, env, kept ++ [], items[i], r.new (hy v H' yl), ?_⟩
    cases et : t items[i] env with
    | none => rw [et] at hpost; exact hpost.elim
    | some e1 =>
      rw [et] at hpost
      intro σ' _ r2
      have hpost : PostS X.mg W G Z [] D ((fb e1).bind (loopK (forL t fb (items.drop (i + 1))))) := hpost
      refine ⟨G, Z, e1, kept ++ [], hk.app hT, r2, ?_⟩
      cases eb : fb e1 with
      | no => rw [eb] at hpost; exact hpost.elim
      | ex c => rw [eb] at hpost; exact hpost
      | ok s =>
        rw [eb] at hpost
        cases s with
        | nx e => exact fun σ3 H3 r3 => ⟨e, r3, hpost⟩
        | ct e => exact fun σ3 H3 r3 => ⟨e, r3, hpost⟩
        | bk e => exact fun σ3 H3 r3 => hpost σ3 H3 (r3.sb sb_app)
        | rt o e => exact fun v σ3 H3 r3 => hpost v σ3 H3 (r3.sb sb_app.both)
  · refine .inl ⟨w2 (by omega), ?_⟩
    rw [List.drop_of_length_le (by omega)] at hpost
    exact hpost σ H (r.r.sb sb_app)
end
end J
namespace J
open PySem PySem.Spec PyProof.Rows L2
def s1 (c : Nat) : FV := .str ⟨#[c]⟩
mutual
def FV.pl : FV → Bool
  | .non => true
  | .int _ => true
  | .str x => PyData.strOk x
  | .tup xs => FV.plL xs
  | .lst xs => FV.plL xs
  | _ => false
def FV.plL : List FV → Bool
  | [] => true
  | x :: xs => x.pl && FV.plL xs
def FV.dep : FV → Nat
  | .tup xs => FV.depL xs + 1
  | .lst xs => FV.depL xs + 1
  | _ => 0
def FV.depL : List FV → Nat
  | [] => 0
  | x :: xs => max x.dep (FV.depL xs)
end
mutual
theorem FV.pl_toD : ∀ {x : FV}, x.pl = true → ∃ d, x.toD = some d ∧ d.canLay0 = true ∧ d.depth = x.dep
  | .non, _ => ⟨.none, rfl, rfl, rfl⟩
  | .int i, _ => ⟨.int i, rfl, rfl, rfl⟩
  | .str x, h => ⟨.str x, rfl, by rw [PyData.canLay0]; rw [FV.pl] at h; exact h, rfl⟩
  | .tup xs, h => by
    obtain ⟨ds, e, h1, h2⟩ := FV.plL_toD (xs := xs) h
    exact ⟨.tuple ds, by rw [FV.toD, e]; rfl, by simpa [PyData.canLay0] using h1, by rw [PyData.depth, h2]; rfl⟩
  | .lst xs, h => by
    obtain ⟨ds, e, h1, h2⟩ := FV.plL_toD (xs := xs) h
    exact ⟨.list ds, by rw [FV.toD, e]; rfl, by simpa [PyData.canLay0] using h1, by rw [PyData.depth, h2]; rfl⟩
theorem FV.plL_toD : ∀ {xs : List FV}, FV.plL xs = true → ∃ ds, FV.toDL xs = some ds ∧ PyData.canLayAll0 ds = true ∧ PyData.depthAll ds = FV.depL xs
  | [], _ => ⟨[], rfl, rfl, rfl⟩
  | x :: xs, h => by
    rw [FV.plL, Bool.and_eq_true] at h
    obtain ⟨d, e, h1, h2⟩ := FV.pl_toD h.1
    obtain ⟨ds, e3, h3, h4⟩ := FV.plL_toD h.2
    exact ⟨d :: ds, by rw [FV.toDL, e, e3], by rw [PyData.canLayAll0, h1, h3]; rfl, by rw [PyData.depthAll, h2, h4]; rfl⟩
end
mutual
theorem FV.pl_eqv : ∀ {x y : FV} {d e : PyData}, x.pl = true → y.pl = true → x.toD = some d → y.toD = some e → (PyData.eqv d e = true ↔ x = y)
  | .non, y, d, e, _, hy, hd, he => by
    cases y <;> simp [FV.pl] at hy <;> simp [FV.toD] at hd he <;> (try obtain ⟨_, _, he⟩ := he) <;> subst hd <;> (try subst he) <;> simp [PyData.eqv]
  | .int i, y, d, e, _, hy, hd, he => by
    cases y <;> simp [FV.pl] at hy <;> simp [FV.toD] at hd he <;> (try obtain ⟨_, _, he⟩ := he) <;> subst hd <;> (try subst he) <;> simp [PyData.eqv]
  | .str i, y, d, e, _, hy, hd, he => by
    cases y <;> simp [FV.pl] at hy <;> simp [FV.toD] at hd he <;> (try obtain ⟨_, _, he⟩ := he) <;> subst hd <;> (try subst he) <;> simp [PyData.eqv]
  | .tup xs, y, d, e, hx, hy, hd, he => by
    obtain ⟨ds, e1, rfl⟩ := Option.map_eq_some_iff.mp (show (FV.toDL xs).map PyData.tuple = some d from hd)
    cases y with
    | tup ys =>
      obtain ⟨es, e2, rfl⟩ := Option.map_eq_some_iff.mp (show (FV.toDL ys).map PyData.tuple = some e from he)
      rw [PyData.eqv, FV.plL_eqv (xs := xs) (ys := ys) hx hy e1 e2]
      simp
    | _ => simp [FV.pl] at hy <;> simp [FV.toD] at he <;> (try obtain ⟨_, _, he⟩ := he) <;> (try subst he) <;> simp [PyData.eqv]
  | .lst xs, y, d, e, hx, hy, hd, he => by
    obtain ⟨ds, e1, rfl⟩ := Option.map_eq_some_iff.mp (show (FV.toDL xs).map PyData.list = some d from hd)
    cases y with
    | lst ys =>
      obtain ⟨es, e2, rfl⟩ := Option.map_eq_some_iff.mp (show (FV.toDL ys).map PyData.list = some e from he)
      rw [PyData.eqv, FV.plL_eqv (xs := xs) (ys := ys) hx hy e1 e2]
      simp
    | _ => simp [FV.pl] at hy <;> simp [FV.toD] at he <;> (try obtain ⟨_, _, he⟩ := he) <;> (try subst he) <;> simp [PyData.eqv]
theorem FV.plL_eqv : ∀ {xs ys : List FV} {ds es : List PyData}, FV.plL xs = true → FV.plL ys = true → FV.toDL xs = some ds → FV.toDL ys = some es → (PyData.eqvAll ds es = true ↔ xs = ys)
  | [], [], _, _, _, _, h1, h2 => by cases h1; cases h2; simp [PyData.eqvAll]
  | [], y :: ys, _, es, _, hy, h1, h2 => by
    cases h1
    rw [FV.plL, Bool.and_eq_true] at hy
    obtain ⟨d, e, _⟩ := FV.pl_toD hy.1
    obtain ⟨ds, e3, _⟩ := FV.plL_toD hy.2
    rw [FV.toDL, e, e3] at h2
    cases h2
    simp [PyData.eqvAll]
  | x :: xs, [], _, es, hy, _, h2, h1 => by
    cases h1
    rw [FV.plL, Bool.and_eq_true] at hy
    obtain ⟨d, e, _⟩ := FV.pl_toD hy.1
    obtain ⟨ds, e3, _⟩ := FV.plL_toD hy.2
    rw [FV.toDL, e, e3] at h2
    cases h2
    simp [PyData.eqvAll]
  | x :: xs, y :: ys, _, _, hx, hy, h1, h2 => by
    rw [FV.plL, Bool.and_eq_true] at hx hy
    obtain ⟨d, e, _⟩ := FV.pl_toD hx.1
    obtain ⟨ds, e3, _⟩ := FV.plL_toD hx.2
    rw [FV.toDL, e, e3] at h1
    cases h1
    obtain ⟨d', e', _⟩ := FV.pl_toD hy.1
    obtain ⟨ds', e3', _⟩ := FV.plL_toD hy.2
    rw [FV.toDL, e', e3'] at h2
    cases h2
    rw [PyData.eqvAll, Bool.and_eq_true, FV.pl_eqv hx.1 hy.1 e e', FV.plL_eqv hx.2 hy.2 e3 e3']
    simp
end
open Classical in
section
variable {α β : Type} {a : α} {c : Str} {f : α → Ans β} {env e : VEnv} {x y : FV} {o : OV}
theorem bind_ok : (Ans.ok a).bind f = f a := rfl
theorem so_nx {g : VEnv → Ans SO} : SO.bind (.ok (.nx e)) g = g e := rfl
theorem so_rt {g : VEnv → Ans SO} : SO.bind (.ok (.rt o e)) g = .ok (.rt o e) := rfl
theorem ev_seq {f g : DS} : dSeq f g env = SO.bind (f env) g := rfl
theorem ev_set {f : DE} {i : Nat} (h : f env = .ok (.st o)) : dSet i f env = .ok (.nx (env.set i (some o))) := by unfold dSet; rw [h]; rfl
theorem ev_ret {f : DE} (h : f env = .ok (.st o)) : dRet f env = .ok (.rt o env) := by unfold dRet; rw [h]; rfl
theorem ev_retV {i : Nat} (h : env[i]? = some (some o)) : dRetV i env = .ok (.rt o (env.set i none)) := by unfold dRetV; rw [h]
theorem ev_ice {i : Nat} {f : DS} (h : env[i]? = some (some o)) : dIce i f env = f (env.set i (some (.fz o.fv))) := by unfold dIce; rw [h]
theorem ev_ifT {d : DT} {f g : DS} (h : d env = .ok true) : dIf d f g env = f env := by unfold dIf; rw [h]; rfl
theorem ev_ifF {d : DT} {f g : DS} (h : d env = .ok false) : dIf d f g env = g env := by unfold dIf; rw [h]; rfl
theorem ev_test {f : DE} {b : Bool} (h : f env = .ok (.st (.fz (.bl b)))) : dTest f env = .ok b := by unfold dTest; rw [h]; rfl
theorem ev_notT {f : DT} {b : Bool} (h : f env = .ok b) : dNotT f env = .ok !b := by unfold dNotT; rw [h]; rfl
theorem ev_c : dC x env = .ok (.st (.fz x)) := rfl
theorem ev_varF {i : Nat} (h : env[i]? = some (some (.fz x))) : dVar i env = .ok (.st (.fz x)) := by unfold dVar; rw [h]
theorem ev_bin {op : OV → OV → Option OV} {f g : DE} {r q : Rv} (h : f env = .ok r) (h2 : g env = .ok q) (h3 : op r.ov q.ov = some o) : dBin op f g env = .ok (.st o) := by unfold dBin; rw [h, bind_ok, h2, bind_ok, h3]; rfl
theorem ev_un {op : OV → Option OV} {f : DE} {r : Rv} (h : f env = .ok r) (h3 : op r.ov = some o) : dUn op f env = .ok (.st o) := by unfold dUn; rw [h, bind_ok, h3]; rfl
theorem ev_nil : dNil env = .ok [] := rfl
theorem ev_cons {f : DE} {g : VEnv → Ans (List Rv)} {r : Rv} {rs : List Rv} (h : f env = .ok r) (h2 : g env = .ok rs) : dCons f g env = .ok (r :: rs) := by unfold dCons; rw [h, bind_ok, h2]; rfl
theorem ev_frz {f : DE} (h : f env = .ok (.st o)) : dFrz f env = .ok (.st (.fz o.fv)) := by unfold dFrz; rw [h]; rfl
theorem ev_call {m : FM} {g : VEnv → Ans (List Rv)} {rs : List Rv} (h : g env = .ok rs) (h2 : m (rs.map Rv.fv) = .ok o) (h3 : rs.all Rv.isFz = true ∨ o.clean = true) : dCall m g env = .ok (.st o) := by
  unfold dCall
  rw [h, bind_ok, h2, bind_ok, if_pos]
  rw [Bool.or_eq_true]
  exact h3
theorem ev_callB {op : List OV → Option OV} {g : VEnv → Ans (List Rv)} {rs : List Rv} (h : g env = .ok rs) (h2 : op (rs.map Rv.ov) = some o) : dCallB op g env = .ok (.st o) := by unfold dCallB; rw [h, bind_ok, h2]; rfl
theorem ev_meth {ok : OV → Bool} {op : OV → List OV → Option OV} {f : DE} {g : VEnv → Ans (List Rv)} {r : Rv} {rs : List Rv} (h : f env = .ok r) (hk : ok r.ov = true) (h1 : g env = .ok rs) (h2 : op r.ov (rs.map Rv.ov) = some o) : dMeth ok op f g env = .ok (.st o) := by unfold dMeth; rw [h, bind_ok, if_pos hk, h1, bind_ok, h2]; rfl
theorem ev_list {g : VEnv → Ans (List Rv)} {rs : List Rv} {xs : List FV} (h : g env = .ok rs) (h1 : rs.length ≤ 1000) (h2 : allFz rs = some xs) : dList g env = .ok (.st (.ol xs)) := by unfold dList; rw [h, bind_ok, if_pos h1, h2]
theorem ev_tup {g : VEnv → Ans (List Rv)} {rs : List Rv} {xs : List FV} (h : g env = .ok rs) (h1 : rs.length ≤ 1000) (h2 : allFz rs = some xs) : dTup g env = .ok (.st (.fz (.tup xs))) := by unfold dTup; rw [h, bind_ok, if_pos h1, h2]
theorem ev_sub {f g : DE} {r q t : Rv} (h : f env = .ok r) (h2 : g env = .ok q) (h3 : FV.frozenKey q.ov = true) (h4 : opSub' r.ov q.ov = some t) : dSub f g env = .ok t := by unfold dSub; rw [h, bind_ok, h2, bind_ok, if_pos h3, h4]; rfl
theorem ev_items {f : DE} {xs : List FV} (h : f env = .ok (.st (.ol xs)) ∨ f env = .ok (.st (.fz (.lst xs))) ∨ f env = .ok (.st (.fz (.tup xs)))) : dItems f env = .ok xs := by
  unfold dItems
  rcases h with h | h | h <;> (rw [h]; rfl)
theorem ev_app {f : DE} {i : Nat} {p p' : OV} (h : env[i]? = some (some p)) (hl : p.isL = true) (h2 : f env = .ok (.st o)) (hs : p.size < BIG) (h3 : p.app o = some p') : dApp i f env = .ok (.nx (env.set i (some p'))) := by
  unfold dApp
  rw [h]
  simp only
  rw [if_pos hl, h2, bind_ok]
  simp only
  rw [if_pos hs, h3]
theorem ev_put {fk fe : DE} {i : Nat} {p p' : OV} {r : Rv} (h : env[i]? = some (some p)) (hl : (p.isL || p.isD2) = true) (h2 : fe env = .ok (.st o)) (h3 : fk env = .ok r) (hs : p.size < BIG) (h4 : p.put r.fv o = some p') : dPut i fk fe env = .ok (.nx (env.set i (some p'))) := by
  unfold dPut
  rw [h]
  simp only
  rw [if_pos hl, h2, bind_ok]
  simp only
  rw [h3, bind_ok, if_pos hs, h4]
theorem ev_run {n : Nat} {f : DS} {as : List FV} (h : f (startE n as) = .ok (.rt o e)) : runF n f as = .ok o := by unfold runF; rw [h]
theorem ev_seqN {f g : DS} {r : Ans SO} (h : f env = .ok (.nx e)) (h2 : g e = r) : dSeq f g env = r := by rw [ev_seq, h, so_nx, h2]
theorem ev_seqR {f g : DS} {e2 : VEnv} (h : f env = .ok (.rt o e2)) : dSeq f g env = .ok (.rt o e2) := by rw [ev_seq, h, so_rt]
end
section
variable {i j : Int} {b : Bool} {env : VEnv}
theorem e_add : opAdd (.fz (.int i)) (.fz (.int j)) = some (.fz (.int (i + j))) := rfl
theorem e_mul (h : mulOk i j = true) : opMul (.fz (.int i)) (.fz (.int j)) = some (.fz (.int (i * j))) := if_pos h
theorem e_mod (h : 0 < j) : opMod (.fz (.int i)) (.fz (.int j)) = some (.fz (.int (i % j))) := if_pos h
theorem e_shr (h : 0 ≤ j) : opShr (.fz (.int i)) (.fz (.int j)) = some (.fz (.int (i / 2 ^ j.toNat))) := if_pos h
theorem mulL {i j : Int} (h : i.natAbs < 2 ^ 62) : mulOk i j = true := by unfold mulOk; rw [Bool.or_eq_true, Bool.or_eq_true]; exact .inl (.inl (decide_eq_true h))
theorem mulR {i j : Int} (h : j.natAbs < 2 ^ 62) : mulOk i j = true := by unfold mulOk; rw [Bool.or_eq_true, Bool.or_eq_true]; exact .inl (.inr (decide_eq_true h))
end
end J
namespace J
open PySem PySem.Spec PyProof.Rows L2
abbrev Chr := Fin 128
def sxS (s : List Chr) : Str := ⟨(s.map Fin.val).toArray⟩
section
variable {α β γ κ : Type}
abbrev eI : Int → FV := FV.int
abbrev eB : Bool → FV := FV.bl
abbrev eC : Chr → FV := fun c => .str ⟨#[c.val]⟩
abbrev eS : List Chr → FV := fun s => .str (sxS s)
abbrev eU : Unit → FV := fun _ => .non
abbrev eL (e : α → FV) : List α → FV := fun xs => .lst (xs.map e)
abbrev eT (e : α → FV) : List α → FV := fun xs => .tup (xs.map e)
abbrev eP (e : α → FV) (d : β → FV) : α × β → FV := fun p => .tup [e p.1, d p.2]
def eO (e : α → FV) : Option α → FV
  | none => .non
  | some a => e a
abbrev kC : Chr → Key := fun c => .inr ⟨#[c.val]⟩
abbrev kS : List Chr → Key := fun s => .inr (sxS s)
abbrev eK (k : κ → Key) (e : α → FV) : List (κ × α) → FV := fun d => .dK (d.map fun p => (k p.1, e p.2))
abbrev eD (k : κ → Key) (e : α → FV) : List (List κ × α) → FV := fun d => .dT (d.map fun p => (p.1.map k, e p.2))
abbrev oF (e : α → FV) : α → OV := fun x => .fz (e x)
abbrev oL (e : α → FV) : List α → OV := fun xs => .ol (xs.map e)
abbrev oK (k : κ → Key) (e : α → FV) : List (κ × α) → OV := fun d => .oK (d.map fun p => (k p.1, e p.2))
def oO (o : α → OV) : Option α → OV
  | none => .fz .non
  | some a => o a
structure EnP (n : Nat) (e : α → FV) : Prop where
  d : ∀ a, ∃ p, (e a).toD = some p ∧ p.canLay0 = true ∧ p.depth ≤ n
  inj : ∀ a b p q, (e a).toD = some p → (e b).toD = some q → (PyData.eqv p q = true ↔ a = b)
structure NN (e : α → FV) : Prop where
  n : ∀ a, (e a).isNon = false
theorem sxS_inj {a b : List Chr} (h : sxS a = sxS b) : a = b := by
  unfold sxS at h
  injection h with h
  have h2 : (a.map Fin.val) = (b.map Fin.val) := by simpa using congrArg Array.toList h
  exact (List.map_inj_right (fun x y e => Fin.ext e)).mp h2
theorem sxS_ok (s : List Chr) : PyData.strOk (sxS s) = true := by
  unfold PyData.strOk sxS
  simp
  intro x _
  omega
theorem epI : EnP 0 eI := ⟨fun a => ⟨.int a, rfl, rfl, Nat.le_refl _⟩, fun a b p q h1 h2 => by cases h1; cases h2; simp [PyData.eqv]⟩
theorem epS : EnP 0 eS := ⟨fun a => ⟨.str (sxS a), rfl, by rw [PyData.canLay0]; exact sxS_ok a, Nat.le_refl _⟩, fun a b p q h1 h2 => by
  cases h1; cases h2
  rw [PyData.eqv]
  exact ⟨fun h => sxS_inj (by simpa using h), fun h => by rw [h]; simp⟩⟩
theorem epC : EnP 0 eC := ⟨fun a => ⟨.str (sxS [a]), rfl, by rw [PyData.canLay0]; exact sxS_ok [a], Nat.le_refl _⟩, fun a b p q h1 h2 => by
  cases h1; cases h2
  rw [PyData.eqv]
  exact ⟨fun h => by
    have h : (⟨#[a.val]⟩ : Str) = ⟨#[b.val]⟩ := by simpa using h
    injection h with h
    simp at h
    exact Fin.ext h, fun h => by rw [h]; simp⟩⟩
section
variable {e : α → FV} {d : β → FV} {c : γ → FV} {n m k : Nat}
theorem nnL : NN (eL e) := ⟨fun _ => rfl⟩
theorem EnP.mono (h : EnP n e) (hm : n ≤ m) : EnP m e := ⟨fun a => let ⟨p, h1, h2, h3⟩ := h.d a; ⟨p, h1, h2, Nat.le_trans h3 hm⟩, h.inj⟩
theorem EnP.L (h : EnP n e) : ∀ xs : List α, ∃ ds, FV.toDL (xs.map e) = some ds ∧ PyData.canLayAll0 ds = true ∧ PyData.depthAll ds ≤ n
  | [] => ⟨[], rfl, rfl, Nat.zero_le _⟩
  | x :: xs => by
    obtain ⟨p, h1, h2, h3⟩ := h.d x
    obtain ⟨ds, q1, q2, q3⟩ := EnP.L h xs
    exact ⟨p :: ds, by rw [List.map_cons, FV.toDL, h1, q1], by rw [PyData.canLayAll0, h2, q2]; rfl, by rw [PyData.depthAll]; exact Nat.max_le.mpr ⟨h3, q3⟩⟩
theorem EnP.Linj (h : EnP n e) : ∀ {xs ys : List α} {ds es : List PyData}, FV.toDL (xs.map e) = some ds → FV.toDL (ys.map e) = some es → (PyData.eqvAll ds es = true ↔ xs = ys)
  | [], [], _, _, h1, h2 => by cases h1; cases h2; simp [PyData.eqvAll]
  | [], y :: ys, _, _, h1, h2 => by
    cases h1
    obtain ⟨p, e1, _⟩ := h.d y
    obtain ⟨ds, e3, _⟩ := EnP.L h ys
    rw [List.map_cons, FV.toDL, e1, e3] at h2
    cases h2
    simp [PyData.eqvAll]
  | x :: xs, [], _, _, h2, h1 => by
    cases h1
    obtain ⟨p, e1, _⟩ := h.d x
    obtain ⟨ds, e3, _⟩ := EnP.L h xs
    rw [List.map_cons, FV.toDL, e1, e3] at h2
    cases h2
    simp [PyData.eqvAll]
  | x :: xs, y :: ys, _, _, h1, h2 => by
    obtain ⟨p, e1, _⟩ := h.d x
    obtain ⟨ds, e3, _⟩ := EnP.L h xs
    rw [List.map_cons, FV.toDL, e1, e3] at h1
    cases h1
    obtain ⟨p', e1', _⟩ := h.d y
    obtain ⟨ds', e3', _⟩ := EnP.L h ys
    rw [List.map_cons, FV.toDL, e1', e3'] at h2
    cases h2
    rw [PyData.eqvAll, Bool.and_eq_true, h.inj x y _ _ e1 e1', EnP.Linj h e3 e3']
    simp
theorem epL (h : EnP n e) : EnP (n + 1) (eL e) := ⟨fun a => by
    obtain ⟨ds, h1, h2, h3⟩ := h.L a
    exact ⟨.list ds, by rw [FV.toD, h1]; rfl, by rw [PyData.canLay0]; exact h2, by rw [PyData.depth]; omega⟩, fun a b p q h1 h2 => by
    obtain ⟨ds, e1, rfl⟩ := Option.map_eq_some_iff.mp (show (FV.toDL (a.map e)).map PyData.list = some p from h1)
    obtain ⟨es, e2, rfl⟩ := Option.map_eq_some_iff.mp (show (FV.toDL (b.map e)).map PyData.list = some q from h2)
    rw [PyData.eqv]
    exact h.Linj e1 e2⟩
theorem epT (h : EnP n e) : EnP (n + 1) (eT e) := ⟨fun a => by
    obtain ⟨ds, h1, h2, h3⟩ := h.L a
    exact ⟨.tuple ds, by rw [FV.toD, h1]; rfl, by rw [PyData.canLay0]; exact h2, by rw [PyData.depth]; omega⟩, fun a b p q h1 h2 => by
    obtain ⟨ds, e1, rfl⟩ := Option.map_eq_some_iff.mp (show (FV.toDL (a.map e)).map PyData.tuple = some p from h1)
    obtain ⟨es, e2, rfl⟩ := Option.map_eq_some_iff.mp (show (FV.toDL (b.map e)).map PyData.tuple = some q from h2)
    rw [PyData.eqv]
    exact h.Linj e1 e2⟩
theorem epP (h : EnP n e) (g : EnP m d) : EnP (max n m + 1) (eP e d) := ⟨fun a => by
    obtain ⟨p, h1, h2, h3⟩ := h.d a.1
    obtain ⟨q, g1, g2, g3⟩ := g.d a.2
    refine ⟨.tuple [p, q], by rw [FV.toD, FV.toDL, FV.toDL, FV.toDL, h1, g1]; rfl, by rw [PyData.canLay0, PyData.canLayAll0, PyData.canLayAll0, PyData.canLayAll0, h2, g2]; rfl, ?_⟩
    rw [PyData.depth, PyData.depthAll, PyData.depthAll, PyData.depthAll]
    omega, fun a b x y q1 q2 => by
    obtain ⟨p, h1, h2, h3⟩ := h.d a.1
    obtain ⟨q, g1, g2, g3⟩ := g.d a.2
    obtain ⟨p', h1', _, _⟩ := h.d b.1
    obtain ⟨q', g1', _, _⟩ := g.d b.2
    rw [FV.toD, FV.toDL, FV.toDL, FV.toDL, h1, g1] at q1
    rw [FV.toD, FV.toDL, FV.toDL, FV.toDL, h1', g1'] at q2
    cases q1
    cases q2
    rw [PyData.eqv, PyData.eqvAll, PyData.eqvAll, PyData.eqvAll, Bool.and_eq_true, Bool.and_eq_true, h.inj _ _ _ _ h1 h1', g.inj _ _ _ _ g1 g1']
    exact ⟨fun z => Prod.ext z.1 z.2.1, fun z => ⟨by rw [z], by rw [z], rfl⟩⟩⟩
theorem NN.toD (hn : NN e) (a : α) : (e a).toD ≠ some .none := fun h => by
  have := hn.n a
  revert h this
  cases e a <;> simp [FV.toD, FV.isNon]
theorem eqv_none : ∀ p : PyData, p ≠ .none → PyData.eqv .none p = false ∧ PyData.eqv p .none = false := fun p h => by
  cases p <;> simp [PyData.eqv] at h ⊢
theorem epO (h : EnP n e) (hn : NN e) : EnP n (eO e) := ⟨fun a => by
    cases a with
    | none => exact ⟨.none, rfl, rfl, Nat.zero_le _⟩
    | some a => exact h.d a, fun a b p q h1 h2 => by
    cases a with
    | none => cases b with
      | none => cases h1; cases h2; simp [PyData.eqv]
      | some b =>
        cases h1
        have := hn.toD b
        rw [(eqv_none q fun z => this (by rw [← z]; exact h2)).1]
        simp
    | some a => cases b with
      | none =>
        cases h2
        have := hn.toD a
        rw [(eqv_none p fun z => this (by rw [← z]; exact h1)).2]
        simp
      | some b => rw [h.inj a b p q h1 h2]; simp⟩
end
section
variable {e : α → FV} {d : β → FV} {c : γ → FV} {n m k : Nat}
structure EPu (e : α → FV) : Prop where
  p : ∀ a, (e a).pure = true
theorem pureL_all : ∀ {xs : List FV}, (∀ x ∈ xs, x.pure = true) → FV.pureL xs = true
  | [], _ => rfl
  | x :: xs, h => by
    unfold FV.pureL
    rw [h x List.mem_cons_self, pureL_all fun y hy => h y (List.mem_cons_of_mem _ hy)]
    rfl
theorem EPu.L (h : EPu e) (xs : List α) : FV.pureL (xs.map e) = true := pureL_all fun x hx => by
  obtain ⟨a, _, rfl⟩ := List.mem_map.mp hx
  exact h.p a
theorem puC : EPu eC := ⟨fun _ => rfl⟩
theorem puT (h : EPu e) : EPu (eT e) := ⟨fun a => by rw [FV.pure]; exact h.L a⟩
end
end
section
variable {α β γ δ σ ρ κ : Type}
def OE (x : Ans δ) (tt : Option γ) (R : γ → δ) : Prop := ∀ v, tt = some v → x = .ok (R v)
def SG (x : Ans SO) (tt : Option γ) (P : γ → SO → Prop) : Prop := ∀ g, tt = some g → ∃ so, x = .ok so ∧ P g so
def PR (O : γ → OV) : γ → SO → Prop := fun v so => ∃ e, so = .rt (O v) e
def PN (E : γ → VEnv → Prop) : γ → SO → Prop := fun s so => ∃ e, so = .nx e ∧ E s e
inductive Ctl (σ ρ : Type) where
  | nx (s : σ)
  | bk (s : σ)
  | rt (r : ρ)
def PC (E : σ → VEnv → Prop) (B : σ → VEnv → Prop) (O : ρ → OV) : Ctl σ ρ → SO → Prop
  | .nx s, so => ∃ e, so = .nx e ∧ E s e
  | .bk s, so => ∃ e, so = .bk e ∧ B s e
  | .rt r, so => ∃ e, so = .rt (O r) e
def PL (B : σ → VEnv → Prop) (O : ρ → OV) : Ctl σ ρ → SO → Prop
  | .nx s, so => ∃ e, so = .nx e ∧ B s e
  | .bk s, so => ∃ e, so = .nx e ∧ B s e
  | .rt r, so => ∃ e, so = .rt (O r) e
theorem oe_bind {x : Ans δ} {o : Option α} {k : α → Option γ} {R : γ → δ} (h : ∀ a, o = some a → OE x (k a) R) : OE x (o.bind k) R := fun v hv => by
  cases o with
  | none => cases hv
  | some a => exact h a rfl v hv
theorem oe_ret {x : Ans δ} {v : γ} {R : γ → δ} (h : x = .ok (R v)) : OE x (some v) R := fun w hw => by cases hw; exact h
variable {P : γ → SO → Prop} {tt : Option γ} {env : VEnv} {f : DE} {D A B : DS} {o : OV}
theorem sg_bind {x : Ans SO} {o : Option α} {k : α → Option γ} (h : ∀ a, o = some a → SG x (k a) P) : SG x (o.bind k) P := fun v hv => by
  cases o with
  | none => cases hv
  | some a => exact h a rfl v hv
theorem sg_env {e2 : VEnv} (h : env = e2) (h2 : SG (D e2) tt P) : SG (D env) tt P := by rw [h]; exact h2
theorem sg_set {i : Nat} (h : f env = .ok (.st o)) (h2 : SG (D (env.set i (some o))) tt P) : SG (dSeq (dSet i f) D env) tt P := by
  rw [ev_seqN (ev_set h) rfl]; exact h2
theorem sg_skip (h2 : SG (D env) tt P) : SG (dSeq dSkip D env) tt P := h2
theorem so_assoc {A B C : VEnv → Ans SO} (x : Ans SO) : SO.bind (SO.bind x A) B = SO.bind x (fun e => SO.bind (A e) B) := by
  cases x with
  | ok s => cases s <;> rfl
  | ex c => rfl
  | no => rfl
theorem sg_assoc {C : DS} (h : SG (dSeq A (dSeq B C) env) tt P) : SG (dSeq (dSeq A B) C env) tt P := by
  have e : dSeq (dSeq A B) C env = dSeq A (dSeq B C) env := so_assoc (C := C) (A env)
  rw [e]; exact h
theorem sg_seq {E : α → VEnv → Prop} {t1 : Option α} {t2 : α → Option γ} (h : SG (A env) t1 (PN E)) (h2 : ∀ s e, E s e → SG (B e) (t2 s) P) : SG (dSeq A B env) (t1.bind t2) P := fun v hv => by
  cases h1 : t1 with
  | none => rw [h1] at hv; cases hv
  | some a =>
    rw [h1] at hv
    obtain ⟨so, q1, e, rfl, q2⟩ := h a h1
    rw [ev_seqN q1 rfl]
    exact h2 a e q2 v hv
def behind (k : ρ → γ) (t2 : σ → Option γ) : Ctl σ ρ → Option γ
  | .nx s => t2 s
  | .bk s => t2 s
  | .rt r => some (k r)
theorem sg_seqL {E : σ → VEnv → Prop} {O : ρ → OV} {t1 : Option (Ctl σ ρ)} {t2 : σ → Option γ} {k : ρ → γ} (h : SG (A env) t1 (PL E O)) (h3 : ∀ r e, P (k r) (.rt (O r) e)) (h2 : ∀ s e, E s e → SG (B e) (t2 s) P) :
    SG (dSeq A B env) (t1.bind (behind k t2)) P := fun v hv => by
  cases h1 : t1 with
  | none => rw [h1] at hv; cases hv
  | some a =>
    rw [h1] at hv
    obtain ⟨so, q1, q2⟩ := h a h1
    cases a with
    | nx s =>
      obtain ⟨e, rfl, q2⟩ := q2
      rw [ev_seqN q1 rfl]
      exact h2 s e q2 v hv
    | bk s =>
      obtain ⟨e, rfl, q2⟩ := q2
      rw [ev_seqN q1 rfl]
      exact h2 s e q2 v hv
    | rt r =>
      obtain ⟨e, rfl⟩ := q2
      cases hv
      rw [ev_seqR q1]
      exact ⟨_, rfl, h3 r e⟩
theorem sg_ifs {c : DT} {b : Bool} {t u : Option γ} (h : c env = .ok b) (h1 : b = true → SG (dSeq A D env) t P) (h2 : b = false → SG (dSeq B D env) u P) : SG (dSeq (dIf c A B) D env) (if b then t else u) P := by
  have e : dSeq (dIf c A B) D env = if b then dSeq A D env else dSeq B D env := by
    rw [ev_seq]
    cases b with
    | true => rw [ev_ifT h]; rfl
    | false => rw [ev_ifF h]; rfl
  rw [e]
  cases b with
  | true => exact h1 rfl
  | false => exact h2 rfl
theorem sg_ice {i : Nat} {x : FV} (h : env[i]? = some (some o)) (hx : o.fv = x) (h2 : SG (D (env.set i (some (.fz x)))) tt P) : SG (dIce i D env) tt P := by
  rw [ev_ice h, hx]; exact h2
theorem sg_iceF {i : Nat} {x : FV} (h : env[i]? = some (some (.fz x))) (h2 : SG (D env) tt P) : SG (dIce i D env) tt P := by
  rw [ev_iceQ' h]; exact h2
where
  ev_iceQ' {i : Nat} {f : DS} {env : VEnv} {x : FV} (h : env[i]? = some (some (.fz x))) : dIce i f env = f env := by
    have hset : env.set i (some (.fz (OV.fz x).fv)) = env := by
      apply List.ext_getElem?
      intro j
      by_cases hj : i = j
      · subst hj
        obtain ⟨hlt, _⟩ := List.getElem?_eq_some_iff.mp h
        rw [List.getElem?_set_self hlt, h]
        rfl
      · rw [List.getElem?_set_ne hj]
    rw [ev_ice h, hset]
def iceJ (j : Option OV) : Option OV := j.map fun o => .fz o.fv
theorem ev_iceJ {i : Nat} {j : Option OV} (h : env[i]? = some j) : dIce i D env = D (env.set i (iceJ j)) := by
  cases j with
  | some o => exact ev_ice h
  | none =>
    have hset : env.set i none = env := by
      apply List.ext_getElem?
      intro k
      by_cases hj : i = k
      · subst hj
        obtain ⟨hlt, _⟩ := List.getElem?_eq_some_iff.mp h
        rw [List.getElem?_set_self hlt, h]
      · rw [List.getElem?_set_ne hj]
    unfold dIce
    rw [h]
    show D env = D (env.set i none)
    rw [hset]
theorem sg_iceJ {i : Nat} {j : Option OV} (h : env[i]? = some j) (h2 : SG (D (env.set i (iceJ j))) tt P) : SG (dIce i D env) tt P := by
  rw [ev_iceJ h]; exact h2
theorem sg_iceS {i : Nat} (h : SG (dIce i (dSeq A B) env) tt P) : SG (dSeq (dIce i A) B env) tt P := by
  have e : dSeq (dIce i A) B env = dIce i (dSeq A B) env := by
    rw [ev_seq]
    unfold dIce
    rcases env[i]? with _ | _ | o <;> rfl
  rw [e]; exact h
theorem sg_nx {E : γ → VEnv → Prop} {v : γ} {env : VEnv} (h : E v env) : SG (dSkip env) (some v) (PN E) := fun w hw => by cases hw; exact ⟨_, rfl, env, rfl, h⟩
theorem sg_of {P : γ → SO → Prop} {x : Ans SO} {so : SO} {v : γ} (h : x = .ok so) (hp : P v so) : SG x (some v) P := fun w hw => by cases hw; exact ⟨so, h, hp⟩
theorem sg_one {D : DS} (h : SG (dSeq D dSkip env) tt P) : SG (D env) tt P := by
  have e : dSeq D dSkip env = D env := by
    rw [ev_seq]
    cases h : D env with
    | ok s => cases s <;> rfl
    | ex c => rfl
    | no => rfl
  rw [← e]; exact h
theorem sg_retS {v : γ} {o : OV} (h : f env = .ok (.st o)) (hp : ∀ e, P v (.rt o e)) : SG (dSeq (dRet f) D env) (some v) P := sg_of (ev_seqR (ev_ret h)) (hp _)
theorem sg_retVS {i : Nat} {v : γ} {o : OV} (h : env[i]? = some (some o)) (hp : ∀ e, P v (.rt o e)) : SG (dSeq (dRetV i) D env) (some v) P := sg_of (ev_seqR (ev_retV h)) (hp _)
theorem sg_app {i : Nat} {p p' : OV} (h : env[i]? = some (some p)) (hl : p.isL = true) (h2 : f env = .ok (.st o)) (hs : p.size < BIG) (h3 : p.app o = some p') (k : SG (D (env.set i (some p'))) tt P) : SG (dSeq (dApp i f) D env) tt P := by
  rw [ev_seqN (ev_app h hl h2 hs h3) rfl]; exact k
def forT (f : α → σ → Option σ) : List α → σ → Option σ
  | [], s => some s
  | x :: xs, s => (f x s).bind (forT f xs)
def forC (f : α → σ → Option (Ctl σ ρ)) : List α → σ → Option (Ctl σ ρ)
  | [], s => some (.nx s)
  | x :: xs, s => (f x s).bind fun c => match c with
    | .nx s => forC f xs s
    | .bk s => some (.bk s)
    | .rt r => some (.rt r)
theorem forL_sim {eA : α → FV} {t : TgF} {body : DS} {E : σ → VEnv → Prop} {tb : α → σ → Option σ} (hb : ∀ x s e, E s e → ∃ e1, t (eA x) e = some e1 ∧ SG (body e1) (tb x s) (PN E)) :
    ∀ (items : List α) (s : σ) (env : VEnv), E s env → SG (forL t body (items.map eA) env) (forT tb items s) (PN E)
  | [], s, env, h => fun g hg => by cases hg; exact ⟨_, rfl, env, rfl, h⟩
  | x :: xs, s, env, h => fun g hg => by
    unfold forT at hg
    obtain ⟨e1, q1, q2⟩ := hb x s env h
    cases ht : tb x s with
    | none => rw [ht] at hg; cases hg
    | some s' =>
      rw [ht] at hg
      obtain ⟨so, r1, e2, rfl, r2⟩ := q2 s' ht
      rw [List.map_cons]
      unfold forL
      rw [q1]
      simp only
      rw [r1]
      exact forL_sim hb xs s' e2 r2 g hg
theorem forC_sim {eA : α → FV} {t : TgF} {body : DS} {E B : σ → VEnv → Prop} {O : ρ → OV} {tb : α → σ → Option (Ctl σ ρ)} (hEB : ∀ s e, E s e → B s e) (hb : ∀ x s e, E s e → ∃ e1, t (eA x) e = some e1 ∧ SG (body e1) (tb x s) (PC E B O)) :
    ∀ (items : List α) (s : σ) (env : VEnv), E s env → SG (forL t body (items.map eA) env) (forC tb items s) (PL B O)
  | [], s, env, h => fun g hg => by cases hg; exact ⟨_, rfl, env, rfl, hEB _ _ h⟩
  | x :: xs, s, env, h => fun g hg => by
    unfold forC at hg
    obtain ⟨e1, q1, q2⟩ := hb x s env h
    cases ht : tb x s with
    | none => rw [ht] at hg; cases hg
    | some c =>
      rw [ht] at hg
      obtain ⟨so, r1, r2⟩ := q2 c ht
      rw [List.map_cons]
      unfold forL
      rw [q1]
      simp only
      rw [r1]
      cases c with
      | nx s' =>
        obtain ⟨e2, rfl, r2⟩ := r2
        exact forC_sim hEB hb xs s' e2 r2 g hg
      | bk s' =>
        obtain ⟨e2, rfl, r2⟩ := r2
        cases hg
        exact ⟨_, rfl, e2, rfl, r2⟩
      | rt r =>
        obtain ⟨e2, rfl⟩ := r2
        cases hg
        exact ⟨_, rfl, e2, rfl⟩
theorem sg_for {it : VEnv → Ans (List FV)} {eA : α → FV} {t : TgF} {body : DS} (E : σ → VEnv → Prop) {tb : α → σ → Option σ} {items : List α} {s : σ} (hi : it env = .ok (items.map eA)) (h : E s env) (hb : ∀ x s e, E s e → ∃ e1, t (eA x) e = some e1 ∧ SG (body e1) (tb x s) (PN E)) :
    SG (dFor it t body env) (forT tb items s) (PN E) := by
  unfold dFor
  rw [hi, bind_ok]
  exact forL_sim hb items s env h
theorem sg_forC {it : VEnv → Ans (List FV)} {eA : α → FV} {t : TgF} {body : DS} (E B : σ → VEnv → Prop) (O : ρ → OV) {tb : α → σ → Option (Ctl σ ρ)} {items : List α} {s : σ} (hi : it env = .ok (items.map eA)) (h : E s env) (hEB : ∀ s e, E s e → B s e) (hb : ∀ x s e, E s e → ∃ e1, t (eA x) e = some e1 ∧ SG (body e1) (tb x s) (PC E B O)) :
    SG (dFor it t body env) (forC tb items s) (PL B O) := by
  unfold dFor
  rw [hi, bind_ok]
  exact forC_sim hEB hb items s env h
open Classical in
end
end J
namespace J
open PySem PySem.Spec PyProof.Rows L2
section
variable {α β γ κ : Type} {e : α → FV} {d : β → FV} {env : VEnv} {x y o : OV} {n m : Nat}
def OV.nf : OV → Bool
  | .fz _ => false
  | _ => true
theorem ev_varO {i : Nat} (h : env[i]? = some (some o)) (ho : o.nf = true) : dVar i env = .ok (.bo o) := by
  unfold dVar
  rw [h]
  cases o with
  | fz x => cases ho
  | _ => rfl
theorem ev_cs {s : Str} {l : List Chr} (h : s = sxS l) : dC (.str s) env = .ok (.st (.fz (eS l))) := by rw [h]; rfl
theorem ev_cc {s : Str} {c : Chr} (h : s = ⟨#[c.val]⟩) : dC (.str s) env = .ok (.st (.fz (eC c))) := by rw [h]; rfl
theorem fvO_of {ov : α → OV} (h : ∀ a, (ov a).fv = e a) (v : Option α) : (oO ov v).fv = eO e v := by
  cases v with
  | none => rfl
  | some a => exact h a
def mulG (i j : Int) : Option Int := if mulOk i j then some (i * j) else none
def modG (i j : Int) : Option Int := if 0 < j then some (i % j) else none
def shrG (i j : Int) : Option Int := if 0 ≤ j then some (i / 2 ^ j.toNat) else none
section
variable {i j v : Int}
theorem t_mulG (h : mulG i j = some v) : opMul (.fz (.int i)) (.fz (.int j)) = some (.fz (.int v)) := by
  unfold mulG at h
  show (if mulOk i j then some (OV.fz (.int (i * j))) else none) = _
  split at h
  · cases h; rename_i q; rw [if_pos q]
  · cases h
theorem t_modG (h : modG i j = some v) : opMod (.fz (.int i)) (.fz (.int j)) = some (.fz (.int v)) := by
  unfold modG at h
  show (if 0 < j then some (OV.fz (.int (i % j))) else none) = _
  split at h
  · cases h; rename_i q; rw [if_pos q]
  · cases h
theorem t_shrG (h : shrG i j = some v) : opShr (.fz (.int i)) (.fz (.int j)) = some (.fz (.int v)) := by
  unfold shrG at h
  show (if 0 ≤ j then some (OV.fz (.int (i / 2 ^ j.toNat))) else none) = _
  split at h
  · cases h; rename_i q; rw [if_pos q]
  · cases h
theorem t_lt : opLt (.fz (.int i)) (.fz (.int j)) = some (.fz (.bl (decide (i < j)))) := rfl
theorem t_le : opLe (.fz (.int i)) (.fz (.int j)) = some (.fz (.bl (decide (i ≤ j)))) := rfl
theorem t_gt : opGt (.fz (.int i)) (.fz (.int j)) = some (.fz (.bl (decide (j < i)))) := rfl
end
theorem dec_of {p : Prop} [Decidable p] {b : Bool} (h : b = true ↔ p) : b = decide p := by
  by_cases q : p
  · rw [decide_eq_true q, h.mpr q]
  · rw [decide_eq_false q]
    cases b with
    | false => rfl
    | true => exact absurd (h.mp rfl) q
theorem eqE {a b : α} [Decidable (a = b)] (h : EnP n e) (hn : n ≤ 64) : (e a).eqD (e b) = some (decide (a = b)) := by
  obtain ⟨p, h1, h2, h3⟩ := h.d a
  obtain ⟨q, g1, g2, g3⟩ := h.d b
  unfold FV.eqD
  rw [h1, g1]
  have s1 : SeqAt.shaped p = true := by unfold SeqAt.shaped; rw [h2]; simp; omega
  have s2 : SeqAt.shaped q = true := by unfold SeqAt.shaped; rw [g2]; simp; omega
  simp only [s1, s2, Bool.and_self, if_true]
  rw [dec_of (h.inj a b p q h1 g1)]
theorem t_eq {a b : α} [Decidable (a = b)] (h : EnP n e) (hn : n ≤ 64) (hx : x.fv = e a) (hy : y.fv = e b) : opEq x y = some (.fz (.bl (decide (a = b)))) := by
  unfold opEq
  split
  · rename_i i j
    rw [dec_of (p := a = b) (b := decide (i = j)) (by
      rw [← h.inj a b (.int i) (.int j) (by rw [← hx]; rfl) (by rw [← hy]; rfl)]; simp [PyData.eqv])]
  · rename_i i j
    rw [dec_of (p := a = b) (b := decide (i = j)) (by
      rw [← h.inj a b (.str i) (.str j) (by rw [← hx]; rfl) (by rw [← hy]; rfl)]; simp [PyData.eqv])]
  · rw [hx, hy, eqE h hn, Option.map_some]
theorem t_ne {a b : α} [Decidable (a = b)] (h : EnP n e) (hn : n ≤ 64) (hx : x.fv = e a) (hy : y.fv = e b) : opNe x y = some (.fz (.bl (!decide (a = b)))) := by
  unfold opNe
  split
  · rename_i i j
    rw [dec_of (p := a = b) (b := decide (i = j)) (by
      rw [← h.inj a b (.int i) (.int j) (by rw [← hx]; rfl) (by rw [← hy]; rfl)]; simp [PyData.eqv])]
  · rename_i i j
    rw [dec_of (p := a = b) (b := decide (i = j)) (by
      rw [← h.inj a b (.str i) (.str j) (by rw [← hx]; rfl) (by rw [← hy]; rfl)]; simp [PyData.eqv])]
  · rw [hx, hy, eqE h hn, Option.map_some]
theorem inSeqS {c : Chr} {s : List Chr} [Decidable (c ∈ s)] : inSeq (eC c) (eS s) = some (decide (c ∈ s)) := by
  show some (decide (c.val ∈ (sxS s).cps.toList)) = _
  congr 1
  have : c.val ∈ (sxS s).cps.toList ↔ c ∈ s := by
    unfold sxS
    simp only [List.mem_map]
    constructor
    · rintro ⟨a, h, e⟩; rw [← Fin.ext e]; exact h
    · exact fun h => ⟨c, h, rfl⟩
  by_cases q : c ∈ s
  · rw [decide_eq_true q, decide_eq_true (this.mpr q)]
  · rw [decide_eq_false q, decide_eq_false (fun z => q (this.mp z))]
theorem t_ninS {c : Chr} {s : List Chr} [Decidable (c ∈ s)] (hx : x.fv = eC c) (hy : y = .fz (eS s)) : opIn true x y = some (.fz (.bl (!decide (c ∈ s)))) := by
  subst hy
  unfold opIn
  rw [if_neg (show ¬ (OV.fz (eS s)).isD = true from Bool.false_ne_true), hx]
  show (inSeq (eC c) (eS s)).map _ = _
  rw [inSeqS, Option.map_some]
  cases decide (c ∈ s) <;> rfl
structure EKey (k : κ → Key) (d : κ → FV) : Prop where
  inj : ∀ a b, k a = k b → a = b
  key : ∀ a, (d a).key? = some (k a)
  back : ∀ a, keyF (k a) = d a
theorem ekC : EKey kC eC := ⟨fun a b h => by injection h with h; injection h with h; simp at h; exact Fin.ext h, fun _ => rfl, fun _ => rfl⟩
theorem ekS : EKey kS eS := ⟨fun a b h => by injection h with h; exact sxS_inj h, fun _ => rfl, fun _ => rfl⟩
theorem put_map {κ' α β : Type} [DecidableEq κ'] [DecidableEq κ] {k : κ' → κ} {g : α → β} (hk : ∀ a b, k a = k b → a = b) (c : κ') (v : α) (l : List (κ' × α)) : putKV (l.map fun p => (k p.1, g p.2)) (k c) (g v) = (putKV l c v).map fun p => (k p.1, g p.2) := by
  have he : ∀ p : κ' × α, decide ((k p.1, g p.2).1 = k c) = decide (p.1 = c) := fun p => by
    by_cases h : p.1 = c
    · rw [decide_eq_true h, decide_eq_true (show (k p.1, g p.2).1 = k c by rw [← h])]
    · rw [decide_eq_false h, decide_eq_false (show ¬ (k p.1, g p.2).1 = k c from fun q => h (hk _ _ q))]
  have ha : (l.map fun p => (k p.1, g p.2)).any (fun kv => decide (kv.1 = k c)) = l.any (fun kv => decide (kv.1 = c)) := by
    rw [List.any_map]
    congr 1
    funext p
    exact he p
  unfold putKV
  rw [ha]
  split
  · rw [List.map_map, List.map_map]
    refine List.map_congr_left fun p _ => ?_
    show (if (k p.1, g p.2).1 = k c then ((k p.1, g p.2).1, g v) else (k p.1, g p.2)) = (k (if p.1 = c then (p.1, v) else p).1, g (if p.1 = c then (p.1, v) else p).2)
    by_cases h : p.1 = c
    · rw [if_pos h, if_pos (show (k p.1, g p.2).1 = k c by rw [← h])]
    · rw [if_neg h, if_neg (show ¬ (k p.1, g p.2).1 = k c from fun q => h (hk _ _ q))]
  · rw [List.map_append]
    rfl
section
variable [DecidableEq κ] {k : κ → Key} {c : κ → FV} {l : List (κ × α)} {a : κ} {v : α}
end
section
variable [DecidableEq κ] {k : κ → Key} {c : κ → FV} {l : List (List κ × α)} {a : List κ} {v : α}
end
theorem atI_map (xs : List α) (i : Int) : atI (xs.map e) i = (atI xs i).map e := by
  unfold atI
  rw [List.length_map]
  cases ixN xs.length i with
  | none => rfl
  | some j => exact List.getElem?_map
theorem t_atL {xs : List α} {i : Int} {v : α} (hx : x = .ol (xs.map e) ∨ x = .fz (eL e xs) ∨ x = .fz (eT e xs)) (h : atI xs i = some v) : opSub' x (.fz (.int i)) = some (.st (.fz (e v))) := by
  rcases hx with rfl | rfl | rfl
  · show (atI (xs.map e) i).map (fun v => Rv.st (.fz v)) = _
    rw [atI_map, h]; rfl
  · show (atI (xs.map e) i).map (fun v => Rv.st (.fz v)) = _
    rw [atI_map, h]; rfl
  · show (atI (xs.map e) i).map (fun v => Rv.st (.fz v)) = _
    rw [atI_map, h]; rfl
theorem sx_list (s : List Chr) : (sxS s).cps.toList = s.map Fin.val := by unfold sxS; simp
theorem sx_len (s : List Chr) : (sxS s).length = s.length := by
  show (sxS s).cps.size = _
  unfold sxS
  simp
def atS' (s : List Chr) (i : Int) : Option Chr := if s.length ≤ BIG then atI s i else none
theorem t_atS {s : List Chr} {i : Int} {v : Chr} (h : atS' s i = some v) : opSub' (.fz (eS s)) (.fz (.int i)) = some (.st (.fz (eC v))) := by
  unfold atS' at h
  split at h
  · rename_i q
    show (if (sxS s).length ≤ BIG then (atI (sxS s).cps.toList i).map (fun c => Rv.st (.fz (.str ⟨#[c]⟩))) else none) = _
    rw [sx_len, if_pos q, sx_list]
    have : atI (s.map Fin.val) i = (atI s i).map Fin.val := by
      unfold atI
      rw [List.length_map]
      cases ixN s.length i with
      | none => rfl
      | some j => exact List.getElem?_map
    rw [this, h]; rfl
  · cases h
theorem cutF_mapT {γ δ : Type} (f : γ → δ) (xs : List γ) (lo hi : Option Int) : cutF (xs.map f) lo hi = (cutF xs lo hi).map f := by
  unfold cutF
  rw [List.length_map, List.map_take, List.map_drop]
theorem t_slL {xs : List α} {lo hi : Option Int} (hx : x = .ol (xs.map e) ∨ x = .fz (eL e xs)) : opSl x lo hi = some (.ol ((cutF xs lo hi).map e)) := by
  rcases hx with rfl | rfl
  · show some (OV.ol (cutF (xs.map e) lo hi)) = _
    rw [cutF_mapT]
  · show some (OV.ol (cutF (xs.map e) lo hi)) = _
    rw [cutF_mapT]
theorem ev_pn : dPN env = .ok none := rfl
theorem ev_ps {f : DE} {i : Int} (h : f env = .ok (.st (.fz (.int i)))) : dPS f env = .ok (some i) := by unfold dPS; rw [h]; rfl
theorem ev_sl {f : DE} {l h : VEnv → Ans (Option Int)} {r : Rv} {i j : Option Int} (h1 : f env = .ok r) (h2 : l env = .ok i) (h3 : h env = .ok j) (h4 : opSl r.ov i j = some o) : dSl f l h env = .ok (.st o) := by
  unfold dSl
  rw [h1, bind_ok, h2, bind_ok, h3, bind_ok, h4]
  rfl
def catG (a b : List α) : Option (List α) := if a.length + b.length ≤ BIG then some (a ++ b) else none
theorem t_catL {a b v : List α} (hx : x = .ol (a.map e) ∨ x = .fz (eL e a)) (hy : y = .ol (b.map e) ∨ y = .fz (eL e b)) (h : catG a b = some v) : opAdd x y = some (.ol (v.map e)) := by
  unfold catG at h
  have hA : opAdd x y = (if (a.map e).length + (b.map e).length ≤ BIG then some (OV.ol (a.map e ++ b.map e)) else none) := by
    rcases hx with rfl | rfl <;> rcases hy with rfl | rfl <;> rfl
  rw [hA, List.length_map, List.length_map]
  split at h
  · cases h; rename_i q; rw [if_pos q, List.map_append]
  · cases h
theorem sx_app (a b : List Chr) : sxS a ++ sxS b = sxS (a ++ b) := by
  have : (sxS a ++ sxS b).cps = (sxS (a ++ b)).cps := by
    show (sxS a).cps ++ (sxS b).cps = _
    unfold sxS
    simp
  have ext : ∀ x y : Str, x.cps = y.cps → x = y := fun x y h => by cases x; cases y; simp at h; rw [h]
  exact ext _ _ this
theorem t_catS {a b v : List Chr} (h : catG a b = some v) : opAdd (.fz (eS a)) (.fz (eS b)) = some (.fz (eS v)) := by
  unfold catG at h
  show (if (sxS a).length + (sxS b).length ≤ BIG then some (OV.fz (.str (sxS a ++ sxS b))) else none) = _
  rw [sx_len, sx_len]
  split at h
  · cases h; rename_i q; rw [if_pos q, sx_app]
  · cases h
theorem t_lenL {xs : List α} (hx : x = .ol (xs.map e) ∨ x = .fz (eL e xs) ∨ x = .fz (eT e xs)) : opLen [x] = some (.fz (.int (xs.length : Nat))) := by
  rcases hx with rfl | rfl | rfl
  · show some (OV.fz (.int ((xs.map e).length : Nat))) = _
    rw [List.length_map]
  · show some (OV.fz (.int ((xs.map e).length : Nat))) = _
    rw [List.length_map]
  · show some (OV.fz (.int ((xs.map e).length : Nat))) = _
    rw [List.length_map]
theorem t_lenK {k : κ → Key} {l : List (κ × α)} (hx : x = .oK (l.map fun p => (k p.1, e p.2)) ∨ x = .fz (eK k e l)) : opLen [x] = some (.fz (.int (l.length : Nat))) := by
  rcases hx with rfl | rfl
  · show some (OV.fz (.int ((l.map fun p => (k p.1, e p.2)).length : Nat))) = _
    rw [List.length_map]
  · show some (OV.fz (.int ((l.map fun p => (k p.1, e p.2)).length : Nat))) = _
    rw [List.length_map]
def lenS (s : List Chr) : Option Int := if s.length ≤ BIG then some (s.length : Nat) else none
theorem t_lenS {s : List Chr} {v : Int} (h : lenS s = some v) : opLen [.fz (eS s)] = some (.fz (.int v)) := by
  unfold lenS at h
  show (if (sxS s).length ≤ BIG then some (OV.fz (.int ((sxS s).length : Nat))) else none) = _
  rw [sx_len]
  split at h
  · cases h; rename_i q; rw [if_pos q]
  · cases h
theorem t_list {xs : List α} (hx : x = .ol (xs.map e) ∨ x = .fz (eL e xs) ∨ x = .fz (eT e xs)) : opList [x] = some (.ol (xs.map e)) := by
  rcases hx with rfl | rfl | rfl <;> rfl
theorem t_tup {xs : List α} (hx : x = .ol (xs.map e) ∨ x = .fz (eL e xs)) : opTup [x] = some (.fz (eT e xs)) := by
  rcases hx with rfl | rfl <;> rfl
def srt (e : α → FV) (xs : List α) : Option (List α) := if sortOk (xs.map e) then some (xs.mergeSort fun a b => PySem.W.dataLe false FV.enc (e a) (e b)) else none
theorem srt_map {xs v : List α} (h : srt e xs = some v) : sortOk (xs.map e) = true ∧ sortFV (xs.map e) = v.map e := by
  unfold srt at h
  split at h
  · cases h
    refine ⟨by assumption, ?_⟩
    unfold sortFV
    exact (List.map_mergeSort (f := e) (r := fun a b => PySem.W.dataLe false FV.enc (e a) (e b)) (s := PySem.W.dataLe false FV.enc) (l := xs) fun a _ b _ => rfl).symm
  · cases h
theorem keys_back {k : κ → Key} {c : κ → FV} (hk : EKey k c) (l : List (κ × α)) : (l.map fun p => (k p.1, e p.2)).map (fun kv => keyF kv.1) = (l.map (·.1)).map c := by
  rw [List.map_map, List.map_map]
  exact List.map_congr_left fun p _ => hk.back p.1
theorem ev_keysS {f : DE} {r : Rv} {k : κ → Key} {c : κ → FV} {l : List (κ × α)} {v : List κ} (hk : EKey k c) (h : f env = .ok r) (hx : r.ov = .oK (l.map fun p => (k p.1, e p.2)) ∨ r.ov = .fz (eK k e l)) (hs : srt c (l.map (·.1)) = some v) : dKeysS f env = .ok (.st (.ol (v.map c))) := by
  obtain ⟨h1, h2⟩ := srt_map hs
  unfold dKeysS
  rw [h, bind_ok]
  rcases hx with hx | hx <;> rw [hx] <;> simp only <;> rw [keys_back hk, if_pos h1, h2]
def rangeG (n : Int) : Option (List Int) := if n < 2 ^ 60 ∧ -2 ^ 60 < n then some ((List.range n.toNat).map fun i => ((i : Nat) : Int)) else none
theorem it_range {f : DE} {i : Int} {v : List Int} (h : f env = .ok (.st (.fz (.int i)))) (hv : rangeG i = some v) : dRange f env = .ok (v.map eI) := by
  unfold rangeG at hv
  unfold dRange
  rw [h, bind_ok]
  show (if i < 2 ^ 60 ∧ -2 ^ 60 < i then Ans.ok ((List.range i.toNat).map fun j => FV.int (j : Nat)) else .no) = _
  split at hv
  · cases hv; rename_i q; rw [if_pos q, List.map_map]; rfl
  · cases hv
theorem it_items {f : DE} {xs : List α} (h : f env = .ok (.st (.ol (xs.map e))) ∨ f env = .ok (.st (.fz (eL e xs))) ∨ f env = .ok (.st (.fz (eT e xs)))) : dItems f env = .ok (xs.map e) := ev_items h
theorem sb_st {o : OV} : sbR env (.st o) = true := rfl
theorem ci_items {f : DE} {r : Rv} {xs : List α} (h : f env = .ok r) (hs : sbR env r = true) (hx : r.fv = eL e xs ∨ r.fv = eT e xs) : cItems f env = .ok (xs.map e) := by
  unfold cItems
  rw [h, bind_ok, if_pos hs]
  rcases hx with hx | hx <;> rw [hx] <;> rfl
def lcT (c : α → Option Bool) (g : α → Option β) : List α → Option (List β)
  | [] => some []
  | x :: xs => (c x).bind fun b => if b then (g x).bind fun y => (lcT c g xs).bind fun ys => some (y :: ys) else lcT c g xs
def lcG (c : α → Option Bool) (g : α → Option β) (xs : List α) : Option (List β) := (lcT c g xs).bind fun ys => if ys.length ≤ BIG then some ys else none
theorem lcF_sim {t : TgF} {c : DT} {f : DE} {env : VEnv} {tc : α → Option Bool} {te : α → Option β} (h : ∀ x, ∃ e1, t (e x) env = some e1 ∧ OE (c e1) (tc x) id ∧ OE (f e1) (te x) fun y => .st (.fz (d y))) :
    ∀ {items : List α} {ys : List β}, lcT tc te items = some ys → lcF t c f env (items.map e) = .ok (ys.map d)
  | [], ys, q => by cases q; rfl
  | x :: xs, ys, q => by
    obtain ⟨e1, h1, h2, h3⟩ := h x
    unfold lcT at q
    rw [List.map_cons]
    unfold lcF
    rw [h1]
    simp only
    cases hc : tc x with
    | none => rw [hc] at q; cases q
    | some b =>
      rw [hc] at q
      rw [h2 b hc]
      simp only [id, Ans.nox, Option.bind_some, bind_ok] at q ⊢
      cases b with
      | false =>
        simp only [Bool.false_eq_true, if_false] at q ⊢
        exact lcF_sim h q
      | true =>
        simp only [if_true] at q ⊢
        cases he : te x with
        | none => rw [he] at q; cases q
        | some y =>
          rw [he] at q
          rw [h3 y he]
          cases hr : lcT tc te xs with
          | none => rw [hr] at q; cases q
          | some zs =>
            rw [hr] at q
            simp only [Ans.nox, Option.bind_some, bind_ok, Rv.fz?] at q ⊢
            cases q
            rw [lcF_sim h hr]
            rfl
theorem lcG_some {c : α → Option Bool} {g : α → Option β} {xs : List α} {ys : List β} (h : lcG c g xs = some ys) : lcT c g xs = some ys ∧ ys.length ≤ BIG := by
  unfold lcG at h
  cases q : lcT c g xs with
  | none => rw [q] at h; cases h
  | some zs =>
    rw [q, Option.bind_some] at h
    split at h
    · cases h; exact ⟨rfl, by assumption⟩
    · cases h
theorem ev_lc {it : VEnv → Ans (List FV)} {t : TgF} {c : DT} {f : DE} {vs : List Nat} {env : VEnv} {tc : α → Option Bool} {te : α → Option β} {items : List α} {ys : List β} (hi : it env = .ok (items.map e)) (h : ∀ x, ∃ e1, t (e x) (frzE (wipeE env vs)) = some e1 ∧ OE (c e1) (tc x) id ∧ OE (f e1) (te x) fun y => .st (.fz (d y)))
    (hz : allFzE env = true ∨ EPu d) (hv : lcG tc te items = some ys) : dLc it t c f vs env = .ok (.st (.ol (ys.map d))) := by
  obtain ⟨h1, h2⟩ := lcG_some hv
  unfold dLc
  rw [hi, bind_ok, lcF_sim h h1, bind_ok, if_pos]
  rw [Bool.and_eq_true, Bool.or_eq_true, List.length_map]
  exact ⟨decide_eq_true h2, hz.imp id fun p => p.L ys⟩
variable {f g : DT} {a b : Bool}
theorem ev_and (h : f env = .ok a) (h2 : g env = .ok b) : dAndT f g env = .ok (a && b) := by
  unfold dAndT; rw [h, bind_ok]
  cases a with
  | true => exact h2
  | false => rfl
theorem ev_or (h : f env = .ok a) (h2 : g env = .ok b) : dOrT f g env = .ok (a || b) := by
  unfold dOrT; rw [h, bind_ok]
  cases a with
  | true => rfl
  | false => exact h2
theorem ev_orO {tb : Option Bool} {v : Bool} (h : f env = .ok a) (h2 : a = false → OE (g env) tb id) (hv : (if a then some true else tb) = some v) : dOrT f g env = .ok v := by
  unfold dOrT; rw [h, bind_ok]
  cases a with
  | false => exact h2 rfl v hv
  | true => cases hv; rfl
variable {p q : DE}
theorem ev_andVO {tb : Option Bool} {v : Bool} (h : p env = .ok (.st (.fz (.bl a)))) (h2 : a = true → OE (q env) tb fun b => .st (.fz (.bl b))) (hv : (if a then tb else some false) = some v) : dAndV p q env = .ok (.st (.fz (.bl v))) := by
  unfold dAndV; rw [ev_test h, bind_ok]
  cases a with
  | true => exact h2 rfl v hv
  | false => cases hv; rfl
theorem t_isN {v : Option α} (hn : NN e) (hx : x.fv = eO e v) : opIsN x = some (.fz (.bl v.isNone)) := by
  unfold opIsN
  rw [hx]
  cases v with
  | none => rfl
  | some a => show some (OV.fz (.bl (e a).isNon)) = _; rw [hn.n]; rfl
theorem t_notN {v : Option α} (hn : NN e) (hx : x.fv = eO e v) : opNotN x = some (.fz (.bl v.isSome)) := by
  unfold opNotN
  rw [hx]
  cases v with
  | none => rfl
  | some a => show some (OV.fz (.bl !(e a).isNon)) = _; rw [hn.n]; rfl
theorem oe_id {x : Ans β} {v : β} (h : x = .ok v) : OE x (some v) id := fun w hw => by cases hw; exact h
end
end J
namespace J
open PySem PySem.Spec PyProof.Rows L2
section
variable {α β γ δ σ ρ κ : Type} {e : α → FV} {d : β → FV} {env : VEnv} {P : γ → SO → Prop} {tt : Option γ} {f g : DE} {D A B : DS} {o : OV}
theorem unO {x : Ans Rv} {v : Option α} {a : α} (h : x = .ok (.st (.fz (eO e v)))) (hv : v = some a) : x = .ok (.st (.fz (e a))) := by rw [h, hv]; rfl
theorem asO {x : Ans Rv} (o : Rv) (h : x = .ok o) : x = .ok o := h
theorem ev_frzX {x : FV} (h : f env = .ok (.st o)) (hx : o.fv = x) : dFrz f env = .ok (.st (.fz x)) := by rw [ev_frz h, hx]
theorem ev_callA {m : FM} {g : VEnv → Ans (List Rv)} {rs : List Rv} {as : List FV} (h : g env = .ok rs) (ha : rs.map Rv.fv = as) (h2 : m as = .ok o) (h3 : rs.all Rv.isFz = true ∨ o.clean = true) : dCall m g env = .ok (.st o) := ev_call h (by rw [ha]; exact h2) h3
theorem clean_L (h : EPu e) (v : List α) : (OV.ol (v.map e)).clean = true := h.L v
def appG (xs : List α) (x : α) : Option (List α) := if xs.length < BIG then some (xs ++ [x]) else none
theorem sg_appL {i : Nat} {xs v : List α} {x : α} (h : env[i]? = some (some (.ol (xs.map e)))) (h2 : f env = .ok (.st (.fz (e x)))) (hv : appG xs x = some v) (k : SG (D (env.set i (some (.ol (v.map e))))) tt P) : SG (dSeq (dApp i f) D env) tt P := by
  unfold appG at hv
  split at hv
  · cases hv
    rename_i q
    refine sg_app h rfl h2 (by show (xs.map e).length < BIG; rw [List.length_map]; exact q) ?_ k
    show some (OV.ol (xs.map e ++ [e x])) = _
    rw [List.map_append]; rfl
  · cases hv
def putG [DecidableEq κ] (l : List (κ × α)) (c : κ) (v : α) : Option (List (κ × α)) := if l.length < BIG then some (putKV l c v) else none
theorem sg_putK [DecidableEq κ] {i : Nat} {kk : κ → Key} {c : κ → FV} {l v : List (κ × α)} {x : α} {a : κ} {r : Rv} (hk : EKey kk c) (h : env[i]? = some (some (.oK (l.map fun p => (kk p.1, e p.2))))) (h2 : f env = .ok (.st (.fz (e x)))) (h3 : g env = .ok r) (h4 : r.fv = c a) (hv : putG l a x = some v) (k : SG (D (env.set i (some (.oK (v.map fun p => (kk p.1, e p.2)))))) tt P) : SG (dSeq (dPut i g f) D env) tt P := by
  unfold putG at hv
  split at hv
  · cases hv
    rename_i q
    rw [ev_seqN (ev_put (p := .oK (l.map fun p => (kk p.1, e p.2))) (p' := .oK ((putKV l a x).map fun p => (kk p.1, e p.2))) h rfl h2 h3 (by show (l.map _).length < BIG; rw [List.length_map]; exact q) ?_) rfl]
    · exact k
    · rw [h4]
      have : OV.put (.oK (l.map fun p => (kk p.1, e p.2))) (c a) (.fz (e x)) = (c a).key?.map fun k => OV.oK (putKV (l.map fun p => (kk p.1, e p.2)) k (e x)) := by
        unfold OV.put
        cases (c a) <;> rfl
      rw [this, hk.key, Option.map_some, put_map hk.inj]
  · cases hv
theorem eraseIdx_mp {α β : Type} {f : α → β} : ∀ (l : List α) (k : Nat), (l.map f).eraseIdx k = (l.eraseIdx k).map f
  | [], _ => rfl
  | _ :: _, 0 => rfl
  | x :: l, k + 1 => by rw [List.map_cons, List.eraseIdx_cons_succ, List.eraseIdx_cons_succ, List.map_cons, eraseIdx_mp l k]
def popG (xs ys : List α) (k : Int) : Option (List α × List α) := if xs.length < BIG ∧ ys.length ≤ BIG then (ixN ys.length k).bind fun m => (ys[m]?).map fun y => (xs ++ [y], ys.eraseIdx m) else none
theorem sg_appPop {i j : Nat} {xs ys : List α} {k : Int} {v : List α × List α} (h : env[i]? = some (some (.ol (xs.map e)))) (hj : env[j]? = some (some (.ol (ys.map e)))) (hij : i ≠ j) (h2 : f env = .ok (.st (.fz (.int k)))) (hv : popG xs ys k = some v) (kk : SG (D ((env.set j (some (.ol (v.2.map e)))).set i (some (.ol (v.1.map e))))) tt P) : SG (dSeq (dAppPop i j f) D env) tt P := by
  unfold popG at hv
  split at hv
  · rename_i q
    obtain ⟨m, hm, hv⟩ := Option.bind_eq_some_iff.mp hv
    obtain ⟨y, hy, hv⟩ := Option.map_eq_some_iff.mp hv
    subst hv
    rw [ev_seqN (e := (env.set j (some (.ol ((ys.eraseIdx m).map e)))).set i (some (.ol ((xs ++ [y]).map e)))) ?_ rfl]
    · exact kk
    · unfold dAppPop
      rw [h, hj]
      simp only
      rw [if_pos (by simp [OV.isL, OV.size, hij]; exact ⟨q.2, q.1⟩), h2, bind_ok]
      simp only [Rv.fv, Rv.ov, OV.fv]
      rw [List.length_map, hm]
      simp only
      rw [List.getElem?_map, hy]
      show Ans.ok (SO.nx ((env.set j (some (OV.ol ((ys.map e).eraseIdx m)))).set i (some (OV.ol (xs.map e ++ [e y]))))) = _
      rw [eraseIdx_mp, List.map_append]
      rfl
  · cases hv
theorem afz_nil : allFzE [] = true := rfl
theorem afz_F {x : FV} {r : VEnv} (h : allFzE r = true) : allFzE (some (.fz x) :: r) = true := by unfold allFzE at h ⊢; rw [List.all_cons, h]; rfl
theorem afz_N {r : VEnv} (h : allFzE r = true) : allFzE (none :: r) = true := by unfold allFzE at h ⊢; rw [List.all_cons, h]; rfl
theorem run_sg {n : Nat} {D : DS} {as : List FV} {O : ρ → OV} {t : Option ρ} (h : SG (D (startE n as)) t (PR O)) {v : ρ} (hv : t = some v) : runF n D as = .ok (O v) := by
  obtain ⟨so, h1, e2, rfl⟩ := h v hv
  exact ev_run h1
end
end J
namespace J
open PySem PySem.Spec PyProof.Rows L2
section
variable {α β γ : Type} {env : VEnv} {e : β → FV} {eA : α → FV} {P : γ → SO → Prop} {D : DS} {f : DE}
end
end J
namespace J
open PySem PySem.Spec PyProof.Rows L2
section
variable {α β γ : Type} {e : α → FV} {d : β → FV} {env : VEnv} {P : γ → SO → Prop} {tt : Option γ} {f g : DE} {D : DS} {o : OV}
theorem fvs_nil : ([] : List Rv).map Rv.fv = [] := rfl
theorem fvs_cons {r : Rv} {rs : List Rv} {a : FV} {as : List FV} (h : r.fv = a) (h2 : rs.map Rv.fv = as) : (r :: rs).map Rv.fv = a :: as := by rw [List.map_cons, h, h2]
end
end J
namespace J
open PySem PySem.Spec PyProof.Rows L2
section
variable {α β γ σ κ : Type} {e : α → FV} {c : κ → FV} {env : VEnv} {P : γ → SO → Prop} {tt : Option γ} {f g h : DE} {D body : DS} {o : OV}
theorem ev_chain {o1 o2 : OV → OV → Option OV} {x y z : Rv} {b1 b2 : Bool} (h1 : f env = .ok x) (h2 : g env = .ok y) (h3 : h env = .ok z) (e1 : o1 x.ov y.ov = some (.fz (.bl b1))) (e2 : o2 y.ov z.ov = some (.fz (.bl b2))) : dChain o1 o2 f g h env = .ok (.st (.fz (.bl (b1 && b2)))) := by
  unfold dChain
  rw [h1, bind_ok, h2, bind_ok, e1]
  cases b1 with
  | false => rfl
  | true =>
    simp only
    rw [h3, bind_ok, e2]
    rfl
def cutSG (s : List Chr) (lo hi : Option Int) : Option (List Chr) := if s.length ≤ BIG then some (cutF s lo hi) else none
theorem t_slS {s v : List Chr} {lo hi : Option Int} (h : cutSG s lo hi = some v) : opSl (.fz (eS s)) lo hi = some (.fz (eS v)) := by
  unfold cutSG at h
  split at h
  · rename_i hl
    cases h
    show (if (sxS s).length ≤ BIG then some (OV.fz (.str (cutS (sxS s) lo hi))) else none) = _
    rw [if_pos (by rw [sx_len]; exact hl)]
    have : cutS (sxS s) lo hi = sxS (cutF s lo hi) := by
      unfold cutS sxS cutF
      rw [show (⟨(s.map Fin.val).toArray⟩ : Str).length = s.length from sx_len s]
      simp [List.map_take, List.map_drop]
    rw [this]
  · cases h
structure ENd (e : α → FV) : Prop where
  p : ∀ a, (e a).noD = true
theorem noDL_of : ∀ {xs : List FV}, (∀ x ∈ xs, x.noD = true) → FV.noDL xs = true
  | [], _ => rfl
  | x :: xs, h => by
    unfold FV.noDL
    rw [h x List.mem_cons_self, noDL_of fun y hy => h y (List.mem_cons_of_mem _ hy)]
    rfl
theorem ENd.L (h : ENd e) (xs : List α) : FV.noDL (xs.map e) = true := noDL_of fun x hx => by
  obtain ⟨a, _, rfl⟩ := List.mem_map.mp hx
  exact h.p a
end
end J
namespace J
open PySem PySem.Spec PyProof.Rows L2
section
variable {α κ : Type} {e : α → FV} {env : VEnv} {D : DS} {tt : Option γ} {P : γ → SO → Prop}
end
end J
namespace J
open PySem PySem.Spec PyProof.Rows L2
section
variable {α β γ κ : Type} {e : α → FV} {env : VEnv} {D : DS} {tt : Option γ} {P : γ → SO → Prop}
def joinG (xs : List Chr) : Option (List Chr) := if xs.length ≤ BIG then some xs else none
theorem strs_C : ∀ xs : List Chr, strs? (xs.map eC) = some (xs.map fun c => (⟨#[c.val]⟩ : Str))
  | [] => rfl
  | c :: xs => by
    show (strs? (xs.map eC)).map (_ :: ·) = _
    rw [strs_C xs]
    rfl
theorem glue_C (xs : List Chr) : Txt.join (sxS []) (xs.map fun c => (⟨#[c.val]⟩ : Str)) = sxS xs := by
  have key : ∀ (xs : List Chr) (acc : Array Nat), (xs.map fun c => (⟨#[c.val]⟩ : Str)).foldl (fun acc p => acc ++ (sxS []).cps ++ p.cps) acc = acc ++ (xs.map Fin.val).toArray := fun xs => by
    induction xs with
    | nil => intro acc; simp
    | cons c xs ih =>
      intro acc
      rw [List.map_cons, List.foldl_cons, ih]
      simp [sxS]
  cases xs with
  | nil => rfl
  | cons c xs =>
    show (⟨(xs.map fun c => (⟨#[c.val]⟩ : Str)).foldl (fun acc p => acc ++ (sxS []).cps ++ p.cps) #[c.val]⟩ : Str) = _
    rw [key]
    unfold sxS
    simp
theorem t_join0 {xs v : List Chr} {x : OV} (hx : x = .ol (xs.map eC) ∨ x = .fz (eL eC xs)) (h : joinG xs = some v) : opJoin (.fz (eS [])) [x] = some (.fz (eS v)) := by
  unfold joinG at h
  split at h
  · rename_i q
    cases h
    have hs : x.seq? = some (xs.map eC) := by rcases hx with rfl | rfl <;> rfl
    show (x.seq?).bind _ = _
    rw [hs, Option.bind_some, strs_C, Option.bind_some]
    have l1 : ((xs.map fun c => (⟨#[c.val]⟩ : Str)).map (·.length)).sum = xs.length := by
      clear q hs hx
      induction xs with
      | nil => rfl
      | cons c xs ih => rw [List.map_cons, List.map_cons, List.sum_cons, ih, List.length_cons]; show 1 + xs.length = _; omega
    rw [if_pos, glue_C]
    rw [l1]
    show xs.length + _ * 0 ≤ BIG
    omega
  · cases h
abbrev eQ : Str → FV := FV.exc
def isEG (tab : List (Str × Bool)) : Option Str → Option Bool
  | none => some false
  | some c => tab.lookup c
theorem t_isE {tab : List (Str × Bool)} {v : Option Str} {b : Bool} (h : isEG tab v = some b) : opIsE tab (.fz (eO eQ v)) = some (.fz (.bl b)) := by
  cases v with
  | none => cases h; rfl
  | some c =>
    show (tab.lookup c).map _ = _
    rw [show tab.lookup c = some b from h]
    rfl
theorem sg_none {x : Ans SO} : SG x none P := fun _ h => nomatch h
theorem ne_of_if {p : Prop} [Decidable p] {u : Unit} (h : (if p then some () else none) = some u) : p := by
  by_cases q : p
  · exact q
  · rw [if_neg q] at h; cases h
end
end J
namespace J
open PySem PySem.Spec PyProof.Rows L2
section
variable {α β γ δ : Type} {env : VEnv} {D : DS} {tt : Option γ} {P : γ → SO → Prop} {c f k : Str} {o q : OV} {x : FV} {fo fe fk : DE} {g : VEnv → Ans (List Rv)} {rs : List Rv} {as : List FV}
def PI (O : γ → OV) (x : Addr) : γ → SO → Prop := fun v so => ∃ e, so = .nx e ∧ endI x e = .ok (O v)
end
section
variable {α β γ : Type} {e : α → FV} {d : β → FV} {c : γ → FV} {n m k : Nat}
end
end J
namespace J
open PySem PySem.Spec PyProof.Rows L2
section
variable {α γ κ : Type} {e : α → FV} {env : VEnv} {D A B : DS} {tt : Option γ} {P : γ → SO → Prop} {f : DE}
def SX (x : Ans SO) (tt : Option Str) : Prop := ∀ c, tt = some c → x = .ex c
theorem sx_bind {β : Type} {x : Ans SO} {o : Option β} {k : β → Option Str} (h : ∀ a, o = some a → SX x (k a)) : SX x (o.bind k) := fun v hv => by
  cases o with
  | none => cases hv
  | some a => exact h a rfl v hv
theorem sx_none {x : Ans SO} : SX x none := fun _ h => nomatch h
variable {tx : Option Str} {o : OV} {i : Nat}
theorem sx_env {env e2 : VEnv} (h : env = e2) (h2 : SX (D e2) tx) : SX (D env) tx := by rw [h]; exact h2
theorem sx_one (h : SX (dSeq D dSkip env) tx) : SX (D env) tx := fun c hc => by
  have h1 := h c hc
  rw [ev_seq] at h1
  cases hx : D env with
  | ok s =>
    rw [hx] at h1
    cases s <;> cases h1
  | ex c2 => rw [hx] at h1; exact h1
  | no => rw [hx] at h1; cases h1
theorem sx_assoc {C : DS} (h : SX (dSeq A (dSeq B C) env) tx) : SX (dSeq (dSeq A B) C env) tx := by
  have e : dSeq (dSeq A B) C env = dSeq A (dSeq B C) env := so_assoc (C := C) (A env)
  rw [e]; exact h
theorem sx_ice {x : FV} (h : env[i]? = some (some o)) (hx : o.fv = x) (h2 : SX (D (env.set i (some (.fz x)))) tx) : SX (dIce i D env) tx := by
  rw [ev_ice h, hx]; exact h2
theorem sx_iceS (h : SX (dIce i (dSeq A B) env) tx) : SX (dSeq (dIce i A) B env) tx := by
  have e : dSeq (dIce i A) B env = dIce i (dSeq A B) env := by
    rw [ev_seq]
    unfold dIce
    rcases env[i]? with _ | _ | o <;> rfl
  rw [e]; exact h
theorem sx_ifs {c : DT} {b : Bool} {t u : Option Str} (h : c env = .ok b) (h1 : b = true → SX (dSeq A D env) t) (h2 : b = false → SX (dSeq B D env) u) : SX (dSeq (dIf c A B) D env) (if b then t else u) := by
  have e : dSeq (dIf c A B) D env = if b then dSeq A D env else dSeq B D env := by
    rw [ev_seq]
    cases b with
    | true => rw [ev_ifT h]; rfl
    | false => rw [ev_ifF h]; rfl
  rw [e]
  cases b with
  | true => exact h1 rfl
  | false => exact h2 rfl
theorem sx_skip (h2 : SX (D env) tx) : SX (dSeq dSkip D env) tx := h2
theorem sx_raise {c : Str} : SX (dSeq (dRaise c) D env) (some c) := fun v hv => by
  cases hv
  rw [ev_seq]
  rfl
theorem sx_call {m : FM} {g : VEnv → Ans (List Rv)} {rs : List Rv} {as : List FV} {c : Str} (h : g env = .ok rs) (ha : rs.map Rv.fv = as) (h2 : m as = .ex c) : dCall m g env = .ex c := by
  unfold dCall
  rw [h, bind_ok, ha, h2]
  rfl
def forX {σ : Type} (fx : α → σ → Option Str) (f : α → σ → Option σ) : List α → σ → Option Str
  | [], _ => none
  | x :: xs, s => match fx x s with
    | some c => some c
    | none => (f x s).bind (forX fx f xs)
theorem forLX_sim {σ : Type} {eA : α → FV} {t : TgF} {body : DS} {E : σ → VEnv → Prop} {tb : α → σ → Option σ} {fx : α → σ → Option Str} (hb : ∀ x s e, E s e → ∃ e1, t (eA x) e = some e1 ∧ SG (body e1) (tb x s) (PN E) ∧ SX (body e1) (fx x s)) :
    ∀ (items : List α) (s : σ) (env : VEnv), E s env → ∀ c, forX fx tb items s = some c → forL t body (items.map eA) env = .ex c
  | [], s, env, h, c, hc => nomatch hc
  | x :: xs, s, env, h, c, hc => by
    obtain ⟨e1, q1, q2, q3⟩ := hb x s env h
    unfold forX at hc
    rw [List.map_cons]
    unfold forL
    rw [q1]
    simp only
    cases hx : fx x s with
    | some c2 =>
      rw [hx] at hc
      simp only at hc
      cases hc
      rw [q3 c hx]
      rfl
    | none =>
      rw [hx] at hc
      simp only at hc
      obtain ⟨s', e2, hc⟩ := Option.bind_eq_some_iff.mp hc
      obtain ⟨so, r1, e2, rfl, r2⟩ := q2 s' e2
      rw [r1]
      exact forLX_sim hb xs s' e2 r2 c hc
theorem sx_for {σ : Type} {it : VEnv → Ans (List FV)} {eA : α → FV} {t : TgF} {body : DS} (E : σ → VEnv → Prop) {tb : α → σ → Option σ} {fx : α → σ → Option Str} {items : List α} {s : σ} (hi : it env = .ok (items.map eA)) (h : E s env) (hb : ∀ x s e, E s e → ∃ e1, t (eA x) e = some e1 ∧ SG (body e1) (tb x s) (PN E) ∧ SX (body e1) (fx x s)) :
    SX (dSeq (dFor it t body) D env) (forX fx tb items s) := fun c hc => by
  rw [ev_seq]
  unfold dFor
  rw [hi, bind_ok, forLX_sim hb items s env h c hc]
  rfl
theorem sx_iceF {x : FV} (h : env[i]? = some (some (.fz x))) (h2 : SX (D env) tx) : SX (dIce i D env) tx := fun c hc => by
  have k := sg_iceF (D := dSkip) (tt := some ()) (P := fun _ so => so = .nx env) h (fun _ _ => ⟨_, rfl, rfl⟩)
  have hset : env.set i (some (.fz x)) = env := by
    apply List.ext_getElem?
    intro j
    by_cases hj : i = j
    · subst hj
      rw [List.getElem?_set_self (List.getElem?_eq_some_iff.mp h).1, h]
    · rw [List.getElem?_set_ne hj]
  rw [ev_ice h]
  show D (env.set i (some (.fz x))) = _
  rw [hset]
  exact h2 c hc
theorem sx_of {S D : DS} {env e2 : VEnv} (h : ∀ (tt : Option Unit) (P : Unit → SO → Prop), SG (dSkip e2) tt P → SG (dSeq S dSkip env) tt P) (k : SX (D e2) tx) : SX (dSeq S D env) tx := fun c hc => by
  obtain ⟨so, h1, h2⟩ := h (some ()) (fun _ so => so = .nx e2) (fun _ _ => ⟨_, rfl, rfl⟩) () rfl
  subst h2
  rw [ev_seq] at h1 ⊢
  cases hs : S env with
  | ok s =>
    rw [hs] at h1
    cases s with
    | nx e3 =>
      cases h1
      exact k c hc
    | rt o e3 => cases h1
    | bk e3 => cases h1
    | ct e3 => cases h1
  | ex c2 => rw [hs] at h1; cases h1
  | no => rw [hs] at h1; cases h1
def orX (a b : Option Str) : Option Str := match a with
  | some c => some c
  | none => b
theorem sx_or {a b : Option Str} {x : Ans SO} (h : ∀ c, a = some c → x = .ex c) (k : SX x b) : SX x (orX a b) := fun c hc => by
  cases a with
  | some c2 => cases hc; exact h c rfl
  | none => exact k c hc
theorem exSet {c : Str} (h : f env = .ex c) : dSeq (dSet i f) D env = .ex c := by
  rw [ev_seq]
  unfold dSet
  rw [h]
  rfl
theorem exFrz {c : Str} (h : f env = .ex c) : dFrz f env = .ex c := by
  unfold dFrz
  rw [h]
  rfl
theorem run_sx {n : Nat} {D : DS} {as : List FV} {t : Option Str} (h : SX (D (startE n as)) t) {c : Str} (hv : t = some c) : runF n D as = .ex c := by
  unfold runF
  rw [h c hv]
end
end J
set_option maxHeartbeats 4000000
namespace J
open PySem PySem.Spec PyProof.Rows L2
section
variable {env : VEnv} {α β γ : Type} {e : α → FV} {d : β → FV} {D : DS} {tt : Option γ} {P : γ → SO → Prop}
end
end J
set_option maxHeartbeats 4000000
namespace J
open PySem PySem.Spec PyProof.Rows L2
section
variable {α β : Type} {e : α → FV} {d : β → FV} {n m : Nat}
end
end J
namespace J
open PySem PySem.Spec PyProof.Rows L2
def splitT (a b : List Chr) : List (List Chr) :=
  if (decide ((sxS a).length < (sxS b).length) || decide (Builtin.Str.strKind (sxS a) < Builtin.Str.strKind (sxS b))) = true then [a] else
  if (Builtin.Str.occurrences (sxS a) (sxS b) 0 (sxS a).length ((sxS a).length + 1)).isEmpty = true then [a] else
  (((0 :: (Builtin.Str.occurrences (sxS a) (sxS b) 0 (sxS a).length ((sxS a).length + 1)).map (· + (sxS b).length)).zip ((Builtin.Str.occurrences (sxS a) (sxS b) 0 (sxS a).length ((sxS a).length + 1)) ++ [(sxS a).length]))).map fun p => (a.drop p.1).take (p.2 - p.1)
theorem sub_sx (a : List Chr) (i j : Nat) : Builtin.Str.strSub (sxS a) i j = sxS ((a.drop i).take (j - i)) := by
  unfold Builtin.Str.strSub sxS
  congr 1
  apply Array.ext'
  rw [Array.toList_extract]
  simp [List.extract_eq_drop_take, List.map_take, List.map_drop]
theorem split_sx (a b : List Chr) : Txt.split (sxS a) (sxS b) = (splitT a b).map sxS := by
  unfold Txt.split splitT
  split
  · rfl
  · split
    · rfl
    · unfold Builtin.Str.partsBetween
      rw [List.map_map]
      refine List.map_congr_left fun p _ => ?_
      exact sub_sx a p.1 p.2
theorem splitT_ne (a b : List Chr) : splitT a b ≠ [] := by
  unfold splitT
  split
  · simp
  · split
    · simp
    · intro h
      rw [List.map_eq_nil_iff] at h
      have := congrArg List.length h
      simp at this
theorem splitT_part {a b p : List Chr} (h : p ∈ splitT a b) : p.length ≤ a.length ∧ ∀ c ∈ p, c ∈ a := by
  unfold splitT at h
  split at h
  · rw [List.mem_singleton.mp h]; exact ⟨Nat.le_refl _, fun _ z => z⟩
  · split at h
    · rw [List.mem_singleton.mp h]; exact ⟨Nat.le_refl _, fun _ z => z⟩
    · obtain ⟨q, _, rfl⟩ := List.mem_map.mp h
      refine ⟨?_, fun c hc => List.mem_of_mem_drop (List.mem_of_mem_take hc)⟩
      rw [List.length_take, List.length_drop]
      omega
theorem splitT_len (a b : List Chr) : (splitT a b).length ≤ a.length + 2 := by
  have h := PyProof.Rows.split_le (sxS a) (sxS b)
  rw [split_sx, List.length_map, sx_len] at h
  omega
section
variable {α β γ κ : Type} {e : α → FV} {d : β → FV} {env : VEnv} {D A B : DS} {tt : Option γ} {P : γ → SO → Prop} {f : DE}
def splitG (a b : List Chr) : Option (List (List Chr)) := if b ≠ [] ∧ a.length + 2 ≤ BIG then some (splitT a b) else none
theorem t_split {a b : List Chr} {v : List (List Chr)} (h : splitG a b = some v) : opSplit (.fz (eS a)) [.fz (eS b)] = some (.ol (v.map eS)) := by
  unfold splitG at h
  split at h
  · rename_i q
    cases h
    show (if (sxS b).length ≠ 0 ∧ (sxS a).length + 2 ≤ BIG then some (OV.ol ((Txt.split (sxS a) (sxS b)).map .str)) else none) = _
    rw [sx_len, sx_len, if_pos ⟨fun z => q.1 (List.eq_nil_of_length_eq_zero z), q.2⟩, split_sx, List.map_map]
    rfl
  · cases h
theorem strs_S : ∀ xs : List (List Chr), strs? (xs.map eS) = some (xs.map sxS)
  | [] => rfl
  | x :: xs => by
    show (strs? (xs.map eS)).map (_ :: ·) = _
    rw [strs_S xs]
    rfl
theorem count_sx (b : List Chr) : ∀ xs : List (List Chr), (xs.map sxS).count (sxS b) = xs.count b
  | [] => rfl
  | x :: xs => by
    rw [List.map_cons, List.count_cons, List.count_cons, count_sx b xs]
    congr 1
    by_cases h : x = b
    · subst h; simp
    · rw [if_neg (by simpa using fun z => h (sxS_inj z)), if_neg (by simpa using h)]
theorem t_lcount {a : List (List Chr)} {b : List Chr} {x : OV} (hx : x = .ol (a.map eS) ∨ x = .fz (eL eS a)) : opLcount x [.fz (eS b)] = some (.fz (eI ((a.count b : Nat) : Int))) := by
  have hl : x.lst? = some (a.map eS) := by rcases hx with rfl | rfl <;> rfl
  show (x.lst?).bind _ = _
  rw [hl, Option.bind_some, strs_S, Option.map_some, count_sx]
def joinT (sep : List Chr) : List (List Chr) → List Chr
  | [] => []
  | x :: xs => x ++ (xs.map fun y => sep ++ y).flatten
theorem glue_S (sep : List Chr) (xs : List (List Chr)) : Txt.join (sxS sep) (xs.map sxS) = sxS (joinT sep xs) := by
  have key : ∀ (xs : List (List Chr)) (acc : Array Nat), (xs.map sxS).foldl (fun acc p => acc ++ (sxS sep).cps ++ p.cps) acc = acc ++ (((xs.map fun y => sep ++ y).flatten).map Fin.val).toArray := fun xs => by
    induction xs with
    | nil => intro acc; simp
    | cons x xs ih =>
      intro acc
      rw [List.map_cons, List.foldl_cons, ih]
      simp [sxS]
  cases xs with
  | nil => rfl
  | cons x xs =>
    show (⟨(xs.map sxS).foldl (fun acc p => acc ++ (sxS sep).cps ++ p.cps) (sxS x).cps⟩ : Str) = _
    rw [key]
    unfold sxS joinT
    simp
def joinSG (sep : List Chr) (xs : List (List Chr)) : Option (List Chr) := if (xs.map List.length).sum + xs.length * sep.length ≤ BIG then some (joinT sep xs) else none
theorem t_joinS {sep v : List Chr} {xs : List (List Chr)} {x : OV} (hx : x = .ol (xs.map eS) ∨ x = .fz (eL eS xs)) (h : joinSG sep xs = some v) : opJoin (.fz (eS sep)) [x] = some (.fz (eS v)) := by
  unfold joinSG at h
  split at h
  · rename_i q
    cases h
    have hs : x.seq? = some (xs.map eS) := by rcases hx with rfl | rfl <;> rfl
    show (x.seq?).bind _ = _
    rw [hs, Option.bind_some, strs_S, Option.bind_some]
    have l1 : (xs.map sxS).map (·.length) = xs.map List.length := by
      rw [List.map_map]
      exact List.map_congr_left fun x _ => sx_len x
    rw [if_pos, glue_S]
    rw [l1, List.length_map, sx_len]
    exact q
  · cases h
def unS (z : Str) : List Chr := z.cps.toList.map fun n => Fin.ofNat 128 n
theorem unS_ok {z : Str} (h : z.cps.all (· < 128) = true) : sxS (unS z) = z := by
  obtain ⟨a⟩ := z
  unfold sxS unS
  congr 1
  apply Array.ext'
  rw [List.toList_toArray, List.map_map]
  refine (List.map_congr_left fun n hn => ?_).trans (List.map_id _)
  have : n < 128 := by
    have := Array.all_eq_true'.mp h n (by simpa using hn)
    simpa using this
  show n % 128 = n
  exact Nat.mod_eq_of_lt this
def txt? : FV → Option (List Chr)
  | .str z => if z.cps.all (· < 128) = true then some (unS z) else none
  | _ => none
theorem unS_sx (s : List Chr) : unS (sxS s) = s := by
  unfold unS sxS
  simp only
  rw [List.map_map]
  refine (List.map_congr_left fun n hn => ?_).trans (List.map_id _)
  apply Fin.ext
  show n.val % 128 = n.val
  exact Nat.mod_eq_of_lt n.isLt
theorem sx_lt (s : List Chr) : (sxS s).cps.all (· < 128) = true := by
  unfold sxS
  simp
theorem txt_eS (s : List Chr) : txt? (eS s) = some s := by
  show (if (sxS s).cps.all (· < 128) = true then some (unS (sxS s)) else none) = _
  rw [if_pos (sx_lt s), unS_sx]
theorem txt_eq {x : FV} {s : List Chr} (h : txt? x = some s) : x = eS s := by
  unfold txt? at h
  split at h
  · split at h
    · cases h
      rename_i q
      show _ = FV.str _
      rw [unS_ok q]
    · cases h
  · cases h
theorem it_str {f : DE} {s : List Chr} (h : f env = .ok (.st (.fz (eS s)))) : dItems f env = .ok (s.map eC) := by
  unfold dItems
  rw [h]
  show Ans.ok ((sxS s).cps.toList.map fun c => FV.str ⟨#[c]⟩) = _
  rw [sx_list, List.map_map]
  rfl
theorem nnQ : NN eQ := ⟨fun _ => rfl⟩
abbrev eX : FV → FV := fun x => x
theorem unXS {f : DE} {x : FV} {s : List Chr} (p : f env = .ok (.st (.fz (eX x)))) (h : txt? x = some s) : f env = .ok (.st (.fz (eS s))) := by
  rw [p, show eX x = eS s from txt_eq h]
def isaXG (Ts : List String) (x : FV) : Option Bool := match opIsa Ts (.fz x) with
  | some (.fz (.bl b)) => some b
  | _ => none
theorem t_isaX {Ts : List String} {x : FV} {b : Bool} (h : isaXG Ts x = some b) : opIsa Ts (.fz (eX x)) = some (.fz (.bl b)) := by
  unfold isaXG at h
  split at h
  · cases h; assumption
  · cases h
def sg1 : List Chr → Option Chr
  | [c] => some c
  | _ => none
theorem sg1_eq {s : List Chr} {c : Chr} (h : sg1 s = some c) : s = [c] := by
  unfold sg1 at h
  split at h
  · cases h; rfl
  · cases h
theorem unSC {f : DE} {s : List Chr} {c : Chr} (p : f env = .ok (.st (.fz (eS s)))) (h : sg1 s = some c) : f env = .ok (.st (.fz (eC c))) := by
  rw [p, sg1_eq h]
  rfl
def sgs : List (List Chr) → Option (List Chr)
  | [] => some []
  | s :: r => (sg1 s).bind fun c => (sgs r).bind fun cs => some (c :: cs)
theorem sgs_eq : ∀ {l : List (List Chr)} {cs : List Chr}, sgs l = some cs → l = cs.map fun c => [c]
  | [], _, h => by cases h; rfl
  | s :: r, cs, h => by
    unfold sgs at h
    obtain ⟨c, h1, h⟩ := Option.bind_eq_some_iff.mp h
    obtain ⟨ds, h2, h⟩ := Option.bind_eq_some_iff.mp h
    cases h
    rw [sg1_eq h1, sgs_eq h2]
    rfl
theorem mapSC (cs : List Chr) : (cs.map fun c => [c]).map eS = cs.map eC := by
  rw [List.map_map]
  exact List.map_congr_left fun c _ => rfl
theorem unTSC {f : DE} {l : List (List Chr)} {cs : List Chr} (p : f env = .ok (.st (.fz (eT eS l)))) (h : sgs l = some cs) : f env = .ok (.st (.fz (eT eC cs))) := by
  rw [p, sgs_eq h]
  show Ans.ok (Rv.st (.fz (.tup ((cs.map fun c => [c]).map eS)))) = _
  rw [mapSC]
theorem coLCS {f : DE} {cs : List Chr} (p : f env = .ok (.st (.ol (cs.map eC)))) : f env = .ok (.st (.ol ((cs.map fun c => [c]).map eS))) := by
  rw [p, mapSC]
def tryA (L : List Str) (a : Option α) (x : Option Str) : Option (Option α × Option Str) := match a with
  | some v => some (some v, none)
  | none => match x with
    | some c => if L.contains c = true then some (none, some c) else none
    | none => none
def TryOutA (f : DE) (env : VEnv) (L : List Str) (e : α → FV) : Option α × Option Str → Prop
  | (some v, none) => f env = .ok (.st (.fz (e v)))
  | (none, some c) => f env = .ex c ∧ L.contains c = true
  | _ => False
theorem try_callA {m : FM} {g : VEnv → Ans (List Rv)} {rs : List Rv} {as : List FV} {a : Option α} {x : Option Str} {O : α → OV} {v : Option α × Option Str} {L : List Str} (hg : g env = .ok rs) (ha : rs.map Rv.fv = as) (hz : rs.all Rv.isFz = true) (hO : ∀ w, (O w).fv = e w) (h1 : ∀ w, a = some w → m as = .ok (O w)) (h2 : ∀ c, x = some c → m as = .ex c) (hv : tryA L a x = some v) : TryOutA (dFrz (dCall m g)) env L e v := by
  have run : dCall m g env = (m as).bind fun o => if rs.all Rv.isFz || o.clean then .ok (.st o) else .no := by
    unfold dCall
    rw [hg, bind_ok, ha]
  cases a with
  | some w =>
    cases hv
    show dFrz (dCall m g) env = _
    refine ev_frzX (o := O w) ?_ (hO w)
    rw [run, h1 w rfl, bind_ok, hz]
    rfl
  | none =>
    cases x with
    | none => cases hv
    | some c =>
      unfold tryA at hv
      simp only at hv
      split at hv
      · rename_i hc
        cases hv
        exact ⟨exFrz (by rw [run, h2 c rfl]; rfl), hc⟩
      · cases hv
theorem sg_tryA {L : List Str} {k i j : Nat} {f : DE} {v : Option α × Option Str} (hi : env[i]? = some none) (hk : env[k]? = some (some (.fz .non))) (hj : env[j]? = some (some (.fz .non))) (hkj : k ≠ j) (h : TryOutA f env L e v) (q : SG (D ((env.set k (some (.fz (eO e v.1)))).set j (some (.fz (eO eQ v.2))))) tt P) : SG (dSeq (dTryA L f k i j) D env) tt P := by
  obtain ⟨a, b⟩ := v
  cases a with
  | some v =>
    cases b with
    | some c => exact h.elim
    | none =>
      have h : f env = .ok (.st (.fz (e v))) := h
      rw [ev_seqN (e := env.set k (some (.fz (e v)))) ?_ rfl]
      · have q : SG (D ((env.set k (some (.fz (e v)))).set j (some (.fz .non)))) tt P := q
        rw [set_same (env := env.set k _) (by rw [List.getElem?_set_ne hkj]; exact hj)] at q
        exact q
      · unfold dTryA
        rw [hi]
        simp only
        rw [h]
  | none =>
    cases b with
    | none => exact h.elim
    | some c =>
      obtain ⟨h1, h2⟩ := h
      rw [ev_seqN (e := env.set j (some (.fz (.exc c)))) ?_ rfl]
      · have q : SG (D ((env.set k (some (.fz .non))).set j (some (.fz (.exc c))))) tt P := q
        rw [set_same hk] at q
        exact q
      · unfold dTryA
        rw [hi]
        simp only
        rw [h1]
        simp only
        rw [if_pos h2]
theorem lcX_sim {t : TgF} {c : DT} {f : DE} {env : VEnv} {tc : α → Option Bool} {te : α → Option β} (h : ∀ x, ∃ e1, t (e x) env = some e1 ∧ OE (c e1) (tc x) id ∧ OE (f e1) (te x) fun y => .st (.fz (d y))) :
    ∀ {items : List α} {ys : List β}, lcT tc te items = some ys → lcX t c f env (items.map e) = .ok (ys.map d)
  | [], ys, q => by cases q; rfl
  | x :: xs, ys, q => by
    obtain ⟨e1, h1, h2, h3⟩ := h x
    unfold lcT at q
    rw [List.map_cons]
    unfold lcX
    rw [h1]
    simp only
    cases hc : tc x with
    | none => rw [hc] at q; cases q
    | some b =>
      rw [hc] at q
      rw [h2 b hc]
      simp only [id, Option.bind_some, bind_ok] at q ⊢
      cases b with
      | false =>
        simp only [Bool.false_eq_true, if_false] at q ⊢
        exact lcX_sim h q
      | true =>
        simp only [if_true] at q ⊢
        cases he : te x with
        | none => rw [he] at q; cases q
        | some y =>
          rw [he] at q
          rw [h3 y he]
          cases hr : lcT tc te xs with
          | none => rw [hr] at q; cases q
          | some zs =>
            rw [hr] at q
            simp only [Option.bind_some, bind_ok] at q ⊢
            cases q
            rw [lcX_sim h hr]
            rfl
theorem ev_lcX {it : VEnv → Ans (List FV)} {t : TgF} {c : DT} {f : DE} {vs : List Nat} {env : VEnv} {tc : α → Option Bool} {te : α → Option β} {items : List α} {ys : List β} (hi : it env = .ok (items.map e)) (h : ∀ x, ∃ e1, t (e x) (frzE (wipeE env vs)) = some e1 ∧ OE (c e1) (tc x) id ∧ OE (f e1) (te x) fun y => .st (.fz (d y)))
    (hz : allFzE env = true ∨ EPu d) (hl : items.length ≤ BIG) (hv : lcG tc te items = some ys) : dLcX it t c f vs env = .ok (.st (.ol (ys.map d))) := by
  obtain ⟨h1, h2⟩ := lcG_some hv
  unfold dLcX
  rw [hi, bind_ok, if_pos (by rw [List.length_map]; exact hl), lcX_sim h h1, bind_ok, if_pos]
  rw [Bool.or_eq_true]
  exact hz.imp id fun p => p.L ys
def lcR (te : α → Option β) (tx : α → Option Str) : List α → Option Str
  | [] => none
  | x :: xs => match tx x with
    | some c => some c
    | none => (te x).bind fun _ => lcR te tx xs
theorem lcR_sim {t : TgF} {f : DE} {env : VEnv} {te : α → Option β} {tx : α → Option Str} (h : ∀ x, ∃ e1, t (e x) env = some e1 ∧ OE (f e1) (te x) (fun y => .st (.fz (d y))) ∧ ∀ c, tx x = some c → f e1 = .ex c) :
    ∀ {items : List α} {c : Str}, lcR te tx items = some c → lcX t dTrue f env (items.map e) = .ex c
  | [], c, q => nomatch q
  | x :: xs, c, q => by
    obtain ⟨e1, h1, h2, h3⟩ := h x
    unfold lcR at q
    rw [List.map_cons]
    unfold lcX
    rw [h1]
    simp only
    rw [show dTrue e1 = .ok true from rfl, bind_ok, if_pos rfl]
    cases hx : tx x with
    | some c2 =>
      rw [hx] at q
      cases q
      rw [h3 c hx]
      rfl
    | none =>
      rw [hx] at q
      simp only at q
      obtain ⟨y, hy, q⟩ := Option.bind_eq_some_iff.mp q
      rw [h2 y hy, bind_ok]
      simp only
      rw [lcR_sim h q]
      rfl
theorem exLcX {it : VEnv → Ans (List FV)} {t : TgF} {f : DE} {vs : List Nat} {env : VEnv} {te : α → Option β} {tx : α → Option Str} {items : List α} {c : Str} (hi : it env = .ok (items.map e)) (h : ∀ x, ∃ e1, t (e x) (frzE (wipeE env vs)) = some e1 ∧ OE (f e1) (te x) (fun y => .st (.fz (d y))) ∧ ∀ c, tx x = some c → f e1 = .ex c)
    (hl : items.length ≤ BIG) (hv : lcR te tx items = some c) : dLcX it t dTrue f vs env = .ex c := by
  unfold dLcX
  rw [hi, bind_ok, if_pos (by rw [List.length_map]; exact hl), lcR_sim h hv]
  rfl
end
end J
namespace J
open PySem PySem.Spec PyProof.Rows L2
section
variable {α β γ σ ρ κ : Type}
theorem bindS {a : α} {f : α → Option β} : (some a).bind f = f a := rfl
theorem bigL {n : Nat} (h : n ≤ 100000) : n ≤ BIG := Nat.le_trans h (by decide)
theorem bigT {n : Nat} (h : n ≤ 100000) : n < BIG := Nat.lt_of_le_of_lt h (by decide)
theorem forT_inv {f : α → σ → Option σ} (I : Nat → σ → Prop) : ∀ {xs : List α} {n : Nat} {s : σ}, I n s → (∀ i x s, xs[i]? = some x → I (n + i) s → ∃ s', f x s = some s' ∧ I (n + i + 1) s') → ∃ s', forT f xs s = some s' ∧ I (n + xs.length) s'
  | [], n, s, h, _ => ⟨s, rfl, h⟩
  | x :: xs, n, s, h, hs => by
    obtain ⟨s', h1, h2⟩ := hs 0 x s rfl h
    obtain ⟨r, k1, k2⟩ := forT_inv (f := f) I (xs := xs) (n := n + 1) h2 fun i y s hy hi => by
      have e : n + 1 + i = n + (i + 1) := by omega
      rw [e] at hi ⊢
      exact hs (i + 1) y s (by simpa using hy) hi
    refine ⟨r, ?_, ?_⟩
    · unfold forT; rw [h1]; exact k1
    · rw [List.length_cons, show n + (xs.length + 1) = n + 1 + xs.length by omega]; exact k2
theorem forT_inv0 {f : α → σ → Option σ} (I : Nat → σ → Prop) {xs : List α} {s : σ} (h0 : I 0 s) (hs : ∀ i x s, xs[i]? = some x → I i s → ∃ s', f x s = some s' ∧ I (i + 1) s') : ∃ s', forT f xs s = some s' ∧ I xs.length s' := by
  have := forT_inv (f := f) I (xs := xs) (n := 0) h0 fun i x s hx hi => by
    rw [Nat.zero_add] at hi ⊢
    exact hs i x s hx hi
  rw [Nat.zero_add] at this
  exact this
theorem forC_all {f : α → Unit → Option (Ctl Unit ρ)} {p : α → Bool} {r : ρ} : ∀ {xs : List α}, (∀ x ∈ xs, f x () = some (if p x then .nx () else .rt r)) → forC f xs () = some (if xs.all p then .nx () else .rt r)
  | [], _ => rfl
  | x :: xs, h => by
    unfold forC
    rw [h x List.mem_cons_self, bindS, List.all_cons]
    cases p x with
    | false => rfl
    | true =>
      simp only [if_true, Bool.true_and]
      exact forC_all fun y hy => h y (List.mem_cons_of_mem _ hy)
theorem lcT_ok {c : α → Option Bool} {g : α → Option β} {p : α → Bool} {h : α → β} : ∀ {xs : List α}, (∀ x ∈ xs, c x = some (p x) ∧ (p x = true → g x = some (h x))) → lcT c g xs = some ((xs.filter p).map h)
  | [], _ => rfl
  | x :: xs, q => by
    obtain ⟨h1, h2⟩ := q x List.mem_cons_self
    unfold lcT
    rw [h1, bindS, lcT_ok fun y hy => q y (List.mem_cons_of_mem _ hy)]
    cases hp : p x with
    | false => rw [if_neg Bool.false_ne_true, List.filter_cons_of_neg (by rw [hp]; decide)]
    | true => rw [if_pos rfl, h2 hp, List.filter_cons_of_pos hp]; rfl
theorem lcG_ok {c : α → Option Bool} {g : α → Option β} {p : α → Bool} {h : α → β} {xs : List α} (q : ∀ x ∈ xs, c x = some (p x) ∧ (p x = true → g x = some (h x))) (hl : xs.length ≤ 100000) : lcG c g xs = some ((xs.filter p).map h) := by
  unfold lcG
  rw [lcT_ok q, bindS, if_pos]
  rw [List.length_map]
  exact bigL (Nat.le_trans (List.length_filter_le _ _) hl)
theorem lcG_map {c : α → Option Bool} {g : α → Option β} {h : α → β} {xs : List α} (q : ∀ x ∈ xs, c x = some true ∧ g x = some (h x)) (hl : xs.length ≤ 100000) : lcG c g xs = some (xs.map h) := by
  have := lcG_ok (p := fun _ => true) (fun x hx => ⟨(q x hx).1, fun _ => (q x hx).2⟩) hl
  rw [List.filter_eq_self.mpr fun _ _ => rfl] at this
  exact this
theorem rangeN {n : Int} (m : Nat) (e : n = (m : Int)) (h : m ≤ 100000) : rangeG n = some ((List.range m).map fun i => ((i : Nat) : Int)) := by
  unfold rangeG
  rw [if_pos (by omega), e, Int.toNat_natCast]
theorem modN {a b : Int} (h : 0 < b) : modG a b = some (a % b) := if_pos h
theorem atN {xs : List α} {i : Int} {n : Nat} (e : i = (n : Int)) (h : n < xs.length) : atI xs i = some (xs[n]'h) := by
  unfold atI ixN
  rw [e, if_pos (by omega), if_pos (by omega), Option.bind_some, Int.toNat_natCast, List.getElem?_eq_getElem h]
theorem atQ {xs : List α} {i : Int} {n : Nat} {x : α} (e : i = (n : Int)) (h : xs[n]? = some x) : atI xs i = some x := by
  obtain ⟨hl, rfl⟩ := List.getElem?_eq_some_iff.mp h
  exact atN e hl
theorem appN {xs : List α} {x : α} (h : xs.length ≤ 100000) : appG xs x = some (xs ++ [x]) := if_pos (bigT h)
theorem catN {xs ys : List α} (h : xs.length + ys.length ≤ 100000) : catG xs ys = some (xs ++ ys) := if_pos (bigL h)
theorem putKV_keys [DecidableEq κ] {l : List (κ × α)} {k : κ} {v : α} : (putKV l k v).map (·.1) = if k ∈ l.map (·.1) then l.map (·.1) else l.map (·.1) ++ [k] := by
  unfold putKV
  have e : l.any (fun kv => decide (kv.1 = k)) = decide (k ∈ l.map (·.1)) := by
    by_cases h : k ∈ l.map (·.1)
    · rw [decide_eq_true h]
      obtain ⟨x, h1, h2⟩ := List.mem_map.mp h
      exact List.any_eq_true.mpr ⟨x, h1, decide_eq_true h2⟩
    · rw [decide_eq_false h]
      exact List.any_eq_false.mpr fun x hx => by simpa using fun e => h (List.mem_map.mpr ⟨x, hx, e⟩)
  rw [e]
  by_cases h : k ∈ l.map (·.1)
  · rw [decide_eq_true h, if_pos rfl, if_pos h, List.map_map]
    refine List.map_congr_left fun x _ => ?_
    show (if x.1 = k then (x.1, v) else x).1 = x.1
    split <;> rfl
  · rw [decide_eq_false h, if_neg Bool.false_ne_true, if_neg h, List.map_append]
    rfl
theorem putKV_len [DecidableEq κ] {l : List (κ × α)} {k : κ} {v : α} : (putKV l k v).length ≤ l.length + 1 := by
  unfold putKV
  split
  · rw [List.length_map]; omega
  · rw [List.length_append]; exact Nat.le_refl _
theorem putN [DecidableEq κ] {l : List (κ × α)} {k : κ} {v : α} (h : l.length ≤ 100000) : putG l k v = some (putKV l k v) := if_pos (bigT h)
theorem putKV_nodup [DecidableEq κ] {l : List (κ × α)} {k : κ} {v : α} (h : (l.map (·.1)).Nodup) : ((putKV l k v).map (·.1)).Nodup := by
  rw [putKV_keys]
  split
  · exact h
  · rename_i q
    rw [List.nodup_append]
    exact ⟨h, by simp, fun a ha b hb e => q (by rw [List.mem_singleton] at hb; rw [← hb, ← e]; exact ha)⟩
theorem forT_keys [DecidableEq κ] {f : α → List (κ × β) → Option (List (κ × β))} {k : α → κ} {v : α → β} {N : Nat} (hN : N ≤ 100000) : ∀ {xs : List α} {l : List (κ × β)}, (∀ x ∈ xs, ∀ l : List (κ × β), l.length ≤ N → f x l = some (putKV l (k x) (v x))) → l.length + xs.length ≤ N → (l.map (·.1)).Nodup →
    ∃ l', forT f xs l = some l' ∧ (∀ c, c ∈ l'.map (·.1) ↔ c ∈ l.map (·.1) ∨ c ∈ xs.map k) ∧ (l'.map (·.1)).Nodup ∧ l'.length ≤ l.length + xs.length
  | [], l, _, _, h => ⟨l, rfl, fun c => by simp, h, Nat.le_refl _⟩
  | x :: xs, l, h, hl, hn => by
    rw [List.length_cons] at hl
    have h1 := putKV_len (l := l) (k := k x) (v := v x)
    obtain ⟨l', q1, q2, q3, q4⟩ := forT_keys hN (xs := xs) (l := putKV l (k x) (v x)) (fun y hy => h y (List.mem_cons_of_mem _ hy)) (by omega) (putKV_nodup hn)
    refine ⟨l', ?_, fun c => ?_, q3, by rw [List.length_cons]; omega⟩
    · unfold forT
      rw [h x List.mem_cons_self l (by omega)]
      exact q1
    · rw [q2, putKV_keys, List.map_cons, List.mem_cons]
      split
      · rename_i hk
        exact ⟨fun z => z.elim .inl fun z => .inr (.inr z), fun z => z.elim .inl fun z => z.elim (fun z => .inl (by rw [z]; exact hk)) .inr⟩
      · rw [List.mem_append, List.mem_singleton, or_assoc]
end
theorem le_s1 (a b : Nat) : PySem.W.dataLe false FV.enc (s1 a) (s1 b) = decide (a ≤ b) := by
  have h := congrFun (congrFun (PySem.W.dataLe_str (k := fun n : Nat => (⟨#[n]⟩ : Str))) a) b
  have e : PySem.W.dataLe false FV.enc (s1 a) (s1 b) = PySem.W.dataLe false (fun n : Nat => PyData.str ⟨#[n]⟩) a b := rfl
  rw [e, h]
  have : ([a] ≤ [b]) ↔ a ≤ b := by rw [List.cons_le_cons_iff]; simp; omega
  show decide ([a] ≤ [b]) = decide (a ≤ b)
  simp only [this]
theorem sortOk_s1 (l : List Nat) (h : l.length ≤ BIG) : sortOk (l.map s1) = true := by
  unfold sortOk
  simp only [Bool.and_eq_true, Bool.or_eq_true]
  refine ⟨⟨⟨⟨?_, ?_⟩, .inr ?_⟩, decide_eq_true (by rw [List.length_map]; exact h)⟩, ?_⟩
  · rw [List.all_map]; exact List.all_eq_true.mpr fun x _ => rfl
  · rw [List.all_map]
    refine List.all_eq_true.mpr fun x _ => ?_
    show ((l.map s1).all fun y => PySem.W.alike (s1 x).enc y.enc) = true
    rw [List.all_map]
    exact List.all_eq_true.mpr fun y _ => by
      show PySem.W.alike (.str ⟨#[x]⟩) (.str ⟨#[y]⟩) = true
      rw [PySem.W.alike]
  · rw [List.all_map]; exact List.all_eq_true.mpr fun x _ => rfl
  · rw [List.all_map]
    refine List.all_eq_true.mpr fun x _ => ?_
    show decide ((PyData.str ⟨#[x]⟩).depth ≤ 60) = true
    rw [PyData.depth]
    rfl
theorem le_C (a b : Chr) : PySem.W.dataLe false FV.enc (eC a) (eC b) = decide (a ≤ b) := by
  have := le_s1 a.val b.val
  show PySem.W.dataLe false FV.enc (s1 a.val) (s1 b.val) = _
  rw [this]
  by_cases h : a ≤ b
  · rw [decide_eq_true h, decide_eq_true (show a.val ≤ b.val from h)]
  · rw [decide_eq_false h, decide_eq_false (show ¬ a.val ≤ b.val from h)]
theorem srt_gen {α : Type} {e : α → FV} {le : α → α → Prop} [DecidableRel le] (hle : ∀ a b, PySem.W.dataLe false FV.enc (e a) (e b) = decide (le a b)) (tot : ∀ a b, le a b ∨ le b a) (tr : ∀ a b c, le a b → le b c → le a c) {l : List α} (ok : sortOk (l.map e) = true) : ∃ ys, srt e l = some ys ∧ ys.Perm l ∧ ys.Pairwise le := by
  refine ⟨l.mergeSort fun a b => decide (le a b), ?_, List.mergeSort_perm l _, ?_⟩
  · unfold srt
    rw [if_pos ok]
    congr 2
    funext a b
    exact hle a b
  · have := List.pairwise_mergeSort (le := fun a b => decide (le a b)) (fun a b c h1 h2 => decide_eq_true (tr a b c (of_decide_eq_true h1) (of_decide_eq_true h2))) (fun a b => by
      rcases tot a b with h | h
      · rw [decide_eq_true h]; rfl
      · rw [decide_eq_true h, Bool.or_true]) l
    exact this.imp fun h => of_decide_eq_true h
theorem srtC_ok {l : List Chr} (h : l.length ≤ 100000) : ∃ ys, srt eC l = some ys ∧ ys.Perm l ∧ ys.Pairwise (· ≤ ·) :=
  srt_gen le_C (fun a b => Nat.le_total a.val b.val) (fun a b c h1 h2 => Nat.le_trans h1 h2) (by
    have := sortOk_s1 (l.map Fin.val) (by rw [List.length_map]; exact bigL h)
    rw [List.map_map] at this
    exact this)
theorem strictC {l : List Chr} (h : l.Pairwise (· ≤ ·)) (n : l.Nodup) : l.Pairwise (· < ·) := (h.and n).imp fun {a b} ⟨h1, h2⟩ => Nat.lt_of_le_of_ne h1 fun e => h2 (Fin.ext e)
end J
namespace J
open PySem PySem.Spec PyProof.Rows L2
abbrev top (i : Nat) : Stmt := PySem.Challenge.pw_joinwood_k61_questions_as_texts.main.body.getD i (.Pass ⟨0, 0, 0, 0⟩)
abbrev s__law_mix : Stmt := top 22
abbrev s__law_letters : Stmt := top 23
abbrev s__law_name : Stmt := top 24
abbrev s__law_question : Stmt := top 25
abbrev s__law_shown : Stmt := top 26
abbrev s_show_pattern : Stmt := top 19
abbrev s_show_question : Stmt := top 20
abbrev s__law_is_name : Stmt := top 29
abbrev s__law_told : Stmt := top 30
abbrev s_is_name : Stmt := top 16
abbrev s_read_pattern : Stmt := top 17
abbrev s_letters_of : Stmt := top 9
abbrev s_shape_of : Stmt := top 8
abbrev s_read_question : Stmt := top 18
abbrev s__law_right : Stmt := top 31
abbrev s__law_odd : Stmt := top 27
abbrev s__law_spoiled : Stmt := top 28
abbrev s_law : Stmt := top 32
structure Tx (K : PySem.W.Frag) (mg : Str → Option Value) : Prop where
  b_isinstance : mg "isinstance" = none
  b_str : mg "str" = none
  b_range : mg "range" = none
  b_list : mg "list" = none
  b_len : mg "len" = none
  b_tuple : mg "tuple" = none
  b_ValueError : mg "ValueError" = none
  b_sorted : mg "sorted" = none
  e_JoinError : ErrC K mg "JoinError"
  e_NoTable : ErrC K mg "NoTable"
  e_NoWidth : ErrC K mg "NoWidth"
  e_NoAnswer : ErrC K mg "NoAnswer"
  e_NoText : ErrC K mg "NoText"
  e_NoRow : ErrC K mg "NoRow"
  ek : ErrK K
  i_NoTable : ∀ q ∈ ([("NoText", false)] : List (Str × Bool)), ErrC K mg q.1 ∧ ErrP K mg q.1 "NoTable" q.2
  i_NoWidth : ∀ q ∈ ([("NoText", false)] : List (Str × Bool)), ErrC K mg q.1 ∧ ErrP K mg q.1 "NoWidth" q.2
  i_NoAnswer : ∀ q ∈ ([("NoText", false)] : List (Str × Bool)), ErrC K mg q.1 ∧ ErrP K mg q.1 "NoAnswer" q.2
  i_NoRow : ∀ q ∈ ([("NoText", false)] : List (Str × Bool)), ErrC K mg q.1 ∧ ErrP K mg q.1 "NoRow" q.2
  i_NoText : ∀ q ∈ ([("NoText", true)] : List (Str × Bool)), ErrC K mg q.1 ∧ ErrP K mg q.1 "NoText" q.2
  h0 : ∀ q ∈ (["NoTable", "NoWidth", "NoAnswer", "NoRow"] : List Str), ErrC K mg q
  j0 : ∀ q ∈ ([("NoText", false)] : List (Str × Bool)), ErrC K mg q.1 ∧ ∃ bs : List Bool, Paired (fun n b => ErrP K mg q.1 n b) ["NoTable", "NoWidth", "NoAnswer", "NoRow"] bs ∧ bs.any id = q.2
  i_V : ∀ q ∈ (["NoText"] : List Str), ErrC K mg q
  u_JoinError : ∀ c ∈ (["NoText"] : List Str), ErrP K mg c "JoinError" true
  g_SMALL : ∃ t, mg "SMALL" = some (.str (Str.ofString "abcdefghijklmnopqrstuvwxyz") t)
  g_GREAT : ∃ t, mg "GREAT" = some (.str (Str.ofString "ABCDEFGHIJKLMNOPQRSTUVWXYZ") t)
  g_PATTERNS : ∃ t, mg "PATTERNS" = some (.int 6 t)
  g_WIDTH : ∃ t, mg "WIDTH" = some (.int 4 t)
  g_LETTERS : ∃ t, mg "LETTERS" = some (.int 6 t)
noncomputable def D__law_mix : DS :=
    (dSeq (dIf (dAndT (dTest (dBin opEq (dBin opMod (dVar 0) (dC (.int 2))) (dC (.int 1)))) (dTest (dBin opNe (dBin opShr (dVar 0) (dC (.int 27))) (dC (.int 0)))))
    (dRet (dBin opMod (dBin opShr (dVar 0) (dBin opAdd (dC (.int 1)) (dBin opMul (dC (.int 20)) (dVar 1)))) (dC (.int 1048576))))
    dSkip)
    (dSeq (dSet 2 (dBin opMod (dBin opAdd (dBin opMul (dVar 0) (dBin opAdd (dBin opMul (dC (.int 2)) (dVar 1)) (dC (.int 3)))) (dVar 1)) (dC (.int 2147483629))))
    (dSeq (dSet 2 (dBin opMod (dBin opMul (dBin opAdd (dBin opMul (dVar 2) (dVar 2)) (dC (.int 1))) (dC (.int 48271))) (dC (.int 2147483629))))
    (dRet (dBin opMod (dBin opMul (dVar 2) (dVar 2)) (dC (.int 2147483587)))))))
noncomputable def m__law_mix : FM := runF 3 D__law_mix
noncomputable def D__law_letters : DS :=
    (dSeq (dSet 1 (dC (.str (Str.ofString "ABCDEFGHIJKLMNOPQRSTUVWXYZ"))))
    (dSeq (dSet 2 (dBin opMod (dCall m__law_mix (dCons (dVar 0) (dCons (dC (.int 1)) dNil))) (dC (.int 26))))
    (dSeq (dSet 3 (dSub (dList (dCons (dC (.int 1)) (dCons (dC (.int 3)) (dCons (dC (.int 5)) (dCons (dC (.int 7)) (dCons (dC (.int 9)) (dCons (dC (.int 11)) dNil))))))) (dBin opMod (dCall m__law_mix (dCons (dVar 0) (dCons (dC (.int 2)) dNil))) (dC (.int 6)))))
    (dIce 3 (dIce 2 (dIce 1 (dRet (dLc (dRange (dC (.int 6))) (tName 4) dTrue (dFrz (dSub (dVar 1) (dBin opMod (dBin opAdd (dVar 2) (dBin opMul (dVar 3) (dVar 4))) (dC (.int 26))))) [4]))))))))
noncomputable def m__law_letters : FM := runF 5 D__law_letters
noncomputable def D__law_name : DS :=
    (dSeq (dSet 2 (dC (.str (Str.ofString "abcdefghijklmnopqrstuvwxyz"))))
    (dSeq (dSet 3 (dSub (dList (dCons (dC (.int 1)) (dCons (dC (.int 1)) (dCons (dC (.int 2)) (dCons (dC (.int 3)) (dCons (dC (.int 4)) (dCons (dC (.int 5)) (dCons (dC (.int 6)) (dCons (dC (.int 7)) (dCons (dC (.int 8)) dNil)))))))))) (dBin opMod (dCall m__law_mix (dCons (dVar 0) (dCons (dVar 1) dNil))) (dC (.int 9)))))
    (dIce 3 (dIce 2 (dRet (dMeth okStr opJoin (dC (.str (Str.ofString ""))) (dCons (dLc (dRange (dVar 3)) (tName 4) dTrue (dFrz (dSub (dVar 2) (dBin opMod (dCall m__law_mix (dCons (dVar 0) (dCons (dFrz (dBin opAdd (dBin opAdd (dVar 1) (dC (.int 1))) (dVar 4))) dNil))) (dC (.int 26))))) [4]) dNil)))))))
noncomputable def m__law_name : FM := runF 5 D__law_name
noncomputable def D__law_question : DS :=
    (dSeq (dSet 1 (dCall m__law_letters (dCons (dVar 0) dNil)))
    (dSeq (dIce 1 (dSet 2 (dList dNil)))
    (dSeq (dFor (dRange (dSub (dList (dCons (dC (.int 1)) (dCons (dC (.int 1)) (dCons (dC (.int 2)) (dCons (dC (.int 3)) (dCons (dC (.int 4)) (dCons (dC (.int 6)) dNil))))))) (dBin opMod (dCall m__law_mix (dCons (dVar 0) (dCons (dC (.int 3)) dNil))) (dC (.int 6))))) (tName 3)
    (dSeq (dSet 4 (dCallB opList (dCons (dVar 1) dNil)))
    (dSeq (dSet 5 (dList dNil))
    (dSeq (dFor (dRange (dBin opAdd (dC (.int 1)) (dBin opMod (dCall m__law_mix (dCons (dVar 0) (dCons (dFrz (dBin opAdd (dC (.int 4)) (dVar 3))) dNil))) (dC (.int 4))))) (tName 6)
    (dAppPop 5 4 (dBin opMod (dCall m__law_mix (dCons (dVar 0) (dCons (dFrz (dBin opAdd (dBin opAdd (dC (.int 11)) (dBin opMul (dC (.int 4)) (dVar 3))) (dVar 6))) dNil))) (dCallB opLen (dCons (dVar 4) dNil)))))
    (dApp 2 (dFrz (dTup (dCons (dFrz (dCall m__law_name (dCons (dVar 0) (dCons (dFrz (dBin opAdd (dC (.int 40)) (dBin opMul (dC (.int 10)) (dVar 3)))) dNil)))) (dCons (dFrz (dCallB opTup (dCons (dVar 5) dNil))) dNil)))))))))
    (dRetV 2))))
noncomputable def m__law_question : FM := runF 7 D__law_question
noncomputable def D__law_shown : DS :=
    (dRet (dMeth okStr opJoin (dC (.str (Str.ofString ", "))) (dCons (dLc (cItems (dVar 0)) (tTup2 1 2) dTrue (dFrz (dMeth okStr opJoin (dC (.str (Str.ofString " "))) (dCons (dBin opAdd (dList (dCons (dVar 1) dNil)) (dCallB opList (dCons (dVar 2) dNil))) dNil))) [1, 2]) dNil)))
noncomputable def m__law_shown : FM := runF 3 D__law_shown
noncomputable def D_show_pattern : DS :=
    (dRet (dMeth okStr opJoin (dC (.str (Str.ofString " "))) (dCons (dBin opAdd (dList (dCons (dFrz (dSub (dVar 0) (dC (.int 0)))) dNil)) (dCallB opList (dCons (dSub (dVar 0) (dC (.int 1))) dNil))) dNil)))
noncomputable def m_show_pattern : FM := runF 1 D_show_pattern
noncomputable def D_show_question : DS :=
    (dRet (dMeth okStr opJoin (dC (.str (Str.ofString ", "))) (dCons (dLc (cItems (dVar 0)) (tName 1) dTrue (dFrz (dCall m_show_pattern (dCons (dVar 1) dNil))) [1]) dNil)))
noncomputable def m_show_question : FM := runF 2 D_show_question
noncomputable def D__law_is_name : DS :=
    (dSeq (dIf (dOrT (dTest (dBin opLt (dCallB opLen (dCons (dVar 0) dNil)) (dC (.int 1)))) (dTest (dBin opGt (dCallB opLen (dCons (dVar 0) dNil)) (dC (.int 8)))))
    (dRet (dC (.bl false)))
    dSkip)
    (dSeq (dIce 0 (dFor (dItems (dVar 0)) (tName 1)
    (dIf (dTest (dBin (opIn true) (dVar 1) (dC (.str (Str.ofString "abcdefghijklmnopqrstuvwxyz")))))
    (dRet (dC (.bl false)))
    dSkip)))
    (dRet (dC (.bl true)))))
noncomputable def m__law_is_name : FM := runF 2 D__law_is_name
noncomputable def D__law_told : DS :=
    (dSeq (dIf (dNotT (dTest (dUn (opIsa ["str"]) (dVar 0))))
    (dRet (dC .non))
    dSkip)
    (dSeq (dSet 1 (dList dNil))
    (dSeq (dSet 2 (dNewK))
    (dSeq (dFor (dItems (dMeth okStr opSplit (dVar 0) (dCons (dC (.str (Str.ofString ", "))) dNil))) (tName 3)
    (dSeq (dSet 4 (dMeth okStr opSplit (dVar 3) (dCons (dC (.str (Str.ofString " "))) dNil)))
    (dSeq (dSet 5 (dSl (dVar 4) (dPS (dC (.int 1))) dPN))
    (dSeq (dIce 5 (dIf (dOrT (dNotT (dTest (dCall m__law_is_name (dCons (dFrz (dSub (dVar 4) (dC (.int 0)))) dNil)))) (dOrT (dTest (dBin opEq (dVar 5) (dList dNil))) (dTest (dBin opGt (dCallB opLen (dCons (dVar 5) dNil)) (dC (.int 4))))))
    (dRet (dC .non))
    dSkip))
    (dSeq (dIce 5 (dFor (dItems (dVar 5)) (tName 6)
    (dSeq (dIf (dOrT (dTest (dBin opNe (dCallB opLen (dCons (dVar 6) dNil)) (dC (.int 1)))) (dOrT (dTest (dBin (opIn true) (dVar 6) (dC (.str (Str.ofString "ABCDEFGHIJKLMNOPQRSTUVWXYZ"))))) (dTest (dBin opGt (dMeth okLst opLcount (dVar 5) (dCons (dVar 6) dNil)) (dC (.int 1))))))
    (dRet (dC .non))
    dSkip)
    (dPut 2 (dVar 6) (dC (.bl true))))))
    (dApp 1 (dFrz (dTup (dCons (dFrz (dSub (dVar 4) (dC (.int 0)))) (dCons (dFrz (dCallB opTup (dCons (dVar 5) dNil))) dNil))))))))))
    (dSeq (dIf (dOrT (dTest (dBin opGt (dCallB opLen (dCons (dVar 1) dNil)) (dC (.int 6)))) (dTest (dBin opGt (dCallB opLen (dCons (dVar 2) dNil)) (dC (.int 6)))))
    (dRet (dC .non))
    dSkip)
    (dRetV 1))))))
noncomputable def m__law_told : FM := runF 7 D__law_told
noncomputable def D_is_name : DS :=
    (dSeq (dIce 0 (dFor (dItems (dVar 0)) (tName 1)
    (dIf (dTest (dBin (opIn true) (dVar 1) (dC (.str (Str.ofString "abcdefghijklmnopqrstuvwxyz")))))
    (dRet (dC (.bl false)))
    dSkip)))
    (dRet (dChain opLe opLe (dC (.int 1)) (dCallB opLen (dCons (dVar 0) dNil)) (dC (.int 8)))))
noncomputable def m_is_name : FM := runF 2 D_is_name
noncomputable def D_read_pattern : DS :=
    (dSeq (dSet 1 (dMeth okStr opSplit (dVar 0) (dCons (dC (.str (Str.ofString " "))) dNil)))
    (dSeq (dSet 2 (dSl (dVar 1) (dPS (dC (.int 1))) dPN))
    (dSeq (dIce 2 (dIf (dOrT (dNotT (dTest (dCall m_is_name (dCons (dFrz (dSub (dVar 1) (dC (.int 0)))) dNil)))) (dNotT (dTest (dChain opLe opLe (dC (.int 1)) (dCallB opLen (dCons (dVar 2) dNil)) (dC (.int 4))))))
    (dRaise "NoText")
    dSkip))
    (dSeq (dIce 2 (dFor (dItems (dVar 2)) (tName 3)
    (dIf (dOrT (dTest (dBin opNe (dCallB opLen (dCons (dVar 3) dNil)) (dC (.int 1)))) (dOrT (dTest (dBin (opIn true) (dVar 3) (dC (.str (Str.ofString "ABCDEFGHIJKLMNOPQRSTUVWXYZ"))))) (dTest (dBin opGt (dMeth okLst opLcount (dVar 2) (dCons (dVar 3) dNil)) (dC (.int 1))))))
    (dRaise "NoText")
    dSkip)))
    (dRet (dTup (dCons (dFrz (dSub (dVar 1) (dC (.int 0)))) (dCons (dFrz (dCallB opTup (dCons (dVar 2) dNil))) dNil))))))))
noncomputable def m_read_pattern : FM := runF 4 D_read_pattern
noncomputable def D_letters_of : DS :=
    (dSeq (dSet 1 (dNewK))
    (dSeq (dIce 0 (dFor (dItems (dVar 0)) (tName 2)
    (dIce 2 (dFor (dItems (dVar 2)) (tName 3)
    (dPut 1 (dVar 3) (dC (.bl true)))))))
    (dRet (dKeysS (dVar 1)))))
noncomputable def m_letters_of : FM := runF 4 D_letters_of
noncomputable def D_shape_of : DS :=
    (dRet (dLc (cItems (dVar 0)) (tTup2 1 2) dTrue (dVar 2) [1, 2]))
noncomputable def m_shape_of : FM := runF 3 D_shape_of
noncomputable def D_read_question : DS :=
    (dSeq (dIf (dNotT (dTest (dUn (opIsa ["str"]) (dVar 0))))
    (dRaise "NoText")
    dSkip)
    (dSeq (dSet 1 (dLcX (cItems (dMeth okStr opSplit (dVar 0) (dCons (dC (.str (Str.ofString ", "))) dNil))) (tName 2) dTrue (dFrz (dCall m_read_pattern (dCons (dVar 2) dNil))) [2]))
    (dSeq (dIf (dOrT (dTest (dBin opGt (dCallB opLen (dCons (dVar 1) dNil)) (dC (.int 6)))) (dTest (dBin opGt (dCallB opLen (dCons (dCall m_letters_of (dCons (dFrz (dCall m_shape_of (dCons (dVar 1) dNil))) dNil)) dNil)) (dC (.int 6)))))
    (dRaise "NoText")
    dSkip)
    (dRetV 1))))
noncomputable def m_read_question : FM := runF 3 D_read_question
noncomputable def D__law_right : DS :=
    (dSeq (dSet 1 (dCall m__law_told (dCons (dVar 0) dNil)))
    (dSeq (dIce 1 (dSet 2 (dC .non)))
    (dSeq (dSet 3 (dC .non))
    (dSeq (dTryA ["NoText"] (dFrz (dCall m_read_question (dCons (dVar 0) dNil))) 3 4 2)
    (dSeq (dIf (dTest (dUn opIsN (dVar 1)))
    (dSeq (dIf (dTest (dUn (opIsE [("NoText", false)]) (dVar 2)))
    (dRet (dC (.bl false)))
    dSkip)
    (dRet (dAndV (dUn (opIsE [("NoText", true)]) (dVar 2)) (dUn (opIsE (List.map (fun c => (c, true)) ["NoText"])) (dVar 2)))))
    dSkip)
    (dSeq (dIf (dOrT (dTest (dUn opNotN (dVar 2))) (dOrT (dNotT (dTest (dUn (opIsa ["list"]) (dVar 3)))) (dTest (dBin opNe (dVar 3) (dVar 1)))))
    (dRet (dC (.bl false)))
    dSkip)
    (dIce 4 (dIce 3 (dIce 2 (dIce 1 (dRet (dBin opEq (dLc (cItems (dVar 3)) (tName 5) (dOrT (dNotT (dTest (dUn (opIsa ["tuple"]) (dVar 5)))) (dNotT (dTest (dUn (opIsa ["tuple"]) (dSub (dVar 5) (dC (.int 1))))))) (dVar 5) [5]) (dList dNil)))))))))))))
noncomputable def m__law_right : FM := runF 6 D__law_right
noncomputable def D__law_odd : DS :=
    (dSeq (dSet 1 (dList (dCons (dC (.str (Str.ofString ""))) (dCons (dC (.str (Str.ofString "a"))) (dCons (dC (.str (Str.ofString "a "))) (dCons (dC (.str (Str.ofString " a A"))) (dCons (dC (.str (Str.ofString "a  A"))) (dCons (dC (.str (Str.ofString "a A "))) (dCons (dC (.str (Str.ofString "a A,"))) (dCons (dC (.str (Str.ofString "a A, "))) (dCons (dC (.str (Str.ofString "a A,b B"))) (dCons (dC (.str (Str.ofString "a A; b B"))) (dCons (dC (.str (Str.ofString "a A, b"))) (dCons (dC (.str (Str.ofString "A A"))) (dCons (dC (.str (Str.ofString "a a"))) dNil)))))))))))))))
    (dSeq (dIce 1 (dSet 1 (dBin opAdd (dVar 1) (dList (dCons (dC (.str (Str.ofString "a AB"))) (dCons (dC (.str (Str.ofString "a A A"))) (dCons (dC (.str (Str.ofString "a A B C D E"))) (dCons (dC (.str (Str.ofString "a A B C D, a E F G"))) (dCons (dC (.str (Str.ofString "a A, a A, a A, a A, a A, a A, a A"))) dNil)))))))))
    (dSeq (dIce 1 (dSet 1 (dBin opAdd (dVar 1) (dList (dCons (dC (.str (Str.ofString "a A\n"))) (dCons (dC (.str (Str.ofString "\na A"))) (dCons (dC (.str (Str.ofString "a	A"))) (dCons (dC (.str (Str.ofString "abcdefghi A"))) (dCons (dC (.str (Str.ofString "a1 A"))) (dCons (dC (.str (Str.ofString "a ?"))) (dCons (dC .non) (dCons (dC (.int 7)) (dCons (dFrz (dList (dCons (dFrz (dTup (dCons (dC (.str (Str.ofString "a"))) (dCons (dFrz (dTup (dCons (dC (.str (Str.ofString "A"))) dNil))) dNil)))) dNil))) dNil)))))))))))))
    (dIce 1 (dRet (dSub (dVar 1) (dBin opMod (dCall m__law_mix (dCons (dVar 0) (dCons (dC (.int 110)) dNil))) (dC (.int 27)))))))))
noncomputable def m__law_odd : FM := runF 2 D__law_odd
noncomputable def D__law_spoiled : DS :=
    (dSeq (dSet 2 (dC (.str (Str.ofString "   ,,;abcxyzABCXYZ019-\n	"))))
    (dSeq (dSet 3 (dBin opMod (dCall m__law_mix (dCons (dVar 1) (dCons (dC (.int 111)) dNil))) (dC (.int 8))))
    (dSeq (dSet 4 (dBin opMod (dCall m__law_mix (dCons (dVar 1) (dCons (dC (.int 112)) dNil))) (dBin opAdd (dCallB opLen (dCons (dVar 0) dNil)) (dC (.int 1)))))
    (dSeq (dSet 5 (dSub (dVar 2) (dBin opMod (dCall m__law_mix (dCons (dVar 1) (dCons (dC (.int 113)) dNil))) (dCallB opLen (dCons (dVar 2) dNil)))))
    (dSeq (dIf (dTest (dBin opEq (dVar 3) (dC (.int 0))))
    (dRet (dBin opAdd (dBin opAdd (dSl (dVar 0) dPN (dPS (dVar 4))) (dVar 5)) (dSl (dVar 0) (dPS (dVar 4)) dPN)))
    dSkip)
    (dSeq (dIf (dTest (dBin opEq (dVar 3) (dC (.int 1))))
    (dRet (dBin opAdd (dSl (dVar 0) dPN (dPS (dVar 4))) (dSl (dVar 0) (dPS (dBin opAdd (dVar 4) (dC (.int 1)))) dPN)))
    dSkip)
    (dSeq (dIf (dTest (dBin opLt (dVar 3) (dC (.int 5))))
    (dRet (dBin opAdd (dBin opAdd (dSl (dVar 0) dPN (dPS (dVar 4))) (dVar 5)) (dSl (dVar 0) (dPS (dBin opAdd (dVar 4) (dC (.int 1)))) dPN)))
    dSkip)
    (dSeq (dIf (dTest (dBin opEq (dVar 3) (dC (.int 5))))
    (dRet (dCall m__law_odd (dCons (dVar 1) dNil)))
    dSkip)
    (dRetV 0)))))))))
noncomputable def m__law_spoiled : FM := runF 6 D__law_spoiled
noncomputable def D_law (cells : List Int) : DS :=
    (dSeq (dFor (lawIt cells) (tName 1)
    (dSeq (dSet 2 (dCall m__law_question (dCons (dVar 1) dNil)))
    (dSeq (dIce 2 (dSet 3 (dCall m__law_shown (dCons (dVar 2) dNil))))
    (dSeq (dIce 3 (dSet 4 (dCall m_show_question (dCons (dVar 2) dNil))))
    (dSeq (dIce 4 (dIf (dOrT (dNotT (dTest (dUn (opIsa ["str"]) (dVar 4)))) (dOrT (dTest (dBin opNe (dVar 4) (dVar 3))) (dTest (dBin opNe (dVar 2) (dCall m__law_question (dCons (dVar 1) dNil))))))
    (dRet (dC (.bl false)))
    dSkip))
    (dIf (dOrT (dNotT (dTest (dCall m__law_right (dCons (dVar 4) dNil)))) (dNotT (dTest (dCall m__law_right (dCons (dFrz (dCall m__law_spoiled (dCons (dVar 3) (dCons (dVar 1) dNil)))) dNil)))))
    (dRet (dC (.bl false)))
    dSkip))))))
    (dRet (dC (.bl true))))
section
variable {P : Program} {w : World} {K : PySem.W.Frag} {mg : Str → Option Value} {base : Heap}
abbrev N__law_mix : List Str := ["_law_cell", "_law_j", "_law_number"]
theorem sc__law_mix : FnScope N__law_mix ["_law_cell", "_law_j"] (defScope s__law_mix) := ⟨rfl, rfl, rfl, by decide +kernel, rfl, by decide +kernel, by decide +kernel⟩
theorem ok__law_mix {f : Addr} {fd : FuncData} (F : Fun K "_law_mix" "_law_mix" s__law_mix f fd) (T : Tx K mg)  : FnOk P w K mg base (L2.CX P w) 1 f fd ["_law_cell", "_law_j"] (spF mg 2 m__law_mix) :=
  ok_of F sc__law_mix fun cdv A outer s H E (hr : Room 0 _) tk hp =>
    (jss_cons (js_if (jt_w (jw_and (jt_cmp (oj_eq (u64 hr)) (je_bin oj_mod (je_var 0) je_int) je_int) (jw_and1 (jt_cmp (oj_ne (u64 hr)) (je_bin oj_shr (je_var 0) je_int) je_int))))
    (jss_one (js_ret (je_bin oj_mod (je_bin oj_shr (je_var 0) (je_bin oj_add je_int (je_bin oj_mul je_int (je_var 1)))) je_int)))
    jss_nil)
    (jss_cons (js_set 2 sc__law_mix.nd (je_bin oj_mod (je_bin oj_add (je_bin oj_mul (je_var 0) (je_bin oj_add (je_bin oj_mul je_int (je_var 1)) je_int)) (je_var 1)) je_int))
    (jss_cons (js_set 2 sc__law_mix.nd (je_bin oj_mod (je_bin oj_mul (je_bin oj_add (je_bin oj_mul (je_var 2) (je_var 2)) je_int) je_int) je_int))
    (jss_one (js_ret (je_bin oj_mod (je_bin oj_mul (je_var 2) (je_var 2)) je_int))))))
abbrev N__law_letters : List Str := ["_law_cell", "_law_letters_here", "_law_start", "_law_step", "_law_k"]
theorem sc__law_letters : FnScope N__law_letters ["_law_cell"] (defScope s__law_letters) := ⟨rfl, rfl, rfl, by decide +kernel, rfl, by decide +kernel, by decide +kernel⟩
theorem ok__law_letters {f : Addr} {fd : FuncData} (F : Fun K "_law_letters" "_law_letters" s__law_letters f fd) (T : Tx K mg) (C__law_mix : Cal P w K mg base 1 "_law_mix" 2 m__law_mix) : FnOk P w K mg base (L2.CX P w) 2 f fd ["_law_cell"] (spF mg 1 m__law_letters) :=
  ok_of F sc__law_letters fun cdv A outer s H E (hr : Room 1 _) tk hp =>
    (jss_cons (js_set 1 sc__law_letters.nd je_str)
    (jss_cons (js_set 2 sc__law_letters.nd (je_bin oj_mod (je_cal tk C__law_mix hr (ja_cons (je_var 0) (ja_cons je_int ja_nil))) je_int))
    (jss_cons (js_set 3 sc__law_letters.nd (je_sub (u1 hr) (je_list (ja_cons je_int (ja_cons je_int (ja_cons je_int (ja_cons je_int (ja_cons je_int (ja_cons je_int ja_nil))))))) (je_bin oj_mod (je_cal tk C__law_mix hr (ja_cons (je_var 0) (ja_cons je_int ja_nil))) je_int)))
    (jss_one (js_ice 3 (js_ice 2 (js_ice 1 (js_ret (je_lc (own := [((Str.ofString "_law_k"), 4)]) rfl sc__law_letters.nd (jc_range je_int T.b_range) (blkOk_by (by rfl)) (fun _ _ _ _ _ => (jg_name 4 sc__law_letters.nd)) (fun _ _ _ _ _ => jts_nil) (fun _ _ _ _ _ => (je_frz (je_sub (u1 hr) (je_var 1) (je_bin oj_mod (je_bin oj_add (je_var 2) (je_bin oj_mul (je_var 3) (je_var 4))) je_int)))) tg_name)))))))))
abbrev N__law_name : List Str := ["_law_cell", "_law_far", "_law_letters_here", "_law_size", "_law_k"]
theorem sc__law_name : FnScope N__law_name ["_law_cell", "_law_far"] (defScope s__law_name) := ⟨rfl, rfl, rfl, by decide +kernel, rfl, by decide +kernel, by decide +kernel⟩
theorem ok__law_name {f : Addr} {fd : FuncData} (F : Fun K "_law_name" "_law_name" s__law_name f fd) (T : Tx K mg) (C__law_mix : Cal P w K mg base 1 "_law_mix" 2 m__law_mix) : FnOk P w K mg base (L2.CX P w) 2 f fd ["_law_cell", "_law_far"] (spF mg 2 m__law_name) :=
  ok_of F sc__law_name fun cdv A outer s H E (hr : Room 1 _) tk hp =>
    (jss_cons (js_set 2 sc__law_name.nd je_str)
    (jss_cons (js_set 3 sc__law_name.nd (je_sub (u1 hr) (je_list (ja_cons je_int (ja_cons je_int (ja_cons je_int (ja_cons je_int (ja_cons je_int (ja_cons je_int (ja_cons je_int (ja_cons je_int (ja_cons je_int ja_nil)))))))))) (je_bin oj_mod (je_cal tk C__law_mix hr (ja_cons (je_var 0) (ja_cons (je_var 1) ja_nil))) je_int)))
    (jss_one (js_ice 3 (js_ice 2 (js_ret (je_meth PySem.F.plainAttrs_str PySem.F.slot_str_join PySem.F.type_str_join mj_join okStr_ty je_str (ja_cons (je_lc (own := [((Str.ofString "_law_k"), 4)]) rfl sc__law_name.nd (jc_range (je_var 3) T.b_range) (blkOk_by (by rfl)) (fun _ _ _ _ _ => (jg_name 4 sc__law_name.nd)) (fun _ _ _ _ _ => jts_nil) (fun _ _ _ _ _ => (je_frz (je_sub (u1 hr) (je_var 2) (je_bin oj_mod (je_cal takes0 C__law_mix hr (ja_cons (je_var 0) (ja_cons (je_frz (je_bin oj_add (je_bin oj_add (je_var 1) je_int) (je_var 4))) ja_nil))) je_int)))) tg_name) ja_nil))))))))
abbrev N__law_question : List Str := ["_law_cell", "_law_letters_here", "_law_found", "_law_i", "_law_some", "_law_pattern", "_law_k"]
theorem sc__law_question : FnScope N__law_question ["_law_cell"] (defScope s__law_question) := ⟨rfl, rfl, rfl, by decide +kernel, rfl, by decide +kernel, by decide +kernel⟩
theorem ok__law_question {f : Addr} {fd : FuncData} (F : Fun K "_law_question" "_law_question" s__law_question f fd) (T : Tx K mg) (C__law_letters : Cal P w K mg base 2 "_law_letters" 1 m__law_letters) (C__law_mix : Cal P w K mg base 1 "_law_mix" 2 m__law_mix) (C__law_name : Cal P w K mg base 2 "_law_name" 2 m__law_name) : FnOk P w K mg base (L2.CX P w) 3 f fd ["_law_cell"] (spF mg 1 m__law_question) :=
  ok_of F sc__law_question fun cdv A outer s H E (hr : Room 2 _) tk hp =>
    (jss_cons (js_set 1 sc__law_question.nd (je_cal tk C__law_letters hr (ja_cons (je_var 0) ja_nil)))
    (jss_cons (js_ice 1 (js_set 2 sc__law_question.nd (je_list ja_nil)))
    (jss_cons (js_for hp rfl (ji_range (je_sub (u1 hr) (je_list (ja_cons je_int (ja_cons je_int (ja_cons je_int (ja_cons je_int (ja_cons je_int (ja_cons je_int ja_nil))))))) (je_bin oj_mod (je_cal tk C__law_mix hr (ja_cons (je_var 0) (ja_cons je_int ja_nil))) je_int)) T.b_range) (jg_name 3 sc__law_question.nd)
    (jss_cons (js_set 4 sc__law_question.nd (je_callTy (cj_list rfl) (ja_cons (je_var 1) ja_nil) T.b_list boot_list))
    (jss_cons (js_set 5 sc__law_question.nd (je_list ja_nil))
    (jss_cons (js_for hp rfl (ji_range (je_bin oj_add je_int (je_bin oj_mod (je_cal tk C__law_mix hr (ja_cons (je_var 0) (ja_cons (je_frz (je_bin oj_add je_int (je_var 3))) ja_nil))) je_int)) T.b_range) (jg_name 6 sc__law_question.nd)
    (jss_one (js_appPop 5 4 (je_bin oj_mod (je_cal tk C__law_mix hr (ja_cons (je_var 0) (ja_cons (je_frz (je_bin oj_add (je_bin oj_add je_int (je_bin oj_mul je_int (je_var 3))) (je_var 6))) ja_nil))) (je_callB cj_len (ja_cons (je_var 4) ja_nil) T.b_len boot_len)))))
    (jss_one (js_append 2 (je_frz (je_tup (ja_cons (je_frz (je_cal tk C__law_name hr (ja_cons (je_var 0) (ja_cons (je_frz (je_bin oj_add je_int (je_bin oj_mul je_int (je_var 3)))) ja_nil)))) (ja_cons (je_frz (je_callTy (cj_tup rfl) (ja_cons (je_var 5) ja_nil) T.b_tuple boot_tuple)) ja_nil))))))))))
    (jss_one (js_retV 2)))))
abbrev N__law_shown : List Str := ["_law_question_here", "_law_name_here", "_law_letters_here"]
theorem sc__law_shown : FnScope N__law_shown ["_law_question_here"] (defScope s__law_shown) := ⟨rfl, rfl, rfl, by decide +kernel, rfl, by decide +kernel, by decide +kernel⟩
theorem ok__law_shown {f : Addr} {fd : FuncData} (F : Fun K "_law_shown" "_law_shown" s__law_shown f fd) (T : Tx K mg)  : FnOk P w K mg base (L2.CX P w) 1 f fd ["_law_question_here"] (spF mg 1 m__law_shown) :=
  ok_of F sc__law_shown fun cdv A outer s H E (hr : Room 0 _) tk hp =>
    (jss_one (js_ret (je_meth PySem.F.plainAttrs_str PySem.F.slot_str_join PySem.F.type_str_join mj_join okStr_ty je_str (ja_cons (je_lc (own := [((Str.ofString "_law_name_here"), 1), ((Str.ofString "_law_letters_here"), 2)]) rfl sc__law_shown.nd (jc_items (je_var 0)) (blkOk_by (by rfl)) (fun _ _ _ _ _ => (jg_tup2 1 2 rfl sc__law_shown.nd)) (fun _ _ _ _ _ => jts_nil) (fun _ _ _ _ _ => (je_frz (je_meth PySem.F.plainAttrs_str PySem.F.slot_str_join PySem.F.type_str_join mj_join okStr_ty je_str (ja_cons (je_bin oj_add (je_list (ja_cons (je_var 1) ja_nil)) (je_callTy (cj_list rfl) (ja_cons (je_var 2) ja_nil) T.b_list boot_list)) ja_nil)))) tg_tup2) ja_nil))))
abbrev N_show_pattern : List Str := ["pattern"]
theorem sc_show_pattern : FnScope N_show_pattern ["pattern"] (defScope s_show_pattern) := ⟨rfl, rfl, rfl, by decide +kernel, rfl, by decide +kernel, by decide +kernel⟩
theorem ok_show_pattern {f : Addr} {fd : FuncData} (F : Fun K "show_pattern" "show_pattern" s_show_pattern f fd) (T : Tx K mg)  : FnOk P w K mg base (L2.CX P w) 1 f fd ["pattern"] (spF mg 1 m_show_pattern) :=
  ok_of F sc_show_pattern fun cdv A outer s H E (hr : Room 0 _) tk hp =>
    (jss_one (js_ret (je_meth PySem.F.plainAttrs_str PySem.F.slot_str_join PySem.F.type_str_join mj_join okStr_ty je_str (ja_cons (je_bin oj_add (je_list (ja_cons (je_frz (je_sub (u1 hr) (je_var 0) je_int)) ja_nil)) (je_callTy (cj_list rfl) (ja_cons (je_sub (u1 hr) (je_var 0) je_int) ja_nil) T.b_list boot_list)) ja_nil))))
abbrev N_show_question : List Str := ["question", "pattern"]
theorem sc_show_question : FnScope N_show_question ["question"] (defScope s_show_question) := ⟨rfl, rfl, rfl, by decide +kernel, rfl, by decide +kernel, by decide +kernel⟩
theorem ok_show_question {f : Addr} {fd : FuncData} (F : Fun K "show_question" "show_question" s_show_question f fd) (T : Tx K mg) (C_show_pattern : Cal P w K mg base 1 "show_pattern" 1 m_show_pattern) : FnOk P w K mg base (L2.CX P w) 2 f fd ["question"] (spF mg 1 m_show_question) :=
  ok_of F sc_show_question fun cdv A outer s H E (hr : Room 1 _) tk hp =>
    (jss_one (js_ret (je_meth PySem.F.plainAttrs_str PySem.F.slot_str_join PySem.F.type_str_join mj_join okStr_ty je_str (ja_cons (je_lc (own := [((Str.ofString "pattern"), 1)]) rfl sc_show_question.nd (jc_items (je_var 0)) (blkOk_by (by rfl)) (fun _ _ _ _ _ => (jg_name 1 sc_show_question.nd)) (fun _ _ _ _ _ => jts_nil) (fun _ _ _ _ _ => (je_frz (je_cal takes0 C_show_pattern hr (ja_cons (je_var 1) ja_nil)))) tg_name) ja_nil))))
abbrev N__law_is_name : List Str := ["_law_word", "_law_sign"]
theorem sc__law_is_name : FnScope N__law_is_name ["_law_word"] (defScope s__law_is_name) := ⟨rfl, rfl, rfl, by decide +kernel, rfl, by decide +kernel, by decide +kernel⟩
theorem ok__law_is_name {f : Addr} {fd : FuncData} (F : Fun K "_law_is_name" "_law_is_name" s__law_is_name f fd) (T : Tx K mg)  : FnOk P w K mg base (L2.CX P w) 1 f fd ["_law_word"] (spF mg 1 m__law_is_name) :=
  ok_of F sc__law_is_name fun cdv A outer s H E (hr : Room 0 _) tk hp =>
    (jss_cons (js_if (jt_w (jw_or (jt_cmp oj_lt (je_callB cj_len (ja_cons (je_var 0) ja_nil) T.b_len boot_len) je_int) (jw_or1 (jt_cmp oj_gt (je_callB cj_len (ja_cons (je_var 0) ja_nil) T.b_len boot_len) je_int))))
    (jss_one (js_ret je_bl))
    jss_nil)
    (jss_cons (js_ice 0 (js_for hp rfl (ji_items (je_var 0)) (jg_name 1 sc__law_is_name.nd)
    (jss_one (js_if (jt_notIn (u65 hr) (je_var 1) je_str)
    (jss_one (js_ret je_bl))
    jss_nil))))
    (jss_one (js_ret je_bl))))
abbrev N__law_told : List Str := ["_law_text", "_law_found", "_law_known", "_law_piece", "_law_words", "_law_letters_here", "_law_letter"]
theorem sc__law_told : FnScope N__law_told ["_law_text"] (defScope s__law_told) := ⟨rfl, rfl, rfl, by decide +kernel, rfl, by decide +kernel, by decide +kernel⟩
theorem ok__law_told {f : Addr} {fd : FuncData} (F : Fun K "_law_told" "_law_told" s__law_told f fd) (T : Tx K mg) (C__law_is_name : Cal P w K mg base 1 "_law_is_name" 1 m__law_is_name) : FnOk P w K mg base (L2.CX P w) 2 f fd ["_law_text"] (spF mg 1 m__law_told) :=
  ok_of F sc__law_told fun cdv A outer s H E (hr : Room 1 _) tk hp =>
    (jss_cons (js_if (jt_not (jt_val (je_isa (T := "str") (je_var 0) T.b_isinstance T.b_str (by decide) boot_str)))
    (jss_one (js_ret je_non))
    jss_nil)
    (jss_cons (js_set 1 sc__law_told.nd (je_list ja_nil))
    (jss_cons (js_set 2 sc__law_told.nd je_newK)
    (jss_cons (js_for hp rfl (ji_items (je_meth PySem.F.plainAttrs_str PySem.F.slot_str_split PySem.F.type_str_split mj_split okStr_ty (je_var 0) (ja_cons je_str ja_nil))) (jg_name 3 sc__law_told.nd)
    (jss_cons (js_set 4 sc__law_told.nd (je_meth PySem.F.plainAttrs_str PySem.F.slot_str_split PySem.F.type_str_split mj_split okStr_ty (je_var 3) (ja_cons je_str ja_nil)))
    (jss_cons (js_set 5 sc__law_told.nd (je_slice (je_var 4) (jo_some je_int) jo_none))
    (jss_cons (js_ice 5 (js_if (jt_w (jw_or (jt_not (jt_val (je_cal tk C__law_is_name hr (ja_cons (je_frz (je_sub (u1 hr) (je_var 4) je_int)) ja_nil)))) (jw_or (jt_cmp (oj_eq (u64 hr)) (je_var 5) (je_list ja_nil)) (jw_or1 (jt_cmp oj_gt (je_callB cj_len (ja_cons (je_var 5) ja_nil) T.b_len boot_len) je_int)))))
    (jss_one (js_ret je_non))
    jss_nil))
    (jss_cons (js_ice 5 (js_for hp rfl (ji_items (je_var 5)) (jg_name 6 sc__law_told.nd)
    (jss_cons (js_if (jt_w (jw_or (jt_cmp (oj_ne (u64 hr)) (je_callB cj_len (ja_cons (je_var 6) ja_nil) T.b_len boot_len) je_int) (jw_or (jt_notIn (u65 hr) (je_var 6) je_str) (jw_or1 (jt_cmp oj_gt (je_meth PySem.F.plainAttrs_list PySem.F.slot_list_count PySem.F.type_list_count mj_lcount okLst_ty (je_var 5) (ja_cons (je_var 6) ja_nil)) je_int)))))
    (jss_one (js_ret je_non))
    jss_nil)
    (jss_one (js_put 2 (u1 hr) (je_var 6) je_bl)))))
    (jss_one (js_append 1 (je_frz (je_tup (ja_cons (je_frz (je_sub (u1 hr) (je_var 4) je_int)) (ja_cons (je_frz (je_callTy (cj_tup rfl) (ja_cons (je_var 5) ja_nil) T.b_tuple boot_tuple)) ja_nil)))))))))))
    (jss_cons (js_if (jt_w (jw_or (jt_cmp oj_gt (je_callB cj_len (ja_cons (je_var 1) ja_nil) T.b_len boot_len) je_int) (jw_or1 (jt_cmp oj_gt (je_callB cj_len (ja_cons (je_var 2) ja_nil) T.b_len boot_len) je_int))))
    (jss_one (js_ret je_non))
    jss_nil)
    (jss_one (js_retV 1)))))))
abbrev N_is_name : List Str := ["word", "sign"]
theorem sc_is_name : FnScope N_is_name ["word"] (defScope s_is_name) := ⟨rfl, rfl, rfl, by decide +kernel, rfl, by decide +kernel, by decide +kernel⟩
theorem ok_is_name {f : Addr} {fd : FuncData} (F : Fun K "is_name" "is_name" s_is_name f fd) (T : Tx K mg)  : FnOk P w K mg base (L2.CX P w) 1 f fd ["word"] (spF mg 1 m_is_name) :=
  ok_of F sc_is_name fun cdv A outer s H E (hr : Room 0 _) tk hp =>
    (jss_cons (js_ice 0 (js_for hp rfl (ji_items (je_var 0)) (jg_name 1 sc_is_name.nd)
    (jss_one (js_if (jt_notIn (u65 hr) (je_var 1) (je_gstrE T.g_SMALL))
    (jss_one (js_ret je_bl))
    jss_nil))))
    (jss_one (js_ret (je_chain oj_le oj_le je_int (je_callB cj_len (ja_cons (je_var 0) ja_nil) T.b_len boot_len) je_int))))
abbrev N_read_pattern : List Str := ["text", "words", "letters", "letter"]
theorem sc_read_pattern : FnScope N_read_pattern ["text"] (defScope s_read_pattern) := ⟨rfl, rfl, rfl, by decide +kernel, rfl, by decide +kernel, by decide +kernel⟩
theorem ok_read_pattern {f : Addr} {fd : FuncData} (F : Fun K "read_pattern" "read_pattern" s_read_pattern f fd) (T : Tx K mg) (C_is_name : Cal P w K mg base 1 "is_name" 1 m_is_name) : FnOk P w K mg base (L2.CX P w) 2 f fd ["text"] (spF mg 1 m_read_pattern) :=
  ok_of F sc_read_pattern fun cdv A outer s H E (hr : Room 1 _) tk hp =>
    (jss_cons (js_set 1 sc_read_pattern.nd (je_meth PySem.F.plainAttrs_str PySem.F.slot_str_split PySem.F.type_str_split mj_split okStr_ty (je_var 0) (ja_cons je_str ja_nil)))
    (jss_cons (js_set 2 sc_read_pattern.nd (je_slice (je_var 1) (jo_some je_int) jo_none))
    (jss_cons (js_ice 2 (js_if (jt_w (jw_or (jt_not (jt_val (je_cal tk C_is_name hr (ja_cons (je_frz (je_sub (u1 hr) (je_var 1) je_int)) ja_nil)))) (jw_or1 (jt_not (jt_chain oj_le oj_le je_int (je_callB cj_len (ja_cons (je_var 2) ja_nil) T.b_len boot_len) (je_gintE T.g_WIDTH))))))
    (jss_one (js_raise rfl tk T.e_NoText))
    jss_nil))
    (jss_cons (js_ice 2 (js_for hp rfl (ji_items (je_var 2)) (jg_name 3 sc_read_pattern.nd)
    (jss_one (js_if (jt_w (jw_or (jt_cmp (oj_ne (u64 hr)) (je_callB cj_len (ja_cons (je_var 3) ja_nil) T.b_len boot_len) je_int) (jw_or (jt_notIn (u65 hr) (je_var 3) (je_gstrE T.g_GREAT)) (jw_or1 (jt_cmp oj_gt (je_meth PySem.F.plainAttrs_list PySem.F.slot_list_count PySem.F.type_list_count mj_lcount okLst_ty (je_var 2) (ja_cons (je_var 3) ja_nil)) je_int)))))
    (jss_one (js_raise rfl tk T.e_NoText))
    jss_nil))))
    (jss_one (js_ret (je_tup (ja_cons (je_frz (je_sub (u1 hr) (je_var 1) je_int)) (ja_cons (je_frz (je_callTy (cj_tup rfl) (ja_cons (je_var 2) ja_nil) T.b_tuple boot_tuple)) ja_nil)))))))))
abbrev N_letters_of : List Str := ["shape", "known", "letters", "letter"]
theorem sc_letters_of : FnScope N_letters_of ["shape"] (defScope s_letters_of) := ⟨rfl, rfl, rfl, by decide +kernel, rfl, by decide +kernel, by decide +kernel⟩
theorem ok_letters_of {f : Addr} {fd : FuncData} (F : Fun K "letters_of" "letters_of" s_letters_of f fd) (T : Tx K mg)  : FnOk P w K mg base (L2.CX P w) 1 f fd ["shape"] (spF mg 1 m_letters_of) :=
  ok_of F sc_letters_of fun cdv A outer s H E (hr : Room 0 _) tk hp =>
    (jss_cons (js_set 1 sc_letters_of.nd je_newK)
    (jss_cons (js_ice 0 (js_for hp rfl (ji_items (je_var 0)) (jg_name 2 sc_letters_of.nd)
    (jss_one (js_ice 2 (js_for hp rfl (ji_items (je_var 2)) (jg_name 3 sc_letters_of.nd)
    (jss_one (js_put 1 (u1 hr) (je_var 3) je_bl)))))))
    (jss_one (js_ret (je_sortedKeys rfl (u62 hr) (je_var 1) T.b_sorted rfl boot_sorted)))))
abbrev N_shape_of : List Str := ["question", "table", "letters"]
theorem sc_shape_of : FnScope N_shape_of ["question"] (defScope s_shape_of) := ⟨rfl, rfl, rfl, by decide +kernel, rfl, by decide +kernel, by decide +kernel⟩
theorem ok_shape_of {f : Addr} {fd : FuncData} (F : Fun K "shape_of" "shape_of" s_shape_of f fd) (T : Tx K mg)  : FnOk P w K mg base (L2.CX P w) 1 f fd ["question"] (spF mg 1 m_shape_of) :=
  ok_of F sc_shape_of fun cdv A outer s H E (hr : Room 0 _) tk hp =>
    (jss_one (js_ret (je_lc (own := [((Str.ofString "table"), 1), ((Str.ofString "letters"), 2)]) rfl sc_shape_of.nd (jc_items (je_var 0)) (blkOk_by (by rfl)) (fun _ _ _ _ _ => (jg_tup2 1 2 rfl sc_shape_of.nd)) (fun _ _ _ _ _ => jts_nil) (fun _ _ _ _ _ => (je_var 2)) tg_tup2)))
abbrev N_read_question : List Str := ["text", "question", "part"]
theorem sc_read_question : FnScope N_read_question ["text"] (defScope s_read_question) := ⟨rfl, rfl, rfl, by decide +kernel, rfl, by decide +kernel, by decide +kernel⟩
theorem ok_read_question {f : Addr} {fd : FuncData} (F : Fun K "read_question" "read_question" s_read_question f fd) (T : Tx K mg) (C_read_pattern : Cal P w K mg base 2 "read_pattern" 1 m_read_pattern) (C_letters_of : Cal P w K mg base 1 "letters_of" 1 m_letters_of) (C_shape_of : Cal P w K mg base 1 "shape_of" 1 m_shape_of) : FnOk P w K mg base (L2.CX P w) 3 f fd ["text"] (spF mg 1 m_read_question) :=
  ok_of F sc_read_question fun cdv A outer s H E (hr : Room 2 _) tk hp =>
    (jss_cons (js_if (jt_not (jt_val (je_isa (T := "str") (je_var 0) T.b_isinstance T.b_str (by decide) boot_str)))
    (jss_one (js_raise rfl tk T.e_NoText))
    jss_nil)
    (jss_cons (js_setLcX 1 (own := [((Str.ofString "part"), 2)]) rfl sc_read_question.nd tk rfl rfl (sw_true rfl rfl rfl rfl) (jc_items (je_meth PySem.F.plainAttrs_str PySem.F.slot_str_split PySem.F.type_str_split mj_split okStr_ty (je_var 0) (ja_cons je_str ja_nil))) (blkOk_by (by rfl)) (fun _ _ _ _ _ _ => (jg_name 2 sc_read_question.nd)) (fun _ _ _ _ _ _ U tkx => jts_nil) (fun _ _ _ _ _ _ U tkx => (je_frz (je_cal tkx C_read_pattern hr (ja_cons (je_var 2) ja_nil)))) tg_name)
    (jss_cons (js_if (jt_w (jw_or (jt_cmp oj_gt (je_callB cj_len (ja_cons (je_var 1) ja_nil) T.b_len boot_len) (je_gintE T.g_PATTERNS)) (jw_or1 (jt_cmp oj_gt (je_callB cj_len (ja_cons (je_cal tk C_letters_of hr (ja_cons (je_frz (je_cal tk C_shape_of hr (ja_cons (je_var 1) ja_nil))) ja_nil)) ja_nil) T.b_len boot_len) (je_gintE T.g_LETTERS)))))
    (jss_one (js_raise rfl tk T.e_NoText))
    jss_nil)
    (jss_one (js_retV 1)))))
abbrev N__law_right : List Str := ["_law_text", "_law_due", "_law_error", "_law_found", "e", "_law_one"]
theorem sc__law_right : FnScope N__law_right ["_law_text"] (defScope s__law_right) := ⟨rfl, rfl, rfl, by decide +kernel, rfl, by decide +kernel, by decide +kernel⟩
theorem ok__law_right {f : Addr} {fd : FuncData} (F : Fun K "_law_right" "_law_right" s__law_right f fd) (T : Tx K mg) (C__law_told : Cal P w K mg base 2 "_law_told" 1 m__law_told) (C_read_question : Cal P w K mg base 3 "read_question" 1 m_read_question) : FnOk P w K mg base (L2.CX P w) 4 f fd ["_law_text"] (spF mg 1 m__law_right) :=
  ok_of F sc__law_right fun cdv A outer s H E (hr : Room 3 _) tk hp =>
    (jss_cons (js_set 1 sc__law_right.nd (je_cal tk C__law_told hr (ja_cons (je_var 0) ja_nil)))
    (jss_cons (js_ice 1 (js_set 2 sc__law_right.nd je_non))
    (jss_cons (js_set 3 sc__law_right.nd je_non)
    (jss_cons (js_tryA 3 4 2 ["NoText"] rfl rfl rfl sc__law_right.nd T.e_JoinError T.u_JoinError fun W pn xe tk => (je_frz (je_cal tk C_read_question hr (ja_cons (je_var 0) ja_nil))))
    (jss_cons (js_if (jt_isN (je_var 1))
    (jss_cons (js_if (jt_val (je_isET [("NoText", false)] (je_var 2) T.ek T.h0 (nj_cons (nj_cons (nj_cons (nj_cons nj_nil)))) T.j0 T.b_isinstance (hsz := by rw [sizeLine_eq]; decide)))
    (jss_one (js_ret je_bl))
    jss_nil)
    (jss_one (js_ret (je_and (je_isE [("NoText", true)] (je_var 2) T.ek T.e_NoText T.i_NoText T.b_isinstance) (je_one (je_isV ["NoText"] (je_var 2) T.ek T.i_V T.b_isinstance T.b_ValueError))))))
    jss_nil)
    (jss_cons (js_if (jt_w (jw_or (jt_notN (je_var 2)) (jw_or (jt_not (jt_val (je_isa (T := "list") (je_var 3) T.b_isinstance T.b_list (by decide) boot_list))) (jw_or1 (jt_cmp (oj_ne (u64 hr)) (je_var 3) (je_var 1))))))
    (jss_one (js_ret je_bl))
    jss_nil)
    (jss_one (js_ice 4 (js_ice 3 (js_ice 2 (js_ice 1 (js_ret (je_cmp (oj_eq (u64 hr)) (je_lc (own := [((Str.ofString "_law_one"), 5)]) rfl sc__law_right.nd (jc_items (je_var 3)) (blkOk_by (by rfl)) (fun _ _ _ _ _ => (jg_name 5 sc__law_right.nd)) (fun _ _ _ _ _ => (jts_one (jt_w (jw_or (jt_not (jt_val (je_isa (T := "tuple") (je_var 5) T.b_isinstance T.b_tuple (by decide) boot_tuple))) (jw_or1 (jt_not (jt_val (je_isa (T := "tuple") (je_sub (u1 hr) (je_var 5) je_int) T.b_isinstance T.b_tuple (by decide) boot_tuple)))))))) (fun _ _ _ _ _ => (je_var 5)) tg_name) (je_list ja_nil))))))))))))))
abbrev N__law_odd : List Str := ["_law_cell", "_law_some"]
theorem sc__law_odd : FnScope N__law_odd ["_law_cell"] (defScope s__law_odd) := ⟨rfl, rfl, rfl, by decide +kernel, rfl, by decide +kernel, by decide +kernel⟩
theorem ok__law_odd {f : Addr} {fd : FuncData} (F : Fun K "_law_odd" "_law_odd" s__law_odd f fd) (T : Tx K mg) (C__law_mix : Cal P w K mg base 1 "_law_mix" 2 m__law_mix) : FnOk P w K mg base (L2.CX P w) 2 f fd ["_law_cell"] (spF mg 1 m__law_odd) :=
  ok_of F sc__law_odd fun cdv A outer s H E (hr : Room 1 _) tk hp =>
    (jss_cons (js_set 1 sc__law_odd.nd (je_list (ja_cons je_str (ja_cons je_str (ja_cons je_str (ja_cons je_str (ja_cons je_str (ja_cons je_str (ja_cons je_str (ja_cons je_str (ja_cons je_str (ja_cons je_str (ja_cons je_str (ja_cons je_str (ja_cons je_str ja_nil)))))))))))))))
    (jss_cons (js_ice 1 (js_set 1 sc__law_odd.nd (je_bin oj_add (je_var 1) (je_list (ja_cons je_str (ja_cons je_str (ja_cons je_str (ja_cons je_str (ja_cons je_str ja_nil)))))))))
    (jss_cons (js_ice 1 (js_set 1 sc__law_odd.nd (je_bin oj_add (je_var 1) (je_list (ja_cons je_str (ja_cons je_str (ja_cons je_str (ja_cons je_str (ja_cons je_str (ja_cons je_str (ja_cons je_non (ja_cons je_int (ja_cons (je_frz (je_list (ja_cons (je_frz (je_tup (ja_cons je_str (ja_cons (je_frz (je_tup (ja_cons je_str ja_nil))) ja_nil)))) ja_nil))) ja_nil)))))))))))))
    (jss_one (js_ice 1 (js_ret (je_sub (u1 hr) (je_var 1) (je_bin oj_mod (je_cal tk C__law_mix hr (ja_cons (je_var 0) (ja_cons je_int ja_nil))) je_int))))))))
abbrev N__law_spoiled : List Str := ["_law_text", "_law_cell", "_law_signs", "_law_way", "_law_at", "_law_sign"]
theorem sc__law_spoiled : FnScope N__law_spoiled ["_law_text", "_law_cell"] (defScope s__law_spoiled) := ⟨rfl, rfl, rfl, by decide +kernel, rfl, by decide +kernel, by decide +kernel⟩
theorem ok__law_spoiled {f : Addr} {fd : FuncData} (F : Fun K "_law_spoiled" "_law_spoiled" s__law_spoiled f fd) (T : Tx K mg) (C__law_mix : Cal P w K mg base 1 "_law_mix" 2 m__law_mix) (C__law_odd : Cal P w K mg base 2 "_law_odd" 1 m__law_odd) : FnOk P w K mg base (L2.CX P w) 3 f fd ["_law_text", "_law_cell"] (spF mg 2 m__law_spoiled) :=
  ok_of F sc__law_spoiled fun cdv A outer s H E (hr : Room 2 _) tk hp =>
    (jss_cons (js_set 2 sc__law_spoiled.nd je_str)
    (jss_cons (js_set 3 sc__law_spoiled.nd (je_bin oj_mod (je_cal tk C__law_mix hr (ja_cons (je_var 1) (ja_cons je_int ja_nil))) je_int))
    (jss_cons (js_set 4 sc__law_spoiled.nd (je_bin oj_mod (je_cal tk C__law_mix hr (ja_cons (je_var 1) (ja_cons je_int ja_nil))) (je_bin oj_add (je_callB cj_len (ja_cons (je_var 0) ja_nil) T.b_len boot_len) je_int)))
    (jss_cons (js_set 5 sc__law_spoiled.nd (je_sub (u1 hr) (je_var 2) (je_bin oj_mod (je_cal tk C__law_mix hr (ja_cons (je_var 1) (ja_cons je_int ja_nil))) (je_callB cj_len (ja_cons (je_var 2) ja_nil) T.b_len boot_len))))
    (jss_cons (js_if (jt_cmp (oj_eq (u64 hr)) (je_var 3) je_int)
    (jss_one (js_ret (je_bin oj_add (je_bin oj_add (je_slice (je_var 0) jo_none (jo_some (je_var 4))) (je_var 5)) (je_slice (je_var 0) (jo_some (je_var 4)) jo_none))))
    jss_nil)
    (jss_cons (js_if (jt_cmp (oj_eq (u64 hr)) (je_var 3) je_int)
    (jss_one (js_ret (je_bin oj_add (je_slice (je_var 0) jo_none (jo_some (je_var 4))) (je_slice (je_var 0) (jo_some (je_bin oj_add (je_var 4) je_int)) jo_none))))
    jss_nil)
    (jss_cons (js_if (jt_cmp oj_lt (je_var 3) je_int)
    (jss_one (js_ret (je_bin oj_add (je_bin oj_add (je_slice (je_var 0) jo_none (jo_some (je_var 4))) (je_var 5)) (je_slice (je_var 0) (jo_some (je_bin oj_add (je_var 4) je_int)) jo_none))))
    jss_nil)
    (jss_cons (js_if (jt_cmp (oj_eq (u64 hr)) (je_var 3) je_int)
    (jss_one (js_ret (je_cal tk C__law_odd hr (ja_cons (je_var 1) ja_nil))))
    jss_nil)
    (jss_one (js_retV 0))))))))))
abbrev N_law : List Str := ["_law_script", "_law_cell", "_law_question_here", "_law_text", "_law_found"]
theorem sc_law : FnScope N_law ["_law_script"] (defScope s_law) := ⟨rfl, rfl, rfl, by decide +kernel, rfl, by decide +kernel, by decide +kernel⟩
theorem ok_law {f : Addr} {fd : FuncData} (F : Fun K "law" "law" s_law f fd) (T : Tx K mg) (C__law_question : Cal P w K mg base 3 "_law_question" 1 m__law_question) (C__law_shown : Cal P w K mg base 1 "_law_shown" 1 m__law_shown) (C_show_question : Cal P w K mg base 2 "show_question" 1 m_show_question) (C__law_right : Cal P w K mg base 4 "_law_right" 1 m__law_right) (C__law_spoiled : Cal P w K mg base 3 "_law_spoiled" 2 m__law_spoiled) (hlaw : ∀ ns : List Int, ns.length ≤ 63 → ∃ env, D_law (ns.take 63 ++ [0]) (List.replicate 5 none) = .ok (.rt (.fz (.bl true)) env)) : FnOk P w K mg base (L2.CX P w) 5 f fd ["_law_script"] (spLaw K) := by
  refine F.okX sc_law (fun vs H Q E h => ?_) (fun cdv A outer s H vs Q E (hr : Room 4 _) h => ?_)
  · obtain ⟨a, ns, rfl, _⟩ := h
    rfl
  · obtain ⟨a, ns, rfl, hS, hl, hQ⟩ := h
    have tk := takes_of (X := cxOf (L2.CX P w) P w K mg base N_law "law" (defScope s_law) f cdv A outer s H E) rfl rfl rfl rfl
    have hp := passes_of (X := cxOf (L2.CX P w) P w K mg base N_law "law" (defScope s_law) f cdv A outer s H E) rfl
    exact law_bodyF (N := N_law) (W := fun cls d _ H => E cls d H) rfl (by decide) hp rfl (pe_op op_cat (pe_slice sl_list (pe_var (i := 0) rfl (by first | exact Or.inl rfl | exact Or.inr (Or.inl rfl))) po_none (po_some pe_int)) (pe_lst (pa_cons pe_int pa_nil))) (jg_name 1 sc_law.nd)
        (jss_cons (js_set 2 sc_law.nd (je_cal tk C__law_question hr (ja_cons (je_var 1) ja_nil)))
        (jss_cons (js_ice 2 (js_set 3 sc_law.nd (je_cal tk C__law_shown hr (ja_cons (je_var 2) ja_nil))))
        (jss_cons (js_ice 3 (js_set 4 sc_law.nd (je_cal tk C_show_question hr (ja_cons (je_var 2) ja_nil))))
        (jss_cons (js_ice 4 (js_if (jt_w (jw_or (jt_not (jt_val (je_isa (T := "str") (je_var 4) T.b_isinstance T.b_str (by decide) boot_str))) (jw_or (jt_cmp (oj_ne (u64 hr)) (je_var 4) (je_var 3)) (jw_or1 (jt_cmp (oj_ne (u64 hr)) (je_var 2) (je_cal tk C__law_question hr (ja_cons (je_var 1) ja_nil)))))))
        (jss_one (js_ret je_bl))
        jss_nil))
        (jss_one (js_if (jt_w (jw_or (jt_not (jt_val (je_cal tk C__law_right hr (ja_cons (je_var 4) ja_nil)))) (jw_or1 (jt_not (jt_val (je_cal tk C__law_right hr (ja_cons (je_frz (je_cal tk C__law_spoiled hr (ja_cons (je_var 3) (ja_cons (je_var 1) ja_nil)))) ja_nil)))))))
        (jss_one (js_ret je_bl))
        jss_nil))))))
        (jss_one (js_ret je_bl)) (hlaw ns hl) hQ (fun Q h => law_sliceP hS Q h hl)
end
noncomputable def lawAns (ns : List Int) : Ans SO := D_law (ns.take 63 ++ [0]) (List.replicate 5 none)
theorem all_mk {l : PySem.W.OpenLaw} {w : World} {K : PySem.W.Frag} {h : Heap} {mg : Str → Option Value} {fa : Addr} (X : K.In h) (G : h.Ns mainGlobals mg) (hfa : mg "law" = some (.ref fa)) (hlaw : ∀ ns : List Int, ns.length ≤ 63 → ∃ env, lawAns ns = .ok (.rt (.fz (.bl true)) env))
    {f1 : Addr} {od1 an1 : Option Addr} {sl1 : Array (Option Value)} {oc1 kV1 dc1 pm1 cd1 ct1 : Value} (a1 : PySem.W.nsIn K mainGlobals "_law_mix" = some (some (.ref f1))) (l1 : K.lookup f1 = some ⟨oc1, od1, .func (PySem.W.fnOf "_law_mix" "_law_mix" (defArgs s__law_mix) (defBody s__law_mix) (defScope s__law_mix) .none kV1 dc1 pm1 an1 cd1 ct1), sl1⟩) (c1 : PySem.W.codeIn K cd1 "_law_mix" = true) (k1 : PySem.W.keepIn K (.ref f1) = true)
    {f2 : Addr} {od2 an2 : Option Addr} {sl2 : Array (Option Value)} {oc2 kV2 dc2 pm2 cd2 ct2 : Value} (a2 : PySem.W.nsIn K mainGlobals "_law_letters" = some (some (.ref f2))) (l2 : K.lookup f2 = some ⟨oc2, od2, .func (PySem.W.fnOf "_law_letters" "_law_letters" (defArgs s__law_letters) (defBody s__law_letters) (defScope s__law_letters) .none kV2 dc2 pm2 an2 cd2 ct2), sl2⟩) (c2 : PySem.W.codeIn K cd2 "_law_letters" = true) (k2 : PySem.W.keepIn K (.ref f2) = true)
    {f3 : Addr} {od3 an3 : Option Addr} {sl3 : Array (Option Value)} {oc3 kV3 dc3 pm3 cd3 ct3 : Value} (a3 : PySem.W.nsIn K mainGlobals "_law_name" = some (some (.ref f3))) (l3 : K.lookup f3 = some ⟨oc3, od3, .func (PySem.W.fnOf "_law_name" "_law_name" (defArgs s__law_name) (defBody s__law_name) (defScope s__law_name) .none kV3 dc3 pm3 an3 cd3 ct3), sl3⟩) (c3 : PySem.W.codeIn K cd3 "_law_name" = true) (k3 : PySem.W.keepIn K (.ref f3) = true)
    {f4 : Addr} {od4 an4 : Option Addr} {sl4 : Array (Option Value)} {oc4 kV4 dc4 pm4 cd4 ct4 : Value} (a4 : PySem.W.nsIn K mainGlobals "_law_question" = some (some (.ref f4))) (l4 : K.lookup f4 = some ⟨oc4, od4, .func (PySem.W.fnOf "_law_question" "_law_question" (defArgs s__law_question) (defBody s__law_question) (defScope s__law_question) .none kV4 dc4 pm4 an4 cd4 ct4), sl4⟩) (c4 : PySem.W.codeIn K cd4 "_law_question" = true) (k4 : PySem.W.keepIn K (.ref f4) = true)
    {f5 : Addr} {od5 an5 : Option Addr} {sl5 : Array (Option Value)} {oc5 kV5 dc5 pm5 cd5 ct5 : Value} (a5 : PySem.W.nsIn K mainGlobals "_law_shown" = some (some (.ref f5))) (l5 : K.lookup f5 = some ⟨oc5, od5, .func (PySem.W.fnOf "_law_shown" "_law_shown" (defArgs s__law_shown) (defBody s__law_shown) (defScope s__law_shown) .none kV5 dc5 pm5 an5 cd5 ct5), sl5⟩) (c5 : PySem.W.codeIn K cd5 "_law_shown" = true) (k5 : PySem.W.keepIn K (.ref f5) = true)
    {f6 : Addr} {od6 an6 : Option Addr} {sl6 : Array (Option Value)} {oc6 kV6 dc6 pm6 cd6 ct6 : Value} (a6 : PySem.W.nsIn K mainGlobals "show_pattern" = some (some (.ref f6))) (l6 : K.lookup f6 = some ⟨oc6, od6, .func (PySem.W.fnOf "show_pattern" "show_pattern" (defArgs s_show_pattern) (defBody s_show_pattern) (defScope s_show_pattern) .none kV6 dc6 pm6 an6 cd6 ct6), sl6⟩) (c6 : PySem.W.codeIn K cd6 "show_pattern" = true) (k6 : PySem.W.keepIn K (.ref f6) = true)
    {f7 : Addr} {od7 an7 : Option Addr} {sl7 : Array (Option Value)} {oc7 kV7 dc7 pm7 cd7 ct7 : Value} (a7 : PySem.W.nsIn K mainGlobals "show_question" = some (some (.ref f7))) (l7 : K.lookup f7 = some ⟨oc7, od7, .func (PySem.W.fnOf "show_question" "show_question" (defArgs s_show_question) (defBody s_show_question) (defScope s_show_question) .none kV7 dc7 pm7 an7 cd7 ct7), sl7⟩) (c7 : PySem.W.codeIn K cd7 "show_question" = true) (k7 : PySem.W.keepIn K (.ref f7) = true)
    {f8 : Addr} {od8 an8 : Option Addr} {sl8 : Array (Option Value)} {oc8 kV8 dc8 pm8 cd8 ct8 : Value} (a8 : PySem.W.nsIn K mainGlobals "_law_is_name" = some (some (.ref f8))) (l8 : K.lookup f8 = some ⟨oc8, od8, .func (PySem.W.fnOf "_law_is_name" "_law_is_name" (defArgs s__law_is_name) (defBody s__law_is_name) (defScope s__law_is_name) .none kV8 dc8 pm8 an8 cd8 ct8), sl8⟩) (c8 : PySem.W.codeIn K cd8 "_law_is_name" = true) (k8 : PySem.W.keepIn K (.ref f8) = true)
    {f9 : Addr} {od9 an9 : Option Addr} {sl9 : Array (Option Value)} {oc9 kV9 dc9 pm9 cd9 ct9 : Value} (a9 : PySem.W.nsIn K mainGlobals "_law_told" = some (some (.ref f9))) (l9 : K.lookup f9 = some ⟨oc9, od9, .func (PySem.W.fnOf "_law_told" "_law_told" (defArgs s__law_told) (defBody s__law_told) (defScope s__law_told) .none kV9 dc9 pm9 an9 cd9 ct9), sl9⟩) (c9 : PySem.W.codeIn K cd9 "_law_told" = true) (k9 : PySem.W.keepIn K (.ref f9) = true)
    {f10 : Addr} {od10 an10 : Option Addr} {sl10 : Array (Option Value)} {oc10 kV10 dc10 pm10 cd10 ct10 : Value} (a10 : PySem.W.nsIn K mainGlobals "is_name" = some (some (.ref f10))) (l10 : K.lookup f10 = some ⟨oc10, od10, .func (PySem.W.fnOf "is_name" "is_name" (defArgs s_is_name) (defBody s_is_name) (defScope s_is_name) .none kV10 dc10 pm10 an10 cd10 ct10), sl10⟩) (c10 : PySem.W.codeIn K cd10 "is_name" = true) (k10 : PySem.W.keepIn K (.ref f10) = true)
    {f11 : Addr} {od11 an11 : Option Addr} {sl11 : Array (Option Value)} {oc11 kV11 dc11 pm11 cd11 ct11 : Value} (a11 : PySem.W.nsIn K mainGlobals "read_pattern" = some (some (.ref f11))) (l11 : K.lookup f11 = some ⟨oc11, od11, .func (PySem.W.fnOf "read_pattern" "read_pattern" (defArgs s_read_pattern) (defBody s_read_pattern) (defScope s_read_pattern) .none kV11 dc11 pm11 an11 cd11 ct11), sl11⟩) (c11 : PySem.W.codeIn K cd11 "read_pattern" = true) (k11 : PySem.W.keepIn K (.ref f11) = true)
    {f12 : Addr} {od12 an12 : Option Addr} {sl12 : Array (Option Value)} {oc12 kV12 dc12 pm12 cd12 ct12 : Value} (a12 : PySem.W.nsIn K mainGlobals "letters_of" = some (some (.ref f12))) (l12 : K.lookup f12 = some ⟨oc12, od12, .func (PySem.W.fnOf "letters_of" "letters_of" (defArgs s_letters_of) (defBody s_letters_of) (defScope s_letters_of) .none kV12 dc12 pm12 an12 cd12 ct12), sl12⟩) (c12 : PySem.W.codeIn K cd12 "letters_of" = true) (k12 : PySem.W.keepIn K (.ref f12) = true)
    {f13 : Addr} {od13 an13 : Option Addr} {sl13 : Array (Option Value)} {oc13 kV13 dc13 pm13 cd13 ct13 : Value} (a13 : PySem.W.nsIn K mainGlobals "shape_of" = some (some (.ref f13))) (l13 : K.lookup f13 = some ⟨oc13, od13, .func (PySem.W.fnOf "shape_of" "shape_of" (defArgs s_shape_of) (defBody s_shape_of) (defScope s_shape_of) .none kV13 dc13 pm13 an13 cd13 ct13), sl13⟩) (c13 : PySem.W.codeIn K cd13 "shape_of" = true) (k13 : PySem.W.keepIn K (.ref f13) = true)
    {f14 : Addr} {od14 an14 : Option Addr} {sl14 : Array (Option Value)} {oc14 kV14 dc14 pm14 cd14 ct14 : Value} (a14 : PySem.W.nsIn K mainGlobals "read_question" = some (some (.ref f14))) (l14 : K.lookup f14 = some ⟨oc14, od14, .func (PySem.W.fnOf "read_question" "read_question" (defArgs s_read_question) (defBody s_read_question) (defScope s_read_question) .none kV14 dc14 pm14 an14 cd14 ct14), sl14⟩) (c14 : PySem.W.codeIn K cd14 "read_question" = true) (k14 : PySem.W.keepIn K (.ref f14) = true)
    {f15 : Addr} {od15 an15 : Option Addr} {sl15 : Array (Option Value)} {oc15 kV15 dc15 pm15 cd15 ct15 : Value} (a15 : PySem.W.nsIn K mainGlobals "_law_right" = some (some (.ref f15))) (l15 : K.lookup f15 = some ⟨oc15, od15, .func (PySem.W.fnOf "_law_right" "_law_right" (defArgs s__law_right) (defBody s__law_right) (defScope s__law_right) .none kV15 dc15 pm15 an15 cd15 ct15), sl15⟩) (c15 : PySem.W.codeIn K cd15 "_law_right" = true) (k15 : PySem.W.keepIn K (.ref f15) = true)
    {f16 : Addr} {od16 an16 : Option Addr} {sl16 : Array (Option Value)} {oc16 kV16 dc16 pm16 cd16 ct16 : Value} (a16 : PySem.W.nsIn K mainGlobals "_law_odd" = some (some (.ref f16))) (l16 : K.lookup f16 = some ⟨oc16, od16, .func (PySem.W.fnOf "_law_odd" "_law_odd" (defArgs s__law_odd) (defBody s__law_odd) (defScope s__law_odd) .none kV16 dc16 pm16 an16 cd16 ct16), sl16⟩) (c16 : PySem.W.codeIn K cd16 "_law_odd" = true) (k16 : PySem.W.keepIn K (.ref f16) = true)
    {f17 : Addr} {od17 an17 : Option Addr} {sl17 : Array (Option Value)} {oc17 kV17 dc17 pm17 cd17 ct17 : Value} (a17 : PySem.W.nsIn K mainGlobals "_law_spoiled" = some (some (.ref f17))) (l17 : K.lookup f17 = some ⟨oc17, od17, .func (PySem.W.fnOf "_law_spoiled" "_law_spoiled" (defArgs s__law_spoiled) (defBody s__law_spoiled) (defScope s__law_spoiled) .none kV17 dc17 pm17 an17 cd17 ct17), sl17⟩) (c17 : PySem.W.codeIn K cd17 "_law_spoiled" = true) (k17 : PySem.W.keepIn K (.ref f17) = true)
    {f18 : Addr} {od18 an18 : Option Addr} {sl18 : Array (Option Value)} {oc18 kV18 dc18 pm18 cd18 ct18 : Value} (a18 : PySem.W.nsIn K mainGlobals "law" = some (some (.ref f18))) (l18 : K.lookup f18 = some ⟨oc18, od18, .func (PySem.W.fnOf "law" "law" (defArgs s_law) (defBody s_law) (defScope s_law) .none kV18 dc18 pm18 an18 cd18 ct18), sl18⟩) (c18 : PySem.W.codeIn K cd18 "law" = true) (k18 : PySem.W.keepIn K (.ref f18) = true)
    {C_JoinError : Addr} (xa_JoinError : PySem.W.nsIn K mainGlobals "JoinError" = some (some (.ref C_JoinError)))
    (xk_JoinError : PySem.W.keepIn K (.ref C_JoinError) = true)
    (xe_JoinError : PySem.W.excIn K C_JoinError veMro "ValueError.__new__" = true)
    (xb_JoinError : PySem.W.subIn K (.ref C_JoinError) (.type "BaseException") = some true)
    (xv_JoinError : PySem.W.subIn K (.ref C_JoinError) (.type "ValueError") = some true)
    (xs_JoinError : PySem.W.subIn K (.ref C_JoinError) (.ref C_JoinError) = some true)
    (xn_JoinError : PySem.W.subIn K (.type "NoneType") (.ref C_JoinError) = some false)
    (xt_JoinError : PySem.W.typeIn K (.ref C_JoinError) = some (.type "type"))
    (xd_JoinError : PySem.W.hasDictIn K C_JoinError = true)
    (xg_JoinError : PySem.W.findIn K (.ref C_JoinError) "__getattribute__" = some (some (.builtin "BaseException.__getattribute__")))
    (xh_JoinError : PySem.W.findIn K (.ref C_JoinError) "__getattr__" = some none)
    (xc_JoinError : PySem.W.findIn K (.ref C_JoinError) "__class__" = some (some (.builtin "object.__class__")))
    (xm_JoinError : PySem.W.mroIn K C_JoinError (.type "object") = some true)
    {C_NoTable : Addr} (xa_NoTable : PySem.W.nsIn K mainGlobals "NoTable" = some (some (.ref C_NoTable)))
    (xk_NoTable : PySem.W.keepIn K (.ref C_NoTable) = true)
    (xe_NoTable : PySem.W.excIn K C_NoTable veMro "ValueError.__new__" = true)
    (xb_NoTable : PySem.W.subIn K (.ref C_NoTable) (.type "BaseException") = some true)
    (xv_NoTable : PySem.W.subIn K (.ref C_NoTable) (.type "ValueError") = some true)
    (xs_NoTable : PySem.W.subIn K (.ref C_NoTable) (.ref C_NoTable) = some true)
    (xn_NoTable : PySem.W.subIn K (.type "NoneType") (.ref C_NoTable) = some false)
    (xt_NoTable : PySem.W.typeIn K (.ref C_NoTable) = some (.type "type"))
    (xd_NoTable : PySem.W.hasDictIn K C_NoTable = true)
    (xg_NoTable : PySem.W.findIn K (.ref C_NoTable) "__getattribute__" = some (some (.builtin "BaseException.__getattribute__")))
    (xh_NoTable : PySem.W.findIn K (.ref C_NoTable) "__getattr__" = some none)
    (xc_NoTable : PySem.W.findIn K (.ref C_NoTable) "__class__" = some (some (.builtin "object.__class__")))
    (xm_NoTable : PySem.W.mroIn K C_NoTable (.type "object") = some true)
    {C_NoWidth : Addr} (xa_NoWidth : PySem.W.nsIn K mainGlobals "NoWidth" = some (some (.ref C_NoWidth)))
    (xk_NoWidth : PySem.W.keepIn K (.ref C_NoWidth) = true)
    (xe_NoWidth : PySem.W.excIn K C_NoWidth veMro "ValueError.__new__" = true)
    (xb_NoWidth : PySem.W.subIn K (.ref C_NoWidth) (.type "BaseException") = some true)
    (xv_NoWidth : PySem.W.subIn K (.ref C_NoWidth) (.type "ValueError") = some true)
    (xs_NoWidth : PySem.W.subIn K (.ref C_NoWidth) (.ref C_NoWidth) = some true)
    (xn_NoWidth : PySem.W.subIn K (.type "NoneType") (.ref C_NoWidth) = some false)
    (xt_NoWidth : PySem.W.typeIn K (.ref C_NoWidth) = some (.type "type"))
    (xd_NoWidth : PySem.W.hasDictIn K C_NoWidth = true)
    (xg_NoWidth : PySem.W.findIn K (.ref C_NoWidth) "__getattribute__" = some (some (.builtin "BaseException.__getattribute__")))
    (xh_NoWidth : PySem.W.findIn K (.ref C_NoWidth) "__getattr__" = some none)
    (xc_NoWidth : PySem.W.findIn K (.ref C_NoWidth) "__class__" = some (some (.builtin "object.__class__")))
    (xm_NoWidth : PySem.W.mroIn K C_NoWidth (.type "object") = some true)
    {C_NoAnswer : Addr} (xa_NoAnswer : PySem.W.nsIn K mainGlobals "NoAnswer" = some (some (.ref C_NoAnswer)))
    (xk_NoAnswer : PySem.W.keepIn K (.ref C_NoAnswer) = true)
    (xe_NoAnswer : PySem.W.excIn K C_NoAnswer veMro "ValueError.__new__" = true)
    (xb_NoAnswer : PySem.W.subIn K (.ref C_NoAnswer) (.type "BaseException") = some true)
    (xv_NoAnswer : PySem.W.subIn K (.ref C_NoAnswer) (.type "ValueError") = some true)
    (xs_NoAnswer : PySem.W.subIn K (.ref C_NoAnswer) (.ref C_NoAnswer) = some true)
    (xn_NoAnswer : PySem.W.subIn K (.type "NoneType") (.ref C_NoAnswer) = some false)
    (xt_NoAnswer : PySem.W.typeIn K (.ref C_NoAnswer) = some (.type "type"))
    (xd_NoAnswer : PySem.W.hasDictIn K C_NoAnswer = true)
    (xg_NoAnswer : PySem.W.findIn K (.ref C_NoAnswer) "__getattribute__" = some (some (.builtin "BaseException.__getattribute__")))
    (xh_NoAnswer : PySem.W.findIn K (.ref C_NoAnswer) "__getattr__" = some none)
    (xc_NoAnswer : PySem.W.findIn K (.ref C_NoAnswer) "__class__" = some (some (.builtin "object.__class__")))
    (xm_NoAnswer : PySem.W.mroIn K C_NoAnswer (.type "object") = some true)
    {C_NoText : Addr} (xa_NoText : PySem.W.nsIn K mainGlobals "NoText" = some (some (.ref C_NoText)))
    (xk_NoText : PySem.W.keepIn K (.ref C_NoText) = true)
    (xe_NoText : PySem.W.excIn K C_NoText veMro "ValueError.__new__" = true)
    (xb_NoText : PySem.W.subIn K (.ref C_NoText) (.type "BaseException") = some true)
    (xv_NoText : PySem.W.subIn K (.ref C_NoText) (.type "ValueError") = some true)
    (xs_NoText : PySem.W.subIn K (.ref C_NoText) (.ref C_NoText) = some true)
    (xn_NoText : PySem.W.subIn K (.type "NoneType") (.ref C_NoText) = some false)
    (xt_NoText : PySem.W.typeIn K (.ref C_NoText) = some (.type "type"))
    (xd_NoText : PySem.W.hasDictIn K C_NoText = true)
    (xg_NoText : PySem.W.findIn K (.ref C_NoText) "__getattribute__" = some (some (.builtin "BaseException.__getattribute__")))
    (xh_NoText : PySem.W.findIn K (.ref C_NoText) "__getattr__" = some none)
    (xc_NoText : PySem.W.findIn K (.ref C_NoText) "__class__" = some (some (.builtin "object.__class__")))
    (xm_NoText : PySem.W.mroIn K C_NoText (.type "object") = some true)
    {C_NoRow : Addr} (xa_NoRow : PySem.W.nsIn K mainGlobals "NoRow" = some (some (.ref C_NoRow)))
    (xk_NoRow : PySem.W.keepIn K (.ref C_NoRow) = true)
    (xe_NoRow : PySem.W.excIn K C_NoRow veMro "ValueError.__new__" = true)
    (xb_NoRow : PySem.W.subIn K (.ref C_NoRow) (.type "BaseException") = some true)
    (xv_NoRow : PySem.W.subIn K (.ref C_NoRow) (.type "ValueError") = some true)
    (xs_NoRow : PySem.W.subIn K (.ref C_NoRow) (.ref C_NoRow) = some true)
    (xn_NoRow : PySem.W.subIn K (.type "NoneType") (.ref C_NoRow) = some false)
    (xt_NoRow : PySem.W.typeIn K (.ref C_NoRow) = some (.type "type"))
    (xd_NoRow : PySem.W.hasDictIn K C_NoRow = true)
    (xg_NoRow : PySem.W.findIn K (.ref C_NoRow) "__getattribute__" = some (some (.builtin "BaseException.__getattribute__")))
    (xh_NoRow : PySem.W.findIn K (.ref C_NoRow) "__getattr__" = some none)
    (xc_NoRow : PySem.W.findIn K (.ref C_NoRow) "__class__" = some (some (.builtin "object.__class__")))
    (xm_NoRow : PySem.W.mroIn K C_NoRow (.type "object") = some true)
    (xp_NoText_NoTable : PySem.W.subIn K (.ref C_NoText) (.ref C_NoTable) = some false)
    (xp_NoText_NoWidth : PySem.W.subIn K (.ref C_NoText) (.ref C_NoWidth) = some false)
    (xp_NoText_NoAnswer : PySem.W.subIn K (.ref C_NoText) (.ref C_NoAnswer) = some false)
    (xp_NoText_NoRow : PySem.W.subIn K (.ref C_NoText) (.ref C_NoRow) = some false)
    (xp_NoText_NoText : PySem.W.subIn K (.ref C_NoText) (.ref C_NoText) = some true)
    (xp_NoText_JoinError : PySem.W.subIn K (.ref C_NoText) (.ref C_JoinError) = some true)
    (xo1 : PySem.W.specialIn K (.builtin "object.__class__") "__get__" = some (some (.builtin "getset_descriptor.__get__"))) (xo2 : PySem.W.takesIn K (.builtin "object.__class__") = some true)
    (z_isinstance : PySem.W.nsIn K mainGlobals "isinstance" = some none)
    (z_str : PySem.W.nsIn K mainGlobals "str" = some none)
    (z_range : PySem.W.nsIn K mainGlobals "range" = some none)
    (z_list : PySem.W.nsIn K mainGlobals "list" = some none)
    (z_len : PySem.W.nsIn K mainGlobals "len" = some none)
    (z_tuple : PySem.W.nsIn K mainGlobals "tuple" = some none)
    (z_ValueError : PySem.W.nsIn K mainGlobals "ValueError" = some none)
    (z_sorted : PySem.W.nsIn K mainGlobals "sorted" = some none)
    {t_SMALL : Tok} (g_SMALL : PySem.W.nsIn K mainGlobals "SMALL" = some (some (.str (Str.ofString "abcdefghijklmnopqrstuvwxyz") t_SMALL)))
    {t_GREAT : Tok} (g_GREAT : PySem.W.nsIn K mainGlobals "GREAT" = some (some (.str (Str.ofString "ABCDEFGHIJKLMNOPQRSTUVWXYZ") t_GREAT)))
    {t_PATTERNS : Tok} (g_PATTERNS : PySem.W.nsIn K mainGlobals "PATTERNS" = some (some (.int 6 t_PATTERNS)))
    {t_WIDTH : Tok} (g_WIDTH : PySem.W.nsIn K mainGlobals "WIDTH" = some (some (.int 4 t_WIDTH)))
    {t_LETTERS : Tok} (g_LETTERS : PySem.W.nsIn K mainGlobals "LETTERS" = some (some (.int 6 t_LETTERS)))
    : ∃ fd : FuncData, (∀ (s : Shared) (v : Value), BindsTo s fd ⟨[v], []⟩ [("_law_script", v)]) ∧ ∀ base : Heap, K.In base → base.Ns mainGlobals mg → FnOk l.prog w K mg base (L2.CX l.prog w) 5 fa fd ["_law_script"] (spLaw K) := by
  have e := hfa.symm.trans (PySem.W.mg_of X G a18)
  cases e
  have e_JoinError : ErrC K mg "JoinError" := ⟨_, PySem.W.mg_of X G xa_JoinError, ⟨xk_JoinError, xe_JoinError, xb_JoinError, xv_JoinError, xs_JoinError, xn_JoinError, xt_JoinError, xd_JoinError, xg_JoinError, xh_JoinError, xc_JoinError, xm_JoinError⟩⟩
  have e_NoTable : ErrC K mg "NoTable" := ⟨_, PySem.W.mg_of X G xa_NoTable, ⟨xk_NoTable, xe_NoTable, xb_NoTable, xv_NoTable, xs_NoTable, xn_NoTable, xt_NoTable, xd_NoTable, xg_NoTable, xh_NoTable, xc_NoTable, xm_NoTable⟩⟩
  have e_NoWidth : ErrC K mg "NoWidth" := ⟨_, PySem.W.mg_of X G xa_NoWidth, ⟨xk_NoWidth, xe_NoWidth, xb_NoWidth, xv_NoWidth, xs_NoWidth, xn_NoWidth, xt_NoWidth, xd_NoWidth, xg_NoWidth, xh_NoWidth, xc_NoWidth, xm_NoWidth⟩⟩
  have e_NoAnswer : ErrC K mg "NoAnswer" := ⟨_, PySem.W.mg_of X G xa_NoAnswer, ⟨xk_NoAnswer, xe_NoAnswer, xb_NoAnswer, xv_NoAnswer, xs_NoAnswer, xn_NoAnswer, xt_NoAnswer, xd_NoAnswer, xg_NoAnswer, xh_NoAnswer, xc_NoAnswer, xm_NoAnswer⟩⟩
  have e_NoText : ErrC K mg "NoText" := ⟨_, PySem.W.mg_of X G xa_NoText, ⟨xk_NoText, xe_NoText, xb_NoText, xv_NoText, xs_NoText, xn_NoText, xt_NoText, xd_NoText, xg_NoText, xh_NoText, xc_NoText, xm_NoText⟩⟩
  have e_NoRow : ErrC K mg "NoRow" := ⟨_, PySem.W.mg_of X G xa_NoRow, ⟨xk_NoRow, xe_NoRow, xb_NoRow, xv_NoRow, xs_NoRow, xn_NoRow, xt_NoRow, xd_NoRow, xg_NoRow, xh_NoRow, xc_NoRow, xm_NoRow⟩⟩
  have T : Tx K mg := ⟨PySem.W.mg_none_of X G z_isinstance, PySem.W.mg_none_of X G z_str, PySem.W.mg_none_of X G z_range, PySem.W.mg_none_of X G z_list, PySem.W.mg_none_of X G z_len, PySem.W.mg_none_of X G z_tuple, PySem.W.mg_none_of X G z_ValueError, PySem.W.mg_none_of X G z_sorted, e_JoinError, e_NoTable, e_NoWidth, e_NoAnswer, e_NoText, e_NoRow, ⟨xo1, xo2⟩, List.forall_mem_cons.mpr ⟨⟨e_NoText, ErrP.mk (PySem.W.mg_of X G xa_NoText) (PySem.W.mg_of X G xa_NoTable) xp_NoText_NoTable⟩, fun _ h => (nomatch h)⟩, List.forall_mem_cons.mpr ⟨⟨e_NoText, ErrP.mk (PySem.W.mg_of X G xa_NoText) (PySem.W.mg_of X G xa_NoWidth) xp_NoText_NoWidth⟩, fun _ h => (nomatch h)⟩, List.forall_mem_cons.mpr ⟨⟨e_NoText, ErrP.mk (PySem.W.mg_of X G xa_NoText) (PySem.W.mg_of X G xa_NoAnswer) xp_NoText_NoAnswer⟩, fun _ h => (nomatch h)⟩, List.forall_mem_cons.mpr ⟨⟨e_NoText, ErrP.mk (PySem.W.mg_of X G xa_NoText) (PySem.W.mg_of X G xa_NoRow) xp_NoText_NoRow⟩, fun _ h => (nomatch h)⟩, List.forall_mem_cons.mpr ⟨⟨e_NoText, ErrP.mk (PySem.W.mg_of X G xa_NoText) (PySem.W.mg_of X G xa_NoText) xp_NoText_NoText⟩, fun _ h => (nomatch h)⟩, List.forall_mem_cons.mpr ⟨e_NoTable, List.forall_mem_cons.mpr ⟨e_NoWidth, List.forall_mem_cons.mpr ⟨e_NoAnswer, List.forall_mem_cons.mpr ⟨e_NoRow, fun _ h => (nomatch h)⟩⟩⟩⟩, List.forall_mem_cons.mpr ⟨⟨e_NoText, [false, false, false, false], (.cons (ErrP.mk (PySem.W.mg_of X G xa_NoText) (PySem.W.mg_of X G xa_NoTable) xp_NoText_NoTable) (.cons (ErrP.mk (PySem.W.mg_of X G xa_NoText) (PySem.W.mg_of X G xa_NoWidth) xp_NoText_NoWidth) (.cons (ErrP.mk (PySem.W.mg_of X G xa_NoText) (PySem.W.mg_of X G xa_NoAnswer) xp_NoText_NoAnswer) (.cons (ErrP.mk (PySem.W.mg_of X G xa_NoText) (PySem.W.mg_of X G xa_NoRow) xp_NoText_NoRow) .nil)))), rfl⟩, fun _ h => (nomatch h)⟩, List.forall_mem_cons.mpr ⟨e_NoText, fun _ h => (nomatch h)⟩, List.forall_mem_cons.mpr ⟨ErrP.mk (PySem.W.mg_of X G xa_NoText) (PySem.W.mg_of X G xa_JoinError) xp_NoText_JoinError, fun _ h => (nomatch h)⟩, ⟨_, PySem.W.mg_of X G g_SMALL⟩, ⟨_, PySem.W.mg_of X G g_GREAT⟩, ⟨_, PySem.W.mg_of X G g_PATTERNS⟩, ⟨_, PySem.W.mg_of X G g_WIDTH⟩, ⟨_, PySem.W.mg_of X G g_LETTERS⟩⟩
  refine ⟨PySem.W.fnOf "law" "law" (defArgs s_law) (defBody s_law) (defScope s_law) .none kV18 dc18 pm18 an18 cd18 ct18, fun s v => .of_eq rfl, fun base _ _ => ?_⟩
  have F1 := fun_mk (st := s__law_mix) l1 c1 k1
  have F2 := fun_mk (st := s__law_letters) l2 c2 k2
  have F3 := fun_mk (st := s__law_name) l3 c3 k3
  have F4 := fun_mk (st := s__law_question) l4 c4 k4
  have F5 := fun_mk (st := s__law_shown) l5 c5 k5
  have F6 := fun_mk (st := s_show_pattern) l6 c6 k6
  have F7 := fun_mk (st := s_show_question) l7 c7 k7
  have F8 := fun_mk (st := s__law_is_name) l8 c8 k8
  have F9 := fun_mk (st := s__law_told) l9 c9 k9
  have F10 := fun_mk (st := s_is_name) l10 c10 k10
  have F11 := fun_mk (st := s_read_pattern) l11 c11 k11
  have F12 := fun_mk (st := s_letters_of) l12 c12 k12
  have F13 := fun_mk (st := s_shape_of) l13 c13 k13
  have F14 := fun_mk (st := s_read_question) l14 c14 k14
  have F15 := fun_mk (st := s__law_right) l15 c15 k15
  have F16 := fun_mk (st := s__law_odd) l16 c16 k16
  have F17 := fun_mk (st := s__law_spoiled) l17 c17 k17
  have F18 := fun_mk (st := s_law) l18 c18 k18
  have C__law_mix : Cal l.prog w K mg base 1 "_law_mix" 2 m__law_mix := ⟨_, _, ["_law_cell", "_law_j"], ok__law_mix F1 T , PySem.W.mg_of X G a1, k1, F1.binds (ps := ["_law_cell", "_law_j"]) fun _ _ _ _ _ _ us hl => match us, hl with | [_, _], _ => rfl⟩
  have C__law_letters : Cal l.prog w K mg base 2 "_law_letters" 1 m__law_letters := ⟨_, _, ["_law_cell"], ok__law_letters F2 T C__law_mix, PySem.W.mg_of X G a2, k2, F2.binds (ps := ["_law_cell"]) fun _ _ _ _ _ _ us hl => match us, hl with | [_], _ => rfl⟩
  have C__law_name : Cal l.prog w K mg base 2 "_law_name" 2 m__law_name := ⟨_, _, ["_law_cell", "_law_far"], ok__law_name F3 T C__law_mix, PySem.W.mg_of X G a3, k3, F3.binds (ps := ["_law_cell", "_law_far"]) fun _ _ _ _ _ _ us hl => match us, hl with | [_, _], _ => rfl⟩
  have C__law_question : Cal l.prog w K mg base 3 "_law_question" 1 m__law_question := ⟨_, _, ["_law_cell"], ok__law_question F4 T C__law_letters C__law_mix C__law_name, PySem.W.mg_of X G a4, k4, F4.binds (ps := ["_law_cell"]) fun _ _ _ _ _ _ us hl => match us, hl with | [_], _ => rfl⟩
  have C__law_shown : Cal l.prog w K mg base 1 "_law_shown" 1 m__law_shown := ⟨_, _, ["_law_question_here"], ok__law_shown F5 T , PySem.W.mg_of X G a5, k5, F5.binds (ps := ["_law_question_here"]) fun _ _ _ _ _ _ us hl => match us, hl with | [_], _ => rfl⟩
  have C_show_pattern : Cal l.prog w K mg base 1 "show_pattern" 1 m_show_pattern := ⟨_, _, ["pattern"], ok_show_pattern F6 T , PySem.W.mg_of X G a6, k6, F6.binds (ps := ["pattern"]) fun _ _ _ _ _ _ us hl => match us, hl with | [_], _ => rfl⟩
  have C_show_question : Cal l.prog w K mg base 2 "show_question" 1 m_show_question := ⟨_, _, ["question"], ok_show_question F7 T C_show_pattern, PySem.W.mg_of X G a7, k7, F7.binds (ps := ["question"]) fun _ _ _ _ _ _ us hl => match us, hl with | [_], _ => rfl⟩
  have C__law_is_name : Cal l.prog w K mg base 1 "_law_is_name" 1 m__law_is_name := ⟨_, _, ["_law_word"], ok__law_is_name F8 T , PySem.W.mg_of X G a8, k8, F8.binds (ps := ["_law_word"]) fun _ _ _ _ _ _ us hl => match us, hl with | [_], _ => rfl⟩
  have C__law_told : Cal l.prog w K mg base 2 "_law_told" 1 m__law_told := ⟨_, _, ["_law_text"], ok__law_told F9 T C__law_is_name, PySem.W.mg_of X G a9, k9, F9.binds (ps := ["_law_text"]) fun _ _ _ _ _ _ us hl => match us, hl with | [_], _ => rfl⟩
  have C_is_name : Cal l.prog w K mg base 1 "is_name" 1 m_is_name := ⟨_, _, ["word"], ok_is_name F10 T , PySem.W.mg_of X G a10, k10, F10.binds (ps := ["word"]) fun _ _ _ _ _ _ us hl => match us, hl with | [_], _ => rfl⟩
  have C_read_pattern : Cal l.prog w K mg base 2 "read_pattern" 1 m_read_pattern := ⟨_, _, ["text"], ok_read_pattern F11 T C_is_name, PySem.W.mg_of X G a11, k11, F11.binds (ps := ["text"]) fun _ _ _ _ _ _ us hl => match us, hl with | [_], _ => rfl⟩
  have C_letters_of : Cal l.prog w K mg base 1 "letters_of" 1 m_letters_of := ⟨_, _, ["shape"], ok_letters_of F12 T , PySem.W.mg_of X G a12, k12, F12.binds (ps := ["shape"]) fun _ _ _ _ _ _ us hl => match us, hl with | [_], _ => rfl⟩
  have C_shape_of : Cal l.prog w K mg base 1 "shape_of" 1 m_shape_of := ⟨_, _, ["question"], ok_shape_of F13 T , PySem.W.mg_of X G a13, k13, F13.binds (ps := ["question"]) fun _ _ _ _ _ _ us hl => match us, hl with | [_], _ => rfl⟩
  have C_read_question : Cal l.prog w K mg base 3 "read_question" 1 m_read_question := ⟨_, _, ["text"], ok_read_question F14 T C_read_pattern C_letters_of C_shape_of, PySem.W.mg_of X G a14, k14, F14.binds (ps := ["text"]) fun _ _ _ _ _ _ us hl => match us, hl with | [_], _ => rfl⟩
  have C__law_right : Cal l.prog w K mg base 4 "_law_right" 1 m__law_right := ⟨_, _, ["_law_text"], ok__law_right F15 T C__law_told C_read_question, PySem.W.mg_of X G a15, k15, F15.binds (ps := ["_law_text"]) fun _ _ _ _ _ _ us hl => match us, hl with | [_], _ => rfl⟩
  have C__law_odd : Cal l.prog w K mg base 2 "_law_odd" 1 m__law_odd := ⟨_, _, ["_law_cell"], ok__law_odd F16 T C__law_mix, PySem.W.mg_of X G a16, k16, F16.binds (ps := ["_law_cell"]) fun _ _ _ _ _ _ us hl => match us, hl with | [_], _ => rfl⟩
  have C__law_spoiled : Cal l.prog w K mg base 3 "_law_spoiled" 2 m__law_spoiled := ⟨_, _, ["_law_text", "_law_cell"], ok__law_spoiled F17 T C__law_mix C__law_odd, PySem.W.mg_of X G a17, k17, F17.binds (ps := ["_law_text", "_law_cell"]) fun _ _ _ _ _ _ us hl => match us, hl with | [_, _], _ => rfl⟩
  exact ok_law F18 T C__law_question C__law_shown C_show_question C__law_right C__law_spoiled hlaw
theorem walk {l : PySem.W.OpenLaw} {q : Program} {loose : List Str} {XP : (Str → Option Value) → Heap → Prop} {YP : World → Heap → Prop} {d : DefRec} {K : Params → PySem.W.Frag} (hn : l.most = some 63) (hdf : d.params.defaults = [])
    (hY : ∀ (w : World) (h : Heap), YP w h → (K w.params).In h)
    (F : ∀ (w : World) (mg : Str → Option Value) (fa : Addr) (h : Heap), (K w.params).In h → h.Ns mainGlobals mg → mg d.name = some (.ref fa) →
      ∃ fd : FuncData, (∀ (s : Shared) (u : Value), BindsTo s fd ⟨[u], []⟩ [("_law_script", u)]) ∧ ∀ base : Heap, (K w.params).In base → base.Ns mainGlobals mg → FnOk l.prog w (K w.params) mg base (L2.CX l.prog w) 5 fa fd ["_law_script"] (spLaw (K w.params))) :
    PySem.W.WalkO q loose XP YP l.row.toRowW d [] (fun f vs => PySem.call f vs) :=
  L2.walk_of (n := 63) (k := 5) (x := "_law_script") (CX := fun w => L2.CX l.prog w) (sp := fun w => spLaw (K w.params)) hn (by decide) hdf ⟨rfl, by decide, by decide⟩ hY F (fun _ _ a ns hl _ hS => ⟨a, ns, rfl, hS, hl, fun _ => rfl⟩) fun _ _ _ _ _ z => let ⟨_, _, _, _, _, _, _, _, _, _, _, _, z⟩ := z; z.elim
set_option maxHeartbeats 4000000
def Tcs_1 : List Chr := [65, 66, 67, 68, 69, 70, 71, 72, 73, 74, 75, 76, 77, 78, 79, 80, 81, 82, 83, 84, 85, 86, 87, 88, 89, 90]
theorem cs_1 : Str.ofString "ABCDEFGHIJKLMNOPQRSTUVWXYZ" = sxS Tcs_1 := by decide +kernel
def Tcs_2 : List Chr := [97, 98, 99, 100, 101, 102, 103, 104, 105, 106, 107, 108, 109, 110, 111, 112, 113, 114, 115, 116, 117, 118, 119, 120, 121, 122]
theorem cs_2 : Str.ofString "abcdefghijklmnopqrstuvwxyz" = sxS Tcs_2 := by decide +kernel
def Tcs_3 : List Chr := []
theorem cs_3 : Str.ofString "" = sxS Tcs_3 := by decide +kernel
def Tcs_4 : List Chr := [44, 32]
theorem cs_4 : Str.ofString ", " = sxS Tcs_4 := by decide +kernel
def Tcs_5 : List Chr := [32]
theorem cs_5 : Str.ofString " " = sxS Tcs_5 := by decide +kernel
def Tcs_6 : List Chr := [97, 32]
theorem cs_6 : Str.ofString "a " = sxS Tcs_6 := by decide +kernel
def Tcs_7 : List Chr := [32, 97, 32, 65]
theorem cs_7 : Str.ofString " a A" = sxS Tcs_7 := by decide +kernel
def Tcs_8 : List Chr := [97, 32, 32, 65]
theorem cs_8 : Str.ofString "a  A" = sxS Tcs_8 := by decide +kernel
def Tcs_9 : List Chr := [97, 32, 65, 32]
theorem cs_9 : Str.ofString "a A " = sxS Tcs_9 := by decide +kernel
def Tcs_10 : List Chr := [97, 32, 65, 44]
theorem cs_10 : Str.ofString "a A," = sxS Tcs_10 := by decide +kernel
def Tcs_11 : List Chr := [97, 32, 65, 44, 32]
theorem cs_11 : Str.ofString "a A, " = sxS Tcs_11 := by decide +kernel
def Tcs_12 : List Chr := [97, 32, 65, 44, 98, 32, 66]
theorem cs_12 : Str.ofString "a A,b B" = sxS Tcs_12 := by decide +kernel
def Tcs_13 : List Chr := [97, 32, 65, 59, 32, 98, 32, 66]
theorem cs_13 : Str.ofString "a A; b B" = sxS Tcs_13 := by decide +kernel
def Tcs_14 : List Chr := [97, 32, 65, 44, 32, 98]
theorem cs_14 : Str.ofString "a A, b" = sxS Tcs_14 := by decide +kernel
def Tcs_15 : List Chr := [65, 32, 65]
theorem cs_15 : Str.ofString "A A" = sxS Tcs_15 := by decide +kernel
def Tcs_16 : List Chr := [97, 32, 97]
theorem cs_16 : Str.ofString "a a" = sxS Tcs_16 := by decide +kernel
def Tcs_17 : List Chr := [97, 32, 65, 66]
theorem cs_17 : Str.ofString "a AB" = sxS Tcs_17 := by decide +kernel
def Tcs_18 : List Chr := [97, 32, 65, 32, 65]
theorem cs_18 : Str.ofString "a A A" = sxS Tcs_18 := by decide +kernel
def Tcs_19 : List Chr := [97, 32, 65, 32, 66, 32, 67, 32, 68, 32, 69]
theorem cs_19 : Str.ofString "a A B C D E" = sxS Tcs_19 := by decide +kernel
def Tcs_20 : List Chr := [97, 32, 65, 32, 66, 32, 67, 32, 68, 44, 32, 97, 32, 69, 32, 70, 32, 71]
theorem cs_20 : Str.ofString "a A B C D, a E F G" = sxS Tcs_20 := by decide +kernel
def Tcs_21 : List Chr := [97, 32, 65, 44, 32, 97, 32, 65, 44, 32, 97, 32, 65, 44, 32, 97, 32, 65, 44, 32, 97, 32, 65, 44, 32, 97, 32, 65, 44, 32, 97, 32, 65]
theorem cs_21 : Str.ofString "a A, a A, a A, a A, a A, a A, a A" = sxS Tcs_21 := by decide +kernel
def Tcs_22 : List Chr := [97, 32, 65, 10]
theorem cs_22 : Str.ofString "a A\n" = sxS Tcs_22 := by decide +kernel
def Tcs_23 : List Chr := [10, 97, 32, 65]
theorem cs_23 : Str.ofString "\na A" = sxS Tcs_23 := by decide +kernel
def Tcs_24 : List Chr := [97, 9, 65]
theorem cs_24 : Str.ofString "a	A" = sxS Tcs_24 := by decide +kernel
def Tcs_25 : List Chr := [97, 98, 99, 100, 101, 102, 103, 104, 105, 32, 65]
theorem cs_25 : Str.ofString "abcdefghi A" = sxS Tcs_25 := by decide +kernel
def Tcs_26 : List Chr := [97, 49, 32, 65]
theorem cs_26 : Str.ofString "a1 A" = sxS Tcs_26 := by decide +kernel
def Tcs_27 : List Chr := [97, 32, 63]
theorem cs_27 : Str.ofString "a ?" = sxS Tcs_27 := by decide +kernel
def Tcs_28 : List Chr := [32, 32, 32, 44, 44, 59, 97, 98, 99, 120, 121, 122, 65, 66, 67, 88, 89, 90, 48, 49, 57, 45, 10, 9]
theorem cs_28 : Str.ofString "   ,,;abcxyzABCXYZ019-\n	" = sxS Tcs_28 := by decide +kernel
noncomputable def T__law_mix (p_cell : Int) (p_j : Int) : Option Int :=
  (if ((decide ((p_cell % (2 : Int)) = (1 : Int))) && (!(decide ((p_cell / 2 ^ (27 : Nat)) = (0 : Int))))) then (shrG p_cell ((1 : Int) + ((20 : Int) * p_j))).bind fun v1 => some (v1 % (1048576 : Int)) else (mulG p_cell (((2 : Int) * p_j) + (3 : Int))).bind fun v2 => (mulG ((v2 + p_j) % (2147483629 : Int)) ((v2 + p_j) % (2147483629 : Int))).bind fun v3 => (mulG (((v3 + (1 : Int)) * (48271 : Int)) % (2147483629 : Int)) (((v3 + (1 : Int)) * (48271 : Int)) % (2147483629 : Int))).bind fun v4 => some (v4 % (2147483587 : Int)))
theorem sm__law_mix {p_cell : Int} {p_j : Int} {v : Int} (hv : T__law_mix p_cell p_j = some v) : m__law_mix [eI p_cell, eI p_j] = .ok ((oF eI) v) := by
  refine run_sg (O := (oF eI)) (t := T__law_mix p_cell p_j) ?_ hv
  unfold T__law_mix D__law_mix
  refine sg_env (e2 := [some (.fz (eI p_cell)), some (.fz (eI p_j)), none]) rfl ?_
  refine sg_one ?_
  refine sg_assoc ?_
  refine sg_ifs (ev_and (ev_test (asO (.st (.fz (eB (decide ((p_cell % (2 : Int)) = (1 : Int)))))) (ev_bin (asO (.st (.fz (eI (p_cell % (2 : Int))))) (ev_bin (ev_varF (x := eI p_cell) rfl) (ev_c (x := eI 2)) (e_mod (by decide)))) (ev_c (x := eI 1)) (t_eq (e := eI) (a := (p_cell % (2 : Int))) (b := (1 : Int)) epI (by decide) rfl rfl)))) (ev_test (asO (.st (.fz (eB (!(decide ((p_cell / 2 ^ (27 : Nat)) = (0 : Int))))))) (ev_bin (asO (.st (.fz (eI (p_cell / 2 ^ (27 : Nat))))) (ev_bin (ev_varF (x := eI p_cell) rfl) (ev_c (x := eI 27)) (e_shr (by decide)))) (ev_c (x := eI 0)) (t_ne (e := eI) (a := (p_cell / 2 ^ (27 : Nat))) (b := (0 : Int)) epI (by decide) rfl rfl))))) (fun _ => ?_) (fun _ => ?_)
  · refine sg_bind fun v1 hv1 => ?_
    exact sg_retS (o := (.fz (eI (v1 % (1048576 : Int))))) (asO (.st (.fz (eI (v1 % (1048576 : Int))))) (ev_bin (asO (.st (.fz (eI v1))) (ev_bin (ev_varF (x := eI p_cell) rfl) (asO (.st (.fz (eI ((1 : Int) + ((20 : Int) * p_j))))) (ev_bin (ev_c (x := eI 1)) (asO (.st (.fz (eI ((20 : Int) * p_j)))) (ev_bin (ev_c (x := eI 20)) (ev_varF (x := eI p_j) rfl) (e_mul (mulL (by decide))))) e_add)) (t_shrG (i := p_cell) (j := ((1 : Int) + ((20 : Int) * p_j))) hv1))) (ev_c (x := eI 1048576)) (e_mod (by decide)))) (fun e => ⟨e, rfl⟩)
  · refine sg_skip ?_
    refine sg_assoc ?_
    refine sg_bind fun v2 hv2 => ?_
    refine sg_set (o := (.fz (eI ((v2 + p_j) % (2147483629 : Int))))) (asO (.st (.fz (eI ((v2 + p_j) % (2147483629 : Int))))) (ev_bin (asO (.st (.fz (eI (v2 + p_j)))) (ev_bin (asO (.st (.fz (eI v2))) (ev_bin (ev_varF (x := eI p_cell) rfl) (asO (.st (.fz (eI (((2 : Int) * p_j) + (3 : Int))))) (ev_bin (asO (.st (.fz (eI ((2 : Int) * p_j)))) (ev_bin (ev_c (x := eI 2)) (ev_varF (x := eI p_j) rfl) (e_mul (mulL (by decide))))) (ev_c (x := eI 3)) e_add)) (t_mulG (i := p_cell) (j := (((2 : Int) * p_j) + (3 : Int))) hv2))) (ev_varF (x := eI p_j) rfl) e_add)) (ev_c (x := eI 2147483629)) (e_mod (by decide)))) ?_
    refine sg_assoc ?_
    refine sg_bind fun v3 hv3 => ?_
    refine sg_set (o := (.fz (eI (((v3 + (1 : Int)) * (48271 : Int)) % (2147483629 : Int))))) (asO (.st (.fz (eI (((v3 + (1 : Int)) * (48271 : Int)) % (2147483629 : Int))))) (ev_bin (asO (.st (.fz (eI ((v3 + (1 : Int)) * (48271 : Int))))) (ev_bin (asO (.st (.fz (eI (v3 + (1 : Int))))) (ev_bin (asO (.st (.fz (eI v3))) (ev_bin (ev_varF (x := eI ((v2 + p_j) % (2147483629 : Int))) rfl) (ev_varF (x := eI ((v2 + p_j) % (2147483629 : Int))) rfl) (t_mulG (i := ((v2 + p_j) % (2147483629 : Int))) (j := ((v2 + p_j) % (2147483629 : Int))) hv3))) (ev_c (x := eI 1)) e_add)) (ev_c (x := eI 48271)) (e_mul (mulR (by decide))))) (ev_c (x := eI 2147483629)) (e_mod (by decide)))) ?_
    refine sg_bind fun v4 hv4 => ?_
    exact sg_retS (o := (.fz (eI (v4 % (2147483587 : Int))))) (asO (.st (.fz (eI (v4 % (2147483587 : Int))))) (ev_bin (asO (.st (.fz (eI v4))) (ev_bin (ev_varF (x := eI (((v3 + (1 : Int)) * (48271 : Int)) % (2147483629 : Int))) rfl) (ev_varF (x := eI (((v3 + (1 : Int)) * (48271 : Int)) % (2147483629 : Int))) rfl) (t_mulG (i := (((v3 + (1 : Int)) * (48271 : Int)) % (2147483629 : Int))) (j := (((v3 + (1 : Int)) * (48271 : Int)) % (2147483629 : Int))) hv4))) (ev_c (x := eI 2147483587)) (e_mod (by decide)))) (fun e => ⟨e, rfl⟩)
noncomputable def T__law_letters (p_cell : Int) : Option (List Chr) :=
  (T__law_mix p_cell (1 : Int)).bind fun v1 => (T__law_mix p_cell (2 : Int)).bind fun v2 => (atI ([(1 : Int), (3 : Int), (5 : Int), (7 : Int), (9 : Int), (11 : Int)] : List Int) (v2 % (6 : Int))).bind fun v3 => (rangeG (6 : Int)).bind fun v4 => (lcG (fun x1 : Int => some true) (fun x1 => (mulG v3 x1).bind fun v5 => (atS' Tcs_1 (((v1 % (26 : Int)) + v5) % (26 : Int))).bind fun v6 => some v6) v4).bind fun v7 => some v7
theorem sm__law_letters {p_cell : Int} {v : (List Chr)} (hv : T__law_letters p_cell = some v) : m__law_letters [eI p_cell] = .ok ((oL eC) v) := by
  refine run_sg (O := (oL eC)) (t := T__law_letters p_cell) ?_ hv
  unfold T__law_letters D__law_letters
  refine sg_env (e2 := [some (.fz (eI p_cell)), none, none, none, none]) rfl ?_
  refine sg_one ?_
  refine sg_assoc ?_
  refine sg_set (o := (.fz (eS Tcs_1))) (ev_cs cs_1) ?_
  refine sg_assoc ?_
  refine sg_bind fun v1 hv1 => ?_
  refine sg_set (o := (.fz (eI (v1 % (26 : Int))))) (asO (.st (.fz (eI (v1 % (26 : Int))))) (ev_bin (asO (.st (.fz (eI v1))) (ev_callA (ev_cons (ev_varF (x := eI p_cell) rfl) (ev_cons (ev_c (x := eI 1)) ev_nil)) (as := [eI p_cell, eI (1 : Int)]) rfl (sm__law_mix hv1) (.inl rfl))) (ev_c (x := eI 26)) (e_mod (by decide)))) ?_
  refine sg_assoc ?_
  refine sg_bind fun v2 hv2 => ?_
  refine sg_bind fun v3 hv3 => ?_
  refine sg_set (o := (.fz (eI v3))) (asO (.st (.fz (eI v3))) (ev_sub (asO (.st (.ol (List.map eI ([(1 : Int), (3 : Int), (5 : Int), (7 : Int), (9 : Int), (11 : Int)] : List Int)))) (ev_list (ev_cons (ev_c (x := eI 1)) (ev_cons (ev_c (x := eI 3)) (ev_cons (ev_c (x := eI 5)) (ev_cons (ev_c (x := eI 7)) (ev_cons (ev_c (x := eI 9)) (ev_cons (ev_c (x := eI 11)) ev_nil)))))) (Nat.le_of_ble_eq_true rfl) rfl)) (asO (.st (.fz (eI (v2 % (6 : Int))))) (ev_bin (asO (.st (.fz (eI v2))) (ev_callA (ev_cons (ev_varF (x := eI p_cell) rfl) (ev_cons (ev_c (x := eI 2)) ev_nil)) (as := [eI p_cell, eI (2 : Int)]) rfl (sm__law_mix hv2) (.inl rfl))) (ev_c (x := eI 6)) (e_mod (by decide)))) rfl (t_atL (e := eI) (xs := ([(1 : Int), (3 : Int), (5 : Int), (7 : Int), (9 : Int), (11 : Int)] : List Int)) (.inl rfl) hv3))) ?_
  refine sg_iceS ?_
  refine sg_iceF rfl ?_
  refine sg_iceS ?_
  refine sg_iceF rfl ?_
  refine sg_iceS ?_
  refine sg_iceF rfl ?_
  refine sg_bind fun v4 hv4 => ?_
  refine sg_bind fun v7 hv7 => ?_
  exact sg_retS (o := (.ol (List.map eC v7))) (asO (.st (.ol (List.map eC v7))) (ev_lc (e := eI) (d := eC) (tc := fun x1 => some true) (te := fun x1 => (mulG v3 x1).bind fun v5 => (atS' Tcs_1 (((v1 % (26 : Int)) + v5) % (26 : Int))).bind fun v6 => some v6) (items := v4) (it_range (ev_c (x := eI 6)) hv4) (fun x1 => ⟨_, rfl, (oe_id rfl), (oe_bind fun v5 hv5 => (oe_bind fun v6 hv6 => (oe_ret (asO (.st (.fz (eC v6))) (ev_frzX (asO (.st (.fz (eC v6))) (ev_sub (ev_varF (x := eS Tcs_1) rfl) (asO (.st (.fz (eI (((v1 % (26 : Int)) + v5) % (26 : Int))))) (ev_bin (asO (.st (.fz (eI ((v1 % (26 : Int)) + v5)))) (ev_bin (ev_varF (x := eI (v1 % (26 : Int))) rfl) (asO (.st (.fz (eI v5))) (ev_bin (ev_varF (x := eI v3) rfl) (ev_varF (x := eI x1) rfl) (t_mulG (i := v3) (j := x1) hv5))) e_add)) (ev_c (x := eI 26)) (e_mod (by decide)))) rfl (t_atS (s := Tcs_1) hv6))) rfl)))))⟩) (.inl (afz_F (afz_F (afz_F (afz_F (afz_N afz_nil)))))) hv7)) (fun e => ⟨e, rfl⟩)
noncomputable def T__law_name (p_cell : Int) (p_far : Int) : Option (List Chr) :=
  (T__law_mix p_cell p_far).bind fun v1 => (atI ([(1 : Int), (1 : Int), (2 : Int), (3 : Int), (4 : Int), (5 : Int), (6 : Int), (7 : Int), (8 : Int)] : List Int) (v1 % (9 : Int))).bind fun v2 => (rangeG v2).bind fun v3 => (lcG (fun x1 : Int => some true) (fun x1 => (T__law_mix p_cell ((p_far + (1 : Int)) + x1)).bind fun v4 => (atS' Tcs_2 (v4 % (26 : Int))).bind fun v5 => some v5) v3).bind fun v6 => (joinG v6).bind fun v7 => some v7
theorem sm__law_name {p_cell : Int} {p_far : Int} {v : (List Chr)} (hv : T__law_name p_cell p_far = some v) : m__law_name [eI p_cell, eI p_far] = .ok ((oF eS) v) := by
  refine run_sg (O := (oF eS)) (t := T__law_name p_cell p_far) ?_ hv
  unfold T__law_name D__law_name
  refine sg_env (e2 := [some (.fz (eI p_cell)), some (.fz (eI p_far)), none, none, none]) rfl ?_
  refine sg_one ?_
  refine sg_assoc ?_
  refine sg_set (o := (.fz (eS Tcs_2))) (ev_cs cs_2) ?_
  refine sg_assoc ?_
  refine sg_bind fun v1 hv1 => ?_
  refine sg_bind fun v2 hv2 => ?_
  refine sg_set (o := (.fz (eI v2))) (asO (.st (.fz (eI v2))) (ev_sub (asO (.st (.ol (List.map eI ([(1 : Int), (1 : Int), (2 : Int), (3 : Int), (4 : Int), (5 : Int), (6 : Int), (7 : Int), (8 : Int)] : List Int)))) (ev_list (ev_cons (ev_c (x := eI 1)) (ev_cons (ev_c (x := eI 1)) (ev_cons (ev_c (x := eI 2)) (ev_cons (ev_c (x := eI 3)) (ev_cons (ev_c (x := eI 4)) (ev_cons (ev_c (x := eI 5)) (ev_cons (ev_c (x := eI 6)) (ev_cons (ev_c (x := eI 7)) (ev_cons (ev_c (x := eI 8)) ev_nil))))))))) (Nat.le_of_ble_eq_true rfl) rfl)) (asO (.st (.fz (eI (v1 % (9 : Int))))) (ev_bin (asO (.st (.fz (eI v1))) (ev_callA (ev_cons (ev_varF (x := eI p_cell) rfl) (ev_cons (ev_varF (x := eI p_far) rfl) ev_nil)) (as := [eI p_cell, eI p_far]) rfl (sm__law_mix hv1) (.inl rfl))) (ev_c (x := eI 9)) (e_mod (by decide)))) rfl (t_atL (e := eI) (xs := ([(1 : Int), (1 : Int), (2 : Int), (3 : Int), (4 : Int), (5 : Int), (6 : Int), (7 : Int), (8 : Int)] : List Int)) (.inl rfl) hv2))) ?_
  refine sg_iceS ?_
  refine sg_iceF rfl ?_
  refine sg_iceS ?_
  refine sg_iceF rfl ?_
  refine sg_bind fun v3 hv3 => ?_
  refine sg_bind fun v6 hv6 => ?_
  refine sg_bind fun v7 hv7 => ?_
  exact sg_retS (o := (.fz (eS v7))) (asO (.st (.fz (eS v7))) (ev_meth (ev_cs cs_3) rfl (ev_cons (asO (.st (.ol (List.map eC v6))) (ev_lc (e := eI) (d := eC) (tc := fun x1 => some true) (te := fun x1 => (T__law_mix p_cell ((p_far + (1 : Int)) + x1)).bind fun v4 => (atS' Tcs_2 (v4 % (26 : Int))).bind fun v5 => some v5) (items := v3) (it_range (ev_varF (x := eI v2) rfl) hv3) (fun x1 => ⟨_, rfl, (oe_id rfl), (oe_bind fun v4 hv4 => (oe_bind fun v5 hv5 => (oe_ret (asO (.st (.fz (eC v5))) (ev_frzX (asO (.st (.fz (eC v5))) (ev_sub (ev_varF (x := eS Tcs_2) rfl) (asO (.st (.fz (eI (v4 % (26 : Int))))) (ev_bin (asO (.st (.fz (eI v4))) (ev_callA (ev_cons (ev_varF (x := eI p_cell) rfl) (ev_cons (asO (.st (.fz (eI ((p_far + (1 : Int)) + x1)))) (ev_frzX (asO (.st (.fz (eI ((p_far + (1 : Int)) + x1)))) (ev_bin (asO (.st (.fz (eI (p_far + (1 : Int))))) (ev_bin (ev_varF (x := eI p_far) rfl) (ev_c (x := eI 1)) e_add)) (ev_varF (x := eI x1) rfl) e_add)) rfl)) ev_nil)) (as := [eI p_cell, eI ((p_far + (1 : Int)) + x1)]) rfl (sm__law_mix hv4) (.inl rfl))) (ev_c (x := eI 26)) (e_mod (by decide)))) rfl (t_atS (s := Tcs_2) hv5))) rfl)))))⟩) (.inl (afz_F (afz_F (afz_F (afz_F (afz_N afz_nil)))))) hv6)) ev_nil) (t_join0 (xs := v6) (.inl rfl) hv7))) (fun e => ⟨e, rfl⟩)
noncomputable def T__law_question_b1 (p_cell : Int) (x1 : Int) (x2 : Int) (s2 : ((List Chr) × (List Chr))) : Option ((List Chr) × (List Chr)) :=
  (T__law_mix p_cell (((11 : Int) + ((4 : Int) * x1)) + x2)).bind fun v7 => (modG v7 (s2.1.length : Int)).bind fun v8 => (popG s2.2 s2.1 v8).bind fun v9 => some (v9.2, v9.1)
noncomputable def T__law_question_b2 (p_cell : Int) (v1 : (List Chr)) (x1 : Int) (s1 : (List ((List Chr) × (List Chr)))) : Option (List ((List Chr) × (List Chr))) :=
  (T__law_mix p_cell ((4 : Int) + x1)).bind fun v5 => (rangeG ((1 : Int) + (v5 % (4 : Int)))).bind fun v6 => (forT (T__law_question_b1 p_cell x1) v6 (v1, ([] : List Chr))).bind fun s3 => (T__law_name p_cell ((40 : Int) + ((10 : Int) * x1))).bind fun v10 => (appG s1 (v10, s3.2)).bind fun v11 => some v11
noncomputable def T__law_question (p_cell : Int) : Option (List ((List Chr) × (List Chr))) :=
  (T__law_letters p_cell).bind fun v1 => (T__law_mix p_cell (3 : Int)).bind fun v2 => (atI ([(1 : Int), (1 : Int), (2 : Int), (3 : Int), (4 : Int), (6 : Int)] : List Int) (v2 % (6 : Int))).bind fun v3 => (rangeG v3).bind fun v4 => (forT (T__law_question_b2 p_cell v1) v4 ([] : List ((List Chr) × (List Chr)))).bind fun s4 => some s4
theorem sm__law_question {p_cell : Int} {v : (List ((List Chr) × (List Chr)))} (hv : T__law_question p_cell = some v) : m__law_question [eI p_cell] = .ok ((oL (eP eS (eT eC))) v) := by
  refine run_sg (O := (oL (eP eS (eT eC)))) (t := T__law_question p_cell) ?_ hv
  unfold T__law_question D__law_question
  refine sg_env (e2 := [some (.fz (eI p_cell)), none, none, none, none, none, none]) rfl ?_
  refine sg_one ?_
  refine sg_assoc ?_
  refine sg_bind fun v1 hv1 => ?_
  refine sg_set (o := (.ol (List.map eC v1))) (asO (.st (.ol (List.map eC v1))) (ev_callA (ev_cons (ev_varF (x := eI p_cell) rfl) ev_nil) (as := [eI p_cell]) rfl (sm__law_letters hv1) (.inl rfl))) ?_
  refine sg_assoc ?_
  refine sg_iceS ?_
  refine sg_ice (o := (.ol (List.map eC v1))) (x := (eL eC) v1) rfl rfl ?_
  refine sg_set (o := (.ol (List.map (eP eS (eT eC)) ([] : List ((List Chr) × (List Chr)))))) (asO (.st (.ol (List.map (eP eS (eT eC)) ([] : List ((List Chr) × (List Chr)))))) (ev_list ev_nil (Nat.le_of_ble_eq_true rfl) rfl)) ?_
  refine sg_assoc ?_
  refine sg_bind fun v2 hv2 => ?_
  refine sg_bind fun v3 hv3 => ?_
  refine sg_bind fun v4 hv4 => ?_
  refine sg_seq (sg_for (eA := eI) (fun (s1 : (List ((List Chr) × (List Chr)))) (e : VEnv) => ∃ j1 j2 j3 j4 : Option OV, e = [some (.fz (eI p_cell)), some (.fz ((eL eC) v1)), some (.ol (List.map (eP eS (eT eC)) s1)), j1, j2, j3, j4]) (tb := (T__law_question_b2 p_cell v1)) (it_range (asO (.st (.fz (eI v3))) (ev_sub (asO (.st (.ol (List.map eI ([(1 : Int), (1 : Int), (2 : Int), (3 : Int), (4 : Int), (6 : Int)] : List Int)))) (ev_list (ev_cons (ev_c (x := eI 1)) (ev_cons (ev_c (x := eI 1)) (ev_cons (ev_c (x := eI 2)) (ev_cons (ev_c (x := eI 3)) (ev_cons (ev_c (x := eI 4)) (ev_cons (ev_c (x := eI 6)) ev_nil)))))) (Nat.le_of_ble_eq_true rfl) rfl)) (asO (.st (.fz (eI (v2 % (6 : Int))))) (ev_bin (asO (.st (.fz (eI v2))) (ev_callA (ev_cons (ev_varF (x := eI p_cell) rfl) (ev_cons (ev_c (x := eI 3)) ev_nil)) (as := [eI p_cell, eI (3 : Int)]) rfl (sm__law_mix hv2) (.inl rfl))) (ev_c (x := eI 6)) (e_mod (by decide)))) rfl (t_atL (e := eI) (xs := ([(1 : Int), (1 : Int), (2 : Int), (3 : Int), (4 : Int), (6 : Int)] : List Int)) (.inl rfl) hv3))) hv4) ⟨_, _, _, _, rfl⟩ (fun x1 s1 e hE => ?_)) (fun s4 e hE => ?_)
  · obtain ⟨j1, j2, j3, j4, rfl⟩ := hE
    refine ⟨_, rfl, ?_⟩
    unfold T__law_question_b2
    refine sg_one ?_
    refine sg_assoc ?_
    refine sg_set (o := (.ol (List.map eC v1))) (asO (.st (.ol (List.map eC v1))) (ev_callB (ev_cons (ev_varF (x := (eL eC) v1) rfl) ev_nil) (t_list (e := eC) (xs := v1) (.inr (.inl rfl))))) ?_
    refine sg_assoc ?_
    refine sg_set (o := (.ol (List.map eC ([] : List Chr)))) (asO (.st (.ol (List.map eC ([] : List Chr)))) (ev_list ev_nil (Nat.le_of_ble_eq_true rfl) rfl)) ?_
    refine sg_assoc ?_
    refine sg_bind fun v5 hv5 => ?_
    refine sg_bind fun v6 hv6 => ?_
    refine sg_seq (sg_for (eA := eI) (fun (s2 : ((List Chr) × (List Chr))) (e : VEnv) => ∃ j5 : Option OV, e = [some (.fz (eI p_cell)), some (.fz ((eL eC) v1)), some (.ol (List.map (eP eS (eT eC)) s1)), some (.fz (eI x1)), some (.ol (List.map eC s2.1)), some (.ol (List.map eC s2.2)), j5]) (tb := (T__law_question_b1 p_cell x1)) (it_range (asO (.st (.fz (eI ((1 : Int) + (v5 % (4 : Int)))))) (ev_bin (ev_c (x := eI 1)) (asO (.st (.fz (eI (v5 % (4 : Int))))) (ev_bin (asO (.st (.fz (eI v5))) (ev_callA (ev_cons (ev_varF (x := eI p_cell) rfl) (ev_cons (asO (.st (.fz (eI ((4 : Int) + x1)))) (ev_frzX (asO (.st (.fz (eI ((4 : Int) + x1)))) (ev_bin (ev_c (x := eI 4)) (ev_varF (x := eI x1) rfl) e_add)) rfl)) ev_nil)) (as := [eI p_cell, eI ((4 : Int) + x1)]) rfl (sm__law_mix hv5) (.inl rfl))) (ev_c (x := eI 4)) (e_mod (by decide)))) e_add)) hv6) ⟨_, rfl⟩ (fun x2 s2 e hE => ?_)) (fun s3 e hE => ?_)
    · obtain ⟨j5, rfl⟩ := hE
      refine ⟨_, rfl, ?_⟩
      unfold T__law_question_b1
      refine sg_one ?_
      refine sg_bind fun v7 hv7 => ?_
      refine sg_bind fun v8 hv8 => ?_
      refine sg_bind fun v9 hv9 => ?_
      refine sg_appPop (e := eC) (xs := s2.2) (ys := s2.1) (k := v8) rfl rfl (by decide) (asO (.st (.fz (eI v8))) (ev_bin (asO (.st (.fz (eI v7))) (ev_callA (ev_cons (ev_varF (x := eI p_cell) rfl) (ev_cons (asO (.st (.fz (eI (((11 : Int) + ((4 : Int) * x1)) + x2)))) (ev_frzX (asO (.st (.fz (eI (((11 : Int) + ((4 : Int) * x1)) + x2)))) (ev_bin (asO (.st (.fz (eI ((11 : Int) + ((4 : Int) * x1))))) (ev_bin (ev_c (x := eI 11)) (asO (.st (.fz (eI ((4 : Int) * x1)))) (ev_bin (ev_c (x := eI 4)) (ev_varF (x := eI x1) rfl) (e_mul (mulL (by decide))))) e_add)) (ev_varF (x := eI x2) rfl) e_add)) rfl)) ev_nil)) (as := [eI p_cell, eI (((11 : Int) + ((4 : Int) * x1)) + x2)]) rfl (sm__law_mix hv7) (.inl rfl))) (asO (.st (.fz (eI (s2.1.length : Int)))) (ev_callB (ev_cons (ev_varO (o := (.ol (List.map eC s2.1))) rfl rfl) ev_nil) (t_lenL (e := eC) (xs := s2.1) (.inl rfl)))) (t_modG (i := v7) (j := (s2.1.length : Int)) hv8))) hv9 ?_
      exact sg_nx ⟨_, rfl⟩
    · obtain ⟨j6, rfl⟩ := hE
      refine sg_bind fun v10 hv10 => ?_
      refine sg_bind fun v11 hv11 => ?_
      refine sg_appL (e := (eP eS (eT eC))) (xs := s1) (x := (v10, s3.2)) rfl (asO (.st (.fz ((eP eS (eT eC)) (v10, s3.2)))) (ev_frzX (asO (.st (.fz ((eP eS (eT eC)) (v10, s3.2)))) (ev_tup (ev_cons (asO (.st (.fz (eS v10))) (ev_frzX (asO (.st (.fz (eS v10))) (ev_callA (ev_cons (ev_varF (x := eI p_cell) rfl) (ev_cons (asO (.st (.fz (eI ((40 : Int) + ((10 : Int) * x1))))) (ev_frzX (asO (.st (.fz (eI ((40 : Int) + ((10 : Int) * x1))))) (ev_bin (ev_c (x := eI 40)) (asO (.st (.fz (eI ((10 : Int) * x1)))) (ev_bin (ev_c (x := eI 10)) (ev_varF (x := eI x1) rfl) (e_mul (mulL (by decide))))) e_add)) rfl)) ev_nil)) (as := [eI p_cell, eI ((40 : Int) + ((10 : Int) * x1))]) rfl (sm__law_name hv10) (.inl rfl))) rfl)) (ev_cons (asO (.st (.fz ((eT eC) s3.2))) (ev_frzX (asO (.st (.fz ((eT eC) s3.2))) (ev_callB (ev_cons (ev_varO (o := (.ol (List.map eC s3.2))) rfl rfl) ev_nil) (t_tup (e := eC) (xs := s3.2) (.inl rfl)))) rfl)) ev_nil)) (Nat.le_of_ble_eq_true rfl) rfl)) rfl)) hv11 ?_
      exact sg_nx ⟨_, _, _, _, rfl⟩
  · obtain ⟨j7, j8, j9, j10, rfl⟩ := hE
    exact sg_retVS (o := (.ol (List.map (eP eS (eT eC)) s4))) rfl (fun e => ⟨e, rfl⟩)
noncomputable def T__law_shown (p_question_here : (List ((List Chr) × (List Chr)))) : Option (List Chr) :=
  (lcG (fun x1 : ((List Chr) × (List Chr)) => some true) (fun x1 => (catG ([x1.1] : List (List Chr)) (List.map (fun c : Chr => [c]) x1.2)).bind fun v1 => (joinSG [(32 : Chr)] v1).bind fun v2 => some v2) p_question_here).bind fun v3 => (joinSG Tcs_4 v3).bind fun v4 => some v4
theorem sm__law_shown {p_question_here : (List ((List Chr) × (List Chr)))} {v : (List Chr)} (hv : T__law_shown p_question_here = some v) : m__law_shown [(eL (eP eS (eT eC))) p_question_here] = .ok ((oF eS) v) := by
  refine run_sg (O := (oF eS)) (t := T__law_shown p_question_here) ?_ hv
  unfold T__law_shown D__law_shown
  refine sg_env (e2 := [some (.fz ((eL (eP eS (eT eC))) p_question_here)), none, none]) rfl ?_
  refine sg_one ?_
  refine sg_bind fun v3 hv3 => ?_
  refine sg_bind fun v4 hv4 => ?_
  exact sg_retS (o := (.fz (eS v4))) (asO (.st (.fz (eS v4))) (ev_meth (ev_cs cs_4) rfl (ev_cons (asO (.st (.ol (List.map eS v3))) (ev_lc (e := (eP eS (eT eC))) (d := eS) (tc := fun x1 => some true) (te := fun x1 => (catG ([x1.1] : List (List Chr)) (List.map (fun c : Chr => [c]) x1.2)).bind fun v1 => (joinSG [(32 : Chr)] v1).bind fun v2 => some v2) (items := p_question_here) (ci_items (e := (eP eS (eT eC))) (xs := p_question_here) (ev_varF (x := (eL (eP eS (eT eC))) p_question_here) rfl) sb_st (.inl rfl)) (fun x1 => ⟨_, rfl, (oe_id rfl), (oe_bind fun v1 hv1 => (oe_bind fun v2 hv2 => (oe_ret (asO (.st (.fz (eS v2))) (ev_frzX (asO (.st (.fz (eS v2))) (ev_meth (ev_cc (c := 32) rfl) rfl (ev_cons (asO (.st (.ol (List.map eS v1))) (ev_bin (asO (.st (.ol (List.map eS ([x1.1] : List (List Chr))))) (ev_list (ev_cons (ev_varF (x := eS x1.1) rfl) ev_nil) (Nat.le_of_ble_eq_true rfl) rfl)) (coLCS (cs := x1.2) (asO (.st (.ol (List.map eC x1.2))) (ev_callB (ev_cons (ev_varF (x := (eT eC) x1.2) rfl) ev_nil) (t_list (e := eC) (xs := x1.2) (.inr (.inr rfl)))))) (t_catL (e := eS) (a := ([x1.1] : List (List Chr))) (b := (List.map (fun c : Chr => [c]) x1.2)) (.inl rfl) (.inl rfl) hv1))) ev_nil) (t_joinS (sep := [(32 : Chr)]) (xs := v1) (.inl rfl) hv2))) rfl)))))⟩) (.inl (afz_F (afz_N (afz_N afz_nil)))) hv3)) ev_nil) (t_joinS (sep := Tcs_4) (xs := v3) (.inl rfl) hv4))) (fun e => ⟨e, rfl⟩)
noncomputable def T_show_pattern (p_pattern : ((List Chr) × (List Chr))) : Option (List Chr) :=
  (catG ([p_pattern.1] : List (List Chr)) (List.map (fun c : Chr => [c]) p_pattern.2)).bind fun v1 => (joinSG [(32 : Chr)] v1).bind fun v2 => some v2
theorem sm_show_pattern {p_pattern : ((List Chr) × (List Chr))} {v : (List Chr)} (hv : T_show_pattern p_pattern = some v) : m_show_pattern [(eP eS (eT eC)) p_pattern] = .ok ((oF eS) v) := by
  refine run_sg (O := (oF eS)) (t := T_show_pattern p_pattern) ?_ hv
  unfold T_show_pattern D_show_pattern
  refine sg_env (e2 := [some (.fz ((eP eS (eT eC)) p_pattern))]) rfl ?_
  refine sg_one ?_
  refine sg_bind fun v1 hv1 => ?_
  refine sg_bind fun v2 hv2 => ?_
  exact sg_retS (o := (.fz (eS v2))) (asO (.st (.fz (eS v2))) (ev_meth (ev_cc (c := 32) rfl) rfl (ev_cons (asO (.st (.ol (List.map eS v1))) (ev_bin (asO (.st (.ol (List.map eS ([p_pattern.1] : List (List Chr))))) (ev_list (ev_cons (asO (.st (.fz (eS p_pattern.1))) (ev_frzX (asO (.st (.fz (eS p_pattern.1))) (ev_sub (ev_varF (x := (eP eS (eT eC)) p_pattern) rfl) (ev_c (x := eI 0)) rfl rfl)) rfl)) ev_nil) (Nat.le_of_ble_eq_true rfl) rfl)) (coLCS (cs := p_pattern.2) (asO (.st (.ol (List.map eC p_pattern.2))) (ev_callB (ev_cons (asO (.st (.fz ((eT eC) p_pattern.2))) (ev_sub (ev_varF (x := (eP eS (eT eC)) p_pattern) rfl) (ev_c (x := eI 1)) rfl rfl)) ev_nil) (t_list (e := eC) (xs := p_pattern.2) (.inr (.inr rfl)))))) (t_catL (e := eS) (a := ([p_pattern.1] : List (List Chr))) (b := (List.map (fun c : Chr => [c]) p_pattern.2)) (.inl rfl) (.inl rfl) hv1))) ev_nil) (t_joinS (sep := [(32 : Chr)]) (xs := v1) (.inl rfl) hv2))) (fun e => ⟨e, rfl⟩)
noncomputable def T_show_question (p_question : (List ((List Chr) × (List Chr)))) : Option (List Chr) :=
  (lcG (fun x1 : ((List Chr) × (List Chr)) => some true) (fun x1 => (T_show_pattern x1).bind fun v1 => some v1) p_question).bind fun v2 => (joinSG Tcs_4 v2).bind fun v3 => some v3
theorem sm_show_question {p_question : (List ((List Chr) × (List Chr)))} {v : (List Chr)} (hv : T_show_question p_question = some v) : m_show_question [(eL (eP eS (eT eC))) p_question] = .ok ((oF eS) v) := by
  refine run_sg (O := (oF eS)) (t := T_show_question p_question) ?_ hv
  unfold T_show_question D_show_question
  refine sg_env (e2 := [some (.fz ((eL (eP eS (eT eC))) p_question)), none]) rfl ?_
  refine sg_one ?_
  refine sg_bind fun v2 hv2 => ?_
  refine sg_bind fun v3 hv3 => ?_
  exact sg_retS (o := (.fz (eS v3))) (asO (.st (.fz (eS v3))) (ev_meth (ev_cs cs_4) rfl (ev_cons (asO (.st (.ol (List.map eS v2))) (ev_lc (e := (eP eS (eT eC))) (d := eS) (tc := fun x1 => some true) (te := fun x1 => (T_show_pattern x1).bind fun v1 => some v1) (items := p_question) (ci_items (e := (eP eS (eT eC))) (xs := p_question) (ev_varF (x := (eL (eP eS (eT eC))) p_question) rfl) sb_st (.inl rfl)) (fun x1 => ⟨_, rfl, (oe_id rfl), (oe_bind fun v1 hv1 => (oe_ret (asO (.st (.fz (eS v1))) (ev_frzX (asO (.st (.fz (eS v1))) (ev_callA (ev_cons (ev_varF (x := (eP eS (eT eC)) x1) rfl) ev_nil) (as := [(eP eS (eT eC)) x1]) rfl (sm_show_pattern hv1) (.inl rfl))) rfl))))⟩) (.inl (afz_F (afz_N afz_nil))) hv2)) ev_nil) (t_joinS (sep := Tcs_4) (xs := v2) (.inl rfl) hv3))) (fun e => ⟨e, rfl⟩)
noncomputable def T__law_is_name_b1 (x1 : Chr) (s1 : Unit) : Option (Ctl Unit Bool) :=
  (if (!(decide (x1 ∈ Tcs_2))) then some (.rt false) else some (.nx ()))
noncomputable def T__law_is_name (p_word : (List Chr)) : Option Bool :=
  (lenS p_word).bind fun v1 => (if (decide (v1 < (1 : Int))) then some true else (lenS p_word).bind fun v2 => some (decide ((8 : Int) < v2))).bind fun v3 => (if v3 then some false else ((forC T__law_is_name_b1 p_word ())).bind (behind (fun r => r) fun s2 => some true))
theorem sm__law_is_name {p_word : (List Chr)} {v : Bool} (hv : T__law_is_name p_word = some v) : m__law_is_name [eS p_word] = .ok ((oF eB) v) := by
  refine run_sg (O := (oF eB)) (t := T__law_is_name p_word) ?_ hv
  unfold T__law_is_name D__law_is_name
  refine sg_env (e2 := [some (.fz (eS p_word)), none]) rfl ?_
  refine sg_one ?_
  refine sg_assoc ?_
  refine sg_bind fun v1 hv1 => ?_
  refine sg_bind fun v3 hv3 => ?_
  refine sg_ifs (ev_orO (ev_test (asO (.st (.fz (eB (decide (v1 < (1 : Int)))))) (ev_bin (asO (.st (.fz (eI v1))) (ev_callB (ev_cons (ev_varF (x := eS p_word) rfl) ev_nil) (t_lenS (s := p_word) hv1))) (ev_c (x := eI 1)) t_lt))) (fun _ => (oe_bind fun v2 hv2 => (oe_id (ev_test (asO (.st (.fz (eB (decide ((8 : Int) < v2))))) (ev_bin (asO (.st (.fz (eI v2))) (ev_callB (ev_cons (ev_varF (x := eS p_word) rfl) ev_nil) (t_lenS (s := p_word) hv2))) (ev_c (x := eI 8)) t_gt)))))) hv3) (fun _ => ?_) (fun _ => ?_)
  · exact sg_retS (o := (.fz (eB false))) (ev_c (x := eB false)) (fun e => ⟨e, rfl⟩)
  · refine sg_skip ?_
    refine sg_assoc ?_
    refine sg_iceS ?_
    refine sg_iceF rfl ?_
    refine sg_seqL (sg_forC (eA := eC) (fun (s1 : Unit) (e : VEnv) => ∃ j1 : Option OV, e = [some (.fz (eS p_word)), j1]) (fun (s1 : Unit) (e : VEnv) => ∃ j1 : Option OV, e = [some (.fz (eS p_word)), j1]) ((oF eB)) (tb := T__law_is_name_b1) (it_str (ev_varF (x := eS p_word) rfl)) ⟨_, rfl⟩ (fun _ _ h => h) (fun x1 s1 e hE => ?_)) (fun r e => ⟨e, rfl⟩) (fun s2 e hE => ?_)
    · obtain ⟨j1, rfl⟩ := hE
      refine ⟨_, rfl, ?_⟩
      unfold T__law_is_name_b1
      refine sg_one ?_
      refine sg_ifs (ev_test (asO (.st (.fz (eB (!(decide (x1 ∈ Tcs_2)))))) (ev_bin (ev_varF (x := eC x1) rfl) (ev_cs cs_2) (t_ninS (c := x1) (s := Tcs_2) rfl rfl)))) (fun _ => ?_) (fun _ => ?_)
      · exact sg_retS (o := (.fz (eB false))) (ev_c (x := eB false)) (fun e => ⟨e, rfl⟩)
      · refine sg_skip ?_
        exact sg_of rfl ⟨_, rfl, ⟨_, rfl⟩⟩
    · obtain ⟨j2, rfl⟩ := hE
      exact sg_retS (o := (.fz (eB true))) (ev_c (x := eB true)) (fun e => ⟨e, rfl⟩)
noncomputable def T__law_told_b1 (v4 : (List (List Chr))) (x2 : (List Chr)) (s2 : (List ((List Chr) × Bool))) : Option (Ctl (List ((List Chr) × Bool)) (Option (List ((List Chr) × (List Chr))))) :=
  (lenS x2).bind fun v7 => (if (!(decide (v7 = (1 : Int)))) then some true else (sg1 x2).bind fun v8 => some ((!(decide (v8 ∈ Tcs_1))) || (decide ((1 : Int) < ((List.count x2 (cutF v4 (some (1 : Int)) none) : Nat) : Int))))).bind fun v9 => (if v9 then some (.rt none) else (putG s2 x2 true).bind fun v10 => some (.nx v10))
noncomputable def T__law_told_b2 (x1 : (List Chr)) (s1 : ((List ((List Chr) × (List Chr))) × (List ((List Chr) × Bool)))) : Option (Ctl ((List ((List Chr) × (List Chr))) × (List ((List Chr) × Bool))) (Option (List ((List Chr) × (List Chr))))) :=
  (splitG x1 Tcs_5).bind fun v4 => (atI v4 (0 : Int)).bind fun v5 => (T__law_is_name v5).bind fun v6 => (if ((!v6) || ((decide ((cutF v4 (some (1 : Int)) none) = ([] : List (List Chr)))) || (decide ((4 : Int) < ((cutF v4 (some (1 : Int)) none).length : Int))))) then some (.rt none) else ((forC (T__law_told_b1 v4) (cutF v4 (some (1 : Int)) none) s1.2)).bind (behind (fun r => (.rt r)) fun s3 => (atI v4 (0 : Int)).bind fun v11 => (sgs (cutF v4 (some (1 : Int)) none)).bind fun v12 => (appG s1.1 (v11, v12)).bind fun v13 => some (.nx (v13, s3))))
noncomputable def T__law_told (p_text : FV) : Option (Option (List ((List Chr) × (List Chr)))) :=
  (isaXG ["str"] p_text).bind fun v1 => (if (!v1) then some none else (txt? p_text).bind fun v2 => (splitG v2 Tcs_4).bind fun v3 => ((forC T__law_told_b2 v3 (([] : List ((List Chr) × (List Chr))), ([] : (List ((List Chr) × Bool)))))).bind (behind (fun r => r) fun s4 => (if ((decide ((6 : Int) < (s4.1.length : Int))) || (decide ((6 : Int) < (s4.2.length : Int)))) then some none else some (some s4.1))))
theorem sm__law_told {p_text : FV} {v : (Option (List ((List Chr) × (List Chr))))} (hv : T__law_told p_text = some v) : m__law_told [eX p_text] = .ok ((oO (oL (eP eS (eT eC)))) v) := by
  refine run_sg (O := (oO (oL (eP eS (eT eC))))) (t := T__law_told p_text) ?_ hv
  unfold T__law_told D__law_told
  refine sg_env (e2 := [some (.fz (eX p_text)), none, none, none, none, none, none]) rfl ?_
  refine sg_one ?_
  refine sg_assoc ?_
  refine sg_bind fun v1 hv1 => ?_
  refine sg_ifs (ev_notT (ev_test (asO (.st (.fz (eB v1))) (ev_un (op := opIsa ["str"]) (ev_varF (x := eX p_text) rfl) (t_isaX (x := p_text) hv1))))) (fun _ => ?_) (fun _ => ?_)
  · exact sg_retS (o := (.fz ((eO (eL (eP eS (eT eC)))) none))) (ev_c (x := eU ())) (fun e => ⟨e, rfl⟩)
  · refine sg_skip ?_
    refine sg_assoc ?_
    refine sg_set (o := (.ol (List.map (eP eS (eT eC)) ([] : List ((List Chr) × (List Chr)))))) (asO (.st (.ol (List.map (eP eS (eT eC)) ([] : List ((List Chr) × (List Chr)))))) (ev_list ev_nil (Nat.le_of_ble_eq_true rfl) rfl)) ?_
    refine sg_assoc ?_
    refine sg_set (o := (.oK (List.map (fun p : (List Chr) × Bool => (kS p.1, eB p.2)) ([] : (List ((List Chr) × Bool)))))) (asO (.st (.oK (List.map (fun p : (List Chr) × Bool => (kS p.1, eB p.2)) ([] : (List ((List Chr) × Bool)))))) rfl) ?_
    refine sg_assoc ?_
    refine sg_bind fun v2 hv2 => ?_
    refine sg_bind fun v3 hv3 => ?_
    refine sg_seqL (sg_forC (eA := eS) (fun (s1 : ((List ((List Chr) × (List Chr))) × (List ((List Chr) × Bool)))) (e : VEnv) => ∃ j1 j2 j3 j4 : Option OV, e = [some (.fz (eX p_text)), some (.ol (List.map (eP eS (eT eC)) s1.1)), some (.oK (List.map (fun p : (List Chr) × Bool => (kS p.1, eB p.2)) s1.2)), j1, j2, j3, j4]) (fun (s1 : ((List ((List Chr) × (List Chr))) × (List ((List Chr) × Bool)))) (e : VEnv) => ∃ j1 j2 j3 j4 : Option OV, e = [some (.fz (eX p_text)), some (.ol (List.map (eP eS (eT eC)) s1.1)), some (.oK (List.map (fun p : (List Chr) × Bool => (kS p.1, eB p.2)) s1.2)), j1, j2, j3, j4]) ((oO (oL (eP eS (eT eC))))) (tb := T__law_told_b2) (it_items (e := eS) (xs := v3) (.inl (asO (.st (.ol (List.map eS v3))) (ev_meth (unXS (x := p_text) (ev_varF (x := eX p_text) rfl) hv2) rfl (ev_cons (ev_cs cs_4) ev_nil) (t_split (a := v2) (b := Tcs_4) hv3))))) ⟨_, _, _, _, rfl⟩ (fun _ _ h => h) (fun x1 s1 e hE => ?_)) (fun r e => ⟨e, rfl⟩) (fun s4 e hE => ?_)
    · obtain ⟨j1, j2, j3, j4, rfl⟩ := hE
      refine ⟨_, rfl, ?_⟩
      unfold T__law_told_b2
      refine sg_one ?_
      refine sg_assoc ?_
      refine sg_bind fun v4 hv4 => ?_
      refine sg_set (o := (.ol (List.map eS v4))) (asO (.st (.ol (List.map eS v4))) (ev_meth (ev_varF (x := eS x1) rfl) rfl (ev_cons (ev_cs cs_5) ev_nil) (t_split (a := x1) (b := Tcs_5) hv4))) ?_
      refine sg_assoc ?_
      refine sg_set (o := (.ol (List.map eS (cutF v4 (some (1 : Int)) none)))) (asO (.st (.ol (List.map eS (cutF v4 (some (1 : Int)) none)))) (ev_sl (ev_varO (o := (.ol (List.map eS v4))) rfl rfl) (ev_ps (ev_c (x := eI 1))) ev_pn (t_slL (e := eS) (xs := v4) (.inl rfl)))) ?_
      refine sg_assoc ?_
      refine sg_iceS ?_
      refine sg_ice (o := (.ol (List.map eS (cutF v4 (some (1 : Int)) none)))) (x := (eL eS) (cutF v4 (some (1 : Int)) none)) rfl rfl ?_
      refine sg_bind fun v5 hv5 => ?_
      refine sg_bind fun v6 hv6 => ?_
      refine sg_ifs (ev_or (ev_notT (ev_test (asO (.st (.fz (eB v6))) (ev_callA (ev_cons (asO (.st (.fz (eS v5))) (ev_frzX (asO (.st (.fz (eS v5))) (ev_sub (ev_varO (o := (.ol (List.map eS v4))) rfl rfl) (ev_c (x := eI 0)) rfl (t_atL (e := eS) (xs := v4) (.inl rfl) hv5))) rfl)) ev_nil) (as := [eS v5]) rfl (sm__law_is_name hv6) (.inl rfl))))) (ev_or (ev_test (asO (.st (.fz (eB (decide ((cutF v4 (some (1 : Int)) none) = ([] : List (List Chr))))))) (ev_bin (ev_varF (x := (eL eS) (cutF v4 (some (1 : Int)) none)) rfl) (asO (.st (.ol (List.map eS ([] : List (List Chr))))) (ev_list ev_nil (Nat.le_of_ble_eq_true rfl) rfl)) (t_eq (e := (eL eS)) (a := (cutF v4 (some (1 : Int)) none)) (b := ([] : List (List Chr))) (epL epS) (by decide) rfl rfl)))) (ev_test (asO (.st (.fz (eB (decide ((4 : Int) < ((cutF v4 (some (1 : Int)) none).length : Int)))))) (ev_bin (asO (.st (.fz (eI ((cutF v4 (some (1 : Int)) none).length : Int)))) (ev_callB (ev_cons (ev_varF (x := (eL eS) (cutF v4 (some (1 : Int)) none)) rfl) ev_nil) (t_lenL (e := eS) (xs := (cutF v4 (some (1 : Int)) none)) (.inr (.inl rfl))))) (ev_c (x := eI 4)) t_gt))))) (fun _ => ?_) (fun _ => ?_)
      · exact sg_retS (o := (.fz ((eO (eL (eP eS (eT eC)))) none))) (ev_c (x := eU ())) (fun e => ⟨e, rfl⟩)
      · refine sg_skip ?_
        refine sg_assoc ?_
        refine sg_iceS ?_
        refine sg_iceF rfl ?_
        refine sg_seqL (sg_forC (eA := eS) (fun (s2 : (List ((List Chr) × Bool))) (e : VEnv) => ∃ j5 : Option OV, e = [some (.fz (eX p_text)), some (.ol (List.map (eP eS (eT eC)) s1.1)), some (.oK (List.map (fun p : (List Chr) × Bool => (kS p.1, eB p.2)) s2)), some (.fz (eS x1)), some (.ol (List.map eS v4)), some (.fz ((eL eS) (cutF v4 (some (1 : Int)) none))), j5]) (fun (s2 : (List ((List Chr) × Bool))) (e : VEnv) => ∃ j5 : Option OV, e = [some (.fz (eX p_text)), some (.ol (List.map (eP eS (eT eC)) s1.1)), some (.oK (List.map (fun p : (List Chr) × Bool => (kS p.1, eB p.2)) s2)), some (.fz (eS x1)), some (.ol (List.map eS v4)), some (.fz ((eL eS) (cutF v4 (some (1 : Int)) none))), j5]) ((oO (oL (eP eS (eT eC))))) (tb := (T__law_told_b1 v4)) (it_items (e := eS) (xs := (cutF v4 (some (1 : Int)) none)) (.inr (.inl (ev_varF (x := (eL eS) (cutF v4 (some (1 : Int)) none)) rfl)))) ⟨_, rfl⟩ (fun _ _ h => h) (fun x2 s2 e hE => ?_)) (fun r e => ⟨e, rfl⟩) (fun s3 e hE => ?_)
        · obtain ⟨j5, rfl⟩ := hE
          refine ⟨_, rfl, ?_⟩
          unfold T__law_told_b1
          refine sg_one ?_
          refine sg_assoc ?_
          refine sg_bind fun v7 hv7 => ?_
          refine sg_bind fun v9 hv9 => ?_
          refine sg_ifs (ev_orO (ev_test (asO (.st (.fz (eB (!(decide (v7 = (1 : Int))))))) (ev_bin (asO (.st (.fz (eI v7))) (ev_callB (ev_cons (ev_varF (x := eS x2) rfl) ev_nil) (t_lenS (s := x2) hv7))) (ev_c (x := eI 1)) (t_ne (e := eI) (a := v7) (b := (1 : Int)) epI (by decide) rfl rfl)))) (fun _ => (oe_bind fun v8 hv8 => (oe_id (ev_or (ev_test (asO (.st (.fz (eB (!(decide (v8 ∈ Tcs_1)))))) (ev_bin (unSC (s := x2) (ev_varF (x := eS x2) rfl) hv8) (ev_cs cs_1) (t_ninS (c := v8) (s := Tcs_1) rfl rfl)))) (ev_test (asO (.st (.fz (eB (decide ((1 : Int) < ((List.count x2 (cutF v4 (some (1 : Int)) none) : Nat) : Int)))))) (ev_bin (asO (.st (.fz (eI ((List.count x2 (cutF v4 (some (1 : Int)) none) : Nat) : Int)))) (ev_meth (ev_varF (x := (eL eS) (cutF v4 (some (1 : Int)) none)) rfl) rfl (ev_cons (ev_varF (x := eS x2) rfl) ev_nil) (t_lcount (a := (cutF v4 (some (1 : Int)) none)) (b := x2) (.inr rfl)))) (ev_c (x := eI 1)) t_gt))))))) hv9) (fun _ => ?_) (fun _ => ?_)
          · exact sg_retS (o := (.fz ((eO (eL (eP eS (eT eC)))) none))) (ev_c (x := eU ())) (fun e => ⟨e, rfl⟩)
          · refine sg_skip ?_
            refine sg_bind fun v10 hv10 => ?_
            refine sg_putK (kk := kS) (e := eB) (l := s2) (x := true) (a := x2) ekS rfl (ev_c (x := eB true)) (ev_varF (x := eS x2) rfl) rfl hv10 ?_
            exact sg_of rfl ⟨_, rfl, ⟨_, rfl⟩⟩
        · obtain ⟨j6, rfl⟩ := hE
          refine sg_bind fun v11 hv11 => ?_
          refine sg_bind fun v12 hv12 => ?_
          refine sg_bind fun v13 hv13 => ?_
          refine sg_appL (e := (eP eS (eT eC))) (xs := s1.1) (x := (v11, v12)) rfl (asO (.st (.fz ((eP eS (eT eC)) (v11, v12)))) (ev_frzX (asO (.st (.fz ((eP eS (eT eC)) (v11, v12)))) (ev_tup (ev_cons (asO (.st (.fz (eS v11))) (ev_frzX (asO (.st (.fz (eS v11))) (ev_sub (ev_varO (o := (.ol (List.map eS v4))) rfl rfl) (ev_c (x := eI 0)) rfl (t_atL (e := eS) (xs := v4) (.inl rfl) hv11))) rfl)) (ev_cons (unTSC (l := (cutF v4 (some (1 : Int)) none)) (asO (.st (.fz ((eT eS) (cutF v4 (some (1 : Int)) none)))) (ev_frzX (asO (.st (.fz ((eT eS) (cutF v4 (some (1 : Int)) none)))) (ev_callB (ev_cons (ev_varF (x := (eL eS) (cutF v4 (some (1 : Int)) none)) rfl) ev_nil) (t_tup (e := eS) (xs := (cutF v4 (some (1 : Int)) none)) (.inr rfl)))) rfl)) hv12) ev_nil)) (Nat.le_of_ble_eq_true rfl) rfl)) rfl)) hv13 ?_
          exact sg_of rfl ⟨_, rfl, ⟨_, _, _, _, rfl⟩⟩
    · obtain ⟨j7, j8, j9, j10, rfl⟩ := hE
      refine sg_assoc ?_
      refine sg_ifs (ev_or (ev_test (asO (.st (.fz (eB (decide ((6 : Int) < (s4.1.length : Int)))))) (ev_bin (asO (.st (.fz (eI (s4.1.length : Int)))) (ev_callB (ev_cons (ev_varO (o := (.ol (List.map (eP eS (eT eC)) s4.1))) rfl rfl) ev_nil) (t_lenL (e := (eP eS (eT eC))) (xs := s4.1) (.inl rfl)))) (ev_c (x := eI 6)) t_gt))) (ev_test (asO (.st (.fz (eB (decide ((6 : Int) < (s4.2.length : Int)))))) (ev_bin (asO (.st (.fz (eI (s4.2.length : Int)))) (ev_callB (ev_cons (ev_varO (o := (.oK (List.map (fun p : (List Chr) × Bool => (kS p.1, eB p.2)) s4.2))) rfl rfl) ev_nil) (t_lenK (k := kS) (e := eB) (l := s4.2) (.inl rfl)))) (ev_c (x := eI 6)) t_gt)))) (fun _ => ?_) (fun _ => ?_)
      · exact sg_retS (o := (.fz ((eO (eL (eP eS (eT eC)))) none))) (ev_c (x := eU ())) (fun e => ⟨e, rfl⟩)
      · refine sg_skip ?_
        exact sg_retVS (o := (oO (oL (eP eS (eT eC))) (some s4.1))) rfl (fun e => ⟨e, rfl⟩)
noncomputable def T_is_name_b1 (x1 : Chr) (s1 : Unit) : Option (Ctl Unit Bool) :=
  (if (!(decide (x1 ∈ Tcs_2))) then some (.rt false) else some (.nx ()))
noncomputable def T_is_name (p_word : (List Chr)) : Option Bool :=
  ((forC T_is_name_b1 p_word ())).bind (behind (fun r => r) fun s2 => (lenS p_word).bind fun v1 => some ((decide ((1 : Int) ≤ v1)) && (decide (v1 ≤ (8 : Int)))))
theorem sm_is_name {p_word : (List Chr)} {v : Bool} (hv : T_is_name p_word = some v) : m_is_name [eS p_word] = .ok ((oF eB) v) := by
  refine run_sg (O := (oF eB)) (t := T_is_name p_word) ?_ hv
  unfold T_is_name D_is_name
  refine sg_env (e2 := [some (.fz (eS p_word)), none]) rfl ?_
  refine sg_one ?_
  refine sg_assoc ?_
  refine sg_iceS ?_
  refine sg_iceF rfl ?_
  refine sg_seqL (sg_forC (eA := eC) (fun (s1 : Unit) (e : VEnv) => ∃ j1 : Option OV, e = [some (.fz (eS p_word)), j1]) (fun (s1 : Unit) (e : VEnv) => ∃ j1 : Option OV, e = [some (.fz (eS p_word)), j1]) ((oF eB)) (tb := T_is_name_b1) (it_str (ev_varF (x := eS p_word) rfl)) ⟨_, rfl⟩ (fun _ _ h => h) (fun x1 s1 e hE => ?_)) (fun r e => ⟨e, rfl⟩) (fun s2 e hE => ?_)
  · obtain ⟨j1, rfl⟩ := hE
    refine ⟨_, rfl, ?_⟩
    unfold T_is_name_b1
    refine sg_one ?_
    refine sg_ifs (ev_test (asO (.st (.fz (eB (!(decide (x1 ∈ Tcs_2)))))) (ev_bin (ev_varF (x := eC x1) rfl) (ev_cs cs_2) (t_ninS (c := x1) (s := Tcs_2) rfl rfl)))) (fun _ => ?_) (fun _ => ?_)
    · exact sg_retS (o := (.fz (eB false))) (ev_c (x := eB false)) (fun e => ⟨e, rfl⟩)
    · refine sg_skip ?_
      exact sg_of rfl ⟨_, rfl, ⟨_, rfl⟩⟩
  · obtain ⟨j2, rfl⟩ := hE
    refine sg_bind fun v1 hv1 => ?_
    exact sg_retS (o := (.fz (eB ((decide ((1 : Int) ≤ v1)) && (decide (v1 ≤ (8 : Int))))))) (asO (.st (.fz (eB ((decide ((1 : Int) ≤ v1)) && (decide (v1 ≤ (8 : Int))))))) (ev_chain (ev_c (x := eI 1)) (asO (.st (.fz (eI v1))) (ev_callB (ev_cons (ev_varF (x := eS p_word) rfl) ev_nil) (t_lenS (s := p_word) hv1))) (ev_c (x := eI 8)) t_le t_le)) (fun e => ⟨e, rfl⟩)
noncomputable def T_read_pattern_b1 (v1 : (List (List Chr))) (x1 : (List Chr)) (s1 : Unit) : Option (Ctl Unit ((List Chr) × (List Chr))) :=
  (lenS x1).bind fun v4 => (if (!(decide (v4 = (1 : Int)))) then some true else (sg1 x1).bind fun v5 => some ((!(decide (v5 ∈ Tcs_1))) || (decide ((1 : Int) < ((List.count x1 (cutF v1 (some (1 : Int)) none) : Nat) : Int))))).bind fun v6 => (if v6 then none else some (.nx ()))
noncomputable def T_read_pattern (p_text : (List Chr)) : Option ((List Chr) × (List Chr)) :=
  (splitG p_text Tcs_5).bind fun v1 => (atI v1 (0 : Int)).bind fun v2 => (T_is_name v2).bind fun v3 => (if ((!v3) || (!((decide ((1 : Int) ≤ ((cutF v1 (some (1 : Int)) none).length : Int))) && (decide (((cutF v1 (some (1 : Int)) none).length : Int) ≤ (4 : Int)))))) then none else ((forC (T_read_pattern_b1 v1) (cutF v1 (some (1 : Int)) none) ())).bind (behind (fun r => r) fun s2 => (atI v1 (0 : Int)).bind fun v7 => (sgs (cutF v1 (some (1 : Int)) none)).bind fun v8 => some (v7, v8)))
theorem sm_read_pattern {p_text : (List Chr)} {v : ((List Chr) × (List Chr))} (hv : T_read_pattern p_text = some v) : m_read_pattern [eS p_text] = .ok ((oF (eP eS (eT eC))) v) := by
  refine run_sg (O := (oF (eP eS (eT eC)))) (t := T_read_pattern p_text) ?_ hv
  unfold T_read_pattern D_read_pattern
  refine sg_env (e2 := [some (.fz (eS p_text)), none, none, none]) rfl ?_
  refine sg_one ?_
  refine sg_assoc ?_
  refine sg_bind fun v1 hv1 => ?_
  refine sg_set (o := (.ol (List.map eS v1))) (asO (.st (.ol (List.map eS v1))) (ev_meth (ev_varF (x := eS p_text) rfl) rfl (ev_cons (ev_cs cs_5) ev_nil) (t_split (a := p_text) (b := Tcs_5) hv1))) ?_
  refine sg_assoc ?_
  refine sg_set (o := (.ol (List.map eS (cutF v1 (some (1 : Int)) none)))) (asO (.st (.ol (List.map eS (cutF v1 (some (1 : Int)) none)))) (ev_sl (ev_varO (o := (.ol (List.map eS v1))) rfl rfl) (ev_ps (ev_c (x := eI 1))) ev_pn (t_slL (e := eS) (xs := v1) (.inl rfl)))) ?_
  refine sg_assoc ?_
  refine sg_iceS ?_
  refine sg_ice (o := (.ol (List.map eS (cutF v1 (some (1 : Int)) none)))) (x := (eL eS) (cutF v1 (some (1 : Int)) none)) rfl rfl ?_
  refine sg_bind fun v2 hv2 => ?_
  refine sg_bind fun v3 hv3 => ?_
  refine sg_ifs (ev_or (ev_notT (ev_test (asO (.st (.fz (eB v3))) (ev_callA (ev_cons (asO (.st (.fz (eS v2))) (ev_frzX (asO (.st (.fz (eS v2))) (ev_sub (ev_varO (o := (.ol (List.map eS v1))) rfl rfl) (ev_c (x := eI 0)) rfl (t_atL (e := eS) (xs := v1) (.inl rfl) hv2))) rfl)) ev_nil) (as := [eS v2]) rfl (sm_is_name hv3) (.inl rfl))))) (ev_notT (ev_test (asO (.st (.fz (eB ((decide ((1 : Int) ≤ ((cutF v1 (some (1 : Int)) none).length : Int))) && (decide (((cutF v1 (some (1 : Int)) none).length : Int) ≤ (4 : Int))))))) (ev_chain (ev_c (x := eI 1)) (asO (.st (.fz (eI ((cutF v1 (some (1 : Int)) none).length : Int)))) (ev_callB (ev_cons (ev_varF (x := (eL eS) (cutF v1 (some (1 : Int)) none)) rfl) ev_nil) (t_lenL (e := eS) (xs := (cutF v1 (some (1 : Int)) none)) (.inr (.inl rfl))))) (ev_c (x := eI 4)) t_le t_le))))) (fun _ => ?_) (fun _ => ?_)
  · exact sg_none
  · refine sg_skip ?_
    refine sg_assoc ?_
    refine sg_iceS ?_
    refine sg_iceF rfl ?_
    refine sg_seqL (sg_forC (eA := eS) (fun (s1 : Unit) (e : VEnv) => ∃ j1 : Option OV, e = [some (.fz (eS p_text)), some (.ol (List.map eS v1)), some (.fz ((eL eS) (cutF v1 (some (1 : Int)) none))), j1]) (fun (s1 : Unit) (e : VEnv) => ∃ j1 : Option OV, e = [some (.fz (eS p_text)), some (.ol (List.map eS v1)), some (.fz ((eL eS) (cutF v1 (some (1 : Int)) none))), j1]) ((oF (eP eS (eT eC)))) (tb := (T_read_pattern_b1 v1)) (it_items (e := eS) (xs := (cutF v1 (some (1 : Int)) none)) (.inr (.inl (ev_varF (x := (eL eS) (cutF v1 (some (1 : Int)) none)) rfl)))) ⟨_, rfl⟩ (fun _ _ h => h) (fun x1 s1 e hE => ?_)) (fun r e => ⟨e, rfl⟩) (fun s2 e hE => ?_)
    · obtain ⟨j1, rfl⟩ := hE
      refine ⟨_, rfl, ?_⟩
      unfold T_read_pattern_b1
      refine sg_one ?_
      refine sg_bind fun v4 hv4 => ?_
      refine sg_bind fun v6 hv6 => ?_
      refine sg_ifs (ev_orO (ev_test (asO (.st (.fz (eB (!(decide (v4 = (1 : Int))))))) (ev_bin (asO (.st (.fz (eI v4))) (ev_callB (ev_cons (ev_varF (x := eS x1) rfl) ev_nil) (t_lenS (s := x1) hv4))) (ev_c (x := eI 1)) (t_ne (e := eI) (a := v4) (b := (1 : Int)) epI (by decide) rfl rfl)))) (fun _ => (oe_bind fun v5 hv5 => (oe_id (ev_or (ev_test (asO (.st (.fz (eB (!(decide (v5 ∈ Tcs_1)))))) (ev_bin (unSC (s := x1) (ev_varF (x := eS x1) rfl) hv5) (ev_cs cs_1) (t_ninS (c := v5) (s := Tcs_1) rfl rfl)))) (ev_test (asO (.st (.fz (eB (decide ((1 : Int) < ((List.count x1 (cutF v1 (some (1 : Int)) none) : Nat) : Int)))))) (ev_bin (asO (.st (.fz (eI ((List.count x1 (cutF v1 (some (1 : Int)) none) : Nat) : Int)))) (ev_meth (ev_varF (x := (eL eS) (cutF v1 (some (1 : Int)) none)) rfl) rfl (ev_cons (ev_varF (x := eS x1) rfl) ev_nil) (t_lcount (a := (cutF v1 (some (1 : Int)) none)) (b := x1) (.inr rfl)))) (ev_c (x := eI 1)) t_gt))))))) hv6) (fun _ => ?_) (fun _ => ?_)
      · exact sg_none
      · refine sg_skip ?_
        exact sg_of rfl ⟨_, rfl, ⟨_, rfl⟩⟩
    · obtain ⟨j2, rfl⟩ := hE
      refine sg_bind fun v7 hv7 => ?_
      refine sg_bind fun v8 hv8 => ?_
      exact sg_retS (o := (.fz ((eP eS (eT eC)) (v7, v8)))) (asO (.st (.fz ((eP eS (eT eC)) (v7, v8)))) (ev_tup (ev_cons (asO (.st (.fz (eS v7))) (ev_frzX (asO (.st (.fz (eS v7))) (ev_sub (ev_varO (o := (.ol (List.map eS v1))) rfl rfl) (ev_c (x := eI 0)) rfl (t_atL (e := eS) (xs := v1) (.inl rfl) hv7))) rfl)) (ev_cons (unTSC (l := (cutF v1 (some (1 : Int)) none)) (asO (.st (.fz ((eT eS) (cutF v1 (some (1 : Int)) none)))) (ev_frzX (asO (.st (.fz ((eT eS) (cutF v1 (some (1 : Int)) none)))) (ev_callB (ev_cons (ev_varF (x := (eL eS) (cutF v1 (some (1 : Int)) none)) rfl) ev_nil) (t_tup (e := eS) (xs := (cutF v1 (some (1 : Int)) none)) (.inr rfl)))) rfl)) hv8) ev_nil)) (Nat.le_of_ble_eq_true rfl) rfl)) (fun e => ⟨e, rfl⟩)
noncomputable def T_read_pattern_x_b1 (v1 : (List (List Chr))) (x1 : (List Chr)) (s1 : Unit) : Option Unit :=
  (lenS x1).bind fun v4 => (if (!(decide (v4 = (1 : Int)))) then some true else (sg1 x1).bind fun v5 => some ((!(decide (v5 ∈ Tcs_1))) || (decide ((1 : Int) < ((List.count x1 (cutF v1 (some (1 : Int)) none) : Nat) : Int))))).bind fun v6 => (if v6 then none else some ())
noncomputable def T_read_pattern_x_b1x (v1 : (List (List Chr))) (x1 : (List Chr)) (s1 : Unit) : Option Str :=
  (lenS x1).bind fun v7 => (if (!(decide (v7 = (1 : Int)))) then some true else (sg1 x1).bind fun v8 => some ((!(decide (v8 ∈ Tcs_1))) || (decide ((1 : Int) < ((List.count x1 (cutF v1 (some (1 : Int)) none) : Nat) : Int))))).bind fun v9 => (if v9 then (some "NoText") else none)
noncomputable def T_read_pattern_x (p_text : (List Chr)) : Option Str :=
  (splitG p_text Tcs_5).bind fun v1 => (atI v1 (0 : Int)).bind fun v2 => (T_is_name v2).bind fun v3 => (if ((!v3) || (!((decide ((1 : Int) ≤ ((cutF v1 (some (1 : Int)) none).length : Int))) && (decide (((cutF v1 (some (1 : Int)) none).length : Int) ≤ (4 : Int)))))) then (some "NoText") else forX (T_read_pattern_x_b1x v1) (T_read_pattern_x_b1 v1) (cutF v1 (some (1 : Int)) none) ())
theorem smx_read_pattern {p_text : (List Chr)} {c : Str} (hv : T_read_pattern_x p_text = some c) : m_read_pattern [eS p_text] = .ex c := by
  refine run_sx (t := T_read_pattern_x p_text) ?_ hv
  unfold T_read_pattern_x D_read_pattern
  refine sx_env (e2 := [some (.fz (eS p_text)), none, none, none]) rfl ?_
  refine sx_one ?_
  refine sx_assoc ?_
  refine sx_bind fun v1 hv1 => ?_
  refine sx_of (fun _ _ k => sg_set (o := (.ol (List.map eS v1))) (asO (.st (.ol (List.map eS v1))) (ev_meth (ev_varF (x := eS p_text) rfl) rfl (ev_cons (ev_cs cs_5) ev_nil) (t_split (a := p_text) (b := Tcs_5) hv1))) k) ?_
  refine sx_assoc ?_
  refine sx_of (fun _ _ k => sg_set (o := (.ol (List.map eS (cutF v1 (some (1 : Int)) none)))) (asO (.st (.ol (List.map eS (cutF v1 (some (1 : Int)) none)))) (ev_sl (ev_varO (o := (.ol (List.map eS v1))) rfl rfl) (ev_ps (ev_c (x := eI 1))) ev_pn (t_slL (e := eS) (xs := v1) (.inl rfl)))) k) ?_
  refine sx_assoc ?_
  refine sx_iceS ?_
  refine sx_ice (o := (.ol (List.map eS (cutF v1 (some (1 : Int)) none)))) (x := (eL eS) (cutF v1 (some (1 : Int)) none)) rfl rfl ?_
  refine sx_bind fun v2 hv2 => ?_
  refine sx_bind fun v3 hv3 => ?_
  refine sx_ifs (ev_or (ev_notT (ev_test (asO (.st (.fz (eB v3))) (ev_callA (ev_cons (asO (.st (.fz (eS v2))) (ev_frzX (asO (.st (.fz (eS v2))) (ev_sub (ev_varO (o := (.ol (List.map eS v1))) rfl rfl) (ev_c (x := eI 0)) rfl (t_atL (e := eS) (xs := v1) (.inl rfl) hv2))) rfl)) ev_nil) (as := [eS v2]) rfl (sm_is_name hv3) (.inl rfl))))) (ev_notT (ev_test (asO (.st (.fz (eB ((decide ((1 : Int) ≤ ((cutF v1 (some (1 : Int)) none).length : Int))) && (decide (((cutF v1 (some (1 : Int)) none).length : Int) ≤ (4 : Int))))))) (ev_chain (ev_c (x := eI 1)) (asO (.st (.fz (eI ((cutF v1 (some (1 : Int)) none).length : Int)))) (ev_callB (ev_cons (ev_varF (x := (eL eS) (cutF v1 (some (1 : Int)) none)) rfl) ev_nil) (t_lenL (e := eS) (xs := (cutF v1 (some (1 : Int)) none)) (.inr (.inl rfl))))) (ev_c (x := eI 4)) t_le t_le))))) (fun _ => ?_) (fun _ => ?_)
  · exact sx_raise
  · refine sx_skip ?_
    refine sx_assoc ?_
    refine sx_iceS ?_
    refine sx_iceF rfl ?_
    refine sx_for (eA := eS) (fun (s1 : Unit) (e : VEnv) => ∃ j1 : Option OV, e = [some (.fz (eS p_text)), some (.ol (List.map eS v1)), some (.fz ((eL eS) (cutF v1 (some (1 : Int)) none))), j1]) (tb := (T_read_pattern_x_b1 v1)) (fx := (T_read_pattern_x_b1x v1)) (it_items (e := eS) (xs := (cutF v1 (some (1 : Int)) none)) (.inr (.inl (ev_varF (x := (eL eS) (cutF v1 (some (1 : Int)) none)) rfl)))) ⟨_, rfl⟩ (fun x1 s1 e hE => ?_)
    obtain ⟨j1, rfl⟩ := hE
    refine ⟨_, rfl, ?_, ?_⟩
    · unfold T_read_pattern_x_b1
      refine sg_one ?_
      refine sg_bind fun v4 hv4 => ?_
      refine sg_bind fun v6 hv6 => ?_
      refine sg_ifs (ev_orO (ev_test (asO (.st (.fz (eB (!(decide (v4 = (1 : Int))))))) (ev_bin (asO (.st (.fz (eI v4))) (ev_callB (ev_cons (ev_varF (x := eS x1) rfl) ev_nil) (t_lenS (s := x1) hv4))) (ev_c (x := eI 1)) (t_ne (e := eI) (a := v4) (b := (1 : Int)) epI (by decide) rfl rfl)))) (fun _ => (oe_bind fun v5 hv5 => (oe_id (ev_or (ev_test (asO (.st (.fz (eB (!(decide (v5 ∈ Tcs_1)))))) (ev_bin (unSC (s := x1) (ev_varF (x := eS x1) rfl) hv5) (ev_cs cs_1) (t_ninS (c := v5) (s := Tcs_1) rfl rfl)))) (ev_test (asO (.st (.fz (eB (decide ((1 : Int) < ((List.count x1 (cutF v1 (some (1 : Int)) none) : Nat) : Int)))))) (ev_bin (asO (.st (.fz (eI ((List.count x1 (cutF v1 (some (1 : Int)) none) : Nat) : Int)))) (ev_meth (ev_varF (x := (eL eS) (cutF v1 (some (1 : Int)) none)) rfl) rfl (ev_cons (ev_varF (x := eS x1) rfl) ev_nil) (t_lcount (a := (cutF v1 (some (1 : Int)) none)) (b := x1) (.inr rfl)))) (ev_c (x := eI 1)) t_gt))))))) hv6) (fun _ => ?_) (fun _ => ?_)
      · exact sg_none
      · refine sg_skip ?_
        exact sg_nx ⟨_, rfl⟩
    · unfold T_read_pattern_x_b1x
      refine sx_one ?_
      refine sx_bind fun v7 hv7 => ?_
      refine sx_bind fun v9 hv9 => ?_
      refine sx_ifs (ev_orO (ev_test (asO (.st (.fz (eB (!(decide (v7 = (1 : Int))))))) (ev_bin (asO (.st (.fz (eI v7))) (ev_callB (ev_cons (ev_varF (x := eS x1) rfl) ev_nil) (t_lenS (s := x1) hv7))) (ev_c (x := eI 1)) (t_ne (e := eI) (a := v7) (b := (1 : Int)) epI (by decide) rfl rfl)))) (fun _ => (oe_bind fun v8 hv8 => (oe_id (ev_or (ev_test (asO (.st (.fz (eB (!(decide (v8 ∈ Tcs_1)))))) (ev_bin (unSC (s := x1) (ev_varF (x := eS x1) rfl) hv8) (ev_cs cs_1) (t_ninS (c := v8) (s := Tcs_1) rfl rfl)))) (ev_test (asO (.st (.fz (eB (decide ((1 : Int) < ((List.count x1 (cutF v1 (some (1 : Int)) none) : Nat) : Int)))))) (ev_bin (asO (.st (.fz (eI ((List.count x1 (cutF v1 (some (1 : Int)) none) : Nat) : Int)))) (ev_meth (ev_varF (x := (eL eS) (cutF v1 (some (1 : Int)) none)) rfl) rfl (ev_cons (ev_varF (x := eS x1) rfl) ev_nil) (t_lcount (a := (cutF v1 (some (1 : Int)) none)) (b := x1) (.inr rfl)))) (ev_c (x := eI 1)) t_gt))))))) hv9) (fun _ => ?_) (fun _ => ?_)
      · exact sx_raise
      · exact sx_none
noncomputable def T_letters_of_b1 (x2 : Chr) (s2 : (List (Chr × Bool))) : Option (List (Chr × Bool)) :=
  (putG s2 x2 true).bind fun v1 => some v1
noncomputable def T_letters_of_b2 (x1 : (List Chr)) (s1 : (List (Chr × Bool))) : Option (List (Chr × Bool)) :=
  (forT T_letters_of_b1 x1 s1).bind fun s3 => some s3
noncomputable def T_letters_of (p_shape : (List (List Chr))) : Option (List Chr) :=
  (forT T_letters_of_b2 p_shape ([] : (List (Chr × Bool)))).bind fun s4 => (srt eC (List.map (fun x : Chr × Bool => x.1) s4)).bind fun v2 => some v2
theorem sm_letters_of {p_shape : (List (List Chr))} {v : (List Chr)} (hv : T_letters_of p_shape = some v) : m_letters_of [(eL (eT eC)) p_shape] = .ok ((oL eC) v) := by
  refine run_sg (O := (oL eC)) (t := T_letters_of p_shape) ?_ hv
  unfold T_letters_of D_letters_of
  refine sg_env (e2 := [some (.fz ((eL (eT eC)) p_shape)), none, none, none]) rfl ?_
  refine sg_one ?_
  refine sg_assoc ?_
  refine sg_set (o := (.oK (List.map (fun p : Chr × Bool => (kC p.1, eB p.2)) ([] : (List (Chr × Bool)))))) (asO (.st (.oK (List.map (fun p : Chr × Bool => (kC p.1, eB p.2)) ([] : (List (Chr × Bool)))))) rfl) ?_
  refine sg_assoc ?_
  refine sg_iceS ?_
  refine sg_iceF rfl ?_
  refine sg_seq (sg_for (eA := (eT eC)) (fun (s1 : (List (Chr × Bool))) (e : VEnv) => ∃ j1 j2 : Option OV, e = [some (.fz ((eL (eT eC)) p_shape)), some (.oK (List.map (fun p : Chr × Bool => (kC p.1, eB p.2)) s1)), j1, j2]) (tb := T_letters_of_b2) (it_items (e := (eT eC)) (xs := p_shape) (.inr (.inl (ev_varF (x := (eL (eT eC)) p_shape) rfl)))) ⟨_, _, rfl⟩ (fun x1 s1 e hE => ?_)) (fun s4 e hE => ?_)
  · obtain ⟨j1, j2, rfl⟩ := hE
    refine ⟨_, rfl, ?_⟩
    unfold T_letters_of_b2
    refine sg_one ?_
    refine sg_iceS ?_
    refine sg_iceF rfl ?_
    refine sg_seq (sg_for (eA := eC) (fun (s2 : (List (Chr × Bool))) (e : VEnv) => ∃ j3 : Option OV, e = [some (.fz ((eL (eT eC)) p_shape)), some (.oK (List.map (fun p : Chr × Bool => (kC p.1, eB p.2)) s2)), some (.fz ((eT eC) x1)), j3]) (tb := T_letters_of_b1) (it_items (e := eC) (xs := x1) (.inr (.inr (ev_varF (x := (eT eC) x1) rfl)))) ⟨_, rfl⟩ (fun x2 s2 e hE => ?_)) (fun s3 e hE => ?_)
    · obtain ⟨j3, rfl⟩ := hE
      refine ⟨_, rfl, ?_⟩
      unfold T_letters_of_b1
      refine sg_one ?_
      refine sg_bind fun v1 hv1 => ?_
      refine sg_putK (kk := kC) (e := eB) (l := s2) (x := true) (a := x2) ekC rfl (ev_c (x := eB true)) (ev_varF (x := eC x2) rfl) rfl hv1 ?_
      exact sg_nx ⟨_, rfl⟩
    · obtain ⟨j4, rfl⟩ := hE
      exact sg_nx ⟨_, _, rfl⟩
  · obtain ⟨j5, j6, rfl⟩ := hE
    refine sg_bind fun v2 hv2 => ?_
    exact sg_retS (o := (.ol (List.map eC v2))) (asO (.st (.ol (List.map eC v2))) (ev_keysS (k := kC) (e := eB) (l := s4) ekC (ev_varO (o := (.oK (List.map (fun p : Chr × Bool => (kC p.1, eB p.2)) s4))) rfl rfl) (.inl rfl) hv2)) (fun e => ⟨e, rfl⟩)
noncomputable def T_shape_of (p_question : (List ((List Chr) × (List Chr)))) : Option (List (List Chr)) :=
  (lcG (fun x1 : ((List Chr) × (List Chr)) => some true) (fun x1 => some x1.2) p_question).bind fun v1 => some v1
theorem sm_shape_of {p_question : (List ((List Chr) × (List Chr)))} {v : (List (List Chr))} (hv : T_shape_of p_question = some v) : m_shape_of [(eL (eP eS (eT eC))) p_question] = .ok ((oL (eT eC)) v) := by
  refine run_sg (O := (oL (eT eC))) (t := T_shape_of p_question) ?_ hv
  unfold T_shape_of D_shape_of
  refine sg_env (e2 := [some (.fz ((eL (eP eS (eT eC))) p_question)), none, none]) rfl ?_
  refine sg_one ?_
  refine sg_bind fun v1 hv1 => ?_
  exact sg_retS (o := (.ol (List.map (eT eC) v1))) (asO (.st (.ol (List.map (eT eC) v1))) (ev_lc (e := (eP eS (eT eC))) (d := (eT eC)) (tc := fun x1 => some true) (te := fun x1 => some x1.2) (items := p_question) (ci_items (e := (eP eS (eT eC))) (xs := p_question) (ev_varF (x := (eL (eP eS (eT eC))) p_question) rfl) sb_st (.inl rfl)) (fun x1 => ⟨_, rfl, (oe_id rfl), (oe_ret (ev_varF (x := (eT eC) x1.2) rfl))⟩) (.inl (afz_F (afz_N (afz_N afz_nil)))) hv1)) (fun e => ⟨e, rfl⟩)
noncomputable def T_read_question (p_text : FV) : Option (List ((List Chr) × (List Chr))) :=
  (isaXG ["str"] p_text).bind fun v1 => (if (!v1) then none else (txt? p_text).bind fun v2 => (splitG v2 Tcs_4).bind fun v3 => (lcG (fun x1 : (List Chr) => some true) (fun x1 => (T_read_pattern x1).bind fun v4 => some v4) v3).bind fun v5 => (if (List.length v3) ≤ BIG then some () else none).bind fun v6 => (if (decide ((6 : Int) < (v5.length : Int))) then some true else (T_shape_of v5).bind fun v7 => (T_letters_of v7).bind fun v8 => some (decide ((6 : Int) < (v8.length : Int)))).bind fun v9 => (if v9 then none else some v5))
theorem sm_read_question {p_text : FV} {v : (List ((List Chr) × (List Chr)))} (hv : T_read_question p_text = some v) : m_read_question [eX p_text] = .ok ((oL (eP eS (eT eC))) v) := by
  refine run_sg (O := (oL (eP eS (eT eC)))) (t := T_read_question p_text) ?_ hv
  unfold T_read_question D_read_question
  refine sg_env (e2 := [some (.fz (eX p_text)), none, none]) rfl ?_
  refine sg_one ?_
  refine sg_assoc ?_
  refine sg_bind fun v1 hv1 => ?_
  refine sg_ifs (ev_notT (ev_test (asO (.st (.fz (eB v1))) (ev_un (op := opIsa ["str"]) (ev_varF (x := eX p_text) rfl) (t_isaX (x := p_text) hv1))))) (fun _ => ?_) (fun _ => ?_)
  · exact sg_none
  · refine sg_skip ?_
    refine sg_assoc ?_
    refine sg_bind fun v2 hv2 => ?_
    refine sg_bind fun v3 hv3 => ?_
    refine sg_bind fun v5 hv5 => ?_
    refine sg_bind fun v6 hv6 => ?_
    refine sg_set (o := (.ol (List.map (eP eS (eT eC)) v5))) (asO (.st (.ol (List.map (eP eS (eT eC)) v5))) (ev_lcX (e := eS) (d := (eP eS (eT eC))) (tc := fun x1 => some true) (te := fun x1 => (T_read_pattern x1).bind fun v4 => some v4) (items := v3) (ci_items (e := eS) (xs := v3) (asO (.st (.ol (List.map eS v3))) (ev_meth (unXS (x := p_text) (ev_varF (x := eX p_text) rfl) hv2) rfl (ev_cons (ev_cs cs_4) ev_nil) (t_split (a := v2) (b := Tcs_4) hv3))) sb_st (.inl rfl)) (fun x1 => ⟨_, rfl, (oe_id rfl), (oe_bind fun v4 hv4 => (oe_ret (asO (.st (.fz ((eP eS (eT eC)) v4))) (ev_frzX (asO (.st (.fz ((eP eS (eT eC)) v4))) (ev_callA (ev_cons (ev_varF (x := eS x1) rfl) ev_nil) (as := [eS x1]) rfl (sm_read_pattern hv4) (.inl rfl))) rfl))))⟩) (.inl (afz_F (afz_N (afz_N afz_nil)))) (ne_of_if hv6) hv5)) ?_
    refine sg_assoc ?_
    refine sg_bind fun v9 hv9 => ?_
    refine sg_ifs (ev_orO (ev_test (asO (.st (.fz (eB (decide ((6 : Int) < (v5.length : Int)))))) (ev_bin (asO (.st (.fz (eI (v5.length : Int)))) (ev_callB (ev_cons (ev_varO (o := (.ol (List.map (eP eS (eT eC)) v5))) rfl rfl) ev_nil) (t_lenL (e := (eP eS (eT eC))) (xs := v5) (.inl rfl)))) (ev_c (x := eI 6)) t_gt))) (fun _ => (oe_bind fun v7 hv7 => (oe_bind fun v8 hv8 => (oe_id (ev_test (asO (.st (.fz (eB (decide ((6 : Int) < (v8.length : Int)))))) (ev_bin (asO (.st (.fz (eI (v8.length : Int)))) (ev_callB (ev_cons (asO (.st (.ol (List.map eC v8))) (ev_callA (ev_cons (asO (.st (.fz ((eL (eT eC)) v7))) (ev_frzX (o := (.ol (List.map (eT eC) v7))) (asO (.st (.ol (List.map (eT eC) v7))) (ev_callA (ev_cons (ev_varO (o := (.ol (List.map (eP eS (eT eC)) v5))) rfl rfl) ev_nil) (as := [(eL (eP eS (eT eC))) v5]) rfl (sm_shape_of hv7) (.inr (clean_L (puT puC) _)))) rfl)) ev_nil) (as := [(eL (eT eC)) v7]) rfl (sm_letters_of hv8) (.inl rfl))) ev_nil) (t_lenL (e := eC) (xs := v8) (.inl rfl)))) (ev_c (x := eI 6)) t_gt))))))) hv9) (fun _ => ?_) (fun _ => ?_)
    · exact sg_none
    · refine sg_skip ?_
      exact sg_retVS (o := (.ol (List.map (eP eS (eT eC)) v5))) rfl (fun e => ⟨e, rfl⟩)
noncomputable def T_read_question_x (p_text : FV) : Option Str :=
  (isaXG ["str"] p_text).bind fun v1 => (if (!v1) then (some "NoText") else (txt? p_text).bind fun v2 => (splitG v2 Tcs_4).bind fun v3 => (if (List.length v3) ≤ BIG then some () else none).bind fun v4 => (orX (lcR (fun x1 : (List Chr) => (T_read_pattern x1).bind fun v5 => some v5) (fun x1 => (T_read_pattern_x x1)) v3) ((txt? p_text).bind fun v6 => (splitG v6 Tcs_4).bind fun v7 => (lcG (fun x2 : (List Chr) => some true) (fun x2 => (T_read_pattern x2).bind fun v8 => some v8) v7).bind fun v9 => (if (List.length v7) ≤ BIG then some () else none).bind fun v10 => (if (decide ((6 : Int) < (v9.length : Int))) then some true else (T_shape_of v9).bind fun v11 => (T_letters_of v11).bind fun v12 => some (decide ((6 : Int) < (v12.length : Int)))).bind fun v13 => (if v13 then (some "NoText") else none))))
theorem smx_read_question {p_text : FV} {c : Str} (hv : T_read_question_x p_text = some c) : m_read_question [eX p_text] = .ex c := by
  refine run_sx (t := T_read_question_x p_text) ?_ hv
  unfold T_read_question_x D_read_question
  refine sx_env (e2 := [some (.fz (eX p_text)), none, none]) rfl ?_
  refine sx_one ?_
  refine sx_assoc ?_
  refine sx_bind fun v1 hv1 => ?_
  refine sx_ifs (ev_notT (ev_test (asO (.st (.fz (eB v1))) (ev_un (op := opIsa ["str"]) (ev_varF (x := eX p_text) rfl) (t_isaX (x := p_text) hv1))))) (fun _ => ?_) (fun _ => ?_)
  · exact sx_raise
  · refine sx_skip ?_
    refine sx_assoc ?_
    refine sx_bind fun v2 hv2 => ?_
    refine sx_bind fun v3 hv3 => ?_
    refine sx_bind fun v4 hv4 => ?_
    refine sx_or (fun c hc => exSet (exLcX (e := eS) (d := (eP eS (eT eC))) (te := fun x1 => (T_read_pattern x1).bind fun v5 => some v5) (tx := fun x1 => (T_read_pattern_x x1)) (items := v3) (ci_items (e := eS) (xs := v3) (asO (.st (.ol (List.map eS v3))) (ev_meth (unXS (x := p_text) (ev_varF (x := eX p_text) rfl) hv2) rfl (ev_cons (ev_cs cs_4) ev_nil) (t_split (a := v2) (b := Tcs_4) hv3))) sb_st (.inl rfl)) (fun x1 => ⟨_, rfl, (oe_bind fun v5 hv5 => (oe_ret (asO (.st (.fz ((eP eS (eT eC)) v5))) (ev_frzX (asO (.st (.fz ((eP eS (eT eC)) v5))) (ev_callA (ev_cons (ev_varF (x := eS x1) rfl) ev_nil) (as := [eS x1]) rfl (sm_read_pattern hv5) (.inl rfl))) rfl)))), fun c hc => (exFrz (sx_call (as := [eS x1]) (ev_cons (ev_varF (x := eS x1) rfl) ev_nil) (fvs_cons rfl fvs_nil) (smx_read_pattern hc)))⟩) (ne_of_if hv4) hc)) ?_
    refine sx_bind fun v6 hv6 => ?_
    refine sx_bind fun v7 hv7 => ?_
    refine sx_bind fun v9 hv9 => ?_
    refine sx_bind fun v10 hv10 => ?_
    refine sx_of (fun _ _ k => sg_set (o := (.ol (List.map (eP eS (eT eC)) v9))) (asO (.st (.ol (List.map (eP eS (eT eC)) v9))) (ev_lcX (e := eS) (d := (eP eS (eT eC))) (tc := fun x2 => some true) (te := fun x2 => (T_read_pattern x2).bind fun v8 => some v8) (items := v7) (ci_items (e := eS) (xs := v7) (asO (.st (.ol (List.map eS v7))) (ev_meth (unXS (x := p_text) (ev_varF (x := eX p_text) rfl) hv6) rfl (ev_cons (ev_cs cs_4) ev_nil) (t_split (a := v6) (b := Tcs_4) hv7))) sb_st (.inl rfl)) (fun x2 => ⟨_, rfl, (oe_id rfl), (oe_bind fun v8 hv8 => (oe_ret (asO (.st (.fz ((eP eS (eT eC)) v8))) (ev_frzX (asO (.st (.fz ((eP eS (eT eC)) v8))) (ev_callA (ev_cons (ev_varF (x := eS x2) rfl) ev_nil) (as := [eS x2]) rfl (sm_read_pattern hv8) (.inl rfl))) rfl))))⟩) (.inl (afz_F (afz_N (afz_N afz_nil)))) (ne_of_if hv10) hv9)) k) ?_
    refine sx_assoc ?_
    refine sx_bind fun v13 hv13 => ?_
    refine sx_ifs (ev_orO (ev_test (asO (.st (.fz (eB (decide ((6 : Int) < (v9.length : Int)))))) (ev_bin (asO (.st (.fz (eI (v9.length : Int)))) (ev_callB (ev_cons (ev_varO (o := (.ol (List.map (eP eS (eT eC)) v9))) rfl rfl) ev_nil) (t_lenL (e := (eP eS (eT eC))) (xs := v9) (.inl rfl)))) (ev_c (x := eI 6)) t_gt))) (fun _ => (oe_bind fun v11 hv11 => (oe_bind fun v12 hv12 => (oe_id (ev_test (asO (.st (.fz (eB (decide ((6 : Int) < (v12.length : Int)))))) (ev_bin (asO (.st (.fz (eI (v12.length : Int)))) (ev_callB (ev_cons (asO (.st (.ol (List.map eC v12))) (ev_callA (ev_cons (asO (.st (.fz ((eL (eT eC)) v11))) (ev_frzX (o := (.ol (List.map (eT eC) v11))) (asO (.st (.ol (List.map (eT eC) v11))) (ev_callA (ev_cons (ev_varO (o := (.ol (List.map (eP eS (eT eC)) v9))) rfl rfl) ev_nil) (as := [(eL (eP eS (eT eC))) v9]) rfl (sm_shape_of hv11) (.inr (clean_L (puT puC) _)))) rfl)) ev_nil) (as := [(eL (eT eC)) v11]) rfl (sm_letters_of hv12) (.inl rfl))) ev_nil) (t_lenL (e := eC) (xs := v12) (.inl rfl)))) (ev_c (x := eI 6)) t_gt))))))) hv13) (fun _ => ?_) (fun _ => ?_)
    · exact sx_raise
    · exact sx_none
noncomputable def T__law_right (p_text : FV) : Option Bool :=
  (T__law_told p_text).bind fun v1 => (tryA ["NoText"] (T_read_question p_text) (T_read_question_x p_text)).bind fun v2 => (if v1.isNone then (isEG [("NoText" , false)] v2.2).bind fun v3 => (if v3 then some false else (isEG [("NoText" , true)] v2.2).bind fun v4 => (if v4 then (isEG (List.map (fun c => (c , true)) ["NoText"]) v2.2).bind fun v5 => some v5 else some false).bind fun v6 => some v6) else (if v2.2.isSome then some true else (v2.1).bind fun v7 => some ((!true) || (!(decide (v2.1 = v1))))).bind fun v8 => (if v8 then some false else (v2.1).bind fun v9 => (lcG (fun x1 : ((List Chr) × (List Chr)) => some ((!true) || (!true))) (fun x1 => some x1) v9).bind fun v10 => some (decide (v10 = ([] : List ((List Chr) × (List Chr)))))))
theorem sm__law_right {p_text : FV} {v : Bool} (hv : T__law_right p_text = some v) : m__law_right [eX p_text] = .ok ((oF eB) v) := by
  refine run_sg (O := (oF eB)) (t := T__law_right p_text) ?_ hv
  unfold T__law_right D__law_right
  refine sg_env (e2 := [some (.fz (eX p_text)), none, none, none, none, none]) rfl ?_
  refine sg_one ?_
  refine sg_assoc ?_
  refine sg_bind fun v1 hv1 => ?_
  refine sg_set (o := (oO (oL (eP eS (eT eC))) v1)) (asO (.st (oO (oL (eP eS (eT eC))) v1)) (ev_callA (ev_cons (ev_varF (x := eX p_text) rfl) ev_nil) (as := [eX p_text]) rfl (sm__law_told hv1) (.inl rfl))) ?_
  refine sg_assoc ?_
  refine sg_iceS ?_
  refine sg_ice (o := (oO (oL (eP eS (eT eC))) v1)) (x := (eO (eL (eP eS (eT eC)))) v1) rfl (fvO_of (e := (eL (eP eS (eT eC)))) (ov := (oL (eP eS (eT eC)))) (fun _ => rfl) _) ?_
  refine sg_set (o := (.fz (eU ()))) (ev_c (x := eU ())) ?_
  refine sg_assoc ?_
  refine sg_set (o := (.fz (eU ()))) (ev_c (x := eU ())) ?_
  refine sg_assoc ?_
  refine sg_bind fun v2 hv2 => ?_
  refine sg_tryA (e := (eL (eP eS (eT eC)))) (v := v2) rfl rfl rfl (by decide) (try_callA (L := ["NoText"]) (e := (eL (eP eS (eT eC)))) (ev_cons (ev_varF (x := eX p_text) rfl) ev_nil) (as := [eX p_text]) rfl rfl (fun _ => rfl) (fun _ h => sm_read_question h) (fun _ h => smx_read_question h) hv2) ?_
  refine sg_assoc ?_
  refine sg_ifs (ev_test (asO (.st (.fz (eB v1.isNone))) (ev_un (ev_varF (x := (eO (eL (eP eS (eT eC)))) v1) rfl) (t_isN (e := (eL (eP eS (eT eC)))) (v := v1) nnL rfl)))) (fun _ => ?_) (fun _ => ?_)
  · refine sg_assoc ?_
    refine sg_bind fun v3 hv3 => ?_
    refine sg_ifs (ev_test (asO (.st (.fz (eB v3))) (ev_un (ev_varF (x := (eO eQ) v2.2) rfl) (t_isE (tab := [("NoText" , false)]) (v := v2.2) hv3)))) (fun _ => ?_) (fun _ => ?_)
    · exact sg_retS (o := (.fz (eB false))) (ev_c (x := eB false)) (fun e => ⟨e, rfl⟩)
    · refine sg_skip ?_
      refine sg_bind fun v4 hv4 => ?_
      refine sg_bind fun v6 hv6 => ?_
      exact sg_retS (o := (.fz (eB v6))) (ev_andVO (asO (.st (.fz (eB v4))) (ev_un (ev_varF (x := (eO eQ) v2.2) rfl) (t_isE (tab := [("NoText" , true)]) (v := v2.2) hv4))) (fun _ => (oe_bind fun v5 hv5 => (oe_ret (asO (.st (.fz (eB v5))) (ev_un (ev_varF (x := (eO eQ) v2.2) rfl) (t_isE (tab := (List.map (fun c => (c , true)) ["NoText"])) (v := v2.2) hv5)))))) hv6) (fun e => ⟨e, rfl⟩)
  · refine sg_skip ?_
    refine sg_assoc ?_
    refine sg_bind fun v8 hv8 => ?_
    refine sg_ifs (ev_orO (ev_test (asO (.st (.fz (eB v2.2.isSome))) (ev_un (ev_varF (x := (eO eQ) v2.2) rfl) (t_notN (e := eQ) (v := v2.2) nnQ rfl)))) (fun _ => (oe_bind fun v7 hv7 => (oe_id (ev_or (ev_notT (ev_test (asO (.st (.fz (eB true))) (ev_un (op := opIsa ["list"]) (unO (e := (eL (eP eS (eT eC)))) (v := v2.1) (ev_varF (x := (eO (eL (eP eS (eT eC)))) v2.1) rfl) hv7) rfl)))) (ev_test (asO (.st (.fz (eB (!(decide (v2.1 = v1)))))) (ev_bin (ev_varF (x := (eO (eL (eP eS (eT eC)))) v2.1) rfl) (ev_varF (x := (eO (eL (eP eS (eT eC)))) v1) rfl) (t_ne (e := (eO (eL (eP eS (eT eC))))) (a := v2.1) (b := v1) (epO (epL (epP epS (epT epC))) nnL) (by decide) rfl rfl)))))))) hv8) (fun _ => ?_) (fun _ => ?_)
    · exact sg_retS (o := (.fz (eB false))) (ev_c (x := eB false)) (fun e => ⟨e, rfl⟩)
    · refine sg_skip ?_
      refine sg_iceS ?_
      refine sg_iceJ (j := none) rfl ?_
      refine sg_iceS ?_
      refine sg_iceF rfl ?_
      refine sg_iceS ?_
      refine sg_iceF rfl ?_
      refine sg_iceS ?_
      refine sg_iceF rfl ?_
      refine sg_bind fun v9 hv9 => ?_
      refine sg_bind fun v10 hv10 => ?_
      exact sg_retS (o := (.fz (eB (decide (v10 = ([] : List ((List Chr) × (List Chr)))))))) (asO (.st (.fz (eB (decide (v10 = ([] : List ((List Chr) × (List Chr)))))))) (ev_bin (asO (.st (.ol (List.map (eP eS (eT eC)) v10))) (ev_lc (e := (eP eS (eT eC))) (d := (eP eS (eT eC))) (tc := fun x1 => some ((!true) || (!true))) (te := fun x1 => some x1) (items := v9) (ci_items (e := (eP eS (eT eC))) (xs := v9) (unO (e := (eL (eP eS (eT eC)))) (v := v2.1) (ev_varF (x := (eO (eL (eP eS (eT eC)))) v2.1) rfl) hv9) sb_st (.inl rfl)) (fun x1 => ⟨_, rfl, (oe_id (ev_or (ev_notT (ev_test (asO (.st (.fz (eB true))) (ev_un (op := opIsa ["tuple"]) (ev_varF (x := (eP eS (eT eC)) x1) rfl) rfl)))) (ev_notT (ev_test (asO (.st (.fz (eB true))) (ev_un (op := opIsa ["tuple"]) (asO (.st (.fz ((eT eC) x1.2))) (ev_sub (ev_varF (x := (eP eS (eT eC)) x1) rfl) (ev_c (x := eI 1)) rfl rfl)) rfl)))))), (oe_ret (ev_varF (x := (eP eS (eT eC)) x1) rfl))⟩) (.inl (afz_F (afz_F (afz_F (afz_F (afz_N (afz_N afz_nil))))))) hv10)) (asO (.st (.ol (List.map (eP eS (eT eC)) ([] : List ((List Chr) × (List Chr)))))) (ev_list ev_nil (Nat.le_of_ble_eq_true rfl) rfl)) (t_eq (e := (eL (eP eS (eT eC)))) (a := v10) (b := ([] : List ((List Chr) × (List Chr)))) (epL (epP epS (epT epC))) (by decide) rfl rfl))) (fun e => ⟨e, rfl⟩)
noncomputable def T__law_odd (p_cell : Int) : Option FV :=
  (catG ([(eS Tcs_3), (eC (97 : Chr)), (eS Tcs_6), (eS Tcs_7), (eS Tcs_8), (eS Tcs_9), (eS Tcs_10), (eS Tcs_11), (eS Tcs_12), (eS Tcs_13), (eS Tcs_14), (eS Tcs_15), (eS Tcs_16)] : List FV) ([(eS Tcs_17), (eS Tcs_18), (eS Tcs_19), (eS Tcs_20), (eS Tcs_21)] : List FV)).bind fun v1 => (catG v1 ([(eS Tcs_22), (eS Tcs_23), (eS Tcs_24), (eS Tcs_25), (eS Tcs_26), (eS Tcs_27), (eU ()), (eI (7 : Int)), ((eL (eP eC (eT eC))) ([((97 : Chr), ([(65 : Chr)] : List Chr))] : List (Chr × (List Chr))))] : List FV)).bind fun v2 => (T__law_mix p_cell (110 : Int)).bind fun v3 => (atI v2 (v3 % (27 : Int))).bind fun v4 => some v4
theorem sm__law_odd {p_cell : Int} {v : FV} (hv : T__law_odd p_cell = some v) : m__law_odd [eI p_cell] = .ok ((oF eX) v) := by
  refine run_sg (O := (oF eX)) (t := T__law_odd p_cell) ?_ hv
  unfold T__law_odd D__law_odd
  refine sg_env (e2 := [some (.fz (eI p_cell)), none]) rfl ?_
  refine sg_one ?_
  refine sg_assoc ?_
  refine sg_set (o := (.ol (List.map eX ([(eS Tcs_3), (eC (97 : Chr)), (eS Tcs_6), (eS Tcs_7), (eS Tcs_8), (eS Tcs_9), (eS Tcs_10), (eS Tcs_11), (eS Tcs_12), (eS Tcs_13), (eS Tcs_14), (eS Tcs_15), (eS Tcs_16)] : List FV)))) (asO (.st (.ol (List.map eX ([(eS Tcs_3), (eC (97 : Chr)), (eS Tcs_6), (eS Tcs_7), (eS Tcs_8), (eS Tcs_9), (eS Tcs_10), (eS Tcs_11), (eS Tcs_12), (eS Tcs_13), (eS Tcs_14), (eS Tcs_15), (eS Tcs_16)] : List FV)))) (ev_list (ev_cons (ev_cs cs_3) (ev_cons (ev_cc (c := 97) rfl) (ev_cons (ev_cs cs_6) (ev_cons (ev_cs cs_7) (ev_cons (ev_cs cs_8) (ev_cons (ev_cs cs_9) (ev_cons (ev_cs cs_10) (ev_cons (ev_cs cs_11) (ev_cons (ev_cs cs_12) (ev_cons (ev_cs cs_13) (ev_cons (ev_cs cs_14) (ev_cons (ev_cs cs_15) (ev_cons (ev_cs cs_16) ev_nil))))))))))))) (Nat.le_of_ble_eq_true rfl) rfl)) ?_
  refine sg_assoc ?_
  refine sg_iceS ?_
  refine sg_ice (o := (.ol (List.map eX ([(eS Tcs_3), (eC (97 : Chr)), (eS Tcs_6), (eS Tcs_7), (eS Tcs_8), (eS Tcs_9), (eS Tcs_10), (eS Tcs_11), (eS Tcs_12), (eS Tcs_13), (eS Tcs_14), (eS Tcs_15), (eS Tcs_16)] : List FV)))) (x := (eL eX) ([(eS Tcs_3), (eC (97 : Chr)), (eS Tcs_6), (eS Tcs_7), (eS Tcs_8), (eS Tcs_9), (eS Tcs_10), (eS Tcs_11), (eS Tcs_12), (eS Tcs_13), (eS Tcs_14), (eS Tcs_15), (eS Tcs_16)] : List FV)) rfl rfl ?_
  refine sg_bind fun v1 hv1 => ?_
  refine sg_set (o := (.ol (List.map eX v1))) (asO (.st (.ol (List.map eX v1))) (ev_bin (ev_varF (x := (eL eX) ([(eS Tcs_3), (eC (97 : Chr)), (eS Tcs_6), (eS Tcs_7), (eS Tcs_8), (eS Tcs_9), (eS Tcs_10), (eS Tcs_11), (eS Tcs_12), (eS Tcs_13), (eS Tcs_14), (eS Tcs_15), (eS Tcs_16)] : List FV)) rfl) (asO (.st (.ol (List.map eX ([(eS Tcs_17), (eS Tcs_18), (eS Tcs_19), (eS Tcs_20), (eS Tcs_21)] : List FV)))) (ev_list (ev_cons (ev_cs cs_17) (ev_cons (ev_cs cs_18) (ev_cons (ev_cs cs_19) (ev_cons (ev_cs cs_20) (ev_cons (ev_cs cs_21) ev_nil))))) (Nat.le_of_ble_eq_true rfl) rfl)) (t_catL (e := eX) (a := ([(eS Tcs_3), (eC (97 : Chr)), (eS Tcs_6), (eS Tcs_7), (eS Tcs_8), (eS Tcs_9), (eS Tcs_10), (eS Tcs_11), (eS Tcs_12), (eS Tcs_13), (eS Tcs_14), (eS Tcs_15), (eS Tcs_16)] : List FV)) (b := ([(eS Tcs_17), (eS Tcs_18), (eS Tcs_19), (eS Tcs_20), (eS Tcs_21)] : List FV)) (.inr rfl) (.inl rfl) hv1))) ?_
  refine sg_assoc ?_
  refine sg_iceS ?_
  refine sg_ice (o := (.ol (List.map eX v1))) (x := (eL eX) v1) rfl rfl ?_
  refine sg_bind fun v2 hv2 => ?_
  refine sg_set (o := (.ol (List.map eX v2))) (asO (.st (.ol (List.map eX v2))) (ev_bin (ev_varF (x := (eL eX) v1) rfl) (asO (.st (.ol (List.map eX ([(eS Tcs_22), (eS Tcs_23), (eS Tcs_24), (eS Tcs_25), (eS Tcs_26), (eS Tcs_27), (eU ()), (eI (7 : Int)), ((eL (eP eC (eT eC))) ([((97 : Chr), ([(65 : Chr)] : List Chr))] : List (Chr × (List Chr))))] : List FV)))) (ev_list (ev_cons (ev_cs cs_22) (ev_cons (ev_cs cs_23) (ev_cons (ev_cs cs_24) (ev_cons (ev_cs cs_25) (ev_cons (ev_cs cs_26) (ev_cons (ev_cs cs_27) (ev_cons (ev_c (x := eU ())) (ev_cons (ev_c (x := eI 7)) (ev_cons (asO (.st (.fz ((eL (eP eC (eT eC))) ([((97 : Chr), ([(65 : Chr)] : List Chr))] : List (Chr × (List Chr)))))) (ev_frzX (o := (.ol (List.map (eP eC (eT eC)) ([((97 : Chr), ([(65 : Chr)] : List Chr))] : List (Chr × (List Chr)))))) (asO (.st (.ol (List.map (eP eC (eT eC)) ([((97 : Chr), ([(65 : Chr)] : List Chr))] : List (Chr × (List Chr)))))) (ev_list (ev_cons (asO (.st (.fz ((eP eC (eT eC)) ((97 : Chr), ([(65 : Chr)] : List Chr))))) (ev_frzX (asO (.st (.fz ((eP eC (eT eC)) ((97 : Chr), ([(65 : Chr)] : List Chr))))) (ev_tup (ev_cons (ev_cc (c := 97) rfl) (ev_cons (asO (.st (.fz ((eT eC) ([(65 : Chr)] : List Chr)))) (ev_frzX (asO (.st (.fz ((eT eC) ([(65 : Chr)] : List Chr)))) (ev_tup (ev_cons (ev_cc (c := 65) rfl) ev_nil) (Nat.le_of_ble_eq_true rfl) rfl)) rfl)) ev_nil)) (Nat.le_of_ble_eq_true rfl) rfl)) rfl)) ev_nil) (Nat.le_of_ble_eq_true rfl) rfl)) rfl)) ev_nil))))))))) (Nat.le_of_ble_eq_true rfl) rfl)) (t_catL (e := eX) (a := v1) (b := ([(eS Tcs_22), (eS Tcs_23), (eS Tcs_24), (eS Tcs_25), (eS Tcs_26), (eS Tcs_27), (eU ()), (eI (7 : Int)), ((eL (eP eC (eT eC))) ([((97 : Chr), ([(65 : Chr)] : List Chr))] : List (Chr × (List Chr))))] : List FV)) (.inr rfl) (.inl rfl) hv2))) ?_
  refine sg_iceS ?_
  refine sg_ice (o := (.ol (List.map eX v2))) (x := (eL eX) v2) rfl rfl ?_
  refine sg_bind fun v3 hv3 => ?_
  refine sg_bind fun v4 hv4 => ?_
  exact sg_retS (o := (.fz (eX v4))) (asO (.st (.fz (eX v4))) (ev_sub (ev_varF (x := (eL eX) v2) rfl) (asO (.st (.fz (eI (v3 % (27 : Int))))) (ev_bin (asO (.st (.fz (eI v3))) (ev_callA (ev_cons (ev_varF (x := eI p_cell) rfl) (ev_cons (ev_c (x := eI 110)) ev_nil)) (as := [eI p_cell, eI (110 : Int)]) rfl (sm__law_mix hv3) (.inl rfl))) (ev_c (x := eI 27)) (e_mod (by decide)))) rfl (t_atL (e := eX) (xs := v2) (.inr (.inl rfl)) hv4))) (fun e => ⟨e, rfl⟩)
noncomputable def T__law_spoiled (p_text : (List Chr)) (p_cell : Int) : Option FV :=
  (T__law_mix p_cell (111 : Int)).bind fun v1 => (T__law_mix p_cell (112 : Int)).bind fun v2 => (lenS p_text).bind fun v3 => (modG v2 (v3 + (1 : Int))).bind fun v4 => (T__law_mix p_cell (113 : Int)).bind fun v5 => (lenS Tcs_28).bind fun v6 => (modG v5 v6).bind fun v7 => (atS' Tcs_28 v7).bind fun v8 => (if (decide ((v1 % (8 : Int)) = (0 : Int))) then (cutSG p_text none (some v4)).bind fun v9 => (catG v9 [v8]).bind fun v10 => (cutSG p_text (some v4) none).bind fun v11 => (catG v10 v11).bind fun v12 => some (eS v12) else (if (decide ((v1 % (8 : Int)) = (1 : Int))) then (cutSG p_text none (some v4)).bind fun v13 => (cutSG p_text (some (v4 + (1 : Int))) none).bind fun v14 => (catG v13 v14).bind fun v15 => some (eS v15) else (if (decide ((v1 % (8 : Int)) < (5 : Int))) then (cutSG p_text none (some v4)).bind fun v16 => (catG v16 [v8]).bind fun v17 => (cutSG p_text (some (v4 + (1 : Int))) none).bind fun v18 => (catG v17 v18).bind fun v19 => some (eS v19) else (if (decide ((v1 % (8 : Int)) = (5 : Int))) then (T__law_odd p_cell).bind fun v20 => some v20 else some (eS p_text)))))
theorem sm__law_spoiled {p_text : (List Chr)} {p_cell : Int} {v : FV} (hv : T__law_spoiled p_text p_cell = some v) : m__law_spoiled [eS p_text, eI p_cell] = .ok ((oF eX) v) := by
  refine run_sg (O := (oF eX)) (t := T__law_spoiled p_text p_cell) ?_ hv
  unfold T__law_spoiled D__law_spoiled
  refine sg_env (e2 := [some (.fz (eS p_text)), some (.fz (eI p_cell)), none, none, none, none]) rfl ?_
  refine sg_one ?_
  refine sg_assoc ?_
  refine sg_set (o := (.fz (eS Tcs_28))) (ev_cs cs_28) ?_
  refine sg_assoc ?_
  refine sg_bind fun v1 hv1 => ?_
  refine sg_set (o := (.fz (eI (v1 % (8 : Int))))) (asO (.st (.fz (eI (v1 % (8 : Int))))) (ev_bin (asO (.st (.fz (eI v1))) (ev_callA (ev_cons (ev_varF (x := eI p_cell) rfl) (ev_cons (ev_c (x := eI 111)) ev_nil)) (as := [eI p_cell, eI (111 : Int)]) rfl (sm__law_mix hv1) (.inl rfl))) (ev_c (x := eI 8)) (e_mod (by decide)))) ?_
  refine sg_assoc ?_
  refine sg_bind fun v2 hv2 => ?_
  refine sg_bind fun v3 hv3 => ?_
  refine sg_bind fun v4 hv4 => ?_
  refine sg_set (o := (.fz (eI v4))) (asO (.st (.fz (eI v4))) (ev_bin (asO (.st (.fz (eI v2))) (ev_callA (ev_cons (ev_varF (x := eI p_cell) rfl) (ev_cons (ev_c (x := eI 112)) ev_nil)) (as := [eI p_cell, eI (112 : Int)]) rfl (sm__law_mix hv2) (.inl rfl))) (asO (.st (.fz (eI (v3 + (1 : Int))))) (ev_bin (asO (.st (.fz (eI v3))) (ev_callB (ev_cons (ev_varF (x := eS p_text) rfl) ev_nil) (t_lenS (s := p_text) hv3))) (ev_c (x := eI 1)) e_add)) (t_modG (i := v2) (j := (v3 + (1 : Int))) hv4))) ?_
  refine sg_assoc ?_
  refine sg_bind fun v5 hv5 => ?_
  refine sg_bind fun v6 hv6 => ?_
  refine sg_bind fun v7 hv7 => ?_
  refine sg_bind fun v8 hv8 => ?_
  refine sg_set (o := (.fz (eC v8))) (asO (.st (.fz (eC v8))) (ev_sub (ev_varF (x := eS Tcs_28) rfl) (asO (.st (.fz (eI v7))) (ev_bin (asO (.st (.fz (eI v5))) (ev_callA (ev_cons (ev_varF (x := eI p_cell) rfl) (ev_cons (ev_c (x := eI 113)) ev_nil)) (as := [eI p_cell, eI (113 : Int)]) rfl (sm__law_mix hv5) (.inl rfl))) (asO (.st (.fz (eI v6))) (ev_callB (ev_cons (ev_varF (x := eS Tcs_28) rfl) ev_nil) (t_lenS (s := Tcs_28) hv6))) (t_modG (i := v5) (j := v6) hv7))) rfl (t_atS (s := Tcs_28) hv8))) ?_
  refine sg_assoc ?_
  refine sg_ifs (ev_test (asO (.st (.fz (eB (decide ((v1 % (8 : Int)) = (0 : Int)))))) (ev_bin (ev_varF (x := eI (v1 % (8 : Int))) rfl) (ev_c (x := eI 0)) (t_eq (e := eI) (a := (v1 % (8 : Int))) (b := (0 : Int)) epI (by decide) rfl rfl)))) (fun _ => ?_) (fun _ => ?_)
  · refine sg_bind fun v9 hv9 => ?_
    refine sg_bind fun v10 hv10 => ?_
    refine sg_bind fun v11 hv11 => ?_
    refine sg_bind fun v12 hv12 => ?_
    exact sg_retS (o := (.fz (eX (eS v12)))) (asO (.st (.fz (eS v12))) (ev_bin (asO (.st (.fz (eS v10))) (ev_bin (asO (.st (.fz (eS v9))) (ev_sl (ev_varF (x := eS p_text) rfl) ev_pn (ev_ps (ev_varF (x := eI v4) rfl)) (t_slS (s := p_text) hv9))) (ev_varF (x := eC v8) rfl) (t_catS (a := v9) (b := [v8]) hv10))) (asO (.st (.fz (eS v11))) (ev_sl (ev_varF (x := eS p_text) rfl) (ev_ps (ev_varF (x := eI v4) rfl)) ev_pn (t_slS (s := p_text) hv11))) (t_catS (a := v10) (b := v11) hv12))) (fun e => ⟨e, rfl⟩)
  · refine sg_skip ?_
    refine sg_assoc ?_
    refine sg_ifs (ev_test (asO (.st (.fz (eB (decide ((v1 % (8 : Int)) = (1 : Int)))))) (ev_bin (ev_varF (x := eI (v1 % (8 : Int))) rfl) (ev_c (x := eI 1)) (t_eq (e := eI) (a := (v1 % (8 : Int))) (b := (1 : Int)) epI (by decide) rfl rfl)))) (fun _ => ?_) (fun _ => ?_)
    · refine sg_bind fun v13 hv13 => ?_
      refine sg_bind fun v14 hv14 => ?_
      refine sg_bind fun v15 hv15 => ?_
      exact sg_retS (o := (.fz (eX (eS v15)))) (asO (.st (.fz (eS v15))) (ev_bin (asO (.st (.fz (eS v13))) (ev_sl (ev_varF (x := eS p_text) rfl) ev_pn (ev_ps (ev_varF (x := eI v4) rfl)) (t_slS (s := p_text) hv13))) (asO (.st (.fz (eS v14))) (ev_sl (ev_varF (x := eS p_text) rfl) (ev_ps (asO (.st (.fz (eI (v4 + (1 : Int))))) (ev_bin (ev_varF (x := eI v4) rfl) (ev_c (x := eI 1)) e_add))) ev_pn (t_slS (s := p_text) hv14))) (t_catS (a := v13) (b := v14) hv15))) (fun e => ⟨e, rfl⟩)
    · refine sg_skip ?_
      refine sg_assoc ?_
      refine sg_ifs (ev_test (asO (.st (.fz (eB (decide ((v1 % (8 : Int)) < (5 : Int)))))) (ev_bin (ev_varF (x := eI (v1 % (8 : Int))) rfl) (ev_c (x := eI 5)) t_lt))) (fun _ => ?_) (fun _ => ?_)
      · refine sg_bind fun v16 hv16 => ?_
        refine sg_bind fun v17 hv17 => ?_
        refine sg_bind fun v18 hv18 => ?_
        refine sg_bind fun v19 hv19 => ?_
        exact sg_retS (o := (.fz (eX (eS v19)))) (asO (.st (.fz (eS v19))) (ev_bin (asO (.st (.fz (eS v17))) (ev_bin (asO (.st (.fz (eS v16))) (ev_sl (ev_varF (x := eS p_text) rfl) ev_pn (ev_ps (ev_varF (x := eI v4) rfl)) (t_slS (s := p_text) hv16))) (ev_varF (x := eC v8) rfl) (t_catS (a := v16) (b := [v8]) hv17))) (asO (.st (.fz (eS v18))) (ev_sl (ev_varF (x := eS p_text) rfl) (ev_ps (asO (.st (.fz (eI (v4 + (1 : Int))))) (ev_bin (ev_varF (x := eI v4) rfl) (ev_c (x := eI 1)) e_add))) ev_pn (t_slS (s := p_text) hv18))) (t_catS (a := v17) (b := v18) hv19))) (fun e => ⟨e, rfl⟩)
      · refine sg_skip ?_
        refine sg_assoc ?_
        refine sg_ifs (ev_test (asO (.st (.fz (eB (decide ((v1 % (8 : Int)) = (5 : Int)))))) (ev_bin (ev_varF (x := eI (v1 % (8 : Int))) rfl) (ev_c (x := eI 5)) (t_eq (e := eI) (a := (v1 % (8 : Int))) (b := (5 : Int)) epI (by decide) rfl rfl)))) (fun _ => ?_) (fun _ => ?_)
        · refine sg_bind fun v20 hv20 => ?_
          exact sg_retS (o := (.fz (eX v20))) (asO (.st (.fz (eX v20))) (ev_callA (ev_cons (ev_varF (x := eI p_cell) rfl) ev_nil) (as := [eI p_cell]) rfl (sm__law_odd hv20) (.inl rfl))) (fun e => ⟨e, rfl⟩)
        · refine sg_skip ?_
          exact sg_retVS (o := (.fz (eX (eS p_text)))) rfl (fun e => ⟨e, rfl⟩)
noncomputable def T_law_b1 (x1 : Int) (s1 : Unit) : Option (Ctl Unit Bool) :=
  (T__law_question x1).bind fun v1 => (T__law_shown v1).bind fun v2 => (T_show_question v1).bind fun v3 => (if (!true) then some true else (if (!(decide (v3 = v2))) then some true else (T__law_question x1).bind fun v4 => some (!(decide (v1 = v4)))).bind fun v5 => some v5).bind fun v6 => (if v6 then some (.rt false) else (T__law_right (eS v3)).bind fun v7 => (if (!v7) then some true else (T__law_spoiled v2 x1).bind fun v8 => (T__law_right v8).bind fun v9 => some (!v9)).bind fun v10 => (if v10 then some (.rt false) else some (.nx ())))
noncomputable def T_law (p1 : (List Int)) : Option Bool :=
  ((forC T_law_b1 p1 ())).bind (behind (fun r => r) fun s2 => some true)
theorem sm_law {p1 : (List Int)} {v : Bool} (hv : T_law p1 = some v) : ∃ env, D_law p1 (List.replicate 5 none) = .ok (.rt (.fz (.bl v)) env) := by
  have key : SG (D_law p1 (List.replicate 5 none)) (T_law p1) (PR (oF eB)) := by
    unfold T_law D_law
    refine sg_env (D := dSeq _ _) (e2 := [none, none, none, none, none]) rfl ?_
    refine sg_one ?_
    refine sg_assoc ?_
    refine sg_seqL (sg_forC (eA := eI) (fun (s1 : Unit) (e : VEnv) => ∃ j1 j2 j3 j4 : Option OV, e = [none, j1, j2, j3, j4]) (fun (s1 : Unit) (e : VEnv) => ∃ j1 j2 j3 j4 : Option OV, e = [none, j1, j2, j3, j4]) ((oF eB)) (tb := T_law_b1) rfl ⟨_, _, _, _, rfl⟩ (fun _ _ h => h) (fun x1 s1 e hE => ?_)) (fun r e => ⟨e, rfl⟩) (fun s2 e hE => ?_)
    · obtain ⟨j1, j2, j3, j4, rfl⟩ := hE
      refine ⟨_, rfl, ?_⟩
      unfold T_law_b1
      refine sg_one ?_
      refine sg_assoc ?_
      refine sg_bind fun v1 hv1 => ?_
      refine sg_set (o := (.ol (List.map (eP eS (eT eC)) v1))) (asO (.st (.ol (List.map (eP eS (eT eC)) v1))) (ev_callA (ev_cons (ev_varF (x := eI x1) rfl) ev_nil) (as := [eI x1]) rfl (sm__law_question hv1) (.inl rfl))) ?_
      refine sg_assoc ?_
      refine sg_iceS ?_
      refine sg_ice (o := (.ol (List.map (eP eS (eT eC)) v1))) (x := (eL (eP eS (eT eC))) v1) rfl rfl ?_
      refine sg_bind fun v2 hv2 => ?_
      refine sg_set (o := (.fz (eS v2))) (asO (.st (.fz (eS v2))) (ev_callA (ev_cons (ev_varF (x := (eL (eP eS (eT eC))) v1) rfl) ev_nil) (as := [(eL (eP eS (eT eC))) v1]) rfl (sm__law_shown hv2) (.inl rfl))) ?_
      refine sg_assoc ?_
      refine sg_iceS ?_
      refine sg_iceF rfl ?_
      refine sg_bind fun v3 hv3 => ?_
      refine sg_set (o := (.fz (eS v3))) (asO (.st (.fz (eS v3))) (ev_callA (ev_cons (ev_varF (x := (eL (eP eS (eT eC))) v1) rfl) ev_nil) (as := [(eL (eP eS (eT eC))) v1]) rfl (sm_show_question hv3) (.inl rfl))) ?_
      refine sg_assoc ?_
      refine sg_iceS ?_
      refine sg_iceF rfl ?_
      refine sg_bind fun v6 hv6 => ?_
      refine sg_ifs (ev_orO (ev_notT (ev_test (asO (.st (.fz (eB true))) (ev_un (op := opIsa ["str"]) (ev_varF (x := eS v3) rfl) rfl)))) (fun _ => (oe_bind fun v5 hv5 => (oe_id (ev_orO (ev_test (asO (.st (.fz (eB (!(decide (v3 = v2)))))) (ev_bin (ev_varF (x := eS v3) rfl) (ev_varF (x := eS v2) rfl) (t_ne (e := eS) (a := v3) (b := v2) epS (by decide) rfl rfl)))) (fun _ => (oe_bind fun v4 hv4 => (oe_id (ev_test (asO (.st (.fz (eB (!(decide (v1 = v4)))))) (ev_bin (ev_varF (x := (eL (eP eS (eT eC))) v1) rfl) (asO (.st (.ol (List.map (eP eS (eT eC)) v4))) (ev_callA (ev_cons (ev_varF (x := eI x1) rfl) ev_nil) (as := [eI x1]) rfl (sm__law_question hv4) (.inl rfl))) (t_ne (e := (eL (eP eS (eT eC)))) (a := v1) (b := v4) (epL (epP epS (epT epC))) (by decide) rfl rfl))))))) hv5)))) hv6) (fun _ => ?_) (fun _ => ?_)
      · exact sg_retS (o := (.fz (eB false))) (ev_c (x := eB false)) (fun e => ⟨e, rfl⟩)
      · refine sg_skip ?_
        refine sg_bind fun v7 hv7 => ?_
        refine sg_bind fun v10 hv10 => ?_
        refine sg_ifs (ev_orO (ev_notT (ev_test (asO (.st (.fz (eB v7))) (ev_callA (ev_cons (ev_varF (x := eS v3) rfl) ev_nil) (as := [eX (eS v3)]) rfl (sm__law_right hv7) (.inl rfl))))) (fun _ => (oe_bind fun v8 hv8 => (oe_bind fun v9 hv9 => (oe_id (ev_notT (ev_test (asO (.st (.fz (eB v9))) (ev_callA (ev_cons (asO (.st (.fz (eX v8))) (ev_frzX (asO (.st (.fz (eX v8))) (ev_callA (ev_cons (ev_varF (x := eS v2) rfl) (ev_cons (ev_varF (x := eI x1) rfl) ev_nil)) (as := [eS v2, eI x1]) rfl (sm__law_spoiled hv8) (.inl rfl))) rfl)) ev_nil) (as := [eX v8]) rfl (sm__law_right hv9) (.inl rfl))))))))) hv10) (fun _ => ?_) (fun _ => ?_)
        · exact sg_retS (o := (.fz (eB false))) (ev_c (x := eB false)) (fun e => ⟨e, rfl⟩)
        · refine sg_skip ?_
          exact sg_of rfl ⟨_, rfl, ⟨_, _, _, _, rfl⟩⟩
    · obtain ⟨j5, j6, j7, j8, rfl⟩ := hE
      exact sg_retS (o := (.fz (eB true))) (ev_c (x := eB true)) (fun e => ⟨e, rfl⟩)
  obtain ⟨so, h1, e, rfl⟩ := key v hv
  exact ⟨e, h1⟩
theorem mulGr {i j : Int} (h : j.natAbs < 2 ^ 62) : mulG i j = some (i * j) := if_pos (mulR h)
theorem mulGl {i j : Int} (h : i.natAbs < 2 ^ 62) : mulG i j = some (i * j) := if_pos (mulL h)
theorem mix_ok (c j : Int) (h0 : 0 ≤ j) (h1 : j ≤ 1000) : ∃ v, T__law_mix c j = some v ∧ 0 ≤ v := by
  unfold T__law_mix
  split
  · refine ⟨_, by rw [show shrG c (1 + 20 * j) = some _ from if_pos (by omega), bindS], by omega⟩
  · rw [mulGr (by omega), bindS, mulGr (by omega), bindS, mulGr (by omega), bindS]
    exact ⟨_, rfl, by omega⟩
theorem nat_of {z : Int} (h : 0 ≤ z) : z = ((z.toNat : Nat) : Int) := (Int.toNat_of_nonneg h).symm
theorem popN {α : Type} {xs ys : List α} {k : Int} {m : Nat} (e : k = (m : Int)) (hm : m < ys.length) (hx : xs.length ≤ 100000) (hy : ys.length ≤ 100000) : popG xs ys k = some (xs ++ [ys[m]], ys.eraseIdx m) := by
  unfold popG
  rw [if_pos ⟨bigT hx, bigL hy⟩]
  have : ixN ys.length k = some m := by
    unfold ixN
    rw [e, if_pos (by omega), if_pos (by omega), Int.toNat_natCast]
  rw [this, bindS, List.getElem?_eq_getElem hm]
  rfl
theorem atSN {s : List Chr} {i : Int} {n : Nat} (e : i = (n : Int)) (h : n < s.length) (hs : s.length ≤ 100000) : atS' s i = some (s[n]'h) := by
  unfold atS'
  rw [if_pos (bigL hs)]
  exact atN e h
def abcAt (n : Nat) : Chr := (Tcs_1[n]?).getD 0
theorem abc_len : Tcs_1.length = 26 := by decide
theorem abc_some {n : Nat} (h : n < 26) : Tcs_1[n]'(by rw [abc_len]; exact h) = abcAt n := by
  unfold abcAt
  rw [List.getElem?_eq_getElem (by rw [abc_len]; exact h)]
  rfl
theorem cutFrom {α : Type} {xs : List α} {a : Nat} : cutF xs (some (a : Int)) none = xs.drop a := by
  unfold cutF
  show (xs.drop (HT.sIx xs.length 0 (some (a : Int)))).take (xs.length - HT.sIx xs.length 0 (some (a : Int))) = _
  have e : HT.sIx xs.length 0 (some (a : Int)) = min a xs.length := by
    unfold HT.sIx
    simp only
    rw [if_neg (by omega), Int.toNat_natCast]
  rw [e]
  by_cases h : a ≤ xs.length
  · rw [Nat.min_eq_left h, List.take_of_length_le (by rw [List.length_drop]; omega)]
  · rw [Nat.min_eq_right (by omega), List.drop_of_length_le (Nat.le_refl _), List.drop_of_length_le (by omega)]
    simp
theorem keys_loop {f1 : Chr → List (Chr × Bool) → Option (List (Chr × Bool))} {f2 : List Chr → List (Chr × Bool) → Option (List (Chr × Bool))} (h1 : ∀ x l, l.length ≤ 1000 → f1 x l = some (putKV l x true)) (h2 : ∀ d l, f2 d l = forT f1 d l) :
    ∀ {ds : List (List Chr)} {l : List (Chr × Bool)}, l.length + (ds.map List.length).sum ≤ 1000 → (l.map (·.1)).Nodup → ∃ l', forT f2 ds l = some l' ∧ (∀ c, c ∈ l'.map (·.1) ↔ c ∈ l.map (·.1) ∨ ∃ d ∈ ds, c ∈ d) ∧ (l'.map (·.1)).Nodup ∧ l'.length ≤ l.length + (ds.map List.length).sum
  | [], l, _, hn => ⟨l, rfl, fun c => by simp, hn, by simp⟩
  | d :: ds, l, hl, hn => by
    rw [List.map_cons, List.sum_cons] at hl
    obtain ⟨l1, a1, a2, a3, a4⟩ := forT_keys (f := f1) (k := id) (v := fun _ => true) (N := 1000) (by decide) (xs := d) (l := l) (fun x _ l hl => h1 x l hl) (by omega) hn
    obtain ⟨l2, b1, b2, b3, b4⟩ := keys_loop h1 h2 (ds := ds) (l := l1) (by omega) a3
    refine ⟨l2, ?_, fun c => ?_, b3, by rw [List.map_cons, List.sum_cons]; omega⟩
    · unfold forT
      rw [h2, a1, bindS]
      exact b1
    · rw [b2, a2, List.map_id]
      constructor
      · rintro ((h | h) | ⟨e, he, h⟩)
        · exact .inl h
        · exact .inr ⟨d, List.mem_cons_self, h⟩
        · exact .inr ⟨e, List.mem_cons_of_mem _ he, h⟩
      · rintro (h | ⟨e, he, h⟩)
        · exact .inl (.inl h)
        · rcases List.mem_cons.mp he with rfl | he
          · exact .inl (.inr h)
          · exact .inr ⟨e, he, h⟩
theorem sum_len {ds : List (List Chr)} (h6 : ds.length ≤ 6) (hd : ∀ d ∈ ds, d.length ≤ 4) : (ds.map List.length).sum ≤ 24 := by
  have : ∀ (l : List (List Chr)), (∀ d ∈ l, d.length ≤ 4) → (l.map List.length).sum ≤ 4 * l.length := fun l => by
    induction l with
    | nil => intro _; exact Nat.le_refl _
    | cons d l ih =>
      intro h
      have a := ih fun e he => h e (List.mem_cons_of_mem _ he)
      have b := h d List.mem_cons_self
      rw [List.map_cons, List.sum_cons, List.length_cons]
      omega
  have := this ds hd
  omega
theorem nodup_le {α : Type} [DecidableEq α] : ∀ {a b : List α}, a.Nodup → (∀ x ∈ a, x ∈ b) → a.length ≤ b.length
  | [], _, _, _ => Nat.zero_le _
  | x :: a, b, hn, h => by
    rw [List.nodup_cons] at hn
    have hx : x ∈ b := h x (List.mem_cons_self)
    have := nodup_le (a := a) (b := b.erase x) hn.2 fun y hy => (List.mem_erase_of_ne (fun e => hn.1 (by rw [← e]; exact hy))).mpr (h y (List.mem_cons_of_mem _ hy))
    rw [List.length_erase_of_mem hx] at this
    have := List.length_pos_of_mem hx
    rw [List.length_cons]
    omega
theorem letters_srt {l : List (Chr × Bool)} (hn : (l.map (·.1)).Nodup) (hl : l.length ≤ 1000) : ∃ ks, srt eC (l.map (·.1)) = some ks ∧ ks.Pairwise (· < ·) ∧ ∀ c, c ∈ ks ↔ c ∈ l.map (·.1) := by
  obtain ⟨ks, a, b, c⟩ := srtC_ok (l := l.map (·.1)) (by rw [List.length_map]; omega)
  exact ⟨ks, a, strictC c (b.nodup_iff.mpr hn), fun c => b.mem_iff⟩
abbrev NT : Str := "NoText"
section
variable {α β γ σ ρ : Type}
theorem forC_none {f : α → Unit → Option (Ctl Unit ρ)} {p : α → Bool} : ∀ {xs : List α}, (∀ x ∈ xs, f x () = if p x then some (.nx ()) else none) → forC f xs () = if xs.all p then some (.nx ()) else none
  | [], _ => rfl
  | x :: xs, h => by
    unfold forC
    rw [h x List.mem_cons_self, List.all_cons]
    cases p x with
    | false => rfl
    | true =>
      rw [if_pos rfl, bindS, Bool.true_and]
      exact forC_none fun y hy => h y (List.mem_cons_of_mem _ hy)
theorem forX_none {f : α → Unit → Option Unit} {fx : α → Unit → Option Str} {p : α → Bool} {c : Str} : ∀ {xs : List α}, (∀ x ∈ xs, fx x () = if p x then none else some c) → (∀ x ∈ xs, p x = true → f x () = some ()) → forX fx f xs () = if xs.all p then none else some c
  | [], _, _ => rfl
  | x :: xs, h, h2 => by
    unfold forX
    rw [h x List.mem_cons_self, List.all_cons]
    cases e : p x with
    | false => rfl
    | true =>
      simp only [if_true]
      rw [h2 x List.mem_cons_self e, bindS, Bool.true_and]
      exact forX_none (fun y hy => h y (List.mem_cons_of_mem _ hy)) fun y hy => h2 y (List.mem_cons_of_mem _ hy)
def mapO (f : α → Option β) : List α → Option (List β)
  | [] => some []
  | x :: xs => (f x).bind fun y => (mapO f xs).bind fun ys => some (y :: ys)
theorem mapO_len {f : α → Option β} : ∀ {xs : List α} {ys : List β}, mapO f xs = some ys → ys.length = xs.length
  | [], ys, h => by cases h; rfl
  | x :: xs, ys, h => by
    unfold mapO at h
    obtain ⟨y, h1, h⟩ := Option.bind_eq_some_iff.mp h
    obtain ⟨zs, h2, h⟩ := Option.bind_eq_some_iff.mp h
    cases h
    rw [List.length_cons, List.length_cons, mapO_len h2]
theorem mapO_mem {f : α → Option β} : ∀ {xs : List α} {ys : List β}, mapO f xs = some ys → ∀ y ∈ ys, ∃ x ∈ xs, f x = some y
  | [], ys, h => by cases h; exact fun _ z => nomatch z
  | x :: xs, ys, h => by
    unfold mapO at h
    obtain ⟨y, h1, h⟩ := Option.bind_eq_some_iff.mp h
    obtain ⟨zs, h2, h⟩ := Option.bind_eq_some_iff.mp h
    cases h
    intro z hz
    rcases List.mem_cons.mp hz with rfl | hz
    · exact ⟨x, List.mem_cons_self, h1⟩
    · obtain ⟨w, h3, h4⟩ := mapO_mem h2 z hz
      exact ⟨w, List.mem_cons_of_mem _ h3, h4⟩
theorem lcG_mapO {f g : α → Option β} {xs : List α} (h : ∀ x ∈ xs, g x = f x) (hl : xs.length ≤ 100000) : lcG (fun _ => some true) g xs = mapO f xs := by
  have key : ∀ xs : List α, (∀ x ∈ xs, g x = f x) → lcT (fun _ => some true) g xs = mapO f xs := fun xs => by
    induction xs with
    | nil => intro _; rfl
    | cons x xs ih =>
      intro h
      unfold lcT mapO
      rw [bindS, if_pos rfl, h x List.mem_cons_self, ih fun y hy => h y (List.mem_cons_of_mem _ hy)]
  unfold lcG
  rw [key xs h]
  cases hm : mapO f xs with
  | none => rfl
  | some ys => rw [bindS, if_pos (bigL (by rw [mapO_len hm]; exact hl))]
theorem lcR_mapO {f g : α → Option β} {gx : α → Option Str} {c : Str} : ∀ {xs : List α}, (∀ x ∈ xs, g x = f x) → (∀ x ∈ xs, gx x = if (f x).isNone then some c else none) → lcR g gx xs = if (mapO f xs).isNone then some c else none
  | [], _, _ => rfl
  | x :: xs, h, h2 => by
    unfold lcR mapO
    rw [h x List.mem_cons_self, h2 x List.mem_cons_self]
    cases f x with
    | none => rfl
    | some y =>
      show (some y).bind _ = _
      rw [bindS, bindS, lcR_mapO (fun y hy => h y (List.mem_cons_of_mem _ hy)) fun y hy => h2 y (List.mem_cons_of_mem _ hy)]
      cases mapO f xs <;> rfl
end
theorem lensN {s : List Chr} (h : s.length ≤ 100000) : lenS s = some ((s.length : Nat) : Int) := if_pos (bigL h)
theorem splitN {a b : List Chr} (hb : b ≠ []) (h : a.length ≤ 90000) : splitG a b = some (splitT a b) := if_pos ⟨hb, bigL (by omega)⟩
theorem cs4_ne : Tcs_4 ≠ [] := by decide
theorem cs5_ne : Tcs_5 ≠ [] := by decide
def isN (w : List Chr) : Bool := w.all (fun c => decide (c ∈ Tcs_2)) && (decide (1 ≤ w.length) && decide (w.length ≤ 8))
theorem isname_ok {w : List Chr} (h : w.length ≤ 100000) : T_is_name w = some (isN w) := by
  unfold T_is_name
  rw [forC_all (p := fun c => decide (c ∈ Tcs_2)) (r := false) (fun x _ => by
    unfold T_is_name_b1
    cases decide (x ∈ Tcs_2) <;> rfl), bindS]
  unfold isN
  cases hw : w.all (fun c => decide (c ∈ Tcs_2)) with
  | false => rfl
  | true =>
    rw [if_pos rfl]
    show (lenS w).bind _ = _
    rw [lensN h, bindS, Bool.true_and]
    congr 2
    · exact decide_eq_decide.mpr (by omega)
    · exact decide_eq_decide.mpr (by omega)
theorem lawname_ok {w : List Chr} (h : w.length ≤ 100000) : T__law_is_name w = some (isN w) := by
  unfold T__law_is_name
  rw [lensN h, bindS, bindS]
  have e : (if decide (((w.length : Nat) : Int) < (1 : Int)) = true then some true else some (decide ((8 : Int) < ((w.length : Nat) : Int)))) = some (!(decide (1 ≤ w.length) && decide (w.length ≤ 8))) := by
    by_cases h1 : 1 ≤ w.length
    · rw [if_neg (by simp; omega), decide_eq_true h1, Bool.true_and]
      by_cases h2 : w.length ≤ 8
      · rw [decide_eq_true h2, decide_eq_false (by omega)]; rfl
      · rw [decide_eq_false h2, decide_eq_true (by omega)]; rfl
    · rw [if_pos (by simp; omega), decide_eq_false h1]; rfl
  rw [e, bindS]
  unfold isN
  cases hd : (decide (1 ≤ w.length) && decide (w.length ≤ 8)) with
  | false =>
    rw [Bool.and_false]
    rfl
  | true =>
    rw [Bool.and_true, if_neg (by decide)]
    rw [forC_all (p := fun c => decide (c ∈ Tcs_2)) (r := false) (fun x _ => by
      unfold T__law_is_name_b1
      cases decide (x ∈ Tcs_2) <;> rfl), bindS]
    cases w.all (fun c => decide (c ∈ Tcs_2)) <;> rfl
def okL (ls : List (List Chr)) (x : List Chr) : Bool := (decide (x.length = 1) && x.all fun c => decide (c ∈ Tcs_1)) && decide (ls.count x ≤ 1)
def RP (p : List Chr) : Option (List Chr × List Chr) :=
  if (isN ((splitT p Tcs_5).headD []) && (decide (1 ≤ ((splitT p Tcs_5).drop 1).length) && decide (((splitT p Tcs_5).drop 1).length ≤ 4)) && ((splitT p Tcs_5).drop 1).all (okL ((splitT p Tcs_5).drop 1))) = true then some ((splitT p Tcs_5).headD [], ((splitT p Tcs_5).drop 1).flatten) else none
theorem head_at (p : List Chr) : atI (splitT p Tcs_5) (0 : Int) = some ((splitT p Tcs_5).headD []) := by
  have h := splitT_ne p Tcs_5
  revert h
  generalize splitT p Tcs_5 = v
  intro h
  cases v with
  | nil => exact absurd rfl h
  | cons x v => exact atQ (n := 0) rfl rfl
theorem head_len {p : List Chr} : ((splitT p Tcs_5).headD []).length ≤ p.length := by
  have h := splitT_ne p Tcs_5
  have k := fun q hq => splitT_part (a := p) (b := Tcs_5) (p := q) hq
  revert h k
  generalize splitT p Tcs_5 = v
  intro h k
  cases v with
  | nil => exact absurd rfl h
  | cons x v => exact (k x List.mem_cons_self).1
theorem rest_len {p q : List Chr} (h : q ∈ (splitT p Tcs_5).drop 1) : q.length ≤ p.length := (splitT_part (List.mem_of_mem_drop h)).1
theorem ok_test {ls : List (List Chr)} {x : List Chr} (h : x.length ≤ 100000) : ((lenS x).bind fun v4 => (if (!(decide (v4 = (1 : Int)))) then some true else (sg1 x).bind fun v5 => some ((!(decide (v5 ∈ Tcs_1))) || (decide ((1 : Int) < ((List.count x ls : Nat) : Int)))))) = some (!okL ls x) := by
  rw [lensN h, bindS]
  unfold okL
  by_cases h1 : x.length = 1
  · obtain ⟨c, rfl⟩ := List.length_eq_one_iff.mp h1
    rw [if_neg (by simp)]
    show some _ = some _
    congr 1
    rw [decide_eq_true h1, Bool.true_and]
    show _ = !((decide (c ∈ Tcs_1) && true) && _)
    rw [Bool.and_true, Bool.not_and]
    congr 1
    rw [← decide_not]
    exact decide_eq_decide.mpr (by omega)
  · rw [if_pos (by simp; omega), decide_eq_false h1]
    rfl
theorem ok_bind {α : Type} {ls : List (List Chr)} {x : List Chr} {k : Bool → Option α} (h : x.length ≤ 100000) : ((lenS x).bind fun v4 => (if (!(decide (v4 = (1 : Int)))) then some true else (sg1 x).bind fun v5 => some ((!(decide (v5 ∈ Tcs_1))) || (decide ((1 : Int) < ((List.count x ls : Nat) : Int))))).bind k) = k (!okL ls x) := by
  have := congrArg (fun o => Option.bind o k) (ok_test (ls := ls) h)
  rw [lensN h, bindS] at this ⊢
  exact this
theorem sgs_flat : ∀ {ls : List (List Chr)}, (∀ x ∈ ls, x.length = 1) → sgs ls = some ls.flatten
  | [], _ => rfl
  | x :: ls, h => by
    obtain ⟨c, rfl⟩ := List.length_eq_one_iff.mp (h x List.mem_cons_self)
    unfold sgs
    rw [sgs_flat fun y hy => h y (List.mem_cons_of_mem _ hy)]
    rfl
theorem okL_one {ls : List (List Chr)} {x : List Chr} (h : okL ls x = true) : x.length = 1 := by
  unfold okL at h
  simp at h
  exact h.1.1
theorem all_one {ls ms : List (List Chr)} (h : ms.all (okL ls) = true) : ∀ x ∈ ms, x.length = 1 := fun x hx => okL_one (List.all_eq_true.mp h x hx)
theorem cut1 {α : Type} (v : List α) : cutF v (some (1 : Int)) none = v.drop 1 := cutFrom (a := 1)
theorem chain_ok (n : Nat) : ((decide ((1 : Int) ≤ ((n : Nat) : Int))) && (decide (((n : Nat) : Int) ≤ (4 : Int)))) = (decide (1 ≤ n) && decide (n ≤ 4)) := by
  congr 1 <;> exact decide_eq_decide.mpr (by omega)
theorem pattern_ok {p : List Chr} (h : p.length ≤ 90000) : T_read_pattern p = RP p := by
  unfold T_read_pattern RP
  rw [splitN cs5_ne h, bindS, head_at, bindS, isname_ok (by have := @head_len p; omega), bindS, cut1, chain_ok]
  cases hn : isN ((splitT p Tcs_5).headD []) with
  | false => rfl
  | true =>
    cases hc : (decide (1 ≤ ((splitT p Tcs_5).drop 1).length) && decide (((splitT p Tcs_5).drop 1).length ≤ 4)) with
    | false => rfl
    | true =>
      simp only [Bool.true_and, Bool.not_true, Bool.or_self, Bool.false_eq_true, if_false]
      rw [forC_none (p := okL ((splitT p Tcs_5).drop 1)) (fun x hx => by
        unfold T_read_pattern_b1
        rw [cut1, ok_bind (by have := rest_len hx; omega)]
        cases okL _ x <;> rfl)]
      cases ha : ((splitT p Tcs_5).drop 1).all (okL ((splitT p Tcs_5).drop 1)) with
      | false => rfl
      | true =>
        rw [if_pos rfl, if_pos rfl, bindS]
        simp only [behind]
        rw [bindS, sgs_flat (all_one ha), bindS]
theorem patternx_ok {p : List Chr} (h : p.length ≤ 90000) : T_read_pattern_x p = if (RP p).isNone then some NT else none := by
  unfold T_read_pattern_x RP
  rw [splitN cs5_ne h, bindS, head_at, bindS, isname_ok (by have := @head_len p; omega), bindS, cut1, chain_ok]
  cases hn : isN ((splitT p Tcs_5).headD []) with
  | false => rfl
  | true =>
    cases hc : (decide (1 ≤ ((splitT p Tcs_5).drop 1).length) && decide (((splitT p Tcs_5).drop 1).length ≤ 4)) with
    | false => rfl
    | true =>
      simp only [Bool.true_and, Bool.not_true, Bool.or_self, Bool.false_eq_true, if_false]
      rw [forX_none (p := okL ((splitT p Tcs_5).drop 1)) (c := NT) (fun x hx => by
        unfold T_read_pattern_x_b1x
        rw [cut1, ok_bind (by have := rest_len hx; omega)]
        cases okL _ x <;> rfl) (fun x hx e => by
        unfold T_read_pattern_x_b1
        rw [cut1, ok_bind (by have := rest_len hx; omega), e]
        rfl)]
      cases ha : ((splitT p Tcs_5).drop 1).all (okL ((splitT p Tcs_5).drop 1)) <;> rfl
theorem RP_some {p : List Chr} {d : List Chr × List Chr} (h : RP p = some d) : d.2.length ≤ 4 := by
  unfold RP at h
  split at h
  · rename_i hc
    cases h
    simp only [Bool.and_eq_true, decide_eq_true_eq] at hc
    obtain ⟨⟨_, _, h4⟩, h5⟩ := hc
    have h1 := all_one h5
    have : ∀ ls : List (List Chr), (∀ x ∈ ls, x.length = 1) → ls.flatten.length = ls.length := fun ls => by
      induction ls with
      | nil => intro _; rfl
      | cons x ls ih =>
        intro h
        rw [List.flatten_cons, List.length_append, ih fun y hy => h y (List.mem_cons_of_mem _ hy), h x List.mem_cons_self, List.length_cons]
        omega
    rw [this _ h1]
    exact h4
  · cases h
def QP (s : List Chr) : Option (List (List Chr × List Chr)) := mapO RP (splitT s Tcs_4)
def nLet (q : List (List Chr × List Chr)) : Nat := ((List.finRange 128).filter fun c => decide (∃ d ∈ q, c ∈ d.2)).length
theorem nLet_of {q : List (List Chr × List Chr)} {ks : List Chr} (hn : ks.Nodup) (hm : ∀ c, c ∈ ks ↔ ∃ d ∈ q, c ∈ d.2) : ks.length = nLet q := by
  have hf : ((List.finRange 128).filter fun c => decide (∃ d ∈ q, c ∈ d.2)).Nodup := (List.nodup_finRange 128).sublist List.filter_sublist
  have hm2 : ∀ c, c ∈ ((List.finRange 128).filter fun c => decide (∃ d ∈ q, c ∈ d.2)) ↔ ∃ d ∈ q, c ∈ d.2 := fun c => by
    rw [List.mem_filter]
    exact ⟨fun h => by simpa using h.2, fun h => ⟨List.mem_finRange c, by simpa using h⟩⟩
  exact Nat.le_antisymm (nodup_le hn fun c hc => (hm2 c).mpr ((hm c).mp hc)) (nodup_le hf fun c hc => (hm c).mpr ((hm2 c).mp hc))
def QT (s : List Chr) : Option (List (List Chr × List Chr)) := (QP s).bind fun q => if (decide (q.length ≤ 6) && decide (nLet q ≤ 6)) = true then some q else none
theorem told_inner {v : List (List Chr)} : ∀ {xs : List (List Chr)} {kn : List (List Chr × Bool)}, (∀ x ∈ xs, x.length ≤ 90000) → kn.length + xs.length ≤ 50000 → (kn.map (·.1)).Nodup →
    (xs.all (okL (v.drop 1)) = false → forC (T__law_told_b1 v) xs kn = some (.rt none)) ∧
    (xs.all (okL (v.drop 1)) = true → ∃ kn', forC (T__law_told_b1 v) xs kn = some (.nx kn') ∧ (kn'.map (·.1)).Nodup ∧ (∀ z, z ∈ kn'.map (·.1) ↔ z ∈ kn.map (·.1) ∨ z ∈ xs) ∧ kn'.length ≤ kn.length + xs.length)
  | [], kn, _, _, hn => ⟨fun h => (by cases h), fun _ => ⟨kn, rfl, hn, fun z => by simp, Nat.le_refl _⟩⟩
  | x :: xs, kn, hx, hl, hn => by
    rw [List.length_cons] at hl
    have e : T__law_told_b1 v x kn = if okL (v.drop 1) x then some (.nx (putKV kn x true)) else some (.rt none) := by
      unfold T__law_told_b1
      rw [cut1, ok_bind (by have := hx x List.mem_cons_self; omega)]
      cases okL (v.drop 1) x with
      | false => rfl
      | true =>
        rw [if_pos rfl]
        show (putG kn x true).bind _ = _
        rw [putN (by omega), bindS]
    have h1 := putKV_len (l := kn) (k := x) (v := true)
    obtain ⟨i1, i2⟩ := told_inner (v := v) (xs := xs) (kn := putKV kn x true) (fun y hy => hx y (List.mem_cons_of_mem _ hy)) (by omega) (putKV_nodup hn)
    unfold forC
    rw [e, List.all_cons]
    cases ho : okL (v.drop 1) x with
    | false => exact ⟨fun _ => rfl, fun h => by cases h⟩
    | true =>
      rw [if_pos rfl, bindS, Bool.true_and]
      refine ⟨i1, fun h => ?_⟩
      obtain ⟨kn', a, b, c, d⟩ := i2 h
      refine ⟨kn', a, b, fun z => ?_, by rw [List.length_cons]; omega⟩
      rw [c, putKV_keys, List.mem_cons]
      split
      · rename_i hk
        exact ⟨fun q => q.elim .inl fun q => .inr (.inr q), fun q => q.elim .inl fun q => q.elim (fun q => .inl (by rw [q]; exact hk)) .inr⟩
      · rw [List.mem_append, List.mem_singleton, or_assoc]
theorem ones_mem {ls : List (List Chr)} (h : ∀ x ∈ ls, x.length = 1) {z : List Chr} : z ∈ ls ↔ ∃ c ∈ ls.flatten, z = [c] := by
  constructor
  · intro hz
    obtain ⟨c, rfl⟩ := List.length_eq_one_iff.mp (h z hz)
    exact ⟨c, List.mem_flatten.mpr ⟨_, hz, List.mem_singleton_self _⟩, rfl⟩
  · rintro ⟨c, hc, rfl⟩
    obtain ⟨y, hy, hcy⟩ := List.mem_flatten.mp hc
    obtain ⟨d, rfl⟩ := List.length_eq_one_iff.mp (h y hy)
    rw [List.mem_singleton.mp hcy]
    exact hy
theorem told_step {p : List Chr} {fo : List (List Chr × List Chr)} {kn : List (List Chr × Bool)} (hp : p.length ≤ 2000) (hl : kn.length ≤ 40000) (hf : fo.length ≤ 40000) (hn : (kn.map (·.1)).Nodup) :
    (RP p = none → T__law_told_b2 p (fo, kn) = some (.rt none)) ∧
    (∀ d, RP p = some d → ∃ kn', T__law_told_b2 p (fo, kn) = some (.nx (fo ++ [d], kn')) ∧ (kn'.map (·.1)).Nodup ∧ (∀ z, z ∈ kn'.map (·.1) ↔ z ∈ kn.map (·.1) ∨ ∃ c ∈ d.2, z = [c]) ∧ kn'.length ≤ kn.length + 4) := by
  have htest : (((decide (cutF (splitT p Tcs_5) (some (1 : Int)) none = ([] : List (List Chr)))) || (decide ((4 : Int) < (((cutF (splitT p Tcs_5) (some (1 : Int)) none).length : Nat) : Int))))) = !(decide (1 ≤ ((splitT p Tcs_5).drop 1).length) && decide (((splitT p Tcs_5).drop 1).length ≤ 4)) := by
    rw [cut1, Bool.not_and, ← decide_not, ← decide_not]
    congr 1
    · refine decide_eq_decide.mpr ⟨fun h => by rw [h]; decide, fun h => List.eq_nil_of_length_eq_zero (by omega)⟩
    · exact decide_eq_decide.mpr (by omega)
  unfold T__law_told_b2
  rw [splitN cs5_ne (by omega), bindS, head_at, bindS, lawname_ok (by have := @head_len p; omega), bindS, htest, cut1]
  simp only
  unfold RP
  cases hnm : isN ((splitT p Tcs_5).headD []) with
  | false => exact ⟨fun _ => rfl, fun d h => by cases h⟩
  | true =>
    cases hc : (decide (1 ≤ ((splitT p Tcs_5).drop 1).length) && decide (((splitT p Tcs_5).drop 1).length ≤ 4)) with
    | false => exact ⟨fun _ => rfl, fun d h => by cases h⟩
    | true =>
      simp only [Bool.true_and, Bool.not_true, Bool.or_self, Bool.false_eq_true, if_false]
      have h4 : ((splitT p Tcs_5).drop 1).length ≤ 4 := by
        simp only [Bool.and_eq_true, decide_eq_true_eq] at hc
        exact hc.2
      obtain ⟨i1, i2⟩ := told_inner (v := splitT p Tcs_5) (xs := (splitT p Tcs_5).drop 1) (kn := kn) (fun x hx => by have := rest_len hx; omega) (by omega) hn
      cases ha : ((splitT p Tcs_5).drop 1).all (okL ((splitT p Tcs_5).drop 1)) with
      | false =>
        rw [i1 ha]
        exact ⟨fun _ => rfl, fun d h => by cases h⟩
      | true =>
        obtain ⟨kn', a, b, c, d⟩ := i2 ha
        refine ⟨fun h => (by cases h), fun e he => ?_⟩
        cases he
        refine ⟨kn', ?_, b, fun z => by rw [c, ones_mem (all_one ha)], by omega⟩
        rw [a, bindS]
        simp only [behind]
        rw [bindS, sgs_flat (all_one ha), bindS, appN (by omega), bindS]
theorem told_loop : ∀ {ps : List (List Chr)} {fo : List (List Chr × List Chr)} {kn : List (List Chr × Bool)}, (∀ p ∈ ps, p.length ≤ 2000) → kn.length + 4 * ps.length ≤ 30000 → fo.length + ps.length ≤ 30000 → (kn.map (·.1)).Nodup →
    (mapO RP ps = none → forC T__law_told_b2 ps (fo, kn) = some (.rt none)) ∧
    (∀ q, mapO RP ps = some q → ∃ kn', forC T__law_told_b2 ps (fo, kn) = some (.nx (fo ++ q, kn')) ∧ (kn'.map (·.1)).Nodup ∧ (∀ z, z ∈ kn'.map (·.1) ↔ z ∈ kn.map (·.1) ∨ ∃ d ∈ q, ∃ c ∈ d.2, z = [c]))
  | [], fo, kn, _, _, _, hn => ⟨fun h => (by cases h), fun q h => by cases h; exact ⟨kn, by rw [List.append_nil]; rfl, hn, fun z => by simp⟩⟩
  | p :: ps, fo, kn, hp, hl, hf, hn => by
    rw [List.length_cons] at hl hf
    obtain ⟨s1, s2⟩ := told_step (p := p) (fo := fo) (kn := kn) (hp p List.mem_cons_self) (by omega) (by omega) hn
    unfold forC mapO
    cases hr : RP p with
    | none =>
      rw [s1 hr]
      exact ⟨fun _ => rfl, fun q h => by cases h⟩
    | some d =>
      obtain ⟨kn1, a, b, c, e⟩ := s2 d hr
      rw [a]
      simp only [bindS]
      obtain ⟨i1, i2⟩ := told_loop (ps := ps) (fo := fo ++ [d]) (kn := kn1) (fun y hy => hp y (List.mem_cons_of_mem _ hy)) (by omega) (by rw [List.length_append, List.length_singleton]; omega) b
      cases hm : mapO RP ps with
      | none => exact ⟨fun _ => i1 hm, fun q h => by cases h⟩
      | some qs =>
        refine ⟨fun h => (by cases h), fun q h => ?_⟩
        cases h
        obtain ⟨kn2, a2, b2, c2⟩ := i2 qs hm
        refine ⟨kn2, by rw [a2, List.append_assoc]; rfl, b2, fun z => ?_⟩
        rw [c2, c]
        constructor
        · rintro ((h | h) | ⟨d', hd, h⟩)
          · exact .inl h
          · exact .inr ⟨d, List.mem_cons_self, h⟩
          · exact .inr ⟨d', List.mem_cons_of_mem _ hd, h⟩
        · rintro (h | ⟨d', hd, h⟩)
          · exact .inl (.inl h)
          · rcases List.mem_cons.mp hd with rfl | hd
            · exact .inl (.inr h)
            · exact .inr ⟨d', hd, h⟩
theorem keys_count {q : List (List Chr × List Chr)} {ks : List (List Chr)} (hn : ks.Nodup) (hm : ∀ z, z ∈ ks ↔ ∃ d ∈ q, ∃ c ∈ d.2, z = [c]) : ks.length = nLet q := by
  have hf : ((List.finRange 128).filter fun c => decide (∃ d ∈ q, c ∈ d.2)).Nodup := (List.nodup_finRange 128).sublist List.filter_sublist
  have hm2 : ∀ c, c ∈ ((List.finRange 128).filter fun c => decide (∃ d ∈ q, c ∈ d.2)) ↔ ∃ d ∈ q, c ∈ d.2 := fun c => by
    rw [List.mem_filter]
    exact ⟨fun h => by simpa using h.2, fun h => ⟨List.mem_finRange c, by simpa using h⟩⟩
  have hg : (((List.finRange 128).filter fun c => decide (∃ d ∈ q, c ∈ d.2)).map fun c => [c]).Nodup := by
    rw [List.nodup_iff_pairwise_ne, List.pairwise_map]
    exact hf.imp fun {a b} h e => h (List.singleton_inj.mp e)
  unfold nLet
  rw [← List.length_map (f := fun c : Chr => [c])]
  refine Nat.le_antisymm (nodup_le hn fun z hz => ?_) (nodup_le hg fun z hz => ?_)
  · obtain ⟨d, hd, c, hc, rfl⟩ := (hm z).mp hz
    exact List.mem_map.mpr ⟨c, (hm2 c).mpr ⟨d, hd, hc⟩, rfl⟩
  · obtain ⟨c, hc, rfl⟩ := List.mem_map.mp hz
    obtain ⟨d, hd, hc⟩ := (hm2 c).mp hc
    exact (hm _).mpr ⟨d, hd, c, hc, rfl⟩
theorem isa_S (s : List Chr) : isaXG ["str"] (eS s) = some true := rfl
theorem told_ok {s : List Chr} (h : s.length ≤ 2000) : T__law_told (eS s) = some (QT s) := by
  unfold T__law_told QT
  rw [isa_S, bindS, if_neg (by decide), txt_eS, bindS, splitN cs4_ne (by omega), bindS]
  have hl := splitT_len s Tcs_4
  obtain ⟨i1, i2⟩ := told_loop (ps := splitT s Tcs_4) (fo := []) (kn := []) (fun p hp => by have := (splitT_part hp).1; omega) (by simp; omega) (by simp; omega) List.nodup_nil
  unfold QP
  cases hm : mapO RP (splitT s Tcs_4) with
  | none => rw [i1 hm]; rfl
  | some q =>
    obtain ⟨kn, a, b, c⟩ := i2 q hm
    rw [a, bindS, bindS]
    show (if _ then _ else _) = _
    have hk := keys_count (q := q) b fun z => by rw [c]; simp
    rw [List.length_map] at hk
    rw [List.nil_append]
    simp only [hk]
    by_cases h1 : q.length ≤ 6
    · by_cases h2 : nLet q ≤ 6
      · rw [if_neg (by simp; omega), if_pos (by simp; omega)]
      · rw [if_pos (by simp; omega), if_neg (by simp; omega)]
    · rw [if_pos (by simp; omega), if_neg (by simp; omega)]
theorem told_no {x : FV} (h : isaXG ["str"] x = some false) : T__law_told x = some none := by
  unfold T__law_told
  rw [h, bindS]
  rfl
theorem letters_of_ok {ds : List (List Chr)} (h6 : ds.length ≤ 6) (hd : ∀ d ∈ ds, d.length ≤ 4) : ∃ ks, T_letters_of ds = some ks ∧ ks.Pairwise (· < ·) ∧ (∀ x, x ∈ ks ↔ ∃ d ∈ ds, x ∈ d) := by
  have hs := sum_len h6 hd
  obtain ⟨l, a1, a2, a3, a4⟩ := keys_loop (f1 := T_letters_of_b1) (f2 := T_letters_of_b2) (fun x l hl => by unfold T_letters_of_b1; rw [putN (by omega)]; rfl) (fun d l => by unfold T_letters_of_b2; cases forT T_letters_of_b1 d l <;> rfl) (ds := ds) (l := []) (by simp; omega) List.nodup_nil
  obtain ⟨ks, b1, b2, b3⟩ := letters_srt a3 (by simp at a4; omega)
  refine ⟨ks, ?_, b2, fun x => by rw [b3, a2]; simp⟩
  unfold T_letters_of
  rw [a1, bindS, b1]
  rfl
theorem count_test {α : Type} {q : List (List Chr × List Chr)} {k : Bool → Option α} (hd : ∀ d ∈ q, d.2.length ≤ 4) : (if (decide ((6 : Int) < ((q.length : Nat) : Int))) then some true else (T_shape_of q).bind fun v7 => (T_letters_of v7).bind fun v8 => some (decide ((6 : Int) < ((v8.length : Nat) : Int)))).bind k = k (!(decide (q.length ≤ 6) && decide (nLet q ≤ 6))) := by
  by_cases h1 : q.length ≤ 6
  · rw [if_neg (by simp; omega), decide_eq_true h1, Bool.true_and]
    have e : T_shape_of q = some (q.map (·.2)) := by
      unfold T_shape_of
      rw [lcG_map (h := fun x : List Chr × List Chr => x.2) (fun x _ => ⟨rfl, rfl⟩) (by omega), bindS]
    obtain ⟨ks, a, b, c⟩ := letters_of_ok (ds := q.map (·.2)) (by rw [List.length_map]; exact h1) (fun d hd' => by
      obtain ⟨x, hx, rfl⟩ := List.mem_map.mp hd'
      exact hd x hx)
    have hk := nLet_of (q := q) (ks := ks) (b.imp fun {x y} h e => by subst e; exact absurd h (by simp)) fun c' => by
      rw [c]
      constructor
      · rintro ⟨d, hd', h⟩
        obtain ⟨x, hx, rfl⟩ := List.mem_map.mp hd'
        exact ⟨x, hx, h⟩
      · rintro ⟨d, hd', h⟩
        exact ⟨_, List.mem_map.mpr ⟨d, hd', rfl⟩, h⟩
    rw [e, bindS, a, bindS, bindS, hk]
    congr 1
    rw [← decide_not]
    exact decide_eq_decide.mpr (by omega)
  · rw [if_pos (by simp; omega), decide_eq_false h1, Bool.false_and, bindS]
    rfl
theorem parts_ok {s : List Chr} (h : s.length ≤ 2000) : ∀ x ∈ splitT s Tcs_4, x.length ≤ 90000 := fun x hx => by
  have := (splitT_part hx).1
  omega
theorem read_ok {s : List Chr} (h : s.length ≤ 2000) : T_read_question (eS s) = QT s ∧ T_read_question_x (eS s) = if (QT s).isNone then some NT else none := by
  have hl := splitT_len s Tcs_4
  have hp := parts_ok h
  have e1 : lcG (fun x1 : List Chr => some true) (fun x1 => (T_read_pattern x1).bind fun v4 => some v4) (splitT s Tcs_4) = QP s := lcG_mapO (fun x hx => by rw [pattern_ok (hp x hx)]; cases RP x <;> rfl) (by omega)
  have hq : ∀ q, QP s = some q → ∀ d ∈ q, d.2.length ≤ 4 := fun q hq d hd => by
    obtain ⟨x, _, hx⟩ := mapO_mem hq d hd
    exact RP_some hx
  constructor
  · unfold T_read_question QT
    rw [isa_S, bindS, if_neg (by decide), txt_eS, bindS, splitN cs4_ne (by omega), bindS, e1]
    cases hm : QP s with
    | none => rfl
    | some q =>
      rw [bindS, bindS, if_pos (bigL (by omega)), bindS, count_test (hq q hm)]
      cases (decide (q.length ≤ 6) && decide (nLet q ≤ 6)) <;> rfl
  · unfold T_read_question_x QT
    rw [isa_S, bindS, if_neg (by decide), txt_eS, bindS, splitN cs4_ne (by omega), bindS, if_pos (bigL (by omega)), bindS, bindS, splitN cs4_ne (by omega), bindS, e1]
    rw [lcR_mapO (f := RP) (c := NT) (fun x hx => by rw [pattern_ok (hp x hx)]; cases RP x <;> rfl) (fun x hx => patternx_ok (hp x hx))]
    show orX (if (QP s).isNone = true then _ else _) _ = _
    cases hm : QP s with
    | none => rfl
    | some q =>
      rw [bindS, if_pos (bigL (by omega)), bindS, count_test (hq q hm), bindS]
      show (if _ then _ else _) = _
      cases (decide (q.length ≤ 6) && decide (nLet q ≤ 6)) <;> rfl
theorem read_no {x : FV} (h : isaXG ["str"] x = some false) : T_read_question x = none ∧ T_read_question_x x = some NT := by
  unfold T_read_question T_read_question_x
  rw [h, bindS, bindS]
  exact ⟨rfl, rfl⟩
def Fine (x : FV) : Prop := (∃ s : List Chr, x = eS s ∧ s.length ≤ 2000) ∨ isaXG ["str"] x = some false
theorem right_gen {x : FV} {o : Option (List (List Chr × List Chr))} (h1 : T__law_told x = some o) (h2 : T_read_question x = o) (h3 : T_read_question_x x = if o.isNone then some NT else none) (hl : ∀ q, o = some q → q.length ≤ 6) : T__law_right x = some true := by
  unfold T__law_right
  rw [h1, bindS, h2, h3]
  cases o with
  | none => rfl
  | some q =>
    have hq := hl q rfl
    show (some (some q, none) : Option (Option (List (List Chr × List Chr)) × Option Str)).bind _ = _
    rw [bindS]
    simp only [Option.isNone_some, Bool.false_eq_true, if_false, Option.isSome_none, bindS, decide_true, Bool.not_true, Bool.or_self]
    rw [lcG_ok (p := fun _ => false) (h := fun x => x) (fun x _ => ⟨rfl, fun h => by cases h⟩) (by omega), bindS]
    simp
theorem right_ok {x : FV} (h : Fine x) : T__law_right x = some true := by
  rcases h with ⟨s, rfl, h⟩ | h
  · obtain ⟨a, b⟩ := read_ok h
    refine right_gen (told_ok h) a b fun q hq => ?_
    unfold QT at hq
    obtain ⟨q', _, hq⟩ := Option.bind_eq_some_iff.mp hq
    split at hq
    · rename_i hc
      cases hq
      simp only [Bool.and_eq_true, decide_eq_true_eq] at hc
      exact hc.1
    · cases hq
  · obtain ⟨a, b⟩ := read_no h
    exact right_gen (o := none) (told_no h) a b fun q hq => by cases hq
theorem step_ok {v : Int} (h : 0 ≤ v) : ∃ t : Nat, t ≤ 11 ∧ atI ([(1 : Int), (3 : Int), (5 : Int), (7 : Int), (9 : Int), (11 : Int)] : List Int) (v % (6 : Int)) = some ((t : Nat) : Int) := by
  have e : v % 6 = (((v % 6).toNat : Nat) : Int) := nat_of (by omega)
  have hl : (v % 6).toNat < 6 := by omega
  generalize (v % 6).toNat = n at e hl
  match n, hl with
  | 0, _ => exact ⟨1, by decide, atQ e rfl⟩
  | 1, _ => exact ⟨3, by decide, atQ e rfl⟩
  | 2, _ => exact ⟨5, by decide, atQ e rfl⟩
  | 3, _ => exact ⟨7, by decide, atQ e rfl⟩
  | 4, _ => exact ⟨9, by decide, atQ e rfl⟩
  | 5, _ => exact ⟨11, by decide, atQ e rfl⟩
theorem many_ok {v : Int} (h : 0 ≤ v) : ∃ t : Nat, 1 ≤ t ∧ t ≤ 6 ∧ atI ([(1 : Int), (1 : Int), (2 : Int), (3 : Int), (4 : Int), (6 : Int)] : List Int) (v % (6 : Int)) = some ((t : Nat) : Int) := by
  have e : v % 6 = (((v % 6).toNat : Nat) : Int) := nat_of (by omega)
  have hl : (v % 6).toNat < 6 := by omega
  generalize (v % 6).toNat = n at e hl
  match n, hl with
  | 0, _ => exact ⟨1, by decide, by decide, atQ e rfl⟩
  | 1, _ => exact ⟨1, by decide, by decide, atQ e rfl⟩
  | 2, _ => exact ⟨2, by decide, by decide, atQ e rfl⟩
  | 3, _ => exact ⟨3, by decide, by decide, atQ e rfl⟩
  | 4, _ => exact ⟨4, by decide, by decide, atQ e rfl⟩
  | 5, _ => exact ⟨6, by decide, by decide, atQ e rfl⟩
theorem size_ok {v : Int} (h : 0 ≤ v) : ∃ t : Nat, 1 ≤ t ∧ t ≤ 8 ∧ atI ([(1 : Int), (1 : Int), (2 : Int), (3 : Int), (4 : Int), (5 : Int), (6 : Int), (7 : Int), (8 : Int)] : List Int) (v % (9 : Int)) = some ((t : Nat) : Int) := by
  have e : v % 9 = (((v % 9).toNat : Nat) : Int) := nat_of (by omega)
  have hl : (v % 9).toNat < 9 := by omega
  generalize (v % 9).toNat = n at e hl
  match n, hl with
  | 0, _ => exact ⟨1, by decide, by decide, atQ e rfl⟩
  | 1, _ => exact ⟨1, by decide, by decide, atQ e rfl⟩
  | 2, _ => exact ⟨2, by decide, by decide, atQ e rfl⟩
  | 3, _ => exact ⟨3, by decide, by decide, atQ e rfl⟩
  | 4, _ => exact ⟨4, by decide, by decide, atQ e rfl⟩
  | 5, _ => exact ⟨5, by decide, by decide, atQ e rfl⟩
  | 6, _ => exact ⟨6, by decide, by decide, atQ e rfl⟩
  | 7, _ => exact ⟨7, by decide, by decide, atQ e rfl⟩
  | 8, _ => exact ⟨8, by decide, by decide, atQ e rfl⟩
theorem smal_len : Tcs_2.length = 26 := by decide
theorem letters_ok (c : Int) : ∃ cs, T__law_letters c = some cs ∧ cs.length = 6 := by
  obtain ⟨v1, e1, g1⟩ := mix_ok c 1 (by decide) (by decide)
  obtain ⟨v2, e2, g2⟩ := mix_ok c 2 (by decide) (by decide)
  obtain ⟨t, ht, et⟩ := step_ok g2
  unfold T__law_letters
  rw [e1, bindS, e2, bindS, et, bindS, show rangeG 6 = some _ from rangeN 6 rfl (by decide), bindS]
  rw [lcG_map (h := fun x => abcAt ((v1 % 26 + ((t : Nat) : Int) * x) % 26).toNat) (fun x _ => ⟨rfl, by
    rw [mulGl (by omega), bindS]
    have e := nat_of (z := (v1 % 26 + ((t : Nat) : Int) * x) % 26) (by omega)
    have hl : ((v1 % 26 + ((t : Nat) : Int) * x) % 26).toNat < 26 := by omega
    rw [atSN e (by rw [abc_len]; exact hl) (by decide), bindS, abc_some hl]⟩) (by simp), bindS]
  exact ⟨_, rfl, by simp⟩
theorem name_ok (c j : Int) (h0 : 0 ≤ j) (h1 : j ≤ 900) : ∃ w, T__law_name c j = some w ∧ w.length ≤ 8 := by
  obtain ⟨v1, e1, g1⟩ := mix_ok c j h0 (by omega)
  obtain ⟨t, t1, t8, et⟩ := size_ok g1
  unfold T__law_name
  rw [e1, bindS, et, bindS, rangeN t rfl (by omega), bindS]
  have hx : ∀ x ∈ (List.range t).map (fun i => ((i : Nat) : Int)), ∃ l : Chr, ((T__law_mix c ((j + 1) + x)).bind fun v4 => (atS' Tcs_2 (v4 % (26 : Int))).bind fun v5 => some v5) = some l := fun x hx => by
    obtain ⟨i, hi, rfl⟩ := List.mem_map.mp hx
    have hi := List.mem_range.mp hi
    obtain ⟨v4, e4, g4⟩ := mix_ok c ((j + 1) + ((i : Nat) : Int)) (by omega) (by omega)
    have e := nat_of (z := v4 % 26) (by omega)
    rw [e4, bindS, atSN e (by rw [smal_len]; omega) (by decide), bindS]
    exact ⟨_, rfl⟩
  have hk : ∀ x ∈ (List.range t).map (fun i => ((i : Nat) : Int)), ((fun _ => some true : Int → Option Bool) x) = some true ∧ ((T__law_mix c ((j + 1) + x)).bind fun v4 => (atS' Tcs_2 (v4 % (26 : Int))).bind fun v5 => some v5) = some ((((T__law_mix c ((j + 1) + x)).bind fun v4 => (atS' Tcs_2 (v4 % (26 : Int))).bind fun v5 => some v5)).getD 0) := fun x h => by
    obtain ⟨l, hl⟩ := hx x h
    exact ⟨rfl, by rw [hl]; rfl⟩
  rw [lcG_map hk (by simp; omega), bindS]
  refine ⟨_, by rw [show joinG _ = some _ from if_pos (bigL (by simp; omega)), bindS], by simp; exact t8⟩
theorem question_ok (c : Int) : ∃ q, T__law_question c = some q ∧ q.length ≤ 6 ∧ ∀ d ∈ q, d.1.length ≤ 8 ∧ d.2.length ≤ 4 := by
  obtain ⟨cs, e1, h1⟩ := letters_ok c
  obtain ⟨v2, e2, g2⟩ := mix_ok c 3 (by decide) (by decide)
  obtain ⟨m, m1, m6, em⟩ := many_ok g2
  obtain ⟨q, k1, k2, k3⟩ := forT_inv0 (f := T__law_question_b2 c cs) (xs := (List.range m).map fun i => ((i : Nat) : Int)) (s := []) (I := fun i q => q.length = i ∧ ∀ d ∈ q, d.1.length ≤ 8 ∧ d.2.length ≤ 4) ⟨rfl, fun _ h => nomatch h⟩ fun i y q hy ⟨d1, d2⟩ => by
    obtain ⟨hi, hy⟩ := List.getElem?_eq_some_iff.mp hy
    rw [List.length_map, List.length_range] at hi
    rw [List.getElem_map, List.getElem_range] at hy
    subst hy
    obtain ⟨v5, e5, g5⟩ := mix_ok c (4 + (i : Int)) (by omega) (by omega)
    obtain ⟨kn, ek, hk1, hk2⟩ : ∃ kn : Nat, 1 + v5 % 4 = (kn : Int) ∧ 1 ≤ kn ∧ kn ≤ 4 := ⟨(1 + v5 % 4).toNat, by omega, by omega, by omega⟩
    obtain ⟨⟨so, d⟩, q1, q2, q3⟩ := forT_inv0 (f := T__law_question_b1 c ((i : Nat) : Int)) (xs := (List.range kn).map fun i => ((i : Nat) : Int)) (s := (cs, [])) (I := fun j s => s.1.length + j = 6 ∧ s.2.length = j) ⟨h1, rfl⟩ fun j y s hy ⟨p1, p2⟩ => by
      obtain ⟨hj, hy⟩ := List.getElem?_eq_some_iff.mp hy
      rw [List.length_map, List.length_range] at hj
      rw [List.getElem_map, List.getElem_range] at hy
      subst hy
      obtain ⟨so, d⟩ := s
      simp only at p1 p2
      obtain ⟨v7, e7, g7⟩ := mix_ok c (11 + 4 * (i : Int) + (j : Int)) (by omega) (by omega)
      obtain ⟨n, en, hn⟩ : ∃ n : Nat, v7 % (so.length : Int) = (n : Int) ∧ n < so.length := by
        have a := Int.emod_nonneg v7 (show (so.length : Int) ≠ 0 by omega)
        have b := Int.emod_lt_of_pos v7 (show (0 : Int) < so.length by omega)
        exact ⟨(v7 % (so.length : Int)).toNat, by omega, by omega⟩
      unfold T__law_question_b1
      simp only
      rw [e7, bindS, modN (by omega), bindS, popN en hn (by omega) (by omega), bindS]
      refine ⟨_, rfl, ?_, ?_⟩
      · show (so.eraseIdx n).length + (j + 1) = 6
        rw [List.length_eraseIdx_of_lt hn]
        omega
      · show (d ++ [so[n]]).length = j + 1
        rw [List.length_append, List.length_singleton, p2]
    rw [List.length_map, List.length_range] at q3
    change d.length = kn at q3
    obtain ⟨w, ew, hw⟩ := name_ok c (40 + 10 * (i : Int)) (by omega) (by omega)
    unfold T__law_question_b2
    rw [e5, bindS, rangeN kn ek (by omega), bindS, q1, bindS, ew, bindS, appN (by omega), bindS]
    refine ⟨_, rfl, by simp; omega, fun x hx => ?_⟩
    rcases List.mem_append.mp hx with hx | hx
    · exact d2 x hx
    · rw [show x = (w, d) from List.mem_singleton.mp hx]
      exact ⟨hw, by show d.length ≤ 4; omega⟩
  rw [List.length_map, List.length_range] at k2
  unfold T__law_question
  rw [e1, bindS, e2, bindS, em, bindS, rangeN m rfl (by omega), bindS, k1, bindS]
  exact ⟨q, rfl, by omega, k3⟩
theorem joinT_len (sep : List Chr) : ∀ xs : List (List Chr), (joinT sep xs).length ≤ (xs.map List.length).sum + xs.length * sep.length
  | [] => Nat.zero_le _
  | x :: xs => by
    have key : ∀ xs : List (List Chr), ((xs.map fun y => sep ++ y).flatten).length = (xs.map List.length).sum + xs.length * sep.length := fun xs => by
      induction xs with
      | nil => simp
      | cons x xs ih =>
        rw [List.map_cons, List.flatten_cons, List.length_append, List.length_append, ih, List.map_cons, List.sum_cons, List.length_cons, Nat.add_mul]
        omega
    show (x ++ _).length ≤ _
    rw [List.length_append, key, List.map_cons, List.sum_cons, List.length_cons, Nat.add_mul]
    omega
def showP (d : List Chr × List Chr) : List Chr := joinT [(32 : Chr)] ([d.1] ++ d.2.map fun c => [c])
theorem one_sum (l : List Chr) : ((l.map fun c : Chr => [c]).map List.length).sum = l.length := by
  induction l with
  | nil => rfl
  | cons c l ih => rw [List.map_cons, List.map_cons, List.sum_cons, ih, List.length_cons]; show 1 + l.length = l.length + 1; omega
theorem showP_len {d : List Chr × List Chr} (h1 : d.1.length ≤ 8) (h2 : d.2.length ≤ 4) : (showP d).length ≤ 17 := by
  have := joinT_len [(32 : Chr)] ([d.1] ++ d.2.map fun c => [c])
  rw [List.map_append, List.sum_append, one_sum] at this
  simp at this
  unfold showP
  simp
  omega
theorem showP_ok {d : List Chr × List Chr} (h1 : d.1.length ≤ 8) (h2 : d.2.length ≤ 4) : ((catG ([d.1] : List (List Chr)) (List.map (fun c : Chr => [c]) d.2)).bind fun v1 => (joinSG [(32 : Chr)] v1).bind fun v2 => some v2) = some (showP d) := by
  rw [catN (by simp; omega), bindS]
  rw [show joinSG [(32 : Chr)] _ = some _ from if_pos ?_]
  · rfl
  · refine bigL ?_
    rw [List.map_append, List.sum_append, one_sum]
    simp
    omega
def showQ (q : List (List Chr × List Chr)) : List Chr := joinT Tcs_4 (q.map showP)
theorem sum_le {α : Type} {f : α → Nat} {n : Nat} : ∀ {xs : List α}, (∀ x ∈ xs, f x ≤ n) → (xs.map f).sum ≤ n * xs.length
  | [], _ => Nat.zero_le _
  | x :: xs, h => by
    have := sum_le (f := f) fun y hy => h y (List.mem_cons_of_mem _ hy)
    have h1 := h x List.mem_cons_self
    rw [List.map_cons, List.sum_cons, List.length_cons, Nat.mul_add]
    omega
theorem shows_len {q : List (List Chr × List Chr)} (h6 : q.length ≤ 6) (hd : ∀ d ∈ q, d.1.length ≤ 8 ∧ d.2.length ≤ 4) : ((q.map showP).map List.length).sum ≤ 102 := by
  rw [List.map_map]
  have := sum_le (f := List.length ∘ showP) (n := 17) (xs := q) fun d h => showP_len (hd d h).1 (hd d h).2
  omega
theorem showQ_len {q : List (List Chr × List Chr)} (h6 : q.length ≤ 6) (hd : ∀ d ∈ q, d.1.length ≤ 8 ∧ d.2.length ≤ 4) : (showQ q).length ≤ 200 := by
  have h1 := joinT_len Tcs_4 (q.map showP)
  have h2 := shows_len h6 hd
  rw [List.length_map, show Tcs_4.length = 2 from rfl] at h1
  unfold showQ
  omega
theorem shown_ok {q : List (List Chr × List Chr)} (h6 : q.length ≤ 6) (hd : ∀ d ∈ q, d.1.length ≤ 8 ∧ d.2.length ≤ 4) : T__law_shown q = some (showQ q) := by
  unfold T__law_shown
  rw [lcG_map (h := showP) (fun d h => ⟨rfl, showP_ok (hd d h).1 (hd d h).2⟩) (by omega), bindS]
  have h2 := shows_len h6 hd
  rw [show joinSG Tcs_4 _ = some _ from if_pos (bigL (by rw [List.length_map, show Tcs_4.length = 2 from rfl]; omega))]
  rfl
theorem show_ok {q : List (List Chr × List Chr)} (h6 : q.length ≤ 6) (hd : ∀ d ∈ q, d.1.length ≤ 8 ∧ d.2.length ≤ 4) : T_show_question q = some (showQ q) := by
  unfold T_show_question
  rw [lcG_map (h := showP) (fun d h => ⟨rfl, by
    unfold T_show_pattern
    rw [showP_ok (hd d h).1 (hd d h).2]
    rfl⟩) (by omega), bindS]
  have h2 := shows_len h6 hd
  rw [show joinSG Tcs_4 _ = some _ from if_pos (bigL (by rw [List.length_map, show Tcs_4.length = 2 from rfl]; omega))]
  rfl
theorem fine_S {s : List Chr} (h : s.length ≤ 2000) : Fine (eS s) := .inl ⟨s, rfl, h⟩
theorem odd_ok (c : Int) : ∃ x, T__law_odd c = some x ∧ Fine x := by
  obtain ⟨v3, e3, g3⟩ := mix_ok c 110 (by decide) (by decide)
  unfold T__law_odd
  rw [catN (by decide), bindS, catN (by decide), bindS, e3, bindS]
  have hl : (v3 % 27).toNat < 27 := by omega
  rw [atN (nat_of (by omega)) (by simpa using hl), bindS]
  refine ⟨_, rfl, ?_⟩
  refine (?_ : ∀ x ∈ _, Fine x) _ (List.getElem_mem _)
  simp only [List.cons_append, List.nil_append]
  refine List.forall_mem_cons.mpr ⟨fine_S (by decide), ?_⟩
  refine List.forall_mem_cons.mpr ⟨fine_S (s := [97]) (by decide), ?_⟩
  iterate 22 refine List.forall_mem_cons.mpr ⟨fine_S (by decide), ?_⟩
  refine List.forall_mem_cons.mpr ⟨.inr rfl, ?_⟩
  refine List.forall_mem_cons.mpr ⟨.inr rfl, ?_⟩
  refine List.forall_mem_cons.mpr ⟨.inr rfl, ?_⟩
  exact fun x h => nomatch h
theorem cutS_len {s : List Chr} {lo hi : Option Int} : (cutF s lo hi).length ≤ s.length := by
  unfold cutF
  rw [List.length_take, List.length_drop]
  omega
theorem cutN {s : List Chr} {lo hi : Option Int} (h : s.length ≤ 100000) : cutSG s lo hi = some (cutF s lo hi) := if_pos (bigL h)
theorem spoiled_ok {s : List Chr} (c : Int) (h : s.length ≤ 200) : ∃ x, T__law_spoiled s c = some x ∧ Fine x := by
  obtain ⟨v1, e1, g1⟩ := mix_ok c 111 (by decide) (by decide)
  obtain ⟨v2, e2, g2⟩ := mix_ok c 112 (by decide) (by decide)
  obtain ⟨v5, e5, g5⟩ := mix_ok c 113 (by decide) (by decide)
  unfold T__law_spoiled
  rw [e1, bindS, e2, bindS, lensN (by omega), bindS, modN (by omega), bindS, e5, bindS, lensN (by decide), bindS, modN (by decide), bindS]
  have hp : (0 : Int) < ((Tcs_28.length : Nat) : Int) := by decide
  have a := Int.emod_nonneg v5 (show ((Tcs_28.length : Nat) : Int) ≠ 0 by omega)
  have b := Int.emod_lt_of_pos v5 hp
  rw [atSN (nat_of a) (by omega) (by decide), bindS]
  have l1 : ∀ lo hi, (cutF s lo hi).length ≤ 200 := fun lo hi => Nat.le_trans cutS_len h
  split
  · rw [cutN (by omega), bindS, catN (by have := l1 none (some (v2 % (((s.length : Nat) : Int) + 1))); simp; omega), bindS, cutN (by omega), bindS]
    have k1 := l1 none (some (v2 % (((s.length : Nat) : Int) + 1)))
    have k2 := l1 (some (v2 % (((s.length : Nat) : Int) + 1))) none
    rw [catN (by rw [List.length_append, List.length_singleton]; omega), bindS]
    exact ⟨_, rfl, fine_S (by rw [List.length_append, List.length_append, List.length_singleton]; omega)⟩
  · split
    · have k1 := l1 none (some (v2 % (((s.length : Nat) : Int) + 1)))
      have k2 := l1 (some (v2 % (((s.length : Nat) : Int) + 1) + 1)) none
      rw [cutN (by omega), bindS, cutN (by omega), bindS, catN (by omega), bindS]
      exact ⟨_, rfl, fine_S (by rw [List.length_append]; omega)⟩
    · split
      · have k1 := l1 none (some (v2 % (((s.length : Nat) : Int) + 1)))
        have k2 := l1 (some (v2 % (((s.length : Nat) : Int) + 1) + 1)) none
        rw [cutN (by omega), bindS, catN (by rw [List.length_singleton]; omega), bindS, cutN (by omega), bindS, catN (by rw [List.length_append, List.length_singleton]; omega), bindS]
        exact ⟨_, rfl, fine_S (by rw [List.length_append, List.length_append, List.length_singleton]; omega)⟩
      · split
        · obtain ⟨x, ex, fx⟩ := odd_ok c
          rw [ex, bindS]
          exact ⟨x, rfl, fx⟩
        · exact ⟨_, rfl, fine_S (by omega)⟩
theorem turn_ok (c : Int) : T_law_b1 c () = some (.nx ()) := by
  obtain ⟨q, e1, h6, hd⟩ := question_ok c
  have hl := showQ_len h6 hd
  obtain ⟨x, ex, fx⟩ := spoiled_ok (s := showQ q) c hl
  unfold T_law_b1
  rw [e1, bindS, shown_ok h6 hd, bindS, show_ok h6 hd, bindS, bindS]
  rw [decide_eq_true rfl, decide_eq_true rfl]
  simp only [Bool.not_true, Bool.false_eq_true, if_false]
  rw [bindS, bindS]
  simp only [Bool.false_eq_true, if_false]
  rw [right_ok (fine_S (s := showQ q) (by omega)), bindS]
  simp only [Bool.not_true, Bool.false_eq_true, if_false]
  rw [ex, bindS, right_ok fx, bindS, bindS]
  rfl
theorem law_all : ∀ cells : List Int, T_law cells = some true := fun cells => by
  unfold T_law
  have : forC T_law_b1 cells () = some (.nx ()) := by
    induction cells with
    | nil => rfl
    | cons c cells ih =>
      unfold forC
      rw [turn_ok c, bindS]
      exact ih
  rw [this]
  rfl
theorem law_true (ns : List Int) (h : ns.length ≤ 63) : ∃ env, lawAns ns = .ok (.rt (.fz (.bl true)) env) := sm_law (law_all _)
end J
open PySem PySem.W PyProof.Rows in
set_option maxRecDepth 100000 in
set_option maxHeartbeats 0 in
theorem PySem.Challenge.cw_joinwood_k61_questions_as_texts_holds : PySem.Challenge.rw_joinwood_k61_questions_as_texts.Holds := by
  w_on; o_law; k_head; (case hw => w_witness2)
  k_fill
  refine J.walk (l := PySem.Challenge.rw_joinwood_k61_questions_as_texts) rfl rfl (fun w h Y => PySem.W.kIn_of Y) ?F
  case F =>
    intro w mg fa h KX G hmg
    refine' J.all_mk KX G hmg J.law_true ?a1 ?l1 ?c1 ?k1 ?a2 ?l2 ?c2 ?k2 ?a3 ?l3 ?c3 ?k3 ?a4 ?l4 ?c4 ?k4 ?a5 ?l5 ?c5 ?k5 ?a6 ?l6 ?c6 ?k6 ?a7 ?l7 ?c7 ?k7 ?a8 ?l8 ?c8 ?k8 ?a9 ?l9 ?c9 ?k9 ?a10 ?l10 ?c10 ?k10 ?a11 ?l11 ?c11 ?k11 ?a12 ?l12 ?c12 ?k12 ?a13 ?l13 ?c13 ?k13 ?a14 ?l14 ?c14 ?k14 ?a15 ?l15 ?c15 ?k15 ?a16 ?l16 ?c16 ?k16 ?a17 ?l17 ?c17 ?k17 ?a18 ?l18 ?c18 ?k18 ?xa_JoinError ?xk_JoinError ?xe_JoinError ?xb_JoinError ?xv_JoinError ?xs_JoinError ?xn_JoinError ?xt_JoinError ?xd_JoinError ?xg_JoinError ?xh_JoinError ?xc_JoinError ?xm_JoinError ?xa_NoTable ?xk_NoTable ?xe_NoTable ?xb_NoTable ?xv_NoTable ?xs_NoTable ?xn_NoTable ?xt_NoTable ?xd_NoTable ?xg_NoTable ?xh_NoTable ?xc_NoTable ?xm_NoTable ?xa_NoWidth ?xk_NoWidth ?xe_NoWidth ?xb_NoWidth ?xv_NoWidth ?xs_NoWidth ?xn_NoWidth ?xt_NoWidth ?xd_NoWidth ?xg_NoWidth ?xh_NoWidth ?xc_NoWidth ?xm_NoWidth ?xa_NoAnswer ?xk_NoAnswer ?xe_NoAnswer ?xb_NoAnswer ?xv_NoAnswer ?xs_NoAnswer ?xn_NoAnswer ?xt_NoAnswer ?xd_NoAnswer ?xg_NoAnswer ?xh_NoAnswer ?xc_NoAnswer ?xm_NoAnswer ?xa_NoText ?xk_NoText ?xe_NoText ?xb_NoText ?xv_NoText ?xs_NoText ?xn_NoText ?xt_NoText ?xd_NoText ?xg_NoText ?xh_NoText ?xc_NoText ?xm_NoText ?xa_NoRow ?xk_NoRow ?xe_NoRow ?xb_NoRow ?xv_NoRow ?xs_NoRow ?xn_NoRow ?xt_NoRow ?xd_NoRow ?xg_NoRow ?xh_NoRow ?xc_NoRow ?xm_NoRow ?xp_NoText_NoTable ?xp_NoText_NoWidth ?xp_NoText_NoAnswer ?xp_NoText_NoRow ?xp_NoText_NoText ?xp_NoText_JoinError ?xo1 ?xo2 ?z_isinstance ?z_str ?z_range ?z_list ?z_len ?z_tuple ?z_ValueError ?z_sorted ?g_SMALL ?g_GREAT ?g_PATTERNS ?g_WIDTH ?g_LETTERS
    (case a1 => k_is)
    (case l1 => k_is)
    (case c1 => k_is)
    (case k1 => k_is)
    (case a2 => k_is)
    (case l2 => k_is)
    (case c2 => k_is)
    (case k2 => k_is)
    (case a3 => k_is)
    (case l3 => k_is)
    (case c3 => k_is)
    (case k3 => k_is)
    (case a4 => k_is)
    (case l4 => k_is)
    (case c4 => k_is)
    (case k4 => k_is)
    (case a5 => k_is)
    (case l5 => k_is)
    (case c5 => k_is)
    (case k5 => k_is)
    (case a6 => k_is)
    (case l6 => k_is)
    (case c6 => k_is)
    (case k6 => k_is)
    (case a7 => k_is)
    (case l7 => k_is)
    (case c7 => k_is)
    (case k7 => k_is)
    (case a8 => k_is)
    (case l8 => k_is)
    (case c8 => k_is)
    (case k8 => k_is)
    (case a9 => k_is)
    (case l9 => k_is)
    (case c9 => k_is)
    (case k9 => k_is)
    (case a10 => k_is)
    (case l10 => k_is)
    (case c10 => k_is)
    (case k10 => k_is)
    (case a11 => k_is)
    (case l11 => k_is)
    (case c11 => k_is)
    (case k11 => k_is)
    (case a12 => k_is)
    (case l12 => k_is)
    (case c12 => k_is)
    (case k12 => k_is)
    (case a13 => k_is)
    (case l13 => k_is)
    (case c13 => k_is)
    (case k13 => k_is)
    (case a14 => k_is)
    (case l14 => k_is)
    (case c14 => k_is)
    (case k14 => k_is)
    (case a15 => k_is)
    (case l15 => k_is)
    (case c15 => k_is)
    (case k15 => k_is)
    (case a16 => k_is)
    (case l16 => k_is)
    (case c16 => k_is)
    (case k16 => k_is)
    (case a17 => k_is)
    (case l17 => k_is)
    (case c17 => k_is)
    (case k17 => k_is)
    (case a18 => k_is)
    (case l18 => k_is)
    (case c18 => k_is)
    (case k18 => k_is)
    (case xa_JoinError => k_is)
    (case xk_JoinError => k_is)
    (case xe_JoinError => k_exc)
    (case xb_JoinError => k_is)
    (case xv_JoinError => k_is)
    (case xs_JoinError => k_is)
    (case xn_JoinError => k_is)
    (case xt_JoinError => k_is)
    (case xd_JoinError => k_is)
    (case xg_JoinError => k_is)
    (case xh_JoinError => k_is)
    (case xc_JoinError => k_is)
    (case xm_JoinError => k_is)
    (case xa_NoTable => k_is)
    (case xk_NoTable => k_is)
    (case xe_NoTable => k_exc)
    (case xb_NoTable => k_is)
    (case xv_NoTable => k_is)
    (case xs_NoTable => k_is)
    (case xn_NoTable => k_is)
    (case xt_NoTable => k_is)
    (case xd_NoTable => k_is)
    (case xg_NoTable => k_is)
    (case xh_NoTable => k_is)
    (case xc_NoTable => k_is)
    (case xm_NoTable => k_is)
    (case xa_NoWidth => k_is)
    (case xk_NoWidth => k_is)
    (case xe_NoWidth => k_exc)
    (case xb_NoWidth => k_is)
    (case xv_NoWidth => k_is)
    (case xs_NoWidth => k_is)
    (case xn_NoWidth => k_is)
    (case xt_NoWidth => k_is)
    (case xd_NoWidth => k_is)
    (case xg_NoWidth => k_is)
    (case xh_NoWidth => k_is)
    (case xc_NoWidth => k_is)
    (case xm_NoWidth => k_is)
    (case xa_NoAnswer => k_is)
    (case xk_NoAnswer => k_is)
    (case xe_NoAnswer => k_exc)
    (case xb_NoAnswer => k_is)
    (case xv_NoAnswer => k_is)
    (case xs_NoAnswer => k_is)
    (case xn_NoAnswer => k_is)
    (case xt_NoAnswer => k_is)
    (case xd_NoAnswer => k_is)
    (case xg_NoAnswer => k_is)
    (case xh_NoAnswer => k_is)
    (case xc_NoAnswer => k_is)
    (case xm_NoAnswer => k_is)
    (case xa_NoText => k_is)
    (case xk_NoText => k_is)
    (case xe_NoText => k_exc)
    (case xb_NoText => k_is)
    (case xv_NoText => k_is)
    (case xs_NoText => k_is)
    (case xn_NoText => k_is)
    (case xt_NoText => k_is)
    (case xd_NoText => k_is)
    (case xg_NoText => k_is)
    (case xh_NoText => k_is)
    (case xc_NoText => k_is)
    (case xm_NoText => k_is)
    (case xa_NoRow => k_is)
    (case xk_NoRow => k_is)
    (case xe_NoRow => k_exc)
    (case xb_NoRow => k_is)
    (case xv_NoRow => k_is)
    (case xs_NoRow => k_is)
    (case xn_NoRow => k_is)
    (case xt_NoRow => k_is)
    (case xd_NoRow => k_is)
    (case xg_NoRow => k_is)
    (case xh_NoRow => k_is)
    (case xc_NoRow => k_is)
    (case xm_NoRow => k_is)
    (case xp_NoText_NoTable => k_is)
    (case xp_NoText_NoWidth => k_is)
    (case xp_NoText_NoAnswer => k_is)
    (case xp_NoText_NoRow => k_is)
    (case xp_NoText_NoText => k_is)
    (case xp_NoText_JoinError => k_is)
    (case xo1 => k_is)
    (case xo2 => k_is)
    (case z_isinstance => k_is)
    (case z_str => k_is)
    (case z_range => k_is)
    (case z_list => k_is)
    (case z_len => k_is)
    (case z_tuple => k_is)
    (case z_ValueError => k_is)
    (case z_sorted => k_is)
    (case g_SMALL => k_is)
    (case g_GREAT => k_is)
    (case g_PATTERNS => k_is)
    (case g_WIDTH => k_is)
    (case g_LETTERS => k_is)
