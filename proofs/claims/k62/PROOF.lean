import PyProof.Rows.All
import Wide.All
import OpenK.AllK
import Wide.FinOn
import HandS.ForMost
import HandS.ForExc
import HandS.Deep
import HandS.TupAny
import HandS.SortInts
import HandS.SortOrd
import HandS.Wide
import KE.KeyNested
import HandS.Style
import HandS.IsInst
import KE.SortData
import HandS.Flt
import PyProof.ListStr
import PyProof.TupleOfStr
import KE.KIndexOf
import HandS.Zip
import KE.GoesMore
import HandS.Rev
import HandS.ListItems
import HandS.More
import HandS.Text
import HandS.SetFor
import HandS.Strs
import HandS.TupSets
import HandS.SetKeys
import HandS.Dict
import PyProof.Rows.TupTab
import KE.KDictZip
import PyProof.DictUpdate
import HandS.Iter
import HandS.ExcIs
import HandS.DeepEq
import HandS.TryOnly
import HandS.TupMul
import PyProof.Rows.CountFlat
import PyProof.StrOps2
import PySem.Challenge.RW_joinwood_k62_rows_as_texts
set_option Elab.async false
set_option linter.all false
set_option maxRecDepth 100000
namespace J
open PySem PySem.Spec PyProof.Rows L2
abbrev Sl := List (Option V)
abbrev NK := Int × List Int
def nkey (k : NK) : NestedKey := .tup [.num k.1, .tup (k.2.map .num)]
def TabN (a : Addr) (kb : List (NK × Addr)) : HO := .ext fun h => (a == sysModules) = false ∧ (kb.map (·.1)).Nodup ∧ ∀ w : World, ∃ o es ep, h.get? a = some o ∧ o.ExactDict ∧ o.data = .dict es ep ∧ es.toList = kb.map fun p => ⟨(nkey p.1).hash w, .ref p.2, .bool true⟩
def KeyTs (F : Hp) (kb : List (NK × Addr)) : Prop := ∀ p ∈ kb, ∃ c, F p.2 = some (.tup [.int p.1.1, .ref c]) ∧ F c = some (.tup (p.1.2.map V.int))
inductive FV where
  | non
  | bl (b : Bool)
  | int (i : Int)
  | str (x : Str)
  | tup (xs : List FV)
  | tuz (xs : List FV)
  | lst (xs : List FV)
  | dK (kvs : List (Key × FV))
  | dT (kvs : List (List Key × FV))
  | ins (c : Str) (fs : List (Str × FV))
  | exc (c : Str)
  | scr (xs : List Int)
  | dN (ks : List NK)
inductive OV where
  | fz (x : FV)
  | ol (xs : List FV)
  | oK (kvs : List (Key × FV))
  | oT (kvs : List (List Key × FV))
  | dl (xs : List OV)
  | dd (kvs : List (Key × OV))
  | tp (xs : List OV)
  | ob (c : Str) (t : Option Addr) (fs : List (Str × OV))
  | oN (ks : List NK)
section
variable (M : Str → Option Value) (F : Hp)
mutual
def FDen : FV → V → Prop
  | .non, v => v = .non
  | .bl b, v => v = .bl b
  | .int i, v => v = .int i
  | .str x, v => v = .str x
  | .tup xs, v => ∃ a vs, v = .ref a ∧ F a = some (.tup vs) ∧ FDenL xs vs
  | .tuz xs, v => ∃ a vs o, v = .ref a ∧ F a = some (.frz o (.tup vs)) ∧ o.cls = .type "tuple" ∧ o.dict = none ∧ FDenL xs vs
  | .lst xs, v => ∃ a vs, v = .ref a ∧ F a = some (.lst vs) ∧ FDenL xs vs
  | .dK kvs, v => ∃ a ws, v = .ref a ∧ F a = some (.dK ws) ∧ FDenK kvs ws
  | .dT kvs, v => ∃ a ws, v = .ref a ∧ F a = some (.dT ws) ∧ FDenT kvs ws
  | .ins c fs, v => ∃ a C dx ws, v = .ref a ∧ M c = some (.ref C) ∧ F a = some (.ins C dx ws) ∧ F dx = some (.own a) ∧ FDenA fs ws
  | .exc c, v => ∃ a C, v = .ref a ∧ M c = some (.ref C) ∧ F a = some (.ext fun h => ∃ oe vs, h.get? a = some oe ∧ Zc (.ref C) none oe ∧ oe.data = .fields vs)
  | .scr xs, v => ∃ a, v = .ref a ∧ Rd F a (.lst (xs.map V.int))
  | .dN ks, v => ∃ a kb, v = .ref a ∧ F a = some (TabN a kb) ∧ kb.map (·.1) = ks ∧ KeyTs F kb
def FDenL : List FV → List V → Prop
  | [], vs => vs = []
  | x :: xs, vs => ∃ v ws, vs = v :: ws ∧ FDen x v ∧ FDenL xs ws
def FDenK : List (Key × FV) → List (Key × V) → Prop
  | [], ws => ws = []
  | (k, x) :: r, ws => ∃ v rs, ws = (k, v) :: rs ∧ FDen x v ∧ FDenK r rs
def FDenT : List (List Key × FV) → List (List Key × V) → Prop
  | [], ws => ws = []
  | (k, x) :: r, ws => ∃ v rs, ws = (k, v) :: rs ∧ FDen x v ∧ FDenT r rs
def FDenA : List (Str × FV) → List (Str × V) → Prop
  | [], ws => ws = []
  | (k, x) :: r, ws => ∃ v rs, ws = (k, v) :: rs ∧ FDen x v ∧ FDenA r rs
end
abbrev Cells := List (Addr × HO)
mutual
def Own : OV → V → Cells → Prop
  | .fz x, v, L => FDen M F x v ∧ L = []
  | .ol xs, v, L => ∃ a vs, v = .ref a ∧ FDenL M F xs vs ∧ L = [(a, .lst vs)]
  | .oK kvs, v, L => ∃ a ws, v = .ref a ∧ FDenK M F kvs ws ∧ L = [(a, .dK ws)]
  | .oT kvs, v, L => ∃ a ws, v = .ref a ∧ FDenT M F kvs ws ∧ L = [(a, .dT ws)]
  | .dl xs, v, L => ∃ a vs L', v = .ref a ∧ OwnL xs vs L' ∧ L = (a, .lst vs) :: L'
  | .dd kvs, v, L => ∃ a ws L', v = .ref a ∧ OwnK kvs ws L' ∧ L = (a, .dK ws) :: L'
  | .tp xs, v, L => ∃ a vs, v = .ref a ∧ F a = some (.tup vs) ∧ OwnL xs vs L
  | .ob c t fs, v, L => ∃ a C dx ws L', v = .ref a ∧ (M c = some (.ref C) ∧ ∀ x, t = some x → a = x) ∧ F dx = some (.own a) ∧ OwnA fs ws L' ∧ L = (a, .ins C dx ws) :: L'
  | .oN ks, v, L => ∃ a kb, v = .ref a ∧ kb.map (·.1) = ks ∧ KeyTs F kb ∧ L = [(a, TabN a kb)]
def OwnL : List OV → List V → Cells → Prop
  | [], vs, L => vs = [] ∧ L = []
  | x :: xs, vs, L => ∃ v ws A B, vs = v :: ws ∧ Own x v A ∧ OwnL xs ws B ∧ L = A ++ B
def OwnK : List (Key × OV) → List (Key × V) → Cells → Prop
  | [], ws, L => ws = [] ∧ L = []
  | (k, x) :: r, ws, L => ∃ v rs A B, ws = (k, v) :: rs ∧ Own x v A ∧ OwnK r rs B ∧ L = A ++ B
def OwnA : List (Str × OV) → List (Str × V) → Cells → Prop
  | [], ws, L => ws = [] ∧ L = []
  | (k, x) :: r, ws, L => ∃ v rs A B, ws = (k, v) :: rs ∧ Own x v A ∧ OwnA r rs B ∧ L = A ++ B
end
end
section
variable {M : Str → Option Value} {F F' : Hp}
theorem KeyTs.mono (h : Same F F') {kb : List (NK × Addr)} (k : KeyTs F kb) : KeyTs F' kb := fun p hp => let ⟨c, a, b⟩ := k p hp; ⟨c, h _ _ a, h _ _ b⟩
mutual
theorem FDen.mono (h : Same F F') : ∀ {x : FV} {v : V}, FDen M F x v → FDen M F' x v
  | .non, _, d => d
  | .bl _, _, d => d
  | .int _, _, d => d
  | .str _, _, d => d
  | .tup xs, _, ⟨a, vs, e, q, r⟩ => ⟨a, vs, e, h _ _ q, FDenL.mono h r⟩
  | .tuz xs, _, ⟨a, vs, o, e, q, q1, q2, r⟩ => ⟨a, vs, o, e, h _ _ q, q1, q2, FDenL.mono h r⟩
  | .lst xs, _, ⟨a, vs, e, q, r⟩ => ⟨a, vs, e, h _ _ q, FDenL.mono h r⟩
  | .dK kvs, _, ⟨a, vs, e, q, r⟩ => ⟨a, vs, e, h _ _ q, FDenK.mono h r⟩
  | .dT kvs, _, ⟨a, vs, e, q, r⟩ => ⟨a, vs, e, h _ _ q, FDenT.mono h r⟩
  | .ins c fs, _, ⟨a, C, dx, ws, e, m, q, q2, r⟩ => ⟨a, C, dx, ws, e, m, h _ _ q, h _ _ q2, FDenA.mono h r⟩
  | .exc c, _, ⟨a, C, e, m, q⟩ => ⟨a, C, e, m, h _ _ q⟩
  | .scr xs, _, ⟨a, e, q⟩ => ⟨a, e, q.elim (fun q => .inl (h _ _ q)) fun ⟨o, q⟩ => .inr ⟨o, h _ _ q⟩⟩
  | .dN ks, _, ⟨a, kb, e, q, n, k⟩ => ⟨a, kb, e, h _ _ q, n, k.mono h⟩
theorem FDenL.mono (h : Same F F') : ∀ {xs : List FV} {vs : List V}, FDenL M F xs vs → FDenL M F' xs vs
  | [], _, d => d
  | _ :: _, _, ⟨v, ws, e, d, r⟩ => ⟨v, ws, e, FDen.mono h d, FDenL.mono h r⟩
theorem FDenK.mono (h : Same F F') : ∀ {xs : List (Key × FV)} {vs : List (Key × V)}, FDenK M F xs vs → FDenK M F' xs vs
  | [], _, d => d
  | (_, _) :: _, _, ⟨v, ws, e, d, r⟩ => ⟨v, ws, e, FDen.mono h d, FDenK.mono h r⟩
theorem FDenT.mono (h : Same F F') : ∀ {xs : List (List Key × FV)} {vs : List (List Key × V)}, FDenT M F xs vs → FDenT M F' xs vs
  | [], _, d => d
  | (_, _) :: _, _, ⟨v, ws, e, d, r⟩ => ⟨v, ws, e, FDen.mono h d, FDenT.mono h r⟩
theorem FDenA.mono (h : Same F F') : ∀ {xs : List (Str × FV)} {vs : List (Str × V)}, FDenA M F xs vs → FDenA M F' xs vs
  | [], _, d => d
  | (_, _) :: _, _, ⟨v, ws, e, d, r⟩ => ⟨v, ws, e, FDen.mono h d, FDenA.mono h r⟩
end
mutual
theorem Own.mono (h : Same F F') : ∀ {x : OV} {v : V} {L : Cells}, Own M F x v L → Own M F' x v L
  | .fz _, _, _, ⟨d, e⟩ => ⟨d.mono h, e⟩
  | .ol _, _, _, ⟨a, vs, e, r, q⟩ => ⟨a, vs, e, r.mono h, q⟩
  | .oK _, _, _, ⟨a, vs, e, r, q⟩ => ⟨a, vs, e, r.mono h, q⟩
  | .oT _, _, _, ⟨a, vs, e, r, q⟩ => ⟨a, vs, e, r.mono h, q⟩
  | .dl _, _, _, ⟨a, vs, L', e, r, q⟩ => ⟨a, vs, L', e, OwnL.mono h r, q⟩
  | .dd _, _, _, ⟨a, vs, L', e, r, q⟩ => ⟨a, vs, L', e, OwnK.mono h r, q⟩
  | .tp _, _, _, ⟨a, vs, e, q, r⟩ => ⟨a, vs, e, h _ _ q, OwnL.mono h r⟩
  | .ob _ _ _, _, _, ⟨a, C, dx, ws, L', e, m, q, r, q2⟩ => ⟨a, C, dx, ws, L', e, m, h _ _ q, OwnA.mono h r, q2⟩
  | .oN ks, _, _, ⟨a, kb, e, n, k, q⟩ => ⟨a, kb, e, n, k.mono h, q⟩
theorem OwnL.mono (h : Same F F') : ∀ {xs : List OV} {vs : List V} {L : Cells}, OwnL M F xs vs L → OwnL M F' xs vs L
  | [], _, _, d => d
  | _ :: _, _, _, ⟨v, ws, A, B, e, d, r, q⟩ => ⟨v, ws, A, B, e, Own.mono h d, OwnL.mono h r, q⟩
theorem OwnK.mono (h : Same F F') : ∀ {xs : List (Key × OV)} {vs : List (Key × V)} {L : Cells}, OwnK M F xs vs L → OwnK M F' xs vs L
  | [], _, _, d => d
  | (_, _) :: _, _, _, ⟨v, ws, A, B, e, d, r, q⟩ => ⟨v, ws, A, B, e, Own.mono h d, OwnK.mono h r, q⟩
theorem OwnA.mono (h : Same F F') : ∀ {xs : List (Str × OV)} {vs : List (Str × V)} {L : Cells}, OwnA M F xs vs L → OwnA M F' xs vs L
  | [], _, _, d => d
  | (_, _) :: _, _, _, ⟨v, ws, A, B, e, d, r, q⟩ => ⟨v, ws, A, B, e, Own.mono h d, OwnA.mono h r, q⟩
end
end
mutual
def OV.fv : OV → FV
  | .fz x => x
  | .ol xs => .lst xs
  | .oK kvs => .dK kvs
  | .oT kvs => .dT kvs
  | .dl xs => .lst (OV.fvL xs)
  | .dd kvs => .dK (OV.fvK kvs)
  | .tp xs => .tup (OV.fvL xs)
  | .ob c _ fs => .ins c (OV.fvA fs)
  | .oN ks => .dN ks
def OV.fvL : List OV → List FV
  | [] => []
  | x :: xs => x.fv :: OV.fvL xs
def OV.fvK : List (Key × OV) → List (Key × FV)
  | [] => []
  | (k, x) :: xs => (k, x.fv) :: OV.fvK xs
def OV.fvA : List (Str × OV) → List (Str × FV)
  | [] => []
  | (k, x) :: xs => (k, x.fv) :: OV.fvA xs
end
section
variable {M : Str → Option Value} {F H : Hp}
mutual
theorem Own.fden (h : Same F H) : ∀ {x : OV} {v : V} {L : Cells}, Own M F x v L → (∀ p ∈ L, H p.1 = some p.2) → FDen M H x.fv v
  | .fz _, _, _, ⟨d, e⟩, _ => d.mono h
  | .ol _, _, _, ⟨a, vs, e, r, q⟩, c => ⟨a, vs, e, by subst q; exact c _ List.mem_cons_self, r.mono h⟩
  | .oK _, _, _, ⟨a, vs, e, r, q⟩, c => ⟨a, vs, e, by subst q; exact c _ List.mem_cons_self, r.mono h⟩
  | .oT _, _, _, ⟨a, vs, e, r, q⟩, c => ⟨a, vs, e, by subst q; exact c _ List.mem_cons_self, r.mono h⟩
  | .dl _, _, _, ⟨a, vs, L', e, r, q⟩, c => by
    subst q
    exact ⟨a, vs, e, c _ List.mem_cons_self, OwnL.fden h r fun p hp => c p (List.mem_cons_of_mem _ hp)⟩
  | .dd _, _, _, ⟨a, vs, L', e, r, q⟩, c => by
    subst q
    exact ⟨a, vs, e, c _ List.mem_cons_self, OwnK.fden h r fun p hp => c p (List.mem_cons_of_mem _ hp)⟩
  | .tp _, _, _, ⟨a, vs, e, q, r⟩, c => ⟨a, vs, e, h _ _ q, OwnL.fden h r c⟩
  | .ob _ _ _, _, _, ⟨a, C, dx, ws, L', e, m, q, r, q2⟩, c => by
    subst q2
    exact ⟨a, C, dx, ws, e, m.1, c _ List.mem_cons_self, h _ _ q, OwnA.fden h r fun p hp => c p (List.mem_cons_of_mem _ hp)⟩
  | .oN ks, _, _, ⟨a, kb, e, n, k, q⟩, c => ⟨a, kb, e, by subst q; exact c _ List.mem_cons_self, n, k.mono h⟩
theorem OwnL.fden (h : Same F H) : ∀ {xs : List OV} {vs : List V} {L : Cells}, OwnL M F xs vs L → (∀ p ∈ L, H p.1 = some p.2) → FDenL M H (OV.fvL xs) vs
  | [], _, _, d, _ => d.1
  | _ :: _, _, _, ⟨v, ws, A, B, e, d, r, q⟩, c => by
    subst q
    exact ⟨v, ws, e, Own.fden h d fun p hp => c p (List.mem_append_left _ hp), OwnL.fden h r fun p hp => c p (List.mem_append_right _ hp)⟩
theorem OwnK.fden (h : Same F H) : ∀ {xs : List (Key × OV)} {vs : List (Key × V)} {L : Cells}, OwnK M F xs vs L → (∀ p ∈ L, H p.1 = some p.2) → FDenK M H (OV.fvK xs) vs
  | [], _, _, d, _ => d.1
  | (_, _) :: _, _, _, ⟨v, ws, A, B, e, d, r, q⟩, c => by
    subst q
    exact ⟨v, ws, e, Own.fden h d fun p hp => c p (List.mem_append_left _ hp), OwnK.fden h r fun p hp => c p (List.mem_append_right _ hp)⟩
theorem OwnA.fden (h : Same F H) : ∀ {xs : List (Str × OV)} {vs : List (Str × V)} {L : Cells}, OwnA M F xs vs L → (∀ p ∈ L, H p.1 = some p.2) → FDenA M H (OV.fvA xs) vs
  | [], _, _, d, _ => d.1
  | (_, _) :: _, _, _, ⟨v, ws, A, B, e, d, r, q⟩, c => by
    subst q
    exact ⟨v, ws, e, Own.fden h d fun p hp => c p (List.mem_append_left _ hp), OwnA.fden h r fun p hp => c p (List.mem_append_right _ hp)⟩
end
end
inductive Rv where
  | st (o : OV)
  | bo (o : OV)
def Rv.ov : Rv → OV
  | .st o => o
  | .bo o => o
def Rv.fv (r : Rv) : FV := r.ov.fv
inductive Ans (α : Type) where
  | ok (a : α)
  | ex (c : Str)
  | no
def Ans.bind {α β : Type} (x : Ans α) (f : α → Ans β) : Ans β := match x with
  | .ok a => f a
  | .ex c => .ex c
  | .no => .no
def Ans.map {α β : Type} (f : α → β) (x : Ans α) : Ans β := match x with
  | .ok a => .ok (f a)
  | .ex c => .ex c
  | .no => .no
abbrev VEnv := List (Option OV)
abbrev DE := VEnv → Ans Rv
abbrev DT := VEnv → Ans Bool
inductive SO where
  | nx (e : VEnv)
  | rt (o : OV) (e : VEnv)
  | bk (e : VEnv)
  | ct (e : VEnv)
abbrev DS := VEnv → Ans SO
def updL (F : Hp) : Cells → Hp
  | [] => F
  | p :: L => upd (updL F L) p.1 p.2
theorem updL_out {F : Hp} {a : Addr} : ∀ {L : Cells}, (∀ p ∈ L, p.1 ≠ a) → updL F L a = F a
  | [], _ => rfl
  | p :: L, h => by
    unfold updL
    rw [upd_ne (fun e => h p List.mem_cons_self e.symm)]
    exact updL_out fun q hq => h q (List.mem_cons_of_mem _ hq)
theorem updL_in {F : Hp} : ∀ {L : Cells}, (L.map (·.1)).Nodup → ∀ p ∈ L, updL F L p.1 = some p.2
  | [], _, _, h => nomatch h
  | q :: L, nd, p, h => by
    rw [List.map_cons, List.nodup_cons] at nd
    unfold updL
    rcases List.mem_cons.mp h with rfl | h
    · exact upd_same
    · rw [upd_ne (fun e => nd.1 (by rw [← e]; exact List.mem_map.mpr ⟨p, h, rfl⟩))]
      exact updL_in nd.2 p h
theorem updL_cases {F : Hp} {a : Addr} {o : HO} : ∀ {L : Cells}, updL F L a = some o → F a = some o ∨ (a, o) ∈ L
  | [], h => .inl h
  | q :: L, h => by
    unfold updL at h
    by_cases e : a = q.1
    · rw [e, upd_same] at h
      cases h
      exact .inr (by rw [e]; exact List.mem_cons_self)
    · rw [upd_ne e] at h
      exact (updL_cases h).imp id (List.mem_cons_of_mem _)
structure Good (F Z H : Hp) (L : Cells) : Prop where
  nd : (L.map (·.1)).Nodup
  hp : ∀ p ∈ L, H p.1 = some p.2
  fr : ∀ p ∈ L, F p.1 = none
  zr : ∀ p ∈ L, Z p.1 = none
section
variable {F F' Z H H' : Hp} {L L' D : Cells}
theorem Good.nil : Good F Z H [] := ⟨List.nodup_nil, (fun _ h => nomatch h), (fun _ h => nomatch h), (fun _ h => nomatch h)⟩
theorem Good.perm (g : Good F Z H L) (p : L.Perm L') : Good F Z H L' :=
  ⟨(p.map _).nodup_iff.mp g.nd, fun q hq => g.hp q (p.mem_iff.mpr hq), fun q hq => g.fr q (p.mem_iff.mpr hq), fun q hq => g.zr q (p.mem_iff.mpr hq)⟩
theorem Good.left (g : Good F Z H (L ++ L')) : Good F Z H L := by
  have n := g.nd
  rw [List.map_append, List.nodup_append] at n
  exact ⟨n.1, fun q hq => g.hp q (List.mem_append_left _ hq), fun q hq => g.fr q (List.mem_append_left _ hq), fun q hq => g.zr q (List.mem_append_left _ hq)⟩
theorem Good.right (g : Good F Z H (L ++ L')) : Good F Z H L' := (g.perm List.perm_append_comm).left
theorem Good.apart (g : Good F Z H (L ++ L')) : ∀ p ∈ L, ∀ q ∈ L', p.1 ≠ q.1 := fun p hp q hq e => by
  have n := g.nd
  rw [List.map_append, List.nodup_append] at n
  exact n.2.2 p.1 (List.mem_map.mpr ⟨p, hp, rfl⟩) q.1 (List.mem_map.mpr ⟨q, hq, rfl⟩) e
theorem Good.same (g : Good F Z H L) (h : Same H H') : Good F Z H' L := ⟨g.nd, fun p hp => h _ _ (g.hp p hp), g.fr, g.zr⟩
theorem Good.mk' (g : Good F Z H L) (g' : Good F Z H L') (h : ∀ p ∈ L, ∀ q ∈ L', p.1 ≠ q.1) : Good F Z H (L ++ L') := by
  refine ⟨?_, fun p hp => (List.mem_append.mp hp).elim (g.hp p) (g'.hp p), fun p hp => (List.mem_append.mp hp).elim (g.fr p) (g'.fr p), fun p hp => (List.mem_append.mp hp).elim (g.zr p) (g'.zr p)⟩
  rw [List.map_append, List.nodup_append]
  refine ⟨g.nd, g'.nd, fun a ha b hb e => ?_⟩
  obtain ⟨p, hp, e1⟩ := List.mem_map.mp ha
  obtain ⟨q, hq, e2⟩ := List.mem_map.mp hb
  exact h p hp q hq (by rw [e1, e2, e])
end
section
variable (M : Str → Option Value) (F H : Hp)
inductive EnvOwn : Sl → VEnv → Cells → Prop
  | nil : EnvOwn [] [] []
  | skip {s : Option V} {σ : Sl} {env : VEnv} {L : Cells} : EnvOwn σ env L → EnvOwn (s :: σ) (none :: env) L
  | cons {v : V} {o : OV} {σ : Sl} {env : VEnv} {A B : Cells} : Own M F o v A → EnvOwn σ env B → EnvOwn (some v :: σ) (some o :: env) (A ++ B)
def Bor (o : OV) (v : V) : Prop := ∃ A, Own M F o v A ∧ ∀ p ∈ A, H p.1 = some p.2
inductive TmpOwn : List (V × Rv) → Cells → Prop
  | nil : TmpOwn [] []
  | st {v : V} {o : OV} {T : List (V × Rv)} {A B : Cells} : Own M F o v A → TmpOwn T B → TmpOwn ((v, .st o) :: T) (A ++ B)
  | bo {v : V} {o : OV} {T : List (V × Rv)} {B : Cells} : Bor M F H o v → TmpOwn T B → TmpOwn ((v, .bo o) :: T) B
end
section
variable {M : Str → Option Value} {F F' H H' : Hp} {σ : Sl} {env : VEnv} {L : Cells} {T : List (V × Rv)} {o : OV} {v : V}
theorem EnvOwn.mono (h : Same F F') (e : EnvOwn M F σ env L) : EnvOwn M F' σ env L := by
  induction e with
  | nil => exact .nil
  | skip _ ih => exact .skip ih
  | cons d _ ih => exact .cons (d.mono h) ih
theorem Bor.mono (h : Same F F') (h' : Same H H') (b : Bor M F H o v) : Bor M F' H' o v :=
  let ⟨A, d, c⟩ := b
  ⟨A, d.mono h, fun p hp => h' _ _ (c p hp)⟩
theorem Bor.fden (h : Same F H) (b : Bor M F H o v) : FDen M H o.fv v :=
  let ⟨_, d, c⟩ := b
  d.fden h c
theorem TmpOwn.mono (h : Same F F') (h' : Same H H') (e : TmpOwn M F H T L) : TmpOwn M F' H' T L := by
  induction e with
  | nil => exact .nil
  | st d _ ih => exact .st (d.mono h) ih
  | bo d _ ih => exact .bo (d.mono h h') ih
theorem EnvOwn.len (e : EnvOwn M F σ env L) : σ.length = env.length := by
  induction e with
  | nil => rfl
  | skip _ ih => simp [ih]
  | cons _ _ ih => simp [ih]
theorem EnvOwn.repl (e : EnvOwn M F σ env L) : ∀ {i : Nat}, env[i]? = some (some o) → ∃ v A Lr, σ[i]? = some (some v) ∧ Own M F o v A ∧ L.Perm (A ++ Lr) ∧
    (∀ o' v' A', Own M F o' v' A' → ∃ L', EnvOwn M F (σ.set i (some v')) (env.set i (some o')) L' ∧ L'.Perm (A' ++ Lr)) ∧ ∀ s, EnvOwn M F (σ.set i s) (env.set i none) Lr := by
  induction e with
  | nil => intro i h; simp at h
  | @skip s σ env L e ih =>
    intro i h
    cases i with
    | zero => simp at h
    | succ i =>
      obtain ⟨v, A, Lr, h1, h2, h3, h4, h5⟩ := ih (i := i) (by simpa using h)
      refine ⟨v, A, Lr, by simpa using h1, h2, h3, fun o' v' A' d => ?_, fun s => .skip (h5 s)⟩
      obtain ⟨L', q1, q2⟩ := h4 o' v' A' d
      exact ⟨L', .skip q1, q2⟩
  | @cons v o2 σ env A B d e ih =>
    intro i h
    cases i with
    | zero =>
      have h' : o2 = o := by simpa using h
      subst h'
      exact ⟨v, A, B, rfl, d, .refl _, fun o' v' A' d' => ⟨A' ++ B, .cons d' e, .refl _⟩, fun s => .skip e⟩
    | succ i =>
      obtain ⟨w, A2, Lr, h1, h2, h3, h4, h5⟩ := ih (i := i) (by simpa using h)
      refine ⟨w, A2, A ++ Lr, by simpa using h1, h2, ?_, fun o' v' A' d' => ?_, fun s => .cons d (h5 s)⟩
      · exact (List.Perm.append_left A h3).trans (by
          rw [← List.append_assoc, ← List.append_assoc]
          exact List.perm_append_comm.append_right _)
      · obtain ⟨L', q1, q2⟩ := h4 o' v' A' d'
        refine ⟨A ++ L', .cons d q1, (List.Perm.append_left A q2).trans ?_⟩
        rw [← List.append_assoc, ← List.append_assoc]
        exact List.perm_append_comm.append_right _
theorem EnvOwn.set (e : EnvOwn M F σ env L) : ∀ (i : Nat) {A : Cells}, Own M F o v A → ∃ L' D, EnvOwn M F (σ.set i (some v)) (env.set i (some o)) L' ∧ (A ++ L).Perm (L' ++ D) := by
  induction e with
  | nil => intro i A d; exact ⟨[], A, .nil, by simp⟩
  | @skip s σ env L e ih =>
    intro i A d
    cases i with
    | zero => exact ⟨A ++ L, [], .cons d e, by simp⟩
    | succ i =>
      obtain ⟨L', D, q1, q2⟩ := ih i d
      exact ⟨L', D, .skip q1, q2⟩
  | @cons v2 o2 σ env A2 B d2 e ih =>
    intro i A d
    cases i with
    | zero =>
      refine ⟨A ++ B, A2, .cons d e, ?_⟩
      rw [List.append_assoc]
      exact List.Perm.append_left A List.perm_append_comm
    | succ i =>
      obtain ⟨L', D, q1, q2⟩ := ih i d
      refine ⟨A2 ++ L', D, .cons d2 q1, ?_⟩
      rw [List.append_assoc]
      refine List.Perm.trans ?_ (List.Perm.append_left A2 q2)
      rw [← List.append_assoc, ← List.append_assoc]
      exact List.perm_append_comm.append_right _
theorem EnvOwn.unset (e : EnvOwn M F σ env L) (i : Nat) (s : Option V) : ∃ L' D, EnvOwn M F (σ.set i s) (env.set i none) L' ∧ L.Perm (L' ++ D) := by
  induction e generalizing i with
  | nil => exact ⟨[], [], .nil, by simp⟩
  | @skip s2 σ env L e ih =>
    cases i with
    | zero => exact ⟨L, [], .skip e, by simp⟩
    | succ i =>
      obtain ⟨L', D, q1, q2⟩ := ih i
      exact ⟨L', D, .skip q1, q2⟩
  | @cons v2 o2 σ env A2 B d2 e ih =>
    cases i with
    | zero => exact ⟨B, A2, .skip e, List.perm_append_comm⟩
    | succ i =>
      obtain ⟨L', D, q1, q2⟩ := ih i
      refine ⟨A2 ++ L', D, .cons d2 q1, ?_⟩
      rw [List.append_assoc]
      exact List.Perm.append_left A2 q2
theorem TmpOwn.sub {T' : List (V × Rv)} (e : TmpOwn M F H T L) (h : T'.Sublist T) : ∃ L' D, TmpOwn M F H T' L' ∧ L.Perm (L' ++ D) := by
  induction h generalizing L with
  | slnil => exact ⟨L, [], e, by simp⟩
  | cons a _ ih =>
    cases e with
    | st d e =>
      obtain ⟨L', D, q1, q2⟩ := ih e
      rename_i A B
      refine ⟨L', A ++ D, q1, ?_⟩
      refine (List.Perm.append_left A q2).trans ?_
      rw [← List.append_assoc, ← List.append_assoc]
      exact List.perm_append_comm.append_right _
    | bo d e => exact ih e
  | cons_cons a _ ih =>
    cases e with
    | st d e =>
      obtain ⟨L', D, q1, q2⟩ := ih e
      rename_i A B
      refine ⟨A ++ L', D, .st d q1, ?_⟩
      rw [List.append_assoc]
      exact List.Perm.append_left A q2
    | bo d e =>
      obtain ⟨L', D, q1, q2⟩ := ih e
      exact ⟨L', D, .bo d q1, q2⟩
end
structure RF (M : Str → Option Value) (G Z H F : Hp) (σ : Sl) (env : VEnv) (T : List (V × Rv)) (L1 L2 : Cells) : Prop where
  gf : Same G F
  fg : ∀ a o, F a = some o → G a = some o ∨ Z a = none
  fh : Same F H
  zh : Same Z H
  ev : EnvOwn M F σ env L1
  tm : TmpOwn M F H T L2
  gd : Good F Z H (L1 ++ L2)
def R (M : Str → Option Value) (G Z H : Hp) (σ : Sl) (env : VEnv) (T : List (V × Rv)) : Prop := ∃ F L1 L2, RF M G Z H F σ env T L1 L2
structure NewF (M : Str → Option Value) (F H H' F' : Hp) (o : OV) (v : V) (L : Cells) : Prop where
  ff : Same F F'
  fn : ∀ a u, F' a = some u → F a = some u ∨ H a = none
  fh : Same F' H'
  hh : Same H H'
  ow : Own M F' o v L
  gd : Good F' H H' L
def New (M : Str → Option Value) (F H H' : Hp) (o : OV) (v : V) : Prop := ∃ F' L, NewF M F H H' F' o v L
section
variable {M : Str → Option Value} {G Z H H' F F' : Hp} {σ : Sl} {env : VEnv} {T T' : List (V × Rv)} {L1 L2 : Cells} {o : OV} {v : V} {i : Nat}
theorem RF.r (r : RF M G Z H F σ env T L1 L2) : R M G Z H σ env T := ⟨F, L1, L2, r⟩
theorem RF.same (r : RF M G Z H F σ env T L1 L2) (h : Same H H') : RF M G Z H' F σ env T L1 L2 :=
  ⟨r.gf, r.fg, r.fh.trans h, r.zh.trans h, r.ev, r.tm.mono (Same.refl _) h, r.gd.same h⟩
theorem R.same (r : R M G Z H σ env T) (h : Same H H') : R M G Z H' σ env T := let ⟨_, _, _, r⟩ := r; (r.same h).r
theorem RF.sub (r : RF M G Z H F σ env T L1 L2) (h : T'.Sublist T) : R M G Z H σ env T' := by
  obtain ⟨L', D, q1, q2⟩ := r.tm.sub h
  refine ⟨F, L1, L', r.gf, r.fg, r.fh, r.zh, r.ev, q1, ?_⟩
  have g := r.gd.perm (List.Perm.append_left L1 q2)
  rw [← List.append_assoc] at g
  exact g.left
theorem R.sub (r : R M G Z H σ env T) (h : T'.Sublist T) : R M G Z H σ env T' := let ⟨_, _, _, r⟩ := r; r.sub h
theorem R.pop {p : V × Rv} (r : R M G Z H σ env (p :: T)) : R M G Z H σ env T := r.sub (List.sublist_cons_self _ _)
theorem RF.new (r : RF M G Z H F σ env T L1 L2) (n : New M F H H' o v) : R M G Z H' σ env ((v, .st o) :: T) := by
  obtain ⟨F', L, n⟩ := n
  refine ⟨F', L1, L ++ L2, r.gf.trans n.ff, fun a u e => ?_, n.fh, r.zh.trans n.hh, r.ev.mono n.ff, .st n.ow (r.tm.mono n.ff n.hh), ?_⟩
  · rcases n.fn a u e with e | e
    · exact r.fg a u e
    · refine .inr ?_
      cases q : Z a with
      | none => rfl
      | some z => rw [r.zh a z q] at e; cases e
  · have g : Good F' Z H' (L1 ++ L2) := ⟨r.gd.nd, fun p hp => n.hh _ _ (r.gd.hp p hp), (fun p hp => by
      cases q : F' p.1 with
      | none => rfl
      | some u =>
        rcases n.fn _ _ q with e | e
        · rw [r.gd.fr p hp] at e; cases e
        · rw [r.gd.hp p hp] at e; cases e), r.gd.zr⟩
    have g2 : Good F' Z H' L := ⟨n.gd.nd, n.gd.hp, n.gd.fr, fun p hp => by
      cases q : Z p.1 with
      | none => rfl
      | some z =>
        have e := n.gd.zr p hp
        rw [r.zh _ z q] at e
        cases e⟩
    have g3 := g2.mk' g fun p hp q hq e => by
      have e1 := n.gd.zr p hp
      rw [e, r.gd.hp q hq] at e1
      cases e1
    refine g3.perm ?_
    rw [← List.append_assoc, ← List.append_assoc]
    exact List.perm_append_comm.append_right _
theorem RF.look (r : RF M G Z H F σ env T L1 L2) (h : env[i]? = some (some o)) : ∃ v, σ[i]? = some (some v) ∧ RF M G Z H F σ env ((v, .bo o) :: T) L1 L2 := by
  obtain ⟨v, A, Lr, h1, h2, h3, _⟩ := r.ev.repl h
  refine ⟨v, h1, r.gf, r.fg, r.fh, r.zh, r.ev, .bo ⟨A, h2, fun p hp => r.gd.hp p (List.mem_append_left _ (h3.mem_iff.mpr (List.mem_append_left _ hp)))⟩ r.tm, r.gd⟩
theorem RF.lookF {x : FV} (r : RF M G Z H F σ env T L1 L2) (h : env[i]? = some (some (.fz x))) : ∃ v, σ[i]? = some (some v) ∧ RF M G Z H F σ env ((v, .st (.fz x)) :: T) L1 L2 := by
  obtain ⟨v, A, Lr, h1, h2, h3, _⟩ := r.ev.repl h
  have hA : A = [] := h2.2
  subst hA
  exact ⟨v, h1, r.gf, r.fg, r.fh, r.zh, r.ev, .st (A := []) h2 r.tm, r.gd⟩
theorem R.set (r : R M G Z H σ env ((v, .st o) :: T)) (i : Nat) : R M G Z H (σ.set i (some v)) (env.set i (some o)) T := by
  obtain ⟨F, L1, L2, r⟩ := r
  cases r.tm with
  | @st _ _ _ A B d t =>
    obtain ⟨L', D, q1, q2⟩ := r.ev.set i d
    refine ⟨F, L', B, r.gf, r.fg, r.fh, r.zh, q1, t, ?_⟩
    have g := r.gd
    have p1 : (L1 ++ (A ++ B)).Perm ((L' ++ B) ++ D) := by
      refine List.Perm.trans ?_ (List.Perm.trans (q2.append_right B) ?_)
      · rw [← List.append_assoc]
        exact (List.perm_append_comm).append_right B
      · rw [List.append_assoc, List.append_assoc]
        exact List.Perm.append_left L' List.perm_append_comm
    exact (g.perm p1).left
theorem R.unset (r : R M G Z H σ env T) (i : Nat) (s : Option V) : R M G Z H (σ.set i s) (env.set i none) T := by
  obtain ⟨F, L1, L2, r⟩ := r
  obtain ⟨L', D, q1, q2⟩ := r.ev.unset i s
  refine ⟨F, L', L2, r.gf, r.fg, r.fh, r.zh, q1, r.tm, ?_⟩
  have p1 : (L1 ++ L2).Perm ((L' ++ L2) ++ D) := by
    refine (q2.append_right L2).trans ?_
    rw [List.append_assoc, List.append_assoc]
    exact List.Perm.append_left L' List.perm_append_comm
  exact (r.gd.perm p1).left
theorem RF.ice (r : RF M G Z H F σ env T L1 L2) {A Lr : Cells} (p : (L1 ++ L2).Perm (A ++ Lr)) :
    Same G (updL F A) ∧ (∀ a o, updL F A a = some o → G a = some o ∨ Z a = none) ∧ Same F (updL F A) ∧ Same (updL F A) H ∧ Good (updL F A) Z H Lr ∧ ∀ p ∈ A, updL F A p.1 = some p.2 := by
  have g := r.gd.perm p
  have ff : Same F (updL F A) := fun a o e => by
    rw [updL_out fun q hq z => by
      have := g.fr q (List.mem_append_left _ hq)
      rw [z, e] at this
      cases this]
    exact e
  refine ⟨r.gf.trans ff, fun a o e => ?_, ff, fun a o e => ?_, ⟨g.right.nd, g.right.hp, fun q hq => ?_, g.right.zr⟩, fun q hq => updL_in g.left.nd q hq⟩
  · rcases updL_cases e with e | e
    · exact r.fg a o e
    · exact .inr (g.zr _ (List.mem_append_left _ e))
  · rcases updL_cases e with e | e
    · exact r.fh a o e
    · exact g.hp _ (List.mem_append_left _ e)
  · rw [updL_out fun q2 hq2 z => g.apart q2 hq2 q hq z]
    exact g.right.fr q hq
theorem R.freeze (r : R M G Z H σ env T) (h : env[i]? = some (some o)) : R M G Z H σ (env.set i (some (.fz o.fv))) T := by
  obtain ⟨F, L1, L2, r⟩ := r
  obtain ⟨v, A, Lr, h1, h2, h3, h4, _⟩ := r.ev.repl h
  obtain ⟨i1, i2, i3, i4, i5, i6⟩ := r.ice (A := A) (Lr := Lr ++ L2) (by rw [← List.append_assoc]; exact h3.append_right L2)
  obtain ⟨v2, A2, Lr2, k1, k2, k3, k4, _⟩ := (r.ev.mono i3).repl h
  rw [h1] at k1
  obtain rfl := Option.some.inj (Option.some.inj k1)
  have e2 := h4 (.fz .non) .non [] ⟨rfl, rfl⟩
  obtain ⟨L', q1, q2⟩ := e2
  have hset : env.set i (some (OV.fz o.fv)) = (env.set i (some (OV.fz .non))).set i (some (OV.fz o.fv)) := by rw [List.set_set]
  have hσ : σ = (σ.set i (some V.non)).set i (some v) := by
    rw [List.set_set]
    apply List.ext_getElem?
    intro j
    by_cases hj : i = j
    · subst hj
      obtain ⟨hlt, _⟩ := List.getElem?_eq_some_iff.mp h1
      rw [List.getElem?_set_self hlt, h1]
    · rw [List.getElem?_set_ne hj]
  have hi : (env.set i (some (OV.fz .non)))[i]? = some (some (OV.fz .non)) := by
    obtain ⟨hlt, _⟩ := List.getElem?_eq_some_iff.mp h
    exact List.getElem?_set_self hlt
  obtain ⟨v3, A3, Lr3, j1, j2, j3, j4, _⟩ := (q1.mono i3).repl hi
  have hA3 : A3 = [] := j2.2
  subst hA3
  obtain ⟨L4, u1, u2⟩ := j4 (.fz o.fv) v [] ⟨h2.fden i3 i6, rfl⟩
  rw [← hσ, ← hset] at u1
  refine ⟨updL F A, L4, L2, i1, i2, i4, r.zh, u1, r.tm.mono i3 (Same.refl _), i5.perm (List.Perm.append_right L2 ?_)⟩
  exact (q2.symm.trans j3).trans u2.symm
end
end J
namespace J
open PySem PySem.Spec PyProof.Rows L2
section
variable {M : Str → Option Value} {G Z H H1 H2 F : Hp} {σ : Sl} {env : VEnv} {T T' T2 : List (V × Rv)} {W : WX} {Q : VK} {v : V} {o : OV} {L L1 L2 : Cells}
theorem TmpOwn.perm {H : Hp} (h : T.Perm T') : ∀ {L : Cells}, TmpOwn M F H T L → ∃ L', TmpOwn M F H T' L' ∧ L.Perm L' := by
  induction h with
  | nil => intro L e; exact ⟨L, e, .refl _⟩
  | cons x _ ih =>
    intro L e
    cases e with
    | st d e =>
      obtain ⟨L', q1, q2⟩ := ih e
      exact ⟨_, .st d q1, List.Perm.append_left _ q2⟩
    | bo d e =>
      obtain ⟨L', q1, q2⟩ := ih e
      exact ⟨_, .bo d q1, q2⟩
  | swap x y l =>
    intro L e
    cases e with
    | st d e =>
      cases e with
      | st d2 e =>
        refine ⟨_, .st d2 (.st d e), ?_⟩
        rw [← List.append_assoc, ← List.append_assoc]
        exact List.perm_append_comm.append_right _
      | bo d2 e => exact ⟨_, .bo d2 (.st d e), .refl _⟩
    | bo d e =>
      cases e with
      | st d2 e => exact ⟨_, .st d2 (.bo d e), .refl _⟩
      | bo d2 e => exact ⟨_, .bo d2 (.bo d e), .refl _⟩
  | trans _ _ ih1 ih2 =>
    intro L e
    obtain ⟨L1, q1, q2⟩ := ih1 e
    obtain ⟨L2, q3, q4⟩ := ih2 q1
    exact ⟨L2, q3, q2.trans q4⟩
theorem R.perm (r : R M G Z H σ env T) (h : T.Perm T') : R M G Z H σ env T' := by
  obtain ⟨F, L1, L2, r⟩ := r
  obtain ⟨L', q1, q2⟩ := r.tm.perm h
  exact ⟨F, L1, L', r.gf, r.fg, r.fh, r.zh, r.ev, q1, r.gd.perm (List.Perm.append_left _ q2)⟩
def Sb (T' T : List (V × Rv)) : Prop := ∃ D, T.Perm (T' ++ D)
theorem Sb.refl : Sb T T := ⟨[], by simp⟩
theorem Sb.cons {p : V × Rv} (h : Sb T' T) : Sb T' (p :: T) := by
  obtain ⟨D, h⟩ := h
  refine ⟨p :: D, (h.cons p).trans ?_⟩
  exact List.perm_middle.symm
theorem Sb.both {p : V × Rv} (h : Sb T' T) : Sb (p :: T') (p :: T) := by
  obtain ⟨D, h⟩ := h
  exact ⟨D, h.cons p⟩
theorem Sb.trans (a : Sb T T') (b : Sb T' T2) : Sb T T2 := by
  obtain ⟨D, a⟩ := a
  obtain ⟨E, b⟩ := b
  refine ⟨D ++ E, b.trans ?_⟩
  rw [← List.append_assoc]
  exact a.append_right E
theorem R.sb (r : R M G Z H σ env T) (h : Sb T' T) : R M G Z H σ env T' := by
  obtain ⟨D, h⟩ := h
  exact (r.perm h).sub (List.sublist_append_left _ _)
theorem RF.bor {p : V × Rv} (r : RF M G Z H F σ env T L1 L2) (h : p ∈ T) : Bor M F H p.2.ov p.1 := by
  obtain ⟨gf, fg, fh, zh, ev, tm, gd⟩ := r
  have key : ∀ {T : List (V × Rv)} {L : Cells}, TmpOwn M F H T L → (∀ q ∈ L, H q.1 = some q.2) → p ∈ T → Bor M F H p.2.ov p.1 := by
    intro T L e
    induction e with
    | nil => intro _ h; exact nomatch h
    | st d _ ih =>
      intro hc h
      rcases List.mem_cons.mp h with rfl | h
      · exact ⟨_, d, fun q hq => hc q (List.mem_append_left _ hq)⟩
      · exact ih (fun q hq => hc q (List.mem_append_right _ hq)) h
    | bo d _ ih =>
      intro hc h
      rcases List.mem_cons.mp h with rfl | h
      · exact d
      · exact ih hc h
  exact key tm (fun q hq => gd.hp q (List.mem_append_right _ hq)) h
def Post (M : Str → Option Value) (W : WX) (G Z : Hp) (σ : Sl) (env : VEnv) (T : List (V × Rv)) (Q : VK) (H : Hp) : Ans Rv → Prop
  | .ok r => ∀ v H', Same H H' → R M G Z H' σ env ((v, r) :: T) → Q v H'
  | .ex c => ∀ C H', M c = some (.ref C) → Same H H' → R M G Z H' σ env T → W (.ref C) none σ H'
  | .no => False
def tE (M : Str → Option Value) (W : WX) (f : DE) : TE := fun σ H Q => ∃ G Z env T, R M G Z H σ env T ∧ Post M W G Z σ env T Q H (f env)
def PostT (M : Str → Option Value) (W : WX) (G Z : Hp) (σ : Sl) (env : VEnv) (T : List (V × Rv)) (Q : Bool → Hp → Prop) (H : Hp) : Ans Bool → Prop
  | .ok b => ∀ H', Same H H' → R M G Z H' σ env T → Q b H'
  | .ex c => ∀ C H', M c = some (.ref C) → Same H H' → R M G Z H' σ env T → W (.ref C) none σ H'
  | .no => False
def tT (M : Str → Option Value) (W : WX) (f : DT) : TT := fun σ H Q => ∃ G Z env T, R M G Z H σ env T ∧ PostT M W G Z σ env T Q H (f env)
def PostA (M : Str → Option Value) (W : WX) (G Z : Hp) (σ : Sl) (env : VEnv) (T : List (V × Rv)) (Q : List V → Hp → Prop) (H : Hp) : Ans (List Rv) → Prop
  | .ok rs => ∀ vs H', vs.length = rs.length → Same H H' → R M G Z H' σ env (vs.zip rs ++ T) → Q vs H'
  | .ex c => ∀ C H', M c = some (.ref C) → Same H H' → R M G Z H' σ env T → W (.ref C) none σ H'
  | .no => False
def tA (M : Str → Option Value) (W : WX) (f : VEnv → Ans (List Rv)) : TA := fun σ H Q => ∃ G Z env T, R M G Z H σ env T ∧ PostA M W G Z σ env T Q H (f env)
theorem Post.later {x : Ans Rv} (p : Post M W G Z σ env T Q H x) (h : Same H H1) : Post M W G Z σ env T Q H1 x := by
  cases x with
  | ok r => exact fun v H' s r => p v H' (h.trans s) r
  | ex c => exact fun C H' m s r => p C H' m (h.trans s) r
  | no => exact p
theorem PostT.later {x : Ans Bool} {Q : Bool → Hp → Prop} (p : PostT M W G Z σ env T Q H x) (h : Same H H1) : PostT M W G Z σ env T Q H1 x := by
  cases x with
  | ok r => exact fun H' s r => p H' (h.trans s) r
  | ex c => exact fun C H' m s r => p C H' m (h.trans s) r
  | no => exact p
theorem PostA.later {x : Ans (List Rv)} {Q : List V → Hp → Prop} (p : PostA M W G Z σ env T Q H x) (h : Same H H1) : PostA M W G Z σ env T Q H1 x := by
  cases x with
  | ok r => exact fun v H' hl s r => p v H' hl (h.trans s) r
  | ex c => exact fun C H' m s r => p C H' m (h.trans s) r
  | no => exact p
theorem tE.then {f : DE} {Q1 : VK} (r : R M G Z H σ env T2) (hs : Sb T T2)
    (hok : ∀ rv v H1, f env = .ok rv → Same H H1 → R M G Z H1 σ env ((v, rv) :: T2) → Q1 v H1)
    (hex : ∀ c C H1, f env = .ex c → M c = some (.ref C) → Same H H1 → R M G Z H1 σ env T → W (.ref C) none σ H1) (hno : f env ≠ .no) : tE M W f σ H Q1 := by
  refine ⟨G, Z, env, T2, r, ?_⟩
  cases e : f env with
  | ok rv => exact fun v H1 s r => hok rv v H1 e s r
  | ex c => exact fun C H1 m s r => hex c C H1 e m s (r.sb hs)
  | no => exact absurd e hno
theorem tE.bind {f : DE} {k : Rv → Ans Rv} {Q1 : VK} (r : R M G Z H σ env T2) (hs : Sb T T2) (p : Post M W G Z σ env T Q H ((f env).bind k))
    (h : ∀ rv v H1, f env = .ok rv → Same H H1 → R M G Z H1 σ env ((v, rv) :: T2) → Post M W G Z σ env T Q H1 (k rv) → Q1 v H1) : tE M W f σ H Q1 := by
  refine tE.then r hs (fun rv v H1 e s r => h rv v H1 e s r ?_) (fun c C H1 e m s r => ?_) fun e => ?_
  · rw [e] at p; exact p.later s
  · rw [e] at p; exact p C H1 m s r
  · rw [e] at p; exact p
theorem tE.bindT {f : DE} {k : Rv → Ans Bool} {Q1 : VK} {Q : Bool → Hp → Prop} (r : R M G Z H σ env T2) (hs : Sb T T2) (p : PostT M W G Z σ env T Q H ((f env).bind k))
    (h : ∀ rv v H1, f env = .ok rv → Same H H1 → R M G Z H1 σ env ((v, rv) :: T2) → PostT M W G Z σ env T Q H1 (k rv) → Q1 v H1) : tE M W f σ H Q1 := by
  refine tE.then r hs (fun rv v H1 e s r => h rv v H1 e s r ?_) (fun c C H1 e m s r => ?_) fun e => ?_
  · rw [e] at p; exact p.later s
  · rw [e] at p; exact p C H1 m s r
  · rw [e] at p; exact p
theorem tE.bindA {f : DE} {k : Rv → Ans (List Rv)} {Q1 : VK} {Q : List V → Hp → Prop} (r : R M G Z H σ env T2) (hs : Sb T T2) (p : PostA M W G Z σ env T Q H ((f env).bind k))
    (h : ∀ rv v H1, f env = .ok rv → Same H H1 → R M G Z H1 σ env ((v, rv) :: T2) → PostA M W G Z σ env T Q H1 (k rv) → Q1 v H1) : tE M W f σ H Q1 := by
  refine tE.then r hs (fun rv v H1 e s r => h rv v H1 e s r ?_) (fun c C H1 e m s r => ?_) fun e => ?_
  · rw [e] at p; exact p.later s
  · rw [e] at p; exact p C H1 m s r
  · rw [e] at p; exact p
theorem tT.bind {f : DT} {k : Bool → Ans Rv} {Q1 : Bool → Hp → Prop} (r : R M G Z H σ env T2) (hs : Sb T T2) (p : Post M W G Z σ env T Q H ((f env).bind k))
    (h : ∀ b H1, f env = .ok b → Same H H1 → R M G Z H1 σ env T2 → Post M W G Z σ env T Q H1 (k b) → Q1 b H1) : tT M W f σ H Q1 := by
  refine ⟨G, Z, env, T2, r, ?_⟩
  cases e : f env with
  | ok b =>
    rw [e] at p
    exact fun H1 s r => h b H1 e s r (p.later s)
  | ex c =>
    rw [e] at p
    exact fun C H1 m s r => p C H1 m s (r.sb hs)
  | no => rw [e] at p; exact p
theorem tT.bindT {f : DT} {k : Bool → Ans Bool} {Q1 : Bool → Hp → Prop} {Q : Bool → Hp → Prop} (r : R M G Z H σ env T2) (hs : Sb T T2) (p : PostT M W G Z σ env T Q H ((f env).bind k))
    (h : ∀ b H1, f env = .ok b → Same H H1 → R M G Z H1 σ env T2 → PostT M W G Z σ env T Q H1 (k b) → Q1 b H1) : tT M W f σ H Q1 := by
  refine ⟨G, Z, env, T2, r, ?_⟩
  cases e : f env with
  | ok b =>
    rw [e] at p
    exact fun H1 s r => h b H1 e s r (p.later s)
  | ex c =>
    rw [e] at p
    exact fun C H1 m s r => p C H1 m s (r.sb hs)
  | no => rw [e] at p; exact p
theorem tA.bind {f : VEnv → Ans (List Rv)} {k : List Rv → Ans Rv} {Q1 : List V → Hp → Prop} (r : R M G Z H σ env T2) (hs : Sb T T2) (p : Post M W G Z σ env T Q H ((f env).bind k))
    (h : ∀ rs vs H1, f env = .ok rs → vs.length = rs.length → Same H H1 → R M G Z H1 σ env (vs.zip rs ++ T2) → Post M W G Z σ env T Q H1 (k rs) → Q1 vs H1) : tA M W f σ H Q1 := by
  refine ⟨G, Z, env, T2, r, ?_⟩
  cases e : f env with
  | ok rs =>
    rw [e] at p
    exact fun vs H1 hl s r => h rs vs H1 e hl s r (p.later s)
  | ex c =>
    rw [e] at p
    exact fun C H1 m s r => p C H1 m s (r.sb hs)
  | no => rw [e] at p; exact p
end
abbrev JE (X : Cx) (W : WX) (e : Expr) (f : DE) : Prop := PE X e (tE X.mg W f)
abbrev JT (X : Cx) (W : WX) (e : Expr) (f : DT) : Prop := PT X e (tT X.mg W f)
abbrev JW (X : Cx) (W : WX) (e : Expr) (f : DT) : Prop := PW X e (tT X.mg W f)
abbrev JA (X : Cx) (W : WX) (es : List Expr) (f : VEnv → Ans (List Rv)) : Prop := PA X es (tA X.mg W f)
theorem PE.imp {X : Cx} {e : Expr} {t t' : TE} (p : PE X e t) (h : ∀ σ H Q, t' σ H Q → t σ H Q) : PE X e t' := ⟨fun pins s σ H Q I q => p.run pins s σ H Q I (h σ H Q q)⟩
theorem PT.imp {X : Cx} {e : Expr} {t t' : TT} (p : PT X e t) (h : ∀ σ H Q, t' σ H Q → t σ H Q) : PT X e t' := ⟨fun pins s σ H Q I q => p.run pins s σ H Q I (h σ H Q q)⟩
theorem PW.imp {X : Cx} {e : Expr} {t t' : TT} (p : PW X e t) (h : ∀ σ H Q, t' σ H Q → t σ H Q) : PW X e t' := ⟨fun w pins s σ H Q I q => p.run w pins s σ H Q I (h σ H Q q)⟩
theorem PA.imp {X : Cx} {e : List Expr} {t t' : TA} (p : PA X e t) (h : ∀ σ H Q, t' σ H Q → t σ H Q) : PA X e t' := ⟨fun pos pins s σ H Q I q => p.run pos pins s σ H Q I (h σ H Q q)⟩
theorem PE.or {X : Cx} {e : Expr} {t t' : TE} (p : PE X e t) (p' : PE X e t') : PE X e (fun σ H Q => t σ H Q ∨ t' σ H Q) := ⟨fun pins s σ H Q I q => q.elim (p.run pins s σ H Q I) (p'.run pins s σ H Q I)⟩
theorem PT.or {X : Cx} {e : Expr} {t t' : TT} (p : PT X e t) (p' : PT X e t') : PT X e (fun σ H Q => t σ H Q ∨ t' σ H Q) := ⟨fun pins s σ H Q I q => q.elim (p.run pins s σ H Q I) (p'.run pins s σ H Q I)⟩
section
variable {M : Str → Option Value} {F H H' : Hp} {o : OV} {v : V} {x : FV} {xs : List FV} {vs : List V} {p : Addr}
theorem New.old (hf : Same F H) (d : FDen M F x v) : New M F H H (.fz x) v := ⟨F, [], Same.refl _, fun _ _ e => .inl e, hf, Same.refl _, ⟨d, rfl⟩, Good.nil⟩
theorem New.int {i : Int} (hf : Same F H) : New M F H H (.fz (.int i)) (.int i) := New.old hf rfl
theorem New.bl {i : Bool} (hf : Same F H) : New M F H H (.fz (.bl i)) (.bl i) := New.old hf rfl
theorem New.str {i : Str} (hf : Same F H) : New M F H H (.fz (.str i)) (.str i) := New.old hf rfl
theorem New.non (hf : Same F H) : New M F H H (.fz .non) .non := New.old hf rfl
theorem same_upd {H : Hp} {p : Addr} {o : HO} (h : H p = none) : Same H (upd H p o) := fun b x e => by
  rw [upd_ne (ne_of_none e h)]; exact e
theorem none_of_same (hf : Same F H) (h : H p = none) : F p = none := by
  cases q : F p with
  | none => rfl
  | some z => rw [hf _ _ q] at h; cases h
theorem New.cell {u : HO} (hf : Same F H) (h : H p = none) (ow : Own M F o v [(p, u)]) : New M F H (upd H p u) o v := by
  refine ⟨F, [(p, u)], Same.refl _, fun _ _ e => .inl e, hf.trans (same_upd h), same_upd h, ow, ⟨by simp, fun q hq => ?_, fun q hq => ?_, fun q hq => ?_⟩⟩
  · rw [List.mem_singleton] at hq; subst hq; exact upd_same
  · rw [List.mem_singleton] at hq; subst hq; exact none_of_same hf h
  · rw [List.mem_singleton] at hq; subst hq; exact h
theorem New.lst (hf : Same F H) (h : H p = none) (d : FDenL M F xs vs) : New M F H (upd H p (.lst vs)) (.ol xs) (.ref p) := New.cell hf h ⟨p, vs, rfl, d, rfl⟩
theorem New.dK {ks : List (Key × FV)} {ws : List (Key × V)} (hf : Same F H) (h : H p = none) (d : FDenK M F ks ws) : New M F H (upd H p (.dK ws)) (.oK ks) (.ref p) := New.cell hf h ⟨p, ws, rfl, d, rfl⟩
theorem New.dT {ks : List (List Key × FV)} {ws : List (List Key × V)} (hf : Same F H) (h : H p = none) (d : FDenT M F ks ws) : New M F H (upd H p (.dT ws)) (.oT ks) (.ref p) := New.cell hf h ⟨p, ws, rfl, d, rfl⟩
theorem New.ice {u : HO} (hf : Same F H) (h : H p = none) (d : FDen M (upd F p u) x v) : New M F H (upd H p u) (.fz x) v := by
  have hF := none_of_same hf h
  refine ⟨upd F p u, [], same_upd hF, fun a z e => ?_, fun a z e => ?_, same_upd h, ⟨d, rfl⟩, Good.nil⟩
  · by_cases q : a = p
    · subst q; exact .inr h
    · rw [upd_ne q] at e; exact .inl e
  · by_cases q : a = p
    · subst q; rw [upd_same] at e ⊢; exact e
    · rw [upd_ne q] at e ⊢; exact hf _ _ e
theorem New.tup (hf : Same F H) (h : H p = none) (d : FDenL M F xs vs) : New M F H (upd H p (.tup vs)) (.fz (.tup xs)) (.ref p) :=
  New.ice hf h ⟨p, vs, rfl, upd_same, d.mono (same_upd (none_of_same hf h))⟩
theorem FDenL.length : ∀ {xs : List FV} {vs : List V}, FDenL M F xs vs → vs.length = xs.length
  | [], _, e => by rw [show _ = [] from e]; rfl
  | _ :: xs, _, ⟨v, ws, e, _, r⟩ => by rw [e, List.length_cons, List.length_cons, FDenL.length r]
theorem FDenL.get : ∀ {xs : List FV} {vs : List V} {i : Nat} {x : FV}, FDenL M F xs vs → xs[i]? = some x → ∃ v, vs[i]? = some v ∧ FDen M F x v
  | [], _, _, _, _, h => by simp at h
  | _ :: _, _, 0, _, ⟨v, ws, e, d, _⟩, h => by
    rw [List.getElem?_cons_zero] at h
    cases h
    exact ⟨v, by rw [e]; rfl, d⟩
  | _ :: _, _, i + 1, _, ⟨v, ws, e, _, r⟩, h => by
    rw [List.getElem?_cons_succ] at h
    obtain ⟨w, q, d⟩ := FDenL.get r h
    exact ⟨w, by rw [e, List.getElem?_cons_succ]; exact q, d⟩
theorem FDenL.append : ∀ {xs ys : List FV} {vs ws : List V}, FDenL M F xs vs → FDenL M F ys ws → FDenL M F (xs ++ ys) (vs ++ ws)
  | [], _, _, _, e, h => by rw [show _ = [] from e]; exact h
  | _ :: _, _, _, _, ⟨v, us, e, d, r⟩, h => by
    rw [e]
    exact ⟨v, us ++ _, rfl, d, FDenL.append r h⟩
theorem FDenL.take : ∀ {xs : List FV} {vs : List V} (n : Nat), FDenL M F xs vs → FDenL M F (xs.take n) (vs.take n)
  | _, _, 0, _ => by simp [FDenL]
  | [], _, _ + 1, e => by rw [show _ = [] from e]; simp [FDenL]
  | _ :: _, _, n + 1, ⟨v, us, e, d, r⟩ => by
    rw [e]
    exact ⟨v, us.take n, rfl, d, FDenL.take n r⟩
theorem FDenL.drop : ∀ {xs : List FV} {vs : List V} (n : Nat), FDenL M F xs vs → FDenL M F (xs.drop n) (vs.drop n)
  | _, _, 0, h => h
  | [], _, _ + 1, e => by rw [show _ = [] from e]; simp [FDenL]
  | _ :: _, _, n + 1, ⟨v, us, e, d, r⟩ => by
    rw [e]
    exact FDenL.drop n r
theorem FDenL.reverse {xs : List FV} {vs : List V} (h : FDenL M F xs vs) : FDenL M F xs.reverse vs.reverse := by
  induction xs generalizing vs with
  | nil => rw [show _ = [] from h]; simp [FDenL]
  | cons x xs ih =>
    obtain ⟨v, us, e, d, r⟩ := h
    rw [e, List.reverse_cons, List.reverse_cons]
    exact (ih r).append ⟨v, [], rfl, d, rfl⟩
end
end J
namespace J
open PySem PySem.Spec PyProof.Rows L2
mutual
def FV.toD : FV → Option PyData
  | .non => some .none
  | .bl b => some (.bool b)
  | .int i => some (.int i)
  | .str x => some (.str x)
  | .tup xs => (FV.toDL xs).map .tuple
  | .tuz xs => (FV.toDL xs).map .tuple
  | .lst xs => (FV.toDL xs).map .list
  | _ => none
def FV.toDL : List FV → Option (List PyData)
  | [] => some []
  | x :: xs => match x.toD, FV.toDL xs with
    | some d, some ds => some (d :: ds)
    | _, _ => none
end
section
variable {M : Str → Option Value} {K : PySem.W.Frag} {F H H' : Hp} {x : FV} {v : V} {d : PyData}
mutual
theorem FDen.dp : ∀ {x : FV} {v : V} {d : PyData}, FDen M H x v → x.toD = some d → Dp K H v d
  | .non, _, _, h, e => by cases e; rw [show _ = V.non from h]; exact .non
  | .bl b, _, _, h, e => by cases e; rw [show _ = V.bl b from h]; exact .bl b
  | .int i, _, _, h, e => by cases e; rw [show _ = V.int i from h]; exact .int i
  | .str x, _, _, h, e => by cases e; rw [show _ = V.str x from h]; exact .str x
  | .tup xs, _, d, ⟨a, vs, ev, q, r⟩, e => by
    obtain ⟨ds, e1, e2⟩ := Option.map_eq_some_iff.mp (show (FV.toDL xs).map PyData.tuple = some d from e)
    subst e2
    rw [ev]
    exact .tup (SqT.of q) (FDenL.dp r e1)
  | .tuz xs, _, d, ⟨a, vs, o, ev, q, _, _, r⟩, e => by
    obtain ⟨ds, e1, e2⟩ := Option.map_eq_some_iff.mp (show (FV.toDL xs).map PyData.tuple = some d from e)
    subst e2
    rw [ev]
    exact .tup (.inl (.inr ⟨o, q⟩)) (FDenL.dp r e1)
  | .lst xs, _, d, ⟨a, vs, ev, q, r⟩, e => by
    obtain ⟨ds, e1, e2⟩ := Option.map_eq_some_iff.mp (show (FV.toDL xs).map PyData.list = some d from e)
    subst e2
    rw [ev]
    exact .lst (SqL.of q) (FDenL.dp r e1)
  | .dK _, _, _, _, e => nomatch e
  | .dT _, _, _, _, e => nomatch e
  | .ins _ _, _, _, _, e => nomatch e
  | .exc _, _, _, _, e => nomatch e
  | .scr _, _, _, _, e => nomatch e
  | .dN _, _, _, _, e => nomatch e
theorem FDenL.dp : ∀ {xs : List FV} {vs : List V} {ds : List PyData}, FDenL M H xs vs → FV.toDL xs = some ds → DpAll K H vs ds
  | [], _, _, h, e => by cases e; rw [show _ = [] from h]; exact .nil
  | x :: xs, _, _, ⟨v, ws, ev, d, r⟩, e => by
    unfold FV.toDL at e
    split at e
    · rename_i d1 ds1 e1 e2
      cases e
      rw [ev]
      exact .cons (FDen.dp d e1) (FDenL.dp r e2)
    · cases e
end
end
def dVar (i : Nat) : DE := fun env => match env[i]? with
  | some (some (.fz x)) => .ok (.st (.fz x))
  | some (some o) => .ok (.bo o)
  | _ => .no
def dC (x : FV) : DE := fun _ => .ok (.st (.fz x))
section
variable {X : Cx} {W : WX} {pos p : Pos} {x : Str}
theorem je_var (i : Nat) (hN : X.N[i]? = some x := by rfl) (hv : Vis X.env.scope x := by first | exact Or.inl rfl | exact Or.inr (Or.inl rfl) | exact Or.inr (Or.inr rfl)) (hd : (x == ("__debug__" : Str)) = false := by decide)
    (hcd : (x == ("__classdict__" : Str)) = false := by decide) : JE X W (.Name x pos) (dVar i) := by
  refine PE.imp (pe_var hN hv hd hcd) fun σ H Q ⟨G, Z, env, T, ⟨F, C1, C2, r⟩, p⟩ => ?_
  have hp : Post X.mg W G Z σ env T Q H (dVar i env) := p
  unfold dVar at hp
  split at hp
  · rename_i x e
    obtain ⟨v, e1, r1⟩ := r.lookF e
    exact ⟨v, e1, hp v H (Same.refl _) r1.r⟩
  · rename_i o _ e
    obtain ⟨v, e1, r1⟩ := r.look e
    exact ⟨v, e1, hp v H (Same.refl _) r1.r⟩
  · exact hp.elim
theorem je_c {e : Expr} {v : V} {y : FV} (h : PE X e (tC v)) (d : ∀ M F, FDen M F y v) : JE X W e (dC y) := by
  refine PE.imp h fun σ H Q ⟨G, Z, env, T, ⟨F, C1, C2, r⟩, p⟩ => ?_
  exact p v H (Same.refl _) (r.new (New.old r.fh (d _ _)))
theorem je_int {i : Int} {j} : JE X W (.Constant (.int i) j pos) (dC (.int i)) := je_c pe_int fun _ _ => rfl
theorem je_bl {i : Bool} {j} : JE X W (.Constant (.bool i) j pos) (dC (.bl i)) := je_c pe_bl fun _ _ => rfl
theorem je_str {i : Str} {j} : JE X W (.Constant (.str i) j pos) (dC (.str i)) := je_c pe_str fun _ _ => rfl
theorem je_non {j} : JE X W (.Constant .none j pos) (dC .non) := je_c pe_non fun _ _ => rfl
theorem je_gint {i : Int} {t : Tok} (hm : X.mg x = some (.int i t)) (hg : Gl X x := by rfl) (hd : (x == ("__debug__" : Str)) = false := by decide) : JE X W (.Name x pos) (dC (.int i)) := je_c (pe_glob hg hm (v := .int i) ⟨t, rfl⟩ hd) fun _ _ => rfl
theorem je_gstr {i : Str} {t : Tok} (hm : X.mg x = some (.str i t)) (hg : Gl X x := by rfl) (hd : (x == ("__debug__" : Str)) = false := by decide) : JE X W (.Name x pos) (dC (.str i)) := je_c (pe_glob hg hm (v := .str i) ⟨t, rfl⟩ hd) fun _ _ => rfl
end
def Ans.of {α : Type} : Option α → Ans α
  | some a => .ok a
  | none => .no
def dBin (op : OV → OV → Option OV) (f g : DE) : DE := fun env => (f env).bind fun x => (g env).bind fun y => (Ans.of (op x.ov y.ov)).map .st
def dUn (op : OV → Option OV) (f : DE) : DE := fun env => (f env).bind fun x => (Ans.of (op x.ov)).map .st
def rJ (M : Str → Option Value) (op : OV → OV → Option OV) : R2 := fun u w H Q => ∃ F x y o, Same F H ∧ Bor M F H x u ∧ Bor M F H y w ∧ op x y = some o ∧ ∀ v H', New M F H H' o v → Q v H'
def rJ1 (M : Str → Option Value) (op : OV → Option OV) : V → Hp → VK → Prop := fun u H Q => ∃ F x o, Same F H ∧ Bor M F H x u ∧ op x = some o ∧ ∀ v H', New M F H H' o v → Q v H'
abbrev OJ (X : Cx) (f : Value → Value → Sem Value) (op : OV → OV → Option OV) : Prop := OpR X f (rJ X.mg op)
section
variable {M : Str → Option Value} {G Z H F : Hp} {σ : Sl} {env : VEnv} {T T2 : List (V × Rv)} {W : WX} {Q : VK} {C1 C2 : Cells}
theorem RF.fin (r : RF M G Z H F σ env T2 C1 C2) (hs : Sb T T2) {oo : Option OV} (p : Post M W G Z σ env T Q H ((Ans.of oo).map .st)) : ∃ o, oo = some o ∧ ∀ v H', New M F H H' o v → Q v H' := by
  cases oo with
  | none => exact p.elim
  | some o => exact ⟨o, rfl, fun v H' n => p v H' (let ⟨_, _, n⟩ := n; n.hh) ((r.new n).sb hs.both)⟩
theorem RF.rj1 {op : OV → Option OV} {u : V} {x : Rv} (r : RF M G Z H F σ env ((u, x) :: T2) C1 C2) (hs : Sb T T2) (p : Post M W G Z σ env T Q H ((Ans.of (op x.ov)).map .st)) : rJ1 M op u H Q := by
  obtain ⟨o, e, k⟩ := r.fin (hs.cons) p
  exact ⟨F, x.ov, o, r.fh, r.bor List.mem_cons_self, e, k⟩
theorem RF.rj {op : OV → OV → Option OV} {u w : V} {x y : Rv} (r : RF M G Z H F σ env ((w, y) :: (u, x) :: T2) C1 C2) (hs : Sb T T2) (p : Post M W G Z σ env T Q H ((Ans.of (op x.ov y.ov)).map .st)) : rJ M op u w H Q := by
  obtain ⟨o, e, k⟩ := r.fin (hs.cons.cons) p
  exact ⟨F, x.ov, y.ov, o, r.fh, r.bor (List.mem_cons_of_mem _ List.mem_cons_self), r.bor List.mem_cons_self, e, k⟩
end
section
variable {X : Cx} {W : WX} {pos : Pos} {a b : Expr} {f g : DE}
theorem bin_red {op : OV → OV → Option OV} {σ : Sl} {H : Hp} {Q : VK} (h : tE X.mg W (dBin op f g) σ H Q) : tE X.mg W f σ H fun u H1 => tE X.mg W g σ H1 fun w H2 => rJ X.mg op u w H2 Q := by
  obtain ⟨G, Z, env, T, r, p⟩ := h
  refine tE.bind r Sb.refl p fun x u H1 _ s1 r1 p1 => ?_
  refine tE.bind r1 Sb.refl.cons p1 fun y w H2 _ s2 r2 p2 => ?_
  obtain ⟨F, C1, C2, r2⟩ := r2
  exact r2.rj Sb.refl p2
theorem je_bin {op : Operator} {opd : OV → OV → Option OV} (ho : OJ X (binaryOp op) opd) (ha : JE X W a f) (hb : JE X W b g) : JE X W (.BinOp a op b pos) (dBin opd f g) :=
  PE.imp (pe_op ho ha hb) fun σ H Q h => bin_red h
theorem je_cmp {op : CmpOp} {opd : OV → OV → Option OV} (ho : OJ X (compareOp op) opd) (ha : JE X W a f) (hb : JE X W b g) (hm : behindInMarks op b = false := by first | exact nomark _ | rfl) : JE X W (.Compare a [op] [b] pos) (dBin opd f g) :=
  PE.imp (pe_cmpR ho ha hb hm) fun σ H Q h => bin_red h
theorem je_un {op : UnaryOp} {opd : OV → Option OV} (ho : UnR X (unaryOp op) (rJ1 X.mg opd)) (ha : JE X W a f) : JE X W (.UnaryOp op a pos) (dUn opd f) :=
  PE.imp (pe_un ho ha) fun σ H Q ⟨G, Z, env, T, r, p⟩ => tE.bind r Sb.refl p fun x u H1 _ s1 r1 p1 => let ⟨F, C1, C2, r1⟩ := r1; r1.rj1 Sb.refl p1
end
abbrev BIG : Nat := 16777216
theorem big_eq : sizeLine = BIG := by rw [sizeLine_eq]
def OV.lst? : OV → Option (List FV)
  | .ol xs => some xs
  | .fz (.lst xs) => some xs
  | _ => none
def FV.tup? : FV → Option (List FV)
  | .tup xs => some xs
  | .tuz xs => some xs
  | _ => none
def opAdd : OV → OV → Option OV
  | .fz (.int i), .fz (.int j) => some (.fz (.int (i + j)))
  | .fz (.str x), .fz (.str y) => if x.length + y.length ≤ BIG then some (.fz (.str (x ++ y))) else none
  | .fz (.tup x), .fz (.tup y) => if x.length + y.length ≤ BIG then some (.fz (.tup (x ++ y))) else none
  | x, y => match x.lst?, y.lst? with
    | some a, some b => if a.length + b.length ≤ BIG then some (.ol (a ++ b)) else none
    | _, _ => none
def opSub : OV → OV → Option OV
  | .fz (.int i), .fz (.int j) => some (.fz (.int (i - j)))
  | _, _ => none
def mulOk (i j : Int) : Bool := decide (i.natAbs < 2 ^ 62) || decide (j.natAbs < 2 ^ 62) || decide (i.natAbs.log2 + j.natAbs.log2 < 1000000)
def opMul : OV → OV → Option OV
  | .fz (.int i), .fz (.int j) => if mulOk i j then some (.fz (.int (i * j))) else none
  | _, _ => none
def opDiv : OV → OV → Option OV
  | .fz (.int i), .fz (.int j) => if 0 < j ∧ j.natAbs < 2 ^ 62 then some (.fz (.int (i / j))) else none
  | _, _ => none
def opMod : OV → OV → Option OV
  | .fz (.int i), .fz (.int j) => if 0 < j then some (.fz (.int (i % j))) else none
  | _, _ => none
def opPow : OV → OV → Option OV
  | .fz (.int i), .fz (.int j) => if 0 ≤ j ∧ j ≤ 1000 ∧ i.natAbs < 2 ^ 60 then some (.fz (.int (i ^ j.toNat))) else none
  | _, _ => none
def opShr : OV → OV → Option OV
  | .fz (.int i), .fz (.int j) => if 0 ≤ j then some (.fz (.int (i / 2 ^ j.toNat))) else none
  | _, _ => none
def opCmp (p : Int → Int → Bool) : OV → OV → Option OV
  | .fz (.int i), .fz (.int j) => some (.fz (.bl (p i j)))
  | _, _ => none
abbrev opLt := opCmp fun i j => decide (i < j)
abbrev opLe := opCmp fun i j => decide (i ≤ j)
abbrev opGt := opCmp fun i j => decide (j < i)
def FV.atom : FV → Bool
  | .non => true
  | .bl _ => true
  | .int _ => true
  | .str _ => true
  | _ => false
def FV.eqD (x y : FV) : Option Bool :=
  match x.toD, y.toD with
    | some d, some e => if SeqAt.shaped d && SeqAt.shaped e then some (PyData.eqv d e) else none
    | _, _ => none
def opEq (x y : OV) : Option OV := match x, y with
  | .fz (.int i), .fz (.int j) => some (.fz (.bl (decide (i = j))))
  | .fz (.str i), .fz (.str j) => some (.fz (.bl (decide (i = j))))
  | _, _ => (x.fv.eqD y.fv).map fun b => .fz (.bl b)
def opNe (x y : OV) : Option OV := match x, y with
  | .fz (.int i), .fz (.int j) => some (.fz (.bl (!decide (i = j))))
  | .fz (.str i), .fz (.str j) => some (.fz (.bl (!decide (i = j))))
  | _, _ => (x.fv.eqD y.fv).map fun b => .fz (.bl !b)
section
variable {M : Str → Option Value} {F H : Hp} {x y : OV} {u w : V}
theorem Bor.int {i : Int} (b : Bor M F H (.fz (.int i)) u) : u = .int i := let ⟨_, d, _⟩ := b; d.1
theorem Bor.bl {i : Bool} (b : Bor M F H (.fz (.bl i)) u) : u = .bl i := let ⟨_, d, _⟩ := b; d.1
theorem Bor.str {i : Str} (b : Bor M F H (.fz (.str i)) u) : u = .str i := let ⟨_, d, _⟩ := b; d.1
theorem Bor.fz {i : FV} (b : Bor M F H (.fz i) u) : FDen M F i u := let ⟨_, d, _⟩ := b; d.1
theorem Bor.lst {xs : List FV} (hf : Same F H) (b : Bor M F H x u) (e : x.lst? = some xs) : ∃ a vs, u = .ref a ∧ H a = some (.lst vs) ∧ FDenL M F xs vs := by
  unfold OV.lst? at e
  split at e
  · cases e
    obtain ⟨A, ⟨a, vs, e, d, q⟩, c⟩ := b
    subst q
    exact ⟨a, vs, e, c _ List.mem_cons_self, d⟩
  · cases e
    obtain ⟨a, vs, e, q, d⟩ := b.fz
    exact ⟨a, vs, e, hf _ _ q, d⟩
  · cases e
theorem FDen.tupT {K : PySem.W.Frag} {xs : List FV} {z : FV} (d : FDen M F z u) (e : z.tup? = some xs) : ∃ a vs, u = .ref a ∧ SqT K F a vs ∧ FDenL M F xs vs := by
  unfold FV.tup? at e
  split at e
  · cases e
    obtain ⟨a, vs, e, q, d⟩ := d
    exact ⟨a, vs, e, SqT.of q, d⟩
  · cases e
    obtain ⟨a, vs, o, e, q, _, _, d⟩ := d
    exact ⟨a, vs, e, .inl (.inr ⟨o, q⟩), d⟩
  · cases e
end
theorem SqT.sameS {K : PySem.W.Frag} {F H : Hp} {a : Addr} {xs : List V} (h : Same F H) (q : SqT K F a xs) : SqT K H a xs := by
  rcases q with (q | ⟨o, q⟩) | q
  · exact .inl (.inl (h _ _ q))
  · exact .inl (.inr ⟨o, h _ _ q⟩)
  · exact .inr q
section
variable {X : Cx}
theorem oj_of {f : Value → Value → Sem Value} {op : OV → OV → Option OV} {r : R2} (ho : OpR X f r) (h : ∀ F H x y u w o Q, Same F H → Bor X.mg F H x u → Bor X.mg F H y w → op x y = some o → (∀ v H', New X.mg F H H' o v → Q v H') → r u w H Q) : OJ X f op :=
  fun pins s σ H u w v1 v2 Q I r1 r2 ⟨F, x, y, o, hf, bx, by', e, k⟩ => ho pins s σ H u w v1 v2 Q I r1 r2 (h F H x y u w o Q hf bx by' e k)
theorem oj_add : OJ X (binaryOp .Add) opAdd := by
  refine oj_of ((op_add.or op_add_str).or (op_catA.or op_cat)) fun F H x y u w o Q hf bx by' e k => ?_
  unfold opAdd at e
  split at e
  · cases e
    exact .inl (.inl ⟨_, _, bx.int, by'.int, k _ _ (New.int hf)⟩)
  · split at e
    · cases e
      exact .inl (.inr ⟨_, _, bx.str, by'.str, by rw [big_eq]; assumption, k _ _ (New.str hf)⟩)
    · cases e
  · split at e
    · rename_i xs ys hz
      cases e
      obtain ⟨a, vs, rfl, q, d⟩ := FDen.tupT (K := X.K) bx.fz (xs := _) rfl
      obtain ⟨b, ws, rfl, q2, d2⟩ := FDen.tupT (K := X.K) by'.fz (xs := _) rfl
      refine .inr (.inl ⟨a, b, vs, ws, rfl, rfl, SqT.sameS hf q, SqT.sameS hf q2, by rw [d.length, d2.length, big_eq]; exact hz, fun e => ?_, fun _ e => ?_, fun _ _ p hp => ?_⟩)
      · subst e
        have ex := d.length
        obtain rfl : xs = [] := List.eq_nil_of_length_eq_zero (by simpa using ex.symm)
        exact k _ _ (New.old hf by'.fz)
      · subst e
        have ex := d2.length
        obtain rfl : ys = [] := List.eq_nil_of_length_eq_zero (by simpa using ex.symm)
        rw [List.append_nil] at k
        exact k _ _ (New.old hf bx.fz)
      · exact k _ _ (New.tup hf hp (d.append d2))
    · cases e
  · split at e
    · rename_i a b e1 e2
      split at e
      · rename_i hz
        cases e
        obtain ⟨p, vs, rfl, q, d⟩ := bx.lst hf e1
        obtain ⟨p2, ws, rfl, q2, d2⟩ := by'.lst hf e2
        exact .inr (.inr ⟨p, p2, vs, ws, rfl, rfl, q, q2, by rw [d.length, d2.length, big_eq]; exact hz, fun p hp => k _ _ (New.lst hf hp (d.append d2))⟩)
      · cases e
    · cases e
theorem oj_sub : OJ X (binaryOp .Sub) opSub := by
  refine oj_of op_sub fun F H x y u w o Q hf bx by' e k => ?_
  unfold opSub at e
  split at e
  · cases e
    exact ⟨_, _, bx.int, by'.int, k _ _ (New.int hf)⟩
  · cases e
theorem mul_le {i : Int} (h : i.natAbs < 2 ^ 62) : -(2 ^ 64) < i ∧ i < 2 ^ 64 := by omega
theorem oj_mul : OJ X (binaryOp .Mult) opMul := by
  refine oj_of (op_mul.or op_mulW) fun F H x y u w o Q hf bx by' e k => ?_
  unfold opMul at e
  split at e
  · split at e
    · rename_i i j hm
      cases e
      unfold mulOk at hm
      rw [Bool.or_eq_true, Bool.or_eq_true] at hm
      rcases hm with (hm | hm) | hm
      · exact .inl ⟨_, _, bx.int, by'.int, .inl (mul_le (of_decide_eq_true hm)), k _ _ (New.int hf)⟩
      · exact .inl ⟨_, _, bx.int, by'.int, .inr (mul_le (of_decide_eq_true hm)), k _ _ (New.int hf)⟩
      · exact .inr ⟨_, _, bx.int, by'.int, show _ from (of_decide_eq_true hm : i.natAbs.log2 + j.natAbs.log2 < 1000000), k _ _ (New.int hf)⟩
    · cases e
  · cases e
theorem oj_div : OJ X (binaryOp .FloorDiv) opDiv := by
  refine oj_of op_fdivW fun F H x y u w o Q hf bx by' e k => ?_
  unfold opDiv at e
  split at e
  · split at e
    · rename_i i j hm
      cases e
      exact ⟨_, _, bx.int, by'.int, wide_div hm.1 (b := 62) hm.2 (by decide) (by decide), k _ _ (New.int hf)⟩
    · cases e
  · cases e
theorem oj_mod : OJ X (binaryOp .Mod) opMod := by
  refine oj_of op_mod fun F H x y u w o Q hf bx by' e k => ?_
  unfold opMod at e
  split at e
  · split at e
    · rename_i i j hm
      cases e
      exact ⟨_, _, bx.int, by'.int, hm, k _ _ (New.int hf)⟩
    · cases e
  · cases e
theorem oj_pow : OJ X (binaryOp .Pow) opPow := by
  refine oj_of op_pow fun F H x y u w o Q hf bx by' e k => ?_
  unfold opPow at e
  split at e
  · split at e
    · rename_i i j hm
      cases e
      exact ⟨_, _, bx.int, by'.int, ⟨hm.1, by omega, Nat.lt_of_lt_of_le hm.2.2 (by decide)⟩, k _ _ (New.int hf)⟩
    · cases e
  · cases e
theorem oj_shr : OJ X (binaryOp .RShift) opShr := by
  refine oj_of op_shr fun F H x y u w o Q hf bx by' e k => ?_
  unfold opShr at e
  split at e
  · split at e
    · rename_i i j hm
      cases e
      exact ⟨_, _, bx.int, by'.int, hm, k _ _ (New.int hf)⟩
    · cases e
  · cases e
theorem oj_cmp {op : CmpOp} {p : Int → Int → Bool} (ho : OpR X (compareOp op) (rI0 fun i j => .bl (p i j))) : OJ X (compareOp op) (opCmp p) := by
  refine oj_of ho fun F H x y u w o Q hf bx by' e k => ?_
  unfold opCmp at e
  split at e
  · cases e
    exact ⟨_, _, bx.int, by'.int, k _ _ (New.bl hf)⟩
  · cases e
theorem oj_lt : OJ X (compareOp .Lt) opLt := oj_cmp op_lt
theorem oj_le : OJ X (compareOp .LtE) opLe := oj_cmp op_le
theorem oj_gt : OJ X (compareOp .Gt) opGt := oj_cmp op_gt
theorem eqD_of {M : Str → Option Value} {K : PySem.W.Frag} {F H : Hp} {x y : OV} {u w : V} {b : Bool} (hf : Same F H) (bx : Bor M F H x u) (by' : Bor M F H y w) (e : x.fv.eqD y.fv = some b) :
    ∃ d e, Dp K H u d ∧ Dp K H w e ∧ SeqAt.shaped d = true ∧ SeqAt.shaped e = true ∧ b = PyData.eqv d e := by
  unfold FV.eqD at e
  split at e
  · rename_i d1 d2 e1 e2
    split at e
    · rename_i hs
      cases e
      rw [Bool.and_eq_true] at hs
      exact ⟨d1, d2, (bx.fden hf).dp e1, (by'.fden hf).dp e2, hs.1, hs.2, rfl⟩
    · cases e
  · cases e
theorem oj_eq (hu : X.A.units + 64 < cLine) : OJ X (compareOp .Eq) opEq := by
  refine oj_of (op_eq.or (op_eqD hu)) fun F H x y u w o Q hf bx by' e k => ?_
  unfold opEq at e
  split at e
  · cases e
    rename_i i j
    exact .inl ⟨by rw [bx.int, by'.int]; rfl, by rw [bx.int, by'.int, dec_int, Bool.beq_eq_decide_eq]; exact k _ _ (New.bl hf)⟩
  · cases e
    rename_i i j
    exact .inl ⟨by rw [bx.str, by'.str]; rfl, by rw [bx.str, by'.str, dec_str, Bool.beq_eq_decide_eq]; exact k _ _ (New.bl hf)⟩
  · obtain ⟨b, e1, e2⟩ := Option.map_eq_some_iff.mp e
    subst e2
    obtain ⟨d, d', h1, h2, h3, h4, rfl⟩ := eqD_of (K := X.K) hf bx by' e1
    exact .inr ⟨d, d', h1, h2, h3, h4, k _ _ (New.bl hf)⟩
theorem oj_ne (hu : X.A.units + 64 < cLine) : OJ X (compareOp .NotEq) opNe := by
  refine oj_of (op_ne.or (op_neD hu)) fun F H x y u w o Q hf bx by' e k => ?_
  unfold opNe at e
  split at e
  · cases e
    rename_i i j
    exact .inl ⟨by rw [bx.int, by'.int]; rfl, by rw [bx.int, by'.int, dec_int, Bool.beq_eq_decide_eq]; exact k _ _ (New.bl hf)⟩
  · cases e
    rename_i i j
    exact .inl ⟨by rw [bx.str, by'.str]; rfl, by rw [bx.str, by'.str, dec_str, Bool.beq_eq_decide_eq]; exact k _ _ (New.bl hf)⟩
  · obtain ⟨b, e1, e2⟩ := Option.map_eq_some_iff.mp e
    subst e2
    obtain ⟨d, d', h1, h2, h3, h4, rfl⟩ := eqD_of (K := X.K) hf bx by' e1
    exact .inr ⟨d, d', h1, h2, h3, h4, k _ _ (New.bl hf)⟩
end
end J
namespace J
open PySem PySem.Spec PyProof.Rows L2
theorem Ans.bind_assoc {α β γ : Type} (x : Ans α) (f : α → Ans β) (g : β → Ans γ) : (x.bind f).bind g = x.bind fun a => (f a).bind g := by cases x <;> rfl
def Rv.bool (r : Rv) : Ans Bool := match r.ov with
  | .fz (.bl b) => .ok b
  | _ => .no
theorem Rv.bool_or (r : Rv) : (∃ b, r.ov = .fz (.bl b) ∧ r.bool = .ok b) ∨ r.bool = .no := by
  unfold Rv.bool
  split
  · rename_i b e
    exact .inl ⟨b, e, rfl⟩
  · exact .inr rfl
def dTest (f : DE) : DT := fun env => (f env).bind Rv.bool
def dB (f : DT) : DE := fun env => (f env).bind fun b => .ok (.st (.fz (.bl b)))
def dNotT (f : DT) : DT := fun env => (f env).bind fun b => .ok !b
def dAndT (f g : DT) : DT := fun env => (f env).bind fun b => if b then g env else .ok false
def dOrT (f g : DT) : DT := fun env => (f env).bind fun b => if b then .ok true else g env
section
variable {M : Str → Option Value} {G Z H F : Hp} {σ : Sl} {env : VEnv} {T T2 : List (V × Rv)} {C1 C2 : Cells} {u : V} {x : Rv}
theorem RF.boolT {W : WX} {Q : Bool → Hp → Prop} {k : Bool → Ans Bool} (r : RF M G Z H F σ env T2 C1 C2) (h : (u, x) ∈ T2) (p : PostT M W G Z σ env T Q H (x.bool.bind k)) : ∃ b, u = .bl b ∧ PostT M W G Z σ env T Q H (k b) := by
  rcases x.bool_or with ⟨b, e, e2⟩ | e
  · have hb := r.bor h
    rw [show (u, x).2.ov = x.ov from rfl, e] at hb
    rw [e2] at p
    exact ⟨b, hb.bl, p⟩
  · rw [e] at p; exact p.elim
theorem RF.bool {W : WX} {Q : VK} {k : Bool → Ans Rv} (r : RF M G Z H F σ env T2 C1 C2) (h : (u, x) ∈ T2) (p : Post M W G Z σ env T Q H (x.bool.bind k)) : ∃ b, u = .bl b ∧ Post M W G Z σ env T Q H (k b) := by
  rcases x.bool_or with ⟨b, e, e2⟩ | e
  · have hb := r.bor h
    rw [show (u, x).2.ov = x.ov from rfl, e] at hb
    rw [e2] at p
    exact ⟨b, hb.bl, p⟩
  · rw [e] at p; exact p.elim
end
section
variable {X : Cx} {W : WX} {pos : Pos} {a b e : Expr} {rest : List Expr} {f g : DE} {ft gt : DT}
theorem Ans.bind_ok {α : Type} (x : Ans α) : x.bind .ok = x := by cases x <;> rfl
theorem tB_red {Q : Bool → Hp → Prop} {σ : Sl} {H : Hp} (h : tT X.mg W (dTest f) σ H Q) : tE X.mg W f σ H fun x H1 => ∃ c, x = .bl c ∧ Q c H1 := by
  obtain ⟨G, Z, env, T, r, p⟩ := h
  refine tE.bindT r Sb.refl p fun x u H1 _ s1 ⟨F, C1, C2, r1⟩ p1 => ?_
  rw [← Ans.bind_ok x.bool] at p1
  obtain ⟨b, e, p1⟩ := r1.boolT List.mem_cons_self p1
  exact ⟨b, e, p1 H1 (Same.refl _) r1.r.pop⟩
theorem jt_val (h : JE X W e f) (he : ∀ whole, isTrue e X.env whole = (do let v ← whole; standAt e.pos; holding [v] (truthy v)) := by intro _; rfl) : JT X W e (dTest f) :=
  PT.imp (pt_val h he) fun σ H Q h => tB_red h
theorem jt_cmp {op : CmpOp} {opd : OV → OV → Option OV} (ho : OJ X (compareOp op) opd) (ha : JE X W a f) (hb : JE X W b g) (hm : behindInMarks op b = false := by first | exact nomark _ | rfl) : JT X W (.Compare a [op] [b] pos) (dTest (dBin opd f g)) := by
  refine PT.imp (pt_cmpR ho ha hb hm) fun σ H Q ⟨G, Z, env, T, r, p⟩ => ?_
  show tE X.mg W f σ H fun u H1 => tE X.mg W g σ H1 fun w H2 => rJ X.mg opd u w H2 fun x H' => ∃ k, x = .bl k ∧ Q k H'
  have p' : PostT X.mg W G Z σ env T Q H ((f env).bind fun x => (g env).bind fun y => ((Ans.of (opd x.ov y.ov)).map .st).bind Rv.bool) := by
    have p2 := p
    unfold dTest dBin at p2
    rw [Ans.bind_assoc] at p2
    simp only [Ans.bind_assoc] at p2
    exact p2
  refine tE.bindT r Sb.refl p' fun x u H1 _ s1 r1 p1 => ?_
  refine tE.bindT r1 Sb.refl.cons p1 fun y w H2 _ s2 ⟨F, C1, C2, r2⟩ p2 => ?_
  cases e : opd x.ov y.ov with
  | none => rw [e] at p2; exact p2.elim
  | some o =>
    rw [e] at p2
    refine ⟨F, x.ov, y.ov, o, r2.fh, r2.bor (List.mem_cons_of_mem _ List.mem_cons_self), r2.bor List.mem_cons_self, e, fun v H' n => ?_⟩
    obtain ⟨F3, C3, C4, r3⟩ := r2.new n
    have p3 : PostT X.mg W G Z σ env T Q H2 (Rv.bool (.st o)) := p2
    rw [← Ans.bind_ok (Rv.bool _)] at p3
    obtain ⟨b, e, p3⟩ := r3.boolT List.mem_cons_self (p3.later (let ⟨_, _, n⟩ := n; n.hh))
    exact ⟨b, e, p3 H' (Same.refl _) (r3.r.sb (Sb.refl.cons.cons.cons))⟩
theorem jt_not (h : JT X W a ft) : JT X W (.UnaryOp .Not a pos) (dNotT ft) := by
  refine PT.imp (pt_not h) fun σ H Q ⟨G, Z, env, T, r, p⟩ => ⟨G, Z, env, T, r, ?_⟩
  unfold dNotT at p
  cases e : ft env with
  | ok b => rw [e] at p; exact p
  | ex c => rw [e] at p; exact p
  | no => rw [e] at p; exact p
theorem jw_and1 (h : JT X W a ft) : JW X W (.BoolOp .And [a] pos) ft := pw_and1 h
theorem jw_or1 (h : JT X W a ft) : JW X W (.BoolOp .Or [a] pos) ft := pw_or1 h
theorem jw_and (ha : JT X W a ft) (hb : JW X W (.BoolOp .And (b :: rest) pos) gt) : JW X W (.BoolOp .And (a :: b :: rest) pos) (dAndT ft gt) := by
  refine PW.imp (pw_and ha hb) fun σ H Q ⟨G, Z, env, T, r, p⟩ => ?_
  refine tT.bindT r Sb.refl p fun c H1 _ s1 r1 p1 => ?_
  cases c with
  | true =>
    rw [if_pos rfl] at p1 ⊢
    exact ⟨G, Z, env, T, r1, p1⟩
  | false =>
    rw [if_neg Bool.false_ne_true] at p1 ⊢
    exact p1 H1 (Same.refl _) r1
theorem jw_or (ha : JT X W a ft) (hb : JW X W (.BoolOp .Or (b :: rest) pos) gt) : JW X W (.BoolOp .Or (a :: b :: rest) pos) (dOrT ft gt) := by
  refine PW.imp (pw_or ha hb) fun σ H Q ⟨G, Z, env, T, r, p⟩ => ?_
  refine tT.bindT r Sb.refl p fun c H1 _ s1 r1 p1 => ?_
  cases c with
  | true =>
    rw [if_pos rfl] at p1 ⊢
    exact p1 H1 (Same.refl _) r1
  | false =>
    rw [if_neg Bool.false_ne_true] at p1 ⊢
    exact ⟨G, Z, env, T, r1, p1⟩
theorem jt_w (h : JW X W a ft) : JT X W a ft := PW.pt h
theorem b_red {σ : Sl} {H : Hp} {Q : VK} {G Z : Hp} {env : VEnv} {T : List (V × Rv)} {b : Bool} (r : R X.mg G Z H σ env T) (p : Post X.mg W G Z σ env T Q H (.ok (.st (.fz (.bl b))))) : Q (.bl b) H :=
  let ⟨F, C1, C2, r⟩ := r
  p _ H (Same.refl _) (r.new (New.bl r.fh))
theorem test_bind {σ : Sl} {H : Hp} {Q : VK} {G Z : Hp} {env : VEnv} {T : List (V × Rv)} {k : Bool → Ans Rv} {Q1 : Bool → Hp → Prop} (r : R X.mg G Z H σ env T) (p : Post X.mg W G Z σ env T Q H ((dTest f env).bind k))
    (h : ∀ b H1, Same H H1 → R X.mg G Z H1 σ env T → Post X.mg W G Z σ env T Q H1 (k b) → Q1 b H1) : tE X.mg W f σ H fun x H1 => ∃ c, x = .bl c ∧ Q1 c H1 := by
  unfold dTest at p
  rw [Ans.bind_assoc] at p
  refine tE.bind r Sb.refl p fun x u H1 _ s1 ⟨F, C1, C2, r1⟩ p1 => ?_
  obtain ⟨b, e, p1⟩ := r1.bool List.mem_cons_self p1
  exact ⟨b, e, h b H1 s1 r1.r.pop p1⟩
theorem je_not (h : JE X W a f) : JE X W (.UnaryOp .Not a pos) (dB (dNotT (dTest f))) := by
  refine PE.imp (pe_not h) fun σ H Q ⟨G, Z, env, T, r, p⟩ => ?_
  have p' : Post X.mg W G Z σ env T Q H ((dTest f env).bind fun b => .ok (.st (.fz (.bl !b)))) := by
    have p2 := p
    unfold dB dNotT at p2
    rw [Ans.bind_assoc] at p2
    exact p2
  exact test_bind r p' fun b H1 s1 r1 p1 => b_red r1 p1
def dAndV (f g : DE) : DE := fun env => (dTest f env).bind fun b => if b then g env else .ok (.st (.fz (.bl false)))
theorem je_one {op} (h : JE X W a f) : JE X W (.BoolOp op [a] pos) f := pe_one h
theorem je_and (ha : JE X W a f) (hb : JE X W (.BoolOp .And (b :: rest) pos) g) : JE X W (.BoolOp .And (a :: b :: rest) pos) (dAndV f g) := by
  refine PE.imp (pe_and ha hb) fun σ H Q ⟨G, Z, env, T, r, p⟩ => test_bind r p fun c H1 s1 r1 p1 => ?_
  cases c with
  | true =>
    rw [if_pos rfl] at p1 ⊢
    exact ⟨G, Z, env, T, r1, p1⟩
  | false =>
    rw [if_neg Bool.false_ne_true] at p1 ⊢
    exact b_red r1 p1
end
def FV.isNon : FV → Bool
  | .non => true
  | _ => false
def opNeg : OV → Option OV
  | .fz (.int i) => some (.fz (.int (-i)))
  | _ => none
def opIsN (x : OV) : Option OV := some (.fz (.bl x.fv.isNon))
def opNotN (x : OV) : Option OV := some (.fz (.bl !x.fv.isNon))
theorem FDen.isNon {M : Str → Option Value} {F : Hp} {x : FV} {v : V} (d : FDen M F x v) : decide (v = .non) = x.isNon := by
  cases x with
  | non => rw [show v = .non from d]; rfl
  | bl b => rw [show v = .bl b from d]; rfl
  | int b => rw [show v = .int b from d]; rfl
  | str b => rw [show v = .str b from d]; rfl
  | tup b => obtain ⟨a, vs, e, _⟩ := d; rw [e]; rfl
  | tuz b => obtain ⟨a, vs, o, e, _⟩ := d; rw [e]; rfl
  | lst b => obtain ⟨a, vs, e, _⟩ := d; rw [e]; rfl
  | dK b => obtain ⟨a, vs, e, _⟩ := d; rw [e]; rfl
  | dT b => obtain ⟨a, vs, e, _⟩ := d; rw [e]; rfl
  | ins c b => obtain ⟨a, C, dx, vs, e, _⟩ := d; rw [e]; rfl
  | exc b => obtain ⟨a, C, e, _⟩ := d; rw [e]; rfl
  | scr b => obtain ⟨a, e, _⟩ := d; rw [e]; rfl
  | dN b => obtain ⟨a, kb, e, _⟩ := d; rw [e]; rfl
section
variable {X : Cx} {W : WX} {pos pos' : Pos} {a b c : Expr} {f g h : DE}
theorem je_neg (ha : JE X W a f) : JE X W (.UnaryOp .USub a pos) (dUn opNeg f) := by
  refine je_un (fun pins s σ H u v Q I r1 ⟨F, x, o, hf, bx, e, k⟩ => ?_) ha
  unfold opNeg at e
  split at e
  · cases e
    exact un_neg pins s σ H u v Q I r1 ⟨_, bx.int, k _ _ (New.int hf)⟩
  · cases e
theorem tt_red {opd : OV → Option OV} {p : Bool → Bool} (hp : ∀ x, opd x = some (.fz (.bl (p x.fv.isNon)))) {σ : Sl} {H : Hp} {Q : Bool → Hp → Prop} (h : tT X.mg W (dTest (dUn opd f)) σ H Q) : tE X.mg W f σ H fun x H1 => ∃ c, V.bl (p (decide (x = .non))) = .bl c ∧ Q c H1 := by
  obtain ⟨G, Z, env, T, r, q⟩ := h
  have q' : PostT X.mg W G Z σ env T Q H ((f env).bind fun x => .ok (p x.ov.fv.isNon)) := by
    have q2 := q
    unfold dTest dUn at q2
    simp only [Ans.bind_assoc, hp] at q2
    exact q2
  refine tE.bindT r Sb.refl q' fun x u H1 _ s1 r1 p1 => ?_
  obtain ⟨F, C1, C2, r1⟩ := r1
  have hb := r1.bor List.mem_cons_self
  have e : decide (u = .non) = x.ov.fv.isNon := (hb.fden r1.fh).isNon
  refine ⟨_, rfl, ?_⟩
  rw [e]
  exact p1 H1 (Same.refl _) r1.r.pop
theorem jt_isN {j} (ha : JE X W a f) : JT X W (.Compare a [.Is] [.Constant .none j pos'] pos) (dTest (dUn opIsN f)) :=
  PT.imp (pt_cmp (pc_isN ha)) fun σ H Q h => tt_red (p := fun b => b) (fun _ => rfl) h
theorem jt_notN {j} (ha : JE X W a f) : JT X W (.Compare a [.IsNot] [.Constant .none j pos'] pos) (dTest (dUn opNotN f)) :=
  PT.imp (pt_cmp (pc_notN ha)) fun σ H Q h => tt_red (p := fun b => !b) (fun _ => rfl) h
end
def dNil : VEnv → Ans (List Rv) := fun _ => .ok []
def dCons (f : DE) (g : VEnv → Ans (List Rv)) : VEnv → Ans (List Rv) := fun env => (f env).bind fun r => (g env).bind fun rs => .ok (r :: rs)
section
variable {X : Cx} {W : WX} {pos : Pos} {e : Expr} {es : List Expr} {f : DE} {g : VEnv → Ans (List Rv)}
theorem ja_nil : JA X W [] dNil := PA.imp pa_nil fun σ H Q ⟨G, Z, env, T, r, p⟩ => p [] H rfl (Same.refl _) r
theorem ja_cons (he : JE X W e f) (hr : JA X W es g) (hs : starEach (e :: es) X.env = (false, eval e X.env) :: starEach es X.env := by rfl) : JA X W (e :: es) (dCons f g) := by
  refine PA.imp (pa_cons he hr hs) fun σ H Q ⟨G, Z, env, T, r, p⟩ => ?_
  refine tE.bindA r Sb.refl p fun x u H1 _ s1 r1 p1 => ?_
  refine ⟨G, Z, env, (u, x) :: T, r1, ?_⟩
  cases e2 : g env with
  | ok rs =>
    rw [e2] at p1
    intro vs H2 hl s2 r2
    refine p1 (u :: vs) H2 (by simp [hl]) s2 (r2.perm ?_)
    rw [List.zip_cons_cons]
    exact List.perm_middle
  | ex c =>
    rw [e2] at p1
    exact fun C H2 m s2 r2 => p1 C H2 m s2 r2.pop
  | no => rw [e2] at p1; exact p1
end
def Rv.fz? : Rv → Option FV
  | .st (.fz x) => some x
  | _ => none
def Rv.st? : Rv → Option OV
  | .st o => some o
  | _ => none
def allFz : List Rv → Option (List FV)
  | [] => some []
  | r :: rs => match r.fz?, allFz rs with
    | some x, some xs => some (x :: xs)
    | _, _ => none
def dList (g : VEnv → Ans (List Rv)) : DE := fun env => (g env).bind fun rs => if rs.length ≤ 1000 then (match allFz rs with | some xs => .ok (.st (.ol xs)) | none => .no) else .no
def dTup (g : VEnv → Ans (List Rv)) : DE := fun env => (g env).bind fun rs => if rs.length ≤ 1000 then (match allFz rs with | some xs => .ok (.st (.fz (.tup xs))) | none => .no) else .no
theorem le1000 {n : Nat} (h : n ≤ 1000) : n ≤ sizeLine := Nat.le_trans h (by rw [sizeLine_eq]; decide)
section
variable {M : Str → Option Value} {G Z H F : Hp} {σ : Sl} {env : VEnv} {T T2 : List (V × Rv)} {C1 C2 : Cells}
theorem fz_den : ∀ {rs : List Rv} {vs : List V} {xs : List FV}, vs.length = rs.length → allFz rs = some xs → (∀ p ∈ vs.zip rs, Bor M F H p.2.ov p.1) → FDenL M F xs vs
  | [], vs, xs, hl, e, _ => by
    cases e
    exact List.eq_nil_of_length_eq_zero hl
  | r :: rs, [], xs, hl, e, _ => by simp at hl
  | r :: rs, v :: vs, xs, hl, e, hb => by
    unfold allFz at e
    split at e
    · rename_i x ys e1 e2
      cases e
      have hr : r = .st (.fz x) := by
        unfold Rv.fz? at e1
        split at e1
        · cases e1; rfl
        · cases e1
      subst hr
      exact ⟨v, vs, rfl, (hb (v, .st (.fz x)) (by simp)).fz, fz_den (by simpa using hl) e2 fun p hp => hb p (by rw [List.zip_cons_cons]; exact List.mem_cons_of_mem _ hp)⟩
    · cases e
end
section
variable {X : Cx} {W : WX} {pos : Pos} {es : List Expr} {g : VEnv → Ans (List Rv)}
theorem je_list (h : JA X W es g) : JE X W (.List es pos) (dList g) := by
  refine PE.imp (pe_lst h) fun σ H Q ⟨G, Z, env, T, r, p⟩ => ?_
  refine tA.bind r Sb.refl p fun rs vs H1 _ hl s1 ⟨F, C1, C2, r1⟩ p1 => ?_
  split at p1
  · rename_i hz
    split at p1
    · rename_i xs e
      refine ⟨by rw [hl]; exact le1000 hz, fun q hq => p1 _ _ (same_upd hq) ?_⟩
      exact (r1.new (New.lst r1.fh hq (fz_den hl e fun p hp => r1.bor (List.mem_append_left _ hp)))).sb (Sb.both ⟨vs.zip rs, List.perm_append_comm⟩)
    · exact p1.elim
  · exact p1.elim
theorem je_tup {k} (h : JA X W es g) : JE X W (.Tuple es k pos) (dTup g) := by
  refine PE.imp (pe_tup h) fun σ H Q ⟨G, Z, env, T, r, p⟩ => ?_
  refine tA.bind r Sb.refl p fun rs vs H1 _ hl s1 ⟨F, C1, C2, r1⟩ p1 => ?_
  split at p1
  · rename_i hz
    split at p1
    · rename_i xs e
      refine ⟨by rw [hl]; exact le1000 hz, fun q hq => p1 _ _ (same_upd hq) ?_⟩
      exact (r1.new (New.tup r1.fh hq (fz_den hl e fun p hp => r1.bor (List.mem_append_left _ hp)))).sb (Sb.both ⟨vs.zip rs, List.perm_append_comm⟩)
    · exact p1.elim
  · exact p1.elim
end
end J
namespace J
open PySem PySem.Spec PyProof.Rows L2
theorem atI_den {M : Str → Option Value} {F : Hp} {xs : List FV} {vs : List V} {i : Int} {x : FV} (d : FDenL M F xs vs) (e : atI xs i = some x) : ∃ v, atI vs i = some v ∧ FDen M F x v := by
  unfold atI at e ⊢
  obtain ⟨j, e1, e2⟩ := Option.bind_eq_some_iff.mp e
  obtain ⟨v, e3, e4⟩ := d.get e2
  exact ⟨v, by rw [d.length, e1]; exact e3, e4⟩
theorem OwnL.length {M : Str → Option Value} {F : Hp} : ∀ {xs : List OV} {vs : List V} {L : Cells}, OwnL M F xs vs L → vs.length = xs.length
  | [], _, _, h => by rw [h.1]; rfl
  | _ :: _, _, _, ⟨v, ws, A, B, e, d, r, q⟩ => by rw [e, List.length_cons, List.length_cons, OwnL.length r]
theorem OwnL.get {M : Str → Option Value} {F : Hp} : ∀ {xs : List OV} {vs : List V} {L : Cells} {i : Nat} {x : OV}, OwnL M F xs vs L → xs[i]? = some x → ∃ v A, vs[i]? = some v ∧ Own M F x v A ∧ ∀ p ∈ A, p ∈ L
  | [], _, _, _, _, _, h => by simp at h
  | _ :: _, _, _, 0, _, ⟨v, ws, A, B, e, d, r, q⟩, h => by
    rw [List.getElem?_cons_zero] at h
    cases h
    exact ⟨v, A, by rw [e]; rfl, d, fun p hp => by rw [q]; exact List.mem_append_left _ hp⟩
  | _ :: _, _, _, i + 1, _, ⟨v, ws, A, B, e, d, r, q⟩, h => by
    rw [List.getElem?_cons_succ] at h
    obtain ⟨w, A2, h1, h2, h3⟩ := OwnL.get r h
    exact ⟨w, A2, by rw [e, List.getElem?_cons_succ]; exact h1, h2, fun p hp => by rw [q]; exact List.mem_append_right _ (h3 p hp)⟩
theorem atI_own {M : Str → Option Value} {F H : Hp} {xs : List OV} {vs : List V} {L : Cells} {i : Int} {x : OV} (d : OwnL M F xs vs L) (c : ∀ p ∈ L, H p.1 = some p.2) (e : atI xs i = some x) : ∃ v, atI vs i = some v ∧ Bor M F H x v := by
  unfold atI at e ⊢
  obtain ⟨j, e1, e2⟩ := Option.bind_eq_some_iff.mp e
  obtain ⟨v, A, e3, e4, e5⟩ := d.get e2
  exact ⟨v, by rw [d.length, e1]; exact e3, A, e4, fun p hp => c p (e5 p hp)⟩
def lookK {κ α : Type} [DecidableEq κ] (kvs : List (κ × α)) (k : κ) : Option α := (kvs.find? fun kv => decide (kv.1 = k)).map (·.2)
theorem lookK_cons {κ α : Type} [DecidableEq κ] (p : κ × α) (kvs : List (κ × α)) (k : κ) : lookK (p :: kvs) k = if p.1 = k then some p.2 else lookK kvs k := by
  unfold lookK
  rw [List.find?_cons]
  by_cases h : p.1 = k
  · simp [h]
  · simp [h]
section
variable {M : Str → Option Value} {F H : Hp}
theorem FDenK.look : ∀ {kvs : List (Key × FV)} {ws : List (Key × V)} (k : Key), FDenK M F kvs ws → (∃ x v, lookK kvs k = some x ∧ valV ws k = some v ∧ FDen M F x v) ∨ (lookK kvs k = none ∧ valV ws k = none)
  | [], _, k, e => by rw [show _ = [] from e]; exact .inr ⟨rfl, rfl⟩
  | (j, x) :: r, _, k, ⟨v, rs, e, d, q⟩ => by
    rw [e, lookK_cons]
    by_cases h : j = k
    · rw [if_pos h]
      exact .inl ⟨x, v, rfl, valV_pos h, d⟩
    · rw [if_neg h, valV_neg (p := (j, v)) h]
      exact FDenK.look k q
theorem FDenT.look : ∀ {kvs : List (List Key × FV)} {ws : List (List Key × V)} (k : List Key), FDenT M F kvs ws → (∃ x v, lookK kvs k = some x ∧ valV ws k = some v ∧ FDen M F x v) ∨ (lookK kvs k = none ∧ valV ws k = none)
  | [], _, k, e => by rw [show _ = [] from e]; exact .inr ⟨rfl, rfl⟩
  | (j, x) :: r, _, k, ⟨v, rs, e, d, q⟩ => by
    rw [e, lookK_cons]
    by_cases h : j = k
    · rw [if_pos h]
      exact .inl ⟨x, v, rfl, valV_pos h, d⟩
    · rw [if_neg h, valV_neg (p := (j, v)) h]
      exact FDenT.look k q
theorem OwnK.look : ∀ {kvs : List (Key × OV)} {ws : List (Key × V)} {L : Cells} (k : Key), OwnK M F kvs ws L → (∃ x v A, lookK kvs k = some x ∧ valV ws k = some v ∧ Own M F x v A ∧ ∀ p ∈ A, p ∈ L) ∨ (lookK kvs k = none ∧ valV ws k = none)
  | [], _, _, k, e => by rw [e.1]; exact .inr ⟨rfl, rfl⟩
  | (j, x) :: r, _, _, k, ⟨v, rs, A, B, e, d, q, z⟩ => by
    rw [e, lookK_cons]
    by_cases h : j = k
    · rw [if_pos h]
      exact .inl ⟨x, v, A, rfl, valV_pos h, d, fun p hp => by rw [z]; exact List.mem_append_left _ hp⟩
    · rw [if_neg h, valV_neg (p := (j, v)) h]
      rcases OwnK.look k q with ⟨y, w, A2, h1, h2, h3, h4⟩ | h
      · exact .inl ⟨y, w, A2, h1, h2, h3, fun p hp => by rw [z]; exact List.mem_append_right _ (h4 p hp)⟩
      · exact .inr h
end
def FV.key? : FV → Option Key
  | .int i => some (.inl i)
  | .str x => some (.inr x)
  | _ => none
def keys? : List FV → Option (List Key)
  | [] => some []
  | x :: xs => match x.key?, keys? xs with
    | some k, some ks => some (k :: ks)
    | _, _ => none
def FV.keyT? : FV → Option (List Key)
  | .tup xs => keys? xs
  | _ => none
theorem FDen.key {M : Str → Option Value} {F : Hp} {x : FV} {v : V} {k : Key} (d : FDen M F x v) (e : x.key? = some k) : v = kV k := by
  unfold FV.key? at e
  split at e
  · cases e; exact d
  · cases e; exact d
  · cases e
theorem FDenL.keys {M : Str → Option Value} {F : Hp} : ∀ {xs : List FV} {vs : List V} {ks : List Key}, FDenL M F xs vs → keys? xs = some ks → vs = ks.map kV
  | [], _, _, d, e => by cases e; exact d
  | x :: xs, _, ks, ⟨v, ws, ev, d, r⟩, e => by
    unfold keys? at e
    split at e
    · rename_i k ks' e1 e2
      cases e
      rw [ev, d.key e1, FDenL.keys r e2]
      rfl
    · cases e
theorem FDen.keyT {M : Str → Option Value} {F : Hp} {x : FV} {v : V} {k : List Key} (d : FDen M F x v) (e : x.keyT? = some k) : ∃ b, v = .ref b ∧ F b = some (.tup (k.map kV)) := by
  unfold FV.keyT? at e
  split at e
  · obtain ⟨a, vs, ev, q, r⟩ := d
    rw [r.keys e] at q
    exact ⟨a, ev, q⟩
  · cases e
def OV.isD : OV → Bool
  | .oK _ => true
  | .oT _ => true
  | .dd _ => true
  | .fz (.dK _) => true
  | .fz (.dT _) => true
  | _ => false
def dGet (x : OV) (k : FV) : Option (Option Rv) := match x with
  | .oK kvs => k.key?.map fun k => (lookK kvs k).map fun v => .st (.fz v)
  | .fz (.dK kvs) => k.key?.map fun k => (lookK kvs k).map fun v => .st (.fz v)
  | .dd kvs => k.key?.map fun k => (lookK kvs k).map .bo
  | .oT kvs => k.keyT?.map fun k => (lookK kvs k).map fun v => .st (.fz v)
  | .fz (.dT kvs) => k.keyT?.map fun k => (lookK kvs k).map fun v => .st (.fz v)
  | _ => none
def ResIs (M : Str → Option Value) (F H : Hp) (r : Rv) (v : V) : Prop := match r with
  | .st (.fz x) => FDen M F x v
  | .bo o => Bor M F H o v
  | _ => False
theorem RF.res {M : Str → Option Value} {G Z H F : Hp} {σ : Sl} {env : VEnv} {T : List (V × Rv)} {C1 C2 : Cells} {r : Rv} {v : V} (q : RF M G Z H F σ env T C1 C2) (h : ResIs M F H r v) : R M G Z H σ env ((v, r) :: T) := by
  unfold ResIs at h
  split at h
  · exact q.new (New.old q.fh h)
  · exact ⟨F, C1, C2, q.gf, q.fg, q.fh, q.zh, q.ev, .bo h q.tm, q.gd⟩
  · exact h.elim
theorem dGet_den {M : Str → Option Value} {F H : Hp} {x : OV} {k : FV} {u w : V} {o : Option Rv} (hf : Same F H) (bx : Bor M F H x u) (dk : FDen M F k w) (e : dGet x k = some o) :
    ∃ a ov, u = .ref a ∧ DGet H a w ov ∧ ov.isSome = o.isSome ∧ ∀ r, o = some r → ∃ v, ov = some v ∧ ResIs M F H r v := by
  have caseK : ∀ {kvs : List (Key × FV)} {ws : List (Key × V)} {a : Addr}, H a = some (.dK ws) → FDenK M F kvs ws → (k.key?.map fun k => (lookK kvs k).map fun v => Rv.st (.fz v)) = some o → ∃ ov, DGet H a w ov ∧ ov.isSome = o.isSome ∧ ∀ r, o = some r → ∃ v, ov = some v ∧ ResIs M F H r v := by
    intro kvs ws a hH d e
    obtain ⟨j, e1, e2⟩ := Option.map_eq_some_iff.mp e
    subst e2
    rw [dk.key e1]
    refine ⟨_, DGet.k hH, ?_⟩
    rcases d.look j with ⟨x, v, h1, h2, h3⟩ | ⟨h1, h2⟩
    · rw [h1, h2]
      exact ⟨rfl, fun r e => by cases e; exact ⟨v, rfl, h3⟩⟩
    · rw [h1, h2]
      exact ⟨rfl, fun r e => nomatch e⟩
  have caseT : ∀ {kvs : List (List Key × FV)} {ws : List (List Key × V)} {a : Addr}, H a = some (.dT ws) → FDenT M F kvs ws → (k.keyT?.map fun k => (lookK kvs k).map fun v => Rv.st (.fz v)) = some o → ∃ ov, DGet H a w ov ∧ ov.isSome = o.isSome ∧ ∀ r, o = some r → ∃ v, ov = some v ∧ ResIs M F H r v := by
    intro kvs ws a hH d e
    obtain ⟨j, e1, e2⟩ := Option.map_eq_some_iff.mp e
    subst e2
    obtain ⟨b, rfl, hb⟩ := dk.keyT e1
    refine ⟨_, DGet.t hH (hf _ _ hb), ?_⟩
    rcases d.look j with ⟨x, v, h1, h2, h3⟩ | ⟨h1, h2⟩
    · rw [h1, h2]
      exact ⟨rfl, fun r e => by cases e; exact ⟨v, rfl, h3⟩⟩
    · rw [h1, h2]
      exact ⟨rfl, fun r e => nomatch e⟩
  obtain ⟨A, ow, c⟩ := bx
  unfold dGet at e
  split at e
  · obtain ⟨a, ws, rfl, d, q⟩ := ow
    subst q
    obtain ⟨ov, h⟩ := caseK (c _ List.mem_cons_self) d e
    exact ⟨a, ov, rfl, h⟩
  · obtain ⟨⟨a, ws, rfl, q, d⟩, _⟩ := ow
    obtain ⟨ov, h⟩ := caseK (hf _ _ q) d e
    exact ⟨a, ov, rfl, h⟩
  · obtain ⟨a, ws, L', rfl, d, q⟩ := ow
    subst q
    obtain ⟨j, e1, e2⟩ := Option.map_eq_some_iff.mp e
    subst e2
    rw [dk.key e1]
    refine ⟨a, _, rfl, DGet.k (c _ List.mem_cons_self), ?_⟩
    rcases d.look j with ⟨x, v, B, h1, h2, h3, h4⟩ | ⟨h1, h2⟩
    · rw [h1, h2]
      exact ⟨rfl, fun r e => by cases e; exact ⟨v, rfl, B, h3, fun p hp => c p (List.mem_cons_of_mem _ (h4 p hp))⟩⟩
    · rw [h1, h2]
      exact ⟨rfl, fun r e => nomatch e⟩
  · obtain ⟨a, ws, rfl, d, q⟩ := ow
    subst q
    obtain ⟨ov, h⟩ := caseT (c _ List.mem_cons_self) d e
    exact ⟨a, ov, rfl, h⟩
  · obtain ⟨⟨a, ws, rfl, q, d⟩, _⟩ := ow
    obtain ⟨ov, h⟩ := caseT (hf _ _ q) d e
    exact ⟨a, ov, rfl, h⟩
  · cases e
def subTp : OV → Rv
  | .fz x => .st (.fz x)
  | o => .bo o
def opIx (x : OV) (i : Int) : Option Rv := match x with
  | .ol xs => (atI xs i).map fun v => .st (.fz v)
  | .fz (.lst xs) => (atI xs i).map fun v => .st (.fz v)
  | .fz (.tup xs) => (atI xs i).map fun v => .st (.fz v)
  | .fz (.tuz xs) => (atI xs i).map fun v => .st (.fz v)
  | .fz (.str z) => if z.length ≤ BIG then (atI z.cps.toList i).map fun c => .st (.fz (.str ⟨#[c]⟩)) else none
  | .dl os => (atI os i).map .bo
  | .tp os => (atI os i).map subTp
  | _ => none
def opSub' (x y : OV) : Option Rv := if x.isD then (dGet x y.fv).bind id else match y with
  | .fz (.int i) => opIx x i
  | _ => none
def FV.frozenKey : OV → Bool
  | .fz _ => true
  | _ => false
def dSub (f g : DE) : DE := fun env => (f env).bind fun x => (g env).bind fun y => if FV.frozenKey y.ov then Ans.of (opSub' x.ov y.ov) else .no
section
variable {M : Str → Option Value} {K : PySem.W.Frag} {F H : Hp} {x : OV} {u : V}
theorem opIx_den {i : Int} {r : Rv} (hf : Same F H) (bx : Bor M F H x u) (e : opIx x i = some r) (Q : VK) (k : ∀ v, ResIs M F H r v → Q v H) : rIx K u (.int i) H Q := by
  obtain ⟨A, ow, c⟩ := bx
  unfold opIx at e
  split at e
  · obtain ⟨a, vs, rfl, d, q⟩ := ow
    subst q
    obtain ⟨y, e1, e2⟩ := Option.map_eq_some_iff.mp e
    subst e2
    obtain ⟨v, h1, h2⟩ := atI_den d e1
    exact .inl ⟨a, vs, i, v, rfl, rfl, SqL.of (c _ List.mem_cons_self), h1, k v h2⟩
  · obtain ⟨⟨a, vs, rfl, q, d⟩, _⟩ := ow
    obtain ⟨y, e1, e2⟩ := Option.map_eq_some_iff.mp e
    subst e2
    obtain ⟨v, h1, h2⟩ := atI_den d e1
    exact .inl ⟨a, vs, i, v, rfl, rfl, SqL.of (hf _ _ q), h1, k v h2⟩
  · obtain ⟨⟨a, vs, rfl, q, d⟩, _⟩ := ow
    obtain ⟨y, e1, e2⟩ := Option.map_eq_some_iff.mp e
    subst e2
    obtain ⟨v, h1, h2⟩ := atI_den d e1
    exact .inr (.inl ⟨a, vs, i, v, rfl, rfl, SqT.of (hf _ _ q), h1, k v h2⟩)
  · obtain ⟨⟨a, vs, o, rfl, q, _, _, d⟩, _⟩ := ow
    obtain ⟨y, e1, e2⟩ := Option.map_eq_some_iff.mp e
    subst e2
    obtain ⟨v, h1, h2⟩ := atI_den d e1
    exact .inr (.inl ⟨a, vs, i, v, rfl, rfl, .inl (.inr ⟨o, hf _ _ q⟩), h1, k v h2⟩)
  · split at e
    · rename_i hz
      obtain ⟨h, _⟩ := ow
      obtain ⟨y, e1, e2⟩ := Option.map_eq_some_iff.mp e
      subst e2
      exact .inr (.inr ⟨_, i, y, h, rfl, by rw [big_eq]; exact hz, e1, k _ rfl⟩)
    · cases e
  · obtain ⟨a, vs, L', rfl, d, q⟩ := ow
    subst q
    obtain ⟨y, e1, e2⟩ := Option.map_eq_some_iff.mp e
    subst e2
    obtain ⟨v, h1, h2⟩ := atI_own d (fun p hp => c p (List.mem_cons_of_mem _ hp)) e1
    exact .inl ⟨a, vs, i, v, rfl, rfl, SqL.of (c _ List.mem_cons_self), h1, k v h2⟩
  · obtain ⟨a, vs, rfl, q, d⟩ := ow
    obtain ⟨y, e1, e2⟩ := Option.map_eq_some_iff.mp e
    subst e2
    obtain ⟨v, h1, h2⟩ := atI_own d c e1
    refine .inr (.inl ⟨a, vs, i, v, rfl, rfl, SqT.of (hf _ _ q), h1, k v ?_⟩)
    cases y with
    | fz x => exact (let ⟨_, z, _⟩ := h2; z.1)
    | _ => exact h2
  · cases e
end
section
variable {X : Cx} {W : WX} {pos p2 : Pos} {a b : Expr} {f g : DE}
theorem je_sub (hu : X.A.units + 1 < cLine) (ha : JE X W a f) (hb : JE X W b g) (hs : PlainIx b := by first | exact fun _ _ => rfl | (intro _ _; rfl)) : JE X W (.Subscript a b pos) (dSub f g) := by
  refine PE.imp (PE.or (pe_ix (ix_seq (X := X)) ha hb hs) (pe_dget hu ha hb hs)) fun σ H Q ⟨G, Z, env, T, r, p⟩ => ?_
  have fin : ∀ (x : Rv), f env = .ok x → (x.ov.isD = false ∧ ∀ y, (g env = .ok y → FV.frozenKey y.ov = true → ∀ r, opSub' x.ov y.ov = some r → ∃ i, y.ov = .fz (.int i) ∧ opIx x.ov i = some r)) ∨ x.ov.isD = true := by
    intro x _
    cases hd : x.ov.isD with
    | true => exact .inr rfl
    | false =>
      refine .inl ⟨rfl, fun y _ _ r e => ?_⟩
      unfold opSub' at e
      rw [hd, if_neg Bool.false_ne_true] at e
      split at e
      · rename_i i e2
        exact ⟨i, e2, e⟩
      · cases e
  have left : (∀ x, f env = .ok x → x.ov.isD = false) → tOp (rIx X.K) (tE X.mg W f) (tE X.mg W g) σ H Q := by
    intro hd
    refine tE.bind r Sb.refl p fun x u H1 ef s1 r1 p1 => ?_
    refine tE.bind r1 Sb.refl.cons p1 fun y w H2 eg s2 ⟨F, C1, C2, r2⟩ p2 => ?_
    split at p2
    · rename_i hk
      cases e : opSub' x.ov y.ov with
      | none => rw [e] at p2; exact p2.elim
      | some rv =>
        rw [e] at p2
        rcases fin x ef with ⟨_, h⟩ | h
        · obtain ⟨i, e1, e2⟩ := h y eg hk rv e
          have hw := r2.bor (List.mem_cons_self (a := (w, y)))
          rw [show (w, y).2.ov = y.ov from rfl, e1] at hw
          rw [show w = .int i from hw.int]
          exact opIx_den r2.fh (r2.bor (List.mem_cons_of_mem _ List.mem_cons_self)) e2 Q fun v h => p2 v H2 (Same.refl _) ((r2.res h).sb (Sb.refl.cons.cons.both))
        · rw [hd x ef] at h; cases h
    · exact p2.elim
  cases ef : f env with
  | ex c => exact .inl (left fun x e => by rw [ef] at e; cases e)
  | no => exact .inl (left fun x e => by rw [ef] at e; cases e)
  | ok x =>
    cases hd : x.ov.isD with
    | false => exact .inl (left fun x' e => by rw [ef] at e; cases e; exact hd)
    | true =>
      refine .inr ?_
      refine tE.bind r Sb.refl p fun x' u H1 ef' s1 r1 p1 => ?_
      rw [ef] at ef'
      cases ef'
      refine tE.bind r1 Sb.refl.cons p1 fun y w H2 eg s2 ⟨F, C1, C2, r2⟩ p2 => ?_
      split at p2
      · rename_i hk
        unfold opSub' at p2
        rw [hd, if_pos rfl] at p2
        cases e : dGet x.ov y.ov.fv with
        | none => rw [e] at p2; exact p2.elim
        | some oo =>
          rw [e] at p2
          cases oo with
          | none => exact p2.elim
          | some rv =>
            have hy := r2.bor (List.mem_cons_self (a := (w, y)))
            have hy' : FDen X.mg F y.ov.fv w := by
              unfold FV.frozenKey at hk
              split at hk
              · rename_i z ez
                rw [show (w, y).2.ov = y.ov from rfl, ez] at hy
                rw [ez]
                exact hy.fz
              · cases hk
            obtain ⟨a, ov, h1, h2, h3, h4⟩ := dGet_den r2.fh (r2.bor (List.mem_cons_of_mem _ List.mem_cons_self)) hy' e
            obtain ⟨v, e3, h5⟩ := h4 rv rfl
            subst e3
            exact ⟨a, v, h1, h2, p2 v H2 (Same.refl _) ((r2.res h5).sb (Sb.refl.cons.cons.both))⟩
      · exact p2.elim
end
end J
namespace J
open PySem PySem.Spec PyProof.Rows L2
def cutF {α : Type} (xs : List α) (lo hi : Option Int) : List α := (xs.drop (HT.sIx xs.length 0 lo)).take (HT.sIx xs.length xs.length hi - HT.sIx xs.length 0 lo)
theorem FDenL.cut {M : Str → Option Value} {F : Hp} {xs : List FV} {vs : List V} (d : FDenL M F xs vs) (lo hi : Option Int) : FDenL M F (cutF xs lo hi) (cutV vs lo hi) := by
  unfold cutF cutV
  rw [d.length]
  exact (d.drop _).take _
theorem FDenL_ints {M : Str → Option Value} {F : Hp} : ∀ ns : List Int, FDenL M F (ns.map .int) (ns.map V.int)
  | [] => rfl
  | n :: ns => ⟨.int n, _, rfl, rfl, FDenL_ints ns⟩
theorem FDenL_strs {M : Str → Option Value} {F : Hp} : ∀ ns : List Str, FDenL M F (ns.map .str) (ns.map V.str)
  | [] => rfl
  | n :: ns => ⟨.str n, _, rfl, rfl, FDenL_strs ns⟩
theorem cutF_map {α β : Type} (f : α → β) (xs : List α) (lo hi : Option Int) : cutF (xs.map f) lo hi = (cutF xs lo hi).map f := by
  unfold cutF
  rw [List.length_map, List.map_take, List.map_drop]
theorem cutF_all {α : Type} {xs : List α} {lo hi : Option Int} (h : HT.sIx xs.length 0 lo = 0 ∧ HT.sIx xs.length xs.length hi = xs.length) : cutF xs lo hi = xs := by
  unfold cutF
  rw [h.1, h.2]
  simp
def opSl (x : OV) (lo hi : Option Int) : Option OV := match x with
  | .ol xs => some (.ol (cutF xs lo hi))
  | .fz (.lst xs) => some (.ol (cutF xs lo hi))
  | .fz (.scr xs) => some (.ol ((cutF xs lo hi).map .int))
  | .fz (.tup xs) => some (.fz (.tup (cutF xs lo hi)))
  | .fz (.str z) => if z.length ≤ BIG then some (.fz (.str (cutS z lo hi))) else none
  | _ => none
def rSlJ (M : Str → Option Value) : V → Option Int → Option Int → Hp → VK → Prop := fun u lo hi H Q => ∃ F x o, Same F H ∧ Bor M F H x u ∧ opSl x lo hi = some o ∧ ∀ v H', New M F H H' o v → Q v H'
theorem rSlJ_red {M : Str → Option Value} {K : PySem.W.Frag} {u : V} {lo hi : Option Int} {H : Hp} {Q : VK} (h : rSlJ M u lo hi H Q) : rSlL K u lo hi H Q ∨ rSlA K u lo hi H Q ∨ rSlS u lo hi H Q := by
  obtain ⟨F, x, o, hf, bx, e, k⟩ := h
  unfold opSl at e
  split at e
  · cases e
    obtain ⟨a, vs, rfl, q, d⟩ := bx.lst hf rfl
    exact .inl ⟨a, vs, rfl, SqL.of q, fun p hp => k _ _ (New.lst hf hp (d.cut lo hi))⟩
  · cases e
    obtain ⟨a, vs, rfl, q, d⟩ := bx.lst hf rfl
    exact .inl ⟨a, vs, rfl, SqL.of q, fun p hp => k _ _ (New.lst hf hp (d.cut lo hi))⟩
  · cases e
    rename_i xs
    obtain ⟨a, rfl, q⟩ := bx.fz
    refine .inl ⟨a, xs.map V.int, rfl, .inl (q.elim (fun q => .inl (hf _ _ q)) fun ⟨o, q⟩ => .inr ⟨o, hf _ _ q⟩), fun p hp => k _ _ (New.lst hf hp ?_)⟩
    rw [show cutV (xs.map V.int) lo hi = cutF (xs.map V.int) lo hi from rfl, cutF_map]
    exact FDenL_ints _
  · cases e
    obtain ⟨a, vs, rfl, q, d⟩ := bx.fz
    refine .inr (.inl ⟨a, vs, rfl, SqT.of (hf _ _ q), fun h => ?_, fun _ p hp => k _ _ (New.tup hf hp (d.cut lo hi))⟩)
    rw [d.length] at h
    rw [cutF_all h] at k
    exact k _ _ (New.old hf bx.fz)
  · split at e
    · rename_i hz
      cases e
      exact .inr (.inr ⟨_, bx.str, by rw [big_eq]; exact hz, k _ _ (New.str hf)⟩)
    · cases e
  · cases e
theorem sl_j {X : Cx} : SlR X (rSlJ X.mg) := by
  intro pins s σ H u v vl vu lo hi sl Q I r hs h1 h2 q
  exact (SlR.or sl_list (SlR.or sl_tupA sl_str)) pins s σ H u v vl vu lo hi sl Q I r hs h1 h2 (rSlJ_red q)
def dPN : VEnv → Ans (Option Int) := fun _ => .ok none
def dPS (f : DE) : VEnv → Ans (Option Int) := fun env => (f env).bind fun x => match x.ov with
  | .fz (.int i) => .ok (some i)
  | _ => .no
def PostO (M : Str → Option Value) (W : WX) (G Z : Hp) (σ : Sl) (env : VEnv) (T : List (V × Rv)) (Q : Option Int → Hp → Prop) (H : Hp) : Ans (Option Int) → Prop
  | .ok b => ∀ H', Same H H' → R M G Z H' σ env T → Q b H'
  | .ex c => ∀ C H', M c = some (.ref C) → Same H H' → R M G Z H' σ env T → W (.ref C) none σ H'
  | .no => False
def tO (M : Str → Option Value) (W : WX) (f : VEnv → Ans (Option Int)) : TO := fun σ H Q => ∃ G Z env T, R M G Z H σ env T ∧ PostO M W G Z σ env T Q H (f env)
abbrev JO (X : Cx) (W : WX) (e : Option Expr) (f : VEnv → Ans (Option Int)) : Prop := PO X e (tO X.mg W f)
theorem PO.imp {X : Cx} {e : Option Expr} {t t' : TO} (p : PO X e t) (h : ∀ σ H Q, t' σ H Q → t σ H Q) : PO X e t' := ⟨fun pins s σ H Q I q => p.run pins s σ H Q I (h σ H Q q)⟩
section
variable {M : Str → Option Value} {G Z H F : Hp} {σ : Sl} {env : VEnv} {T T2 : List (V × Rv)} {W : WX} {Q : VK} {C1 C2 : Cells}
theorem tO.bind {f : VEnv → Ans (Option Int)} {k : Option Int → Ans Rv} {Q1 : Option Int → Hp → Prop} (r : R M G Z H σ env T2) (hs : Sb T T2) (p : Post M W G Z σ env T Q H ((f env).bind k))
    (h : ∀ b H1, f env = .ok b → Same H H1 → R M G Z H1 σ env T2 → Post M W G Z σ env T Q H1 (k b) → Q1 b H1) : tO M W f σ H Q1 := by
  refine ⟨G, Z, env, T2, r, ?_⟩
  cases e : f env with
  | ok b =>
    rw [e] at p
    exact fun H1 s r => h b H1 e s r (p.later s)
  | ex c =>
    rw [e] at p
    exact fun C H1 m s r => p C H1 m s (r.sb hs)
  | no => rw [e] at p; exact p
theorem tE.bindO {f : DE} {k : Rv → Ans (Option Int)} {Q1 : VK} {Q : Option Int → Hp → Prop} (r : R M G Z H σ env T2) (hs : Sb T T2) (p : PostO M W G Z σ env T Q H ((f env).bind k))
    (h : ∀ rv v H1, f env = .ok rv → Same H H1 → R M G Z H1 σ env ((v, rv) :: T2) → PostO M W G Z σ env T Q H1 (k rv) → Q1 v H1) : tE M W f σ H Q1 := by
  refine tE.then r hs (fun rv v H1 e s r => h rv v H1 e s r ?_) (fun c C H1 e m s r => ?_) fun e => ?_
  · rw [e] at p
    cases e2 : k rv with
    | ok b => rw [show (Ans.ok rv).bind k = k rv from rfl, e2] at p; exact fun H' s' r' => p H' (s.trans s') r'
    | ex c => rw [show (Ans.ok rv).bind k = k rv from rfl, e2] at p; exact fun C H' m s' r' => p C H' m (s.trans s') r'
    | no => rw [show (Ans.ok rv).bind k = k rv from rfl, e2] at p; exact p
  · rw [e] at p; exact p C H1 m s r
  · rw [e] at p; exact p
end
def dSl (f : DE) (l h : VEnv → Ans (Option Int)) : DE := fun env => (f env).bind fun x => (l env).bind fun i => (h env).bind fun j => (Ans.of (opSl x.ov i j)).map .st
section
variable {X : Cx} {W : WX} {pos p2 : Pos} {a e : Expr} {lo hi : Option Expr} {f : DE} {l h : VEnv → Ans (Option Int)}
theorem jo_none : JO X W none dPN := PO.imp po_none fun σ H Q ⟨G, Z, env, T, r, p⟩ => p H (Same.refl _) r
theorem jo_some (he : JE X W e f) : JO X W (some e) (dPS f) := by
  refine PO.imp (po_some he) fun σ H Q ⟨G, Z, env, T, r, p⟩ => ?_
  refine tE.bindO r Sb.refl p fun x u H1 _ s1 ⟨F, C1, C2, r1⟩ p1 => ?_
  have hb := r1.bor List.mem_cons_self
  split at p1
  · rename_i i e
    rw [show (u, x).2.ov = x.ov from rfl, e] at hb
    exact ⟨i, hb.int, p1 H1 (Same.refl _) r1.r.pop⟩
  · exact p1.elim
theorem je_slice (he : JE X W e f) (hl : JO X W lo l) (hh : JO X W hi h) : JE X W (.Subscript e (.Slice lo hi none p2) pos) (dSl f l h) := by
  refine PE.imp (pe_slice sl_j he hl hh) fun σ H Q ⟨G, Z, env, T, r, p⟩ => ?_
  refine tE.bind r Sb.refl p fun x u H1 _ s1 r1 p1 => ?_
  refine tO.bind r1 Sb.refl.cons p1 fun i H2 _ s2 r2 p2 => ?_
  refine tO.bind r2 Sb.refl.cons p2 fun j H3 _ s3 ⟨F, C1, C2, r3⟩ p3 => ?_
  obtain ⟨o, e, k⟩ := r3.fin Sb.refl.cons p3
  exact ⟨F, x.ov, o, r3.fh, r3.bor List.mem_cons_self, e, k⟩
end
theorem PC.or {X : Cx} {op : CmpOp} {a b : Expr} {t t' : TE} (p : PC X op a b t) (p' : PC X op a b t') : PC X op a b (fun σ H Q => t σ H Q ∨ t' σ H Q) := ⟨fun pins s σ H Q I q => q.elim (p.run pins s σ H Q I) (p'.run pins s σ H Q I)⟩
theorem pc_of {X : Cx} {op : CmpOp} {a b : Expr} {r : R2} {ta tb : TE} (ho : OpR X (compareOp op) r) (ha : PE X a ta) (hb : PE X b tb) : PC X op a b (tOp r ta tb) :=
  ⟨fun pins s σ H Q I h => binT ha hb I h fun v u s2 x y H2 I2 rx ry q => ho pins s2 σ H2 x y v u Q I2 rx ry q⟩
def FV.lst? : FV → Option (List FV)
  | .lst xs => some xs
  | _ => none
def inSeq (x y : FV) : Option Bool := match y with
  | .lst ys => match x.toD, FV.toDL ys with
    | some d, some ds => if SeqAt.shaped d && SeqAt.shaped (.list ds) then some (ds.any fun z => PyData.eqv z d) else none
    | _, _ => none
  | .tup ys => if x.atom && ys.all FV.atom then (match x.toD, FV.toDL ys with
    | some d, some ds => some (ds.any fun z => PyData.eqv z d)
    | _, _ => none) else none
  | .tuz ys => if x.atom && ys.all FV.atom then (match x.toD, FV.toDL ys with
    | some d, some ds => some (ds.any fun z => PyData.eqv z d)
    | _, _ => none) else none
  | .str z => match x with
    | .str s => match s.cps.toList with
      | [c] => some (decide (c ∈ z.cps.toList))
      | _ => none
    | _ => none
  | _ => none
def opIn (neg : Bool) (x y : OV) : Option OV := if y.isD then (if FV.frozenKey x then (dGet y x.fv).map fun o => .fz (.bl (neg != o.isSome)) else none)
  else (inSeq x.fv y.fv).map fun b => .fz (.bl (neg != b))
section
variable {M : Str → Option Value} {K : PySem.W.Frag} {F H : Hp} {x y : FV} {u w : V}
theorem atom_eq {d e : PyData} (dx : FDen M F x u) (dy : FDen M F y w) (hx : x.atom = true) (hy : y.atom = true) (ex : x.toD = some d) (ey : y.toD = some e) : eqV w u = PyData.eqv e d := by
  cases x <;> first | (refine absurd hx ?_; simp [FV.atom]; done) | skip
  all_goals
    cases y <;> first | (refine absurd hy ?_; simp [FV.atom]; done) | skip
  all_goals
    (cases ex; cases ey; rw [show u = _ from dx, show w = _ from dy]; first | rfl | simp [eqV, PyData.eqv])
theorem atom_flat (dx : FDen M F x u) (hx : x.atom = true) : flatV u = true := by
  cases x <;> first | (refine absurd hx ?_; simp [FV.atom]; done) | skip
  all_goals (rw [show u = _ from dx]; rfl)
theorem atoms_any {d : PyData} (dx : FDen M F x u) (hx : x.atom = true) (ex : x.toD = some d) : ∀ {ys : List FV} {vs : List V} {ds : List PyData}, FDenL M F ys vs → ys.all FV.atom = true → FV.toDL ys = some ds → vs.all flatV = true ∧ inV u vs = ds.any fun z => PyData.eqv z d
  | [], _, _, h, _, e => by cases e; rw [show _ = [] from h]; exact ⟨rfl, rfl⟩
  | y :: ys, _, ds, ⟨v, ws, ev, dy, r⟩, ha, e => by
    rw [List.all_cons, Bool.and_eq_true] at ha
    unfold FV.toDL at e
    split at e
    · rename_i d1 ds1 e1 e2
      cases e
      obtain ⟨h1, h2⟩ := atoms_any dx hx ex r ha.2 e2
      rw [ev]
      refine ⟨by rw [List.all_cons, atom_flat dy ha.1, h1]; rfl, ?_⟩
      unfold inV at h2 ⊢
      rw [List.any_cons, List.any_cons, h2, atom_eq dx dy hx ha.1 ex e1]
    · cases e
end
section
variable {X : Cx} {W : WX} {pos : Pos} {a b : Expr} {f g : DE}
def rInJ (M : Str → Option Value) (neg : Bool) : R2 := fun u w H Q => ∃ F x y c, Same F H ∧ Bor M F H x u ∧ Bor M F H y w ∧ inSeq x.fv y.fv = some c ∧ Q (.bl (neg != c)) H
theorem rInJ_red {neg : Bool} {u w : V} {H : Hp} {Q : VK} (h : rInJ X.mg neg u w H Q) : (∃ d ds, Dp X.K H u d ∧ Dp X.K H w (.list ds) ∧ SeqAt.shaped d = true ∧ SeqAt.shaped (.list ds) = true ∧ Q (.bl (neg != ds.any fun z => PyData.eqv z d)) H) ∨
    (∃ p xs, w = .ref p ∧ (SqL X.K H p xs ∨ SqT X.K H p xs) ∧ flatV u = true ∧ xs.all flatV = true ∧ Q (.bl (neg != inV u xs)) H) ∨ ∃ (c : Nat) (z : Str), u = .str ⟨#[c]⟩ ∧ w = .str z ∧ Q (.bl (neg != decide (c ∈ z.cps.toList))) H := by
  obtain ⟨F, x, y, c, hf, bx, by', e, q⟩ := h
  have dx := bx.fden hf
  have dy := by'.fden hf
  revert e dy
  generalize y.fv = yf
  intro e dy
  unfold inSeq at e
  split at e
  · split at e
    · rename_i d ds e1 e2
      split at e
      · rename_i hs
        cases e
        rw [Bool.and_eq_true] at hs
        obtain ⟨p, vs, rfl, qq, dd⟩ := dy
        exact .inl ⟨d, ds, dx.dp e1, .lst (SqL.of qq) (dd.dp e2), hs.1, hs.2, q⟩
      · cases e
    · cases e
  · split at e
    · rename_i ha
      rw [Bool.and_eq_true] at ha
      split at e
      · rename_i d ds e1 e2
        cases e
        obtain ⟨p, vs, rfl, qq, dd⟩ := dy
        obtain ⟨h1, h2⟩ := atoms_any dx ha.1 e1 dd ha.2 e2
        exact .inr (.inl ⟨p, vs, rfl, .inr (SqT.of qq), atom_flat dx ha.1, h1, by rw [h2]; exact q⟩)
      · cases e
    · cases e
  · split at e
    · rename_i ha
      rw [Bool.and_eq_true] at ha
      split at e
      · rename_i d ds e1 e2
        cases e
        obtain ⟨p, vs, o, rfl, qq, _, _, dd⟩ := dy
        obtain ⟨h1, h2⟩ := atoms_any dx ha.1 e1 dd ha.2 e2
        exact .inr (.inl ⟨p, vs, rfl, .inr (.inl (.inr ⟨o, qq⟩)), atom_flat dx ha.1, h1, by rw [h2]; exact q⟩)
      · cases e
    · cases e
  · split at e
    · rename_i s ex
      split at e
      · rename_i c ec
        cases e
        rw [ex] at dx
        refine .inr (.inr ⟨c, _, ?_, dy, q⟩)
        rw [show u = .str s from dx]
        congr 1
        cases s with
        | mk cps =>
          have : cps = #[c] := by
            apply Array.toList_inj.mp
            exact ec
          rw [this]
      · cases e
    · cases e
  · cases e
theorem neg_ite (neg b : Bool) : (if neg = true then !b else b) = (neg != b) := by cases neg <;> cases b <;> rfl
theorem op_inJ (hu : X.A.units + 65 < cLine) : OpR X (compareOp .In) (rInJ X.mg false) := by
  intro pins s σ H u w v1 v2 Q I r1 r2 h
  rcases rInJ_red h with ⟨d, ds, h1, h2, h3, h4, q⟩ | ⟨p, xs, rfl, h1, h2, h3, q⟩ | ⟨c, z, h1, h2, q⟩
  · exact op_inD hu pins s σ H u w v1 v2 Q I r1 r2 ⟨d, ds, h1, h2, h3, h4, by simpa using q⟩
  · exact op_in_seq pins s σ H u _ v1 v2 Q I r1 r2 ⟨p, xs, rfl, h1, h2, h3, by rw [neg_ite]; exact q⟩
  · exact op_in_sign pins s σ H u w v1 v2 Q I r1 r2 ⟨c, z, h1, h2, by simpa using q⟩
theorem op_notInJ (hu : X.A.units + 65 < cLine) : OpR X (compareOp .NotIn) (rInJ X.mg true) := by
  intro pins s σ H u w v1 v2 Q I r1 r2 h
  rcases rInJ_red h with ⟨d, ds, h1, h2, h3, h4, q⟩ | ⟨p, xs, rfl, h1, h2, h3, q⟩ | ⟨c, z, h1, h2, q⟩
  · exact op_notInD hu pins s σ H u w v1 v2 Q I r1 r2 ⟨d, ds, h1, h2, h3, h4, by simpa using q⟩
  · exact op_notIn_seq pins s σ H u _ v1 v2 Q I r1 r2 ⟨p, xs, rfl, h1, h2, h3, by rw [neg_ite]; exact q⟩
  · exact op_notIn_sign pins s σ H u w v1 v2 Q I r1 r2 ⟨c, z, h1, h2, by simpa using q⟩
theorem frozenKey_fz {o : OV} (h : FV.frozenKey o = true) : o = .fz o.fv := by
  unfold FV.frozenKey at h
  split at h
  · rfl
  · cases h
def tInD (neg : Bool) (ty td : TE) : TE := fun σ H Q => ty σ H fun y H1 => td σ H1 fun x H2 => ∃ a o, x = .ref a ∧ DGet H2 a y o ∧ Q (.bl (neg != o.isSome)) H2
theorem in_red {neg : Bool} {σ : Sl} {H : Hp} {Q : VK} (h : tE X.mg W (dBin (opIn neg) f g) σ H Q) : tOp (rInJ X.mg neg) (tE X.mg W f) (tE X.mg W g) σ H Q ∨ tInD neg (tE X.mg W f) (tE X.mg W g) σ H Q := by
  obtain ⟨G, Z, env, T, r, p⟩ := h
  have left : (∀ y, g env = .ok y → y.ov.isD = false) → tOp (rInJ X.mg neg) (tE X.mg W f) (tE X.mg W g) σ H Q := by
    intro hd
    refine tE.bind r Sb.refl p fun x u H1 ef s1 r1 p1 => ?_
    refine tE.bind r1 Sb.refl.cons p1 fun y w H2 eg s2 ⟨F, C1, C2, r2⟩ p2 => ?_
    obtain ⟨o, e, k⟩ := r2.fin (Sb.refl.cons.cons) p2
    unfold opIn at e
    rw [hd y eg, if_neg Bool.false_ne_true] at e
    obtain ⟨c, e1, e2⟩ := Option.map_eq_some_iff.mp e
    subst e2
    exact ⟨F, x.ov, y.ov, c, r2.fh, r2.bor (List.mem_cons_of_mem _ List.mem_cons_self), r2.bor List.mem_cons_self, e1, k _ _ (New.bl r2.fh)⟩
  cases eg : g env with
  | ex c => exact .inl (left fun x e => by rw [eg] at e; cases e)
  | no => exact .inl (left fun x e => by rw [eg] at e; cases e)
  | ok y =>
    cases hd : y.ov.isD with
    | false => exact .inl (left fun x' e => by rw [eg] at e; cases e; exact hd)
    | true =>
      refine .inr ?_
      refine tE.bind r Sb.refl p fun x u H1 ef s1 r1 p1 => ?_
      refine tE.bind r1 Sb.refl.cons p1 fun y' w H2 eg' s2 ⟨F, C1, C2, r2⟩ p2 => ?_
      rw [eg] at eg'
      cases eg'
      obtain ⟨o, e, k⟩ := r2.fin (Sb.refl.cons.cons) p2
      unfold opIn at e
      rw [hd, if_pos rfl] at e
      split at e
      · rename_i hk
        obtain ⟨oo, e1, e2⟩ := Option.map_eq_some_iff.mp e
        subst e2
        have hx := r2.bor (List.mem_cons_of_mem _ (List.mem_cons_self (a := (u, x))))
        rw [show (u, x).2.ov = x.ov from rfl, frozenKey_fz hk] at hx
        obtain ⟨a, ov, h1, h2, h3, h4⟩ := dGet_den r2.fh (r2.bor List.mem_cons_self) hx.fz e1
        exact ⟨a, ov, h1, h2, by rw [h3]; exact k _ _ (New.bl r2.fh)⟩
      · cases e
theorem pc_inJ (hu : X.A.units + 65 < cLine) (ha : JE X W a f) (hb : JE X W b g) : PC X .In a b (tE X.mg W (dBin (opIn false) f g)) :=
  ⟨fun pins s σ H Q I q => (PC.or (pc_of (op_inJ hu) ha hb) (pc_din (Nat.lt_of_le_of_lt (by omega) hu) ha hb)).run pins s σ H Q I ((in_red q).imp id fun q => by simpa [tInD, tDIn] using q)⟩
theorem pc_notInJ (hu : X.A.units + 65 < cLine) (ha : JE X W a f) (hb : JE X W b g) : PC X .NotIn a b (tE X.mg W (dBin (opIn true) f g)) :=
  ⟨fun pins s σ H Q I q => (PC.or (pc_of (op_notInJ hu) ha hb) (pc_dnotin (Nat.lt_of_le_of_lt (by omega) hu) ha hb)).run pins s σ H Q I ((in_red q).imp id fun q => by simpa [tInD, tDNotIn] using q)⟩
theorem jt_in (hu : X.A.units + 65 < cLine) (ha : JE X W a f) (hb : JE X W b g) (hm : behindInMarks .In b = false := by rfl) : JT X W (.Compare a [.In] [b] pos) (dTest (dBin (opIn false) f g)) := PT.imp (pt_cmp (pc_inJ hu ha hb) hm) fun _ _ _ h => tB_red h
theorem jt_notIn (hu : X.A.units + 65 < cLine) (ha : JE X W a f) (hb : JE X W b g) (hm : behindInMarks .NotIn b = false := by rfl) : JT X W (.Compare a [.NotIn] [b] pos) (dTest (dBin (opIn true) f g)) := PT.imp (pt_cmp (pc_notInJ hu ha hb) hm) fun _ _ _ h => tB_red h
end
end J
namespace J
open PySem PySem.Spec PyProof.Rows L2
def rJn (M : Str → Option Value) (op : List OV → Option OV) : List V → Hp → VK → Prop := fun us H Q => ∃ F os o, Same F H ∧ Paired (fun x u => Bor M F H x u) os us ∧ op os = some o ∧ ∀ v H', New M F H H' o v → Q v H'
def dCallB (op : List OV → Option OV) (g : VEnv → Ans (List Rv)) : DE := fun env => (g env).bind fun rs => (Ans.of (op (rs.map Rv.ov))).map .st
theorem zip_bor {M : Str → Option Value} {F H : Hp} : ∀ {rs : List Rv} {vs : List V}, vs.length = rs.length → (∀ p ∈ vs.zip rs, Bor M F H p.2.ov p.1) → Paired (fun x u => Bor M F H x u) (rs.map Rv.ov) vs
  | [], vs, hl, _ => by
    obtain rfl : vs = [] := List.eq_nil_of_length_eq_zero hl
    exact .nil
  | r :: rs, [], hl, _ => by simp at hl
  | r :: rs, v :: vs, hl, h => .cons (h (v, r) (by simp)) (zip_bor (by simpa using hl) fun p hp => h p (by rw [List.zip_cons_cons]; exact List.mem_cons_of_mem _ hp))
section
variable {M : Str → Option Value} {G Z H F : Hp} {σ : Sl} {env : VEnv} {T T2 : List (V × Rv)} {W : WX} {Q : VK} {C1 C2 : Cells}
theorem RF.rjn {op : List OV → Option OV} {us : List V} {rs : List Rv} (r : RF M G Z H F σ env (us.zip rs ++ T2) C1 C2) (hl : us.length = rs.length) (hs : Sb T T2) (p : Post M W G Z σ env T Q H ((Ans.of (op (rs.map Rv.ov))).map .st)) : rJn M op us H Q := by
  obtain ⟨o, e, k⟩ := r.fin (T := T) (hs.trans ⟨us.zip rs, List.perm_append_comm⟩) p
  exact ⟨F, rs.map Rv.ov, o, r.fh, zip_bor hl fun p hp => r.bor (List.mem_append_left _ hp), e, k⟩
end
section
variable {X : Cx} {W : WX} {pos p : Pos} {x : Str} {e : Expr} {es : List Expr} {g : VEnv → Ans (List Rv)} {op : List OV → Option OV}
theorem callb_red {σ : Sl} {H : Hp} {Q : VK} (h : tE X.mg W (dCallB op g) σ H Q) : tA X.mg W g σ H fun vs H1 => rJn X.mg op vs H1 Q := by
  obtain ⟨G, Z, env, T, r, p⟩ := h
  exact tA.bind r Sb.refl p fun rs vs H1 _ hl s1 ⟨F, C1, C2, r1⟩ p1 => r1.rjn hl Sb.refl p1
theorem je_callB {id : String} (hc : CallR X (.builtin id) (rJn X.mg op)) (ha : JA X W (e :: es) g) (hm : X.mg x = none) (hv : bootBuiltins x = some (.builtin id)) (hg : Gl X x := by rfl) (hn : x ≠ "__name__" := by decide) (hdb : (x == ("__debug__" : Str)) = false := by decide)
    (he : starEach (e :: es) X.env = (false, eval e X.env) :: starEach es X.env := by rfl) (hpl : (backTo pos (starEach es X.env)).any (·.1) = false := by rfl) : JE X W (.Call (.Name x p) (e :: es) [] pos) (dCallB op g) :=
  PE.imp (pe_callB hc hg hm hv ha hn hdb he hpl) fun σ H Q h => callb_red h
theorem je_callTy {T : String} (hc : CallR X (.type T) (rJn X.mg op)) (ha : JA X W (e :: es) g) (hm : X.mg x = none) (hv : bootBuiltins x = some (.type T)) (hg : Gl X x := by rfl) (hn : x ≠ "__name__" := by decide) (hdb : (x == ("__debug__" : Str)) = false := by decide)
    (he : starEach (e :: es) X.env = (false, eval e X.env) :: starEach es X.env := by rfl) (hpl : (backTo pos (starEach es X.env)).any (·.1) = false := by rfl) : JE X W (.Call (.Name x p) (e :: es) [] pos) (dCallB op g) :=
  PE.imp (pe_callTy hc hg hm hv ha hn hdb he hpl) fun σ H Q h => callb_red h
end
theorem CallR.imp {X : Cx} {f : Value} {r r' : List V → Hp → VK → Prop} (h : CallR X f r) (k : ∀ us H Q, r' us H Q → r us H Q) : CallR X f r' := fun pins s σ H us vs Q I rs q => h pins s σ H us vs Q I rs (k us H Q q)
def opLen : List OV → Option OV
  | [.ol xs] => some (.fz (.int xs.length))
  | [.fz (.lst xs)] => some (.fz (.int xs.length))
  | [.fz (.tup xs)] => some (.fz (.int xs.length))
  | [.fz (.tuz xs)] => some (.fz (.int xs.length))
  | [.fz (.str z)] => if z.length ≤ BIG then some (.fz (.int z.length)) else none
  | [.dl xs] => some (.fz (.int xs.length))
  | [.tp xs] => some (.fz (.int xs.length))
  | [.oK xs] => some (.fz (.int xs.length))
  | [.fz (.dK xs)] => some (.fz (.int xs.length))
  | [.fz (.scr xs)] => some (.fz (.int xs.length))
  | _ => none
theorem FDenK.length {M : Str → Option Value} {F : Hp} : ∀ {xs : List (Key × FV)} {vs : List (Key × V)}, FDenK M F xs vs → vs.length = xs.length
  | [], _, e => by rw [show _ = [] from e]; rfl
  | (k, x) :: xs, _, ⟨v, ws, e, _, r⟩ => by rw [e, List.length_cons, List.length_cons, FDenK.length r]
theorem paired1 {α β : Type} {P : α → β → Prop} {x : α} {us : List β} (h : Paired P [x] us) : ∃ u, us = [u] ∧ P x u := by
  cases h with
  | cons a b => cases b; exact ⟨_, rfl, a⟩
section
variable {X : Cx}
theorem cj_len : CallR X (.builtin "len") (rJn X.mg opLen) := by
  refine CallR.imp (call_len_seq.or (call_len_str.or call_lenD)) fun us H Q ⟨F, os, o, hf, ps, e, k⟩ => ?_
  unfold opLen at e
  split at e <;> first | (cases e; done) | skip
  · cases e
    obtain ⟨u, rfl, b⟩ := paired1 ps
    obtain ⟨a, vs, rfl, q, d⟩ := b.lst hf rfl
    exact .inl ⟨a, vs, rfl, .inl (SqL.of q), by rw [d.length]; exact k _ _ (New.int hf)⟩
  · cases e
    obtain ⟨u, rfl, b⟩ := paired1 ps
    obtain ⟨a, vs, rfl, q, d⟩ := b.lst hf rfl
    exact .inl ⟨a, vs, rfl, .inl (SqL.of q), by rw [d.length]; exact k _ _ (New.int hf)⟩
  · cases e
    obtain ⟨u, rfl, b⟩ := paired1 ps
    obtain ⟨a, vs, rfl, q, d⟩ := FDen.tupT (K := X.K) b.fz (xs := _) rfl
    exact .inl ⟨a, vs, rfl, .inr (SqT.sameS hf q), by rw [d.length]; exact k _ _ (New.int hf)⟩
  · cases e
    obtain ⟨u, rfl, b⟩ := paired1 ps
    obtain ⟨a, vs, rfl, q, d⟩ := FDen.tupT (K := X.K) b.fz (xs := _) rfl
    exact .inl ⟨a, vs, rfl, .inr (SqT.sameS hf q), by rw [d.length]; exact k _ _ (New.int hf)⟩
  · split at e
    · rename_i hz
      cases e
      obtain ⟨u, rfl, b⟩ := paired1 ps
      exact .inr (.inl ⟨_, by rw [b.str], by rw [big_eq]; exact hz, k _ _ (New.int hf)⟩)
    · cases e
  · cases e
    obtain ⟨u, rfl, A, ⟨a, vs, L', rfl, d, q⟩, c⟩ := paired1 ps
    subst q
    exact .inl ⟨a, vs, rfl, .inl (SqL.of (c _ List.mem_cons_self)), by rw [d.length]; exact k _ _ (New.int hf)⟩
  · cases e
    obtain ⟨u, rfl, A, ⟨a, vs, rfl, q, d⟩, c⟩ := paired1 ps
    exact .inl ⟨a, vs, rfl, .inr (SqT.of (hf _ _ q)), by rw [d.length]; exact k _ _ (New.int hf)⟩
  · cases e
    obtain ⟨u, rfl, A, ⟨a, vs, rfl, d, q⟩, c⟩ := paired1 ps
    subst q
    exact .inr (.inr ⟨a, vs, rfl, c _ List.mem_cons_self, by rw [d.length]; exact k _ _ (New.int hf)⟩)
  · cases e
    obtain ⟨u, rfl, b⟩ := paired1 ps
    obtain ⟨a, vs, rfl, q, d⟩ := b.fz
    exact .inr (.inr ⟨a, vs, rfl, hf _ _ q, by rw [d.length]; exact k _ _ (New.int hf)⟩)
  · cases e
    rename_i xs
    obtain ⟨u, rfl, b⟩ := paired1 ps
    obtain ⟨a, rfl, q⟩ := b.fz
    refine .inl ⟨a, xs.map V.int, rfl, .inl (.inl (q.elim (fun q => .inl (hf _ _ q)) fun ⟨o, q⟩ => .inr ⟨o, hf _ _ q⟩)), ?_⟩
    rw [List.length_map]
    exact k _ _ (New.int hf)
end
def FV.seq? : FV → Option (List FV)
  | .lst xs => some xs
  | .tup xs => some xs
  | .tuz xs => some xs
  | _ => none
def OV.seq? : OV → Option (List FV)
  | .ol xs => some xs
  | .fz x => x.seq?
  | _ => none
def opList : List OV → Option OV
  | [.fz (.str z)] => if z.length ≤ BIG then some (.ol (z.cps.toList.map fun c => .str ⟨#[c]⟩)) else none
  | [x] => x.seq?.map .ol
  | _ => none
def opTup : List OV → Option OV
  | [.fz (.str z)] => if z.length ≤ BIG then some (.fz (.tup (z.cps.toList.map fun c => .str ⟨#[c]⟩))) else none
  | [x] => x.lst?.map fun xs => .fz (.tup xs)
  | _ => none
theorem Bor.seq {M : Str → Option Value} {K : PySem.W.Frag} {F H : Hp} {x : OV} {u : V} {xs : List FV} (hf : Same F H) (b : Bor M F H x u) (e : x.seq? = some xs) : ∃ a vs, u = .ref a ∧ (SqL K H a vs ∨ SqT K H a vs) ∧ FDenL M F xs vs := by
  unfold OV.seq? at e
  split at e
  · cases e
    obtain ⟨a, vs, rfl, q, d⟩ := b.lst hf rfl
    exact ⟨a, vs, rfl, .inl (SqL.of q), d⟩
  · rename_i x
    unfold FV.seq? at e
    split at e
    · cases e
      obtain ⟨a, vs, rfl, q, d⟩ := b.lst hf rfl
      exact ⟨a, vs, rfl, .inl (SqL.of q), d⟩
    · cases e
      obtain ⟨a, vs, rfl, q, d⟩ := FDen.tupT (K := K) b.fz (xs := _) rfl
      exact ⟨a, vs, rfl, .inr (SqT.sameS hf q), d⟩
    · cases e
      obtain ⟨a, vs, rfl, q, d⟩ := FDen.tupT (K := K) b.fz (xs := _) rfl
      exact ⟨a, vs, rfl, .inr (SqT.sameS hf q), d⟩
    · cases e
  · cases e
theorem signs_vals {z : Str} {acc : Array Value} (h : ItemsOf (SignAt z) acc z.cps.size) : Vals (z.cps.toList.map fun c => V.str ⟨#[c]⟩) acc.toList := by
  obtain ⟨h1, h2⟩ := h
  have key : ∀ (cs : List Nat) (us : List Value), us.length = cs.length → (∀ (i : Nat) (u : Value), us[i]? = some u → ∃ c t, cs[i]? = some c ∧ u = Value.str ⟨#[c]⟩ t) → Vals (cs.map fun c => V.str ⟨#[c]⟩) us := by
    intro cs
    induction cs with
    | nil =>
      intro us hl _
      obtain rfl : us = [] := List.eq_nil_of_length_eq_zero (by simpa using hl)
      exact .nil
    | cons c cs ih =>
      intro us hl h
      cases us with
      | nil => simp at hl
      | cons u us =>
        obtain ⟨c', t, e1, e2⟩ := h 0 u rfl
        have e1' : c = c' := by simpa using e1
        subst e1'
        exact .cons ⟨t, e2⟩ (ih us (by simpa using hl) fun i u e => h (i + 1) u (by simpa using e))
  refine key _ _ (by simpa using h1) fun i u e => ?_
  obtain ⟨c, t, e1, e2⟩ := h2 i u (by rw [← Array.getElem?_toList]; exact e)
  exact ⟨c, t, by rw [Array.getElem?_toList]; exact e1, e2⟩
section
variable {X : Cx}
theorem call_list_txt (hc : X.calm = true) : CallR X (.type "list") (fun xs H Q => ∃ z, xs = [.str z] ∧ z.length ≤ sizeLine ∧ ∀ l, H l = none → Q (.ref l) (upd H l (.lst (z.cps.toList.map fun c => V.str ⟨#[c]⟩)))) := by
  intro pins s σ H xs us Q I r h
  obtain ⟨z, rfl, hz, q⟩ := h
  obtain ⟨u, rfl, t, rfl⟩ := vals1 r
  refine call_list_str (I.ok.hd hc) z t (fun h' tk acc c' kp e hi => ?_) hz
  refine ⟨.ref s.heap.objs.size, _, I.laid (t' := tk) kp (Nat.le_refl _) (show ObjOk X.prog X.w _ h' _ (.lst _) from ⟨?_, acc.toList, c', signs_vals hi, by rw [Array.toArray_toList]; exact e⟩), rfl, q _ (I.hok.fresh (Nat.le_refl _))⟩
  rw [List.length_map, Array.length_toList]
  exact hz
theorem call_tuple_txt (hc : X.calm = true) : CallR X (.type "tuple") (fun xs H Q => ∃ z, xs = [.str z] ∧ z.length ≤ sizeLine ∧ ∀ l, H l = none → Q (.ref l) (upd H l (.tup (z.cps.toList.map fun c => V.str ⟨#[c]⟩)))) := by
  intro pins s σ H xs us Q I r h
  obtain ⟨z, rfl, hz, q⟩ := h
  obtain ⟨u, rfl, t, rfl⟩ := vals1 r
  refine call_tuple_str (I.ok.hd hc) z t (fun h' tk acc kp hi => ?_) hz
  have I1 : Inv X pins σ H { s with heap := h', toks := tk } := I.kept kp
  refine ⟨.ref h'.objs.size, _, I1.laid (t' := tk) (fun b o e => Heap.get?_push_of_some _ e) (Nat.le_refl _) (show ObjOk X.prog X.w _ _ _ (.tup _) from ⟨?_, acc.toList, signs_vals hi, by rw [Array.toArray_toList]; exact IsTup.new _ _⟩), rfl, q _ (I1.hok.fresh (Nat.le_refl _))⟩
  rw [List.length_map, Array.length_toList]
  exact hz
theorem FDenL_signs {M : Str → Option Value} {F : Hp} (cs : List Nat) : FDenL M F (cs.map fun c => FV.str ⟨#[c]⟩) (cs.map fun c => V.str ⟨#[c]⟩) := by
  have := FDenL_strs (M := M) (F := F) (cs.map fun c => (⟨#[c]⟩ : Str))
  rw [List.map_map, List.map_map] at this
  exact this
theorem cj_list (hc : X.calm = true) : CallR X (.type "list") (rJn X.mg opList) := by
  refine CallR.imp ((call_list_txt hc).or call_list_of) fun us H Q ⟨F, os, o, hf, ps, e, k⟩ => ?_
  unfold opList at e
  split at e
  · split at e
    · rename_i hz
      cases e
      obtain ⟨u, rfl, b⟩ := paired1 ps
      exact .inl ⟨_, by rw [b.str], by rw [big_eq]; exact hz, fun p hp => k _ _ (New.lst hf hp (FDenL_signs _))⟩
    · cases e
  · obtain ⟨u, rfl, b⟩ := paired1 ps
    obtain ⟨xs, e1, e2⟩ := Option.map_eq_some_iff.mp e
    subst e2
    obtain ⟨a, vs, rfl, q, d⟩ := b.seq (K := X.K) hf e1
    exact .inr ⟨a, vs, rfl, q, fun p hp => k _ _ (New.lst hf hp d)⟩
  · cases e
theorem cj_tup (hc : X.calm = true) : CallR X (.type "tuple") (rJn X.mg opTup) := by
  refine CallR.imp ((call_tuple_txt hc).or call_tuple_of) fun us H Q ⟨F, os, o, hf, ps, e, k⟩ => ?_
  unfold opTup at e
  split at e
  · split at e
    · rename_i hz
      cases e
      obtain ⟨u, rfl, b⟩ := paired1 ps
      exact .inl ⟨_, by rw [b.str], by rw [big_eq]; exact hz, fun p hp => k _ _ (New.tup hf hp (FDenL_signs _))⟩
    · cases e
  · obtain ⟨u, rfl, b⟩ := paired1 ps
    obtain ⟨xs, e1, e2⟩ := Option.map_eq_some_iff.mp e
    subst e2
    obtain ⟨a, vs, rfl, q, d⟩ := b.lst hf e1
    exact .inr ⟨a, vs, rfl, .inl ⟨SqL.of q, fun p hp => k _ _ (New.tup hf hp d)⟩⟩
  · cases e
end
def strs? : List FV → Option (List Str)
  | [] => some []
  | .str i :: xs => (strs? xs).map (i :: ·)
  | _ => none
section
variable {M : Str → Option Value} {F : Hp}
theorem FDenL.strs? : ∀ {xs : List FV} {vs : List V} {ns : List Str}, FDenL M F xs vs → J.strs? xs = some ns → vs = ns.map V.str
  | [], _, _, d, e => by cases e; exact d
  | x :: xs, _, _, ⟨v, ws, ev, d, r⟩, e => by
    cases x <;> first | (cases e; done) | skip
    obtain ⟨ms, e1, e2⟩ := Option.map_eq_some_iff.mp e
    subst e2
    rw [ev, show v = _ from d, FDenL.strs? r e1]
    rfl
end
def opStr : List OV → Option OV
  | [.fz (.int i)] => if i.natAbs.log2 < 1920 then some (.fz (.str (toString i))) else none
  | _ => none
def opInt : List OV → Option OV
  | [.fz (.int i)] => some (.fz (.int i))
  | [.fz (.bl b)] => some (.fz (.int (if b then 1 else 0)))
  | [.fz (.str z)] => if z.length ≤ 640 then (PySem.intText? z).map fun n => .fz (.int n) else none
  | _ => none
section
variable {X : Cx}
theorem cj_str : CallR X (.type "str") (rJn X.mg opStr) := by
  refine CallR.imp call_str_int fun us H Q ⟨F, os, o, hf, ps, e, k⟩ => ?_
  unfold opStr at e
  split at e
  · split at e
    · rename_i hz
      cases e
      obtain ⟨u, rfl, b⟩ := paired1 ps
      exact ⟨_, by rw [b.int], hz, k _ _ (New.str hf)⟩
    · cases e
  · cases e
theorem cj_int : CallR X (.type "int") (rJn X.mg opInt) := by
  refine CallR.imp (call_int1.or call_int_str) fun us H Q ⟨F, os, o, hf, ps, e, k⟩ => ?_
  unfold opInt at e
  split at e
  · cases e
    obtain ⟨u, rfl, b⟩ := paired1 ps
    exact .inl (.inl ⟨_, by rw [b.int], k _ _ (New.int hf)⟩)
  · cases e
    obtain ⟨u, rfl, b⟩ := paired1 ps
    exact .inl (.inr ⟨_, by rw [b.bl], k _ _ (New.int hf)⟩)
  · split at e
    · rename_i hz
      obtain ⟨u, rfl, b⟩ := paired1 ps
      obtain ⟨n, e1, e2⟩ := Option.map_eq_some_iff.mp e
      subst e2
      exact .inr ⟨_, n, by rw [b.str], e1, hz, k _ _ (New.int hf)⟩
    · cases e
  · cases e
end
end J
namespace J
open PySem PySem.Spec PyProof.Rows L2
mutual
def FV.pure : FV → Bool
  | .non => true
  | .bl _ => true
  | .int _ => true
  | .str _ => true
  | .tup xs => FV.pureL xs
  | .tuz xs => FV.pureL xs
  | _ => false
def FV.pureL : List FV → Bool
  | [] => true
  | x :: xs => x.pure && FV.pureL xs
end
def FV.pureK {κ : Type} : List (κ × FV) → Bool
  | [] => true
  | (_, x) :: xs => x.pure && FV.pureK xs
mutual
def OV.clean : OV → Bool
  | .fz x => x.pure
  | .ol xs => FV.pureL xs
  | .oK kvs => FV.pureK kvs
  | .oT kvs => FV.pureK kvs
  | .dl xs => OV.cleanL xs
  | .dd kvs => OV.cleanK kvs
  | .tp xs => OV.cleanL xs
  | .ob _ _ fs => OV.cleanA fs
  | .oN _ => true
def OV.cleanL : List OV → Bool
  | [] => true
  | x :: xs => x.clean && OV.cleanL xs
def OV.cleanK : List (Key × OV) → Bool
  | [] => true
  | (_, x) :: xs => x.clean && OV.cleanK xs
def OV.cleanA : List (Str × OV) → Bool
  | [] => true
  | (_, x) :: xs => x.clean && OV.cleanA xs
end
def HO.mutable : HO → Bool
  | .lst _ => true
  | .dK _ => true
  | .dT _ => true
  | .ins _ _ _ => true
  | .ext _ => true
  | _ => false
def mutG (F H : Hp) : Hp := fun a => match F a with
  | some o => some o
  | none => match H a with
    | some o => if HO.mutable o then some o else none
    | none => none
def backF (F H F' : Hp) : Hp := fun a => match H a with
  | some _ => F a
  | none => F' a
section
variable {M : Str → Option Value} {F H H' F' : Hp}
theorem mutG_F (F H : Hp) : Same F (mutG F H) := fun a o e => by unfold mutG; rw [e]
theorem mutG_H (hf : Same F H) : Same (mutG F H) H := fun a o e => by
  unfold mutG at e
  split at e
  · rename_i o' e'
    cases e
    exact hf _ _ e'
  · split at e
    · split at e
      · cases e; assumption
      · cases e
    · cases e
theorem mutG_in {a : Addr} {o : HO} (e : H a = some o) (m : HO.mutable o = true) (hf : Same F H) : mutG F H a = some o := by
  unfold mutG
  split
  · rename_i o' e'
    rw [hf _ _ e'] at e
    exact e
  · rw [e]
    simp [m]
theorem mutG_of {a : Addr} {o : HO} (e : mutG F H a = some o) (m : HO.mutable o = false) : F a = some o := by
  unfold mutG at e
  split at e
  · rename_i o' e'
    cases e
    exact e'
  · split at e
    · split at e
      · rename_i h
        cases e
        rw [m] at h
        cases h
      · cases e
    · cases e
theorem backF_in {a : Addr} {o : HO} (fn : ∀ a u, F' a = some u → mutG F H a = some u ∨ H a = none) (e : F' a = some o) (m : HO.mutable o = false) : backF F H F' a = some o := by
  unfold backF
  cases h : H a with
  | none => exact e
  | some z =>
    rcases fn a o e with q | q
    · exact mutG_of q m
    · rw [h] at q; cases q
mutual
theorem FDen.pure (k : ∀ a o, F' a = some o → HO.mutable o = false → F a = some o) : ∀ {x : FV} {v : V}, x.pure = true → FDen M F' x v → FDen M F x v
  | .non, _, _, d => d
  | .bl _, _, _, d => d
  | .int _, _, _, d => d
  | .str _, _, _, d => d
  | .tup xs, _, p, ⟨a, vs, e, q, r⟩ => ⟨a, vs, e, k _ _ q rfl, FDenL.pure k (by simpa [FV.pure] using p) r⟩
  | .tuz xs, _, p, ⟨a, vs, o, e, q, q1, q2, r⟩ => ⟨a, vs, o, e, k _ _ q rfl, q1, q2, FDenL.pure k (by simpa [FV.pure] using p) r⟩
  | .lst _, _, p, _ => by simp [FV.pure] at p
  | .dK _, _, p, _ => by simp [FV.pure] at p
  | .dT _, _, p, _ => by simp [FV.pure] at p
  | .ins _ _, _, p, _ => by simp [FV.pure] at p
  | .exc _, _, p, _ => by simp [FV.pure] at p
  | .scr _, _, p, _ => by simp [FV.pure] at p
  | .dN _, _, p, _ => by simp [FV.pure] at p
theorem FDenL.pure (k : ∀ a o, F' a = some o → HO.mutable o = false → F a = some o) : ∀ {xs : List FV} {vs : List V}, FV.pureL xs = true → FDenL M F' xs vs → FDenL M F xs vs
  | [], _, _, d => d
  | x :: xs, _, p, ⟨v, ws, e, d, r⟩ => by
    simp only [FV.pureL, Bool.and_eq_true] at p
    exact ⟨v, ws, e, FDen.pure k p.1 d, FDenL.pure k p.2 r⟩
end
theorem FDenK.pure (k : ∀ a o, F' a = some o → HO.mutable o = false → F a = some o) : ∀ {xs : List (Key × FV)} {vs : List (Key × V)}, FV.pureK xs = true → FDenK M F' xs vs → FDenK M F xs vs
  | [], _, _, d => d
  | (_, x) :: xs, _, p, ⟨v, ws, e, d, r⟩ => by
    simp only [FV.pureK, Bool.and_eq_true] at p
    exact ⟨v, ws, e, FDen.pure k p.1 d, FDenK.pure k p.2 r⟩
theorem FDenT.pure (k : ∀ a o, F' a = some o → HO.mutable o = false → F a = some o) : ∀ {xs : List (List Key × FV)} {vs : List (List Key × V)}, FV.pureK xs = true → FDenT M F' xs vs → FDenT M F xs vs
  | [], _, _, d => d
  | (_, x) :: xs, _, p, ⟨v, ws, e, d, r⟩ => by
    simp only [FV.pureK, Bool.and_eq_true] at p
    exact ⟨v, ws, e, FDen.pure k p.1 d, FDenT.pure k p.2 r⟩
mutual
theorem Own.clean (k : ∀ a o, F' a = some o → HO.mutable o = false → F a = some o) : ∀ {x : OV} {v : V} {L : Cells}, x.clean = true → Own M F' x v L → Own M F x v L
  | .fz _, _, _, p, ⟨d, e⟩ => ⟨d.pure k (by simpa [OV.clean] using p), e⟩
  | .ol _, _, _, p, ⟨a, vs, e, r, q⟩ => ⟨a, vs, e, r.pure k (by simpa [OV.clean] using p), q⟩
  | .oK _, _, _, p, ⟨a, vs, e, r, q⟩ => ⟨a, vs, e, r.pure k (by simpa [OV.clean] using p), q⟩
  | .oT _, _, _, p, ⟨a, vs, e, r, q⟩ => ⟨a, vs, e, r.pure k (by simpa [OV.clean] using p), q⟩
  | .dl _, _, _, p, ⟨a, vs, L', e, r, q⟩ => ⟨a, vs, L', e, OwnL.clean k (by simpa [OV.clean] using p) r, q⟩
  | .dd _, _, _, p, ⟨a, vs, L', e, r, q⟩ => ⟨a, vs, L', e, OwnK.clean k (by simpa [OV.clean] using p) r, q⟩
  | .tp _, _, _, p, ⟨a, vs, e, q, r⟩ => ⟨a, vs, e, k _ _ q rfl, OwnL.clean k (by simpa [OV.clean] using p) r⟩
  | .ob _ _ _, _, _, p, ⟨a, C, dx, ws, L', e, m, q, r, q2⟩ => ⟨a, C, dx, ws, L', e, m, k _ _ q rfl, OwnA.clean k (by simpa [OV.clean] using p) r, q2⟩
  | .oN _, _, _, _, ⟨a, kb, e, n, kt, q⟩ => ⟨a, kb, e, n, fun p hp => let ⟨c, x, y⟩ := kt p hp; ⟨c, k _ _ x rfl, k _ _ y rfl⟩, q⟩
theorem OwnL.clean (k : ∀ a o, F' a = some o → HO.mutable o = false → F a = some o) : ∀ {xs : List OV} {vs : List V} {L : Cells}, OV.cleanL xs = true → OwnL M F' xs vs L → OwnL M F xs vs L
  | [], _, _, _, d => d
  | _ :: _, _, _, p, ⟨v, ws, A, B, e, d, r, q⟩ => by
    simp only [OV.cleanL, Bool.and_eq_true] at p
    exact ⟨v, ws, A, B, e, Own.clean k p.1 d, OwnL.clean k p.2 r, q⟩
theorem OwnK.clean (k : ∀ a o, F' a = some o → HO.mutable o = false → F a = some o) : ∀ {xs : List (Key × OV)} {vs : List (Key × V)} {L : Cells}, OV.cleanK xs = true → OwnK M F' xs vs L → OwnK M F xs vs L
  | [], _, _, _, d => d
  | (_, _) :: _, _, _, p, ⟨v, ws, A, B, e, d, r, q⟩ => by
    simp only [OV.cleanK, Bool.and_eq_true] at p
    exact ⟨v, ws, A, B, e, Own.clean k p.1 d, OwnK.clean k p.2 r, q⟩
theorem OwnA.clean (k : ∀ a o, F' a = some o → HO.mutable o = false → F a = some o) : ∀ {xs : List (Str × OV)} {vs : List (Str × V)} {L : Cells}, OV.cleanA xs = true → OwnA M F' xs vs L → OwnA M F xs vs L
  | [], _, _, _, d => d
  | (_, _) :: _, _, _, p, ⟨v, ws, A, B, e, d, r, q⟩ => by
    simp only [OV.cleanA, Bool.and_eq_true] at p
    exact ⟨v, ws, A, B, e, Own.clean k p.1 d, OwnA.clean k p.2 r, q⟩
end
theorem New.clean {o : OV} {v : V} (hf : Same F H) (n : New M (mutG F H) H H' o v) (p : o.clean = true) : New M F H H' o v := by
  obtain ⟨F', L, ff, fn, fh, hh, ow, gd⟩ := n
  refine ⟨backF F H F', L, fun a u e => ?_, fun a u e => ?_, fun a u e => ?_, hh, ow.clean (fun a o e m => backF_in fn e m) p, ⟨gd.nd, gd.hp, fun q hq => ?_, gd.zr⟩⟩
  · unfold backF
    rw [hf _ _ e]
    exact e
  · unfold backF at e
    cases h : H a with
    | none => exact .inr rfl
    | some z => rw [h] at e; exact .inl e
  · unfold backF at e
    cases h : H a with
    | none => rw [h] at e; exact fh _ _ e
    | some z => rw [h] at e; exact hh _ _ (hf _ _ e)
  · unfold backF
    rw [gd.zr q hq]
    exact gd.fr q hq
mutual
theorem Own.mut (hf : Same F H) : ∀ {x : OV} {v : V} {L : Cells}, Own M F x v L → (∀ p ∈ L, H p.1 = some p.2) → FDen M (mutG F H) x.fv v
  | .fz _, _, _, ⟨d, e⟩, _ => d.mono (mutG_F F H)
  | .ol _, _, _, ⟨a, vs, e, r, q⟩, c => ⟨a, vs, e, mutG_in (by subst q; exact c _ List.mem_cons_self) rfl hf, r.mono (mutG_F F H)⟩
  | .oK _, _, _, ⟨a, vs, e, r, q⟩, c => ⟨a, vs, e, mutG_in (by subst q; exact c _ List.mem_cons_self) rfl hf, r.mono (mutG_F F H)⟩
  | .oT _, _, _, ⟨a, vs, e, r, q⟩, c => ⟨a, vs, e, mutG_in (by subst q; exact c _ List.mem_cons_self) rfl hf, r.mono (mutG_F F H)⟩
  | .dl _, _, _, ⟨a, vs, L', e, r, q⟩, c => by
    subst q
    exact ⟨a, vs, e, mutG_in (c _ List.mem_cons_self) rfl hf, OwnL.mut hf r fun p hp => c p (List.mem_cons_of_mem _ hp)⟩
  | .dd _, _, _, ⟨a, vs, L', e, r, q⟩, c => by
    subst q
    exact ⟨a, vs, e, mutG_in (c _ List.mem_cons_self) rfl hf, OwnK.mut hf r fun p hp => c p (List.mem_cons_of_mem _ hp)⟩
  | .tp _, _, _, ⟨a, vs, e, q, r⟩, c => ⟨a, vs, e, mutG_F F H _ _ q, OwnL.mut hf r c⟩
  | .ob _ _ _, _, _, ⟨a, C, dx, ws, L', e, m, q, r, q2⟩, c => by
    subst q2
    exact ⟨a, C, dx, ws, e, m.1, mutG_in (c _ List.mem_cons_self) rfl hf, mutG_F F H _ _ q, OwnA.mut hf r fun p hp => c p (List.mem_cons_of_mem _ hp)⟩
  | .oN _, _, _, ⟨a, kb, e, n, kt, q⟩, c => ⟨a, kb, e, mutG_in (by subst q; exact c _ List.mem_cons_self) rfl hf, n, kt.mono (mutG_F F H)⟩
theorem OwnL.mut (hf : Same F H) : ∀ {xs : List OV} {vs : List V} {L : Cells}, OwnL M F xs vs L → (∀ p ∈ L, H p.1 = some p.2) → FDenL M (mutG F H) (OV.fvL xs) vs
  | [], _, _, d, _ => d.1
  | _ :: _, _, _, ⟨v, ws, A, B, e, d, r, q⟩, c => by
    subst q
    exact ⟨v, ws, e, Own.mut hf d fun p hp => c p (List.mem_append_left _ hp), OwnL.mut hf r fun p hp => c p (List.mem_append_right _ hp)⟩
theorem OwnK.mut (hf : Same F H) : ∀ {xs : List (Key × OV)} {vs : List (Key × V)} {L : Cells}, OwnK M F xs vs L → (∀ p ∈ L, H p.1 = some p.2) → FDenK M (mutG F H) (OV.fvK xs) vs
  | [], _, _, d, _ => d.1
  | (_, _) :: _, _, _, ⟨v, ws, A, B, e, d, r, q⟩, c => by
    subst q
    exact ⟨v, ws, e, Own.mut hf d fun p hp => c p (List.mem_append_left _ hp), OwnK.mut hf r fun p hp => c p (List.mem_append_right _ hp)⟩
theorem OwnA.mut (hf : Same F H) : ∀ {xs : List (Str × OV)} {vs : List (Str × V)} {L : Cells}, OwnA M F xs vs L → (∀ p ∈ L, H p.1 = some p.2) → FDenA M (mutG F H) (OV.fvA xs) vs
  | [], _, _, d, _ => d.1
  | (_, _) :: _, _, _, ⟨v, ws, A, B, e, d, r, q⟩, c => by
    subst q
    exact ⟨v, ws, e, Own.mut hf d fun p hp => c p (List.mem_append_left _ hp), OwnA.mut hf r fun p hp => c p (List.mem_append_right _ hp)⟩
end
end
abbrev FM := List FV → Ans OV
def spF (M : Str → Option Value) (n : Nat) (m : FM) : Sp := fun vs H Q E => ∃ G as, Same G H ∧ vs.length = n ∧ FDenL M G as vs ∧ match m as with
  | .ok o => ∀ v H', New M G H H' o v → Q v H'
  | .ex c => ∀ C H', M c = some (.ref C) → Same H H' → E (.ref C) none H'
  | .no => False
def Rv.isFz (r : Rv) : Bool := match r.ov with
  | .fz _ => true
  | _ => false
def dCall (m : FM) (g : VEnv → Ans (List Rv)) : DE := fun env => (g env).bind fun rs => (m (rs.map Rv.fv)).bind fun o => if rs.all Rv.isFz || o.clean then .ok (.st o) else .no
def dFrz (f : DE) : DE := fun env => (f env).bind fun r => match r with
  | .st o => .ok (.st (.fz o.fv))
  | .bo o => .ok (.bo o)
theorem zip_den {M : Str → Option Value} {F H : Hp} (hf : Same F H) : ∀ {rs : List Rv} {vs : List V}, vs.length = rs.length → (∀ p ∈ vs.zip rs, Bor M F H p.2.ov p.1) → FDenL M (mutG F H) (rs.map Rv.fv) vs
  | [], vs, hl, _ => List.eq_nil_of_length_eq_zero hl
  | r :: rs, [], hl, _ => by simp at hl
  | r :: rs, v :: vs, hl, h => ⟨v, vs, rfl, (let ⟨A, d, c⟩ := h (v, r) (by simp); d.mut hf c), zip_den hf (by simpa using hl) fun p hp => h p (by rw [List.zip_cons_cons]; exact List.mem_cons_of_mem _ hp)⟩
theorem zip_denF {M : Str → Option Value} {F H : Hp} : ∀ {rs : List Rv} {vs : List V}, rs.all Rv.isFz = true → vs.length = rs.length → (∀ p ∈ vs.zip rs, Bor M F H p.2.ov p.1) → FDenL M F (rs.map Rv.fv) vs
  | [], vs, _, hl, _ => List.eq_nil_of_length_eq_zero hl
  | r :: rs, [], _, hl, _ => by simp at hl
  | r :: rs, v :: vs, ha, hl, h => by
    rw [List.all_cons, Bool.and_eq_true] at ha
    refine ⟨v, vs, rfl, ?_, zip_denF ha.2 (by simpa using hl) fun p hp => h p (by rw [List.zip_cons_cons]; exact List.mem_cons_of_mem _ hp)⟩
    have hb := h (v, r) (by simp)
    have h1 := ha.1
    unfold Rv.isFz at h1
    split at h1
    · rename_i x e
      rw [show (v, r).2.ov = r.ov from rfl, e] at hb
      show FDen M F r.ov.fv v
      rw [e]
      exact hb.fz
    · cases h1
def DL (g : VEnv → Ans (List Rv)) (n : Nat) : Prop := ∀ env rs, g env = .ok rs → rs.length = n
theorem dl_nil : DL dNil 0 := fun env rs h => by cases h; rfl
theorem dl_cons {f : DE} {g : VEnv → Ans (List Rv)} {n : Nat} (h : DL g n) : DL (dCons f g) (n + 1) := fun env rs e => by
  unfold dCons at e
  cases e1 : f env with
  | ok r =>
    rw [e1] at e
    cases e2 : g env with
    | ok rs' =>
      simp only [Ans.bind, e2] at e
      cases e
      rw [List.length_cons, h env rs' e2]
    | ex c => simp only [Ans.bind, e2] at e; cases e
    | no => simp only [Ans.bind, e2] at e; cases e
  | ex c => rw [e1] at e; cases e
  | no => rw [e1] at e; cases e
section
variable {M : Str → Option Value} {G Z H F : Hp} {σ : Sl} {env : VEnv} {T T2 : List (V × Rv)} {W : WX} {Q : VK} {C1 C2 : Cells}
theorem TmpOwn.freeze {v : V} {o : OV} {L : Cells} (t : TmpOwn M F H ((v, .st o) :: T) L) : ∃ A B, L = A ++ B ∧ Own M F o v A ∧ TmpOwn M F H T B := by
  cases t with
  | st d t => exact ⟨_, _, rfl, d, t⟩
theorem R.frz {v : V} {o : OV} (r : R M G Z H σ env ((v, .st o) :: T)) : R M G Z H σ env ((v, .st (.fz o.fv)) :: T) := by
  obtain ⟨F, C1, C2, r⟩ := r
  obtain ⟨A, B, e, d, t⟩ := r.tm.freeze
  subst e
  obtain ⟨i1, i2, i3, i4, i5, i6⟩ := r.ice (A := A) (Lr := C1 ++ B) (by rw [← List.append_assoc, ← List.append_assoc]; exact List.perm_append_comm.append_right _)
  exact ⟨updL F A, C1, B, i1, i2, i4, r.zh, r.ev.mono i3, .st (A := []) ⟨d.fden i3 i6, rfl⟩ (t.mono i3 (Same.refl _)), i5⟩
end
section
variable {X : Cx} {W : WX} {pos p : Pos} {x : Str} {e : Expr} {es : List Expr} {f : DE} {g : VEnv → Ans (List Rv)} {m : FM} {k : Nat} {fa : Addr} {fd : FuncData} {ps : List Str} {n : Nat}
theorem je_frz (h : JE X W e f) : JE X W e (dFrz f) := by
  refine PE.imp h fun σ H Q ⟨G, Z, env, T, r, p⟩ => ?_
  refine tE.bind r Sb.refl p fun x u H1 _ s1 r1 p1 => ?_
  cases x with
  | st o => exact p1 u H1 (Same.refl _) r1.frz
  | bo o => exact p1 u H1 (Same.refl _) r1
theorem call_red {vs : List V} {rs : List Rv} {G Z H : Hp} {σ : Sl} {env : VEnv} {T : List (V × Rv)} {Q : VK} (hl : vs.length = rs.length) (hn : rs.length = n) (r : R X.mg G Z H σ env (vs.zip rs ++ T))
    (p : Post X.mg W G Z σ env T Q H ((m (rs.map Rv.fv)).bind fun o => if rs.all Rv.isFz || o.clean then .ok (.st o) else .no)) : spF X.mg n m vs H Q fun cls d H => W cls d σ H := by
  obtain ⟨F, C1, C2, r⟩ := r
  have hb : ∀ p ∈ vs.zip rs, Bor X.mg F H p.2.ov p.1 := fun p hp => r.bor (List.mem_append_left _ hp)
  have hs : Sb T (vs.zip rs ++ T) := ⟨vs.zip rs, List.perm_append_comm⟩
  cases ha : rs.all Rv.isFz with
  | true =>
    refine ⟨F, rs.map Rv.fv, r.fh, by rw [hl, hn], zip_denF ha hl hb, ?_⟩
    cases em : m (rs.map Rv.fv) with
    | ok o =>
      rw [em] at p
      simp only [Ans.bind, ha, Bool.true_or, if_true] at p
      exact fun v H' nw => p v H' (let ⟨_, _, n⟩ := nw; n.hh) ((r.new nw).sb hs.both)
    | ex c =>
      rw [em] at p
      exact fun C H' mc s => p C H' mc s ((r.same s).r.sb hs)
    | no => rw [em] at p; exact p
  | false =>
    refine ⟨mutG F H, rs.map Rv.fv, mutG_H r.fh, by rw [hl, hn], zip_den r.fh hl hb, ?_⟩
    cases em : m (rs.map Rv.fv) with
    | ok o =>
      rw [em] at p
      simp only [Ans.bind, ha, Bool.false_or] at p
      split at p
      · rename_i hc
        exact fun v H' nw => p v H' (let ⟨_, _, n⟩ := nw; n.hh) ((r.new (nw.clean r.fh hc)).sb hs.both)
      · exact p.elim
    | ex c =>
      rw [em] at p
      exact fun C H' mc s => p C H' mc s ((r.same s).r.sb hs)
    | no => rw [em] at p; exact p
theorem je_call (tk : Takes X W) (F : FnOk X.prog X.w X.K X.mg X.base (L2.CX X.prog X.w) k fa fd ps (spF X.mg n m)) (hr : Room k X.A) (hm : X.mg x = some (.ref fa)) (hk : PySem.W.keepIn X.K (.ref fa) = true) (hb : Binds X.K fd ps []) (ha : JA X W (e :: es) g)
    (hl : (e :: es).length = n := by rfl) (hgl : DL g (e :: es).length := by repeat (first | exact dl_nil | refine dl_cons ?_)) (hg : Gl X x := by rfl) (hdb : (x == ("__debug__" : Str)) = false := by decide)
    (he : starEach (e :: es) X.env = (false, eval e X.env) :: starEach es X.env := by rfl) (hpl : (backTo pos (starEach es X.env)).any (·.1) = false := by rfl) : JE X W (.Call (.Name x p) (e :: es) [] pos) (dCall m g) := by
  refine PE.imp (pe_callS F hr hg hm hk hb (E := WE W) (passAt tk) ha hdb he hpl) fun σ H Q ⟨G, Z, env, T, r, p⟩ => ?_
  exact tA.bind r Sb.refl p fun rs vs H1 eg hlv s1 r1 p1 => call_red hlv (by rw [hgl env rs eg, hl]) r1 p1
end
end J
namespace J
open PySem PySem.Spec PyProof.Rows L2
def AllSt (T : List (V × Rv)) : Prop := ∀ p ∈ T, ∃ o, p.2 = .st o
def PostS (M : Str → Option Value) (W : WX) (G Z : Hp) (T : List (V × Rv)) (D : Ends) : Ans SO → Prop
  | .ok (.nx e) => ∀ σ' H', R M G Z H' σ' e T → D.nx σ' H'
  | .ok (.rt o e) => ∀ v σ' H', R M G Z H' σ' e ((v, .st o) :: T) → D.rt v H'
  | .ok (.bk e) => ∀ σ' H', R M G Z H' σ' e T → D.bk σ' H'
  | .ok (.ct e) => ∀ σ' H', R M G Z H' σ' e T → D.ct σ' H'
  | .ex c => ∀ C σ' H', M c = some (.ref C) → Same Z H' → W (.ref C) none σ' H'
  | .no => False
def sJ (M : Str → Option Value) (W : WX) (f : DS) : TS := fun D σ H => ∃ G Z env T, AllSt T ∧ R M G Z H σ env T ∧ PostS M W G Z T D (f env)
abbrev JS (X : Cx) (W : WX) (st : Stmt) (f : DS) : Prop := PS X st (sJ X.mg W f)
abbrev JSs (X : Cx) (W : WX) (st : List Stmt) (f : DS) : Prop := PSs X st (sJ X.mg W f)
theorem PS.imp {X : Cx} {st : Stmt} {t t' : TS} (p : PS X st t) (h : ∀ D σ H, t' D σ H → t D σ H) : PS X st t' := ⟨fun pins s σ H D I q => p.run pins s σ H D I (h D σ H q)⟩
theorem PSs.imp {X : Cx} {st : List Stmt} {t t' : TS} (p : PSs X st t) (h : ∀ D σ H, t' D σ H → t D σ H) : PSs X st t' := ⟨fun pins s σ H D I q => p.run pins s σ H D I (h D σ H q)⟩
def SO.bind (x : Ans SO) (f : VEnv → Ans SO) : Ans SO := match x with
  | .ok (.nx e) => f e
  | x => x
def dSkip : DS := fun env => .ok (.nx env)
def dSeq (f g : DS) : DS := fun env => SO.bind (f env) g
def dSet (i : Nat) (f : DE) : DS := fun env => (f env).bind fun r => match r with
  | .st o => .ok (.nx (env.set i (some o)))
  | .bo _ => .no
def dRet (f : DE) : DS := fun env => (f env).bind fun r => match r with
  | .st o => .ok (.rt o env)
  | .bo _ => .no
def dRetV (i : Nat) : DS := fun env => match env[i]? with
  | some (some o) => .ok (.rt o (env.set i none))
  | _ => .no
def dIf (c : DT) (f g : DS) : DS := fun env => (c env).bind fun b => if b then f env else g env
def dIce (i : Nat) (f : DS) : DS := fun env => match env[i]? with
  | some (some o) => f (env.set i (some (.fz o.fv)))
  | _ => f env
section
variable {M : Str → Option Value} {G Z H F : Hp} {σ : Sl} {env : VEnv} {T T2 : List (V × Rv)} {W : WX} {C1 C2 : Cells} {D : Ends}
theorem tE.bindS {f : DE} {k : Rv → Ans SO} {Q1 : VK} (r : R M G Z H σ env T) (p : PostS M W G Z T D ((f env).bind k))
    (h : ∀ rv v H1, f env = .ok rv → Same H H1 → R M G Z H1 σ env ((v, rv) :: T) → PostS M W G Z T D (k rv) → Q1 v H1) : tE M W f σ H Q1 := by
  refine tE.then r Sb.refl (fun rv v H1 e s r => h rv v H1 e s r ?_) (fun c C H1 e m s r => ?_) fun e => ?_
  · rw [e] at p; exact p
  · rw [e] at p
    obtain ⟨_, _, _, r⟩ := r
    exact p C σ H1 m r.zh
  · rw [e] at p; exact p
theorem tT.bindS {f : DT} {k : Bool → Ans SO} {Q1 : Bool → Hp → Prop} (r : R M G Z H σ env T) (p : PostS M W G Z T D ((f env).bind k))
    (h : ∀ b H1, f env = .ok b → Same H H1 → R M G Z H1 σ env T → PostS M W G Z T D (k b) → Q1 b H1) : tT M W f σ H Q1 := by
  refine ⟨G, Z, env, T, r, ?_⟩
  cases e : f env with
  | ok b =>
    rw [e] at p
    exact fun H1 s r => h b H1 e s r p
  | ex c =>
    rw [e] at p
    exact fun C H1 m s r => let ⟨_, _, _, r⟩ := r; p C σ H1 m r.zh
  | no => rw [e] at p; exact p
theorem PostS.seq {f : DS} {g : DS} (p : PostS M W G Z T D (SO.bind (f env) g)) (hT : AllSt T) : PostS M W G Z T { D with nx := sJ M W g D } (f env) := by
  unfold SO.bind at p
  split at p
  · rename_i e e1
    rw [e1]
    exact fun σ' H' r => ⟨G, Z, e, T, hT, r, p⟩
  · rename_i x hx
    cases e : f env with
    | ok s =>
      rw [e] at p hx
      cases s with
      | nx e2 => exact absurd rfl (hx e2)
      | rt o e2 => exact p
      | bk e2 => exact p
      | ct e2 => exact p
    | ex c => rw [e] at p; exact p
    | no => rw [e] at p; exact p
end
section
variable {X : Cx} {W : WX} {pos pos' : Pos} {e : Expr} {st : Stmt} {rest a b : List Stmt} {f g : DS} {fe : DE} {c : Expr} {fc : DT}
theorem jss_nil : JSs X W [] dSkip := PSs.imp pss_nil fun D σ H ⟨G, Z, env, T, hT, r, p⟩ => p σ H r
theorem jss_cons (h1 : JS X W st f) (h2 : JSs X W rest g) : JSs X W (st :: rest) (dSeq f g) :=
  PSs.imp (pss_cons h1 h2) fun D σ H ⟨G, Z, env, T, hT, r, p⟩ => ⟨G, Z, env, T, hT, r, p.seq hT⟩
theorem jss_one (h1 : JS X W st f) : JSs X W [st] f := pss_one h1
theorem js_set (i : Nat) {x : Str} (hN : X.N.Nodup) (he : JE X W e fe) (hi : X.N[i]? = some x := by rfl) (hx : Loc X.env.scope x := by first | exact .inl rfl | exact .inr rfl) (hs : swapsWith e (some (.Name x pos')) pos.line X.env = pure false := by rfl)
    (hf : X.fn x = true ∨ X.env.scope.names.lookup x = some .local := by first | exact .inl rfl | exact .inr rfl) : JS X W (.Assign [.Name x pos'] e pos) (dSet i fe) :=
  PS.imp (ps_set hN hi hx he hs hf) fun D σ H ⟨G, Z, env, T, hT, r, p⟩ => tE.bindS r p fun rv v H1 _ s r1 p1 => by
    cases rv with
    | st o => exact p1 _ _ (r1.set i)
    | bo o => exact p1.elim
theorem js_ret (he : JE X W e fe) : JS X W (.Return (some e) pos) (dRet fe) :=
  PS.imp (ps_ret he) fun D σ H ⟨G, Z, env, T, hT, r, p⟩ => tE.bindS r p fun rv v H1 _ s r1 p1 => by
    cases rv with
    | st o => exact p1 v σ H1 r1
    | bo o => exact p1.elim
theorem R.take {M : Str → Option Value} {G Z H : Hp} {σ : Sl} {env : VEnv} {T : List (V × Rv)} {o : OV} {i : Nat} (r : R M G Z H σ env T) (h : env[i]? = some (some o)) : ∃ v, σ[i]? = some (some v) ∧ R M G Z H σ (env.set i none) ((v, .st o) :: T) := by
  obtain ⟨F, C1, C2, r⟩ := r
  obtain ⟨v, A, Lr, h1, h2, h3, h4, h5⟩ := r.ev.repl h
  refine ⟨v, h1, F, Lr, A ++ C2, r.gf, r.fg, r.fh, r.zh, ?_, .st h2 r.tm, r.gd.perm ?_⟩
  · have h6 := h5 (some v)
    have e : σ.set i (some v) = σ := by
      apply List.ext_getElem?
      intro j
      by_cases hj : i = j
      · subst hj
        obtain ⟨hlt, _⟩ := List.getElem?_eq_some_iff.mp h1
        rw [List.getElem?_set_self hlt, h1]
      · rw [List.getElem?_set_ne hj]
    rw [e] at h6
    exact h6
  · refine (h3.append_right C2).trans ?_
    rw [← List.append_assoc]
    exact List.perm_append_comm.append_right _
theorem js_retV (i : Nat) {x : Str} (hN : X.N[i]? = some x := by rfl) (hv : Vis X.env.scope x := by first | exact Or.inl rfl | exact Or.inr (Or.inl rfl) | exact Or.inr (Or.inr rfl)) (hd : (x == ("__debug__" : Str)) = false := by decide)
    (hcd : (x == ("__classdict__" : Str)) = false := by decide) : JS X W (.Return (some (.Name x pos')) pos) (dRetV i) := by
  refine PS.imp (ps_ret (pe_var hN hv hd hcd)) fun D σ H ⟨G, Z, env, T, hT, r, p⟩ => ?_
  have hp : PostS X.mg W G Z T D (dRetV i env) := p
  unfold dRetV at hp
  split at hp
  · rename_i o e
    obtain ⟨v, h1, r1⟩ := r.take e
    exact ⟨v, h1, hp v σ H r1⟩
  · exact hp.elim
theorem js_if (hc : JT X W c fc) (ha : JSs X W a f) (hb : JSs X W b g) : JS X W (.If c a b pos) (dIf fc f g) := by
  refine PS.imp (ps_if hc ha hb) fun D σ H ⟨G, Z, env, T, hT, r, p⟩ => tT.bindS r p fun b H1 _ s r1 p1 => ?_
  cases b with
  | true =>
    rw [if_pos rfl] at p1 ⊢
    exact ⟨G, Z, env, T, hT, r1, p1⟩
  | false =>
    rw [if_neg Bool.false_ne_true] at p1 ⊢
    exact ⟨G, Z, env, T, hT, r1, p1⟩
theorem js_ice (i : Nat) (h : JS X W st f) : JS X W st (dIce i f) := by
  refine PS.imp h fun D σ H ⟨G, Z, env, T, hT, r, p⟩ => ?_
  have hp : PostS X.mg W G Z T D (dIce i f env) := p
  unfold dIce at hp
  split at hp
  · rename_i o e
    exact ⟨G, Z, _, T, hT, r.freeze e, hp⟩
  · exact ⟨G, Z, env, T, hT, r, hp⟩
theorem jss_ice (i : Nat) {st : List Stmt} (h : JSs X W st f) : JSs X W st (dIce i f) := by
  refine PSs.imp h fun D σ H ⟨G, Z, env, T, hT, r, p⟩ => ?_
  have hp : PostS X.mg W G Z T D (dIce i f env) := p
  unfold dIce at hp
  split at hp
  · rename_i o e
    exact ⟨G, Z, _, T, hT, r.freeze e, hp⟩
  · exact ⟨G, Z, env, T, hT, r, hp⟩
end
def startE (n : Nat) (as : List FV) : VEnv := as.map (fun x => some (.fz x)) ++ List.replicate (n - as.length) none
def runF (n : Nat) (f : DS) : FM := fun as => match f (startE n as) with
  | .ok (.nx _) => .ok (.fz .non)
  | .ok (.rt o _) => .ok o
  | .ex c => .ex c
  | _ => .no
theorem env_none {M : Str → Option Value} {F : Hp} : ∀ (σ : Sl) , EnvOwn M F σ (List.replicate σ.length none) []
  | [] => .nil
  | s :: σ => .skip (env_none σ)
theorem env_start {M : Str → Option Value} {F : Hp} (σ2 : Sl) : ∀ {as : List FV} {vs : List V}, FDenL M F as vs → EnvOwn M F (vs.map some ++ σ2) (as.map (fun x => some (.fz x)) ++ List.replicate σ2.length none) []
  | [], vs, d => by rw [show vs = [] from d]; exact env_none σ2
  | a :: as, _, ⟨v, ws, e, d, r⟩ => by
    rw [e]
    exact .cons (A := []) (B := []) ⟨d, rfl⟩ (env_start σ2 r)
theorem r_start {M : Str → Option Value} {G H : Hp} {as : List FV} {vs : List V} {N : List Str} (hg : Same G H) (d : FDenL M G as vs) : R M G H H (L2.start N vs) (startE N.length as) [] := by
  refine ⟨G, [], [], Same.refl _, fun a o e => .inl e, hg, Same.refl _, ?_, .nil, Good.nil⟩
  unfold L2.start startE
  rw [d.length]
  have := env_start (M := M) (F := G) (List.replicate (N.length - as.length) none) d
  rw [List.length_replicate] at this
  exact this
section
variable {P : Program} {w : World} {K : PySem.W.Frag} {mg : Str → Option Value} {base : Heap}
theorem run_post {M : Str → Option Value} {G H : Hp} {as : List FV} {n : Nat} {f : DS} {Q : VK} {E : XK}
    (p : match runF n f as with | .ok o => ∀ v H', New M G H H' o v → Q v H' | .ex c => ∀ C H', M c = some (.ref C) → Same H H' → E (.ref C) none H' | .no => False) :
    PostS M (fun cls d _ H => E cls d H) G H [] { nx := fun _ H' => Q .non H', rt := Q } (f (startE n as)) := by
  have key : ∀ {o : OV} {v : V} {σ' : Sl} {e : VEnv} {H' : Hp}, R M G H H' σ' e [(v, .st o)] → New M G H H' o v := by
    intro o v σ' e H' ⟨F, C1, C2, r⟩
    obtain ⟨A, B, e1, d, t⟩ := r.tm.freeze
    cases t
    rw [List.append_nil] at e1
    subst e1
    have g := r.gd.right
    exact ⟨F, C2, r.gf, r.fg, r.fh, r.zh, d, ⟨g.nd, g.hp, g.fr, g.zr⟩⟩
  unfold runF at p
  cases e : f (startE n as) with
  | ok s =>
    rw [e] at p
    cases s with
    | nx e2 =>
      intro σ' H' ⟨F, C1, C2, r⟩
      exact p .non H' (key (r.new (New.non r.fh)))
    | rt o e2 => exact fun v σ' H' r => p v H' (key r)
    | bk e2 => exact p.elim
    | ct e2 => exact p.elim
  | ex c =>
    rw [e] at p
    exact fun C σ' H' m s => p C H' m s
  | no => rw [e] at p; exact p
theorem ok_of {x qual : Str} {st : Stmt} {f : Addr} {fd : FuncData} {N ps : List Str} {k : Nat} {fD : DS} (F : Fun K x qual st f fd) (S : FnScope N ps (defScope st))
    (hb : ∀ (cdv : Value) (A : Around) (outer : List PySem.Env) (s : Shared) (H : Hp) (E : XK), Room k (A.deeper (envOfC qual (defScope st) s.heap.objs.size f cdv)) →
      Takes (cxOf (L2.CX P w) P w K mg base N qual (defScope st) f cdv A outer s H E) (fun cls d _ H => E cls d H) →
      PassesOwn (model P w) (A.deeper (envOfC qual (defScope st) s.heap.objs.size f cdv)) (envOfC qual (defScope st) s.heap.objs.size f cdv) (cxOf (L2.CX P w) P w K mg base N qual (defScope st) f cdv A outer s H E).xe →
      JSs (cxOf (L2.CX P w) P w K mg base N qual (defScope st) f cdv A outer s H E) (fun cls d _ H => E cls d H) (defBody st) fD) :
    FnOk P w K mg base (L2.CX P w) (k + 1) f fd ps (spF mg ps.length (runF N.length fD)) := by
  refine F.okX S (fun vs H Q E ⟨G, as, h1, h2, _⟩ => h2) fun cdv A outer s H vs Q E hr ⟨G, as, h1, h2, h3, p⟩ => ?_
  exact ⟨_, hb cdv A outer s H E hr (takes_of rfl rfl rfl rfl) (passes_of rfl), G, H, _, [], (fun _ h => nomatch h), r_start h1 h3, run_post p⟩
end
end J
namespace J
open PySem PySem.Spec PyProof.Rows L2
end J
namespace J
open PySem PySem.Spec PyProof.Rows L2 RZ
def WalkJ (M : Str → Option Value) (J : It) (kept : List (V × Rv)) (items : List FV) : Prop :=
  ∀ F H i, Same F H → (∀ p ∈ kept, Bor M F H p.2.ov p.1) → (∀ x, items[i]? = some x → J.go i H ∧ ∀ v H', J.yld i H v H' → New M F H H' (.fz x) v) ∧ (items.length ≤ i → J.stop i H)
def PostI (M : Str → Option Value) (W : WX) (G Z : Hp) (σ : Sl) (env : VEnv) (T : List (V × Rv)) (Q : It → Hp → Prop) (H : Hp) : Ans (List FV) → Prop
  | .ok items => ∀ J H' kept, AllSt kept → Same H H' → R M G Z H' σ env (kept ++ T) → WalkJ M J kept items → Q J H'
  | .ex c => ∀ C H', M c = some (.ref C) → Same H H' → R M G Z H' σ env T → W (.ref C) none σ H'
  | .no => False
def tI (M : Str → Option Value) (W : WX) (f : VEnv → Ans (List FV)) : TI := fun σ H Q => ∃ G Z env T, R M G Z H σ env T ∧ PostI M W G Z σ env T Q H (f env)
abbrev JI (X : Cx) (W : WX) (tg e : Expr) (f : VEnv → Ans (List FV)) : Prop := PI X tg e (tI X.mg W f)
theorem PI.imp {X : Cx} {tg e : Expr} {t t' : TI} (p : PI X tg e t) (h : ∀ σ H Q, t' σ H Q → t σ H Q) : PI X tg e t' := ⟨fun pins s σ H Q I q => p.run pins s σ H Q I (h σ H Q q)⟩
theorem PI.or {X : Cx} {tg e : Expr} {t t' : TI} (p : PI X tg e t) (p' : PI X tg e t') : PI X tg e (fun σ H Q => t σ H Q ∨ t' σ H Q) := ⟨fun pins s σ H Q I q => q.elim (p.run pins s σ H Q I) (p'.run pins s σ H Q I)⟩
section
variable {M : Str → Option Value} {G Z H F : Hp} {σ : Sl} {env : VEnv} {T T2 : List (V × Rv)} {W : WX} {C1 C2 : Cells}
theorem PostI.later {x : Ans (List FV)} {Q : It → Hp → Prop} {H1 : Hp} (p : PostI M W G Z σ env T Q H x) (h : Same H H1) : PostI M W G Z σ env T Q H1 x := by
  cases x with
  | ok r => exact fun J H' kp hk s r w => p J H' kp hk (h.trans s) r w
  | ex c => exact fun C H' m s r => p C H' m (h.trans s) r
  | no => exact p
theorem tE.bindI {f : DE} {k : Rv → Ans (List FV)} {Q1 : VK} {Q : It → Hp → Prop} (r : R M G Z H σ env T2) (hs : Sb T T2) (p : PostI M W G Z σ env T Q H ((f env).bind k))
    (h : ∀ rv v H1, f env = .ok rv → Same H H1 → R M G Z H1 σ env ((v, rv) :: T2) → PostI M W G Z σ env T Q H1 (k rv) → Q1 v H1) : tE M W f σ H Q1 := by
  refine tE.then r hs (fun rv v H1 e s r => h rv v H1 e s r ?_) (fun c C H1 e m s r => ?_) fun e => ?_
  · rw [e] at p; exact p.later s
  · rw [e] at p; exact p C H1 m s r
  · rw [e] at p; exact p
theorem tA.bindI {f : VEnv → Ans (List Rv)} {k : List Rv → Ans (List FV)} {Q1 : List V → Hp → Prop} {Q : It → Hp → Prop} (r : R M G Z H σ env T2) (hs : Sb T T2) (p : PostI M W G Z σ env T Q H ((f env).bind k))
    (h : ∀ rs vs H1, f env = .ok rs → vs.length = rs.length → Same H H1 → R M G Z H1 σ env (vs.zip rs ++ T2) → PostI M W G Z σ env T Q H1 (k rs) → Q1 vs H1) : tA M W f σ H Q1 := by
  refine ⟨G, Z, env, T2, r, ?_⟩
  cases e : f env with
  | ok rs =>
    rw [e] at p
    exact fun vs H1 hl s r => h rs vs H1 e hl s r (p.later s)
  | ex c =>
    rw [e] at p
    exact fun C H1 m s r => p C H1 m s (r.sb hs)
  | no => rw [e] at p; exact p
end
theorem walk_list {M : Str → Option Value} {K : PySem.W.Frag} {a : Addr} {o : OV} {xs : List FV} (e : o.lst? = some xs) : WalkJ M (Itl K a) [(.ref a, .st o)] xs := fun F H i hf hk => by
  obtain ⟨a', vs, ea, q, d⟩ := (hk _ (List.mem_singleton_self _)).lst hf e
  cases ea
  refine ⟨fun x hx => ?_, fun hi => ⟨vs, SqL.of q, by rw [d.length]; exact hi⟩⟩
  obtain ⟨v, h1, h2⟩ := d.get hx
  refine ⟨⟨vs, v, SqL.of q, h1⟩, fun w H' ⟨e1, e2⟩ => ?_⟩
  have e3 := e2 vs (SqL.of q)
  rw [h1] at e3
  cases e3
  rw [e1]
  exact New.old hf h2
theorem walk_tup {M : Str → Option Value} {K : PySem.W.Frag} {a : Addr} {y : FV} {xs : List FV} (e : y.tup? = some xs) : WalkJ M (Itt K a) [(.ref a, .st (.fz y))] xs := fun F H i hf hk => by
  obtain ⟨a', vs, ea, q, d⟩ := FDen.tupT (K := K) (hk _ (List.mem_singleton_self _)).fz e
  cases ea
  have q := SqT.sameS hf q
  refine ⟨fun x hx => ?_, fun hi => ⟨vs, q, by rw [d.length]; exact hi⟩⟩
  obtain ⟨v, h1, h2⟩ := d.get hx
  refine ⟨⟨vs, v, q, h1⟩, fun w H' ⟨e1, e2⟩ => ?_⟩
  have e3 := e2 vs q
  rw [h1] at e3
  cases e3
  rw [e1]
  exact New.old hf h2
theorem walk_str {M : Str → Option Value} {z : Str} {kept : List (V × Rv)} : WalkJ M (Its z) kept (z.cps.toList.map fun c => .str ⟨#[c]⟩) := fun F H i hf _ => by
  refine ⟨fun x hx => ?_, fun hi => ?_⟩
  · rw [List.getElem?_map] at hx
    obtain ⟨c, h1, h2⟩ := Option.map_eq_some_iff.mp hx
    subst h2
    rw [Array.getElem?_toList] at h1
    refine ⟨?_, fun v H' ⟨e1, c', h3, h4⟩ => ?_⟩
    · show i < z.cps.size
      exact (Array.getElem?_eq_some_iff.mp h1).1
    · rw [h1] at h3
      cases h3
      rw [e1, h4]
      exact New.str hf
  · show z.cps.size ≤ i
    rw [List.length_map, Array.length_toList] at hi
    exact hi
theorem walk_range {M : Str → Option Value} {n : Nat} {kept : List (V × Rv)} : WalkJ M (Itr 0 n) kept ((List.range n).map fun i => .int (i : Nat)) := fun F H i hf _ => by
  refine ⟨fun x hx => ?_, fun hi => ?_⟩
  · rw [List.getElem?_map] at hx
    obtain ⟨c, h1, h2⟩ := Option.map_eq_some_iff.mp hx
    subst h2
    obtain ⟨h3, h4⟩ := List.getElem?_eq_some_iff.mp h1
    rw [List.length_range] at h3
    rw [List.getElem_range] at h4
    subst h4
    refine ⟨h3, fun v H' ⟨e1, e2⟩ => ?_⟩
    rw [e1, e2, Int.zero_add]
    exact New.int hf
  · show n ≤ i
    rw [List.length_map, List.length_range] at hi
    exact hi
def dItems (f : DE) : VEnv → Ans (List FV) := fun env => (f env).bind fun r => match r with
  | .st (.ol xs) => .ok xs
  | .st (.fz (.lst xs)) => .ok xs
  | .st (.fz (.tup xs)) => .ok xs
  | .st (.fz (.tuz xs)) => .ok xs
  | .st (.fz (.str z)) => .ok (z.cps.toList.map fun c => .str ⟨#[c]⟩)
  | _ => .no
def dRange (f : DE) : VEnv → Ans (List FV) := fun env => (f env).bind fun r => match r.ov with
  | .fz (.int n) => if n < 2 ^ 60 ∧ -(2 ^ 60) < n then .ok ((List.range n.toNat).map fun i => .int (i : Nat)) else .no
  | _ => .no
theorem allst1 {v : V} {o : OV} : AllSt [(v, .st o)] := fun p hp => by rw [List.mem_singleton] at hp; subst hp; exact ⟨o, rfl⟩
theorem allst0 : AllSt [] := fun _ h => nomatch h
section
variable {X : Cx} {W : WX} {pos p : Pos} {tg e e2 : Expr} {f g : DE}
theorem ji_items (he : JE X W e f) : JI X W tg e (dItems f) := by
  refine PI.imp (PI.or (pi_list he) (PI.or (pi_tup he) (pi_str he))) fun σ H Q ⟨G, Z, env, T, r, q⟩ => ?_
  have qq := q
  unfold dItems at qq
  cases ef : f env with
  | ex c =>
    refine .inl (tE.bindI r Sb.refl q fun x u H1 e1 s1 r1 p1 => ?_)
    rw [ef] at e1; cases e1
  | no => rw [ef] at qq; exact qq.elim
  | ok rv =>
    rw [ef] at qq
    simp only [Ans.bind] at qq
    split at qq
    · refine .inl (tE.bindI r Sb.refl q fun x u H1 e1 s1 r1 p1 => ?_)
      rw [ef] at e1; cases e1
      obtain ⟨F, C1, C2, r1⟩ := r1
      obtain ⟨a, vs, rfl, h1, d⟩ := (r1.bor List.mem_cons_self).lst r1.fh rfl
      exact ⟨a, rfl, ⟨vs, SqL.of h1⟩, p1 _ _ [_] allst1 (Same.refl _) r1.r (walk_list rfl)⟩
    · refine .inl (tE.bindI r Sb.refl q fun x u H1 e1 s1 r1 p1 => ?_)
      rw [ef] at e1; cases e1
      obtain ⟨F, C1, C2, r1⟩ := r1
      obtain ⟨a, vs, rfl, h1, d⟩ := (r1.bor List.mem_cons_self).lst r1.fh rfl
      exact ⟨a, rfl, ⟨vs, SqL.of h1⟩, p1 _ _ [_] allst1 (Same.refl _) r1.r (walk_list rfl)⟩
    · refine .inr (.inl (tE.bindI r Sb.refl q fun x u H1 e1 s1 r1 p1 => ?_))
      rw [ef] at e1; cases e1
      obtain ⟨F, C1, C2, r1⟩ := r1
      obtain ⟨a, vs, rfl, h1, d⟩ := FDen.tupT (K := X.K) (r1.bor List.mem_cons_self).fz rfl
      exact ⟨a, rfl, ⟨vs, SqT.sameS r1.fh h1⟩, p1 _ _ [_] allst1 (Same.refl _) r1.r (walk_tup rfl)⟩
    · refine .inr (.inl (tE.bindI r Sb.refl q fun x u H1 e1 s1 r1 p1 => ?_))
      rw [ef] at e1; cases e1
      obtain ⟨F, C1, C2, r1⟩ := r1
      obtain ⟨a, vs, rfl, h1, d⟩ := FDen.tupT (K := X.K) (r1.bor List.mem_cons_self).fz rfl
      exact ⟨a, rfl, ⟨vs, SqT.sameS r1.fh h1⟩, p1 _ _ [_] allst1 (Same.refl _) r1.r (walk_tup rfl)⟩
    · refine .inr (.inr (tE.bindI r Sb.refl q fun x u H1 e1 s1 r1 p1 => ?_))
      rw [ef] at e1; cases e1
      obtain ⟨F, C1, C2, r1⟩ := r1
      exact ⟨_, (r1.bor List.mem_cons_self).str, p1 _ _ [] allst0 (Same.refl _) r1.r.pop walk_str⟩
    · exact qq.elim
theorem ji_range (he : JE X W e f) (hm : X.mg "range" = none) (hg : Gl X "range" := by rfl) (hs : starEach [e] X.env = [(false, eval e X.env)] := by rfl) (hs2 : starEach [e] X.env = (false, eval e X.env) :: starEach [] X.env := by rfl) : JI X W tg (.Call (.Name "range" p) [e] [] pos) (dRange f) := by
  refine PI.imp (pi_range1 hg hm (pa_cons he pa_nil hs2) hs) fun σ H Q ⟨G, Z, env, T, r, q⟩ => ?_
  refine tE.bindI r Sb.refl q fun x u H1 e1 s1 ⟨F, C1, C2, r1⟩ p1 => ?_
  split at p1
  · rename_i n en
    split at p1
    · rename_i hn
      have hb : Bor X.mg F H1 x.ov u := r1.bor List.mem_cons_self
      rw [en] at hb
      exact ⟨n, by rw [hb.int], by omega, by omega, p1 _ _ [] allst0 (Same.refl _) r1.r.pop walk_range⟩
    · exact p1.elim
  · exact p1.elim
end
end J
namespace J
open PySem PySem.Spec PyProof.Rows L2
structure Only (vs : List Nat) (σ σ' : Sl) : Prop where
  len : σ'.length = σ.length
  get : ∀ j, j ∉ vs → σ'[j]? = σ[j]?
theorem Only.refl {vs : List Nat} {σ : Sl} : Only vs σ σ := ⟨rfl, fun _ _ => rfl⟩
theorem Only.set {vs : List Nat} {σ : Sl} {i : Nat} {x : Option V} (h : i ∈ vs) : Only vs σ (σ.set i x) := ⟨by simp, fun j hj => List.getElem?_set_ne fun e => hj (by rw [← e]; exact h)⟩
theorem Only.trans {vs : List Nat} {σ σ1 σ2 : Sl} (a : Only vs σ σ1) (b : Only vs σ1 σ2) : Only vs σ σ2 := ⟨b.len.trans a.len, fun j hj => (b.get j hj).trans (a.get j hj)⟩
theorem Only.mono {vs ws : List Nat} {σ σ' : Sl} (a : Only vs σ σ') (h : ∀ i ∈ vs, i ∈ ws) : Only ws σ σ' := ⟨a.len, fun j hj => a.get j fun z => hj (h j z)⟩
theorem wipe_get {σ : Sl} {j : Nat} : ∀ {vs : List Nat}, (wipe σ vs)[j]? = if j ∈ vs ∧ j < σ.length then some none else σ[j]?
  | [] => by simp [wipe]
  | v :: vs => by
    unfold wipe
    by_cases h : v = j
    · subst h
      by_cases hl : v < σ.length
      · rw [List.getElem?_set_self (by rw [wipe_length]; exact hl), if_pos ⟨List.mem_cons_self, hl⟩]
      · rw [if_neg (fun z => hl z.2), List.getElem?_eq_none (by rw [List.length_set, wipe_length]; omega), List.getElem?_eq_none (by omega)]
    · rw [List.getElem?_set_ne h, wipe_get]
      by_cases h2 : j ∈ vs
      · simp [h2, h]
      · simp [h2, Ne.symm h]
theorem Only.wipe {vs : List Nat} {σ σ' : Sl} (a : Only vs σ σ') : wipe σ' vs = wipe σ vs := by
  apply List.ext_getElem?
  intro j
  rw [wipe_get, wipe_get, a.len]
  by_cases h : j ∈ vs
  · by_cases h2 : j < σ.length
    · simp [h, h2]
    · rw [if_neg (fun z => h2 z.2), if_neg (fun z => h2 z.2), List.getElem?_eq_none (by rw [a.len]; omega), List.getElem?_eq_none (by omega)]
  · rw [if_neg (fun z => h z.1), if_neg (fun z => h z.1), a.get j h]
abbrev TgF := FV → VEnv → Option VEnv
def gJ (M : Str → Option Value) (vs : List Nat) (t : TgF) : TG := fun v σ H Q => ∃ G Z env T x, R M G Z H σ env ((v, .st (.fz x)) :: T) ∧ match t x env with
  | some e => ∀ σ', Only vs σ σ' → R M G Z H σ' e T → Q σ' H
  | none => False
abbrev JG (X : Cx) (tg : Expr) (vs : List Nat) (t : TgF) : Prop := PG X tg (gJ X.mg vs t)
theorem PG.imp {X : Cx} {tg : Expr} {t t' : TG} (p : PG X tg t) (h : ∀ v σ H Q, t' v σ H Q → t v σ H Q) : PG X tg t' := ⟨fun pins s σ H v u Q I r q => p.run pins s σ H v u Q I r (h v σ H Q q)⟩
def tName (i : Nat) : TgF := fun x env => some (env.set i (some (.fz x)))
section
variable {X : Cx} {pos p1 p2 : Pos} {x y : Str}
theorem jg_name (i : Nat) (hN : X.N.Nodup) (hi : X.N[i]? = some x := by rfl) (hx : Loc X.env.scope x := by first | exact .inl rfl | exact .inr rfl) (hf : X.fn x = true ∨ X.env.scope.names.lookup x = some .local := by first | exact .inl rfl | exact .inr rfl) : JG X (.Name x pos) [i] (tName i) :=
  PG.imp (pg_name hN hi hx hf) fun v σ H Q ⟨G, Z, env, T, y, r, q⟩ => q _ (Only.set (by simp)) (r.set i)
end
def loopK (k : VEnv → Ans SO) : SO → Ans SO
  | .nx e => k e
  | .ct e => k e
  | .bk e => .ok (.nx e)
  | .rt o e => .ok (.rt o e)
def forL (t : TgF) (body : DS) : List FV → VEnv → Ans SO
  | [], env => .ok (.nx env)
  | x :: xs, env => match t x env with
    | some e1 => (body e1).bind (loopK (forL t body xs))
    | none => .no
def dFor (it : VEnv → Ans (List FV)) (t : TgF) (body : DS) : DS := fun env => (it env).bind fun xs => forL t body xs env
theorem RF.kept {M : Str → Option Value} {G Z H F : Hp} {σ : Sl} {env : VEnv} {T kept : List (V × Rv)} {C1 C2 : Cells} (r : RF M G Z H F σ env (kept ++ T) C1 C2) : ∀ p ∈ kept, Bor M F H p.2.ov p.1 := fun p hp => r.bor (List.mem_append_left _ hp)
theorem AllSt.app {A B : List (V × Rv)} (a : AllSt A) (b : AllSt B) : AllSt (A ++ B) := fun p hp => (List.mem_append.mp hp).elim (a p) (b p)
theorem sb_app {A T : List (V × Rv)} : Sb T (A ++ T) := ⟨A, List.perm_append_comm⟩
section
variable {X : Cx} {W : WX} {pos : Pos} {tg iter : Expr} {body : List Stmt} {it : VEnv → Ans (List FV)} {t : TgF} {fb : DS} {vs : List Nat}
theorem js_for (hp : PassesOwn (model X.prog X.w) X.A X.env X.xe) (hc : X.calm = true) (hi : JI X W tg iter it) (hg : JG X tg vs t) (hb : JSs X W body fb) (hs : ∀ x, foldedSetIterable iter X.env x = pure x := by intro _; rfl) :
    JS X W (.For tg iter body [] pos) (dFor it t fb) := by
  refine PS.imp (ps_for hp hc hi hg hb hs) fun D σ H ⟨G, Z, env, T, hT, r, p⟩ => ?_
  refine ⟨G, Z, env, T, r, ?_⟩
  have hp := p
  unfold dFor at hp
  cases ei : it env with
  | no => rw [ei] at hp; exact hp.elim
  | ex c =>
    rw [ei] at hp
    exact fun C H' m s r' => let ⟨_, _, _, r'⟩ := r'; hp C σ H' m r'.zh
  | ok items =>
    rw [ei] at hp
    intro J H1 kept hk s1 r1 wk
    have hp : PostS X.mg W G Z T D (forL t fb items env) := hp
    refine ⟨fun i m σ H => i + m = items.length ∧ ∃ env, R X.mg G Z H σ env (kept ++ T) ∧ PostS X.mg W G Z T D (forL t fb (items.drop i) env), ⟨items.length, by omega, env, r1, by rw [List.drop_zero]; exact hp⟩, ?_⟩
    rintro i m σ H ⟨him, env, ⟨F, C1, C2, r⟩, hpost⟩
    obtain ⟨w1, w2⟩ := wk F H i r.fh r.kept
    by_cases hlt : i < items.length
    · obtain ⟨hgo, hy⟩ := w1 items[i] (List.getElem?_eq_getElem hlt)
      rw [List.drop_eq_getElem_cons hlt] at hpost
      have hpost : PostS X.mg W G Z T D (match t items[i] env with
        | some e1 => (fb e1).bind (loopK (forL t fb (items.drop (i + 1))))
        | none => .no) := hpost
      refine .inr ⟨hgo, fun σ' H' => ∃ env', R X.mg G Z H' σ' env' (kept ++ T) ∧ PostS X.mg W G Z T D (forL t fb (items.drop (i + 1)) env'), fun σ' H' ⟨env', r', p'⟩ => ⟨m - 1, by omega, by omega, env', r', p'⟩, fun v H' yl => ?_⟩
      refine ⟨G, Z, env, kept ++ T, items[i], r.new (hy v H' yl), ?_⟩
      cases et : t items[i] env with
      | none => rw [et] at hpost; exact hpost.elim
      | some e1 =>
        rw [et] at hpost
        intro σ' _ r2
        have hpost : PostS X.mg W G Z T D ((fb e1).bind (loopK (forL t fb (items.drop (i + 1))))) := hpost
        refine ⟨G, Z, e1, kept ++ T, hk.app hT, r2, ?_⟩
        cases eb : fb e1 with
        | no => rw [eb] at hpost; exact hpost.elim
        | ex c => rw [eb] at hpost; exact hpost
        | ok s =>
          rw [eb] at hpost
          cases s with
          | nx e => exact fun σ3 H3 r3 => ⟨e, r3, hpost⟩
          | ct e => exact fun σ3 H3 r3 => ⟨e, r3, hpost⟩
          | bk e => exact fun σ3 H3 r3 => hpost σ3 H3 (r3.sb sb_app)
          | rt o e => exact fun v σ3 H3 r3 => hpost v σ3 H3 (r3.sb sb_app.both)
    · refine .inl ⟨w2 (by omega), ?_⟩
      rw [List.drop_of_length_le (by omega)] at hpost
      exact hpost σ H (r.r.sb sb_app)
end
open Classical in
section
variable {X : Cx} {W : WX} {pos : Pos} {c : Expr} {body : List Stmt} {fc : DT} {fb : DS}
end
end J
namespace J
open PySem PySem.Spec PyProof.Rows L2 RZ
def kfz (p : V × Rv) : V × Rv := (p.1, .st (.fz p.2.fv))
def allFzE (env : VEnv) : Bool := env.all fun o => match o with
  | some (.fz _) => true
  | none => true
  | _ => false
def sbR (env : VEnv) : Rv → Bool
  | .st _ => true
  | .bo _ => !allFzE env
def PostC (M : Str → Option Value) (W : WX) (G Z : Hp) (σ : Sl) (env : VEnv) (T : List (V × Rv)) (Q : It → Hp → Prop) (H : Hp) : Ans (List FV) → Prop
  | .ok items => ∀ J H' kept, Same H H' → R M G Z H' σ env (kept ++ T) → WalkJ M J (kept.map kfz) items → (∀ p ∈ kept, sbR env p.2 = true) → Q J H'
  | .ex c => ∀ C H', M c = some (.ref C) → Same H H' → R M G Z H' σ env T → W (.ref C) none σ H'
  | .no => False
def tIC (M : Str → Option Value) (W : WX) (f : VEnv → Ans (List FV)) : TI := fun σ H Q => ∃ G Z env T, R M G Z H σ env T ∧ PostC M W G Z σ env T Q H (f env)
abbrev JC (X : Cx) (W : WX) (tg e : Expr) (f : VEnv → Ans (List FV)) : Prop := PI X tg e (tIC X.mg W f)
section
variable {M : Str → Option Value} {G Z H F : Hp} {σ : Sl} {env : VEnv} {T T2 : List (V × Rv)} {W : WX} {C1 C2 : Cells}
theorem PostC.later {x : Ans (List FV)} {Q : It → Hp → Prop} {H1 : Hp} (p : PostC M W G Z σ env T Q H x) (h : Same H H1) : PostC M W G Z σ env T Q H1 x := by
  cases x with
  | ok r => exact fun J H' kp s r w k => p J H' kp (h.trans s) r w k
  | ex c => exact fun C H' m s r => p C H' m (h.trans s) r
  | no => exact p
theorem tE.bindC {f : DE} {k : Rv → Ans (List FV)} {Q1 : VK} {Q : It → Hp → Prop} (r : R M G Z H σ env T2) (hs : Sb T T2) (p : PostC M W G Z σ env T Q H ((f env).bind k))
    (h : ∀ rv v H1, f env = .ok rv → Same H H1 → R M G Z H1 σ env ((v, rv) :: T2) → PostC M W G Z σ env T Q H1 (k rv) → Q1 v H1) : tE M W f σ H Q1 := by
  refine tE.then r hs (fun rv v H1 e s r => h rv v H1 e s r ?_) (fun c C H1 e m s r => ?_) fun e => ?_
  · rw [e] at p; exact p.later s
  · rw [e] at p; exact p C H1 m s r
  · rw [e] at p; exact p
end
def FV.items? : FV → Option (List FV)
  | .lst xs => some xs
  | .tup xs => some xs
  | .tuz xs => some xs
  | .str z => some (z.cps.toList.map fun c => .str ⟨#[c]⟩)
  | _ => none
def cItems (f : DE) : VEnv → Ans (List FV) := fun env => (f env).bind fun r => if sbR env r then Ans.of r.fv.items? else .no
section
variable {X : Cx} {W : WX} {pos p : Pos} {tg e e2 : Expr} {f g : DE}
theorem jc_items (he : JE X W e f) : JC X W tg e (cItems f) := by
  refine PI.imp (PI.or (pi_list he) (PI.or (pi_tup he) (pi_str he))) fun σ H Q ⟨G, Z, env, T, r, q⟩ => ?_
  have qq := q
  unfold cItems at qq
  cases ef : f env with
  | ex c =>
    refine .inl (tE.bindC r Sb.refl q fun x u H1 e1 s1 r1 p1 => ?_)
    rw [ef] at e1; cases e1
  | no => rw [ef] at qq; exact qq.elim
  | ok rv =>
    rw [ef] at qq
    simp only [Ans.bind] at qq
    by_cases hsb : sbR env rv = true
    rotate_left
    · rw [if_neg hsb] at qq; exact qq.elim
    rw [if_pos hsb] at qq
    have one : ∀ u : V, ∀ p ∈ [(u, rv)], sbR env p.2 = true := fun u p hp => by rw [List.mem_singleton.mp hp]; exact hsb
    cases ei : rv.fv.items? with
    | none => rw [ei] at qq; exact qq.elim
    | some items =>
      have ei' := ei
      unfold FV.items? at ei'
      split at ei'
      · rename_i xs ex
        cases ei'
        refine .inl (tE.bindC r Sb.refl q fun x u H1 e1 s1 r1 p1 => ?_)
        rw [ef] at e1; cases e1
        rw [if_pos hsb, ei] at p1
        obtain ⟨F, C1, C2, r1⟩ := r1
        have d : FDen X.mg H1 rv.fv u := (r1.bor (List.mem_cons_self (a := (u, rv)))).fden r1.fh
        rw [ex] at d
        obtain ⟨a, vs, rfl, h1, d⟩ := d
        refine ⟨a, rfl, ⟨vs, SqL.of h1⟩, p1 _ _ [(V.ref a, rv)] (Same.refl _) r1.r ?_ (one _)⟩
        show WalkJ X.mg _ [(V.ref a, .st (.fz rv.fv))] _
        rw [ex]
        exact walk_list rfl
      · rename_i xs ex
        cases ei'
        refine .inr (.inl (tE.bindC r Sb.refl q fun x u H1 e1 s1 r1 p1 => ?_))
        rw [ef] at e1; cases e1
        rw [if_pos hsb, ei] at p1
        obtain ⟨F, C1, C2, r1⟩ := r1
        have d : FDen X.mg H1 rv.fv u := (r1.bor (List.mem_cons_self (a := (u, rv)))).fden r1.fh
        rw [ex] at d
        obtain ⟨a, vs, rfl, h1, _⟩ := FDen.tupT (K := X.K) d rfl
        refine ⟨a, rfl, ⟨vs, h1⟩, p1 _ _ [(V.ref a, rv)] (Same.refl _) r1.r ?_ (one _)⟩
        show WalkJ X.mg _ [(V.ref a, .st (.fz rv.fv))] _
        rw [ex]
        exact walk_tup rfl
      · rename_i xs ex
        cases ei'
        refine .inr (.inl (tE.bindC r Sb.refl q fun x u H1 e1 s1 r1 p1 => ?_))
        rw [ef] at e1; cases e1
        rw [if_pos hsb, ei] at p1
        obtain ⟨F, C1, C2, r1⟩ := r1
        have d : FDen X.mg H1 rv.fv u := (r1.bor (List.mem_cons_self (a := (u, rv)))).fden r1.fh
        rw [ex] at d
        obtain ⟨a, vs, rfl, h1, _⟩ := FDen.tupT (K := X.K) d rfl
        refine ⟨a, rfl, ⟨vs, h1⟩, p1 _ _ [(V.ref a, rv)] (Same.refl _) r1.r ?_ (one _)⟩
        show WalkJ X.mg _ [(V.ref a, .st (.fz rv.fv))] _
        rw [ex]
        exact walk_tup rfl
      · rename_i z ex
        cases ei'
        refine .inr (.inr (tE.bindC r Sb.refl q fun x u H1 e1 s1 r1 p1 => ?_))
        rw [ef] at e1; cases e1
        rw [if_pos hsb, ei] at p1
        obtain ⟨F, C1, C2, r1⟩ := r1
        have d : FDen X.mg H1 rv.fv u := (r1.bor (List.mem_cons_self (a := (u, rv)))).fden r1.fh
        rw [ex] at d
        exact ⟨_, d, p1 _ _ [] (Same.refl _) r1.r.pop walk_str (fun _ h => nomatch h)⟩
      · cases ei'
theorem jc_range (he : JE X W e f) (hm : X.mg "range" = none) (hg : Gl X "range" := by rfl) (hs : starEach [e] X.env = [(false, eval e X.env)] := by rfl) (hs2 : starEach [e] X.env = (false, eval e X.env) :: starEach [] X.env := by rfl) : JC X W tg (.Call (.Name "range" p) [e] [] pos) (dRange f) := by
  refine PI.imp (pi_range1 hg hm (pa_cons he pa_nil hs2) hs) fun σ H Q ⟨G, Z, env, T, r, q⟩ => ?_
  refine tE.bindC r Sb.refl q fun x u H1 e1 s1 ⟨F, C1, C2, r1⟩ p1 => ?_
  split at p1
  · rename_i n en
    split at p1
    · rename_i hn
      have hb : Bor X.mg F H1 x.ov u := r1.bor List.mem_cons_self
      rw [en] at hb
      exact ⟨n, by rw [hb.int], by omega, by omega, p1 _ _ [] (Same.refl _) r1.r.pop walk_range (fun _ h => nomatch h)⟩
    · exact p1.elim
  · exact p1.elim
end
def wipeE (env : VEnv) : List Nat → VEnv
  | [] => env
  | v :: vs => (wipeE env vs).set v none
def frzE (env : VEnv) : VEnv := env.map fun o => o.map fun o => .fz o.fv
def Ans.nox {α : Type} : Ans α → Ans α
  | .ok a => .ok a
  | _ => .no
def dTrue : DT := fun _ => .ok true
def lcF (t : TgF) (c : DT) (e : DE) (env : VEnv) : List FV → Ans (List FV)
  | [] => .ok []
  | x :: xs => match t x env with
    | some e1 => (c e1).nox.bind fun b => if b then (e e1).nox.bind fun r => match r.fz? with
        | some y => (lcF t c e env xs).bind fun ys => .ok (y :: ys)
        | none => .no
      else lcF t c e env xs
    | none => .no
def lcD (t : TgF) (c : DT) (e : DE) (env : VEnv) : List FV → Ans (List OV)
  | [] => .ok []
  | x :: xs => match t x env with
    | some e1 => (c e1).nox.bind fun b => if b then (e e1).nox.bind fun r => match r.st? with
        | some y => (lcD t c e env xs).bind fun ys => .ok (y :: ys)
        | none => .no
      else lcD t c e env xs
    | none => .no
def dLc (it : VEnv → Ans (List FV)) (t : TgF) (c : DT) (e : DE) (vs : List Nat) : DE := fun env => (it env).bind fun items => (lcF t c e (frzE (wipeE env vs)) items).bind fun ys =>
  if decide (ys.length ≤ BIG) && (allFzE env || FV.pureL ys) then .ok (.st (.ol ys)) else .no
def dLcD (it : VEnv → Ans (List FV)) (t : TgF) (c : DT) (e : DE) (vs : List Nat) : DE := fun env => (it env).bind fun items => (lcD t c e (frzE (wipeE env vs)) items).bind fun ys =>
  if decide (ys.length ≤ BIG) && (allFzE env || OV.cleanL ys) then .ok (.st (.dl ys)) else .no
theorem fz_ol {M : Str → Option Value} {F : Hp} : ∀ {xs : List FV} {vs : List V} {L : Cells}, OwnL M F (xs.map .fz) vs L → FDenL M F xs vs ∧ L = []
  | [], _, _, h => h
  | x :: xs, _, _, ⟨v, ws, A, B, e, d, r, q⟩ => by
    obtain ⟨h1, h2⟩ := fz_ol r
    rw [q, d.2, h2]
    exact ⟨⟨v, ws, e, d.1, h1⟩, rfl⟩
theorem own_dl_ol {M : Str → Option Value} {F : Hp} {xs : List FV} {v : V} {L : Cells} (h : Own M F (.dl (xs.map .fz)) v L) : Own M F (.ol xs) v L := by
  obtain ⟨a, vs, L', e, r, q⟩ := h
  obtain ⟨h1, h2⟩ := fz_ol r
  rw [q, h2]
  exact ⟨a, vs, e, h1, rfl⟩
theorem lcF_D {t : TgF} {c : DT} {e : DE} {env : VEnv} : ∀ {items ys : List FV}, lcF t c e env items = .ok ys → lcD t c e env items = .ok (ys.map .fz)
  | [], ys, h => by cases h; rfl
  | x :: xs, ys, h => by
    unfold lcF at h
    unfold lcD
    cases et : t x env with
    | none => rw [et] at h; cases h
    | some e1 =>
      rw [et] at h
      simp only at h ⊢
      cases ec : (c e1).nox with
      | no => rw [ec] at h; cases h
      | ex z => rw [ec] at h; cases h
      | ok b =>
        rw [ec] at h
        cases b with
        | false =>
          simp only [Ans.bind, Bool.false_eq_true, if_false] at h ⊢
          exact lcF_D h
        | true =>
          simp only [Ans.bind, if_true] at h ⊢
          cases ee : (e e1).nox with
          | no => rw [ee] at h; cases h
          | ex z => rw [ee] at h; cases h
          | ok r =>
            rw [ee] at h
            simp only at h ⊢
            cases ef : r.fz? with
            | none => rw [ef] at h; cases h
            | some y =>
              rw [ef] at h
              have hs : r.st? = some (.fz y) := by
                unfold Rv.fz? at ef
                split at ef
                · cases ef; rfl
                · cases ef
              rw [hs]
              simp only at h ⊢
              cases el : lcF t c e env xs with
              | no => rw [el] at h; cases h
              | ex z => rw [el] at h; cases h
              | ok zs =>
                rw [el] at h
                cases h
                rw [lcF_D el]
                rfl
def TgOk (vs : List Nat) (t : TgF) : Prop := ∀ x env e, t x env = some e → e.length = env.length ∧ ∀ j, j ∉ vs → e[j]? = env[j]?
theorem tg_name {i : Nat} : TgOk [i] (tName i) := fun x env e h => by
  cases h
  exact ⟨by simp, fun j hj => List.getElem?_set_ne fun z => hj (by simp [z])⟩
theorem wipeE_length (env : VEnv) : ∀ vs, (wipeE env vs).length = env.length
  | [] => rfl
  | v :: vs => by unfold wipeE; rw [List.length_set, wipeE_length env vs]
theorem wipeE_get {env : VEnv} {j : Nat} : ∀ {vs : List Nat}, (wipeE env vs)[j]? = if j ∈ vs ∧ j < env.length then some none else env[j]?
  | [] => by simp [wipeE]
  | v :: vs => by
    unfold wipeE
    by_cases h : v = j
    · subst h
      by_cases hl : v < env.length
      · rw [List.getElem?_set_self (by rw [wipeE_length]; exact hl), if_pos ⟨List.mem_cons_self, hl⟩]
      · rw [if_neg (fun z => hl z.2), List.getElem?_eq_none (by rw [List.length_set, wipeE_length]; omega), List.getElem?_eq_none (by omega)]
    · rw [List.getElem?_set_ne h, wipeE_get]
      by_cases h2 : j ∈ vs
      · simp [h2, h]
      · simp [h2, Ne.symm h]
theorem frz_wipe (env : VEnv) : ∀ vs, frzE (wipeE env vs) = wipeE (frzE env) vs
  | [] => rfl
  | v :: vs => by
    unfold wipeE
    unfold frzE
    rw [List.map_set]
    have := frz_wipe env vs
    unfold frzE at this
    rw [this]
    rfl
theorem wipeE_of {env e : VEnv} {vs : List Nat} (hl : e.length = env.length) (h : ∀ j, j ∉ vs → e[j]? = env[j]?) : wipeE e vs = wipeE env vs := by
  apply List.ext_getElem?
  intro j
  rw [wipeE_get, wipeE_get, hl]
  by_cases hv : j ∈ vs
  · by_cases h2 : j < env.length
    · simp [hv, h2]
    · rw [if_neg (fun z => h2 z.2), if_neg (fun z => h2 z.2), List.getElem?_eq_none (by rw [hl]; omega), List.getElem?_eq_none (by omega)]
  · rw [if_neg (fun z => hv z.1), if_neg (fun z => hv z.1), h j hv]
theorem wipeE_idem (env : VEnv) (vs : List Nat) : wipeE (wipeE env vs) vs = wipeE env vs := wipeE_of (wipeE_length _ _) fun j hj => by rw [wipeE_get, if_neg (fun z => hj z.1)]
theorem wipe_idem (σ : Sl) (vs : List Nat) : wipe (wipe σ vs) vs = wipe σ vs := (Only.wipe ⟨wipe_length _ _, fun j hj => by rw [wipe_get, if_neg (fun z => hj z.1)]⟩)
section
variable {M : Str → Option Value} {G Z H F : Hp} {σ : Sl} {env : VEnv} {T T2 : List (V × Rv)} {C1 C2 : Cells}
theorem R.wipeD (r : R M G Z H σ env T) : ∀ vs, R M G Z H (wipe σ vs) (wipeE env vs) T
  | [] => r
  | v :: vs => (R.wipeD r vs).unset v none
theorem EnvOwn.fz {L : Cells} (h : Same F H) (e : EnvOwn M F σ env L) : (∀ p ∈ L, H p.1 = some p.2) → EnvOwn M (mutG F H) σ (frzE env) [] := by
  induction e with
  | nil => intro _; exact .nil
  | skip _ ih => intro c; exact .skip (ih c)
  | cons d _ ih => intro c; exact .cons (A := []) (B := []) ⟨d.mut h fun p hp => c p (List.mem_append_left _ hp), rfl⟩ (ih fun p hp => c p (List.mem_append_right _ hp))
theorem EnvOwn.allFz {L : Cells} (e : EnvOwn M F σ env L) : allFzE env = true → EnvOwn M F σ (frzE env) [] := by
  induction e with
  | nil => intro _; exact .nil
  | skip _ ih => intro h; exact .skip (ih (by simpa [allFzE] using h))
  | @cons v o σ env A B d _ ih =>
    intro h
    have h1 : (match some o with | some (.fz _) => true | none => true | _ => false) = true ∧ allFzE env = true := by
      unfold allFzE at h ⊢
      rw [List.all_cons, Bool.and_eq_true] at h
      exact h
    have h0 := h1.1
    cases o with
    | fz x => exact .cons (A := []) (B := []) ⟨d.1, rfl⟩ (ih h1.2)
    | ol x => cases h0
    | oK x => cases h0
    | oT x => cases h0
    | dl x => cases h0
    | dd x => cases h0
    | tp x => cases h0
    | ob c x => cases h0
    | oN x => cases h0
theorem EnvOwn.wipe {L : Cells} (e : EnvOwn M F σ env L) : ∀ vs, ∃ L', EnvOwn M F (wipe σ vs) (wipeE env vs) L' ∧ ∀ p ∈ L', p ∈ L
  | [] => ⟨L, e, fun _ h => h⟩
  | v :: vs => by
    obtain ⟨L', e', h⟩ := EnvOwn.wipe e vs
    obtain ⟨L2, D, h1, h2⟩ := e'.unset v none
    exact ⟨L2, h1, fun p hp => h p (h2.mem_iff.mpr (List.mem_append_left _ hp))⟩
theorem RF.block (r : RF M G Z H F σ env T C1 C2) (vs : List Nat) : R M (mutG F H) H H (wipe σ vs) (frzE (wipeE env vs)) [] := by
  have e := r.ev.fz r.fh fun p hp => r.gd.hp p (List.mem_append_left _ hp)
  obtain ⟨L', e', h⟩ := e.wipe vs
  have hL : L' = [] := List.eq_nil_iff_forall_not_mem.mpr fun p hp => nomatch h p hp
  subst hL
  rw [frz_wipe]
  exact ⟨mutG F H, [], [], Same.refl _, fun a o e => .inl e, mutG_H r.fh, Same.refl _, e', .nil, Good.nil⟩
theorem RF.blockF (r : RF M G Z H F σ env T C1 C2) (vs : List Nat) (h : allFzE env = true) : R M F H H (wipe σ vs) (frzE (wipeE env vs)) [] := by
  have e := r.ev.allFz h
  obtain ⟨L', e', h⟩ := e.wipe vs
  have hL : L' = [] := List.eq_nil_iff_forall_not_mem.mpr fun p hp => nomatch h p hp
  subst hL
  rw [frz_wipe]
  exact ⟨F, [], [], Same.refl _, fun a o e => .inl e, r.fh, Same.refl _, e', .nil, Good.nil⟩
theorem TmpOwn.split {H : Hp} : ∀ {kept T : List (V × Rv)} {L : Cells}, TmpOwn M F H (kept ++ T) L → (∀ p ∈ kept, ∃ o, p.2 = .st o) → ∃ A B, L = A ++ B ∧ TmpOwn M F H T B ∧ ∀ p ∈ kept, ∃ Lp, Own M F p.2.ov p.1 Lp ∧ ∀ q ∈ Lp, q ∈ A
  | [], T, L, t, _ => ⟨[], L, rfl, t, fun _ h => nomatch h⟩
  | (v, r) :: kept, T, L, t, h => by
    obtain ⟨o, ho⟩ := h _ List.mem_cons_self
    simp only at ho
    subst ho
    cases t with
    | @st _ _ _ A1 B1 d t =>
      obtain ⟨A, B, e, t2, k⟩ := TmpOwn.split t fun p hp => h p (List.mem_cons_of_mem _ hp)
      subst e
      refine ⟨A1 ++ A, B, by rw [List.append_assoc], t2, fun p hp => ?_⟩
      rcases List.mem_cons.mp hp with rfl | hp
      · exact ⟨A1, d, fun q hq => List.mem_append_left _ hq⟩
      · obtain ⟨Lp, q1, q2⟩ := k p hp
        exact ⟨Lp, q1, fun q hq => List.mem_append_right _ (q2 q hq)⟩
theorem RF.iceK {kept : List (V × Rv)} (r : RF M G Z H F σ env (kept ++ T) C1 C2) (h : ∀ p ∈ kept, ∃ o, p.2 = .st o) :
    ∃ F2 C3 C4, RF M G Z H F2 σ env T C3 C4 ∧ ∀ p ∈ kept, FDen M F2 p.2.fv p.1 := by
  obtain ⟨A, B, e, t, k⟩ := r.tm.split h
  subst e
  obtain ⟨i1, i2, i3, i4, i5, i6⟩ := r.ice (A := A) (Lr := C1 ++ B) (by
    rw [← List.append_assoc, ← List.append_assoc]
    exact List.perm_append_comm.append_right _)
  refine ⟨updL F A, C1, B, ⟨i1, i2, i4, r.zh, r.ev.mono i3, t.mono i3 (Same.refl _), i5⟩, fun p hp => ?_⟩
  obtain ⟨Lp, d, c⟩ := k p hp
  exact d.fden i3 fun q hq => i6 q (c q hq)
theorem R.grow {D : Addr} {os : List OV} {o : OV} {y : V} (r : R M G Z H σ env [(y, .st o), (.ref D, .st (.dl os))]) : ∃ acc, H D = some (.lst acc) ∧ acc.length = os.length ∧ R M G Z (upd H D (.lst (acc ++ [y]))) σ env [(.ref D, .st (.dl (os ++ [o])))] := by
  obtain ⟨F, C1, C2, r⟩ := r
  obtain ⟨A, B, e1, dy, t⟩ := r.tm.freeze
  obtain ⟨A2, B2, e2, dD, t2⟩ := t.freeze
  cases t2
  rw [List.append_nil] at e2
  subst e2
  subst e1
  obtain ⟨a, vs, L', ea, ow, q⟩ := dD
  cases ea
  subst q
  have gd := r.gd
  have hD : H D = some (.lst vs) := gd.hp (D, .lst vs) (by simp)
  have fD : F D = none := gd.fr (D, .lst vs) (by simp)
  have zD : Z D = none := gd.zr (D, .lst vs) (by simp)
  have ne : ∀ p ∈ C1 ++ (A ++ L'), p.1 ≠ D := by
    have g2 := gd.perm (L' := (C1 ++ (A ++ L')) ++ [(D, .lst vs)]) (by
      rw [List.append_assoc, List.append_assoc]
      refine List.Perm.append_left C1 (List.Perm.append_left A ?_)
      exact (List.perm_append_comm (l₁ := [(D, HO.lst vs)]) (l₂ := L')))
    exact fun p hp e => g2.apart p hp (D, .lst vs) (by simp) e
  refine ⟨vs, hD, ow.length, F, C1, (D, .lst (vs ++ [y])) :: (L' ++ A), r.gf, r.fg, fun b u e => ?_, fun b u e => ?_, r.ev, ?_, ?_⟩
  · rw [upd_ne (fun z => by rw [z, fD] at e; cases e)]
    exact r.fh _ _ e
  · rw [upd_ne (fun z => by rw [z, zD] at e; cases e)]
    exact r.zh _ _ e
  · have key : ∀ {os : List OV} {vs : List V} {L : Cells}, OwnL M F os vs L → OwnL M F (os ++ [o]) (vs ++ [y]) (L ++ A) := by
      intro os
      induction os with
      | nil => intro vs L h; rw [h.1, h.2]; exact ⟨y, [], A, [], rfl, dy, ⟨rfl, rfl⟩, by simp⟩
      | cons x xs ih =>
        intro vs L ⟨v, ws, A', B', e, d, r, q⟩
        rw [e, q]
        exact ⟨v, ws ++ [y], A', B' ++ A, rfl, d, ih r, by rw [List.append_assoc]⟩
    have t := TmpOwn.st (H := upd H D (.lst (vs ++ [y]))) (T := []) (B := []) (show Own M F (.dl (os ++ [o])) (.ref D) ((D, .lst (vs ++ [y])) :: (L' ++ A)) from ⟨D, _, _, rfl, key ow, rfl⟩) .nil
    rw [List.append_nil] at t
    exact t
  · have g1 : Good F Z (upd H D (.lst (vs ++ [y]))) (C1 ++ (A ++ L')) := by
      have g2 := gd.perm (L' := (C1 ++ (A ++ L')) ++ [(D, .lst vs)]) (by
        rw [List.append_assoc, List.append_assoc]
        refine List.Perm.append_left C1 (List.Perm.append_left A ?_)
        exact (List.perm_append_comm (l₁ := [(D, HO.lst vs)]) (l₂ := L')))
      have g3 := g2.left
      exact ⟨g3.nd, fun p hp => by rw [upd_ne (ne p hp)]; exact g3.hp p hp, g3.fr, g3.zr⟩
    have g4 : Good F Z (upd H D (.lst (vs ++ [y]))) [(D, .lst (vs ++ [y]))] := ⟨by simp, fun p hp => by rw [List.mem_singleton] at hp; subst hp; exact upd_same, fun p hp => by rw [List.mem_singleton] at hp; subst hp; exact fD, fun p hp => by rw [List.mem_singleton] at hp; subst hp; exact zD⟩
    refine (g1.mk' g4 fun p hp q hq => by rw [List.mem_singleton] at hq; subst hq; exact ne p hp).perm ?_
    rw [List.append_assoc]
    refine List.Perm.append_left C1 ?_
    refine (List.perm_append_comm (l₁ := A ++ L')).trans ?_
    show ((D, HO.lst (vs ++ [y])) :: (A ++ L')).Perm _
    exact (List.perm_append_comm).cons _
end
abbrev W0 : WX := fun _ _ _ _ => False
abbrev JTs (X : Cx) (W : WX) (ifs : List Expr) (f : DT) : Prop := PTs X ifs (tT X.mg W f)
theorem jts_nil {X : Cx} {W : WX} : JTs X W [] dTrue := ⟨fun pins s σ H Q I ⟨G, Z, env, T, r, p⟩ => pts_nil.run pins s σ H Q I (p H (Same.refl _) r)⟩
theorem jts_one {X : Cx} {W : WX} {c : Expr} {f : DT} (h : JT X W c f) : JTs X W [c] f := pts_one h
theorem WalkJ.at {M : Str → Option Value} {J : It} {kept : List (V × Rv)} {items : List FV} (w : WalkJ M J (kept.map kfz) items) {F H : Hp} (hf : Same F H) (hk : ∀ p ∈ kept, FDen M F p.2.fv p.1) (i : Nat) :
    (∀ x, items[i]? = some x → J.go i H ∧ ∀ v H', J.yld i H v H' → New M F H H' (.fz x) v) ∧ (items.length ≤ i → J.stop i H) :=
  w F H i hf fun p hp => by
    obtain ⟨q, hq, e⟩ := List.mem_map.mp hp
    subst e
    exact ⟨[], ⟨hk q hq, rfl⟩, fun _ h => nomatch h⟩
theorem lc_run {M : Str → Option Value} {G Z H1 : Hp} {σw : Sl} {envw : VEnv} {vs ws : List Nat} {t : TgF} {c : DT} {e : DE} {J : It} {kept : List (V × Rv)} {items : List FV} {ys : List OV} {D : Addr} {Qd : Hp → Prop}
    (hw : σw = wipe σw vs) (hwe : envw = wipeE envw vs) (hws : ∀ i ∈ ws, i ∈ vs) (hto : TgOk ws t) (wk : WalkJ M J (kept.map kfz) items) (hk : ∀ p ∈ kept, FDen M G p.2.fv p.1) (hlen : ys.length ≤ BIG)
    (hl : lcD t c e envw items = .ok ys) (r : R M G Z (upd H1 D (.lst [])) σw envw [(.ref D, .st (.dl []))]) (hd : ∀ H, R M G Z H σw envw [(.ref D, .st (.dl ys))] → Qd H) :
    ∃ W : Nat → Nat → Hp → Prop, (∃ m, W 0 m (upd H1 D (.lst []))) ∧ ∀ i m H, W i m H →
      (J.stop i H ∧ Qd H) ∨ (J.go i H ∧ ∃ Nx : Hp → Prop, (∀ H', Nx H' → ∃ m', m' < m ∧ W (i + 1) m' H') ∧ ∀ x H', J.yld i H x H' → gJ M ws t x σw H' fun σ2 H2 => wipe σ2 vs = σw ∧ tT M W0 c σ2 H2 fun b H3 =>
        if b = true then tE M W0 e σ2 H3 fun y H4 => ∃ acc, H4 D = some (.lst acc) ∧ acc.length < sizeLine ∧ Nx (upd H4 D (.lst (acc ++ [y]))) else Nx H3) := by
  refine ⟨fun i m H => i + m = items.length ∧ ∃ done rest, lcD t c e envw (items.drop i) = .ok rest ∧ done ++ rest = ys ∧ R M G Z H σw envw [(.ref D, .st (.dl done))], ⟨items.length, by omega, [], ys, by rw [List.drop_zero]; exact hl, rfl, r⟩, ?_⟩
  rintro i m H ⟨him, done, rest, h1, h2, ⟨F, C1, C2, r⟩⟩
  obtain ⟨w1, w2⟩ := wk.at r.fh (fun p hp => (hk p hp).mono r.gf) i
  by_cases hlt : i < items.length
  · obtain ⟨hgo, hy⟩ := w1 items[i] (List.getElem?_eq_getElem hlt)
    rw [List.drop_eq_getElem_cons hlt] at h1
    have h1' : (match t items[i] envw with
      | some e1 => (c e1).nox.bind fun b => if b then (e e1).nox.bind fun r => match r.st? with
          | some y => (lcD t c e envw (items.drop (i + 1))).bind fun ys => .ok (y :: ys)
          | none => .no
        else lcD t c e envw (items.drop (i + 1))
      | none => .no) = Ans.ok rest := h1
    refine .inr ⟨hgo, fun H' => ∃ done rest, lcD t c e envw (items.drop (i + 1)) = .ok rest ∧ done ++ rest = ys ∧ R M G Z H' σw envw [(.ref D, .st (.dl done))], fun H' q => ⟨m - 1, by omega, by omega, q⟩, fun x H' yl => ?_⟩
    refine ⟨G, Z, envw, _, items[i], r.new (hy x H' yl), ?_⟩
    cases et : t items[i] envw with
    | none => rw [et] at h1'; cases h1'
    | some e1 =>
      rw [et] at h1'
      intro σ2 hon r2
      have hσ : wipe σ2 vs = σw := by rw [(hon.mono hws).wipe, ← hw]
      have hE : wipeE e1 vs = envw := by
        obtain ⟨hl1, hl2⟩ := hto _ _ _ et
        rw [wipeE_of hl1 fun j hj => hl2 j fun z => hj (hws j z), ← hwe]
      have back : ∀ {H : Hp} {T : List (V × Rv)}, R M G Z H σ2 e1 T → R M G Z H σw envw T := fun {H T} r => by
        have := r.wipeD vs
        rw [hσ, hE] at this
        exact this
      refine ⟨hσ, G, Z, e1, _, r2, ?_⟩
      cases ec : c e1 with
      | no => simp [ec, Ans.nox, Ans.bind] at h1'
      | ex z => simp [ec, Ans.nox, Ans.bind] at h1'
      | ok b =>
        simp only [ec, Ans.nox, Ans.bind] at h1'
        intro H3 s3 r3
        cases b with
        | false =>
          rw [if_neg Bool.false_ne_true] at h1' ⊢
          exact ⟨done, rest, h1', h2, back r3⟩
        | true =>
          rw [if_pos rfl] at h1' ⊢
          refine ⟨G, Z, e1, _, r3, ?_⟩
          cases ee : e e1 with
          | no => simp [ee] at h1'
          | ex z => simp [ee] at h1'
          | ok rv =>
            rw [ee] at h1'
            simp only at h1'
            intro y H4 s4 r4
            cases es : rv.st? with
            | none => rw [es] at h1'; cases h1'
            | some o =>
              rw [es] at h1'
              have hrv : rv = .st o := by
                unfold Rv.st? at es
                split at es
                · cases es; rfl
                · cases es
              subst hrv
              simp only at h1'
              cases el : lcD t c e envw (items.drop (i + 1)) with
              | no => rw [el] at h1'; cases h1'
              | ex z => rw [el] at h1'; cases h1'
              | ok zs =>
                rw [el] at h1'
                have h1' : Ans.ok (o :: zs) = Ans.ok rest := h1'
                injection h1' with h1'
                subst h1'
                obtain ⟨acc, hD, hla, r5⟩ := r4.grow
                refine ⟨acc, hD, ?_, done ++ [o], zs, (by first | exact el | rfl), by rw [List.append_assoc]; exact h2, back r5⟩
                rw [hla, big_eq]
                have := congrArg List.length h2
                rw [List.length_append, List.length_cons] at this
                omega
  · refine .inl ⟨w2 (by omega), ?_⟩
    rw [List.drop_of_length_le (by omega)] at h1
    cases h1
    rw [List.append_nil] at h2
    subst h2
    exact hd H r.r
section
variable {X : Cx} {W : WX} {pos spos py : Pos} {tg iter elt : Expr} {ifs : List Expr} {scope : Scope} {own : List (Str × Nat)} {it : VEnv → Ans (List FV)} {t : TgF} {fc : DT} {fe : DE} {ws : List Nat}
theorem R.newOf {M : Str → Option Value} {G H H' : Hp} {σ : Sl} {env : VEnv} {v : V} {o : OV} (r : R M G H H' σ env [(v, .st o)]) : New M G H H' o v := by
  obtain ⟨F, C1, C2, r⟩ := r
  obtain ⟨A, B, e1, d, t⟩ := r.tm.freeze
  cases t
  rw [List.append_nil] at e1
  subst e1
  have g := r.gd.right
  exact ⟨F, C2, r.gf, r.fg, r.fh, r.zh, d, ⟨g.nd, g.hp, g.fr, g.zr⟩⟩
theorem lc_post (hws : ∀ i ∈ ws, i ∈ own.map (·.2)) (hto : TgOk ws t) {σ : Sl} {H : Hp} {Q : VK} {G Z : Hp} {env : VEnv} {T : List (V × Rv)} (r : R X.mg G Z H σ env T)
    (p : Post X.mg W G Z σ env T Q H (dLcD it t fc fe (own.map (·.2)) env)) : tLc (tIC X.mg W it) (gJ X.mg ws t) (tT X.mg W0 fc) (tE X.mg W0 fe) (own.map (·.2)) σ H Q := by
  refine ⟨G, Z, env, T, r, ?_⟩
  unfold dLcD at p
  cases ei : it env with
  | no => rw [ei] at p; exact p.elim
  | ex c => rw [ei] at p; exact fun C H' m s r' => p C H' m s r'
  | ok items =>
    rw [ei] at p
    intro J H1 kept s1 ⟨F, C1, C2, r1⟩ wk hsbk D hD
    have p : Post X.mg W G Z σ env T Q H ((lcD t fc fe (frzE (wipeE env (own.map (·.2)))) items).bind fun ys => if decide (ys.length ≤ BIG) && (allFzE env || OV.cleanL ys) then .ok (.st (.dl ys)) else .no) := p
    cases el : lcD t fc fe (frzE (wipeE env (own.map (·.2)))) items with
    | no => rw [el] at p; exact p.elim
    | ex c =>
      -- no exception comes out of lcD
      exfalso
      have key : ∀ items c, lcD t fc fe (frzE (wipeE env (own.map (·.2)))) items ≠ .ex c := by
        intro items
        induction items with
        | nil => intro c h; cases h
        | cons x xs ih =>
          intro c h
          unfold lcD at h
          split at h
          · rename_i e1 _
            cases ec : fc e1 with
            | no => simp [ec, Ans.nox, Ans.bind] at h
            | ex z => simp [ec, Ans.nox, Ans.bind] at h
            | ok b =>
              simp only [ec, Ans.nox, Ans.bind] at h
              cases b with
              | false => exact ih c (by simpa using h)
              | true =>
                rw [if_pos rfl] at h
                cases ee : fe e1 with
                | no => simp [ee] at h
                | ex z => simp [ee] at h
                | ok rv =>
                  rw [ee] at h
                  simp only at h
                  split at h
                  · cases el2 : lcD t fc fe (frzE (wipeE env (own.map (·.2)))) xs with
                    | no => rw [el2] at h; cases h
                    | ex z => exact ih z el2
                    | ok zs => rw [el2] at h; cases h
                  · cases h
          · cases h
      exact key items c el
    | ok ys =>
      rw [el] at p
      simp only [Ans.bind] at p
      split at p
      · rename_i hc
        rw [Bool.and_eq_true] at hc
        have hlen : ys.length ≤ BIG := of_decide_eq_true hc.1
        have hwe : frzE (wipeE env (own.map (·.2))) = wipeE (frzE (wipeE env (own.map (·.2)))) (own.map (·.2)) := by
          rw [frz_wipe, wipeE_idem]
        have fin : ∀ H', New X.mg F H1 H' (.dl ys) (.ref D) → Q (.ref D) H' := fun H' n => p _ H' (s1.trans (let ⟨_, _, n⟩ := n; n.hh)) ((r1.new n).sb sb_app.both)
        have start : ∀ {K0 : Hp} (r0 : R X.mg K0 H1 H1 (wipe σ (own.map (·.2))) (frzE (wipeE env (own.map (·.2)))) []), R X.mg K0 H1 (upd H1 D (.lst [])) (wipe σ (own.map (·.2))) (frzE (wipeE env (own.map (·.2)))) [(.ref D, .st (.dl []))] := fun {K0} r0 => by
          obtain ⟨F0, D1, D2, r0⟩ := r0
          exact r0.new (New.cell r0.fh hD ⟨D, [], [], rfl, ⟨rfl, rfl⟩, rfl⟩)
        cases ha : allFzE env with
        | true =>
          -- all frozen: what is walked is frozen first
          obtain ⟨F2, C3, C4, r2, hkA⟩ := r1.iceK (fun p hp => by
            have := hsbk p hp
            revert this
            cases p.2 with
            | st o => exact fun _ => ⟨o, rfl⟩
            | bo o => intro h; rw [show sbR env (.bo o) = !allFzE env from rfl, ha] at h; cases h)
          refine lc_run (hw := (wipe_idem _ _).symm) (hwe := hwe) hws hto wk (G := F2) (Z := H1) hkA hlen el (start (r2.blockF _ ha)) fun H' r' => ?_
          have n := r'.newOf
          exact p _ H' (s1.trans (let ⟨_, _, n⟩ := n; n.hh)) (r2.new n)
        | false =>
          rw [ha, Bool.false_or] at hc
          refine lc_run (hw := (wipe_idem _ _).symm) (hwe := hwe) hws hto wk (G := mutG F H1) (Z := H1) (fun p hp => ?_) hlen el (start (r1.block _)) fun H' r' => fin H' (r'.newOf.clean r1.fh (by simpa [OV.clean] using hc.2))
          obtain ⟨A, d, c⟩ := r1.bor (List.mem_append_left T hp)
          exact d.mut r1.fh c
      · exact p.elim
theorem R.dl_ol {M : Str → Option Value} {G Z H : Hp} {σ : Sl} {env : VEnv} {T : List (V × Rv)} {v : V} {ys : List FV} (r : R M G Z H σ env ((v, .st (.dl (ys.map .fz))) :: T)) : R M G Z H σ env ((v, .st (.ol ys)) :: T) := by
  obtain ⟨F, C1, C2, r⟩ := r
  obtain ⟨A, B, e, d, t⟩ := r.tm.freeze
  subst e
  exact ⟨F, C1, A ++ B, r.gf, r.fg, r.fh, r.zh, r.ev, .st (own_dl_ol d) t, r.gd⟩
theorem cleanL_fz : ∀ ys : List FV, OV.cleanL (ys.map .fz) = FV.pureL ys
  | [] => rfl
  | y :: ys => by
    show ((OV.fz y).clean && OV.cleanL (ys.map .fz)) = (FV.pure y && FV.pureL ys)
    rw [cleanL_fz ys]
    rfl
theorem lcF_ex {c : DT} {e : DE} {t : TgF} {env : VEnv} : ∀ (items : List FV) (z : Str), lcF t c e env items ≠ .ex z := by
  intro items
  induction items with
  | nil => intro c h; cases h
  | cons x xs ih =>
    intro z h
    unfold lcF at h
    split at h
    · rename_i e1 _
      cases ec : c e1 with
      | no => simp [ec, Ans.nox, Ans.bind] at h
      | ex z => simp [ec, Ans.nox, Ans.bind] at h
      | ok b =>
        simp only [ec, Ans.nox, Ans.bind] at h
        cases b with
        | false => exact ih z (by simpa using h)
        | true =>
          rw [if_pos rfl] at h
          cases ee : e e1 with
          | no => simp [ee] at h
          | ex z => simp [ee] at h
          | ok rv =>
            rw [ee] at h
            simp only at h
            split at h
            · cases el2 : lcF t c e env xs with
              | no => rw [el2] at h; cases h
              | ex z => exact ih z el2
              | ok zs => rw [el2] at h; cases h
            · cases h
    · cases h
theorem lc_postF {σ : Sl} {H : Hp} {Q : VK} {G Z : Hp} {env : VEnv} {T : List (V × Rv)} {vs : List Nat}
    (p : Post X.mg W G Z σ env T Q H (dLc it t fc fe vs env)) : Post X.mg W G Z σ env T Q H (dLcD it t fc fe vs env) := by
  unfold dLc at p
  unfold dLcD
  cases ei : it env with
  | no => rw [ei] at p; exact p.elim
  | ex c => rw [ei] at p; exact p
  | ok items =>
    rw [ei] at p
    simp only [Ans.bind] at p ⊢
    cases el : lcF t fc fe (frzE (wipeE env vs)) items with
    | no => rw [el] at p; exact p.elim
    | ex c => exact absurd el (lcF_ex _ _)
    | ok ys =>
      rw [el] at p
      rw [lcF_D el]
      simp only at p ⊢
      rw [cleanL_fz, List.length_map]
      split at p
      · rename_i hc
        rw [if_pos hc]
        exact fun v H' s r => p v H' s r.dl_ol
      · exact p.elim
theorem je_lcD (hc : X.calm = true) (hN : X.N.Nodup) (hi : JC X W tg iter it) (ok : BlkOk X.N X.env.scope scope own)
    (hg : ∀ (s : Shared) (H : Hp) (C : Addr) (cl : List (Str × Addr)) (fp : List Addr), JG (X.blk s H scope (compEnvC scope cl C X.env) fp) tg ws t)
    (ht : ∀ (s : Shared) (H : Hp) (C : Addr) (cl : List (Str × Addr)) (fp : List Addr), JTs (X.blk s H scope (compEnvC scope cl C X.env) fp) W0 ifs fc)
    (he : ∀ (s : Shared) (H : Hp) (C : Addr) (cl : List (Str × Addr)) (fp : List Addr), JE (X.blk s H scope (compEnvC scope cl C X.env) fp) W0 elt fe)
    (hto : TgOk ws t) (hws : ∀ i ∈ ws, i ∈ own.map (·.2) := by decide) (hs : ∀ x, foldedSetIterable iter X.env x = pure x := by intro _; rfl) :
    JE X W (.ListComp elt [⟨tg, iter, ifs, 0⟩] scope pos) (dLcD it t fc fe (own.map (·.2))) :=
  PE.imp (pe_lc hc hN hi ok hg ht he hs) fun σ H Q ⟨G, Z, env, T, r, p⟩ => lc_post hws hto r p
theorem je_lc (hc : X.calm = true) (hN : X.N.Nodup) (hi : JC X W tg iter it) (ok : BlkOk X.N X.env.scope scope own)
    (hg : ∀ (s : Shared) (H : Hp) (C : Addr) (cl : List (Str × Addr)) (fp : List Addr), JG (X.blk s H scope (compEnvC scope cl C X.env) fp) tg ws t)
    (ht : ∀ (s : Shared) (H : Hp) (C : Addr) (cl : List (Str × Addr)) (fp : List Addr), JTs (X.blk s H scope (compEnvC scope cl C X.env) fp) W0 ifs fc)
    (he : ∀ (s : Shared) (H : Hp) (C : Addr) (cl : List (Str × Addr)) (fp : List Addr), JE (X.blk s H scope (compEnvC scope cl C X.env) fp) W0 elt fe)
    (hto : TgOk ws t) (hws : ∀ i ∈ ws, i ∈ own.map (·.2) := by decide) (hs : ∀ x, foldedSetIterable iter X.env x = pure x := by intro _; rfl) :
    JE X W (.ListComp elt [⟨tg, iter, ifs, 0⟩] scope pos) (dLc it t fc fe (own.map (·.2))) :=
  PE.imp (je_lcD hc hN hi ok hg ht he hto hws hs) fun σ H Q ⟨G, Z, env, T, r, p⟩ => ⟨G, Z, env, T, r, lc_postF p⟩
end
end J
namespace J
open PySem PySem.Spec PyProof.Rows L2
def Wrote (M : Str → Option Value) (F : Hp) (L B : Cells) (v : V) (a : Addr) (ho ho' : HO) (o' : OV) : Prop := ∃ A D L', L.Perm ((a, ho) :: (A ++ D)) ∧ Own M F o' v L' ∧ L'.Perm ((a, ho') :: (A ++ B))
section
variable {M : Str → Option Value} {G Z H F : Hp} {σ : Sl} {env : VEnv} {T : List (V × Rv)} {o p p' : OV} {v y : V} {i : Nat} {L B : Cells} {L1 L2 : Cells} {a : Addr} {ho ho' : HO}
theorem TmpOwn.anyH {H' : Hp} (t : TmpOwn M F H T L) (h : AllSt T) : TmpOwn M F H' T L := by
  induction t with
  | nil => exact .nil
  | st d _ ih => exact .st d (ih fun p hp => h p (List.mem_cons_of_mem _ hp))
  | bo d _ ih =>
    obtain ⟨o, e⟩ := h _ List.mem_cons_self
    cases e
theorem RF.write (r : RF M G Z H F σ env ((y, .st o) :: T) L1 L2) (hT : AllSt T) (he : env[i]? = some (some p)) :
    ∃ v L B, σ[i]? = some (some v) ∧ Own M F p v L ∧ Own M F o y B ∧ (∀ q ∈ L, H q.1 = some q.2) ∧ ∀ a ho ho' p', Wrote M F L B v a ho ho' p' → ∃ E1 E2, RF M G Z (upd H a ho') F σ (env.set i (some p')) T E1 E2 := by
  obtain ⟨v, L, Lr, h1, h2, h3, h4, _⟩ := r.ev.repl he
  obtain ⟨B, C, e, d, t⟩ := r.tm.freeze
  subst e
  refine ⟨v, L, B, h1, h2, d, fun q hq => r.gd.hp q (List.mem_append_left _ (h3.mem_iff.mpr (List.mem_append_left _ hq))), fun a ho ho' p' ⟨A, D, L', q1, q2, q3⟩ => ?_⟩
  obtain ⟨L3, k1, k2⟩ := h4 p' v L' q2
  have hσ : σ.set i (some v) = σ := by
    apply List.ext_getElem?
    intro j
    by_cases hj : i = j
    · subst hj
      obtain ⟨hlt, _⟩ := List.getElem?_eq_some_iff.mp h1
      rw [List.getElem?_set_self hlt, h1]
    · rw [List.getElem?_set_ne hj]
  rw [hσ] at k1
  -- all cells of before
  have pm : (L1 ++ (B ++ C)).Perm ((a, ho) :: ((A ++ B) ++ Lr ++ C) ++ D) := by
    refine (h3.append_right _).trans ?_
    refine ((q1.append_right Lr).append_right (B ++ C)).trans ?_
    have e1 : ((a, ho) :: (A ++ D) ++ Lr ++ (B ++ C)) = (a, ho) :: (A ++ (D ++ (Lr ++ (B ++ C)))) := by simp
    have e2 : ((a, ho) :: ((A ++ B) ++ Lr ++ C) ++ D) = (a, ho) :: (A ++ (B ++ (Lr ++ (C ++ D)))) := by simp
    rw [e1, e2]
    refine List.Perm.cons _ (List.Perm.append_left A ?_)
    -- D ++ (Lr ++ (B ++ C)) ~ B ++ (Lr ++ (C ++ D))
    refine List.perm_append_comm.trans ?_
    have e3 : Lr ++ (B ++ C) ++ D = (Lr ++ B) ++ (C ++ D) := by simp
    have e4 : B ++ (Lr ++ (C ++ D)) = (B ++ Lr) ++ (C ++ D) := by simp
    rw [e3, e4]
    exact List.perm_append_comm.append_right _
  have g := (r.gd.perm pm).left
  have nd := g.nd
  rw [List.map_cons, List.nodup_cons] at nd
  have ne : ∀ q ∈ (A ++ B) ++ Lr ++ C, q.1 ≠ a := fun q hq z => nd.1 (by rw [← z]; exact List.mem_map.mpr ⟨q, hq, rfl⟩)
  have fa : F a = none := g.fr (a, ho) List.mem_cons_self
  have za : Z a = none := g.zr (a, ho) List.mem_cons_self
  have g2 : Good F Z (upd H a ho') ((a, ho') :: ((A ++ B) ++ Lr ++ C)) := by
    refine ⟨by rw [List.map_cons, List.nodup_cons]; exact nd, fun q hq => ?_, fun q hq => ?_, fun q hq => ?_⟩
    · rcases List.mem_cons.mp hq with rfl | hq
      · exact upd_same
      · rw [upd_ne (ne q hq)]; exact g.hp q (List.mem_cons_of_mem _ hq)
    · rcases List.mem_cons.mp hq with rfl | hq
      · exact fa
      · exact g.fr q (List.mem_cons_of_mem _ hq)
    · rcases List.mem_cons.mp hq with rfl | hq
      · exact za
      · exact g.zr q (List.mem_cons_of_mem _ hq)
  refine ⟨L3, C, r.gf, r.fg, fun b u e => ?_, fun b u e => ?_, k1, t.anyH hT, g2.perm ?_⟩
  · rw [upd_ne (fun z => by rw [z, fa] at e; cases e)]; exact r.fh b u e
  · rw [upd_ne (fun z => by rw [z, za] at e; cases e)]; exact r.zh b u e
  · refine List.Perm.symm ((k2.append_right C).trans ?_)
    exact (q3.append_right Lr).append_right C
theorem OwnL.snoc {os : List OV} {vs : List V} {y : V} (h : OwnL M F os vs L) (d : Own M F o y B) : OwnL M F (os ++ [o]) (vs ++ [y]) (L ++ B) := by
  induction os generalizing vs L with
  | nil =>
    obtain ⟨e1, e2⟩ := h
    subst e1 e2
    exact ⟨y, [], B, [], rfl, d, ⟨rfl, rfl⟩, by simp⟩
  | cons x os ih =>
    obtain ⟨v, ws, A, C, e, q, r, e2⟩ := h
    subst e e2
    exact ⟨v, ws ++ [y], A, C ++ B, rfl, q, ih r, by rw [List.append_assoc]⟩
end
def OV.app : OV → OV → Option OV
  | .ol xs, .fz x => some (.ol (xs ++ [x]))
  | .ol [], o => some (.dl [o])
  | .dl os, o => some (.dl (os ++ [o]))
  | _, _ => none
def OV.size : OV → Nat
  | .ol xs => xs.length
  | .dl os => os.length
  | .oK k => k.length
  | .oT k => k.length
  | .dd k => k.length
  | _ => 0
section
variable {M : Str → Option Value} {G Z H F : Hp} {σ : Sl} {env : VEnv} {T : List (V × Rv)} {o p p' : OV} {v y : V} {i : Nat} {L B : Cells} {L1 L2 : Cells} {a : Addr} {ho ho' : HO}
theorem own_app (e : p.app o = some p') (h : Own M F p v L) (d : Own M F o y B) : ∃ a vs, v = .ref a ∧ (a, HO.lst vs) ∈ L ∧ vs.length = p.size ∧ Wrote M F L B v a (.lst vs) (.lst (vs ++ [y])) p' := by
  unfold OV.app at e
  split at e
  · rename_i xs x
    cases e
    obtain ⟨a, vs, e1, r, e2⟩ := h
    obtain ⟨d, hB⟩ := d
    subst hB e1 e2
    exact ⟨a, vs, rfl, List.mem_singleton.mpr rfl, r.length, [], [], _, .refl _, ⟨a, _, rfl, r.append ⟨y, [], rfl, d, rfl⟩, rfl⟩, .refl _⟩
  · rename_i o' _
    cases e
    obtain ⟨a, vs, e1, r, e2⟩ := h
    cases (show vs = [] from r)
    subst e1 e2
    exact ⟨a, [], rfl, List.mem_singleton.mpr rfl, rfl, [], [], _, .refl _, ⟨a, [y], B, rfl, ⟨y, [], B, [], rfl, d, ⟨rfl, rfl⟩, by simp⟩, rfl⟩, .refl _⟩
  · rename_i os o'
    cases e
    obtain ⟨a, vs, L', e1, r, e2⟩ := h
    subst e1 e2
    exact ⟨a, vs, rfl, List.mem_cons_self, r.length, L', [], _, by simp, ⟨a, _, _, rfl, r.snoc d, rfl⟩, .refl _⟩
  · cases e
end
def OV.isL : OV → Bool
  | .ol _ => true
  | .dl _ => true
  | _ => false
theorem own_isL {M : Str → Option Value} {F : Hp} {p : OV} {v : V} {L : Cells} (h : p.isL = true) (d : Own M F p v L) : ∃ a vs, v = .ref a ∧ (a, HO.lst vs) ∈ L := by
  unfold OV.isL at h
  split at h
  · obtain ⟨a, vs, e1, r, e2⟩ := d
    exact ⟨a, vs, e1, by rw [e2]; exact List.mem_singleton.mpr rfl⟩
  · obtain ⟨a, vs, L', e1, r, e2⟩ := d
    exact ⟨a, vs, e1, by rw [e2]; exact List.mem_cons_self⟩
  · cases h
theorem RF.isL {M : Str → Option Value} {G Z H F : Hp} {σ : Sl} {env : VEnv} {T : List (V × Rv)} {C1 C2 : Cells} {p : OV} {i : Nat} (r : RF M G Z H F σ env T C1 C2) (h : p.isL = true) (e : env[i]? = some (some p)) : ∃ a vs, σ[i]? = some (some (.ref a)) ∧ H a = some (.lst vs) := by
  obtain ⟨v, A, Lr, h1, h2, h3, _⟩ := r.ev.repl e
  obtain ⟨a, vs, e1, hm⟩ := own_isL h h2
  subst e1
  exact ⟨a, vs, h1, r.gd.hp (a, .lst vs) (List.mem_append_left _ (h3.mem_iff.mpr (List.mem_append_left _ hm)))⟩
def dApp (i : Nat) (f : DE) : DS := fun env => match env[i]? with
  | some (some p) => if p.isL then (f env).bind fun r => match r with
    | .st o => if p.size < BIG then match p.app o with
      | some p' => .ok (.nx (env.set i (some p')))
      | none => .no
      else .no
    | _ => .no
    else .no
  | _ => .no
section
variable {X : Cx} {W : WX} {pos pos' apos : Pos} {e : Expr} {f g : DE} {x : Str}
theorem PS.or {st : Stmt} {t t' : TS} (p : PS X st t) (p' : PS X st t') : PS X st (fun D σ H => t D σ H ∨ t' D σ H) := ⟨fun pins s σ H D I h => h.elim (p.run pins s σ H D I) (p'.run pins s σ H D I)⟩
theorem js_append (i : Nat) (he : JE X W e f) (hN : X.N[i]? = some x := by rfl) (hv : Vis X.env.scope x := by first | exact Or.inl rfl | exact Or.inr (Or.inl rfl) | exact Or.inr (Or.inr rfl))
    (hd : (x == ("__debug__" : Str)) = false := by decide) (hcd : (x == ("__classdict__" : Str)) = false := by decide)
    (hs : swapsWith (.Call (.Attribute (.Name x pos') "append" apos) [e] [] cpos) none pos.line X.env = pure false := by rfl)
    (hbase : attributeBase (.Name x pos') "append" X.env (eval (.Name x pos') X.env) = eval (.Name x pos') X.env := by rfl)
    (hfew : ((backTo cpos (starEach [e] X.env)).all (fun x => !x.1) && (backToKw cpos (keywordEach [] X.env)).all (fun x => x.1.isSome)
      && decide ([e].length + ([] : List Keyword).length + (if ([] : List Keyword).isEmpty then 0 else 1) < 30)) = true := by rfl)
    (hline : (apos.endLine == cpos.line) = true := by rfl) (hst : starEach [e] X.env = (false, eval e X.env) :: starEach [] X.env := by rfl) (hplain : (backTo cpos (starEach [] X.env)).any (·.1) = false := by rfl) :
    JS X W (.Expr (.Call (.Attribute (.Name x pos') "append" apos) [e] [] cpos) pos) (dApp i f) := by
  refine PS.imp (ps_expr (pe_bm F.plainAttrs_list F.slot_list_append (by rfl) (fun pins s σ H x xs v us Q I r rv q => mt_append pins s σ H x xs v us Q I r rv q) (pe_var hN hv hd hcd) (pa_cons he pa_nil hst) hbase hfew hline hst hplain) hs) fun D σ H ⟨G, Z, env, T, hT, r, p⟩ => ?_
  unfold dApp at p
  cases ei : env[i]? with
  | none => rw [ei] at p; exact p.elim
  | some ov =>
    cases ov with
    | none => rw [ei] at p; exact p.elim
    | some q =>
      rw [ei] at p
      simp only at p
      by_cases hl : q.isL = true
      · rw [if_pos hl] at p
        obtain ⟨F, C1, C2, r⟩ := r
        obtain ⟨a0, vs0, k1, k2⟩ := r.isL hl ei
        refine ⟨_, k1, .inl ⟨rfl, vs0, SqL.of k2⟩, ?_⟩
        refine tE.bindS r.r p fun rv y H1 _ s1 r1 p1 => ?_
        cases rv with
        | bo o => exact p1.elim
        | st o =>
          simp only at p1
          split at p1
          · rename_i hb
            split at p1
            · rename_i p' ep
              obtain ⟨F2, D1, D2, r1⟩ := r1
              obtain ⟨v, L, B, j1, j2, j3, j4, j5⟩ := r1.write hT ei
              rw [k1] at j1
              obtain rfl := Option.some.inj (Option.some.inj j1)
              obtain ⟨a, vs, e1, m1, m2, wr⟩ := own_app ep j2 j3
              cases e1
              exact ⟨a0, vs, y, rfl, rfl, j4 _ m1, by rw [m2, big_eq] at *; exact hb, p1 σ _ (let ⟨_, _, z⟩ := j5 _ _ _ _ wr; z.r)⟩
            · exact p1.elim
          · exact p1.elim
      · rw [if_neg hl] at p; exact p.elim
end
end J
namespace J
open PySem PySem.Spec PyProof.Rows L2
def putKV {κ α : Type} [DecidableEq κ] (kvs : List (κ × α)) (k : κ) (v : α) : List (κ × α) := if kvs.any (fun kv => decide (kv.1 = k)) then kvs.map (fun kv => if kv.1 = k then (kv.1, v) else kv) else kvs ++ [(k, v)]
def OV.put (p : OV) (k : FV) (o : OV) : Option OV := match p, k, o with
  | .ol xs, .int i, .fz x => (ixN xs.length i).map fun j => .ol (xs.set j x)
  | .dl os, .int i, o => (ixN os.length i).map fun j => .dl (os.set j o)
  | .oK kvs, k, .fz x => k.key?.map fun k => .oK (putKV kvs k x)
  | .oK [], k, o => k.key?.map fun k => .dd [(k, o)]
  | .dd kvs, k, o => k.key?.bind fun k => if kvs.any (fun kv => decide (kv.1 = k)) then none else some (.dd (kvs ++ [(k, o)]))
  | .oT kvs, k, .fz x => k.keyT?.map fun k => .oT (putKV kvs k x)
  | _, _, _ => none
section
variable {M : Str → Option Value} {G Z H F : Hp} {σ : Sl} {env : VEnv} {T : List (V × Rv)} {o p p' : OV} {v y : V} {i : Nat} {L B : Cells} {L1 L2 : Cells} {a : Addr} {ho ho' : HO}
theorem OwnL.put {os : List OV} {vs : List V} (h : OwnL M F os vs L) (d : Own M F o y B) : ∀ {j : Nat}, j < os.length → ∃ D A L', L.Perm (A ++ D) ∧ OwnL M F (os.set j o) (vs.set j y) L' ∧ L'.Perm (A ++ B) := by
  induction os generalizing vs L with
  | nil => intro j hj; simp at hj
  | cons x os ih =>
    intro j hj
    obtain ⟨v, ws, A, C, e, q, r, e2⟩ := h
    subst e e2
    cases j with
    | zero => exact ⟨A, C, _, List.perm_append_comm, ⟨y, ws, B, C, rfl, d, r, rfl⟩, List.perm_append_comm⟩
    | succ j =>
      obtain ⟨D, A2, L', q1, q2, q3⟩ := ih r (j := j) (by simpa using hj)
      refine ⟨D, A ++ A2, _, ?_, ⟨v, _, A, L', rfl, q, q2, rfl⟩, ?_⟩
      · rw [List.append_assoc]; exact List.Perm.append_left A q1
      · rw [List.append_assoc]; exact List.Perm.append_left A q3
theorem FDenL.put {x : FV} {xs : List FV} {vs : List V} (h : FDenL M F xs vs) (d : FDen M F x y) : ∀ (j : Nat), FDenL M F (xs.set j x) (vs.set j y) := by
  induction xs generalizing vs with
  | nil => intro j; rw [show vs = [] from h]; exact rfl
  | cons z xs ih =>
    intro j
    obtain ⟨v, ws, e, q, r⟩ := h
    subst e
    cases j with
    | zero => exact ⟨y, ws, rfl, d, r⟩
    | succ j => exact ⟨v, _, rfl, q, ih r j⟩
theorem FDenK.any {kvs : List (Key × FV)} {ws : List (Key × V)} (h : FDenK M F kvs ws) (k : Key) : kvs.any (fun kv => decide (kv.1 = k)) = ws.any (fun kv => decide (kv.1 = k)) := by
  induction kvs generalizing ws with
  | nil => rw [show ws = [] from h]; rfl
  | cons p kvs ih =>
    obtain ⟨j, x⟩ := p
    obtain ⟨v, rs, e, q, r⟩ := h
    subst e
    rw [List.any_cons, List.any_cons, ih r]
theorem FDenT.any {kvs : List (List Key × FV)} {ws : List (List Key × V)} (h : FDenT M F kvs ws) (k : List Key) : kvs.any (fun kv => decide (kv.1 = k)) = ws.any (fun kv => decide (kv.1 = k)) := by
  induction kvs generalizing ws with
  | nil => rw [show ws = [] from h]; rfl
  | cons p kvs ih =>
    obtain ⟨j, x⟩ := p
    obtain ⟨v, rs, e, q, r⟩ := h
    subst e
    rw [List.any_cons, List.any_cons, ih r]
theorem OwnK.any {kvs : List (Key × OV)} {ws : List (Key × V)} (h : OwnK M F kvs ws L) (k : Key) : kvs.any (fun kv => decide (kv.1 = k)) = ws.any (fun kv => decide (kv.1 = k)) := by
  induction kvs generalizing ws L with
  | nil => rw [h.1]; rfl
  | cons p kvs ih =>
    obtain ⟨j, x⟩ := p
    obtain ⟨v, rs, A, C, e, q, r, _⟩ := h
    subst e
    rw [List.any_cons, List.any_cons, ih r]
theorem FDenK.snoc {x : FV} {k : Key} {kvs : List (Key × FV)} {ws : List (Key × V)} (h : FDenK M F kvs ws) (d : FDen M F x y) : FDenK M F (kvs ++ [(k, x)]) (ws ++ [(k, y)]) := by
  induction kvs generalizing ws with
  | nil => rw [show ws = [] from h]; exact ⟨y, [], rfl, d, rfl⟩
  | cons p kvs ih =>
    obtain ⟨j, z⟩ := p
    obtain ⟨v, rs, e, q, r⟩ := h
    subst e
    exact ⟨v, _, rfl, q, ih r⟩
theorem FDenT.snoc {x : FV} {k : List Key} {kvs : List (List Key × FV)} {ws : List (List Key × V)} (h : FDenT M F kvs ws) (d : FDen M F x y) : FDenT M F (kvs ++ [(k, x)]) (ws ++ [(k, y)]) := by
  induction kvs generalizing ws with
  | nil => rw [show ws = [] from h]; exact ⟨y, [], rfl, d, rfl⟩
  | cons p kvs ih =>
    obtain ⟨j, z⟩ := p
    obtain ⟨v, rs, e, q, r⟩ := h
    subst e
    exact ⟨v, _, rfl, q, ih r⟩
theorem OwnK.snoc {k : Key} {kvs : List (Key × OV)} {ws : List (Key × V)} (h : OwnK M F kvs ws L) (d : Own M F o y B) : OwnK M F (kvs ++ [(k, o)]) (ws ++ [(k, y)]) (L ++ B) := by
  induction kvs generalizing ws L with
  | nil =>
    obtain ⟨e1, e2⟩ := h
    subst e1 e2
    exact ⟨y, [], B, [], rfl, d, ⟨rfl, rfl⟩, by simp⟩
  | cons p kvs ih =>
    obtain ⟨j, z⟩ := p
    obtain ⟨v, rs, A, C, e, q, r, e2⟩ := h
    subst e e2
    exact ⟨v, _, A, _, rfl, q, ih r, by rw [List.append_assoc]⟩
theorem FDenK.repl {x : FV} {k : Key} {kvs : List (Key × FV)} {ws : List (Key × V)} (h : FDenK M F kvs ws) (d : FDen M F x y) : FDenK M F (kvs.map fun kv => if kv.1 = k then (kv.1, x) else kv) (ws.map fun kv => if kv.1 = k then (kv.1, y) else kv) := by
  induction kvs generalizing ws with
  | nil => rw [show ws = [] from h]; exact rfl
  | cons p kvs ih =>
    obtain ⟨j, z⟩ := p
    obtain ⟨v, rs, e, q, r⟩ := h
    subst e
    rw [List.map_cons, List.map_cons]
    by_cases hj : j = k
    · simp only [hj, if_true]; exact ⟨y, _, rfl, d, ih r⟩
    · simp only [hj, if_false]; exact ⟨v, _, rfl, q, ih r⟩
theorem FDenT.repl {x : FV} {k : List Key} {kvs : List (List Key × FV)} {ws : List (List Key × V)} (h : FDenT M F kvs ws) (d : FDen M F x y) : FDenT M F (kvs.map fun kv => if kv.1 = k then (kv.1, x) else kv) (ws.map fun kv => if kv.1 = k then (kv.1, y) else kv) := by
  induction kvs generalizing ws with
  | nil => rw [show ws = [] from h]; exact rfl
  | cons p kvs ih =>
    obtain ⟨j, z⟩ := p
    obtain ⟨v, rs, e, q, r⟩ := h
    subst e
    rw [List.map_cons, List.map_cons]
    by_cases hj : j = k
    · simp only [hj, if_true]; exact ⟨y, _, rfl, d, ih r⟩
    · simp only [hj, if_false]; exact ⟨v, _, rfl, q, ih r⟩
theorem FDenK.put {x : FV} {k : Key} {kvs : List (Key × FV)} {ws : List (Key × V)} (h : FDenK M F kvs ws) (d : FDen M F x y) : FDenK M F (putKV kvs k x) (putK ws k y) := by
  unfold putKV putK
  rw [h.any]
  split
  · exact h.repl d
  · exact h.snoc d
theorem FDenT.put {x : FV} {k : List Key} {kvs : List (List Key × FV)} {ws : List (List Key × V)} (h : FDenT M F kvs ws) (d : FDen M F x y) : FDenT M F (putKV kvs k x) (putK ws k y) := by
  unfold putKV putK
  rw [h.any]
  split
  · exact h.repl d
  · exact h.snoc d
theorem FDenT.length {kvs : List (List Key × FV)} {ws : List (List Key × V)} (h : FDenT M F kvs ws) : ws.length = kvs.length := by
  induction kvs generalizing ws with
  | nil => rw [show ws = [] from h]; rfl
  | cons p kvs ih => obtain ⟨j, z⟩ := p; obtain ⟨v, rs, e, q, r⟩ := h; subst e; rw [List.length_cons, List.length_cons, ih r]
theorem OwnK.length {kvs : List (Key × OV)} {ws : List (Key × V)} (h : OwnK M F kvs ws L) : ws.length = kvs.length := by
  induction kvs generalizing ws L with
  | nil => rw [h.1]; rfl
  | cons p kvs ih => obtain ⟨j, z⟩ := p; obtain ⟨v, rs, A, C, e, q, r, _⟩ := h; subst e; rw [List.length_cons, List.length_cons, ih r]
end
section
variable {X : Cx} {W : WX} {pos pos' apos tpos : Pos} {e k : Expr} {f fk fe : DE} {x : Str}
end
end J
namespace J
open PySem PySem.Spec PyProof.Rows PySem.Calls PySem.SeqAt
section
variable {prog : Program} {w : World} {A : Around} {E : Value → Shared → Prop} {s : Shared}
def Emp (h : Heap) (v : Value) : Prop := ∃ a o n, v = .ref a ∧ h.get? a = some o ∧ o.cls = .type "tuple" ∧ o.data = .seq #[] n
theorem emp_of {h : Heap} {v : Value} {as : List Addr} (r : Reads h v (.tuple []) as) : Emp h v := by
  cases r with
  | @tuple a o xs n _ _ h1 h2 h3 h4 =>
    have e : xs = #[] := by
      cases q : xs.toList with
      | nil => exact Array.toList_eq_nil_iff.mp q
      | cons f r => rw [q] at h4; cases h4
    subst e
    exact ⟨a, o, n, rfl, h1, h2, h3⟩
theorem emp_kind {M : Model} {vs : List Value} {Q : SortKind → Shared → Prop} (h2 : 2 ≤ vs.length) (he : ∀ v ∈ vs, Emp s.heap v) (h : Q oneType' s) : wpAny M A (keyKind' vs.toArray) Q E s := by
  match vs, h2 with
  | v1 :: v2 :: rest, _ =>
    have look : ∀ v ∈ v1 :: v2 :: rest, PySem.W.Looks M s.heap (typeOf v) (Value.type "tuple") := fun v hv => by
      obtain ⟨a, o, n, rfl, e1, e2, e3⟩ := he v hv
      exact e2 ▸ (PySem.W.Looks.ld e1).andThen .now
    rw [keyKind'_eq, List.mapM_toArray, map_eq_pure_bind]
    refine wpAny_bind (wpAny_bind (PySem.W.kas_mapM (r := none) _ (fun v hv Q' hq => ?_) (wpAny_pure ?_)))
    · rw [PySem.W.kas_first_eq]
      refine wpAny_bind ((look v hv).here ?_)
      rw [if_neg (by first | decide | simp)]
      obtain ⟨a, o, n, rfl, e1, e2, e3⟩ := he v hv
      exact wpAny_bind (listItems_at e1 e3 (wpAny_pure hq))
    · rw [if_neg (by simp), if_neg (by simp), oneTypeOnly'_eq, List.mapM_toArray, map_eq_pure_bind]
      refine wpAny_bind (wpAny_bind (wpAny_bind (PySem.W.kas_mapM (r := Value.type "tuple") _ (fun v hv Q' hq => (look v hv).here hq) (wpAny_pure ?_))))
      have all : ((List.map (fun _ => Value.type "tuple") (v1 :: v2 :: rest)).toArray.all fun x => x == Value.type "tuple") = true := by
        simp only [List.all_toArray, List.all_map, List.all_eq_true]
        exact fun _ _ => beq_self_eq_true _
      have first : (List.map (fun _ => Value.type "tuple") (v1 :: v2 :: rest)).toArray[0]? = some (Value.type "tuple") := by simp
      rw [first]
      simp only [all, if_true]
      exact wpAny_pure (wpAny_pure h)
theorem emp_lt {x y : Value} {Q : Bool → Shared → Prop} (hx : Emp s.heap x) (hy : Emp s.heap y) (hu : A.units < cLine) (h : Q false s) : wpAny (model prog w) A (keyLt' oneType' x y) Q E s := by
  obtain ⟨a, o, n, rfl, e1, e2, e3⟩ := hx
  obtain ⟨b, p, k, rfl, f1, f2, f3⟩ := hy
  rw [keyLt'_oneType, oneLt'_eq]
  simp only [if_true]
  refine wpAny_bind (wpAny_cRoomFor hu ?_)
  obtain ⟨cls, dd, data, sl⟩ := o
  obtain ⟨cls2, dd2, data2, sl2⟩ := p
  simp only at e2 e3 f2 f3
  subst e2 e3 f2 f3
  refine wpAny_bind (wpAny_callSpecialIfBound?_slot (T := "tuple") ⟨_, e1, rfl⟩ F.slot_tuple_lt (call_meets F.slot_tuple_lt ⟨_, e1, rfl⟩ F.entry_tuple_lt (F.args_tuple_lt_2 _ _) (tuple_ltAt a b #[] #[] n k dd dd2 sl sl2 (fun _ => false) (fun _ => false)) ⟨e1, f1, fun j h => absurd h (by simp), fun j h => absurd h (by simp), ?_⟩))
  exact wpAny_truthy_bool h
theorem emp_sorts {vs : List Value} {ds : List PyData} (e : PySem.W.EachIs (fun v d => ∃ as, Reads s.heap v d as) vs ds) (hd : ∀ d ∈ ds, d = .tuple []) (hu : A.units < cLine) : PySem.W.SortsAt prog w A s (PySem.W.dataKind s.heap ds) vs := by
  have hal : PySem.W.AllAlike ds := fun d h d' h' => by
    rw [hd d h, hd d' h']
    simp [PySem.W.alike, PySem.W.alikeAll]
  refine ⟨fun v hv => ?_, oneType', fun E x y a b Q ha hb hq => ?_, fun h2 E Q hq => emp_kind h2 (fun v hv => ?_) hq⟩
  · obtain ⟨d, h, as, r⟩ := e.left v hv
    exact ⟨_, PySem.W.dataKind_some hal h r⟩
  · obtain ⟨d, as, h, ra, rfl⟩ := PySem.W.dataKind_inv ha
    obtain ⟨d', as', h', rb, rfl⟩ := PySem.W.dataKind_inv hb
    have q := hd d h
    have q' := hd d' h'
    subst q q'
    have hq' : Q (PySem.W.dataLt (.tuple []) (.tuple [])) s := hq
    rw [PySem.W.dataLt_tuple] at hq'
    exact emp_lt (emp_of ra) (emp_of rb) hu hq'
  · obtain ⟨d, h, as, r⟩ := e.left v hv
    rw [hd d h] at r
    exact emp_of r
theorem emp_sorted {β : Type} {bs : List β} {enc : β → PyData} {vs : List Value} {R : Value → β → Prop} {l : Addr} {Q : Value → Shared → Prop} (hl : s.heap.IsList l vs.toArray) (e : PySem.W.EachIs R vs bs) (er : PySem.W.EachIs (fun v b => ∃ as, Reads s.heap v (enc b) as) vs bs) (hd : ∀ d ∈ bs.map enc, d = .tuple []) (hL : bs.length ≤ sizeLine) (hu : A.units + 2 < cLine)
    (h : ∀ out, out.length = bs.length → PySem.W.EachIs R out (bs.mergeSort (PySem.W.dataLe false enc)) → Q (.ref (s.heap.objs.size + 1)) { s with heap := sortedAll s.heap vs (List.toArray out) }) : wpAny (model prog w) A (call (.builtin "sorted") [.ref l]) Q E s := by
  have hal : PySem.W.AllAlike (bs.map enc) := fun d h d' h' => by
    rw [hd d h, hd d' h']
    simp [PySem.W.alike, PySem.W.alikeAll]
  have er' := er.mono fun v b ⟨as, r⟩ => (⟨as, PyProof.Rows.Reads.keeps (fun _ _ => PySem.W.sorting_copy_old) r⟩ : ∃ as, Reads (PySem.W.sortingHeap (PySem.W.copyHeap s.heap vs) (s.heap.objs.size + 1) vs) v (enc b) as)
  refine PySem.W.sorted_vals hl (emp_sorts (s := { s with heap := PySem.W.sortingHeap (PySem.W.copyHeap s.heap vs) (s.heap.objs.size + 1) vs }) (PySem.W.each_map (R := fun v d => ∃ as, Reads (PySem.W.sortingHeap (PySem.W.copyHeap s.heap vs) (s.heap.objs.size + 1) vs) v d as) enc er') hd ?_) (by rw [e.length]; exact hL) (h _ (by rw [PySem.W.sortVals_length false rfl]; exact e.length) (PySem.W.sortVals_data false e er' hal))
  exact hu
end
end J
namespace J
open PySem PySem.Spec PyProof.Rows L2
def FV.enc (x : FV) : PyData := x.toD.getD .none
def sortFV (xs : List FV) : List FV := xs.mergeSort (PySem.W.dataLe false FV.enc)
def tupD : PyData → Bool
  | .tuple (_ :: _) => true
  | _ => false
def othD : PyData → Bool
  | .none => false
  | .tuple xs => xs.isEmpty
  | _ => true
def sortOk (xs : List FV) : Bool := xs.all (fun x => x.toD.isSome) && xs.all (fun x => xs.all fun y => PySem.W.alike x.enc y.enc) && (xs.all (fun x => tupD x.enc) || xs.all fun x => othD x.enc) && decide (xs.length ≤ BIG) && xs.all fun x => decide (x.enc.depth ≤ 60)
def opSorted : List OV → Option OV
  | [o] => o.lst?.bind fun xs => if sortOk xs then some (.ol (sortFV xs)) else none
  | _ => none
def SF (M : Str → Option Value) (F : Hp) (u : Value) (x : FV) : Prop := ∃ v, RelV v u ∧ FDen M F x v
theorem sf_of {M : Str → Option Value} {F : Hp} : ∀ {xs : List FV} {vs : List V} {us : List Value}, FDenL M F xs vs → Vals vs us → PySem.W.EachIs (SF M F) us xs
  | [], _, _, d, r => by
    rw [show _ = [] from d] at r
    cases r
    exact .nil
  | x :: xs, _, _, ⟨v, ws, e, d, q⟩, r => by
    rw [e] at r
    cases r with
    | cons r1 r2 => exact .cons ⟨v, r1, d⟩ (sf_of q r2)
theorem of_sf {M : Str → Option Value} {F : Hp} : ∀ {xs : List FV} {us : List Value}, PySem.W.EachIs (SF M F) us xs → ∃ vs, FDenL M F xs vs ∧ Vals vs us
  | [], _, h => by cases h; exact ⟨[], rfl, .nil⟩
  | x :: xs, _, h => by
    cases h with
    | cons h1 h2 =>
      obtain ⟨v, r, d⟩ := h1
      obtain ⟨vs, q1, q2⟩ := of_sf h2
      exact ⟨v :: vs, ⟨v, vs, rfl, d, q1⟩, .cons r q2⟩
theorem tupD_of {d : PyData} (h : tupD d = true) : ∃ x r, d = .tuple (x :: r) := by
  unfold tupD at h
  split at h
  · exact ⟨_, _, rfl⟩
  · cases h
theorem othD_of {d : PyData} (h : othD d = true) (ne : d ≠ .tuple []) : d ≠ .none ∧ ∀ xs, d ≠ .tuple xs := by
  constructor
  · rintro rfl; cases h
  · rintro xs rfl
    cases xs with
    | nil => exact ne rfl
    | cons x xs => cases h
theorem othD_emp {d : PyData} (h : othD d = true) (al : PySem.W.alike d (.tuple []) = true) : d = .tuple [] := by
  cases d with
  | tuple xs =>
    cases xs with
    | nil => rfl
    | cons x xs => cases h
  | _ => exact absurd al (by simp [PySem.W.alike])
section
variable {X : Cx}
theorem sf_reads {pins : List (Addr × Obj)} {σ : Sl} {H F : Hp} {s : Shared} (I : Inv X pins σ H s) (hf : Same F H) : ∀ {xs : List FV} {us : List Value}, xs.all (fun x => x.toD.isSome) = true → PySem.W.EachIs (SF X.mg F) us xs → PySem.W.EachIs (fun u x => ∃ as, Reads s.heap u x.enc as) us xs
  | [], _, _, h => by cases h; exact .nil
  | x :: xs, _, ha, h => by
    cases h with
    | cons h1 h2 =>
      rw [List.all_cons, Bool.and_eq_true] at ha
      obtain ⟨v, r, d⟩ := h1
      refine .cons ?_ (sf_reads I hf ha.2 h2)
      obtain ⟨dd, e⟩ := Option.isSome_iff_exists.mp ha.1
      have : x.enc = dd := by unfold FV.enc; rw [e]; rfl
      rw [this]
      exact Dp.reads I dd v _ ((d.mono hf).dp e) r
theorem sortable_of {xs : List FV} (h : (xs.all (fun x => tupD x.enc) || xs.all fun x => othD x.enc) = true) (al : xs.all (fun x => xs.all fun y => PySem.W.alike x.enc y.enc) = true) : PySem.W.Sortable (xs.map FV.enc) ∨ ∀ d ∈ xs.map FV.enc, d = .tuple [] := by
  rw [Bool.or_eq_true] at h
  rcases h with h | h
  · refine .inl (.inl fun d hd => ?_)
    obtain ⟨x, hx, rfl⟩ := List.mem_map.mp hd
    exact tupD_of (List.all_eq_true.mp h x hx)
  · by_cases e : ∃ x ∈ xs, x.enc = .tuple []
    · obtain ⟨z, hz, ez⟩ := e
      refine .inr fun d hd => ?_
      obtain ⟨x, hx, rfl⟩ := List.mem_map.mp hd
      have q := List.all_eq_true.mp (List.all_eq_true.mp al x hx) z hz
      rw [ez] at q
      exact othD_emp (List.all_eq_true.mp h x hx) q
    · refine .inl (.inr fun d hd => ?_)
      obtain ⟨x, hx, rfl⟩ := List.mem_map.mp hd
      exact othD_of (List.all_eq_true.mp h x hx) fun q => e ⟨x, hx, q⟩
theorem alike_of {xs : List FV} (h : xs.all (fun x => xs.all fun y => PySem.W.alike x.enc y.enc) = true) : PySem.W.AllAlike (xs.map FV.enc) := by
  intro d hd d' hd'
  obtain ⟨x, hx, rfl⟩ := List.mem_map.mp hd
  obtain ⟨y, hy, rfl⟩ := List.mem_map.mp hd'
  exact List.all_eq_true.mp (List.all_eq_true.mp h x hx) y hy
theorem cj_sorted (hu : X.A.units + 62 < cLine) : CallR X (.builtin "sorted") (rJn X.mg opSorted) := by
  rintro pins s σ H us vs Q I rs ⟨F, os, o, hf, ps, e, k⟩
  unfold opSorted at e
  split at e
  · rename_i q
    obtain ⟨xs, e1, e2⟩ := Option.bind_eq_some_iff.mp e
    split at e2
    · rename_i hs
      cases e2
      obtain ⟨u, rfl, b⟩ := paired1 ps
      obtain ⟨a, ws, rfl, hq, d⟩ := b.lst hf e1
      rw [Vals.ref1 rs]
      obtain ⟨its, rv, hl, hz⟩ := I.list (SqL.of (K := X.K) hq)
      unfold sortOk at hs
      simp only [Bool.and_eq_true] at hs
      obtain ⟨⟨⟨⟨h1, h2⟩, h3⟩, h4⟩, h5⟩ := hs
      have es := sf_of d rv
      rcases sortable_of h3 h2 with h6 | h6
      · refine PySem.W.sorted_data (enc := FV.enc) (bs := xs) hl.isList es (sf_reads I hf h1 es) (alike_of h2) h6 (by rw [big_eq]; exact of_decide_eq_true h4) (fun b hb => ?_) fun out ho eo => ?_
        · have := of_decide_eq_true (List.all_eq_true.mp h5 b hb)
          omega
        · obtain ⟨ys, q1, q2⟩ := of_sf eo
          obtain ⟨ep, he'⟩ := PyProof.Rows.sortedAll_at s.heap its out.toArray
          have hlen : ys.length ≤ sizeLine := by
            rw [q1.length, List.length_mergeSort, big_eq]
            exact of_decide_eq_true h4
          exact ⟨.ref _, upd H (s.heap.objs.size + 1) (.lst ys), I.laid (t' := s.toks) (fun _ _ => PyProof.Rows.sortedAll_old) (Nat.le_succ _) ⟨hlen, out, ep, q2, he'⟩, rfl, k _ _ (New.lst hf (I.hok.fresh (Nat.le_succ _)) q1)⟩
      · refine emp_sorted (enc := FV.enc) (bs := xs) hl.isList es (sf_reads I hf h1 es) h6 (by rw [big_eq]; exact of_decide_eq_true h4) (by omega) fun out ho eo => ?_
        obtain ⟨ys, q1, q2⟩ := of_sf eo
        obtain ⟨ep, he'⟩ := PyProof.Rows.sortedAll_at s.heap its out.toArray
        have hlen : ys.length ≤ sizeLine := by
          rw [q1.length, List.length_mergeSort, big_eq]
          exact of_decide_eq_true h4
        exact ⟨.ref _, upd H (s.heap.objs.size + 1) (.lst ys), I.laid (t' := s.toks) (fun _ _ => PyProof.Rows.sortedAll_old) (Nat.le_succ _) ⟨hlen, out, ep, q2, he'⟩, rfl, k _ _ (New.lst hf (I.hok.fresh (Nat.le_succ _)) q1)⟩
    · cases e2
  · cases e
end
end J
namespace J
open PySem PySem.Spec PyProof.Rows L2
section
variable {X : Cx} {e : Expr} {te : TE} {p apos cpos pos : Pos}
theorem FDenK.keys {M : Str → Option Value} {F : Hp} : ∀ {kvs : List (Key × FV)} {ws : List (Key × V)}, FDenK M F kvs ws → ws.map (·.1) = kvs.map (·.1)
  | [], _, h => by rw [show _ = [] from h]; rfl
  | (k, x) :: r, _, ⟨v, rs, e, _, q⟩ => by rw [e, List.map_cons, List.map_cons, q.keys]
theorem Bor.dK {M : Str → Option Value} {F H : Hp} {o : OV} {u : V} {kvs : List (Key × FV)} (hf : Same F H) (b : Bor M F H o u) (e : o = .oK kvs ∨ o = .fz (.dK kvs)) : ∃ d ws, u = .ref d ∧ H d = some (.dK ws) ∧ ws.map (·.1) = kvs.map (·.1) := by
  rcases e with rfl | rfl
  · obtain ⟨A, ⟨a, ws, e, d, q⟩, c⟩ := b
    exact ⟨a, ws, e, c (a, .dK ws) (by rw [q]; exact List.mem_singleton.mpr rfl), d.keys⟩
  · obtain ⟨A, ⟨⟨a, ws, e, q, d⟩, _⟩, c⟩ := b
    exact ⟨a, ws, e, hf _ _ q, d.keys⟩
end
end J
namespace J
open PySem PySem.Spec PyProof.Rows L2
def FV.ty? : FV → Option String
  | .non => some "NoneType"
  | .bl _ => some "bool"
  | .int _ => some "int"
  | .str _ => some "str"
  | .tup _ => some "tuple"
  | .tuz _ => some "tuple"
  | .lst _ => some "list"
  | .dK _ => some "dict"
  | .dT _ => some "dict"
  | .scr _ => some "list"
  | _ => none
def OV.ty? : OV → Option String
  | .fz x => x.ty?
  | .ol _ => some "list"
  | .dl _ => some "list"
  | .oK _ => some "dict"
  | .oT _ => some "dict"
  | .dd _ => some "dict"
  | .tp _ => some "tuple"
  | _ => none
def isaT (a T : String) : Bool := a == T || (a == "bool" && T == "int")
def tyNs : List String := ["NoneType", "bool", "int", "str", "tuple", "list", "dict"]
theorem kit_isa : ∀ a ∈ tyNs, ∀ T ∈ tyNs, kitB a T = some (isaT a T) := by decide +kernel
theorem ty_ns {o : OV} {a : String} (h : o.ty? = some a) : a ∈ tyNs := by
  unfold tyNs
  cases o with
  | fz x => cases x <;> simp [OV.ty?, FV.ty?] at h <;> subst h <;> simp
  | _ => simp [OV.ty?] at h <;> subst h <;> simp
theorem Bor.tyX {M : Str → Option Value} {K : PySem.W.Frag} {F H : Hp} {o : OV} {u : V} {a : String} (hf : Same F H) (b : Bor M F H o u) (h : o.ty? = some a) : TyX K H u (.type a) := by
  have d := b.fden hf
  cases o with
  | fz x =>
    cases x with
    | non => cases h; rw [show u = .non from d]; exact .base .non
    | bl c => cases h; rw [show u = .bl c from d]; exact .base (.bl c)
    | int i => cases h; rw [show u = .int i from d]; exact .base (.int i)
    | str x => cases h; rw [show u = .str x from d]; exact .base (.str x)
    | tup xs => cases h; obtain ⟨a, vs, e, q, _⟩ := d; rw [e]; exact .base (.tup q)
    | tuz xs => cases h; obtain ⟨a, vs, o, e, q, _⟩ := d; rw [e]; exact .fTuple q
    | lst xs => cases h; obtain ⟨a, vs, e, q, _⟩ := d; rw [e]; exact .base (.lst q)
    | dK xs => cases h; obtain ⟨a, vs, e, q, _⟩ := d; rw [e]; exact .base (.dK q)
    | dT xs => cases h; obtain ⟨a, vs, e, q, _⟩ := d; rw [e]; exact .base (.dT q)
    | scr xs =>
      cases h
      obtain ⟨a, e, q⟩ := d
      rw [e]
      rcases q with q | ⟨o, q⟩
      · exact .base (.lst q)
      · exact .base (.frz q)
    | ins c fs => cases h
    | exc c => cases h
    | dN ks => cases h
  | ol xs => cases h; obtain ⟨a, vs, e, q, _⟩ := d; rw [e]; exact .base (.lst q)
  | oK xs => cases h; obtain ⟨a, vs, e, q, _⟩ := d; rw [e]; exact .base (.dK q)
  | oT xs => cases h; obtain ⟨a, vs, e, q, _⟩ := d; rw [e]; exact .base (.dT q)
  | dl xs => cases h; obtain ⟨a, vs, e, q, _⟩ := d; rw [e]; exact .base (.lst q)
  | dd xs => cases h; obtain ⟨a, vs, e, q, _⟩ := d; rw [e]; exact .base (.dK q)
  | tp xs => cases h; obtain ⟨a, vs, e, q, _⟩ := d; rw [e]; exact .base (.tup q)
  | ob c fs => cases h
  | oN ks => cases h
def opIsa (Ts : List String) : OV → Option OV := fun o => o.ty?.map fun a => .fz (.bl (Ts.any fun T => isaT a T))
section
variable {X : Cx} {W : WX} {e : Expr} {f : DE} {p p2 p3 p4 pos : Pos} {t t2 : Str} {T T2 : String}
theorem je_isa (he : JE X W e f) (hm : X.mg "isinstance" = none) (hmt : X.mg t = none) (hT : T ∈ tyNs := by decide) (hv : bootBuiltins t = some (.type T) := by rfl) (hg : Gl X "isinstance" := by rfl) (hgt : Gl X t := by rfl) (hn : t ≠ "__name__" := by decide) (hd : (t == ("__debug__" : Str)) = false := by decide)
    (hs : starEach [e, .Name t p2] X.env = (false, eval e X.env) :: starEach [.Name t p2] X.env := by rfl) (hs2 : starEach [.Name t p2] X.env = (false, eval (.Name t p2) X.env) :: starEach [] X.env := by rfl) (hpl : (backTo pos (starEach [.Name t p2] X.env)).any (·.1) = false := by rfl) (hbi : bootBuiltins "isinstance" = some (.builtin "isinstance") := by rfl) :
    JE X W (.Call (.Name "isinstance" p) [e, .Name t p2] [] pos) (dUn (opIsa [T]) f) := by
  refine PE.imp (pe_callB (call_isi (X := X)) hg hm hbi (pa_cons he (pa_cons (pe_bltn (v := .ty T) hgt hmt hv rfl hn hd) pa_nil hs2) hs) (by decide) (by decide) hs hpl) fun σ H Q ⟨G, Z, env, T2, r, q⟩ => ?_
  refine tE.bind r Sb.refl q fun x u H1 _ s1 ⟨F, C1, C2, r1⟩ p1 => ?_
  obtain ⟨o, eo, k⟩ := r1.fin Sb.refl.cons p1
  obtain ⟨a, ea, eo⟩ := Option.map_eq_some_iff.mp eo
  subst eo
  have b : Bor X.mg F H1 x.ov u := r1.bor List.mem_cons_self
  exact ⟨u, .ty T, .type a, .type T, isaT a T, rfl, .ty T, b.tyX r1.fh ea, kit_ty (kit_isa a (ty_ns ea) T hT), by
    have e : ([T].any fun T => isaT a T) = isaT a T := by simp
    rw [e] at k
    exact k _ _ (New.bl r1.fh)⟩
end
def rM (M : Str → Option Value) (op : OV → List OV → Option OV) : V → List V → Hp → VK → Prop := fun u us H Q => ∃ F x os o, Same F H ∧ Bor M F H x u ∧ Paired (fun x u => Bor M F H x u) os us ∧ op x os = some o ∧ ∀ v H', New M F H H' o v → Q v H'
def dMeth (ok : OV → Bool) (op : OV → List OV → Option OV) (f : DE) (g : VEnv → Ans (List Rv)) : DE := fun env => (f env).bind fun r => if ok r.ov then (g env).bind fun rs => (Ans.of (op r.ov (rs.map Rv.ov))).map .st else .no
def okStr : OV → Bool
  | .fz (.str _) => true
  | _ => false
theorem okStr_ty {M : Str → Option Value} {K : PySem.W.Frag} {F H : Hp} {o : OV} {u : V} (hf : Same F H) (b : Bor M F H o u) (h : okStr o = true) : tyV K "str" u H := by
  unfold okStr at h
  split at h
  · rw [b.str]; exact rfl
  · cases h
section
variable {X : Cx} {W : WX} {o e : Expr} {es : List Expr} {f : DE} {g : VEnv → Ans (List Rv)} {name : Str} {apos cpos : Pos} {T id : String} {ok : OV → Bool} {op : OV → List OV → Option OV}
theorem je_meth (pa : PlainAttrs T) (slot : Slot T name id) (hty : typeOf (.builtin id) = pure (.type "method_descriptor")) (hm : MtR X id (rM X.mg op)) (ht : ∀ {F H : Hp} {o : OV} {u : V}, Same F H → Bor X.mg F H o u → ok o = true → tyV X.K T u H) (ho : JE X W o f) (ha : JA X W (e :: es) g)
    (hbase : attributeBase o name X.env (eval o X.env) = eval o X.env := by rfl)
    (hfew : ((backTo cpos (starEach (e :: es) X.env)).all (fun x => !x.1) && (backToKw cpos (keywordEach [] X.env)).all (fun x => x.1.isSome)
      && decide ((e :: es).length + ([] : List Keyword).length + (if ([] : List Keyword).isEmpty then 0 else 1) < 30)) = true := by rfl)
    (hline : (apos.endLine == cpos.line) = true := by rfl) (hs : starEach (e :: es) X.env = (false, eval e X.env) :: starEach es X.env := by rfl) (hplain : (backTo cpos (starEach es X.env)).any (·.1) = false := by rfl) :
    JE X W (.Call (.Attribute o name apos) (e :: es) [] cpos) (dMeth ok op f g) := by
  refine PE.imp (pe_bm pa slot hty hm ho ha hbase hfew hline hs hplain) fun σ H Q ⟨G, Z, env, T, r, p⟩ => ?_
  refine tE.bind r Sb.refl p fun rv v H1 _ s1 r1 p1 => ?_
  split at p1
  · rename_i hk
    obtain ⟨F, C1, C2, r1⟩ := r1
    refine ⟨ht r1.fh (r1.bor (List.mem_cons_self (a := (v, rv)))) hk, ?_⟩
    refine tA.bind r1.r Sb.refl.cons p1 fun rs vs H2 _ hl s2 ⟨F2, D1, D2, r2⟩ p2 => ?_
    obtain ⟨o, e, k⟩ := r2.fin (T := T) (Sb.trans (Sb.refl.cons) ⟨vs.zip rs, List.perm_append_comm⟩) p2
    exact ⟨F2, rv.ov, rs.map Rv.ov, o, r2.fh, r2.bor (p := (v, rv)) (List.mem_append_right _ List.mem_cons_self), zip_bor hl fun p hp => r2.bor (List.mem_append_left _ hp), e, k⟩
  · exact p1.elim
end
def opJoin : OV → List OV → Option OV
  | .fz (.str a), [o] => o.seq?.bind fun xs => (strs? xs).bind fun ys => if (ys.map (·.length)).sum + ys.length * a.length ≤ BIG then some (.fz (.str (Txt.join a ys))) else none
  | _, _ => none
theorem mj_join {X : Cx} : MtR X "str.join" (rM X.mg opJoin) := by
  rintro pins s σ H x xs v us Q I rx rs ⟨F, o, os, res, hf, bx, ps, e, k⟩
  unfold opJoin at e
  split at e
  · rename_i a q
    obtain ⟨zs, e1, e⟩ := Option.bind_eq_some_iff.mp e
    obtain ⟨ys, e2, e⟩ := Option.bind_eq_some_iff.mp e
    split at e
    · rename_i hz
      cases e
      obtain ⟨u, rfl, b⟩ := paired1 ps
      obtain ⟨p, vs, rfl, hq, d⟩ := b.seq (K := X.K) hf e1
      exact mt_join pins s σ H x _ v us Q I rx rs ⟨a, p, ys, bx.str, rfl, (by rw [← d.strs? e2]; exact hq), hz, k _ _ (New.str hf)⟩
    · cases e
  · cases e
end J
namespace J
open PySem PySem.Spec PyProof.Rows L2
structure Cal (P : Program) (w : World) (K : PySem.W.Frag) (mg : Str → Option Value) (base : Heap) (k : Nat) (name : Str) (n : Nat) (m : FM) : Prop where
  ex : ∃ f fd ps, FnOk P w K mg base (L2.CX P w) k f fd ps (spF mg n m) ∧ mg name = some (.ref f) ∧ PySem.W.keepIn K (.ref f) = true ∧ Binds K fd ps []
section
variable {X : Cx} {W : WX} {pos p : Pos} {x : Str} {e : Expr} {es : List Expr} {g : VEnv → Ans (List Rv)} {m : FM} {k kk : Nat} {n : Nat}
theorem je_cal (tk : Takes X W) (C : Cal X.prog X.w X.K X.mg X.base k x n m) (hr : Room kk X.A) (ha : JA X W (e :: es) g) (hk : k ≤ kk := by decide)
    (hl : (e :: es).length = n := by rfl) (hgl : DL g (e :: es).length := by repeat (first | exact dl_nil | refine dl_cons ?_)) (hg : Gl X x := by rfl) (hdb : (x == ("__debug__" : Str)) = false := by decide)
    (he : starEach (e :: es) X.env = (false, eval e X.env) :: starEach es X.env := by rfl) (hpl : (backTo pos (starEach es X.env)).any (·.1) = false := by rfl) : JE X W (.Call (.Name x p) (e :: es) [] pos) (dCall m g) := by
  obtain ⟨f, fd, ps, F, h1, h2, h3⟩ := C.ex
  exact je_call tk F (hr.mono hk) h1 h2 h3 ha hl hgl hg hdb he hpl
end
def spLaw (K : PySem.W.Frag) : Sp := fun vs H Q _ => ∃ (a : Addr) (ns : List Int), vs = [.ref a] ∧ SqL K H a (ns.map V.int) ∧ ns.length ≤ 63 ∧ ∀ H', Q (.bl true) H'
def law0 (n : Nat) (cells : List Int) : VEnv := none :: some (.ol (cells.map .int)) :: List.replicate (n - 2) none
theorem law_r {M : Str → Option Value} {H H1 : Hp} {a p : Addr} {cells : List Int} {σ : Sl} (hs : Same H H1) (hp : H p = none) (h1 : H1 p = some (.lst (cells.map V.int))) : R M (fun _ => none) H H1 (some (.ref a) :: some (.ref p) :: List.replicate n none) (none :: some (.ol (cells.map .int)) :: List.replicate n none) [] := by
  refine ⟨fun _ => none, [(p, .lst (cells.map V.int))], [], Same.refl _, (fun _ _ e => nomatch (show (none : Option HO) = some _ from e)), (fun _ _ e => nomatch (show (none : Option HO) = some _ from e)), hs, .skip (.cons (A := [(p, .lst (cells.map V.int))]) (B := []) ⟨p, _, rfl, FDenL_ints cells, rfl⟩ ?_), .nil, ?_⟩
  · have := env_none (M := M) (F := fun _ => none) (List.replicate n none)
    rw [List.length_replicate] at this
    exact this
  · refine ⟨by simp, fun q hq => ?_, fun q hq => rfl, fun q hq => ?_⟩
    · rw [List.append_nil, List.mem_singleton] at hq; subst hq; exact h1
    · rw [List.append_nil, List.mem_singleton] at hq; subst hq; exact hp
theorem cut_take (ns : List Int) (c : Nat) : cutV (ns.map V.int) none (some (c : Int)) = (ns.take c).map V.int := by
  unfold cutV
  rw [HT.sIx_none, HT.sIx_nat, List.drop_zero, List.map_take, List.length_map, Nat.sub_zero]
  by_cases h : c ≤ ns.length
  · rw [Nat.min_eq_left h]
  · rw [Nat.min_eq_right (by omega), List.take_of_length_le (by rw [List.length_map]; exact Nat.le_refl _), List.take_of_length_le (by rw [List.length_map]; omega)]
section
variable {X : Cx} {W : WX} {c s : Str} {p1 p2 p3 p4 p5 p6 p7 p8 p9 : Pos} {j j2 : Nat} {n : Nat} {rest : List Stmt} {f : DS} {N : List Str}
theorem law_body (hN : X.N = N) (h2 : 2 ≤ N.length) (hb : JSs X W rest f) {te : TE} {e : Expr} (he : PE X e te) (hset : PS X (.Assign [.Name c p1] e p6) (tAsg te (gName 1))) {cells : List Int}
    (hrt : ∃ env, f (law0 N.length cells) = .ok (.rt (.fz (.bl true)) env)) {H : Hp} {a : Addr} {Q : VK} (hQ : ∀ H', Q (.bl true) H')
    (hte : ∀ (Q : VK), (∀ p H1, Same H H1 → H p = none → H1 p = some (.lst (cells.map V.int)) → Q (.ref p) H1) → te (L2.start N [.ref a]) H Q) :
    ∃ t, PSs X (.Assign [.Name c p1] e p6 :: rest) t ∧ t { nx := fun _ H' => Q .non H', rt := Q } (L2.start N [.ref a]) H := by
  refine ⟨_, pss_cons hset hb, ?_⟩
  refine hte _ fun p H1 hs hp h1 => ?_
  obtain ⟨env, er⟩ := hrt
  have es : (L2.start N [.ref a]).set 1 (some (V.ref p)) = some (.ref a) :: some (.ref p) :: List.replicate (N.length - 2) none := by
    unfold L2.start
    obtain ⟨m, hm⟩ : ∃ m, N.length = m + 2 := ⟨N.length - 2, by omega⟩
    rw [hm]
    rfl
  show sJ X.mg W f _ ((L2.start N [.ref a]).set 1 (some (V.ref p))) H1
  rw [es]
  refine ⟨fun _ => none, H, law0 N.length cells, [], (fun _ h => nomatch h), law_r (σ := []) hs hp h1, ?_⟩
  rw [er]
  intro v σ' H' ⟨F, C1, C2, r⟩
  have hb : Bor X.mg F H' (.fz (.bl true)) v := r.bor (p := (v, .st (.fz (.bl true)))) List.mem_cons_self
  have hv : v = .bl true := hb.fden r.fh
  rw [hv]
  exact hQ H'
theorem law_slice {a : Addr} {ns : List Int} {H : Hp} {cc : Nat} (hS : SqL X.K H a (ns.map V.int)) (Q : VK) (h : ∀ p H1, Same H H1 → H p = none → H1 p = some (.lst ((ns.take cc).map V.int)) → Q (.ref p) H1) (h2 : N ≠ []) :
    tSl (rSlL X.K) (tVar 0) tNoPart (tPart (tC (.int (cc : Int)))) (L2.start N [.ref a]) H Q := by
  refine ⟨.ref a, ?_, _, rfl, a, _, rfl, hS, fun p hp => ?_⟩
  · rfl
  · rw [cut_take]
    exact h p _ (same_upd hp) hp upd_same
theorem law_sliceP {a : Addr} {ns : List Int} {H : Hp} {cc : Nat} (hS : SqL X.K H a (ns.map V.int)) (Q : VK) (h : ∀ p H1, Same H H1 → H p = none → H1 p = some (.lst ((ns.take cc ++ [0]).map V.int)) → Q (.ref p) H1) (hl : ns.length ≤ 63) (h2 : N ≠ [] := by decide) :
    tOp rCat (tSl (rSlL X.K) (tVar 0) tNoPart (tPart (tC (.int (cc : Int))))) (tLst (tCons (tC (.int 0)) tNil)) (L2.start N [.ref a]) H Q := by
  refine law_slice hS _ (fun p H1 hs hp h1 => ?_) h2
  refine ⟨by rw [sizeLine_eq]; decide, fun b hb => ⟨p, b, _, _, rfl, rfl, same_upd hb _ _ h1, upd_same, ?_, fun q hq => ?_⟩⟩
  · rw [List.length_map, List.length_take, sizeLine_eq]
    simp
    omega
  · have q1 : H1 q = none := none_of_same (same_upd hb) hq
    refine h q _ ((hs.trans (same_upd hb)).trans (same_upd hq)) (none_of_same hs q1) ?_
    rw [upd_same, List.map_append]
    rfl
end
theorem boot_len : bootBuiltins "len" = some (.builtin "len") :=
  PySem.boot_len
theorem boot_list : bootBuiltins "list" = some (.type "list") :=
  PyProof.Rows.boot_list
theorem boot_tuple : bootBuiltins "tuple" = some (.type "tuple") :=
  PyProof.Rows.boot_tuple
theorem boot_str : bootBuiltins "str" = some (.type "str") :=
  PyProof.Rows.boot_str
theorem boot_int : bootBuiltins "int" = some (.type "int") :=
  PyProof.Rows.boot_int
theorem boot_sorted : bootBuiltins "sorted" = some (.builtin "sorted") :=
  PyProof.Rows.boot_sorted
theorem boot_bool : bootBuiltins "bool" = some (.type "bool") :=
  PyProof.Rows.boot_bool
theorem u1 {k : Nat} {A : Around} (hr : Room k A) : A.units + 1 < cLine := by have := hr.un; omega
theorem u62 {k : Nat} {A : Around} (hr : Room k A) : A.units + 62 < cLine := by have := hr.un; omega
theorem u64 {k : Nat} {A : Around} (hr : Room k A) : A.units + 64 < cLine := by have := hr.un; omega
theorem u65 {k : Nat} {A : Around} (hr : Room k A) : A.units + 65 < cLine := by have := hr.un; omega
end J
set_option maxHeartbeats 4000000
namespace J
open PySem PySem.Spec PyProof.Rows L2
section
variable {P : Program} {w : World} {A : Around} {E : Value → Shared → Prop} {s : Shared}
end
section
variable {X : Cx}
variable {W : WX} {f : DE} {e : Expr} {p p2 pos pos2 : Pos}
end
end J
set_option maxHeartbeats 4000000
namespace J
open PySem PySem.Spec PyProof.Rows L2
def rowF (r : List Int) : FV := .tup (r.map .int)
theorem rle_total (a b : List Int) : a ≤ b ∨ b ≤ a := List.le_total a b
theorem rle_trans {a b c : List Int} (h : a ≤ b) (h2 : b ≤ c) : a ≤ c := List.le_trans h h2
theorem rlt_irrefl (a : List Int) : ¬ a < a := List.lt_irrefl a
theorem rlt_trans {a b c : List Int} (h : a < b) (h2 : b < c) : a < c := List.lt_trans h h2
theorem rlt_of_le {a b : List Int} (h : a ≤ b) (n : a ≠ b) : a < b := by
  rcases List.le_iff_lt_or_eq.mp h with h | h
  · exact h
  · exact absurd h n
theorem toDL_ints : ∀ r : List Int, FV.toDL (r.map .int) = some (r.map PyData.int)
  | [] => rfl
  | n :: r => by rw [List.map_cons, FV.toDL, toDL_ints r]; rfl
theorem enc_row (r : List Int) : (rowF r).enc = .tuple (r.map .int) := by
  show ((FV.toDL (r.map .int)).map PyData.tuple).getD .none = _
  rw [toDL_ints]
  rfl
theorem toD_row (r : List Int) : (rowF r).toD = some (.tuple (r.map .int)) := by
  show (FV.toDL (r.map .int)).map PyData.tuple = _
  rw [toDL_ints]
  rfl
theorem le_row (a b : List Int) : PySem.W.dataLe false FV.enc (rowF a) (rowF b) = decide (a ≤ b) := by
  have h := congrFun (congrFun (PySem.W.dataLe_rows (x := fun r : List Int => r)) a) b
  rw [← h]
  rw [PySem.W.dataLe_eq, PySem.W.dataLe_eq]
  show (!PySem.W.dataLt (rowF b).enc (rowF a).enc) = (!PySem.W.dataLt (.list (b.map .int)) (.list (a.map .int)))
  rw [enc_row, enc_row, PySem.W.dataLt_list, PySem.W.dataLt_tuple]
theorem alike_row (a b : List Int) : PySem.W.alike (rowF a).enc (rowF b).enc = true := by
  rw [enc_row, enc_row, PySem.W.alike]
  exact PySem.W.alike_ints a b
theorem strictR {l : List (List Int)} (h : l.Pairwise (· ≤ ·)) (n : l.Nodup) : l.Pairwise (· < ·) := (h.and n).imp fun {a b} ⟨h1, h2⟩ => rlt_of_le h1 h2
theorem strict_ext {α : Type} {lt : α → α → Prop} (irr : ∀ a, ¬ lt a a) (tr : ∀ a b c, lt a b → lt b c → lt a c) : ∀ {a b : List α}, a.Pairwise lt → b.Pairwise lt → (∀ x, x ∈ a ↔ x ∈ b) → a = b
  | [], [], _, _, _ => rfl
  | [], y :: b, _, _, h => absurd ((h y).mpr List.mem_cons_self) (by simp)
  | x :: a, [], _, _, h => absurd ((h x).mp List.mem_cons_self) (by simp)
  | x :: a, y :: b, ha, hb, h => by
    rw [List.pairwise_cons] at ha hb
    have e : x = y := by
      rcases List.mem_cons.mp ((h x).mp List.mem_cons_self) with e | h1
      · exact e
      · rcases List.mem_cons.mp ((h y).mpr List.mem_cons_self) with e | h2
        · exact e.symm
        · exact absurd (tr _ _ _ (ha.1 y h2) (hb.1 x h1)) (irr x)
    subst e
    rw [strict_ext irr tr ha.2 hb.2 fun z => ?_]
    constructor
    · intro hz
      rcases List.mem_cons.mp ((h z).mp (List.mem_cons_of_mem _ hz)) with e | h1
      · exact absurd (e ▸ ha.1 z hz) (irr _)
      · exact h1
    · intro hz
      rcases List.mem_cons.mp ((h z).mpr (List.mem_cons_of_mem _ hz)) with e | h1
      · exact absurd (e ▸ hb.1 z hz) (irr _)
      · exact h1
theorem strictR_ext {a b : List (List Int)} (ha : a.Pairwise (· < ·)) (hb : b.Pairwise (· < ·)) (h : ∀ x, x ∈ a ↔ x ∈ b) : a = b := strict_ext rlt_irrefl (fun a b c => rlt_trans) ha hb h
section
variable {X : Cx}
end
section
variable {X : Cx} {W : WX} {f : DE} {e : Expr} {p p2 pos pos2 : Pos}
end
end J
namespace J
open PySem PySem.Spec PyProof.Rows L2
section
variable {X : Cx} {W : WX} {pos pos' : Pos} {e tg : Expr} {st : Stmt} {rest a b body : List Stmt} {f g fb : DS} {fe : DE} {c : Expr} {fc : DT} {t : TgF} {vs : List Nat}
end
end J
namespace J
open PySem PySem.Spec PyProof.Rows L2
section
variable {M : Str → Option Value} {G Z H F : Hp} {o p p' q q' : OV} {v y : V} {i : Nat} {L B : Cells} {a : Addr} {ho ho' : HO}
end
section
variable {X : Cx} {W : WX} {pos pos' apos spos cpos : Pos} {e k : Expr} {f fk fe : DE} {x : Str}
end
end J
namespace J
open PySem PySem.Spec PyProof.Rows L2
section
variable {X : Cx} {W : WX} {pos pos' apos spos cpos : Pos} {e k : Expr} {f fk fe : DE} {x : Str}
end
end J
namespace J
open PySem PySem.Spec PyProof.Rows L2
end J
namespace J
open PySem PySem.Spec PyProof.Rows L2
section
variable {X : Cx} {W : WX} {o e : Expr} {es : List Expr} {to : TE} {t : TA} {f : DE} {g : VEnv → Ans (List Rv)} {name : Str} {apos cpos : Pos} {id : String} {r : V → List V → Hp → VK → Prop}
end
end J
set_option maxHeartbeats 4000000
namespace J
open PySem PySem.Spec PyProof.Rows L2
structure Hold (G Z G' Z' : Hp) (C : Cells) : Prop where
  gg : Same G G'
  gn : ∀ a o, G' a = some o → G a = some o ∨ Z a = none
  zin : ∀ q ∈ C, Z' q.1 = some q.2
  zout : ∀ a, (∀ q ∈ C, q.1 ≠ a) → Z' a = Z a
  nd : (C.map (·.1)).Nodup
  gc : ∀ q ∈ C, G' q.1 = none
  zc : ∀ q ∈ C, Z q.1 = none
section
variable {M : Str → Option Value} {G Z G' Z' H F : Hp} {C A Lr : Cells} {σ : Sl} {env : VEnv} {T : List (V × Rv)} {L1 L2 : Cells} {o : OV} {v : V} {i j : Nat}
theorem Hold.start (G Z : Hp) : Hold G Z G Z [] := ⟨Same.refl _, fun _ _ e => .inl e, nofun, fun _ _ => rfl, List.nodup_nil, nofun, nofun⟩
theorem Hold.zz (h : Hold G Z G' Z' C) : Same Z Z' := fun a o e => by
  rw [h.zout a fun q hq z => by
    have := h.zc q hq
    rw [z, e] at this
    cases this]
  exact e
theorem Hold.perm {C' : Cells} (h : Hold G Z G' Z' C) (p : C.Perm C') : Hold G Z G' Z' C' :=
  ⟨h.gg, h.gn, fun q hq => h.zin q (p.mem_iff.mpr hq), fun a ha => h.zout a fun q hq => ha q (p.mem_iff.mp hq), (p.map _).nodup_iff.mp h.nd, fun q hq => h.gc q (p.mem_iff.mpr hq), fun q hq => h.zc q (p.mem_iff.mpr hq)⟩
theorem Hold.znone (h : Hold G Z G' Z' C) {a : Addr} (e : Z' a = none) : Z a = none := by
  cases q : Z a with
  | none => rfl
  | some o =>
    rw [h.zz a o q] at e
    cases e
theorem Hold.take (h : Hold G Z G' Z' C) (r : R M G' Z' H σ env T) (e : env[i]? = some (some o)) :
    ∃ F Z2 A, Own M F o ((σ[i]?.bind id).getD .non) A ∧ (∃ w, σ[i]? = some (some w)) ∧ Same G' F ∧ Hold G Z F Z2 (A ++ C) ∧ R M F Z2 H σ (env.set i none) T := by
  obtain ⟨F, L1, L2, r⟩ := r
  obtain ⟨v, A, Lr, s1, own, pm, _, k⟩ := r.ev.repl e
  have g := r.gd.perm ((pm.append_right L2).trans (by rw [List.append_assoc]) : (L1 ++ L2).Perm (A ++ (Lr ++ L2)))
  have ga := g.left
  have nd := g.nd
  rw [List.map_append, List.nodup_append] at nd
  have fc : ∀ q ∈ C, F q.1 = none := fun q hq => by
    cases e : F q.1 with
    | none => rfl
    | some u =>
      rcases r.fg _ u e with e1 | e1
      · rw [h.gc q hq] at e1
        cases e1
      · rw [h.zin q hq] at e1
        cases e1
  have ap : ∀ p ∈ A, ∀ q ∈ C, p.1 ≠ q.1 := fun p hp q hq e => by
    have e1 := h.zin q hq
    rw [← e, ga.zr p hp] at e1
    cases e1
  have hσ : σ.set i (some v) = σ := by
    apply List.ext_getElem?
    intro k
    by_cases hk : i = k
    · subst hk
      rw [List.getElem?_set_self (List.getElem?_eq_some_iff.mp s1).1, s1]
    · rw [List.getElem?_set_ne hk]
  have ev := k (some v)
  rw [hσ] at ev
  refine ⟨F, updL Z' A, A, by rw [s1]; exact own, ⟨v, s1⟩, r.gf, ⟨h.gg.trans r.gf, fun a u e => ?_, fun q hq => ?_, fun a ha => ?_, ?_, fun q hq => ?_, fun q hq => ?_⟩, F, Lr, L2, Same.refl _, fun a u e => .inl e, r.fh, fun a u e => ?_, ev, r.tm, ⟨g.right.nd, g.right.hp, g.right.fr, fun q hq => ?_⟩⟩
  · rcases r.fg a u e with e1 | e1
    · exact h.gn a u e1
    · exact .inr (h.znone e1)
  · rcases List.mem_append.mp hq with hq | hq
    · exact updL_in ga.nd q hq
    · rw [updL_out fun p hp => ap p hp q hq]
      exact h.zin q hq
  · rw [updL_out fun p hp => ha p (List.mem_append_left _ hp)]
    exact h.zout a fun q hq => ha q (List.mem_append_right _ hq)
  · rw [List.map_append, List.nodup_append]
    refine ⟨ga.nd, h.nd, fun a ha b hb e => ?_⟩
    obtain ⟨p, hp, rfl⟩ := List.mem_map.mp ha
    obtain ⟨q, hq, rfl⟩ := List.mem_map.mp hb
    exact ap p hp q hq e
  · exact (List.mem_append.mp hq).elim (ga.fr q) (fc q)
  · exact (List.mem_append.mp hq).elim (fun hq => h.znone (ga.zr q hq)) (h.zc q)
  · rcases updL_cases e with e1 | e1
    · exact r.zh a u e1
    · exact ga.hp _ e1
  · rw [updL_out fun p hp e => nd.2.2 p.1 (List.mem_map_of_mem hp) q.1 (List.mem_map_of_mem hq) e]
    exact g.right.zr q hq
theorem Hold.write {t : Addr} {ho ho' : HO} {B : Cells} (h : Hold G Z G' Z' ((t, ho) :: B)) (r : R M G' Z' H σ env T) (hT : AllSt T) : Hold G Z G' (upd Z' t ho') ((t, ho') :: B) ∧ R M G' (upd Z' t ho') (upd H t ho') σ env T := by
  have nd := h.nd
  rw [List.map_cons, List.nodup_cons] at nd
  have nb : ∀ q ∈ B, q.1 ≠ t := fun q hq e => nd.1 (List.mem_map.mpr ⟨q, hq, e⟩)
  have zt := h.zin _ List.mem_cons_self
  have gt := h.gc _ List.mem_cons_self
  refine ⟨⟨h.gg, h.gn, fun q hq => ?_, fun a ha => ?_, h.nd, fun q hq => ?_, fun q hq => ?_⟩, ?_⟩
  · rcases List.mem_cons.mp hq with rfl | hq
    · exact upd_same
    · rw [upd_ne (nb q hq)]
      exact h.zin q (List.mem_cons_of_mem _ hq)
  · have ne : t ≠ a := ha (t, ho') List.mem_cons_self
    rw [upd_ne ne.symm]
    exact h.zout a fun q hq => (List.mem_cons.mp hq).elim (fun e => by rw [e]; exact ne) fun hq => ha q (List.mem_cons_of_mem _ hq)
  · rcases List.mem_cons.mp hq with rfl | hq
    · exact gt
    · exact h.gc q (List.mem_cons_of_mem _ hq)
  · rcases List.mem_cons.mp hq with rfl | hq
    · exact h.zc (t, ho) List.mem_cons_self
    · exact h.zc q (List.mem_cons_of_mem _ hq)
  · obtain ⟨F, L1, L2, r⟩ := r
    have ft : F t = none := by
      cases e : F t with
      | none => rfl
      | some u =>
        rcases r.fg _ u e with e1 | e1
        · rw [gt] at e1
          cases e1
        · rw [zt] at e1
          cases e1
    have nl : ∀ q ∈ L1 ++ L2, q.1 ≠ t := fun q hq e => by
      have := r.gd.zr q hq
      rw [e, zt] at this
      cases this
    refine ⟨F, L1, L2, r.gf, fun a u e => ?_, fun a u e => ?_, fun a u e => ?_, r.ev, r.tm.anyH hT, r.gd.nd, fun q hq => ?_, r.gd.fr, fun q hq => ?_⟩
    · have ne : a ≠ t := fun z => by rw [z, ft] at e; cases e
      rw [upd_ne ne]
      exact r.fg a u e
    · have ne : a ≠ t := fun z => by rw [z, ft] at e; cases e
      rw [upd_ne ne]
      exact r.fh a u e
    · by_cases z : a = t
      · subst z
        rw [upd_same] at e ⊢
        exact e
      · rw [upd_ne z] at e ⊢
        exact r.zh a u e
    · rw [upd_ne (nl q hq)]
      exact r.gd.hp q hq
    · rw [upd_ne (nl q hq)]
      exact r.gd.zr q hq
end
theorem OwnL.len {M : Str → Option Value} {F : Hp} : ∀ {xs : List OV} {vs : List V} {L : Cells}, OwnL M F xs vs L → vs.length = xs.length
  | [], _, _, ⟨e, _⟩ => by rw [e]; rfl
  | x :: xs, _, _, ⟨v, ws, A, B, e, _, r, _⟩ => by rw [e, List.length_cons, List.length_cons, OwnL.len r]
section
variable {X : Cx} {W : WX} {tg iter : Expr} {st1 st3 : Stmt} {body : List Stmt} {pos : Pos} {it : VEnv → Ans (List FV)} {t : TgF} {fe : DE} {vs : List Nat} {i j : Nat}
end
section
variable {X : Cx} {W : WX} {tg iter e : Expr} {x y : Str} {pos p1 p2 p3 p4 p5 p6 p7 p8 p9 p10 p11 apos cpos : Pos} {it : VEnv → Ans (List FV)} {t : TgF} {fe : DE} {vs : List Nat}
end
section
variable {X : Cx} {W : WX} {e : Expr} {f : DE} {x : Str} {pos pos' spos : Pos}
end
end J
namespace J
open PySem PySem.Spec PyProof.Rows L2
section
variable {X : Cx} {W : WX} {pos pos' : Pos} {e tg : Expr} {fe : DE} {t : TgF} {vs : List Nat} {x : Str}
end
end J
set_option maxHeartbeats 4000000
namespace J
open PySem PySem.Spec PyProof.Rows L2
section
variable {X : Cx} {pins : List (Addr × Obj)} {σ : L2.St} {H : Hp} {s : Shared}
def KeyT (H : Hp) (k : NK) (b : Addr) : Prop := ∃ c, H b = some (.tup [.int k.1, .ref c]) ∧ H c = some (.tup (k.2.map V.int))
theorem KeyT.mono {F H : Hp} (h : Same F H) {k : NK} {b : Addr} (t : KeyT F k b) : KeyT H k b := let ⟨c, x, y⟩ := t; ⟨c, h _ _ x, h _ _ y⟩
end
section
variable {X : Cx} {W : WX} {a b : Expr} {f g : DE} {pos : Pos}
end
section
variable {X : Cx} {W : WX} {pos pos' tpos : Pos} {e k : Expr} {fk fe : DE} {x : Str}
end
end J
set_option maxHeartbeats 4000000
namespace J
open PySem PySem.Spec PyProof.Rows L2
section
variable {X : Cx} {W : WX} {e : Expr} {x y : Str} {pos p1 p2 p3 p4 apos cpos : Pos}
end
end J
set_option maxHeartbeats 4000000
namespace J
open PySem PySem.Spec PyProof.Rows L2 RZ
section
variable {X : Cx} {pins : List (Addr × Obj)} {σ : L2.St} {H : Hp} {s : Shared} {A : Around} {E : Value → Shared → Prop}
end
section
variable {X : Cx} {W : WX} {pos pos' apos cpos : Pos} {e : Expr} {f : DE} {x : Str}
end
section
variable {prog : Program} {w : World} {A : Around} {E : Value → Shared → Prop} {s : Shared} {z TI TO i1 i2 T : Addr} {fp1 fp2 : List Addr} {n1 n2 i : Nat} {P1 P2 : Nat → Value → Prop} {St1 St2 : Nat → Heap → Prop} {f : Bool} {oT : Obj}
end
section
variable {X : Cx} {e e2 : Expr} {ta : TA} {p p2 q pos : Pos}
end
section
variable {X : Cx} {W : WX} {e e2 : Expr} {g : VEnv → Ans (List Rv)} {p p2 q pos : Pos}
end
end J
set_option maxHeartbeats 4000000
namespace J
open PySem PySem.Spec PyProof.Rows L2
mutual
def FV.noD : FV → Bool
  | .tup xs => FV.noDL xs
  | .tuz xs => FV.noDL xs
  | .lst xs => FV.noDL xs
  | .dK _ => false
  | .dT kvs => FV.noDT kvs
  | .ins _ fs => FV.noDA fs
  | _ => true
def FV.noDL : List FV → Bool
  | [] => true
  | x :: xs => x.noD && FV.noDL xs
def FV.noDT : List (List Key × FV) → Bool
  | [] => true
  | (_, x) :: xs => x.noD && FV.noDT xs
def FV.noDA : List (Str × FV) → Bool
  | [] => true
  | (_, x) :: xs => x.noD && FV.noDA xs
end
def noDK : List (Key × FV) → Bool
  | [] => true
  | (_, x) :: xs => x.noD && noDK xs
mutual
def OV.noD : OV → Bool
  | .fz x => x.noD
  | .ol xs => FV.noDL xs
  | .oK kvs => J.noDK kvs
  | .oT kvs => FV.noDT kvs
  | .dl xs => OV.noDL xs
  | .dd kvs => OV.noDK kvs
  | .tp xs => OV.noDL xs
  | .ob _ _ fs => OV.noDA fs
  | .oN _ => true
def OV.noDL : List OV → Bool
  | [] => true
  | x :: xs => x.noD && OV.noDL xs
def OV.noDK : List (Key × OV) → Bool
  | [] => true
  | (_, x) :: xs => x.noD && OV.noDK xs
def OV.noDA : List (Str × OV) → Bool
  | [] => true
  | (_, x) :: xs => x.noD && OV.noDA xs
end
def noDE : VEnv → Bool
  | [] => true
  | none :: e => noDE e
  | some o :: e => o.noD && noDE e
section
variable {M : Str → Option Value} {F : Hp} {d : Addr} {u : HO}
theorem ne_d {ws : List (Key × V)} (hd : F d = some (.dK ws)) {a : Addr} {o : HO} (e : F a = some o) (n : ∀ ws, o ≠ .dK ws) : upd F d u a = some o := by
  rw [upd_ne fun z => by rw [z, hd] at e; cases e; exact n _ rfl]
  exact e
theorem KeyTs.lock {ws : List (Key × V)} (hd : F d = some (.dK ws)) {kb : List (NK × Addr)} (k : KeyTs F kb) : KeyTs (upd F d u) kb := fun p hp => let ⟨c, x, y⟩ := k p hp; ⟨c, ne_d hd x nofun, ne_d hd y nofun⟩
mutual
theorem FDen.lock {ws : List (Key × V)} (hd : F d = some (.dK ws)) : ∀ {x : FV} {v : V}, x.noD = true → FDen M F x v → FDen M (upd F d u) x v
  | .non, _, _, q => q
  | .bl _, _, _, q => q
  | .int _, _, _, q => q
  | .str _, _, _, q => q
  | .tup xs, _, n, ⟨a, vs, e, q, r⟩ => ⟨a, vs, e, ne_d hd q nofun, FDenL.lock hd n r⟩
  | .tuz xs, _, n, ⟨a, vs, o, e, q, q1, q2, r⟩ => ⟨a, vs, o, e, ne_d hd q nofun, q1, q2, FDenL.lock hd n r⟩
  | .lst xs, _, n, ⟨a, vs, e, q, r⟩ => ⟨a, vs, e, ne_d hd q nofun, FDenL.lock hd n r⟩
  | .dK _, _, n, _ => nomatch n
  | .dT kvs, _, n, ⟨a, vs, e, q, r⟩ => ⟨a, vs, e, ne_d hd q nofun, FDenT.lock hd n r⟩
  | .ins c fs, _, n, ⟨a, C, dx, vs, e, m, q, q2, r⟩ => ⟨a, C, dx, vs, e, m, ne_d hd q nofun, ne_d hd q2 nofun, FDenA.lock hd n r⟩
  | .exc c, _, _, ⟨a, C, e, m, q⟩ => ⟨a, C, e, m, ne_d hd q nofun⟩
  | .scr xs, _, _, ⟨a, e, q⟩ => ⟨a, e, q.elim (fun q => .inl (ne_d hd q nofun)) fun ⟨o, q⟩ => .inr ⟨o, ne_d hd q nofun⟩⟩
  | .dN ks, _, _, ⟨a, kb, e, q, n, k⟩ => ⟨a, kb, e, ne_d hd q nofun, n, k.lock hd⟩
theorem FDenL.lock {ws : List (Key × V)} (hd : F d = some (.dK ws)) : ∀ {xs : List FV} {vs : List V}, FV.noDL xs = true → FDenL M F xs vs → FDenL M (upd F d u) xs vs
  | [], _, _, q => q
  | _ :: _, _, n, ⟨v, us, e, q, r⟩ => by
    unfold FV.noDL at n
    rw [Bool.and_eq_true] at n
    exact ⟨v, us, e, FDen.lock hd n.1 q, FDenL.lock hd n.2 r⟩
theorem FDenT.lock {ws : List (Key × V)} (hd : F d = some (.dK ws)) : ∀ {xs : List (List Key × FV)} {vs : List (List Key × V)}, FV.noDT xs = true → FDenT M F xs vs → FDenT M (upd F d u) xs vs
  | [], _, _, q => q
  | (_, _) :: _, _, n, ⟨v, us, e, q, r⟩ => by
    unfold FV.noDT at n
    rw [Bool.and_eq_true] at n
    exact ⟨v, us, e, FDen.lock hd n.1 q, FDenT.lock hd n.2 r⟩
theorem FDenA.lock {ws : List (Key × V)} (hd : F d = some (.dK ws)) : ∀ {xs : List (Str × FV)} {vs : List (Str × V)}, FV.noDA xs = true → FDenA M F xs vs → FDenA M (upd F d u) xs vs
  | [], _, _, q => q
  | (_, _) :: _, _, n, ⟨v, us, e, q, r⟩ => by
    unfold FV.noDA at n
    rw [Bool.and_eq_true] at n
    exact ⟨v, us, e, FDen.lock hd n.1 q, FDenA.lock hd n.2 r⟩
end
theorem FDenK.lock {ws : List (Key × V)} (hd : F d = some (.dK ws)) : ∀ {xs : List (Key × FV)} {vs : List (Key × V)}, noDK xs = true → FDenK M F xs vs → FDenK M (upd F d u) xs vs
  | [], _, _, q => q
  | (_, _) :: _, _, n, ⟨v, us, e, q, r⟩ => by
    unfold noDK at n
    rw [Bool.and_eq_true] at n
    exact ⟨v, us, e, FDen.lock hd n.1 q, FDenK.lock hd n.2 r⟩
mutual
theorem Own.lock {ws : List (Key × V)} (hd : F d = some (.dK ws)) : ∀ {x : OV} {v : V} {L : Cells}, x.noD = true → Own M F x v L → Own M (upd F d u) x v L
  | .fz _, _, _, n, ⟨q, e⟩ => ⟨q.lock hd n, e⟩
  | .ol _, _, _, n, ⟨a, vs, e, r, q⟩ => ⟨a, vs, e, r.lock hd n, q⟩
  | .oK _, _, _, n, ⟨a, vs, e, r, q⟩ => ⟨a, vs, e, r.lock hd n, q⟩
  | .oT _, _, _, n, ⟨a, vs, e, r, q⟩ => ⟨a, vs, e, r.lock hd n, q⟩
  | .dl _, _, _, n, ⟨a, vs, L', e, r, q⟩ => ⟨a, vs, L', e, OwnL.lock hd n r, q⟩
  | .dd _, _, _, n, ⟨a, vs, L', e, r, q⟩ => ⟨a, vs, L', e, OwnK.lock hd n r, q⟩
  | .tp _, _, _, n, ⟨a, vs, e, q, r⟩ => ⟨a, vs, e, ne_d hd q nofun, OwnL.lock hd n r⟩
  | .ob _ _ _, _, _, n, ⟨a, C, dx, vs, L', e, m, q, r, q2⟩ => ⟨a, C, dx, vs, L', e, m, ne_d hd q nofun, OwnA.lock hd n r, q2⟩
  | .oN ks, _, _, _, ⟨a, kb, e, n, k, q⟩ => ⟨a, kb, e, n, k.lock hd, q⟩
theorem OwnL.lock {ws : List (Key × V)} (hd : F d = some (.dK ws)) : ∀ {xs : List OV} {vs : List V} {L : Cells}, OV.noDL xs = true → OwnL M F xs vs L → OwnL M (upd F d u) xs vs L
  | [], _, _, _, q => q
  | _ :: _, _, _, n, ⟨v, us, A, B, e, q, r, z⟩ => by
    unfold OV.noDL at n
    rw [Bool.and_eq_true] at n
    exact ⟨v, us, A, B, e, Own.lock hd n.1 q, OwnL.lock hd n.2 r, z⟩
theorem OwnK.lock {ws : List (Key × V)} (hd : F d = some (.dK ws)) : ∀ {xs : List (Key × OV)} {vs : List (Key × V)} {L : Cells}, OV.noDK xs = true → OwnK M F xs vs L → OwnK M (upd F d u) xs vs L
  | [], _, _, _, q => q
  | (_, _) :: _, _, _, n, ⟨v, us, A, B, e, q, r, z⟩ => by
    unfold OV.noDK at n
    rw [Bool.and_eq_true] at n
    exact ⟨v, us, A, B, e, Own.lock hd n.1 q, OwnK.lock hd n.2 r, z⟩
theorem OwnA.lock {ws : List (Key × V)} (hd : F d = some (.dK ws)) : ∀ {xs : List (Str × OV)} {vs : List (Str × V)} {L : Cells}, OV.noDA xs = true → OwnA M F xs vs L → OwnA M (upd F d u) xs vs L
  | [], _, _, _, q => q
  | (_, _) :: _, _, _, n, ⟨v, us, A, B, e, q, r, z⟩ => by
    unfold OV.noDA at n
    rw [Bool.and_eq_true] at n
    exact ⟨v, us, A, B, e, Own.lock hd n.1 q, OwnA.lock hd n.2 r, z⟩
end
theorem EnvOwn.lock {ws : List (Key × V)} (hd : F d = some (.dK ws)) {σ : Sl} {env : VEnv} {L : Cells} (h : EnvOwn M F σ env L) (n : noDE env = true) : EnvOwn M (upd F d u) σ env L := by
  induction h with
  | nil => exact .nil
  | skip _ ih => exact .skip (ih n)
  | cons q _ ih =>
    unfold noDE at n
    rw [Bool.and_eq_true] at n
    exact .cons (q.lock hd n.1) (ih n.2)
def isLk : HO → Bool
  | .frz _ (.dK _) => true
  | _ => false
theorem ne_l {od : Obj} {ws : List (Key × V)} (hd : F d = some (.frz od (.dK ws))) {a : Addr} {o : HO} (e : F a = some o) (n : isLk o = false) : upd F d u a = some o := by
  rw [upd_ne fun z => by rw [z, hd] at e; cases e; cases n]
  exact e
mutual
theorem FDen.open {od : Obj} {ws : List (Key × V)} (hd : F d = some (.frz od (.dK ws))) : ∀ {x : FV} {v : V}, FDen M F x v → FDen M (upd F d u) x v
  | .non, _, q => q
  | .bl _, _, q => q
  | .int _, _, q => q
  | .str _, _, q => q
  | .tup xs, _, ⟨a, vs, e, q, r⟩ => ⟨a, vs, e, ne_l hd q rfl, FDenL.open hd r⟩
  | .tuz xs, _, ⟨a, vs, o, e, q, q1, q2, r⟩ => ⟨a, vs, o, e, ne_l hd q rfl, q1, q2, FDenL.open hd r⟩
  | .lst xs, _, ⟨a, vs, e, q, r⟩ => ⟨a, vs, e, ne_l hd q rfl, FDenL.open hd r⟩
  | .dK kvs, _, ⟨a, vs, e, q, r⟩ => ⟨a, vs, e, ne_l hd q rfl, FDenK.open hd r⟩
  | .dT kvs, _, ⟨a, vs, e, q, r⟩ => ⟨a, vs, e, ne_l hd q rfl, FDenT.open hd r⟩
  | .ins c fs, _, ⟨a, C, dx, vs, e, m, q, q2, r⟩ => ⟨a, C, dx, vs, e, m, ne_l hd q rfl, ne_l hd q2 rfl, FDenA.open hd r⟩
  | .exc c, _, ⟨a, C, e, m, q⟩ => ⟨a, C, e, m, ne_l hd q rfl⟩
  | .scr xs, _, ⟨a, e, q⟩ => ⟨a, e, q.elim (fun q => .inl (ne_l hd q rfl)) fun ⟨o, q⟩ => .inr ⟨o, ne_l hd q rfl⟩⟩
  | .dN ks, _, ⟨a, kb, e, q, n, k⟩ => ⟨a, kb, e, ne_l hd q rfl, n, fun p hp => let ⟨c, x, y⟩ := k p hp; ⟨c, ne_l hd x rfl, ne_l hd y rfl⟩⟩
theorem FDenL.open {od : Obj} {ws : List (Key × V)} (hd : F d = some (.frz od (.dK ws))) : ∀ {xs : List FV} {vs : List V}, FDenL M F xs vs → FDenL M (upd F d u) xs vs
  | [], _, q => q
  | _ :: _, _, ⟨v, us, e, q, r⟩ => ⟨v, us, e, FDen.open hd q, FDenL.open hd r⟩
theorem FDenK.open {od : Obj} {ws : List (Key × V)} (hd : F d = some (.frz od (.dK ws))) : ∀ {xs : List (Key × FV)} {vs : List (Key × V)}, FDenK M F xs vs → FDenK M (upd F d u) xs vs
  | [], _, q => q
  | (_, _) :: _, _, ⟨v, us, e, q, r⟩ => ⟨v, us, e, FDen.open hd q, FDenK.open hd r⟩
theorem FDenT.open {od : Obj} {ws : List (Key × V)} (hd : F d = some (.frz od (.dK ws))) : ∀ {xs : List (List Key × FV)} {vs : List (List Key × V)}, FDenT M F xs vs → FDenT M (upd F d u) xs vs
  | [], _, q => q
  | (_, _) :: _, _, ⟨v, us, e, q, r⟩ => ⟨v, us, e, FDen.open hd q, FDenT.open hd r⟩
theorem FDenA.open {od : Obj} {ws : List (Key × V)} (hd : F d = some (.frz od (.dK ws))) : ∀ {xs : List (Str × FV)} {vs : List (Str × V)}, FDenA M F xs vs → FDenA M (upd F d u) xs vs
  | [], _, q => q
  | (_, _) :: _, _, ⟨v, us, e, q, r⟩ => ⟨v, us, e, FDen.open hd q, FDenA.open hd r⟩
end
mutual
theorem Own.open {od : Obj} {ws : List (Key × V)} (hd : F d = some (.frz od (.dK ws))) : ∀ {x : OV} {v : V} {L : Cells}, Own M F x v L → Own M (upd F d u) x v L
  | .fz _, _, _, ⟨q, e⟩ => ⟨q.open hd, e⟩
  | .ol _, _, _, ⟨a, vs, e, r, q⟩ => ⟨a, vs, e, r.open hd, q⟩
  | .oK _, _, _, ⟨a, vs, e, r, q⟩ => ⟨a, vs, e, r.open hd, q⟩
  | .oT _, _, _, ⟨a, vs, e, r, q⟩ => ⟨a, vs, e, r.open hd, q⟩
  | .dl _, _, _, ⟨a, vs, L', e, r, q⟩ => ⟨a, vs, L', e, OwnL.open hd r, q⟩
  | .dd _, _, _, ⟨a, vs, L', e, r, q⟩ => ⟨a, vs, L', e, OwnK.open hd r, q⟩
  | .tp _, _, _, ⟨a, vs, e, q, r⟩ => ⟨a, vs, e, ne_l hd q rfl, OwnL.open hd r⟩
  | .ob _ _ _, _, _, ⟨a, C, dx, vs, L', e, m, q, r, q2⟩ => ⟨a, C, dx, vs, L', e, m, ne_l hd q rfl, OwnA.open hd r, q2⟩
  | .oN ks, _, _, ⟨a, kb, e, n, k, q⟩ => ⟨a, kb, e, n, fun p hp => let ⟨c, x, y⟩ := k p hp; ⟨c, ne_l hd x rfl, ne_l hd y rfl⟩, q⟩
theorem OwnL.open {od : Obj} {ws : List (Key × V)} (hd : F d = some (.frz od (.dK ws))) : ∀ {xs : List OV} {vs : List V} {L : Cells}, OwnL M F xs vs L → OwnL M (upd F d u) xs vs L
  | [], _, _, q => q
  | _ :: _, _, _, ⟨v, us, A, B, e, q, r, z⟩ => ⟨v, us, A, B, e, Own.open hd q, OwnL.open hd r, z⟩
theorem OwnK.open {od : Obj} {ws : List (Key × V)} (hd : F d = some (.frz od (.dK ws))) : ∀ {xs : List (Key × OV)} {vs : List (Key × V)} {L : Cells}, OwnK M F xs vs L → OwnK M (upd F d u) xs vs L
  | [], _, _, q => q
  | (_, _) :: _, _, _, ⟨v, us, A, B, e, q, r, z⟩ => ⟨v, us, A, B, e, Own.open hd q, OwnK.open hd r, z⟩
theorem OwnA.open {od : Obj} {ws : List (Key × V)} (hd : F d = some (.frz od (.dK ws))) : ∀ {xs : List (Str × OV)} {vs : List (Str × V)} {L : Cells}, OwnA M F xs vs L → OwnA M (upd F d u) xs vs L
  | [], _, _, q => q
  | (_, _) :: _, _, _, ⟨v, us, A, B, e, q, r, z⟩ => ⟨v, us, A, B, e, Own.open hd q, OwnA.open hd r, z⟩
end
theorem EnvOwn.open {od : Obj} {ws : List (Key × V)} (hd : F d = some (.frz od (.dK ws))) {σ : Sl} {env : VEnv} {L : Cells} (h : EnvOwn M F σ env L) : EnvOwn M (upd F d u) σ env L := by
  induction h with
  | nil => exact .nil
  | skip _ ih => exact .skip ih
  | cons q _ ih => exact .cons (q.open hd) ih
end
section
variable {M : Str → Option Value} {G Z H F : Hp} {σ : Sl} {env : VEnv} {T : List (V × Rv)} {L1 L2 : Cells} {d : Addr} {od : Obj} {ws : List (Key × V)} {kvs : List (Key × FV)} {i : Nat}
def lockZ (Z : Hp) (d : Addr) (L2 : Cells) : Hp := updL (fun a => if a = d then none else Z a) L2
theorem lockZ_in (nd : (L2.map (·.1)).Nodup) : ∀ p ∈ L2, lockZ Z d L2 p.1 = some p.2 := updL_in nd
theorem lockZ_out {a : Addr} (h : ∀ p ∈ L2, p.1 ≠ a) (n : a ≠ d) : lockZ Z d L2 a = Z a := by
  unfold lockZ
  rw [updL_out h]
  exact if_neg n
theorem RF.lock (r : RF M G Z H F σ env T L1 L2) (hd : F d = some (.dK ws)) (nv : env[i]? = some (some (.fz (.dK kvs)))) (n : noDE (env.set i none) = true) :
    R M (upd F d (.frz od (.dK ws))) (lockZ Z d L2) (upd H d (.frz od (.dK ws))) σ (env.set i none) [] := by
  obtain ⟨v, A, Lr, sv, own, pm, _, k⟩ := r.ev.repl nv
  have hA : A = [] := own.2
  subst hA
  have hσ : σ.set i (some v) = σ := by
    apply List.ext_getElem?
    intro j
    by_cases hj : i = j
    · subst hj
      rw [List.getElem?_set_self (List.getElem?_eq_some_iff.mp sv).1, sv]
    · rw [List.getElem?_set_ne hj]
  have ev := k (some v)
  rw [hσ] at ev
  have g := r.gd.perm (pm.append_right L2)
  rw [List.nil_append] at g
  have nd : ∀ p ∈ Lr ++ L2, p.1 ≠ d := fun p hp e => by
    have := g.fr p hp
    rw [e, hd] at this
    cases this
  have n2 := g.right.nd
  have ap := g.apart
  refine ⟨_, Lr, [], Same.refl _, fun a o e => .inl e, fun a o e => ?_, fun a o e => ?_, ev.lock hd n, .nil, ?_⟩
  · by_cases z : a = d
    · subst z
      rw [upd_same] at e ⊢
      exact e
    · rw [upd_ne z] at e ⊢
      exact r.fh a o e
  · by_cases hm : ∃ p ∈ L2, p.1 = a
    · obtain ⟨p, hp, rfl⟩ := hm
      rw [lockZ_in n2 p hp] at e
      cases e
      rw [upd_ne (nd p (List.mem_append_right _ hp))]
      exact g.hp p (List.mem_append_right _ hp)
    · have ho : ∀ p ∈ L2, p.1 ≠ a := fun p hp e => hm ⟨p, hp, e⟩
      by_cases z : a = d
      · subst z
        unfold lockZ at e
        rw [updL_out ho] at e
        simp at e
      · rw [lockZ_out ho z] at e
        rw [upd_ne z]
        exact r.zh a o e
  · rw [List.append_nil]
    refine ⟨g.left.nd, fun p hp => ?_, fun p hp => ?_, fun p hp => ?_⟩
    · rw [upd_ne (nd p (List.mem_append_left _ hp))]
      exact g.left.hp p hp
    · rw [upd_ne (nd p (List.mem_append_left _ hp))]
      exact g.left.fr p hp
    · rw [lockZ_out (fun q hq e => ap p hp q hq e.symm) (nd p (List.mem_append_left _ hp))]
      exact g.left.zr p hp
end
theorem FDenK.get {M : Str → Option Value} {F : Hp} : ∀ {kvs : List (Key × FV)} {ws : List (Key × V)} {n : Nat} {k : Key} {v : V}, FDenK M F kvs ws → ws[n]? = some (k, v) → ∃ x, kvs[n]? = some (k, x) ∧ FDen M F x v
  | [], _, n, _, _, e, h => by
    rw [show _ = [] from e] at h
    simp at h
  | (j, x) :: r, _, n, k, v, ⟨w, rs, e, q, z⟩, h => by
    subst e
    cases n with
    | zero =>
      cases h
      exact ⟨x, rfl, q⟩
    | succ n => exact z.get (by simpa using h)
section
variable {X : Cx} {W : WX} {x : Str} {pos px apos cpos tpos : Pos} {elts : List Expr} {kk : Nat} {body : List Stmt} {t : TgF} {fb : DS} {vs : List Nat}
end
end J
namespace J
open PySem PySem.Spec PyProof.Rows L2
def dChain (o1 o2 : OV → OV → Option OV) (f g h : DE) : DE := fun env => (f env).bind fun x => (g env).bind fun y => match o1 x.ov y.ov with
  | some (.fz (.bl true)) => (h env).bind fun z => (Ans.of (o2 y.ov z.ov)).map .st
  | some (.fz (.bl false)) => .ok (.st (.fz (.bl false)))
  | _ => .no
section
variable {X : Cx} {W : WX} {a b c : Expr} {f g h : DE} {pos : Pos} {p1 p2 : CmpOp} {o1 o2 : OV → OV → Option OV}
theorem chain_red {σ : L2.St} {H : Hp} {Q : VK} (q : tE X.mg W (dChain o1 o2 f g h) σ H Q) : tChain (rJ X.mg o1) (rJ X.mg o2) (tE X.mg W f) (tE X.mg W g) (tE X.mg W h) σ H Q := by
  obtain ⟨G, Z, env, T, r, p⟩ := q
  refine tE.bind r Sb.refl p fun x u H1 _ s1 r1 p1 => ?_
  refine tE.bind r1 Sb.refl.cons p1 fun y w H2 _ s2 ⟨F, C1, C2, r2⟩ p2 => ?_
  have bx := r2.bor (p := (u, x)) (List.mem_cons_of_mem _ List.mem_cons_self)
  have bw := r2.bor (p := (w, y)) List.mem_cons_self
  split at p2
  · rename_i e
    refine ⟨F, x.ov, y.ov, _, r2.fh, bx, bw, e, fun v H' n => ?_⟩
    have hh : Same H2 H' := let ⟨_, _, n⟩ := n; n.hh
    obtain ⟨F3, C3, C4, r3⟩ := r2.new n
    have hv : v = .bl true := (r3.bor (p := (v, .st (.fz (.bl true)))) List.mem_cons_self).bl
    refine ⟨true, hv, ?_⟩
    rw [if_pos rfl]
    refine tE.bind r3.r (Sb.refl.cons.cons.cons) (p2.later hh) fun z w' H4 _ s4 ⟨F4, C5, C6, r4⟩ p4 => ?_
    obtain ⟨o, e4, k⟩ := r4.fin (Sb.refl.cons.cons.cons.cons) p4
    exact ⟨F4, y.ov, z.ov, o, r4.fh, r4.bor (p := (w, y)) (List.mem_cons_of_mem _ (List.mem_cons_of_mem _ List.mem_cons_self)), r4.bor (p := (w', z)) List.mem_cons_self, e4, k⟩
  · rename_i e
    refine ⟨F, x.ov, y.ov, _, r2.fh, bx, bw, e, fun v H' n => ?_⟩
    have hh : Same H2 H' := let ⟨_, _, n⟩ := n; n.hh
    obtain ⟨F3, C3, C4, r3⟩ := r2.new n
    have hv : v = .bl false := (r3.bor (p := (v, .st (.fz (.bl false)))) List.mem_cons_self).bl
    refine ⟨false, hv, ?_⟩
    rw [if_neg Bool.false_ne_true, ← hv]
    exact p2 v H' hh (r3.r.sb (Sb.refl.cons.cons.both))
  · exact p2.elim
theorem jt_chain (ho : OJ X (compareOp p1) o1) (ho2 : OJ X (compareOp p2) o2) (ha : JE X W a f) (hb : JE X W b g) (hc : JE X W c h) (hm : lastMarks [p1, p2] [b, c] = false := by with_unfolding_all rfl) :
    JT X W (.Compare a [p1, p2] [b, c] pos) (dTest (dChain o1 o2 f g h)) := PT.imp (pt_chain ho ho2 ha hb hc hm) fun _ _ _ q => chain_red (tB_red q)
end
end J
set_option maxHeartbeats 4000000
namespace J
open PySem PySem.Spec PyProof.Rows L2
def ErrO (C a : Addr) : HO := .ext fun h => ∃ oe vs, h.get? a = some oe ∧ Zc (.ref C) none oe ∧ oe.data = .fields vs
theorem errO_ok {P : Program} {w : World} {H : Hp} {h : Heap} {a C : Addr} {oe : Obj} {vs : Array Value} (e : h.get? a = some oe) (z : Zc (.ref C) none oe) (d : oe.data = .fields vs) : ObjOk P w H h a (ErrO C a) :=
  ⟨⟨oe, vs, e, z, d⟩, ⟨oe, e⟩, fun _ _ ⟨o, v, q, r⟩ k => ⟨o, v, k o q, r⟩⟩
section
variable {X : Cx} {pins : List (Addr × Obj)} {σ : Sl} {H : Hp} {s : Shared}
theorem inv_known {a C : Addr} {oe : Obj} {vs : Array Value} (I : Inv X ((a, oe) :: pins) σ H s) (fresh : X.s_0.heap.get? a = none) (ne : ∀ p ∈ X.pn ++ pins, p.1 ≠ a) (hz : Zc (.ref C) none oe) (hd : oe.data = .fields vs) :
    Inv X pins σ (upd H a (ErrO C a)) s := by
  obtain ⟨ha, hn, nl, nf, nc⟩ := I.pin (a, oe) (List.mem_append_right _ List.mem_cons_self)
  have off : ∀ {b : Addr}, b ≠ a → upd H a (ErrO C a) b = H b := fun h => upd_ne h
  have trk : ∀ {b : Addr} {u : HO}, H b = some u → upd H a (ErrO C a) b = some u := fun {b u} h => (off fun z => by rw [z, hn] at h; cases h).trans h
  have cel : ∀ x c, X.env.cells.lookup x = some c → c ≠ a := fun x c e z => by
    obtain ⟨v, o, ho, hv⟩ := I.cell x c e
    rw [z, ha] at ho
    cases ho
    exact nc _ hv
  have bas := I.base
  constructor
  · exact I.ok
  · exact I.os
  · exact I.bare
  · constructor
    · exact bas.keep
    · exact bas.slot
    · intro b o h1 h2 h3
      rw [off fun z => by rw [z, fresh] at h1; cases h1]
      exact bas.free b o h1 h2 h3
    · exact bas.there
    · exact fun b xs h => trk (bas.tups b xs h)
    · exact fun b o u h => trk (bas.frzs b o u h)
    · intro b ps h
      obtain ⟨m, h⟩ := bas.tbls b ps h
      exact ⟨m, trk h⟩
  · exact I.loc
  · exact I.cell
  · rw [off (Ne.symm nl)]
    exact I.free
  · intro x c e
    rw [off (cel x c e)]
    exact I.freeC x c e
  · intro p hp
    have hp2 : p ∈ X.pn ++ (a, oe) :: pins := (List.mem_append.mp hp).elim (List.mem_append_left _) fun h => List.mem_append_right _ (List.mem_cons_of_mem _ h)
    obtain ⟨q1, q2, q3⟩ := I.pin p hp2
    exact ⟨q1, (off (ne p hp)).trans q2, q3⟩
  · intro b u e
    by_cases hb : b = a
    · subst hb
      rw [upd_same] at e
      cases e
      exact errO_ok ha hz hd
    · rw [off hb] at e
      exact (I.hok b u e).stay (fun _ _ _ q => q) (fun _ q => trk q) fun _ _ q => trk q
  · exact I.len
theorem inv_out {a : Addr} {q : Addr × Obj} (I : Inv (X.suite a (q :: (X.pn ++ pins))) [] σ H s) (ok : X.Ok) : Inv X (q :: pins) σ H s := by
  constructor
  · exact ok
  · exact I.os
  · exact I.bare
  · exact I.base
  · exact I.loc
  · exact I.cell
  · exact I.free
  · exact I.freeC
  · intro p hp
    refine I.pin p (List.mem_append_left _ ?_)
    rcases List.mem_append.mp hp with h | h
    · exact List.mem_cons_of_mem _ (List.mem_append_left _ h)
    · exact (List.mem_cons.mp h).elim (fun e => e ▸ List.mem_cons_self) fun h => List.mem_cons_of_mem _ (List.mem_append_right _ h)
  · exact I.hok
  · exact I.len
end
def wTold (K : PySem.W.Frag) (c : Value) (i j : Nat) (D : Ends) : WX := fun cls d σ H => d = none ∧ (∃ C, cls = .ref C ∧ PySem.W.exmOne K (.ref C) c = some true ∧
  ∀ a, H a = none → D.nx (((σ.set i (some (V.ref a))).set j (some (V.ref a))).set i none) (upd H a (ErrO C a)))
section
variable {X : Cx} {x n y : Str} {c : Value} {i j : Nat} {body : List Stmt} {np p1 p2 p3 pos pos' : Pos} {tb : WX → TS}
theorem ps_try_told (hx : X.ex = []) (hs : X.stack = X.env :: X.outer) (hf : X.env.frame = some X.env.locals) (hN : X.N.Nodup) (hi : X.N[i]? = some n) (hln : X.env.kindOf n = some .local) (hj : X.N[j]? = some y) (hly : X.env.kindOf y = some .local) (hc : Names X x c)
    (hsw : ∀ a pn, swapsWith (.Name n p2) (some (.Name y p1)) p3.line (X.suite a pn).env = pure false) (dn : (n == ("__debug__" : Str)) = false := by decide) (cn : (n == ("__classdict__" : Str)) = false := by decide)
    (hb : ∀ (W : WX) (pn : List (Addr × Obj)) (xe : Value → Shared → Prop), Takes (X.tr pn xe) W → PSs (X.tr pn xe) body (tb W)) :
    PS X (.Try body [.ExceptHandler (some (.Name x np)) (some n) [.Assign [.Name y p1] (.Name n p2) p3] pos'] [] [] pos) (fun D σ H => tb (wTold X.K c i j D) D σ H) := by
  constructor
  intro pins s σ H D I h
  have ok := I.ok
  have hfr : X.A.frames = some (X.env :: X.outer) := ok.frames.trans (by rw [hs])
  refine wpAny_Try_except (wpAny_mono ((hb (wTold X.K c i j D) (X.pn ++ pins) _ ?tk).run [] s σ H D (I.toTry _) h) ?fine fun _ _ z => z)
  case fine =>
    intro f s1 q
    match f, q with
    | .next, ⟨σ', H', J, q⟩ => exact wpAny_execs_nil ⟨σ', H', J.ofTry ok, q⟩
    | .brk, ⟨σ', H', J, q⟩ => exact ⟨σ', H', J.ofTry ok, q⟩
    | .cont, ⟨σ', H', J, q⟩ => exact ⟨σ', H', J.ofTry ok, q⟩
    | .ret u, ⟨v, σ', H', J, r, q⟩ => exact ⟨v, σ', H', J.ofTry ok, r, q⟩
  case tk =>
    intro u s' ⟨a, B, sI, pins', σ', H', cls, d, eu, J', nb, up, sky, na, eos, ag, ed, C, ec, em, fin⟩
    subst eu ed ec
    have J : Inv X pins σ' H' sI := J'.ofTry ok
    have sky2 : Sky B (X.env :: X.outer) a (Zc (.ref C) none) X.env.locals s'.heap := hs ▸ sky
    refine Sky.land Zc.steady hfr hf sky2 fun h3 fl3 up3 => ?_
    have new : B.get? a = none := fl3.2.1
    obtain ⟨oe, vs, he, hz, hd⟩ := fl3.there
    have J3 : Inv X pins σ' H' { s' with heap := h3 } := J.landed nb fl3.1 (up.trans up3) eos ag
    have offF : a ∉ frs (X.env :: X.outer) := fun hm => by
      obtain ⟨_, o, ho, nd⟩ := fl3.2.2.1.mem hm
      rw [he] at ho
      cases ho
      exact nd _ hd
    have offL : a ≠ X.env.locals := fun z => offF (List.mem_filterMap.mpr ⟨X.env, List.mem_cons_self, hf.trans (congrArg some z.symm)⟩)
    have offO : a ∉ X.fs := fun hm => offF (by
      obtain ⟨e, q1, q2⟩ := List.mem_filterMap.mp hm
      exact List.mem_filterMap.mpr ⟨e, List.mem_cons_of_mem _ q1, q2⟩)
    have notI : sI.heap.get? a = none := by
      cases e : sI.heap.get? a with
      | none => rfl
      | some o =>
        have := nb a o e (hs ▸ offF)
        rw [new] at this
        cases this
    have fresh : X.s_0.heap.get? a = none := by
      cases e : X.s_0.heap.get? a with
      | none => rfl
      | some o =>
        obtain ⟨o', q⟩ := J.base.there a o e (by rw [hx]; exact fun z => nomatch z)
        rw [notI] at q
        cases q
    have pinsNe : ∀ p ∈ X.pn ++ pins, p.1 ≠ a := fun p hp z => by
      have := (J.pin p hp).1
      rw [z, notI] at this
      cases this
    -- the clause's class
    have S3 := J3.suite he hd na offL offO
    have cls3 : PySem.W.Looks (model X.prog X.w) h3 (typeOf (.ref a)) (.ref C) := fun A Q E t k q => wpAny_typeOf_ref (k _ _ he) (hz.1.symm ▸ q)
    have asks := PySem.W.exm_one (M := model X.prog X.w) J3.kIn cls3 em
    refine wpAny_handleBy_cons (codeAny_handlers_test ?_) (fun q => by cases q)
    have readC : ∀ {Q E : Value → Shared → Prop}, Q c { s' with heap := h3 } → wpAny (model X.prog X.w) (X.A.mark (some (.ref a))) (eval (.Name x np) X.env) Q E { s' with heap := h3 } := fun q =>
      match hc with
      | ⟨hg, hdb, .inl hm⟩ => ld_glob (X := X.suite a ((a, oe) :: (X.pn ++ pins))) S3 hg hm q hdb
      | ⟨hg, hdb, .inr ⟨hm, hv, hnn⟩⟩ => ld_blt (X := X.suite a ((a, oe) :: (X.pn ++ pins))) S3 hg hm hv q hnn hdb
    refine readC (asks.here (codeAny_handlers_suite_as (HandSPX.lands_againZ fl3 fun h4 fl4 up4 => ?_)))
    obtain ⟨oe4, vs4, he4, hz4, hd4⟩ := fl4.there
    have J4 : Inv X pins σ' H' { s' with heap := h4 } := J.landed nb fl4.1 ((up.trans up3).trans up4) eos ag
    have S4 := J4.suite he4 hd4 na offL offO
    refine store_ok (X := X.suite a ((a, oe4) :: (X.pn ++ pins))) (v := V.ref a) S4 hN hi (.inl hln) rfl (fun s5 S5 => ?_) (.inr hln)
    -- the suite: y = n
    have suite : PSs (X.suite a ((a, oe4) :: (X.pn ++ pins))) [.Assign [.Name y p1] (.Name n p2) p3] (tAsg (tVar i) (gName j)) :=
      pss_one (ps_set hN hj (.inl hly) (pe_var hi (.inl hln) dn cn) (hsw _ _) (.inr hly))
    have li : i < σ'.length := by rw [J.len]; exact (List.getElem?_eq_some_iff.mp hi).1
    refine wpAny_mono (suite.run [] s5 _ H' { nx := fun σ6 H6 => σ6 = (σ'.set i (some (V.ref a))).set j (some (V.ref a)) ∧ H6 = H', rt := fun _ _ => False, bk := fun _ _ => False, ct := fun _ _ => False } S5 ⟨V.ref a, List.getElem?_set_self li, rfl, rfl⟩) ?_ fun _ _ z => z.elim
    intro f s6 q
    match f, q with
    | .next, ⟨σ6, H6, S6, e1, e2⟩ =>
      subst e1 e2
      refine gone_ok (inv_out S6 ok) hN hi hln fun s7 J7 => ?_
      exact ⟨_, _, inv_known J7 fresh pinsNe hz4 hd4, fin a na⟩
    | .ret u, ⟨_, _, _, _, _, z⟩ => exact z.elim
    | .brk, ⟨_, _, _, z⟩ => exact z.elim
    | .cont, ⟨_, _, _, z⟩ => exact z.elim
end
end J
set_option maxHeartbeats 4000000
namespace J
open PySem PySem.Spec PyProof.Rows L2
abbrev veMro : List Value := [.type "ValueError", .type "Exception", .type "BaseException", .type "object"]
structure ErrAt (K : PySem.W.Frag) (C : Addr) : Prop where
  kp : PySem.W.keepIn K (.ref C) = true
  ex : PySem.W.excIn K C veMro "ValueError.__new__" = true
  sb : PySem.W.subIn K (.ref C) (.type "BaseException") = some true
  sv : PySem.W.subIn K (.ref C) (.type "ValueError") = some true
  ss : PySem.W.subIn K (.ref C) (.ref C) = some true
  sn : PySem.W.subIn K (.type "NoneType") (.ref C) = some false
  ty : PySem.W.typeIn K (.ref C) = some (.type "type")
  hd : PySem.W.hasDictIn K C = true
  hg : PySem.W.findIn K (.ref C) "__getattribute__" = some (some (.builtin "BaseException.__getattribute__"))
  hk : PySem.W.findIn K (.ref C) "__getattr__" = some none
  ha : PySem.W.findIn K (.ref C) "__class__" = some (some (.builtin "object.__class__"))
  hm : PySem.W.mroIn K C (.type "object") = some true
structure ErrK (K : PySem.W.Frag) : Prop where
  hn : PySem.W.specialIn K (.builtin "object.__class__") "__get__" = some (some (.builtin "getset_descriptor.__get__"))
  ht : PySem.W.takesIn K (.builtin "object.__class__") = some true
def ErrC (K : PySem.W.Frag) (mg : Str → Option Value) (x : Str) : Prop := ∃ C, mg x = some (.ref C) ∧ ErrAt K C
def ErrP (K : PySem.W.Frag) (mg : Str → Option Value) (x y : Str) (b : Bool) : Prop := ∀ C D, mg x = some (.ref C) → mg y = some (.ref D) → PySem.W.subIn K (.ref C) (.ref D) = some b
theorem ErrP.mk {K : PySem.W.Frag} {mg : Str → Option Value} {x y : Str} {b : Bool} {C D : Addr} (h1 : mg x = some (.ref C)) (h2 : mg y = some (.ref D)) (h : PySem.W.subIn K (.ref C) (.ref D) = some b) : ErrP K mg x y b := fun C' D' e1 e2 => by
  rw [h1] at e1
  rw [h2] at e2
  cases e1
  cases e2
  exact h
theorem ErrAt.kit {K : PySem.W.Frag} {D : Addr} (E : ErrAt K D) {t : Value} {b : Bool} (h : PySem.W.subIn K t (.ref D) = some b) : PySem.W.kitOne K t (.ref D) = some b := by
  unfold PySem.W.kitOne
  by_cases e : (t == Value.ref D) = true
  · have e2 := beq_iff_eq.mp e
    subst e2
    rw [if_pos e, ← h, E.ss]
  · obtain ⟨cd, hc, _⟩ := PySem.W.any_some E.hd
    rw [if_neg e]
    show (if ((PySem.W.clsIn K D).isSome && PySem.W.typeIn K (.ref D) == some (.type "type")) = true then PySem.W.subIn K t (.ref D) else none) = some b
    rw [hc, E.ty, if_pos (by rfl)]
    exact h
theorem ErrAt.kitV {K : PySem.W.Frag} {C : Addr} (E : ErrAt K C) : PySem.W.kitOne K (.ref C) (.type "ValueError") = some true := by
  unfold PySem.W.kitOne
  rw [if_neg (fun z => Value.noConfusion (beq_iff_eq.mp z))]
  show (if PySem.W.kitMeta "ValueError" = true then PySem.W.subIn K (.ref C) (.type "ValueError") else none) = some true
  rw [if_pos (by decide +kernel)]
  exact E.sv
theorem ErrAt.exc {K : PySem.W.Frag} {C : Addr} (E : ErrAt K C) (k : ErrK K) : ExcC K C := ⟨E.hg, E.hk, E.sb, E.hd, E.ha, k.hn, k.ht, E.hm⟩
def dRaise (c : Str) : DS := fun _ => .ex c
section
variable {X : Cx} {W : WX} {x m : Str} {j : Nat} {p p2 pos pos' : Pos}
theorem js_raise (hc : X.calm = true) (tk : Takes X W) (E : ErrC X.K X.mg x) (hg : Gl X x := by rfl) (hdb : (x == ("__debug__" : Str)) = false := by decide) : JS X W (.Raise (some (.Call (.Name x p) [.Constant (.str m) j p2] [] pos)) none pos') (dRaise x) := by
  obtain ⟨C, gC, E⟩ := E
  exact PS.imp (ps_raise hc tk (pmk_own PySem.F.excBase_ValueError E.ex gC E.kp (raises_own E.sb E.ty) hg hdb)) fun D σ H ⟨_, _, _, _, _, ⟨_, _, _, r⟩, q⟩ => q C σ H gC r.zh
end
theorem set_over {α : Type} {l : List (Option α)} {i j : Nat} {a b : α} (h : i ≠ j) : ((l.set i (some a)).set j (some b)).set i none = (l.set j (some b)).set i none := by
  rw [List.set_comm _ _ h, List.set_set]
theorem EnvOwn.put {M : Str → Option Value} {F : Hp} {σ : Sl} {env : VEnv} {L : Cells} {s : Option V} (e : EnvOwn M F σ env L) : ∀ {i : Nat}, env[i]? = some none → EnvOwn M F (σ.set i s) env L := by
  induction e with
  | nil => intro i h; simp at h
  | skip e ih =>
    intro i h
    cases i with
    | zero => exact .skip e
    | succ i => exact .skip (ih (by simpa using h))
  | cons d e ih =>
    intro i h
    cases i with
    | zero => simp at h
    | succ i => exact .cons d (ih (by simpa using h))
theorem R.put {M : Str → Option Value} {G Z H : Hp} {σ : Sl} {env : VEnv} {T : List (V × Rv)} {i : Nat} {s : Option V} (r : R M G Z H σ env T) (h : env[i]? = some none) : R M G Z H (σ.set i s) env T := by
  obtain ⟨F, L1, L2, r⟩ := r
  exact ⟨F, L1, L2, r.gf, r.fg, r.fh, r.zh, r.ev.put h, r.tm, r.gd⟩
section
variable {X : Cx} {W : WX} {x n y : Str} {i j : Nat} {e : Expr} {f : DE} {np p1 p2 p3 pos pos' pe : Pos} {L : List Str}
end
def rIsX (K : PySem.W.Frag) : List V → Hp → VK → Prop := fun xs H Q => ∃ (a C : Addr) (c : V) (u : Value) (b : Bool), xs = [.ref a, c] ∧ H a = some (ErrO C a) ∧ ClsV c u ∧ ExcC K C ∧ PySem.W.kitOne K (.ref C) u = some b ∧ Q (.bl b) H
theorem call_isX {X : Cx} : CallR X (.builtin "isinstance") (rIsX X.K) := by
  intro pins s σ H xs us Q I r ⟨a, C, c, u, b, ex, ha, hc, E, k, q⟩
  subst ex
  obtain ⟨u1, u2, eu, r1, r2⟩ := vals2 r
  subst eu
  cases (show u1 = Value.ref a from r1)
  cases hc.eq r2
  have o : ObjOk X.prog X.w H s.heap a (ErrO C a) := I.hok a _ ha
  obtain ⟨⟨oe, vs, h1, ⟨h2, h3⟩, h4⟩, _⟩ := o
  have J : PySem.W.InstAt s.heap a oe C none := by
    constructor
    · exact h1
    · exact h2
    · obtain ⟨oc, od, dt, sl⟩ := oe
      cases (show dt = .fields vs from h4)
      rfl
    · rw [h3]
      exact trivial
  exact PySem.W.kia_one (PySem.W.handS_kitx_exc E.hg E.hk E.hs E.hd E.ha E.hn E.ht E.hm) I.kIn J k (fun z => nomatch z) fun tk => ⟨.bl b, H, I.tok tk, rfl, q⟩
def opIsE (tab : List (Str × Bool)) : OV → Option OV
  | .fz .non => some (.fz (.bl false))
  | .fz (.exc c) => (tab.lookup c).map fun b => .fz (.bl b)
  | _ => none
theorem lookup_mem {α β : Type} [BEq α] [LawfulBEq α] : ∀ {l : List (α × β)} {a : α} {b : β}, l.lookup a = some b → (a, b) ∈ l
  | [], _, _, h => nomatch h
  | (k, v) :: l, a, b, h => by
    unfold List.lookup at h
    cases e : a == k with
    | true =>
      rw [e] at h
      cases h
      rw [beq_iff_eq.mp e]
      exact List.mem_cons_self
    | false =>
      rw [e] at h
      exact List.mem_cons_of_mem _ (lookup_mem h)
section
variable {X : Cx} {W : WX} {e : Expr} {f : DE} {p p2 pos : Pos} {x : Str} {tab : List (Str × Bool)}
theorem je_isG {c : V} {u : Value} (he : JE X W e f) (hc : PE X (.Name x p2) (tC c)) (k : ClsV c u) (hn : PySem.W.kitOne X.K (.type "NoneType") u = some false) (ht : ∀ c b, (c, b) ∈ tab → ∀ C, X.mg c = some (.ref C) → ExcC X.K C ∧ PySem.W.kitOne X.K (.ref C) u = some b) (hm : X.mg "isinstance" = none) (hg : Gl X "isinstance" := by rfl)
    (hs : starEach [e, .Name x p2] X.env = (false, eval e X.env) :: starEach [.Name x p2] X.env := by rfl) (hs2 : starEach [.Name x p2] X.env = (false, eval (.Name x p2) X.env) :: starEach [] X.env := by rfl) (hpl : (backTo pos (starEach [.Name x p2] X.env)).any (·.1) = false := by rfl) (hbi : bootBuiltins "isinstance" = some (.builtin "isinstance") := by rfl) :
    JE X W (.Call (.Name "isinstance" p) [e, .Name x p2] [] pos) (dUn (opIsE tab) f) := by
  refine PE.imp (pe_callB ((call_isi (X := X)).or call_isX) hg hm hbi (pa_cons he (pa_cons hc pa_nil hs2) hs) (by decide) (by decide) hs hpl) fun σ H Q ⟨G, Z, env, T2, r, q⟩ => ?_
  refine tE.bind r Sb.refl q fun y w H1 _ s1 ⟨F, C1, C2, r1⟩ p1 => ?_
  obtain ⟨o, eo, kk⟩ := r1.fin Sb.refl.cons p1
  have b : Bor X.mg F H1 y.ov w := r1.bor List.mem_cons_self
  unfold opIsE at eo
  split at eo
  · rename_i ey
    cases eo
    rw [ey] at b
    have ew : w = .non := b.fz
    exact .inl ⟨w, c, .type "NoneType", u, false, rfl, k, by rw [ew]; exact .base .non, hn, kk _ _ (New.bl r1.fh)⟩
  · rename_i cn ey
    obtain ⟨bb, eb, rfl⟩ := Option.map_eq_some_iff.mp eo
    rw [ey] at b
    obtain ⟨a, C, ew, m, ha⟩ := b.fz
    obtain ⟨q1, q2⟩ := ht cn bb (lookup_mem eb) C m
    exact .inr ⟨a, C, c, u, bb, by rw [ew], r1.fh _ _ ha, k, q1, q2, kk _ _ (New.bl r1.fh)⟩
  · cases eo
theorem je_isE (tab : List (Str × Bool)) (he : JE X W e f) (EK : ErrK X.K) (E : ErrC X.K X.mg x) (ht : ∀ q ∈ tab, ErrC X.K X.mg q.1 ∧ ErrP X.K X.mg q.1 x q.2) (hm : X.mg "isinstance" = none) (hgx : Gl X x := by rfl) (hdb : (x == ("__debug__" : Str)) = false := by decide) (hg : Gl X "isinstance" := by rfl)
    (hs : starEach [e, .Name x p2] X.env = (false, eval e X.env) :: starEach [.Name x p2] X.env := by rfl) (hs2 : starEach [.Name x p2] X.env = (false, eval (.Name x p2) X.env) :: starEach [] X.env := by rfl) (hpl : (backTo pos (starEach [.Name x p2] X.env)).any (·.1) = false := by rfl) :
    JE X W (.Call (.Name "isinstance" p) [e, .Name x p2] [] pos) (dUn (opIsE tab) f) := by
  obtain ⟨D, gD, E⟩ := E
  refine je_isG (c := .ref D) he (pe_glob hgx gD rfl hdb) (.own D) (E.kit E.sn) (fun c b h C m => ?_) hm hg hs hs2 hpl
  obtain ⟨⟨C', m', E'⟩, P⟩ := ht _ h
  have e : C' = C := by
    have := m'.symm.trans m
    cases this
    rfl
  subst e
  exact ⟨E'.exc EK, E.kit (P C' D m gD)⟩
theorem boot_VE : bootBuiltins "ValueError" = some (.type "ValueError") := by decide +kernel
theorem je_isV (tab : List Str) (he : JE X W e f) (EK : ErrK X.K) (ht : ∀ q ∈ tab, ErrC X.K X.mg q) (hm : X.mg "isinstance" = none) (hmv : X.mg "ValueError" = none) (hgx : Gl X "ValueError" := by rfl) (hg : Gl X "isinstance" := by rfl)
    (hs : starEach [e, .Name "ValueError" p2] X.env = (false, eval e X.env) :: starEach [.Name "ValueError" p2] X.env := by rfl) (hs2 : starEach [.Name "ValueError" p2] X.env = (false, eval (.Name "ValueError" p2) X.env) :: starEach [] X.env := by rfl) (hpl : (backTo pos (starEach [.Name "ValueError" p2] X.env)).any (·.1) = false := by rfl) :
    JE X W (.Call (.Name "isinstance" p) [e, .Name "ValueError" p2] [] pos) (dUn (opIsE (tab.map fun c => (c, true))) f) := by
  refine je_isG (c := .ty "ValueError") he (pe_bltn (v := .ty "ValueError") hgx hmv boot_VE rfl (by decide) (by decide)) (.ty "ValueError") (kit_ty (by decide +kernel)) (fun c b h C m => ?_) hm hg hs hs2 hpl
  obtain ⟨q, hq, e⟩ := List.mem_map.mp h
  cases e
  obtain ⟨C', m', E'⟩ := ht _ hq
  have e : C' = C := by
    have := m'.symm.trans m
    cases this
    rfl
  subst e
  exact ⟨E'.exc EK, E'.kitV⟩
end
end J
namespace J
open PySem PySem.Spec PyProof.Rows L2
end J
set_option maxHeartbeats 4000000
namespace J
open PySem PySem.Spec PyProof.Rows L2
section
variable {X : Cx} {W : WX} {pos p1 p2 p3 : Pos} {e k k2 : Expr} {fk fj fe : DE} {x : Str}
end
end J
namespace J
open PySem PySem.Spec PyProof.Rows L2
theorem OwnK.keys {M : Str → Option Value} {F : Hp} : ∀ {kvs : List (Key × OV)} {ws : List (Key × V)} {L : Cells}, OwnK M F kvs ws L → ws.map (·.1) = kvs.map (·.1)
  | [], _, _, h => by rw [h.1]; rfl
  | (k, x) :: r, _, _, ⟨v, rs, A, B, e, _, q, _⟩ => by rw [e, List.map_cons, List.map_cons, q.keys]
section
variable {X : Cx} {e : Expr} {p pos apos cpos : Pos}
end
end J
namespace J
open PySem PySem.Spec PyProof.Rows L2
theorem FDenK.mem {M : Str → Option Value} {F : Hp} : ∀ {kvs : List (Key × FV)} {ws : List (Key × V)}, FDenK M F kvs ws → ∀ p ∈ ws, ∃ x, (p.1, x) ∈ kvs ∧ FDen M F x p.2
  | [], _, h, p, hp => by rw [show _ = [] from h] at hp; cases hp
  | (k, x) :: r, _, ⟨v, rs, e, d, q⟩, p, hp => by
    rw [e] at hp
    rcases List.mem_cons.mp hp with rfl | hp
    · exact ⟨x, List.mem_cons_self, d⟩
    · obtain ⟨y, h1, h2⟩ := q.mem p hp
      exact ⟨y, List.mem_cons_of_mem _ h1, h2⟩
theorem FDenK.at_ {M : Str → Option Value} {F : Hp} {k : Key} {x : FV} : ∀ {kvs : List (Key × FV)} {ws : List (Key × V)}, FDenK M F kvs ws → lookK kvs k = some x → ∃ v, valV ws k = some v ∧ FDen M F x v
  | [], _, _, h => by simp [lookK] at h
  | (j, y) :: r, _, ⟨v, rs, e, d, q⟩, h => by
    subst e
    rw [lookK_cons] at h
    by_cases hj : j = k
    · rw [if_pos hj] at h
      cases h
      exact ⟨v, valV_pos hj, d⟩
    · rw [if_neg hj] at h
      obtain ⟨w, h1, h2⟩ := q.at_ h
      exact ⟨w, by rw [valV_neg hj]; exact h1, h2⟩
theorem FDenK.len {M : Str → Option Value} {F : Hp} : ∀ {kvs : List (Key × FV)} {ws : List (Key × V)}, FDenK M F kvs ws → ws.length = kvs.length
  | [], _, h => by rw [show _ = [] from h]; rfl
  | _ :: _, _, ⟨v, rs, e, _, q⟩ => by rw [e, List.length_cons, List.length_cons, q.len]
end J
namespace J
open PySem PySem.Spec PyProof.Rows L2
theorem tA.bindS {M : Str → Option Value} {G Z H : Hp} {σ : Sl} {env : VEnv} {T : List (V × Rv)} {W : WX} {D : Ends} {f : VEnv → Ans (List Rv)} {k : List Rv → Ans SO} {Q1 : List V → Hp → Prop} (r : R M G Z H σ env T) (p : PostS M W G Z T D ((f env).bind k))
    (h : ∀ rs vs H1, f env = .ok rs → vs.length = rs.length → Same H H1 → R M G Z H1 σ env (vs.zip rs ++ T) → PostS M W G Z T D (k rs) → Q1 vs H1) : tA M W f σ H Q1 := by
  refine ⟨G, Z, env, T, r, ?_⟩
  cases e : f env with
  | ok rs =>
    rw [e] at p
    exact fun vs H1 hl s r => h rs vs H1 e hl s r p
  | ex c =>
    rw [e] at p
    exact fun C H1 m s ⟨_, _, _, r⟩ => p C σ H1 m r.zh
  | no => rw [e] at p; exact p
section
variable {X : Cx} {W : WX} {a b : Expr} {f g : DE} {x y : Str} {px py pt pos : Pos} {kt k2 : Nat} {pt2 : Pos}
end
section
variable {X : Cx} {pos p1 p2 p3 : Pos} {x y z : Str}
end
end J
set_option maxHeartbeats 4000000
namespace J
open PySem PySem.Spec PyProof.Rows L2
section
variable {X : Cx} {W : WX} {x z : Str} {pos px apos cpos tpos zp ap : Pos} {elts : List Expr} {kk : Nat} {ee : Expr} {t : TgF} {fe : DE} {vs : List Nat}
end
end J
set_option maxHeartbeats 4000000
namespace J
open PySem PySem.Spec PyProof.Rows L2
def ClC (K : PySem.W.Frag) (mg : Str → Option Value) (c : Str) : Prop := ∀ C, mg c = some (.ref C) → Cls K C
def ClF (K : PySem.W.Frag) (mg : Str → Option Value) (c f : Str) : Prop := ∀ C, mg c = some (.ref C) → NoAttr K C f
theorem ClC.mk' {K : PySem.W.Frag} {mg : Str → Option Value} {c : Str} {C : Addr} (h : mg c = some (.ref C)) (k : Cls K C) : ClC K mg c := fun C' e => by
  rw [h] at e
  cases e
  exact k
theorem ClF.mk' {K : PySem.W.Frag} {mg : Str → Option Value} {c f : Str} {C : Addr} (h : mg c = some (.ref C)) (k : NoAttr K C f) : ClF K mg c f := fun C' e => by
  rw [h] at e
  cases e
  exact k
def putA (f : Str) (o : OV) : List (Str × OV) → List (Str × OV)
  | [] => [(f, o)]
  | p :: r => if p.1 = f then (p.1, o) :: r else p :: putA f o r
section
variable {M : Str → Option Value} {G Z H F : Hp} {o p p' q q' : OV} {v y : V} {i : Nat} {L B : Cells} {a : Addr} {ho ho' : HO} {f : Str}
theorem look_cons {α : Type} (k f : Str) (x : α) (r : List (Str × α)) : List.lookup f ((k, x) :: r) = if k = f then some x else List.lookup f r := by
  by_cases h : k = f
  · have hb : (f == k) = true := beq_iff_eq.mpr h.symm
    simp only [List.lookup, hb, if_pos h]
  · have hb : (f == k) = false := beq_eq_false_iff_ne.mpr (fun e => h e.symm)
    simp only [List.lookup, hb, if_neg h]
theorem FDenA.get {fs : List (Str × FV)} {ws : List (Str × V)} {x : FV} (h : FDenA M F fs ws) (e : fs.lookup f = some x) : ∃ w, ws.lookup f = some w ∧ FDen M F x w := by
  induction fs generalizing ws with
  | nil => cases e
  | cons z fs ih =>
    obtain ⟨k, z⟩ := z
    obtain ⟨v, rs, ew, d, r⟩ := h
    subst ew
    rw [look_cons] at e ⊢
    by_cases hk : k = f
    · rw [if_pos hk] at e ⊢
      cases e
      exact ⟨v, rfl, d⟩
    · rw [if_neg hk] at e ⊢
      exact ih r e
theorem OwnA.length {fs : List (Str × OV)} {ws : List (Str × V)} (h : OwnA M F fs ws L) : ws.length = fs.length := by
  induction fs generalizing ws L with
  | nil => rw [h.1]; rfl
  | cons z fs ih =>
    obtain ⟨k, z⟩ := z
    obtain ⟨v, rs, A, C, e, d, r, _⟩ := h
    subst e
    rw [List.length_cons, List.length_cons, ih r]
theorem OwnA.put {fs : List (Str × OV)} {ws : List (Str × V)} (h : OwnA M F fs ws L) (d : Own M F o y B) : ∃ D A L', L.Perm (A ++ D) ∧ OwnA M F (putA f o fs) (putF f y ws) L' ∧ L'.Perm (A ++ B) := by
  induction fs generalizing ws L with
  | nil =>
    obtain ⟨e1, e2⟩ := h
    subst e1 e2
    exact ⟨[], [], B, .refl _, ⟨y, [], B, [], rfl, d, ⟨rfl, rfl⟩, by simp⟩, .refl _⟩
  | cons z fs ih =>
    obtain ⟨k, z⟩ := z
    obtain ⟨v, rs, A, C, ew, dz, r, eL⟩ := h
    subst ew eL
    unfold putA putF
    by_cases hk : k = f
    · rw [if_pos hk, if_pos hk]
      exact ⟨A, C, B ++ C, List.perm_append_comm, ⟨y, rs, B, C, rfl, d, r, rfl⟩, List.perm_append_comm⟩
    · rw [if_neg hk, if_neg hk]
      obtain ⟨D, A2, L', q1, q2, q3⟩ := ih r
      refine ⟨D, A ++ A2, A ++ L', ?_, ⟨v, _, A, L', rfl, dz, q2, rfl⟩, ?_⟩
      · rw [List.append_assoc]; exact List.Perm.append_left A q1
      · rw [List.append_assoc]; exact List.Perm.append_left A q3
end
section
variable {X : Cx} {W : WX} {pos p apos : Pos} {c f mn x : Str} {e o : Expr} {es : List Expr} {fo fe : DE} {g : VEnv → Ans (List Rv)} {m : FM} {k kk n : Nat}
open Classical in
open Classical in
end
section
variable {M : Str → Option Value} {G Z H F : Hp} {o q q' : OV} {v y : V} {i : Nat} {L B : Cells} {f c : Str} {t : Option Addr} {fs : List (Str × OV)}
end
section
variable {X : Cx} {W : WX} {pos pos' tpos p : Pos} {c f x : Str} {e k : Expr} {fk fe : DE}
end
def endI (x : Addr) (env : VEnv) : Ans OV := match env[(0 : Nat)]? with
  | some (some (.ob c' (some x') fs)) => if x' = x then .ok (.ob c' none fs) else .no
  | _ => .no
section
variable {P : Program} {w : World} {K : PySem.W.Frag} {mg : Str → Option Value} {base : Heap}
end
end J
namespace J
open PySem PySem.Spec PyProof.Rows L2
section
variable {X : Cx} {pos p1 p2 p3 p4 : Pos} {x y z u : Str}
end
end J
set_option maxHeartbeats 4000000
namespace J
open PySem PySem.Spec PyProof.Rows L2
section
variable {X : Cx} {W : WX} {x y : Str} {p1 p2 pos : Pos}
end
section
variable {X : Cx}
end
section
variable {X : Cx} {W : WX} {x y : Str} {j : Nat} {e e2 : Expr} {f : DE} {np p1 p3 pos pos' pe : Pos} {L : List Str} {u : V} {z : FV}
end
end J
namespace J
open PySem PySem.Spec PyProof.Rows L2
theorem set_same {env : VEnv} {i : Nat} {o : Option OV} (h : env[i]? = some o) : env.set i o = env := by
  obtain ⟨hl, rfl⟩ := List.getElem?_eq_some_iff.mp h
  exact List.set_getElem_self hl
section
variable {X : Cx} {W : WX} {pos pos' apos spos cpos : Pos} {e k : Expr} {f fk fe : DE} {x : Str}
end
end J
namespace J
open PySem PySem.Spec PyProof.Rows L2
section
variable {X : Cx} {W : WX} {pos pos' apos spos cpos : Pos} {e k : Expr} {x : Str}
end
end J
namespace J
open PySem PySem.Spec PyProof.Rows L2
section
variable {X : Cx} {W : WX} {st : Stmt} {f : DS}
end
end J
namespace J
open PySem PySem.Spec PyProof.Rows L2 RZ
section
variable {M : Model} {A : Around} {E : Value → Shared → Prop} {s : Shared} {env : Env}
def BlkEnd (M : Model) (A : Around) (E : Value → Shared → Prop) (use : Option (Value → Sem Unit)) (Q : Value → Shared → Prop) (scope : Scope) (env : Env) (acc : Value) (cenv : Env) (r : Result) (s' : Shared) : Prop :=
  match r, use with
  | .ok _, none => ∃ m, s'.heap.Ns cenv.locals m ∧ ∀ h', Heap.SameBut cenv.locals s'.heap h' → Q acc { s' with heap := h' }
  | .ok _, some f => wpAny M A (f acc) (fun _ t => ∃ m, t.heap.Ns cenv.locals m ∧ ∀ h', Heap.SameBut cenv.locals t.heap h' → Q .none { t with heap := h' }) E s'
  | .error x, _ => ∃ m, s'.heap.Ns cenv.locals m ∧ ∀ h', Heap.SameBut cenv.locals s'.heap h' → wpAny M A (passOn "comprehension.variables-let-go" x { cenv with scope := relabel scope env } : Sem Value) (fun _ _ => False) E { s' with heap := h' }
theorem comp_both {e : Expr} {scope : Scope} {pos : Pos} {mk first : Sem Value} {g : Comprehension} {gs : List Comprehension} {cl : List (Str × Addr)} {use : Option (Value → Sem Unit)} {Q : Value → Shared → Prop}
    (clauses : clausesOf e = g :: gs) (fold : ∀ x, foldedSetIterable g.iter env x = pure x) (clo : closureFor scope env = pure cl) (fn : scope.kind = .function) (locals : ∀ x ∈ scope.names, x.2 = .local → scope.names.lookup x.1 = some .local)
    (go : wpAny M A first (fun x t => wpAny M A (pyIter x) (fun it u => wpAny M A mk (fun acc v => wpAny M A (newFunctionEnv scope env.globals cl [] env.qual none .none (some env)) (fun cenv z =>
      codeAny M A (.compStart e 0 it acc { cenv with scope := relabel scope env }) (BlkEnd M A E use Q scope env acc cenv) z) E v) E u) E t) E s) : wpAny M A (comprehension e scope env pos mk false first use) Q E s := by
  unfold comprehension
  rw [clo, clauses]
  have same : ∀ (y : Value) (t : Shared), E y t → E y t := fun _ _ q => q
  refine wpAny_bind (wpAny_mono go (fun x t at_x => ?_) same)
  refine wpAny_bind (wpAny_standAt (wpAny_bind (wpAny_of_eq (fold x) (wpAny_bind (wpAny_holding (wpAny_mono at_x (fun it u at_it => ?_) same))))))
  refine wpAny_standIf (wpAny_bind (wpAny_mono at_it (fun acc v at_acc => ?_) same))
  refine wpAny_bind (wpAny_pure (wpAny_bind (wpAny_mono at_acc (fun cenv z at_env => ?_) same)))
  dsimp only
  have known : ∀ x ∈ (scope.names.filter fun x => (x.2 == .local || x.2 == .cell) && x.1 != (".0" : Str)).reverse, x.2 = .local → Env.kindOf { cenv with scope := relabel scope env } x.1 = some .local := fun x hx hl =>
    lookup_relabel_local (locals x (List.mem_filter.mp (List.mem_reverse.mp hx)).1 hl)
  refine wpAny_holding (wpAny_bind (wpAny_attempt (wpAny_holding (wpAny_run (codeAny_mono at_env fun r t ended => ?_)))))
  have turned : ∀ x ∈ (scope.names.filter fun x => (x.2 == .local || x.2 == .cell) && x.1 != (".0" : Str)).reverse.drop 1 ++ (scope.names.filter fun x => (x.2 == .local || x.2 == .cell) && x.1 != (".0" : Str)).reverse.take 1, x.2 = .local → Env.kindOf { cenv with scope := relabel scope env } x.1 = some .local := fun x hx hl =>
    (List.mem_append.mp hx).elim (fun q => known x (List.mem_of_mem_drop q) hl) fun q => known x (List.mem_of_mem_take q) hl
  cases r with
  | ok f =>
    cases use with
    | none =>
      obtain ⟨m, ns, ended⟩ := ended
      exact wpAny_bind (wpAny_holding (wpAny_comp_letGo (cenv := { cenv with scope := relabel scope env }) fn _ t m known ns fun h' _ _ sb => wpAny_pure (ended h' sb)))
    | some f =>
      refine wpAny_bind (wpAny_rule (wpAny_bind (wpAny_holding (wpAny_mono ended (fun _ t2 ended2 => ?_) same))))
      obtain ⟨m, ns, ended2⟩ := ended2
      exact wpAny_bind (wpAny_comp_letGo (cenv := { cenv with scope := relabel scope env }) fn _ t2 m turned ns fun h' _ _ sb => wpAny_pure (ended2 h' sb))
  | error x =>
    have ended : ∃ m, t.heap.Ns cenv.locals m ∧ ∀ h', Heap.SameBut cenv.locals t.heap h' → wpAny M A (passOn "comprehension.variables-let-go" x { cenv with scope := relabel scope env } : Sem Value) (fun _ _ => False) E { t with heap := h' } := by cases use <;> exact ended
    obtain ⟨m, ns, ended⟩ := ended
    exact wpAny_bind (wpAny_holding (wpAny_comp_letGo (cenv := { cenv with scope := relabel scope env }) fn _ t m known ns fun h' _ _ sb => wpAny_mono (ended h' sb) (fun _ _ f => f.elim) same))
end
section
variable {M : Model} {A : Around} {E : Value → Shared → Prop} {s : Shared} {Z : Obj → Prop} {base : Heap} {env env2 : Env} {outer : List Env} {L a : Addr}
theorem note_same (h : env2.frame = env.frame) (v : Value) : noteFrame v env2 = noteFrame v env := by
  unfold noteFrame PySem.frameOf
  rw [h]
theorem note_any {fl : Value} {Q : Unit → Shared → Prop} (hZ : HandSPX.Steady Z) (frames : A.frames = some (env :: outer)) (here : env.frame = some L) (stays : base.StaysIn s.heap) (new : base.get? a = none) (fun_ : s.heap.FunFrames base (env :: outer)) (tr : HandSPX.TracedZ s.heap base a Z fl) (ne : (fl == rawInt L) = false)
    (hQ : ∀ h', HandSPX.HeldZ base (env :: outer) a Z L h' → s.heap.UpToSlots h' → Q () { s with heap := h' }) : wpAny M A (noteFrame (.ref a) env) Q E s := by
  obtain ⟨ob, vs, T, oT, ts, at_a, z, ob_d, head, freshT, apart, at_T, T_d, flight⟩ := tr
  have else_ : ∀ b, b ≠ T → (s.heap.update T (Obj.mapFields (·.setIfInBounds 3 Value.none))).get? b = s.heap.get? b := fun b q => Heap.get?_update_other _ _ (Ne.symm q)
  have notT : ∀ b o, s.heap.get? b = some o → (∀ vs, o.data ≠ .fields vs) → b ≠ T := fun b o q nf e => by
    subst e
    rw [at_T] at q
    cases q
    exact nf ts T_d
  unfold noteFrame
  simp only [here]
  refine wpAny_bind (wpAny_field at_a ob_d head ?_)
  rw [if_pos (show (Value.ref T != Value.none) = true by simp)]
  refine wpAny_bind (wpAny_field at_T T_d flight ?_)
  rw [ne, if_neg Bool.false_ne_true]
  refine wpAny_bind (wpAny_setField at_T T_d (Array.getElem?_eq_some_iff.mp flight).1 ?_)
  have stays2 : base.StaysIn (s.heap.update T (Obj.mapFields (·.setIfInBounds 3 Value.none))) := fun b o q => (else_ b fun e => by rw [e, freshT] at q; cases q).trans (stays b o q)
  refine HandSPX.wpAny_entryZ hZ frames (fun_.of_keeps fun b o q nf => ⟨o, (else_ b (notT b o q nf)).trans q, rfl⟩) here ((else_ a (Ne.symm apart)).trans at_a) stays2 new ob_d (Array.getElem?_eq_some_iff.mp head).1 z fun h' ⟨x1, x2, x3, x4⟩ => ?_
  exact hQ h' ⟨x1, new, x2, x3⟩ fun b o q nf => x4 b o ((else_ b (notT b o q nf)).trans q) nf
theorem sky_note {C : Addr} {Q : Unit → Shared → Prop} (hZ : HandSPX.Steady Z) (frames : A.frames = some (env :: outer)) (here : env.frame = some L) (apart : C ≠ L) (sky : Sky base (env :: outer) a Z C s.heap)
    (hQ : ∀ h', HandSPX.HeldZ base (env :: outer) a Z L h' → s.heap.UpToSlots h' → Q () { s with heap := h' }) : wpAny M A (noteFrame (.ref a) env) Q E s := by
  rcases sky with ⟨x1, x2, x3, ob, vs, y1, y2, y3, y4⟩ | fly | held
  · exact HandSPX.look_newZ hZ frames x3 here y1 x1 x2 y3 y4 y2 hQ
  · exact HandSPX.looks_onZ hZ frames here fly hQ
  · obtain ⟨x1, x2, x3, x4⟩ := held
    refine note_any hZ frames here x1 x2 x3 x4 ?_ hQ
    refine beq_eq_false_iff_ne.mpr fun e => apart ?_
    unfold rawInt at e
    injection e with e
    exact Int.ofNat_inj.mp e
theorem held_but {C : Addr} {h h' : Heap} {l : List Env} (held : HandSPX.HeldZ base l a Z L h) (sb : Heap.SameBut C h h') (ns : ∃ m, h.Ns C m) (out : C ∉ frs l) : HandSPX.HeldZ (PySem.W.hideAll base [C]) l a Z L h' := by
  obtain ⟨x1, x2, x3, ob, vs, T, oT, ts, y1, y2, y3, y4, y5, y6, y7, y8, y9⟩ := held
  obtain ⟨m, oC, es, ep, z1, z2, _⟩ := ns
  have hid : ∀ b o, (PySem.W.hideAll base [C]).get? b = some o → b ≠ C ∧ base.get? b = some o := fun b o q => ⟨fun e => (by
    rw [PySem.W.hideAll_none [C] (by rw [e]; exact List.mem_singleton_self C)] at q
    cases q), PySem.W.of_hideAll _ q⟩
  have none_ : ∀ b, base.get? b = none → (PySem.W.hideAll base [C]).get? b = none := fun b q => by
    cases e : (PySem.W.hideAll base [C]).get? b with
    | none => rfl
    | some o => rw [(hid b o e).2] at q; cases q
  have notC : ∀ b o vs, h.get? b = some o → o.data = .fields vs → b ≠ C := fun b o vs q d e => by
    rw [e, z1] at q
    cases q
    rw [z2] at d
    cases d
  refine ⟨fun b o q => (sb.2 b (hid b o q).1).trans (x1 b o (hid b o q).2), none_ a x2, ?_, ob, vs, T, oT, ts, (sb.2 a (notC a ob vs y1 y3)).trans y1, y2, y3, y4, none_ T y5, y6, (sb.2 T (notC T oT ts y7 y8)).trans y7, y8, y9⟩
  clear y1
  revert out x3
  induction l with
  | nil => exact fun _ _ => trivial
  | cons e l ih =>
    intro out x3
    obtain ⟨q1, ⟨K, o, q2, q3, q4, q5⟩, q6⟩ := x3
    have mem : frs (e :: l) = K :: frs l := by unfold frs; rw [List.filterMap_cons, q2]
    rw [mem, List.mem_cons, not_or] at out
    exact ⟨q1, ⟨K, o, q2, none_ K q3, (sb.2 K (fun z => out.1 z.symm)).trans q4, q5⟩, ih out.2 q6⟩
end
section
variable {X : Cx} {pins : List (Addr × Obj)} {σ : L2.St} {H3 : Hp} {s3 : Shared} {scope : Scope} {fp : List Addr} {W : WX} {use : Option (Value → Sem Unit)} {Q : Value → Shared → Prop}
abbrev blkX (X : Cx) (s : Shared) (H : Hp) (scope : Scope) (ce : Env) (fp : List Addr) (xe : Value → Shared → Prop) : Cx := { X.blk s H scope ce fp with xe := xe }
theorem blk_error (tk : Takes X W) (hs : X.stack = X.env :: X.outer) (hf : X.env.frame = some X.env.locals) (I3 : L2.Inv X pins σ H3 s3) {ce cenv : Env} (ce_l : ce.locals = s3.heap.objs.size) (ce_f : ce.frame = X.env.frame) (same : { cenv with scope := relabel scope X.env } = ce) (cl : cenv.locals = ce.locals)
    (f3 : ∀ b ∈ fp, FpOk X pins H3 b) {xe : Value → Shared → Prop} {u acc : Value} {s' : Shared} (x : XE (blkX X s3 H3 scope ce fp xe) (fun c d _ H => W c d σ H) u s') :
    notedBy (model X.prog X.w) X.A ce (fun e t => BlkEnd (model X.prog X.w) X.A X.xe use Q scope X.env acc cenv (.error e) t) u s' := by
  obtain ⟨a, B, sI, pins8, σ8, H8, cls, d, rfl, I8, nb, up, sky, na, os, ag, w⟩ := x
  have frames : X.A.frames = some (X.env :: X.outer) := by rw [I3.ok.frames, hs]
  have sky : Sky B (X.env :: X.outer) a (Zc cls d) ce.locals s'.heap := by
    have : Sky B X.stack a (Zc cls d) ce.locals s'.heap := sky
    rwa [hs] at this
  have above : X.env.locals ≠ ce.locals := by
    rw [ce_l]
    exact Nat.ne_of_lt I3.lt
  have outC : ce.locals ∉ frs X.stack := fun hm => by
    obtain ⟨_, o, q, _⟩ := I3.stack.mem hm
    rw [ce_l] at q
    exact absurd (Heap.lt_size q) (Nat.lt_irrefl _)
  have free : H8 ce.locals = none := I8.free
  obtain ⟨m0, ns0, _⟩ := I8.loc
  have ns0 : sI.heap.Ns ce.locals m0 := ns0
  unfold notedBy
  rw [note_same ce_f]
  refine sky_note Zc.steady frames hf (fun e => above e.symm) sky fun h1 held up1 => ?_
  have ns1 : h1.Ns ce.locals m0 := (up.trans up1).ns ns0
  show BlkEnd (model X.prog X.w) X.A X.xe use Q scope X.env acc cenv (.error (.ref a)) { s' with heap := h1 }
  suffices fin : ∃ m, h1.Ns cenv.locals m ∧ ∀ h', Heap.SameBut cenv.locals h1 h' → wpAny (model X.prog X.w) X.A (passOn "comprehension.variables-let-go" (.ref a) { cenv with scope := relabel scope X.env } : Sem Value) (fun _ _ => False) X.xe { s' with heap := h' } by cases use <;> exact fin
  refine ⟨m0, by rw [cl]; exact ns1, fun h2 sb => ?_⟩
  rw [cl] at sb
  have held2 := held_but held sb ⟨m0, ns1⟩ (by rw [← hs]; exact outC)
  show wpAny (model X.prog X.w) X.A (passOn "comprehension.variables-let-go" (.ref a) { cenv with scope := relabel scope X.env } : Sem Value) (fun _ _ => False) X.xe { s' with heap := h2 }
  rw [same]
  have ⟨_, _, _, ob, vs, T, _, _, y1, _, y3, y4, _⟩ := held2
  unfold PySem.passOn
  refine wpAny_bind (wpAny_field (s := { s' with heap := h2 }) y1 y3 y4 ?_)
  rw [if_neg (show ¬ ((Value.ref T == Value.none) = true) by simp)]
  refine wpAny_bind ?_
  rw [ce_f, hf]
  refine HandSPX.setFlight_onZ (s := { s' with heap := h2 }) held2 fun h4 held4 up4 => wpAny_throw (tk _ _ ?_)
  have hid : ∀ b o, (PySem.W.hideAll sI.heap [ce.locals]).get? b = some o → b ≠ ce.locals ∧ sI.heap.get? b = some o := fun b o q => ⟨fun e => (by
    rw [PySem.W.hideAll_none [ce.locals] (by rw [e]; exact List.mem_singleton_self _)] at q
    cases q), PySem.W.of_hideAll _ q⟩
  have kept : ∀ b o, b ≠ ce.locals → sI.heap.get? b = some o → (PySem.W.hideAll sI.heap [ce.locals]).get? b = some o := fun b o n q => PySem.W.hideAll_get _ q fun hm => n (List.mem_singleton.mp hm)
  have low : ∀ b o, s3.heap.get? b = some o → b ≠ ce.locals := fun b o q e => by
    have := Heap.lt_size q
    rw [e, ce_l] at this
    exact Nat.lt_irrefl _ this
  have un : Un (frs X.stack) fp H3 H8 s3.heap sI.heap := I8.base
  have hok : HOk X.prog X.w H8 (PySem.W.hideAll sI.heap [ce.locals]) := fun b o q => (I8.hok b o q).stay (fun c v hc r => kept c v (fun e => by
    rw [e] at hc
    rcases hc with hc | hc
    · rw [← hc] at q
      rw [free] at q
      cases q
    · rw [free] at hc
      cases hc) r) (fun _ r => r) fun _ _ r => r
  have I7 : L2.Inv X pins σ H8 { sI with heap := PySem.W.hideAll sI.heap [ce.locals] } := I3.call' (ch := fp) (s' := { sI with heap := PySem.W.hideAll sI.heap [ce.locals] }) I8.os
    ⟨fun b o q n nf ne => kept b o (low b o q) (un.keep b o q n nf ne), fun b o q n nf ne => by
      obtain ⟨sl, e⟩ := un.slot b o q n nf ne
      exact ⟨sl, kept b _ (low b o q) e⟩, un.free, fun b o q ne => by
      obtain ⟨o', e⟩ := un.there b o q ne
      exact ⟨o', kept b o' (low b o q) e⟩, un.tups, un.frzs, un.tbls⟩ hok I8.bare fun b hb => ⟨(f3 b hb).2.2.2.1, (f3 b hb).2.1, (f3 b hb).2.2.2.2.1, (f3 b hb).2.2.2.2.2⟩
  refine ⟨a, PySem.W.hideAll B [ce.locals], { sI with heap := PySem.W.hideAll sI.heap [ce.locals] }, pins, σ, H8, cls, d, rfl, I7, fun b o q nf => ?_, fun b o q nf => ?_, .inr (.inr (by rw [hs]; exact held4)), na, os, ag, w⟩
  · obtain ⟨n, q⟩ := hid b o q
    exact PySem.W.hideAll_get _ (nb b o q nf) fun hm => n (List.mem_singleton.mp hm)
  · obtain ⟨n, q⟩ := hid b o q
    obtain ⟨sl, e⟩ := (up.trans up1) b o q nf
    obtain ⟨sl2, e2⟩ := up4 b _ ((sb.2 b n).trans e) nf
    exact ⟨sl2, e2⟩
end
section
variable {X : Cx} {W : WX} {elt tg iter : Expr} {ifs : List Expr} {scope : Scope} {own : List (Str × Nat)} {pos : Pos} {wi : TI} {g : TG} {tt : WX → TT} {te : WX → TE}
abbrev outW (W : WX) (σ : L2.St) : WX := fun c d _ H => W c d σ H
theorem lcE_core {pins : List (Addr × Obj)} {s : Shared} {σ : L2.St} {H : Hp} {Q : VK} {pos' : Pos} {use : Option (Value → Sem Unit)} {Qf : Value → Shared → Prop} (hc : X.calm = true) (hN : X.N.Nodup) (tk : Takes X W) (hs : X.stack = X.env :: X.outer) (hf : X.env.frame = some X.env.locals) (hi : PI X tg iter wi) (ok : BlkOk X.N X.env.scope scope own)
    (hg : ∀ (s : Shared) (H : Hp) (C : Addr) (cl : List (Str × Addr)) (fp : List Addr) (xe : Value → Shared → Prop), PG (blkX X s H scope (compEnvC scope cl C X.env) fp xe) tg g)
    (ht : ∀ (s : Shared) (H : Hp) (C : Addr) (cl : List (Str × Addr)) (fp : List Addr) (xe : Value → Shared → Prop) (V : WX), Takes (blkX X s H scope (compEnvC scope cl C X.env) fp xe) V → PTs (blkX X s H scope (compEnvC scope cl C X.env) fp xe) ifs (tt V))
    (he : ∀ (s : Shared) (H : Hp) (C : Addr) (cl : List (Str × Addr)) (fp : List Addr) (xe : Value → Shared → Prop) (V : WX), Takes (blkX X s H scope (compEnvC scope cl C X.env) fp xe) V → PE (blkX X s H scope (compEnvC scope cl C X.env) fp xe) elt (te V))
    (fold : ∀ x, foldedSetIterable iter X.env x = pure x) (I : L2.Inv X pins σ H s) (todo : tLc wi g (tt (outW W σ)) (te (outW W σ)) (own.map (·.2)) σ H Q)
    (fin : ∀ D cenv s' m H', L2.Inv X pins σ H' s' → Q (.ref D) H' → s'.heap.Ns cenv.locals m → FpOk X pins H' cenv.locals → BlkEnd (model X.prog X.w) X.A X.xe use Qf scope X.env (.ref D) cenv (.ok .next) s') :
    wpAny (model X.prog X.w) X.A (comprehension (.ListComp elt [⟨tg, iter, ifs, 0⟩] scope pos) scope X.env pos' (newList []) false (eval iter X.env) use) Qf X.xe s := by
  have cells : ∀ y ∈ scope.names, y.2 = .free → ∃ c, X.env.cells.lookup y.1 = some c := fun y hy e => I.ok.has _ (ok.free y hy e)
  refine comp_both rfl fold (closure_ok cells) ok.kind (fun y hy e => by rw [ok.uniq y hy, e]) (thn (hi.run pins s σ H _ I todo) fun src t at_src => thn at_src fun itv u at_it => ?_)
  obtain ⟨it, fp, tn, J, H2, e, I2, T, st2, f2, q⟩ := at_it
  subst e
  refine wpAny_newObj_type (newEnv_comp ?_) (by show 0 ≤ sizeLine; decide)
  generalize eD : u.heap.objs.size = D
  have freeD : H2 D = none := I2.hok.fresh (Nat.le_of_eq eD)
  obtain ⟨Wm, ⟨m0, w0⟩, turn⟩ := q D freeD
  generalize e3 : ({ u with heap := u.heap.push { cls := .type "list", data := .seq ([] : List Value).toArray } } : Shared) = s3
  have heap3 : s3.heap = u.heap.push { cls := .type "list", data := .seq ([] : List Value).toArray } := by rw [← e3]
  have I3 : L2.Inv X pins σ (upd H2 D (.lst [])) s3 := by
    rw [← e3]
    refine I2.laid (t' := u.toks) (fun b o e => Heap.get?_push_of_some _ e) (Nat.le_of_eq eD) ⟨Nat.zero_le _, [], 0, .nil, ?_⟩
    rw [← eD]
    exact Heap.get?_push_size _ rfl
  have f3 : ∀ b ∈ fp, FpOk X pins (upd H2 D (.lst [])) b ∧ b < s3.heap.objs.size := fun b hb => by
    obtain ⟨o, e, _⟩ := T.obj _ _ st2 b hb
    have lt := Heap.lt_size e
    refine ⟨⟨?_, (f2 b hb).2⟩, by rw [heap3, Heap.size_push]; exact Nat.lt_succ_of_lt lt⟩
    rw [upd_ne (by rw [← eD]; exact Nat.ne_of_lt lt)]
    exact (f2 b hb).1
  have st3 : tn 0 s3.heap := T.keep _ _ _ st2 fun b _ o e => by rw [heap3]; exact Heap.get?_push_of_some _ e
  have I4 := block_start I3 ok hN f3
  generalize eH : upd H2 D (.lst []) = H3 at I3 I4 w0 f3
  have noH : ∀ b ∈ fp, H3 b = none := fun b hb => (f3 b hb).1.1
  generalize ec : compEnvC scope (cellsFrom (s3.heap.objs.size + 1) scope.names (cloFrom X.env.cells scope.names [])) s3.heap.objs.size X.env = ce at I4
  have ce_l : ce.locals = s3.heap.objs.size := by subst ec; rfl
  have ce_f : ce.frame = X.env.frame := by subst ec; rfl
  suffices key : ∀ cenv : Env, { cenv with scope := relabel scope X.env } = ce → cenv.locals = ce.locals → codeAny (model X.prog X.w) X.A (.compStart (.ListComp elt [⟨tg, iter, ifs, 0⟩] scope pos) 0 (.ref it) (.ref D) ce) (BlkEnd (model X.prog X.w) X.A X.xe use Qf scope X.env (.ref D) cenv) { s3 with heap := pushCells (s3.heap.push { cls := .type "dict", data := .dict #[] }) scope.names } by
    subst ec
    subst e3
    exact key _ rfl rfl
  intro cenv is_ce same_l
  generalize e4 : ({ s3 with heap := pushCells (s3.heap.push { cls := .type "dict", data := .dict #[] }) scope.names } : Shared) = s4 at I4 ⊢
  have st4 : tn 0 s4.heap := T.keep _ _ _ st3 fun b _ o e => by rw [← e4]; exact pushCells_keeps _ _ _ _ (Heap.get?_push_of_some _ e)
  -- the hand that takes exceptions
  let xe : Value → Shared → Prop := notedBy (model X.prog X.w) X.A ce fun e t => BlkEnd (model X.prog X.w) X.A X.xe use Qf scope X.env (.ref D) cenv (.error e) t
  have takes : Takes (blkX X s3 H3 scope ce fp xe) (outW W σ) := fun v t x => blk_error tk hs hf I3 ce_l ce_f is_ce same_l (fun b hb => (f3 b hb).1) x
  have pg := hg s3 H3 s3.heap.objs.size (cellsFrom (s3.heap.objs.size + 1) scope.names (cloFrom X.env.cells scope.names [])) fp xe
  have pt := ht s3 H3 s3.heap.objs.size (cellsFrom (s3.heap.objs.size + 1) scope.names (cloFrom X.env.cells scope.names [])) fp xe (outW W σ)
  have pe := he s3 H3 s3.heap.objs.size (cellsFrom (s3.heap.objs.size + 1) scope.names (cloFrom X.env.cells scope.names [])) fp xe (outW W σ)
  rw [ec] at pg pt pe
  have pt := pt takes
  have pe := pe takes
  -- the context with the hand is the context without it
  have okX : ∀ {ps : List (Addr × Obj)} {σ' : L2.St} {H' : Hp} {t : Shared}, L2.Inv (X.blk s3 H3 scope ce fp) ps σ' H' t → L2.Inv (blkX X s3 H3 scope ce fp xe) ps σ' H' t := fun i => by
    obtain ⟨⟨o1, o2, o3, o4, o5, o6, o7, o8, o9, o10, o11, o12, o13, o14, o15, o16, o17, o18⟩, i2, i3, i4, i5, i6, i7, i8, i9, i10, i11⟩ := i
    exact ⟨⟨o1, o2, o3, o4, o5, o6, o7, o8, o9, o10, o11, o12, o13, o14, o15, o16, o17, o18⟩, i2, i3, i4, i5, i6, i7, i8, i9, i10, i11⟩
  have okB : ∀ {ps : List (Addr × Obj)} {σ' : L2.St} {H' : Hp} {t : Shared}, L2.Inv (blkX X s3 H3 scope ce fp xe) ps σ' H' t → L2.Inv (X.blk s3 H3 scope ce fp) ps σ' H' t := fun i => by
    obtain ⟨⟨o1, o2, o3, o4, o5, o6, o7, o8, o9, o10, o11, o12, o13, o14, o15, o16, o17, o18⟩, i2, i3, i4, i5, i6, i7, i8, i9, i10, i11⟩ := i
    exact ⟨⟨o1, o2, o3, o4, o5, o6, o7, o8, o9, o10, o11, o12, o13, o14, o15, o16, o17, o18⟩, i2, i3, i4, i5, i6, i7, i8, i9, i10, i11⟩
  have stand : ∀ {σ' : L2.St} {H' : Hp} {t : Shared}, L2.Inv (X.blk s3 H3 scope ce fp) [] σ' H' t → (∀ b ∈ fp, H' b = none) → ∀ b ∈ fp, FpOk (X.blk s3 H3 scope ce fp) [] H' b := fun {σ' H' t} i hn b hb =>
    ⟨hn b hb, (i.ok.exf b hb).1, i.ok.exfs b hb, .inl hb, fun x c e => (i.ok.exf b hb).2 x c e, fun p hp => absurd (show p ∈ ([] : List (Addr × Obj)) ++ [] from hp) (by simp)⟩
  have round : codeAny (model X.prog X.w) X.A (.compLoop (.ListComp elt [⟨tg, iter, ifs, 0⟩] scope pos) 0 (.ref it) (.ref D) ce) (BlkEnd (model X.prog X.w) X.A X.xe use Qf scope X.env (.ref D) cenv) s4 := by
    refine compLoop_any (fun n t => ∃ i H', L2.Inv (X.blk s3 H3 scope ce fp) [] (wipe σ (own.map (·.2))) H' t ∧ tn i t.heap ∧ (∀ b ∈ fp, H' b = none) ∧ Wm i n H') ?_ m0 ⟨0, H3, I4, st4, noH, w0⟩
    rintro n s5 ⟨i, H5, I5, st5, n5, w5⟩
    rcases turn i n H5 w5 with ⟨stop, q6⟩ | ⟨go, Nx, hNx, step⟩
    · refine thnF (T.done (X.blk s3 H3 scope ce fp) rfl rfl rfl hc i [] s5 _ H5 (fun _ _ => False) I5 (stand I5 n5) st5 stop) fun r s6 ⟨er, I6⟩ => ?_
      subst er
      have back : L2.Inv X pins σ H5 s6 := I3.call' (ch := fp) I6.os I6.base I6.hok I6.bare fun b hb => ⟨(f3 b hb).1.2.2.2.1, (f3 b hb).1.2.1, (f3 b hb).1.2.2.2.2.1, (f3 b hb).1.2.2.2.2.2⟩
      have noC : H5 ce.locals = none := I6.free
      obtain ⟨m, ns, _⟩ := I6.loc
      have fpC := I3.fpOk (b := ce.locals) (by rw [ce_l]; exact Nat.le_refl _) noC
      exact fin D cenv s6 m H5 back q6 (by rw [same_l]; exact ns) (by rw [same_l]; exact fpC)
    · refine thnF (T.item (X.blk s3 H3 scope ce fp) rfl rfl rfl hc i [] s5 _ H5 (fun _ _ => False) I5 (stand I5 n5) st5 go) fun r s6 ⟨v, er, h6⟩ => ?_
      subst er
      refine thnF h6 fun _ s7 ⟨x, H7, I7, r7, y7, st7, n7⟩ => ?_
      have I7' := okX (I7.pinned (stand I7 n7) (T.obj _ _ st7))
      refine thn (pg.run _ s7 _ H7 x v _ I7' r7 (step x H7 y7)) fun _ s8 ⟨σ8, H8, I8, wiped, q8⟩ => ?_
      refine thn (pt.run _ s8 σ8 H8 _ I8 q8) fun b s9 ⟨H9, I9, q9⟩ => ?_
      have turned : ∀ {t : Shared} {H' : Hp}, L2.Inv (X.blk s3 H3 scope ce fp) ([] ++ pinsAt fp s7.heap) σ8 H' t → Nx H' → ∃ m, m < n ∧ ∃ i H', L2.Inv (X.blk s3 H3 scope ce fp) [] (wipe σ (own.map (·.2))) H' t ∧ tn i t.heap ∧ (∀ b ∈ fp, H' b = none) ∧ Wm i m H' := fun {t H'} i' nx => by
        obtain ⟨m', lt, w'⟩ := hNx H' nx
        have held : ∀ b ∈ fp, ∀ o, s7.heap.get? b = some o → t.heap.get? b = some o ∧ H' b = none := fun b hb o e =>
          let z := i'.pin (b, o) (List.mem_append_right _ (List.mem_append_right _ (mem_pinsAt hb e)))
          ⟨z.1, z.2.1⟩
        have len : (wipe σ (own.map (·.2))).length = σ8.length := by rw [← wiped, wipe_length]
        refine ⟨m', lt, i + 1, H', (i'.unpinned (pins := [])).weak len (fun j v e => ?_), T.keep _ _ _ st7 fun b hb o e => (held b hb o e).1, fun b hb => ?_, w'⟩
        · rw [← wiped] at e
          exact (wipe_some e).1
        · obtain ⟨o, e, _⟩ := T.obj _ _ st7 b hb
          exact (held b hb o e).2
      cases b with
      | false =>
        simp only [Bool.false_eq_true, if_false] at q9 ⊢
        exact turned (okB I9) q9
      | true =>
        simp only [if_true] at q9 ⊢
        refine thn (pe.run _ s9 σ8 H9 _ I9 q9) fun z s10 ⟨yv, H10, I10, r10, acc, hD10, room, nx⟩ => ?_
        exact app_ok (X := blkX X s3 H3 scope ce fp xe) I10 hD10 room r10 fun s11 I11 => turned (okB I11) nx
  exact codeAny_compStart_list round (T.self X.A 0 _ _ _ st4 round)
theorem pe_lcE (hc : X.calm = true) (hN : X.N.Nodup) (tk : Takes X W) (hs : X.stack = X.env :: X.outer) (hf : X.env.frame = some X.env.locals) (hi : PI X tg iter wi) (ok : BlkOk X.N X.env.scope scope own)
    (hg : ∀ (s : Shared) (H : Hp) (C : Addr) (cl : List (Str × Addr)) (fp : List Addr) (xe : Value → Shared → Prop), PG (blkX X s H scope (compEnvC scope cl C X.env) fp xe) tg g)
    (ht : ∀ (s : Shared) (H : Hp) (C : Addr) (cl : List (Str × Addr)) (fp : List Addr) (xe : Value → Shared → Prop) (V : WX), Takes (blkX X s H scope (compEnvC scope cl C X.env) fp xe) V → PTs (blkX X s H scope (compEnvC scope cl C X.env) fp xe) ifs (tt V))
    (he : ∀ (s : Shared) (H : Hp) (C : Addr) (cl : List (Str × Addr)) (fp : List Addr) (xe : Value → Shared → Prop) (V : WX), Takes (blkX X s H scope (compEnvC scope cl C X.env) fp xe) V → PE (blkX X s H scope (compEnvC scope cl C X.env) fp xe) elt (te V))
    (fold : ∀ x, foldedSetIterable iter X.env x = pure x := by intro _; rfl) :
    PE X (.ListComp elt [⟨tg, iter, ifs, 0⟩] scope pos) (fun σ H Q => tLc wi g (tt (outW W σ)) (te (outW W σ)) (own.map (·.2)) σ H Q) := by
  refine ⟨fun pins s σ H Q I todo => ?_⟩
  rw [eval_ListComp]
  refine lcE_core hc hN tk hs hf hi ok hg ht he fold I todo fun D cenv s' m H' I' q ns fp => ⟨m, ns, fun h'' sb => ?_⟩
  obtain ⟨g0, g1, g2, g3, g4, g5⟩ := fp
  exact ⟨.ref D, H', I'.turned (t' := s'.toks) (fun b o hb e => (sb.2 b hb).trans e) g0 g1 g3 g4 g5, rfl, q⟩
end
end J
namespace J
open PySem PySem.Spec PyProof.Rows L2 RZ
def lcX (t : TgF) (c : DT) (e : DE) (env : VEnv) : List FV → Ans (List FV)
  | [] => .ok []
  | x :: xs => match t x env with
    | some e1 => (c e1).bind fun b => if b then (e e1).bind fun r => match r with
        | .st (.fz y) => (lcX t c e env xs).bind fun ys => .ok (y :: ys)
        | _ => .no
      else lcX t c e env xs
    | none => .no
def dLcX (it : VEnv → Ans (List FV)) (t : TgF) (c : DT) (e : DE) (vs : List Nat) : DE := fun env => (it env).bind fun items => if items.length ≤ BIG then (lcX t c e (frzE (wipeE env vs)) items).bind fun ys =>
  if allFzE env || FV.pureL ys then .ok (.st (.ol ys)) else .no else .no
def Rest (done : List FV) (rest whole : Ans (List FV)) : Prop := match rest with
  | .ok r => whole = .ok (done ++ r)
  | .ex z => whole = .ex z
  | .no => False
theorem lcX_run {M : Str → Option Value} {G Z H1 : Hp} {σw : Sl} {envw : VEnv} {vs ws : List Nat} {t : TgF} {c : DT} {e : DE} {J : It} {kept : List (V × Rv)} {items : List FV} {res : Ans (List FV)} {D : Addr} {Qd : Hp → Prop} {U : WX}
    (hw : σw = wipe σw vs) (hwe : envw = wipeE envw vs) (hws : ∀ i ∈ ws, i ∈ vs) (hto : TgOk ws t) (wk : WalkJ M J (kept.map kfz) items) (hk : ∀ p ∈ kept, FDen M G p.2.fv p.1) (hlen : items.length ≤ BIG)
    (hl : Rest [] (lcX t c e envw items) res) (r : R M G Z (upd H1 D (.lst [])) σw envw [(.ref D, .st (.dl []))]) (hd : ∀ ys H, res = .ok ys → R M G Z H σw envw [(.ref D, .st (.dl (ys.map .fz)))] → Qd H)
    (hx : ∀ z C H σ' env' T, res = .ex z → M z = some (.ref C) → R M G Z H σ' env' T → U (.ref C) none σ' H) :
    ∃ W : Nat → Nat → Hp → Prop, (∃ m, W 0 m (upd H1 D (.lst []))) ∧ ∀ i m H, W i m H →
      (J.stop i H ∧ Qd H) ∨ (J.go i H ∧ ∃ Nx : Hp → Prop, (∀ H', Nx H' → ∃ m', m' < m ∧ W (i + 1) m' H') ∧ ∀ x H', J.yld i H x H' → gJ M ws t x σw H' fun σ2 H2 => wipe σ2 vs = σw ∧ tT M U c σ2 H2 fun b H3 =>
        if b = true then tE M U e σ2 H3 fun y H4 => ∃ acc, H4 D = some (.lst acc) ∧ acc.length < sizeLine ∧ Nx (upd H4 D (.lst (acc ++ [y]))) else Nx H3) := by
  refine ⟨fun i m H => i + m = items.length ∧ ∃ done : List FV, Rest done (lcX t c e envw (items.drop i)) res ∧ done.length ≤ i ∧ R M G Z H σw envw [(.ref D, .st (.dl (done.map .fz)))], ⟨items.length, by omega, [], by rw [List.drop_zero]; exact hl, Nat.le_refl _, r⟩, ?_⟩
  rintro i m H ⟨him, done, h1, hdl, ⟨F, C1, C2, r⟩⟩
  obtain ⟨w1, w2⟩ := wk.at r.fh (fun p hp => (hk p hp).mono r.gf) i
  by_cases hlt : i < items.length
  · obtain ⟨hgo, hy⟩ := w1 items[i] (List.getElem?_eq_getElem hlt)
    rw [List.drop_eq_getElem_cons hlt] at h1
    have h1' : Rest done (match t items[i] envw with
      | some e1 => (c e1).bind fun b => if b then (e e1).bind fun r => match r with
          | .st (.fz y) => (lcX t c e envw (items.drop (i + 1))).bind fun ys => .ok (y :: ys)
          | _ => .no
        else lcX t c e envw (items.drop (i + 1))
      | none => .no) res := h1
    refine .inr ⟨hgo, fun H' => ∃ done : List FV, Rest done (lcX t c e envw (items.drop (i + 1))) res ∧ done.length ≤ i + 1 ∧ R M G Z H' σw envw [(.ref D, .st (.dl (done.map .fz)))], fun H' q => ⟨m - 1, by omega, by omega, q⟩, fun x H' yl => ?_⟩
    refine ⟨G, Z, envw, _, items[i], r.new (hy x H' yl), ?_⟩
    cases et : t items[i] envw with
    | none => rw [et] at h1'; exact h1'.elim
    | some e1 =>
      rw [et] at h1'
      intro σ2 hon r2
      have hσ : wipe σ2 vs = σw := by rw [(hon.mono hws).wipe, ← hw]
      have hE : wipeE e1 vs = envw := by
        obtain ⟨hl1, hl2⟩ := hto _ _ _ et
        rw [wipeE_of hl1 fun j hj => hl2 j fun z => hj (hws j z), ← hwe]
      have back : ∀ {H : Hp} {T : List (V × Rv)}, R M G Z H σ2 e1 T → R M G Z H σw envw T := fun {H T} r => by
        have := r.wipeD vs
        rw [hσ, hE] at this
        exact this
      refine ⟨hσ, G, Z, e1, _, r2, ?_⟩
      cases ec : c e1 with
      | no => simp only [ec, Ans.bind] at h1'; exact h1'.elim
      | ex z =>
        simp only [ec, Ans.bind] at h1'
        exact fun C H3 hm s3 r3 => hx z C H3 _ _ _ h1' hm r3
      | ok b =>
        simp only [ec, Ans.bind] at h1'
        intro H3 s3 r3
        cases b with
        | false =>
          rw [if_neg Bool.false_ne_true] at h1' ⊢
          exact ⟨done, h1', by omega, back r3⟩
        | true =>
          rw [if_pos rfl] at h1' ⊢
          refine ⟨G, Z, e1, _, r3, ?_⟩
          cases ee : e e1 with
          | no => simp only [ee] at h1'; exact h1'.elim
          | ex z =>
            simp only [ee] at h1'
            exact fun C H4 hm s4 r4 => hx z C H4 _ _ _ h1' hm r4
          | ok rv =>
            rw [ee] at h1'
            simp only at h1'
            intro y H4 s4 r4
            split at h1'
            · rename_i o
              obtain ⟨acc, hD, hla, r5⟩ := r4.grow
              have e5 : done.map OV.fz ++ [OV.fz o] = (done ++ [o]).map .fz := by rw [List.map_append]; rfl
              rw [e5] at r5
              refine ⟨acc, hD, ?_, done ++ [o], ?_, by rw [List.length_append, List.length_singleton]; omega, back r5⟩
              · rw [hla, big_eq, List.length_map]
                omega
              · cases el : lcX t c e envw (items.drop (i + 1)) with
                | no => rw [el] at h1'; exact h1'.elim
                | ex z => rw [el] at h1'; exact h1'
                | ok zs =>
                  rw [el] at h1'
                  show res = .ok ((done ++ [o]) ++ zs)
                  rw [List.append_assoc]
                  exact h1'
            · exact h1'.elim
  · refine .inl ⟨w2 (by omega), ?_⟩
    rw [List.drop_of_length_le (by omega)] at h1
    have h1 : res = .ok (done ++ []) := h1
    rw [List.append_nil] at h1
    exact hd done H h1 r.r
section
variable {X : Cx} {W : WX} {pos spos py : Pos} {tg iter elt : Expr} {ifs : List Expr} {scope : Scope} {own : List (Str × Nat)} {it : VEnv → Ans (List FV)} {t : TgF} {fc : DT} {fe : DE} {ws : List Nat}
theorem R.newNon {M : Str → Option Value} {F0 H H' : Hp} {σ : Sl} {env : VEnv} {T : List (V × Rv)} (r : R M F0 H H' σ env T) : New M F0 H H' (.fz .non) .non := by
  obtain ⟨F, C1, C2, r⟩ := r
  refine ⟨F, [], r.gf, r.fg, r.fh, r.zh, ⟨rfl, rfl⟩, ⟨List.nodup_nil, fun q hq => (nomatch hq), fun q hq => (nomatch hq), fun q hq => (nomatch hq)⟩⟩
theorem lcX_post (hws : ∀ i ∈ ws, i ∈ own.map (·.2)) (hto : TgOk ws t) {σ : Sl} {H : Hp} {Q : VK} {G Z : Hp} {env : VEnv} {T : List (V × Rv)} (r : R X.mg G Z H σ env T)
    (p : Post X.mg W G Z σ env T Q H (dLcX it t fc fe (own.map (·.2)) env)) : tLc (tIC X.mg W it) (gJ X.mg ws t) (tT X.mg (outW W σ) fc) (tE X.mg (outW W σ) fe) (own.map (·.2)) σ H Q := by
  refine ⟨G, Z, env, T, r, ?_⟩
  unfold dLcX at p
  cases ei : it env with
  | no => rw [ei] at p; exact p.elim
  | ex c => rw [ei] at p; exact fun C H' m s r' => p C H' m s r'
  | ok items =>
    rw [ei] at p
    intro J H1 kept s1 ⟨F, C1, C2, r1⟩ wk hsbk D hD
    have p : Post X.mg W G Z σ env T Q H (if items.length ≤ BIG then (lcX t fc fe (frzE (wipeE env (own.map (·.2)))) items).bind fun ys => if allFzE env || FV.pureL ys then .ok (.st (.ol ys)) else .no else .no) := p
    by_cases hlen : items.length ≤ BIG
    · rw [if_pos hlen] at p
      have hwe : frzE (wipeE env (own.map (·.2))) = wipeE (frzE (wipeE env (own.map (·.2)))) (own.map (·.2)) := by
        rw [frz_wipe, wipeE_idem]
      have start : ∀ {K0 : Hp} (r0 : R X.mg K0 H1 H1 (wipe σ (own.map (·.2))) (frzE (wipeE env (own.map (·.2)))) []), R X.mg K0 H1 (upd H1 D (.lst [])) (wipe σ (own.map (·.2))) (frzE (wipeE env (own.map (·.2)))) [(.ref D, .st (.dl []))] := fun {K0} r0 => by
        obtain ⟨F0, D1, D2, r0⟩ := r0
        exact r0.new (New.cell r0.fh hD ⟨D, [], [], rfl, ⟨rfl, rfl⟩, rfl⟩)
      have fine : ∃ res, Rest [] (lcX t fc fe (frzE (wipeE env (own.map (·.2)))) items) res ∧ res = lcX t fc fe (frzE (wipeE env (own.map (·.2)))) items := by
        refine ⟨_, ?_, rfl⟩
        cases el : lcX t fc fe (frzE (wipeE env (own.map (·.2)))) items with
        | no => rw [el] at p; exact p.elim
        | ex z => rfl
        | ok ys => rfl
      obtain ⟨res, hl, er⟩ := fine
      rw [← er] at p
      -- what is reached, by what was frozen
      have okD : ∀ {K0 : Hp} (new : ∀ {H' : Hp} {o : OV} {v : V}, New X.mg K0 H1 H' o v → (allFzE env = true ∨ o.clean = true) → R X.mg G Z H' σ env ((v, .st o) :: T)) (ys : List FV) (H' : Hp), res = .ok ys → R X.mg K0 H1 H' (wipe σ (own.map (·.2))) (frzE (wipeE env (own.map (·.2)))) [(.ref D, .st (.dl (ys.map .fz)))] → Q (.ref D) H' := fun {K0} new ys H' e r' => by
        rw [e] at p
        simp only [Ans.bind] at p
        split at p
        · rename_i hc
          rw [Bool.or_eq_true] at hc
          have n := r'.newOf
          have n2 := new n (hc.imp id fun q => by
            show OV.cleanL (ys.map .fz) = true
            rw [cleanL_fz]
            exact q)
          exact p _ H' (s1.trans (let ⟨_, _, n⟩ := n; n.hh)) n2.dl_ol
        · exact p.elim
      have exD : ∀ {K0 : Hp} (new : ∀ {H' : Hp} {o : OV} {v : V}, New X.mg K0 H1 H' o v → (allFzE env = true ∨ o.clean = true) → R X.mg G Z H' σ env ((v, .st o) :: T)) (z : Str) (C : Addr) (H' : Hp) (σ' : Sl) (env' : VEnv) (T' : List (V × Rv)), res = .ex z → X.mg z = some (.ref C) → R X.mg K0 H1 H' σ' env' T' → outW W σ (.ref C) none σ' H' := fun {K0} new z C H' σ' env' T' e hm r' => by
        rw [e] at p
        have n := r'.newNon
        exact p C H' hm (s1.trans (let ⟨_, _, n⟩ := n; n.hh)) (new n (.inr rfl)).pop
      cases ha : allFzE env with
      | true =>
        obtain ⟨F2, C3, C4, r2, hkA⟩ := r1.iceK (fun p hp => by
          have := hsbk p hp
          revert this
          cases p.2 with
          | st o => exact fun _ => ⟨o, rfl⟩
          | bo o => intro h; rw [show sbR env (.bo o) = !allFzE env from rfl, ha] at h; cases h)
        have new : ∀ {H' : Hp} {o : OV} {v : V}, New X.mg F2 H1 H' o v → (allFzE env = true ∨ o.clean = true) → R X.mg G Z H' σ env ((v, .st o) :: T) := fun {H' o v} n _ => r2.new n
        exact lcX_run (U := outW W σ) (hw := (wipe_idem _ _).symm) (hwe := hwe) hws hto wk (G := F2) (Z := H1) hkA hlen hl (start (r2.blockF _ ha)) (okD new) (exD new)
      | false =>
        have new : ∀ {H' : Hp} {o : OV} {v : V}, New X.mg (mutG F H1) H1 H' o v → (allFzE env = true ∨ o.clean = true) → R X.mg G Z H' σ env ((v, .st o) :: T) := fun {H' o v} n h => by
          rcases h with h | h
          · rw [ha] at h; cases h
          · exact (r1.new (n.clean r1.fh h)).sb sb_app.both
        refine lcX_run (U := outW W σ) (hw := (wipe_idem _ _).symm) (hwe := hwe) hws hto wk (G := mutG F H1) (Z := H1) (fun p hp => ?_) hlen hl (start (r1.block _)) (okD new) (exD new)
        obtain ⟨A, d, c⟩ := r1.bor (List.mem_append_left T hp)
        exact d.mut r1.fh c
    · rw [if_neg hlen] at p
      exact p.elim
theorem je_lcX (hc : X.calm = true) (hN : X.N.Nodup) (tk : Takes X W) (hs : X.stack = X.env :: X.outer) (hf : X.env.frame = some X.env.locals) (hi : JC X W tg iter it) (ok : BlkOk X.N X.env.scope scope own)
    (hg : ∀ (s : Shared) (H : Hp) (C : Addr) (cl : List (Str × Addr)) (fp : List Addr) (xe : Value → Shared → Prop), JG (blkX X s H scope (compEnvC scope cl C X.env) fp xe) tg ws t)
    (ht : ∀ (s : Shared) (H : Hp) (C : Addr) (cl : List (Str × Addr)) (fp : List Addr) (xe : Value → Shared → Prop) (U : WX), Takes (blkX X s H scope (compEnvC scope cl C X.env) fp xe) U → JTs (blkX X s H scope (compEnvC scope cl C X.env) fp xe) U ifs fc)
    (he : ∀ (s : Shared) (H : Hp) (C : Addr) (cl : List (Str × Addr)) (fp : List Addr) (xe : Value → Shared → Prop) (U : WX), Takes (blkX X s H scope (compEnvC scope cl C X.env) fp xe) U → JE (blkX X s H scope (compEnvC scope cl C X.env) fp xe) U elt fe)
    (hto : TgOk ws t) (hws : ∀ i ∈ ws, i ∈ own.map (·.2) := by decide) (fold : ∀ x, foldedSetIterable iter X.env x = pure x := by intro _; rfl) :
    JE X W (.ListComp elt [⟨tg, iter, ifs, 0⟩] scope pos) (dLcX it t fc fe (own.map (·.2))) :=
  PE.imp (pe_lcE (tt := fun U => tT X.mg U fc) (te := fun U => tE X.mg U fe) hc hN tk hs hf hi ok hg ht he fold) fun σ H Q ⟨G, Z, env, T, r, p⟩ => lcX_post hws hto r p
end
end J
set_option maxHeartbeats 4000000
namespace J
open PySem PySem.Spec PyProof.Rows L2
def rIsXT (K : PySem.W.Frag) : List V → Hp → VK → Prop := fun xs H Q => ∃ (a C tp : Addr) (cs : List V) (us : List Value) (b : Bool), xs = [.ref a, .ref tp] ∧ H a = some (ErrO C a) ∧ H tp = some (.tup cs) ∧ Paired ClsV cs us ∧ ExcC K C ∧ PySem.W.kitAny K (.ref C) us = some b ∧ Q (.bl b) H
theorem call_isXT {X : Cx} : CallR X (.builtin "isinstance") (rIsXT X.K) := by
  intro pins s σ H xs us Q I r ⟨a, C, tp, cs, ws, b, ex, ha, hT, pc, E, k, q⟩
  subst ex
  obtain ⟨u1, u2, eu, r1, r2⟩ := vals2 r
  subst eu
  cases (show u1 = Value.ref a from r1)
  cases (show u2 = Value.ref tp from r2)
  obtain ⟨⟨oe, vs, h1, ⟨h2, h3⟩, h4⟩, _⟩ := (show ObjOk X.prog X.w H s.heap a (ErrO C a) from I.hok a _ ha)
  obtain ⟨_, its, rv, o, t1, t2, n, t3⟩ := (show ObjOk X.prog X.w H s.heap tp (.tup cs) from I.hok tp _ hT)
  have eq := ClsV.all pc rv
  subst eq
  have J : PySem.W.InstAt s.heap a oe C none := by
    refine ⟨h1, h2, ?_, by rw [h3]; exact trivial⟩
    obtain ⟨oc, od, dt, sl⟩ := oe
    cases (show dt = .fields vs from h4)
    rfl
  obtain ⟨oc, od, dt, sl⟩ := o
  simp only at t2 t3
  subst t2 t3
  exact PySem.W.kia_tup (PySem.W.handS_kitx_exc E.hg E.hk E.hs E.hd E.ha E.hn E.ht E.hm) I.kIn J t1 k (fun z => nomatch z) fun tk => ⟨.bl b, H, I.tok tk, rfl, q⟩
def tCs : List V → TA
  | [] => tNil
  | c :: cs => tCons (tC c) (tCs cs)
theorem tCs_run : ∀ {cs : List V} {σ : Sl} {H : Hp} {Q : List V → Hp → Prop}, Q cs H → tCs cs σ H Q
  | [], _, _, _, h => h
  | c :: cs, σ, H, Q, h => tCs_run (cs := cs) (Q := fun xs H1 => Q (c :: xs) H1) h
theorem kit_any {K : PySem.W.Frag} {t : Value} : ∀ {us : List Value} {bs : List Bool}, Paired (fun u b => PySem.W.kitOne K t u = some b) us bs → PySem.W.kitAny K t us = some (bs.any id)
  | _, _, .nil => rfl
  | _, _, .cons h r => by
    refine kitAny_cons h (fun e => ?_) fun e => ?_
    · subst e
      exact (kit_any r).trans rfl
    · subst e
      rfl
def NamesJ (X : Cx) (names : List Str) (ns : List Expr) : Prop := ∀ Ds : List Addr, Paired (fun n D => X.mg n = some (.ref D)) names Ds → PA X ns (tCs (Ds.map V.ref))
section
variable {X : Cx} {W : WX} {e : Expr} {f : DE} {p p2 pos : Pos} {x : Str} {tab : List (Str × Bool)} {names : List Str} {ns : List Expr}
theorem nj_nil : NamesJ X [] [] := fun Ds h => by
  cases h
  exact pa_nil
theorem nj_cons (h : NamesJ X names ns) (hg : Gl X x := by rfl) (hdb : (x == ("__debug__" : Str)) = false := by decide) (hs : starEach (.Name x p2 :: ns) X.env = (false, eval (.Name x p2) X.env) :: starEach ns X.env := by rfl) : NamesJ X (x :: names) (.Name x p2 :: ns) := fun Ds hd => by
  cases hd with
  | cons m r => exact pa_cons (pe_glob hg m rfl hdb) (h _ r) hs
theorem cls_own : ∀ Ds : List Addr, Paired ClsV (Ds.map V.ref) (Ds.map Value.ref)
  | [] => .nil
  | D :: Ds => .cons (.own D) (cls_own Ds)
theorem addrs_of {K : PySem.W.Frag} {mg : Str → Option Value} : ∀ {names : List Str}, (∀ n ∈ names, ErrC K mg n) → ∃ Ds : List Addr, Paired (fun n D => mg n = some (.ref D)) names Ds ∧ ∀ D ∈ Ds, ErrAt K D
  | [], _ => ⟨[], .nil, fun _ h => (nomatch h)⟩
  | n :: names, h => by
    obtain ⟨D, m, E⟩ := h n List.mem_cons_self
    obtain ⟨Ds, r, k⟩ := addrs_of fun q hq => h q (List.mem_cons_of_mem _ hq)
    exact ⟨D :: Ds, .cons m r, fun D' hd => (List.mem_cons.mp hd).elim (fun z => z ▸ E) (k D')⟩
theorem pair_kit {K : PySem.W.Frag} {mg : Str → Option Value} {c : Str} {C : Addr} (m : mg c = some (.ref C)) : ∀ {names : List Str} {Ds : List Addr} {bs : List Bool}, Paired (fun n D => mg n = some (.ref D)) names Ds → (∀ D ∈ Ds, ErrAt K D) → Paired (fun n b => ErrP K mg c n b) names bs → Paired (fun u b => PySem.W.kitOne K (.ref C) u = some b) (Ds.map Value.ref) bs
  | _, _, _, .nil, _, .nil => .nil
  | _, _, _, .cons md r, k, .cons pb q => .cons ((k _ List.mem_cons_self).kit (pb C _ m md)) (pair_kit m r (fun D hd => k D (List.mem_cons_of_mem _ hd)) q)
theorem none_kit {K : PySem.W.Frag} : ∀ {Ds : List Addr}, (∀ D ∈ Ds, ErrAt K D) → PySem.W.kitAny K (.type "NoneType") (Ds.map Value.ref) = some false
  | [], _ => rfl
  | D :: Ds, k => kitAny_cons ((k D List.mem_cons_self).kit (k D List.mem_cons_self).sn) (fun _ => none_kit fun E hE => k E (List.mem_cons_of_mem _ hE)) fun z => nomatch z
theorem je_isET (tab : List (Str × Bool)) {n : Nat} {pt : Pos} (he : JE X W e f) (EK : ErrK X.K) (hE : ∀ q ∈ names, ErrC X.K X.mg q) (hn : NamesJ X names ns) (ht : ∀ q ∈ tab, ErrC X.K X.mg q.1 ∧ ∃ bs : List Bool, Paired (fun n b => ErrP X.K X.mg q.1 n b) names bs ∧ bs.any id = q.2) (hm : X.mg "isinstance" = none) (hg : Gl X "isinstance" := by rfl)
    (hs : starEach [e, .Tuple ns n pt] X.env = (false, eval e X.env) :: starEach [.Tuple ns n pt] X.env := by rfl) (hs2 : starEach [.Tuple ns n pt] X.env = (false, eval (.Tuple ns n pt) X.env) :: starEach [] X.env := by rfl) (hpl : (backTo pos (starEach [.Tuple ns n pt] X.env)).any (·.1) = false := by rfl) (hbi : bootBuiltins "isinstance" = some (.builtin "isinstance") := by rfl) (hsz : names.length ≤ sizeLine := by rw [sizeLine_eq]; decide) :
    JE X W (.Call (.Name "isinstance" p) [e, .Tuple ns n pt] [] pos) (dUn (opIsE tab) f) := by
  obtain ⟨Ds, md, kd⟩ := addrs_of hE
  have hl : Ds.length = names.length := md.length.symm
  refine PE.imp (pe_callB ((call_isiT (X := X)).or call_isXT) hg hm hbi (pa_cons he (pa_cons (pe_tup (hn Ds md)) pa_nil hs2) hs) (by decide) (by decide) hs hpl) fun σ H Q ⟨G, Z, env, T2, r, q⟩ => ?_
  refine tE.bind r Sb.refl q fun y w H1 _ s1 ⟨F, C1, C2, r1⟩ p1 => ?_
  show tTup (tCs (Ds.map V.ref)) σ H1 _
  refine tCs_run ⟨by rw [List.length_map, hl]; exact hsz, fun tp hq => ?_⟩
  obtain ⟨o, eo, kk⟩ := r1.fin Sb.refl.cons p1
  have b : Bor X.mg F H1 y.ov w := r1.bor List.mem_cons_self
  have new : ∀ bb : Bool, New X.mg F H1 (upd H1 tp (.tup (Ds.map V.ref))) (.fz (.bl bb)) (.bl bb) := fun bb => ⟨F, [], Same.refl _, fun _ _ z => .inl z, r1.fh.trans (same_upd hq), same_upd hq, ⟨rfl, rfl⟩, ⟨List.nodup_nil, fun q hq => (nomatch hq), fun q hq => (nomatch hq), fun q hq => (nomatch hq)⟩⟩
  unfold opIsE at eo
  split at eo
  · rename_i ey
    cases eo
    rw [ey] at b
    have ew : w = .non := b.fz
    exact .inl ⟨w, tp, _, .type "NoneType", _, false, rfl, upd_same, cls_own Ds, by rw [ew]; exact .base .non, none_kit kd, kk _ _ (new false)⟩
  · rename_i cn ey
    obtain ⟨bb, eb, rfl⟩ := Option.map_eq_some_iff.mp eo
    rw [ey] at b
    obtain ⟨a, C, ew, m, ha⟩ := b.fz
    obtain ⟨⟨C', m', E'⟩, bs, pb, eb2⟩ := ht _ (lookup_mem eb)
    have eC : C' = C := by
      have := m'.symm.trans m
      cases this
      rfl
    subst eC
    have hk := kit_any (pair_kit m md kd pb)
    rw [eb2] at hk
    exact .inr ⟨a, C', tp, _, _, bb, by rw [ew], (same_upd hq) _ _ (r1.fh _ _ ha), upd_same, cls_own Ds, E'.exc EK, hk, kk _ _ (new bb)⟩
  · cases eo
end
def dTryA (L : List Str) (f : DE) (k i j : Nat) : DS := fun env => match env[i]? with
  | some none => match f env with
    | .ok (.st o) => .ok (.nx (env.set k (some o)))
    | .ex c => if L.contains c then .ok (.nx (env.set j (some (.fz (.exc c))))) else .no
    | _ => .no
  | _ => .no
section
variable {X : Cx} {W : WX} {x n y z : Str} {i j k : Nat} {e : Expr} {f : DE} {np p1 p2 p3 pz pos pos' pe : Pos} {L : List Str}
theorem js_tryA (k i j : Nat) (L : List Str) (hx : X.ex = []) (hs : X.stack = X.env :: X.outer) (hf : X.env.frame = some X.env.locals) (hN : X.N.Nodup) (E : ErrC X.K X.mg x) (hL : ∀ c ∈ L, ErrP X.K X.mg c x true)
    (he : ∀ (W : WX) (pn : List (Addr × Obj)) (xe : Value → Shared → Prop), Takes (X.tr pn xe) W → JE (X.tr pn xe) W e f)
    (hi : X.N[i]? = some n := by rfl) (hln : X.env.kindOf n = some .local := by rfl) (hj : X.N[j]? = some y := by rfl) (hly : X.env.kindOf y = some .local := by rfl) (hij : i ≠ j := by decide) (hg : Gl X x := by rfl) (hdb : (x == ("__debug__" : Str)) = false := by decide)
    (hsw : ∀ a pn, swapsWith (.Name n p2) (some (.Name y p1)) p3.line (X.suite a pn).env = pure false := by exact fun _ _ => rfl)
    (hk : X.N[k]? = some z := by rfl) (hz : Loc X.env.scope z := by first | exact .inl rfl | exact .inr rfl) (hse : swapsWith e (some (.Name z pz)) pe.line X.env = pure false := by rfl) (hfn : X.fn z = true ∨ X.env.scope.names.lookup z = some .local := by first | exact .inl rfl | exact .inr rfl)
    (dn : (n == ("__debug__" : Str)) = false := by decide) (cn : (n == ("__classdict__" : Str)) = false := by decide) :
    JS X W (.Try [.Assign [.Name z pz] e pe] [.ExceptHandler (some (.Name x np)) (some n) [.Assign [.Name y p1] (.Name n p2) p3] pos'] [] [] pos) (dTryA L f k i j) := by
  obtain ⟨CE, gE, E⟩ := E
  refine PS.imp (ps_try_told hx hs hf hN hi hln hj hly ⟨hg, hdb, .inl gE⟩ hsw dn cn (tb := fun W => tAsg (tE X.mg W f) (gName k)) fun W pn xe tk => pss_one (ps_set (X := X.tr pn xe) hN hk hz (he W pn xe tk) hse hfn)) fun D σ H ⟨G, Z, env, T, hT, r, p⟩ => ?_
  unfold dTryA at p
  show ∃ G Z env T, R X.mg G Z H σ env T ∧ _
  cases hn : env[i]? with
  | none => rw [hn] at p; exact p.elim
  | some o =>
    cases o with
    | some o => rw [hn] at p; exact p.elim
    | none =>
      rw [hn] at p
      simp only at p
      refine ⟨G, Z, env, T, r, ?_⟩
      cases hv : f env with
      | no => rw [hv] at p; exact p.elim
      | ok rv =>
        rw [hv] at p
        cases rv with
        | bo o => exact p.elim
        | st o => exact fun v H' s r' => p _ H' (r'.set k)
      | ex c =>
        rw [hv] at p
        simp only at p
        intro C H' m s r'
        by_cases hc : L.contains c = true
        · rw [if_pos hc] at p
          have sub := hL c (List.contains_iff_mem.mp hc) C CE m gE
          refine ⟨rfl, C, rfl, PySem.W.exm_ref E.sb E.hd E.ty sub, fun a na => p _ _ ?_⟩
          rw [set_over hij]
          obtain ⟨F, A, B, q⟩ := r'
          have new : New X.mg F H' (upd H' a (ErrO C a)) (.fz (.exc c)) (V.ref a) := New.ice q.fh na ⟨a, C, rfl, m, upd_same⟩
          refine ((q.new new).set j).put ?_
          rw [List.getElem?_set_ne (Ne.symm hij)]
          exact hn
        · rw [if_neg hc] at p
          exact p.elim
end
end J
set_option maxHeartbeats 4000000
namespace J
open PySem PySem.Spec PyProof.Rows L2
def opSplit : OV → List OV → Option OV
  | .fz (.str a), [.fz (.str b)] => if b.length ≠ 0 ∧ a.length + 2 ≤ BIG then some (.ol ((Txt.split a b).map .str)) else none
  | _, _ => none
theorem mj_split {X : Cx} : MtR X "str.split" (rM X.mg opSplit) := by
  rintro pins s σ H x xs v us Q I rx rs ⟨F, o, os, res, hf, bx, ps, e, k⟩
  unfold opSplit at e
  split at e
  · split at e
    · rename_i hz
      cases e
      obtain ⟨u, rfl, b⟩ := paired1 ps
      exact mt_split pins s σ H x _ v us Q I rx rs ⟨_, _, bx.str, by rw [b.str], by simpa using hz.1, by rw [big_eq]; exact hz.2, fun p hp => k _ _ (New.lst hf hp (FDenL_strs _))⟩
    · cases e
  · cases e
section
variable {X : Cx} {W : WX} {pos : Pos} {x : Str}
theorem je_gintE {i : Int} (h : ∃ t, X.mg x = some (.int i t)) (hg : Gl X x := by rfl) (hd : (x == ("__debug__" : Str)) = false := by decide) : JE X W (.Name x pos) (dC (.int i)) := let ⟨_, h⟩ := h; je_gint h hg hd
theorem je_gstrE {i : Str} (h : ∃ t, X.mg x = some (.str i t)) (hg : Gl X x := by rfl) (hd : (x == ("__debug__" : Str)) = false := by decide) : JE X W (.Name x pos) (dC (.str i)) := let ⟨_, h⟩ := h; je_gstr h hg hd
end
def repS (x : Str) (n : Nat) : Str := ⟨(List.replicate n x.cps).foldl (· ++ ·) #[]⟩
def opRepS : OV → OV → Option OV
  | .fz (.str x), .fz (.int k) => if 2 ≤ k ∧ k ≤ 1000 ∧ x.length = 1 then some (.fz (.str (repS x k.toNat))) else none
  | _, _ => none
theorem rep_size {a : Array Nat} : ∀ {n : Nat} {acc : Array Nat}, ((List.replicate n a).foldl (· ++ ·) acc).size = acc.size + n * a.size
  | 0, acc => by simp
  | n + 1, acc => by
    rw [List.replicate_succ, List.foldl_cons, rep_size, Array.size_append, Nat.add_mul]
    omega
theorem op_repS {X : Cx} : OpR X (binaryOp .Mult) (fun x y H Q => ∃ (z : Str) (n : Int), x = .str z ∧ y = .int n ∧ 2 ≤ n ∧ n ≤ 1000 ∧ z.length = 1 ∧ Q (.str (repS z n.toNat)) H) := by
  intro pins s σ H x y v u Q I rx ry ⟨z, n, ex, ey, h2, h3, h4, q⟩
  subst ex ey
  obtain ⟨t, rfl⟩ := rx
  obtain ⟨t2, rfl⟩ := ry
  refine P.mul_str (by rw [decide_eq_false (by omega), decide_eq_false (by omega)]; rfl) (fun h _ => ?_) (fun h _ => ?_) ?_
  · rw [h4]
    have : (1 : Int) ≤ (2 ^ 63 - 1) / n := by
      rw [Int.le_ediv_iff_mul_le (by omega)]
      omega
    omega
  · rw [h4, Nat.one_mul]
    exact decide_eq_false (by rw [sizeLine_eq]; omega)
  · rw [if_neg (by omega), if_neg (by simp [h4]; omega)]
    refine ⟨?_, ?_⟩
    · show (repS z n.toNat).cps.size ≤ sizeLine
      rw [show (repS z n.toNat).cps.size = _ from rep_size, show z.cps.size = 1 from h4, sizeLine_eq]
      show (#[] : Array Nat).size + n.toNat * 1 ≤ _
      have : (#[] : Array Nat).size = 0 := rfl
      omega
    · exact ⟨.str _, H, I.tok _, ⟨_, rfl⟩, q⟩
theorem oj_repS {X : Cx} : OJ X (binaryOp .Mult) opRepS := by
  refine oj_of op_repS fun F H x y u w o Q hf bx by' e k => ?_
  unfold opRepS at e
  split at e
  · split at e
    · rename_i h
      cases e
      exact ⟨_, _, bx.str, by'.int, h.1, h.2.1, h.2.2, k _ _ (New.str hf)⟩
    · cases e
  · cases e
end J
set_option maxHeartbeats 4000000
namespace J
open PySem PySem.Spec PyProof.Rows L2
section
variable {X : Cx} {W : WX} {pos : Pos} {rest : List Stmt} {frest : DS} {N : List Str} {tg iter : Expr} {body : List Stmt} {t : TgF} {fb : DS} {vs : List Nat}
end
end J
namespace J
open PySem PySem.Spec PyProof.Rows L2
def s1 (c : Nat) : FV := .str ⟨#[c]⟩
mutual
def FV.pl : FV → Bool
  | .non => true
  | .int _ => true
  | .str x => PyData.strOk x
  | .tup xs => FV.plL xs
  | .lst xs => FV.plL xs
  | _ => false
def FV.plL : List FV → Bool
  | [] => true
  | x :: xs => x.pl && FV.plL xs
def FV.dep : FV → Nat
  | .tup xs => FV.depL xs + 1
  | .lst xs => FV.depL xs + 1
  | _ => 0
def FV.depL : List FV → Nat
  | [] => 0
  | x :: xs => max x.dep (FV.depL xs)
end
mutual
theorem FV.pl_toD : ∀ {x : FV}, x.pl = true → ∃ d, x.toD = some d ∧ d.canLay0 = true ∧ d.depth = x.dep
  | .non, _ => ⟨.none, rfl, rfl, rfl⟩
  | .int i, _ => ⟨.int i, rfl, rfl, rfl⟩
  | .str x, h => ⟨.str x, rfl, by rw [PyData.canLay0]; rw [FV.pl] at h; exact h, rfl⟩
  | .tup xs, h => by
    obtain ⟨ds, e, h1, h2⟩ := FV.plL_toD (xs := xs) h
    exact ⟨.tuple ds, by rw [FV.toD, e]; rfl, by simpa [PyData.canLay0] using h1, by rw [PyData.depth, h2]; rfl⟩
  | .lst xs, h => by
    obtain ⟨ds, e, h1, h2⟩ := FV.plL_toD (xs := xs) h
    exact ⟨.list ds, by rw [FV.toD, e]; rfl, by simpa [PyData.canLay0] using h1, by rw [PyData.depth, h2]; rfl⟩
theorem FV.plL_toD : ∀ {xs : List FV}, FV.plL xs = true → ∃ ds, FV.toDL xs = some ds ∧ PyData.canLayAll0 ds = true ∧ PyData.depthAll ds = FV.depL xs
  | [], _ => ⟨[], rfl, rfl, rfl⟩
  | x :: xs, h => by
    rw [FV.plL, Bool.and_eq_true] at h
    obtain ⟨d, e, h1, h2⟩ := FV.pl_toD h.1
    obtain ⟨ds, e3, h3, h4⟩ := FV.plL_toD h.2
    exact ⟨d :: ds, by rw [FV.toDL, e, e3], by rw [PyData.canLayAll0, h1, h3]; rfl, by rw [PyData.depthAll, h2, h4]; rfl⟩
end
mutual
theorem FV.pl_eqv : ∀ {x y : FV} {d e : PyData}, x.pl = true → y.pl = true → x.toD = some d → y.toD = some e → (PyData.eqv d e = true ↔ x = y)
  | .non, y, d, e, _, hy, hd, he => by
    cases y <;> simp [FV.pl] at hy <;> simp [FV.toD] at hd he <;> (try obtain ⟨_, _, he⟩ := he) <;> subst hd <;> (try subst he) <;> simp [PyData.eqv]
  | .int i, y, d, e, _, hy, hd, he => by
    cases y <;> simp [FV.pl] at hy <;> simp [FV.toD] at hd he <;> (try obtain ⟨_, _, he⟩ := he) <;> subst hd <;> (try subst he) <;> simp [PyData.eqv]
  | .str i, y, d, e, _, hy, hd, he => by
    cases y <;> simp [FV.pl] at hy <;> simp [FV.toD] at hd he <;> (try obtain ⟨_, _, he⟩ := he) <;> subst hd <;> (try subst he) <;> simp [PyData.eqv]
  | .tup xs, y, d, e, hx, hy, hd, he => by
    obtain ⟨ds, e1, rfl⟩ := Option.map_eq_some_iff.mp (show (FV.toDL xs).map PyData.tuple = some d from hd)
    cases y with
    | tup ys =>
      obtain ⟨es, e2, rfl⟩ := Option.map_eq_some_iff.mp (show (FV.toDL ys).map PyData.tuple = some e from he)
      rw [PyData.eqv, FV.plL_eqv (xs := xs) (ys := ys) hx hy e1 e2]
      simp
    | _ => simp [FV.pl] at hy <;> simp [FV.toD] at he <;> (try obtain ⟨_, _, he⟩ := he) <;> (try subst he) <;> simp [PyData.eqv]
  | .lst xs, y, d, e, hx, hy, hd, he => by
    obtain ⟨ds, e1, rfl⟩ := Option.map_eq_some_iff.mp (show (FV.toDL xs).map PyData.list = some d from hd)
    cases y with
    | lst ys =>
      obtain ⟨es, e2, rfl⟩ := Option.map_eq_some_iff.mp (show (FV.toDL ys).map PyData.list = some e from he)
      rw [PyData.eqv, FV.plL_eqv (xs := xs) (ys := ys) hx hy e1 e2]
      simp
    | _ => simp [FV.pl] at hy <;> simp [FV.toD] at he <;> (try obtain ⟨_, _, he⟩ := he) <;> (try subst he) <;> simp [PyData.eqv]
theorem FV.plL_eqv : ∀ {xs ys : List FV} {ds es : List PyData}, FV.plL xs = true → FV.plL ys = true → FV.toDL xs = some ds → FV.toDL ys = some es → (PyData.eqvAll ds es = true ↔ xs = ys)
  | [], [], _, _, _, _, h1, h2 => by cases h1; cases h2; simp [PyData.eqvAll]
  | [], y :: ys, _, es, _, hy, h1, h2 => by
    cases h1
    rw [FV.plL, Bool.and_eq_true] at hy
    obtain ⟨d, e, _⟩ := FV.pl_toD hy.1
    obtain ⟨ds, e3, _⟩ := FV.plL_toD hy.2
    rw [FV.toDL, e, e3] at h2
    cases h2
    simp [PyData.eqvAll]
  | x :: xs, [], _, es, hy, _, h2, h1 => by
    cases h1
    rw [FV.plL, Bool.and_eq_true] at hy
    obtain ⟨d, e, _⟩ := FV.pl_toD hy.1
    obtain ⟨ds, e3, _⟩ := FV.plL_toD hy.2
    rw [FV.toDL, e, e3] at h2
    cases h2
    simp [PyData.eqvAll]
  | x :: xs, y :: ys, _, _, hx, hy, h1, h2 => by
    rw [FV.plL, Bool.and_eq_true] at hx hy
    obtain ⟨d, e, _⟩ := FV.pl_toD hx.1
    obtain ⟨ds, e3, _⟩ := FV.plL_toD hx.2
    rw [FV.toDL, e, e3] at h1
    cases h1
    obtain ⟨d', e', _⟩ := FV.pl_toD hy.1
    obtain ⟨ds', e3', _⟩ := FV.plL_toD hy.2
    rw [FV.toDL, e', e3'] at h2
    cases h2
    rw [PyData.eqvAll, Bool.and_eq_true, FV.pl_eqv hx.1 hy.1 e e', FV.plL_eqv hx.2 hy.2 e3 e3']
    simp
end
open Classical in
section
variable {α β : Type} {a : α} {c : Str} {f : α → Ans β} {env e : VEnv} {x y : FV} {o : OV}
theorem bind_ok : (Ans.ok a).bind f = f a := rfl
theorem so_nx {g : VEnv → Ans SO} : SO.bind (.ok (.nx e)) g = g e := rfl
theorem so_rt {g : VEnv → Ans SO} : SO.bind (.ok (.rt o e)) g = .ok (.rt o e) := rfl
theorem ev_seq {f g : DS} : dSeq f g env = SO.bind (f env) g := rfl
theorem ev_set {f : DE} {i : Nat} (h : f env = .ok (.st o)) : dSet i f env = .ok (.nx (env.set i (some o))) := by unfold dSet; rw [h]; rfl
theorem ev_ret {f : DE} (h : f env = .ok (.st o)) : dRet f env = .ok (.rt o env) := by unfold dRet; rw [h]; rfl
theorem ev_retV {i : Nat} (h : env[i]? = some (some o)) : dRetV i env = .ok (.rt o (env.set i none)) := by unfold dRetV; rw [h]
theorem ev_ice {i : Nat} {f : DS} (h : env[i]? = some (some o)) : dIce i f env = f (env.set i (some (.fz o.fv))) := by unfold dIce; rw [h]
theorem ev_ifT {d : DT} {f g : DS} (h : d env = .ok true) : dIf d f g env = f env := by unfold dIf; rw [h]; rfl
theorem ev_ifF {d : DT} {f g : DS} (h : d env = .ok false) : dIf d f g env = g env := by unfold dIf; rw [h]; rfl
theorem ev_test {f : DE} {b : Bool} (h : f env = .ok (.st (.fz (.bl b)))) : dTest f env = .ok b := by unfold dTest; rw [h]; rfl
theorem ev_notT {f : DT} {b : Bool} (h : f env = .ok b) : dNotT f env = .ok !b := by unfold dNotT; rw [h]; rfl
theorem ev_c : dC x env = .ok (.st (.fz x)) := rfl
theorem ev_varF {i : Nat} (h : env[i]? = some (some (.fz x))) : dVar i env = .ok (.st (.fz x)) := by unfold dVar; rw [h]
theorem ev_bin {op : OV → OV → Option OV} {f g : DE} {r q : Rv} (h : f env = .ok r) (h2 : g env = .ok q) (h3 : op r.ov q.ov = some o) : dBin op f g env = .ok (.st o) := by unfold dBin; rw [h, bind_ok, h2, bind_ok, h3]; rfl
theorem ev_un {op : OV → Option OV} {f : DE} {r : Rv} (h : f env = .ok r) (h3 : op r.ov = some o) : dUn op f env = .ok (.st o) := by unfold dUn; rw [h, bind_ok, h3]; rfl
theorem ev_nil : dNil env = .ok [] := rfl
theorem ev_cons {f : DE} {g : VEnv → Ans (List Rv)} {r : Rv} {rs : List Rv} (h : f env = .ok r) (h2 : g env = .ok rs) : dCons f g env = .ok (r :: rs) := by unfold dCons; rw [h, bind_ok, h2]; rfl
theorem ev_frz {f : DE} (h : f env = .ok (.st o)) : dFrz f env = .ok (.st (.fz o.fv)) := by unfold dFrz; rw [h]; rfl
theorem ev_call {m : FM} {g : VEnv → Ans (List Rv)} {rs : List Rv} (h : g env = .ok rs) (h2 : m (rs.map Rv.fv) = .ok o) (h3 : rs.all Rv.isFz = true ∨ o.clean = true) : dCall m g env = .ok (.st o) := by
  unfold dCall
  rw [h, bind_ok, h2, bind_ok, if_pos]
  rw [Bool.or_eq_true]
  exact h3
theorem ev_callB {op : List OV → Option OV} {g : VEnv → Ans (List Rv)} {rs : List Rv} (h : g env = .ok rs) (h2 : op (rs.map Rv.ov) = some o) : dCallB op g env = .ok (.st o) := by unfold dCallB; rw [h, bind_ok, h2]; rfl
theorem ev_meth {ok : OV → Bool} {op : OV → List OV → Option OV} {f : DE} {g : VEnv → Ans (List Rv)} {r : Rv} {rs : List Rv} (h : f env = .ok r) (hk : ok r.ov = true) (h1 : g env = .ok rs) (h2 : op r.ov (rs.map Rv.ov) = some o) : dMeth ok op f g env = .ok (.st o) := by unfold dMeth; rw [h, bind_ok, if_pos hk, h1, bind_ok, h2]; rfl
theorem ev_list {g : VEnv → Ans (List Rv)} {rs : List Rv} {xs : List FV} (h : g env = .ok rs) (h1 : rs.length ≤ 1000) (h2 : allFz rs = some xs) : dList g env = .ok (.st (.ol xs)) := by unfold dList; rw [h, bind_ok, if_pos h1, h2]
theorem ev_tup {g : VEnv → Ans (List Rv)} {rs : List Rv} {xs : List FV} (h : g env = .ok rs) (h1 : rs.length ≤ 1000) (h2 : allFz rs = some xs) : dTup g env = .ok (.st (.fz (.tup xs))) := by unfold dTup; rw [h, bind_ok, if_pos h1, h2]
theorem ev_sub {f g : DE} {r q t : Rv} (h : f env = .ok r) (h2 : g env = .ok q) (h3 : FV.frozenKey q.ov = true) (h4 : opSub' r.ov q.ov = some t) : dSub f g env = .ok t := by unfold dSub; rw [h, bind_ok, h2, bind_ok, if_pos h3, h4]; rfl
theorem ev_items {f : DE} {xs : List FV} (h : f env = .ok (.st (.ol xs)) ∨ f env = .ok (.st (.fz (.lst xs))) ∨ f env = .ok (.st (.fz (.tup xs)))) : dItems f env = .ok xs := by
  unfold dItems
  rcases h with h | h | h <;> (rw [h]; rfl)
theorem ev_app {f : DE} {i : Nat} {p p' : OV} (h : env[i]? = some (some p)) (hl : p.isL = true) (h2 : f env = .ok (.st o)) (hs : p.size < BIG) (h3 : p.app o = some p') : dApp i f env = .ok (.nx (env.set i (some p'))) := by
  unfold dApp
  rw [h]
  simp only
  rw [if_pos hl, h2, bind_ok]
  simp only
  rw [if_pos hs, h3]
theorem ev_run {n : Nat} {f : DS} {as : List FV} (h : f (startE n as) = .ok (.rt o e)) : runF n f as = .ok o := by unfold runF; rw [h]
theorem ev_seqN {f g : DS} {r : Ans SO} (h : f env = .ok (.nx e)) (h2 : g e = r) : dSeq f g env = r := by rw [ev_seq, h, so_nx, h2]
theorem ev_seqR {f g : DS} {e2 : VEnv} (h : f env = .ok (.rt o e2)) : dSeq f g env = .ok (.rt o e2) := by rw [ev_seq, h, so_rt]
end
section
variable {i j : Int} {b : Bool} {env : VEnv}
theorem e_add : opAdd (.fz (.int i)) (.fz (.int j)) = some (.fz (.int (i + j))) := rfl
theorem e_sub : opSub (.fz (.int i)) (.fz (.int j)) = some (.fz (.int (i - j))) := rfl
theorem e_mul (h : mulOk i j = true) : opMul (.fz (.int i)) (.fz (.int j)) = some (.fz (.int (i * j))) := if_pos h
theorem e_mod (h : 0 < j) : opMod (.fz (.int i)) (.fz (.int j)) = some (.fz (.int (i % j))) := if_pos h
theorem e_shr (h : 0 ≤ j) : opShr (.fz (.int i)) (.fz (.int j)) = some (.fz (.int (i / 2 ^ j.toNat))) := if_pos h
theorem mulL {i j : Int} (h : i.natAbs < 2 ^ 62) : mulOk i j = true := by unfold mulOk; rw [Bool.or_eq_true, Bool.or_eq_true]; exact .inl (.inl (decide_eq_true h))
theorem mulR {i j : Int} (h : j.natAbs < 2 ^ 62) : mulOk i j = true := by unfold mulOk; rw [Bool.or_eq_true, Bool.or_eq_true]; exact .inl (.inr (decide_eq_true h))
end
end J
namespace J
open PySem PySem.Spec PyProof.Rows L2
abbrev Chr := Fin 128
def sxS (s : List Chr) : Str := ⟨(s.map Fin.val).toArray⟩
section
variable {α β γ κ : Type}
abbrev eI : Int → FV := FV.int
abbrev eB : Bool → FV := FV.bl
abbrev eC : Chr → FV := fun c => .str ⟨#[c.val]⟩
abbrev eS : List Chr → FV := fun s => .str (sxS s)
abbrev eU : Unit → FV := fun _ => .non
abbrev eL (e : α → FV) : List α → FV := fun xs => .lst (xs.map e)
abbrev eT (e : α → FV) : List α → FV := fun xs => .tup (xs.map e)
def eO (e : α → FV) : Option α → FV
  | none => .non
  | some a => e a
abbrev eD (k : κ → Key) (e : α → FV) : List (List κ × α) → FV := fun d => .dT (d.map fun p => (p.1.map k, e p.2))
abbrev oF (e : α → FV) : α → OV := fun x => .fz (e x)
abbrev oL (e : α → FV) : List α → OV := fun xs => .ol (xs.map e)
abbrev oK (k : κ → Key) (e : α → FV) : List (κ × α) → OV := fun d => .oK (d.map fun p => (k p.1, e p.2))
def oO (o : α → OV) : Option α → OV
  | none => .fz .non
  | some a => o a
structure EnP (n : Nat) (e : α → FV) : Prop where
  d : ∀ a, ∃ p, (e a).toD = some p ∧ p.canLay0 = true ∧ p.depth ≤ n
  inj : ∀ a b p q, (e a).toD = some p → (e b).toD = some q → (PyData.eqv p q = true ↔ a = b)
structure NN (e : α → FV) : Prop where
  n : ∀ a, (e a).isNon = false
theorem sxS_inj {a b : List Chr} (h : sxS a = sxS b) : a = b := by
  unfold sxS at h
  injection h with h
  have h2 : (a.map Fin.val) = (b.map Fin.val) := by simpa using congrArg Array.toList h
  exact (List.map_inj_right (fun x y e => Fin.ext e)).mp h2
theorem sxS_ok (s : List Chr) : PyData.strOk (sxS s) = true := by
  unfold PyData.strOk sxS
  simp
  intro x _
  omega
theorem epI : EnP 0 eI := ⟨fun a => ⟨.int a, rfl, rfl, Nat.le_refl _⟩, fun a b p q h1 h2 => by cases h1; cases h2; simp [PyData.eqv]⟩
theorem epS : EnP 0 eS := ⟨fun a => ⟨.str (sxS a), rfl, by rw [PyData.canLay0]; exact sxS_ok a, Nat.le_refl _⟩, fun a b p q h1 h2 => by
  cases h1; cases h2
  rw [PyData.eqv]
  exact ⟨fun h => sxS_inj (by simpa using h), fun h => by rw [h]; simp⟩⟩
theorem epC : EnP 0 eC := ⟨fun a => ⟨.str (sxS [a]), rfl, by rw [PyData.canLay0]; exact sxS_ok [a], Nat.le_refl _⟩, fun a b p q h1 h2 => by
  cases h1; cases h2
  rw [PyData.eqv]
  exact ⟨fun h => by
    have h : (⟨#[a.val]⟩ : Str) = ⟨#[b.val]⟩ := by simpa using h
    injection h with h
    simp at h
    exact Fin.ext h, fun h => by rw [h]; simp⟩⟩
theorem nnI : NN eI := ⟨fun _ => rfl⟩
section
variable {e : α → FV} {d : β → FV} {c : γ → FV} {n m k : Nat}
theorem nnL : NN (eL e) := ⟨fun _ => rfl⟩
theorem EnP.mono (h : EnP n e) (hm : n ≤ m) : EnP m e := ⟨fun a => let ⟨p, h1, h2, h3⟩ := h.d a; ⟨p, h1, h2, Nat.le_trans h3 hm⟩, h.inj⟩
theorem EnP.L (h : EnP n e) : ∀ xs : List α, ∃ ds, FV.toDL (xs.map e) = some ds ∧ PyData.canLayAll0 ds = true ∧ PyData.depthAll ds ≤ n
  | [] => ⟨[], rfl, rfl, Nat.zero_le _⟩
  | x :: xs => by
    obtain ⟨p, h1, h2, h3⟩ := h.d x
    obtain ⟨ds, q1, q2, q3⟩ := EnP.L h xs
    exact ⟨p :: ds, by rw [List.map_cons, FV.toDL, h1, q1], by rw [PyData.canLayAll0, h2, q2]; rfl, by rw [PyData.depthAll]; exact Nat.max_le.mpr ⟨h3, q3⟩⟩
theorem EnP.Linj (h : EnP n e) : ∀ {xs ys : List α} {ds es : List PyData}, FV.toDL (xs.map e) = some ds → FV.toDL (ys.map e) = some es → (PyData.eqvAll ds es = true ↔ xs = ys)
  | [], [], _, _, h1, h2 => by cases h1; cases h2; simp [PyData.eqvAll]
  | [], y :: ys, _, _, h1, h2 => by
    cases h1
    obtain ⟨p, e1, _⟩ := h.d y
    obtain ⟨ds, e3, _⟩ := EnP.L h ys
    rw [List.map_cons, FV.toDL, e1, e3] at h2
    cases h2
    simp [PyData.eqvAll]
  | x :: xs, [], _, _, h2, h1 => by
    cases h1
    obtain ⟨p, e1, _⟩ := h.d x
    obtain ⟨ds, e3, _⟩ := EnP.L h xs
    rw [List.map_cons, FV.toDL, e1, e3] at h2
    cases h2
    simp [PyData.eqvAll]
  | x :: xs, y :: ys, _, _, h1, h2 => by
    obtain ⟨p, e1, _⟩ := h.d x
    obtain ⟨ds, e3, _⟩ := EnP.L h xs
    rw [List.map_cons, FV.toDL, e1, e3] at h1
    cases h1
    obtain ⟨p', e1', _⟩ := h.d y
    obtain ⟨ds', e3', _⟩ := EnP.L h ys
    rw [List.map_cons, FV.toDL, e1', e3'] at h2
    cases h2
    rw [PyData.eqvAll, Bool.and_eq_true, h.inj x y _ _ e1 e1', EnP.Linj h e3 e3']
    simp
theorem epL (h : EnP n e) : EnP (n + 1) (eL e) := ⟨fun a => by
    obtain ⟨ds, h1, h2, h3⟩ := h.L a
    exact ⟨.list ds, by rw [FV.toD, h1]; rfl, by rw [PyData.canLay0]; exact h2, by rw [PyData.depth]; omega⟩, fun a b p q h1 h2 => by
    obtain ⟨ds, e1, rfl⟩ := Option.map_eq_some_iff.mp (show (FV.toDL (a.map e)).map PyData.list = some p from h1)
    obtain ⟨es, e2, rfl⟩ := Option.map_eq_some_iff.mp (show (FV.toDL (b.map e)).map PyData.list = some q from h2)
    rw [PyData.eqv]
    exact h.Linj e1 e2⟩
theorem epT (h : EnP n e) : EnP (n + 1) (eT e) := ⟨fun a => by
    obtain ⟨ds, h1, h2, h3⟩ := h.L a
    exact ⟨.tuple ds, by rw [FV.toD, h1]; rfl, by rw [PyData.canLay0]; exact h2, by rw [PyData.depth]; omega⟩, fun a b p q h1 h2 => by
    obtain ⟨ds, e1, rfl⟩ := Option.map_eq_some_iff.mp (show (FV.toDL (a.map e)).map PyData.tuple = some p from h1)
    obtain ⟨es, e2, rfl⟩ := Option.map_eq_some_iff.mp (show (FV.toDL (b.map e)).map PyData.tuple = some q from h2)
    rw [PyData.eqv]
    exact h.Linj e1 e2⟩
theorem NN.toD (hn : NN e) (a : α) : (e a).toD ≠ some .none := fun h => by
  have := hn.n a
  revert h this
  cases e a <;> simp [FV.toD, FV.isNon]
theorem eqv_none : ∀ p : PyData, p ≠ .none → PyData.eqv .none p = false ∧ PyData.eqv p .none = false := fun p h => by
  cases p <;> simp [PyData.eqv] at h ⊢
theorem epO (h : EnP n e) (hn : NN e) : EnP n (eO e) := ⟨fun a => by
    cases a with
    | none => exact ⟨.none, rfl, rfl, Nat.zero_le _⟩
    | some a => exact h.d a, fun a b p q h1 h2 => by
    cases a with
    | none => cases b with
      | none => cases h1; cases h2; simp [PyData.eqv]
      | some b =>
        cases h1
        have := hn.toD b
        rw [(eqv_none q fun z => this (by rw [← z]; exact h2)).1]
        simp
    | some a => cases b with
      | none =>
        cases h2
        have := hn.toD a
        rw [(eqv_none p fun z => this (by rw [← z]; exact h1)).2]
        simp
      | some b => rw [h.inj a b p q h1 h2]; simp⟩
end
section
variable {e : α → FV} {d : β → FV} {c : γ → FV} {n m k : Nat}
structure EPu (e : α → FV) : Prop where
  p : ∀ a, (e a).pure = true
theorem pureL_all : ∀ {xs : List FV}, (∀ x ∈ xs, x.pure = true) → FV.pureL xs = true
  | [], _ => rfl
  | x :: xs, h => by
    unfold FV.pureL
    rw [h x List.mem_cons_self, pureL_all fun y hy => h y (List.mem_cons_of_mem _ hy)]
    rfl
theorem EPu.L (h : EPu e) (xs : List α) : FV.pureL (xs.map e) = true := pureL_all fun x hx => by
  obtain ⟨a, _, rfl⟩ := List.mem_map.mp hx
  exact h.p a
theorem puI : EPu eI := ⟨fun _ => rfl⟩
theorem puO (h : EPu e) : EPu (eO e) := ⟨fun a => by cases a with | none => rfl | some a => exact h.p a⟩
end
end
section
variable {α β γ δ σ ρ κ : Type}
def OE (x : Ans δ) (tt : Option γ) (R : γ → δ) : Prop := ∀ v, tt = some v → x = .ok (R v)
def SG (x : Ans SO) (tt : Option γ) (P : γ → SO → Prop) : Prop := ∀ g, tt = some g → ∃ so, x = .ok so ∧ P g so
def PR (O : γ → OV) : γ → SO → Prop := fun v so => ∃ e, so = .rt (O v) e
def PN (E : γ → VEnv → Prop) : γ → SO → Prop := fun s so => ∃ e, so = .nx e ∧ E s e
inductive Ctl (σ ρ : Type) where
  | nx (s : σ)
  | bk (s : σ)
  | rt (r : ρ)
def PC (E : σ → VEnv → Prop) (B : σ → VEnv → Prop) (O : ρ → OV) : Ctl σ ρ → SO → Prop
  | .nx s, so => ∃ e, so = .nx e ∧ E s e
  | .bk s, so => ∃ e, so = .bk e ∧ B s e
  | .rt r, so => ∃ e, so = .rt (O r) e
def PL (B : σ → VEnv → Prop) (O : ρ → OV) : Ctl σ ρ → SO → Prop
  | .nx s, so => ∃ e, so = .nx e ∧ B s e
  | .bk s, so => ∃ e, so = .nx e ∧ B s e
  | .rt r, so => ∃ e, so = .rt (O r) e
theorem oe_bind {x : Ans δ} {o : Option α} {k : α → Option γ} {R : γ → δ} (h : ∀ a, o = some a → OE x (k a) R) : OE x (o.bind k) R := fun v hv => by
  cases o with
  | none => cases hv
  | some a => exact h a rfl v hv
theorem oe_ret {x : Ans δ} {v : γ} {R : γ → δ} (h : x = .ok (R v)) : OE x (some v) R := fun w hw => by cases hw; exact h
variable {P : γ → SO → Prop} {tt : Option γ} {env : VEnv} {f : DE} {D A B : DS} {o : OV}
theorem sg_bind {x : Ans SO} {o : Option α} {k : α → Option γ} (h : ∀ a, o = some a → SG x (k a) P) : SG x (o.bind k) P := fun v hv => by
  cases o with
  | none => cases hv
  | some a => exact h a rfl v hv
theorem sg_env {e2 : VEnv} (h : env = e2) (h2 : SG (D e2) tt P) : SG (D env) tt P := by rw [h]; exact h2
theorem sg_set {i : Nat} (h : f env = .ok (.st o)) (h2 : SG (D (env.set i (some o))) tt P) : SG (dSeq (dSet i f) D env) tt P := by
  rw [ev_seqN (ev_set h) rfl]; exact h2
theorem sg_skip (h2 : SG (D env) tt P) : SG (dSeq dSkip D env) tt P := h2
theorem so_assoc {A B C : VEnv → Ans SO} (x : Ans SO) : SO.bind (SO.bind x A) B = SO.bind x (fun e => SO.bind (A e) B) := by
  cases x with
  | ok s => cases s <;> rfl
  | ex c => rfl
  | no => rfl
theorem sg_assoc {C : DS} (h : SG (dSeq A (dSeq B C) env) tt P) : SG (dSeq (dSeq A B) C env) tt P := by
  have e : dSeq (dSeq A B) C env = dSeq A (dSeq B C) env := so_assoc (C := C) (A env)
  rw [e]; exact h
theorem sg_seq {E : α → VEnv → Prop} {t1 : Option α} {t2 : α → Option γ} (h : SG (A env) t1 (PN E)) (h2 : ∀ s e, E s e → SG (B e) (t2 s) P) : SG (dSeq A B env) (t1.bind t2) P := fun v hv => by
  cases h1 : t1 with
  | none => rw [h1] at hv; cases hv
  | some a =>
    rw [h1] at hv
    obtain ⟨so, q1, e, rfl, q2⟩ := h a h1
    rw [ev_seqN q1 rfl]
    exact h2 a e q2 v hv
def behind (k : ρ → γ) (t2 : σ → Option γ) : Ctl σ ρ → Option γ
  | .nx s => t2 s
  | .bk s => t2 s
  | .rt r => some (k r)
theorem sg_seqL {E : σ → VEnv → Prop} {O : ρ → OV} {t1 : Option (Ctl σ ρ)} {t2 : σ → Option γ} {k : ρ → γ} (h : SG (A env) t1 (PL E O)) (h3 : ∀ r e, P (k r) (.rt (O r) e)) (h2 : ∀ s e, E s e → SG (B e) (t2 s) P) :
    SG (dSeq A B env) (t1.bind (behind k t2)) P := fun v hv => by
  cases h1 : t1 with
  | none => rw [h1] at hv; cases hv
  | some a =>
    rw [h1] at hv
    obtain ⟨so, q1, q2⟩ := h a h1
    cases a with
    | nx s =>
      obtain ⟨e, rfl, q2⟩ := q2
      rw [ev_seqN q1 rfl]
      exact h2 s e q2 v hv
    | bk s =>
      obtain ⟨e, rfl, q2⟩ := q2
      rw [ev_seqN q1 rfl]
      exact h2 s e q2 v hv
    | rt r =>
      obtain ⟨e, rfl⟩ := q2
      cases hv
      rw [ev_seqR q1]
      exact ⟨_, rfl, h3 r e⟩
theorem sg_if {c : DT} {b : Bool} {t u : Option γ} (h : c env = .ok b) (h1 : b = true → SG (A env) t P) (h2 : b = false → SG (B env) u P) : SG (dIf c A B env) (if b then t else u) P := by
  cases b with
  | true => rw [ev_ifT h]; exact h1 rfl
  | false => rw [ev_ifF h]; exact h2 rfl
theorem sg_ifs {c : DT} {b : Bool} {t u : Option γ} (h : c env = .ok b) (h1 : b = true → SG (dSeq A D env) t P) (h2 : b = false → SG (dSeq B D env) u P) : SG (dSeq (dIf c A B) D env) (if b then t else u) P := by
  have e : dSeq (dIf c A B) D env = if b then dSeq A D env else dSeq B D env := by
    rw [ev_seq]
    cases b with
    | true => rw [ev_ifT h]; rfl
    | false => rw [ev_ifF h]; rfl
  rw [e]
  cases b with
  | true => exact h1 rfl
  | false => exact h2 rfl
theorem sg_ice {i : Nat} {x : FV} (h : env[i]? = some (some o)) (hx : o.fv = x) (h2 : SG (D (env.set i (some (.fz x)))) tt P) : SG (dIce i D env) tt P := by
  rw [ev_ice h, hx]; exact h2
theorem sg_iceF {i : Nat} {x : FV} (h : env[i]? = some (some (.fz x))) (h2 : SG (D env) tt P) : SG (dIce i D env) tt P := by
  rw [ev_iceQ' h]; exact h2
where
  ev_iceQ' {i : Nat} {f : DS} {env : VEnv} {x : FV} (h : env[i]? = some (some (.fz x))) : dIce i f env = f env := by
    have hset : env.set i (some (.fz (OV.fz x).fv)) = env := by
      apply List.ext_getElem?
      intro j
      by_cases hj : i = j
      · subst hj
        obtain ⟨hlt, _⟩ := List.getElem?_eq_some_iff.mp h
        rw [List.getElem?_set_self hlt, h]
        rfl
      · rw [List.getElem?_set_ne hj]
    rw [ev_ice h, hset]
theorem sg_iceS {i : Nat} (h : SG (dIce i (dSeq A B) env) tt P) : SG (dSeq (dIce i A) B env) tt P := by
  have e : dSeq (dIce i A) B env = dIce i (dSeq A B) env := by
    rw [ev_seq]
    unfold dIce
    rcases env[i]? with _ | _ | o <;> rfl
  rw [e]; exact h
theorem sg_nx {E : γ → VEnv → Prop} {v : γ} {env : VEnv} (h : E v env) : SG (dSkip env) (some v) (PN E) := fun w hw => by cases hw; exact ⟨_, rfl, env, rfl, h⟩
theorem sg_of {P : γ → SO → Prop} {x : Ans SO} {so : SO} {v : γ} (h : x = .ok so) (hp : P v so) : SG x (some v) P := fun w hw => by cases hw; exact ⟨so, h, hp⟩
theorem sg_one {D : DS} (h : SG (dSeq D dSkip env) tt P) : SG (D env) tt P := by
  have e : dSeq D dSkip env = D env := by
    rw [ev_seq]
    cases h : D env with
    | ok s => cases s <;> rfl
    | ex c => rfl
    | no => rfl
  rw [← e]; exact h
theorem sg_retS {v : γ} {o : OV} (h : f env = .ok (.st o)) (hp : ∀ e, P v (.rt o e)) : SG (dSeq (dRet f) D env) (some v) P := sg_of (ev_seqR (ev_ret h)) (hp _)
theorem sg_retVS {i : Nat} {v : γ} {o : OV} (h : env[i]? = some (some o)) (hp : ∀ e, P v (.rt o e)) : SG (dSeq (dRetV i) D env) (some v) P := sg_of (ev_seqR (ev_retV h)) (hp _)
theorem sg_app {i : Nat} {p p' : OV} (h : env[i]? = some (some p)) (hl : p.isL = true) (h2 : f env = .ok (.st o)) (hs : p.size < BIG) (h3 : p.app o = some p') (k : SG (D (env.set i (some p'))) tt P) : SG (dSeq (dApp i f) D env) tt P := by
  rw [ev_seqN (ev_app h hl h2 hs h3) rfl]; exact k
def forT (f : α → σ → Option σ) : List α → σ → Option σ
  | [], s => some s
  | x :: xs, s => (f x s).bind (forT f xs)
def forC (f : α → σ → Option (Ctl σ ρ)) : List α → σ → Option (Ctl σ ρ)
  | [], s => some (.nx s)
  | x :: xs, s => (f x s).bind fun c => match c with
    | .nx s => forC f xs s
    | .bk s => some (.bk s)
    | .rt r => some (.rt r)
theorem forL_sim {eA : α → FV} {t : TgF} {body : DS} {E : σ → VEnv → Prop} {tb : α → σ → Option σ} (hb : ∀ x s e, E s e → ∃ e1, t (eA x) e = some e1 ∧ SG (body e1) (tb x s) (PN E)) :
    ∀ (items : List α) (s : σ) (env : VEnv), E s env → SG (forL t body (items.map eA) env) (forT tb items s) (PN E)
  | [], s, env, h => fun g hg => by cases hg; exact ⟨_, rfl, env, rfl, h⟩
  | x :: xs, s, env, h => fun g hg => by
    unfold forT at hg
    obtain ⟨e1, q1, q2⟩ := hb x s env h
    cases ht : tb x s with
    | none => rw [ht] at hg; cases hg
    | some s' =>
      rw [ht] at hg
      obtain ⟨so, r1, e2, rfl, r2⟩ := q2 s' ht
      rw [List.map_cons]
      unfold forL
      rw [q1]
      simp only
      rw [r1]
      exact forL_sim hb xs s' e2 r2 g hg
theorem forC_sim {eA : α → FV} {t : TgF} {body : DS} {E B : σ → VEnv → Prop} {O : ρ → OV} {tb : α → σ → Option (Ctl σ ρ)} (hEB : ∀ s e, E s e → B s e) (hb : ∀ x s e, E s e → ∃ e1, t (eA x) e = some e1 ∧ SG (body e1) (tb x s) (PC E B O)) :
    ∀ (items : List α) (s : σ) (env : VEnv), E s env → SG (forL t body (items.map eA) env) (forC tb items s) (PL B O)
  | [], s, env, h => fun g hg => by cases hg; exact ⟨_, rfl, env, rfl, hEB _ _ h⟩
  | x :: xs, s, env, h => fun g hg => by
    unfold forC at hg
    obtain ⟨e1, q1, q2⟩ := hb x s env h
    cases ht : tb x s with
    | none => rw [ht] at hg; cases hg
    | some c =>
      rw [ht] at hg
      obtain ⟨so, r1, r2⟩ := q2 c ht
      rw [List.map_cons]
      unfold forL
      rw [q1]
      simp only
      rw [r1]
      cases c with
      | nx s' =>
        obtain ⟨e2, rfl, r2⟩ := r2
        exact forC_sim hEB hb xs s' e2 r2 g hg
      | bk s' =>
        obtain ⟨e2, rfl, r2⟩ := r2
        cases hg
        exact ⟨_, rfl, e2, rfl, r2⟩
      | rt r =>
        obtain ⟨e2, rfl⟩ := r2
        cases hg
        exact ⟨_, rfl, e2, rfl⟩
theorem sg_for {it : VEnv → Ans (List FV)} {eA : α → FV} {t : TgF} {body : DS} (E : σ → VEnv → Prop) {tb : α → σ → Option σ} {items : List α} {s : σ} (hi : it env = .ok (items.map eA)) (h : E s env) (hb : ∀ x s e, E s e → ∃ e1, t (eA x) e = some e1 ∧ SG (body e1) (tb x s) (PN E)) :
    SG (dFor it t body env) (forT tb items s) (PN E) := by
  unfold dFor
  rw [hi, bind_ok]
  exact forL_sim hb items s env h
theorem sg_forC {it : VEnv → Ans (List FV)} {eA : α → FV} {t : TgF} {body : DS} (E B : σ → VEnv → Prop) (O : ρ → OV) {tb : α → σ → Option (Ctl σ ρ)} {items : List α} {s : σ} (hi : it env = .ok (items.map eA)) (h : E s env) (hEB : ∀ s e, E s e → B s e) (hb : ∀ x s e, E s e → ∃ e1, t (eA x) e = some e1 ∧ SG (body e1) (tb x s) (PC E B O)) :
    SG (dFor it t body env) (forC tb items s) (PL B O) := by
  unfold dFor
  rw [hi, bind_ok]
  exact forC_sim hEB hb items s env h
open Classical in
end
end J
namespace J
open PySem PySem.Spec PyProof.Rows L2
section
variable {α β γ κ : Type} {e : α → FV} {d : β → FV} {env : VEnv} {x y o : OV} {n m : Nat}
def OV.nf : OV → Bool
  | .fz _ => false
  | _ => true
theorem ev_varO {i : Nat} (h : env[i]? = some (some o)) (ho : o.nf = true) : dVar i env = .ok (.bo o) := by
  unfold dVar
  rw [h]
  cases o with
  | fz x => cases ho
  | _ => rfl
theorem ev_cs {s : Str} {l : List Chr} (h : s = sxS l) : dC (.str s) env = .ok (.st (.fz (eS l))) := by rw [h]; rfl
theorem ev_cc {s : Str} {c : Chr} (h : s = ⟨#[c.val]⟩) : dC (.str s) env = .ok (.st (.fz (eC c))) := by rw [h]; rfl
theorem fvO_of {ov : α → OV} (h : ∀ a, (ov a).fv = e a) (v : Option α) : (oO ov v).fv = eO e v := by
  cases v with
  | none => rfl
  | some a => exact h a
def mulG (i j : Int) : Option Int := if mulOk i j then some (i * j) else none
def modG (i j : Int) : Option Int := if 0 < j then some (i % j) else none
def shrG (i j : Int) : Option Int := if 0 ≤ j then some (i / 2 ^ j.toNat) else none
section
variable {i j v : Int}
theorem t_mulG (h : mulG i j = some v) : opMul (.fz (.int i)) (.fz (.int j)) = some (.fz (.int v)) := by
  unfold mulG at h
  show (if mulOk i j then some (OV.fz (.int (i * j))) else none) = _
  split at h
  · cases h; rename_i q; rw [if_pos q]
  · cases h
theorem t_modG (h : modG i j = some v) : opMod (.fz (.int i)) (.fz (.int j)) = some (.fz (.int v)) := by
  unfold modG at h
  show (if 0 < j then some (OV.fz (.int (i % j))) else none) = _
  split at h
  · cases h; rename_i q; rw [if_pos q]
  · cases h
theorem t_shrG (h : shrG i j = some v) : opShr (.fz (.int i)) (.fz (.int j)) = some (.fz (.int v)) := by
  unfold shrG at h
  show (if 0 ≤ j then some (OV.fz (.int (i / 2 ^ j.toNat))) else none) = _
  split at h
  · cases h; rename_i q; rw [if_pos q]
  · cases h
theorem t_div (h : 0 < j ∧ j.natAbs < 2 ^ 62) : opDiv (.fz (.int i)) (.fz (.int j)) = some (.fz (.int (i / j))) := if_pos h
theorem t_pow (h : 0 ≤ j ∧ j ≤ 1000 ∧ i.natAbs < 2 ^ 60) : opPow (.fz (.int i)) (.fz (.int j)) = some (.fz (.int (i ^ j.toNat))) := if_pos h
theorem t_lt : opLt (.fz (.int i)) (.fz (.int j)) = some (.fz (.bl (decide (i < j)))) := rfl
theorem t_le : opLe (.fz (.int i)) (.fz (.int j)) = some (.fz (.bl (decide (i ≤ j)))) := rfl
theorem t_gt : opGt (.fz (.int i)) (.fz (.int j)) = some (.fz (.bl (decide (j < i)))) := rfl
theorem t_neg : opNeg (.fz (.int i)) = some (.fz (.int (-i))) := rfl
end
theorem dec_of {p : Prop} [Decidable p] {b : Bool} (h : b = true ↔ p) : b = decide p := by
  by_cases q : p
  · rw [decide_eq_true q, h.mpr q]
  · rw [decide_eq_false q]
    cases b with
    | false => rfl
    | true => exact absurd (h.mp rfl) q
theorem eqE {a b : α} [Decidable (a = b)] (h : EnP n e) (hn : n ≤ 64) : (e a).eqD (e b) = some (decide (a = b)) := by
  obtain ⟨p, h1, h2, h3⟩ := h.d a
  obtain ⟨q, g1, g2, g3⟩ := h.d b
  unfold FV.eqD
  rw [h1, g1]
  have s1 : SeqAt.shaped p = true := by unfold SeqAt.shaped; rw [h2]; simp; omega
  have s2 : SeqAt.shaped q = true := by unfold SeqAt.shaped; rw [g2]; simp; omega
  simp only [s1, s2, Bool.and_self, if_true]
  rw [dec_of (h.inj a b p q h1 g1)]
theorem t_eq {a b : α} [Decidable (a = b)] (h : EnP n e) (hn : n ≤ 64) (hx : x.fv = e a) (hy : y.fv = e b) : opEq x y = some (.fz (.bl (decide (a = b)))) := by
  unfold opEq
  split
  · rename_i i j
    rw [dec_of (p := a = b) (b := decide (i = j)) (by
      rw [← h.inj a b (.int i) (.int j) (by rw [← hx]; rfl) (by rw [← hy]; rfl)]; simp [PyData.eqv])]
  · rename_i i j
    rw [dec_of (p := a = b) (b := decide (i = j)) (by
      rw [← h.inj a b (.str i) (.str j) (by rw [← hx]; rfl) (by rw [← hy]; rfl)]; simp [PyData.eqv])]
  · rw [hx, hy, eqE h hn, Option.map_some]
theorem t_ne {a b : α} [Decidable (a = b)] (h : EnP n e) (hn : n ≤ 64) (hx : x.fv = e a) (hy : y.fv = e b) : opNe x y = some (.fz (.bl (!decide (a = b)))) := by
  unfold opNe
  split
  · rename_i i j
    rw [dec_of (p := a = b) (b := decide (i = j)) (by
      rw [← h.inj a b (.int i) (.int j) (by rw [← hx]; rfl) (by rw [← hy]; rfl)]; simp [PyData.eqv])]
  · rename_i i j
    rw [dec_of (p := a = b) (b := decide (i = j)) (by
      rw [← h.inj a b (.str i) (.str j) (by rw [← hx]; rfl) (by rw [← hy]; rfl)]; simp [PyData.eqv])]
  · rw [hx, hy, eqE h hn, Option.map_some]
theorem any_eqv (h : EnP n e) {a : α} {p : PyData} (hp : (e a).toD = some p) : ∀ {xs : List α} {ds : List PyData}, FV.toDL (xs.map e) = some ds → ((ds.any fun z => PyData.eqv z p) = true ↔ a ∈ xs)
  | [], ds, hd => by cases hd; simp
  | x :: xs, ds, hd => by
    rw [List.map_cons] at hd
    obtain ⟨dx, ex, _⟩ := h.d x
    obtain ⟨dy, ey, _⟩ := h.L xs
    rw [FV.toDL, ex, ey] at hd
    cases hd
    rw [List.any_cons, Bool.or_eq_true, any_eqv h hp ey, h.inj _ _ _ _ ex hp, List.mem_cons]
    exact ⟨fun q => q.imp Eq.symm id, fun q => q.imp Eq.symm id⟩
theorem inSeqL {a : α} {xs : List α} [Decidable (a ∈ xs)] (h : EnP n e) (hn : n < 64) : inSeq (e a) (eL e xs) = some (decide (a ∈ xs)) := by
  obtain ⟨p, ep, c1, d1⟩ := h.d a
  obtain ⟨ds, es, c2, d2⟩ := h.L xs
  unfold inSeq
  simp only
  rw [ep, es]
  have s1 : SeqAt.shaped p = true := by unfold SeqAt.shaped; rw [c1]; simp; omega
  have s2 : SeqAt.shaped (.list ds) = true := by
    unfold SeqAt.shaped
    rw [PyData.canLay0, c2, PyData.depth]
    simp
    omega
  simp only [s1, s2, Bool.and_self, if_true]
  rw [dec_of (any_eqv h ep es)]
theorem t_ninL {a : α} {xs : List α} [Decidable (a ∈ xs)] (h : EnP n e) (hn : n < 64) (hx : x.fv = e a) (hy : y.fv = eL e xs) (hd : y.isD = false) : opIn true x y = some (.fz (.bl (!decide (a ∈ xs)))) := by
  unfold opIn
  rw [hd, if_neg Bool.false_ne_true, hx, hy, inSeqL h hn, Option.map_some]
  cases decide (a ∈ xs) <;> rfl
structure EAt (e : α → FV) : Prop where
  a : ∀ a, (e a).atom = true
theorem atI' : EAt eI := ⟨fun _ => rfl⟩
theorem atO (h : EAt e) : EAt (eO e) := ⟨fun a => by cases a with | none => rfl | some a => exact h.a a⟩
theorem atZ_ok {a : α} {xs : List α} [Decidable (a ∈ xs)] (h : EnP n e) (ha : EAt e) (y : FV) (hy : y = .tup (xs.map e) ∨ y = .tuz (xs.map e)) : inSeq (e a) y = some (decide (a ∈ xs)) := by
  obtain ⟨p, ep, c1, d1⟩ := h.d a
  obtain ⟨ds, es, c2, d2⟩ := h.L xs
  have : (xs.map e).all FV.atom = true := by
    rw [List.all_map]
    exact List.all_eq_true.mpr fun a _ => ha.a a
  rcases hy with rfl | rfl
  · unfold inSeq
    simp only
    rw [ep, es, ha.a a, this]
    simp only [Bool.and_self, if_true]
    rw [dec_of (any_eqv h ep es)]
  · unfold inSeq
    simp only
    rw [ep, es, ha.a a, this]
    simp only [Bool.and_self, if_true]
    rw [dec_of (any_eqv h ep es)]
theorem inSeqT {a : α} {xs : List α} [Decidable (a ∈ xs)] (h : EnP n e) (ha : EAt e) : inSeq (e a) (eT e xs) = some (decide (a ∈ xs)) := atZ_ok h ha _ (.inl rfl)
theorem t_inT {a : α} {xs : List α} [Decidable (a ∈ xs)] (h : EnP n e) (ha : EAt e) (hx : x.fv = e a) (hy : y = .fz (eT e xs)) : opIn false x y = some (.fz (.bl (decide (a ∈ xs)))) := by
  subst hy
  unfold opIn
  rw [if_neg (show ¬ (OV.fz (eT e xs)).isD = true from Bool.false_ne_true), hx]
  show (inSeq (e a) (eT e xs)).map _ = _
  rw [inSeqT h ha, Option.map_some]
  cases decide (a ∈ xs) <;> rfl
theorem inSeqS {c : Chr} {s : List Chr} [Decidable (c ∈ s)] : inSeq (eC c) (eS s) = some (decide (c ∈ s)) := by
  show some (decide (c.val ∈ (sxS s).cps.toList)) = _
  congr 1
  have : c.val ∈ (sxS s).cps.toList ↔ c ∈ s := by
    unfold sxS
    simp only [List.mem_map]
    constructor
    · rintro ⟨a, h, e⟩; rw [← Fin.ext e]; exact h
    · exact fun h => ⟨c, h, rfl⟩
  by_cases q : c ∈ s
  · rw [decide_eq_true q, decide_eq_true (this.mpr q)]
  · rw [decide_eq_false q, decide_eq_false (fun z => q (this.mp z))]
theorem t_ninS {c : Chr} {s : List Chr} [Decidable (c ∈ s)] (hx : x.fv = eC c) (hy : y = .fz (eS s)) : opIn true x y = some (.fz (.bl (!decide (c ∈ s)))) := by
  subst hy
  unfold opIn
  rw [if_neg (show ¬ (OV.fz (eS s)).isD = true from Bool.false_ne_true), hx]
  show (inSeq (eC c) (eS s)).map _ = _
  rw [inSeqS, Option.map_some]
  cases decide (c ∈ s) <;> rfl
section
variable [DecidableEq κ] {k : κ → Key} {c : κ → FV} {l : List (κ × α)} {a : κ} {v : α}
end
section
variable [DecidableEq κ] {k : κ → Key} {c : κ → FV} {l : List (List κ × α)} {a : List κ} {v : α}
end
theorem atI_map (xs : List α) (i : Int) : atI (xs.map e) i = (atI xs i).map e := by
  unfold atI
  rw [List.length_map]
  cases ixN xs.length i with
  | none => rfl
  | some j => exact List.getElem?_map
theorem t_atL {xs : List α} {i : Int} {v : α} (hx : x = .ol (xs.map e) ∨ x = .fz (eL e xs) ∨ x = .fz (eT e xs)) (h : atI xs i = some v) : opSub' x (.fz (.int i)) = some (.st (.fz (e v))) := by
  rcases hx with rfl | rfl | rfl
  · show (atI (xs.map e) i).map (fun v => Rv.st (.fz v)) = _
    rw [atI_map, h]; rfl
  · show (atI (xs.map e) i).map (fun v => Rv.st (.fz v)) = _
    rw [atI_map, h]; rfl
  · show (atI (xs.map e) i).map (fun v => Rv.st (.fz v)) = _
    rw [atI_map, h]; rfl
theorem sx_list (s : List Chr) : (sxS s).cps.toList = s.map Fin.val := by unfold sxS; simp
theorem sx_len (s : List Chr) : (sxS s).length = s.length := by
  show (sxS s).cps.size = _
  unfold sxS
  simp
def atS' (s : List Chr) (i : Int) : Option Chr := if s.length ≤ BIG then atI s i else none
theorem t_atS {s : List Chr} {i : Int} {v : Chr} (h : atS' s i = some v) : opSub' (.fz (eS s)) (.fz (.int i)) = some (.st (.fz (eC v))) := by
  unfold atS' at h
  split at h
  · rename_i q
    show (if (sxS s).length ≤ BIG then (atI (sxS s).cps.toList i).map (fun c => Rv.st (.fz (.str ⟨#[c]⟩))) else none) = _
    rw [sx_len, if_pos q, sx_list]
    have : atI (s.map Fin.val) i = (atI s i).map Fin.val := by
      unfold atI
      rw [List.length_map]
      cases ixN s.length i with
      | none => rfl
      | some j => exact List.getElem?_map
    rw [this, h]; rfl
  · cases h
theorem ev_pn : dPN env = .ok none := rfl
theorem ev_ps {f : DE} {i : Int} (h : f env = .ok (.st (.fz (.int i)))) : dPS f env = .ok (some i) := by unfold dPS; rw [h]; rfl
theorem ev_sl {f : DE} {l h : VEnv → Ans (Option Int)} {r : Rv} {i j : Option Int} (h1 : f env = .ok r) (h2 : l env = .ok i) (h3 : h env = .ok j) (h4 : opSl r.ov i j = some o) : dSl f l h env = .ok (.st o) := by
  unfold dSl
  rw [h1, bind_ok, h2, bind_ok, h3, bind_ok, h4]
  rfl
def catG (a b : List α) : Option (List α) := if a.length + b.length ≤ BIG then some (a ++ b) else none
theorem t_catL {a b v : List α} (hx : x = .ol (a.map e) ∨ x = .fz (eL e a)) (hy : y = .ol (b.map e) ∨ y = .fz (eL e b)) (h : catG a b = some v) : opAdd x y = some (.ol (v.map e)) := by
  unfold catG at h
  have hA : opAdd x y = (if (a.map e).length + (b.map e).length ≤ BIG then some (OV.ol (a.map e ++ b.map e)) else none) := by
    rcases hx with rfl | rfl <;> rcases hy with rfl | rfl <;> rfl
  rw [hA, List.length_map, List.length_map]
  split at h
  · cases h; rename_i q; rw [if_pos q, List.map_append]
  · cases h
theorem sx_app (a b : List Chr) : sxS a ++ sxS b = sxS (a ++ b) := by
  have : (sxS a ++ sxS b).cps = (sxS (a ++ b)).cps := by
    show (sxS a).cps ++ (sxS b).cps = _
    unfold sxS
    simp
  have ext : ∀ x y : Str, x.cps = y.cps → x = y := fun x y h => by cases x; cases y; simp at h; rw [h]
  exact ext _ _ this
theorem t_catS {a b v : List Chr} (h : catG a b = some v) : opAdd (.fz (eS a)) (.fz (eS b)) = some (.fz (eS v)) := by
  unfold catG at h
  show (if (sxS a).length + (sxS b).length ≤ BIG then some (OV.fz (.str (sxS a ++ sxS b))) else none) = _
  rw [sx_len, sx_len]
  split at h
  · cases h; rename_i q; rw [if_pos q, sx_app]
  · cases h
theorem t_lenL {xs : List α} (hx : x = .ol (xs.map e) ∨ x = .fz (eL e xs) ∨ x = .fz (eT e xs)) : opLen [x] = some (.fz (.int (xs.length : Nat))) := by
  rcases hx with rfl | rfl | rfl
  · show some (OV.fz (.int ((xs.map e).length : Nat))) = _
    rw [List.length_map]
  · show some (OV.fz (.int ((xs.map e).length : Nat))) = _
    rw [List.length_map]
  · show some (OV.fz (.int ((xs.map e).length : Nat))) = _
    rw [List.length_map]
def lenS (s : List Chr) : Option Int := if s.length ≤ BIG then some (s.length : Nat) else none
theorem t_lenS {s : List Chr} {v : Int} (h : lenS s = some v) : opLen [.fz (eS s)] = some (.fz (.int v)) := by
  unfold lenS at h
  show (if (sxS s).length ≤ BIG then some (OV.fz (.int ((sxS s).length : Nat))) else none) = _
  rw [sx_len]
  split at h
  · cases h; rename_i q; rw [if_pos q]
  · cases h
theorem t_list {xs : List α} (hx : x = .ol (xs.map e) ∨ x = .fz (eL e xs) ∨ x = .fz (eT e xs)) : opList [x] = some (.ol (xs.map e)) := by
  rcases hx with rfl | rfl | rfl <;> rfl
theorem t_tup {xs : List α} (hx : x = .ol (xs.map e) ∨ x = .fz (eL e xs)) : opTup [x] = some (.fz (eT e xs)) := by
  rcases hx with rfl | rfl <;> rfl
theorem t_intB {b : Bool} : opInt [.fz (.bl b)] = some (.fz (.int (if b then 1 else 0))) := rfl
def srt (e : α → FV) (xs : List α) : Option (List α) := if sortOk (xs.map e) then some (xs.mergeSort fun a b => PySem.W.dataLe false FV.enc (e a) (e b)) else none
theorem srt_map {xs v : List α} (h : srt e xs = some v) : sortOk (xs.map e) = true ∧ sortFV (xs.map e) = v.map e := by
  unfold srt at h
  split at h
  · cases h
    refine ⟨by assumption, ?_⟩
    unfold sortFV
    exact (List.map_mergeSort (f := e) (r := fun a b => PySem.W.dataLe false FV.enc (e a) (e b)) (s := PySem.W.dataLe false FV.enc) (l := xs) fun a _ b _ => rfl).symm
  · cases h
theorem t_sort {xs v : List α} (hx : x = .ol (xs.map e) ∨ x = .fz (eL e xs)) (h : srt e xs = some v) : opSorted [x] = some (.ol (v.map e)) := by
  have hl : x.lst? = some (xs.map e) := by rcases hx with rfl | rfl <;> rfl
  obtain ⟨h1, h2⟩ := srt_map h
  show x.lst?.bind (fun xs => if sortOk xs then some (OV.ol (sortFV xs)) else none) = _
  rw [hl, Option.bind_some, if_pos h1, h2]
def rangeG (n : Int) : Option (List Int) := if n < 2 ^ 60 ∧ -2 ^ 60 < n then some ((List.range n.toNat).map fun i => ((i : Nat) : Int)) else none
theorem it_range {f : DE} {i : Int} {v : List Int} (h : f env = .ok (.st (.fz (.int i)))) (hv : rangeG i = some v) : dRange f env = .ok (v.map eI) := by
  unfold rangeG at hv
  unfold dRange
  rw [h, bind_ok]
  show (if i < 2 ^ 60 ∧ -2 ^ 60 < i then Ans.ok ((List.range i.toNat).map fun j => FV.int (j : Nat)) else .no) = _
  split at hv
  · cases hv; rename_i q; rw [if_pos q, List.map_map]; rfl
  · cases hv
theorem it_items {f : DE} {xs : List α} (h : f env = .ok (.st (.ol (xs.map e))) ∨ f env = .ok (.st (.fz (eL e xs))) ∨ f env = .ok (.st (.fz (eT e xs)))) : dItems f env = .ok (xs.map e) := ev_items h
theorem sb_st {o : OV} : sbR env (.st o) = true := rfl
theorem ci_items {f : DE} {r : Rv} {xs : List α} (h : f env = .ok r) (hs : sbR env r = true) (hx : r.fv = eL e xs ∨ r.fv = eT e xs) : cItems f env = .ok (xs.map e) := by
  unfold cItems
  rw [h, bind_ok, if_pos hs]
  rcases hx with hx | hx <;> rw [hx] <;> rfl
def lcT (c : α → Option Bool) (g : α → Option β) : List α → Option (List β)
  | [] => some []
  | x :: xs => (c x).bind fun b => if b then (g x).bind fun y => (lcT c g xs).bind fun ys => some (y :: ys) else lcT c g xs
def lcG (c : α → Option Bool) (g : α → Option β) (xs : List α) : Option (List β) := (lcT c g xs).bind fun ys => if ys.length ≤ BIG then some ys else none
theorem lcF_sim {t : TgF} {c : DT} {f : DE} {env : VEnv} {tc : α → Option Bool} {te : α → Option β} (h : ∀ x, ∃ e1, t (e x) env = some e1 ∧ OE (c e1) (tc x) id ∧ OE (f e1) (te x) fun y => .st (.fz (d y))) :
    ∀ {items : List α} {ys : List β}, lcT tc te items = some ys → lcF t c f env (items.map e) = .ok (ys.map d)
  | [], ys, q => by cases q; rfl
  | x :: xs, ys, q => by
    obtain ⟨e1, h1, h2, h3⟩ := h x
    unfold lcT at q
    rw [List.map_cons]
    unfold lcF
    rw [h1]
    simp only
    cases hc : tc x with
    | none => rw [hc] at q; cases q
    | some b =>
      rw [hc] at q
      rw [h2 b hc]
      simp only [id, Ans.nox, Option.bind_some, bind_ok] at q ⊢
      cases b with
      | false =>
        simp only [Bool.false_eq_true, if_false] at q ⊢
        exact lcF_sim h q
      | true =>
        simp only [if_true] at q ⊢
        cases he : te x with
        | none => rw [he] at q; cases q
        | some y =>
          rw [he] at q
          rw [h3 y he]
          cases hr : lcT tc te xs with
          | none => rw [hr] at q; cases q
          | some zs =>
            rw [hr] at q
            simp only [Ans.nox, Option.bind_some, bind_ok, Rv.fz?] at q ⊢
            cases q
            rw [lcF_sim h hr]
            rfl
theorem lcG_some {c : α → Option Bool} {g : α → Option β} {xs : List α} {ys : List β} (h : lcG c g xs = some ys) : lcT c g xs = some ys ∧ ys.length ≤ BIG := by
  unfold lcG at h
  cases q : lcT c g xs with
  | none => rw [q] at h; cases h
  | some zs =>
    rw [q, Option.bind_some] at h
    split at h
    · cases h; exact ⟨rfl, by assumption⟩
    · cases h
theorem ev_lc {it : VEnv → Ans (List FV)} {t : TgF} {c : DT} {f : DE} {vs : List Nat} {env : VEnv} {tc : α → Option Bool} {te : α → Option β} {items : List α} {ys : List β} (hi : it env = .ok (items.map e)) (h : ∀ x, ∃ e1, t (e x) (frzE (wipeE env vs)) = some e1 ∧ OE (c e1) (tc x) id ∧ OE (f e1) (te x) fun y => .st (.fz (d y)))
    (hz : allFzE env = true ∨ EPu d) (hv : lcG tc te items = some ys) : dLc it t c f vs env = .ok (.st (.ol (ys.map d))) := by
  obtain ⟨h1, h2⟩ := lcG_some hv
  unfold dLc
  rw [hi, bind_ok, lcF_sim h h1, bind_ok, if_pos]
  rw [Bool.and_eq_true, Bool.or_eq_true, List.length_map]
  exact ⟨decide_eq_true h2, hz.imp id fun p => p.L ys⟩
variable {f g : DT} {a b : Bool}
theorem ev_and (h : f env = .ok a) (h2 : g env = .ok b) : dAndT f g env = .ok (a && b) := by
  unfold dAndT; rw [h, bind_ok]
  cases a with
  | true => exact h2
  | false => rfl
theorem ev_or (h : f env = .ok a) (h2 : g env = .ok b) : dOrT f g env = .ok (a || b) := by
  unfold dOrT; rw [h, bind_ok]
  cases a with
  | true => rfl
  | false => exact h2
theorem ev_andO {tb : Option Bool} {v : Bool} (h : f env = .ok a) (h2 : a = true → OE (g env) tb id) (hv : (if a then tb else some false) = some v) : dAndT f g env = .ok v := by
  unfold dAndT; rw [h, bind_ok]
  cases a with
  | true => exact h2 rfl v hv
  | false => cases hv; rfl
theorem ev_orO {tb : Option Bool} {v : Bool} (h : f env = .ok a) (h2 : a = false → OE (g env) tb id) (hv : (if a then some true else tb) = some v) : dOrT f g env = .ok v := by
  unfold dOrT; rw [h, bind_ok]
  cases a with
  | false => exact h2 rfl v hv
  | true => cases hv; rfl
variable {p q : DE}
theorem ev_andV (h : p env = .ok (.st (.fz (.bl a)))) (h2 : q env = .ok (.st (.fz (.bl b)))) : dAndV p q env = .ok (.st (.fz (.bl (a && b)))) := by
  unfold dAndV; rw [ev_test h, bind_ok]
  cases a with
  | true => exact h2
  | false => rfl
theorem ev_andVO {tb : Option Bool} {v : Bool} (h : p env = .ok (.st (.fz (.bl a)))) (h2 : a = true → OE (q env) tb fun b => .st (.fz (.bl b))) (hv : (if a then tb else some false) = some v) : dAndV p q env = .ok (.st (.fz (.bl v))) := by
  unfold dAndV; rw [ev_test h, bind_ok]
  cases a with
  | true => exact h2 rfl v hv
  | false => cases hv; rfl
theorem ev_dB (h : f env = .ok a) : dB f env = .ok (.st (.fz (.bl a))) := by unfold dB; rw [h]; rfl
theorem t_isN {v : Option α} (hn : NN e) (hx : x.fv = eO e v) : opIsN x = some (.fz (.bl v.isNone)) := by
  unfold opIsN
  rw [hx]
  cases v with
  | none => rfl
  | some a => show some (OV.fz (.bl (e a).isNon)) = _; rw [hn.n]; rfl
theorem t_notN {v : Option α} (hn : NN e) (hx : x.fv = eO e v) : opNotN x = some (.fz (.bl v.isSome)) := by
  unfold opNotN
  rw [hx]
  cases v with
  | none => rfl
  | some a => show some (OV.fz (.bl !(e a).isNon)) = _; rw [hn.n]; rfl
theorem oe_id {x : Ans β} {v : β} (h : x = .ok v) : OE x (some v) id := fun w hw => by cases hw; exact h
end
end J
namespace J
open PySem PySem.Spec PyProof.Rows L2
section
variable {α β γ δ σ ρ κ : Type} {e : α → FV} {d : β → FV} {env : VEnv} {P : γ → SO → Prop} {tt : Option γ} {f g : DE} {D A B : DS} {o : OV}
theorem unO {x : Ans Rv} {v : Option α} {a : α} (h : x = .ok (.st (.fz (eO e v)))) (hv : v = some a) : x = .ok (.st (.fz (e a))) := by rw [h, hv]; rfl
theorem asO {x : Ans Rv} (o : Rv) (h : x = .ok o) : x = .ok o := h
theorem ev_frzX {x : FV} (h : f env = .ok (.st o)) (hx : o.fv = x) : dFrz f env = .ok (.st (.fz x)) := by rw [ev_frz h, hx]
theorem ev_callA {m : FM} {g : VEnv → Ans (List Rv)} {rs : List Rv} {as : List FV} (h : g env = .ok rs) (ha : rs.map Rv.fv = as) (h2 : m as = .ok o) (h3 : rs.all Rv.isFz = true ∨ o.clean = true) : dCall m g env = .ok (.st o) := ev_call h (by rw [ha]; exact h2) h3
def appG (xs : List α) (x : α) : Option (List α) := if xs.length < BIG then some (xs ++ [x]) else none
theorem sg_appL {i : Nat} {xs v : List α} {x : α} (h : env[i]? = some (some (.ol (xs.map e)))) (h2 : f env = .ok (.st (.fz (e x)))) (hv : appG xs x = some v) (k : SG (D (env.set i (some (.ol (v.map e))))) tt P) : SG (dSeq (dApp i f) D env) tt P := by
  unfold appG at hv
  split at hv
  · cases hv
    rename_i q
    refine sg_app h rfl h2 (by show (xs.map e).length < BIG; rw [List.length_map]; exact q) ?_ k
    show some (OV.ol (xs.map e ++ [e x])) = _
    rw [List.map_append]; rfl
  · cases hv
theorem afz_nil : allFzE [] = true := rfl
theorem afz_F {x : FV} {r : VEnv} (h : allFzE r = true) : allFzE (some (.fz x) :: r) = true := by unfold allFzE at h ⊢; rw [List.all_cons, h]; rfl
theorem afz_N {r : VEnv} (h : allFzE r = true) : allFzE (none :: r) = true := by unfold allFzE at h ⊢; rw [List.all_cons, h]; rfl
theorem run_sg {n : Nat} {D : DS} {as : List FV} {O : ρ → OV} {t : Option ρ} (h : SG (D (startE n as)) t (PR O)) {v : ρ} (hv : t = some v) : runF n D as = .ok (O v) := by
  obtain ⟨so, h1, e2, rfl⟩ := h v hv
  exact ev_run h1
end
end J
namespace J
open PySem PySem.Spec PyProof.Rows L2
section
variable {α β γ : Type} {env : VEnv} {e : β → FV} {eA : α → FV} {P : γ → SO → Prop} {D : DS} {f : DE}
end
end J
namespace J
open PySem PySem.Spec PyProof.Rows L2
section
variable {α β γ : Type} {e : α → FV} {d : β → FV} {env : VEnv} {P : γ → SO → Prop} {tt : Option γ} {f g : DE} {D : DS} {o : OV}
theorem fvs_nil : ([] : List Rv).map Rv.fv = [] := rfl
theorem fvs_cons {r : Rv} {rs : List Rv} {a : FV} {as : List FV} (h : r.fv = a) (h2 : rs.map Rv.fv = as) : (r :: rs).map Rv.fv = a :: as := by rw [List.map_cons, h, h2]
end
end J
namespace J
open PySem PySem.Spec PyProof.Rows L2
section
variable {α β γ σ κ : Type} {e : α → FV} {c : κ → FV} {env : VEnv} {P : γ → SO → Prop} {tt : Option γ} {f g h : DE} {D body : DS} {o : OV}
theorem ev_chain {o1 o2 : OV → OV → Option OV} {x y z : Rv} {b1 b2 : Bool} (h1 : f env = .ok x) (h2 : g env = .ok y) (h3 : h env = .ok z) (e1 : o1 x.ov y.ov = some (.fz (.bl b1))) (e2 : o2 y.ov z.ov = some (.fz (.bl b2))) : dChain o1 o2 f g h env = .ok (.st (.fz (.bl (b1 && b2)))) := by
  unfold dChain
  rw [h1, bind_ok, h2, bind_ok, e1]
  cases b1 with
  | false => rfl
  | true =>
    simp only
    rw [h3, bind_ok, e2]
    rfl
def cutSG (s : List Chr) (lo hi : Option Int) : Option (List Chr) := if s.length ≤ BIG then some (cutF s lo hi) else none
theorem t_slS {s v : List Chr} {lo hi : Option Int} (h : cutSG s lo hi = some v) : opSl (.fz (eS s)) lo hi = some (.fz (eS v)) := by
  unfold cutSG at h
  split at h
  · rename_i hl
    cases h
    show (if (sxS s).length ≤ BIG then some (OV.fz (.str (cutS (sxS s) lo hi))) else none) = _
    rw [if_pos (by rw [sx_len]; exact hl)]
    have : cutS (sxS s) lo hi = sxS (cutF s lo hi) := by
      unfold cutS sxS cutF
      rw [show (⟨(s.map Fin.val).toArray⟩ : Str).length = s.length from sx_len s]
      simp [List.map_take, List.map_drop]
    rw [this]
  · cases h
structure ENd (e : α → FV) : Prop where
  p : ∀ a, (e a).noD = true
theorem noDL_of : ∀ {xs : List FV}, (∀ x ∈ xs, x.noD = true) → FV.noDL xs = true
  | [], _ => rfl
  | x :: xs, h => by
    unfold FV.noDL
    rw [h x List.mem_cons_self, noDL_of fun y hy => h y (List.mem_cons_of_mem _ hy)]
    rfl
theorem ENd.L (h : ENd e) (xs : List α) : FV.noDL (xs.map e) = true := noDL_of fun x hx => by
  obtain ⟨a, _, rfl⟩ := List.mem_map.mp hx
  exact h.p a
end
end J
namespace J
open PySem PySem.Spec PyProof.Rows L2
section
variable {α κ : Type} {e : α → FV} {env : VEnv} {D : DS} {tt : Option γ} {P : γ → SO → Prop}
end
end J
namespace J
open PySem PySem.Spec PyProof.Rows L2
section
variable {α β γ κ : Type} {e : α → FV} {env : VEnv} {D : DS} {tt : Option γ} {P : γ → SO → Prop}
abbrev eQ : Str → FV := FV.exc
def isEG (tab : List (Str × Bool)) : Option Str → Option Bool
  | none => some false
  | some c => tab.lookup c
theorem t_isE {tab : List (Str × Bool)} {v : Option Str} {b : Bool} (h : isEG tab v = some b) : opIsE tab (.fz (eO eQ v)) = some (.fz (.bl b)) := by
  cases v with
  | none => cases h; rfl
  | some c =>
    show (tab.lookup c).map _ = _
    rw [show tab.lookup c = some b from h]
    rfl
theorem sg_none {x : Ans SO} : SG x none P := fun _ h => nomatch h
theorem ne_of_if {p : Prop} [Decidable p] {u : Unit} (h : (if p then some () else none) = some u) : p := by
  by_cases q : p
  · exact q
  · rw [if_neg q] at h; cases h
end
end J
namespace J
open PySem PySem.Spec PyProof.Rows L2
section
variable {α β γ δ : Type} {env : VEnv} {D : DS} {tt : Option γ} {P : γ → SO → Prop} {c f k : Str} {o q : OV} {x : FV} {fo fe fk : DE} {g : VEnv → Ans (List Rv)} {rs : List Rv} {as : List FV}
def PI (O : γ → OV) (x : Addr) : γ → SO → Prop := fun v so => ∃ e, so = .nx e ∧ endI x e = .ok (O v)
end
section
variable {α β γ : Type} {e : α → FV} {d : β → FV} {c : γ → FV} {n m k : Nat}
end
end J
namespace J
open PySem PySem.Spec PyProof.Rows L2
section
variable {α γ κ : Type} {e : α → FV} {env : VEnv} {D A B : DS} {tt : Option γ} {P : γ → SO → Prop} {f : DE}
def SX (x : Ans SO) (tt : Option Str) : Prop := ∀ c, tt = some c → x = .ex c
theorem sx_bind {β : Type} {x : Ans SO} {o : Option β} {k : β → Option Str} (h : ∀ a, o = some a → SX x (k a)) : SX x (o.bind k) := fun v hv => by
  cases o with
  | none => cases hv
  | some a => exact h a rfl v hv
theorem sx_none {x : Ans SO} : SX x none := fun _ h => nomatch h
variable {tx : Option Str} {o : OV} {i : Nat}
theorem sx_env {env e2 : VEnv} (h : env = e2) (h2 : SX (D e2) tx) : SX (D env) tx := by rw [h]; exact h2
theorem sx_one (h : SX (dSeq D dSkip env) tx) : SX (D env) tx := fun c hc => by
  have h1 := h c hc
  rw [ev_seq] at h1
  cases hx : D env with
  | ok s =>
    rw [hx] at h1
    cases s <;> cases h1
  | ex c2 => rw [hx] at h1; exact h1
  | no => rw [hx] at h1; cases h1
theorem sx_assoc {C : DS} (h : SX (dSeq A (dSeq B C) env) tx) : SX (dSeq (dSeq A B) C env) tx := by
  have e : dSeq (dSeq A B) C env = dSeq A (dSeq B C) env := so_assoc (C := C) (A env)
  rw [e]; exact h
theorem sx_ice {x : FV} (h : env[i]? = some (some o)) (hx : o.fv = x) (h2 : SX (D (env.set i (some (.fz x)))) tx) : SX (dIce i D env) tx := by
  rw [ev_ice h, hx]; exact h2
theorem sx_iceS (h : SX (dIce i (dSeq A B) env) tx) : SX (dSeq (dIce i A) B env) tx := by
  have e : dSeq (dIce i A) B env = dIce i (dSeq A B) env := by
    rw [ev_seq]
    unfold dIce
    rcases env[i]? with _ | _ | o <;> rfl
  rw [e]; exact h
theorem sx_ifs {c : DT} {b : Bool} {t u : Option Str} (h : c env = .ok b) (h1 : b = true → SX (dSeq A D env) t) (h2 : b = false → SX (dSeq B D env) u) : SX (dSeq (dIf c A B) D env) (if b then t else u) := by
  have e : dSeq (dIf c A B) D env = if b then dSeq A D env else dSeq B D env := by
    rw [ev_seq]
    cases b with
    | true => rw [ev_ifT h]; rfl
    | false => rw [ev_ifF h]; rfl
  rw [e]
  cases b with
  | true => exact h1 rfl
  | false => exact h2 rfl
theorem sx_skip (h2 : SX (D env) tx) : SX (dSeq dSkip D env) tx := h2
theorem sx_raise {c : Str} : SX (dSeq (dRaise c) D env) (some c) := fun v hv => by
  cases hv
  rw [ev_seq]
  rfl
theorem sx_call {m : FM} {g : VEnv → Ans (List Rv)} {rs : List Rv} {as : List FV} {c : Str} (h : g env = .ok rs) (ha : rs.map Rv.fv = as) (h2 : m as = .ex c) : dCall m g env = .ex c := by
  unfold dCall
  rw [h, bind_ok, ha, h2]
  rfl
def forX {σ : Type} (fx : α → σ → Option Str) (f : α → σ → Option σ) : List α → σ → Option Str
  | [], _ => none
  | x :: xs, s => match fx x s with
    | some c => some c
    | none => (f x s).bind (forX fx f xs)
theorem forLX_sim {σ : Type} {eA : α → FV} {t : TgF} {body : DS} {E : σ → VEnv → Prop} {tb : α → σ → Option σ} {fx : α → σ → Option Str} (hb : ∀ x s e, E s e → ∃ e1, t (eA x) e = some e1 ∧ SG (body e1) (tb x s) (PN E) ∧ SX (body e1) (fx x s)) :
    ∀ (items : List α) (s : σ) (env : VEnv), E s env → ∀ c, forX fx tb items s = some c → forL t body (items.map eA) env = .ex c
  | [], s, env, h, c, hc => nomatch hc
  | x :: xs, s, env, h, c, hc => by
    obtain ⟨e1, q1, q2, q3⟩ := hb x s env h
    unfold forX at hc
    rw [List.map_cons]
    unfold forL
    rw [q1]
    simp only
    cases hx : fx x s with
    | some c2 =>
      rw [hx] at hc
      simp only at hc
      cases hc
      rw [q3 c hx]
      rfl
    | none =>
      rw [hx] at hc
      simp only at hc
      obtain ⟨s', e2, hc⟩ := Option.bind_eq_some_iff.mp hc
      obtain ⟨so, r1, e2, rfl, r2⟩ := q2 s' e2
      rw [r1]
      exact forLX_sim hb xs s' e2 r2 c hc
theorem sx_for {σ : Type} {it : VEnv → Ans (List FV)} {eA : α → FV} {t : TgF} {body : DS} (E : σ → VEnv → Prop) {tb : α → σ → Option σ} {fx : α → σ → Option Str} {items : List α} {s : σ} (hi : it env = .ok (items.map eA)) (h : E s env) (hb : ∀ x s e, E s e → ∃ e1, t (eA x) e = some e1 ∧ SG (body e1) (tb x s) (PN E) ∧ SX (body e1) (fx x s)) :
    SX (dSeq (dFor it t body) D env) (forX fx tb items s) := fun c hc => by
  rw [ev_seq]
  unfold dFor
  rw [hi, bind_ok, forLX_sim hb items s env h c hc]
  rfl
theorem sx_iceF {x : FV} (h : env[i]? = some (some (.fz x))) (h2 : SX (D env) tx) : SX (dIce i D env) tx := fun c hc => by
  have k := sg_iceF (D := dSkip) (tt := some ()) (P := fun _ so => so = .nx env) h (fun _ _ => ⟨_, rfl, rfl⟩)
  have hset : env.set i (some (.fz x)) = env := by
    apply List.ext_getElem?
    intro j
    by_cases hj : i = j
    · subst hj
      rw [List.getElem?_set_self (List.getElem?_eq_some_iff.mp h).1, h]
    · rw [List.getElem?_set_ne hj]
  rw [ev_ice h]
  show D (env.set i (some (.fz x))) = _
  rw [hset]
  exact h2 c hc
theorem sx_of {S D : DS} {env e2 : VEnv} (h : ∀ (tt : Option Unit) (P : Unit → SO → Prop), SG (dSkip e2) tt P → SG (dSeq S dSkip env) tt P) (k : SX (D e2) tx) : SX (dSeq S D env) tx := fun c hc => by
  obtain ⟨so, h1, h2⟩ := h (some ()) (fun _ so => so = .nx e2) (fun _ _ => ⟨_, rfl, rfl⟩) () rfl
  subst h2
  rw [ev_seq] at h1 ⊢
  cases hs : S env with
  | ok s =>
    rw [hs] at h1
    cases s with
    | nx e3 =>
      cases h1
      exact k c hc
    | rt o e3 => cases h1
    | bk e3 => cases h1
    | ct e3 => cases h1
  | ex c2 => rw [hs] at h1; cases h1
  | no => rw [hs] at h1; cases h1
theorem sx_seq {σ : Type} {E : σ → VEnv → Prop} {t1 : Option σ} {t2 : σ → Option Str} (h : SG (A env) t1 (PN E)) (h2 : ∀ s e, E s e → SX (B e) (t2 s)) : SX (dSeq A B env) (t1.bind t2) := fun c hc => by
  obtain ⟨a, e1, hc⟩ := Option.bind_eq_some_iff.mp hc
  obtain ⟨so, q1, e, rfl, q2⟩ := h a e1
  rw [ev_seqN q1 rfl]
  exact h2 a e q2 c hc
def orX (a b : Option Str) : Option Str := match a with
  | some c => some c
  | none => b
theorem sx_or {a b : Option Str} {x : Ans SO} (h : ∀ c, a = some c → x = .ex c) (k : SX x b) : SX x (orX a b) := fun c hc => by
  cases a with
  | some c2 => cases hc; exact h c rfl
  | none => exact k c hc
theorem exFrz {c : Str} (h : f env = .ex c) : dFrz f env = .ex c := by
  unfold dFrz
  rw [h]
  rfl
theorem run_sx {n : Nat} {D : DS} {as : List FV} {t : Option Str} (h : SX (D (startE n as)) t) {c : Str} (hv : t = some c) : runF n D as = .ex c := by
  unfold runF
  rw [h c hv]
end
end J
set_option maxHeartbeats 4000000
namespace J
open PySem PySem.Spec PyProof.Rows L2
section
variable {env : VEnv} {α β γ : Type} {e : α → FV} {d : β → FV} {D : DS} {tt : Option γ} {P : γ → SO → Prop}
end
end J
set_option maxHeartbeats 4000000
namespace J
open PySem PySem.Spec PyProof.Rows L2
section
variable {α β : Type} {e : α → FV} {d : β → FV} {n m : Nat}
end
end J
namespace J
open PySem PySem.Spec PyProof.Rows L2
def splitT (a b : List Chr) : List (List Chr) :=
  if (decide ((sxS a).length < (sxS b).length) || decide (Builtin.Str.strKind (sxS a) < Builtin.Str.strKind (sxS b))) = true then [a] else
  if (Builtin.Str.occurrences (sxS a) (sxS b) 0 (sxS a).length ((sxS a).length + 1)).isEmpty = true then [a] else
  (((0 :: (Builtin.Str.occurrences (sxS a) (sxS b) 0 (sxS a).length ((sxS a).length + 1)).map (· + (sxS b).length)).zip ((Builtin.Str.occurrences (sxS a) (sxS b) 0 (sxS a).length ((sxS a).length + 1)) ++ [(sxS a).length]))).map fun p => (a.drop p.1).take (p.2 - p.1)
theorem sub_sx (a : List Chr) (i j : Nat) : Builtin.Str.strSub (sxS a) i j = sxS ((a.drop i).take (j - i)) := by
  unfold Builtin.Str.strSub sxS
  congr 1
  apply Array.ext'
  rw [Array.toList_extract]
  simp [List.extract_eq_drop_take, List.map_take, List.map_drop]
theorem split_sx (a b : List Chr) : Txt.split (sxS a) (sxS b) = (splitT a b).map sxS := by
  unfold Txt.split splitT
  split
  · rfl
  · split
    · rfl
    · unfold Builtin.Str.partsBetween
      rw [List.map_map]
      refine List.map_congr_left fun p _ => ?_
      exact sub_sx a p.1 p.2
theorem splitT_ne (a b : List Chr) : splitT a b ≠ [] := by
  unfold splitT
  split
  · simp
  · split
    · simp
    · intro h
      rw [List.map_eq_nil_iff] at h
      have := congrArg List.length h
      simp at this
theorem splitT_part {a b p : List Chr} (h : p ∈ splitT a b) : p.length ≤ a.length ∧ ∀ c ∈ p, c ∈ a := by
  unfold splitT at h
  split at h
  · rw [List.mem_singleton.mp h]; exact ⟨Nat.le_refl _, fun _ z => z⟩
  · split at h
    · rw [List.mem_singleton.mp h]; exact ⟨Nat.le_refl _, fun _ z => z⟩
    · obtain ⟨q, _, rfl⟩ := List.mem_map.mp h
      refine ⟨?_, fun c hc => List.mem_of_mem_drop (List.mem_of_mem_take hc)⟩
      rw [List.length_take, List.length_drop]
      omega
theorem splitT_len (a b : List Chr) : (splitT a b).length ≤ a.length + 2 := by
  have h := PyProof.Rows.split_le (sxS a) (sxS b)
  rw [split_sx, List.length_map, sx_len] at h
  omega
section
variable {α β γ κ : Type} {e : α → FV} {d : β → FV} {env : VEnv} {D A B : DS} {tt : Option γ} {P : γ → SO → Prop} {f : DE}
def splitG (a b : List Chr) : Option (List (List Chr)) := if b ≠ [] ∧ a.length + 2 ≤ BIG then some (splitT a b) else none
theorem t_split {a b : List Chr} {v : List (List Chr)} (h : splitG a b = some v) : opSplit (.fz (eS a)) [.fz (eS b)] = some (.ol (v.map eS)) := by
  unfold splitG at h
  split at h
  · rename_i q
    cases h
    show (if (sxS b).length ≠ 0 ∧ (sxS a).length + 2 ≤ BIG then some (OV.ol ((Txt.split (sxS a) (sxS b)).map .str)) else none) = _
    rw [sx_len, sx_len, if_pos ⟨fun z => q.1 (List.eq_nil_of_length_eq_zero z), q.2⟩, split_sx, List.map_map]
    rfl
  · cases h
theorem strs_S : ∀ xs : List (List Chr), strs? (xs.map eS) = some (xs.map sxS)
  | [] => rfl
  | x :: xs => by
    show (strs? (xs.map eS)).map (_ :: ·) = _
    rw [strs_S xs]
    rfl
def joinT (sep : List Chr) : List (List Chr) → List Chr
  | [] => []
  | x :: xs => x ++ (xs.map fun y => sep ++ y).flatten
theorem glue_S (sep : List Chr) (xs : List (List Chr)) : Txt.join (sxS sep) (xs.map sxS) = sxS (joinT sep xs) := by
  have key : ∀ (xs : List (List Chr)) (acc : Array Nat), (xs.map sxS).foldl (fun acc p => acc ++ (sxS sep).cps ++ p.cps) acc = acc ++ (((xs.map fun y => sep ++ y).flatten).map Fin.val).toArray := fun xs => by
    induction xs with
    | nil => intro acc; simp
    | cons x xs ih =>
      intro acc
      rw [List.map_cons, List.foldl_cons, ih]
      simp [sxS]
  cases xs with
  | nil => rfl
  | cons x xs =>
    show (⟨(xs.map sxS).foldl (fun acc p => acc ++ (sxS sep).cps ++ p.cps) (sxS x).cps⟩ : Str) = _
    rw [key]
    unfold sxS joinT
    simp
def joinSG (sep : List Chr) (xs : List (List Chr)) : Option (List Chr) := if (xs.map List.length).sum + xs.length * sep.length ≤ BIG then some (joinT sep xs) else none
theorem t_joinS {sep v : List Chr} {xs : List (List Chr)} {x : OV} (hx : x = .ol (xs.map eS) ∨ x = .fz (eL eS xs)) (h : joinSG sep xs = some v) : opJoin (.fz (eS sep)) [x] = some (.fz (eS v)) := by
  unfold joinSG at h
  split at h
  · rename_i q
    cases h
    have hs : x.seq? = some (xs.map eS) := by rcases hx with rfl | rfl <;> rfl
    show (x.seq?).bind _ = _
    rw [hs, Option.bind_some, strs_S, Option.bind_some]
    have l1 : (xs.map sxS).map (·.length) = xs.map List.length := by
      rw [List.map_map]
      exact List.map_congr_left fun x _ => sx_len x
    rw [if_pos, glue_S]
    rw [l1, List.length_map, sx_len]
    exact q
  · cases h
def intTG (s : List Chr) : Option Int := if s.length ≤ 640 then PySem.intText? (sxS s) else none
theorem t_intT {s : List Chr} {v : Int} (h : intTG s = some v) : opInt [.fz (eS s)] = some (.fz (eI v)) := by
  unfold intTG at h
  show (if (sxS s).length ≤ 640 then (PySem.intText? (sxS s)).map (fun n => OV.fz (.int n)) else none) = _
  rw [sx_len]
  split at h
  · rw [if_pos (by assumption), h]; rfl
  · cases h
def unS (z : Str) : List Chr := z.cps.toList.map fun n => Fin.ofNat 128 n
theorem unS_ok {z : Str} (h : z.cps.all (· < 128) = true) : sxS (unS z) = z := by
  obtain ⟨a⟩ := z
  unfold sxS unS
  congr 1
  apply Array.ext'
  rw [List.toList_toArray, List.map_map]
  refine (List.map_congr_left fun n hn => ?_).trans (List.map_id _)
  have : n < 128 := by
    have := Array.all_eq_true'.mp h n (by simpa using hn)
    simpa using this
  show n % 128 = n
  exact Nat.mod_eq_of_lt this
def txt? : FV → Option (List Chr)
  | .str z => if z.cps.all (· < 128) = true then some (unS z) else none
  | _ => none
theorem unS_sx (s : List Chr) : unS (sxS s) = s := by
  unfold unS sxS
  simp only
  rw [List.map_map]
  refine (List.map_congr_left fun n hn => ?_).trans (List.map_id _)
  apply Fin.ext
  show n.val % 128 = n.val
  exact Nat.mod_eq_of_lt n.isLt
theorem sx_lt (s : List Chr) : (sxS s).cps.all (· < 128) = true := by
  unfold sxS
  simp
theorem txt_eS (s : List Chr) : txt? (eS s) = some s := by
  show (if (sxS s).cps.all (· < 128) = true then some (unS (sxS s)) else none) = _
  rw [if_pos (sx_lt s), unS_sx]
theorem txt_eq {x : FV} {s : List Chr} (h : txt? x = some s) : x = eS s := by
  unfold txt? at h
  split at h
  · split at h
    · cases h
      rename_i q
      show _ = FV.str _
      rw [unS_ok q]
    · cases h
  · cases h
def strIG (i : Int) : Option (List Chr) := if i.natAbs.log2 < 1920 then txt? (.str (toString i : Str)) else none
theorem t_strI {i : Int} {v : List Chr} (h : strIG i = some v) : opStr [.fz (eI i)] = some (.fz (eS v)) := by
  unfold strIG at h
  show (if i.natAbs.log2 < 1920 then some (OV.fz (.str (toString i))) else none) = _
  split at h
  · rw [if_pos (by assumption)]
    exact congrArg (fun x => some (OV.fz x)) (txt_eq h)
  · cases h
theorem it_str {f : DE} {s : List Chr} (h : f env = .ok (.st (.fz (eS s)))) : dItems f env = .ok (s.map eC) := by
  unfold dItems
  rw [h]
  show Ans.ok ((sxS s).cps.toList.map fun c => FV.str ⟨#[c]⟩) = _
  rw [sx_list, List.map_map]
  rfl
theorem nnQ : NN eQ := ⟨fun _ => rfl⟩
theorem t_repS {c : Chr} {k : Int} (h : 2 ≤ k ∧ k ≤ 1000) : opRepS (.fz (eC c)) (.fz (.int k)) = some (.fz (eS (List.replicate k.toNat c))) := by
  show (if 2 ≤ k ∧ k ≤ 1000 ∧ (⟨#[c.val]⟩ : Str).length = 1 then some (OV.fz (.str (repS ⟨#[c.val]⟩ k.toNat))) else none) = _
  rw [if_pos ⟨h.1, h.2, rfl⟩]
  have key : ∀ (n : Nat) (acc : Array Nat), (List.replicate n #[c.val]).foldl (· ++ ·) acc = acc ++ ((List.replicate n c).map Fin.val).toArray := fun n => by
    induction n with
    | zero => intro acc; simp
    | succ n ih =>
      intro acc
      rw [List.replicate_succ, List.foldl_cons, ih, List.replicate_succ]
      apply Array.ext'
      simp
  have : repS ⟨#[c.val]⟩ k.toNat = sxS (List.replicate k.toNat c) := by
    unfold repS sxS
    rw [key]
    simp
  rw [this]
abbrev eX : FV → FV := fun x => x
theorem unXS {f : DE} {x : FV} {s : List Chr} (p : f env = .ok (.st (.fz (eX x)))) (h : txt? x = some s) : f env = .ok (.st (.fz (eS s))) := by
  rw [p, show eX x = eS s from txt_eq h]
def isaXG (Ts : List String) (x : FV) : Option Bool := match opIsa Ts (.fz x) with
  | some (.fz (.bl b)) => some b
  | _ => none
theorem t_isaX {Ts : List String} {x : FV} {b : Bool} (h : isaXG Ts x = some b) : opIsa Ts (.fz (eX x)) = some (.fz (.bl b)) := by
  unfold isaXG at h
  split at h
  · cases h; assumption
  · cases h
def oints : List (Option Int) → Option (List Int)
  | [] => some []
  | s :: r => s.bind fun c => (oints r).bind fun cs => some (c :: cs)
theorem oints_eq : ∀ {l : List (Option Int)} {cs : List Int}, oints l = some cs → l = cs.map some
  | [], _, h => by cases h; rfl
  | s :: r, cs, h => by
    unfold oints at h
    obtain ⟨c, h1, h⟩ := Option.bind_eq_some_iff.mp h
    obtain ⟨ds, h2, h⟩ := Option.bind_eq_some_iff.mp h
    cases h
    rw [h1, oints_eq h2]
    rfl
theorem unTOI {f : DE} {l : List (Option Int)} {cs : List Int} (p : f env = .ok (.st (.fz (eT (eO eI) l)))) (h : oints l = some cs) : f env = .ok (.st (.fz (eT eI cs))) := by
  rw [p, oints_eq h]
  show Ans.ok (Rv.st (.fz (.tup ((cs.map some).map (eO eI))))) = _
  rw [List.map_map]
  rfl
def tryA (L : List Str) (a : Option α) (x : Option Str) : Option (Option α × Option Str) := match a with
  | some v => some (some v, none)
  | none => match x with
    | some c => if L.contains c = true then some (none, some c) else none
    | none => none
def TryOutA (f : DE) (env : VEnv) (L : List Str) (e : α → FV) : Option α × Option Str → Prop
  | (some v, none) => f env = .ok (.st (.fz (e v)))
  | (none, some c) => f env = .ex c ∧ L.contains c = true
  | _ => False
theorem try_callA {m : FM} {g : VEnv → Ans (List Rv)} {rs : List Rv} {as : List FV} {a : Option α} {x : Option Str} {O : α → OV} {v : Option α × Option Str} {L : List Str} (hg : g env = .ok rs) (ha : rs.map Rv.fv = as) (hz : rs.all Rv.isFz = true) (hO : ∀ w, (O w).fv = e w) (h1 : ∀ w, a = some w → m as = .ok (O w)) (h2 : ∀ c, x = some c → m as = .ex c) (hv : tryA L a x = some v) : TryOutA (dFrz (dCall m g)) env L e v := by
  have run : dCall m g env = (m as).bind fun o => if rs.all Rv.isFz || o.clean then .ok (.st o) else .no := by
    unfold dCall
    rw [hg, bind_ok, ha]
  cases a with
  | some w =>
    cases hv
    show dFrz (dCall m g) env = _
    refine ev_frzX (o := O w) ?_ (hO w)
    rw [run, h1 w rfl, bind_ok, hz]
    rfl
  | none =>
    cases x with
    | none => cases hv
    | some c =>
      unfold tryA at hv
      simp only at hv
      split at hv
      · rename_i hc
        cases hv
        exact ⟨exFrz (by rw [run, h2 c rfl]; rfl), hc⟩
      · cases hv
theorem sg_tryA {L : List Str} {k i j : Nat} {f : DE} {v : Option α × Option Str} (hi : env[i]? = some none) (hk : env[k]? = some (some (.fz .non))) (hj : env[j]? = some (some (.fz .non))) (hkj : k ≠ j) (h : TryOutA f env L e v) (q : SG (D ((env.set k (some (.fz (eO e v.1)))).set j (some (.fz (eO eQ v.2))))) tt P) : SG (dSeq (dTryA L f k i j) D env) tt P := by
  obtain ⟨a, b⟩ := v
  cases a with
  | some v =>
    cases b with
    | some c => exact h.elim
    | none =>
      have h : f env = .ok (.st (.fz (e v))) := h
      rw [ev_seqN (e := env.set k (some (.fz (e v)))) ?_ rfl]
      · have q : SG (D ((env.set k (some (.fz (e v)))).set j (some (.fz .non)))) tt P := q
        rw [set_same (env := env.set k _) (by rw [List.getElem?_set_ne hkj]; exact hj)] at q
        exact q
      · unfold dTryA
        rw [hi]
        simp only
        rw [h]
  | none =>
    cases b with
    | none => exact h.elim
    | some c =>
      obtain ⟨h1, h2⟩ := h
      rw [ev_seqN (e := env.set j (some (.fz (.exc c)))) ?_ rfl]
      · have q : SG (D ((env.set k (some (.fz .non))).set j (some (.fz (.exc c))))) tt P := q
        rw [set_same hk] at q
        exact q
      · unfold dTryA
        rw [hi]
        simp only
        rw [h1]
        simp only
        rw [if_pos h2]
theorem lcX_sim {t : TgF} {c : DT} {f : DE} {env : VEnv} {tc : α → Option Bool} {te : α → Option β} (h : ∀ x, ∃ e1, t (e x) env = some e1 ∧ OE (c e1) (tc x) id ∧ OE (f e1) (te x) fun y => .st (.fz (d y))) :
    ∀ {items : List α} {ys : List β}, lcT tc te items = some ys → lcX t c f env (items.map e) = .ok (ys.map d)
  | [], ys, q => by cases q; rfl
  | x :: xs, ys, q => by
    obtain ⟨e1, h1, h2, h3⟩ := h x
    unfold lcT at q
    rw [List.map_cons]
    unfold lcX
    rw [h1]
    simp only
    cases hc : tc x with
    | none => rw [hc] at q; cases q
    | some b =>
      rw [hc] at q
      rw [h2 b hc]
      simp only [id, Option.bind_some, bind_ok] at q ⊢
      cases b with
      | false =>
        simp only [Bool.false_eq_true, if_false] at q ⊢
        exact lcX_sim h q
      | true =>
        simp only [if_true] at q ⊢
        cases he : te x with
        | none => rw [he] at q; cases q
        | some y =>
          rw [he] at q
          rw [h3 y he]
          cases hr : lcT tc te xs with
          | none => rw [hr] at q; cases q
          | some zs =>
            rw [hr] at q
            simp only [Option.bind_some, bind_ok] at q ⊢
            cases q
            rw [lcX_sim h hr]
            rfl
theorem ev_lcX {it : VEnv → Ans (List FV)} {t : TgF} {c : DT} {f : DE} {vs : List Nat} {env : VEnv} {tc : α → Option Bool} {te : α → Option β} {items : List α} {ys : List β} (hi : it env = .ok (items.map e)) (h : ∀ x, ∃ e1, t (e x) (frzE (wipeE env vs)) = some e1 ∧ OE (c e1) (tc x) id ∧ OE (f e1) (te x) fun y => .st (.fz (d y)))
    (hz : allFzE env = true ∨ EPu d) (hl : items.length ≤ BIG) (hv : lcG tc te items = some ys) : dLcX it t c f vs env = .ok (.st (.ol (ys.map d))) := by
  obtain ⟨h1, h2⟩ := lcG_some hv
  unfold dLcX
  rw [hi, bind_ok, if_pos (by rw [List.length_map]; exact hl), lcX_sim h h1, bind_ok, if_pos]
  rw [Bool.or_eq_true]
  exact hz.imp id fun p => p.L ys
def lcR (te : α → Option β) (tx : α → Option Str) : List α → Option Str
  | [] => none
  | x :: xs => match tx x with
    | some c => some c
    | none => (te x).bind fun _ => lcR te tx xs
theorem lcR_sim {t : TgF} {f : DE} {env : VEnv} {te : α → Option β} {tx : α → Option Str} (h : ∀ x, ∃ e1, t (e x) env = some e1 ∧ OE (f e1) (te x) (fun y => .st (.fz (d y))) ∧ ∀ c, tx x = some c → f e1 = .ex c) :
    ∀ {items : List α} {c : Str}, lcR te tx items = some c → lcX t dTrue f env (items.map e) = .ex c
  | [], c, q => nomatch q
  | x :: xs, c, q => by
    obtain ⟨e1, h1, h2, h3⟩ := h x
    unfold lcR at q
    rw [List.map_cons]
    unfold lcX
    rw [h1]
    simp only
    rw [show dTrue e1 = .ok true from rfl, bind_ok, if_pos rfl]
    cases hx : tx x with
    | some c2 =>
      rw [hx] at q
      cases q
      rw [h3 c hx]
      rfl
    | none =>
      rw [hx] at q
      simp only at q
      obtain ⟨y, hy, q⟩ := Option.bind_eq_some_iff.mp q
      rw [h2 y hy, bind_ok]
      simp only
      rw [lcR_sim h q]
      rfl
theorem exLcX {it : VEnv → Ans (List FV)} {t : TgF} {f : DE} {vs : List Nat} {env : VEnv} {te : α → Option β} {tx : α → Option Str} {items : List α} {c : Str} (hi : it env = .ok (items.map e)) (h : ∀ x, ∃ e1, t (e x) (frzE (wipeE env vs)) = some e1 ∧ OE (f e1) (te x) (fun y => .st (.fz (d y))) ∧ ∀ c, tx x = some c → f e1 = .ex c)
    (hl : items.length ≤ BIG) (hv : lcR te tx items = some c) : dLcX it t dTrue f vs env = .ex c := by
  unfold dLcX
  rw [hi, bind_ok, if_pos (by rw [List.length_map]; exact hl), lcR_sim h hv]
  rfl
theorem exCallB {op : List OV → Option OV} {c : Str} (h : f env = .ex c) : dCallB op (dCons f dNil) env = .ex c := by
  unfold dCallB dCons
  rw [h]
  rfl
theorem exApp {i : Nat} {c : Str} {o : OV} (hi : env[i]? = some (some o)) (hl : o.isL = true) (h : f env = .ex c) : dSeq (dApp i f) D env = .ex c := by
  rw [ev_seq]
  unfold dApp
  rw [hi]
  simp only
  rw [if_pos hl, h]
  rfl
end
end J
namespace J
open PySem PySem.Spec PyProof.Rows L2
section
variable {α β γ σ ρ κ : Type}
theorem bindS {a : α} {f : α → Option β} : (some a).bind f = f a := rfl
theorem bigL {n : Nat} (h : n ≤ 100000) : n ≤ BIG := Nat.le_trans h (by decide)
theorem bigT {n : Nat} (h : n ≤ 100000) : n < BIG := Nat.lt_of_le_of_lt h (by decide)
theorem forT_inv {f : α → σ → Option σ} (I : Nat → σ → Prop) : ∀ {xs : List α} {n : Nat} {s : σ}, I n s → (∀ i x s, xs[i]? = some x → I (n + i) s → ∃ s', f x s = some s' ∧ I (n + i + 1) s') → ∃ s', forT f xs s = some s' ∧ I (n + xs.length) s'
  | [], n, s, h, _ => ⟨s, rfl, h⟩
  | x :: xs, n, s, h, hs => by
    obtain ⟨s', h1, h2⟩ := hs 0 x s rfl h
    obtain ⟨r, k1, k2⟩ := forT_inv (f := f) I (xs := xs) (n := n + 1) h2 fun i y s hy hi => by
      have e : n + 1 + i = n + (i + 1) := by omega
      rw [e] at hi ⊢
      exact hs (i + 1) y s (by simpa using hy) hi
    refine ⟨r, ?_, ?_⟩
    · unfold forT; rw [h1]; exact k1
    · rw [List.length_cons, show n + (xs.length + 1) = n + 1 + xs.length by omega]; exact k2
theorem forT_inv0 {f : α → σ → Option σ} (I : Nat → σ → Prop) {xs : List α} {s : σ} (h0 : I 0 s) (hs : ∀ i x s, xs[i]? = some x → I i s → ∃ s', f x s = some s' ∧ I (i + 1) s') : ∃ s', forT f xs s = some s' ∧ I xs.length s' := by
  have := forT_inv (f := f) I (xs := xs) (n := 0) h0 fun i x s hx hi => by
    rw [Nat.zero_add] at hi ⊢
    exact hs i x s hx hi
  rw [Nat.zero_add] at this
  exact this
theorem forC_all {f : α → Unit → Option (Ctl Unit ρ)} {p : α → Bool} {r : ρ} : ∀ {xs : List α}, (∀ x ∈ xs, f x () = some (if p x then .nx () else .rt r)) → forC f xs () = some (if xs.all p then .nx () else .rt r)
  | [], _ => rfl
  | x :: xs, h => by
    unfold forC
    rw [h x List.mem_cons_self, bindS, List.all_cons]
    cases p x with
    | false => rfl
    | true =>
      simp only [if_true, Bool.true_and]
      exact forC_all fun y hy => h y (List.mem_cons_of_mem _ hy)
theorem lcT_ok {c : α → Option Bool} {g : α → Option β} {p : α → Bool} {h : α → β} : ∀ {xs : List α}, (∀ x ∈ xs, c x = some (p x) ∧ (p x = true → g x = some (h x))) → lcT c g xs = some ((xs.filter p).map h)
  | [], _ => rfl
  | x :: xs, q => by
    obtain ⟨h1, h2⟩ := q x List.mem_cons_self
    unfold lcT
    rw [h1, bindS, lcT_ok fun y hy => q y (List.mem_cons_of_mem _ hy)]
    cases hp : p x with
    | false => rw [if_neg Bool.false_ne_true, List.filter_cons_of_neg (by rw [hp]; decide)]
    | true => rw [if_pos rfl, h2 hp, List.filter_cons_of_pos hp]; rfl
theorem lcG_ok {c : α → Option Bool} {g : α → Option β} {p : α → Bool} {h : α → β} {xs : List α} (q : ∀ x ∈ xs, c x = some (p x) ∧ (p x = true → g x = some (h x))) (hl : xs.length ≤ 100000) : lcG c g xs = some ((xs.filter p).map h) := by
  unfold lcG
  rw [lcT_ok q, bindS, if_pos]
  rw [List.length_map]
  exact bigL (Nat.le_trans (List.length_filter_le _ _) hl)
theorem lcG_map {c : α → Option Bool} {g : α → Option β} {h : α → β} {xs : List α} (q : ∀ x ∈ xs, c x = some true ∧ g x = some (h x)) (hl : xs.length ≤ 100000) : lcG c g xs = some (xs.map h) := by
  have := lcG_ok (p := fun _ => true) (fun x hx => ⟨(q x hx).1, fun _ => (q x hx).2⟩) hl
  rw [List.filter_eq_self.mpr fun _ _ => rfl] at this
  exact this
theorem rangeN {n : Int} (m : Nat) (e : n = (m : Int)) (h : m ≤ 100000) : rangeG n = some ((List.range m).map fun i => ((i : Nat) : Int)) := by
  unfold rangeG
  rw [if_pos (by omega), e, Int.toNat_natCast]
theorem modN {a b : Int} (h : 0 < b) : modG a b = some (a % b) := if_pos h
theorem atN {xs : List α} {i : Int} {n : Nat} (e : i = (n : Int)) (h : n < xs.length) : atI xs i = some (xs[n]'h) := by
  unfold atI ixN
  rw [e, if_pos (by omega), if_pos (by omega), Option.bind_some, Int.toNat_natCast, List.getElem?_eq_getElem h]
theorem atQ {xs : List α} {i : Int} {n : Nat} {x : α} (e : i = (n : Int)) (h : xs[n]? = some x) : atI xs i = some x := by
  obtain ⟨hl, rfl⟩ := List.getElem?_eq_some_iff.mp h
  exact atN e hl
theorem appN {xs : List α} {x : α} (h : xs.length ≤ 100000) : appG xs x = some (xs ++ [x]) := if_pos (bigT h)
theorem catN {xs ys : List α} (h : xs.length + ys.length ≤ 100000) : catG xs ys = some (xs ++ ys) := if_pos (bigL h)
theorem cut_none {xs : List α} {n : Nat} {i : Int} (e : i = (n : Int)) : cutF xs none (some i) = xs.take n := by
  subst e
  have := (HT.sIx xs.length xs.length (some (n : Int)))
  unfold cutF
  show (xs.drop 0).take (HT.sIx xs.length xs.length (some (n : Int)) - 0) = _
  rw [List.drop_zero, Nat.sub_zero]
  unfold HT.sIx
  simp only
  split
  · omega
  · by_cases h : n ≤ xs.length
    · congr 1; omega
    · rw [List.take_of_length_le (by omega), List.take_of_length_le (by omega)]
end
theorem sortOk_row (l : List (List Int)) (h : l.length ≤ BIG) (hne : ∀ r ∈ l, r ≠ []) : sortOk (l.map rowF) = true := by
  unfold sortOk
  simp only [Bool.and_eq_true, Bool.or_eq_true]
  refine ⟨⟨⟨⟨?_, ?_⟩, .inl ?_⟩, decide_eq_true (by rw [List.length_map]; exact h)⟩, ?_⟩
  · rw [List.all_map]
    refine List.all_eq_true.mpr fun x _ => ?_
    show (rowF x).toD.isSome = true
    rw [toD_row]
    rfl
  · rw [List.all_map]
    refine List.all_eq_true.mpr fun x _ => ?_
    show ((l.map rowF).all fun y => PySem.W.alike (rowF x).enc y.enc) = true
    rw [List.all_map]
    exact List.all_eq_true.mpr fun y _ => alike_row x y
  · rw [List.all_map]
    refine List.all_eq_true.mpr fun x hx => ?_
    show tupD (rowF x).enc = true
    rw [enc_row]
    cases x with
    | nil => exact absurd rfl (hne _ hx)
    | cons n x => rfl
  · rw [List.all_map]
    refine List.all_eq_true.mpr fun x _ => ?_
    show decide ((rowF x).enc.depth ≤ 60) = true
    rw [enc_row, PyData.depth, PySem.W.depth_ints]
    rfl
theorem srt_gen {α : Type} {e : α → FV} {le : α → α → Prop} [DecidableRel le] (hle : ∀ a b, PySem.W.dataLe false FV.enc (e a) (e b) = decide (le a b)) (tot : ∀ a b, le a b ∨ le b a) (tr : ∀ a b c, le a b → le b c → le a c) {l : List α} (ok : sortOk (l.map e) = true) : ∃ ys, srt e l = some ys ∧ ys.Perm l ∧ ys.Pairwise le := by
  refine ⟨l.mergeSort fun a b => decide (le a b), ?_, List.mergeSort_perm l _, ?_⟩
  · unfold srt
    rw [if_pos ok]
    congr 2
    funext a b
    exact hle a b
  · have := List.pairwise_mergeSort (le := fun a b => decide (le a b)) (fun a b c h1 h2 => decide_eq_true (tr a b c (of_decide_eq_true h1) (of_decide_eq_true h2))) (fun a b => by
      rcases tot a b with h | h
      · rw [decide_eq_true h]; rfl
      · rw [decide_eq_true h, Bool.or_true]) l
    exact this.imp fun h => of_decide_eq_true h
theorem srtR_ok {l : List (List Int)} (h : l.length ≤ 100000) (hne : ∀ r ∈ l, r ≠ []) : ∃ ys, srt (eT eI) l = some ys ∧ ys.Perm l ∧ ys.Pairwise (· ≤ ·) :=
  srt_gen (e := eT eI) le_row rle_total (fun a b c => rle_trans) (sortOk_row l (bigL h) hne)
end J
namespace J
open PySem PySem.Spec PyProof.Rows L2
abbrev top (i : Nat) : Stmt := PySem.Challenge.pw_joinwood_k62_rows_as_texts.main.body.getD i (.Pass ⟨0, 0, 0, 0⟩)
abbrev s__law_mix : Stmt := top 19
abbrev s__law_number : Stmt := top 20
abbrev s__law_rows : Stmt := top 21
abbrev s__law_text : Stmt := top 22
abbrev s__law_number_told : Stmt := top 25
abbrev s__law_told : Stmt := top 26
abbrev s_show_rows : Stmt := top 16
abbrev s_read_number : Stmt := top 14
abbrev s_in_order : Stmt := top 8
abbrev s_read_rows : Stmt := top 15
abbrev s__law_whole : Stmt := top 18
abbrev s__law_right : Stmt := top 27
abbrev s__law_odd : Stmt := top 23
abbrev s__law_spoiled : Stmt := top 24
abbrev s_law : Stmt := top 28
structure Tx (K : PySem.W.Frag) (mg : Str → Option Value) : Prop where
  b_len : mg "len" = none
  b_range : mg "range" = none
  b_list : mg "list" = none
  b_isinstance : mg "isinstance" = none
  b_str : mg "str" = none
  b_tuple : mg "tuple" = none
  b_sorted : mg "sorted" = none
  b_int : mg "int" = none
  b_ValueError : mg "ValueError" = none
  b_bool : mg "bool" = none
  e_JoinError : ErrC K mg "JoinError"
  e_NoTable : ErrC K mg "NoTable"
  e_NoWidth : ErrC K mg "NoWidth"
  e_NoAnswer : ErrC K mg "NoAnswer"
  e_NoText : ErrC K mg "NoText"
  e_NoRow : ErrC K mg "NoRow"
  ek : ErrK K
  i_NoTable : ∀ q ∈ ([("NoText", false)] : List (Str × Bool)), ErrC K mg q.1 ∧ ErrP K mg q.1 "NoTable" q.2
  i_NoWidth : ∀ q ∈ ([("NoText", false)] : List (Str × Bool)), ErrC K mg q.1 ∧ ErrP K mg q.1 "NoWidth" q.2
  i_NoAnswer : ∀ q ∈ ([("NoText", false)] : List (Str × Bool)), ErrC K mg q.1 ∧ ErrP K mg q.1 "NoAnswer" q.2
  i_NoRow : ∀ q ∈ ([("NoText", false)] : List (Str × Bool)), ErrC K mg q.1 ∧ ErrP K mg q.1 "NoRow" q.2
  i_NoText : ∀ q ∈ ([("NoText", true)] : List (Str × Bool)), ErrC K mg q.1 ∧ ErrP K mg q.1 "NoText" q.2
  h0 : ∀ q ∈ (["NoTable", "NoWidth", "NoAnswer", "NoRow"] : List Str), ErrC K mg q
  j0 : ∀ q ∈ ([("NoText", false)] : List (Str × Bool)), ErrC K mg q.1 ∧ ∃ bs : List Bool, Paired (fun n b => ErrP K mg q.1 n b) ["NoTable", "NoWidth", "NoAnswer", "NoRow"] bs ∧ bs.any id = q.2
  i_V : ∀ q ∈ (["NoText"] : List Str), ErrC K mg q
  u_JoinError : ∀ c ∈ (["NoText"] : List Str), ErrP K mg c "JoinError" true
  g_FIGURES : ∃ t, mg "FIGURES" = some (.str (Str.ofString "0123456789") t)
  g_LETTERS : ∃ t, mg "LETTERS" = some (.int 6 t)
  g_ROWS : ∃ t, mg "ROWS" = some (.int 60 t)
  g_LONGEST : ∃ t, mg "LONGEST" = some (.int 60 t)
noncomputable def D__law_mix : DS :=
    (dSeq (dIf (dAndT (dTest (dBin opEq (dBin opMod (dVar 0) (dC (.int 2))) (dC (.int 1)))) (dTest (dBin opNe (dBin opShr (dVar 0) (dC (.int 27))) (dC (.int 0)))))
    (dRet (dBin opMod (dBin opShr (dVar 0) (dBin opAdd (dC (.int 1)) (dBin opMul (dC (.int 20)) (dVar 1)))) (dC (.int 1048576))))
    dSkip)
    (dSeq (dSet 2 (dBin opMod (dBin opAdd (dBin opMul (dVar 0) (dBin opAdd (dBin opMul (dC (.int 2)) (dVar 1)) (dC (.int 3)))) (dVar 1)) (dC (.int 2147483629))))
    (dSeq (dSet 2 (dBin opMod (dBin opMul (dBin opAdd (dBin opMul (dVar 2) (dVar 2)) (dC (.int 1))) (dC (.int 48271))) (dC (.int 2147483629))))
    (dRet (dBin opMod (dBin opMul (dVar 2) (dVar 2)) (dC (.int 2147483587)))))))
noncomputable def m__law_mix : FM := runF 3 D__law_mix
noncomputable def D__law_number : DS :=
    (dSeq (dSet 2 (dCall m__law_mix (dCons (dVar 0) (dCons (dVar 1) dNil))))
    (dSeq (dIf (dTest (dBin opEq (dBin opMod (dVar 2) (dC (.int 3))) (dC (.int 0))))
    (dRet (dBin opSub (dBin opMod (dBin opDiv (dVar 2) (dC (.int 3))) (dC (.int 5))) (dC (.int 2))))
    dSkip)
    (dSeq (dIf (dTest (dBin opEq (dBin opMod (dVar 2) (dC (.int 3))) (dC (.int 1))))
    (dRet (dBin opSub (dBin opMod (dBin opDiv (dVar 2) (dC (.int 3))) (dC (.int 2001))) (dC (.int 1000))))
    dSkip)
    (dRet (dBin opSub (dBin opMod (dBin opSub (dBin opAdd (dBin opMul (dVar 0) (dBin opAdd (dVar 1) (dC (.int 1)))) (dBin opPow (dC (.int 10)) (dC (.int 60)))) (dC (.int 1))) (dBin opSub (dBin opMul (dC (.int 2)) (dBin opPow (dC (.int 10)) (dC (.int 60)))) (dC (.int 1)))) (dBin opSub (dBin opPow (dC (.int 10)) (dC (.int 60))) (dC (.int 1))))))))
noncomputable def m__law_number : FM := runF 3 D__law_number
noncomputable def D__law_rows : DS :=
    (dSeq (dSet 2 (dSub (dVar 0) (dVar 1)))
    (dSeq (dSet 3 (dSub (dList (dCons (dC (.int 1)) (dCons (dC (.int 2)) (dCons (dC (.int 3)) (dCons (dC (.int 4)) (dCons (dC (.int 5)) (dCons (dC (.int 6)) (dCons (dC (.int 2)) (dCons (dC (.int 3)) (dCons (dC (.int 1)) (dCons (dC (.int 7)) dNil))))))))))) (dBin opMod (dCall m__law_mix (dCons (dVar 2) (dCons (dC (.int 1)) dNil))) (dC (.int 10)))))
    (dSeq (dSet 4 (dBin opMod (dCall m__law_mix (dCons (dVar 2) (dCons (dC (.int 2)) dNil))) (dC (.int 6))))
    (dSeq (dIf (dAndT (dTest (dBin opEq (dVar 1) (dC (.int 0)))) (dTest (dBin opEq (dBin opMod (dCall m__law_mix (dCons (dVar 2) (dCons (dC (.int 3)) dNil))) (dC (.int 4))) (dC (.int 1)))))
    (dSet 4 (dBin opAdd (dC (.int 60)) (dBin opMod (dCall m__law_mix (dCons (dVar 2) (dCons (dC (.int 4)) dNil))) (dC (.int 2)))))
    dSkip)
    (dSeq (dSet 5 (dList dNil))
    (dSeq (dFor (dRange (dVar 4)) (tName 6)
    (dSeq (dSet 7 (dBin opAdd (dSub (dVar 0) (dBin opMod (dBin opAdd (dVar 1) (dVar 6)) (dCallB opLen (dCons (dVar 0) dNil)))) (dBin opDiv (dVar 6) (dC (.int 7)))))
    (dSeq (dSet 8 (dCallB opTup (dCons (dLc (dRange (dVar 3)) (tName 9) dTrue (dFrz (dCall m__law_number (dCons (dVar 7) (dCons (dFrz (dBin opAdd (dC (.int 10)) (dVar 9))) dNil)))) [9]) dNil)))
    (dSeq (dIf (dAndT (dTest (dBin opNe (dVar 5) (dList dNil))) (dTest (dBin opEq (dBin opMod (dCall m__law_mix (dCons (dVar 7) (dCons (dC (.int 5)) dNil))) (dC (.int 5))) (dC (.int 1)))))
    (dSet 8 (dSub (dVar 5) (dBin opMod (dCall m__law_mix (dCons (dVar 7) (dCons (dC (.int 6)) dNil))) (dCallB opLen (dCons (dVar 5) dNil)))))
    dSkip)
    (dIce 8 (dApp 5 (dVar 8)))))))
    (dRetV 5)))))))
noncomputable def m__law_rows : FM := runF 10 D__law_rows
noncomputable def D__law_text : DS :=
    (dRet (dMeth okStr opJoin (dC (.str (Str.ofString "; "))) (dCons (dLc (cItems (dVar 0)) (tName 1) dTrue (dFrz (dMeth okStr opJoin (dC (.str (Str.ofString " "))) (dCons (dLc (cItems (dVar 1)) (tName 2) dTrue (dFrz (dCallB opStr (dCons (dVar 2) dNil))) [2]) dNil))) [1]) dNil)))
noncomputable def m__law_text : FM := runF 3 D__law_text
noncomputable def D__law_number_told : DS :=
    (dSeq (dSet 1 (dSl (dVar 0) (dPS (dCallB opInt (dCons (dBin opEq (dSl (dVar 0) dPN (dPS (dC (.int 1)))) (dC (.str (Str.ofString "-")))) dNil))) dPN))
    (dSeq (dIce 1 (dIf (dOrT (dTest (dBin opEq (dVar 1) (dC (.str (Str.ofString ""))))) (dOrT (dTest (dBin opGt (dCallB opLen (dCons (dVar 1) dNil)) (dC (.int 60)))) (dAndT (dTest (dBin opEq (dSub (dVar 1) (dC (.int 0))) (dC (.str (Str.ofString "0"))))) (dTest (dBin opNe (dVar 0) (dC (.str (Str.ofString "0"))))))))
    (dRet (dC .non))
    dSkip))
    (dSeq (dIce 1 (dFor (dItems (dVar 1)) (tName 2)
    (dIf (dTest (dBin (opIn true) (dVar 2) (dC (.str (Str.ofString "0123456789")))))
    (dRet (dC .non))
    dSkip)))
    (dRet (dBin opMul (dCallB opInt (dCons (dVar 1) dNil)) (dBin opSub (dC (.int 1)) (dBin opMul (dC (.int 2)) (dCallB opInt (dCons (dBin opNe (dVar 1) (dVar 0)) dNil)))))))))
noncomputable def m__law_number_told : FM := runF 3 D__law_number_told
noncomputable def D__law_told : DS :=
    (dSeq (dIf (dNotT (dTest (dUn (opIsa ["str"]) (dVar 0))))
    (dRet (dC .non))
    dSkip)
    (dSeq (dIf (dTest (dBin opEq (dVar 0) (dC (.str (Str.ofString "")))))
    (dRet (dList dNil))
    dSkip)
    (dSeq (dSet 1 (dList dNil))
    (dSeq (dSet 2 (dC (.int 0)))
    (dSeq (dFor (dItems (dMeth okStr opSplit (dVar 0) (dCons (dC (.str (Str.ofString "; "))) dNil))) (tName 3)
    (dSeq (dSet 4 (dCallB opTup (dCons (dLc (cItems (dMeth okStr opSplit (dVar 3) (dCons (dC (.str (Str.ofString " "))) dNil))) (tName 5) dTrue (dFrz (dCall m__law_number_told (dCons (dVar 5) dNil))) [5]) dNil)))
    (dSeq (dSet 2 (dBin opAdd (dVar 2) (dC (.int 1))))
    (dSeq (dIf (dOrT (dTest (dBin (opIn false) (dC .non) (dVar 4))) (dOrT (dTest (dBin opGt (dCallB opLen (dCons (dVar 4) dNil)) (dC (.int 6)))) (dAndT (dTest (dBin opNe (dVar 1) (dList dNil))) (dTest (dBin opNe (dCallB opLen (dCons (dVar 4) dNil)) (dCallB opLen (dCons (dSub (dVar 1) (dC (.int 0))) dNil)))))))
    (dRet (dC .non))
    dSkip)
    (dIf (dTest (dBin (opIn true) (dVar 4) (dVar 1)))
    (dIce 4 (dApp 1 (dVar 4)))
    dSkip)))))
    (dSeq (dIf (dTest (dBin opGt (dVar 2) (dC (.int 60))))
    (dRet (dC .non))
    dSkip)
    (dRet (dCallB opSorted (dCons (dVar 1) dNil)))))))))
noncomputable def m__law_told : FM := runF 6 D__law_told
noncomputable def D_show_rows : DS :=
    (dRet (dMeth okStr opJoin (dC (.str (Str.ofString "; "))) (dCons (dLc (cItems (dVar 0)) (tName 1) dTrue (dFrz (dMeth okStr opJoin (dC (.str (Str.ofString " "))) (dCons (dLc (cItems (dVar 1)) (tName 2) dTrue (dFrz (dCallB opStr (dCons (dVar 2) dNil))) [2]) dNil))) [1]) dNil)))
noncomputable def m_show_rows : FM := runF 3 D_show_rows
noncomputable def D_read_number : DS :=
    (dSeq (dIce 0 (dSet 1 (dVar 0)))
    (dSeq (dIf (dTest (dBin opEq (dSl (dVar 0) dPN (dPS (dC (.int 1)))) (dC (.str (Str.ofString "-")))))
    (dSeq (dSet 1 (dSl (dVar 0) (dPS (dC (.int 1))) dPN))
    (dIce 1 dSkip))
    dSkip)
    (dSeq (dIf (dOrT (dNotT (dTest (dChain opLe opLe (dC (.int 1)) (dCallB opLen (dCons (dVar 1) dNil)) (dC (.int 60))))) (dAndT (dTest (dBin opEq (dSub (dVar 1) (dC (.int 0))) (dC (.str (Str.ofString "0"))))) (dTest (dBin opNe (dVar 0) (dC (.str (Str.ofString "0")))))))
    (dRaise "NoText")
    dSkip)
    (dSeq (dIce 1 (dFor (dItems (dVar 1)) (tName 2)
    (dIf (dTest (dBin (opIn true) (dVar 2) (dC (.str (Str.ofString "0123456789")))))
    (dRaise "NoText")
    dSkip)))
    (dSeq (dIf (dTest (dBin opNe (dVar 1) (dVar 0)))
    (dRet (dUn opNeg (dCallB opInt (dCons (dVar 1) dNil))))
    dSkip)
    (dRet (dCallB opInt (dCons (dVar 1) dNil))))))))
noncomputable def m_read_number : FM := runF 3 D_read_number
noncomputable def D_in_order : DS :=
    (dSeq (dSet 1 (dList dNil))
    (dSeq (dFor (dItems (dCallB opSorted (dCons (dVar 0) dNil))) (tName 2)
    (dIf (dOrT (dTest (dBin opEq (dVar 1) (dList dNil))) (dTest (dBin opNe (dSub (dVar 1) (dBin opSub (dCallB opLen (dCons (dVar 1) dNil)) (dC (.int 1)))) (dVar 2))))
    (dIce 2 (dApp 1 (dVar 2)))
    dSkip))
    (dRetV 1)))
noncomputable def m_in_order : FM := runF 3 D_in_order
noncomputable def D_read_rows : DS :=
    (dSeq (dIf (dNotT (dTest (dUn (opIsa ["str"]) (dVar 0))))
    (dRaise "NoText")
    dSkip)
    (dSeq (dIf (dTest (dBin opEq (dVar 0) (dC (.str (Str.ofString "")))))
    (dRet (dList dNil))
    dSkip)
    (dSeq (dSet 1 (dList dNil))
    (dSeq (dFor (dItems (dMeth okStr opSplit (dVar 0) (dCons (dC (.str (Str.ofString "; "))) dNil))) (tName 2)
    (dApp 1 (dFrz (dCallB opTup (dCons (dLcX (cItems (dMeth okStr opSplit (dVar 2) (dCons (dC (.str (Str.ofString " "))) dNil))) (tName 4) dTrue (dFrz (dCall m_read_number (dCons (dVar 4) dNil))) [4]) dNil)))))
    (dSeq (dIce 1 (dFor (dItems (dVar 1)) (tName 3)
    (dIf (dOrT (dTest (dBin opGt (dCallB opLen (dCons (dVar 3) dNil)) (dC (.int 6)))) (dTest (dBin opNe (dCallB opLen (dCons (dVar 3) dNil)) (dCallB opLen (dCons (dSub (dVar 1) (dC (.int 0))) dNil)))))
    (dRaise "NoText")
    dSkip)))
    (dSeq (dIf (dTest (dBin opGt (dCallB opLen (dCons (dVar 1) dNil)) (dC (.int 60))))
    (dRaise "NoText")
    dSkip)
    (dRet (dCall m_in_order (dCons (dVar 1) dNil)))))))))
noncomputable def m_read_rows : FM := runF 5 D_read_rows
noncomputable def D__law_whole : DS :=
    (dRet (dAndV (dUn (opIsa ["int"]) (dVar 0)) (dB (dNotT (dTest (dUn (opIsa ["bool"]) (dVar 0)))))))
noncomputable def m__law_whole : FM := runF 1 D__law_whole
noncomputable def D__law_right : DS :=
    (dSeq (dSet 1 (dCall m__law_told (dCons (dVar 0) dNil)))
    (dSeq (dIce 1 (dSet 2 (dC .non)))
    (dSeq (dSet 3 (dC .non))
    (dSeq (dTryA ["NoText"] (dFrz (dCall m_read_rows (dCons (dVar 0) dNil))) 3 4 2)
    (dSeq (dIf (dTest (dUn opIsN (dVar 1)))
    (dSeq (dIf (dTest (dUn (opIsE [("NoText", false)]) (dVar 2)))
    (dRet (dC (.bl false)))
    dSkip)
    (dRet (dAndV (dUn (opIsE [("NoText", true)]) (dVar 2)) (dUn (opIsE (List.map (fun c => (c, true)) ["NoText"])) (dVar 2)))))
    dSkip)
    (dSeq (dIf (dOrT (dTest (dUn opNotN (dVar 2))) (dOrT (dNotT (dTest (dUn (opIsa ["list"]) (dVar 3)))) (dTest (dBin opNe (dVar 3) (dVar 1)))))
    (dRet (dC (.bl false)))
    dSkip)
    (dSeq (dIce 3 (dFor (dItems (dVar 3)) (tName 5)
    (dIf (dOrT (dNotT (dTest (dUn (opIsa ["tuple"]) (dVar 5)))) (dTest (dBin opNe (dLc (cItems (dVar 5)) (tName 6) (dNotT (dTest (dCall m__law_whole (dCons (dVar 6) dNil)))) (dVar 6) [6]) (dList dNil))))
    (dRet (dC (.bl false)))
    dSkip)))
    (dRet (dC (.bl true))))))))))
noncomputable def m__law_right : FM := runF 7 D__law_right
noncomputable def D__law_odd : DS :=
    (dSeq (dSet 1 (dList (dCons (dC (.str (Str.ofString " "))) (dCons (dC (.str (Str.ofString ";"))) (dCons (dC (.str (Str.ofString "; "))) (dCons (dC (.str (Str.ofString "1;"))) (dCons (dC (.str (Str.ofString "1; "))) (dCons (dC (.str (Str.ofString "1;2"))) (dCons (dC (.str (Str.ofString "1 ;2"))) (dCons (dC (.str (Str.ofString "1 2; 3"))) (dCons (dC (.str (Str.ofString " 1"))) (dCons (dC (.str (Str.ofString "1 "))) (dCons (dC (.str (Str.ofString "1  2"))) (dCons (dC (.str (Str.ofString "01"))) (dCons (dC (.str (Str.ofString "-0"))) (dCons (dC (.str (Str.ofString "-"))) (dCons (dC (.str (Str.ofString "--1"))) dNil)))))))))))))))))
    (dSeq (dIce 1 (dSet 1 (dBin opAdd (dVar 1) (dList (dCons (dC (.str (Str.ofString "1\n"))) (dCons (dC (.str (Str.ofString "\n"))) (dCons (dC (.str (Str.ofString "1	2"))) (dCons (dC (.str (Str.ofString "+1"))) (dCons (dC (.str (Str.ofString "1_0"))) (dCons (dC (.str (Str.ofString "1.0"))) (dCons (dC (.str (Str.ofString "1 2 3 4 5 6 7"))) (dCons (dFrz (dBin opRepS (dC (.str (Str.ofString "9"))) (dC (.int 61)))) (dCons (dC (.str (Str.ofString "a"))) (dCons (dC .non) (dCons (dC (.int 7)) (dCons (dFrz (dList (dCons (dFrz (dTup (dCons (dC (.int 1)) dNil))) dNil))) dNil))))))))))))))))
    (dIce 1 (dRet (dSub (dVar 1) (dBin opMod (dCall m__law_mix (dCons (dVar 0) (dCons (dC (.int 30)) dNil))) (dC (.int 27))))))))
noncomputable def m__law_odd : FM := runF 2 D__law_odd
noncomputable def D__law_spoiled : DS :=
    (dSeq (dSet 2 (dC (.str (Str.ofString "   ;;--0123456789x,\n	"))))
    (dSeq (dSet 3 (dBin opMod (dCall m__law_mix (dCons (dVar 1) (dCons (dC (.int 31)) dNil))) (dC (.int 8))))
    (dSeq (dSet 4 (dBin opMod (dCall m__law_mix (dCons (dVar 1) (dCons (dC (.int 32)) dNil))) (dBin opAdd (dCallB opLen (dCons (dVar 0) dNil)) (dC (.int 1)))))
    (dSeq (dSet 5 (dSub (dVar 2) (dBin opMod (dCall m__law_mix (dCons (dVar 1) (dCons (dC (.int 33)) dNil))) (dCallB opLen (dCons (dVar 2) dNil)))))
    (dSeq (dIf (dTest (dBin opEq (dVar 3) (dC (.int 0))))
    (dRet (dBin opAdd (dBin opAdd (dSl (dVar 0) dPN (dPS (dVar 4))) (dVar 5)) (dSl (dVar 0) (dPS (dVar 4)) dPN)))
    dSkip)
    (dSeq (dIf (dTest (dBin opEq (dVar 3) (dC (.int 1))))
    (dRet (dBin opAdd (dSl (dVar 0) dPN (dPS (dVar 4))) (dSl (dVar 0) (dPS (dBin opAdd (dVar 4) (dC (.int 1)))) dPN)))
    dSkip)
    (dSeq (dIf (dTest (dBin opLt (dVar 3) (dC (.int 5))))
    (dRet (dBin opAdd (dBin opAdd (dSl (dVar 0) dPN (dPS (dVar 4))) (dVar 5)) (dSl (dVar 0) (dPS (dBin opAdd (dVar 4) (dC (.int 1)))) dPN)))
    dSkip)
    (dSeq (dIf (dTest (dBin opEq (dVar 3) (dC (.int 5))))
    (dRet (dCall m__law_odd (dCons (dVar 1) dNil)))
    dSkip)
    (dRetV 0)))))))))
noncomputable def m__law_spoiled : FM := runF 6 D__law_spoiled
noncomputable def D_law : DS :=
    (dSeq (dIce 1 (dFor (dRange (dCallB opLen (dCons (dVar 1) dNil))) (tName 2)
    (dSeq (dSet 3 (dCall m__law_rows (dCons (dVar 1) (dCons (dVar 2) dNil))))
    (dSeq (dIce 3 (dSet 4 (dCall m__law_text (dCons (dVar 3) dNil))))
    (dSeq (dIce 4 (dSet 5 (dCall m__law_told (dCons (dVar 4) dNil))))
    (dSeq (dIce 5 (dIf (dTest (dUn opNotN (dVar 5)))
    (dSeq (dSet 6 (dCallB opList (dCons (dVar 5) dNil)))
    (dSeq (dIce 6 (dSet 7 (dCall m_show_rows (dCons (dVar 5) dNil))))
    (dIce 7 (dIf (dOrT (dNotT (dTest (dUn (opIsa ["str"]) (dVar 7)))) (dOrT (dTest (dBin opNe (dVar 7) (dCall m__law_text (dCons (dVar 6) dNil)))) (dOrT (dTest (dBin opNe (dVar 5) (dVar 6))) (dNotT (dTest (dCall m__law_right (dCons (dVar 7) dNil)))))))
    (dRet (dC (.bl false)))
    dSkip))))
    dSkip))
    (dIf (dOrT (dNotT (dTest (dCall m__law_right (dCons (dVar 4) dNil)))) (dNotT (dTest (dCall m__law_right (dCons (dFrz (dCall m__law_spoiled (dCons (dVar 4) (dCons (dFrz (dSub (dVar 1) (dVar 2))) dNil)))) dNil)))))
    (dRet (dC (.bl false)))
    dSkip)))))))
    (dRet (dC (.bl true))))
section
variable {P : Program} {w : World} {K : PySem.W.Frag} {mg : Str → Option Value} {base : Heap}
abbrev N__law_mix : List Str := ["_law_cell", "_law_j", "_law_number_here"]
theorem sc__law_mix : FnScope N__law_mix ["_law_cell", "_law_j"] (defScope s__law_mix) := ⟨rfl, rfl, rfl, by decide +kernel, rfl, by decide +kernel, by decide +kernel⟩
theorem ok__law_mix {f : Addr} {fd : FuncData} (F : Fun K "_law_mix" "_law_mix" s__law_mix f fd) (T : Tx K mg)  : FnOk P w K mg base (L2.CX P w) 1 f fd ["_law_cell", "_law_j"] (spF mg 2 m__law_mix) :=
  ok_of F sc__law_mix fun cdv A outer s H E (hr : Room 0 _) tk hp =>
    (jss_cons (js_if (jt_w (jw_and (jt_cmp (oj_eq (u64 hr)) (je_bin oj_mod (je_var 0) je_int) je_int) (jw_and1 (jt_cmp (oj_ne (u64 hr)) (je_bin oj_shr (je_var 0) je_int) je_int))))
    (jss_one (js_ret (je_bin oj_mod (je_bin oj_shr (je_var 0) (je_bin oj_add je_int (je_bin oj_mul je_int (je_var 1)))) je_int)))
    jss_nil)
    (jss_cons (js_set 2 sc__law_mix.nd (je_bin oj_mod (je_bin oj_add (je_bin oj_mul (je_var 0) (je_bin oj_add (je_bin oj_mul je_int (je_var 1)) je_int)) (je_var 1)) je_int))
    (jss_cons (js_set 2 sc__law_mix.nd (je_bin oj_mod (je_bin oj_mul (je_bin oj_add (je_bin oj_mul (je_var 2) (je_var 2)) je_int) je_int) je_int))
    (jss_one (js_ret (je_bin oj_mod (je_bin oj_mul (je_var 2) (je_var 2)) je_int))))))
abbrev N__law_number : List Str := ["_law_cell", "_law_j", "_law_drawn"]
theorem sc__law_number : FnScope N__law_number ["_law_cell", "_law_j"] (defScope s__law_number) := ⟨rfl, rfl, rfl, by decide +kernel, rfl, by decide +kernel, by decide +kernel⟩
theorem ok__law_number {f : Addr} {fd : FuncData} (F : Fun K "_law_number" "_law_number" s__law_number f fd) (T : Tx K mg) (C__law_mix : Cal P w K mg base 1 "_law_mix" 2 m__law_mix) : FnOk P w K mg base (L2.CX P w) 2 f fd ["_law_cell", "_law_j"] (spF mg 2 m__law_number) :=
  ok_of F sc__law_number fun cdv A outer s H E (hr : Room 1 _) tk hp =>
    (jss_cons (js_set 2 sc__law_number.nd (je_cal tk C__law_mix hr (ja_cons (je_var 0) (ja_cons (je_var 1) ja_nil))))
    (jss_cons (js_if (jt_cmp (oj_eq (u64 hr)) (je_bin oj_mod (je_var 2) je_int) je_int)
    (jss_one (js_ret (je_bin oj_sub (je_bin oj_mod (je_bin oj_div (je_var 2) je_int) je_int) je_int)))
    jss_nil)
    (jss_cons (js_if (jt_cmp (oj_eq (u64 hr)) (je_bin oj_mod (je_var 2) je_int) je_int)
    (jss_one (js_ret (je_bin oj_sub (je_bin oj_mod (je_bin oj_div (je_var 2) je_int) je_int) je_int)))
    jss_nil)
    (jss_one (js_ret (je_bin oj_sub (je_bin oj_mod (je_bin oj_sub (je_bin oj_add (je_bin oj_mul (je_var 0) (je_bin oj_add (je_var 1) je_int)) (je_bin oj_pow je_int je_int)) je_int) (je_bin oj_sub (je_bin oj_mul je_int (je_bin oj_pow je_int je_int)) je_int)) (je_bin oj_sub (je_bin oj_pow je_int je_int) je_int)))))))
abbrev N__law_rows : List Str := ["_law_cells", "_law_at", "_law_total", "_law_width", "_law_many", "_law_found", "_law_k", "_law_cell", "_law_row", "_law_j"]
theorem sc__law_rows : FnScope N__law_rows ["_law_cells", "_law_at"] (defScope s__law_rows) := ⟨rfl, rfl, rfl, by decide +kernel, rfl, by decide +kernel, by decide +kernel⟩
theorem ok__law_rows {f : Addr} {fd : FuncData} (F : Fun K "_law_rows" "_law_rows" s__law_rows f fd) (T : Tx K mg) (C__law_mix : Cal P w K mg base 1 "_law_mix" 2 m__law_mix) (C__law_number : Cal P w K mg base 2 "_law_number" 2 m__law_number) : FnOk P w K mg base (L2.CX P w) 3 f fd ["_law_cells", "_law_at"] (spF mg 2 m__law_rows) :=
  ok_of F sc__law_rows fun cdv A outer s H E (hr : Room 2 _) tk hp =>
    (jss_cons (js_set 2 sc__law_rows.nd (je_sub (u1 hr) (je_var 0) (je_var 1)))
    (jss_cons (js_set 3 sc__law_rows.nd (je_sub (u1 hr) (je_list (ja_cons je_int (ja_cons je_int (ja_cons je_int (ja_cons je_int (ja_cons je_int (ja_cons je_int (ja_cons je_int (ja_cons je_int (ja_cons je_int (ja_cons je_int ja_nil))))))))))) (je_bin oj_mod (je_cal tk C__law_mix hr (ja_cons (je_var 2) (ja_cons je_int ja_nil))) je_int)))
    (jss_cons (js_set 4 sc__law_rows.nd (je_bin oj_mod (je_cal tk C__law_mix hr (ja_cons (je_var 2) (ja_cons je_int ja_nil))) je_int))
    (jss_cons (js_if (jt_w (jw_and (jt_cmp (oj_eq (u64 hr)) (je_var 1) je_int) (jw_and1 (jt_cmp (oj_eq (u64 hr)) (je_bin oj_mod (je_cal tk C__law_mix hr (ja_cons (je_var 2) (ja_cons je_int ja_nil))) je_int) je_int))))
    (jss_one (js_set 4 sc__law_rows.nd (je_bin oj_add je_int (je_bin oj_mod (je_cal tk C__law_mix hr (ja_cons (je_var 2) (ja_cons je_int ja_nil))) je_int))))
    jss_nil)
    (jss_cons (js_set 5 sc__law_rows.nd (je_list ja_nil))
    (jss_cons (js_for hp rfl (ji_range (je_var 4) T.b_range) (jg_name 6 sc__law_rows.nd)
    (jss_cons (js_set 7 sc__law_rows.nd (je_bin oj_add (je_sub (u1 hr) (je_var 0) (je_bin oj_mod (je_bin oj_add (je_var 1) (je_var 6)) (je_callB cj_len (ja_cons (je_var 0) ja_nil) T.b_len boot_len))) (je_bin oj_div (je_var 6) je_int)))
    (jss_cons (js_set 8 sc__law_rows.nd (je_callTy (cj_tup rfl) (ja_cons (je_lc (own := [((Str.ofString "_law_j"), 9)]) rfl sc__law_rows.nd (jc_range (je_var 3) T.b_range) (blkOk_by (by rfl)) (fun _ _ _ _ _ => (jg_name 9 sc__law_rows.nd)) (fun _ _ _ _ _ => jts_nil) (fun _ _ _ _ _ => (je_frz (je_cal takes0 C__law_number hr (ja_cons (je_var 7) (ja_cons (je_frz (je_bin oj_add je_int (je_var 9))) ja_nil))))) tg_name) ja_nil) T.b_tuple boot_tuple))
    (jss_cons (js_if (jt_w (jw_and (jt_cmp (oj_ne (u64 hr)) (je_var 5) (je_list ja_nil)) (jw_and1 (jt_cmp (oj_eq (u64 hr)) (je_bin oj_mod (je_cal tk C__law_mix hr (ja_cons (je_var 7) (ja_cons je_int ja_nil))) je_int) je_int))))
    (jss_one (js_set 8 sc__law_rows.nd (je_sub (u1 hr) (je_var 5) (je_bin oj_mod (je_cal tk C__law_mix hr (ja_cons (je_var 7) (ja_cons je_int ja_nil))) (je_callB cj_len (ja_cons (je_var 5) ja_nil) T.b_len boot_len)))))
    jss_nil)
    (jss_one (js_ice 8 (js_append 5 (je_var 8))))))))
    (jss_one (js_retV 5))))))))
abbrev N__law_text : List Str := ["_law_rows_here", "_law_row", "_law_cell"]
theorem sc__law_text : FnScope N__law_text ["_law_rows_here"] (defScope s__law_text) := ⟨rfl, rfl, rfl, by decide +kernel, rfl, by decide +kernel, by decide +kernel⟩
theorem ok__law_text {f : Addr} {fd : FuncData} (F : Fun K "_law_text" "_law_text" s__law_text f fd) (T : Tx K mg)  : FnOk P w K mg base (L2.CX P w) 1 f fd ["_law_rows_here"] (spF mg 1 m__law_text) :=
  ok_of F sc__law_text fun cdv A outer s H E (hr : Room 0 _) tk hp =>
    (jss_one (js_ret (je_meth PySem.F.plainAttrs_str PySem.F.slot_str_join PySem.F.type_str_join mj_join okStr_ty je_str (ja_cons (je_lc (own := [((Str.ofString "_law_row"), 1)]) rfl sc__law_text.nd (jc_items (je_var 0)) (blkOk_by (by rfl)) (fun _ _ _ _ _ => (jg_name 1 sc__law_text.nd)) (fun _ _ _ _ _ => jts_nil) (fun _ _ _ _ _ => (je_frz (je_meth PySem.F.plainAttrs_str PySem.F.slot_str_join PySem.F.type_str_join mj_join okStr_ty je_str (ja_cons (je_lc (own := [((Str.ofString "_law_cell"), 2)]) rfl sc__law_text.nd (jc_items (je_var 1)) (blkOk_by (by rfl)) (fun _ _ _ _ _ => (jg_name 2 sc__law_text.nd)) (fun _ _ _ _ _ => jts_nil) (fun _ _ _ _ _ => (je_frz (je_callTy cj_str (ja_cons (je_var 2) ja_nil) T.b_str boot_str))) tg_name) ja_nil)))) tg_name) ja_nil))))
abbrev N__law_number_told : List Str := ["_law_word", "_law_figures", "_law_sign"]
theorem sc__law_number_told : FnScope N__law_number_told ["_law_word"] (defScope s__law_number_told) := ⟨rfl, rfl, rfl, by decide +kernel, rfl, by decide +kernel, by decide +kernel⟩
theorem ok__law_number_told {f : Addr} {fd : FuncData} (F : Fun K "_law_number_told" "_law_number_told" s__law_number_told f fd) (T : Tx K mg)  : FnOk P w K mg base (L2.CX P w) 1 f fd ["_law_word"] (spF mg 1 m__law_number_told) :=
  ok_of F sc__law_number_told fun cdv A outer s H E (hr : Room 0 _) tk hp =>
    (jss_cons (js_set 1 sc__law_number_told.nd (je_slice (je_var 0) (jo_some (je_callTy cj_int (ja_cons (je_cmp (oj_eq (u64 hr)) (je_slice (je_var 0) jo_none (jo_some je_int)) je_str) ja_nil) T.b_int boot_int)) jo_none))
    (jss_cons (js_ice 1 (js_if (jt_w (jw_or (jt_cmp (oj_eq (u64 hr)) (je_var 1) je_str) (jw_or (jt_cmp oj_gt (je_callB cj_len (ja_cons (je_var 1) ja_nil) T.b_len boot_len) je_int) (jw_or1 (jt_w (jw_and (jt_cmp (oj_eq (u64 hr)) (je_sub (u1 hr) (je_var 1) je_int) je_str) (jw_and1 (jt_cmp (oj_ne (u64 hr)) (je_var 0) je_str))))))))
    (jss_one (js_ret je_non))
    jss_nil))
    (jss_cons (js_ice 1 (js_for hp rfl (ji_items (je_var 1)) (jg_name 2 sc__law_number_told.nd)
    (jss_one (js_if (jt_notIn (u65 hr) (je_var 2) je_str)
    (jss_one (js_ret je_non))
    jss_nil))))
    (jss_one (js_ret (je_bin oj_mul (je_callTy cj_int (ja_cons (je_var 1) ja_nil) T.b_int boot_int) (je_bin oj_sub je_int (je_bin oj_mul je_int (je_callTy cj_int (ja_cons (je_cmp (oj_ne (u64 hr)) (je_var 1) (je_var 0)) ja_nil) T.b_int boot_int)))))))))
abbrev N__law_told : List Str := ["_law_text_here", "_law_found", "_law_many", "_law_piece", "_law_row", "_law_word"]
theorem sc__law_told : FnScope N__law_told ["_law_text_here"] (defScope s__law_told) := ⟨rfl, rfl, rfl, by decide +kernel, rfl, by decide +kernel, by decide +kernel⟩
theorem ok__law_told {f : Addr} {fd : FuncData} (F : Fun K "_law_told" "_law_told" s__law_told f fd) (T : Tx K mg) (C__law_number_told : Cal P w K mg base 1 "_law_number_told" 1 m__law_number_told) : FnOk P w K mg base (L2.CX P w) 2 f fd ["_law_text_here"] (spF mg 1 m__law_told) :=
  ok_of F sc__law_told fun cdv A outer s H E (hr : Room 1 _) tk hp =>
    (jss_cons (js_if (jt_not (jt_val (je_isa (T := "str") (je_var 0) T.b_isinstance T.b_str (by decide) boot_str)))
    (jss_one (js_ret je_non))
    jss_nil)
    (jss_cons (js_if (jt_cmp (oj_eq (u64 hr)) (je_var 0) je_str)
    (jss_one (js_ret (je_list ja_nil)))
    jss_nil)
    (jss_cons (js_set 1 sc__law_told.nd (je_list ja_nil))
    (jss_cons (js_set 2 sc__law_told.nd je_int)
    (jss_cons (js_for hp rfl (ji_items (je_meth PySem.F.plainAttrs_str PySem.F.slot_str_split PySem.F.type_str_split mj_split okStr_ty (je_var 0) (ja_cons je_str ja_nil))) (jg_name 3 sc__law_told.nd)
    (jss_cons (js_set 4 sc__law_told.nd (je_callTy (cj_tup rfl) (ja_cons (je_lc (own := [((Str.ofString "_law_word"), 5)]) rfl sc__law_told.nd (jc_items (je_meth PySem.F.plainAttrs_str PySem.F.slot_str_split PySem.F.type_str_split mj_split okStr_ty (je_var 3) (ja_cons je_str ja_nil))) (blkOk_by (by rfl)) (fun _ _ _ _ _ => (jg_name 5 sc__law_told.nd)) (fun _ _ _ _ _ => jts_nil) (fun _ _ _ _ _ => (je_frz (je_cal takes0 C__law_number_told hr (ja_cons (je_var 5) ja_nil)))) tg_name) ja_nil) T.b_tuple boot_tuple))
    (jss_cons (js_set 2 sc__law_told.nd (je_bin oj_add (je_var 2) je_int))
    (jss_cons (js_if (jt_w (jw_or (jt_in (u65 hr) je_non (je_var 4)) (jw_or (jt_cmp oj_gt (je_callB cj_len (ja_cons (je_var 4) ja_nil) T.b_len boot_len) je_int) (jw_or1 (jt_w (jw_and (jt_cmp (oj_ne (u64 hr)) (je_var 1) (je_list ja_nil)) (jw_and1 (jt_cmp (oj_ne (u64 hr)) (je_callB cj_len (ja_cons (je_var 4) ja_nil) T.b_len boot_len) (je_callB cj_len (ja_cons (je_sub (u1 hr) (je_var 1) je_int) ja_nil) T.b_len boot_len)))))))))
    (jss_one (js_ret je_non))
    jss_nil)
    (jss_one (js_if (jt_notIn (u65 hr) (je_var 4) (je_var 1))
    (jss_one (js_ice 4 (js_append 1 (je_var 4))))
    jss_nil))))))
    (jss_cons (js_if (jt_cmp oj_gt (je_var 2) je_int)
    (jss_one (js_ret je_non))
    jss_nil)
    (jss_one (js_ret (je_callB (cj_sorted (u62 hr)) (ja_cons (je_var 1) ja_nil) T.b_sorted boot_sorted)))))))))
abbrev N_show_rows : List Str := ["rows", "row", "cell"]
theorem sc_show_rows : FnScope N_show_rows ["rows"] (defScope s_show_rows) := ⟨rfl, rfl, rfl, by decide +kernel, rfl, by decide +kernel, by decide +kernel⟩
theorem ok_show_rows {f : Addr} {fd : FuncData} (F : Fun K "show_rows" "show_rows" s_show_rows f fd) (T : Tx K mg)  : FnOk P w K mg base (L2.CX P w) 1 f fd ["rows"] (spF mg 1 m_show_rows) :=
  ok_of F sc_show_rows fun cdv A outer s H E (hr : Room 0 _) tk hp =>
    (jss_one (js_ret (je_meth PySem.F.plainAttrs_str PySem.F.slot_str_join PySem.F.type_str_join mj_join okStr_ty je_str (ja_cons (je_lc (own := [((Str.ofString "row"), 1)]) rfl sc_show_rows.nd (jc_items (je_var 0)) (blkOk_by (by rfl)) (fun _ _ _ _ _ => (jg_name 1 sc_show_rows.nd)) (fun _ _ _ _ _ => jts_nil) (fun _ _ _ _ _ => (je_frz (je_meth PySem.F.plainAttrs_str PySem.F.slot_str_join PySem.F.type_str_join mj_join okStr_ty je_str (ja_cons (je_lc (own := [((Str.ofString "cell"), 2)]) rfl sc_show_rows.nd (jc_items (je_var 1)) (blkOk_by (by rfl)) (fun _ _ _ _ _ => (jg_name 2 sc_show_rows.nd)) (fun _ _ _ _ _ => jts_nil) (fun _ _ _ _ _ => (je_frz (je_callTy cj_str (ja_cons (je_var 2) ja_nil) T.b_str boot_str))) tg_name) ja_nil)))) tg_name) ja_nil))))
abbrev N_read_number : List Str := ["word", "figures", "sign"]
theorem sc_read_number : FnScope N_read_number ["word"] (defScope s_read_number) := ⟨rfl, rfl, rfl, by decide +kernel, rfl, by decide +kernel, by decide +kernel⟩
theorem ok_read_number {f : Addr} {fd : FuncData} (F : Fun K "read_number" "read_number" s_read_number f fd) (T : Tx K mg)  : FnOk P w K mg base (L2.CX P w) 1 f fd ["word"] (spF mg 1 m_read_number) :=
  ok_of F sc_read_number fun cdv A outer s H E (hr : Room 0 _) tk hp =>
    (jss_cons (js_ice 0 (js_set 1 sc_read_number.nd (je_var 0)))
    (jss_cons (js_if (jt_cmp (oj_eq (u64 hr)) (je_slice (je_var 0) jo_none (jo_some je_int)) je_str)
    (jss_cons (js_set 1 sc_read_number.nd (je_slice (je_var 0) (jo_some je_int) jo_none))
    (jss_ice 1 jss_nil))
    jss_nil)
    (jss_cons (js_if (jt_w (jw_or (jt_not (jt_chain oj_le oj_le je_int (je_callB cj_len (ja_cons (je_var 1) ja_nil) T.b_len boot_len) (je_gintE T.g_LONGEST))) (jw_or1 (jt_w (jw_and (jt_cmp (oj_eq (u64 hr)) (je_sub (u1 hr) (je_var 1) je_int) je_str) (jw_and1 (jt_cmp (oj_ne (u64 hr)) (je_var 0) je_str)))))))
    (jss_one (js_raise rfl tk T.e_NoText))
    jss_nil)
    (jss_cons (js_ice 1 (js_for hp rfl (ji_items (je_var 1)) (jg_name 2 sc_read_number.nd)
    (jss_one (js_if (jt_notIn (u65 hr) (je_var 2) (je_gstrE T.g_FIGURES))
    (jss_one (js_raise rfl tk T.e_NoText))
    jss_nil))))
    (jss_cons (js_if (jt_cmp (oj_ne (u64 hr)) (je_var 1) (je_var 0))
    (jss_one (js_ret (je_neg (je_callTy cj_int (ja_cons (je_var 1) ja_nil) T.b_int boot_int))))
    jss_nil)
    (jss_one (js_ret (je_callTy cj_int (ja_cons (je_var 1) ja_nil) T.b_int boot_int))))))))
abbrev N_in_order : List Str := ["rows", "told", "row"]
theorem sc_in_order : FnScope N_in_order ["rows"] (defScope s_in_order) := ⟨rfl, rfl, rfl, by decide +kernel, rfl, by decide +kernel, by decide +kernel⟩
theorem ok_in_order {f : Addr} {fd : FuncData} (F : Fun K "in_order" "in_order" s_in_order f fd) (T : Tx K mg)  : FnOk P w K mg base (L2.CX P w) 1 f fd ["rows"] (spF mg 1 m_in_order) :=
  ok_of F sc_in_order fun cdv A outer s H E (hr : Room 0 _) tk hp =>
    (jss_cons (js_set 1 sc_in_order.nd (je_list ja_nil))
    (jss_cons (js_for hp rfl (ji_items (je_callB (cj_sorted (u62 hr)) (ja_cons (je_var 0) ja_nil) T.b_sorted boot_sorted)) (jg_name 2 sc_in_order.nd)
    (jss_one (js_if (jt_w (jw_or (jt_cmp (oj_eq (u64 hr)) (je_var 1) (je_list ja_nil)) (jw_or1 (jt_cmp (oj_ne (u64 hr)) (je_sub (u1 hr) (je_var 1) (je_bin oj_sub (je_callB cj_len (ja_cons (je_var 1) ja_nil) T.b_len boot_len) je_int)) (je_var 2)))))
    (jss_one (js_ice 2 (js_append 1 (je_var 2))))
    jss_nil)))
    (jss_one (js_retV 1))))
abbrev N_read_rows : List Str := ["text", "rows", "part", "row", "word"]
theorem sc_read_rows : FnScope N_read_rows ["text"] (defScope s_read_rows) := ⟨rfl, rfl, rfl, by decide +kernel, rfl, by decide +kernel, by decide +kernel⟩
theorem ok_read_rows {f : Addr} {fd : FuncData} (F : Fun K "read_rows" "read_rows" s_read_rows f fd) (T : Tx K mg) (C_read_number : Cal P w K mg base 1 "read_number" 1 m_read_number) (C_in_order : Cal P w K mg base 1 "in_order" 1 m_in_order) : FnOk P w K mg base (L2.CX P w) 2 f fd ["text"] (spF mg 1 m_read_rows) :=
  ok_of F sc_read_rows fun cdv A outer s H E (hr : Room 1 _) tk hp =>
    (jss_cons (js_if (jt_not (jt_val (je_isa (T := "str") (je_var 0) T.b_isinstance T.b_str (by decide) boot_str)))
    (jss_one (js_raise rfl tk T.e_NoText))
    jss_nil)
    (jss_cons (js_if (jt_cmp (oj_eq (u64 hr)) (je_var 0) je_str)
    (jss_one (js_ret (je_list ja_nil)))
    jss_nil)
    (jss_cons (js_set 1 sc_read_rows.nd (je_list ja_nil))
    (jss_cons (js_for hp rfl (ji_items (je_meth PySem.F.plainAttrs_str PySem.F.slot_str_split PySem.F.type_str_split mj_split okStr_ty (je_var 0) (ja_cons je_str ja_nil))) (jg_name 2 sc_read_rows.nd)
    (jss_one (js_append 1 (je_frz (je_callTy (cj_tup rfl) (ja_cons (je_lcX (own := [((Str.ofString "word"), 4)]) rfl sc_read_rows.nd tk rfl rfl (jc_items (je_meth PySem.F.plainAttrs_str PySem.F.slot_str_split PySem.F.type_str_split mj_split okStr_ty (je_var 2) (ja_cons je_str ja_nil))) (blkOk_by (by rfl)) (fun _ _ _ _ _ _ => (jg_name 4 sc_read_rows.nd)) (fun _ _ _ _ _ _ U tkx => jts_nil) (fun _ _ _ _ _ _ U tkx => (je_frz (je_cal tkx C_read_number hr (ja_cons (je_var 4) ja_nil)))) tg_name) ja_nil) T.b_tuple boot_tuple)))))
    (jss_cons (js_ice 1 (js_for hp rfl (ji_items (je_var 1)) (jg_name 3 sc_read_rows.nd)
    (jss_one (js_if (jt_w (jw_or (jt_cmp oj_gt (je_callB cj_len (ja_cons (je_var 3) ja_nil) T.b_len boot_len) (je_gintE T.g_LETTERS)) (jw_or1 (jt_cmp (oj_ne (u64 hr)) (je_callB cj_len (ja_cons (je_var 3) ja_nil) T.b_len boot_len) (je_callB cj_len (ja_cons (je_sub (u1 hr) (je_var 1) je_int) ja_nil) T.b_len boot_len)))))
    (jss_one (js_raise rfl tk T.e_NoText))
    jss_nil))))
    (jss_cons (js_if (jt_cmp oj_gt (je_callB cj_len (ja_cons (je_var 1) ja_nil) T.b_len boot_len) (je_gintE T.g_ROWS))
    (jss_one (js_raise rfl tk T.e_NoText))
    jss_nil)
    (jss_one (js_ret (je_cal tk C_in_order hr (ja_cons (je_var 1) ja_nil))))))))))
abbrev N__law_whole : List Str := ["_law_found"]
theorem sc__law_whole : FnScope N__law_whole ["_law_found"] (defScope s__law_whole) := ⟨rfl, rfl, rfl, by decide +kernel, rfl, by decide +kernel, by decide +kernel⟩
theorem ok__law_whole {f : Addr} {fd : FuncData} (F : Fun K "_law_whole" "_law_whole" s__law_whole f fd) (T : Tx K mg)  : FnOk P w K mg base (L2.CX P w) 1 f fd ["_law_found"] (spF mg 1 m__law_whole) :=
  ok_of F sc__law_whole fun cdv A outer s H E (hr : Room 0 _) tk hp =>
    (jss_one (js_ret (je_and (je_isa (T := "int") (je_var 0) T.b_isinstance T.b_int (by decide) boot_int) (je_one (je_not (je_isa (T := "bool") (je_var 0) T.b_isinstance T.b_bool (by decide) boot_bool))))))
abbrev N__law_right : List Str := ["_law_text_here", "_law_due", "_law_error", "_law_found", "e", "_law_row", "_law_cell"]
theorem sc__law_right : FnScope N__law_right ["_law_text_here"] (defScope s__law_right) := ⟨rfl, rfl, rfl, by decide +kernel, rfl, by decide +kernel, by decide +kernel⟩
theorem ok__law_right {f : Addr} {fd : FuncData} (F : Fun K "_law_right" "_law_right" s__law_right f fd) (T : Tx K mg) (C__law_told : Cal P w K mg base 2 "_law_told" 1 m__law_told) (C_read_rows : Cal P w K mg base 2 "read_rows" 1 m_read_rows) (C__law_whole : Cal P w K mg base 1 "_law_whole" 1 m__law_whole) : FnOk P w K mg base (L2.CX P w) 3 f fd ["_law_text_here"] (spF mg 1 m__law_right) :=
  ok_of F sc__law_right fun cdv A outer s H E (hr : Room 2 _) tk hp =>
    (jss_cons (js_set 1 sc__law_right.nd (je_cal tk C__law_told hr (ja_cons (je_var 0) ja_nil)))
    (jss_cons (js_ice 1 (js_set 2 sc__law_right.nd je_non))
    (jss_cons (js_set 3 sc__law_right.nd je_non)
    (jss_cons (js_tryA 3 4 2 ["NoText"] rfl rfl rfl sc__law_right.nd T.e_JoinError T.u_JoinError fun W pn xe tk => (je_frz (je_cal tk C_read_rows hr (ja_cons (je_var 0) ja_nil))))
    (jss_cons (js_if (jt_isN (je_var 1))
    (jss_cons (js_if (jt_val (je_isET [("NoText", false)] (je_var 2) T.ek T.h0 (nj_cons (nj_cons (nj_cons (nj_cons nj_nil)))) T.j0 T.b_isinstance (hsz := by rw [sizeLine_eq]; decide)))
    (jss_one (js_ret je_bl))
    jss_nil)
    (jss_one (js_ret (je_and (je_isE [("NoText", true)] (je_var 2) T.ek T.e_NoText T.i_NoText T.b_isinstance) (je_one (je_isV ["NoText"] (je_var 2) T.ek T.i_V T.b_isinstance T.b_ValueError))))))
    jss_nil)
    (jss_cons (js_if (jt_w (jw_or (jt_notN (je_var 2)) (jw_or (jt_not (jt_val (je_isa (T := "list") (je_var 3) T.b_isinstance T.b_list (by decide) boot_list))) (jw_or1 (jt_cmp (oj_ne (u64 hr)) (je_var 3) (je_var 1))))))
    (jss_one (js_ret je_bl))
    jss_nil)
    (jss_cons (js_ice 3 (js_for hp rfl (ji_items (je_var 3)) (jg_name 5 sc__law_right.nd)
    (jss_one (js_if (jt_w (jw_or (jt_not (jt_val (je_isa (T := "tuple") (je_var 5) T.b_isinstance T.b_tuple (by decide) boot_tuple))) (jw_or1 (jt_cmp (oj_ne (u64 hr)) (je_lc (own := [((Str.ofString "_law_cell"), 6)]) rfl sc__law_right.nd (jc_items (je_var 5)) (blkOk_by (by rfl)) (fun _ _ _ _ _ => (jg_name 6 sc__law_right.nd)) (fun _ _ _ _ _ => (jts_one (jt_not (jt_val (je_cal takes0 C__law_whole hr (ja_cons (je_var 6) ja_nil)))))) (fun _ _ _ _ _ => (je_var 6)) tg_name) (je_list ja_nil)))))
    (jss_one (js_ret je_bl))
    jss_nil))))
    (jss_one (js_ret je_bl)))))))))
abbrev N__law_odd : List Str := ["_law_cell", "_law_some"]
theorem sc__law_odd : FnScope N__law_odd ["_law_cell"] (defScope s__law_odd) := ⟨rfl, rfl, rfl, by decide +kernel, rfl, by decide +kernel, by decide +kernel⟩
theorem ok__law_odd {f : Addr} {fd : FuncData} (F : Fun K "_law_odd" "_law_odd" s__law_odd f fd) (T : Tx K mg) (C__law_mix : Cal P w K mg base 1 "_law_mix" 2 m__law_mix) : FnOk P w K mg base (L2.CX P w) 2 f fd ["_law_cell"] (spF mg 1 m__law_odd) :=
  ok_of F sc__law_odd fun cdv A outer s H E (hr : Room 1 _) tk hp =>
    (jss_cons (js_set 1 sc__law_odd.nd (je_list (ja_cons je_str (ja_cons je_str (ja_cons je_str (ja_cons je_str (ja_cons je_str (ja_cons je_str (ja_cons je_str (ja_cons je_str (ja_cons je_str (ja_cons je_str (ja_cons je_str (ja_cons je_str (ja_cons je_str (ja_cons je_str (ja_cons je_str ja_nil)))))))))))))))))
    (jss_cons (js_ice 1 (js_set 1 sc__law_odd.nd (je_bin oj_add (je_var 1) (je_list (ja_cons je_str (ja_cons je_str (ja_cons je_str (ja_cons je_str (ja_cons je_str (ja_cons je_str (ja_cons je_str (ja_cons (je_frz (je_bin oj_repS je_str je_int)) (ja_cons je_str (ja_cons je_non (ja_cons je_int (ja_cons (je_frz (je_list (ja_cons (je_frz (je_tup (ja_cons je_int ja_nil))) ja_nil))) ja_nil))))))))))))))))
    (jss_one (js_ice 1 (js_ret (je_sub (u1 hr) (je_var 1) (je_bin oj_mod (je_cal tk C__law_mix hr (ja_cons (je_var 0) (ja_cons je_int ja_nil))) je_int)))))))
abbrev N__law_spoiled : List Str := ["_law_text_here", "_law_cell", "_law_signs", "_law_way", "_law_at", "_law_sign"]
theorem sc__law_spoiled : FnScope N__law_spoiled ["_law_text_here", "_law_cell"] (defScope s__law_spoiled) := ⟨rfl, rfl, rfl, by decide +kernel, rfl, by decide +kernel, by decide +kernel⟩
theorem ok__law_spoiled {f : Addr} {fd : FuncData} (F : Fun K "_law_spoiled" "_law_spoiled" s__law_spoiled f fd) (T : Tx K mg) (C__law_mix : Cal P w K mg base 1 "_law_mix" 2 m__law_mix) (C__law_odd : Cal P w K mg base 2 "_law_odd" 1 m__law_odd) : FnOk P w K mg base (L2.CX P w) 3 f fd ["_law_text_here", "_law_cell"] (spF mg 2 m__law_spoiled) :=
  ok_of F sc__law_spoiled fun cdv A outer s H E (hr : Room 2 _) tk hp =>
    (jss_cons (js_set 2 sc__law_spoiled.nd je_str)
    (jss_cons (js_set 3 sc__law_spoiled.nd (je_bin oj_mod (je_cal tk C__law_mix hr (ja_cons (je_var 1) (ja_cons je_int ja_nil))) je_int))
    (jss_cons (js_set 4 sc__law_spoiled.nd (je_bin oj_mod (je_cal tk C__law_mix hr (ja_cons (je_var 1) (ja_cons je_int ja_nil))) (je_bin oj_add (je_callB cj_len (ja_cons (je_var 0) ja_nil) T.b_len boot_len) je_int)))
    (jss_cons (js_set 5 sc__law_spoiled.nd (je_sub (u1 hr) (je_var 2) (je_bin oj_mod (je_cal tk C__law_mix hr (ja_cons (je_var 1) (ja_cons je_int ja_nil))) (je_callB cj_len (ja_cons (je_var 2) ja_nil) T.b_len boot_len))))
    (jss_cons (js_if (jt_cmp (oj_eq (u64 hr)) (je_var 3) je_int)
    (jss_one (js_ret (je_bin oj_add (je_bin oj_add (je_slice (je_var 0) jo_none (jo_some (je_var 4))) (je_var 5)) (je_slice (je_var 0) (jo_some (je_var 4)) jo_none))))
    jss_nil)
    (jss_cons (js_if (jt_cmp (oj_eq (u64 hr)) (je_var 3) je_int)
    (jss_one (js_ret (je_bin oj_add (je_slice (je_var 0) jo_none (jo_some (je_var 4))) (je_slice (je_var 0) (jo_some (je_bin oj_add (je_var 4) je_int)) jo_none))))
    jss_nil)
    (jss_cons (js_if (jt_cmp oj_lt (je_var 3) je_int)
    (jss_one (js_ret (je_bin oj_add (je_bin oj_add (je_slice (je_var 0) jo_none (jo_some (je_var 4))) (je_var 5)) (je_slice (je_var 0) (jo_some (je_bin oj_add (je_var 4) je_int)) jo_none))))
    jss_nil)
    (jss_cons (js_if (jt_cmp (oj_eq (u64 hr)) (je_var 3) je_int)
    (jss_one (js_ret (je_cal tk C__law_odd hr (ja_cons (je_var 1) ja_nil))))
    jss_nil)
    (jss_one (js_retV 0))))))))))
abbrev N_law : List Str := ["_law_script", "_law_cells", "_law_at", "_law_rows_here", "_law_text_here", "_law_due", "_law_kept", "_law_found"]
theorem sc_law : FnScope N_law ["_law_script"] (defScope s_law) := ⟨rfl, rfl, rfl, by decide +kernel, rfl, by decide +kernel, by decide +kernel⟩
theorem ok_law {f : Addr} {fd : FuncData} (F : Fun K "law" "law" s_law f fd) (T : Tx K mg) (C__law_rows : Cal P w K mg base 3 "_law_rows" 2 m__law_rows) (C__law_text : Cal P w K mg base 1 "_law_text" 1 m__law_text) (C__law_told : Cal P w K mg base 2 "_law_told" 1 m__law_told) (C_show_rows : Cal P w K mg base 1 "show_rows" 1 m_show_rows) (C__law_right : Cal P w K mg base 3 "_law_right" 1 m__law_right) (C__law_spoiled : Cal P w K mg base 3 "_law_spoiled" 2 m__law_spoiled) (hlaw : ∀ ns : List Int, ns.length ≤ 63 → ∃ env, D_law (law0 8 (ns.take 63 ++ [0])) = .ok (.rt (.fz (.bl true)) env)) : FnOk P w K mg base (L2.CX P w) 4 f fd ["_law_script"] (spLaw K) := by
  refine F.okX sc_law (fun vs H Q E h => ?_) (fun cdv A outer s H vs Q E (hr : Room 3 _) h => ?_)
  · obtain ⟨a, ns, rfl, _⟩ := h
    rfl
  · obtain ⟨a, ns, rfl, hS, hl, hQ⟩ := h
    have tk := takes_of (X := cxOf (L2.CX P w) P w K mg base N_law "law" (defScope s_law) f cdv A outer s H E) rfl rfl rfl rfl
    have hp := passes_of (X := cxOf (L2.CX P w) P w K mg base N_law "law" (defScope s_law) f cdv A outer s H E) rfl
    have hb : JSs (cxOf (L2.CX P w) P w K mg base N_law "law" (defScope s_law) f cdv A outer s H E) (fun cls d _ H => E cls d H) ((defBody s_law).drop 1) D_law :=
    (jss_cons (js_ice 1 (js_for hp rfl (ji_range (je_callB cj_len (ja_cons (je_var 1) ja_nil) T.b_len boot_len) T.b_range) (jg_name 2 sc_law.nd)
    (jss_cons (js_set 3 sc_law.nd (je_cal tk C__law_rows hr (ja_cons (je_var 1) (ja_cons (je_var 2) ja_nil))))
    (jss_cons (js_ice 3 (js_set 4 sc_law.nd (je_cal tk C__law_text hr (ja_cons (je_var 3) ja_nil))))
    (jss_cons (js_ice 4 (js_set 5 sc_law.nd (je_cal tk C__law_told hr (ja_cons (je_var 4) ja_nil))))
    (jss_cons (js_ice 5 (js_if (jt_notN (je_var 5))
    (jss_cons (js_set 6 sc_law.nd (je_callTy (cj_list rfl) (ja_cons (je_var 5) ja_nil) T.b_list boot_list))
    (jss_cons (js_ice 6 (js_set 7 sc_law.nd (je_cal tk C_show_rows hr (ja_cons (je_var 5) ja_nil))))
    (jss_one (js_ice 7 (js_if (jt_w (jw_or (jt_not (jt_val (je_isa (T := "str") (je_var 7) T.b_isinstance T.b_str (by decide) boot_str))) (jw_or (jt_cmp (oj_ne (u64 hr)) (je_var 7) (je_cal tk C__law_text hr (ja_cons (je_var 6) ja_nil))) (jw_or (jt_cmp (oj_ne (u64 hr)) (je_var 5) (je_var 6)) (jw_or1 (jt_not (jt_val (je_cal tk C__law_right hr (ja_cons (je_var 7) ja_nil)))))))))
    (jss_one (js_ret je_bl))
    jss_nil)))))
    jss_nil))
    (jss_one (js_if (jt_w (jw_or (jt_not (jt_val (je_cal tk C__law_right hr (ja_cons (je_var 4) ja_nil)))) (jw_or1 (jt_not (jt_val (je_cal tk C__law_right hr (ja_cons (je_frz (je_cal tk C__law_spoiled hr (ja_cons (je_var 4) (ja_cons (je_frz (je_sub (u1 hr) (je_var 1) (je_var 2))) ja_nil)))) ja_nil)))))))
    (jss_one (js_ret je_bl))
    jss_nil))))))))
    (jss_one (js_ret je_bl)))
    exact law_body (N := N_law) rfl (by decide) hb (pe_op op_cat (pe_slice sl_list (pe_var (i := 0) rfl (by first | exact Or.inl rfl | exact Or.inr (Or.inl rfl))) po_none (po_some pe_int)) (pe_lst (pa_cons pe_int pa_nil))) (ps_set (i := 1) sc_law.nd rfl (by first | exact Or.inl rfl | exact Or.inr rfl) (pe_op op_cat (pe_slice sl_list (pe_var (i := 0) rfl (by first | exact Or.inl rfl | exact Or.inr (Or.inl rfl))) po_none (po_some pe_int)) (pe_lst (pa_cons pe_int pa_nil)))) (hlaw ns hl) hQ (fun Q h => law_sliceP hS Q h hl)
end
noncomputable def lawAns (ns : List Int) : Ans SO := D_law (law0 8 (ns.take 63 ++ [0]))
theorem all_mk {l : PySem.W.OpenLaw} {w : World} {K : PySem.W.Frag} {h : Heap} {mg : Str → Option Value} {fa : Addr} (X : K.In h) (G : h.Ns mainGlobals mg) (hfa : mg "law" = some (.ref fa)) (hlaw : ∀ ns : List Int, ns.length ≤ 63 → ∃ env, lawAns ns = .ok (.rt (.fz (.bl true)) env))
    {f1 : Addr} {od1 an1 : Option Addr} {sl1 : Array (Option Value)} {oc1 kV1 dc1 pm1 cd1 ct1 : Value} (a1 : PySem.W.nsIn K mainGlobals "_law_mix" = some (some (.ref f1))) (l1 : K.lookup f1 = some ⟨oc1, od1, .func (PySem.W.fnOf "_law_mix" "_law_mix" (defArgs s__law_mix) (defBody s__law_mix) (defScope s__law_mix) .none kV1 dc1 pm1 an1 cd1 ct1), sl1⟩) (c1 : PySem.W.codeIn K cd1 "_law_mix" = true) (k1 : PySem.W.keepIn K (.ref f1) = true)
    {f2 : Addr} {od2 an2 : Option Addr} {sl2 : Array (Option Value)} {oc2 kV2 dc2 pm2 cd2 ct2 : Value} (a2 : PySem.W.nsIn K mainGlobals "_law_number" = some (some (.ref f2))) (l2 : K.lookup f2 = some ⟨oc2, od2, .func (PySem.W.fnOf "_law_number" "_law_number" (defArgs s__law_number) (defBody s__law_number) (defScope s__law_number) .none kV2 dc2 pm2 an2 cd2 ct2), sl2⟩) (c2 : PySem.W.codeIn K cd2 "_law_number" = true) (k2 : PySem.W.keepIn K (.ref f2) = true)
    {f3 : Addr} {od3 an3 : Option Addr} {sl3 : Array (Option Value)} {oc3 kV3 dc3 pm3 cd3 ct3 : Value} (a3 : PySem.W.nsIn K mainGlobals "_law_rows" = some (some (.ref f3))) (l3 : K.lookup f3 = some ⟨oc3, od3, .func (PySem.W.fnOf "_law_rows" "_law_rows" (defArgs s__law_rows) (defBody s__law_rows) (defScope s__law_rows) .none kV3 dc3 pm3 an3 cd3 ct3), sl3⟩) (c3 : PySem.W.codeIn K cd3 "_law_rows" = true) (k3 : PySem.W.keepIn K (.ref f3) = true)
    {f4 : Addr} {od4 an4 : Option Addr} {sl4 : Array (Option Value)} {oc4 kV4 dc4 pm4 cd4 ct4 : Value} (a4 : PySem.W.nsIn K mainGlobals "_law_text" = some (some (.ref f4))) (l4 : K.lookup f4 = some ⟨oc4, od4, .func (PySem.W.fnOf "_law_text" "_law_text" (defArgs s__law_text) (defBody s__law_text) (defScope s__law_text) .none kV4 dc4 pm4 an4 cd4 ct4), sl4⟩) (c4 : PySem.W.codeIn K cd4 "_law_text" = true) (k4 : PySem.W.keepIn K (.ref f4) = true)
    {f5 : Addr} {od5 an5 : Option Addr} {sl5 : Array (Option Value)} {oc5 kV5 dc5 pm5 cd5 ct5 : Value} (a5 : PySem.W.nsIn K mainGlobals "_law_number_told" = some (some (.ref f5))) (l5 : K.lookup f5 = some ⟨oc5, od5, .func (PySem.W.fnOf "_law_number_told" "_law_number_told" (defArgs s__law_number_told) (defBody s__law_number_told) (defScope s__law_number_told) .none kV5 dc5 pm5 an5 cd5 ct5), sl5⟩) (c5 : PySem.W.codeIn K cd5 "_law_number_told" = true) (k5 : PySem.W.keepIn K (.ref f5) = true)
    {f6 : Addr} {od6 an6 : Option Addr} {sl6 : Array (Option Value)} {oc6 kV6 dc6 pm6 cd6 ct6 : Value} (a6 : PySem.W.nsIn K mainGlobals "_law_told" = some (some (.ref f6))) (l6 : K.lookup f6 = some ⟨oc6, od6, .func (PySem.W.fnOf "_law_told" "_law_told" (defArgs s__law_told) (defBody s__law_told) (defScope s__law_told) .none kV6 dc6 pm6 an6 cd6 ct6), sl6⟩) (c6 : PySem.W.codeIn K cd6 "_law_told" = true) (k6 : PySem.W.keepIn K (.ref f6) = true)
    {f7 : Addr} {od7 an7 : Option Addr} {sl7 : Array (Option Value)} {oc7 kV7 dc7 pm7 cd7 ct7 : Value} (a7 : PySem.W.nsIn K mainGlobals "show_rows" = some (some (.ref f7))) (l7 : K.lookup f7 = some ⟨oc7, od7, .func (PySem.W.fnOf "show_rows" "show_rows" (defArgs s_show_rows) (defBody s_show_rows) (defScope s_show_rows) .none kV7 dc7 pm7 an7 cd7 ct7), sl7⟩) (c7 : PySem.W.codeIn K cd7 "show_rows" = true) (k7 : PySem.W.keepIn K (.ref f7) = true)
    {f8 : Addr} {od8 an8 : Option Addr} {sl8 : Array (Option Value)} {oc8 kV8 dc8 pm8 cd8 ct8 : Value} (a8 : PySem.W.nsIn K mainGlobals "read_number" = some (some (.ref f8))) (l8 : K.lookup f8 = some ⟨oc8, od8, .func (PySem.W.fnOf "read_number" "read_number" (defArgs s_read_number) (defBody s_read_number) (defScope s_read_number) .none kV8 dc8 pm8 an8 cd8 ct8), sl8⟩) (c8 : PySem.W.codeIn K cd8 "read_number" = true) (k8 : PySem.W.keepIn K (.ref f8) = true)
    {f9 : Addr} {od9 an9 : Option Addr} {sl9 : Array (Option Value)} {oc9 kV9 dc9 pm9 cd9 ct9 : Value} (a9 : PySem.W.nsIn K mainGlobals "in_order" = some (some (.ref f9))) (l9 : K.lookup f9 = some ⟨oc9, od9, .func (PySem.W.fnOf "in_order" "in_order" (defArgs s_in_order) (defBody s_in_order) (defScope s_in_order) .none kV9 dc9 pm9 an9 cd9 ct9), sl9⟩) (c9 : PySem.W.codeIn K cd9 "in_order" = true) (k9 : PySem.W.keepIn K (.ref f9) = true)
    {f10 : Addr} {od10 an10 : Option Addr} {sl10 : Array (Option Value)} {oc10 kV10 dc10 pm10 cd10 ct10 : Value} (a10 : PySem.W.nsIn K mainGlobals "read_rows" = some (some (.ref f10))) (l10 : K.lookup f10 = some ⟨oc10, od10, .func (PySem.W.fnOf "read_rows" "read_rows" (defArgs s_read_rows) (defBody s_read_rows) (defScope s_read_rows) .none kV10 dc10 pm10 an10 cd10 ct10), sl10⟩) (c10 : PySem.W.codeIn K cd10 "read_rows" = true) (k10 : PySem.W.keepIn K (.ref f10) = true)
    {f11 : Addr} {od11 an11 : Option Addr} {sl11 : Array (Option Value)} {oc11 kV11 dc11 pm11 cd11 ct11 : Value} (a11 : PySem.W.nsIn K mainGlobals "_law_whole" = some (some (.ref f11))) (l11 : K.lookup f11 = some ⟨oc11, od11, .func (PySem.W.fnOf "_law_whole" "_law_whole" (defArgs s__law_whole) (defBody s__law_whole) (defScope s__law_whole) .none kV11 dc11 pm11 an11 cd11 ct11), sl11⟩) (c11 : PySem.W.codeIn K cd11 "_law_whole" = true) (k11 : PySem.W.keepIn K (.ref f11) = true)
    {f12 : Addr} {od12 an12 : Option Addr} {sl12 : Array (Option Value)} {oc12 kV12 dc12 pm12 cd12 ct12 : Value} (a12 : PySem.W.nsIn K mainGlobals "_law_right" = some (some (.ref f12))) (l12 : K.lookup f12 = some ⟨oc12, od12, .func (PySem.W.fnOf "_law_right" "_law_right" (defArgs s__law_right) (defBody s__law_right) (defScope s__law_right) .none kV12 dc12 pm12 an12 cd12 ct12), sl12⟩) (c12 : PySem.W.codeIn K cd12 "_law_right" = true) (k12 : PySem.W.keepIn K (.ref f12) = true)
    {f13 : Addr} {od13 an13 : Option Addr} {sl13 : Array (Option Value)} {oc13 kV13 dc13 pm13 cd13 ct13 : Value} (a13 : PySem.W.nsIn K mainGlobals "_law_odd" = some (some (.ref f13))) (l13 : K.lookup f13 = some ⟨oc13, od13, .func (PySem.W.fnOf "_law_odd" "_law_odd" (defArgs s__law_odd) (defBody s__law_odd) (defScope s__law_odd) .none kV13 dc13 pm13 an13 cd13 ct13), sl13⟩) (c13 : PySem.W.codeIn K cd13 "_law_odd" = true) (k13 : PySem.W.keepIn K (.ref f13) = true)
    {f14 : Addr} {od14 an14 : Option Addr} {sl14 : Array (Option Value)} {oc14 kV14 dc14 pm14 cd14 ct14 : Value} (a14 : PySem.W.nsIn K mainGlobals "_law_spoiled" = some (some (.ref f14))) (l14 : K.lookup f14 = some ⟨oc14, od14, .func (PySem.W.fnOf "_law_spoiled" "_law_spoiled" (defArgs s__law_spoiled) (defBody s__law_spoiled) (defScope s__law_spoiled) .none kV14 dc14 pm14 an14 cd14 ct14), sl14⟩) (c14 : PySem.W.codeIn K cd14 "_law_spoiled" = true) (k14 : PySem.W.keepIn K (.ref f14) = true)
    {f15 : Addr} {od15 an15 : Option Addr} {sl15 : Array (Option Value)} {oc15 kV15 dc15 pm15 cd15 ct15 : Value} (a15 : PySem.W.nsIn K mainGlobals "law" = some (some (.ref f15))) (l15 : K.lookup f15 = some ⟨oc15, od15, .func (PySem.W.fnOf "law" "law" (defArgs s_law) (defBody s_law) (defScope s_law) .none kV15 dc15 pm15 an15 cd15 ct15), sl15⟩) (c15 : PySem.W.codeIn K cd15 "law" = true) (k15 : PySem.W.keepIn K (.ref f15) = true)
    {C_JoinError : Addr} (xa_JoinError : PySem.W.nsIn K mainGlobals "JoinError" = some (some (.ref C_JoinError)))
    (xk_JoinError : PySem.W.keepIn K (.ref C_JoinError) = true)
    (xe_JoinError : PySem.W.excIn K C_JoinError veMro "ValueError.__new__" = true)
    (xb_JoinError : PySem.W.subIn K (.ref C_JoinError) (.type "BaseException") = some true)
    (xv_JoinError : PySem.W.subIn K (.ref C_JoinError) (.type "ValueError") = some true)
    (xs_JoinError : PySem.W.subIn K (.ref C_JoinError) (.ref C_JoinError) = some true)
    (xn_JoinError : PySem.W.subIn K (.type "NoneType") (.ref C_JoinError) = some false)
    (xt_JoinError : PySem.W.typeIn K (.ref C_JoinError) = some (.type "type"))
    (xd_JoinError : PySem.W.hasDictIn K C_JoinError = true)
    (xg_JoinError : PySem.W.findIn K (.ref C_JoinError) "__getattribute__" = some (some (.builtin "BaseException.__getattribute__")))
    (xh_JoinError : PySem.W.findIn K (.ref C_JoinError) "__getattr__" = some none)
    (xc_JoinError : PySem.W.findIn K (.ref C_JoinError) "__class__" = some (some (.builtin "object.__class__")))
    (xm_JoinError : PySem.W.mroIn K C_JoinError (.type "object") = some true)
    {C_NoTable : Addr} (xa_NoTable : PySem.W.nsIn K mainGlobals "NoTable" = some (some (.ref C_NoTable)))
    (xk_NoTable : PySem.W.keepIn K (.ref C_NoTable) = true)
    (xe_NoTable : PySem.W.excIn K C_NoTable veMro "ValueError.__new__" = true)
    (xb_NoTable : PySem.W.subIn K (.ref C_NoTable) (.type "BaseException") = some true)
    (xv_NoTable : PySem.W.subIn K (.ref C_NoTable) (.type "ValueError") = some true)
    (xs_NoTable : PySem.W.subIn K (.ref C_NoTable) (.ref C_NoTable) = some true)
    (xn_NoTable : PySem.W.subIn K (.type "NoneType") (.ref C_NoTable) = some false)
    (xt_NoTable : PySem.W.typeIn K (.ref C_NoTable) = some (.type "type"))
    (xd_NoTable : PySem.W.hasDictIn K C_NoTable = true)
    (xg_NoTable : PySem.W.findIn K (.ref C_NoTable) "__getattribute__" = some (some (.builtin "BaseException.__getattribute__")))
    (xh_NoTable : PySem.W.findIn K (.ref C_NoTable) "__getattr__" = some none)
    (xc_NoTable : PySem.W.findIn K (.ref C_NoTable) "__class__" = some (some (.builtin "object.__class__")))
    (xm_NoTable : PySem.W.mroIn K C_NoTable (.type "object") = some true)
    {C_NoWidth : Addr} (xa_NoWidth : PySem.W.nsIn K mainGlobals "NoWidth" = some (some (.ref C_NoWidth)))
    (xk_NoWidth : PySem.W.keepIn K (.ref C_NoWidth) = true)
    (xe_NoWidth : PySem.W.excIn K C_NoWidth veMro "ValueError.__new__" = true)
    (xb_NoWidth : PySem.W.subIn K (.ref C_NoWidth) (.type "BaseException") = some true)
    (xv_NoWidth : PySem.W.subIn K (.ref C_NoWidth) (.type "ValueError") = some true)
    (xs_NoWidth : PySem.W.subIn K (.ref C_NoWidth) (.ref C_NoWidth) = some true)
    (xn_NoWidth : PySem.W.subIn K (.type "NoneType") (.ref C_NoWidth) = some false)
    (xt_NoWidth : PySem.W.typeIn K (.ref C_NoWidth) = some (.type "type"))
    (xd_NoWidth : PySem.W.hasDictIn K C_NoWidth = true)
    (xg_NoWidth : PySem.W.findIn K (.ref C_NoWidth) "__getattribute__" = some (some (.builtin "BaseException.__getattribute__")))
    (xh_NoWidth : PySem.W.findIn K (.ref C_NoWidth) "__getattr__" = some none)
    (xc_NoWidth : PySem.W.findIn K (.ref C_NoWidth) "__class__" = some (some (.builtin "object.__class__")))
    (xm_NoWidth : PySem.W.mroIn K C_NoWidth (.type "object") = some true)
    {C_NoAnswer : Addr} (xa_NoAnswer : PySem.W.nsIn K mainGlobals "NoAnswer" = some (some (.ref C_NoAnswer)))
    (xk_NoAnswer : PySem.W.keepIn K (.ref C_NoAnswer) = true)
    (xe_NoAnswer : PySem.W.excIn K C_NoAnswer veMro "ValueError.__new__" = true)
    (xb_NoAnswer : PySem.W.subIn K (.ref C_NoAnswer) (.type "BaseException") = some true)
    (xv_NoAnswer : PySem.W.subIn K (.ref C_NoAnswer) (.type "ValueError") = some true)
    (xs_NoAnswer : PySem.W.subIn K (.ref C_NoAnswer) (.ref C_NoAnswer) = some true)
    (xn_NoAnswer : PySem.W.subIn K (.type "NoneType") (.ref C_NoAnswer) = some false)
    (xt_NoAnswer : PySem.W.typeIn K (.ref C_NoAnswer) = some (.type "type"))
    (xd_NoAnswer : PySem.W.hasDictIn K C_NoAnswer = true)
    (xg_NoAnswer : PySem.W.findIn K (.ref C_NoAnswer) "__getattribute__" = some (some (.builtin "BaseException.__getattribute__")))
    (xh_NoAnswer : PySem.W.findIn K (.ref C_NoAnswer) "__getattr__" = some none)
    (xc_NoAnswer : PySem.W.findIn K (.ref C_NoAnswer) "__class__" = some (some (.builtin "object.__class__")))
    (xm_NoAnswer : PySem.W.mroIn K C_NoAnswer (.type "object") = some true)
    {C_NoText : Addr} (xa_NoText : PySem.W.nsIn K mainGlobals "NoText" = some (some (.ref C_NoText)))
    (xk_NoText : PySem.W.keepIn K (.ref C_NoText) = true)
    (xe_NoText : PySem.W.excIn K C_NoText veMro "ValueError.__new__" = true)
    (xb_NoText : PySem.W.subIn K (.ref C_NoText) (.type "BaseException") = some true)
    (xv_NoText : PySem.W.subIn K (.ref C_NoText) (.type "ValueError") = some true)
    (xs_NoText : PySem.W.subIn K (.ref C_NoText) (.ref C_NoText) = some true)
    (xn_NoText : PySem.W.subIn K (.type "NoneType") (.ref C_NoText) = some false)
    (xt_NoText : PySem.W.typeIn K (.ref C_NoText) = some (.type "type"))
    (xd_NoText : PySem.W.hasDictIn K C_NoText = true)
    (xg_NoText : PySem.W.findIn K (.ref C_NoText) "__getattribute__" = some (some (.builtin "BaseException.__getattribute__")))
    (xh_NoText : PySem.W.findIn K (.ref C_NoText) "__getattr__" = some none)
    (xc_NoText : PySem.W.findIn K (.ref C_NoText) "__class__" = some (some (.builtin "object.__class__")))
    (xm_NoText : PySem.W.mroIn K C_NoText (.type "object") = some true)
    {C_NoRow : Addr} (xa_NoRow : PySem.W.nsIn K mainGlobals "NoRow" = some (some (.ref C_NoRow)))
    (xk_NoRow : PySem.W.keepIn K (.ref C_NoRow) = true)
    (xe_NoRow : PySem.W.excIn K C_NoRow veMro "ValueError.__new__" = true)
    (xb_NoRow : PySem.W.subIn K (.ref C_NoRow) (.type "BaseException") = some true)
    (xv_NoRow : PySem.W.subIn K (.ref C_NoRow) (.type "ValueError") = some true)
    (xs_NoRow : PySem.W.subIn K (.ref C_NoRow) (.ref C_NoRow) = some true)
    (xn_NoRow : PySem.W.subIn K (.type "NoneType") (.ref C_NoRow) = some false)
    (xt_NoRow : PySem.W.typeIn K (.ref C_NoRow) = some (.type "type"))
    (xd_NoRow : PySem.W.hasDictIn K C_NoRow = true)
    (xg_NoRow : PySem.W.findIn K (.ref C_NoRow) "__getattribute__" = some (some (.builtin "BaseException.__getattribute__")))
    (xh_NoRow : PySem.W.findIn K (.ref C_NoRow) "__getattr__" = some none)
    (xc_NoRow : PySem.W.findIn K (.ref C_NoRow) "__class__" = some (some (.builtin "object.__class__")))
    (xm_NoRow : PySem.W.mroIn K C_NoRow (.type "object") = some true)
    (xp_NoText_NoTable : PySem.W.subIn K (.ref C_NoText) (.ref C_NoTable) = some false)
    (xp_NoText_NoWidth : PySem.W.subIn K (.ref C_NoText) (.ref C_NoWidth) = some false)
    (xp_NoText_NoAnswer : PySem.W.subIn K (.ref C_NoText) (.ref C_NoAnswer) = some false)
    (xp_NoText_NoRow : PySem.W.subIn K (.ref C_NoText) (.ref C_NoRow) = some false)
    (xp_NoText_NoText : PySem.W.subIn K (.ref C_NoText) (.ref C_NoText) = some true)
    (xp_NoText_JoinError : PySem.W.subIn K (.ref C_NoText) (.ref C_JoinError) = some true)
    (xo1 : PySem.W.specialIn K (.builtin "object.__class__") "__get__" = some (some (.builtin "getset_descriptor.__get__"))) (xo2 : PySem.W.takesIn K (.builtin "object.__class__") = some true)
    (z_len : PySem.W.nsIn K mainGlobals "len" = some none)
    (z_range : PySem.W.nsIn K mainGlobals "range" = some none)
    (z_list : PySem.W.nsIn K mainGlobals "list" = some none)
    (z_isinstance : PySem.W.nsIn K mainGlobals "isinstance" = some none)
    (z_str : PySem.W.nsIn K mainGlobals "str" = some none)
    (z_tuple : PySem.W.nsIn K mainGlobals "tuple" = some none)
    (z_sorted : PySem.W.nsIn K mainGlobals "sorted" = some none)
    (z_int : PySem.W.nsIn K mainGlobals "int" = some none)
    (z_ValueError : PySem.W.nsIn K mainGlobals "ValueError" = some none)
    (z_bool : PySem.W.nsIn K mainGlobals "bool" = some none)
    {t_FIGURES : Tok} (g_FIGURES : PySem.W.nsIn K mainGlobals "FIGURES" = some (some (.str (Str.ofString "0123456789") t_FIGURES)))
    {t_LETTERS : Tok} (g_LETTERS : PySem.W.nsIn K mainGlobals "LETTERS" = some (some (.int 6 t_LETTERS)))
    {t_ROWS : Tok} (g_ROWS : PySem.W.nsIn K mainGlobals "ROWS" = some (some (.int 60 t_ROWS)))
    {t_LONGEST : Tok} (g_LONGEST : PySem.W.nsIn K mainGlobals "LONGEST" = some (some (.int 60 t_LONGEST)))
    : ∃ fd : FuncData, (∀ (s : Shared) (v : Value), BindsTo s fd ⟨[v], []⟩ [("_law_script", v)]) ∧ ∀ base : Heap, K.In base → base.Ns mainGlobals mg → FnOk l.prog w K mg base (L2.CX l.prog w) 4 fa fd ["_law_script"] (spLaw K) := by
  have e := hfa.symm.trans (PySem.W.mg_of X G a15)
  cases e
  have e_JoinError : ErrC K mg "JoinError" := ⟨_, PySem.W.mg_of X G xa_JoinError, ⟨xk_JoinError, xe_JoinError, xb_JoinError, xv_JoinError, xs_JoinError, xn_JoinError, xt_JoinError, xd_JoinError, xg_JoinError, xh_JoinError, xc_JoinError, xm_JoinError⟩⟩
  have e_NoTable : ErrC K mg "NoTable" := ⟨_, PySem.W.mg_of X G xa_NoTable, ⟨xk_NoTable, xe_NoTable, xb_NoTable, xv_NoTable, xs_NoTable, xn_NoTable, xt_NoTable, xd_NoTable, xg_NoTable, xh_NoTable, xc_NoTable, xm_NoTable⟩⟩
  have e_NoWidth : ErrC K mg "NoWidth" := ⟨_, PySem.W.mg_of X G xa_NoWidth, ⟨xk_NoWidth, xe_NoWidth, xb_NoWidth, xv_NoWidth, xs_NoWidth, xn_NoWidth, xt_NoWidth, xd_NoWidth, xg_NoWidth, xh_NoWidth, xc_NoWidth, xm_NoWidth⟩⟩
  have e_NoAnswer : ErrC K mg "NoAnswer" := ⟨_, PySem.W.mg_of X G xa_NoAnswer, ⟨xk_NoAnswer, xe_NoAnswer, xb_NoAnswer, xv_NoAnswer, xs_NoAnswer, xn_NoAnswer, xt_NoAnswer, xd_NoAnswer, xg_NoAnswer, xh_NoAnswer, xc_NoAnswer, xm_NoAnswer⟩⟩
  have e_NoText : ErrC K mg "NoText" := ⟨_, PySem.W.mg_of X G xa_NoText, ⟨xk_NoText, xe_NoText, xb_NoText, xv_NoText, xs_NoText, xn_NoText, xt_NoText, xd_NoText, xg_NoText, xh_NoText, xc_NoText, xm_NoText⟩⟩
  have e_NoRow : ErrC K mg "NoRow" := ⟨_, PySem.W.mg_of X G xa_NoRow, ⟨xk_NoRow, xe_NoRow, xb_NoRow, xv_NoRow, xs_NoRow, xn_NoRow, xt_NoRow, xd_NoRow, xg_NoRow, xh_NoRow, xc_NoRow, xm_NoRow⟩⟩
  have T : Tx K mg := ⟨PySem.W.mg_none_of X G z_len, PySem.W.mg_none_of X G z_range, PySem.W.mg_none_of X G z_list, PySem.W.mg_none_of X G z_isinstance, PySem.W.mg_none_of X G z_str, PySem.W.mg_none_of X G z_tuple, PySem.W.mg_none_of X G z_sorted, PySem.W.mg_none_of X G z_int, PySem.W.mg_none_of X G z_ValueError, PySem.W.mg_none_of X G z_bool, e_JoinError, e_NoTable, e_NoWidth, e_NoAnswer, e_NoText, e_NoRow, ⟨xo1, xo2⟩, List.forall_mem_cons.mpr ⟨⟨e_NoText, ErrP.mk (PySem.W.mg_of X G xa_NoText) (PySem.W.mg_of X G xa_NoTable) xp_NoText_NoTable⟩, fun _ h => (nomatch h)⟩, List.forall_mem_cons.mpr ⟨⟨e_NoText, ErrP.mk (PySem.W.mg_of X G xa_NoText) (PySem.W.mg_of X G xa_NoWidth) xp_NoText_NoWidth⟩, fun _ h => (nomatch h)⟩, List.forall_mem_cons.mpr ⟨⟨e_NoText, ErrP.mk (PySem.W.mg_of X G xa_NoText) (PySem.W.mg_of X G xa_NoAnswer) xp_NoText_NoAnswer⟩, fun _ h => (nomatch h)⟩, List.forall_mem_cons.mpr ⟨⟨e_NoText, ErrP.mk (PySem.W.mg_of X G xa_NoText) (PySem.W.mg_of X G xa_NoRow) xp_NoText_NoRow⟩, fun _ h => (nomatch h)⟩, List.forall_mem_cons.mpr ⟨⟨e_NoText, ErrP.mk (PySem.W.mg_of X G xa_NoText) (PySem.W.mg_of X G xa_NoText) xp_NoText_NoText⟩, fun _ h => (nomatch h)⟩, List.forall_mem_cons.mpr ⟨e_NoTable, List.forall_mem_cons.mpr ⟨e_NoWidth, List.forall_mem_cons.mpr ⟨e_NoAnswer, List.forall_mem_cons.mpr ⟨e_NoRow, fun _ h => (nomatch h)⟩⟩⟩⟩, List.forall_mem_cons.mpr ⟨⟨e_NoText, [false, false, false, false], (.cons (ErrP.mk (PySem.W.mg_of X G xa_NoText) (PySem.W.mg_of X G xa_NoTable) xp_NoText_NoTable) (.cons (ErrP.mk (PySem.W.mg_of X G xa_NoText) (PySem.W.mg_of X G xa_NoWidth) xp_NoText_NoWidth) (.cons (ErrP.mk (PySem.W.mg_of X G xa_NoText) (PySem.W.mg_of X G xa_NoAnswer) xp_NoText_NoAnswer) (.cons (ErrP.mk (PySem.W.mg_of X G xa_NoText) (PySem.W.mg_of X G xa_NoRow) xp_NoText_NoRow) .nil)))), rfl⟩, fun _ h => (nomatch h)⟩, List.forall_mem_cons.mpr ⟨e_NoText, fun _ h => (nomatch h)⟩, List.forall_mem_cons.mpr ⟨ErrP.mk (PySem.W.mg_of X G xa_NoText) (PySem.W.mg_of X G xa_JoinError) xp_NoText_JoinError, fun _ h => (nomatch h)⟩, ⟨_, PySem.W.mg_of X G g_FIGURES⟩, ⟨_, PySem.W.mg_of X G g_LETTERS⟩, ⟨_, PySem.W.mg_of X G g_ROWS⟩, ⟨_, PySem.W.mg_of X G g_LONGEST⟩⟩
  refine ⟨PySem.W.fnOf "law" "law" (defArgs s_law) (defBody s_law) (defScope s_law) .none kV15 dc15 pm15 an15 cd15 ct15, fun s v => .of_eq rfl, fun base _ _ => ?_⟩
  have F1 := fun_mk (st := s__law_mix) l1 c1 k1
  have F2 := fun_mk (st := s__law_number) l2 c2 k2
  have F3 := fun_mk (st := s__law_rows) l3 c3 k3
  have F4 := fun_mk (st := s__law_text) l4 c4 k4
  have F5 := fun_mk (st := s__law_number_told) l5 c5 k5
  have F6 := fun_mk (st := s__law_told) l6 c6 k6
  have F7 := fun_mk (st := s_show_rows) l7 c7 k7
  have F8 := fun_mk (st := s_read_number) l8 c8 k8
  have F9 := fun_mk (st := s_in_order) l9 c9 k9
  have F10 := fun_mk (st := s_read_rows) l10 c10 k10
  have F11 := fun_mk (st := s__law_whole) l11 c11 k11
  have F12 := fun_mk (st := s__law_right) l12 c12 k12
  have F13 := fun_mk (st := s__law_odd) l13 c13 k13
  have F14 := fun_mk (st := s__law_spoiled) l14 c14 k14
  have F15 := fun_mk (st := s_law) l15 c15 k15
  have C__law_mix : Cal l.prog w K mg base 1 "_law_mix" 2 m__law_mix := ⟨_, _, ["_law_cell", "_law_j"], ok__law_mix F1 T , PySem.W.mg_of X G a1, k1, F1.binds (ps := ["_law_cell", "_law_j"]) fun _ _ _ _ _ _ us hl => match us, hl with | [_, _], _ => rfl⟩
  have C__law_number : Cal l.prog w K mg base 2 "_law_number" 2 m__law_number := ⟨_, _, ["_law_cell", "_law_j"], ok__law_number F2 T C__law_mix, PySem.W.mg_of X G a2, k2, F2.binds (ps := ["_law_cell", "_law_j"]) fun _ _ _ _ _ _ us hl => match us, hl with | [_, _], _ => rfl⟩
  have C__law_rows : Cal l.prog w K mg base 3 "_law_rows" 2 m__law_rows := ⟨_, _, ["_law_cells", "_law_at"], ok__law_rows F3 T C__law_mix C__law_number, PySem.W.mg_of X G a3, k3, F3.binds (ps := ["_law_cells", "_law_at"]) fun _ _ _ _ _ _ us hl => match us, hl with | [_, _], _ => rfl⟩
  have C__law_text : Cal l.prog w K mg base 1 "_law_text" 1 m__law_text := ⟨_, _, ["_law_rows_here"], ok__law_text F4 T , PySem.W.mg_of X G a4, k4, F4.binds (ps := ["_law_rows_here"]) fun _ _ _ _ _ _ us hl => match us, hl with | [_], _ => rfl⟩
  have C__law_number_told : Cal l.prog w K mg base 1 "_law_number_told" 1 m__law_number_told := ⟨_, _, ["_law_word"], ok__law_number_told F5 T , PySem.W.mg_of X G a5, k5, F5.binds (ps := ["_law_word"]) fun _ _ _ _ _ _ us hl => match us, hl with | [_], _ => rfl⟩
  have C__law_told : Cal l.prog w K mg base 2 "_law_told" 1 m__law_told := ⟨_, _, ["_law_text_here"], ok__law_told F6 T C__law_number_told, PySem.W.mg_of X G a6, k6, F6.binds (ps := ["_law_text_here"]) fun _ _ _ _ _ _ us hl => match us, hl with | [_], _ => rfl⟩
  have C_show_rows : Cal l.prog w K mg base 1 "show_rows" 1 m_show_rows := ⟨_, _, ["rows"], ok_show_rows F7 T , PySem.W.mg_of X G a7, k7, F7.binds (ps := ["rows"]) fun _ _ _ _ _ _ us hl => match us, hl with | [_], _ => rfl⟩
  have C_read_number : Cal l.prog w K mg base 1 "read_number" 1 m_read_number := ⟨_, _, ["word"], ok_read_number F8 T , PySem.W.mg_of X G a8, k8, F8.binds (ps := ["word"]) fun _ _ _ _ _ _ us hl => match us, hl with | [_], _ => rfl⟩
  have C_in_order : Cal l.prog w K mg base 1 "in_order" 1 m_in_order := ⟨_, _, ["rows"], ok_in_order F9 T , PySem.W.mg_of X G a9, k9, F9.binds (ps := ["rows"]) fun _ _ _ _ _ _ us hl => match us, hl with | [_], _ => rfl⟩
  have C_read_rows : Cal l.prog w K mg base 2 "read_rows" 1 m_read_rows := ⟨_, _, ["text"], ok_read_rows F10 T C_read_number C_in_order, PySem.W.mg_of X G a10, k10, F10.binds (ps := ["text"]) fun _ _ _ _ _ _ us hl => match us, hl with | [_], _ => rfl⟩
  have C__law_whole : Cal l.prog w K mg base 1 "_law_whole" 1 m__law_whole := ⟨_, _, ["_law_found"], ok__law_whole F11 T , PySem.W.mg_of X G a11, k11, F11.binds (ps := ["_law_found"]) fun _ _ _ _ _ _ us hl => match us, hl with | [_], _ => rfl⟩
  have C__law_right : Cal l.prog w K mg base 3 "_law_right" 1 m__law_right := ⟨_, _, ["_law_text_here"], ok__law_right F12 T C__law_told C_read_rows C__law_whole, PySem.W.mg_of X G a12, k12, F12.binds (ps := ["_law_text_here"]) fun _ _ _ _ _ _ us hl => match us, hl with | [_], _ => rfl⟩
  have C__law_odd : Cal l.prog w K mg base 2 "_law_odd" 1 m__law_odd := ⟨_, _, ["_law_cell"], ok__law_odd F13 T C__law_mix, PySem.W.mg_of X G a13, k13, F13.binds (ps := ["_law_cell"]) fun _ _ _ _ _ _ us hl => match us, hl with | [_], _ => rfl⟩
  have C__law_spoiled : Cal l.prog w K mg base 3 "_law_spoiled" 2 m__law_spoiled := ⟨_, _, ["_law_text_here", "_law_cell"], ok__law_spoiled F14 T C__law_mix C__law_odd, PySem.W.mg_of X G a14, k14, F14.binds (ps := ["_law_text_here", "_law_cell"]) fun _ _ _ _ _ _ us hl => match us, hl with | [_, _], _ => rfl⟩
  exact ok_law F15 T C__law_rows C__law_text C__law_told C_show_rows C__law_right C__law_spoiled hlaw
theorem walk {l : PySem.W.OpenLaw} {q : Program} {loose : List Str} {XP : (Str → Option Value) → Heap → Prop} {YP : World → Heap → Prop} {d : DefRec} {K : Params → PySem.W.Frag} (hn : l.most = some 63) (hdf : d.params.defaults = [])
    (hY : ∀ (w : World) (h : Heap), YP w h → (K w.params).In h)
    (F : ∀ (w : World) (mg : Str → Option Value) (fa : Addr) (h : Heap), (K w.params).In h → h.Ns mainGlobals mg → mg d.name = some (.ref fa) →
      ∃ fd : FuncData, (∀ (s : Shared) (u : Value), BindsTo s fd ⟨[u], []⟩ [("_law_script", u)]) ∧ ∀ base : Heap, (K w.params).In base → base.Ns mainGlobals mg → FnOk l.prog w (K w.params) mg base (L2.CX l.prog w) 4 fa fd ["_law_script"] (spLaw (K w.params))) :
    PySem.W.WalkO q loose XP YP l.row.toRowW d [] (fun f vs => PySem.call f vs) :=
  L2.walk_of (n := 63) (k := 4) (x := "_law_script") (CX := fun w => L2.CX l.prog w) (sp := fun w => spLaw (K w.params)) hn (by decide) hdf ⟨rfl, by decide, by decide⟩ hY F (fun _ _ a ns hl _ hS => ⟨a, ns, rfl, hS, hl, fun _ => rfl⟩) fun _ _ _ _ _ z => let ⟨_, _, _, _, _, _, _, _, _, _, _, _, z⟩ := z; z.elim
set_option maxHeartbeats 4000000
def Tcs_1 : List Chr := [59, 32]
theorem cs_1 : Str.ofString "; " = sxS Tcs_1 := by decide +kernel
def Tcs_2 : List Chr := [45]
theorem cs_2 : Str.ofString "-" = sxS Tcs_2 := by decide +kernel
def Tcs_3 : List Chr := []
theorem cs_3 : Str.ofString "" = sxS Tcs_3 := by decide +kernel
def Tcs_4 : List Chr := [48]
theorem cs_4 : Str.ofString "0" = sxS Tcs_4 := by decide +kernel
def Tcs_5 : List Chr := [48, 49, 50, 51, 52, 53, 54, 55, 56, 57]
theorem cs_5 : Str.ofString "0123456789" = sxS Tcs_5 := by decide +kernel
def Tcs_6 : List Chr := [32]
theorem cs_6 : Str.ofString " " = sxS Tcs_6 := by decide +kernel
def Tcs_7 : List Chr := [49, 59]
theorem cs_7 : Str.ofString "1;" = sxS Tcs_7 := by decide +kernel
def Tcs_8 : List Chr := [49, 59, 32]
theorem cs_8 : Str.ofString "1; " = sxS Tcs_8 := by decide +kernel
def Tcs_9 : List Chr := [49, 59, 50]
theorem cs_9 : Str.ofString "1;2" = sxS Tcs_9 := by decide +kernel
def Tcs_10 : List Chr := [49, 32, 59, 50]
theorem cs_10 : Str.ofString "1 ;2" = sxS Tcs_10 := by decide +kernel
def Tcs_11 : List Chr := [49, 32, 50, 59, 32, 51]
theorem cs_11 : Str.ofString "1 2; 3" = sxS Tcs_11 := by decide +kernel
def Tcs_12 : List Chr := [32, 49]
theorem cs_12 : Str.ofString " 1" = sxS Tcs_12 := by decide +kernel
def Tcs_13 : List Chr := [49, 32]
theorem cs_13 : Str.ofString "1 " = sxS Tcs_13 := by decide +kernel
def Tcs_14 : List Chr := [49, 32, 32, 50]
theorem cs_14 : Str.ofString "1  2" = sxS Tcs_14 := by decide +kernel
def Tcs_15 : List Chr := [48, 49]
theorem cs_15 : Str.ofString "01" = sxS Tcs_15 := by decide +kernel
def Tcs_16 : List Chr := [45, 48]
theorem cs_16 : Str.ofString "-0" = sxS Tcs_16 := by decide +kernel
def Tcs_17 : List Chr := [45, 45, 49]
theorem cs_17 : Str.ofString "--1" = sxS Tcs_17 := by decide +kernel
def Tcs_18 : List Chr := [49, 10]
theorem cs_18 : Str.ofString "1\n" = sxS Tcs_18 := by decide +kernel
def Tcs_19 : List Chr := [49, 9, 50]
theorem cs_19 : Str.ofString "1	2" = sxS Tcs_19 := by decide +kernel
def Tcs_20 : List Chr := [43, 49]
theorem cs_20 : Str.ofString "+1" = sxS Tcs_20 := by decide +kernel
def Tcs_21 : List Chr := [49, 95, 48]
theorem cs_21 : Str.ofString "1_0" = sxS Tcs_21 := by decide +kernel
def Tcs_22 : List Chr := [49, 46, 48]
theorem cs_22 : Str.ofString "1.0" = sxS Tcs_22 := by decide +kernel
def Tcs_23 : List Chr := [49, 32, 50, 32, 51, 32, 52, 32, 53, 32, 54, 32, 55]
theorem cs_23 : Str.ofString "1 2 3 4 5 6 7" = sxS Tcs_23 := by decide +kernel
def Tcs_24 : List Chr := [32, 32, 32, 59, 59, 45, 45, 48, 49, 50, 51, 52, 53, 54, 55, 56, 57, 120, 44, 10, 9]
theorem cs_24 : Str.ofString "   ;;--0123456789x,\n	" = sxS Tcs_24 := by decide +kernel
noncomputable def T__law_mix (p_cell : Int) (p_j : Int) : Option Int :=
  (if ((decide ((p_cell % (2 : Int)) = (1 : Int))) && (!(decide ((p_cell / 2 ^ (27 : Nat)) = (0 : Int))))) then (shrG p_cell ((1 : Int) + ((20 : Int) * p_j))).bind fun v1 => some (v1 % (1048576 : Int)) else (mulG p_cell (((2 : Int) * p_j) + (3 : Int))).bind fun v2 => (mulG ((v2 + p_j) % (2147483629 : Int)) ((v2 + p_j) % (2147483629 : Int))).bind fun v3 => (mulG (((v3 + (1 : Int)) * (48271 : Int)) % (2147483629 : Int)) (((v3 + (1 : Int)) * (48271 : Int)) % (2147483629 : Int))).bind fun v4 => some (v4 % (2147483587 : Int)))
theorem sm__law_mix {p_cell : Int} {p_j : Int} {v : Int} (hv : T__law_mix p_cell p_j = some v) : m__law_mix [eI p_cell, eI p_j] = .ok ((oF eI) v) := by
  refine run_sg (O := (oF eI)) (t := T__law_mix p_cell p_j) ?_ hv
  unfold T__law_mix D__law_mix
  refine sg_env (e2 := [some (.fz (eI p_cell)), some (.fz (eI p_j)), none]) rfl ?_
  refine sg_one ?_
  refine sg_assoc ?_
  refine sg_ifs (ev_and (ev_test (asO (.st (.fz (eB (decide ((p_cell % (2 : Int)) = (1 : Int)))))) (ev_bin (asO (.st (.fz (eI (p_cell % (2 : Int))))) (ev_bin (ev_varF (x := eI p_cell) rfl) (ev_c (x := eI 2)) (e_mod (by decide)))) (ev_c (x := eI 1)) (t_eq (e := eI) (a := (p_cell % (2 : Int))) (b := (1 : Int)) epI (by decide) rfl rfl)))) (ev_test (asO (.st (.fz (eB (!(decide ((p_cell / 2 ^ (27 : Nat)) = (0 : Int))))))) (ev_bin (asO (.st (.fz (eI (p_cell / 2 ^ (27 : Nat))))) (ev_bin (ev_varF (x := eI p_cell) rfl) (ev_c (x := eI 27)) (e_shr (by decide)))) (ev_c (x := eI 0)) (t_ne (e := eI) (a := (p_cell / 2 ^ (27 : Nat))) (b := (0 : Int)) epI (by decide) rfl rfl))))) (fun _ => ?_) (fun _ => ?_)
  · refine sg_bind fun v1 hv1 => ?_
    exact sg_retS (o := (.fz (eI (v1 % (1048576 : Int))))) (asO (.st (.fz (eI (v1 % (1048576 : Int))))) (ev_bin (asO (.st (.fz (eI v1))) (ev_bin (ev_varF (x := eI p_cell) rfl) (asO (.st (.fz (eI ((1 : Int) + ((20 : Int) * p_j))))) (ev_bin (ev_c (x := eI 1)) (asO (.st (.fz (eI ((20 : Int) * p_j)))) (ev_bin (ev_c (x := eI 20)) (ev_varF (x := eI p_j) rfl) (e_mul (mulL (by decide))))) e_add)) (t_shrG (i := p_cell) (j := ((1 : Int) + ((20 : Int) * p_j))) hv1))) (ev_c (x := eI 1048576)) (e_mod (by decide)))) (fun e => ⟨e, rfl⟩)
  · refine sg_skip ?_
    refine sg_assoc ?_
    refine sg_bind fun v2 hv2 => ?_
    refine sg_set (o := (.fz (eI ((v2 + p_j) % (2147483629 : Int))))) (asO (.st (.fz (eI ((v2 + p_j) % (2147483629 : Int))))) (ev_bin (asO (.st (.fz (eI (v2 + p_j)))) (ev_bin (asO (.st (.fz (eI v2))) (ev_bin (ev_varF (x := eI p_cell) rfl) (asO (.st (.fz (eI (((2 : Int) * p_j) + (3 : Int))))) (ev_bin (asO (.st (.fz (eI ((2 : Int) * p_j)))) (ev_bin (ev_c (x := eI 2)) (ev_varF (x := eI p_j) rfl) (e_mul (mulL (by decide))))) (ev_c (x := eI 3)) e_add)) (t_mulG (i := p_cell) (j := (((2 : Int) * p_j) + (3 : Int))) hv2))) (ev_varF (x := eI p_j) rfl) e_add)) (ev_c (x := eI 2147483629)) (e_mod (by decide)))) ?_
    refine sg_assoc ?_
    refine sg_bind fun v3 hv3 => ?_
    refine sg_set (o := (.fz (eI (((v3 + (1 : Int)) * (48271 : Int)) % (2147483629 : Int))))) (asO (.st (.fz (eI (((v3 + (1 : Int)) * (48271 : Int)) % (2147483629 : Int))))) (ev_bin (asO (.st (.fz (eI ((v3 + (1 : Int)) * (48271 : Int))))) (ev_bin (asO (.st (.fz (eI (v3 + (1 : Int))))) (ev_bin (asO (.st (.fz (eI v3))) (ev_bin (ev_varF (x := eI ((v2 + p_j) % (2147483629 : Int))) rfl) (ev_varF (x := eI ((v2 + p_j) % (2147483629 : Int))) rfl) (t_mulG (i := ((v2 + p_j) % (2147483629 : Int))) (j := ((v2 + p_j) % (2147483629 : Int))) hv3))) (ev_c (x := eI 1)) e_add)) (ev_c (x := eI 48271)) (e_mul (mulR (by decide))))) (ev_c (x := eI 2147483629)) (e_mod (by decide)))) ?_
    refine sg_bind fun v4 hv4 => ?_
    exact sg_retS (o := (.fz (eI (v4 % (2147483587 : Int))))) (asO (.st (.fz (eI (v4 % (2147483587 : Int))))) (ev_bin (asO (.st (.fz (eI v4))) (ev_bin (ev_varF (x := eI (((v3 + (1 : Int)) * (48271 : Int)) % (2147483629 : Int))) rfl) (ev_varF (x := eI (((v3 + (1 : Int)) * (48271 : Int)) % (2147483629 : Int))) rfl) (t_mulG (i := (((v3 + (1 : Int)) * (48271 : Int)) % (2147483629 : Int))) (j := (((v3 + (1 : Int)) * (48271 : Int)) % (2147483629 : Int))) hv4))) (ev_c (x := eI 2147483587)) (e_mod (by decide)))) (fun e => ⟨e, rfl⟩)
noncomputable def T__law_number (p_cell : Int) (p_j : Int) : Option Int :=
  (T__law_mix p_cell p_j).bind fun v1 => (if (decide ((v1 % (3 : Int)) = (0 : Int))) then some (((v1 / (3 : Int)) % (5 : Int)) - (2 : Int)) else (if (decide ((v1 % (3 : Int)) = (1 : Int))) then some (((v1 / (3 : Int)) % (2001 : Int)) - (1000 : Int)) else (mulG p_cell (p_j + (1 : Int))).bind fun v2 => (modG ((v2 + ((10 : Int) ^ (60 : Nat))) - (1 : Int)) (((2 : Int) * ((10 : Int) ^ (60 : Nat))) - (1 : Int))).bind fun v3 => some (v3 - (((10 : Int) ^ (60 : Nat)) - (1 : Int)))))
theorem sm__law_number {p_cell : Int} {p_j : Int} {v : Int} (hv : T__law_number p_cell p_j = some v) : m__law_number [eI p_cell, eI p_j] = .ok ((oF eI) v) := by
  refine run_sg (O := (oF eI)) (t := T__law_number p_cell p_j) ?_ hv
  unfold T__law_number D__law_number
  refine sg_env (e2 := [some (.fz (eI p_cell)), some (.fz (eI p_j)), none]) rfl ?_
  refine sg_one ?_
  refine sg_assoc ?_
  refine sg_bind fun v1 hv1 => ?_
  refine sg_set (o := (.fz (eI v1))) (asO (.st (.fz (eI v1))) (ev_callA (ev_cons (ev_varF (x := eI p_cell) rfl) (ev_cons (ev_varF (x := eI p_j) rfl) ev_nil)) (as := [eI p_cell, eI p_j]) rfl (sm__law_mix hv1) (.inl rfl))) ?_
  refine sg_assoc ?_
  refine sg_ifs (ev_test (asO (.st (.fz (eB (decide ((v1 % (3 : Int)) = (0 : Int)))))) (ev_bin (asO (.st (.fz (eI (v1 % (3 : Int))))) (ev_bin (ev_varF (x := eI v1) rfl) (ev_c (x := eI 3)) (e_mod (by decide)))) (ev_c (x := eI 0)) (t_eq (e := eI) (a := (v1 % (3 : Int))) (b := (0 : Int)) epI (by decide) rfl rfl)))) (fun _ => ?_) (fun _ => ?_)
  · exact sg_retS (o := (.fz (eI (((v1 / (3 : Int)) % (5 : Int)) - (2 : Int))))) (asO (.st (.fz (eI (((v1 / (3 : Int)) % (5 : Int)) - (2 : Int))))) (ev_bin (asO (.st (.fz (eI ((v1 / (3 : Int)) % (5 : Int))))) (ev_bin (asO (.st (.fz (eI (v1 / (3 : Int))))) (ev_bin (ev_varF (x := eI v1) rfl) (ev_c (x := eI 3)) (t_div (by decide)))) (ev_c (x := eI 5)) (e_mod (by decide)))) (ev_c (x := eI 2)) e_sub)) (fun e => ⟨e, rfl⟩)
  · refine sg_skip ?_
    refine sg_assoc ?_
    refine sg_ifs (ev_test (asO (.st (.fz (eB (decide ((v1 % (3 : Int)) = (1 : Int)))))) (ev_bin (asO (.st (.fz (eI (v1 % (3 : Int))))) (ev_bin (ev_varF (x := eI v1) rfl) (ev_c (x := eI 3)) (e_mod (by decide)))) (ev_c (x := eI 1)) (t_eq (e := eI) (a := (v1 % (3 : Int))) (b := (1 : Int)) epI (by decide) rfl rfl)))) (fun _ => ?_) (fun _ => ?_)
    · exact sg_retS (o := (.fz (eI (((v1 / (3 : Int)) % (2001 : Int)) - (1000 : Int))))) (asO (.st (.fz (eI (((v1 / (3 : Int)) % (2001 : Int)) - (1000 : Int))))) (ev_bin (asO (.st (.fz (eI ((v1 / (3 : Int)) % (2001 : Int))))) (ev_bin (asO (.st (.fz (eI (v1 / (3 : Int))))) (ev_bin (ev_varF (x := eI v1) rfl) (ev_c (x := eI 3)) (t_div (by decide)))) (ev_c (x := eI 2001)) (e_mod (by decide)))) (ev_c (x := eI 1000)) e_sub)) (fun e => ⟨e, rfl⟩)
    · refine sg_skip ?_
      refine sg_bind fun v2 hv2 => ?_
      refine sg_bind fun v3 hv3 => ?_
      exact sg_retS (o := (.fz (eI (v3 - (((10 : Int) ^ (60 : Nat)) - (1 : Int)))))) (asO (.st (.fz (eI (v3 - (((10 : Int) ^ (60 : Nat)) - (1 : Int)))))) (ev_bin (asO (.st (.fz (eI v3))) (ev_bin (asO (.st (.fz (eI ((v2 + ((10 : Int) ^ (60 : Nat))) - (1 : Int))))) (ev_bin (asO (.st (.fz (eI (v2 + ((10 : Int) ^ (60 : Nat)))))) (ev_bin (asO (.st (.fz (eI v2))) (ev_bin (ev_varF (x := eI p_cell) rfl) (asO (.st (.fz (eI (p_j + (1 : Int))))) (ev_bin (ev_varF (x := eI p_j) rfl) (ev_c (x := eI 1)) e_add)) (t_mulG (i := p_cell) (j := (p_j + (1 : Int))) hv2))) (asO (.st (.fz (eI ((10 : Int) ^ (60 : Nat))))) (ev_bin (ev_c (x := eI 10)) (ev_c (x := eI 60)) (t_pow (by decide)))) e_add)) (ev_c (x := eI 1)) e_sub)) (asO (.st (.fz (eI (((2 : Int) * ((10 : Int) ^ (60 : Nat))) - (1 : Int))))) (ev_bin (asO (.st (.fz (eI ((2 : Int) * ((10 : Int) ^ (60 : Nat)))))) (ev_bin (ev_c (x := eI 2)) (asO (.st (.fz (eI ((10 : Int) ^ (60 : Nat))))) (ev_bin (ev_c (x := eI 10)) (ev_c (x := eI 60)) (t_pow (by decide)))) (e_mul (mulL (by decide))))) (ev_c (x := eI 1)) e_sub)) (t_modG (i := ((v2 + ((10 : Int) ^ (60 : Nat))) - (1 : Int))) (j := (((2 : Int) * ((10 : Int) ^ (60 : Nat))) - (1 : Int))) hv3))) (asO (.st (.fz (eI (((10 : Int) ^ (60 : Nat)) - (1 : Int))))) (ev_bin (asO (.st (.fz (eI ((10 : Int) ^ (60 : Nat))))) (ev_bin (ev_c (x := eI 10)) (ev_c (x := eI 60)) (t_pow (by decide)))) (ev_c (x := eI 1)) e_sub)) e_sub)) (fun e => ⟨e, rfl⟩)
noncomputable def T__law_rows_b1 (p_cells : (List Int)) (p_at : Int) (v3 : Int) (x1 : Int) (s2 : (List (List Int))) : Option (List (List Int)) :=
  (modG (p_at + x1) (p_cells.length : Int)).bind fun v9 => (atI p_cells v9).bind fun v10 => (rangeG v3).bind fun v11 => (lcG (fun x2 : Int => some true) (fun x2 => (T__law_number (v10 + (x1 / (7 : Int))) ((10 : Int) + x2)).bind fun v12 => some v12) v11).bind fun v13 => (if (!(decide (s2 = ([] : List (List Int))))) then (T__law_mix (v10 + (x1 / (7 : Int))) (5 : Int)).bind fun v14 => some (decide ((v14 % (5 : Int)) = (1 : Int))) else some false).bind fun v15 => ((if v15 then (T__law_mix (v10 + (x1 / (7 : Int))) (6 : Int)).bind fun v16 => (modG v16 (s2.length : Int)).bind fun v17 => (atI s2 v17).bind fun v18 => some v18 else some v13) : Option (List Int)).bind fun s3 => (appG s2 s3).bind fun v19 => some v19
noncomputable def T__law_rows (p_cells : (List Int)) (p_at : Int) : Option (List (List Int)) :=
  (atI p_cells p_at).bind fun v1 => (T__law_mix v1 (1 : Int)).bind fun v2 => (atI ([(1 : Int), (2 : Int), (3 : Int), (4 : Int), (5 : Int), (6 : Int), (2 : Int), (3 : Int), (1 : Int), (7 : Int)] : List Int) (v2 % (10 : Int))).bind fun v3 => (T__law_mix v1 (2 : Int)).bind fun v4 => (if (decide (p_at = (0 : Int))) then (T__law_mix v1 (3 : Int)).bind fun v5 => some (decide ((v5 % (4 : Int)) = (1 : Int))) else some false).bind fun v6 => ((if v6 then (T__law_mix v1 (4 : Int)).bind fun v7 => some ((60 : Int) + (v7 % (2 : Int))) else some (v4 % (6 : Int))) : Option Int).bind fun s1 => (rangeG s1).bind fun v8 => (forT (T__law_rows_b1 p_cells p_at v3) v8 ([] : List (List Int))).bind fun s4 => some s4
theorem sm__law_rows {p_cells : (List Int)} {p_at : Int} {v : (List (List Int))} (hv : T__law_rows p_cells p_at = some v) : m__law_rows [(eL eI) p_cells, eI p_at] = .ok ((oL (eT eI)) v) := by
  refine run_sg (O := (oL (eT eI))) (t := T__law_rows p_cells p_at) ?_ hv
  unfold T__law_rows D__law_rows
  refine sg_env (e2 := [some (.fz ((eL eI) p_cells)), some (.fz (eI p_at)), none, none, none, none, none, none, none, none]) rfl ?_
  refine sg_one ?_
  refine sg_assoc ?_
  refine sg_bind fun v1 hv1 => ?_
  refine sg_set (o := (.fz (eI v1))) (asO (.st (.fz (eI v1))) (ev_sub (ev_varF (x := (eL eI) p_cells) rfl) (ev_varF (x := eI p_at) rfl) rfl (t_atL (e := eI) (xs := p_cells) (.inr (.inl rfl)) hv1))) ?_
  refine sg_assoc ?_
  refine sg_bind fun v2 hv2 => ?_
  refine sg_bind fun v3 hv3 => ?_
  refine sg_set (o := (.fz (eI v3))) (asO (.st (.fz (eI v3))) (ev_sub (asO (.st (.ol (List.map eI ([(1 : Int), (2 : Int), (3 : Int), (4 : Int), (5 : Int), (6 : Int), (2 : Int), (3 : Int), (1 : Int), (7 : Int)] : List Int)))) (ev_list (ev_cons (ev_c (x := eI 1)) (ev_cons (ev_c (x := eI 2)) (ev_cons (ev_c (x := eI 3)) (ev_cons (ev_c (x := eI 4)) (ev_cons (ev_c (x := eI 5)) (ev_cons (ev_c (x := eI 6)) (ev_cons (ev_c (x := eI 2)) (ev_cons (ev_c (x := eI 3)) (ev_cons (ev_c (x := eI 1)) (ev_cons (ev_c (x := eI 7)) ev_nil)))))))))) (Nat.le_of_ble_eq_true rfl) rfl)) (asO (.st (.fz (eI (v2 % (10 : Int))))) (ev_bin (asO (.st (.fz (eI v2))) (ev_callA (ev_cons (ev_varF (x := eI v1) rfl) (ev_cons (ev_c (x := eI 1)) ev_nil)) (as := [eI v1, eI (1 : Int)]) rfl (sm__law_mix hv2) (.inl rfl))) (ev_c (x := eI 10)) (e_mod (by decide)))) rfl (t_atL (e := eI) (xs := ([(1 : Int), (2 : Int), (3 : Int), (4 : Int), (5 : Int), (6 : Int), (2 : Int), (3 : Int), (1 : Int), (7 : Int)] : List Int)) (.inl rfl) hv3))) ?_
  refine sg_assoc ?_
  refine sg_bind fun v4 hv4 => ?_
  refine sg_set (o := (.fz (eI (v4 % (6 : Int))))) (asO (.st (.fz (eI (v4 % (6 : Int))))) (ev_bin (asO (.st (.fz (eI v4))) (ev_callA (ev_cons (ev_varF (x := eI v1) rfl) (ev_cons (ev_c (x := eI 2)) ev_nil)) (as := [eI v1, eI (2 : Int)]) rfl (sm__law_mix hv4) (.inl rfl))) (ev_c (x := eI 6)) (e_mod (by decide)))) ?_
  refine sg_assoc ?_
  refine sg_bind fun v6 hv6 => ?_
  refine sg_seq (E := (fun (s1 : Int) (e : VEnv) => e = [some (.fz ((eL eI) p_cells)), some (.fz (eI p_at)), some (.fz (eI v1)), some (.fz (eI v3)), some (.fz (eI s1)), none, none, none, none, none])) ?_ (fun s1 e hE => ?_)
  · refine sg_if (ev_andO (ev_test (asO (.st (.fz (eB (decide (p_at = (0 : Int)))))) (ev_bin (ev_varF (x := eI p_at) rfl) (ev_c (x := eI 0)) (t_eq (e := eI) (a := p_at) (b := (0 : Int)) epI (by decide) rfl rfl)))) (fun _ => (oe_bind fun v5 hv5 => (oe_id (ev_test (asO (.st (.fz (eB (decide ((v5 % (4 : Int)) = (1 : Int)))))) (ev_bin (asO (.st (.fz (eI (v5 % (4 : Int))))) (ev_bin (asO (.st (.fz (eI v5))) (ev_callA (ev_cons (ev_varF (x := eI v1) rfl) (ev_cons (ev_c (x := eI 3)) ev_nil)) (as := [eI v1, eI (3 : Int)]) rfl (sm__law_mix hv5) (.inl rfl))) (ev_c (x := eI 4)) (e_mod (by decide)))) (ev_c (x := eI 1)) (t_eq (e := eI) (a := (v5 % (4 : Int))) (b := (1 : Int)) epI (by decide) rfl rfl))))))) hv6) (fun _ => ?_) (fun _ => ?_)
    · refine sg_one ?_
      refine sg_bind fun v7 hv7 => ?_
      refine sg_set (o := (.fz (eI ((60 : Int) + (v7 % (2 : Int)))))) (asO (.st (.fz (eI ((60 : Int) + (v7 % (2 : Int)))))) (ev_bin (ev_c (x := eI 60)) (asO (.st (.fz (eI (v7 % (2 : Int))))) (ev_bin (asO (.st (.fz (eI v7))) (ev_callA (ev_cons (ev_varF (x := eI v1) rfl) (ev_cons (ev_c (x := eI 4)) ev_nil)) (as := [eI v1, eI (4 : Int)]) rfl (sm__law_mix hv7) (.inl rfl))) (ev_c (x := eI 2)) (e_mod (by decide)))) e_add)) ?_
      exact sg_nx rfl
    · refine sg_one ?_
      refine sg_skip ?_
      exact sg_nx rfl
  · subst hE
    refine sg_assoc ?_
    refine sg_set (o := (.ol (List.map (eT eI) ([] : List (List Int))))) (asO (.st (.ol (List.map (eT eI) ([] : List (List Int))))) (ev_list ev_nil (Nat.le_of_ble_eq_true rfl) rfl)) ?_
    refine sg_assoc ?_
    refine sg_bind fun v8 hv8 => ?_
    refine sg_seq (sg_for (eA := eI) (fun (s2 : (List (List Int))) (e : VEnv) => ∃ j1 j2 j3 : Option OV, e = [some (.fz ((eL eI) p_cells)), some (.fz (eI p_at)), some (.fz (eI v1)), some (.fz (eI v3)), some (.fz (eI s1)), some (.ol (List.map (eT eI) s2)), j1, j2, j3, none]) (tb := (T__law_rows_b1 p_cells p_at v3)) (it_range (ev_varF (x := eI s1) rfl) hv8) ⟨_, _, _, rfl⟩ (fun x1 s2 e hE => ?_)) (fun s4 e hE => ?_)
    · obtain ⟨j1, j2, j3, rfl⟩ := hE
      refine ⟨_, rfl, ?_⟩
      unfold T__law_rows_b1
      refine sg_one ?_
      refine sg_assoc ?_
      refine sg_bind fun v9 hv9 => ?_
      refine sg_bind fun v10 hv10 => ?_
      refine sg_set (o := (.fz (eI (v10 + (x1 / (7 : Int)))))) (asO (.st (.fz (eI (v10 + (x1 / (7 : Int)))))) (ev_bin (asO (.st (.fz (eI v10))) (ev_sub (ev_varF (x := (eL eI) p_cells) rfl) (asO (.st (.fz (eI v9))) (ev_bin (asO (.st (.fz (eI (p_at + x1)))) (ev_bin (ev_varF (x := eI p_at) rfl) (ev_varF (x := eI x1) rfl) e_add)) (asO (.st (.fz (eI (p_cells.length : Int)))) (ev_callB (ev_cons (ev_varF (x := (eL eI) p_cells) rfl) ev_nil) (t_lenL (e := eI) (xs := p_cells) (.inr (.inl rfl))))) (t_modG (i := (p_at + x1)) (j := (p_cells.length : Int)) hv9))) rfl (t_atL (e := eI) (xs := p_cells) (.inr (.inl rfl)) hv10))) (asO (.st (.fz (eI (x1 / (7 : Int))))) (ev_bin (ev_varF (x := eI x1) rfl) (ev_c (x := eI 7)) (t_div (by decide)))) e_add)) ?_
      refine sg_assoc ?_
      refine sg_bind fun v11 hv11 => ?_
      refine sg_bind fun v13 hv13 => ?_
      refine sg_set (o := (.fz ((eT eI) v13))) (asO (.st (.fz ((eT eI) v13))) (ev_callB (ev_cons (asO (.st (.ol (List.map eI v13))) (ev_lc (e := eI) (d := eI) (tc := fun x2 => some true) (te := fun x2 => (T__law_number (v10 + (x1 / (7 : Int))) ((10 : Int) + x2)).bind fun v12 => some v12) (items := v11) (it_range (ev_varF (x := eI v3) rfl) hv11) (fun x2 => ⟨_, rfl, (oe_id rfl), (oe_bind fun v12 hv12 => (oe_ret (asO (.st (.fz (eI v12))) (ev_frzX (asO (.st (.fz (eI v12))) (ev_callA (ev_cons (ev_varF (x := eI (v10 + (x1 / (7 : Int)))) rfl) (ev_cons (asO (.st (.fz (eI ((10 : Int) + x2)))) (ev_frzX (asO (.st (.fz (eI ((10 : Int) + x2)))) (ev_bin (ev_c (x := eI 10)) (ev_varF (x := eI x2) rfl) e_add)) rfl)) ev_nil)) (as := [eI (v10 + (x1 / (7 : Int))), eI ((10 : Int) + x2)]) rfl (sm__law_number hv12) (.inl rfl))) rfl))))⟩) (.inr puI) hv13)) ev_nil) (t_tup (e := eI) (xs := v13) (.inl rfl)))) ?_
      refine sg_assoc ?_
      refine sg_bind fun v15 hv15 => ?_
      refine sg_seq (E := (fun (s3 : (List Int)) (e : VEnv) => e = [some (.fz ((eL eI) p_cells)), some (.fz (eI p_at)), some (.fz (eI v1)), some (.fz (eI v3)), some (.fz (eI s1)), some (.ol (List.map (eT eI) s2)), some (.fz (eI x1)), some (.fz (eI (v10 + (x1 / (7 : Int))))), some (.fz ((eT eI) s3)), none])) ?_ (fun s3 e hE => ?_)
      · refine sg_if (ev_andO (ev_test (asO (.st (.fz (eB (!(decide (s2 = ([] : List (List Int)))))))) (ev_bin (ev_varO (o := (.ol (List.map (eT eI) s2))) rfl rfl) (asO (.st (.ol (List.map (eT eI) ([] : List (List Int))))) (ev_list ev_nil (Nat.le_of_ble_eq_true rfl) rfl)) (t_ne (e := (eL (eT eI))) (a := s2) (b := ([] : List (List Int))) (epL (epT epI)) (by decide) rfl rfl)))) (fun _ => (oe_bind fun v14 hv14 => (oe_id (ev_test (asO (.st (.fz (eB (decide ((v14 % (5 : Int)) = (1 : Int)))))) (ev_bin (asO (.st (.fz (eI (v14 % (5 : Int))))) (ev_bin (asO (.st (.fz (eI v14))) (ev_callA (ev_cons (ev_varF (x := eI (v10 + (x1 / (7 : Int)))) rfl) (ev_cons (ev_c (x := eI 5)) ev_nil)) (as := [eI (v10 + (x1 / (7 : Int))), eI (5 : Int)]) rfl (sm__law_mix hv14) (.inl rfl))) (ev_c (x := eI 5)) (e_mod (by decide)))) (ev_c (x := eI 1)) (t_eq (e := eI) (a := (v14 % (5 : Int))) (b := (1 : Int)) epI (by decide) rfl rfl))))))) hv15) (fun _ => ?_) (fun _ => ?_)
        · refine sg_one ?_
          refine sg_bind fun v16 hv16 => ?_
          refine sg_bind fun v17 hv17 => ?_
          refine sg_bind fun v18 hv18 => ?_
          refine sg_set (o := (.fz ((eT eI) v18))) (asO (.st (.fz ((eT eI) v18))) (ev_sub (ev_varO (o := (.ol (List.map (eT eI) s2))) rfl rfl) (asO (.st (.fz (eI v17))) (ev_bin (asO (.st (.fz (eI v16))) (ev_callA (ev_cons (ev_varF (x := eI (v10 + (x1 / (7 : Int)))) rfl) (ev_cons (ev_c (x := eI 6)) ev_nil)) (as := [eI (v10 + (x1 / (7 : Int))), eI (6 : Int)]) rfl (sm__law_mix hv16) (.inl rfl))) (asO (.st (.fz (eI (s2.length : Int)))) (ev_callB (ev_cons (ev_varO (o := (.ol (List.map (eT eI) s2))) rfl rfl) ev_nil) (t_lenL (e := (eT eI)) (xs := s2) (.inl rfl)))) (t_modG (i := v16) (j := (s2.length : Int)) hv17))) rfl (t_atL (e := (eT eI)) (xs := s2) (.inl rfl) hv18))) ?_
          exact sg_nx rfl
        · refine sg_one ?_
          refine sg_skip ?_
          exact sg_nx rfl
      · subst hE
        refine sg_iceS ?_
        refine sg_iceF rfl ?_
        refine sg_bind fun v19 hv19 => ?_
        refine sg_appL (e := (eT eI)) (xs := s2) (x := s3) rfl (ev_varF (x := (eT eI) s3) rfl) hv19 ?_
        exact sg_nx ⟨_, _, _, rfl⟩
    · obtain ⟨j4, j5, j6, rfl⟩ := hE
      exact sg_retVS (o := (.ol (List.map (eT eI) s4))) rfl (fun e => ⟨e, rfl⟩)
noncomputable def T__law_text (p_rows_here : (List (List Int))) : Option (List Chr) :=
  (lcG (fun x1 : (List Int) => some true) (fun x1 => (lcG (fun x2 : Int => some true) (fun x2 => (strIG x2).bind fun v1 => some v1) x1).bind fun v2 => (joinSG [(32 : Chr)] v2).bind fun v3 => some v3) p_rows_here).bind fun v4 => (joinSG Tcs_1 v4).bind fun v5 => some v5
theorem sm__law_text {p_rows_here : (List (List Int))} {v : (List Chr)} (hv : T__law_text p_rows_here = some v) : m__law_text [(eL (eT eI)) p_rows_here] = .ok ((oF eS) v) := by
  refine run_sg (O := (oF eS)) (t := T__law_text p_rows_here) ?_ hv
  unfold T__law_text D__law_text
  refine sg_env (e2 := [some (.fz ((eL (eT eI)) p_rows_here)), none, none]) rfl ?_
  refine sg_one ?_
  refine sg_bind fun v4 hv4 => ?_
  refine sg_bind fun v5 hv5 => ?_
  exact sg_retS (o := (.fz (eS v5))) (asO (.st (.fz (eS v5))) (ev_meth (ev_cs cs_1) rfl (ev_cons (asO (.st (.ol (List.map eS v4))) (ev_lc (e := (eT eI)) (d := eS) (tc := fun x1 => some true) (te := fun x1 => (lcG (fun x2 : Int => some true) (fun x2 => (strIG x2).bind fun v1 => some v1) x1).bind fun v2 => (joinSG [(32 : Chr)] v2).bind fun v3 => some v3) (items := p_rows_here) (ci_items (e := (eT eI)) (xs := p_rows_here) (ev_varF (x := (eL (eT eI)) p_rows_here) rfl) sb_st (.inl rfl)) (fun x1 => ⟨_, rfl, (oe_id rfl), (oe_bind fun v2 hv2 => (oe_bind fun v3 hv3 => (oe_ret (asO (.st (.fz (eS v3))) (ev_frzX (asO (.st (.fz (eS v3))) (ev_meth (ev_cc (c := 32) rfl) rfl (ev_cons (asO (.st (.ol (List.map eS v2))) (ev_lc (e := eI) (d := eS) (tc := fun x2 => some true) (te := fun x2 => (strIG x2).bind fun v1 => some v1) (items := x1) (ci_items (e := eI) (xs := x1) (ev_varF (x := (eT eI) x1) rfl) sb_st (.inr rfl)) (fun x2 => ⟨_, rfl, (oe_id rfl), (oe_bind fun v1 hv1 => (oe_ret (asO (.st (.fz (eS v1))) (ev_frzX (asO (.st (.fz (eS v1))) (ev_callB (ev_cons (ev_varF (x := eI x2) rfl) ev_nil) (t_strI (i := x2) hv1))) rfl))))⟩) (.inl (afz_F (afz_F (afz_N afz_nil)))) hv2)) ev_nil) (t_joinS (sep := [(32 : Chr)]) (xs := v2) (.inl rfl) hv3))) rfl)))))⟩) (.inl (afz_F (afz_N (afz_N afz_nil)))) hv4)) ev_nil) (t_joinS (sep := Tcs_1) (xs := v4) (.inl rfl) hv5))) (fun e => ⟨e, rfl⟩)
noncomputable def T__law_number_told_b1 (x1 : Chr) (s1 : Unit) : Option (Ctl Unit (Option Int)) :=
  (if (!(decide (x1 ∈ Tcs_5))) then some (.rt none) else some (.nx ()))
noncomputable def T__law_number_told (p_word : (List Chr)) : Option (Option Int) :=
  (cutSG p_word none (some (1 : Int))).bind fun v1 => (cutSG p_word (some (if (decide (v1 = Tcs_2)) then (1 : Int) else 0)) none).bind fun v2 => (if (decide (v2 = Tcs_3)) then some true else (lenS v2).bind fun v3 => (if (decide ((60 : Int) < v3)) then some true else (atS' v2 (0 : Int)).bind fun v4 => (atS' v2 (0 : Int)).bind fun v5 => some ((decide (v5 = (48 : Chr))) && (!(decide (p_word = Tcs_4))))).bind fun v6 => some v6).bind fun v7 => (if v7 then some none else ((forC T__law_number_told_b1 v2 ())).bind (behind (fun r => r) fun s2 => (intTG v2).bind fun v8 => (mulG v8 ((1 : Int) - ((2 : Int) * (if (!(decide (v2 = p_word))) then (1 : Int) else 0)))).bind fun v9 => some (some v9)))
theorem sm__law_number_told {p_word : (List Chr)} {v : (Option Int)} (hv : T__law_number_told p_word = some v) : m__law_number_told [eS p_word] = .ok ((oF (eO eI)) v) := by
  refine run_sg (O := (oF (eO eI))) (t := T__law_number_told p_word) ?_ hv
  unfold T__law_number_told D__law_number_told
  refine sg_env (e2 := [some (.fz (eS p_word)), none, none]) rfl ?_
  refine sg_one ?_
  refine sg_assoc ?_
  refine sg_bind fun v1 hv1 => ?_
  refine sg_bind fun v2 hv2 => ?_
  refine sg_set (o := (.fz (eS v2))) (asO (.st (.fz (eS v2))) (ev_sl (ev_varF (x := eS p_word) rfl) (ev_ps (asO (.st (.fz (eI (if (decide (v1 = Tcs_2)) then (1 : Int) else 0)))) (ev_callB (ev_cons (asO (.st (.fz (eB (decide (v1 = Tcs_2))))) (ev_bin (asO (.st (.fz (eS v1))) (ev_sl (ev_varF (x := eS p_word) rfl) ev_pn (ev_ps (ev_c (x := eI 1))) (t_slS (s := p_word) hv1))) (ev_cs cs_2) (t_eq (e := eS) (a := v1) (b := Tcs_2) epS (by decide) rfl rfl))) ev_nil) t_intB))) ev_pn (t_slS (s := p_word) hv2))) ?_
  refine sg_assoc ?_
  refine sg_iceS ?_
  refine sg_iceF rfl ?_
  refine sg_bind fun v7 hv7 => ?_
  refine sg_ifs (ev_orO (ev_test (asO (.st (.fz (eB (decide (v2 = Tcs_3))))) (ev_bin (ev_varF (x := eS v2) rfl) (ev_cs cs_3) (t_eq (e := eS) (a := v2) (b := Tcs_3) epS (by decide) rfl rfl)))) (fun _ => (oe_bind fun v3 hv3 => (oe_bind fun v6 hv6 => (oe_id (ev_orO (ev_test (asO (.st (.fz (eB (decide ((60 : Int) < v3))))) (ev_bin (asO (.st (.fz (eI v3))) (ev_callB (ev_cons (ev_varF (x := eS v2) rfl) ev_nil) (t_lenS (s := v2) hv3))) (ev_c (x := eI 60)) t_gt))) (fun _ => (oe_bind fun v4 hv4 => (oe_bind fun v5 hv5 => (oe_id (ev_and (ev_test (asO (.st (.fz (eB (decide (v5 = (48 : Chr)))))) (ev_bin (asO (.st (.fz (eC v5))) (ev_sub (ev_varF (x := eS v2) rfl) (ev_c (x := eI 0)) rfl (t_atS (s := v2) hv5))) (ev_cc (c := 48) rfl) (t_eq (e := eC) (a := v5) (b := (48 : Chr)) epC (by decide) rfl rfl)))) (ev_test (asO (.st (.fz (eB (!(decide (p_word = Tcs_4)))))) (ev_bin (ev_varF (x := eS p_word) rfl) (ev_cs cs_4) (t_ne (e := eS) (a := p_word) (b := Tcs_4) epS (by decide) rfl rfl))))))))) hv6))))) hv7) (fun _ => ?_) (fun _ => ?_)
  · exact sg_retS (o := (.fz ((eO eI) none))) (ev_c (x := eU ())) (fun e => ⟨e, rfl⟩)
  · refine sg_skip ?_
    refine sg_assoc ?_
    refine sg_iceS ?_
    refine sg_iceF rfl ?_
    refine sg_seqL (sg_forC (eA := eC) (fun (s1 : Unit) (e : VEnv) => ∃ j1 : Option OV, e = [some (.fz (eS p_word)), some (.fz (eS v2)), j1]) (fun (s1 : Unit) (e : VEnv) => ∃ j1 : Option OV, e = [some (.fz (eS p_word)), some (.fz (eS v2)), j1]) ((oF (eO eI))) (tb := T__law_number_told_b1) (it_str (ev_varF (x := eS v2) rfl)) ⟨_, rfl⟩ (fun _ _ h => h) (fun x1 s1 e hE => ?_)) (fun r e => ⟨e, rfl⟩) (fun s2 e hE => ?_)
    · obtain ⟨j1, rfl⟩ := hE
      refine ⟨_, rfl, ?_⟩
      unfold T__law_number_told_b1
      refine sg_one ?_
      refine sg_ifs (ev_test (asO (.st (.fz (eB (!(decide (x1 ∈ Tcs_5)))))) (ev_bin (ev_varF (x := eC x1) rfl) (ev_cs cs_5) (t_ninS (c := x1) (s := Tcs_5) rfl rfl)))) (fun _ => ?_) (fun _ => ?_)
      · exact sg_retS (o := (.fz ((eO eI) none))) (ev_c (x := eU ())) (fun e => ⟨e, rfl⟩)
      · refine sg_skip ?_
        exact sg_of rfl ⟨_, rfl, ⟨_, rfl⟩⟩
    · obtain ⟨j2, rfl⟩ := hE
      refine sg_bind fun v8 hv8 => ?_
      refine sg_bind fun v9 hv9 => ?_
      exact sg_retS (o := (.fz ((eO eI) (some v9)))) (asO (.st (.fz (eI v9))) (ev_bin (asO (.st (.fz (eI v8))) (ev_callB (ev_cons (ev_varF (x := eS v2) rfl) ev_nil) (t_intT (s := v2) hv8))) (asO (.st (.fz (eI ((1 : Int) - ((2 : Int) * (if (!(decide (v2 = p_word))) then (1 : Int) else 0)))))) (ev_bin (ev_c (x := eI 1)) (asO (.st (.fz (eI ((2 : Int) * (if (!(decide (v2 = p_word))) then (1 : Int) else 0))))) (ev_bin (ev_c (x := eI 2)) (asO (.st (.fz (eI (if (!(decide (v2 = p_word))) then (1 : Int) else 0)))) (ev_callB (ev_cons (asO (.st (.fz (eB (!(decide (v2 = p_word)))))) (ev_bin (ev_varF (x := eS v2) rfl) (ev_varF (x := eS p_word) rfl) (t_ne (e := eS) (a := v2) (b := p_word) epS (by decide) rfl rfl))) ev_nil) t_intB)) (e_mul (mulL (by decide))))) e_sub)) (t_mulG (i := v8) (j := ((1 : Int) - ((2 : Int) * (if (!(decide (v2 = p_word))) then (1 : Int) else 0)))) hv9))) (fun e => ⟨e, rfl⟩)
noncomputable def T__law_told_b1 (x1 : (List Chr)) (s1 : ((List (List Int)) × Int)) : Option (Ctl ((List (List Int)) × Int) (Option (List (List Int)))) :=
  (splitG x1 Tcs_6).bind fun v5 => (lcG (fun x2 : (List Chr) => some true) (fun x2 => (T__law_number_told x2).bind fun v6 => some v6) v5).bind fun v7 => (if (decide (none ∈ v7)) then some true else (if (decide ((6 : Int) < (v7.length : Int))) then some true else (if (!(decide (s1.1 = ([] : List (List Int))))) then (atI s1.1 (0 : Int)).bind fun v8 => some (!(decide ((v7.length : Int) = (v8.length : Int)))) else some false).bind fun v9 => some v9).bind fun v10 => some v10).bind fun v11 => (if v11 then some (.rt none) else (oints v7).bind fun v12 => (if (!(decide (v12 ∈ s1.1))) then (oints v7).bind fun v13 => (appG s1.1 v13).bind fun v14 => some (.nx (v14, (s1.2 + (1 : Int)))) else some (.nx (s1.1, (s1.2 + (1 : Int))))))
noncomputable def T__law_told (p_text_here : FV) : Option (Option (List (List Int))) :=
  (isaXG ["str"] p_text_here).bind fun v1 => (if (!v1) then some none else (txt? p_text_here).bind fun v2 => (if (decide (v2 = Tcs_3)) then some (some ([] : List (List Int))) else (txt? p_text_here).bind fun v3 => (splitG v3 Tcs_1).bind fun v4 => ((forC T__law_told_b1 v4 (([] : List (List Int)), (0 : Int)))).bind (behind (fun r => r) fun s2 => (if (decide ((60 : Int) < s2.2)) then some none else (srt (eT eI) s2.1).bind fun v15 => some (some v15)))))
theorem sm__law_told {p_text_here : FV} {v : (Option (List (List Int)))} (hv : T__law_told p_text_here = some v) : m__law_told [eX p_text_here] = .ok ((oO (oL (eT eI))) v) := by
  refine run_sg (O := (oO (oL (eT eI)))) (t := T__law_told p_text_here) ?_ hv
  unfold T__law_told D__law_told
  refine sg_env (e2 := [some (.fz (eX p_text_here)), none, none, none, none, none]) rfl ?_
  refine sg_one ?_
  refine sg_assoc ?_
  refine sg_bind fun v1 hv1 => ?_
  refine sg_ifs (ev_notT (ev_test (asO (.st (.fz (eB v1))) (ev_un (op := opIsa ["str"]) (ev_varF (x := eX p_text_here) rfl) (t_isaX (x := p_text_here) hv1))))) (fun _ => ?_) (fun _ => ?_)
  · exact sg_retS (o := (.fz ((eO (eL (eT eI))) none))) (ev_c (x := eU ())) (fun e => ⟨e, rfl⟩)
  · refine sg_skip ?_
    refine sg_assoc ?_
    refine sg_bind fun v2 hv2 => ?_
    refine sg_ifs (ev_test (asO (.st (.fz (eB (decide (v2 = Tcs_3))))) (ev_bin (unXS (x := p_text_here) (ev_varF (x := eX p_text_here) rfl) hv2) (ev_cs cs_3) (t_eq (e := eS) (a := v2) (b := Tcs_3) epS (by decide) rfl rfl)))) (fun _ => ?_) (fun _ => ?_)
    · exact sg_retS (o := (oO (oL (eT eI)) (some ([] : List (List Int))))) (asO (.st (.ol (List.map (eT eI) ([] : List (List Int))))) (ev_list ev_nil (Nat.le_of_ble_eq_true rfl) rfl)) (fun e => ⟨e, rfl⟩)
    · refine sg_skip ?_
      refine sg_assoc ?_
      refine sg_set (o := (.ol (List.map (eT eI) ([] : List (List Int))))) (asO (.st (.ol (List.map (eT eI) ([] : List (List Int))))) (ev_list ev_nil (Nat.le_of_ble_eq_true rfl) rfl)) ?_
      refine sg_assoc ?_
      refine sg_set (o := (.fz (eI (0 : Int)))) (ev_c (x := eI 0)) ?_
      refine sg_assoc ?_
      refine sg_bind fun v3 hv3 => ?_
      refine sg_bind fun v4 hv4 => ?_
      refine sg_seqL (sg_forC (eA := eS) (fun (s1 : ((List (List Int)) × Int)) (e : VEnv) => ∃ j1 j2 : Option OV, e = [some (.fz (eX p_text_here)), some (.ol (List.map (eT eI) s1.1)), some (.fz (eI s1.2)), j1, j2, none]) (fun (s1 : ((List (List Int)) × Int)) (e : VEnv) => ∃ j1 j2 : Option OV, e = [some (.fz (eX p_text_here)), some (.ol (List.map (eT eI) s1.1)), some (.fz (eI s1.2)), j1, j2, none]) ((oO (oL (eT eI)))) (tb := T__law_told_b1) (it_items (e := eS) (xs := v4) (.inl (asO (.st (.ol (List.map eS v4))) (ev_meth (unXS (x := p_text_here) (ev_varF (x := eX p_text_here) rfl) hv3) rfl (ev_cons (ev_cs cs_1) ev_nil) (t_split (a := v3) (b := Tcs_1) hv4))))) ⟨_, _, rfl⟩ (fun _ _ h => h) (fun x1 s1 e hE => ?_)) (fun r e => ⟨e, rfl⟩) (fun s2 e hE => ?_)
      · obtain ⟨j1, j2, rfl⟩ := hE
        refine ⟨_, rfl, ?_⟩
        unfold T__law_told_b1
        refine sg_one ?_
        refine sg_assoc ?_
        refine sg_bind fun v5 hv5 => ?_
        refine sg_bind fun v7 hv7 => ?_
        refine sg_set (o := (.fz ((eT (eO eI)) v7))) (asO (.st (.fz ((eT (eO eI)) v7))) (ev_callB (ev_cons (asO (.st (.ol (List.map (eO eI) v7))) (ev_lc (e := eS) (d := (eO eI)) (tc := fun x2 => some true) (te := fun x2 => (T__law_number_told x2).bind fun v6 => some v6) (items := v5) (ci_items (e := eS) (xs := v5) (asO (.st (.ol (List.map eS v5))) (ev_meth (ev_varF (x := eS x1) rfl) rfl (ev_cons (ev_cs cs_6) ev_nil) (t_split (a := x1) (b := Tcs_6) hv5))) sb_st (.inl rfl)) (fun x2 => ⟨_, rfl, (oe_id rfl), (oe_bind fun v6 hv6 => (oe_ret (asO (.st (.fz ((eO eI) v6))) (ev_frzX (asO (.st (.fz ((eO eI) v6))) (ev_callA (ev_cons (ev_varF (x := eS x2) rfl) ev_nil) (as := [eS x2]) rfl (sm__law_number_told hv6) (.inl rfl))) rfl))))⟩) (.inr (puO puI)) hv7)) ev_nil) (t_tup (e := (eO eI)) (xs := v7) (.inl rfl)))) ?_
        refine sg_assoc ?_
        refine sg_set (o := (.fz (eI (s1.2 + (1 : Int))))) (asO (.st (.fz (eI (s1.2 + (1 : Int))))) (ev_bin (ev_varF (x := eI s1.2) rfl) (ev_c (x := eI 1)) e_add)) ?_
        refine sg_assoc ?_
        refine sg_bind fun v11 hv11 => ?_
        refine sg_ifs (ev_orO (ev_test (asO (.st (.fz (eB (decide (none ∈ v7))))) (ev_bin (ev_c (x := eU ())) (ev_varF (x := (eT (eO eI)) v7) rfl) (t_inT (e := (eO eI)) (a := none) (xs := v7) (epO epI nnI) (atO atI') rfl rfl)))) (fun _ => (oe_bind fun v10 hv10 => (oe_id (ev_orO (ev_test (asO (.st (.fz (eB (decide ((6 : Int) < (v7.length : Int)))))) (ev_bin (asO (.st (.fz (eI (v7.length : Int)))) (ev_callB (ev_cons (ev_varF (x := (eT (eO eI)) v7) rfl) ev_nil) (t_lenL (e := (eO eI)) (xs := v7) (.inr (.inr rfl))))) (ev_c (x := eI 6)) t_gt))) (fun _ => (oe_bind fun v9 hv9 => (oe_id (ev_andO (ev_test (asO (.st (.fz (eB (!(decide (s1.1 = ([] : List (List Int)))))))) (ev_bin (ev_varO (o := (.ol (List.map (eT eI) s1.1))) rfl rfl) (asO (.st (.ol (List.map (eT eI) ([] : List (List Int))))) (ev_list ev_nil (Nat.le_of_ble_eq_true rfl) rfl)) (t_ne (e := (eL (eT eI))) (a := s1.1) (b := ([] : List (List Int))) (epL (epT epI)) (by decide) rfl rfl)))) (fun _ => (oe_bind fun v8 hv8 => (oe_id (ev_test (asO (.st (.fz (eB (!(decide ((v7.length : Int) = (v8.length : Int))))))) (ev_bin (asO (.st (.fz (eI (v7.length : Int)))) (ev_callB (ev_cons (ev_varF (x := (eT (eO eI)) v7) rfl) ev_nil) (t_lenL (e := (eO eI)) (xs := v7) (.inr (.inr rfl))))) (asO (.st (.fz (eI (v8.length : Int)))) (ev_callB (ev_cons (asO (.st (.fz ((eT eI) v8))) (ev_sub (ev_varO (o := (.ol (List.map (eT eI) s1.1))) rfl rfl) (ev_c (x := eI 0)) rfl (t_atL (e := (eT eI)) (xs := s1.1) (.inl rfl) hv8))) ev_nil) (t_lenL (e := eI) (xs := v8) (.inr (.inr rfl))))) (t_ne (e := eI) (a := (v7.length : Int)) (b := (v8.length : Int)) epI (by decide) rfl rfl))))))) hv9)))) hv10)))) hv11) (fun _ => ?_) (fun _ => ?_)
        · exact sg_retS (o := (.fz ((eO (eL (eT eI))) none))) (ev_c (x := eU ())) (fun e => ⟨e, rfl⟩)
        · refine sg_skip ?_
          refine sg_bind fun v12 hv12 => ?_
          refine sg_ifs (ev_test (asO (.st (.fz (eB (!(decide (v12 ∈ s1.1)))))) (ev_bin (unTOI (l := v7) (ev_varF (x := (eT (eO eI)) v7) rfl) hv12) (ev_varO (o := (.ol (List.map (eT eI) s1.1))) rfl rfl) (t_ninL (e := (eT eI)) (a := v12) (xs := s1.1) (epT epI) (by decide) rfl rfl rfl)))) (fun _ => ?_) (fun _ => ?_)
          · refine sg_iceS ?_
            refine sg_iceF rfl ?_
            refine sg_bind fun v13 hv13 => ?_
            refine sg_bind fun v14 hv14 => ?_
            refine sg_appL (e := (eT eI)) (xs := s1.1) (x := v13) rfl (unTOI (l := v7) (ev_varF (x := (eT (eO eI)) v7) rfl) hv13) hv14 ?_
            exact sg_of rfl ⟨_, rfl, ⟨_, _, rfl⟩⟩
          · refine sg_skip ?_
            exact sg_of rfl ⟨_, rfl, ⟨_, _, rfl⟩⟩
      · obtain ⟨j3, j4, rfl⟩ := hE
        refine sg_assoc ?_
        refine sg_ifs (ev_test (asO (.st (.fz (eB (decide ((60 : Int) < s2.2))))) (ev_bin (ev_varF (x := eI s2.2) rfl) (ev_c (x := eI 60)) t_gt))) (fun _ => ?_) (fun _ => ?_)
        · exact sg_retS (o := (.fz ((eO (eL (eT eI))) none))) (ev_c (x := eU ())) (fun e => ⟨e, rfl⟩)
        · refine sg_skip ?_
          refine sg_bind fun v15 hv15 => ?_
          exact sg_retS (o := (oO (oL (eT eI)) (some v15))) (asO (.st (.ol (List.map (eT eI) v15))) (ev_callB (ev_cons (ev_varO (o := (.ol (List.map (eT eI) s2.1))) rfl rfl) ev_nil) (t_sort (e := (eT eI)) (xs := s2.1) (.inl rfl) hv15))) (fun e => ⟨e, rfl⟩)
noncomputable def T_show_rows (p_rows : (List (List Int))) : Option (List Chr) :=
  (lcG (fun x1 : (List Int) => some true) (fun x1 => (lcG (fun x2 : Int => some true) (fun x2 => (strIG x2).bind fun v1 => some v1) x1).bind fun v2 => (joinSG [(32 : Chr)] v2).bind fun v3 => some v3) p_rows).bind fun v4 => (joinSG Tcs_1 v4).bind fun v5 => some v5
theorem sm_show_rows {p_rows : (List (List Int))} {v : (List Chr)} (hv : T_show_rows p_rows = some v) : m_show_rows [(eL (eT eI)) p_rows] = .ok ((oF eS) v) := by
  refine run_sg (O := (oF eS)) (t := T_show_rows p_rows) ?_ hv
  unfold T_show_rows D_show_rows
  refine sg_env (e2 := [some (.fz ((eL (eT eI)) p_rows)), none, none]) rfl ?_
  refine sg_one ?_
  refine sg_bind fun v4 hv4 => ?_
  refine sg_bind fun v5 hv5 => ?_
  exact sg_retS (o := (.fz (eS v5))) (asO (.st (.fz (eS v5))) (ev_meth (ev_cs cs_1) rfl (ev_cons (asO (.st (.ol (List.map eS v4))) (ev_lc (e := (eT eI)) (d := eS) (tc := fun x1 => some true) (te := fun x1 => (lcG (fun x2 : Int => some true) (fun x2 => (strIG x2).bind fun v1 => some v1) x1).bind fun v2 => (joinSG [(32 : Chr)] v2).bind fun v3 => some v3) (items := p_rows) (ci_items (e := (eT eI)) (xs := p_rows) (ev_varF (x := (eL (eT eI)) p_rows) rfl) sb_st (.inl rfl)) (fun x1 => ⟨_, rfl, (oe_id rfl), (oe_bind fun v2 hv2 => (oe_bind fun v3 hv3 => (oe_ret (asO (.st (.fz (eS v3))) (ev_frzX (asO (.st (.fz (eS v3))) (ev_meth (ev_cc (c := 32) rfl) rfl (ev_cons (asO (.st (.ol (List.map eS v2))) (ev_lc (e := eI) (d := eS) (tc := fun x2 => some true) (te := fun x2 => (strIG x2).bind fun v1 => some v1) (items := x1) (ci_items (e := eI) (xs := x1) (ev_varF (x := (eT eI) x1) rfl) sb_st (.inr rfl)) (fun x2 => ⟨_, rfl, (oe_id rfl), (oe_bind fun v1 hv1 => (oe_ret (asO (.st (.fz (eS v1))) (ev_frzX (asO (.st (.fz (eS v1))) (ev_callB (ev_cons (ev_varF (x := eI x2) rfl) ev_nil) (t_strI (i := x2) hv1))) rfl))))⟩) (.inl (afz_F (afz_F (afz_N afz_nil)))) hv2)) ev_nil) (t_joinS (sep := [(32 : Chr)]) (xs := v2) (.inl rfl) hv3))) rfl)))))⟩) (.inl (afz_F (afz_N (afz_N afz_nil)))) hv4)) ev_nil) (t_joinS (sep := Tcs_1) (xs := v4) (.inl rfl) hv5))) (fun e => ⟨e, rfl⟩)
noncomputable def T_read_number_b1 (x1 : Chr) (s2 : Unit) : Option (Ctl Unit Int) :=
  (if (!(decide (x1 ∈ Tcs_5))) then none else some (.nx ()))
noncomputable def T_read_number (p_word : (List Chr)) : Option Int :=
  (cutSG p_word none (some (1 : Int))).bind fun v1 => ((if (decide (v1 = Tcs_2)) then (cutSG p_word (some (1 : Int)) none).bind fun v2 => some v2 else some p_word) : Option (List Chr)).bind fun s1 => (lenS s1).bind fun v3 => (if (!((decide ((1 : Int) ≤ v3)) && (decide (v3 ≤ (60 : Int))))) then some true else (atS' s1 (0 : Int)).bind fun v4 => (atS' s1 (0 : Int)).bind fun v5 => some ((decide (v5 = (48 : Chr))) && (!(decide (p_word = Tcs_4))))).bind fun v6 => (if v6 then none else ((forC T_read_number_b1 s1 ())).bind (behind (fun r => r) fun s3 => (if (!(decide (s1 = p_word))) then (intTG s1).bind fun v7 => some (-v7) else (intTG s1).bind fun v8 => some v8)))
theorem sm_read_number {p_word : (List Chr)} {v : Int} (hv : T_read_number p_word = some v) : m_read_number [eS p_word] = .ok ((oF eI) v) := by
  refine run_sg (O := (oF eI)) (t := T_read_number p_word) ?_ hv
  unfold T_read_number D_read_number
  refine sg_env (e2 := [some (.fz (eS p_word)), none, none]) rfl ?_
  refine sg_one ?_
  refine sg_assoc ?_
  refine sg_iceS ?_
  refine sg_iceF rfl ?_
  refine sg_set (o := (.fz (eS p_word))) (ev_varF (x := eS p_word) rfl) ?_
  refine sg_assoc ?_
  refine sg_bind fun v1 hv1 => ?_
  refine sg_seq (E := (fun (s1 : (List Chr)) (e : VEnv) => e = [some (.fz (eS p_word)), some (.fz (eS s1)), none])) ?_ (fun s1 e hE => ?_)
  · refine sg_if (ev_test (asO (.st (.fz (eB (decide (v1 = Tcs_2))))) (ev_bin (asO (.st (.fz (eS v1))) (ev_sl (ev_varF (x := eS p_word) rfl) ev_pn (ev_ps (ev_c (x := eI 1))) (t_slS (s := p_word) hv1))) (ev_cs cs_2) (t_eq (e := eS) (a := v1) (b := Tcs_2) epS (by decide) rfl rfl)))) (fun _ => ?_) (fun _ => ?_)
    · refine sg_one ?_
      refine sg_assoc ?_
      refine sg_bind fun v2 hv2 => ?_
      refine sg_set (o := (.fz (eS v2))) (asO (.st (.fz (eS v2))) (ev_sl (ev_varF (x := eS p_word) rfl) (ev_ps (ev_c (x := eI 1))) ev_pn (t_slS (s := p_word) hv2))) ?_
      refine sg_iceS ?_
      refine sg_iceF rfl ?_
      refine sg_skip ?_
      exact sg_nx rfl
    · refine sg_one ?_
      refine sg_skip ?_
      exact sg_nx rfl
  · subst hE
    refine sg_assoc ?_
    refine sg_bind fun v3 hv3 => ?_
    refine sg_bind fun v6 hv6 => ?_
    refine sg_ifs (ev_orO (ev_notT (ev_test (asO (.st (.fz (eB ((decide ((1 : Int) ≤ v3)) && (decide (v3 ≤ (60 : Int))))))) (ev_chain (ev_c (x := eI 1)) (asO (.st (.fz (eI v3))) (ev_callB (ev_cons (ev_varF (x := eS s1) rfl) ev_nil) (t_lenS (s := s1) hv3))) (ev_c (x := eI 60)) t_le t_le)))) (fun _ => (oe_bind fun v4 hv4 => (oe_bind fun v5 hv5 => (oe_id (ev_and (ev_test (asO (.st (.fz (eB (decide (v5 = (48 : Chr)))))) (ev_bin (asO (.st (.fz (eC v5))) (ev_sub (ev_varF (x := eS s1) rfl) (ev_c (x := eI 0)) rfl (t_atS (s := s1) hv5))) (ev_cc (c := 48) rfl) (t_eq (e := eC) (a := v5) (b := (48 : Chr)) epC (by decide) rfl rfl)))) (ev_test (asO (.st (.fz (eB (!(decide (p_word = Tcs_4)))))) (ev_bin (ev_varF (x := eS p_word) rfl) (ev_cs cs_4) (t_ne (e := eS) (a := p_word) (b := Tcs_4) epS (by decide) rfl rfl))))))))) hv6) (fun _ => ?_) (fun _ => ?_)
    · exact sg_none
    · refine sg_skip ?_
      refine sg_assoc ?_
      refine sg_iceS ?_
      refine sg_iceF rfl ?_
      refine sg_seqL (sg_forC (eA := eC) (fun (s2 : Unit) (e : VEnv) => ∃ j1 : Option OV, e = [some (.fz (eS p_word)), some (.fz (eS s1)), j1]) (fun (s2 : Unit) (e : VEnv) => ∃ j1 : Option OV, e = [some (.fz (eS p_word)), some (.fz (eS s1)), j1]) ((oF eI)) (tb := T_read_number_b1) (it_str (ev_varF (x := eS s1) rfl)) ⟨_, rfl⟩ (fun _ _ h => h) (fun x1 s2 e hE => ?_)) (fun r e => ⟨e, rfl⟩) (fun s3 e hE => ?_)
      · obtain ⟨j1, rfl⟩ := hE
        refine ⟨_, rfl, ?_⟩
        unfold T_read_number_b1
        refine sg_one ?_
        refine sg_ifs (ev_test (asO (.st (.fz (eB (!(decide (x1 ∈ Tcs_5)))))) (ev_bin (ev_varF (x := eC x1) rfl) (ev_cs cs_5) (t_ninS (c := x1) (s := Tcs_5) rfl rfl)))) (fun _ => ?_) (fun _ => ?_)
        · exact sg_none
        · refine sg_skip ?_
          exact sg_of rfl ⟨_, rfl, ⟨_, rfl⟩⟩
      · obtain ⟨j2, rfl⟩ := hE
        refine sg_assoc ?_
        refine sg_ifs (ev_test (asO (.st (.fz (eB (!(decide (s1 = p_word)))))) (ev_bin (ev_varF (x := eS s1) rfl) (ev_varF (x := eS p_word) rfl) (t_ne (e := eS) (a := s1) (b := p_word) epS (by decide) rfl rfl)))) (fun _ => ?_) (fun _ => ?_)
        · refine sg_bind fun v7 hv7 => ?_
          exact sg_retS (o := (.fz (eI (-v7)))) (asO (.st (.fz (eI (-v7)))) (ev_un (asO (.st (.fz (eI v7))) (ev_callB (ev_cons (ev_varF (x := eS s1) rfl) ev_nil) (t_intT (s := s1) hv7))) t_neg)) (fun e => ⟨e, rfl⟩)
        · refine sg_skip ?_
          refine sg_bind fun v8 hv8 => ?_
          exact sg_retS (o := (.fz (eI v8))) (asO (.st (.fz (eI v8))) (ev_callB (ev_cons (ev_varF (x := eS s1) rfl) ev_nil) (t_intT (s := s1) hv8))) (fun e => ⟨e, rfl⟩)
noncomputable def T_read_number_x_b1 (x1 : Chr) (s1 : Unit) : Option Unit :=
  (if (!(decide (x1 ∈ Tcs_5))) then none else some ())
noncomputable def T_read_number_x_b1x (x1 : Chr) (s1 : Unit) : Option Str :=
  (if (!(decide (x1 ∈ Tcs_5))) then (some "NoText") else none)
noncomputable def T_read_number_x_b3 (x2 : Chr) (s2 : Unit) : Option Unit :=
  (if (!(decide (x2 ∈ Tcs_5))) then none else some ())
noncomputable def T_read_number_x_b3x (x2 : Chr) (s2 : Unit) : Option Str :=
  (if (!(decide (x2 ∈ Tcs_5))) then (some "NoText") else none)
noncomputable def T_read_number_x (p_word : (List Chr)) : Option Str :=
  (cutSG p_word none (some (1 : Int))).bind fun v1 => (if (decide (v1 = Tcs_2)) then (cutSG p_word (some (1 : Int)) none).bind fun v2 => (lenS v2).bind fun v3 => (if (!((decide ((1 : Int) ≤ v3)) && (decide (v3 ≤ (60 : Int))))) then some true else (atS' v2 (0 : Int)).bind fun v4 => (atS' v2 (0 : Int)).bind fun v5 => some ((decide (v5 = (48 : Chr))) && (!(decide (p_word = Tcs_4))))).bind fun v6 => (if v6 then (some "NoText") else forX T_read_number_x_b1x T_read_number_x_b1 v2 ()) else (lenS p_word).bind fun v7 => (if (!((decide ((1 : Int) ≤ v7)) && (decide (v7 ≤ (60 : Int))))) then some true else (atS' p_word (0 : Int)).bind fun v8 => (atS' p_word (0 : Int)).bind fun v9 => some ((decide (v9 = (48 : Chr))) && (!(decide (p_word = Tcs_4))))).bind fun v10 => (if v10 then (some "NoText") else forX T_read_number_x_b3x T_read_number_x_b3 p_word ()))
theorem smx_read_number {p_word : (List Chr)} {c : Str} (hv : T_read_number_x p_word = some c) : m_read_number [eS p_word] = .ex c := by
  refine run_sx (t := T_read_number_x p_word) ?_ hv
  unfold T_read_number_x D_read_number
  refine sx_env (e2 := [some (.fz (eS p_word)), none, none]) rfl ?_
  refine sx_one ?_
  refine sx_assoc ?_
  refine sx_iceS ?_
  refine sx_iceF rfl ?_
  refine sx_of (fun _ _ k => sg_set (o := (.fz (eS p_word))) (ev_varF (x := eS p_word) rfl) k) ?_
  refine sx_assoc ?_
  refine sx_bind fun v1 hv1 => ?_
  refine sx_ifs (ev_test (asO (.st (.fz (eB (decide (v1 = Tcs_2))))) (ev_bin (asO (.st (.fz (eS v1))) (ev_sl (ev_varF (x := eS p_word) rfl) ev_pn (ev_ps (ev_c (x := eI 1))) (t_slS (s := p_word) hv1))) (ev_cs cs_2) (t_eq (e := eS) (a := v1) (b := Tcs_2) epS (by decide) rfl rfl)))) (fun _ => ?_) (fun _ => ?_)
  · refine sx_assoc ?_
    refine sx_bind fun v2 hv2 => ?_
    refine sx_of (fun _ _ k => sg_set (o := (.fz (eS v2))) (asO (.st (.fz (eS v2))) (ev_sl (ev_varF (x := eS p_word) rfl) (ev_ps (ev_c (x := eI 1))) ev_pn (t_slS (s := p_word) hv2))) k) ?_
    refine sx_iceS ?_
    refine sx_iceF rfl ?_
    refine sx_skip ?_
    refine sx_assoc ?_
    refine sx_bind fun v3 hv3 => ?_
    refine sx_bind fun v6 hv6 => ?_
    refine sx_ifs (ev_orO (ev_notT (ev_test (asO (.st (.fz (eB ((decide ((1 : Int) ≤ v3)) && (decide (v3 ≤ (60 : Int))))))) (ev_chain (ev_c (x := eI 1)) (asO (.st (.fz (eI v3))) (ev_callB (ev_cons (ev_varF (x := eS v2) rfl) ev_nil) (t_lenS (s := v2) hv3))) (ev_c (x := eI 60)) t_le t_le)))) (fun _ => (oe_bind fun v4 hv4 => (oe_bind fun v5 hv5 => (oe_id (ev_and (ev_test (asO (.st (.fz (eB (decide (v5 = (48 : Chr)))))) (ev_bin (asO (.st (.fz (eC v5))) (ev_sub (ev_varF (x := eS v2) rfl) (ev_c (x := eI 0)) rfl (t_atS (s := v2) hv5))) (ev_cc (c := 48) rfl) (t_eq (e := eC) (a := v5) (b := (48 : Chr)) epC (by decide) rfl rfl)))) (ev_test (asO (.st (.fz (eB (!(decide (p_word = Tcs_4)))))) (ev_bin (ev_varF (x := eS p_word) rfl) (ev_cs cs_4) (t_ne (e := eS) (a := p_word) (b := Tcs_4) epS (by decide) rfl rfl))))))))) hv6) (fun _ => ?_) (fun _ => ?_)
    · exact sx_raise
    · refine sx_skip ?_
      refine sx_assoc ?_
      refine sx_iceS ?_
      refine sx_iceF rfl ?_
      refine sx_for (eA := eC) (fun (s1 : Unit) (e : VEnv) => ∃ j1 : Option OV, e = [some (.fz (eS p_word)), some (.fz (eS v2)), j1]) (tb := T_read_number_x_b1) (fx := T_read_number_x_b1x) (it_str (ev_varF (x := eS v2) rfl)) ⟨_, rfl⟩ (fun x1 s1 e hE => ?_)
      obtain ⟨j1, rfl⟩ := hE
      refine ⟨_, rfl, ?_, ?_⟩
      · unfold T_read_number_x_b1
        refine sg_one ?_
        refine sg_ifs (ev_test (asO (.st (.fz (eB (!(decide (x1 ∈ Tcs_5)))))) (ev_bin (ev_varF (x := eC x1) rfl) (ev_cs cs_5) (t_ninS (c := x1) (s := Tcs_5) rfl rfl)))) (fun _ => ?_) (fun _ => ?_)
        · exact sg_none
        · refine sg_skip ?_
          exact sg_nx ⟨_, rfl⟩
      · unfold T_read_number_x_b1x
        refine sx_one ?_
        refine sx_ifs (ev_test (asO (.st (.fz (eB (!(decide (x1 ∈ Tcs_5)))))) (ev_bin (ev_varF (x := eC x1) rfl) (ev_cs cs_5) (t_ninS (c := x1) (s := Tcs_5) rfl rfl)))) (fun _ => ?_) (fun _ => ?_)
        · exact sx_raise
        · exact sx_none
  · refine sx_skip ?_
    refine sx_assoc ?_
    refine sx_bind fun v7 hv7 => ?_
    refine sx_bind fun v10 hv10 => ?_
    refine sx_ifs (ev_orO (ev_notT (ev_test (asO (.st (.fz (eB ((decide ((1 : Int) ≤ v7)) && (decide (v7 ≤ (60 : Int))))))) (ev_chain (ev_c (x := eI 1)) (asO (.st (.fz (eI v7))) (ev_callB (ev_cons (ev_varF (x := eS p_word) rfl) ev_nil) (t_lenS (s := p_word) hv7))) (ev_c (x := eI 60)) t_le t_le)))) (fun _ => (oe_bind fun v8 hv8 => (oe_bind fun v9 hv9 => (oe_id (ev_and (ev_test (asO (.st (.fz (eB (decide (v9 = (48 : Chr)))))) (ev_bin (asO (.st (.fz (eC v9))) (ev_sub (ev_varF (x := eS p_word) rfl) (ev_c (x := eI 0)) rfl (t_atS (s := p_word) hv9))) (ev_cc (c := 48) rfl) (t_eq (e := eC) (a := v9) (b := (48 : Chr)) epC (by decide) rfl rfl)))) (ev_test (asO (.st (.fz (eB (!(decide (p_word = Tcs_4)))))) (ev_bin (ev_varF (x := eS p_word) rfl) (ev_cs cs_4) (t_ne (e := eS) (a := p_word) (b := Tcs_4) epS (by decide) rfl rfl))))))))) hv10) (fun _ => ?_) (fun _ => ?_)
    · exact sx_raise
    · refine sx_skip ?_
      refine sx_assoc ?_
      refine sx_iceS ?_
      refine sx_iceF rfl ?_
      refine sx_for (eA := eC) (fun (s2 : Unit) (e : VEnv) => ∃ j2 : Option OV, e = [some (.fz (eS p_word)), some (.fz (eS p_word)), j2]) (tb := T_read_number_x_b3) (fx := T_read_number_x_b3x) (it_str (ev_varF (x := eS p_word) rfl)) ⟨_, rfl⟩ (fun x2 s2 e hE => ?_)
      obtain ⟨j2, rfl⟩ := hE
      refine ⟨_, rfl, ?_, ?_⟩
      · unfold T_read_number_x_b3
        refine sg_one ?_
        refine sg_ifs (ev_test (asO (.st (.fz (eB (!(decide (x2 ∈ Tcs_5)))))) (ev_bin (ev_varF (x := eC x2) rfl) (ev_cs cs_5) (t_ninS (c := x2) (s := Tcs_5) rfl rfl)))) (fun _ => ?_) (fun _ => ?_)
        · exact sg_none
        · refine sg_skip ?_
          exact sg_nx ⟨_, rfl⟩
      · unfold T_read_number_x_b3x
        refine sx_one ?_
        refine sx_ifs (ev_test (asO (.st (.fz (eB (!(decide (x2 ∈ Tcs_5)))))) (ev_bin (ev_varF (x := eC x2) rfl) (ev_cs cs_5) (t_ninS (c := x2) (s := Tcs_5) rfl rfl)))) (fun _ => ?_) (fun _ => ?_)
        · exact sx_raise
        · exact sx_none
noncomputable def T_in_order_b1 (x1 : (List Int)) (s1 : (List (List Int))) : Option (List (List Int)) :=
  (if (decide (s1 = ([] : List (List Int)))) then some true else (atI s1 ((s1.length : Int) - (1 : Int))).bind fun v2 => some (!(decide (v2 = x1)))).bind fun v3 => (if v3 then (appG s1 x1).bind fun v4 => some v4 else some s1)
noncomputable def T_in_order (p_rows : (List (List Int))) : Option (List (List Int)) :=
  (srt (eT eI) p_rows).bind fun v1 => (forT T_in_order_b1 v1 ([] : List (List Int))).bind fun s2 => some s2
theorem sm_in_order {p_rows : (List (List Int))} {v : (List (List Int))} (hv : T_in_order p_rows = some v) : m_in_order [(eL (eT eI)) p_rows] = .ok ((oL (eT eI)) v) := by
  refine run_sg (O := (oL (eT eI))) (t := T_in_order p_rows) ?_ hv
  unfold T_in_order D_in_order
  refine sg_env (e2 := [some (.fz ((eL (eT eI)) p_rows)), none, none]) rfl ?_
  refine sg_one ?_
  refine sg_assoc ?_
  refine sg_set (o := (.ol (List.map (eT eI) ([] : List (List Int))))) (asO (.st (.ol (List.map (eT eI) ([] : List (List Int))))) (ev_list ev_nil (Nat.le_of_ble_eq_true rfl) rfl)) ?_
  refine sg_assoc ?_
  refine sg_bind fun v1 hv1 => ?_
  refine sg_seq (sg_for (eA := (eT eI)) (fun (s1 : (List (List Int))) (e : VEnv) => ∃ j1 : Option OV, e = [some (.fz ((eL (eT eI)) p_rows)), some (.ol (List.map (eT eI) s1)), j1]) (tb := T_in_order_b1) (it_items (e := (eT eI)) (xs := v1) (.inl (asO (.st (.ol (List.map (eT eI) v1))) (ev_callB (ev_cons (ev_varF (x := (eL (eT eI)) p_rows) rfl) ev_nil) (t_sort (e := (eT eI)) (xs := p_rows) (.inr rfl) hv1))))) ⟨_, rfl⟩ (fun x1 s1 e hE => ?_)) (fun s2 e hE => ?_)
  · obtain ⟨j1, rfl⟩ := hE
    refine ⟨_, rfl, ?_⟩
    unfold T_in_order_b1
    refine sg_one ?_
    refine sg_bind fun v3 hv3 => ?_
    refine sg_ifs (ev_orO (ev_test (asO (.st (.fz (eB (decide (s1 = ([] : List (List Int))))))) (ev_bin (ev_varO (o := (.ol (List.map (eT eI) s1))) rfl rfl) (asO (.st (.ol (List.map (eT eI) ([] : List (List Int))))) (ev_list ev_nil (Nat.le_of_ble_eq_true rfl) rfl)) (t_eq (e := (eL (eT eI))) (a := s1) (b := ([] : List (List Int))) (epL (epT epI)) (by decide) rfl rfl)))) (fun _ => (oe_bind fun v2 hv2 => (oe_id (ev_test (asO (.st (.fz (eB (!(decide (v2 = x1)))))) (ev_bin (asO (.st (.fz ((eT eI) v2))) (ev_sub (ev_varO (o := (.ol (List.map (eT eI) s1))) rfl rfl) (asO (.st (.fz (eI ((s1.length : Int) - (1 : Int))))) (ev_bin (asO (.st (.fz (eI (s1.length : Int)))) (ev_callB (ev_cons (ev_varO (o := (.ol (List.map (eT eI) s1))) rfl rfl) ev_nil) (t_lenL (e := (eT eI)) (xs := s1) (.inl rfl)))) (ev_c (x := eI 1)) e_sub)) rfl (t_atL (e := (eT eI)) (xs := s1) (.inl rfl) hv2))) (ev_varF (x := (eT eI) x1) rfl) (t_ne (e := (eT eI)) (a := v2) (b := x1) (epT epI) (by decide) rfl rfl))))))) hv3) (fun _ => ?_) (fun _ => ?_)
    · refine sg_iceS ?_
      refine sg_iceF rfl ?_
      refine sg_bind fun v4 hv4 => ?_
      refine sg_appL (e := (eT eI)) (xs := s1) (x := x1) rfl (ev_varF (x := (eT eI) x1) rfl) hv4 ?_
      exact sg_nx ⟨_, rfl⟩
    · refine sg_skip ?_
      exact sg_nx ⟨_, rfl⟩
  · obtain ⟨j2, rfl⟩ := hE
    exact sg_retVS (o := (.ol (List.map (eT eI) s2))) rfl (fun e => ⟨e, rfl⟩)
noncomputable def T_read_rows_b1 (x1 : (List Chr)) (s1 : (List (List Int))) : Option (List (List Int)) :=
  (splitG x1 Tcs_6).bind fun v5 => (lcG (fun x2 : (List Chr) => some true) (fun x2 => (T_read_number x2).bind fun v6 => some v6) v5).bind fun v7 => (if (List.length v5) ≤ BIG then some () else none).bind fun v8 => (appG s1 v7).bind fun v9 => some v9
noncomputable def T_read_rows_b2 (s2 : (List (List Int))) (x3 : (List Int)) (s3 : Unit) : Option (Ctl Unit (List (List Int))) :=
  (if (decide ((6 : Int) < (x3.length : Int))) then some true else (atI s2 (0 : Int)).bind fun v10 => some (!(decide ((x3.length : Int) = (v10.length : Int))))).bind fun v11 => (if v11 then none else some (.nx ()))
noncomputable def T_read_rows (p_text : FV) : Option (List (List Int)) :=
  (isaXG ["str"] p_text).bind fun v1 => (if (!v1) then none else (txt? p_text).bind fun v2 => (if (decide (v2 = Tcs_3)) then some ([] : List (List Int)) else (txt? p_text).bind fun v3 => (splitG v3 Tcs_1).bind fun v4 => (forT T_read_rows_b1 v4 ([] : List (List Int))).bind fun s2 => ((forC (T_read_rows_b2 s2) s2 ())).bind (behind (fun r => r) fun s4 => (if (decide ((60 : Int) < (s2.length : Int))) then none else (T_in_order s2).bind fun v12 => some v12))))
theorem sm_read_rows {p_text : FV} {v : (List (List Int))} (hv : T_read_rows p_text = some v) : m_read_rows [eX p_text] = .ok ((oL (eT eI)) v) := by
  refine run_sg (O := (oL (eT eI))) (t := T_read_rows p_text) ?_ hv
  unfold T_read_rows D_read_rows
  refine sg_env (e2 := [some (.fz (eX p_text)), none, none, none, none]) rfl ?_
  refine sg_one ?_
  refine sg_assoc ?_
  refine sg_bind fun v1 hv1 => ?_
  refine sg_ifs (ev_notT (ev_test (asO (.st (.fz (eB v1))) (ev_un (op := opIsa ["str"]) (ev_varF (x := eX p_text) rfl) (t_isaX (x := p_text) hv1))))) (fun _ => ?_) (fun _ => ?_)
  · exact sg_none
  · refine sg_skip ?_
    refine sg_assoc ?_
    refine sg_bind fun v2 hv2 => ?_
    refine sg_ifs (ev_test (asO (.st (.fz (eB (decide (v2 = Tcs_3))))) (ev_bin (unXS (x := p_text) (ev_varF (x := eX p_text) rfl) hv2) (ev_cs cs_3) (t_eq (e := eS) (a := v2) (b := Tcs_3) epS (by decide) rfl rfl)))) (fun _ => ?_) (fun _ => ?_)
    · exact sg_retS (o := (.ol (List.map (eT eI) ([] : List (List Int))))) (asO (.st (.ol (List.map (eT eI) ([] : List (List Int))))) (ev_list ev_nil (Nat.le_of_ble_eq_true rfl) rfl)) (fun e => ⟨e, rfl⟩)
    · refine sg_skip ?_
      refine sg_assoc ?_
      refine sg_set (o := (.ol (List.map (eT eI) ([] : List (List Int))))) (asO (.st (.ol (List.map (eT eI) ([] : List (List Int))))) (ev_list ev_nil (Nat.le_of_ble_eq_true rfl) rfl)) ?_
      refine sg_assoc ?_
      refine sg_bind fun v3 hv3 => ?_
      refine sg_bind fun v4 hv4 => ?_
      refine sg_seq (sg_for (eA := eS) (fun (s1 : (List (List Int))) (e : VEnv) => ∃ j1 : Option OV, e = [some (.fz (eX p_text)), some (.ol (List.map (eT eI) s1)), j1, none, none]) (tb := T_read_rows_b1) (it_items (e := eS) (xs := v4) (.inl (asO (.st (.ol (List.map eS v4))) (ev_meth (unXS (x := p_text) (ev_varF (x := eX p_text) rfl) hv3) rfl (ev_cons (ev_cs cs_1) ev_nil) (t_split (a := v3) (b := Tcs_1) hv4))))) ⟨_, rfl⟩ (fun x1 s1 e hE => ?_)) (fun s2 e hE => ?_)
      · obtain ⟨j1, rfl⟩ := hE
        refine ⟨_, rfl, ?_⟩
        unfold T_read_rows_b1
        refine sg_one ?_
        refine sg_bind fun v5 hv5 => ?_
        refine sg_bind fun v7 hv7 => ?_
        refine sg_bind fun v8 hv8 => ?_
        refine sg_bind fun v9 hv9 => ?_
        refine sg_appL (e := (eT eI)) (xs := s1) (x := v7) rfl (asO (.st (.fz ((eT eI) v7))) (ev_frzX (asO (.st (.fz ((eT eI) v7))) (ev_callB (ev_cons (asO (.st (.ol (List.map eI v7))) (ev_lcX (e := eS) (d := eI) (tc := fun x2 => some true) (te := fun x2 => (T_read_number x2).bind fun v6 => some v6) (items := v5) (ci_items (e := eS) (xs := v5) (asO (.st (.ol (List.map eS v5))) (ev_meth (ev_varF (x := eS x1) rfl) rfl (ev_cons (ev_cs cs_6) ev_nil) (t_split (a := x1) (b := Tcs_6) hv5))) sb_st (.inl rfl)) (fun x2 => ⟨_, rfl, (oe_id rfl), (oe_bind fun v6 hv6 => (oe_ret (asO (.st (.fz (eI v6))) (ev_frzX (asO (.st (.fz (eI v6))) (ev_callA (ev_cons (ev_varF (x := eS x2) rfl) ev_nil) (as := [eS x2]) rfl (sm_read_number hv6) (.inl rfl))) rfl))))⟩) (.inr puI) (ne_of_if hv8) hv7)) ev_nil) (t_tup (e := eI) (xs := v7) (.inl rfl)))) rfl)) hv9 ?_
        exact sg_nx ⟨_, rfl⟩
      · obtain ⟨j2, rfl⟩ := hE
        refine sg_assoc ?_
        refine sg_iceS ?_
        refine sg_ice (o := (.ol (List.map (eT eI) s2))) (x := (eL (eT eI)) s2) rfl rfl ?_
        refine sg_seqL (sg_forC (eA := (eT eI)) (fun (s3 : Unit) (e : VEnv) => ∃ j3 : Option OV, e = [some (.fz (eX p_text)), some (.fz ((eL (eT eI)) s2)), j2, j3, none]) (fun (s3 : Unit) (e : VEnv) => ∃ j3 : Option OV, e = [some (.fz (eX p_text)), some (.fz ((eL (eT eI)) s2)), j2, j3, none]) ((oL (eT eI))) (tb := (T_read_rows_b2 s2)) (it_items (e := (eT eI)) (xs := s2) (.inr (.inl (ev_varF (x := (eL (eT eI)) s2) rfl)))) ⟨_, rfl⟩ (fun _ _ h => h) (fun x3 s3 e hE => ?_)) (fun r e => ⟨e, rfl⟩) (fun s4 e hE => ?_)
        · obtain ⟨j3, rfl⟩ := hE
          refine ⟨_, rfl, ?_⟩
          unfold T_read_rows_b2
          refine sg_one ?_
          refine sg_bind fun v11 hv11 => ?_
          refine sg_ifs (ev_orO (ev_test (asO (.st (.fz (eB (decide ((6 : Int) < (x3.length : Int)))))) (ev_bin (asO (.st (.fz (eI (x3.length : Int)))) (ev_callB (ev_cons (ev_varF (x := (eT eI) x3) rfl) ev_nil) (t_lenL (e := eI) (xs := x3) (.inr (.inr rfl))))) (ev_c (x := eI 6)) t_gt))) (fun _ => (oe_bind fun v10 hv10 => (oe_id (ev_test (asO (.st (.fz (eB (!(decide ((x3.length : Int) = (v10.length : Int))))))) (ev_bin (asO (.st (.fz (eI (x3.length : Int)))) (ev_callB (ev_cons (ev_varF (x := (eT eI) x3) rfl) ev_nil) (t_lenL (e := eI) (xs := x3) (.inr (.inr rfl))))) (asO (.st (.fz (eI (v10.length : Int)))) (ev_callB (ev_cons (asO (.st (.fz ((eT eI) v10))) (ev_sub (ev_varF (x := (eL (eT eI)) s2) rfl) (ev_c (x := eI 0)) rfl (t_atL (e := (eT eI)) (xs := s2) (.inr (.inl rfl)) hv10))) ev_nil) (t_lenL (e := eI) (xs := v10) (.inr (.inr rfl))))) (t_ne (e := eI) (a := (x3.length : Int)) (b := (v10.length : Int)) epI (by decide) rfl rfl))))))) hv11) (fun _ => ?_) (fun _ => ?_)
          · exact sg_none
          · refine sg_skip ?_
            exact sg_of rfl ⟨_, rfl, ⟨_, rfl⟩⟩
        · obtain ⟨j4, rfl⟩ := hE
          refine sg_assoc ?_
          refine sg_ifs (ev_test (asO (.st (.fz (eB (decide ((60 : Int) < (s2.length : Int)))))) (ev_bin (asO (.st (.fz (eI (s2.length : Int)))) (ev_callB (ev_cons (ev_varF (x := (eL (eT eI)) s2) rfl) ev_nil) (t_lenL (e := (eT eI)) (xs := s2) (.inr (.inl rfl))))) (ev_c (x := eI 60)) t_gt))) (fun _ => ?_) (fun _ => ?_)
          · exact sg_none
          · refine sg_skip ?_
            refine sg_bind fun v12 hv12 => ?_
            exact sg_retS (o := (.ol (List.map (eT eI) v12))) (asO (.st (.ol (List.map (eT eI) v12))) (ev_callA (ev_cons (ev_varF (x := (eL (eT eI)) s2) rfl) ev_nil) (as := [(eL (eT eI)) s2]) rfl (sm_in_order hv12) (.inl rfl))) (fun e => ⟨e, rfl⟩)
noncomputable def T_read_rows_x_b1 (x1 : (List Chr)) (s1 : (List (List Int))) : Option (List (List Int)) :=
  (splitG x1 Tcs_6).bind fun v5 => (lcG (fun x2 : (List Chr) => some true) (fun x2 => (T_read_number x2).bind fun v6 => some v6) v5).bind fun v7 => (if (List.length v5) ≤ BIG then some () else none).bind fun v8 => (appG s1 v7).bind fun v9 => some v9
noncomputable def T_read_rows_x_b1x (x1 : (List Chr)) (s1 : (List (List Int))) : Option Str :=
  (splitG x1 Tcs_6).bind fun v10 => (if (List.length v10) ≤ BIG then some () else none).bind fun v11 => (lcR (fun x3 : (List Chr) => (T_read_number x3).bind fun v12 => some v12) (fun x3 => (T_read_number_x x3)) v10)
noncomputable def T_read_rows_x_b3 (s2 : (List (List Int))) (x4 : (List Int)) (s3 : Unit) : Option Unit :=
  (if (decide ((6 : Int) < (x4.length : Int))) then some true else (atI s2 (0 : Int)).bind fun v13 => some (!(decide ((x4.length : Int) = (v13.length : Int))))).bind fun v14 => (if v14 then none else some ())
noncomputable def T_read_rows_x_b3x (s2 : (List (List Int))) (x4 : (List Int)) (s3 : Unit) : Option Str :=
  (if (decide ((6 : Int) < (x4.length : Int))) then some true else (atI s2 (0 : Int)).bind fun v15 => some (!(decide ((x4.length : Int) = (v15.length : Int))))).bind fun v16 => (if v16 then (some "NoText") else none)
noncomputable def T_read_rows_x (p_text : FV) : Option Str :=
  (isaXG ["str"] p_text).bind fun v1 => (if (!v1) then (some "NoText") else (txt? p_text).bind fun v2 => (if (decide (v2 = Tcs_3)) then none else (txt? p_text).bind fun v3 => (splitG v3 Tcs_1).bind fun v4 => orX (forX T_read_rows_x_b1x T_read_rows_x_b1 v4 ([] : List (List Int))) ((forT T_read_rows_x_b1 v4 ([] : List (List Int))).bind fun s2 => orX (forX (T_read_rows_x_b3x s2) (T_read_rows_x_b3 s2) s2 ()) ((forT (T_read_rows_x_b3 s2) s2 ()).bind fun s4 => (if (decide ((60 : Int) < (s2.length : Int))) then (some "NoText") else none)))))
theorem smx_read_rows {p_text : FV} {c : Str} (hv : T_read_rows_x p_text = some c) : m_read_rows [eX p_text] = .ex c := by
  refine run_sx (t := T_read_rows_x p_text) ?_ hv
  unfold T_read_rows_x D_read_rows
  refine sx_env (e2 := [some (.fz (eX p_text)), none, none, none, none]) rfl ?_
  refine sx_one ?_
  refine sx_assoc ?_
  refine sx_bind fun v1 hv1 => ?_
  refine sx_ifs (ev_notT (ev_test (asO (.st (.fz (eB v1))) (ev_un (op := opIsa ["str"]) (ev_varF (x := eX p_text) rfl) (t_isaX (x := p_text) hv1))))) (fun _ => ?_) (fun _ => ?_)
  · exact sx_raise
  · refine sx_skip ?_
    refine sx_assoc ?_
    refine sx_bind fun v2 hv2 => ?_
    refine sx_ifs (ev_test (asO (.st (.fz (eB (decide (v2 = Tcs_3))))) (ev_bin (unXS (x := p_text) (ev_varF (x := eX p_text) rfl) hv2) (ev_cs cs_3) (t_eq (e := eS) (a := v2) (b := Tcs_3) epS (by decide) rfl rfl)))) (fun _ => ?_) (fun _ => ?_)
    · exact sx_none
    · refine sx_skip ?_
      refine sx_assoc ?_
      refine sx_of (fun _ _ k => sg_set (o := (.ol (List.map (eT eI) ([] : List (List Int))))) (asO (.st (.ol (List.map (eT eI) ([] : List (List Int))))) (ev_list ev_nil (Nat.le_of_ble_eq_true rfl) rfl)) k) ?_
      refine sx_assoc ?_
      refine sx_bind fun v3 hv3 => ?_
      refine sx_bind fun v4 hv4 => ?_
      refine sx_or (sx_for (eA := eS) (fun (s1 : (List (List Int))) (e : VEnv) => ∃ j1 : Option OV, e = [some (.fz (eX p_text)), some (.ol (List.map (eT eI) s1)), j1, none, none]) (tb := T_read_rows_x_b1) (fx := T_read_rows_x_b1x) (it_items (e := eS) (xs := v4) (.inl (asO (.st (.ol (List.map eS v4))) (ev_meth (unXS (x := p_text) (ev_varF (x := eX p_text) rfl) hv3) rfl (ev_cons (ev_cs cs_1) ev_nil) (t_split (a := v3) (b := Tcs_1) hv4))))) ⟨_, rfl⟩ (fun x1 s1 e hE => ?_)) (sx_seq (sg_for (eA := eS) (fun (s1 : (List (List Int))) (e : VEnv) => ∃ j1 : Option OV, e = [some (.fz (eX p_text)), some (.ol (List.map (eT eI) s1)), j1, none, none]) (tb := T_read_rows_x_b1) (it_items (e := eS) (xs := v4) (.inl (asO (.st (.ol (List.map eS v4))) (ev_meth (unXS (x := p_text) (ev_varF (x := eX p_text) rfl) hv3) rfl (ev_cons (ev_cs cs_1) ev_nil) (t_split (a := v3) (b := Tcs_1) hv4))))) ⟨_, rfl⟩ (fun x1 s1 e hE => ?_)) (fun s2 e hE => ?_))
      · obtain ⟨j1, rfl⟩ := hE
        refine ⟨_, rfl, ?_, ?_⟩
        · unfold T_read_rows_x_b1
          refine sg_one ?_
          refine sg_bind fun v5 hv5 => ?_
          refine sg_bind fun v7 hv7 => ?_
          refine sg_bind fun v8 hv8 => ?_
          refine sg_bind fun v9 hv9 => ?_
          refine sg_appL (e := (eT eI)) (xs := s1) (x := v7) rfl (asO (.st (.fz ((eT eI) v7))) (ev_frzX (asO (.st (.fz ((eT eI) v7))) (ev_callB (ev_cons (asO (.st (.ol (List.map eI v7))) (ev_lcX (e := eS) (d := eI) (tc := fun x2 => some true) (te := fun x2 => (T_read_number x2).bind fun v6 => some v6) (items := v5) (ci_items (e := eS) (xs := v5) (asO (.st (.ol (List.map eS v5))) (ev_meth (ev_varF (x := eS x1) rfl) rfl (ev_cons (ev_cs cs_6) ev_nil) (t_split (a := x1) (b := Tcs_6) hv5))) sb_st (.inl rfl)) (fun x2 => ⟨_, rfl, (oe_id rfl), (oe_bind fun v6 hv6 => (oe_ret (asO (.st (.fz (eI v6))) (ev_frzX (asO (.st (.fz (eI v6))) (ev_callA (ev_cons (ev_varF (x := eS x2) rfl) ev_nil) (as := [eS x2]) rfl (sm_read_number hv6) (.inl rfl))) rfl))))⟩) (.inr puI) (ne_of_if hv8) hv7)) ev_nil) (t_tup (e := eI) (xs := v7) (.inl rfl)))) rfl)) hv9 ?_
          exact sg_nx ⟨_, rfl⟩
        · unfold T_read_rows_x_b1x
          refine sx_one ?_
          refine sx_bind fun v10 hv10 => ?_
          refine sx_bind fun v11 hv11 => ?_
          intro c hc
          exact exApp rfl rfl (exFrz (exCallB (exLcX (e := eS) (d := eI) (te := fun x3 => (T_read_number x3).bind fun v12 => some v12) (tx := fun x3 => (T_read_number_x x3)) (items := v10) (ci_items (e := eS) (xs := v10) (asO (.st (.ol (List.map eS v10))) (ev_meth (ev_varF (x := eS x1) rfl) rfl (ev_cons (ev_cs cs_6) ev_nil) (t_split (a := x1) (b := Tcs_6) hv10))) sb_st (.inl rfl)) (fun x3 => ⟨_, rfl, (oe_bind fun v12 hv12 => (oe_ret (asO (.st (.fz (eI v12))) (ev_frzX (asO (.st (.fz (eI v12))) (ev_callA (ev_cons (ev_varF (x := eS x3) rfl) ev_nil) (as := [eS x3]) rfl (sm_read_number hv12) (.inl rfl))) rfl)))), fun c hc => (exFrz (sx_call (as := [eS x3]) (ev_cons (ev_varF (x := eS x3) rfl) ev_nil) (fvs_cons rfl fvs_nil) (smx_read_number hc)))⟩) (ne_of_if hv11) hc)))
      · obtain ⟨j1, rfl⟩ := hE
        refine ⟨_, rfl, ?_⟩
        unfold T_read_rows_x_b1
        refine sg_one ?_
        refine sg_bind fun v5 hv5 => ?_
        refine sg_bind fun v7 hv7 => ?_
        refine sg_bind fun v8 hv8 => ?_
        refine sg_bind fun v9 hv9 => ?_
        refine sg_appL (e := (eT eI)) (xs := s1) (x := v7) rfl (asO (.st (.fz ((eT eI) v7))) (ev_frzX (asO (.st (.fz ((eT eI) v7))) (ev_callB (ev_cons (asO (.st (.ol (List.map eI v7))) (ev_lcX (e := eS) (d := eI) (tc := fun x2 => some true) (te := fun x2 => (T_read_number x2).bind fun v6 => some v6) (items := v5) (ci_items (e := eS) (xs := v5) (asO (.st (.ol (List.map eS v5))) (ev_meth (ev_varF (x := eS x1) rfl) rfl (ev_cons (ev_cs cs_6) ev_nil) (t_split (a := x1) (b := Tcs_6) hv5))) sb_st (.inl rfl)) (fun x2 => ⟨_, rfl, (oe_id rfl), (oe_bind fun v6 hv6 => (oe_ret (asO (.st (.fz (eI v6))) (ev_frzX (asO (.st (.fz (eI v6))) (ev_callA (ev_cons (ev_varF (x := eS x2) rfl) ev_nil) (as := [eS x2]) rfl (sm_read_number hv6) (.inl rfl))) rfl))))⟩) (.inr puI) (ne_of_if hv8) hv7)) ev_nil) (t_tup (e := eI) (xs := v7) (.inl rfl)))) rfl)) hv9 ?_
        exact sg_nx ⟨_, rfl⟩
      · obtain ⟨j2, rfl⟩ := hE
        refine sx_assoc ?_
        refine sx_iceS ?_
        refine sx_ice (o := (.ol (List.map (eT eI) s2))) (x := (eL (eT eI)) s2) rfl rfl ?_
        refine sx_or (sx_for (eA := (eT eI)) (fun (s3 : Unit) (e : VEnv) => ∃ j3 : Option OV, e = [some (.fz (eX p_text)), some (.fz ((eL (eT eI)) s2)), j2, j3, none]) (tb := (T_read_rows_x_b3 s2)) (fx := (T_read_rows_x_b3x s2)) (it_items (e := (eT eI)) (xs := s2) (.inr (.inl (ev_varF (x := (eL (eT eI)) s2) rfl)))) ⟨_, rfl⟩ (fun x4 s3 e hE => ?_)) (sx_seq (sg_for (eA := (eT eI)) (fun (s3 : Unit) (e : VEnv) => ∃ j3 : Option OV, e = [some (.fz (eX p_text)), some (.fz ((eL (eT eI)) s2)), j2, j3, none]) (tb := (T_read_rows_x_b3 s2)) (it_items (e := (eT eI)) (xs := s2) (.inr (.inl (ev_varF (x := (eL (eT eI)) s2) rfl)))) ⟨_, rfl⟩ (fun x4 s3 e hE => ?_)) (fun s4 e hE => ?_))
        · obtain ⟨j3, rfl⟩ := hE
          refine ⟨_, rfl, ?_, ?_⟩
          · unfold T_read_rows_x_b3
            refine sg_one ?_
            refine sg_bind fun v14 hv14 => ?_
            refine sg_ifs (ev_orO (ev_test (asO (.st (.fz (eB (decide ((6 : Int) < (x4.length : Int)))))) (ev_bin (asO (.st (.fz (eI (x4.length : Int)))) (ev_callB (ev_cons (ev_varF (x := (eT eI) x4) rfl) ev_nil) (t_lenL (e := eI) (xs := x4) (.inr (.inr rfl))))) (ev_c (x := eI 6)) t_gt))) (fun _ => (oe_bind fun v13 hv13 => (oe_id (ev_test (asO (.st (.fz (eB (!(decide ((x4.length : Int) = (v13.length : Int))))))) (ev_bin (asO (.st (.fz (eI (x4.length : Int)))) (ev_callB (ev_cons (ev_varF (x := (eT eI) x4) rfl) ev_nil) (t_lenL (e := eI) (xs := x4) (.inr (.inr rfl))))) (asO (.st (.fz (eI (v13.length : Int)))) (ev_callB (ev_cons (asO (.st (.fz ((eT eI) v13))) (ev_sub (ev_varF (x := (eL (eT eI)) s2) rfl) (ev_c (x := eI 0)) rfl (t_atL (e := (eT eI)) (xs := s2) (.inr (.inl rfl)) hv13))) ev_nil) (t_lenL (e := eI) (xs := v13) (.inr (.inr rfl))))) (t_ne (e := eI) (a := (x4.length : Int)) (b := (v13.length : Int)) epI (by decide) rfl rfl))))))) hv14) (fun _ => ?_) (fun _ => ?_)
            · exact sg_none
            · refine sg_skip ?_
              exact sg_nx ⟨_, rfl⟩
          · unfold T_read_rows_x_b3x
            refine sx_one ?_
            refine sx_bind fun v16 hv16 => ?_
            refine sx_ifs (ev_orO (ev_test (asO (.st (.fz (eB (decide ((6 : Int) < (x4.length : Int)))))) (ev_bin (asO (.st (.fz (eI (x4.length : Int)))) (ev_callB (ev_cons (ev_varF (x := (eT eI) x4) rfl) ev_nil) (t_lenL (e := eI) (xs := x4) (.inr (.inr rfl))))) (ev_c (x := eI 6)) t_gt))) (fun _ => (oe_bind fun v15 hv15 => (oe_id (ev_test (asO (.st (.fz (eB (!(decide ((x4.length : Int) = (v15.length : Int))))))) (ev_bin (asO (.st (.fz (eI (x4.length : Int)))) (ev_callB (ev_cons (ev_varF (x := (eT eI) x4) rfl) ev_nil) (t_lenL (e := eI) (xs := x4) (.inr (.inr rfl))))) (asO (.st (.fz (eI (v15.length : Int)))) (ev_callB (ev_cons (asO (.st (.fz ((eT eI) v15))) (ev_sub (ev_varF (x := (eL (eT eI)) s2) rfl) (ev_c (x := eI 0)) rfl (t_atL (e := (eT eI)) (xs := s2) (.inr (.inl rfl)) hv15))) ev_nil) (t_lenL (e := eI) (xs := v15) (.inr (.inr rfl))))) (t_ne (e := eI) (a := (x4.length : Int)) (b := (v15.length : Int)) epI (by decide) rfl rfl))))))) hv16) (fun _ => ?_) (fun _ => ?_)
            · exact sx_raise
            · exact sx_none
        · obtain ⟨j3, rfl⟩ := hE
          refine ⟨_, rfl, ?_⟩
          unfold T_read_rows_x_b3
          refine sg_one ?_
          refine sg_bind fun v14 hv14 => ?_
          refine sg_ifs (ev_orO (ev_test (asO (.st (.fz (eB (decide ((6 : Int) < (x4.length : Int)))))) (ev_bin (asO (.st (.fz (eI (x4.length : Int)))) (ev_callB (ev_cons (ev_varF (x := (eT eI) x4) rfl) ev_nil) (t_lenL (e := eI) (xs := x4) (.inr (.inr rfl))))) (ev_c (x := eI 6)) t_gt))) (fun _ => (oe_bind fun v13 hv13 => (oe_id (ev_test (asO (.st (.fz (eB (!(decide ((x4.length : Int) = (v13.length : Int))))))) (ev_bin (asO (.st (.fz (eI (x4.length : Int)))) (ev_callB (ev_cons (ev_varF (x := (eT eI) x4) rfl) ev_nil) (t_lenL (e := eI) (xs := x4) (.inr (.inr rfl))))) (asO (.st (.fz (eI (v13.length : Int)))) (ev_callB (ev_cons (asO (.st (.fz ((eT eI) v13))) (ev_sub (ev_varF (x := (eL (eT eI)) s2) rfl) (ev_c (x := eI 0)) rfl (t_atL (e := (eT eI)) (xs := s2) (.inr (.inl rfl)) hv13))) ev_nil) (t_lenL (e := eI) (xs := v13) (.inr (.inr rfl))))) (t_ne (e := eI) (a := (x4.length : Int)) (b := (v13.length : Int)) epI (by decide) rfl rfl))))))) hv14) (fun _ => ?_) (fun _ => ?_)
          · exact sg_none
          · refine sg_skip ?_
            exact sg_nx ⟨_, rfl⟩
        · obtain ⟨j4, rfl⟩ := hE
          refine sx_assoc ?_
          refine sx_ifs (ev_test (asO (.st (.fz (eB (decide ((60 : Int) < (s2.length : Int)))))) (ev_bin (asO (.st (.fz (eI (s2.length : Int)))) (ev_callB (ev_cons (ev_varF (x := (eL (eT eI)) s2) rfl) ev_nil) (t_lenL (e := (eT eI)) (xs := s2) (.inr (.inl rfl))))) (ev_c (x := eI 60)) t_gt))) (fun _ => ?_) (fun _ => ?_)
          · exact sx_raise
          · exact sx_none
noncomputable def T__law_whole (p_found : Int) : Option Bool :=
  some (true && (!false))
theorem sm__law_whole {p_found : Int} {v : Bool} (hv : T__law_whole p_found = some v) : m__law_whole [eI p_found] = .ok ((oF eB) v) := by
  refine run_sg (O := (oF eB)) (t := T__law_whole p_found) ?_ hv
  unfold T__law_whole D__law_whole
  refine sg_env (e2 := [some (.fz (eI p_found))]) rfl ?_
  refine sg_one ?_
  exact sg_retS (o := (.fz (eB (true && (!false))))) (asO (.st (.fz (eB (true && (!false))))) (ev_andV (asO (.st (.fz (eB true))) (ev_un (op := opIsa ["int"]) (ev_varF (x := eI p_found) rfl) rfl)) (ev_dB (ev_notT (ev_test (asO (.st (.fz (eB false))) (ev_un (op := opIsa ["bool"]) (ev_varF (x := eI p_found) rfl) rfl))))))) (fun e => ⟨e, rfl⟩)
noncomputable def T__law_right_b1 (x1 : (List Int)) (s1 : Unit) : Option (Ctl Unit Bool) :=
  (if (!true) then some true else (lcG (fun x2 : Int => (T__law_whole x2).bind fun v10 => some (!v10)) (fun x2 => some x2) x1).bind fun v11 => some (!(decide (v11 = ([] : List Int))))).bind fun v12 => (if v12 then some (.rt false) else some (.nx ()))
noncomputable def T__law_right (p_text_here : FV) : Option Bool :=
  (T__law_told p_text_here).bind fun v1 => (tryA ["NoText"] (T_read_rows p_text_here) (T_read_rows_x p_text_here)).bind fun v2 => (if v1.isNone then (isEG [("NoText" , false)] v2.2).bind fun v3 => (if v3 then some false else (isEG [("NoText" , true)] v2.2).bind fun v4 => (if v4 then (isEG (List.map (fun c => (c , true)) ["NoText"]) v2.2).bind fun v5 => some v5 else some false).bind fun v6 => some v6) else (if v2.2.isSome then some true else (v2.1).bind fun v7 => some ((!true) || (!(decide (v2.1 = v1))))).bind fun v8 => (if v8 then some false else (v2.1).bind fun v9 => ((forC T__law_right_b1 v9 ())).bind (behind (fun r => r) fun s2 => some true)))
theorem sm__law_right {p_text_here : FV} {v : Bool} (hv : T__law_right p_text_here = some v) : m__law_right [eX p_text_here] = .ok ((oF eB) v) := by
  refine run_sg (O := (oF eB)) (t := T__law_right p_text_here) ?_ hv
  unfold T__law_right D__law_right
  refine sg_env (e2 := [some (.fz (eX p_text_here)), none, none, none, none, none, none]) rfl ?_
  refine sg_one ?_
  refine sg_assoc ?_
  refine sg_bind fun v1 hv1 => ?_
  refine sg_set (o := (oO (oL (eT eI)) v1)) (asO (.st (oO (oL (eT eI)) v1)) (ev_callA (ev_cons (ev_varF (x := eX p_text_here) rfl) ev_nil) (as := [eX p_text_here]) rfl (sm__law_told hv1) (.inl rfl))) ?_
  refine sg_assoc ?_
  refine sg_iceS ?_
  refine sg_ice (o := (oO (oL (eT eI)) v1)) (x := (eO (eL (eT eI))) v1) rfl (fvO_of (e := (eL (eT eI))) (ov := (oL (eT eI))) (fun _ => rfl) _) ?_
  refine sg_set (o := (.fz (eU ()))) (ev_c (x := eU ())) ?_
  refine sg_assoc ?_
  refine sg_set (o := (.fz (eU ()))) (ev_c (x := eU ())) ?_
  refine sg_assoc ?_
  refine sg_bind fun v2 hv2 => ?_
  refine sg_tryA (e := (eL (eT eI))) (v := v2) rfl rfl rfl (by decide) (try_callA (L := ["NoText"]) (e := (eL (eT eI))) (ev_cons (ev_varF (x := eX p_text_here) rfl) ev_nil) (as := [eX p_text_here]) rfl rfl (fun _ => rfl) (fun _ h => sm_read_rows h) (fun _ h => smx_read_rows h) hv2) ?_
  refine sg_assoc ?_
  refine sg_ifs (ev_test (asO (.st (.fz (eB v1.isNone))) (ev_un (ev_varF (x := (eO (eL (eT eI))) v1) rfl) (t_isN (e := (eL (eT eI))) (v := v1) nnL rfl)))) (fun _ => ?_) (fun _ => ?_)
  · refine sg_assoc ?_
    refine sg_bind fun v3 hv3 => ?_
    refine sg_ifs (ev_test (asO (.st (.fz (eB v3))) (ev_un (ev_varF (x := (eO eQ) v2.2) rfl) (t_isE (tab := [("NoText" , false)]) (v := v2.2) hv3)))) (fun _ => ?_) (fun _ => ?_)
    · exact sg_retS (o := (.fz (eB false))) (ev_c (x := eB false)) (fun e => ⟨e, rfl⟩)
    · refine sg_skip ?_
      refine sg_bind fun v4 hv4 => ?_
      refine sg_bind fun v6 hv6 => ?_
      exact sg_retS (o := (.fz (eB v6))) (ev_andVO (asO (.st (.fz (eB v4))) (ev_un (ev_varF (x := (eO eQ) v2.2) rfl) (t_isE (tab := [("NoText" , true)]) (v := v2.2) hv4))) (fun _ => (oe_bind fun v5 hv5 => (oe_ret (asO (.st (.fz (eB v5))) (ev_un (ev_varF (x := (eO eQ) v2.2) rfl) (t_isE (tab := (List.map (fun c => (c , true)) ["NoText"])) (v := v2.2) hv5)))))) hv6) (fun e => ⟨e, rfl⟩)
  · refine sg_skip ?_
    refine sg_assoc ?_
    refine sg_bind fun v8 hv8 => ?_
    refine sg_ifs (ev_orO (ev_test (asO (.st (.fz (eB v2.2.isSome))) (ev_un (ev_varF (x := (eO eQ) v2.2) rfl) (t_notN (e := eQ) (v := v2.2) nnQ rfl)))) (fun _ => (oe_bind fun v7 hv7 => (oe_id (ev_or (ev_notT (ev_test (asO (.st (.fz (eB true))) (ev_un (op := opIsa ["list"]) (unO (e := (eL (eT eI))) (v := v2.1) (ev_varF (x := (eO (eL (eT eI))) v2.1) rfl) hv7) rfl)))) (ev_test (asO (.st (.fz (eB (!(decide (v2.1 = v1)))))) (ev_bin (ev_varF (x := (eO (eL (eT eI))) v2.1) rfl) (ev_varF (x := (eO (eL (eT eI))) v1) rfl) (t_ne (e := (eO (eL (eT eI)))) (a := v2.1) (b := v1) (epO (epL (epT epI)) nnL) (by decide) rfl rfl)))))))) hv8) (fun _ => ?_) (fun _ => ?_)
    · exact sg_retS (o := (.fz (eB false))) (ev_c (x := eB false)) (fun e => ⟨e, rfl⟩)
    · refine sg_skip ?_
      refine sg_assoc ?_
      refine sg_iceS ?_
      refine sg_iceF rfl ?_
      refine sg_bind fun v9 hv9 => ?_
      refine sg_seqL (sg_forC (eA := (eT eI)) (fun (s1 : Unit) (e : VEnv) => ∃ j1 : Option OV, e = [some (.fz (eX p_text_here)), some (.fz ((eO (eL (eT eI))) v1)), some (.fz ((eO eQ) v2.2)), some (.fz ((eO (eL (eT eI))) v2.1)), none, j1, none]) (fun (s1 : Unit) (e : VEnv) => ∃ j1 : Option OV, e = [some (.fz (eX p_text_here)), some (.fz ((eO (eL (eT eI))) v1)), some (.fz ((eO eQ) v2.2)), some (.fz ((eO (eL (eT eI))) v2.1)), none, j1, none]) ((oF eB)) (tb := T__law_right_b1) (it_items (e := (eT eI)) (xs := v9) (.inr (.inl (unO (e := (eL (eT eI))) (v := v2.1) (ev_varF (x := (eO (eL (eT eI))) v2.1) rfl) hv9)))) ⟨_, rfl⟩ (fun _ _ h => h) (fun x1 s1 e hE => ?_)) (fun r e => ⟨e, rfl⟩) (fun s2 e hE => ?_)
      · obtain ⟨j1, rfl⟩ := hE
        refine ⟨_, rfl, ?_⟩
        unfold T__law_right_b1
        refine sg_one ?_
        refine sg_bind fun v12 hv12 => ?_
        refine sg_ifs (ev_orO (ev_notT (ev_test (asO (.st (.fz (eB true))) (ev_un (op := opIsa ["tuple"]) (ev_varF (x := (eT eI) x1) rfl) rfl)))) (fun _ => (oe_bind fun v11 hv11 => (oe_id (ev_test (asO (.st (.fz (eB (!(decide (v11 = ([] : List Int))))))) (ev_bin (asO (.st (.ol (List.map eI v11))) (ev_lc (e := eI) (d := eI) (tc := fun x2 => (T__law_whole x2).bind fun v10 => some (!v10)) (te := fun x2 => some x2) (items := x1) (ci_items (e := eI) (xs := x1) (ev_varF (x := (eT eI) x1) rfl) sb_st (.inr rfl)) (fun x2 => ⟨_, rfl, (oe_bind fun v10 hv10 => (oe_id (ev_notT (ev_test (asO (.st (.fz (eB v10))) (ev_callA (ev_cons (ev_varF (x := eI x2) rfl) ev_nil) (as := [eI x2]) rfl (sm__law_whole hv10) (.inl rfl))))))), (oe_ret (ev_varF (x := eI x2) rfl))⟩) (.inl (afz_F (afz_F (afz_F (afz_F (afz_N (afz_F (afz_N afz_nil)))))))) hv11)) (asO (.st (.ol (List.map eI ([] : List Int)))) (ev_list ev_nil (Nat.le_of_ble_eq_true rfl) rfl)) (t_ne (e := (eL eI)) (a := v11) (b := ([] : List Int)) (epL epI) (by decide) rfl rfl))))))) hv12) (fun _ => ?_) (fun _ => ?_)
        · exact sg_retS (o := (.fz (eB false))) (ev_c (x := eB false)) (fun e => ⟨e, rfl⟩)
        · refine sg_skip ?_
          exact sg_of rfl ⟨_, rfl, ⟨_, rfl⟩⟩
      · obtain ⟨j2, rfl⟩ := hE
        exact sg_retS (o := (.fz (eB true))) (ev_c (x := eB true)) (fun e => ⟨e, rfl⟩)
noncomputable def T__law_odd (p_cell : Int) : Option FV :=
  (catG ([(eC (32 : Chr)), (eC (59 : Chr)), (eS Tcs_1), (eS Tcs_7), (eS Tcs_8), (eS Tcs_9), (eS Tcs_10), (eS Tcs_11), (eS Tcs_12), (eS Tcs_13), (eS Tcs_14), (eS Tcs_15), (eS Tcs_16), (eC (45 : Chr)), (eS Tcs_17)] : List FV) ([(eS Tcs_18), (eC (10 : Chr)), (eS Tcs_19), (eS Tcs_20), (eS Tcs_21), (eS Tcs_22), (eS Tcs_23), (eS (List.replicate 61 (57 : Chr))), (eC (97 : Chr)), (eU ()), (eI (7 : Int)), ((eL (eT eI)) ([([(1 : Int)] : List Int)] : List (List Int)))] : List FV)).bind fun v1 => (T__law_mix p_cell (30 : Int)).bind fun v2 => (atI v1 (v2 % (27 : Int))).bind fun v3 => some v3
theorem sm__law_odd {p_cell : Int} {v : FV} (hv : T__law_odd p_cell = some v) : m__law_odd [eI p_cell] = .ok ((oF eX) v) := by
  refine run_sg (O := (oF eX)) (t := T__law_odd p_cell) ?_ hv
  unfold T__law_odd D__law_odd
  refine sg_env (e2 := [some (.fz (eI p_cell)), none]) rfl ?_
  refine sg_one ?_
  refine sg_assoc ?_
  refine sg_set (o := (.ol (List.map eX ([(eC (32 : Chr)), (eC (59 : Chr)), (eS Tcs_1), (eS Tcs_7), (eS Tcs_8), (eS Tcs_9), (eS Tcs_10), (eS Tcs_11), (eS Tcs_12), (eS Tcs_13), (eS Tcs_14), (eS Tcs_15), (eS Tcs_16), (eC (45 : Chr)), (eS Tcs_17)] : List FV)))) (asO (.st (.ol (List.map eX ([(eC (32 : Chr)), (eC (59 : Chr)), (eS Tcs_1), (eS Tcs_7), (eS Tcs_8), (eS Tcs_9), (eS Tcs_10), (eS Tcs_11), (eS Tcs_12), (eS Tcs_13), (eS Tcs_14), (eS Tcs_15), (eS Tcs_16), (eC (45 : Chr)), (eS Tcs_17)] : List FV)))) (ev_list (ev_cons (ev_cc (c := 32) rfl) (ev_cons (ev_cc (c := 59) rfl) (ev_cons (ev_cs cs_1) (ev_cons (ev_cs cs_7) (ev_cons (ev_cs cs_8) (ev_cons (ev_cs cs_9) (ev_cons (ev_cs cs_10) (ev_cons (ev_cs cs_11) (ev_cons (ev_cs cs_12) (ev_cons (ev_cs cs_13) (ev_cons (ev_cs cs_14) (ev_cons (ev_cs cs_15) (ev_cons (ev_cs cs_16) (ev_cons (ev_cc (c := 45) rfl) (ev_cons (ev_cs cs_17) ev_nil))))))))))))))) (Nat.le_of_ble_eq_true rfl) rfl)) ?_
  refine sg_assoc ?_
  refine sg_iceS ?_
  refine sg_ice (o := (.ol (List.map eX ([(eC (32 : Chr)), (eC (59 : Chr)), (eS Tcs_1), (eS Tcs_7), (eS Tcs_8), (eS Tcs_9), (eS Tcs_10), (eS Tcs_11), (eS Tcs_12), (eS Tcs_13), (eS Tcs_14), (eS Tcs_15), (eS Tcs_16), (eC (45 : Chr)), (eS Tcs_17)] : List FV)))) (x := (eL eX) ([(eC (32 : Chr)), (eC (59 : Chr)), (eS Tcs_1), (eS Tcs_7), (eS Tcs_8), (eS Tcs_9), (eS Tcs_10), (eS Tcs_11), (eS Tcs_12), (eS Tcs_13), (eS Tcs_14), (eS Tcs_15), (eS Tcs_16), (eC (45 : Chr)), (eS Tcs_17)] : List FV)) rfl rfl ?_
  refine sg_bind fun v1 hv1 => ?_
  refine sg_set (o := (.ol (List.map eX v1))) (asO (.st (.ol (List.map eX v1))) (ev_bin (ev_varF (x := (eL eX) ([(eC (32 : Chr)), (eC (59 : Chr)), (eS Tcs_1), (eS Tcs_7), (eS Tcs_8), (eS Tcs_9), (eS Tcs_10), (eS Tcs_11), (eS Tcs_12), (eS Tcs_13), (eS Tcs_14), (eS Tcs_15), (eS Tcs_16), (eC (45 : Chr)), (eS Tcs_17)] : List FV)) rfl) (asO (.st (.ol (List.map eX ([(eS Tcs_18), (eC (10 : Chr)), (eS Tcs_19), (eS Tcs_20), (eS Tcs_21), (eS Tcs_22), (eS Tcs_23), (eS (List.replicate 61 (57 : Chr))), (eC (97 : Chr)), (eU ()), (eI (7 : Int)), ((eL (eT eI)) ([([(1 : Int)] : List Int)] : List (List Int)))] : List FV)))) (ev_list (ev_cons (ev_cs cs_18) (ev_cons (ev_cc (c := 10) rfl) (ev_cons (ev_cs cs_19) (ev_cons (ev_cs cs_20) (ev_cons (ev_cs cs_21) (ev_cons (ev_cs cs_22) (ev_cons (ev_cs cs_23) (ev_cons (asO (.st (.fz (eS (List.replicate 61 (57 : Chr))))) (ev_frzX (asO (.st (.fz (eS (List.replicate 61 (57 : Chr))))) (ev_bin (ev_cc (c := 57) rfl) (ev_c (x := eI 61)) (t_repS (c := (57 : Chr)) (k := 61) (by decide)))) rfl)) (ev_cons (ev_cc (c := 97) rfl) (ev_cons (ev_c (x := eU ())) (ev_cons (ev_c (x := eI 7)) (ev_cons (asO (.st (.fz ((eL (eT eI)) ([([(1 : Int)] : List Int)] : List (List Int))))) (ev_frzX (o := (.ol (List.map (eT eI) ([([(1 : Int)] : List Int)] : List (List Int))))) (asO (.st (.ol (List.map (eT eI) ([([(1 : Int)] : List Int)] : List (List Int))))) (ev_list (ev_cons (asO (.st (.fz ((eT eI) ([(1 : Int)] : List Int)))) (ev_frzX (asO (.st (.fz ((eT eI) ([(1 : Int)] : List Int)))) (ev_tup (ev_cons (ev_c (x := eI 1)) ev_nil) (Nat.le_of_ble_eq_true rfl) rfl)) rfl)) ev_nil) (Nat.le_of_ble_eq_true rfl) rfl)) rfl)) ev_nil)))))))))))) (Nat.le_of_ble_eq_true rfl) rfl)) (t_catL (e := eX) (a := ([(eC (32 : Chr)), (eC (59 : Chr)), (eS Tcs_1), (eS Tcs_7), (eS Tcs_8), (eS Tcs_9), (eS Tcs_10), (eS Tcs_11), (eS Tcs_12), (eS Tcs_13), (eS Tcs_14), (eS Tcs_15), (eS Tcs_16), (eC (45 : Chr)), (eS Tcs_17)] : List FV)) (b := ([(eS Tcs_18), (eC (10 : Chr)), (eS Tcs_19), (eS Tcs_20), (eS Tcs_21), (eS Tcs_22), (eS Tcs_23), (eS (List.replicate 61 (57 : Chr))), (eC (97 : Chr)), (eU ()), (eI (7 : Int)), ((eL (eT eI)) ([([(1 : Int)] : List Int)] : List (List Int)))] : List FV)) (.inr rfl) (.inl rfl) hv1))) ?_
  refine sg_iceS ?_
  refine sg_ice (o := (.ol (List.map eX v1))) (x := (eL eX) v1) rfl rfl ?_
  refine sg_bind fun v2 hv2 => ?_
  refine sg_bind fun v3 hv3 => ?_
  exact sg_retS (o := (.fz (eX v3))) (asO (.st (.fz (eX v3))) (ev_sub (ev_varF (x := (eL eX) v1) rfl) (asO (.st (.fz (eI (v2 % (27 : Int))))) (ev_bin (asO (.st (.fz (eI v2))) (ev_callA (ev_cons (ev_varF (x := eI p_cell) rfl) (ev_cons (ev_c (x := eI 30)) ev_nil)) (as := [eI p_cell, eI (30 : Int)]) rfl (sm__law_mix hv2) (.inl rfl))) (ev_c (x := eI 27)) (e_mod (by decide)))) rfl (t_atL (e := eX) (xs := v1) (.inr (.inl rfl)) hv3))) (fun e => ⟨e, rfl⟩)
noncomputable def T__law_spoiled (p_text_here : (List Chr)) (p_cell : Int) : Option FV :=
  (T__law_mix p_cell (31 : Int)).bind fun v1 => (T__law_mix p_cell (32 : Int)).bind fun v2 => (lenS p_text_here).bind fun v3 => (modG v2 (v3 + (1 : Int))).bind fun v4 => (T__law_mix p_cell (33 : Int)).bind fun v5 => (lenS Tcs_24).bind fun v6 => (modG v5 v6).bind fun v7 => (atS' Tcs_24 v7).bind fun v8 => (if (decide ((v1 % (8 : Int)) = (0 : Int))) then (cutSG p_text_here none (some v4)).bind fun v9 => (catG v9 [v8]).bind fun v10 => (cutSG p_text_here (some v4) none).bind fun v11 => (catG v10 v11).bind fun v12 => some (eS v12) else (if (decide ((v1 % (8 : Int)) = (1 : Int))) then (cutSG p_text_here none (some v4)).bind fun v13 => (cutSG p_text_here (some (v4 + (1 : Int))) none).bind fun v14 => (catG v13 v14).bind fun v15 => some (eS v15) else (if (decide ((v1 % (8 : Int)) < (5 : Int))) then (cutSG p_text_here none (some v4)).bind fun v16 => (catG v16 [v8]).bind fun v17 => (cutSG p_text_here (some (v4 + (1 : Int))) none).bind fun v18 => (catG v17 v18).bind fun v19 => some (eS v19) else (if (decide ((v1 % (8 : Int)) = (5 : Int))) then (T__law_odd p_cell).bind fun v20 => some v20 else some (eS p_text_here)))))
theorem sm__law_spoiled {p_text_here : (List Chr)} {p_cell : Int} {v : FV} (hv : T__law_spoiled p_text_here p_cell = some v) : m__law_spoiled [eS p_text_here, eI p_cell] = .ok ((oF eX) v) := by
  refine run_sg (O := (oF eX)) (t := T__law_spoiled p_text_here p_cell) ?_ hv
  unfold T__law_spoiled D__law_spoiled
  refine sg_env (e2 := [some (.fz (eS p_text_here)), some (.fz (eI p_cell)), none, none, none, none]) rfl ?_
  refine sg_one ?_
  refine sg_assoc ?_
  refine sg_set (o := (.fz (eS Tcs_24))) (ev_cs cs_24) ?_
  refine sg_assoc ?_
  refine sg_bind fun v1 hv1 => ?_
  refine sg_set (o := (.fz (eI (v1 % (8 : Int))))) (asO (.st (.fz (eI (v1 % (8 : Int))))) (ev_bin (asO (.st (.fz (eI v1))) (ev_callA (ev_cons (ev_varF (x := eI p_cell) rfl) (ev_cons (ev_c (x := eI 31)) ev_nil)) (as := [eI p_cell, eI (31 : Int)]) rfl (sm__law_mix hv1) (.inl rfl))) (ev_c (x := eI 8)) (e_mod (by decide)))) ?_
  refine sg_assoc ?_
  refine sg_bind fun v2 hv2 => ?_
  refine sg_bind fun v3 hv3 => ?_
  refine sg_bind fun v4 hv4 => ?_
  refine sg_set (o := (.fz (eI v4))) (asO (.st (.fz (eI v4))) (ev_bin (asO (.st (.fz (eI v2))) (ev_callA (ev_cons (ev_varF (x := eI p_cell) rfl) (ev_cons (ev_c (x := eI 32)) ev_nil)) (as := [eI p_cell, eI (32 : Int)]) rfl (sm__law_mix hv2) (.inl rfl))) (asO (.st (.fz (eI (v3 + (1 : Int))))) (ev_bin (asO (.st (.fz (eI v3))) (ev_callB (ev_cons (ev_varF (x := eS p_text_here) rfl) ev_nil) (t_lenS (s := p_text_here) hv3))) (ev_c (x := eI 1)) e_add)) (t_modG (i := v2) (j := (v3 + (1 : Int))) hv4))) ?_
  refine sg_assoc ?_
  refine sg_bind fun v5 hv5 => ?_
  refine sg_bind fun v6 hv6 => ?_
  refine sg_bind fun v7 hv7 => ?_
  refine sg_bind fun v8 hv8 => ?_
  refine sg_set (o := (.fz (eC v8))) (asO (.st (.fz (eC v8))) (ev_sub (ev_varF (x := eS Tcs_24) rfl) (asO (.st (.fz (eI v7))) (ev_bin (asO (.st (.fz (eI v5))) (ev_callA (ev_cons (ev_varF (x := eI p_cell) rfl) (ev_cons (ev_c (x := eI 33)) ev_nil)) (as := [eI p_cell, eI (33 : Int)]) rfl (sm__law_mix hv5) (.inl rfl))) (asO (.st (.fz (eI v6))) (ev_callB (ev_cons (ev_varF (x := eS Tcs_24) rfl) ev_nil) (t_lenS (s := Tcs_24) hv6))) (t_modG (i := v5) (j := v6) hv7))) rfl (t_atS (s := Tcs_24) hv8))) ?_
  refine sg_assoc ?_
  refine sg_ifs (ev_test (asO (.st (.fz (eB (decide ((v1 % (8 : Int)) = (0 : Int)))))) (ev_bin (ev_varF (x := eI (v1 % (8 : Int))) rfl) (ev_c (x := eI 0)) (t_eq (e := eI) (a := (v1 % (8 : Int))) (b := (0 : Int)) epI (by decide) rfl rfl)))) (fun _ => ?_) (fun _ => ?_)
  · refine sg_bind fun v9 hv9 => ?_
    refine sg_bind fun v10 hv10 => ?_
    refine sg_bind fun v11 hv11 => ?_
    refine sg_bind fun v12 hv12 => ?_
    exact sg_retS (o := (.fz (eX (eS v12)))) (asO (.st (.fz (eS v12))) (ev_bin (asO (.st (.fz (eS v10))) (ev_bin (asO (.st (.fz (eS v9))) (ev_sl (ev_varF (x := eS p_text_here) rfl) ev_pn (ev_ps (ev_varF (x := eI v4) rfl)) (t_slS (s := p_text_here) hv9))) (ev_varF (x := eC v8) rfl) (t_catS (a := v9) (b := [v8]) hv10))) (asO (.st (.fz (eS v11))) (ev_sl (ev_varF (x := eS p_text_here) rfl) (ev_ps (ev_varF (x := eI v4) rfl)) ev_pn (t_slS (s := p_text_here) hv11))) (t_catS (a := v10) (b := v11) hv12))) (fun e => ⟨e, rfl⟩)
  · refine sg_skip ?_
    refine sg_assoc ?_
    refine sg_ifs (ev_test (asO (.st (.fz (eB (decide ((v1 % (8 : Int)) = (1 : Int)))))) (ev_bin (ev_varF (x := eI (v1 % (8 : Int))) rfl) (ev_c (x := eI 1)) (t_eq (e := eI) (a := (v1 % (8 : Int))) (b := (1 : Int)) epI (by decide) rfl rfl)))) (fun _ => ?_) (fun _ => ?_)
    · refine sg_bind fun v13 hv13 => ?_
      refine sg_bind fun v14 hv14 => ?_
      refine sg_bind fun v15 hv15 => ?_
      exact sg_retS (o := (.fz (eX (eS v15)))) (asO (.st (.fz (eS v15))) (ev_bin (asO (.st (.fz (eS v13))) (ev_sl (ev_varF (x := eS p_text_here) rfl) ev_pn (ev_ps (ev_varF (x := eI v4) rfl)) (t_slS (s := p_text_here) hv13))) (asO (.st (.fz (eS v14))) (ev_sl (ev_varF (x := eS p_text_here) rfl) (ev_ps (asO (.st (.fz (eI (v4 + (1 : Int))))) (ev_bin (ev_varF (x := eI v4) rfl) (ev_c (x := eI 1)) e_add))) ev_pn (t_slS (s := p_text_here) hv14))) (t_catS (a := v13) (b := v14) hv15))) (fun e => ⟨e, rfl⟩)
    · refine sg_skip ?_
      refine sg_assoc ?_
      refine sg_ifs (ev_test (asO (.st (.fz (eB (decide ((v1 % (8 : Int)) < (5 : Int)))))) (ev_bin (ev_varF (x := eI (v1 % (8 : Int))) rfl) (ev_c (x := eI 5)) t_lt))) (fun _ => ?_) (fun _ => ?_)
      · refine sg_bind fun v16 hv16 => ?_
        refine sg_bind fun v17 hv17 => ?_
        refine sg_bind fun v18 hv18 => ?_
        refine sg_bind fun v19 hv19 => ?_
        exact sg_retS (o := (.fz (eX (eS v19)))) (asO (.st (.fz (eS v19))) (ev_bin (asO (.st (.fz (eS v17))) (ev_bin (asO (.st (.fz (eS v16))) (ev_sl (ev_varF (x := eS p_text_here) rfl) ev_pn (ev_ps (ev_varF (x := eI v4) rfl)) (t_slS (s := p_text_here) hv16))) (ev_varF (x := eC v8) rfl) (t_catS (a := v16) (b := [v8]) hv17))) (asO (.st (.fz (eS v18))) (ev_sl (ev_varF (x := eS p_text_here) rfl) (ev_ps (asO (.st (.fz (eI (v4 + (1 : Int))))) (ev_bin (ev_varF (x := eI v4) rfl) (ev_c (x := eI 1)) e_add))) ev_pn (t_slS (s := p_text_here) hv18))) (t_catS (a := v17) (b := v18) hv19))) (fun e => ⟨e, rfl⟩)
      · refine sg_skip ?_
        refine sg_assoc ?_
        refine sg_ifs (ev_test (asO (.st (.fz (eB (decide ((v1 % (8 : Int)) = (5 : Int)))))) (ev_bin (ev_varF (x := eI (v1 % (8 : Int))) rfl) (ev_c (x := eI 5)) (t_eq (e := eI) (a := (v1 % (8 : Int))) (b := (5 : Int)) epI (by decide) rfl rfl)))) (fun _ => ?_) (fun _ => ?_)
        · refine sg_bind fun v20 hv20 => ?_
          exact sg_retS (o := (.fz (eX v20))) (asO (.st (.fz (eX v20))) (ev_callA (ev_cons (ev_varF (x := eI p_cell) rfl) ev_nil) (as := [eI p_cell]) rfl (sm__law_odd hv20) (.inl rfl))) (fun e => ⟨e, rfl⟩)
        · refine sg_skip ?_
          exact sg_retVS (o := (.fz (eX (eS p_text_here)))) rfl (fun e => ⟨e, rfl⟩)
noncomputable def T_law_b1 (p1 : (List Int)) (x1 : Int) (s1 : Unit) : Option (Ctl Unit Bool) :=
  (T__law_rows p1 x1).bind fun v2 => (T__law_text v2).bind fun v3 => (T__law_told (eS v3)).bind fun v4 => (if v4.isSome then (v4).bind fun v5 => (v4).bind fun v6 => (T_show_rows v6).bind fun v7 => (if (!true) then some true else (T__law_text v5).bind fun v8 => (if (!(decide (v7 = v8))) then some true else (if (!(decide (v4 = (some v5)))) then some true else (T__law_right (eS v7)).bind fun v9 => some (!v9)).bind fun v10 => some v10).bind fun v11 => some v11).bind fun v12 => (if v12 then some (.rt false) else (T__law_right (eS v3)).bind fun v13 => (if (!v13) then some true else (atI p1 x1).bind fun v14 => (T__law_spoiled v3 v14).bind fun v15 => (T__law_right v15).bind fun v16 => some (!v16)).bind fun v17 => (if v17 then some (.rt false) else some (.nx ()))) else (T__law_right (eS v3)).bind fun v18 => (if (!v18) then some true else (atI p1 x1).bind fun v19 => (T__law_spoiled v3 v19).bind fun v20 => (T__law_right v20).bind fun v21 => some (!v21)).bind fun v22 => (if v22 then some (.rt false) else some (.nx ())))
noncomputable def T_law (p1 : (List Int)) : Option Bool :=
  (rangeG (p1.length : Int)).bind fun v1 => ((forC (T_law_b1 p1) v1 ())).bind (behind (fun r => r) fun s2 => some true)
theorem sm_law {p1 : (List Int)} {v : Bool} (hv : T_law p1 = some v) : ∃ env, D_law (law0 8 p1) = .ok (.rt (.fz (.bl v)) env) := by
  have key : SG (D_law (law0 8 p1)) (T_law p1) (PR (oF eB)) := by
    unfold T_law D_law
    refine sg_env (e2 := [none, some (.ol (List.map eI p1)), none, none, none, none, none, none]) rfl ?_
    refine sg_one ?_
    refine sg_assoc ?_
    refine sg_iceS ?_
    refine sg_ice (o := (.ol (List.map eI p1))) (x := (eL eI) p1) rfl rfl ?_
    refine sg_bind fun v1 hv1 => ?_
    refine sg_seqL (sg_forC (eA := eI) (fun (s1 : Unit) (e : VEnv) => ∃ j1 j2 j3 j4 j5 j6 : Option OV, e = [none, some (.fz ((eL eI) p1)), j1, j2, j3, j4, j5, j6]) (fun (s1 : Unit) (e : VEnv) => ∃ j1 j2 j3 j4 j5 j6 : Option OV, e = [none, some (.fz ((eL eI) p1)), j1, j2, j3, j4, j5, j6]) ((oF eB)) (tb := (T_law_b1 p1)) (it_range (asO (.st (.fz (eI (p1.length : Int)))) (ev_callB (ev_cons (ev_varF (x := (eL eI) p1) rfl) ev_nil) (t_lenL (e := eI) (xs := p1) (.inr (.inl rfl))))) hv1) ⟨_, _, _, _, _, _, rfl⟩ (fun _ _ h => h) (fun x1 s1 e hE => ?_)) (fun r e => ⟨e, rfl⟩) (fun s2 e hE => ?_)
    · obtain ⟨j1, j2, j3, j4, j5, j6, rfl⟩ := hE
      refine ⟨_, rfl, ?_⟩
      unfold T_law_b1
      refine sg_one ?_
      refine sg_assoc ?_
      refine sg_bind fun v2 hv2 => ?_
      refine sg_set (o := (.ol (List.map (eT eI) v2))) (asO (.st (.ol (List.map (eT eI) v2))) (ev_callA (ev_cons (ev_varF (x := (eL eI) p1) rfl) (ev_cons (ev_varF (x := eI x1) rfl) ev_nil)) (as := [(eL eI) p1, eI x1]) rfl (sm__law_rows hv2) (.inl rfl))) ?_
      refine sg_assoc ?_
      refine sg_iceS ?_
      refine sg_ice (o := (.ol (List.map (eT eI) v2))) (x := (eL (eT eI)) v2) rfl rfl ?_
      refine sg_bind fun v3 hv3 => ?_
      refine sg_set (o := (.fz (eS v3))) (asO (.st (.fz (eS v3))) (ev_callA (ev_cons (ev_varF (x := (eL (eT eI)) v2) rfl) ev_nil) (as := [(eL (eT eI)) v2]) rfl (sm__law_text hv3) (.inl rfl))) ?_
      refine sg_assoc ?_
      refine sg_iceS ?_
      refine sg_iceF rfl ?_
      refine sg_bind fun v4 hv4 => ?_
      refine sg_set (o := (oO (oL (eT eI)) v4)) (asO (.st (oO (oL (eT eI)) v4)) (ev_callA (ev_cons (ev_varF (x := eS v3) rfl) ev_nil) (as := [eX (eS v3)]) rfl (sm__law_told hv4) (.inl rfl))) ?_
      refine sg_assoc ?_
      refine sg_iceS ?_
      refine sg_ice (o := (oO (oL (eT eI)) v4)) (x := (eO (eL (eT eI))) v4) rfl (fvO_of (e := (eL (eT eI))) (ov := (oL (eT eI))) (fun _ => rfl) _) ?_
      refine sg_ifs (ev_test (asO (.st (.fz (eB v4.isSome))) (ev_un (ev_varF (x := (eO (eL (eT eI))) v4) rfl) (t_notN (e := (eL (eT eI))) (v := v4) nnL rfl)))) (fun _ => ?_) (fun _ => ?_)
      · refine sg_assoc ?_
        refine sg_bind fun v5 hv5 => ?_
        refine sg_set (o := (.ol (List.map (eT eI) v5))) (asO (.st (.ol (List.map (eT eI) v5))) (ev_callB (ev_cons (unO (e := (eL (eT eI))) (v := v4) (ev_varF (x := (eO (eL (eT eI))) v4) rfl) hv5) ev_nil) (t_list (e := (eT eI)) (xs := v5) (.inr (.inl rfl))))) ?_
        refine sg_assoc ?_
        refine sg_iceS ?_
        refine sg_ice (o := (.ol (List.map (eT eI) v5))) (x := (eL (eT eI)) v5) rfl rfl ?_
        refine sg_bind fun v6 hv6 => ?_
        refine sg_bind fun v7 hv7 => ?_
        refine sg_set (o := (.fz (eS v7))) (asO (.st (.fz (eS v7))) (ev_callA (ev_cons (unO (e := (eL (eT eI))) (v := v4) (ev_varF (x := (eO (eL (eT eI))) v4) rfl) hv6) ev_nil) (as := [(eL (eT eI)) v6]) rfl (sm_show_rows hv7) (.inl rfl))) ?_
        refine sg_iceS ?_
        refine sg_iceF rfl ?_
        refine sg_bind fun v12 hv12 => ?_
        refine sg_ifs (ev_orO (ev_notT (ev_test (asO (.st (.fz (eB true))) (ev_un (op := opIsa ["str"]) (ev_varF (x := eS v7) rfl) rfl)))) (fun _ => (oe_bind fun v8 hv8 => (oe_bind fun v11 hv11 => (oe_id (ev_orO (ev_test (asO (.st (.fz (eB (!(decide (v7 = v8)))))) (ev_bin (ev_varF (x := eS v7) rfl) (asO (.st (.fz (eS v8))) (ev_callA (ev_cons (ev_varF (x := (eL (eT eI)) v5) rfl) ev_nil) (as := [(eL (eT eI)) v5]) rfl (sm__law_text hv8) (.inl rfl))) (t_ne (e := eS) (a := v7) (b := v8) epS (by decide) rfl rfl)))) (fun _ => (oe_bind fun v10 hv10 => (oe_id (ev_orO (ev_test (asO (.st (.fz (eB (!(decide (v4 = (some v5))))))) (ev_bin (ev_varF (x := (eO (eL (eT eI))) v4) rfl) (ev_varF (x := (eL (eT eI)) v5) rfl) (t_ne (e := (eO (eL (eT eI)))) (a := v4) (b := (some v5)) (epO (epL (epT epI)) nnL) (by decide) rfl rfl)))) (fun _ => (oe_bind fun v9 hv9 => (oe_id (ev_notT (ev_test (asO (.st (.fz (eB v9))) (ev_callA (ev_cons (ev_varF (x := eS v7) rfl) ev_nil) (as := [eX (eS v7)]) rfl (sm__law_right hv9) (.inl rfl)))))))) hv10)))) hv11))))) hv12) (fun _ => ?_) (fun _ => ?_)
        · exact sg_retS (o := (.fz (eB false))) (ev_c (x := eB false)) (fun e => ⟨e, rfl⟩)
        · refine sg_skip ?_
          refine sg_bind fun v13 hv13 => ?_
          refine sg_bind fun v17 hv17 => ?_
          refine sg_ifs (ev_orO (ev_notT (ev_test (asO (.st (.fz (eB v13))) (ev_callA (ev_cons (ev_varF (x := eS v3) rfl) ev_nil) (as := [eX (eS v3)]) rfl (sm__law_right hv13) (.inl rfl))))) (fun _ => (oe_bind fun v14 hv14 => (oe_bind fun v15 hv15 => (oe_bind fun v16 hv16 => (oe_id (ev_notT (ev_test (asO (.st (.fz (eB v16))) (ev_callA (ev_cons (asO (.st (.fz (eX v15))) (ev_frzX (asO (.st (.fz (eX v15))) (ev_callA (ev_cons (ev_varF (x := eS v3) rfl) (ev_cons (asO (.st (.fz (eI v14))) (ev_frzX (asO (.st (.fz (eI v14))) (ev_sub (ev_varF (x := (eL eI) p1) rfl) (ev_varF (x := eI x1) rfl) rfl (t_atL (e := eI) (xs := p1) (.inr (.inl rfl)) hv14))) rfl)) ev_nil)) (as := [eS v3, eI v14]) rfl (sm__law_spoiled hv15) (.inl rfl))) rfl)) ev_nil) (as := [eX v15]) rfl (sm__law_right hv16) (.inl rfl)))))))))) hv17) (fun _ => ?_) (fun _ => ?_)
          · exact sg_retS (o := (.fz (eB false))) (ev_c (x := eB false)) (fun e => ⟨e, rfl⟩)
          · refine sg_skip ?_
            exact sg_of rfl ⟨_, rfl, ⟨_, _, _, _, _, _, rfl⟩⟩
      · refine sg_skip ?_
        refine sg_bind fun v18 hv18 => ?_
        refine sg_bind fun v22 hv22 => ?_
        refine sg_ifs (ev_orO (ev_notT (ev_test (asO (.st (.fz (eB v18))) (ev_callA (ev_cons (ev_varF (x := eS v3) rfl) ev_nil) (as := [eX (eS v3)]) rfl (sm__law_right hv18) (.inl rfl))))) (fun _ => (oe_bind fun v19 hv19 => (oe_bind fun v20 hv20 => (oe_bind fun v21 hv21 => (oe_id (ev_notT (ev_test (asO (.st (.fz (eB v21))) (ev_callA (ev_cons (asO (.st (.fz (eX v20))) (ev_frzX (asO (.st (.fz (eX v20))) (ev_callA (ev_cons (ev_varF (x := eS v3) rfl) (ev_cons (asO (.st (.fz (eI v19))) (ev_frzX (asO (.st (.fz (eI v19))) (ev_sub (ev_varF (x := (eL eI) p1) rfl) (ev_varF (x := eI x1) rfl) rfl (t_atL (e := eI) (xs := p1) (.inr (.inl rfl)) hv19))) rfl)) ev_nil)) (as := [eS v3, eI v19]) rfl (sm__law_spoiled hv20) (.inl rfl))) rfl)) ev_nil) (as := [eX v20]) rfl (sm__law_right hv21) (.inl rfl)))))))))) hv22) (fun _ => ?_) (fun _ => ?_)
        · exact sg_retS (o := (.fz (eB false))) (ev_c (x := eB false)) (fun e => ⟨e, rfl⟩)
        · refine sg_skip ?_
          exact sg_of rfl ⟨_, rfl, ⟨_, _, _, _, _, _, rfl⟩⟩
    · obtain ⟨j7, j8, j9, j10, j11, j12, rfl⟩ := hE
      exact sg_retS (o := (.fz (eB true))) (ev_c (x := eB true)) (fun e => ⟨e, rfl⟩)
  obtain ⟨so, h1, e, rfl⟩ := key v hv
  exact ⟨e, h1⟩
theorem mulGr {i j : Int} (h : j.natAbs < 2 ^ 62) : mulG i j = some (i * j) := if_pos (mulR h)
theorem mix_ok (c j : Int) (h0 : 0 ≤ j) (h1 : j ≤ 1000) : ∃ v, T__law_mix c j = some v ∧ 0 ≤ v := by
  unfold T__law_mix
  split
  · refine ⟨_, by rw [show shrG c (1 + 20 * j) = some _ from if_pos (by omega), bindS], by omega⟩
  · rw [mulGr (by omega), bindS, mulGr (by omega), bindS, mulGr (by omega), bindS]
    exact ⟨_, rfl, by omega⟩
theorem nat_of {z : Int} (h : 0 ≤ z) : z = ((z.toNat : Nat) : Int) := (Int.toNat_of_nonneg h).symm
theorem atSN {s : List Chr} {i : Int} {n : Nat} (e : i = (n : Int)) (h : n < s.length) (hs : s.length ≤ 100000) : atS' s i = some (s[n]'h) := by
  unfold atS'
  rw [if_pos (bigL hs)]
  exact atN e h
theorem cutFrom {α : Type} {xs : List α} {a : Nat} : cutF xs (some (a : Int)) none = xs.drop a := by
  unfold cutF
  show (xs.drop (HT.sIx xs.length 0 (some (a : Int)))).take (xs.length - HT.sIx xs.length 0 (some (a : Int))) = _
  have e : HT.sIx xs.length 0 (some (a : Int)) = min a xs.length := by
    unfold HT.sIx
    simp only
    rw [if_neg (by omega), Int.toNat_natCast]
  rw [e]
  by_cases h : a ≤ xs.length
  · rw [Nat.min_eq_left h, List.take_of_length_le (by rw [List.length_drop]; omega)]
  · rw [Nat.min_eq_right (by omega), List.drop_of_length_le (Nat.le_refl _), List.drop_of_length_le (by omega)]
    simp
abbrev NT : Str := "NoText"
section
variable {α β γ σ ρ : Type}
theorem forC_none {f : α → Unit → Option (Ctl Unit ρ)} {p : α → Bool} : ∀ {xs : List α}, (∀ x ∈ xs, f x () = if p x then some (.nx ()) else none) → forC f xs () = if xs.all p then some (.nx ()) else none
  | [], _ => rfl
  | x :: xs, h => by
    unfold forC
    rw [h x List.mem_cons_self, List.all_cons]
    cases p x with
    | false => rfl
    | true =>
      rw [if_pos rfl, bindS, Bool.true_and]
      exact forC_none fun y hy => h y (List.mem_cons_of_mem _ hy)
theorem forX_none {f : α → Unit → Option Unit} {fx : α → Unit → Option Str} {p : α → Bool} {c : Str} : ∀ {xs : List α}, (∀ x ∈ xs, fx x () = if p x then none else some c) → (∀ x ∈ xs, p x = true → f x () = some ()) → forX fx f xs () = if xs.all p then none else some c
  | [], _, _ => rfl
  | x :: xs, h, h2 => by
    unfold forX
    rw [h x List.mem_cons_self, List.all_cons]
    cases e : p x with
    | false => rfl
    | true =>
      simp only [if_true]
      rw [h2 x List.mem_cons_self e, bindS, Bool.true_and]
      exact forX_none (fun y hy => h y (List.mem_cons_of_mem _ hy)) fun y hy => h2 y (List.mem_cons_of_mem _ hy)
def mapO (f : α → Option β) : List α → Option (List β)
  | [] => some []
  | x :: xs => (f x).bind fun y => (mapO f xs).bind fun ys => some (y :: ys)
theorem mapO_len {f : α → Option β} : ∀ {xs : List α} {ys : List β}, mapO f xs = some ys → ys.length = xs.length
  | [], ys, h => by cases h; rfl
  | x :: xs, ys, h => by
    unfold mapO at h
    obtain ⟨y, h1, h⟩ := Option.bind_eq_some_iff.mp h
    obtain ⟨zs, h2, h⟩ := Option.bind_eq_some_iff.mp h
    cases h
    rw [List.length_cons, List.length_cons, mapO_len h2]
theorem mapO_mem {f : α → Option β} : ∀ {xs : List α} {ys : List β}, mapO f xs = some ys → ∀ y ∈ ys, ∃ x ∈ xs, f x = some y
  | [], ys, h => by cases h; exact fun _ z => nomatch z
  | x :: xs, ys, h => by
    unfold mapO at h
    obtain ⟨y, h1, h⟩ := Option.bind_eq_some_iff.mp h
    obtain ⟨zs, h2, h⟩ := Option.bind_eq_some_iff.mp h
    cases h
    intro z hz
    rcases List.mem_cons.mp hz with rfl | hz
    · exact ⟨x, List.mem_cons_self, h1⟩
    · obtain ⟨w, h3, h4⟩ := mapO_mem h2 z hz
      exact ⟨w, List.mem_cons_of_mem _ h3, h4⟩
theorem lcG_mapO {f g : α → Option β} {xs : List α} (h : ∀ x ∈ xs, g x = f x) (hl : xs.length ≤ 100000) : lcG (fun _ => some true) g xs = mapO f xs := by
  have key : ∀ xs : List α, (∀ x ∈ xs, g x = f x) → lcT (fun _ => some true) g xs = mapO f xs := fun xs => by
    induction xs with
    | nil => intro _; rfl
    | cons x xs ih =>
      intro h
      unfold lcT mapO
      rw [bindS, if_pos rfl, h x List.mem_cons_self, ih fun y hy => h y (List.mem_cons_of_mem _ hy)]
  unfold lcG
  rw [key xs h]
  cases hm : mapO f xs with
  | none => rfl
  | some ys => rw [bindS, if_pos (bigL (by rw [mapO_len hm]; exact hl))]
theorem lcR_mapO {f g : α → Option β} {gx : α → Option Str} {c : Str} : ∀ {xs : List α}, (∀ x ∈ xs, g x = f x) → (∀ x ∈ xs, gx x = if (f x).isNone then some c else none) → lcR g gx xs = if (mapO f xs).isNone then some c else none
  | [], _, _ => rfl
  | x :: xs, h, h2 => by
    unfold lcR mapO
    rw [h x List.mem_cons_self, h2 x List.mem_cons_self]
    cases f x with
    | none => rfl
    | some y =>
      show (some y).bind _ = _
      rw [bindS, bindS, lcR_mapO (fun y hy => h y (List.mem_cons_of_mem _ hy)) fun y hy => h2 y (List.mem_cons_of_mem _ hy)]
      cases mapO f xs <;> rfl
end
theorem lensN {s : List Chr} (h : s.length ≤ 100000) : lenS s = some ((s.length : Nat) : Int) := if_pos (bigL h)
theorem splitN {a b : List Chr} (hb : b ≠ []) (h : a.length ≤ 90000) : splitG a b = some (splitT a b) := if_pos ⟨hb, bigL (by omega)⟩
theorem cs1_ne : Tcs_1 ≠ [] := by decide
theorem cs6_ne : Tcs_6 ≠ [] := by decide
theorem cutN {s : List Chr} {lo hi : Option Int} (h : s.length ≤ 100000) : cutSG s lo hi = some (cutF s lo hi) := if_pos (bigL h)
theorem cut1 {α : Type} (v : List α) : cutF v (some (1 : Int)) none = v.drop 1 := cutFrom (a := 1)
theorem cut0 {α : Type} (v : List α) : cutF v (some (0 : Int)) none = v := cutFrom (a := 0)
theorem cutT1 {α : Type} (v : List α) : cutF v none (some (1 : Int)) = v.take 1 := cut_none (n := 1) rfl
def figs (w : List Chr) : List Chr := if w.take 1 = Tcs_2 then w.drop 1 else w
def tst (f w : List Chr) : Bool := !(decide (1 ≤ f.length) && decide (f.length ≤ 60)) || (decide (f.headD 0 = (48 : Chr)) && !(decide (w = Tcs_4)))
def goodN (w : List Chr) : Bool := !(tst (figs w) w) && (figs w).all fun c => decide (c ∈ Tcs_5)
def dval (f : List Chr) : Nat := NumText.digitsVal (f.map Fin.val)
def RN (w : List Chr) : Option Int := if goodN w = true then some (if figs w = w then ((dval (figs w) : Nat) : Int) else -((dval (figs w) : Nat) : Int)) else none
theorem figs_len (w : List Chr) : (figs w).length ≤ w.length := by
  unfold figs
  split
  · rw [List.length_drop]; omega
  · exact Nat.le_refl _
theorem cs5_val : ∀ c ∈ Tcs_5, 48 ≤ c.val ∧ c.val ≤ 57 := by decide
theorem int_ok {f : List Chr} (h1 : 1 ≤ f.length) (h2 : f.length ≤ 60) (h3 : f.all (fun c => decide (c ∈ Tcs_5)) = true) : intTG f = some ((dval f : Nat) : Int) := by
  unfold intTG
  rw [if_pos (by omega)]
  have e : (sxS f).cps.toList = f.map Fin.val := by unfold sxS; simp
  have hd : NumText.AllDigits (sxS f).cps.toList := by
    rw [e]
    intro c hc
    obtain ⟨x, hx, rfl⟩ := List.mem_map.mp hc
    exact cs5_val x (by simpa using List.all_eq_true.mp h3 x hx)
  have := intText_digits hd (by rw [e]; intro z; rw [List.map_eq_nil_iff] at z; subst z; simp at h1) (by rw [sx_len]; omega)
  rw [e] at this
  exact this
theorem dval_lt : ∀ (f : List Nat) (a : Nat), (∀ c ∈ f, 48 ≤ c ∧ c ≤ 57) → f.foldl (fun acc c => acc * 10 + (c - 48)) a < (a + 1) * 10 ^ f.length
  | [], a, _ => by simp
  | c :: f, a, h => by
    have := dval_lt f (a * 10 + (c - 48)) fun d hd => h d (List.mem_cons_of_mem _ hd)
    rw [List.foldl_cons, List.length_cons, Nat.pow_succ]
    have hc := h c List.mem_cons_self
    refine Nat.lt_of_lt_of_le this ?_
    rw [Nat.mul_comm (10 ^ f.length) 10, ← Nat.mul_assoc]
    exact Nat.mul_le_mul_right _ (by omega)
theorem RN_bound {w : List Chr} {n : Int} (h : RN w = some n) : n.natAbs < 10 ^ 61 := by
  unfold RN at h
  split at h
  · rename_i hg
    unfold goodN at hg
    rw [Bool.and_eq_true] at hg
    have h60 : (figs w).length ≤ 60 := by
      have := hg.1
      unfold tst at this
      simp at this
      omega
    have hl := dval_lt ((figs w).map Fin.val) 0 fun c hc => by
      obtain ⟨x, hx, rfl⟩ := List.mem_map.mp hc
      exact cs5_val x (by simpa using List.all_eq_true.mp hg.2 x hx)
    rw [List.length_map, Nat.zero_add, Nat.one_mul] at hl
    have hp : 10 ^ (figs w).length ≤ 10 ^ 61 := Nat.pow_le_pow_right (by decide) (by omega)
    have hd : dval (figs w) < 10 ^ 61 := Nat.lt_of_lt_of_le hl hp
    cases h
    split
    · rw [Int.natAbs_natCast]; exact hd
    · rw [Int.natAbs_neg, Int.natAbs_natCast]; exact hd
  · cases h
theorem tst_ok {α : Type} {f w : List Chr} {k : Bool → Option α} (h : f.length ≤ 100000) : ((lenS f).bind fun v3 => (if (!((decide ((1 : Int) ≤ v3)) && (decide (v3 ≤ (60 : Int))))) then some true else (atS' f (0 : Int)).bind fun v4 => (atS' f (0 : Int)).bind fun v5 => some ((decide (v5 = (48 : Chr))) && (!(decide (w = Tcs_4))))).bind k) = k (tst f w) := by
  rw [lensN h, bindS]
  unfold tst
  have e : ((decide ((1 : Int) ≤ ((f.length : Nat) : Int))) && (decide (((f.length : Nat) : Int) ≤ (60 : Int)))) = (decide (1 ≤ f.length) && decide (f.length ≤ 60)) := by
    congr 1 <;> exact decide_eq_decide.mpr (by omega)
  rw [e]
  cases hc : (decide (1 ≤ f.length) && decide (f.length ≤ 60)) with
  | false => rfl
  | true =>
    have h1 : 1 ≤ f.length := by
      rw [Bool.and_eq_true] at hc
      exact of_decide_eq_true hc.1
    cases f with
    | nil => simp at h1
    | cons c f =>
      rw [if_neg (by decide)]
      have ea : atS' (c :: f) (0 : Int) = some c := by
        unfold atS'
        rw [if_pos (bigL h)]
        exact atQ (n := 0) rfl rfl
      rw [ea, bindS, bindS, bindS]
      rfl
theorem neg_or {α : Type} {w : List Chr} {k : List Chr → Option α} (h : w.length ≤ 100000) : (cutSG w none (some (1 : Int))).bind (fun v1 => ((if (decide (v1 = Tcs_2)) then (cutSG w (some (1 : Int)) none).bind fun v2 => some v2 else some w) : Option (List Chr)).bind k) = k (figs w) := by
  rw [cutN h, bindS, cutT1, cutN h, cut1]
  unfold figs
  by_cases e : w.take 1 = Tcs_2
  · rw [if_pos (decide_eq_true e), if_pos e, bindS, bindS]
  · rw [if_neg (by simpa using e), if_neg e, bindS]
theorem fig_one {w : List Chr} (h : tst (figs w) w = false) : 1 ≤ (figs w).length ∧ (figs w).length ≤ 60 := by
  unfold tst at h
  simp at h
  omega
theorem number_ok {w : List Chr} (h : w.length ≤ 100000) : T_read_number w = RN w := by
  unfold T_read_number RN goodN
  rw [neg_or h, tst_ok (by have := figs_len w; omega)]
  cases ht : tst (figs w) w with
  | true => rfl
  | false =>
    obtain ⟨h1, h2⟩ := fig_one ht
    rw [if_neg (by decide), forC_none (p := fun c => decide (c ∈ Tcs_5)) (fun x _ => by
      unfold T_read_number_b1
      cases decide (x ∈ Tcs_5) <;> rfl)]
    cases ha : (figs w).all fun c => decide (c ∈ Tcs_5) with
    | false => rfl
    | true =>
      rw [if_pos rfl, bindS]
      simp only [behind]
      rw [int_ok h1 h2 ha, bindS, bindS]
      by_cases e : figs w = w
      · rw [if_neg (by simpa using e), if_pos (by rfl), if_pos e]
      · rw [if_pos (by simpa using e), if_pos (by rfl), if_neg e]
theorem numberx_ok {w : List Chr} (h : w.length ≤ 100000) : T_read_number_x w = if (RN w).isNone then some NT else none := by
  have key : ∀ (f : List Chr), (tst f w = false → forX T_read_number_x_b1x T_read_number_x_b1 f () = if f.all (fun c => decide (c ∈ Tcs_5)) then none else some NT) := fun f _ =>
    forX_none (p := fun c => decide (c ∈ Tcs_5)) (c := NT) (fun x _ => by
      unfold T_read_number_x_b1x
      cases decide (x ∈ Tcs_5) <;> rfl) (fun x _ e => by
      unfold T_read_number_x_b1
      rw [e]
      rfl)
  have key3 : ∀ (f : List Chr), (tst f w = false → forX T_read_number_x_b3x T_read_number_x_b3 f () = if f.all (fun c => decide (c ∈ Tcs_5)) then none else some NT) := fun f _ =>
    forX_none (p := fun c => decide (c ∈ Tcs_5)) (c := NT) (fun x _ => by
      unfold T_read_number_x_b3x
      cases decide (x ∈ Tcs_5) <;> rfl) (fun x _ e => by
      unfold T_read_number_x_b3
      rw [e]
      rfl)
  unfold T_read_number_x RN goodN
  rw [cutN h, bindS, cutT1, cutN h, cut1]
  by_cases e : w.take 1 = Tcs_2
  · have ef : figs w = w.drop 1 := if_pos e
    rw [if_pos (decide_eq_true e), bindS, ← ef, tst_ok (by have := figs_len w; omega)]
    cases ht : tst (figs w) w with
    | true => rfl
    | false =>
      rw [if_neg (by decide), key _ ht]
      cases (figs w).all fun c => decide (c ∈ Tcs_5) <;> rfl
  · have ef : figs w = w := if_neg e
    rw [if_neg (by simpa using e), ef, tst_ok h]
    cases ht : tst w w with
    | true => rfl
    | false =>
      rw [if_neg (by decide), key3 _ ht]
      cases w.all fun c => decide (c ∈ Tcs_5) <;> rfl
theorem toldn_ok {w : List Chr} (h : w.length ≤ 100000) : T__law_number_told w = some (RN w) := by
  unfold T__law_number_told RN goodN
  have ef : cutF w (some (if (decide (w.take 1 = Tcs_2)) then (1 : Int) else 0)) none = figs w := by
    unfold figs
    by_cases e : w.take 1 = Tcs_2
    · rw [if_pos (decide_eq_true e), if_pos e, cut1]
    · rw [if_neg (by simpa using e), if_neg e, cut0]
  rw [cutN h, bindS, cutT1, cutN h, bindS, ef]
  have et : (if (decide (figs w = Tcs_3)) then some true else (lenS (figs w)).bind fun v3 => (if (decide ((60 : Int) < v3)) then some true else (atS' (figs w) (0 : Int)).bind fun v4 => (atS' (figs w) (0 : Int)).bind fun v5 => some ((decide (v5 = (48 : Chr))) && (!(decide (w = Tcs_4))))).bind fun v6 => some v6) = some (tst (figs w) w) := by
    rw [lensN (by have := figs_len w; omega), bindS]
    unfold tst
    by_cases h0 : figs w = Tcs_3
    · rw [if_pos (decide_eq_true h0), h0]
      rfl
    · rw [if_neg (by simpa using h0)]
      have h1 : 1 ≤ (figs w).length := List.length_pos_iff.mpr h0
      rw [decide_eq_true h1, Bool.true_and]
      by_cases h2 : (figs w).length ≤ 60
      · rw [decide_eq_true h2, if_neg (by simp; omega)]
        revert h1 h2 h0
        have hl : (figs w).length ≤ 100000 := by have := figs_len w; omega
        revert hl
        generalize figs w = f
        intro hl h0 h1 h2
        cases f with
        | nil => exact absurd rfl h0
        | cons c f =>
          have ea : atS' (c :: f) (0 : Int) = some c := by
            unfold atS'
            rw [if_pos (bigL hl)]
            exact atQ (n := 0) rfl rfl
          rw [ea, bindS, bindS, bindS]
          rfl
      · rw [decide_eq_false h2, if_pos (by simp; omega)]
        rfl
  rw [et, bindS]
  cases ht : tst (figs w) w with
  | true => rfl
  | false =>
    obtain ⟨h1, h2⟩ := fig_one ht
    rw [if_neg (by decide), forC_all (p := fun c => decide (c ∈ Tcs_5)) (r := none) (fun x _ => by
      unfold T__law_number_told_b1
      cases decide (x ∈ Tcs_5) <;> rfl), bindS]
    cases ha : (figs w).all fun c => decide (c ∈ Tcs_5) with
    | false => rfl
    | true =>
      rw [if_pos rfl]
      simp only [behind]
      rw [int_ok h1 h2 ha, bindS, mulGr (by split <;> decide), bindS]
      congr 1
      show some _ = if true = true then some _ else none
      rw [if_pos rfl]
      congr 1
      by_cases e : figs w = w
      · rw [if_neg (by simpa using e), if_pos e]
        omega
      · rw [if_pos (by simpa using e), if_neg e]
        omega
def RR (p : List Chr) : Option (List Int) := mapO RN (splitT p Tcs_6)
def rowsOf (s : List Chr) : Option (List (List Int)) := mapO RR (splitT s Tcs_1)
theorem RR_ne {p : List Chr} {r : List Int} (h : RR p = some r) : r ≠ [] := fun z => by
  have := mapO_len h
  rw [z] at this
  exact splitT_ne p Tcs_6 (List.eq_nil_of_length_eq_zero this.symm)
theorem mapO_none {α β : Type} {f : α → Option β} : ∀ {xs : List α}, mapO f xs = none ↔ none ∈ xs.map f
  | [] => by simp [mapO]
  | x :: xs => by
    unfold mapO
    rw [List.map_cons, List.mem_cons]
    cases hx : f x with
    | none => simp
    | some y =>
      rw [bindS]
      cases hm : mapO f xs with
      | none => simp [mapO_none.mp hm]
      | some ys =>
        have : ¬ none ∈ xs.map f := fun z => by rw [mapO_none.mpr z] at hm; cases hm
        simp [this]
theorem oints_mapO {α : Type} {f : α → Option Int} : ∀ xs : List α, oints (xs.map f) = mapO f xs
  | [] => rfl
  | x :: xs => by
    rw [List.map_cons]
    unfold oints mapO
    rw [oints_mapO xs]
def okr (h : Nat) (r : List Int) : Bool := decide (r.length ≤ 6) && decide (r.length = h)
def okR (rows : List (List Int)) : Bool := rows.all (okr (rows.headD []).length)
theorem rows_step {s : List (List Int)} {p : List Chr} (hp : p.length ≤ 90000) (hs : s.length ≤ 99999) : T_read_rows_b1 p s = (RR p).bind fun r => some (s ++ [r]) := by
  unfold T_read_rows_b1 RR
  have hl := splitT_len p Tcs_6
  rw [splitN cs6_ne hp, bindS, lcG_mapO (f := RN) (fun x hx => by rw [number_ok (by have := (splitT_part hx).1; omega)]; cases RN x <;> rfl) (by omega)]
  cases mapO RN (splitT p Tcs_6) with
  | none => rfl
  | some r => rw [bindS, bindS, if_pos (bigL (by omega)), bindS, appN (by omega), bindS]
theorem rowsx_eq : T_read_rows_x_b1 = T_read_rows_b1 := rfl
theorem rowsx_step {s : List (List Int)} {p : List Chr} (hp : p.length ≤ 90000) : T_read_rows_x_b1x p s = if (RR p).isNone then some NT else none := by
  unfold T_read_rows_x_b1x RR
  have hl := splitT_len p Tcs_6
  rw [splitN cs6_ne hp, bindS, if_pos (bigL (by omega)), bindS]
  exact lcR_mapO (f := RN) (c := NT) (fun x hx => by rw [number_ok (by have := (splitT_part hx).1; omega)]; cases RN x <;> rfl) (fun x hx => numberx_ok (by have := (splitT_part hx).1; omega))
theorem rows_loop : ∀ {ps : List (List Chr)} {s : List (List Int)}, (∀ p ∈ ps, p.length ≤ 90000) → s.length + ps.length ≤ 99999 → forT T_read_rows_b1 ps s = (mapO RR ps).bind fun rows => some (s ++ rows)
  | [], s, _, _ => by
    show some s = some (s ++ [])
    rw [List.append_nil]
  | p :: ps, s, hp, hl => by
    rw [List.length_cons] at hl
    unfold forT mapO
    rw [rows_step (hp p List.mem_cons_self) (by omega)]
    cases RR p with
    | none => rfl
    | some r =>
      rw [bindS, bindS]
      show forT T_read_rows_b1 ps (s ++ [r]) = _
      rw [rows_loop (ps := ps) (s := s ++ [r]) (fun q hq => hp q (List.mem_cons_of_mem _ hq)) (by simp; omega)]
      cases mapO RR ps with
      | none => rfl
      | some rows => rw [bindS, bindS, bindS, List.append_assoc]; rfl
theorem rowsx_loop : ∀ {ps : List (List Chr)} {s : List (List Int)}, (∀ p ∈ ps, p.length ≤ 90000) → s.length + ps.length ≤ 99999 → forX T_read_rows_x_b1x T_read_rows_x_b1 ps s = if (mapO RR ps).isNone then some NT else none
  | [], s, _, _ => rfl
  | p :: ps, s, hp, hl => by
    rw [List.length_cons] at hl
    unfold forX mapO
    rw [rowsx_step (hp p List.mem_cons_self), rowsx_eq, rows_step (hp p List.mem_cons_self) (by omega)]
    cases RR p with
    | none => rfl
    | some r =>
      show (some (s ++ [r])).bind _ = _
      rw [bindS, bindS, ← rowsx_eq, rowsx_loop (ps := ps) (s := s ++ [r]) (fun q hq => hp q (List.mem_cons_of_mem _ hq)) (by simp; omega)]
      cases mapO RR ps <;> rfl
theorem bad_test {α : Type} {rows : List (List Int)} {r : List Int} {k : Bool → Option α} (hr : rows ≠ []) : (if (decide ((6 : Int) < ((r.length : Nat) : Int))) then some true else (atI rows (0 : Int)).bind fun v10 => some (!(decide (((r.length : Nat) : Int) = ((v10.length : Nat) : Int))))).bind k = k (!okr (rows.headD []).length r) := by
  have ea : atI rows (0 : Int) = some (rows.headD []) := by
    cases rows with
    | nil => exact absurd rfl hr
    | cons x rows => exact atQ (n := 0) rfl rfl
  unfold okr
  by_cases h : r.length ≤ 6
  · rw [if_neg (by simp; omega), ea, bindS, bindS, decide_eq_true h, Bool.true_and]
    congr 2
    exact decide_eq_decide.mpr (by omega)
  · rw [if_pos (by simp; omega), bindS, decide_eq_false h]
    rfl
theorem ne_mem {α : Type} {l : List α} {x : α} (h : x ∈ l) : l ≠ [] := fun z => by rw [z] at h; cases h
theorem b2_loop {rows : List (List Int)} : forC (T_read_rows_b2 rows) rows () = if okR rows then some (.nx ()) else none :=
  forC_none (p := okr (rows.headD []).length) fun r hr => by
    unfold T_read_rows_b2
    rw [bad_test (ne_mem hr)]
    cases okr (rows.headD []).length r <;> rfl
theorem b3_loop {rows : List (List Int)} : forX (T_read_rows_x_b3x rows) (T_read_rows_x_b3 rows) rows () = if okR rows then none else some NT :=
  forX_none (p := okr (rows.headD []).length) (c := NT) (fun r hr => by
    unfold T_read_rows_x_b3x
    rw [bad_test (ne_mem hr)]
    cases okr (rows.headD []).length r <;> rfl) fun r hr e => by
    unfold T_read_rows_x_b3
    rw [bad_test (ne_mem hr), e]
    rfl
theorem forT_unit {α : Type} {f : α → Unit → Option Unit} : ∀ {xs : List α}, (∀ x ∈ xs, f x () = some ()) → forT f xs () = some ()
  | [], _ => rfl
  | x :: xs, h => by
    unfold forT
    rw [h x List.mem_cons_self]
    exact forT_unit fun y hy => h y (List.mem_cons_of_mem _ hy)
theorem b3_run {rows : List (List Int)} (h : okR rows = true) : forT (T_read_rows_x_b3 rows) rows () = some () :=
  forT_unit fun r hr => by
    unfold T_read_rows_x_b3
    rw [bad_test (ne_mem hr), List.all_eq_true.mp h r hr]
    rfl
theorem rle_last {s : List (List Int)} (h : s.Pairwise (· < ·)) (ne : s ≠ []) : ∀ y ∈ s, y = s.getLast ne ∨ y < s.getLast ne := fun y hy => by
  have e := List.dropLast_concat_getLast ne
  have hp : (s.dropLast ++ [s.getLast ne]).Pairwise (· < ·) := by rw [e]; exact h
  rw [← e] at hy
  rcases List.mem_append.mp hy with hy | hy
  · exact .inr ((List.pairwise_append.mp hp).2.2 y hy _ (List.mem_singleton.mpr rfl))
  · exact .inl (List.mem_singleton.mp hy)
def addU (s : List (List Int)) (x : List Int) : List (List Int) := if x ∈ s then s else s ++ [x]
theorem in_b1 {s : List (List Int)} {x : List Int} (h : s.Pairwise (· < ·)) (hx : ∀ y ∈ s, y ≤ x) (hl : s.length ≤ 1000) : T_in_order_b1 x s = some (addU s x) ∧ (addU s x).Pairwise (· < ·) ∧ (addU s x).length ≤ s.length + 1 ∧ ∀ y, y ∈ addU s x ↔ y ∈ s ∨ y = x := by
  have lt_of : ∀ y, y ≤ x → y ≠ x → y < x := fun y h1 h2 => rlt_of_le h1 h2
  unfold T_in_order_b1 addU
  by_cases ne : s = []
  · subst ne
    rw [decide_eq_true rfl, if_pos rfl, bindS, if_pos rfl, if_neg (by simp), appN (by simp), bindS]
    exact ⟨rfl, by simp, by simp, fun y => by simp⟩
  · have pos := List.length_pos_iff.mpr ne
    have at_ : atI s ((s.length : Int) - 1) = some (s.getLast ne) := by
      rw [atN (n := s.length - 1) (by omega) (by omega), List.getLast_eq_getElem]
    rw [decide_eq_false ne, if_neg (by decide), at_, bindS]
    by_cases e : s.getLast ne = x
    · have hm : x ∈ s := e ▸ List.getLast_mem ne
      rw [decide_eq_true e, if_pos hm]
      exact ⟨rfl, h, by omega, fun y => ⟨.inl, fun z => z.elim id fun z => z ▸ hm⟩⟩
    · have hm : x ∉ s := fun hm => by
        rcases rle_last h ne x hm with z | z
        · exact e z.symm
        · exact rlt_irrefl _ (rlt_trans z (lt_of _ (hx _ (List.getLast_mem ne)) e))
      rw [decide_eq_false e, if_neg hm, bindS, if_pos (by decide), appN (by omega), bindS]
      refine ⟨rfl, List.pairwise_append.mpr ⟨h, by simp, fun y hy z hz => ?_⟩, by simp, fun y => by simp⟩
      rw [List.mem_singleton.mp hz]
      exact lt_of y (hx y hy) fun q => hm (q ▸ hy)
theorem in_loop : ∀ {ys s : List (List Int)}, ys.Pairwise (· ≤ ·) → s.Pairwise (· < ·) → (∀ y ∈ s, ∀ x ∈ ys, y ≤ x) → s.length + ys.length ≤ 1000 →
    ∃ zs, forT T_in_order_b1 ys s = some zs ∧ zs.Pairwise (· < ·) ∧ zs.length ≤ s.length + ys.length ∧ ∀ r, r ∈ zs ↔ r ∈ s ∨ r ∈ ys
  | [], s, _, h, _, _ => ⟨s, rfl, h, Nat.le_refl _, fun r => by simp⟩
  | x :: ys, s, hy, hs, hle, hl => by
    rw [List.pairwise_cons] at hy
    rw [List.length_cons] at hl
    obtain ⟨a, b, c, d⟩ := in_b1 hs (fun y h => hle y h x List.mem_cons_self) (by omega)
    obtain ⟨zs, i1, i2, i3, i4⟩ := in_loop (ys := ys) (s := addU s x) hy.2 b (fun y h z hz => by
      rcases (d y).mp h with h | rfl
      · exact hle y h z (List.mem_cons_of_mem _ hz)
      · exact hy.1 z hz) (by omega)
    refine ⟨zs, ?_, i2, by rw [List.length_cons]; omega, fun r => ?_⟩
    · unfold forT
      rw [a, bindS]
      exact i1
    · rw [i4, d, List.mem_cons, or_assoc]
theorem in_ok {rows : List (List Int)} (h : rows.length ≤ 1000) (hne : ∀ r ∈ rows, r ≠ []) : ∃ zs, T_in_order rows = some zs ∧ zs.Pairwise (· < ·) ∧ zs.length ≤ rows.length ∧ ∀ r, r ∈ zs ↔ r ∈ rows := by
  obtain ⟨ys, a, b, c⟩ := srtR_ok (l := rows) (by omega) hne
  have hl := b.length_eq
  obtain ⟨zs, d, e, f, g⟩ := in_loop (ys := ys) (s := []) c (by simp) (fun _ h => nomatch h) (by simp; omega)
  refine ⟨zs, ?_, e, by simp at f; omega, fun r => by rw [g]; simp [b.mem_iff]⟩
  unfold T_in_order
  rw [a, bindS, d, bindS]
noncomputable def canon (rows : List (List Int)) : List (List Int) := (T_in_order rows).getD []
noncomputable def RT (s : List Chr) : Option (List (List Int)) := if s = [] then some [] else (rowsOf s).bind fun rows => if (okR rows && decide (rows.length ≤ 60)) = true then some (canon rows) else none
theorem rowsOf_ne {s : List Chr} {rows : List (List Int)} (h : rowsOf s = some rows) : ∀ r ∈ rows, r ≠ [] := fun r hr => by
  obtain ⟨p, _, hp⟩ := mapO_mem h r hr
  exact RR_ne hp
theorem isa_S (s : List Chr) : isaXG ["str"] (eS s) = some true := rfl
theorem read_ok {s : List Chr} (h : s.length ≤ 60000) : T_read_rows (eS s) = RT s ∧ T_read_rows_x (eS s) = if (RT s).isNone then some NT else none := by
  have hl := splitT_len s Tcs_1
  have hp : ∀ p ∈ splitT s Tcs_1, p.length ≤ 90000 := fun p hp => by have := (splitT_part hp).1; omega
  by_cases h0 : s = []
  · subst h0
    constructor
    · unfold T_read_rows RT
      rw [isa_S, bindS, if_neg (by decide), txt_eS, bindS]
      rfl
    · unfold T_read_rows_x RT
      rw [isa_S, bindS, if_neg (by decide), txt_eS, bindS]
      rfl
  · have e3 : decide (s = Tcs_3) = false := decide_eq_false h0
    constructor
    · unfold T_read_rows RT
      rw [isa_S, bindS, if_neg (by decide), txt_eS, bindS, e3, if_neg (by decide), bindS, splitN cs1_ne (by omega), bindS, rows_loop hp (by simp; omega), if_neg h0]
      show _ = (mapO RR (splitT s Tcs_1)).bind _
      have hne : ∀ rows, mapO RR (splitT s Tcs_1) = some rows → ∀ r ∈ rows, r ≠ [] := fun rows h => rowsOf_ne h
      cases hm : mapO RR (splitT s Tcs_1) with
      | none => rfl
      | some rows =>
        rw [bindS, bindS, bindS, List.nil_append, b2_loop]
        cases ho : okR rows with
        | false => rfl
        | true =>
          rw [if_pos rfl, bindS]
          simp only [behind]
          by_cases h6 : rows.length ≤ 60
          · rw [if_neg (by simp; omega), decide_eq_true h6]
            obtain ⟨zs, a, _⟩ := in_ok (rows := rows) (by omega) (hne rows hm)
            unfold canon
            rw [a, bindS]
            rfl
          · rw [if_pos (by simp; omega), decide_eq_false h6]
            rfl
    · unfold T_read_rows_x RT
      rw [isa_S, bindS, if_neg (by decide), txt_eS, bindS, e3, if_neg (by decide), bindS, splitN cs1_ne (by omega), bindS, rowsx_loop hp (by simp; omega), rowsx_eq, rows_loop hp (by simp; omega), if_neg h0]
      show _ = if ((mapO RR (splitT s Tcs_1)).bind _).isNone then _ else _
      cases hm : mapO RR (splitT s Tcs_1) with
      | none => rfl
      | some rows =>
        rw [bindS, bindS, bindS, List.nil_append, b3_loop]
        cases ho : okR rows with
        | false => rfl
        | true =>
          rw [b3_run ho, bindS]
          by_cases h6 : rows.length ≤ 60
          · rw [if_neg (show ¬ decide ((60 : Int) < ((rows.length : Nat) : Int)) = true by simp; omega), decide_eq_true h6]
            rfl
          · rw [if_pos (show decide ((60 : Int) < ((rows.length : Nat) : Int)) = true by simp; omega), decide_eq_false h6]
            rfl
theorem read_no {x : FV} (h : isaXG ["str"] x = some false) : T_read_rows x = none ∧ T_read_rows_x x = some NT := by
  unfold T_read_rows T_read_rows_x
  rw [h, bindS, bindS]
  exact ⟨rfl, rfl⟩
def uniq (rows : List (List Int)) : List (List Int) := rows.foldl addU []
theorem uniq_snoc {rows : List (List Int)} {r : List Int} : uniq (rows ++ [r]) = addU (uniq rows) r := by
  unfold uniq
  rw [List.foldl_append]
  rfl
theorem addU_mem {s : List (List Int)} {x y : List Int} : y ∈ addU s x ↔ y ∈ s ∨ y = x := by
  unfold addU
  split
  · rename_i h
    exact ⟨.inl, fun z => z.elim id fun z => z ▸ h⟩
  · simp
theorem addU_nodup {s : List (List Int)} {x : List Int} (h : s.Nodup) : (addU s x).Nodup := by
  unfold addU
  split
  · exact h
  · rename_i hx
    rw [List.nodup_append]
    exact ⟨h, by simp, fun a ha b hb e => hx (by rw [List.mem_singleton.mp hb] at e; exact e ▸ ha)⟩
theorem addU_head {s : List (List Int)} {x : List Int} (h : s ≠ []) : (addU s x).headD [] = s.headD [] ∧ addU s x ≠ [] := by
  unfold addU
  split
  · exact ⟨rfl, h⟩
  · cases s with
    | nil => exact absurd rfl h
    | cons y s => exact ⟨rfl, by simp⟩
theorem addU_len {s : List (List Int)} {x : List Int} : (addU s x).length ≤ s.length + 1 := by
  unfold addU
  split
  · omega
  · simp
theorem uniq_facts (rows : List (List Int)) : (uniq rows).Nodup ∧ (∀ r, r ∈ uniq rows ↔ r ∈ rows) ∧ (uniq rows).headD [] = rows.headD [] ∧ (uniq rows = [] ↔ rows = []) ∧ (uniq rows).length ≤ rows.length := by
  have key : ∀ n, ∀ rows : List (List Int), rows.length = n → (uniq rows).Nodup ∧ (∀ r, r ∈ uniq rows ↔ r ∈ rows) ∧ (uniq rows).headD [] = rows.headD [] ∧ (uniq rows = [] ↔ rows = []) ∧ (uniq rows).length ≤ rows.length := fun n => by
    induction n with
    | zero =>
      intro rows h
      rw [List.eq_nil_of_length_eq_zero h]
      exact ⟨List.nodup_nil, fun r => Iff.rfl, rfl, Iff.rfl, Nat.le_refl _⟩
    | succ n ih =>
      intro rows h
      have ne : rows ≠ [] := fun z => by rw [z] at h; cases h
      have e := List.dropLast_concat_getLast ne
      obtain ⟨a, b, c, d, f⟩ := ih rows.dropLast (by rw [List.length_dropLast]; omega)
      rw [← e, uniq_snoc]
      refine ⟨addU_nodup a, fun r => by rw [addU_mem, b]; simp, ?_, ⟨fun z => ?_, fun z => absurd z (by simp)⟩, ?_⟩
      · by_cases hd : rows.dropLast = []
        · rw [hd]
          rfl
        · have hu : uniq rows.dropLast ≠ [] := fun z => hd (d.mp z)
          rw [(addU_head hu).1, c]
          cases hq : rows.dropLast with
          | nil => exact absurd hq hd
          | cons y s => rfl
      · have hm : rows.getLast ne ∈ addU (uniq rows.dropLast) (rows.getLast ne) := addU_mem.mpr (.inr rfl)
        rw [z] at hm
        cases hm
      · have := addU_len (s := uniq rows.dropLast) (x := rows.getLast ne)
        rw [List.length_append, List.length_singleton]
        omega
  exact key _ rows rfl
def badr (rows0 : List (List Int)) (r : List Int) : Bool := decide (6 < r.length) || (!(decide (rows0 = [])) && !(decide (r.length = (rows0.headD []).length)))
theorem told_step {p : List Chr} {rows0 : List (List Int)} {m : Int} (hp : p.length ≤ 90000) (hl : rows0.length ≤ 99999) :
    (RR p = none → T__law_told_b1 p (uniq rows0, m) = some (.rt none)) ∧
    (∀ r, RR p = some r → T__law_told_b1 p (uniq rows0, m) = if badr rows0 r then some (.rt none) else some (.nx (uniq (rows0 ++ [r]), m + 1))) := by
  obtain ⟨_, _, u3, u4, u5⟩ := uniq_facts rows0
  have hs := splitT_len p Tcs_6
  unfold T__law_told_b1
  rw [splitN cs6_ne hp, bindS, lcG_map (h := RN) (fun x hx => ⟨rfl, by rw [toldn_ok (by have := (splitT_part hx).1; omega), bindS]⟩) (by omega), bindS]
  constructor
  · intro h
    rw [decide_eq_true (mapO_none.mp h)]
    rfl
  · intro r h
    have hn : ¬ none ∈ (splitT p Tcs_6).map RN := fun z => by rw [show RR p = none from mapO_none.mpr z] at h; cases h
    have hlen : ((splitT p Tcs_6).map RN).length = r.length := by rw [List.length_map]; exact (mapO_len h).symm
    rw [decide_eq_false hn, if_neg (by decide), oints_mapO, show mapO RN (splitT p Tcs_6) = some r from h, hlen]
    simp only
    have hb : ((if (decide ((6 : Int) < ((r.length : Nat) : Int))) then some true else (if (!(decide (uniq rows0 = ([] : List (List Int))))) then (atI (uniq rows0) (0 : Int)).bind fun v8 => some (!(decide (((r.length : Nat) : Int) = ((v8.length : Nat) : Int)))) else some false).bind fun v9 => some v9).bind fun v10 => some v10) = some (badr rows0 r) := by
      unfold badr
      by_cases h6 : 6 < r.length
      · rw [if_pos (by simp; omega), decide_eq_true h6]
        rfl
      · rw [if_neg (by simp; omega), decide_eq_false h6, Bool.false_or]
        by_cases h0 : rows0 = []
        · rw [decide_eq_true (u4.mpr h0), decide_eq_true h0]
          rfl
        · have hu : uniq rows0 ≠ [] := fun z => h0 (u4.mp z)
          have ea : atI (uniq rows0) (0 : Int) = some ((uniq rows0).headD []) := by
            revert hu
            generalize uniq rows0 = v
            intro hu
            cases v with
            | nil => exact absurd rfl hu
            | cons x v => exact atQ (n := 0) rfl rfl
          rw [decide_eq_false hu, decide_eq_false h0, if_pos (by rfl), ea, bindS, bindS, bindS, u3]
          congr 1
          show (!_) = !_
          congr 1
          exact decide_eq_decide.mpr (by omega)
    rw [hb, bindS]
    cases badr rows0 r with
    | true => rfl
    | false =>
      rw [if_neg (by decide), if_neg (by decide), bindS, uniq_snoc]
      unfold addU
      by_cases hm : r ∈ uniq rows0
      · rw [decide_eq_true hm, if_pos hm]
        rfl
      · rw [decide_eq_false hm, if_neg hm, if_pos (by rfl), bindS, appN (by omega), bindS]
theorem okR_app {rows0 rows : List (List Int)} {r : List Int} (h : okR (rows0 ++ r :: rows) = true) : badr rows0 r = false := by
  unfold okR at h
  have hr := List.all_eq_true.mp h r (by simp)
  unfold okr at hr
  rw [Bool.and_eq_true] at hr
  have h1 := of_decide_eq_true hr.1
  have h2 := of_decide_eq_true hr.2
  unfold badr
  rw [decide_eq_false (by omega), Bool.false_or]
  cases rows0 with
  | nil => rfl
  | cons y rows0 =>
    have h2 : r.length = y.length := h2
    show (_ && !(decide (r.length = y.length))) = false
    rw [decide_eq_true h2]
    simp
theorem okR_snoc {rows0 : List (List Int)} {r : List Int} (h : okR rows0 = true) (hb : badr rows0 r = false) : okR (rows0 ++ [r]) = true := by
  unfold badr at hb
  rw [Bool.or_eq_false_iff] at hb
  have h1 := of_decide_eq_false hb.1
  cases rows0 with
  | nil =>
    show (okr r.length r && true) = true
    unfold okr
    rw [decide_eq_true (by omega), decide_eq_true rfl]
    rfl
  | cons y rows0 =>
    have h2 : r.length = y.length := by
      have := hb.2
      rw [decide_eq_false (by simp)] at this
      simpa using this
    unfold okR at h ⊢
    rw [List.all_append]
    show ((y :: rows0).all (okr y.length) && (okr y.length r && true)) = true
    rw [show (y :: rows0).all (okr y.length) = true from h]
    unfold okr
    rw [decide_eq_true (by omega), decide_eq_true h2]
    rfl
theorem told_loop : ∀ {ps : List (List Chr)} {rows0 : List (List Int)}, (∀ p ∈ ps, p.length ≤ 90000) → rows0.length + ps.length ≤ 99999 → okR rows0 = true →
    forC T__law_told_b1 ps (uniq rows0, ((rows0.length : Nat) : Int)) = match mapO RR ps with
      | none => some (.rt none)
      | some rows => if okR (rows0 ++ rows) then some (.nx (uniq (rows0 ++ rows), (((rows0 ++ rows).length : Nat) : Int))) else some (.rt none)
  | [], rows0, _, _, ho => by
    show some _ = if okR (rows0 ++ []) = true then _ else _
    rw [List.append_nil, if_pos ho]
  | p :: ps, rows0, hp, hl, ho => by
    rw [List.length_cons] at hl
    obtain ⟨s1, s2⟩ := told_step (p := p) (rows0 := rows0) (m := ((rows0.length : Nat) : Int)) (hp p List.mem_cons_self) (by omega)
    unfold forC mapO
    cases hr : RR p with
    | none => rw [s1 hr]; rfl
    | some r =>
      rw [s2 r hr]
      cases hb : badr rows0 r with
      | true =>
        rw [if_pos rfl, bindS, bindS]
        cases hm : mapO RR ps with
        | none => rfl
        | some rows =>
          rw [bindS]
          show _ = if okR (rows0 ++ r :: rows) = true then _ else _
          rw [if_neg fun z => by rw [okR_app z] at hb; cases hb]
      | false =>
        rw [if_neg (by decide), bindS, bindS]
        have ih := told_loop (ps := ps) (rows0 := rows0 ++ [r]) (fun q hq => hp q (List.mem_cons_of_mem _ hq)) (by simp; omega) (okR_snoc ho hb)
        have e1 : (((rows0.length : Nat) : Int) + 1) = (((rows0 ++ [r]).length : Nat) : Int) := by simp
        simp only
        rw [e1, ih]
        cases mapO RR ps with
        | none => rfl
        | some rows =>
          rw [bindS]
          show (if okR (rows0 ++ [r] ++ rows) = true then _ else _) = if okR (rows0 ++ r :: rows) = true then _ else _
          rw [show rows0 ++ [r] ++ rows = rows0 ++ r :: rows by simp]
theorem told_ok {s : List Chr} (h : s.length ≤ 60000) : T__law_told (eS s) = some (RT s) := by
  have hl := splitT_len s Tcs_1
  have hp : ∀ p ∈ splitT s Tcs_1, p.length ≤ 90000 := fun p hp => by have := (splitT_part hp).1; omega
  by_cases h0 : s = []
  · subst h0
    unfold T__law_told RT
    rw [isa_S, bindS, if_neg (by decide), txt_eS, bindS]
    rfl
  · have e3 : decide (s = Tcs_3) = false := decide_eq_false h0
    unfold T__law_told RT
    rw [isa_S, bindS, if_neg (by decide), txt_eS, bindS, e3, if_neg (by decide), bindS, splitN cs1_ne (by omega), bindS, if_neg h0]
    have ht := told_loop (ps := splitT s Tcs_1) (rows0 := []) hp (by simp; omega) rfl
    have ht : forC T__law_told_b1 (splitT s Tcs_1) (([] : List (List Int)), (0 : Int)) = _ := ht
    rw [ht]
    show _ = some ((mapO RR (splitT s Tcs_1)).bind _)
    have hne : ∀ rows, mapO RR (splitT s Tcs_1) = some rows → ∀ r ∈ rows, r ≠ [] := fun rows h => rowsOf_ne h
    cases hm : mapO RR (splitT s Tcs_1) with
    | none => rfl
    | some rows =>
      have hlen := mapO_len hm
      simp only [List.nil_append]
      rw [bindS]
      cases ho : okR rows with
      | false => rfl
      | true =>
        rw [if_pos rfl, bindS]
        simp only [behind]
        by_cases h6 : rows.length ≤ 60
        · rw [if_neg (by simp; omega), decide_eq_true h6]
          obtain ⟨u1, u2, _, _, u5⟩ := uniq_facts rows
          obtain ⟨zs, a, b, c, d⟩ := in_ok (rows := rows) (by omega) (hne rows hm)
          obtain ⟨ys, q1, q2, q3⟩ := srtR_ok (l := uniq rows) (by omega) fun r hr => hne rows hm r ((u2 r).mp hr)
          have e : ys = zs := strictR_ext (strictR q3 (q2.nodup_iff.mpr u1)) b fun r => by rw [q2.mem_iff, u2, d]
          unfold canon
          rw [q1, bindS, a, e]
          rfl
        · rw [if_pos (by simp; omega), decide_eq_false h6]
          rfl
theorem told_no {x : FV} (h : isaXG ["str"] x = some false) : T__law_told x = some none := by
  unfold T__law_told
  rw [h, bindS]
  rfl
theorem RT_some {s : List Chr} {q : List (List Int)} (h : RT s = some q) : q.length ≤ 60 ∧ ∀ r ∈ q, r.length ≤ 6 ∧ ∀ x ∈ r, x.natAbs < 10 ^ 61 := by
  unfold RT at h
  split at h
  · cases h
    exact ⟨Nat.zero_le _, fun _ z => nomatch z⟩
  · obtain ⟨rows, h1, h⟩ := Option.bind_eq_some_iff.mp h
    split at h
    · rename_i hc
      cases h
      rw [Bool.and_eq_true] at hc
      have h6 := of_decide_eq_true hc.2
      obtain ⟨zs, a, b, c, d⟩ := in_ok (rows := rows) (by omega) (rowsOf_ne h1)
      unfold canon
      rw [a]
      show zs.length ≤ 60 ∧ ∀ r ∈ zs, _
      refine ⟨by omega, fun r hr => ?_⟩
      have hr := (d r).mp hr
      have ho := List.all_eq_true.mp hc.1 r hr
      unfold okr at ho
      rw [Bool.and_eq_true] at ho
      refine ⟨of_decide_eq_true ho.1, fun x hx => ?_⟩
      obtain ⟨p, _, hp⟩ := mapO_mem h1 r hr
      obtain ⟨w, _, hw⟩ := mapO_mem hp x hx
      exact RN_bound hw
    · cases h
def Fine (x : FV) : Prop := (∃ s : List Chr, x = eS s ∧ s.length ≤ 60000) ∨ isaXG ["str"] x = some false
theorem right_gen {x : FV} {o : Option (List (List Int))} (h1 : T__law_told x = some o) (h2 : T_read_rows x = o) (h3 : T_read_rows_x x = if o.isNone then some NT else none) (hl : ∀ q, o = some q → ∀ r ∈ q, r.length ≤ 6) : T__law_right x = some true := by
  unfold T__law_right
  rw [h1, bindS, h2, h3]
  cases o with
  | none => rfl
  | some q =>
    have hq := hl q rfl
    show (some (some q, none) : Option (Option (List (List Int)) × Option Str)).bind _ = _
    simp only [Option.isNone_some, Bool.false_eq_true, if_false, Option.isSome_none, bindS, decide_true, Bool.not_true, Bool.or_self]
    rw [forC_none (p := fun _ => true) (fun r hr => by
      unfold T__law_right_b1
      rw [if_neg (by decide), lcG_ok (c := fun x2 => (T__law_whole x2).bind fun v10 => some (!v10)) (p := fun _ => false) (h := fun x => x) (fun x _ => ⟨rfl, fun h => by cases h⟩) (by have := hq r hr; omega), bindS, bindS]
      simp)]
    have : q.all (fun _ => true) = true := List.all_eq_true.mpr fun _ _ => rfl
    rw [this]
    rfl
theorem right_ok {x : FV} (h : Fine x) : T__law_right x = some true := by
  rcases h with ⟨s, rfl, h⟩ | h
  · obtain ⟨a, b⟩ := read_ok h
    exact right_gen (told_ok h) a b fun q hq r hr => ((RT_some hq).2 r hr).1
  · obtain ⟨a, b⟩ := read_no h
    exact right_gen (o := none) (told_no h) a b fun q hq => by cases hq
def decT (i : Int) : List Chr := (if i < 0 then [(45 : Chr)] else []) ++ (TL.numL i.natAbs).map (fun n => Fin.ofNat 128 n)
theorem ofs_neg {n : Nat} : (Str.ofString (toString (-((n + 1 : Nat) : Int)))).cps.toList = 45 :: TL.numL (n + 1) := by
  rw [PyProof.Rows.toString_neg (by omega), show (0 : Int) - -((n + 1 : Nat) : Int) = ((n + 1 : Nat) : Int) by omega]
  have h : (Str.ofString (toString ((n + 1 : Nat) : Int))).cps.toList = TL.numL (n + 1) := TL.tl_num (n + 1)
  rw [Str.ofString_eq_toList, List.toList_toArray] at h
  rw [Str.ofString_eq_toList, List.toList_toArray, String.toList_append, List.map_append, h]
  rfl
theorem dec_S (i : Int) : (.str (toString i : Str) : FV) = eS (decT i) := by
  have key : (toString i : Str).cps.toList = (decT i).map Fin.val := by
    have hd : ∀ m : Nat, ((TL.numL m).map (fun n => (Fin.ofNat 128 n : Chr))).map Fin.val = TL.numL m := fun m => by
      rw [List.map_map]
      refine (List.map_congr_left fun c hc => ?_).trans (List.map_id _)
      have := TL.numL_digits m c hc
      show c % 128 = c
      omega
    unfold decT
    by_cases h : i < 0
    · obtain ⟨n, rfl⟩ : ∃ n : Nat, i = -((n + 1 : Nat) : Int) := ⟨i.natAbs - 1, by omega⟩
      rw [if_pos h, List.map_append, hd]
      have : (-((n + 1 : Nat) : Int)).natAbs = n + 1 := by omega
      rw [this]
      exact ofs_neg
    · obtain ⟨n, rfl⟩ : ∃ n : Nat, i = ((n : Nat) : Int) := ⟨i.natAbs, by omega⟩
      rw [if_neg h, List.nil_append, hd, Int.natAbs_natCast]
      exact TL.tl_num n
  show FV.str _ = FV.str (sxS (decT i))
  congr 1
  apply TL.ext_tl
  show (toString i : Str).cps.toList = (sxS (decT i)).cps.toList
  rw [key]
  unfold sxS
  simp
theorem decT_len {i : Int} (h : i.natAbs < 10 ^ 61) : (decT i).length ≤ 62 := by
  have := TL.numL_len (n := i.natAbs) (k := 61) (by decide) h
  unfold decT
  rw [List.length_append, List.length_map]
  split <;> simp <;> omega
theorem strI_ok {i : Int} (h : i.natAbs < 10 ^ 61) : strIG i = some (decT i) := by
  have hl : i.natAbs.log2 < 1920 := by
    by_cases h0 : i.natAbs = 0
    · rw [h0]; decide
    · rw [Nat.log2_lt h0]
      exact Nat.lt_of_lt_of_le h (by decide +kernel)
  unfold strIG
  rw [if_pos hl, dec_S]
  exact txt_eS _
theorem joinT_len (sep : List Chr) : ∀ xs : List (List Chr), (joinT sep xs).length ≤ (xs.map List.length).sum + xs.length * sep.length
  | [] => Nat.zero_le _
  | x :: xs => by
    have key : ∀ xs : List (List Chr), ((xs.map fun y => sep ++ y).flatten).length = (xs.map List.length).sum + xs.length * sep.length := fun xs => by
      induction xs with
      | nil => simp
      | cons x xs ih =>
        rw [List.map_cons, List.flatten_cons, List.length_append, List.length_append, ih, List.map_cons, List.sum_cons, List.length_cons, Nat.add_mul]
        omega
    show (x ++ _).length ≤ _
    rw [List.length_append, key, List.map_cons, List.sum_cons, List.length_cons, Nat.add_mul]
    omega
theorem sum_le {α : Type} {f : α → Nat} {n : Nat} : ∀ {xs : List α}, (∀ x ∈ xs, f x ≤ n) → (xs.map f).sum ≤ n * xs.length
  | [], _ => Nat.zero_le _
  | x :: xs, h => by
    have := sum_le (f := f) fun y hy => h y (List.mem_cons_of_mem _ hy)
    have h1 := h x List.mem_cons_self
    rw [List.map_cons, List.sum_cons, List.length_cons, Nat.mul_add]
    omega
def rowT (r : List Int) : List Chr := joinT [(32 : Chr)] (r.map decT)
def rowsT (rows : List (List Int)) : List Chr := joinT Tcs_1 (rows.map rowT)
def RB (r : List Int) : Prop := r.length ≤ 7 ∧ ∀ x ∈ r, x.natAbs < 10 ^ 61
theorem rowT_len {r : List Int} (h : RB r) : (rowT r).length ≤ 441 := by
  have a := joinT_len [(32 : Chr)] (r.map decT)
  rw [List.map_map, List.length_map, List.length_singleton] at a
  have b := sum_le (f := List.length ∘ decT) (n := 62) (xs := r) fun x hx => decT_len (h.2 x hx)
  have c := h.1
  unfold rowT
  omega
theorem rowT_ok {r : List Int} (h : RB r) : ((lcG (fun _ : Int => some true) (fun x2 => (strIG x2).bind fun v1 => some v1) r).bind fun v2 => (joinSG [(32 : Chr)] v2).bind fun v3 => some v3) = some (rowT r) := by
  have c := h.1
  rw [lcG_map (h := decT) (fun x hx => ⟨rfl, by rw [strI_ok (h.2 x hx), bindS]⟩) (by omega), bindS]
  have b := sum_le (f := List.length ∘ decT) (n := 62) (xs := r) fun x hx => decT_len (h.2 x hx)
  rw [show joinSG [(32 : Chr)] _ = some _ from if_pos (bigL (by rw [List.map_map, List.length_map, List.length_singleton]; omega)), bindS]
  rfl
theorem rowsT_sum {rows : List (List Int)} (h : ∀ r ∈ rows, RB r) : ((rows.map rowT).map List.length).sum ≤ 441 * rows.length := by
  rw [List.map_map]
  exact sum_le fun r hr => rowT_len (h r hr)
theorem rowsT_len {rows : List (List Int)} (h : ∀ r ∈ rows, RB r) (hl : rows.length ≤ 61) : (rowsT rows).length ≤ 40000 := by
  have a := joinT_len Tcs_1 (rows.map rowT)
  have b := rowsT_sum h
  rw [List.length_map, show Tcs_1.length = 2 from rfl] at a
  unfold rowsT
  omega
theorem lawtext_ok {rows : List (List Int)} (h : ∀ r ∈ rows, RB r) (hl : rows.length ≤ 61) : T__law_text rows = some (rowsT rows) := by
  have b := rowsT_sum h
  unfold T__law_text
  rw [lcG_map (h := rowT) (fun r hr => ⟨rfl, rowT_ok (h r hr)⟩) (by omega), bindS]
  rw [show joinSG Tcs_1 _ = some _ from if_pos (bigL (by rw [List.length_map, show Tcs_1.length = 2 from rfl]; omega)), bindS]
  rfl
theorem show_ok {rows : List (List Int)} (h : ∀ r ∈ rows, RB r) (hl : rows.length ≤ 61) : T_show_rows rows = some (rowsT rows) := lawtext_ok h hl
theorem number_ok' (c j : Int) (h0 : 0 ≤ j) (h1 : j ≤ 900) : ∃ v, T__law_number c j = some v ∧ v.natAbs < 10 ^ 61 := by
  obtain ⟨v, e, g⟩ := mix_ok c j h0 (by omega)
  unfold T__law_number
  rw [e, bindS]
  split
  · exact ⟨_, rfl, by omega⟩
  · split
    · exact ⟨_, rfl, by omega⟩
    · rw [mulGr (by omega), bindS, modN (by omega), bindS]
      have a := Int.emod_nonneg (c * (j + 1) + 10 ^ 60 - 1) (show (2 * 10 ^ 60 - 1 : Int) ≠ 0 by omega)
      have b := Int.emod_lt_of_pos (c * (j + 1) + 10 ^ 60 - 1) (show (0 : Int) < 2 * 10 ^ 60 - 1 by omega)
      refine ⟨_, rfl, ?_⟩
      generalize (c * (j + 1) + 10 ^ 60 - 1) % (2 * 10 ^ 60 - 1 : Int) = z at a b
      omega
theorem width_ok {v : Int} (h : 0 ≤ v) : ∃ t : Nat, 1 ≤ t ∧ t ≤ 7 ∧ atI ([(1 : Int), (2 : Int), (3 : Int), (4 : Int), (5 : Int), (6 : Int), (2 : Int), (3 : Int), (1 : Int), (7 : Int)] : List Int) (v % (10 : Int)) = some ((t : Nat) : Int) := by
  have e : v % 10 = (((v % 10).toNat : Nat) : Int) := nat_of (by omega)
  have hl : (v % 10).toNat < 10 := by omega
  generalize (v % 10).toNat = n at e hl
  match n, hl with
  | 0, _ => exact ⟨1, by decide, by decide, atQ e rfl⟩
  | 1, _ => exact ⟨2, by decide, by decide, atQ e rfl⟩
  | 2, _ => exact ⟨3, by decide, by decide, atQ e rfl⟩
  | 3, _ => exact ⟨4, by decide, by decide, atQ e rfl⟩
  | 4, _ => exact ⟨5, by decide, by decide, atQ e rfl⟩
  | 5, _ => exact ⟨6, by decide, by decide, atQ e rfl⟩
  | 6, _ => exact ⟨2, by decide, by decide, atQ e rfl⟩
  | 7, _ => exact ⟨3, by decide, by decide, atQ e rfl⟩
  | 8, _ => exact ⟨1, by decide, by decide, atQ e rfl⟩
  | 9, _ => exact ⟨7, by decide, by decide, atQ e rfl⟩
theorem rowsb1_ok {cells : List Int} {p1 : Int} {i w : Nat} {s : List (List Int)} (hc : cells ≠ []) (hi : i ≤ 61) (hw : w ≤ 7) (hp : 0 ≤ p1) (hs : s.length = i ∧ ∀ r ∈ s, RB r) :
    ∃ s', T__law_rows_b1 cells p1 ((w : Nat) : Int) ((i : Nat) : Int) s = some s' ∧ s'.length = i + 1 ∧ ∀ r ∈ s', RB r := by
  have hpos : 0 < cells.length := List.length_pos_iff.mpr hc
  have hm0 := Int.emod_nonneg (p1 + (i : Int)) (show (cells.length : Int) ≠ 0 by omega)
  have hm1 := Int.emod_lt_of_pos (p1 + (i : Int)) (show (0 : Int) < (cells.length : Int) by omega)
  unfold T__law_rows_b1
  rw [modN (by omega), bindS, atN (nat_of hm0) (by omega), bindS, rangeN w rfl (by omega), bindS]
  generalize cells[((p1 + (i : Int)) % (cells.length : Int)).toNat] = cell
  generalize hcc : cell + (i : Int) / 7 = cc
  have hk : ∀ x ∈ (List.range w).map (fun i => ((i : Nat) : Int)), ((fun _ => some true : Int → Option Bool) x) = some true ∧ ((T__law_number cc (10 + x)).bind fun v12 => some v12) = some ((T__law_number cc (10 + x)).getD 0) := fun x hx => by
    obtain ⟨k, hk, rfl⟩ := List.mem_map.mp hx
    have hk := List.mem_range.mp hk
    obtain ⟨v, e, _⟩ := number_ok' cc (10 + (k : Int)) (by omega) (by omega)
    exact ⟨rfl, by rw [e]; rfl⟩
  rw [lcG_map hk (by simp; omega), bindS]
  have hrow : RB (((List.range w).map (fun i => ((i : Nat) : Int))).map fun x => (T__law_number cc (10 + x)).getD 0) := by
    refine ⟨by simp; exact hw, fun x hx => ?_⟩
    obtain ⟨y, hy, rfl⟩ := List.mem_map.mp hx
    obtain ⟨k, hk, rfl⟩ := List.mem_map.mp hy
    have hk := List.mem_range.mp hk
    obtain ⟨v, e, hv⟩ := number_ok' cc (10 + (k : Int)) (by omega) (by omega)
    rw [e]
    exact hv
  generalize (((List.range w).map (fun i => ((i : Nat) : Int))).map fun x => (T__law_number cc (10 + x)).getD 0) = row at hrow
  obtain ⟨v14, e14, g14⟩ := mix_ok cc 5 (by decide) (by decide)
  obtain ⟨v16, e16, g16⟩ := mix_ok cc 6 (by decide) (by decide)
  have last : ∀ r, RB r → ∃ s', ((appG s r).bind fun v19 => some v19) = some s' ∧ s'.length = i + 1 ∧ ∀ r ∈ s', RB r := fun r hr => by
    rw [appN (by omega), bindS]
    refine ⟨_, rfl, by simp; exact hs.1, fun q hq => ?_⟩
    rcases List.mem_append.mp hq with hq | hq
    · exact hs.2 q hq
    · rw [List.mem_singleton.mp hq]; exact hr
  by_cases h0 : s = []
  · rw [decide_eq_true h0, if_neg (by decide), bindS, if_neg (by decide), bindS]
    exact last _ hrow
  · have hsl : 0 < s.length := List.length_pos_iff.mpr h0
    rw [decide_eq_false h0, if_pos (by rfl), e14, bindS, bindS]
    by_cases h5 : v14 % 5 = 1
    · have a := Int.emod_nonneg v16 (show (s.length : Int) ≠ 0 by omega)
      have b := Int.emod_lt_of_pos v16 (show (0 : Int) < (s.length : Int) by omega)
      rw [if_pos (decide_eq_true h5), e16, bindS, modN (by omega), bindS, atN (nat_of a) (by omega), bindS, bindS]
      exact last _ (hs.2 _ (List.getElem_mem _))
    · rw [if_neg (by simpa using h5), bindS]
      exact last _ hrow
theorem lawrows_ok {cells : List Int} {k : Nat} (hk : k < cells.length) : ∃ rows, T__law_rows cells ((k : Nat) : Int) = some rows ∧ rows.length ≤ 61 ∧ ∀ r ∈ rows, RB r := by
  have hc : cells ≠ [] := fun z => by rw [z] at hk; cases hk
  obtain ⟨v2, e2, g2⟩ := mix_ok cells[k] 1 (by decide) (by decide)
  obtain ⟨v4, e4, g4⟩ := mix_ok cells[k] 2 (by decide) (by decide)
  obtain ⟨v5, e5, g5⟩ := mix_ok cells[k] 3 (by decide) (by decide)
  obtain ⟨v7, e7, g7⟩ := mix_ok cells[k] 4 (by decide) (by decide)
  obtain ⟨w, w1, w7, ew⟩ := width_ok g2
  have fin : ∀ m : Nat, m ≤ 61 → ∃ rows, ((rangeG ((m : Nat) : Int)).bind fun v8 => (forT (T__law_rows_b1 cells ((k : Nat) : Int) ((w : Nat) : Int)) v8 ([] : List (List Int))).bind fun s4 => some s4) = some rows ∧ rows.length ≤ 61 ∧ ∀ r ∈ rows, RB r := fun m hm => by
    rw [rangeN m rfl (by omega), bindS]
    obtain ⟨s', q1, q2, q3⟩ := forT_inv0 (f := T__law_rows_b1 cells ((k : Nat) : Int) ((w : Nat) : Int)) (xs := (List.range m).map fun i => ((i : Nat) : Int)) (s := []) (I := fun i s => s.length = i ∧ ∀ r ∈ s, RB r) ⟨rfl, fun _ h => nomatch h⟩ fun i y s hy hs => by
      obtain ⟨hi, hy⟩ := List.getElem?_eq_some_iff.mp hy
      rw [List.length_map, List.length_range] at hi
      rw [List.getElem_map, List.getElem_range] at hy
      subst hy
      exact rowsb1_ok hc (by omega) w7 (by omega) hs
    rw [List.length_map, List.length_range] at q2
    rw [q1, bindS]
    exact ⟨s', rfl, by omega, q3⟩
  unfold T__law_rows
  rw [atN rfl hk, bindS, e2, bindS, ew, bindS, e4, bindS]
  have hb : ∃ b, (if decide (((k : Nat) : Int) = (0 : Int)) = true then (T__law_mix cells[k] (3 : Int)).bind fun v5 => some (decide (v5 % (4 : Int) = (1 : Int))) else some false) = some b := by
    split
    · rw [e5, bindS]; exact ⟨_, rfl⟩
    · exact ⟨_, rfl⟩
  obtain ⟨b, hb⟩ := hb
  rw [hb, bindS]
  cases b with
  | true =>
    rw [if_pos rfl, e7, bindS, bindS, show 60 + v7 % 2 = (((60 + v7 % 2).toNat : Nat) : Int) from nat_of (by omega)]
    exact fin _ (by omega)
  | false =>
    rw [if_neg (by decide), bindS, show v4 % 6 = (((v4 % 6).toNat : Nat) : Int) from nat_of (by omega)]
    exact fin _ (by omega)
theorem fine_S {s : List Chr} (h : s.length ≤ 60000) : Fine (eS s) := .inl ⟨s, rfl, h⟩
theorem odd_ok (c : Int) : ∃ x, T__law_odd c = some x ∧ Fine x := by
  obtain ⟨v3, e3, g3⟩ := mix_ok c 30 (by decide) (by decide)
  unfold T__law_odd
  rw [catN (by decide), bindS, e3, bindS]
  have hl : (v3 % 27).toNat < 27 := by omega
  rw [atN (nat_of (by omega)) (by simpa using hl), bindS]
  refine ⟨_, rfl, ?_⟩
  refine (?_ : ∀ x ∈ _, Fine x) _ (List.getElem_mem _)
  simp only [List.cons_append, List.nil_append]
  refine List.forall_mem_cons.mpr ⟨fine_S (s := [32]) (by decide), ?_⟩
  refine List.forall_mem_cons.mpr ⟨fine_S (s := [59]) (by decide), ?_⟩
  iterate 11 refine List.forall_mem_cons.mpr ⟨fine_S (by decide), ?_⟩
  refine List.forall_mem_cons.mpr ⟨fine_S (s := [45]) (by decide), ?_⟩
  iterate 2 refine List.forall_mem_cons.mpr ⟨fine_S (by decide), ?_⟩
  refine List.forall_mem_cons.mpr ⟨fine_S (s := [10]) (by decide), ?_⟩
  iterate 5 refine List.forall_mem_cons.mpr ⟨fine_S (by decide), ?_⟩
  refine List.forall_mem_cons.mpr ⟨fine_S (by rw [List.length_replicate]; decide), ?_⟩
  refine List.forall_mem_cons.mpr ⟨fine_S (s := [97]) (by decide), ?_⟩
  refine List.forall_mem_cons.mpr ⟨.inr rfl, ?_⟩
  refine List.forall_mem_cons.mpr ⟨.inr rfl, ?_⟩
  refine List.forall_mem_cons.mpr ⟨.inr rfl, ?_⟩
  exact fun x h => nomatch h
theorem cutS_len {s : List Chr} {lo hi : Option Int} : (cutF s lo hi).length ≤ s.length := by
  unfold cutF
  rw [List.length_take, List.length_drop]
  omega
theorem cut_len {s : List Chr} {a : Nat} : (cutF s none (some ((a : Nat) : Int))).length = min a s.length ∧ (cutF s (some ((a : Nat) : Int)) none).length = s.length - a := by
  rw [cut_none (n := a) rfl, cutFrom (a := a), List.length_take, List.length_drop]
  exact ⟨rfl, rfl⟩
theorem cut_both {s : List Chr} {i : Int} (h : 0 ≤ i) : (cutF s none (some i)).length + (cutF s (some i) none).length = s.length := by
  rw [nat_of h, cut_len.1, cut_len.2]
  omega
theorem cut_both1 {s : List Chr} {i : Int} (h : 0 ≤ i) : (cutF s none (some i)).length + (cutF s (some (i + 1)) none).length ≤ s.length := by
  rw [nat_of (z := i + 1) (by omega), nat_of h, cut_len.1, cut_len.2]
  omega
theorem spoiled_ok {s : List Chr} (c : Int) (h : s.length ≤ 40000) : ∃ x, T__law_spoiled s c = some x ∧ Fine x := by
  obtain ⟨v1, e1, g1⟩ := mix_ok c 31 (by decide) (by decide)
  obtain ⟨v2, e2, g2⟩ := mix_ok c 32 (by decide) (by decide)
  obtain ⟨v5, e5, g5⟩ := mix_ok c 33 (by decide) (by decide)
  unfold T__law_spoiled
  rw [e1, bindS, e2, bindS, lensN (by omega), bindS, modN (by omega), bindS, e5, bindS, lensN (by decide), bindS, modN (by decide), bindS]
  have hp : (0 : Int) < ((Tcs_24.length : Nat) : Int) := by decide
  have a := Int.emod_nonneg v5 (show ((Tcs_24.length : Nat) : Int) ≠ 0 by omega)
  have b := Int.emod_lt_of_pos v5 hp
  rw [atSN (nat_of a) (by omega) (by decide), bindS]
  have l1 : ∀ lo hi, (cutF s lo hi).length ≤ 40000 := fun lo hi => Nat.le_trans cutS_len h
  split
  · have k1 := l1 none (some (v2 % (((s.length : Nat) : Int) + 1)))
    have k2 := l1 (some (v2 % (((s.length : Nat) : Int) + 1))) none
    rw [cutN (by omega), bindS, catN (by rw [List.length_singleton]; omega), bindS, cutN (by omega), bindS, catN (by rw [List.length_append, List.length_singleton]; omega), bindS]
    have h2 : ((cutF s none (some (v2 % (((s.length : Nat) : Int) + 1)))).length + (cutF s (some (v2 % (((s.length : Nat) : Int) + 1))) none).length) ≤ 59999 := by
      have z := cut_both (s := s) (i := v2 % (((s.length : Nat) : Int) + 1)) (Int.emod_nonneg _ (by omega))
      omega
    exact ⟨_, rfl, fine_S (by rw [List.length_append, List.length_append, List.length_singleton]; omega)⟩
  · split
    · have k1 := l1 none (some (v2 % (((s.length : Nat) : Int) + 1)))
      have k2 := l1 (some (v2 % (((s.length : Nat) : Int) + 1) + 1)) none
      have z := cut_both1 (s := s) (i := v2 % (((s.length : Nat) : Int) + 1)) (Int.emod_nonneg _ (by omega))
      rw [cutN (by omega), bindS, cutN (by omega), bindS, catN (by omega), bindS]
      exact ⟨_, rfl, fine_S (by rw [List.length_append]; omega)⟩
    · split
      · have k1 := l1 none (some (v2 % (((s.length : Nat) : Int) + 1)))
        have k2 := l1 (some (v2 % (((s.length : Nat) : Int) + 1) + 1)) none
        have z := cut_both1 (s := s) (i := v2 % (((s.length : Nat) : Int) + 1)) (Int.emod_nonneg _ (by omega))
        rw [cutN (by omega), bindS, catN (by rw [List.length_singleton]; omega), bindS, cutN (by omega), bindS, catN (by rw [List.length_append, List.length_singleton]; omega), bindS]
        exact ⟨_, rfl, fine_S (by rw [List.length_append, List.length_append, List.length_singleton]; omega)⟩
      · split
        · obtain ⟨x, ex, fx⟩ := odd_ok c
          rw [ex, bindS]
          exact ⟨x, rfl, fx⟩
        · exact ⟨_, rfl, fine_S (by omega)⟩
theorem turn_ok {cells : List Int} {k : Nat} (hk : k < cells.length) : T_law_b1 cells ((k : Nat) : Int) () = some (.nx ()) := by
  obtain ⟨rows, e1, h61, hr⟩ := lawrows_ok hk
  have hl := rowsT_len hr h61
  obtain ⟨x, ex, fx⟩ := spoiled_ok (s := rowsT rows) cells[k] hl
  unfold T_law_b1
  rw [e1, bindS, lawtext_ok hr h61, bindS, told_ok (by omega), bindS]
  have last : ((T__law_right (eS (rowsT rows))).bind fun v13 => (if (!v13) then some true else (atI cells ((k : Nat) : Int)).bind fun v14 => (T__law_spoiled (rowsT rows) v14).bind fun v15 => (T__law_right v15).bind fun v16 => some (!v16)).bind fun v17 => (if v17 then some (.rt false) else some (.nx ()) : Option (Ctl Unit Bool))) = some (.nx ()) := by
    rw [right_ok (fine_S (by omega)), bindS, if_neg (by decide), atN rfl hk, bindS, ex, bindS, right_ok fx, bindS, bindS]
    rfl
  cases hq : RT (rowsT rows) with
  | none => exact last
  | some q =>
    obtain ⟨q1, q2⟩ := RT_some hq
    have hq2 : ∀ r ∈ q, RB r := fun r h => ⟨by have := (q2 r h).1; omega, (q2 r h).2⟩
    rw [if_pos (by rfl), bindS, bindS, show_ok hq2 (by omega), bindS, if_neg (by decide), lawtext_ok hq2 (by omega), bindS, decide_eq_true rfl, if_neg (by decide), decide_eq_true rfl, if_neg (by decide), right_ok (fine_S (by have := rowsT_len hq2 (by omega); omega)), bindS, bindS, bindS, bindS, if_neg (by decide)]
    exact last
theorem law_all (cells : List Int) (h : cells.length ≤ 100000) : T_law cells = some true := by
  have key : ∀ ks : List Nat, (∀ k ∈ ks, k < cells.length) → forC (T_law_b1 cells) (ks.map fun k => ((k : Nat) : Int)) () = some (.nx ()) := fun ks => by
    induction ks with
    | nil => intro _; rfl
    | cons k ks ih =>
      intro hk
      rw [List.map_cons]
      unfold forC
      rw [turn_ok (hk k List.mem_cons_self), bindS]
      exact ih fun k h => hk k (List.mem_cons_of_mem _ h)
  unfold T_law
  rw [rangeN cells.length rfl h, bindS, key _ fun k h => List.mem_range.mp h, bindS]
  rfl
theorem law_true (ns : List Int) (h : ns.length ≤ 63) : ∃ env, lawAns ns = .ok (.rt (.fz (.bl true)) env) := sm_law (law_all _ (by rw [List.length_append, List.length_take, List.length_singleton]; omega))
end J
open PySem PySem.W PyProof.Rows in
set_option maxRecDepth 100000 in
set_option maxHeartbeats 0 in
theorem PySem.Challenge.cw_joinwood_k62_rows_as_texts_holds : PySem.Challenge.rw_joinwood_k62_rows_as_texts.Holds := by
  w_on; o_law; k_head; (case hw => w_witness2)
  k_fill
  refine J.walk (l := PySem.Challenge.rw_joinwood_k62_rows_as_texts) rfl rfl (fun w h Y => PySem.W.kIn_of Y) ?F
  case F =>
    intro w mg fa h KX G hmg
    refine' J.all_mk KX G hmg J.law_true ?a1 ?l1 ?c1 ?k1 ?a2 ?l2 ?c2 ?k2 ?a3 ?l3 ?c3 ?k3 ?a4 ?l4 ?c4 ?k4 ?a5 ?l5 ?c5 ?k5 ?a6 ?l6 ?c6 ?k6 ?a7 ?l7 ?c7 ?k7 ?a8 ?l8 ?c8 ?k8 ?a9 ?l9 ?c9 ?k9 ?a10 ?l10 ?c10 ?k10 ?a11 ?l11 ?c11 ?k11 ?a12 ?l12 ?c12 ?k12 ?a13 ?l13 ?c13 ?k13 ?a14 ?l14 ?c14 ?k14 ?a15 ?l15 ?c15 ?k15 ?xa_JoinError ?xk_JoinError ?xe_JoinError ?xb_JoinError ?xv_JoinError ?xs_JoinError ?xn_JoinError ?xt_JoinError ?xd_JoinError ?xg_JoinError ?xh_JoinError ?xc_JoinError ?xm_JoinError ?xa_NoTable ?xk_NoTable ?xe_NoTable ?xb_NoTable ?xv_NoTable ?xs_NoTable ?xn_NoTable ?xt_NoTable ?xd_NoTable ?xg_NoTable ?xh_NoTable ?xc_NoTable ?xm_NoTable ?xa_NoWidth ?xk_NoWidth ?xe_NoWidth ?xb_NoWidth ?xv_NoWidth ?xs_NoWidth ?xn_NoWidth ?xt_NoWidth ?xd_NoWidth ?xg_NoWidth ?xh_NoWidth ?xc_NoWidth ?xm_NoWidth ?xa_NoAnswer ?xk_NoAnswer ?xe_NoAnswer ?xb_NoAnswer ?xv_NoAnswer ?xs_NoAnswer ?xn_NoAnswer ?xt_NoAnswer ?xd_NoAnswer ?xg_NoAnswer ?xh_NoAnswer ?xc_NoAnswer ?xm_NoAnswer ?xa_NoText ?xk_NoText ?xe_NoText ?xb_NoText ?xv_NoText ?xs_NoText ?xn_NoText ?xt_NoText ?xd_NoText ?xg_NoText ?xh_NoText ?xc_NoText ?xm_NoText ?xa_NoRow ?xk_NoRow ?xe_NoRow ?xb_NoRow ?xv_NoRow ?xs_NoRow ?xn_NoRow ?xt_NoRow ?xd_NoRow ?xg_NoRow ?xh_NoRow ?xc_NoRow ?xm_NoRow ?xp_NoText_NoTable ?xp_NoText_NoWidth ?xp_NoText_NoAnswer ?xp_NoText_NoRow ?xp_NoText_NoText ?xp_NoText_JoinError ?xo1 ?xo2 ?z_len ?z_range ?z_list ?z_isinstance ?z_str ?z_tuple ?z_sorted ?z_int ?z_ValueError ?z_bool ?g_FIGURES ?g_LETTERS ?g_ROWS ?g_LONGEST
    (case a1 => k_is)
    (case l1 => k_is)
    (case c1 => k_is)
    (case k1 => k_is)
    (case a2 => k_is)
    (case l2 => k_is)
    (case c2 => k_is)
    (case k2 => k_is)
    (case a3 => k_is)
    (case l3 => k_is)
    (case c3 => k_is)
    (case k3 => k_is)
    (case a4 => k_is)
    (case l4 => k_is)
    (case c4 => k_is)
    (case k4 => k_is)
    (case a5 => k_is)
    (case l5 => k_is)
    (case c5 => k_is)
    (case k5 => k_is)
    (case a6 => k_is)
    (case l6 => k_is)
    (case c6 => k_is)
    (case k6 => k_is)
    (case a7 => k_is)
    (case l7 => k_is)
    (case c7 => k_is)
    (case k7 => k_is)
    (case a8 => k_is)
    (case l8 => k_is)
    (case c8 => k_is)
    (case k8 => k_is)
    (case a9 => k_is)
    (case l9 => k_is)
    (case c9 => k_is)
    (case k9 => k_is)
    (case a10 => k_is)
    (case l10 => k_is)
    (case c10 => k_is)
    (case k10 => k_is)
    (case a11 => k_is)
    (case l11 => k_is)
    (case c11 => k_is)
    (case k11 => k_is)
    (case a12 => k_is)
    (case l12 => k_is)
    (case c12 => k_is)
    (case k12 => k_is)
    (case a13 => k_is)
    (case l13 => k_is)
    (case c13 => k_is)
    (case k13 => k_is)
    (case a14 => k_is)
    (case l14 => k_is)
    (case c14 => k_is)
    (case k14 => k_is)
    (case a15 => k_is)
    (case l15 => k_is)
    (case c15 => k_is)
    (case k15 => k_is)
    (case xa_JoinError => k_is)
    (case xk_JoinError => k_is)
    (case xe_JoinError => k_exc)
    (case xb_JoinError => k_is)
    (case xv_JoinError => k_is)
    (case xs_JoinError => k_is)
    (case xn_JoinError => k_is)
    (case xt_JoinError => k_is)
    (case xd_JoinError => k_is)
    (case xg_JoinError => k_is)
    (case xh_JoinError => k_is)
    (case xc_JoinError => k_is)
    (case xm_JoinError => k_is)
    (case xa_NoTable => k_is)
    (case xk_NoTable => k_is)
    (case xe_NoTable => k_exc)
    (case xb_NoTable => k_is)
    (case xv_NoTable => k_is)
    (case xs_NoTable => k_is)
    (case xn_NoTable => k_is)
    (case xt_NoTable => k_is)
    (case xd_NoTable => k_is)
    (case xg_NoTable => k_is)
    (case xh_NoTable => k_is)
    (case xc_NoTable => k_is)
    (case xm_NoTable => k_is)
    (case xa_NoWidth => k_is)
    (case xk_NoWidth => k_is)
    (case xe_NoWidth => k_exc)
    (case xb_NoWidth => k_is)
    (case xv_NoWidth => k_is)
    (case xs_NoWidth => k_is)
    (case xn_NoWidth => k_is)
    (case xt_NoWidth => k_is)
    (case xd_NoWidth => k_is)
    (case xg_NoWidth => k_is)
    (case xh_NoWidth => k_is)
    (case xc_NoWidth => k_is)
    (case xm_NoWidth => k_is)
    (case xa_NoAnswer => k_is)
    (case xk_NoAnswer => k_is)
    (case xe_NoAnswer => k_exc)
    (case xb_NoAnswer => k_is)
    (case xv_NoAnswer => k_is)
    (case xs_NoAnswer => k_is)
    (case xn_NoAnswer => k_is)
    (case xt_NoAnswer => k_is)
    (case xd_NoAnswer => k_is)
    (case xg_NoAnswer => k_is)
    (case xh_NoAnswer => k_is)
    (case xc_NoAnswer => k_is)
    (case xm_NoAnswer => k_is)
    (case xa_NoText => k_is)
    (case xk_NoText => k_is)
    (case xe_NoText => k_exc)
    (case xb_NoText => k_is)
    (case xv_NoText => k_is)
    (case xs_NoText => k_is)
    (case xn_NoText => k_is)
    (case xt_NoText => k_is)
    (case xd_NoText => k_is)
    (case xg_NoText => k_is)
    (case xh_NoText => k_is)
    (case xc_NoText => k_is)
    (case xm_NoText => k_is)
    (case xa_NoRow => k_is)
    (case xk_NoRow => k_is)
    (case xe_NoRow => k_exc)
    (case xb_NoRow => k_is)
    (case xv_NoRow => k_is)
    (case xs_NoRow => k_is)
    (case xn_NoRow => k_is)
    (case xt_NoRow => k_is)
    (case xd_NoRow => k_is)
    (case xg_NoRow => k_is)
    (case xh_NoRow => k_is)
    (case xc_NoRow => k_is)
    (case xm_NoRow => k_is)
    (case xp_NoText_NoTable => k_is)
    (case xp_NoText_NoWidth => k_is)
    (case xp_NoText_NoAnswer => k_is)
    (case xp_NoText_NoRow => k_is)
    (case xp_NoText_NoText => k_is)
    (case xp_NoText_JoinError => k_is)
    (case xo1 => k_is)
    (case xo2 => k_is)
    (case z_len => k_is)
    (case z_range => k_is)
    (case z_list => k_is)
    (case z_isinstance => k_is)
    (case z_str => k_is)
    (case z_tuple => k_is)
    (case z_sorted => k_is)
    (case z_int => k_is)
    (case z_ValueError => k_is)
    (case z_bool => k_is)
    (case g_FIGURES => k_is)
    (case g_LETTERS => k_is)
    (case g_ROWS => k_is)
    (case g_LONGEST => k_is)
