import PyProof.Rows.All
import Wide.All
import OpenK.AllK
import Wide.FinOn
import HandS.ForMost
import HandS.ForExc
import HandS.Deep
import HandS.TupAny
import HandS.SortInts
import HandS.SortOrd
import HandS.Wide
import KE.KeyNested
import HandS.Style
import HandS.IsInst
import KE.SortData
import HandS.Flt
import PyProof.ListStr
import PyProof.TupleOfStr
import KE.KIndexOf
import HandS.Zip
import KE.GoesMore
import HandS.Rev
import HandS.ListItems
import HandS.More
import HandS.Text
import HandS.SetFor
import HandS.Strs
import HandS.TupSets
import HandS.SetKeys
import HandS.Dict
import PyProof.Rows.TupTab
import KE.KDictZip
import PyProof.DictUpdate
import HandS.Iter
import HandS.ExcIs
import HandS.DeepEq
import PySem.Challenge.RW_joinwood_k02_rows
set_option Elab.async false
set_option linter.all false
set_option maxRecDepth 100000
namespace J
open PySem PySem.Spec PyProof.Rows L2
abbrev Sl := List (Option V)
/-- keys (i, (j, ..)): a dict that holds True at each -/
abbrev NK := Int × List Int
def nkey (k : NK) : NestedKey := .tup [.num k.1, .tup (k.2.map .num)]
def TabN (a : Addr) (kb : List (NK × Addr)) : HO := .ext fun h => (a == sysModules) = false ∧ (kb.map (·.1)).Nodup ∧ ∀ w : World, ∃ o es ep, h.get? a = some o ∧ o.ExactDict ∧ o.data = .dict es ep ∧ es.toList = kb.map fun p => ⟨(nkey p.1).hash w, .ref p.2, .bool true⟩
def KeyTs (F : Hp) (kb : List (NK × Addr)) : Prop := ∀ p ∈ kb, ∃ c, F p.2 = some (.tup [.int p.1.1, .ref c]) ∧ F c = some (.tup (p.1.2.map V.int))
/-! ### values -/
inductive FV where
  | non
  | bl (b : Bool)
  | int (i : Int)
  | str (x : Str)
  | tup (xs : List FV)
  | tuz (xs : List FV)
  | lst (xs : List FV)
  | dK (kvs : List (Key × FV))
  | dT (kvs : List (List Key × FV))
  | ins (c : Str) (fs : List (Str × FV))
  | exc (c : Str)
  | scr (xs : List Int)
  | dN (ks : List NK)
inductive OV where
  | fz (x : FV)
  | ol (xs : List FV)
  | oK (kvs : List (Key × FV))
  | oT (kvs : List (List Key × FV))
  | dl (xs : List OV)
  | dd (kvs : List (Key × OV))
  | tp (xs : List OV)
  | ob (c : Str) (fs : List (Str × OV))
  | oN (ks : List NK)
section
variable (M : Str → Option Value) (F : Hp)
mutual
def FDen : FV → V → Prop
  | .non, v => v = .non
  | .bl b, v => v = .bl b
  | .int i, v => v = .int i
  | .str x, v => v = .str x
  | .tup xs, v => ∃ a vs, v = .ref a ∧ F a = some (.tup vs) ∧ FDenL xs vs
  | .tuz xs, v => ∃ a vs o, v = .ref a ∧ F a = some (.frz o (.tup vs)) ∧ o.cls = .type "tuple" ∧ o.dict = none ∧ FDenL xs vs
  | .lst xs, v => ∃ a vs, v = .ref a ∧ F a = some (.lst vs) ∧ FDenL xs vs
  | .dK kvs, v => ∃ a ws, v = .ref a ∧ F a = some (.dK ws) ∧ FDenK kvs ws
  | .dT kvs, v => ∃ a ws, v = .ref a ∧ F a = some (.dT ws) ∧ FDenT kvs ws
  | .ins c fs, v => ∃ a C dx ws, v = .ref a ∧ M c = some (.ref C) ∧ F a = some (.ins C dx ws) ∧ F dx = some (.own a) ∧ FDenA fs ws
  | .exc c, v => ∃ a C, v = .ref a ∧ M c = some (.ref C) ∧ F a = some (.ext fun h => ∃ oe vs, h.get? a = some oe ∧ Zc (.ref C) none oe ∧ oe.data = .fields vs)
  | .scr xs, v => ∃ a, v = .ref a ∧ Rd F a (.lst (xs.map V.int))
  | .dN ks, v => ∃ a kb, v = .ref a ∧ F a = some (TabN a kb) ∧ kb.map (·.1) = ks ∧ KeyTs F kb
def FDenL : List FV → List V → Prop
  | [], vs => vs = []
  | x :: xs, vs => ∃ v ws, vs = v :: ws ∧ FDen x v ∧ FDenL xs ws
def FDenK : List (Key × FV) → List (Key × V) → Prop
  | [], ws => ws = []
  | (k, x) :: r, ws => ∃ v rs, ws = (k, v) :: rs ∧ FDen x v ∧ FDenK r rs
def FDenT : List (List Key × FV) → List (List Key × V) → Prop
  | [], ws => ws = []
  | (k, x) :: r, ws => ∃ v rs, ws = (k, v) :: rs ∧ FDen x v ∧ FDenT r rs
def FDenA : List (Str × FV) → List (Str × V) → Prop
  | [], ws => ws = []
  | (k, x) :: r, ws => ∃ v rs, ws = (k, v) :: rs ∧ FDen x v ∧ FDenA r rs
end
abbrev Cells := List (Addr × HO)
mutual
def Own : OV → V → Cells → Prop
  | .fz x, v, L => FDen M F x v ∧ L = []
  | .ol xs, v, L => ∃ a vs, v = .ref a ∧ FDenL M F xs vs ∧ L = [(a, .lst vs)]
  | .oK kvs, v, L => ∃ a ws, v = .ref a ∧ FDenK M F kvs ws ∧ L = [(a, .dK ws)]
  | .oT kvs, v, L => ∃ a ws, v = .ref a ∧ FDenT M F kvs ws ∧ L = [(a, .dT ws)]
  | .dl xs, v, L => ∃ a vs L', v = .ref a ∧ OwnL xs vs L' ∧ L = (a, .lst vs) :: L'
  | .dd kvs, v, L => ∃ a ws L', v = .ref a ∧ OwnK kvs ws L' ∧ L = (a, .dK ws) :: L'
  | .tp xs, v, L => ∃ a vs, v = .ref a ∧ F a = some (.tup vs) ∧ OwnL xs vs L
  | .ob c fs, v, L => ∃ a C dx ws L', v = .ref a ∧ M c = some (.ref C) ∧ F dx = some (.own a) ∧ OwnA fs ws L' ∧ L = (a, .ins C dx ws) :: L'
  | .oN ks, v, L => ∃ a kb, v = .ref a ∧ kb.map (·.1) = ks ∧ KeyTs F kb ∧ L = [(a, TabN a kb)]
def OwnL : List OV → List V → Cells → Prop
  | [], vs, L => vs = [] ∧ L = []
  | x :: xs, vs, L => ∃ v ws A B, vs = v :: ws ∧ Own x v A ∧ OwnL xs ws B ∧ L = A ++ B
def OwnK : List (Key × OV) → List (Key × V) → Cells → Prop
  | [], ws, L => ws = [] ∧ L = []
  | (k, x) :: r, ws, L => ∃ v rs A B, ws = (k, v) :: rs ∧ Own x v A ∧ OwnK r rs B ∧ L = A ++ B
def OwnA : List (Str × OV) → List (Str × V) → Cells → Prop
  | [], ws, L => ws = [] ∧ L = []
  | (k, x) :: r, ws, L => ∃ v rs A B, ws = (k, v) :: rs ∧ Own x v A ∧ OwnA r rs B ∧ L = A ++ B
end
end
/-! ### a larger frozen heap -/
section
variable {M : Str → Option Value} {F F' : Hp}
theorem KeyTs.mono (h : Same F F') {kb : List (NK × Addr)} (k : KeyTs F kb) : KeyTs F' kb := fun p hp => let ⟨c, a, b⟩ := k p hp; ⟨c, h _ _ a, h _ _ b⟩
mutual
theorem FDen.mono (h : Same F F') : ∀ {x : FV} {v : V}, FDen M F x v → FDen M F' x v
  | .non, _, d => d
  | .bl _, _, d => d
  | .int _, _, d => d
  | .str _, _, d => d
  | .tup xs, _, ⟨a, vs, e, q, r⟩ => ⟨a, vs, e, h _ _ q, FDenL.mono h r⟩
  | .tuz xs, _, ⟨a, vs, o, e, q, q1, q2, r⟩ => ⟨a, vs, o, e, h _ _ q, q1, q2, FDenL.mono h r⟩
  | .lst xs, _, ⟨a, vs, e, q, r⟩ => ⟨a, vs, e, h _ _ q, FDenL.mono h r⟩
  | .dK kvs, _, ⟨a, vs, e, q, r⟩ => ⟨a, vs, e, h _ _ q, FDenK.mono h r⟩
  | .dT kvs, _, ⟨a, vs, e, q, r⟩ => ⟨a, vs, e, h _ _ q, FDenT.mono h r⟩
  | .ins c fs, _, ⟨a, C, dx, ws, e, m, q, q2, r⟩ => ⟨a, C, dx, ws, e, m, h _ _ q, h _ _ q2, FDenA.mono h r⟩
  | .exc c, _, ⟨a, C, e, m, q⟩ => ⟨a, C, e, m, h _ _ q⟩
  | .scr xs, _, ⟨a, e, q⟩ => ⟨a, e, q.elim (fun q => .inl (h _ _ q)) fun ⟨o, q⟩ => .inr ⟨o, h _ _ q⟩⟩
  | .dN ks, _, ⟨a, kb, e, q, n, k⟩ => ⟨a, kb, e, h _ _ q, n, k.mono h⟩
theorem FDenL.mono (h : Same F F') : ∀ {xs : List FV} {vs : List V}, FDenL M F xs vs → FDenL M F' xs vs
  | [], _, d => d
  | _ :: _, _, ⟨v, ws, e, d, r⟩ => ⟨v, ws, e, FDen.mono h d, FDenL.mono h r⟩
theorem FDenK.mono (h : Same F F') : ∀ {xs : List (Key × FV)} {vs : List (Key × V)}, FDenK M F xs vs → FDenK M F' xs vs
  | [], _, d => d
  | (_, _) :: _, _, ⟨v, ws, e, d, r⟩ => ⟨v, ws, e, FDen.mono h d, FDenK.mono h r⟩
theorem FDenT.mono (h : Same F F') : ∀ {xs : List (List Key × FV)} {vs : List (List Key × V)}, FDenT M F xs vs → FDenT M F' xs vs
  | [], _, d => d
  | (_, _) :: _, _, ⟨v, ws, e, d, r⟩ => ⟨v, ws, e, FDen.mono h d, FDenT.mono h r⟩
theorem FDenA.mono (h : Same F F') : ∀ {xs : List (Str × FV)} {vs : List (Str × V)}, FDenA M F xs vs → FDenA M F' xs vs
  | [], _, d => d
  | (_, _) :: _, _, ⟨v, ws, e, d, r⟩ => ⟨v, ws, e, FDen.mono h d, FDenA.mono h r⟩
end
mutual
theorem Own.mono (h : Same F F') : ∀ {x : OV} {v : V} {L : Cells}, Own M F x v L → Own M F' x v L
  | .fz _, _, _, ⟨d, e⟩ => ⟨d.mono h, e⟩
  | .ol _, _, _, ⟨a, vs, e, r, q⟩ => ⟨a, vs, e, r.mono h, q⟩
  | .oK _, _, _, ⟨a, vs, e, r, q⟩ => ⟨a, vs, e, r.mono h, q⟩
  | .oT _, _, _, ⟨a, vs, e, r, q⟩ => ⟨a, vs, e, r.mono h, q⟩
  | .dl _, _, _, ⟨a, vs, L', e, r, q⟩ => ⟨a, vs, L', e, OwnL.mono h r, q⟩
  | .dd _, _, _, ⟨a, vs, L', e, r, q⟩ => ⟨a, vs, L', e, OwnK.mono h r, q⟩
  | .tp _, _, _, ⟨a, vs, e, q, r⟩ => ⟨a, vs, e, h _ _ q, OwnL.mono h r⟩
  | .ob _ _, _, _, ⟨a, C, dx, ws, L', e, m, q, r, q2⟩ => ⟨a, C, dx, ws, L', e, m, h _ _ q, OwnA.mono h r, q2⟩
  | .oN ks, _, _, ⟨a, kb, e, n, k, q⟩ => ⟨a, kb, e, n, k.mono h, q⟩
theorem OwnL.mono (h : Same F F') : ∀ {xs : List OV} {vs : List V} {L : Cells}, OwnL M F xs vs L → OwnL M F' xs vs L
  | [], _, _, d => d
  | _ :: _, _, _, ⟨v, ws, A, B, e, d, r, q⟩ => ⟨v, ws, A, B, e, Own.mono h d, OwnL.mono h r, q⟩
theorem OwnK.mono (h : Same F F') : ∀ {xs : List (Key × OV)} {vs : List (Key × V)} {L : Cells}, OwnK M F xs vs L → OwnK M F' xs vs L
  | [], _, _, d => d
  | (_, _) :: _, _, _, ⟨v, ws, A, B, e, d, r, q⟩ => ⟨v, ws, A, B, e, Own.mono h d, OwnK.mono h r, q⟩
theorem OwnA.mono (h : Same F F') : ∀ {xs : List (Str × OV)} {vs : List (Str × V)} {L : Cells}, OwnA M F xs vs L → OwnA M F' xs vs L
  | [], _, _, d => d
  | (_, _) :: _, _, _, ⟨v, ws, A, B, e, d, r, q⟩ => ⟨v, ws, A, B, e, Own.mono h d, OwnA.mono h r, q⟩
end
end
/-! ### the frozen look of an owned value -/
mutual
def OV.fv : OV → FV
  | .fz x => x
  | .ol xs => .lst xs
  | .oK kvs => .dK kvs
  | .oT kvs => .dT kvs
  | .dl xs => .lst (OV.fvL xs)
  | .dd kvs => .dK (OV.fvK kvs)
  | .tp xs => .tup (OV.fvL xs)
  | .ob c fs => .ins c (OV.fvA fs)
  | .oN ks => .dN ks
def OV.fvL : List OV → List FV
  | [] => []
  | x :: xs => x.fv :: OV.fvL xs
def OV.fvK : List (Key × OV) → List (Key × FV)
  | [] => []
  | (k, x) :: xs => (k, x.fv) :: OV.fvK xs
def OV.fvA : List (Str × OV) → List (Str × FV)
  | [] => []
  | (k, x) :: xs => (k, x.fv) :: OV.fvA xs
end
theorem OV.fvL_map : ∀ xs : List OV, OV.fvL xs = xs.map OV.fv
  | [] => rfl
  | x :: xs => by simp only [OV.fvL, List.map_cons, OV.fvL_map xs]
section
variable {M : Str → Option Value} {F H : Hp}
mutual
theorem Own.fden (h : Same F H) : ∀ {x : OV} {v : V} {L : Cells}, Own M F x v L → (∀ p ∈ L, H p.1 = some p.2) → FDen M H x.fv v
  | .fz _, _, _, ⟨d, e⟩, _ => d.mono h
  | .ol _, _, _, ⟨a, vs, e, r, q⟩, c => ⟨a, vs, e, by subst q; exact c _ List.mem_cons_self, r.mono h⟩
  | .oK _, _, _, ⟨a, vs, e, r, q⟩, c => ⟨a, vs, e, by subst q; exact c _ List.mem_cons_self, r.mono h⟩
  | .oT _, _, _, ⟨a, vs, e, r, q⟩, c => ⟨a, vs, e, by subst q; exact c _ List.mem_cons_self, r.mono h⟩
  | .dl _, _, _, ⟨a, vs, L', e, r, q⟩, c => by
    subst q
    exact ⟨a, vs, e, c _ List.mem_cons_self, OwnL.fden h r fun p hp => c p (List.mem_cons_of_mem _ hp)⟩
  | .dd _, _, _, ⟨a, vs, L', e, r, q⟩, c => by
    subst q
    exact ⟨a, vs, e, c _ List.mem_cons_self, OwnK.fden h r fun p hp => c p (List.mem_cons_of_mem _ hp)⟩
  | .tp _, _, _, ⟨a, vs, e, q, r⟩, c => ⟨a, vs, e, h _ _ q, OwnL.fden h r c⟩
  | .ob _ _, _, _, ⟨a, C, dx, ws, L', e, m, q, r, q2⟩, c => by
    subst q2
    exact ⟨a, C, dx, ws, e, m, c _ List.mem_cons_self, h _ _ q, OwnA.fden h r fun p hp => c p (List.mem_cons_of_mem _ hp)⟩
  | .oN ks, _, _, ⟨a, kb, e, n, k, q⟩, c => ⟨a, kb, e, by subst q; exact c _ List.mem_cons_self, n, k.mono h⟩
theorem OwnL.fden (h : Same F H) : ∀ {xs : List OV} {vs : List V} {L : Cells}, OwnL M F xs vs L → (∀ p ∈ L, H p.1 = some p.2) → FDenL M H (OV.fvL xs) vs
  | [], _, _, d, _ => d.1
  | _ :: _, _, _, ⟨v, ws, A, B, e, d, r, q⟩, c => by
    subst q
    exact ⟨v, ws, e, Own.fden h d fun p hp => c p (List.mem_append_left _ hp), OwnL.fden h r fun p hp => c p (List.mem_append_right _ hp)⟩
theorem OwnK.fden (h : Same F H) : ∀ {xs : List (Key × OV)} {vs : List (Key × V)} {L : Cells}, OwnK M F xs vs L → (∀ p ∈ L, H p.1 = some p.2) → FDenK M H (OV.fvK xs) vs
  | [], _, _, d, _ => d.1
  | (_, _) :: _, _, _, ⟨v, ws, A, B, e, d, r, q⟩, c => by
    subst q
    exact ⟨v, ws, e, Own.fden h d fun p hp => c p (List.mem_append_left _ hp), OwnK.fden h r fun p hp => c p (List.mem_append_right _ hp)⟩
theorem OwnA.fden (h : Same F H) : ∀ {xs : List (Str × OV)} {vs : List (Str × V)} {L : Cells}, OwnA M F xs vs L → (∀ p ∈ L, H p.1 = some p.2) → FDenA M H (OV.fvA xs) vs
  | [], _, _, d, _ => d.1
  | (_, _) :: _, _, _, ⟨v, ws, A, B, e, d, r, q⟩, c => by
    subst q
    exact ⟨v, ws, e, Own.fden h d fun p hp => c p (List.mem_append_left _ hp), OwnA.fden h r fun p hp => c p (List.mem_append_right _ hp)⟩
end
end
/-! ### results, environments -/
/-- a result: one's own (or frozen), or only looked at -/
inductive Rv where
  | st (o : OV)
  | bo (o : OV)
def Rv.ov : Rv → OV
  | .st o => o
  | .bo o => o
def Rv.fv (r : Rv) : FV := r.ov.fv
inductive Ans (α : Type) where
  | ok (a : α)
  | ex (c : Str)
  | no
def Ans.bind {α β : Type} (x : Ans α) (f : α → Ans β) : Ans β := match x with
  | .ok a => f a
  | .ex c => .ex c
  | .no => .no
def Ans.map {α β : Type} (f : α → β) (x : Ans α) : Ans β := match x with
  | .ok a => .ok (f a)
  | .ex c => .ex c
  | .no => .no
abbrev VEnv := List (Option OV)
abbrev DE := VEnv → Ans Rv
abbrev DT := VEnv → Ans Bool
inductive SO where
  | nx (e : VEnv)
  | rt (o : OV) (e : VEnv)
  | bk (e : VEnv)
  | ct (e : VEnv)
abbrev DS := VEnv → Ans SO
/-! ### cells -/
def updL (F : Hp) : Cells → Hp
  | [] => F
  | p :: L => upd (updL F L) p.1 p.2
theorem updL_out {F : Hp} {a : Addr} : ∀ {L : Cells}, (∀ p ∈ L, p.1 ≠ a) → updL F L a = F a
  | [], _ => rfl
  | p :: L, h => by
    unfold updL
    rw [upd_ne (fun e => h p List.mem_cons_self e.symm)]
    exact updL_out fun q hq => h q (List.mem_cons_of_mem _ hq)
theorem updL_in {F : Hp} : ∀ {L : Cells}, (L.map (·.1)).Nodup → ∀ p ∈ L, updL F L p.1 = some p.2
  | [], _, _, h => nomatch h
  | q :: L, nd, p, h => by
    rw [List.map_cons, List.nodup_cons] at nd
    unfold updL
    rcases List.mem_cons.mp h with rfl | h
    · exact upd_same
    · rw [upd_ne (fun e => nd.1 (by rw [← e]; exact List.mem_map.mpr ⟨p, h, rfl⟩))]
      exact updL_in nd.2 p h
theorem updL_cases {F : Hp} {a : Addr} {o : HO} : ∀ {L : Cells}, updL F L a = some o → F a = some o ∨ (a, o) ∈ L
  | [], h => .inl h
  | q :: L, h => by
    unfold updL at h
    by_cases e : a = q.1
    · rw [e, upd_same] at h
      cases h
      exact .inr (by rw [e]; exact List.mem_cons_self)
    · rw [upd_ne e] at h
      exact (updL_cases h).imp id (List.mem_cons_of_mem _)
/-- L: one's own cells: they stand in H, apart, not among the frozen F, nor among what is kept (Z) -/
structure Good (F Z H : Hp) (L : Cells) : Prop where
  nd : (L.map (·.1)).Nodup
  hp : ∀ p ∈ L, H p.1 = some p.2
  fr : ∀ p ∈ L, F p.1 = none
  zr : ∀ p ∈ L, Z p.1 = none
section
variable {F F' Z H H' : Hp} {L L' D : Cells}
theorem Good.nil : Good F Z H [] := ⟨List.nodup_nil, (fun _ h => nomatch h), (fun _ h => nomatch h), (fun _ h => nomatch h)⟩
theorem Good.perm (g : Good F Z H L) (p : L.Perm L') : Good F Z H L' :=
  ⟨(p.map _).nodup_iff.mp g.nd, fun q hq => g.hp q (p.mem_iff.mpr hq), fun q hq => g.fr q (p.mem_iff.mpr hq), fun q hq => g.zr q (p.mem_iff.mpr hq)⟩
theorem Good.left (g : Good F Z H (L ++ L')) : Good F Z H L := by
  have n := g.nd
  rw [List.map_append, List.nodup_append] at n
  exact ⟨n.1, fun q hq => g.hp q (List.mem_append_left _ hq), fun q hq => g.fr q (List.mem_append_left _ hq), fun q hq => g.zr q (List.mem_append_left _ hq)⟩
theorem Good.right (g : Good F Z H (L ++ L')) : Good F Z H L' := (g.perm List.perm_append_comm).left
theorem Good.apart (g : Good F Z H (L ++ L')) : ∀ p ∈ L, ∀ q ∈ L', p.1 ≠ q.1 := fun p hp q hq e => by
  have n := g.nd
  rw [List.map_append, List.nodup_append] at n
  exact n.2.2 p.1 (List.mem_map.mpr ⟨p, hp, rfl⟩) q.1 (List.mem_map.mpr ⟨q, hq, rfl⟩) e
theorem Good.same (g : Good F Z H L) (h : Same H H') : Good F Z H' L := ⟨g.nd, fun p hp => h _ _ (g.hp p hp), g.fr, g.zr⟩
theorem Good.mk' (g : Good F Z H L) (g' : Good F Z H L') (h : ∀ p ∈ L, ∀ q ∈ L', p.1 ≠ q.1) : Good F Z H (L ++ L') := by
  refine ⟨?_, fun p hp => (List.mem_append.mp hp).elim (g.hp p) (g'.hp p), fun p hp => (List.mem_append.mp hp).elim (g.fr p) (g'.fr p), fun p hp => (List.mem_append.mp hp).elim (g.zr p) (g'.zr p)⟩
  rw [List.map_append, List.nodup_append]
  refine ⟨g.nd, g'.nd, fun a ha b hb e => ?_⟩
  obtain ⟨p, hp, e1⟩ := List.mem_map.mp ha
  obtain ⟨q, hq, e2⟩ := List.mem_map.mp hb
  exact h p hp q hq (by rw [e1, e2, e])
end
/-! ### environments over cells -/
section
variable (M : Str → Option Value) (F H : Hp)
inductive EnvOwn : Sl → VEnv → Cells → Prop
  | nil : EnvOwn [] [] []
  | skip {s : Option V} {σ : Sl} {env : VEnv} {L : Cells} : EnvOwn σ env L → EnvOwn (s :: σ) (none :: env) L
  | cons {v : V} {o : OV} {σ : Sl} {env : VEnv} {A B : Cells} : Own M F o v A → EnvOwn σ env B → EnvOwn (some v :: σ) (some o :: env) (A ++ B)
/-- looked at: it stands in the heap -/
def Bor (o : OV) (v : V) : Prop := ∃ A, Own M F o v A ∧ ∀ p ∈ A, H p.1 = some p.2
inductive TmpOwn : List (V × Rv) → Cells → Prop
  | nil : TmpOwn [] []
  | st {v : V} {o : OV} {T : List (V × Rv)} {A B : Cells} : Own M F o v A → TmpOwn T B → TmpOwn ((v, .st o) :: T) (A ++ B)
  | bo {v : V} {o : OV} {T : List (V × Rv)} {B : Cells} : Bor M F H o v → TmpOwn T B → TmpOwn ((v, .bo o) :: T) B
end
section
variable {M : Str → Option Value} {F F' H H' : Hp} {σ : Sl} {env : VEnv} {L : Cells} {T : List (V × Rv)} {o : OV} {v : V}
theorem EnvOwn.mono (h : Same F F') (e : EnvOwn M F σ env L) : EnvOwn M F' σ env L := by
  induction e with
  | nil => exact .nil
  | skip _ ih => exact .skip ih
  | cons d _ ih => exact .cons (d.mono h) ih
theorem Bor.mono (h : Same F F') (h' : Same H H') (b : Bor M F H o v) : Bor M F' H' o v :=
  let ⟨A, d, c⟩ := b
  ⟨A, d.mono h, fun p hp => h' _ _ (c p hp)⟩
theorem Bor.fden (h : Same F H) (b : Bor M F H o v) : FDen M H o.fv v :=
  let ⟨_, d, c⟩ := b
  d.fden h c
theorem TmpOwn.mono (h : Same F F') (h' : Same H H') (e : TmpOwn M F H T L) : TmpOwn M F' H' T L := by
  induction e with
  | nil => exact .nil
  | st d _ ih => exact .st (d.mono h) ih
  | bo d _ ih => exact .bo (d.mono h h') ih
theorem EnvOwn.len (e : EnvOwn M F σ env L) : σ.length = env.length := by
  induction e with
  | nil => rfl
  | skip _ ih => simp [ih]
  | cons _ _ ih => simp [ih]
/-- the value in a slot, and what may be put in its stead -/
theorem EnvOwn.repl (e : EnvOwn M F σ env L) : ∀ {i : Nat}, env[i]? = some (some o) → ∃ v A Lr, σ[i]? = some (some v) ∧ Own M F o v A ∧ L.Perm (A ++ Lr) ∧
    (∀ o' v' A', Own M F o' v' A' → ∃ L', EnvOwn M F (σ.set i (some v')) (env.set i (some o')) L' ∧ L'.Perm (A' ++ Lr)) ∧ ∀ s, EnvOwn M F (σ.set i s) (env.set i none) Lr := by
  induction e with
  | nil => intro i h; simp at h
  | @skip s σ env L e ih =>
    intro i h
    cases i with
    | zero => simp at h
    | succ i =>
      obtain ⟨v, A, Lr, h1, h2, h3, h4, h5⟩ := ih (i := i) (by simpa using h)
      refine ⟨v, A, Lr, by simpa using h1, h2, h3, fun o' v' A' d => ?_, fun s => .skip (h5 s)⟩
      obtain ⟨L', q1, q2⟩ := h4 o' v' A' d
      exact ⟨L', .skip q1, q2⟩
  | @cons v o2 σ env A B d e ih =>
    intro i h
    cases i with
    | zero =>
      have h' : o2 = o := by simpa using h
      subst h'
      exact ⟨v, A, B, rfl, d, .refl _, fun o' v' A' d' => ⟨A' ++ B, .cons d' e, .refl _⟩, fun s => .skip e⟩
    | succ i =>
      obtain ⟨w, A2, Lr, h1, h2, h3, h4, h5⟩ := ih (i := i) (by simpa using h)
      refine ⟨w, A2, A ++ Lr, by simpa using h1, h2, ?_, fun o' v' A' d' => ?_, fun s => .cons d (h5 s)⟩
      · exact (List.Perm.append_left A h3).trans (by
          rw [← List.append_assoc, ← List.append_assoc]
          exact List.perm_append_comm.append_right _)
      · obtain ⟨L', q1, q2⟩ := h4 o' v' A' d'
        refine ⟨A ++ L', .cons d q1, (List.Perm.append_left A q2).trans ?_⟩
        rw [← List.append_assoc, ← List.append_assoc]
        exact List.perm_append_comm.append_right _
/-- storing a value into a slot -/
theorem EnvOwn.set (e : EnvOwn M F σ env L) : ∀ (i : Nat) {A : Cells}, Own M F o v A → ∃ L' D, EnvOwn M F (σ.set i (some v)) (env.set i (some o)) L' ∧ (A ++ L).Perm (L' ++ D) := by
  induction e with
  | nil => intro i A d; exact ⟨[], A, .nil, by simp⟩
  | @skip s σ env L e ih =>
    intro i A d
    cases i with
    | zero => exact ⟨A ++ L, [], .cons d e, by simp⟩
    | succ i =>
      obtain ⟨L', D, q1, q2⟩ := ih i d
      exact ⟨L', D, .skip q1, q2⟩
  | @cons v2 o2 σ env A2 B d2 e ih =>
    intro i A d
    cases i with
    | zero =>
      refine ⟨A ++ B, A2, .cons d e, ?_⟩
      rw [List.append_assoc]
      exact List.Perm.append_left A List.perm_append_comm
    | succ i =>
      obtain ⟨L', D, q1, q2⟩ := ih i d
      refine ⟨A2 ++ L', D, .cons d2 q1, ?_⟩
      rw [List.append_assoc]
      refine List.Perm.trans ?_ (List.Perm.append_left A2 q2)
      rw [← List.append_assoc, ← List.append_assoc]
      exact List.perm_append_comm.append_right _
theorem EnvOwn.unset (e : EnvOwn M F σ env L) (i : Nat) (s : Option V) : ∃ L' D, EnvOwn M F (σ.set i s) (env.set i none) L' ∧ L.Perm (L' ++ D) := by
  induction e generalizing i with
  | nil => exact ⟨[], [], .nil, by simp⟩
  | @skip s2 σ env L e ih =>
    cases i with
    | zero => exact ⟨L, [], .skip e, by simp⟩
    | succ i =>
      obtain ⟨L', D, q1, q2⟩ := ih i
      exact ⟨L', D, .skip q1, q2⟩
  | @cons v2 o2 σ env A2 B d2 e ih =>
    cases i with
    | zero => exact ⟨B, A2, .skip e, List.perm_append_comm⟩
    | succ i =>
      obtain ⟨L', D, q1, q2⟩ := ih i
      refine ⟨A2 ++ L', D, .cons d2 q1, ?_⟩
      rw [List.append_assoc]
      exact List.Perm.append_left A2 q2
theorem TmpOwn.sub {T' : List (V × Rv)} (e : TmpOwn M F H T L) (h : T'.Sublist T) : ∃ L' D, TmpOwn M F H T' L' ∧ L.Perm (L' ++ D) := by
  induction h generalizing L with
  | slnil => exact ⟨L, [], e, by simp⟩
  | cons a _ ih =>
    cases e with
    | st d e =>
      obtain ⟨L', D, q1, q2⟩ := ih e
      rename_i A B
      refine ⟨L', A ++ D, q1, ?_⟩
      refine (List.Perm.append_left A q2).trans ?_
      rw [← List.append_assoc, ← List.append_assoc]
      exact List.perm_append_comm.append_right _
    | bo d e => exact ih e
  | cons_cons a _ ih =>
    cases e with
    | st d e =>
      obtain ⟨L', D, q1, q2⟩ := ih e
      rename_i A B
      refine ⟨A ++ L', D, .st d q1, ?_⟩
      rw [List.append_assoc]
      exact List.Perm.append_left A q2
    | bo d e =>
      obtain ⟨L', D, q1, q2⟩ := ih e
      exact ⟨L', D, .bo d q1, q2⟩
end
/-! ### the relation -/
/-- G: what is given; Z: what must stand; F: what is frozen -/
structure RF (M : Str → Option Value) (G Z H F : Hp) (σ : Sl) (env : VEnv) (T : List (V × Rv)) (L1 L2 : Cells) : Prop where
  gf : Same G F
  fg : ∀ a o, F a = some o → G a = some o ∨ Z a = none
  fh : Same F H
  zh : Same Z H
  ev : EnvOwn M F σ env L1
  tm : TmpOwn M F H T L2
  gd : Good F Z H (L1 ++ L2)
def R (M : Str → Option Value) (G Z H : Hp) (σ : Sl) (env : VEnv) (T : List (V × Rv)) : Prop := ∃ F L1 L2, RF M G Z H F σ env T L1 L2
/-- v is a new value o (its frozen parts stood before, or are new) -/
structure NewF (M : Str → Option Value) (F H H' F' : Hp) (o : OV) (v : V) (L : Cells) : Prop where
  ff : Same F F'
  fn : ∀ a u, F' a = some u → F a = some u ∨ H a = none
  fh : Same F' H'
  hh : Same H H'
  ow : Own M F' o v L
  gd : Good F' H H' L
def New (M : Str → Option Value) (F H H' : Hp) (o : OV) (v : V) : Prop := ∃ F' L, NewF M F H H' F' o v L
section
variable {M : Str → Option Value} {G Z H H' F F' : Hp} {σ : Sl} {env : VEnv} {T T' : List (V × Rv)} {L1 L2 : Cells} {o : OV} {v : V} {i : Nat}
theorem RF.r (r : RF M G Z H F σ env T L1 L2) : R M G Z H σ env T := ⟨F, L1, L2, r⟩
theorem RF.same (r : RF M G Z H F σ env T L1 L2) (h : Same H H') : RF M G Z H' F σ env T L1 L2 :=
  ⟨r.gf, r.fg, r.fh.trans h, r.zh.trans h, r.ev, r.tm.mono (Same.refl _) h, r.gd.same h⟩
theorem R.same (r : R M G Z H σ env T) (h : Same H H') : R M G Z H' σ env T := let ⟨_, _, _, r⟩ := r; (r.same h).r
theorem RF.sub (r : RF M G Z H F σ env T L1 L2) (h : T'.Sublist T) : R M G Z H σ env T' := by
  obtain ⟨L', D, q1, q2⟩ := r.tm.sub h
  refine ⟨F, L1, L', r.gf, r.fg, r.fh, r.zh, r.ev, q1, ?_⟩
  have g := r.gd.perm (List.Perm.append_left L1 q2)
  rw [← List.append_assoc] at g
  exact g.left
theorem R.sub (r : R M G Z H σ env T) (h : T'.Sublist T) : R M G Z H σ env T' := let ⟨_, _, _, r⟩ := r; r.sub h
theorem R.pop {p : V × Rv} (r : R M G Z H σ env (p :: T)) : R M G Z H σ env T := r.sub (List.sublist_cons_self _ _)
theorem R.pop2 {p q : V × Rv} (r : R M G Z H σ env (p :: q :: T)) : R M G Z H σ env (p :: T) := r.sub ((List.sublist_cons_self _ _).cons_cons _)
theorem R.pop3 {p q q2 : V × Rv} (r : R M G Z H σ env (p :: q :: q2 :: T)) : R M G Z H σ env (p :: T) := r.sub (((List.sublist_cons_self _ _).cons _).cons_cons _)
theorem RF.new (r : RF M G Z H F σ env T L1 L2) (n : New M F H H' o v) : R M G Z H' σ env ((v, .st o) :: T) := by
  obtain ⟨F', L, n⟩ := n
  refine ⟨F', L1, L ++ L2, r.gf.trans n.ff, fun a u e => ?_, n.fh, r.zh.trans n.hh, r.ev.mono n.ff, .st n.ow (r.tm.mono n.ff n.hh), ?_⟩
  · rcases n.fn a u e with e | e
    · exact r.fg a u e
    · refine .inr ?_
      cases q : Z a with
      | none => rfl
      | some z => rw [r.zh a z q] at e; cases e
  · have g : Good F' Z H' (L1 ++ L2) := ⟨r.gd.nd, fun p hp => n.hh _ _ (r.gd.hp p hp), (fun p hp => by
      cases q : F' p.1 with
      | none => rfl
      | some u =>
        rcases n.fn _ _ q with e | e
        · rw [r.gd.fr p hp] at e; cases e
        · rw [r.gd.hp p hp] at e; cases e), r.gd.zr⟩
    have g2 : Good F' Z H' L := ⟨n.gd.nd, n.gd.hp, n.gd.fr, fun p hp => by
      cases q : Z p.1 with
      | none => rfl
      | some z =>
        have e := n.gd.zr p hp
        rw [r.zh _ z q] at e
        cases e⟩
    have g3 := g2.mk' g fun p hp q hq e => by
      have e1 := n.gd.zr p hp
      rw [e, r.gd.hp q hq] at e1
      cases e1
    refine g3.perm ?_
    rw [← List.append_assoc, ← List.append_assoc]
    exact List.perm_append_comm.append_right _
theorem RF.look (r : RF M G Z H F σ env T L1 L2) (h : env[i]? = some (some o)) : ∃ v, σ[i]? = some (some v) ∧ RF M G Z H F σ env ((v, .bo o) :: T) L1 L2 := by
  obtain ⟨v, A, Lr, h1, h2, h3, _⟩ := r.ev.repl h
  refine ⟨v, h1, r.gf, r.fg, r.fh, r.zh, r.ev, .bo ⟨A, h2, fun p hp => r.gd.hp p (List.mem_append_left _ (h3.mem_iff.mpr (List.mem_append_left _ hp)))⟩ r.tm, r.gd⟩
theorem RF.lookF {x : FV} (r : RF M G Z H F σ env T L1 L2) (h : env[i]? = some (some (.fz x))) : ∃ v, σ[i]? = some (some v) ∧ RF M G Z H F σ env ((v, .st (.fz x)) :: T) L1 L2 := by
  obtain ⟨v, A, Lr, h1, h2, h3, _⟩ := r.ev.repl h
  have hA : A = [] := h2.2
  subst hA
  exact ⟨v, h1, r.gf, r.fg, r.fh, r.zh, r.ev, .st (A := []) h2 r.tm, r.gd⟩
theorem R.set (r : R M G Z H σ env ((v, .st o) :: T)) (i : Nat) : R M G Z H (σ.set i (some v)) (env.set i (some o)) T := by
  obtain ⟨F, L1, L2, r⟩ := r
  cases r.tm with
  | @st _ _ _ A B d t =>
    obtain ⟨L', D, q1, q2⟩ := r.ev.set i d
    refine ⟨F, L', B, r.gf, r.fg, r.fh, r.zh, q1, t, ?_⟩
    have g := r.gd
    have p1 : (L1 ++ (A ++ B)).Perm ((L' ++ B) ++ D) := by
      refine List.Perm.trans ?_ (List.Perm.trans (q2.append_right B) ?_)
      · rw [← List.append_assoc]
        exact (List.perm_append_comm).append_right B
      · rw [List.append_assoc, List.append_assoc]
        exact List.Perm.append_left L' List.perm_append_comm
    exact (g.perm p1).left
theorem R.unset (r : R M G Z H σ env T) (i : Nat) (s : Option V) : R M G Z H (σ.set i s) (env.set i none) T := by
  obtain ⟨F, L1, L2, r⟩ := r
  obtain ⟨L', D, q1, q2⟩ := r.ev.unset i s
  refine ⟨F, L', L2, r.gf, r.fg, r.fh, r.zh, q1, r.tm, ?_⟩
  have p1 : (L1 ++ L2).Perm ((L' ++ L2) ++ D) := by
    refine (q2.append_right L2).trans ?_
    rw [List.append_assoc, List.append_assoc]
    exact List.Perm.append_left L' List.perm_append_comm
  exact (r.gd.perm p1).left
/-- cells L frozen -/
theorem RF.ice (r : RF M G Z H F σ env T L1 L2) {A Lr : Cells} (p : (L1 ++ L2).Perm (A ++ Lr)) :
    Same G (updL F A) ∧ (∀ a o, updL F A a = some o → G a = some o ∨ Z a = none) ∧ Same F (updL F A) ∧ Same (updL F A) H ∧ Good (updL F A) Z H Lr ∧ ∀ p ∈ A, updL F A p.1 = some p.2 := by
  have g := r.gd.perm p
  have ff : Same F (updL F A) := fun a o e => by
    rw [updL_out fun q hq z => by
      have := g.fr q (List.mem_append_left _ hq)
      rw [z, e] at this
      cases this]
    exact e
  refine ⟨r.gf.trans ff, fun a o e => ?_, ff, fun a o e => ?_, ⟨g.right.nd, g.right.hp, fun q hq => ?_, g.right.zr⟩, fun q hq => updL_in g.left.nd q hq⟩
  · rcases updL_cases e with e | e
    · exact r.fg a o e
    · exact .inr (g.zr _ (List.mem_append_left _ e))
  · rcases updL_cases e with e | e
    · exact r.fh a o e
    · exact g.hp _ (List.mem_append_left _ e)
  · rw [updL_out fun q2 hq2 z => g.apart q2 hq2 q hq z]
    exact g.right.fr q hq
theorem R.freeze (r : R M G Z H σ env T) (h : env[i]? = some (some o)) : R M G Z H σ (env.set i (some (.fz o.fv))) T := by
  obtain ⟨F, L1, L2, r⟩ := r
  obtain ⟨v, A, Lr, h1, h2, h3, h4, _⟩ := r.ev.repl h
  obtain ⟨i1, i2, i3, i4, i5, i6⟩ := r.ice (A := A) (Lr := Lr ++ L2) (by rw [← List.append_assoc]; exact h3.append_right L2)
  obtain ⟨v2, A2, Lr2, k1, k2, k3, k4, _⟩ := (r.ev.mono i3).repl h
  rw [h1] at k1
  obtain rfl := Option.some.inj (Option.some.inj k1)
  have e2 := h4 (.fz .non) .non [] ⟨rfl, rfl⟩
  obtain ⟨L', q1, q2⟩ := e2
  have hset : env.set i (some (OV.fz o.fv)) = (env.set i (some (OV.fz .non))).set i (some (OV.fz o.fv)) := by rw [List.set_set]
  have hσ : σ = (σ.set i (some V.non)).set i (some v) := by
    rw [List.set_set]
    apply List.ext_getElem?
    intro j
    by_cases hj : i = j
    · subst hj
      obtain ⟨hlt, _⟩ := List.getElem?_eq_some_iff.mp h1
      rw [List.getElem?_set_self hlt, h1]
    · rw [List.getElem?_set_ne hj]
  have hi : (env.set i (some (OV.fz .non)))[i]? = some (some (OV.fz .non)) := by
    obtain ⟨hlt, _⟩ := List.getElem?_eq_some_iff.mp h
    exact List.getElem?_set_self hlt
  obtain ⟨v3, A3, Lr3, j1, j2, j3, j4, _⟩ := (q1.mono i3).repl hi
  have hA3 : A3 = [] := j2.2
  subst hA3
  obtain ⟨L4, u1, u2⟩ := j4 (.fz o.fv) v [] ⟨h2.fden i3 i6, rfl⟩
  rw [← hσ, ← hset] at u1
  refine ⟨updL F A, L4, L2, i1, i2, i4, r.zh, u1, r.tm.mono i3 (Same.refl _), i5.perm (List.Perm.append_right L2 ?_)⟩
  exact (q2.symm.trans j3).trans u2.symm
end
end J
namespace J
open PySem PySem.Spec PyProof.Rows L2
/-! ### judgements -/
section
variable {M : Str → Option Value} {G Z H H1 H2 F : Hp} {σ : Sl} {env : VEnv} {T T' T2 : List (V × Rv)} {W : WX} {Q : VK} {v : V} {o : OV} {L L1 L2 : Cells}
theorem TmpOwn.perm {H : Hp} (h : T.Perm T') : ∀ {L : Cells}, TmpOwn M F H T L → ∃ L', TmpOwn M F H T' L' ∧ L.Perm L' := by
  induction h with
  | nil => intro L e; exact ⟨L, e, .refl _⟩
  | cons x _ ih =>
    intro L e
    cases e with
    | st d e =>
      obtain ⟨L', q1, q2⟩ := ih e
      exact ⟨_, .st d q1, List.Perm.append_left _ q2⟩
    | bo d e =>
      obtain ⟨L', q1, q2⟩ := ih e
      exact ⟨_, .bo d q1, q2⟩
  | swap x y l =>
    intro L e
    cases e with
    | st d e =>
      cases e with
      | st d2 e =>
        refine ⟨_, .st d2 (.st d e), ?_⟩
        rw [← List.append_assoc, ← List.append_assoc]
        exact List.perm_append_comm.append_right _
      | bo d2 e => exact ⟨_, .bo d2 (.st d e), .refl _⟩
    | bo d e =>
      cases e with
      | st d2 e => exact ⟨_, .st d2 (.bo d e), .refl _⟩
      | bo d2 e => exact ⟨_, .bo d2 (.bo d e), .refl _⟩
  | trans _ _ ih1 ih2 =>
    intro L e
    obtain ⟨L1, q1, q2⟩ := ih1 e
    obtain ⟨L2, q3, q4⟩ := ih2 q1
    exact ⟨L2, q3, q2.trans q4⟩
theorem R.perm (r : R M G Z H σ env T) (h : T.Perm T') : R M G Z H σ env T' := by
  obtain ⟨F, L1, L2, r⟩ := r
  obtain ⟨L', q1, q2⟩ := r.tm.perm h
  exact ⟨F, L1, L', r.gf, r.fg, r.fh, r.zh, r.ev, q1, r.gd.perm (List.Perm.append_left _ q2)⟩
/-- T' is part of T -/
def Sb (T' T : List (V × Rv)) : Prop := ∃ D, T.Perm (T' ++ D)
theorem Sb.refl : Sb T T := ⟨[], by simp⟩
theorem Sb.cons {p : V × Rv} (h : Sb T' T) : Sb T' (p :: T) := by
  obtain ⟨D, h⟩ := h
  refine ⟨p :: D, (h.cons p).trans ?_⟩
  exact List.perm_middle.symm
theorem Sb.both {p : V × Rv} (h : Sb T' T) : Sb (p :: T') (p :: T) := by
  obtain ⟨D, h⟩ := h
  exact ⟨D, h.cons p⟩
theorem Sb.trans (a : Sb T T') (b : Sb T' T2) : Sb T T2 := by
  obtain ⟨D, a⟩ := a
  obtain ⟨E, b⟩ := b
  refine ⟨D ++ E, b.trans ?_⟩
  rw [← List.append_assoc]
  exact a.append_right E
theorem R.sb (r : R M G Z H σ env T) (h : Sb T' T) : R M G Z H σ env T' := by
  obtain ⟨D, h⟩ := h
  exact (r.perm h).sub (List.sublist_append_left _ _)
theorem RF.bor {p : V × Rv} (r : RF M G Z H F σ env T L1 L2) (h : p ∈ T) : Bor M F H p.2.ov p.1 := by
  obtain ⟨gf, fg, fh, zh, ev, tm, gd⟩ := r
  have key : ∀ {T : List (V × Rv)} {L : Cells}, TmpOwn M F H T L → (∀ q ∈ L, H q.1 = some q.2) → p ∈ T → Bor M F H p.2.ov p.1 := by
    intro T L e
    induction e with
    | nil => intro _ h; exact nomatch h
    | st d _ ih =>
      intro hc h
      rcases List.mem_cons.mp h with rfl | h
      · exact ⟨_, d, fun q hq => hc q (List.mem_append_left _ hq)⟩
      · exact ih (fun q hq => hc q (List.mem_append_right _ hq)) h
    | bo d _ ih =>
      intro hc h
      rcases List.mem_cons.mp h with rfl | h
      · exact d
      · exact ih hc h
  exact key tm (fun q hq => gd.hp q (List.mem_append_right _ hq)) h
/-- what is wanted of an answer -/
def Post (M : Str → Option Value) (W : WX) (G Z : Hp) (σ : Sl) (env : VEnv) (T : List (V × Rv)) (Q : VK) (H : Hp) : Ans Rv → Prop
  | .ok r => ∀ v H', Same H H' → R M G Z H' σ env ((v, r) :: T) → Q v H'
  | .ex c => ∀ C H', M c = some (.ref C) → Same H H' → R M G Z H' σ env T → W (.ref C) none σ H'
  | .no => False
def tE (M : Str → Option Value) (W : WX) (f : DE) : TE := fun σ H Q => ∃ G Z env T, R M G Z H σ env T ∧ Post M W G Z σ env T Q H (f env)
def PostT (M : Str → Option Value) (W : WX) (G Z : Hp) (σ : Sl) (env : VEnv) (T : List (V × Rv)) (Q : Bool → Hp → Prop) (H : Hp) : Ans Bool → Prop
  | .ok b => ∀ H', Same H H' → R M G Z H' σ env T → Q b H'
  | .ex c => ∀ C H', M c = some (.ref C) → Same H H' → R M G Z H' σ env T → W (.ref C) none σ H'
  | .no => False
def tT (M : Str → Option Value) (W : WX) (f : DT) : TT := fun σ H Q => ∃ G Z env T, R M G Z H σ env T ∧ PostT M W G Z σ env T Q H (f env)
/-- the answers of an argument list -/
def PostA (M : Str → Option Value) (W : WX) (G Z : Hp) (σ : Sl) (env : VEnv) (T : List (V × Rv)) (Q : List V → Hp → Prop) (H : Hp) : Ans (List Rv) → Prop
  | .ok rs => ∀ vs H', vs.length = rs.length → Same H H' → R M G Z H' σ env (vs.zip rs ++ T) → Q vs H'
  | .ex c => ∀ C H', M c = some (.ref C) → Same H H' → R M G Z H' σ env T → W (.ref C) none σ H'
  | .no => False
def tA (M : Str → Option Value) (W : WX) (f : VEnv → Ans (List Rv)) : TA := fun σ H Q => ∃ G Z env T, R M G Z H σ env T ∧ PostA M W G Z σ env T Q H (f env)
theorem Post.later {x : Ans Rv} (p : Post M W G Z σ env T Q H x) (h : Same H H1) : Post M W G Z σ env T Q H1 x := by
  cases x with
  | ok r => exact fun v H' s r => p v H' (h.trans s) r
  | ex c => exact fun C H' m s r => p C H' m (h.trans s) r
  | no => exact p
theorem PostT.later {x : Ans Bool} {Q : Bool → Hp → Prop} (p : PostT M W G Z σ env T Q H x) (h : Same H H1) : PostT M W G Z σ env T Q H1 x := by
  cases x with
  | ok r => exact fun H' s r => p H' (h.trans s) r
  | ex c => exact fun C H' m s r => p C H' m (h.trans s) r
  | no => exact p
theorem PostA.later {x : Ans (List Rv)} {Q : List V → Hp → Prop} (p : PostA M W G Z σ env T Q H x) (h : Same H H1) : PostA M W G Z σ env T Q H1 x := by
  cases x with
  | ok r => exact fun v H' hl s r => p v H' hl (h.trans s) r
  | ex c => exact fun C H' m s r => p C H' m (h.trans s) r
  | no => exact p
/-- one expression first: what follows is about the rest -/
theorem tE.then {f : DE} {Q1 : VK} (r : R M G Z H σ env T2) (hs : Sb T T2)
    (hok : ∀ rv v H1, f env = .ok rv → Same H H1 → R M G Z H1 σ env ((v, rv) :: T2) → Q1 v H1)
    (hex : ∀ c C H1, f env = .ex c → M c = some (.ref C) → Same H H1 → R M G Z H1 σ env T → W (.ref C) none σ H1) (hno : f env ≠ .no) : tE M W f σ H Q1 := by
  refine ⟨G, Z, env, T2, r, ?_⟩
  cases e : f env with
  | ok rv => exact fun v H1 s r => hok rv v H1 e s r
  | ex c => exact fun C H1 m s r => hex c C H1 e m s (r.sb hs)
  | no => exact absurd e hno
theorem tE.bind {f : DE} {k : Rv → Ans Rv} {Q1 : VK} (r : R M G Z H σ env T2) (hs : Sb T T2) (p : Post M W G Z σ env T Q H ((f env).bind k))
    (h : ∀ rv v H1, f env = .ok rv → Same H H1 → R M G Z H1 σ env ((v, rv) :: T2) → Post M W G Z σ env T Q H1 (k rv) → Q1 v H1) : tE M W f σ H Q1 := by
  refine tE.then r hs (fun rv v H1 e s r => h rv v H1 e s r ?_) (fun c C H1 e m s r => ?_) fun e => ?_
  · rw [e] at p; exact p.later s
  · rw [e] at p; exact p C H1 m s r
  · rw [e] at p; exact p
theorem tE.bindT {f : DE} {k : Rv → Ans Bool} {Q1 : VK} {Q : Bool → Hp → Prop} (r : R M G Z H σ env T2) (hs : Sb T T2) (p : PostT M W G Z σ env T Q H ((f env).bind k))
    (h : ∀ rv v H1, f env = .ok rv → Same H H1 → R M G Z H1 σ env ((v, rv) :: T2) → PostT M W G Z σ env T Q H1 (k rv) → Q1 v H1) : tE M W f σ H Q1 := by
  refine tE.then r hs (fun rv v H1 e s r => h rv v H1 e s r ?_) (fun c C H1 e m s r => ?_) fun e => ?_
  · rw [e] at p; exact p.later s
  · rw [e] at p; exact p C H1 m s r
  · rw [e] at p; exact p
theorem tE.bindA {f : DE} {k : Rv → Ans (List Rv)} {Q1 : VK} {Q : List V → Hp → Prop} (r : R M G Z H σ env T2) (hs : Sb T T2) (p : PostA M W G Z σ env T Q H ((f env).bind k))
    (h : ∀ rv v H1, f env = .ok rv → Same H H1 → R M G Z H1 σ env ((v, rv) :: T2) → PostA M W G Z σ env T Q H1 (k rv) → Q1 v H1) : tE M W f σ H Q1 := by
  refine tE.then r hs (fun rv v H1 e s r => h rv v H1 e s r ?_) (fun c C H1 e m s r => ?_) fun e => ?_
  · rw [e] at p; exact p.later s
  · rw [e] at p; exact p C H1 m s r
  · rw [e] at p; exact p
theorem tT.bind {f : DT} {k : Bool → Ans Rv} {Q1 : Bool → Hp → Prop} (r : R M G Z H σ env T2) (hs : Sb T T2) (p : Post M W G Z σ env T Q H ((f env).bind k))
    (h : ∀ b H1, f env = .ok b → Same H H1 → R M G Z H1 σ env T2 → Post M W G Z σ env T Q H1 (k b) → Q1 b H1) : tT M W f σ H Q1 := by
  refine ⟨G, Z, env, T2, r, ?_⟩
  cases e : f env with
  | ok b =>
    rw [e] at p
    exact fun H1 s r => h b H1 e s r (p.later s)
  | ex c =>
    rw [e] at p
    exact fun C H1 m s r => p C H1 m s (r.sb hs)
  | no => rw [e] at p; exact p
theorem tT.bindT {f : DT} {k : Bool → Ans Bool} {Q1 : Bool → Hp → Prop} {Q : Bool → Hp → Prop} (r : R M G Z H σ env T2) (hs : Sb T T2) (p : PostT M W G Z σ env T Q H ((f env).bind k))
    (h : ∀ b H1, f env = .ok b → Same H H1 → R M G Z H1 σ env T2 → PostT M W G Z σ env T Q H1 (k b) → Q1 b H1) : tT M W f σ H Q1 := by
  refine ⟨G, Z, env, T2, r, ?_⟩
  cases e : f env with
  | ok b =>
    rw [e] at p
    exact fun H1 s r => h b H1 e s r (p.later s)
  | ex c =>
    rw [e] at p
    exact fun C H1 m s r => p C H1 m s (r.sb hs)
  | no => rw [e] at p; exact p
theorem tA.bind {f : VEnv → Ans (List Rv)} {k : List Rv → Ans Rv} {Q1 : List V → Hp → Prop} (r : R M G Z H σ env T2) (hs : Sb T T2) (p : Post M W G Z σ env T Q H ((f env).bind k))
    (h : ∀ rs vs H1, f env = .ok rs → vs.length = rs.length → Same H H1 → R M G Z H1 σ env (vs.zip rs ++ T2) → Post M W G Z σ env T Q H1 (k rs) → Q1 vs H1) : tA M W f σ H Q1 := by
  refine ⟨G, Z, env, T2, r, ?_⟩
  cases e : f env with
  | ok rs =>
    rw [e] at p
    exact fun vs H1 hl s r => h rs vs H1 e hl s r (p.later s)
  | ex c =>
    rw [e] at p
    exact fun C H1 m s r => p C H1 m s (r.sb hs)
  | no => rw [e] at p; exact p
end
abbrev JE (X : Cx) (W : WX) (e : Expr) (f : DE) : Prop := PE X e (tE X.mg W f)
abbrev JT (X : Cx) (W : WX) (e : Expr) (f : DT) : Prop := PT X e (tT X.mg W f)
abbrev JW (X : Cx) (W : WX) (e : Expr) (f : DT) : Prop := PW X e (tT X.mg W f)
abbrev JA (X : Cx) (W : WX) (es : List Expr) (f : VEnv → Ans (List Rv)) : Prop := PA X es (tA X.mg W f)
theorem PE.imp {X : Cx} {e : Expr} {t t' : TE} (p : PE X e t) (h : ∀ σ H Q, t' σ H Q → t σ H Q) : PE X e t' := ⟨fun pins s σ H Q I q => p.run pins s σ H Q I (h σ H Q q)⟩
theorem PT.imp {X : Cx} {e : Expr} {t t' : TT} (p : PT X e t) (h : ∀ σ H Q, t' σ H Q → t σ H Q) : PT X e t' := ⟨fun pins s σ H Q I q => p.run pins s σ H Q I (h σ H Q q)⟩
theorem PW.imp {X : Cx} {e : Expr} {t t' : TT} (p : PW X e t) (h : ∀ σ H Q, t' σ H Q → t σ H Q) : PW X e t' := ⟨fun w pins s σ H Q I q => p.run w pins s σ H Q I (h σ H Q q)⟩
theorem PA.imp {X : Cx} {e : List Expr} {t t' : TA} (p : PA X e t) (h : ∀ σ H Q, t' σ H Q → t σ H Q) : PA X e t' := ⟨fun pos pins s σ H Q I q => p.run pos pins s σ H Q I (h σ H Q q)⟩
theorem PE.or {X : Cx} {e : Expr} {t t' : TE} (p : PE X e t) (p' : PE X e t') : PE X e (fun σ H Q => t σ H Q ∨ t' σ H Q) := ⟨fun pins s σ H Q I q => q.elim (p.run pins s σ H Q I) (p'.run pins s σ H Q I)⟩
theorem PT.or {X : Cx} {e : Expr} {t t' : TT} (p : PT X e t) (p' : PT X e t') : PT X e (fun σ H Q => t σ H Q ∨ t' σ H Q) := ⟨fun pins s σ H Q I q => q.elim (p.run pins s σ H Q I) (p'.run pins s σ H Q I)⟩
/-! ### new values -/
section
variable {M : Str → Option Value} {F H H' : Hp} {o : OV} {v : V} {x : FV} {xs : List FV} {vs : List V} {p : Addr}
theorem New.old (hf : Same F H) (d : FDen M F x v) : New M F H H (.fz x) v := ⟨F, [], Same.refl _, fun _ _ e => .inl e, hf, Same.refl _, ⟨d, rfl⟩, Good.nil⟩
theorem New.int {i : Int} (hf : Same F H) : New M F H H (.fz (.int i)) (.int i) := New.old hf rfl
theorem New.bl {i : Bool} (hf : Same F H) : New M F H H (.fz (.bl i)) (.bl i) := New.old hf rfl
theorem New.str {i : Str} (hf : Same F H) : New M F H H (.fz (.str i)) (.str i) := New.old hf rfl
theorem New.non (hf : Same F H) : New M F H H (.fz .non) .non := New.old hf rfl
theorem same_upd {H : Hp} {p : Addr} {o : HO} (h : H p = none) : Same H (upd H p o) := fun b x e => by
  rw [upd_ne (ne_of_none e h)]; exact e
theorem none_of_same (hf : Same F H) (h : H p = none) : F p = none := by
  cases q : F p with
  | none => rfl
  | some z => rw [hf _ _ q] at h; cases h
/-- a new cell of one's own -/
theorem New.cell {u : HO} (hf : Same F H) (h : H p = none) (ow : Own M F o v [(p, u)]) : New M F H (upd H p u) o v := by
  refine ⟨F, [(p, u)], Same.refl _, fun _ _ e => .inl e, hf.trans (same_upd h), same_upd h, ow, ⟨by simp, fun q hq => ?_, fun q hq => ?_, fun q hq => ?_⟩⟩
  · rw [List.mem_singleton] at hq; subst hq; exact upd_same
  · rw [List.mem_singleton] at hq; subst hq; exact none_of_same hf h
  · rw [List.mem_singleton] at hq; subst hq; exact h
theorem New.lst (hf : Same F H) (h : H p = none) (d : FDenL M F xs vs) : New M F H (upd H p (.lst vs)) (.ol xs) (.ref p) := New.cell hf h ⟨p, vs, rfl, d, rfl⟩
theorem New.dK {ks : List (Key × FV)} {ws : List (Key × V)} (hf : Same F H) (h : H p = none) (d : FDenK M F ks ws) : New M F H (upd H p (.dK ws)) (.oK ks) (.ref p) := New.cell hf h ⟨p, ws, rfl, d, rfl⟩
theorem New.dT {ks : List (List Key × FV)} {ws : List (List Key × V)} (hf : Same F H) (h : H p = none) (d : FDenT M F ks ws) : New M F H (upd H p (.dT ws)) (.oT ks) (.ref p) := New.cell hf h ⟨p, ws, rfl, d, rfl⟩
/-- a new frozen object -/
theorem New.ice {u : HO} (hf : Same F H) (h : H p = none) (d : FDen M (upd F p u) x v) : New M F H (upd H p u) (.fz x) v := by
  have hF := none_of_same hf h
  refine ⟨upd F p u, [], same_upd hF, fun a z e => ?_, fun a z e => ?_, same_upd h, ⟨d, rfl⟩, Good.nil⟩
  · by_cases q : a = p
    · subst q; exact .inr h
    · rw [upd_ne q] at e; exact .inl e
  · by_cases q : a = p
    · subst q; rw [upd_same] at e ⊢; exact e
    · rw [upd_ne q] at e ⊢; exact hf _ _ e
theorem New.tup (hf : Same F H) (h : H p = none) (d : FDenL M F xs vs) : New M F H (upd H p (.tup vs)) (.fz (.tup xs)) (.ref p) :=
  New.ice hf h ⟨p, vs, rfl, upd_same, d.mono (same_upd (none_of_same hf h))⟩
theorem FDenL.length : ∀ {xs : List FV} {vs : List V}, FDenL M F xs vs → vs.length = xs.length
  | [], _, e => by rw [show _ = [] from e]; rfl
  | _ :: xs, _, ⟨v, ws, e, _, r⟩ => by rw [e, List.length_cons, List.length_cons, FDenL.length r]
theorem FDenL.get : ∀ {xs : List FV} {vs : List V} {i : Nat} {x : FV}, FDenL M F xs vs → xs[i]? = some x → ∃ v, vs[i]? = some v ∧ FDen M F x v
  | [], _, _, _, _, h => by simp at h
  | _ :: _, _, 0, _, ⟨v, ws, e, d, _⟩, h => by
    rw [List.getElem?_cons_zero] at h
    cases h
    exact ⟨v, by rw [e]; rfl, d⟩
  | _ :: _, _, i + 1, _, ⟨v, ws, e, _, r⟩, h => by
    rw [List.getElem?_cons_succ] at h
    obtain ⟨w, q, d⟩ := FDenL.get r h
    exact ⟨w, by rw [e, List.getElem?_cons_succ]; exact q, d⟩
theorem FDenL.append : ∀ {xs ys : List FV} {vs ws : List V}, FDenL M F xs vs → FDenL M F ys ws → FDenL M F (xs ++ ys) (vs ++ ws)
  | [], _, _, _, e, h => by rw [show _ = [] from e]; exact h
  | _ :: _, _, _, _, ⟨v, us, e, d, r⟩, h => by
    rw [e]
    exact ⟨v, us ++ _, rfl, d, FDenL.append r h⟩
theorem FDenL.take : ∀ {xs : List FV} {vs : List V} (n : Nat), FDenL M F xs vs → FDenL M F (xs.take n) (vs.take n)
  | _, _, 0, _ => by simp [FDenL]
  | [], _, _ + 1, e => by rw [show _ = [] from e]; simp [FDenL]
  | _ :: _, _, n + 1, ⟨v, us, e, d, r⟩ => by
    rw [e]
    exact ⟨v, us.take n, rfl, d, FDenL.take n r⟩
theorem FDenL.drop : ∀ {xs : List FV} {vs : List V} (n : Nat), FDenL M F xs vs → FDenL M F (xs.drop n) (vs.drop n)
  | _, _, 0, h => h
  | [], _, _ + 1, e => by rw [show _ = [] from e]; simp [FDenL]
  | _ :: _, _, n + 1, ⟨v, us, e, d, r⟩ => by
    rw [e]
    exact FDenL.drop n r
theorem FDenL.reverse {xs : List FV} {vs : List V} (h : FDenL M F xs vs) : FDenL M F xs.reverse vs.reverse := by
  induction xs generalizing vs with
  | nil => rw [show _ = [] from h]; simp [FDenL]
  | cons x xs ih =>
    obtain ⟨v, us, e, d, r⟩ := h
    rw [e, List.reverse_cons, List.reverse_cons]
    exact (ih r).append ⟨v, [], rfl, d, rfl⟩
theorem FDenL.ints : ∀ {ns : List Int} {vs : List V}, FDenL M F (ns.map .int) vs → vs = ns.map V.int
  | [], _, e => e
  | n :: ns, _, ⟨v, us, e, d, r⟩ => by rw [e, show v = .int n from d, FDenL.ints r]; rfl
theorem FDenL.strs : ∀ {ns : List Str} {vs : List V}, FDenL M F (ns.map .str) vs → vs = ns.map V.str
  | [], _, e => e
  | n :: ns, _, ⟨v, us, e, d, r⟩ => by rw [e, show v = .str n from d, FDenL.strs r]; rfl
end
end J
namespace J
open PySem PySem.Spec PyProof.Rows L2
/-! ### data -/
mutual
def FV.toD : FV → Option PyData
  | .non => some .none
  | .bl b => some (.bool b)
  | .int i => some (.int i)
  | .str x => some (.str x)
  | .tup xs => (FV.toDL xs).map .tuple
  | .tuz xs => (FV.toDL xs).map .tuple
  | .lst xs => (FV.toDL xs).map .list
  | _ => none
def FV.toDL : List FV → Option (List PyData)
  | [] => some []
  | x :: xs => match x.toD, FV.toDL xs with
    | some d, some ds => some (d :: ds)
    | _, _ => none
end
section
variable {M : Str → Option Value} {K : PySem.W.Frag} {F H H' : Hp} {x : FV} {v : V} {d : PyData}
mutual
theorem FDen.dp : ∀ {x : FV} {v : V} {d : PyData}, FDen M H x v → x.toD = some d → Dp K H v d
  | .non, _, _, h, e => by cases e; rw [show _ = V.non from h]; exact .non
  | .bl b, _, _, h, e => by cases e; rw [show _ = V.bl b from h]; exact .bl b
  | .int i, _, _, h, e => by cases e; rw [show _ = V.int i from h]; exact .int i
  | .str x, _, _, h, e => by cases e; rw [show _ = V.str x from h]; exact .str x
  | .tup xs, _, d, ⟨a, vs, ev, q, r⟩, e => by
    obtain ⟨ds, e1, e2⟩ := Option.map_eq_some_iff.mp (show (FV.toDL xs).map PyData.tuple = some d from e)
    subst e2
    rw [ev]
    exact .tup (SqT.of q) (FDenL.dp r e1)
  | .tuz xs, _, d, ⟨a, vs, o, ev, q, _, _, r⟩, e => by
    obtain ⟨ds, e1, e2⟩ := Option.map_eq_some_iff.mp (show (FV.toDL xs).map PyData.tuple = some d from e)
    subst e2
    rw [ev]
    exact .tup (.inl (.inr ⟨o, q⟩)) (FDenL.dp r e1)
  | .lst xs, _, d, ⟨a, vs, ev, q, r⟩, e => by
    obtain ⟨ds, e1, e2⟩ := Option.map_eq_some_iff.mp (show (FV.toDL xs).map PyData.list = some d from e)
    subst e2
    rw [ev]
    exact .lst (SqL.of q) (FDenL.dp r e1)
  | .dK _, _, _, _, e => nomatch e
  | .dT _, _, _, _, e => nomatch e
  | .ins _ _, _, _, _, e => nomatch e
  | .exc _, _, _, _, e => nomatch e
  | .scr _, _, _, _, e => nomatch e
  | .dN _, _, _, _, e => nomatch e
theorem FDenL.dp : ∀ {xs : List FV} {vs : List V} {ds : List PyData}, FDenL M H xs vs → FV.toDL xs = some ds → DpAll K H vs ds
  | [], _, _, h, e => by cases e; rw [show _ = [] from h]; exact .nil
  | x :: xs, _, _, ⟨v, ws, ev, d, r⟩, e => by
    unfold FV.toDL at e
    split at e
    · rename_i d1 ds1 e1 e2
      cases e
      rw [ev]
      exact .cons (FDen.dp d e1) (FDenL.dp r e2)
    · cases e
end
end
/-! ### names, constants -/
def dVar (i : Nat) : DE := fun env => match env[i]? with
  | some (some (.fz x)) => .ok (.st (.fz x))
  | some (some o) => .ok (.bo o)
  | _ => .no
def dC (x : FV) : DE := fun _ => .ok (.st (.fz x))
section
variable {X : Cx} {W : WX} {pos p : Pos} {x : Str}
theorem je_var (i : Nat) (hN : X.N[i]? = some x := by rfl) (hv : Vis X.env.scope x := by first | exact Or.inl rfl | exact Or.inr (Or.inl rfl) | exact Or.inr (Or.inr rfl)) (hd : (x == ("__debug__" : Str)) = false := by decide)
    (hcd : (x == ("__classdict__" : Str)) = false := by decide) : JE X W (.Name x pos) (dVar i) := by
  refine PE.imp (pe_var hN hv hd hcd) fun σ H Q ⟨G, Z, env, T, ⟨F, C1, C2, r⟩, p⟩ => ?_
  have hp : Post X.mg W G Z σ env T Q H (dVar i env) := p
  unfold dVar at hp
  split at hp
  · rename_i x e
    obtain ⟨v, e1, r1⟩ := r.lookF e
    exact ⟨v, e1, hp v H (Same.refl _) r1.r⟩
  · rename_i o _ e
    obtain ⟨v, e1, r1⟩ := r.look e
    exact ⟨v, e1, hp v H (Same.refl _) r1.r⟩
  · exact hp.elim
theorem je_c {e : Expr} {v : V} {y : FV} (h : PE X e (tC v)) (d : ∀ M F, FDen M F y v) : JE X W e (dC y) := by
  refine PE.imp h fun σ H Q ⟨G, Z, env, T, ⟨F, C1, C2, r⟩, p⟩ => ?_
  exact p v H (Same.refl _) (r.new (New.old r.fh (d _ _)))
theorem je_int {i : Int} {j} : JE X W (.Constant (.int i) j pos) (dC (.int i)) := je_c pe_int fun _ _ => rfl
theorem je_bl {i : Bool} {j} : JE X W (.Constant (.bool i) j pos) (dC (.bl i)) := je_c pe_bl fun _ _ => rfl
theorem je_str {i : Str} {j} : JE X W (.Constant (.str i) j pos) (dC (.str i)) := je_c pe_str fun _ _ => rfl
theorem je_non {j} : JE X W (.Constant .none j pos) (dC .non) := je_c pe_non fun _ _ => rfl
/-- a constant of the module -/
theorem je_gint {i : Int} {t : Tok} (hm : X.mg x = some (.int i t)) (hg : Gl X x := by rfl) (hd : (x == ("__debug__" : Str)) = false := by decide) : JE X W (.Name x pos) (dC (.int i)) := je_c (pe_glob hg hm (v := .int i) ⟨t, rfl⟩ hd) fun _ _ => rfl
theorem je_gstr {i : Str} {t : Tok} (hm : X.mg x = some (.str i t)) (hg : Gl X x := by rfl) (hd : (x == ("__debug__" : Str)) = false := by decide) : JE X W (.Name x pos) (dC (.str i)) := je_c (pe_glob hg hm (v := .str i) ⟨t, rfl⟩ hd) fun _ _ => rfl
end
/-! ### operators -/
def Ans.of {α : Type} : Option α → Ans α
  | some a => .ok a
  | none => .no
def dBin (op : OV → OV → Option OV) (f g : DE) : DE := fun env => (f env).bind fun x => (g env).bind fun y => (Ans.of (op x.ov y.ov)).map .st
def dUn (op : OV → Option OV) (f : DE) : DE := fun env => (f env).bind fun x => (Ans.of (op x.ov)).map .st
def rJ (M : Str → Option Value) (op : OV → OV → Option OV) : R2 := fun u w H Q => ∃ F x y o, Same F H ∧ Bor M F H x u ∧ Bor M F H y w ∧ op x y = some o ∧ ∀ v H', New M F H H' o v → Q v H'
def rJ1 (M : Str → Option Value) (op : OV → Option OV) : V → Hp → VK → Prop := fun u H Q => ∃ F x o, Same F H ∧ Bor M F H x u ∧ op x = some o ∧ ∀ v H', New M F H H' o v → Q v H'
abbrev OJ (X : Cx) (f : Value → Value → Sem Value) (op : OV → OV → Option OV) : Prop := OpR X f (rJ X.mg op)
section
variable {M : Str → Option Value} {G Z H F : Hp} {σ : Sl} {env : VEnv} {T T2 : List (V × Rv)} {W : WX} {Q : VK} {C1 C2 : Cells}
/-- an answer from a new value -/
theorem RF.fin (r : RF M G Z H F σ env T2 C1 C2) (hs : Sb T T2) {oo : Option OV} (p : Post M W G Z σ env T Q H ((Ans.of oo).map .st)) : ∃ o, oo = some o ∧ ∀ v H', New M F H H' o v → Q v H' := by
  cases oo with
  | none => exact p.elim
  | some o => exact ⟨o, rfl, fun v H' n => p v H' (let ⟨_, _, n⟩ := n; n.hh) ((r.new n).sb hs.both)⟩
theorem RF.rj1 {op : OV → Option OV} {u : V} {x : Rv} (r : RF M G Z H F σ env ((u, x) :: T2) C1 C2) (hs : Sb T T2) (p : Post M W G Z σ env T Q H ((Ans.of (op x.ov)).map .st)) : rJ1 M op u H Q := by
  obtain ⟨o, e, k⟩ := r.fin (hs.cons) p
  exact ⟨F, x.ov, o, r.fh, r.bor List.mem_cons_self, e, k⟩
theorem RF.rj {op : OV → OV → Option OV} {u w : V} {x y : Rv} (r : RF M G Z H F σ env ((w, y) :: (u, x) :: T2) C1 C2) (hs : Sb T T2) (p : Post M W G Z σ env T Q H ((Ans.of (op x.ov y.ov)).map .st)) : rJ M op u w H Q := by
  obtain ⟨o, e, k⟩ := r.fin (hs.cons.cons) p
  exact ⟨F, x.ov, y.ov, o, r.fh, r.bor (List.mem_cons_of_mem _ List.mem_cons_self), r.bor List.mem_cons_self, e, k⟩
end
section
variable {X : Cx} {W : WX} {pos : Pos} {a b : Expr} {f g : DE}
theorem bin_red {op : OV → OV → Option OV} {σ : Sl} {H : Hp} {Q : VK} (h : tE X.mg W (dBin op f g) σ H Q) : tE X.mg W f σ H fun u H1 => tE X.mg W g σ H1 fun w H2 => rJ X.mg op u w H2 Q := by
  obtain ⟨G, Z, env, T, r, p⟩ := h
  refine tE.bind r Sb.refl p fun x u H1 _ s1 r1 p1 => ?_
  refine tE.bind r1 Sb.refl.cons p1 fun y w H2 _ s2 r2 p2 => ?_
  obtain ⟨F, C1, C2, r2⟩ := r2
  exact r2.rj Sb.refl p2
theorem je_bin {op : Operator} {opd : OV → OV → Option OV} (ho : OJ X (binaryOp op) opd) (ha : JE X W a f) (hb : JE X W b g) : JE X W (.BinOp a op b pos) (dBin opd f g) :=
  PE.imp (pe_op ho ha hb) fun σ H Q h => bin_red h
theorem je_cmp {op : CmpOp} {opd : OV → OV → Option OV} (ho : OJ X (compareOp op) opd) (ha : JE X W a f) (hb : JE X W b g) (hm : behindInMarks op b = false := by first | exact nomark _ | rfl) : JE X W (.Compare a [op] [b] pos) (dBin opd f g) :=
  PE.imp (pe_cmpR ho ha hb hm) fun σ H Q h => bin_red h
theorem je_un {op : UnaryOp} {opd : OV → Option OV} (ho : UnR X (unaryOp op) (rJ1 X.mg opd)) (ha : JE X W a f) : JE X W (.UnaryOp op a pos) (dUn opd f) :=
  PE.imp (pe_un ho ha) fun σ H Q ⟨G, Z, env, T, r, p⟩ => tE.bind r Sb.refl p fun x u H1 _ s1 r1 p1 => let ⟨F, C1, C2, r1⟩ := r1; r1.rj1 Sb.refl p1
end
/-! ### the operators' answers -/
abbrev BIG : Nat := 16777216
theorem big_eq : sizeLine = BIG := by rw [sizeLine_eq]
def OV.lst? : OV → Option (List FV)
  | .ol xs => some xs
  | .fz (.lst xs) => some xs
  | _ => none
def FV.tup? : FV → Option (List FV)
  | .tup xs => some xs
  | .tuz xs => some xs
  | _ => none
def opAdd : OV → OV → Option OV
  | .fz (.int i), .fz (.int j) => some (.fz (.int (i + j)))
  | .fz (.str x), .fz (.str y) => if x.length + y.length ≤ BIG then some (.fz (.str (x ++ y))) else none
  | .fz (.tup x), .fz (.tup y) => if x.length + y.length ≤ BIG then some (.fz (.tup (x ++ y))) else none
  | x, y => match x.lst?, y.lst? with
    | some a, some b => if a.length + b.length ≤ BIG then some (.ol (a ++ b)) else none
    | _, _ => none
def opSub : OV → OV → Option OV
  | .fz (.int i), .fz (.int j) => some (.fz (.int (i - j)))
  | _, _ => none
def mulOk (i j : Int) : Bool := decide (i.natAbs < 2 ^ 62) || decide (j.natAbs < 2 ^ 62) || decide (i.natAbs.log2 + j.natAbs.log2 < 1000000)
def opMul : OV → OV → Option OV
  | .fz (.int i), .fz (.int j) => if mulOk i j then some (.fz (.int (i * j))) else none
  | _, _ => none
def opDiv : OV → OV → Option OV
  | .fz (.int i), .fz (.int j) => if 0 < j ∧ j.natAbs < 2 ^ 62 then some (.fz (.int (i / j))) else none
  | _, _ => none
def opMod : OV → OV → Option OV
  | .fz (.int i), .fz (.int j) => if 0 < j then some (.fz (.int (i % j))) else none
  | _, _ => none
def opPow : OV → OV → Option OV
  | .fz (.int i), .fz (.int j) => if 0 ≤ j ∧ j ≤ 1000 ∧ i.natAbs < 2 ^ 60 then some (.fz (.int (i ^ j.toNat))) else none
  | _, _ => none
def opShr : OV → OV → Option OV
  | .fz (.int i), .fz (.int j) => if 0 ≤ j then some (.fz (.int (i / 2 ^ j.toNat))) else none
  | _, _ => none
def opCmp (p : Int → Int → Bool) : OV → OV → Option OV
  | .fz (.int i), .fz (.int j) => some (.fz (.bl (p i j)))
  | _, _ => none
abbrev opLt := opCmp fun i j => decide (i < j)
abbrev opLe := opCmp fun i j => decide (i ≤ j)
abbrev opGt := opCmp fun i j => decide (j < i)
abbrev opGe := opCmp fun i j => decide (j ≤ i)
def FV.atom : FV → Bool
  | .non => true
  | .bl _ => true
  | .int _ => true
  | .str _ => true
  | _ => false
def FV.eqD (x y : FV) : Option Bool :=
  match x.toD, y.toD with
    | some d, some e => if SeqAt.shaped d && SeqAt.shaped e then some (PyData.eqv d e) else none
    | _, _ => none
def opEq (x y : OV) : Option OV := match x, y with
  | .fz (.int i), .fz (.int j) => some (.fz (.bl (decide (i = j))))
  | .fz (.str i), .fz (.str j) => some (.fz (.bl (decide (i = j))))
  | _, _ => (x.fv.eqD y.fv).map fun b => .fz (.bl b)
def opNe (x y : OV) : Option OV := match x, y with
  | .fz (.int i), .fz (.int j) => some (.fz (.bl (!decide (i = j))))
  | .fz (.str i), .fz (.str j) => some (.fz (.bl (!decide (i = j))))
  | _, _ => (x.fv.eqD y.fv).map fun b => .fz (.bl !b)
section
variable {M : Str → Option Value} {F H : Hp} {x y : OV} {u w : V}
theorem Bor.int {i : Int} (b : Bor M F H (.fz (.int i)) u) : u = .int i := let ⟨_, d, _⟩ := b; d.1
theorem Bor.bl {i : Bool} (b : Bor M F H (.fz (.bl i)) u) : u = .bl i := let ⟨_, d, _⟩ := b; d.1
theorem Bor.str {i : Str} (b : Bor M F H (.fz (.str i)) u) : u = .str i := let ⟨_, d, _⟩ := b; d.1
theorem Bor.fz {i : FV} (b : Bor M F H (.fz i) u) : FDen M F i u := let ⟨_, d, _⟩ := b; d.1
theorem Bor.lst {xs : List FV} (hf : Same F H) (b : Bor M F H x u) (e : x.lst? = some xs) : ∃ a vs, u = .ref a ∧ H a = some (.lst vs) ∧ FDenL M F xs vs := by
  unfold OV.lst? at e
  split at e
  · cases e
    obtain ⟨A, ⟨a, vs, e, d, q⟩, c⟩ := b
    subst q
    exact ⟨a, vs, e, c _ List.mem_cons_self, d⟩
  · cases e
    obtain ⟨a, vs, e, q, d⟩ := b.fz
    exact ⟨a, vs, e, hf _ _ q, d⟩
  · cases e
theorem FDen.tupT {K : PySem.W.Frag} {xs : List FV} {z : FV} (d : FDen M F z u) (e : z.tup? = some xs) : ∃ a vs, u = .ref a ∧ SqT K F a vs ∧ FDenL M F xs vs := by
  unfold FV.tup? at e
  split at e
  · cases e
    obtain ⟨a, vs, e, q, d⟩ := d
    exact ⟨a, vs, e, SqT.of q, d⟩
  · cases e
    obtain ⟨a, vs, o, e, q, _, _, d⟩ := d
    exact ⟨a, vs, e, .inl (.inr ⟨o, q⟩), d⟩
  · cases e
end
theorem SqT.sameS {K : PySem.W.Frag} {F H : Hp} {a : Addr} {xs : List V} (h : Same F H) (q : SqT K F a xs) : SqT K H a xs := by
  rcases q with (q | ⟨o, q⟩) | q
  · exact .inl (.inl (h _ _ q))
  · exact .inl (.inr ⟨o, h _ _ q⟩)
  · exact .inr q
section
variable {X : Cx}
theorem oj_of {f : Value → Value → Sem Value} {op : OV → OV → Option OV} {r : R2} (ho : OpR X f r) (h : ∀ F H x y u w o Q, Same F H → Bor X.mg F H x u → Bor X.mg F H y w → op x y = some o → (∀ v H', New X.mg F H H' o v → Q v H') → r u w H Q) : OJ X f op :=
  fun pins s σ H u w v1 v2 Q I r1 r2 ⟨F, x, y, o, hf, bx, by', e, k⟩ => ho pins s σ H u w v1 v2 Q I r1 r2 (h F H x y u w o Q hf bx by' e k)
theorem oj_add : OJ X (binaryOp .Add) opAdd := by
  refine oj_of ((op_add.or op_add_str).or (op_catA.or op_cat)) fun F H x y u w o Q hf bx by' e k => ?_
  unfold opAdd at e
  split at e
  · cases e
    exact .inl (.inl ⟨_, _, bx.int, by'.int, k _ _ (New.int hf)⟩)
  · split at e
    · cases e
      exact .inl (.inr ⟨_, _, bx.str, by'.str, by rw [big_eq]; assumption, k _ _ (New.str hf)⟩)
    · cases e
  · split at e
    · rename_i xs ys hz
      cases e
      obtain ⟨a, vs, rfl, q, d⟩ := FDen.tupT (K := X.K) bx.fz (xs := _) rfl
      obtain ⟨b, ws, rfl, q2, d2⟩ := FDen.tupT (K := X.K) by'.fz (xs := _) rfl
      refine .inr (.inl ⟨a, b, vs, ws, rfl, rfl, SqT.sameS hf q, SqT.sameS hf q2, by rw [d.length, d2.length, big_eq]; exact hz, fun e => ?_, fun _ e => ?_, fun _ _ p hp => ?_⟩)
      · subst e
        have ex := d.length
        obtain rfl : xs = [] := List.eq_nil_of_length_eq_zero (by simpa using ex.symm)
        exact k _ _ (New.old hf by'.fz)
      · subst e
        have ex := d2.length
        obtain rfl : ys = [] := List.eq_nil_of_length_eq_zero (by simpa using ex.symm)
        rw [List.append_nil] at k
        exact k _ _ (New.old hf bx.fz)
      · exact k _ _ (New.tup hf hp (d.append d2))
    · cases e
  · split at e
    · rename_i a b e1 e2
      split at e
      · rename_i hz
        cases e
        obtain ⟨p, vs, rfl, q, d⟩ := bx.lst hf e1
        obtain ⟨p2, ws, rfl, q2, d2⟩ := by'.lst hf e2
        exact .inr (.inr ⟨p, p2, vs, ws, rfl, rfl, q, q2, by rw [d.length, d2.length, big_eq]; exact hz, fun p hp => k _ _ (New.lst hf hp (d.append d2))⟩)
      · cases e
    · cases e
theorem oj_sub : OJ X (binaryOp .Sub) opSub := by
  refine oj_of op_sub fun F H x y u w o Q hf bx by' e k => ?_
  unfold opSub at e
  split at e
  · cases e
    exact ⟨_, _, bx.int, by'.int, k _ _ (New.int hf)⟩
  · cases e
theorem mul_le {i : Int} (h : i.natAbs < 2 ^ 62) : -(2 ^ 64) < i ∧ i < 2 ^ 64 := by omega
theorem oj_mul : OJ X (binaryOp .Mult) opMul := by
  refine oj_of (op_mul.or op_mulW) fun F H x y u w o Q hf bx by' e k => ?_
  unfold opMul at e
  split at e
  · split at e
    · rename_i i j hm
      cases e
      unfold mulOk at hm
      rw [Bool.or_eq_true, Bool.or_eq_true] at hm
      rcases hm with (hm | hm) | hm
      · exact .inl ⟨_, _, bx.int, by'.int, .inl (mul_le (of_decide_eq_true hm)), k _ _ (New.int hf)⟩
      · exact .inl ⟨_, _, bx.int, by'.int, .inr (mul_le (of_decide_eq_true hm)), k _ _ (New.int hf)⟩
      · exact .inr ⟨_, _, bx.int, by'.int, show _ from (of_decide_eq_true hm : i.natAbs.log2 + j.natAbs.log2 < 1000000), k _ _ (New.int hf)⟩
    · cases e
  · cases e
theorem oj_div : OJ X (binaryOp .FloorDiv) opDiv := by
  refine oj_of op_fdivW fun F H x y u w o Q hf bx by' e k => ?_
  unfold opDiv at e
  split at e
  · split at e
    · rename_i i j hm
      cases e
      exact ⟨_, _, bx.int, by'.int, wide_div hm.1 (b := 62) hm.2 (by decide) (by decide), k _ _ (New.int hf)⟩
    · cases e
  · cases e
theorem oj_mod : OJ X (binaryOp .Mod) opMod := by
  refine oj_of op_mod fun F H x y u w o Q hf bx by' e k => ?_
  unfold opMod at e
  split at e
  · split at e
    · rename_i i j hm
      cases e
      exact ⟨_, _, bx.int, by'.int, hm, k _ _ (New.int hf)⟩
    · cases e
  · cases e
theorem oj_pow : OJ X (binaryOp .Pow) opPow := by
  refine oj_of op_pow fun F H x y u w o Q hf bx by' e k => ?_
  unfold opPow at e
  split at e
  · split at e
    · rename_i i j hm
      cases e
      exact ⟨_, _, bx.int, by'.int, ⟨hm.1, by omega, Nat.lt_of_lt_of_le hm.2.2 (by decide)⟩, k _ _ (New.int hf)⟩
    · cases e
  · cases e
theorem oj_shr : OJ X (binaryOp .RShift) opShr := by
  refine oj_of op_shr fun F H x y u w o Q hf bx by' e k => ?_
  unfold opShr at e
  split at e
  · split at e
    · rename_i i j hm
      cases e
      exact ⟨_, _, bx.int, by'.int, hm, k _ _ (New.int hf)⟩
    · cases e
  · cases e
theorem oj_cmp {op : CmpOp} {p : Int → Int → Bool} (ho : OpR X (compareOp op) (rI0 fun i j => .bl (p i j))) : OJ X (compareOp op) (opCmp p) := by
  refine oj_of ho fun F H x y u w o Q hf bx by' e k => ?_
  unfold opCmp at e
  split at e
  · cases e
    exact ⟨_, _, bx.int, by'.int, k _ _ (New.bl hf)⟩
  · cases e
theorem oj_lt : OJ X (compareOp .Lt) opLt := oj_cmp op_lt
theorem oj_le : OJ X (compareOp .LtE) opLe := oj_cmp op_le
theorem oj_gt : OJ X (compareOp .Gt) opGt := oj_cmp op_gt
theorem oj_ge : OJ X (compareOp .GtE) opGe := oj_cmp op_ge
theorem eqD_of {M : Str → Option Value} {K : PySem.W.Frag} {F H : Hp} {x y : OV} {u w : V} {b : Bool} (hf : Same F H) (bx : Bor M F H x u) (by' : Bor M F H y w) (e : x.fv.eqD y.fv = some b) :
    ∃ d e, Dp K H u d ∧ Dp K H w e ∧ SeqAt.shaped d = true ∧ SeqAt.shaped e = true ∧ b = PyData.eqv d e := by
  unfold FV.eqD at e
  split at e
  · rename_i d1 d2 e1 e2
    split at e
    · rename_i hs
      cases e
      rw [Bool.and_eq_true] at hs
      exact ⟨d1, d2, (bx.fden hf).dp e1, (by'.fden hf).dp e2, hs.1, hs.2, rfl⟩
    · cases e
  · cases e
theorem oj_eq (hu : X.A.units + 64 < cLine) : OJ X (compareOp .Eq) opEq := by
  refine oj_of (op_eq.or (op_eqD hu)) fun F H x y u w o Q hf bx by' e k => ?_
  unfold opEq at e
  split at e
  · cases e
    rename_i i j
    exact .inl ⟨by rw [bx.int, by'.int]; rfl, by rw [bx.int, by'.int, dec_int, Bool.beq_eq_decide_eq]; exact k _ _ (New.bl hf)⟩
  · cases e
    rename_i i j
    exact .inl ⟨by rw [bx.str, by'.str]; rfl, by rw [bx.str, by'.str, dec_str, Bool.beq_eq_decide_eq]; exact k _ _ (New.bl hf)⟩
  · obtain ⟨b, e1, e2⟩ := Option.map_eq_some_iff.mp e
    subst e2
    obtain ⟨d, d', h1, h2, h3, h4, rfl⟩ := eqD_of (K := X.K) hf bx by' e1
    exact .inr ⟨d, d', h1, h2, h3, h4, k _ _ (New.bl hf)⟩
theorem oj_ne (hu : X.A.units + 64 < cLine) : OJ X (compareOp .NotEq) opNe := by
  refine oj_of (op_ne.or (op_neD hu)) fun F H x y u w o Q hf bx by' e k => ?_
  unfold opNe at e
  split at e
  · cases e
    rename_i i j
    exact .inl ⟨by rw [bx.int, by'.int]; rfl, by rw [bx.int, by'.int, dec_int, Bool.beq_eq_decide_eq]; exact k _ _ (New.bl hf)⟩
  · cases e
    rename_i i j
    exact .inl ⟨by rw [bx.str, by'.str]; rfl, by rw [bx.str, by'.str, dec_str, Bool.beq_eq_decide_eq]; exact k _ _ (New.bl hf)⟩
  · obtain ⟨b, e1, e2⟩ := Option.map_eq_some_iff.mp e
    subst e2
    obtain ⟨d, d', h1, h2, h3, h4, rfl⟩ := eqD_of (K := X.K) hf bx by' e1
    exact .inr ⟨d, d', h1, h2, h3, h4, k _ _ (New.bl hf)⟩
end
end J
namespace J
open PySem PySem.Spec PyProof.Rows L2
/-! ### tests -/
theorem Ans.bind_assoc {α β γ : Type} (x : Ans α) (f : α → Ans β) (g : β → Ans γ) : (x.bind f).bind g = x.bind fun a => (f a).bind g := by cases x <;> rfl
def Rv.bool (r : Rv) : Ans Bool := match r.ov with
  | .fz (.bl b) => .ok b
  | _ => .no
theorem Rv.bool_or (r : Rv) : (∃ b, r.ov = .fz (.bl b) ∧ r.bool = .ok b) ∨ r.bool = .no := by
  unfold Rv.bool
  split
  · rename_i b e
    exact .inl ⟨b, e, rfl⟩
  · exact .inr rfl
def dTest (f : DE) : DT := fun env => (f env).bind Rv.bool
def dB (f : DT) : DE := fun env => (f env).bind fun b => .ok (.st (.fz (.bl b)))
def dNotT (f : DT) : DT := fun env => (f env).bind fun b => .ok !b
def dAndT (f g : DT) : DT := fun env => (f env).bind fun b => if b then g env else .ok false
def dOrT (f g : DT) : DT := fun env => (f env).bind fun b => if b then .ok true else g env
section
variable {M : Str → Option Value} {G Z H F : Hp} {σ : Sl} {env : VEnv} {T T2 : List (V × Rv)} {C1 C2 : Cells} {u : V} {x : Rv}
theorem RF.boolT {W : WX} {Q : Bool → Hp → Prop} {k : Bool → Ans Bool} (r : RF M G Z H F σ env T2 C1 C2) (h : (u, x) ∈ T2) (p : PostT M W G Z σ env T Q H (x.bool.bind k)) : ∃ b, u = .bl b ∧ PostT M W G Z σ env T Q H (k b) := by
  rcases x.bool_or with ⟨b, e, e2⟩ | e
  · have hb := r.bor h
    rw [show (u, x).2.ov = x.ov from rfl, e] at hb
    rw [e2] at p
    exact ⟨b, hb.bl, p⟩
  · rw [e] at p; exact p.elim
theorem RF.bool {W : WX} {Q : VK} {k : Bool → Ans Rv} (r : RF M G Z H F σ env T2 C1 C2) (h : (u, x) ∈ T2) (p : Post M W G Z σ env T Q H (x.bool.bind k)) : ∃ b, u = .bl b ∧ Post M W G Z σ env T Q H (k b) := by
  rcases x.bool_or with ⟨b, e, e2⟩ | e
  · have hb := r.bor h
    rw [show (u, x).2.ov = x.ov from rfl, e] at hb
    rw [e2] at p
    exact ⟨b, hb.bl, p⟩
  · rw [e] at p; exact p.elim
end
section
variable {X : Cx} {W : WX} {pos : Pos} {a b e : Expr} {rest : List Expr} {f g : DE} {ft gt : DT}
theorem Ans.bind_ok {α : Type} (x : Ans α) : x.bind .ok = x := by cases x <;> rfl
theorem tB_red {Q : Bool → Hp → Prop} {σ : Sl} {H : Hp} (h : tT X.mg W (dTest f) σ H Q) : tE X.mg W f σ H fun x H1 => ∃ c, x = .bl c ∧ Q c H1 := by
  obtain ⟨G, Z, env, T, r, p⟩ := h
  refine tE.bindT r Sb.refl p fun x u H1 _ s1 ⟨F, C1, C2, r1⟩ p1 => ?_
  rw [← Ans.bind_ok x.bool] at p1
  obtain ⟨b, e, p1⟩ := r1.boolT List.mem_cons_self p1
  exact ⟨b, e, p1 H1 (Same.refl _) r1.r.pop⟩
/-- an expression that gives True or False, as a test -/
theorem jt_val (h : JE X W e f) (he : ∀ whole, isTrue e X.env whole = (do let v ← whole; standAt e.pos; holding [v] (truthy v)) := by intro _; rfl) : JT X W e (dTest f) :=
  PT.imp (pt_val h he) fun σ H Q h => tB_red h
theorem jt_cmp {op : CmpOp} {opd : OV → OV → Option OV} (ho : OJ X (compareOp op) opd) (ha : JE X W a f) (hb : JE X W b g) (hm : behindInMarks op b = false := by first | exact nomark _ | rfl) : JT X W (.Compare a [op] [b] pos) (dTest (dBin opd f g)) := by
  refine PT.imp (pt_cmpR ho ha hb hm) fun σ H Q ⟨G, Z, env, T, r, p⟩ => ?_
  show tE X.mg W f σ H fun u H1 => tE X.mg W g σ H1 fun w H2 => rJ X.mg opd u w H2 fun x H' => ∃ k, x = .bl k ∧ Q k H'
  have p' : PostT X.mg W G Z σ env T Q H ((f env).bind fun x => (g env).bind fun y => ((Ans.of (opd x.ov y.ov)).map .st).bind Rv.bool) := by
    have p2 := p
    unfold dTest dBin at p2
    rw [Ans.bind_assoc] at p2
    simp only [Ans.bind_assoc] at p2
    exact p2
  refine tE.bindT r Sb.refl p' fun x u H1 _ s1 r1 p1 => ?_
  refine tE.bindT r1 Sb.refl.cons p1 fun y w H2 _ s2 ⟨F, C1, C2, r2⟩ p2 => ?_
  cases e : opd x.ov y.ov with
  | none => rw [e] at p2; exact p2.elim
  | some o =>
    rw [e] at p2
    refine ⟨F, x.ov, y.ov, o, r2.fh, r2.bor (List.mem_cons_of_mem _ List.mem_cons_self), r2.bor List.mem_cons_self, e, fun v H' n => ?_⟩
    obtain ⟨F3, C3, C4, r3⟩ := r2.new n
    have p3 : PostT X.mg W G Z σ env T Q H2 (Rv.bool (.st o)) := p2
    rw [← Ans.bind_ok (Rv.bool _)] at p3
    obtain ⟨b, e, p3⟩ := r3.boolT List.mem_cons_self (p3.later (let ⟨_, _, n⟩ := n; n.hh))
    exact ⟨b, e, p3 H' (Same.refl _) (r3.r.sb (Sb.refl.cons.cons.cons))⟩
theorem jt_not (h : JT X W a ft) : JT X W (.UnaryOp .Not a pos) (dNotT ft) := by
  refine PT.imp (pt_not h) fun σ H Q ⟨G, Z, env, T, r, p⟩ => ⟨G, Z, env, T, r, ?_⟩
  unfold dNotT at p
  cases e : ft env with
  | ok b => rw [e] at p; exact p
  | ex c => rw [e] at p; exact p
  | no => rw [e] at p; exact p
theorem jw_and1 (h : JT X W a ft) : JW X W (.BoolOp .And [a] pos) ft := pw_and1 h
theorem jw_or1 (h : JT X W a ft) : JW X W (.BoolOp .Or [a] pos) ft := pw_or1 h
theorem jw_and (ha : JT X W a ft) (hb : JW X W (.BoolOp .And (b :: rest) pos) gt) : JW X W (.BoolOp .And (a :: b :: rest) pos) (dAndT ft gt) := by
  refine PW.imp (pw_and ha hb) fun σ H Q ⟨G, Z, env, T, r, p⟩ => ?_
  refine tT.bindT r Sb.refl p fun c H1 _ s1 r1 p1 => ?_
  cases c with
  | true =>
    rw [if_pos rfl] at p1 ⊢
    exact ⟨G, Z, env, T, r1, p1⟩
  | false =>
    rw [if_neg Bool.false_ne_true] at p1 ⊢
    exact p1 H1 (Same.refl _) r1
theorem jw_or (ha : JT X W a ft) (hb : JW X W (.BoolOp .Or (b :: rest) pos) gt) : JW X W (.BoolOp .Or (a :: b :: rest) pos) (dOrT ft gt) := by
  refine PW.imp (pw_or ha hb) fun σ H Q ⟨G, Z, env, T, r, p⟩ => ?_
  refine tT.bindT r Sb.refl p fun c H1 _ s1 r1 p1 => ?_
  cases c with
  | true =>
    rw [if_pos rfl] at p1 ⊢
    exact p1 H1 (Same.refl _) r1
  | false =>
    rw [if_neg Bool.false_ne_true] at p1 ⊢
    exact ⟨G, Z, env, T, r1, p1⟩
theorem jt_w (h : JW X W a ft) : JT X W a ft := PW.pt h
/-- not, and, or as values -/
theorem b_red {σ : Sl} {H : Hp} {Q : VK} {G Z : Hp} {env : VEnv} {T : List (V × Rv)} {b : Bool} (r : R X.mg G Z H σ env T) (p : Post X.mg W G Z σ env T Q H (.ok (.st (.fz (.bl b))))) : Q (.bl b) H :=
  let ⟨F, C1, C2, r⟩ := r
  p _ H (Same.refl _) (r.new (New.bl r.fh))
theorem test_bind {σ : Sl} {H : Hp} {Q : VK} {G Z : Hp} {env : VEnv} {T : List (V × Rv)} {k : Bool → Ans Rv} {Q1 : Bool → Hp → Prop} (r : R X.mg G Z H σ env T) (p : Post X.mg W G Z σ env T Q H ((dTest f env).bind k))
    (h : ∀ b H1, Same H H1 → R X.mg G Z H1 σ env T → Post X.mg W G Z σ env T Q H1 (k b) → Q1 b H1) : tE X.mg W f σ H fun x H1 => ∃ c, x = .bl c ∧ Q1 c H1 := by
  unfold dTest at p
  rw [Ans.bind_assoc] at p
  refine tE.bind r Sb.refl p fun x u H1 _ s1 ⟨F, C1, C2, r1⟩ p1 => ?_
  obtain ⟨b, e, p1⟩ := r1.bool List.mem_cons_self p1
  exact ⟨b, e, h b H1 s1 r1.r.pop p1⟩
theorem je_not (h : JE X W a f) : JE X W (.UnaryOp .Not a pos) (dB (dNotT (dTest f))) := by
  refine PE.imp (pe_not h) fun σ H Q ⟨G, Z, env, T, r, p⟩ => ?_
  have p' : Post X.mg W G Z σ env T Q H ((dTest f env).bind fun b => .ok (.st (.fz (.bl !b)))) := by
    have p2 := p
    unfold dB dNotT at p2
    rw [Ans.bind_assoc] at p2
    exact p2
  exact test_bind r p' fun b H1 s1 r1 p1 => b_red r1 p1
def dAndV (f g : DE) : DE := fun env => (dTest f env).bind fun b => if b then g env else .ok (.st (.fz (.bl false)))
def dOrV (f g : DE) : DE := fun env => (dTest f env).bind fun b => if b then .ok (.st (.fz (.bl true))) else g env
theorem je_one {op} (h : JE X W a f) : JE X W (.BoolOp op [a] pos) f := pe_one h
theorem je_and (ha : JE X W a f) (hb : JE X W (.BoolOp .And (b :: rest) pos) g) : JE X W (.BoolOp .And (a :: b :: rest) pos) (dAndV f g) := by
  refine PE.imp (pe_and ha hb) fun σ H Q ⟨G, Z, env, T, r, p⟩ => test_bind r p fun c H1 s1 r1 p1 => ?_
  cases c with
  | true =>
    rw [if_pos rfl] at p1 ⊢
    exact ⟨G, Z, env, T, r1, p1⟩
  | false =>
    rw [if_neg Bool.false_ne_true] at p1 ⊢
    exact b_red r1 p1
theorem je_or (ha : JE X W a f) (hb : JE X W (.BoolOp .Or (b :: rest) pos) g) : JE X W (.BoolOp .Or (a :: b :: rest) pos) (dOrV f g) := by
  refine PE.imp (pe_or ha hb) fun σ H Q ⟨G, Z, env, T, r, p⟩ => test_bind r p fun c H1 s1 r1 p1 => ?_
  cases c with
  | true =>
    rw [if_pos rfl] at p1 ⊢
    exact b_red r1 p1
  | false =>
    rw [if_neg Bool.false_ne_true] at p1 ⊢
    exact ⟨G, Z, env, T, r1, p1⟩
end
/-! ### None, -n, chains -/
def FV.isNon : FV → Bool
  | .non => true
  | _ => false
def opNeg : OV → Option OV
  | .fz (.int i) => some (.fz (.int (-i)))
  | _ => none
/-- is None; of what may be None or anything -/
def opIsN (x : OV) : Option OV := some (.fz (.bl x.fv.isNon))
def opNotN (x : OV) : Option OV := some (.fz (.bl !x.fv.isNon))
theorem FDen.isNon {M : Str → Option Value} {F : Hp} {x : FV} {v : V} (d : FDen M F x v) : decide (v = .non) = x.isNon := by
  cases x with
  | non => rw [show v = .non from d]; rfl
  | bl b => rw [show v = .bl b from d]; rfl
  | int b => rw [show v = .int b from d]; rfl
  | str b => rw [show v = .str b from d]; rfl
  | tup b => obtain ⟨a, vs, e, _⟩ := d; rw [e]; rfl
  | tuz b => obtain ⟨a, vs, o, e, _⟩ := d; rw [e]; rfl
  | lst b => obtain ⟨a, vs, e, _⟩ := d; rw [e]; rfl
  | dK b => obtain ⟨a, vs, e, _⟩ := d; rw [e]; rfl
  | dT b => obtain ⟨a, vs, e, _⟩ := d; rw [e]; rfl
  | ins c b => obtain ⟨a, C, dx, vs, e, _⟩ := d; rw [e]; rfl
  | exc b => obtain ⟨a, C, e, _⟩ := d; rw [e]; rfl
  | scr b => obtain ⟨a, e, _⟩ := d; rw [e]; rfl
  | dN b => obtain ⟨a, kb, e, _⟩ := d; rw [e]; rfl
section
variable {X : Cx} {W : WX} {pos pos' : Pos} {a b c : Expr} {f g h : DE}
theorem je_neg (ha : JE X W a f) : JE X W (.UnaryOp .USub a pos) (dUn opNeg f) := by
  refine je_un (fun pins s σ H u v Q I r1 ⟨F, x, o, hf, bx, e, k⟩ => ?_) ha
  unfold opNeg at e
  split at e
  · cases e
    exact un_neg pins s σ H u v Q I r1 ⟨_, bx.int, k _ _ (New.int hf)⟩
  · cases e
theorem isN_red {opd : OV → Option OV} {p : Bool → Bool} (hp : ∀ x, opd x = some (.fz (.bl (p x.fv.isNon)))) {σ : Sl} {H : Hp} {Q : VK} (h : tE X.mg W (dUn opd f) σ H Q) : tE X.mg W f σ H fun x H1 => Q (.bl (p (decide (x = .non)))) H1 := by
  obtain ⟨G, Z, env, T, r, q⟩ := h
  refine tE.bind r Sb.refl q fun x u H1 _ s1 r1 p1 => ?_
  obtain ⟨F, C1, C2, r1⟩ := r1
  have hb := r1.bor List.mem_cons_self
  rw [hp] at p1
  have e : decide (u = .non) = x.ov.fv.isNon := (hb.fden r1.fh).isNon
  show Q (.bl (p (decide (u = .non)))) H1
  rw [e]
  exact b_red r1.r.pop p1
theorem je_isN {j} (ha : JE X W a f) : JE X W (.Compare a [.Is] [.Constant .none j pos'] pos) (dUn opIsN f) :=
  PE.imp (pe_cmp (pc_isN ha)) fun σ H Q h => isN_red (p := fun b => b) (fun _ => rfl) h
theorem je_notN {j} (ha : JE X W a f) : JE X W (.Compare a [.IsNot] [.Constant .none j pos'] pos) (dUn opNotN f) :=
  PE.imp (pe_cmp (pc_notN ha)) fun σ H Q h => isN_red (p := fun b => !b) (fun _ => rfl) h
theorem tt_red {opd : OV → Option OV} {p : Bool → Bool} (hp : ∀ x, opd x = some (.fz (.bl (p x.fv.isNon)))) {σ : Sl} {H : Hp} {Q : Bool → Hp → Prop} (h : tT X.mg W (dTest (dUn opd f)) σ H Q) : tE X.mg W f σ H fun x H1 => ∃ c, V.bl (p (decide (x = .non))) = .bl c ∧ Q c H1 := by
  obtain ⟨G, Z, env, T, r, q⟩ := h
  have q' : PostT X.mg W G Z σ env T Q H ((f env).bind fun x => .ok (p x.ov.fv.isNon)) := by
    have q2 := q
    unfold dTest dUn at q2
    simp only [Ans.bind_assoc, hp] at q2
    exact q2
  refine tE.bindT r Sb.refl q' fun x u H1 _ s1 r1 p1 => ?_
  obtain ⟨F, C1, C2, r1⟩ := r1
  have hb := r1.bor List.mem_cons_self
  have e : decide (u = .non) = x.ov.fv.isNon := (hb.fden r1.fh).isNon
  refine ⟨_, rfl, ?_⟩
  rw [e]
  exact p1 H1 (Same.refl _) r1.r.pop
theorem jt_isN {j} (ha : JE X W a f) : JT X W (.Compare a [.Is] [.Constant .none j pos'] pos) (dTest (dUn opIsN f)) :=
  PT.imp (pt_cmp (pc_isN ha)) fun σ H Q h => tt_red (p := fun b => b) (fun _ => rfl) h
theorem jt_notN {j} (ha : JE X W a f) : JT X W (.Compare a [.IsNot] [.Constant .none j pos'] pos) (dTest (dUn opNotN f)) :=
  PT.imp (pt_cmp (pc_notN ha)) fun σ H Q h => tt_red (p := fun b => !b) (fun _ => rfl) h
end
/-! ### argument lists, displays -/
def dNil : VEnv → Ans (List Rv) := fun _ => .ok []
def dCons (f : DE) (g : VEnv → Ans (List Rv)) : VEnv → Ans (List Rv) := fun env => (f env).bind fun r => (g env).bind fun rs => .ok (r :: rs)
section
variable {X : Cx} {W : WX} {pos : Pos} {e : Expr} {es : List Expr} {f : DE} {g : VEnv → Ans (List Rv)}
theorem ja_nil : JA X W [] dNil := PA.imp pa_nil fun σ H Q ⟨G, Z, env, T, r, p⟩ => p [] H rfl (Same.refl _) r
theorem ja_cons (he : JE X W e f) (hr : JA X W es g) (hs : starEach (e :: es) X.env = (false, eval e X.env) :: starEach es X.env := by rfl) : JA X W (e :: es) (dCons f g) := by
  refine PA.imp (pa_cons he hr hs) fun σ H Q ⟨G, Z, env, T, r, p⟩ => ?_
  refine tE.bindA r Sb.refl p fun x u H1 _ s1 r1 p1 => ?_
  refine ⟨G, Z, env, (u, x) :: T, r1, ?_⟩
  cases e2 : g env with
  | ok rs =>
    rw [e2] at p1
    intro vs H2 hl s2 r2
    refine p1 (u :: vs) H2 (by simp [hl]) s2 (r2.perm ?_)
    rw [List.zip_cons_cons]
    exact List.perm_middle
  | ex c =>
    rw [e2] at p1
    exact fun C H2 m s2 r2 => p1 C H2 m s2 r2.pop
  | no => rw [e2] at p1; exact p1
end
def Rv.fz? : Rv → Option FV
  | .st (.fz x) => some x
  | _ => none
def Rv.st? : Rv → Option OV
  | .st o => some o
  | _ => none
def allFz : List Rv → Option (List FV)
  | [] => some []
  | r :: rs => match r.fz?, allFz rs with
    | some x, some xs => some (x :: xs)
    | _, _ => none
def allSt : List Rv → Option (List OV)
  | [] => some []
  | r :: rs => match r.st?, allSt rs with
    | some x, some xs => some (x :: xs)
    | _, _ => none
/-- [a, b] of frozen things; of any of one's own -/
def dList (g : VEnv → Ans (List Rv)) : DE := fun env => (g env).bind fun rs => if rs.length ≤ 1000 then (match allFz rs with | some xs => .ok (.st (.ol xs)) | none => .no) else .no
def dListD (g : VEnv → Ans (List Rv)) : DE := fun env => (g env).bind fun rs => if rs.length ≤ 1000 then (match allSt rs with | some xs => .ok (.st (.dl xs)) | none => .no) else .no
def dTup (g : VEnv → Ans (List Rv)) : DE := fun env => (g env).bind fun rs => if rs.length ≤ 1000 then (match allFz rs with | some xs => .ok (.st (.fz (.tup xs))) | none => .no) else .no
def dTupD (g : VEnv → Ans (List Rv)) : DE := fun env => (g env).bind fun rs => if rs.length ≤ 1000 then (match allSt rs with | some xs => .ok (.st (.tp xs)) | none => .no) else .no
theorem le1000 {n : Nat} (h : n ≤ 1000) : n ≤ sizeLine := Nat.le_trans h (by rw [sizeLine_eq]; decide)
section
variable {M : Str → Option Value} {G Z H F : Hp} {σ : Sl} {env : VEnv} {T T2 : List (V × Rv)} {C1 C2 : Cells}
theorem fz_den : ∀ {rs : List Rv} {vs : List V} {xs : List FV}, vs.length = rs.length → allFz rs = some xs → (∀ p ∈ vs.zip rs, Bor M F H p.2.ov p.1) → FDenL M F xs vs
  | [], vs, xs, hl, e, _ => by
    cases e
    exact List.eq_nil_of_length_eq_zero hl
  | r :: rs, [], xs, hl, e, _ => by simp at hl
  | r :: rs, v :: vs, xs, hl, e, hb => by
    unfold allFz at e
    split at e
    · rename_i x ys e1 e2
      cases e
      have hr : r = .st (.fz x) := by
        unfold Rv.fz? at e1
        split at e1
        · cases e1; rfl
        · cases e1
      subst hr
      exact ⟨v, vs, rfl, (hb (v, .st (.fz x)) (by simp)).fz, fz_den (by simpa using hl) e2 fun p hp => hb p (by rw [List.zip_cons_cons]; exact List.mem_cons_of_mem _ hp)⟩
    · cases e
/-- one's own temporaries packed -/
theorem st_own : ∀ {rs : List Rv} {vs : List V} {xs : List OV} {L : Cells}, vs.length = rs.length → allSt rs = some xs → TmpOwn M F H (vs.zip rs ++ T) L → ∃ A B, OwnL M F xs vs A ∧ TmpOwn M F H T B ∧ L = A ++ B
  | [], vs, xs, L, hl, e, t => by
    cases e
    obtain rfl : vs = [] := List.eq_nil_of_length_eq_zero hl
    exact ⟨[], L, ⟨rfl, rfl⟩, t, rfl⟩
  | r :: rs, [], xs, L, hl, e, t => by simp at hl
  | r :: rs, v :: vs, xs, L, hl, e, t => by
    unfold allSt at e
    split at e
    · rename_i x ys e1 e2
      cases e
      have hr : r = .st x := by
        unfold Rv.st? at e1
        split at e1
        · cases e1; rfl
        · cases e1
      subst hr
      rw [List.zip_cons_cons, List.cons_append] at t
      cases t with
      | st d t =>
        obtain ⟨A, B, h1, h2, h3⟩ := st_own (by simpa using hl) e2 t
        subst h3
        exact ⟨_ ++ A, B, ⟨v, vs, _, A, rfl, d, h1, rfl⟩, h2, by rw [List.append_assoc]⟩
    · cases e
/-- a new cell that holds one's own things -/
theorem RF.pack {p : Addr} {u : HO} {o : OV} {A B : Cells} (r : RF M G Z H F σ env T2 C1 C2) (hp : H p = none) (e : C2 = A ++ B) (t : TmpOwn M F H T B) (ow : Own M F o (.ref p) ((p, u) :: A)) : R M G Z (upd H p u) σ env ((.ref p, .st o) :: T) := by
  subst e
  have s := same_upd (o := u) hp
  have hF := none_of_same r.fh hp
  have hZ := none_of_same r.zh hp
  refine ⟨F, C1, ((p, u) :: A) ++ B, r.gf, r.fg, r.fh.trans s, r.zh.trans s, r.ev, .st ow (t.mono (Same.refl _) s), ?_⟩
  have g := r.gd.same s
  have g2 : Good F Z (upd H p u) [(p, u)] := ⟨by simp, fun q hq => by rw [List.mem_singleton] at hq; subst hq; exact upd_same, fun q hq => by rw [List.mem_singleton] at hq; subst hq; exact hF, fun q hq => by rw [List.mem_singleton] at hq; subst hq; exact hZ⟩
  have g3 := g2.mk' g fun q hq q2 hq2 e => by
    rw [List.mem_singleton] at hq
    subst hq
    have := r.gd.hp q2 hq2
    rw [← e, hp] at this
    cases this
  refine g3.perm ?_
  show ((p, u) :: (C1 ++ (A ++ B))).Perm (C1 ++ ((p, u) :: (A ++ B)))
  exact List.perm_middle.symm
theorem RF.packT {p : Addr} {vs : List V} {xs : List OV} {A B : Cells} (r : RF M G Z H F σ env T2 C1 C2) (hp : H p = none) (e : C2 = A ++ B) (t : TmpOwn M F H T B) (ow : OwnL M F xs vs A) : R M G Z (upd H p (.tup vs)) σ env ((.ref p, .st (.tp xs)) :: T) := by
  subst e
  have s := same_upd (o := HO.tup vs) hp
  have hF := none_of_same r.fh hp
  have hZ := none_of_same r.zh hp
  have sF := same_upd (o := HO.tup vs) hF
  have lt : ∀ q ∈ C1 ++ (A ++ B), q.1 ≠ p := fun q hq e => by
    have := r.gd.hp q hq
    rw [e, hp] at this
    cases this
  refine ⟨upd F p (.tup vs), C1, A ++ B, r.gf.trans sF, fun a o e => ?_, fun a o e => ?_, r.zh.trans s, r.ev.mono sF, .st ⟨p, vs, rfl, upd_same, ow.mono sF⟩ (t.mono sF s), ⟨r.gd.nd, fun q hq => s _ _ (r.gd.hp q hq), fun q hq => by rw [upd_ne (lt q hq)]; exact r.gd.fr q hq, r.gd.zr⟩⟩
  · by_cases q : a = p
    · subst q; exact .inr hZ
    · rw [upd_ne q] at e; exact r.fg a o e
  · by_cases q : a = p
    · subst q; rw [upd_same] at e ⊢; exact e
    · rw [upd_ne q] at e ⊢; exact r.fh _ _ e
end
section
variable {X : Cx} {W : WX} {pos : Pos} {es : List Expr} {g : VEnv → Ans (List Rv)}
theorem je_list (h : JA X W es g) : JE X W (.List es pos) (dList g) := by
  refine PE.imp (pe_lst h) fun σ H Q ⟨G, Z, env, T, r, p⟩ => ?_
  refine tA.bind r Sb.refl p fun rs vs H1 _ hl s1 ⟨F, C1, C2, r1⟩ p1 => ?_
  split at p1
  · rename_i hz
    split at p1
    · rename_i xs e
      refine ⟨by rw [hl]; exact le1000 hz, fun q hq => p1 _ _ (same_upd hq) ?_⟩
      exact (r1.new (New.lst r1.fh hq (fz_den hl e fun p hp => r1.bor (List.mem_append_left _ hp)))).sb (Sb.both ⟨vs.zip rs, List.perm_append_comm⟩)
    · exact p1.elim
  · exact p1.elim
theorem je_listD (h : JA X W es g) : JE X W (.List es pos) (dListD g) := by
  refine PE.imp (pe_lst h) fun σ H Q ⟨G, Z, env, T, r, p⟩ => ?_
  refine tA.bind r Sb.refl p fun rs vs H1 _ hl s1 ⟨F, C1, C2, r1⟩ p1 => ?_
  split at p1
  · rename_i hz
    split at p1
    · rename_i xs e
      obtain ⟨A, B, h1, h2, h3⟩ := st_own hl e r1.tm
      exact ⟨by rw [hl]; exact le1000 hz, fun q hq => p1 _ _ (same_upd hq) (r1.pack hq h3 h2 ⟨q, vs, A, rfl, h1, rfl⟩)⟩
    · exact p1.elim
  · exact p1.elim
theorem je_tup {k} (h : JA X W es g) : JE X W (.Tuple es k pos) (dTup g) := by
  refine PE.imp (pe_tup h) fun σ H Q ⟨G, Z, env, T, r, p⟩ => ?_
  refine tA.bind r Sb.refl p fun rs vs H1 _ hl s1 ⟨F, C1, C2, r1⟩ p1 => ?_
  split at p1
  · rename_i hz
    split at p1
    · rename_i xs e
      refine ⟨by rw [hl]; exact le1000 hz, fun q hq => p1 _ _ (same_upd hq) ?_⟩
      exact (r1.new (New.tup r1.fh hq (fz_den hl e fun p hp => r1.bor (List.mem_append_left _ hp)))).sb (Sb.both ⟨vs.zip rs, List.perm_append_comm⟩)
    · exact p1.elim
  · exact p1.elim
theorem je_tupD {k} (h : JA X W es g) : JE X W (.Tuple es k pos) (dTupD g) := by
  refine PE.imp (pe_tup h) fun σ H Q ⟨G, Z, env, T, r, p⟩ => ?_
  refine tA.bind r Sb.refl p fun rs vs H1 _ hl s1 ⟨F, C1, C2, r1⟩ p1 => ?_
  split at p1
  · rename_i hz
    split at p1
    · rename_i xs e
      obtain ⟨A, B, h1, h2, h3⟩ := st_own hl e r1.tm
      exact ⟨by rw [hl]; exact le1000 hz, fun q hq => p1 _ _ (same_upd hq) (r1.packT hq h3 h2 h1)⟩
    · exact p1.elim
  · exact p1.elim
def dNewK : DE := fun _ => .ok (.st (.oK []))
def dNewT : DE := fun _ => .ok (.st (.oT []))
theorem je_newK : JE X W (.Dict [] [] pos) dNewK := PE.imp pe_dnewK fun σ H Q ⟨G, Z, env, T, ⟨F, C1, C2, r⟩, p⟩ => fun q hq => p _ _ (same_upd hq) (r.new (New.dK r.fh hq rfl))
theorem je_newT : JE X W (.Dict [] [] pos) dNewT := PE.imp pe_dnewT fun σ H Q ⟨G, Z, env, T, ⟨F, C1, C2, r⟩, p⟩ => fun q hq => p _ _ (same_upd hq) (r.new (New.dT r.fh hq rfl))
end
end J
namespace J
open PySem PySem.Spec PyProof.Rows L2
/-! ### items -/
theorem atI_den {M : Str → Option Value} {F : Hp} {xs : List FV} {vs : List V} {i : Int} {x : FV} (d : FDenL M F xs vs) (e : atI xs i = some x) : ∃ v, atI vs i = some v ∧ FDen M F x v := by
  unfold atI at e ⊢
  obtain ⟨j, e1, e2⟩ := Option.bind_eq_some_iff.mp e
  obtain ⟨v, e3, e4⟩ := d.get e2
  exact ⟨v, by rw [d.length, e1]; exact e3, e4⟩
theorem OwnL.length {M : Str → Option Value} {F : Hp} : ∀ {xs : List OV} {vs : List V} {L : Cells}, OwnL M F xs vs L → vs.length = xs.length
  | [], _, _, h => by rw [h.1]; rfl
  | _ :: _, _, _, ⟨v, ws, A, B, e, d, r, q⟩ => by rw [e, List.length_cons, List.length_cons, OwnL.length r]
theorem OwnL.get {M : Str → Option Value} {F : Hp} : ∀ {xs : List OV} {vs : List V} {L : Cells} {i : Nat} {x : OV}, OwnL M F xs vs L → xs[i]? = some x → ∃ v A, vs[i]? = some v ∧ Own M F x v A ∧ ∀ p ∈ A, p ∈ L
  | [], _, _, _, _, _, h => by simp at h
  | _ :: _, _, _, 0, _, ⟨v, ws, A, B, e, d, r, q⟩, h => by
    rw [List.getElem?_cons_zero] at h
    cases h
    exact ⟨v, A, by rw [e]; rfl, d, fun p hp => by rw [q]; exact List.mem_append_left _ hp⟩
  | _ :: _, _, _, i + 1, _, ⟨v, ws, A, B, e, d, r, q⟩, h => by
    rw [List.getElem?_cons_succ] at h
    obtain ⟨w, A2, h1, h2, h3⟩ := OwnL.get r h
    exact ⟨w, A2, by rw [e, List.getElem?_cons_succ]; exact h1, h2, fun p hp => by rw [q]; exact List.mem_append_right _ (h3 p hp)⟩
theorem atI_own {M : Str → Option Value} {F H : Hp} {xs : List OV} {vs : List V} {L : Cells} {i : Int} {x : OV} (d : OwnL M F xs vs L) (c : ∀ p ∈ L, H p.1 = some p.2) (e : atI xs i = some x) : ∃ v, atI vs i = some v ∧ Bor M F H x v := by
  unfold atI at e ⊢
  obtain ⟨j, e1, e2⟩ := Option.bind_eq_some_iff.mp e
  obtain ⟨v, A, e3, e4, e5⟩ := d.get e2
  exact ⟨v, by rw [d.length, e1]; exact e3, A, e4, fun p hp => c p (e5 p hp)⟩
/-- the value at a key -/
def lookK {κ α : Type} [DecidableEq κ] (kvs : List (κ × α)) (k : κ) : Option α := (kvs.find? fun kv => decide (kv.1 = k)).map (·.2)
theorem lookK_cons {κ α : Type} [DecidableEq κ] (p : κ × α) (kvs : List (κ × α)) (k : κ) : lookK (p :: kvs) k = if p.1 = k then some p.2 else lookK kvs k := by
  unfold lookK
  rw [List.find?_cons]
  by_cases h : p.1 = k
  · simp [h]
  · simp [h]
section
variable {M : Str → Option Value} {F H : Hp}
theorem FDenK.look : ∀ {kvs : List (Key × FV)} {ws : List (Key × V)} (k : Key), FDenK M F kvs ws → (∃ x v, lookK kvs k = some x ∧ valV ws k = some v ∧ FDen M F x v) ∨ (lookK kvs k = none ∧ valV ws k = none)
  | [], _, k, e => by rw [show _ = [] from e]; exact .inr ⟨rfl, rfl⟩
  | (j, x) :: r, _, k, ⟨v, rs, e, d, q⟩ => by
    rw [e, lookK_cons]
    by_cases h : j = k
    · rw [if_pos h]
      exact .inl ⟨x, v, rfl, valV_pos h, d⟩
    · rw [if_neg h, valV_neg (p := (j, v)) h]
      exact FDenK.look k q
theorem FDenT.look : ∀ {kvs : List (List Key × FV)} {ws : List (List Key × V)} (k : List Key), FDenT M F kvs ws → (∃ x v, lookK kvs k = some x ∧ valV ws k = some v ∧ FDen M F x v) ∨ (lookK kvs k = none ∧ valV ws k = none)
  | [], _, k, e => by rw [show _ = [] from e]; exact .inr ⟨rfl, rfl⟩
  | (j, x) :: r, _, k, ⟨v, rs, e, d, q⟩ => by
    rw [e, lookK_cons]
    by_cases h : j = k
    · rw [if_pos h]
      exact .inl ⟨x, v, rfl, valV_pos h, d⟩
    · rw [if_neg h, valV_neg (p := (j, v)) h]
      exact FDenT.look k q
theorem OwnK.look : ∀ {kvs : List (Key × OV)} {ws : List (Key × V)} {L : Cells} (k : Key), OwnK M F kvs ws L → (∃ x v A, lookK kvs k = some x ∧ valV ws k = some v ∧ Own M F x v A ∧ ∀ p ∈ A, p ∈ L) ∨ (lookK kvs k = none ∧ valV ws k = none)
  | [], _, _, k, e => by rw [e.1]; exact .inr ⟨rfl, rfl⟩
  | (j, x) :: r, _, _, k, ⟨v, rs, A, B, e, d, q, z⟩ => by
    rw [e, lookK_cons]
    by_cases h : j = k
    · rw [if_pos h]
      exact .inl ⟨x, v, A, rfl, valV_pos h, d, fun p hp => by rw [z]; exact List.mem_append_left _ hp⟩
    · rw [if_neg h, valV_neg (p := (j, v)) h]
      rcases OwnK.look k q with ⟨y, w, A2, h1, h2, h3, h4⟩ | h
      · exact .inl ⟨y, w, A2, h1, h2, h3, fun p hp => by rw [z]; exact List.mem_append_right _ (h4 p hp)⟩
      · exact .inr h
end
def FV.key? : FV → Option Key
  | .int i => some (.inl i)
  | .str x => some (.inr x)
  | _ => none
def keys? : List FV → Option (List Key)
  | [] => some []
  | x :: xs => match x.key?, keys? xs with
    | some k, some ks => some (k :: ks)
    | _, _ => none
def FV.keyT? : FV → Option (List Key)
  | .tup xs => keys? xs
  | _ => none
theorem FDen.key {M : Str → Option Value} {F : Hp} {x : FV} {v : V} {k : Key} (d : FDen M F x v) (e : x.key? = some k) : v = kV k := by
  unfold FV.key? at e
  split at e
  · cases e; exact d
  · cases e; exact d
  · cases e
theorem FDenL.keys {M : Str → Option Value} {F : Hp} : ∀ {xs : List FV} {vs : List V} {ks : List Key}, FDenL M F xs vs → keys? xs = some ks → vs = ks.map kV
  | [], _, _, d, e => by cases e; exact d
  | x :: xs, _, ks, ⟨v, ws, ev, d, r⟩, e => by
    unfold keys? at e
    split at e
    · rename_i k ks' e1 e2
      cases e
      rw [ev, d.key e1, FDenL.keys r e2]
      rfl
    · cases e
theorem FDen.keyT {M : Str → Option Value} {F : Hp} {x : FV} {v : V} {k : List Key} (d : FDen M F x v) (e : x.keyT? = some k) : ∃ b, v = .ref b ∧ F b = some (.tup (k.map kV)) := by
  unfold FV.keyT? at e
  split at e
  · obtain ⟨a, vs, ev, q, r⟩ := d
    rw [r.keys e] at q
    exact ⟨a, ev, q⟩
  · cases e
def OV.isD : OV → Bool
  | .oK _ => true
  | .oT _ => true
  | .dd _ => true
  | .fz (.dK _) => true
  | .fz (.dT _) => true
  | _ => false
/-- what a dict holds at a key: some r, nothing, or the key is not one of its kind -/
def dGet (x : OV) (k : FV) : Option (Option Rv) := match x with
  | .oK kvs => k.key?.map fun k => (lookK kvs k).map fun v => .st (.fz v)
  | .fz (.dK kvs) => k.key?.map fun k => (lookK kvs k).map fun v => .st (.fz v)
  | .dd kvs => k.key?.map fun k => (lookK kvs k).map .bo
  | .oT kvs => k.keyT?.map fun k => (lookK kvs k).map fun v => .st (.fz v)
  | .fz (.dT kvs) => k.keyT?.map fun k => (lookK kvs k).map fun v => .st (.fz v)
  | _ => none
/-- what is known of an item's value -/
def ResIs (M : Str → Option Value) (F H : Hp) (r : Rv) (v : V) : Prop := match r with
  | .st (.fz x) => FDen M F x v
  | .bo o => Bor M F H o v
  | _ => False
theorem RF.res {M : Str → Option Value} {G Z H F : Hp} {σ : Sl} {env : VEnv} {T : List (V × Rv)} {C1 C2 : Cells} {r : Rv} {v : V} (q : RF M G Z H F σ env T C1 C2) (h : ResIs M F H r v) : R M G Z H σ env ((v, r) :: T) := by
  unfold ResIs at h
  split at h
  · exact q.new (New.old q.fh h)
  · exact ⟨F, C1, C2, q.gf, q.fg, q.fh, q.zh, q.ev, .bo h q.tm, q.gd⟩
  · exact h.elim
theorem dGet_den {M : Str → Option Value} {F H : Hp} {x : OV} {k : FV} {u w : V} {o : Option Rv} (hf : Same F H) (bx : Bor M F H x u) (dk : FDen M F k w) (e : dGet x k = some o) :
    ∃ a ov, u = .ref a ∧ DGet H a w ov ∧ ov.isSome = o.isSome ∧ ∀ r, o = some r → ∃ v, ov = some v ∧ ResIs M F H r v := by
  have caseK : ∀ {kvs : List (Key × FV)} {ws : List (Key × V)} {a : Addr}, H a = some (.dK ws) → FDenK M F kvs ws → (k.key?.map fun k => (lookK kvs k).map fun v => Rv.st (.fz v)) = some o → ∃ ov, DGet H a w ov ∧ ov.isSome = o.isSome ∧ ∀ r, o = some r → ∃ v, ov = some v ∧ ResIs M F H r v := by
    intro kvs ws a hH d e
    obtain ⟨j, e1, e2⟩ := Option.map_eq_some_iff.mp e
    subst e2
    rw [dk.key e1]
    refine ⟨_, DGet.k hH, ?_⟩
    rcases d.look j with ⟨x, v, h1, h2, h3⟩ | ⟨h1, h2⟩
    · rw [h1, h2]
      exact ⟨rfl, fun r e => by cases e; exact ⟨v, rfl, h3⟩⟩
    · rw [h1, h2]
      exact ⟨rfl, fun r e => nomatch e⟩
  have caseT : ∀ {kvs : List (List Key × FV)} {ws : List (List Key × V)} {a : Addr}, H a = some (.dT ws) → FDenT M F kvs ws → (k.keyT?.map fun k => (lookK kvs k).map fun v => Rv.st (.fz v)) = some o → ∃ ov, DGet H a w ov ∧ ov.isSome = o.isSome ∧ ∀ r, o = some r → ∃ v, ov = some v ∧ ResIs M F H r v := by
    intro kvs ws a hH d e
    obtain ⟨j, e1, e2⟩ := Option.map_eq_some_iff.mp e
    subst e2
    obtain ⟨b, rfl, hb⟩ := dk.keyT e1
    refine ⟨_, DGet.t hH (hf _ _ hb), ?_⟩
    rcases d.look j with ⟨x, v, h1, h2, h3⟩ | ⟨h1, h2⟩
    · rw [h1, h2]
      exact ⟨rfl, fun r e => by cases e; exact ⟨v, rfl, h3⟩⟩
    · rw [h1, h2]
      exact ⟨rfl, fun r e => nomatch e⟩
  obtain ⟨A, ow, c⟩ := bx
  unfold dGet at e
  split at e
  · obtain ⟨a, ws, rfl, d, q⟩ := ow
    subst q
    obtain ⟨ov, h⟩ := caseK (c _ List.mem_cons_self) d e
    exact ⟨a, ov, rfl, h⟩
  · obtain ⟨⟨a, ws, rfl, q, d⟩, _⟩ := ow
    obtain ⟨ov, h⟩ := caseK (hf _ _ q) d e
    exact ⟨a, ov, rfl, h⟩
  · obtain ⟨a, ws, L', rfl, d, q⟩ := ow
    subst q
    obtain ⟨j, e1, e2⟩ := Option.map_eq_some_iff.mp e
    subst e2
    rw [dk.key e1]
    refine ⟨a, _, rfl, DGet.k (c _ List.mem_cons_self), ?_⟩
    rcases d.look j with ⟨x, v, B, h1, h2, h3, h4⟩ | ⟨h1, h2⟩
    · rw [h1, h2]
      exact ⟨rfl, fun r e => by cases e; exact ⟨v, rfl, B, h3, fun p hp => c p (List.mem_cons_of_mem _ (h4 p hp))⟩⟩
    · rw [h1, h2]
      exact ⟨rfl, fun r e => nomatch e⟩
  · obtain ⟨a, ws, rfl, d, q⟩ := ow
    subst q
    obtain ⟨ov, h⟩ := caseT (c _ List.mem_cons_self) d e
    exact ⟨a, ov, rfl, h⟩
  · obtain ⟨⟨a, ws, rfl, q, d⟩, _⟩ := ow
    obtain ⟨ov, h⟩ := caseT (hf _ _ q) d e
    exact ⟨a, ov, rfl, h⟩
  · cases e
/-- x[i] of a list, a tuple, a text -/
def opIx (x : OV) (i : Int) : Option Rv := match x with
  | .ol xs => (atI xs i).map fun v => .st (.fz v)
  | .fz (.lst xs) => (atI xs i).map fun v => .st (.fz v)
  | .fz (.tup xs) => (atI xs i).map fun v => .st (.fz v)
  | .fz (.tuz xs) => (atI xs i).map fun v => .st (.fz v)
  | .fz (.str z) => if z.length ≤ BIG then (atI z.cps.toList i).map fun c => .st (.fz (.str ⟨#[c]⟩)) else none
  | .dl os => (atI os i).map .bo
  | .tp os => (atI os i).map .bo
  | _ => none
def opSub' (x y : OV) : Option Rv := if x.isD then (dGet x y.fv).bind id else match y with
  | .fz (.int i) => opIx x i
  | _ => none
def FV.frozenKey : OV → Bool
  | .fz _ => true
  | _ => false
def dSub (f g : DE) : DE := fun env => (f env).bind fun x => (g env).bind fun y => if FV.frozenKey y.ov then Ans.of (opSub' x.ov y.ov) else .no
section
variable {M : Str → Option Value} {K : PySem.W.Frag} {F H : Hp} {x : OV} {u : V}
theorem opIx_den {i : Int} {r : Rv} (hf : Same F H) (bx : Bor M F H x u) (e : opIx x i = some r) (Q : VK) (k : ∀ v, ResIs M F H r v → Q v H) : rIx K u (.int i) H Q := by
  obtain ⟨A, ow, c⟩ := bx
  unfold opIx at e
  split at e
  · obtain ⟨a, vs, rfl, d, q⟩ := ow
    subst q
    obtain ⟨y, e1, e2⟩ := Option.map_eq_some_iff.mp e
    subst e2
    obtain ⟨v, h1, h2⟩ := atI_den d e1
    exact .inl ⟨a, vs, i, v, rfl, rfl, SqL.of (c _ List.mem_cons_self), h1, k v h2⟩
  · obtain ⟨⟨a, vs, rfl, q, d⟩, _⟩ := ow
    obtain ⟨y, e1, e2⟩ := Option.map_eq_some_iff.mp e
    subst e2
    obtain ⟨v, h1, h2⟩ := atI_den d e1
    exact .inl ⟨a, vs, i, v, rfl, rfl, SqL.of (hf _ _ q), h1, k v h2⟩
  · obtain ⟨⟨a, vs, rfl, q, d⟩, _⟩ := ow
    obtain ⟨y, e1, e2⟩ := Option.map_eq_some_iff.mp e
    subst e2
    obtain ⟨v, h1, h2⟩ := atI_den d e1
    exact .inr (.inl ⟨a, vs, i, v, rfl, rfl, SqT.of (hf _ _ q), h1, k v h2⟩)
  · obtain ⟨⟨a, vs, o, rfl, q, _, _, d⟩, _⟩ := ow
    obtain ⟨y, e1, e2⟩ := Option.map_eq_some_iff.mp e
    subst e2
    obtain ⟨v, h1, h2⟩ := atI_den d e1
    exact .inr (.inl ⟨a, vs, i, v, rfl, rfl, .inl (.inr ⟨o, hf _ _ q⟩), h1, k v h2⟩)
  · split at e
    · rename_i hz
      obtain ⟨h, _⟩ := ow
      obtain ⟨y, e1, e2⟩ := Option.map_eq_some_iff.mp e
      subst e2
      exact .inr (.inr ⟨_, i, y, h, rfl, by rw [big_eq]; exact hz, e1, k _ rfl⟩)
    · cases e
  · obtain ⟨a, vs, L', rfl, d, q⟩ := ow
    subst q
    obtain ⟨y, e1, e2⟩ := Option.map_eq_some_iff.mp e
    subst e2
    obtain ⟨v, h1, h2⟩ := atI_own d (fun p hp => c p (List.mem_cons_of_mem _ hp)) e1
    exact .inl ⟨a, vs, i, v, rfl, rfl, SqL.of (c _ List.mem_cons_self), h1, k v h2⟩
  · obtain ⟨a, vs, rfl, q, d⟩ := ow
    obtain ⟨y, e1, e2⟩ := Option.map_eq_some_iff.mp e
    subst e2
    obtain ⟨v, h1, h2⟩ := atI_own d c e1
    exact .inr (.inl ⟨a, vs, i, v, rfl, rfl, SqT.of (hf _ _ q), h1, k v h2⟩)
  · cases e
end
section
variable {X : Cx} {W : WX} {pos p2 : Pos} {a b : Expr} {f g : DE}
theorem je_sub (hu : X.A.units + 1 < cLine) (ha : JE X W a f) (hb : JE X W b g) (hs : PlainIx b := by first | exact fun _ _ => rfl | (intro _ _; rfl)) : JE X W (.Subscript a b pos) (dSub f g) := by
  refine PE.imp (PE.or (pe_ix (ix_seq (X := X)) ha hb hs) (pe_dget hu ha hb hs)) fun σ H Q ⟨G, Z, env, T, r, p⟩ => ?_
  have fin : ∀ (x : Rv), f env = .ok x → (x.ov.isD = false ∧ ∀ y, (g env = .ok y → FV.frozenKey y.ov = true → ∀ r, opSub' x.ov y.ov = some r → ∃ i, y.ov = .fz (.int i) ∧ opIx x.ov i = some r)) ∨ x.ov.isD = true := by
    intro x _
    cases hd : x.ov.isD with
    | true => exact .inr rfl
    | false =>
      refine .inl ⟨rfl, fun y _ _ r e => ?_⟩
      unfold opSub' at e
      rw [hd, if_neg Bool.false_ne_true] at e
      split at e
      · rename_i i e2
        exact ⟨i, e2, e⟩
      · cases e
  have left : (∀ x, f env = .ok x → x.ov.isD = false) → tOp (rIx X.K) (tE X.mg W f) (tE X.mg W g) σ H Q := by
    intro hd
    refine tE.bind r Sb.refl p fun x u H1 ef s1 r1 p1 => ?_
    refine tE.bind r1 Sb.refl.cons p1 fun y w H2 eg s2 ⟨F, C1, C2, r2⟩ p2 => ?_
    split at p2
    · rename_i hk
      cases e : opSub' x.ov y.ov with
      | none => rw [e] at p2; exact p2.elim
      | some rv =>
        rw [e] at p2
        rcases fin x ef with ⟨_, h⟩ | h
        · obtain ⟨i, e1, e2⟩ := h y eg hk rv e
          have hw := r2.bor (List.mem_cons_self (a := (w, y)))
          rw [show (w, y).2.ov = y.ov from rfl, e1] at hw
          rw [show w = .int i from hw.int]
          exact opIx_den r2.fh (r2.bor (List.mem_cons_of_mem _ List.mem_cons_self)) e2 Q fun v h => p2 v H2 (Same.refl _) ((r2.res h).sb (Sb.refl.cons.cons.both))
        · rw [hd x ef] at h; cases h
    · exact p2.elim
  cases ef : f env with
  | ex c => exact .inl (left fun x e => by rw [ef] at e; cases e)
  | no => exact .inl (left fun x e => by rw [ef] at e; cases e)
  | ok x =>
    cases hd : x.ov.isD with
    | false => exact .inl (left fun x' e => by rw [ef] at e; cases e; exact hd)
    | true =>
      refine .inr ?_
      refine tE.bind r Sb.refl p fun x' u H1 ef' s1 r1 p1 => ?_
      rw [ef] at ef'
      cases ef'
      refine tE.bind r1 Sb.refl.cons p1 fun y w H2 eg s2 ⟨F, C1, C2, r2⟩ p2 => ?_
      split at p2
      · rename_i hk
        unfold opSub' at p2
        rw [hd, if_pos rfl] at p2
        cases e : dGet x.ov y.ov.fv with
        | none => rw [e] at p2; exact p2.elim
        | some oo =>
          rw [e] at p2
          cases oo with
          | none => exact p2.elim
          | some rv =>
            have hy := r2.bor (List.mem_cons_self (a := (w, y)))
            have hy' : FDen X.mg F y.ov.fv w := by
              unfold FV.frozenKey at hk
              split at hk
              · rename_i z ez
                rw [show (w, y).2.ov = y.ov from rfl, ez] at hy
                rw [ez]
                exact hy.fz
              · cases hk
            obtain ⟨a, ov, h1, h2, h3, h4⟩ := dGet_den r2.fh (r2.bor (List.mem_cons_of_mem _ List.mem_cons_self)) hy' e
            obtain ⟨v, e3, h5⟩ := h4 rv rfl
            subst e3
            exact ⟨a, v, h1, h2, p2 v H2 (Same.refl _) ((r2.res h5).sb (Sb.refl.cons.cons.both))⟩
      · exact p2.elim
end
end J
namespace J
open PySem PySem.Spec PyProof.Rows L2
/-! ### slices -/
def cutF {α : Type} (xs : List α) (lo hi : Option Int) : List α := (xs.drop (HT.sIx xs.length 0 lo)).take (HT.sIx xs.length xs.length hi - HT.sIx xs.length 0 lo)
theorem FDenL.cut {M : Str → Option Value} {F : Hp} {xs : List FV} {vs : List V} (d : FDenL M F xs vs) (lo hi : Option Int) : FDenL M F (cutF xs lo hi) (cutV vs lo hi) := by
  unfold cutF cutV
  rw [d.length]
  exact (d.drop _).take _
theorem FDenL_ints {M : Str → Option Value} {F : Hp} : ∀ ns : List Int, FDenL M F (ns.map .int) (ns.map V.int)
  | [] => rfl
  | n :: ns => ⟨.int n, _, rfl, rfl, FDenL_ints ns⟩
theorem FDenL_strs {M : Str → Option Value} {F : Hp} : ∀ ns : List Str, FDenL M F (ns.map .str) (ns.map V.str)
  | [] => rfl
  | n :: ns => ⟨.str n, _, rfl, rfl, FDenL_strs ns⟩
theorem cutF_map {α β : Type} (f : α → β) (xs : List α) (lo hi : Option Int) : cutF (xs.map f) lo hi = (cutF xs lo hi).map f := by
  unfold cutF
  rw [List.length_map, List.map_take, List.map_drop]
theorem cutF_all {α : Type} {xs : List α} {lo hi : Option Int} (h : HT.sIx xs.length 0 lo = 0 ∧ HT.sIx xs.length xs.length hi = xs.length) : cutF xs lo hi = xs := by
  unfold cutF
  rw [h.1, h.2]
  simp
def opSl (x : OV) (lo hi : Option Int) : Option OV := match x with
  | .ol xs => some (.ol (cutF xs lo hi))
  | .fz (.lst xs) => some (.ol (cutF xs lo hi))
  | .fz (.scr xs) => some (.ol ((cutF xs lo hi).map .int))
  | .fz (.tup xs) => some (.fz (.tup (cutF xs lo hi)))
  | .fz (.str z) => if z.length ≤ BIG then some (.fz (.str (cutS z lo hi))) else none
  | _ => none
def rSlJ (M : Str → Option Value) : V → Option Int → Option Int → Hp → VK → Prop := fun u lo hi H Q => ∃ F x o, Same F H ∧ Bor M F H x u ∧ opSl x lo hi = some o ∧ ∀ v H', New M F H H' o v → Q v H'
theorem rSlJ_red {M : Str → Option Value} {K : PySem.W.Frag} {u : V} {lo hi : Option Int} {H : Hp} {Q : VK} (h : rSlJ M u lo hi H Q) : rSlL K u lo hi H Q ∨ rSlA K u lo hi H Q ∨ rSlS u lo hi H Q := by
  obtain ⟨F, x, o, hf, bx, e, k⟩ := h
  unfold opSl at e
  split at e
  · cases e
    obtain ⟨a, vs, rfl, q, d⟩ := bx.lst hf rfl
    exact .inl ⟨a, vs, rfl, SqL.of q, fun p hp => k _ _ (New.lst hf hp (d.cut lo hi))⟩
  · cases e
    obtain ⟨a, vs, rfl, q, d⟩ := bx.lst hf rfl
    exact .inl ⟨a, vs, rfl, SqL.of q, fun p hp => k _ _ (New.lst hf hp (d.cut lo hi))⟩
  · cases e
    rename_i xs
    obtain ⟨a, rfl, q⟩ := bx.fz
    refine .inl ⟨a, xs.map V.int, rfl, .inl (q.elim (fun q => .inl (hf _ _ q)) fun ⟨o, q⟩ => .inr ⟨o, hf _ _ q⟩), fun p hp => k _ _ (New.lst hf hp ?_)⟩
    rw [show cutV (xs.map V.int) lo hi = cutF (xs.map V.int) lo hi from rfl, cutF_map]
    exact FDenL_ints _
  · cases e
    obtain ⟨a, vs, rfl, q, d⟩ := bx.fz
    refine .inr (.inl ⟨a, vs, rfl, SqT.of (hf _ _ q), fun h => ?_, fun _ p hp => k _ _ (New.tup hf hp (d.cut lo hi))⟩)
    rw [d.length] at h
    rw [cutF_all h] at k
    exact k _ _ (New.old hf bx.fz)
  · split at e
    · rename_i hz
      cases e
      exact .inr (.inr ⟨_, bx.str, by rw [big_eq]; exact hz, k _ _ (New.str hf)⟩)
    · cases e
  · cases e
theorem sl_j {X : Cx} : SlR X (rSlJ X.mg) := by
  intro pins s σ H u v vl vu lo hi sl Q I r hs h1 h2 q
  exact (SlR.or sl_list (SlR.or sl_tupA sl_str)) pins s σ H u v vl vu lo hi sl Q I r hs h1 h2 (rSlJ_red q)
def dPN : VEnv → Ans (Option Int) := fun _ => .ok none
def dPS (f : DE) : VEnv → Ans (Option Int) := fun env => (f env).bind fun x => match x.ov with
  | .fz (.int i) => .ok (some i)
  | _ => .no
def PostO (M : Str → Option Value) (W : WX) (G Z : Hp) (σ : Sl) (env : VEnv) (T : List (V × Rv)) (Q : Option Int → Hp → Prop) (H : Hp) : Ans (Option Int) → Prop
  | .ok b => ∀ H', Same H H' → R M G Z H' σ env T → Q b H'
  | .ex c => ∀ C H', M c = some (.ref C) → Same H H' → R M G Z H' σ env T → W (.ref C) none σ H'
  | .no => False
def tO (M : Str → Option Value) (W : WX) (f : VEnv → Ans (Option Int)) : TO := fun σ H Q => ∃ G Z env T, R M G Z H σ env T ∧ PostO M W G Z σ env T Q H (f env)
abbrev JO (X : Cx) (W : WX) (e : Option Expr) (f : VEnv → Ans (Option Int)) : Prop := PO X e (tO X.mg W f)
theorem PO.imp {X : Cx} {e : Option Expr} {t t' : TO} (p : PO X e t) (h : ∀ σ H Q, t' σ H Q → t σ H Q) : PO X e t' := ⟨fun pins s σ H Q I q => p.run pins s σ H Q I (h σ H Q q)⟩
section
variable {M : Str → Option Value} {G Z H F : Hp} {σ : Sl} {env : VEnv} {T T2 : List (V × Rv)} {W : WX} {Q : VK} {C1 C2 : Cells}
theorem tO.bind {f : VEnv → Ans (Option Int)} {k : Option Int → Ans Rv} {Q1 : Option Int → Hp → Prop} (r : R M G Z H σ env T2) (hs : Sb T T2) (p : Post M W G Z σ env T Q H ((f env).bind k))
    (h : ∀ b H1, f env = .ok b → Same H H1 → R M G Z H1 σ env T2 → Post M W G Z σ env T Q H1 (k b) → Q1 b H1) : tO M W f σ H Q1 := by
  refine ⟨G, Z, env, T2, r, ?_⟩
  cases e : f env with
  | ok b =>
    rw [e] at p
    exact fun H1 s r => h b H1 e s r (p.later s)
  | ex c =>
    rw [e] at p
    exact fun C H1 m s r => p C H1 m s (r.sb hs)
  | no => rw [e] at p; exact p
theorem tE.bindO {f : DE} {k : Rv → Ans (Option Int)} {Q1 : VK} {Q : Option Int → Hp → Prop} (r : R M G Z H σ env T2) (hs : Sb T T2) (p : PostO M W G Z σ env T Q H ((f env).bind k))
    (h : ∀ rv v H1, f env = .ok rv → Same H H1 → R M G Z H1 σ env ((v, rv) :: T2) → PostO M W G Z σ env T Q H1 (k rv) → Q1 v H1) : tE M W f σ H Q1 := by
  refine tE.then r hs (fun rv v H1 e s r => h rv v H1 e s r ?_) (fun c C H1 e m s r => ?_) fun e => ?_
  · rw [e] at p
    cases e2 : k rv with
    | ok b => rw [show (Ans.ok rv).bind k = k rv from rfl, e2] at p; exact fun H' s' r' => p H' (s.trans s') r'
    | ex c => rw [show (Ans.ok rv).bind k = k rv from rfl, e2] at p; exact fun C H' m s' r' => p C H' m (s.trans s') r'
    | no => rw [show (Ans.ok rv).bind k = k rv from rfl, e2] at p; exact p
  · rw [e] at p; exact p C H1 m s r
  · rw [e] at p; exact p
end
def dSl (f : DE) (l h : VEnv → Ans (Option Int)) : DE := fun env => (f env).bind fun x => (l env).bind fun i => (h env).bind fun j => (Ans.of (opSl x.ov i j)).map .st
def opRev (x : OV) : Option OV := x.lst?.map fun xs => .ol xs.reverse
section
variable {X : Cx} {W : WX} {pos p2 : Pos} {a e : Expr} {lo hi : Option Expr} {f : DE} {l h : VEnv → Ans (Option Int)}
theorem jo_none : JO X W none dPN := PO.imp po_none fun σ H Q ⟨G, Z, env, T, r, p⟩ => p H (Same.refl _) r
theorem jo_some (he : JE X W e f) : JO X W (some e) (dPS f) := by
  refine PO.imp (po_some he) fun σ H Q ⟨G, Z, env, T, r, p⟩ => ?_
  refine tE.bindO r Sb.refl p fun x u H1 _ s1 ⟨F, C1, C2, r1⟩ p1 => ?_
  have hb := r1.bor List.mem_cons_self
  split at p1
  · rename_i i e
    rw [show (u, x).2.ov = x.ov from rfl, e] at hb
    exact ⟨i, hb.int, p1 H1 (Same.refl _) r1.r.pop⟩
  · exact p1.elim
theorem je_slice (he : JE X W e f) (hl : JO X W lo l) (hh : JO X W hi h) : JE X W (.Subscript e (.Slice lo hi none p2) pos) (dSl f l h) := by
  refine PE.imp (pe_slice sl_j he hl hh) fun σ H Q ⟨G, Z, env, T, r, p⟩ => ?_
  refine tE.bind r Sb.refl p fun x u H1 _ s1 r1 p1 => ?_
  refine tO.bind r1 Sb.refl.cons p1 fun i H2 _ s2 r2 p2 => ?_
  refine tO.bind r2 Sb.refl.cons p2 fun j H3 _ s3 ⟨F, C1, C2, r3⟩ p3 => ?_
  obtain ⟨o, e, k⟩ := r3.fin Sb.refl.cons p3
  exact ⟨F, x.ov, o, r3.fh, r3.bor List.mem_cons_self, e, k⟩
theorem je_rev {k : Nat} {p1 p3 : Pos} (he : JE X W e f) : JE X W (.Subscript e (.Slice none none (some (.UnaryOp .USub (.Constant (.int 1) k p1) p2)) p3) pos) (dUn opRev f) := by
  refine PE.imp (pe_revL he) fun σ H Q ⟨G, Z, env, T, r, p⟩ => ?_
  refine tE.bind r Sb.refl p fun x u H1 _ s1 ⟨F, C1, C2, r1⟩ p1 => ?_
  obtain ⟨o, e, k⟩ := r1.fin Sb.refl.cons p1
  obtain ⟨xs, e1, e2⟩ := Option.map_eq_some_iff.mp e
  subst e2
  obtain ⟨a, vs, e3, q, d⟩ := (r1.bor List.mem_cons_self).lst r1.fh e1
  exact ⟨a, vs, e3, SqL.of q, fun p hp => k _ _ (New.lst r1.fh hp d.reverse)⟩
end
/-! ### in -/
theorem PC.or {X : Cx} {op : CmpOp} {a b : Expr} {t t' : TE} (p : PC X op a b t) (p' : PC X op a b t') : PC X op a b (fun σ H Q => t σ H Q ∨ t' σ H Q) := ⟨fun pins s σ H Q I q => q.elim (p.run pins s σ H Q I) (p'.run pins s σ H Q I)⟩
theorem pc_of {X : Cx} {op : CmpOp} {a b : Expr} {r : R2} {ta tb : TE} (ho : OpR X (compareOp op) r) (ha : PE X a ta) (hb : PE X b tb) : PC X op a b (tOp r ta tb) :=
  ⟨fun pins s σ H Q I h => binT ha hb I h fun v u s2 x y H2 I2 rx ry q => ho pins s2 σ H2 x y v u Q I2 rx ry q⟩
def FV.lst? : FV → Option (List FV)
  | .lst xs => some xs
  | _ => none
def inSeq (x y : FV) : Option Bool := match y with
  | .lst ys => match x.toD, FV.toDL ys with
    | some d, some ds => if SeqAt.shaped d && SeqAt.shaped (.list ds) then some (ds.any fun z => PyData.eqv z d) else none
    | _, _ => none
  | .tup ys => if x.atom && ys.all FV.atom then (match x.toD, FV.toDL ys with
    | some d, some ds => some (ds.any fun z => PyData.eqv z d)
    | _, _ => none) else none
  | .tuz ys => if x.atom && ys.all FV.atom then (match x.toD, FV.toDL ys with
    | some d, some ds => some (ds.any fun z => PyData.eqv z d)
    | _, _ => none) else none
  | .str z => match x with
    | .str s => match s.cps.toList with
      | [c] => some (decide (c ∈ z.cps.toList))
      | _ => none
    | _ => none
  | _ => none
def opIn (neg : Bool) (x y : OV) : Option OV := if y.isD then (if FV.frozenKey x then (dGet y x.fv).map fun o => .fz (.bl (neg != o.isSome)) else none)
  else (inSeq x.fv y.fv).map fun b => .fz (.bl (neg != b))
section
variable {M : Str → Option Value} {K : PySem.W.Frag} {F H : Hp} {x y : FV} {u w : V}
theorem atom_eq {d e : PyData} (dx : FDen M F x u) (dy : FDen M F y w) (hx : x.atom = true) (hy : y.atom = true) (ex : x.toD = some d) (ey : y.toD = some e) : eqV w u = PyData.eqv e d := by
  cases x <;> first | (refine absurd hx ?_; simp [FV.atom]; done) | skip
  all_goals
    cases y <;> first | (refine absurd hy ?_; simp [FV.atom]; done) | skip
  all_goals
    (cases ex; cases ey; rw [show u = _ from dx, show w = _ from dy]; first | rfl | simp [eqV, PyData.eqv])
theorem atom_flat (dx : FDen M F x u) (hx : x.atom = true) : flatV u = true := by
  cases x <;> first | (refine absurd hx ?_; simp [FV.atom]; done) | skip
  all_goals (rw [show u = _ from dx]; rfl)
theorem atoms_any {d : PyData} (dx : FDen M F x u) (hx : x.atom = true) (ex : x.toD = some d) : ∀ {ys : List FV} {vs : List V} {ds : List PyData}, FDenL M F ys vs → ys.all FV.atom = true → FV.toDL ys = some ds → vs.all flatV = true ∧ inV u vs = ds.any fun z => PyData.eqv z d
  | [], _, _, h, _, e => by cases e; rw [show _ = [] from h]; exact ⟨rfl, rfl⟩
  | y :: ys, _, ds, ⟨v, ws, ev, dy, r⟩, ha, e => by
    rw [List.all_cons, Bool.and_eq_true] at ha
    unfold FV.toDL at e
    split at e
    · rename_i d1 ds1 e1 e2
      cases e
      obtain ⟨h1, h2⟩ := atoms_any dx hx ex r ha.2 e2
      rw [ev]
      refine ⟨by rw [List.all_cons, atom_flat dy ha.1, h1]; rfl, ?_⟩
      unfold inV at h2 ⊢
      rw [List.any_cons, List.any_cons, h2, atom_eq dx dy hx ha.1 ex e1]
    · cases e
end
section
variable {X : Cx} {W : WX} {pos : Pos} {a b : Expr} {f g : DE}
def rInJ (M : Str → Option Value) (neg : Bool) : R2 := fun u w H Q => ∃ F x y c, Same F H ∧ Bor M F H x u ∧ Bor M F H y w ∧ inSeq x.fv y.fv = some c ∧ Q (.bl (neg != c)) H
theorem rInJ_red {neg : Bool} {u w : V} {H : Hp} {Q : VK} (h : rInJ X.mg neg u w H Q) : (∃ d ds, Dp X.K H u d ∧ Dp X.K H w (.list ds) ∧ SeqAt.shaped d = true ∧ SeqAt.shaped (.list ds) = true ∧ Q (.bl (neg != ds.any fun z => PyData.eqv z d)) H) ∨
    (∃ p xs, w = .ref p ∧ (SqL X.K H p xs ∨ SqT X.K H p xs) ∧ flatV u = true ∧ xs.all flatV = true ∧ Q (.bl (neg != inV u xs)) H) ∨ ∃ (c : Nat) (z : Str), u = .str ⟨#[c]⟩ ∧ w = .str z ∧ Q (.bl (neg != decide (c ∈ z.cps.toList))) H := by
  obtain ⟨F, x, y, c, hf, bx, by', e, q⟩ := h
  have dx := bx.fden hf
  have dy := by'.fden hf
  revert e dy
  generalize y.fv = yf
  intro e dy
  unfold inSeq at e
  split at e
  · split at e
    · rename_i d ds e1 e2
      split at e
      · rename_i hs
        cases e
        rw [Bool.and_eq_true] at hs
        obtain ⟨p, vs, rfl, qq, dd⟩ := dy
        exact .inl ⟨d, ds, dx.dp e1, .lst (SqL.of qq) (dd.dp e2), hs.1, hs.2, q⟩
      · cases e
    · cases e
  · split at e
    · rename_i ha
      rw [Bool.and_eq_true] at ha
      split at e
      · rename_i d ds e1 e2
        cases e
        obtain ⟨p, vs, rfl, qq, dd⟩ := dy
        obtain ⟨h1, h2⟩ := atoms_any dx ha.1 e1 dd ha.2 e2
        exact .inr (.inl ⟨p, vs, rfl, .inr (SqT.of qq), atom_flat dx ha.1, h1, by rw [h2]; exact q⟩)
      · cases e
    · cases e
  · split at e
    · rename_i ha
      rw [Bool.and_eq_true] at ha
      split at e
      · rename_i d ds e1 e2
        cases e
        obtain ⟨p, vs, o, rfl, qq, _, _, dd⟩ := dy
        obtain ⟨h1, h2⟩ := atoms_any dx ha.1 e1 dd ha.2 e2
        exact .inr (.inl ⟨p, vs, rfl, .inr (.inl (.inr ⟨o, qq⟩)), atom_flat dx ha.1, h1, by rw [h2]; exact q⟩)
      · cases e
    · cases e
  · split at e
    · rename_i s ex
      split at e
      · rename_i c ec
        cases e
        rw [ex] at dx
        refine .inr (.inr ⟨c, _, ?_, dy, q⟩)
        rw [show u = .str s from dx]
        congr 1
        cases s with
        | mk cps =>
          have : cps = #[c] := by
            apply Array.toList_inj.mp
            exact ec
          rw [this]
      · cases e
    · cases e
  · cases e
theorem neg_ite (neg b : Bool) : (if neg = true then !b else b) = (neg != b) := by cases neg <;> cases b <;> rfl
theorem op_inJ (hu : X.A.units + 65 < cLine) : OpR X (compareOp .In) (rInJ X.mg false) := by
  intro pins s σ H u w v1 v2 Q I r1 r2 h
  rcases rInJ_red h with ⟨d, ds, h1, h2, h3, h4, q⟩ | ⟨p, xs, rfl, h1, h2, h3, q⟩ | ⟨c, z, h1, h2, q⟩
  · exact op_inD hu pins s σ H u w v1 v2 Q I r1 r2 ⟨d, ds, h1, h2, h3, h4, by simpa using q⟩
  · exact op_in_seq pins s σ H u _ v1 v2 Q I r1 r2 ⟨p, xs, rfl, h1, h2, h3, by rw [neg_ite]; exact q⟩
  · exact op_in_sign pins s σ H u w v1 v2 Q I r1 r2 ⟨c, z, h1, h2, by simpa using q⟩
theorem op_notInJ (hu : X.A.units + 65 < cLine) : OpR X (compareOp .NotIn) (rInJ X.mg true) := by
  intro pins s σ H u w v1 v2 Q I r1 r2 h
  rcases rInJ_red h with ⟨d, ds, h1, h2, h3, h4, q⟩ | ⟨p, xs, rfl, h1, h2, h3, q⟩ | ⟨c, z, h1, h2, q⟩
  · exact op_notInD hu pins s σ H u w v1 v2 Q I r1 r2 ⟨d, ds, h1, h2, h3, h4, by simpa using q⟩
  · exact op_notIn_seq pins s σ H u _ v1 v2 Q I r1 r2 ⟨p, xs, rfl, h1, h2, h3, by rw [neg_ite]; exact q⟩
  · exact op_notIn_sign pins s σ H u w v1 v2 Q I r1 r2 ⟨c, z, h1, h2, by simpa using q⟩
theorem frozenKey_fz {o : OV} (h : FV.frozenKey o = true) : o = .fz o.fv := by
  unfold FV.frozenKey at h
  split at h
  · rfl
  · cases h
def tInD (neg : Bool) (ty td : TE) : TE := fun σ H Q => ty σ H fun y H1 => td σ H1 fun x H2 => ∃ a o, x = .ref a ∧ DGet H2 a y o ∧ Q (.bl (neg != o.isSome)) H2
theorem in_red {neg : Bool} {σ : Sl} {H : Hp} {Q : VK} (h : tE X.mg W (dBin (opIn neg) f g) σ H Q) : tOp (rInJ X.mg neg) (tE X.mg W f) (tE X.mg W g) σ H Q ∨ tInD neg (tE X.mg W f) (tE X.mg W g) σ H Q := by
  obtain ⟨G, Z, env, T, r, p⟩ := h
  have left : (∀ y, g env = .ok y → y.ov.isD = false) → tOp (rInJ X.mg neg) (tE X.mg W f) (tE X.mg W g) σ H Q := by
    intro hd
    refine tE.bind r Sb.refl p fun x u H1 ef s1 r1 p1 => ?_
    refine tE.bind r1 Sb.refl.cons p1 fun y w H2 eg s2 ⟨F, C1, C2, r2⟩ p2 => ?_
    obtain ⟨o, e, k⟩ := r2.fin (Sb.refl.cons.cons) p2
    unfold opIn at e
    rw [hd y eg, if_neg Bool.false_ne_true] at e
    obtain ⟨c, e1, e2⟩ := Option.map_eq_some_iff.mp e
    subst e2
    exact ⟨F, x.ov, y.ov, c, r2.fh, r2.bor (List.mem_cons_of_mem _ List.mem_cons_self), r2.bor List.mem_cons_self, e1, k _ _ (New.bl r2.fh)⟩
  cases eg : g env with
  | ex c => exact .inl (left fun x e => by rw [eg] at e; cases e)
  | no => exact .inl (left fun x e => by rw [eg] at e; cases e)
  | ok y =>
    cases hd : y.ov.isD with
    | false => exact .inl (left fun x' e => by rw [eg] at e; cases e; exact hd)
    | true =>
      refine .inr ?_
      refine tE.bind r Sb.refl p fun x u H1 ef s1 r1 p1 => ?_
      refine tE.bind r1 Sb.refl.cons p1 fun y' w H2 eg' s2 ⟨F, C1, C2, r2⟩ p2 => ?_
      rw [eg] at eg'
      cases eg'
      obtain ⟨o, e, k⟩ := r2.fin (Sb.refl.cons.cons) p2
      unfold opIn at e
      rw [hd, if_pos rfl] at e
      split at e
      · rename_i hk
        obtain ⟨oo, e1, e2⟩ := Option.map_eq_some_iff.mp e
        subst e2
        have hx := r2.bor (List.mem_cons_of_mem _ (List.mem_cons_self (a := (u, x))))
        rw [show (u, x).2.ov = x.ov from rfl, frozenKey_fz hk] at hx
        obtain ⟨a, ov, h1, h2, h3, h4⟩ := dGet_den r2.fh (r2.bor List.mem_cons_self) hx.fz e1
        exact ⟨a, ov, h1, h2, by rw [h3]; exact k _ _ (New.bl r2.fh)⟩
      · cases e
theorem pc_inJ (hu : X.A.units + 65 < cLine) (ha : JE X W a f) (hb : JE X W b g) : PC X .In a b (tE X.mg W (dBin (opIn false) f g)) :=
  ⟨fun pins s σ H Q I q => (PC.or (pc_of (op_inJ hu) ha hb) (pc_din (Nat.lt_of_le_of_lt (by omega) hu) ha hb)).run pins s σ H Q I ((in_red q).imp id fun q => by simpa [tInD, tDIn] using q)⟩
theorem pc_notInJ (hu : X.A.units + 65 < cLine) (ha : JE X W a f) (hb : JE X W b g) : PC X .NotIn a b (tE X.mg W (dBin (opIn true) f g)) :=
  ⟨fun pins s σ H Q I q => (PC.or (pc_of (op_notInJ hu) ha hb) (pc_dnotin (Nat.lt_of_le_of_lt (by omega) hu) ha hb)).run pins s σ H Q I ((in_red q).imp id fun q => by simpa [tInD, tDNotIn] using q)⟩
theorem je_in (hu : X.A.units + 65 < cLine) (ha : JE X W a f) (hb : JE X W b g) (hm : behindInMarks .In b = false := by rfl) : JE X W (.Compare a [.In] [b] pos) (dBin (opIn false) f g) := pe_cmp (pc_inJ hu ha hb) hm
theorem je_notIn (hu : X.A.units + 65 < cLine) (ha : JE X W a f) (hb : JE X W b g) (hm : behindInMarks .NotIn b = false := by rfl) : JE X W (.Compare a [.NotIn] [b] pos) (dBin (opIn true) f g) := pe_cmp (pc_notInJ hu ha hb) hm
theorem jt_in (hu : X.A.units + 65 < cLine) (ha : JE X W a f) (hb : JE X W b g) (hm : behindInMarks .In b = false := by rfl) : JT X W (.Compare a [.In] [b] pos) (dTest (dBin (opIn false) f g)) := PT.imp (pt_cmp (pc_inJ hu ha hb) hm) fun _ _ _ h => tB_red h
theorem jt_notIn (hu : X.A.units + 65 < cLine) (ha : JE X W a f) (hb : JE X W b g) (hm : behindInMarks .NotIn b = false := by rfl) : JT X W (.Compare a [.NotIn] [b] pos) (dTest (dBin (opIn true) f g)) := PT.imp (pt_cmp (pc_notInJ hu ha hb) hm) fun _ _ _ h => tB_red h
end
end J
namespace J
open PySem PySem.Spec PyProof.Rows L2
/-! ### calls of what is built in -/
def rJn (M : Str → Option Value) (op : List OV → Option OV) : List V → Hp → VK → Prop := fun us H Q => ∃ F os o, Same F H ∧ Paired (fun x u => Bor M F H x u) os us ∧ op os = some o ∧ ∀ v H', New M F H H' o v → Q v H'
def dCallB (op : List OV → Option OV) (g : VEnv → Ans (List Rv)) : DE := fun env => (g env).bind fun rs => (Ans.of (op (rs.map Rv.ov))).map .st
theorem zip_bor {M : Str → Option Value} {F H : Hp} : ∀ {rs : List Rv} {vs : List V}, vs.length = rs.length → (∀ p ∈ vs.zip rs, Bor M F H p.2.ov p.1) → Paired (fun x u => Bor M F H x u) (rs.map Rv.ov) vs
  | [], vs, hl, _ => by
    obtain rfl : vs = [] := List.eq_nil_of_length_eq_zero hl
    exact .nil
  | r :: rs, [], hl, _ => by simp at hl
  | r :: rs, v :: vs, hl, h => .cons (h (v, r) (by simp)) (zip_bor (by simpa using hl) fun p hp => h p (by rw [List.zip_cons_cons]; exact List.mem_cons_of_mem _ hp))
section
variable {M : Str → Option Value} {G Z H F : Hp} {σ : Sl} {env : VEnv} {T T2 : List (V × Rv)} {W : WX} {Q : VK} {C1 C2 : Cells}
theorem RF.rjn {op : List OV → Option OV} {us : List V} {rs : List Rv} (r : RF M G Z H F σ env (us.zip rs ++ T2) C1 C2) (hl : us.length = rs.length) (hs : Sb T T2) (p : Post M W G Z σ env T Q H ((Ans.of (op (rs.map Rv.ov))).map .st)) : rJn M op us H Q := by
  obtain ⟨o, e, k⟩ := r.fin (T := T) (hs.trans ⟨us.zip rs, List.perm_append_comm⟩) p
  exact ⟨F, rs.map Rv.ov, o, r.fh, zip_bor hl fun p hp => r.bor (List.mem_append_left _ hp), e, k⟩
end
section
variable {X : Cx} {W : WX} {pos p : Pos} {x : Str} {e : Expr} {es : List Expr} {g : VEnv → Ans (List Rv)} {op : List OV → Option OV}
theorem callb_red {σ : Sl} {H : Hp} {Q : VK} (h : tE X.mg W (dCallB op g) σ H Q) : tA X.mg W g σ H fun vs H1 => rJn X.mg op vs H1 Q := by
  obtain ⟨G, Z, env, T, r, p⟩ := h
  exact tA.bind r Sb.refl p fun rs vs H1 _ hl s1 ⟨F, C1, C2, r1⟩ p1 => r1.rjn hl Sb.refl p1
theorem je_callB {id : String} (hc : CallR X (.builtin id) (rJn X.mg op)) (ha : JA X W (e :: es) g) (hm : X.mg x = none) (hv : bootBuiltins x = some (.builtin id)) (hg : Gl X x := by rfl) (hn : x ≠ "__name__" := by decide) (hdb : (x == ("__debug__" : Str)) = false := by decide)
    (he : starEach (e :: es) X.env = (false, eval e X.env) :: starEach es X.env := by rfl) (hpl : (backTo pos (starEach es X.env)).any (·.1) = false := by rfl) : JE X W (.Call (.Name x p) (e :: es) [] pos) (dCallB op g) :=
  PE.imp (pe_callB hc hg hm hv ha hn hdb he hpl) fun σ H Q h => callb_red h
theorem je_callTy {T : String} (hc : CallR X (.type T) (rJn X.mg op)) (ha : JA X W (e :: es) g) (hm : X.mg x = none) (hv : bootBuiltins x = some (.type T)) (hg : Gl X x := by rfl) (hn : x ≠ "__name__" := by decide) (hdb : (x == ("__debug__" : Str)) = false := by decide)
    (he : starEach (e :: es) X.env = (false, eval e X.env) :: starEach es X.env := by rfl) (hpl : (backTo pos (starEach es X.env)).any (·.1) = false := by rfl) : JE X W (.Call (.Name x p) (e :: es) [] pos) (dCallB op g) :=
  PE.imp (pe_callTy hc hg hm hv ha hn hdb he hpl) fun σ H Q h => callb_red h
end
theorem CallR.imp {X : Cx} {f : Value} {r r' : List V → Hp → VK → Prop} (h : CallR X f r) (k : ∀ us H Q, r' us H Q → r us H Q) : CallR X f r' := fun pins s σ H us vs Q I rs q => h pins s σ H us vs Q I rs (k us H Q q)
/-! ### what these answer -/
def opLen : List OV → Option OV
  | [.ol xs] => some (.fz (.int xs.length))
  | [.fz (.lst xs)] => some (.fz (.int xs.length))
  | [.fz (.tup xs)] => some (.fz (.int xs.length))
  | [.fz (.tuz xs)] => some (.fz (.int xs.length))
  | [.fz (.str z)] => if z.length ≤ BIG then some (.fz (.int z.length)) else none
  | [.dl xs] => some (.fz (.int xs.length))
  | [.tp xs] => some (.fz (.int xs.length))
  | [.oK xs] => some (.fz (.int xs.length))
  | [.fz (.dK xs)] => some (.fz (.int xs.length))
  | [.fz (.scr xs)] => some (.fz (.int xs.length))
  | _ => none
theorem FDenK.length {M : Str → Option Value} {F : Hp} : ∀ {xs : List (Key × FV)} {vs : List (Key × V)}, FDenK M F xs vs → vs.length = xs.length
  | [], _, e => by rw [show _ = [] from e]; rfl
  | (k, x) :: xs, _, ⟨v, ws, e, _, r⟩ => by rw [e, List.length_cons, List.length_cons, FDenK.length r]
theorem paired1 {α β : Type} {P : α → β → Prop} {x : α} {us : List β} (h : Paired P [x] us) : ∃ u, us = [u] ∧ P x u := by
  cases h with
  | cons a b => cases b; exact ⟨_, rfl, a⟩
theorem paired2 {α β : Type} {P : α → β → Prop} {x y : α} {us : List β} (h : Paired P [x, y] us) : ∃ u w, us = [u, w] ∧ P x u ∧ P y w := by
  cases h with
  | cons a b =>
    cases b with
    | cons b c => cases c; exact ⟨_, _, rfl, a, b⟩
theorem paired3 {α β : Type} {P : α → β → Prop} {x y z : α} {us : List β} (h : Paired P [x, y, z] us) : ∃ u w t, us = [u, w, t] ∧ P x u ∧ P y w ∧ P z t := by
  cases h with
  | cons a b =>
    cases b with
    | cons b c =>
      cases c with
      | cons c d => cases d; exact ⟨_, _, _, rfl, a, b, c⟩
section
variable {X : Cx}
theorem cj_len : CallR X (.builtin "len") (rJn X.mg opLen) := by
  refine CallR.imp (call_len_seq.or (call_len_str.or call_lenD)) fun us H Q ⟨F, os, o, hf, ps, e, k⟩ => ?_
  unfold opLen at e
  split at e <;> first | (cases e; done) | skip
  · cases e
    obtain ⟨u, rfl, b⟩ := paired1 ps
    obtain ⟨a, vs, rfl, q, d⟩ := b.lst hf rfl
    exact .inl ⟨a, vs, rfl, .inl (SqL.of q), by rw [d.length]; exact k _ _ (New.int hf)⟩
  · cases e
    obtain ⟨u, rfl, b⟩ := paired1 ps
    obtain ⟨a, vs, rfl, q, d⟩ := b.lst hf rfl
    exact .inl ⟨a, vs, rfl, .inl (SqL.of q), by rw [d.length]; exact k _ _ (New.int hf)⟩
  · cases e
    obtain ⟨u, rfl, b⟩ := paired1 ps
    obtain ⟨a, vs, rfl, q, d⟩ := FDen.tupT (K := X.K) b.fz (xs := _) rfl
    exact .inl ⟨a, vs, rfl, .inr (SqT.sameS hf q), by rw [d.length]; exact k _ _ (New.int hf)⟩
  · cases e
    obtain ⟨u, rfl, b⟩ := paired1 ps
    obtain ⟨a, vs, rfl, q, d⟩ := FDen.tupT (K := X.K) b.fz (xs := _) rfl
    exact .inl ⟨a, vs, rfl, .inr (SqT.sameS hf q), by rw [d.length]; exact k _ _ (New.int hf)⟩
  · split at e
    · rename_i hz
      cases e
      obtain ⟨u, rfl, b⟩ := paired1 ps
      exact .inr (.inl ⟨_, by rw [b.str], by rw [big_eq]; exact hz, k _ _ (New.int hf)⟩)
    · cases e
  · cases e
    obtain ⟨u, rfl, A, ⟨a, vs, L', rfl, d, q⟩, c⟩ := paired1 ps
    subst q
    exact .inl ⟨a, vs, rfl, .inl (SqL.of (c _ List.mem_cons_self)), by rw [d.length]; exact k _ _ (New.int hf)⟩
  · cases e
    obtain ⟨u, rfl, A, ⟨a, vs, rfl, q, d⟩, c⟩ := paired1 ps
    exact .inl ⟨a, vs, rfl, .inr (SqT.of (hf _ _ q)), by rw [d.length]; exact k _ _ (New.int hf)⟩
  · cases e
    obtain ⟨u, rfl, A, ⟨a, vs, rfl, d, q⟩, c⟩ := paired1 ps
    subst q
    exact .inr (.inr ⟨a, vs, rfl, c _ List.mem_cons_self, by rw [d.length]; exact k _ _ (New.int hf)⟩)
  · cases e
    obtain ⟨u, rfl, b⟩ := paired1 ps
    obtain ⟨a, vs, rfl, q, d⟩ := b.fz
    exact .inr (.inr ⟨a, vs, rfl, hf _ _ q, by rw [d.length]; exact k _ _ (New.int hf)⟩)
  · cases e
    rename_i xs
    obtain ⟨u, rfl, b⟩ := paired1 ps
    obtain ⟨a, rfl, q⟩ := b.fz
    refine .inl ⟨a, xs.map V.int, rfl, .inl (.inl (q.elim (fun q => .inl (hf _ _ q)) fun ⟨o, q⟩ => .inr ⟨o, hf _ _ q⟩)), ?_⟩
    rw [List.length_map]
    exact k _ _ (New.int hf)
end
/-- list(x) of a list, a tuple, a text -/
def FV.seq? : FV → Option (List FV)
  | .lst xs => some xs
  | .tup xs => some xs
  | .tuz xs => some xs
  | _ => none
def OV.seq? : OV → Option (List FV)
  | .ol xs => some xs
  | .fz x => x.seq?
  | _ => none
def opList : List OV → Option OV
  | [.fz (.str z)] => if z.length ≤ BIG then some (.ol (z.cps.toList.map fun c => .str ⟨#[c]⟩)) else none
  | [x] => x.seq?.map .ol
  | _ => none
def opTup : List OV → Option OV
  | [.fz (.str z)] => if z.length ≤ BIG then some (.fz (.tup (z.cps.toList.map fun c => .str ⟨#[c]⟩))) else none
  | [x] => x.lst?.map fun xs => .fz (.tup xs)
  | _ => none
/-- the same, the new tuple known to the object -/
def opTupZ : List OV → Option OV
  | [x] => x.lst?.map fun xs => .fz (.tuz xs)
  | _ => none
theorem Bor.seq {M : Str → Option Value} {K : PySem.W.Frag} {F H : Hp} {x : OV} {u : V} {xs : List FV} (hf : Same F H) (b : Bor M F H x u) (e : x.seq? = some xs) : ∃ a vs, u = .ref a ∧ (SqL K H a vs ∨ SqT K H a vs) ∧ FDenL M F xs vs := by
  unfold OV.seq? at e
  split at e
  · cases e
    obtain ⟨a, vs, rfl, q, d⟩ := b.lst hf rfl
    exact ⟨a, vs, rfl, .inl (SqL.of q), d⟩
  · rename_i x
    unfold FV.seq? at e
    split at e
    · cases e
      obtain ⟨a, vs, rfl, q, d⟩ := b.lst hf rfl
      exact ⟨a, vs, rfl, .inl (SqL.of q), d⟩
    · cases e
      obtain ⟨a, vs, rfl, q, d⟩ := FDen.tupT (K := K) b.fz (xs := _) rfl
      exact ⟨a, vs, rfl, .inr (SqT.sameS hf q), d⟩
    · cases e
      obtain ⟨a, vs, rfl, q, d⟩ := FDen.tupT (K := K) b.fz (xs := _) rfl
      exact ⟨a, vs, rfl, .inr (SqT.sameS hf q), d⟩
    · cases e
  · cases e
theorem signs_vals {z : Str} {acc : Array Value} (h : ItemsOf (SignAt z) acc z.cps.size) : Vals (z.cps.toList.map fun c => V.str ⟨#[c]⟩) acc.toList := by
  obtain ⟨h1, h2⟩ := h
  have key : ∀ (cs : List Nat) (us : List Value), us.length = cs.length → (∀ (i : Nat) (u : Value), us[i]? = some u → ∃ c t, cs[i]? = some c ∧ u = Value.str ⟨#[c]⟩ t) → Vals (cs.map fun c => V.str ⟨#[c]⟩) us := by
    intro cs
    induction cs with
    | nil =>
      intro us hl _
      obtain rfl : us = [] := List.eq_nil_of_length_eq_zero (by simpa using hl)
      exact .nil
    | cons c cs ih =>
      intro us hl h
      cases us with
      | nil => simp at hl
      | cons u us =>
        obtain ⟨c', t, e1, e2⟩ := h 0 u rfl
        have e1' : c = c' := by simpa using e1
        subst e1'
        exact .cons ⟨t, e2⟩ (ih us (by simpa using hl) fun i u e => h (i + 1) u (by simpa using e))
  refine key _ _ (by simpa using h1) fun i u e => ?_
  obtain ⟨c, t, e1, e2⟩ := h2 i u (by rw [← Array.getElem?_toList]; exact e)
  exact ⟨c, t, by rw [Array.getElem?_toList]; exact e1, e2⟩
section
variable {X : Cx}
theorem call_list_txt (hc : X.calm = true) : CallR X (.type "list") (fun xs H Q => ∃ z, xs = [.str z] ∧ z.length ≤ sizeLine ∧ ∀ l, H l = none → Q (.ref l) (upd H l (.lst (z.cps.toList.map fun c => V.str ⟨#[c]⟩)))) := by
  intro pins s σ H xs us Q I r h
  obtain ⟨z, rfl, hz, q⟩ := h
  obtain ⟨u, rfl, t, rfl⟩ := vals1 r
  refine call_list_str (I.ok.hd hc) z t (fun h' tk acc c' kp e hi => ?_) hz
  refine ⟨.ref s.heap.objs.size, _, I.laid (t' := tk) kp (Nat.le_refl _) (show ObjOk X.prog X.w _ h' _ (.lst _) from ⟨?_, acc.toList, c', signs_vals hi, by rw [Array.toArray_toList]; exact e⟩), rfl, q _ (I.hok.fresh (Nat.le_refl _))⟩
  rw [List.length_map, Array.length_toList]
  exact hz
theorem call_tuple_txt (hc : X.calm = true) : CallR X (.type "tuple") (fun xs H Q => ∃ z, xs = [.str z] ∧ z.length ≤ sizeLine ∧ ∀ l, H l = none → Q (.ref l) (upd H l (.tup (z.cps.toList.map fun c => V.str ⟨#[c]⟩)))) := by
  intro pins s σ H xs us Q I r h
  obtain ⟨z, rfl, hz, q⟩ := h
  obtain ⟨u, rfl, t, rfl⟩ := vals1 r
  refine call_tuple_str (I.ok.hd hc) z t (fun h' tk acc kp hi => ?_) hz
  have I1 : Inv X pins σ H { s with heap := h', toks := tk } := I.kept kp
  refine ⟨.ref h'.objs.size, _, I1.laid (t' := tk) (fun b o e => Heap.get?_push_of_some _ e) (Nat.le_refl _) (show ObjOk X.prog X.w _ _ _ (.tup _) from ⟨?_, acc.toList, signs_vals hi, by rw [Array.toArray_toList]; exact IsTup.new _ _⟩), rfl, q _ (I1.hok.fresh (Nat.le_refl _))⟩
  rw [List.length_map, Array.length_toList]
  exact hz
theorem call_tuple_z : CallR X (.type "tuple") (fun xs H Q => ∃ p ys, xs = [.ref p] ∧ SqL X.K H p ys ∧ ∀ l o, H l = none → o.cls = .type "tuple" → o.dict = none → Q (.ref l) (upd H l (.frz o (.tup ys)))) := by
  intro pins s σ H xs us Q I r h
  obtain ⟨p, ys, rfl, hq, q⟩ := h
  obtain ⟨u, rfl, rx⟩ := vals1 r
  cases rx
  obtain ⟨its, r', pl, hz⟩ := I.list hq
  have hlen := r'.length
  refine call_tuple_list pl.isList (fun h' kp => ?_) (by simp only [List.size_toArray] <;> omega)
  have I1 : Inv X pins σ H { s with heap := h' } := I.kept (t' := s.toks) kp
  have I2 : Inv X pins σ (upd H h'.objs.size (.frz { cls := .type "tuple", data := .seq its.toArray } (.tup ys))) { s with heap := h'.push { cls := .type "tuple", data := .seq its.toArray } } :=
    I1.laid (t' := s.toks) (fun b o e => Heap.get?_push_of_some _ e) (Nat.le_refl _) (show ObjOk X.prog X.w _ _ _ (.frz _ (.tup ys)) from ⟨Heap.get?_push_size _ rfl, hz, its, r', IsTup.new _ _⟩)
  exact ⟨.ref h'.objs.size, _, I2, rfl, q _ _ (I1.hok.fresh (Nat.le_refl _)) rfl rfl⟩
theorem FDenL_signs {M : Str → Option Value} {F : Hp} (cs : List Nat) : FDenL M F (cs.map fun c => FV.str ⟨#[c]⟩) (cs.map fun c => V.str ⟨#[c]⟩) := by
  have := FDenL_strs (M := M) (F := F) (cs.map fun c => (⟨#[c]⟩ : Str))
  rw [List.map_map, List.map_map] at this
  exact this
theorem cj_list (hc : X.calm = true) : CallR X (.type "list") (rJn X.mg opList) := by
  refine CallR.imp ((call_list_txt hc).or call_list_of) fun us H Q ⟨F, os, o, hf, ps, e, k⟩ => ?_
  unfold opList at e
  split at e
  · split at e
    · rename_i hz
      cases e
      obtain ⟨u, rfl, b⟩ := paired1 ps
      exact .inl ⟨_, by rw [b.str], by rw [big_eq]; exact hz, fun p hp => k _ _ (New.lst hf hp (FDenL_signs _))⟩
    · cases e
  · obtain ⟨u, rfl, b⟩ := paired1 ps
    obtain ⟨xs, e1, e2⟩ := Option.map_eq_some_iff.mp e
    subst e2
    obtain ⟨a, vs, rfl, q, d⟩ := b.seq (K := X.K) hf e1
    exact .inr ⟨a, vs, rfl, q, fun p hp => k _ _ (New.lst hf hp d)⟩
  · cases e
theorem cj_tup (hc : X.calm = true) : CallR X (.type "tuple") (rJn X.mg opTup) := by
  refine CallR.imp ((call_tuple_txt hc).or call_tuple_of) fun us H Q ⟨F, os, o, hf, ps, e, k⟩ => ?_
  unfold opTup at e
  split at e
  · split at e
    · rename_i hz
      cases e
      obtain ⟨u, rfl, b⟩ := paired1 ps
      exact .inl ⟨_, by rw [b.str], by rw [big_eq]; exact hz, fun p hp => k _ _ (New.tup hf hp (FDenL_signs _))⟩
    · cases e
  · obtain ⟨u, rfl, b⟩ := paired1 ps
    obtain ⟨xs, e1, e2⟩ := Option.map_eq_some_iff.mp e
    subst e2
    obtain ⟨a, vs, rfl, q, d⟩ := b.lst hf e1
    exact .inr ⟨a, vs, rfl, .inl ⟨SqL.of q, fun p hp => k _ _ (New.tup hf hp d)⟩⟩
  · cases e
theorem cj_tupZ : CallR X (.type "tuple") (rJn X.mg opTupZ) := by
  refine CallR.imp call_tuple_z fun us H Q ⟨F, os, o, hf, ps, e, k⟩ => ?_
  unfold opTupZ at e
  split at e
  · obtain ⟨u, rfl, b⟩ := paired1 ps
    obtain ⟨xs, e1, e2⟩ := Option.map_eq_some_iff.mp e
    subst e2
    obtain ⟨a, vs, rfl, q, d⟩ := b.lst hf e1
    exact ⟨a, vs, rfl, SqL.of q, fun p o hp h1 h2 => k _ _ (New.ice hf hp ⟨p, vs, o, rfl, upd_same, h1, h2, d.mono (same_upd (none_of_same hf hp))⟩)⟩
  · cases e
end
def ints? : List FV → Option (List Int)
  | [] => some []
  | .int i :: xs => (ints? xs).map (i :: ·)
  | _ => none
def bools? : List FV → Option (List Bool)
  | [] => some []
  | .bl i :: xs => (bools? xs).map (i :: ·)
  | _ => none
def strs? : List FV → Option (List Str)
  | [] => some []
  | .str i :: xs => (strs? xs).map (i :: ·)
  | _ => none
section
variable {M : Str → Option Value} {F : Hp}
theorem FDenL.ints? : ∀ {xs : List FV} {vs : List V} {ns : List Int}, FDenL M F xs vs → J.ints? xs = some ns → vs = ns.map V.int
  | [], _, _, d, e => by cases e; exact d
  | x :: xs, _, _, ⟨v, ws, ev, d, r⟩, e => by
    cases x <;> first | (cases e; done) | skip
    obtain ⟨ms, e1, e2⟩ := Option.map_eq_some_iff.mp e
    subst e2
    rw [ev, show v = _ from d, FDenL.ints? r e1]
    rfl
theorem FDenL.bools? : ∀ {xs : List FV} {vs : List V} {ns : List Bool}, FDenL M F xs vs → J.bools? xs = some ns → vs = ns.map V.bl
  | [], _, _, d, e => by cases e; exact d
  | x :: xs, _, _, ⟨v, ws, ev, d, r⟩, e => by
    cases x <;> first | (cases e; done) | skip
    obtain ⟨ms, e1, e2⟩ := Option.map_eq_some_iff.mp e
    subst e2
    rw [ev, show v = _ from d, FDenL.bools? r e1]
    rfl
theorem FDenL.strs? : ∀ {xs : List FV} {vs : List V} {ns : List Str}, FDenL M F xs vs → J.strs? xs = some ns → vs = ns.map V.str
  | [], _, _, d, e => by cases e; exact d
  | x :: xs, _, _, ⟨v, ws, ev, d, r⟩, e => by
    cases x <;> first | (cases e; done) | skip
    obtain ⟨ms, e1, e2⟩ := Option.map_eq_some_iff.mp e
    subst e2
    rw [ev, show v = _ from d, FDenL.strs? r e1]
    rfl
end
def opSum : List OV → Option OV
  | [x] => (x.lst?.bind ints?).map fun ns => .fz (.int ns.sum)
  | _ => none
def opAll : List OV → Option OV
  | [x] => (x.lst?.bind bools?).map fun ns => .fz (.bl (ns.all id))
  | _ => none
def opMinL : List OV → Option OV
  | [x] => (x.lst?.bind ints?).bind fun ns => ns.min?.map fun m => .fz (.int m)
  | _ => none
def opMin2 : List OV → Option OV
  | [.fz (.int i), .fz (.int j)] => some (.fz (.int (if j < i then j else i)))
  | _ => none
def opMax2 : List OV → Option OV
  | [.fz (.int i), .fz (.int j)] => some (.fz (.int (if j > i then j else i)))
  | _ => none
def min2 (i j : Int) : Int := if j < i then j else i
def opMin3 : List OV → Option OV
  | [.fz (.int i), .fz (.int j), .fz (.int k)] => some (.fz (.int (min2 (min2 i j) k)))
  | _ => none
def opOrd : List OV → Option OV
  | [.fz (.str z)] => match z.cps.toList with
    | [c] => some (.fz (.int (c : Nat)))
    | _ => none
  | _ => none
def opStr : List OV → Option OV
  | [.fz (.int i)] => if i.natAbs.log2 < 1920 then some (.fz (.str (toString i))) else none
  | _ => none
def opInt : List OV → Option OV
  | [.fz (.int i)] => some (.fz (.int i))
  | [.fz (.bl b)] => some (.fz (.int (if b then 1 else 0)))
  | [.fz (.str z)] => if z.length ≤ 640 then (PySem.intText? z).map fun n => .fz (.int n) else none
  | _ => none
section
variable {X : Cx}
theorem cj_sum (hc : X.calm = true) : CallR X (.builtin "sum") (rJn X.mg opSum) := by
  refine CallR.imp (cr_sum hc) fun us H Q ⟨F, os, o, hf, ps, e, k⟩ => ?_
  unfold opSum at e
  split at e
  · obtain ⟨u, rfl, b⟩ := paired1 ps
    obtain ⟨ns, e1, e2⟩ := Option.map_eq_some_iff.mp e
    subst e2
    obtain ⟨xs, e3, e4⟩ := Option.bind_eq_some_iff.mp e1
    obtain ⟨a, vs, rfl, q, d⟩ := b.lst hf e3
    rw [d.ints? e4] at q
    exact ⟨a, ns, rfl, SqL.of q, k _ _ (New.int hf)⟩
  · cases e
theorem cj_all (hc : X.calm = true) : CallR X (.builtin "all") (rJn X.mg opAll) := by
  refine CallR.imp (cr_all hc) fun us H Q ⟨F, os, o, hf, ps, e, k⟩ => ?_
  unfold opAll at e
  split at e
  · obtain ⟨u, rfl, b⟩ := paired1 ps
    obtain ⟨ns, e1, e2⟩ := Option.map_eq_some_iff.mp e
    subst e2
    obtain ⟨xs, e3, e4⟩ := Option.bind_eq_some_iff.mp e1
    obtain ⟨a, vs, rfl, q, d⟩ := b.lst hf e3
    rw [d.bools? e4] at q
    exact ⟨a, ns, rfl, SqL.of q, k _ _ (New.bl hf)⟩
  · cases e
theorem min_is {ns : List Int} {m n : Int} (e : ns.min? = some m) (h1 : n ∈ ns) (h2 : ∀ y, y ∈ ns → n ≤ y) : n = m := by
  have h := List.min?_eq_some_iff.mp e
  have := h2 m h.1
  have := h.2 n h1
  omega
theorem cj_minL (hc : X.calm = true) : CallR X (.builtin "min") (rJn X.mg opMinL) := by
  refine CallR.imp (cr_min hc) fun us H Q ⟨F, os, o, hf, ps, e, k⟩ => ?_
  unfold opMinL at e
  split at e
  · obtain ⟨u, rfl, b⟩ := paired1 ps
    obtain ⟨ns, e1, e2⟩ := Option.bind_eq_some_iff.mp e
    obtain ⟨m, e5, e6⟩ := Option.map_eq_some_iff.mp e2
    subst e6
    obtain ⟨xs, e3, e4⟩ := Option.bind_eq_some_iff.mp e1
    obtain ⟨a, vs, rfl, q, d⟩ := b.lst hf e3
    rw [d.ints? e4] at q
    refine ⟨a, ns, rfl, SqL.of q, ?_, fun n h1 h2 => by rw [min_is e5 h1 h2]; exact k _ _ (New.int hf)⟩
    cases ns with
    | nil => simp at e5
    | cons _ _ => simp
  · cases e
theorem cj_min2 (hc : X.calm = true) : CallR X (.builtin "min") (rJn X.mg opMin2) := by
  refine CallR.imp (call_min2 hc) fun us H Q ⟨F, os, o, hf, ps, e, k⟩ => ?_
  unfold opMin2 at e
  split at e
  · cases e
    obtain ⟨u, w, rfl, b, b2⟩ := paired2 ps
    exact ⟨_, _, by rw [b.int, b2.int], k _ _ (New.int hf)⟩
  · cases e
theorem cj_max2 (hc : X.calm = true) : CallR X (.builtin "max") (rJn X.mg opMax2) := by
  refine CallR.imp (call_max2 hc) fun us H Q ⟨F, os, o, hf, ps, e, k⟩ => ?_
  unfold opMax2 at e
  split at e
  · cases e
    obtain ⟨u, w, rfl, b, b2⟩ := paired2 ps
    exact ⟨_, _, by rw [b.int, b2.int], k _ _ (New.int hf)⟩
  · cases e
theorem cj_min3 (hc : X.calm = true) : CallR X (.builtin "min") (rJn X.mg opMin3) := by
  refine CallR.imp (call_min3Nu hc) fun us H Q ⟨F, os, o, hf, ps, e, k⟩ => ?_
  unfold opMin3 at e
  split at e
  · cases e
    rename_i i j l
    obtain ⟨u, w, t, rfl, b, b2, b3⟩ := paired3 ps
    refine ⟨_, _, _, _, by rw [b.int, b2.int, b3.int], ?_, k _ _ (New.int hf)⟩
    have h2 : ∀ i j : Int, nuMin2 (.int i) (.int j) = some (.int (min2 i j)) := fun i j => by
      show some (if decide (j < i) = true then V.int j else V.int i) = _
      unfold min2
      by_cases h : j < i
      · simp [h]
      · simp [h]
    unfold nuMin3
    rw [h2, Option.bind_some, h2]
  · cases e
theorem cj_ord : CallR X (.builtin "ord") (rJn X.mg opOrd) := by
  refine CallR.imp call_ord fun us H Q ⟨F, os, o, hf, ps, e, k⟩ => ?_
  unfold opOrd at e
  split at e
  · rename_i z
    split at e
    · rename_i c ec
      cases e
      obtain ⟨u, rfl, b⟩ := paired1 ps
      have hz : z.cps = #[c] := Array.toList_inj.mp ec
      refine ⟨z, by rw [b.str], by show z.cps.size = 1; rw [hz]; rfl, ?_⟩
      have hg : z.cps.getD 0 0 = c := by rw [hz]; rfl
      rw [hg]
      exact k _ _ (New.int hf)
    · cases e
  · cases e
theorem cj_str : CallR X (.type "str") (rJn X.mg opStr) := by
  refine CallR.imp call_str_int fun us H Q ⟨F, os, o, hf, ps, e, k⟩ => ?_
  unfold opStr at e
  split at e
  · split at e
    · rename_i hz
      cases e
      obtain ⟨u, rfl, b⟩ := paired1 ps
      exact ⟨_, by rw [b.int], hz, k _ _ (New.str hf)⟩
    · cases e
  · cases e
theorem cj_int : CallR X (.type "int") (rJn X.mg opInt) := by
  refine CallR.imp (call_int1.or call_int_str) fun us H Q ⟨F, os, o, hf, ps, e, k⟩ => ?_
  unfold opInt at e
  split at e
  · cases e
    obtain ⟨u, rfl, b⟩ := paired1 ps
    exact .inl (.inl ⟨_, by rw [b.int], k _ _ (New.int hf)⟩)
  · cases e
    obtain ⟨u, rfl, b⟩ := paired1 ps
    exact .inl (.inr ⟨_, by rw [b.bl], k _ _ (New.int hf)⟩)
  · split at e
    · rename_i hz
      obtain ⟨u, rfl, b⟩ := paired1 ps
      obtain ⟨n, e1, e2⟩ := Option.map_eq_some_iff.mp e
      subst e2
      exact .inr ⟨_, n, by rw [b.str], e1, hz, k _ _ (New.int hf)⟩
    · cases e
  · cases e
end
end J
namespace J
open PySem PySem.Spec PyProof.Rows L2
/-! ### values without changeable frozen parts -/
mutual
def FV.pure : FV → Bool
  | .non => true
  | .bl _ => true
  | .int _ => true
  | .str _ => true
  | .tup xs => FV.pureL xs
  | .tuz xs => FV.pureL xs
  | _ => false
def FV.pureL : List FV → Bool
  | [] => true
  | x :: xs => x.pure && FV.pureL xs
end
def FV.pureK {κ : Type} : List (κ × FV) → Bool
  | [] => true
  | (_, x) :: xs => x.pure && FV.pureK xs
mutual
def OV.clean : OV → Bool
  | .fz x => x.pure
  | .ol xs => FV.pureL xs
  | .oK kvs => FV.pureK kvs
  | .oT kvs => FV.pureK kvs
  | .dl xs => OV.cleanL xs
  | .dd kvs => OV.cleanK kvs
  | .tp xs => OV.cleanL xs
  | .ob _ fs => OV.cleanA fs
  | .oN _ => true
def OV.cleanL : List OV → Bool
  | [] => true
  | x :: xs => x.clean && OV.cleanL xs
def OV.cleanK : List (Key × OV) → Bool
  | [] => true
  | (_, x) :: xs => x.clean && OV.cleanK xs
def OV.cleanA : List (Str × OV) → Bool
  | [] => true
  | (_, x) :: xs => x.clean && OV.cleanA xs
end
def HO.mutable : HO → Bool
  | .lst _ => true
  | .dK _ => true
  | .dT _ => true
  | .ins _ _ _ => true
  | .ext _ => true
  | _ => false
/-- F and all that may change of H -/
def mutG (F H : Hp) : Hp := fun a => match F a with
  | some o => some o
  | none => match H a with
    | some o => if HO.mutable o then some o else none
    | none => none
/-- F' where it is new, else F -/
def backF (F H F' : Hp) : Hp := fun a => match H a with
  | some _ => F a
  | none => F' a
section
variable {M : Str → Option Value} {F H H' F' : Hp}
theorem mutG_F (F H : Hp) : Same F (mutG F H) := fun a o e => by unfold mutG; rw [e]
theorem mutG_H (hf : Same F H) : Same (mutG F H) H := fun a o e => by
  unfold mutG at e
  split at e
  · rename_i o' e'
    cases e
    exact hf _ _ e'
  · split at e
    · split at e
      · cases e; assumption
      · cases e
    · cases e
theorem mutG_in {a : Addr} {o : HO} (e : H a = some o) (m : HO.mutable o = true) (hf : Same F H) : mutG F H a = some o := by
  unfold mutG
  split
  · rename_i o' e'
    rw [hf _ _ e'] at e
    exact e
  · rw [e]
    simp [m]
theorem mutG_of {a : Addr} {o : HO} (e : mutG F H a = some o) (m : HO.mutable o = false) : F a = some o := by
  unfold mutG at e
  split at e
  · rename_i o' e'
    cases e
    exact e'
  · split at e
    · split at e
      · rename_i h
        cases e
        rw [m] at h
        cases h
      · cases e
    · cases e
theorem backF_in {a : Addr} {o : HO} (fn : ∀ a u, F' a = some u → mutG F H a = some u ∨ H a = none) (e : F' a = some o) (m : HO.mutable o = false) : backF F H F' a = some o := by
  unfold backF
  cases h : H a with
  | none => exact e
  | some z =>
    rcases fn a o e with q | q
    · exact mutG_of q m
    · rw [h] at q; cases q
mutual
theorem FDen.pure (k : ∀ a o, F' a = some o → HO.mutable o = false → F a = some o) : ∀ {x : FV} {v : V}, x.pure = true → FDen M F' x v → FDen M F x v
  | .non, _, _, d => d
  | .bl _, _, _, d => d
  | .int _, _, _, d => d
  | .str _, _, _, d => d
  | .tup xs, _, p, ⟨a, vs, e, q, r⟩ => ⟨a, vs, e, k _ _ q rfl, FDenL.pure k (by simpa [FV.pure] using p) r⟩
  | .tuz xs, _, p, ⟨a, vs, o, e, q, q1, q2, r⟩ => ⟨a, vs, o, e, k _ _ q rfl, q1, q2, FDenL.pure k (by simpa [FV.pure] using p) r⟩
  | .lst _, _, p, _ => by simp [FV.pure] at p
  | .dK _, _, p, _ => by simp [FV.pure] at p
  | .dT _, _, p, _ => by simp [FV.pure] at p
  | .ins _ _, _, p, _ => by simp [FV.pure] at p
  | .exc _, _, p, _ => by simp [FV.pure] at p
  | .scr _, _, p, _ => by simp [FV.pure] at p
  | .dN _, _, p, _ => by simp [FV.pure] at p
theorem FDenL.pure (k : ∀ a o, F' a = some o → HO.mutable o = false → F a = some o) : ∀ {xs : List FV} {vs : List V}, FV.pureL xs = true → FDenL M F' xs vs → FDenL M F xs vs
  | [], _, _, d => d
  | x :: xs, _, p, ⟨v, ws, e, d, r⟩ => by
    simp only [FV.pureL, Bool.and_eq_true] at p
    exact ⟨v, ws, e, FDen.pure k p.1 d, FDenL.pure k p.2 r⟩
end
theorem FDenK.pure (k : ∀ a o, F' a = some o → HO.mutable o = false → F a = some o) : ∀ {xs : List (Key × FV)} {vs : List (Key × V)}, FV.pureK xs = true → FDenK M F' xs vs → FDenK M F xs vs
  | [], _, _, d => d
  | (_, x) :: xs, _, p, ⟨v, ws, e, d, r⟩ => by
    simp only [FV.pureK, Bool.and_eq_true] at p
    exact ⟨v, ws, e, FDen.pure k p.1 d, FDenK.pure k p.2 r⟩
theorem FDenT.pure (k : ∀ a o, F' a = some o → HO.mutable o = false → F a = some o) : ∀ {xs : List (List Key × FV)} {vs : List (List Key × V)}, FV.pureK xs = true → FDenT M F' xs vs → FDenT M F xs vs
  | [], _, _, d => d
  | (_, x) :: xs, _, p, ⟨v, ws, e, d, r⟩ => by
    simp only [FV.pureK, Bool.and_eq_true] at p
    exact ⟨v, ws, e, FDen.pure k p.1 d, FDenT.pure k p.2 r⟩
mutual
theorem Own.clean (k : ∀ a o, F' a = some o → HO.mutable o = false → F a = some o) : ∀ {x : OV} {v : V} {L : Cells}, x.clean = true → Own M F' x v L → Own M F x v L
  | .fz _, _, _, p, ⟨d, e⟩ => ⟨d.pure k (by simpa [OV.clean] using p), e⟩
  | .ol _, _, _, p, ⟨a, vs, e, r, q⟩ => ⟨a, vs, e, r.pure k (by simpa [OV.clean] using p), q⟩
  | .oK _, _, _, p, ⟨a, vs, e, r, q⟩ => ⟨a, vs, e, r.pure k (by simpa [OV.clean] using p), q⟩
  | .oT _, _, _, p, ⟨a, vs, e, r, q⟩ => ⟨a, vs, e, r.pure k (by simpa [OV.clean] using p), q⟩
  | .dl _, _, _, p, ⟨a, vs, L', e, r, q⟩ => ⟨a, vs, L', e, OwnL.clean k (by simpa [OV.clean] using p) r, q⟩
  | .dd _, _, _, p, ⟨a, vs, L', e, r, q⟩ => ⟨a, vs, L', e, OwnK.clean k (by simpa [OV.clean] using p) r, q⟩
  | .tp _, _, _, p, ⟨a, vs, e, q, r⟩ => ⟨a, vs, e, k _ _ q rfl, OwnL.clean k (by simpa [OV.clean] using p) r⟩
  | .ob _ _, _, _, p, ⟨a, C, dx, ws, L', e, m, q, r, q2⟩ => ⟨a, C, dx, ws, L', e, m, k _ _ q rfl, OwnA.clean k (by simpa [OV.clean] using p) r, q2⟩
  | .oN _, _, _, _, ⟨a, kb, e, n, kt, q⟩ => ⟨a, kb, e, n, fun p hp => let ⟨c, x, y⟩ := kt p hp; ⟨c, k _ _ x rfl, k _ _ y rfl⟩, q⟩
theorem OwnL.clean (k : ∀ a o, F' a = some o → HO.mutable o = false → F a = some o) : ∀ {xs : List OV} {vs : List V} {L : Cells}, OV.cleanL xs = true → OwnL M F' xs vs L → OwnL M F xs vs L
  | [], _, _, _, d => d
  | _ :: _, _, _, p, ⟨v, ws, A, B, e, d, r, q⟩ => by
    simp only [OV.cleanL, Bool.and_eq_true] at p
    exact ⟨v, ws, A, B, e, Own.clean k p.1 d, OwnL.clean k p.2 r, q⟩
theorem OwnK.clean (k : ∀ a o, F' a = some o → HO.mutable o = false → F a = some o) : ∀ {xs : List (Key × OV)} {vs : List (Key × V)} {L : Cells}, OV.cleanK xs = true → OwnK M F' xs vs L → OwnK M F xs vs L
  | [], _, _, _, d => d
  | (_, _) :: _, _, _, p, ⟨v, ws, A, B, e, d, r, q⟩ => by
    simp only [OV.cleanK, Bool.and_eq_true] at p
    exact ⟨v, ws, A, B, e, Own.clean k p.1 d, OwnK.clean k p.2 r, q⟩
theorem OwnA.clean (k : ∀ a o, F' a = some o → HO.mutable o = false → F a = some o) : ∀ {xs : List (Str × OV)} {vs : List (Str × V)} {L : Cells}, OV.cleanA xs = true → OwnA M F' xs vs L → OwnA M F xs vs L
  | [], _, _, _, d => d
  | (_, _) :: _, _, _, p, ⟨v, ws, A, B, e, d, r, q⟩ => by
    simp only [OV.cleanA, Bool.and_eq_true] at p
    exact ⟨v, ws, A, B, e, Own.clean k p.1 d, OwnA.clean k p.2 r, q⟩
end
theorem New.clean {o : OV} {v : V} (hf : Same F H) (n : New M (mutG F H) H H' o v) (p : o.clean = true) : New M F H H' o v := by
  obtain ⟨F', L, ff, fn, fh, hh, ow, gd⟩ := n
  refine ⟨backF F H F', L, fun a u e => ?_, fun a u e => ?_, fun a u e => ?_, hh, ow.clean (fun a o e m => backF_in fn e m) p, ⟨gd.nd, gd.hp, fun q hq => ?_, gd.zr⟩⟩
  · unfold backF
    rw [hf _ _ e]
    exact e
  · unfold backF at e
    cases h : H a with
    | none => exact .inr rfl
    | some z => rw [h] at e; exact .inl e
  · unfold backF at e
    cases h : H a with
    | none => rw [h] at e; exact fh _ _ e
    | some z => rw [h] at e; exact hh _ _ (hf _ _ e)
  · unfold backF
    rw [gd.zr q hq]
    exact gd.fr q hq
mutual
theorem Own.mut (hf : Same F H) : ∀ {x : OV} {v : V} {L : Cells}, Own M F x v L → (∀ p ∈ L, H p.1 = some p.2) → FDen M (mutG F H) x.fv v
  | .fz _, _, _, ⟨d, e⟩, _ => d.mono (mutG_F F H)
  | .ol _, _, _, ⟨a, vs, e, r, q⟩, c => ⟨a, vs, e, mutG_in (by subst q; exact c _ List.mem_cons_self) rfl hf, r.mono (mutG_F F H)⟩
  | .oK _, _, _, ⟨a, vs, e, r, q⟩, c => ⟨a, vs, e, mutG_in (by subst q; exact c _ List.mem_cons_self) rfl hf, r.mono (mutG_F F H)⟩
  | .oT _, _, _, ⟨a, vs, e, r, q⟩, c => ⟨a, vs, e, mutG_in (by subst q; exact c _ List.mem_cons_self) rfl hf, r.mono (mutG_F F H)⟩
  | .dl _, _, _, ⟨a, vs, L', e, r, q⟩, c => by
    subst q
    exact ⟨a, vs, e, mutG_in (c _ List.mem_cons_self) rfl hf, OwnL.mut hf r fun p hp => c p (List.mem_cons_of_mem _ hp)⟩
  | .dd _, _, _, ⟨a, vs, L', e, r, q⟩, c => by
    subst q
    exact ⟨a, vs, e, mutG_in (c _ List.mem_cons_self) rfl hf, OwnK.mut hf r fun p hp => c p (List.mem_cons_of_mem _ hp)⟩
  | .tp _, _, _, ⟨a, vs, e, q, r⟩, c => ⟨a, vs, e, mutG_F F H _ _ q, OwnL.mut hf r c⟩
  | .ob _ _, _, _, ⟨a, C, dx, ws, L', e, m, q, r, q2⟩, c => by
    subst q2
    exact ⟨a, C, dx, ws, e, m, mutG_in (c _ List.mem_cons_self) rfl hf, mutG_F F H _ _ q, OwnA.mut hf r fun p hp => c p (List.mem_cons_of_mem _ hp)⟩
  | .oN _, _, _, ⟨a, kb, e, n, kt, q⟩, c => ⟨a, kb, e, mutG_in (by subst q; exact c _ List.mem_cons_self) rfl hf, n, kt.mono (mutG_F F H)⟩
theorem OwnL.mut (hf : Same F H) : ∀ {xs : List OV} {vs : List V} {L : Cells}, OwnL M F xs vs L → (∀ p ∈ L, H p.1 = some p.2) → FDenL M (mutG F H) (OV.fvL xs) vs
  | [], _, _, d, _ => d.1
  | _ :: _, _, _, ⟨v, ws, A, B, e, d, r, q⟩, c => by
    subst q
    exact ⟨v, ws, e, Own.mut hf d fun p hp => c p (List.mem_append_left _ hp), OwnL.mut hf r fun p hp => c p (List.mem_append_right _ hp)⟩
theorem OwnK.mut (hf : Same F H) : ∀ {xs : List (Key × OV)} {vs : List (Key × V)} {L : Cells}, OwnK M F xs vs L → (∀ p ∈ L, H p.1 = some p.2) → FDenK M (mutG F H) (OV.fvK xs) vs
  | [], _, _, d, _ => d.1
  | (_, _) :: _, _, _, ⟨v, ws, A, B, e, d, r, q⟩, c => by
    subst q
    exact ⟨v, ws, e, Own.mut hf d fun p hp => c p (List.mem_append_left _ hp), OwnK.mut hf r fun p hp => c p (List.mem_append_right _ hp)⟩
theorem OwnA.mut (hf : Same F H) : ∀ {xs : List (Str × OV)} {vs : List (Str × V)} {L : Cells}, OwnA M F xs vs L → (∀ p ∈ L, H p.1 = some p.2) → FDenA M (mutG F H) (OV.fvA xs) vs
  | [], _, _, d, _ => d.1
  | (_, _) :: _, _, _, ⟨v, ws, A, B, e, d, r, q⟩, c => by
    subst q
    exact ⟨v, ws, e, Own.mut hf d fun p hp => c p (List.mem_append_left _ hp), OwnA.mut hf r fun p hp => c p (List.mem_append_right _ hp)⟩
end
end
/-! ### one's own functions -/
abbrev FM := List FV → Ans OV
def spF (M : Str → Option Value) (n : Nat) (m : FM) : Sp := fun vs H Q E => ∃ G as, Same G H ∧ vs.length = n ∧ FDenL M G as vs ∧ match m as with
  | .ok o => ∀ v H', New M G H H' o v → Q v H'
  | .ex c => ∀ C H', M c = some (.ref C) → Same H H' → E (.ref C) none H'
  | .no => False
def Rv.isFz (r : Rv) : Bool := match r.ov with
  | .fz _ => true
  | _ => false
def dCall (m : FM) (g : VEnv → Ans (List Rv)) : DE := fun env => (g env).bind fun rs => (m (rs.map Rv.fv)).bind fun o => if rs.all Rv.isFz || o.clean then .ok (.st o) else .no
/-- a temporary frozen -/
def dFrz (f : DE) : DE := fun env => (f env).bind fun r => match r with
  | .st o => .ok (.st (.fz o.fv))
  | .bo o => .ok (.bo o)
theorem zip_den {M : Str → Option Value} {F H : Hp} (hf : Same F H) : ∀ {rs : List Rv} {vs : List V}, vs.length = rs.length → (∀ p ∈ vs.zip rs, Bor M F H p.2.ov p.1) → FDenL M (mutG F H) (rs.map Rv.fv) vs
  | [], vs, hl, _ => List.eq_nil_of_length_eq_zero hl
  | r :: rs, [], hl, _ => by simp at hl
  | r :: rs, v :: vs, hl, h => ⟨v, vs, rfl, (let ⟨A, d, c⟩ := h (v, r) (by simp); d.mut hf c), zip_den hf (by simpa using hl) fun p hp => h p (by rw [List.zip_cons_cons]; exact List.mem_cons_of_mem _ hp)⟩
theorem zip_denF {M : Str → Option Value} {F H : Hp} : ∀ {rs : List Rv} {vs : List V}, rs.all Rv.isFz = true → vs.length = rs.length → (∀ p ∈ vs.zip rs, Bor M F H p.2.ov p.1) → FDenL M F (rs.map Rv.fv) vs
  | [], vs, _, hl, _ => List.eq_nil_of_length_eq_zero hl
  | r :: rs, [], _, hl, _ => by simp at hl
  | r :: rs, v :: vs, ha, hl, h => by
    rw [List.all_cons, Bool.and_eq_true] at ha
    refine ⟨v, vs, rfl, ?_, zip_denF ha.2 (by simpa using hl) fun p hp => h p (by rw [List.zip_cons_cons]; exact List.mem_cons_of_mem _ hp)⟩
    have hb := h (v, r) (by simp)
    have h1 := ha.1
    unfold Rv.isFz at h1
    split at h1
    · rename_i x e
      rw [show (v, r).2.ov = r.ov from rfl, e] at hb
      show FDen M F r.ov.fv v
      rw [e]
      exact hb.fz
    · cases h1
def DL (g : VEnv → Ans (List Rv)) (n : Nat) : Prop := ∀ env rs, g env = .ok rs → rs.length = n
theorem dl_nil : DL dNil 0 := fun env rs h => by cases h; rfl
theorem dl_cons {f : DE} {g : VEnv → Ans (List Rv)} {n : Nat} (h : DL g n) : DL (dCons f g) (n + 1) := fun env rs e => by
  unfold dCons at e
  cases e1 : f env with
  | ok r =>
    rw [e1] at e
    cases e2 : g env with
    | ok rs' =>
      simp only [Ans.bind, e2] at e
      cases e
      rw [List.length_cons, h env rs' e2]
    | ex c => simp only [Ans.bind, e2] at e; cases e
    | no => simp only [Ans.bind, e2] at e; cases e
  | ex c => rw [e1] at e; cases e
  | no => rw [e1] at e; cases e
section
variable {M : Str → Option Value} {G Z H F : Hp} {σ : Sl} {env : VEnv} {T T2 : List (V × Rv)} {W : WX} {Q : VK} {C1 C2 : Cells}
theorem TmpOwn.freeze {v : V} {o : OV} {L : Cells} (t : TmpOwn M F H ((v, .st o) :: T) L) : ∃ A B, L = A ++ B ∧ Own M F o v A ∧ TmpOwn M F H T B := by
  cases t with
  | st d t => exact ⟨_, _, rfl, d, t⟩
theorem R.frz {v : V} {o : OV} (r : R M G Z H σ env ((v, .st o) :: T)) : R M G Z H σ env ((v, .st (.fz o.fv)) :: T) := by
  obtain ⟨F, C1, C2, r⟩ := r
  obtain ⟨A, B, e, d, t⟩ := r.tm.freeze
  subst e
  obtain ⟨i1, i2, i3, i4, i5, i6⟩ := r.ice (A := A) (Lr := C1 ++ B) (by rw [← List.append_assoc, ← List.append_assoc]; exact List.perm_append_comm.append_right _)
  exact ⟨updL F A, C1, B, i1, i2, i4, r.zh, r.ev.mono i3, .st (A := []) ⟨d.fden i3 i6, rfl⟩ (t.mono i3 (Same.refl _)), i5⟩
end
section
variable {X : Cx} {W : WX} {pos p : Pos} {x : Str} {e : Expr} {es : List Expr} {f : DE} {g : VEnv → Ans (List Rv)} {m : FM} {k : Nat} {fa : Addr} {fd : FuncData} {ps : List Str} {n : Nat}
theorem je_frz (h : JE X W e f) : JE X W e (dFrz f) := by
  refine PE.imp h fun σ H Q ⟨G, Z, env, T, r, p⟩ => ?_
  refine tE.bind r Sb.refl p fun x u H1 _ s1 r1 p1 => ?_
  cases x with
  | st o => exact p1 u H1 (Same.refl _) r1.frz
  | bo o => exact p1 u H1 (Same.refl _) r1
theorem call_red {vs : List V} {rs : List Rv} {G Z H : Hp} {σ : Sl} {env : VEnv} {T : List (V × Rv)} {Q : VK} (hl : vs.length = rs.length) (hn : rs.length = n) (r : R X.mg G Z H σ env (vs.zip rs ++ T))
    (p : Post X.mg W G Z σ env T Q H ((m (rs.map Rv.fv)).bind fun o => if rs.all Rv.isFz || o.clean then .ok (.st o) else .no)) : spF X.mg n m vs H Q fun cls d H => W cls d σ H := by
  obtain ⟨F, C1, C2, r⟩ := r
  have hb : ∀ p ∈ vs.zip rs, Bor X.mg F H p.2.ov p.1 := fun p hp => r.bor (List.mem_append_left _ hp)
  have hs : Sb T (vs.zip rs ++ T) := ⟨vs.zip rs, List.perm_append_comm⟩
  cases ha : rs.all Rv.isFz with
  | true =>
    refine ⟨F, rs.map Rv.fv, r.fh, by rw [hl, hn], zip_denF ha hl hb, ?_⟩
    cases em : m (rs.map Rv.fv) with
    | ok o =>
      rw [em] at p
      simp only [Ans.bind, ha, Bool.true_or, if_true] at p
      exact fun v H' nw => p v H' (let ⟨_, _, n⟩ := nw; n.hh) ((r.new nw).sb hs.both)
    | ex c =>
      rw [em] at p
      exact fun C H' mc s => p C H' mc s ((r.same s).r.sb hs)
    | no => rw [em] at p; exact p
  | false =>
    refine ⟨mutG F H, rs.map Rv.fv, mutG_H r.fh, by rw [hl, hn], zip_den r.fh hl hb, ?_⟩
    cases em : m (rs.map Rv.fv) with
    | ok o =>
      rw [em] at p
      simp only [Ans.bind, ha, Bool.false_or] at p
      split at p
      · rename_i hc
        exact fun v H' nw => p v H' (let ⟨_, _, n⟩ := nw; n.hh) ((r.new (nw.clean r.fh hc)).sb hs.both)
      · exact p.elim
    | ex c =>
      rw [em] at p
      exact fun C H' mc s => p C H' mc s ((r.same s).r.sb hs)
    | no => rw [em] at p; exact p
theorem je_call (tk : Takes X W) (F : FnOk X.prog X.w X.K X.mg X.base (L2.CX X.prog X.w) k fa fd ps (spF X.mg n m)) (hr : Room k X.A) (hm : X.mg x = some (.ref fa)) (hk : PySem.W.keepIn X.K (.ref fa) = true) (hb : Binds X.K fd ps []) (ha : JA X W (e :: es) g)
    (hl : (e :: es).length = n := by rfl) (hgl : DL g (e :: es).length := by repeat (first | exact dl_nil | refine dl_cons ?_)) (hg : Gl X x := by rfl) (hdb : (x == ("__debug__" : Str)) = false := by decide)
    (he : starEach (e :: es) X.env = (false, eval e X.env) :: starEach es X.env := by rfl) (hpl : (backTo pos (starEach es X.env)).any (·.1) = false := by rfl) : JE X W (.Call (.Name x p) (e :: es) [] pos) (dCall m g) := by
  refine PE.imp (pe_callS F hr hg hm hk hb (E := WE W) (passAt tk) ha hdb he hpl) fun σ H Q ⟨G, Z, env, T, r, p⟩ => ?_
  exact tA.bind r Sb.refl p fun rs vs H1 eg hlv s1 r1 p1 => call_red hlv (by rw [hgl env rs eg, hl]) r1 p1
end
end J
namespace J
open PySem PySem.Spec PyProof.Rows L2
/-! ### statements -/
def AllSt (T : List (V × Rv)) : Prop := ∀ p ∈ T, ∃ o, p.2 = .st o
def PostS (M : Str → Option Value) (W : WX) (G Z : Hp) (T : List (V × Rv)) (D : Ends) : Ans SO → Prop
  | .ok (.nx e) => ∀ σ' H', R M G Z H' σ' e T → D.nx σ' H'
  | .ok (.rt o e) => ∀ v σ' H', R M G Z H' σ' e ((v, .st o) :: T) → D.rt v H'
  | .ok (.bk e) => ∀ σ' H', R M G Z H' σ' e T → D.bk σ' H'
  | .ok (.ct e) => ∀ σ' H', R M G Z H' σ' e T → D.ct σ' H'
  | .ex c => ∀ C σ' H', M c = some (.ref C) → Same Z H' → W (.ref C) none σ' H'
  | .no => False
def sJ (M : Str → Option Value) (W : WX) (f : DS) : TS := fun D σ H => ∃ G Z env T, AllSt T ∧ R M G Z H σ env T ∧ PostS M W G Z T D (f env)
abbrev JS (X : Cx) (W : WX) (st : Stmt) (f : DS) : Prop := PS X st (sJ X.mg W f)
abbrev JSs (X : Cx) (W : WX) (st : List Stmt) (f : DS) : Prop := PSs X st (sJ X.mg W f)
theorem PS.imp {X : Cx} {st : Stmt} {t t' : TS} (p : PS X st t) (h : ∀ D σ H, t' D σ H → t D σ H) : PS X st t' := ⟨fun pins s σ H D I q => p.run pins s σ H D I (h D σ H q)⟩
theorem PSs.imp {X : Cx} {st : List Stmt} {t t' : TS} (p : PSs X st t) (h : ∀ D σ H, t' D σ H → t D σ H) : PSs X st t' := ⟨fun pins s σ H D I q => p.run pins s σ H D I (h D σ H q)⟩
def SO.bind (x : Ans SO) (f : VEnv → Ans SO) : Ans SO := match x with
  | .ok (.nx e) => f e
  | x => x
def dSkip : DS := fun env => .ok (.nx env)
def dSeq (f g : DS) : DS := fun env => SO.bind (f env) g
def dExpr (f : DE) : DS := fun env => (f env).bind fun _ => .ok (.nx env)
def dSet (i : Nat) (f : DE) : DS := fun env => (f env).bind fun r => match r with
  | .st o => .ok (.nx (env.set i (some o)))
  | .bo _ => .no
def dRet (f : DE) : DS := fun env => (f env).bind fun r => match r with
  | .st o => .ok (.rt o env)
  | .bo _ => .no
/-- return x: it is given away -/
def dRetV (i : Nat) : DS := fun env => match env[i]? with
  | some (some o) => .ok (.rt o (env.set i none))
  | _ => .no
def dRetN : DS := fun env => .ok (.rt (.fz .non) env)
def dIf (c : DT) (f g : DS) : DS := fun env => (c env).bind fun b => if b then f env else g env
def dBrk : DS := fun env => .ok (.bk env)
def dCt : DS := fun env => .ok (.ct env)
/-- ahead of a statement a slot is frozen -/
def dIce (i : Nat) (f : DS) : DS := fun env => match env[i]? with
  | some (some o) => f (env.set i (some (.fz o.fv)))
  | _ => f env
section
variable {M : Str → Option Value} {G Z H F : Hp} {σ : Sl} {env : VEnv} {T T2 : List (V × Rv)} {W : WX} {C1 C2 : Cells} {D : Ends}
theorem tE.bindS {f : DE} {k : Rv → Ans SO} {Q1 : VK} (r : R M G Z H σ env T) (p : PostS M W G Z T D ((f env).bind k))
    (h : ∀ rv v H1, f env = .ok rv → Same H H1 → R M G Z H1 σ env ((v, rv) :: T) → PostS M W G Z T D (k rv) → Q1 v H1) : tE M W f σ H Q1 := by
  refine tE.then r Sb.refl (fun rv v H1 e s r => h rv v H1 e s r ?_) (fun c C H1 e m s r => ?_) fun e => ?_
  · rw [e] at p; exact p
  · rw [e] at p
    obtain ⟨_, _, _, r⟩ := r
    exact p C σ H1 m r.zh
  · rw [e] at p; exact p
theorem tT.bindS {f : DT} {k : Bool → Ans SO} {Q1 : Bool → Hp → Prop} (r : R M G Z H σ env T) (p : PostS M W G Z T D ((f env).bind k))
    (h : ∀ b H1, f env = .ok b → Same H H1 → R M G Z H1 σ env T → PostS M W G Z T D (k b) → Q1 b H1) : tT M W f σ H Q1 := by
  refine ⟨G, Z, env, T, r, ?_⟩
  cases e : f env with
  | ok b =>
    rw [e] at p
    exact fun H1 s r => h b H1 e s r p
  | ex c =>
    rw [e] at p
    exact fun C H1 m s r => let ⟨_, _, _, r⟩ := r; p C σ H1 m r.zh
  | no => rw [e] at p; exact p
theorem PostS.seq {f : DS} {g : DS} (p : PostS M W G Z T D (SO.bind (f env) g)) (hT : AllSt T) : PostS M W G Z T { D with nx := sJ M W g D } (f env) := by
  unfold SO.bind at p
  split at p
  · rename_i e e1
    rw [e1]
    exact fun σ' H' r => ⟨G, Z, e, T, hT, r, p⟩
  · rename_i x hx
    cases e : f env with
    | ok s =>
      rw [e] at p hx
      cases s with
      | nx e2 => exact absurd rfl (hx e2)
      | rt o e2 => exact p
      | bk e2 => exact p
      | ct e2 => exact p
    | ex c => rw [e] at p; exact p
    | no => rw [e] at p; exact p
end
section
variable {X : Cx} {W : WX} {pos pos' : Pos} {e : Expr} {st : Stmt} {rest a b : List Stmt} {f g : DS} {fe : DE} {c : Expr} {fc : DT}
theorem jss_nil : JSs X W [] dSkip := PSs.imp pss_nil fun D σ H ⟨G, Z, env, T, hT, r, p⟩ => p σ H r
theorem jss_cons (h1 : JS X W st f) (h2 : JSs X W rest g) : JSs X W (st :: rest) (dSeq f g) :=
  PSs.imp (pss_cons h1 h2) fun D σ H ⟨G, Z, env, T, hT, r, p⟩ => ⟨G, Z, env, T, hT, r, p.seq hT⟩
theorem jss_one (h1 : JS X W st f) : JSs X W [st] f := pss_one h1
theorem js_pass : JS X W (.Pass pos) dSkip := PS.imp ps_pass fun D σ H ⟨G, Z, env, T, hT, r, p⟩ => p σ H r
theorem js_break : JS X W (.Break pos) dBrk := PS.imp ps_break fun D σ H ⟨G, Z, env, T, hT, r, p⟩ => p σ H r
theorem js_continue : JS X W (.Continue pos) dCt := PS.imp ps_continue fun D σ H ⟨G, Z, env, T, hT, r, p⟩ => p σ H r
theorem js_doc {x j} : JS X W (.Expr (.Constant (.str x) j pos) pos') dSkip := PS.imp ps_doc fun D σ H ⟨G, Z, env, T, hT, r, p⟩ => p σ H r
theorem js_expr (he : JE X W e fe) (hs : swapsWith e none pos.line X.env = pure false := by rfl) : JS X W (.Expr e pos) (dExpr fe) :=
  PS.imp (ps_expr he hs) fun D σ H ⟨G, Z, env, T, hT, r, p⟩ => tE.bindS r p fun rv v H1 _ s r1 p1 => p1 σ H1 r1.pop
theorem js_set (i : Nat) {x : Str} (hN : X.N.Nodup) (he : JE X W e fe) (hi : X.N[i]? = some x := by rfl) (hx : Loc X.env.scope x := by first | exact .inl rfl | exact .inr rfl) (hs : swapsWith e (some (.Name x pos')) pos.line X.env = pure false := by rfl)
    (hf : X.fn x = true ∨ X.env.scope.names.lookup x = some .local := by first | exact .inl rfl | exact .inr rfl) : JS X W (.Assign [.Name x pos'] e pos) (dSet i fe) :=
  PS.imp (ps_set hN hi hx he hs hf) fun D σ H ⟨G, Z, env, T, hT, r, p⟩ => tE.bindS r p fun rv v H1 _ s r1 p1 => by
    cases rv with
    | st o => exact p1 _ _ (r1.set i)
    | bo o => exact p1.elim
theorem js_ret (he : JE X W e fe) : JS X W (.Return (some e) pos) (dRet fe) :=
  PS.imp (ps_ret he) fun D σ H ⟨G, Z, env, T, hT, r, p⟩ => tE.bindS r p fun rv v H1 _ s r1 p1 => by
    cases rv with
    | st o => exact p1 v σ H1 r1
    | bo o => exact p1.elim
theorem js_retN : JS X W (.Return none pos) dRetN := PS.imp ps_retN fun D σ H ⟨G, Z, env, T, hT, ⟨F, C1, C2, r⟩, p⟩ => p .non σ H (r.new (New.non r.fh))
/-- a value taken out of its slot -/
theorem R.take {M : Str → Option Value} {G Z H : Hp} {σ : Sl} {env : VEnv} {T : List (V × Rv)} {o : OV} {i : Nat} (r : R M G Z H σ env T) (h : env[i]? = some (some o)) : ∃ v, σ[i]? = some (some v) ∧ R M G Z H σ (env.set i none) ((v, .st o) :: T) := by
  obtain ⟨F, C1, C2, r⟩ := r
  obtain ⟨v, A, Lr, h1, h2, h3, h4, h5⟩ := r.ev.repl h
  refine ⟨v, h1, F, Lr, A ++ C2, r.gf, r.fg, r.fh, r.zh, ?_, .st h2 r.tm, r.gd.perm ?_⟩
  · have h6 := h5 (some v)
    have e : σ.set i (some v) = σ := by
      apply List.ext_getElem?
      intro j
      by_cases hj : i = j
      · subst hj
        obtain ⟨hlt, _⟩ := List.getElem?_eq_some_iff.mp h1
        rw [List.getElem?_set_self hlt, h1]
      · rw [List.getElem?_set_ne hj]
    rw [e] at h6
    exact h6
  · refine (h3.append_right C2).trans ?_
    rw [← List.append_assoc]
    exact List.perm_append_comm.append_right _
theorem js_retV (i : Nat) {x : Str} (hN : X.N[i]? = some x := by rfl) (hv : Vis X.env.scope x := by first | exact Or.inl rfl | exact Or.inr (Or.inl rfl) | exact Or.inr (Or.inr rfl)) (hd : (x == ("__debug__" : Str)) = false := by decide)
    (hcd : (x == ("__classdict__" : Str)) = false := by decide) : JS X W (.Return (some (.Name x pos')) pos) (dRetV i) := by
  refine PS.imp (ps_ret (pe_var hN hv hd hcd)) fun D σ H ⟨G, Z, env, T, hT, r, p⟩ => ?_
  have hp : PostS X.mg W G Z T D (dRetV i env) := p
  unfold dRetV at hp
  split at hp
  · rename_i o e
    obtain ⟨v, h1, r1⟩ := r.take e
    exact ⟨v, h1, hp v σ H r1⟩
  · exact hp.elim
theorem js_if (hc : JT X W c fc) (ha : JSs X W a f) (hb : JSs X W b g) : JS X W (.If c a b pos) (dIf fc f g) := by
  refine PS.imp (ps_if hc ha hb) fun D σ H ⟨G, Z, env, T, hT, r, p⟩ => tT.bindS r p fun b H1 _ s r1 p1 => ?_
  cases b with
  | true =>
    rw [if_pos rfl] at p1 ⊢
    exact ⟨G, Z, env, T, hT, r1, p1⟩
  | false =>
    rw [if_neg Bool.false_ne_true] at p1 ⊢
    exact ⟨G, Z, env, T, hT, r1, p1⟩
theorem js_ice (i : Nat) (h : JS X W st f) : JS X W st (dIce i f) := by
  refine PS.imp h fun D σ H ⟨G, Z, env, T, hT, r, p⟩ => ?_
  have hp : PostS X.mg W G Z T D (dIce i f env) := p
  unfold dIce at hp
  split at hp
  · rename_i o e
    exact ⟨G, Z, _, T, hT, r.freeze e, hp⟩
  · exact ⟨G, Z, env, T, hT, r, hp⟩
theorem jss_ice (i : Nat) {st : List Stmt} (h : JSs X W st f) : JSs X W st (dIce i f) := by
  refine PSs.imp h fun D σ H ⟨G, Z, env, T, hT, r, p⟩ => ?_
  have hp : PostS X.mg W G Z T D (dIce i f env) := p
  unfold dIce at hp
  split at hp
  · rename_i o e
    exact ⟨G, Z, _, T, hT, r.freeze e, hp⟩
  · exact ⟨G, Z, env, T, hT, r, hp⟩
end
/-! ### a function's body -/
def startE (n : Nat) (as : List FV) : VEnv := as.map (fun x => some (.fz x)) ++ List.replicate (n - as.length) none
def runF (n : Nat) (f : DS) : FM := fun as => match f (startE n as) with
  | .ok (.nx _) => .ok (.fz .non)
  | .ok (.rt o _) => .ok o
  | .ex c => .ex c
  | _ => .no
theorem env_none {M : Str → Option Value} {F : Hp} : ∀ (σ : Sl) , EnvOwn M F σ (List.replicate σ.length none) []
  | [] => .nil
  | s :: σ => .skip (env_none σ)
theorem env_start {M : Str → Option Value} {F : Hp} (σ2 : Sl) : ∀ {as : List FV} {vs : List V}, FDenL M F as vs → EnvOwn M F (vs.map some ++ σ2) (as.map (fun x => some (.fz x)) ++ List.replicate σ2.length none) []
  | [], vs, d => by rw [show vs = [] from d]; exact env_none σ2
  | a :: as, _, ⟨v, ws, e, d, r⟩ => by
    rw [e]
    exact .cons (A := []) (B := []) ⟨d, rfl⟩ (env_start σ2 r)
theorem r_start {M : Str → Option Value} {G H : Hp} {as : List FV} {vs : List V} {N : List Str} (hg : Same G H) (d : FDenL M G as vs) : R M G H H (L2.start N vs) (startE N.length as) [] := by
  refine ⟨G, [], [], Same.refl _, fun a o e => .inl e, hg, Same.refl _, ?_, .nil, Good.nil⟩
  unfold L2.start startE
  rw [d.length]
  have := env_start (M := M) (F := G) (List.replicate (N.length - as.length) none) d
  rw [List.length_replicate] at this
  exact this
section
variable {P : Program} {w : World} {K : PySem.W.Frag} {mg : Str → Option Value} {base : Heap}
theorem run_post {M : Str → Option Value} {G H : Hp} {as : List FV} {n : Nat} {f : DS} {Q : VK} {E : XK}
    (p : match runF n f as with | .ok o => ∀ v H', New M G H H' o v → Q v H' | .ex c => ∀ C H', M c = some (.ref C) → Same H H' → E (.ref C) none H' | .no => False) :
    PostS M (fun cls d _ H => E cls d H) G H [] { nx := fun _ H' => Q .non H', rt := Q } (f (startE n as)) := by
  have key : ∀ {o : OV} {v : V} {σ' : Sl} {e : VEnv} {H' : Hp}, R M G H H' σ' e [(v, .st o)] → New M G H H' o v := by
    intro o v σ' e H' ⟨F, C1, C2, r⟩
    obtain ⟨A, B, e1, d, t⟩ := r.tm.freeze
    cases t
    rw [List.append_nil] at e1
    subst e1
    have g := r.gd.right
    exact ⟨F, C2, r.gf, r.fg, r.fh, r.zh, d, ⟨g.nd, g.hp, g.fr, g.zr⟩⟩
  unfold runF at p
  cases e : f (startE n as) with
  | ok s =>
    rw [e] at p
    cases s with
    | nx e2 =>
      intro σ' H' ⟨F, C1, C2, r⟩
      exact p .non H' (key (r.new (New.non r.fh)))
    | rt o e2 => exact fun v σ' H' r => p v H' (key r)
    | bk e2 => exact p.elim
    | ct e2 => exact p.elim
  | ex c =>
    rw [e] at p
    exact fun C σ' H' m s => p C H' m s
  | no => rw [e] at p; exact p
theorem ok_of {x qual : Str} {st : Stmt} {f : Addr} {fd : FuncData} {N ps : List Str} {k : Nat} {fD : DS} (F : Fun K x qual st f fd) (S : FnScope N ps (defScope st))
    (hb : ∀ (cdv : Value) (A : Around) (outer : List PySem.Env) (s : Shared) (H : Hp) (E : XK), Room k (A.deeper (envOfC qual (defScope st) s.heap.objs.size f cdv)) →
      Takes (cxOf (L2.CX P w) P w K mg base N qual (defScope st) f cdv A outer s H E) (fun cls d _ H => E cls d H) →
      PassesOwn (model P w) (A.deeper (envOfC qual (defScope st) s.heap.objs.size f cdv)) (envOfC qual (defScope st) s.heap.objs.size f cdv) (cxOf (L2.CX P w) P w K mg base N qual (defScope st) f cdv A outer s H E).xe →
      JSs (cxOf (L2.CX P w) P w K mg base N qual (defScope st) f cdv A outer s H E) (fun cls d _ H => E cls d H) (defBody st) fD) :
    FnOk P w K mg base (L2.CX P w) (k + 1) f fd ps (spF mg ps.length (runF N.length fD)) := by
  refine F.okX S (fun vs H Q E ⟨G, as, h1, h2, _⟩ => h2) fun cdv A outer s H vs Q E hr ⟨G, as, h1, h2, h3, p⟩ => ?_
  exact ⟨_, hb cdv A outer s H E hr (takes_of rfl rfl rfl rfl) (passes_of rfl), G, H, _, [], (fun _ h => nomatch h), r_start h1 h3, run_post p⟩
end
end J
namespace J
open PySem PySem.Spec PyProof.Rows L2
/-! ### zip of a list and a tuple -/
def ItzM (K : PySem.W.Frag) (a b : Addr) : It :=
  ⟨fun i H => ∃ (xs ys : List V) (x y : V), SqL K H a xs ∧ SqT K H b ys ∧ xs[i]? = some x ∧ ys[i]? = some y,
    fun i H v H' => ∃ T x y, v = .ref T ∧ H T = none ∧ H' = upd H T (.tup [x, y]) ∧ (∀ xs, SqL K H a xs → xs[i]? = some x) ∧ ∀ ys, SqT K H b ys → ys[i]? = some y,
    fun i H => ∃ xs ys : List V, SqL K H a xs ∧ SqT K H b ys ∧ (xs.length ≤ i ∨ ys.length ≤ i)⟩
def stM (a b z TI TO i1 i2 : Addr) (i : Nat) (h : Heap) : Prop := IsZip h z TI TO .none ∧ IsTupOf2 h TI (.ref i1) (.ref i2) ∧ (∃ x y, IsTupOf2 h TO x y) ∧ h.IsListIter i1 a i ∧ h.IsTupleIter i2 b i
theorem sepM {z TI TO i1 i2 a b : Addr} (D : ZipApart z TI TO i1 i2 a b) : ZipSep2 z TI TO i1 i2 [i1, a] [i2, b] where
  TIz := D.TIz
  TOz := D.TOz
  TITO := D.TITO
  TIi1 := D.TIi1
  mem1 := by simp
  zf1 := by simp [D.i1z.symm, D.l1z.symm]
  Tf1 := by simp [D.TOi1, D.l1TO.symm]
  TIi2 := D.TIi2
  mem2 := by simp
  zf2 := by simp [D.i2z.symm, D.l2z.symm]
  Tf2 := by simp [D.TOi2, D.l2TO.symm]
  sep1_2 := by simp [D.i12, D.l2i1.symm]
  sep2_1 := by simp [D.i12.symm, D.l1i2.symm]
theorem in5 {c z TI TO i1 i2 : Addr} (h : c ∈ [z, TI, TO, i1, i2]) : c = z ∨ c = TI ∨ c = TO ∨ c = i1 ∨ c = i2 := by simpa using h
theorem listEnd {prog : Program} {w : World} {A : Around} (hh : A.handled = none) (it l : Addr) (items : Array Value) (i : Nat) (hx : items[i]? = none) : Draws prog w A it [it, l] i (fun _ _ => False) (fun j h => j = i ∧ h.IsListIter it l i ∧ h.IsList l items) where
  live := fun _ _ st => let ⟨o, ho, _⟩ := st.2.1; ⟨o, ho⟩
  frame := fun _ _ _ st hk => ⟨st.1, st.2.1.at fun o e => hk it (by simp) o e, st.2.2.at fun o e => hk l (by simp) o e⟩
  item := fun j s Q E hi st _ => absurd st.1 (Nat.ne_of_lt hi)
  done := fun s Q E st hE => wpAny_nextOf_list_end hh st.2.1 st.2.2 hx hE
theorem tupleEnd {prog : Program} {w : World} {A : Around} (hh : A.handled = none) (it l : Addr) (items : Array Value) (i : Nat) (hx : items[i]? = none) : Draws prog w A it [it, l] i (fun _ _ => False) (fun j h => j = i ∧ h.IsTupleIter it l i ∧ h.IsTuple l items) where
  live := fun _ _ st => let ⟨o, ho, _⟩ := st.2.1; ⟨o, ho⟩
  frame := fun _ _ _ st hk => ⟨st.1, st.2.1.at fun o e => hk it (by simp) o e, st.2.2.at fun o e => hk l (by simp) o e⟩
  item := fun j s Q E hi st _ => absurd st.1 (Nat.ne_of_lt hi)
  done := fun s Q E st hE => wpAny_nextOf_tuple_end hh st.2.1 st.2.2 hx hE
/-- the two sequences as the model holds them: sizes, and what stands at each place -/
theorem bothM {X : Cx} {pins : List (Addr × Obj)} {σ : L2.St} {H : Hp} {s : Shared} {a b : Addr} {xs ys : List V} (I : Inv X pins σ H s) (hx : SqL X.K H a xs) (hy : SqT X.K H b ys) :
    ∃ As Bs : Array Value, s.heap.IsList a As ∧ s.heap.IsTuple b Bs ∧ As.size = xs.length ∧ Bs.size = ys.length ∧ Vals xs As.toList ∧ Vals ys Bs.toList := by
  have ⟨as, ra, la, _⟩ := I.list hx
  have ⟨bs, rb, lb, _⟩ := I.tuple hy
  exact ⟨as.toArray, bs.toArray, la.isList, lb, ra.length.symm, rb.length.symm, ra, rb⟩
theorem atM {xs : List V} {As : Array Value} {i : Nat} {x : V} (r : Vals xs As.toList) (h : xs[i]? = some x) {u : Value} (e : As[i]? = some u) : RelV x u := by
  have ⟨v, ev, rv⟩ := r.get h
  rw [← Array.getElem?_toList, ev] at e
  exact Option.some.inj e ▸ rv
theorem ltM {xs : List V} {As : Array Value} {i : Nat} {x : V} (z : As.size = xs.length) (h : xs[i]? = some x) : i < As.size := z ▸ (List.getElem?_eq_some_iff.mp h).1
/-- an iterator at its place i: told as one with just so many turns where it has run past its end -/
theorem tailL {P : Program} {w : World} {A : Around} (calm : A.handled = none) (it l : Addr) (ne : l ≠ it) (As : Array Value) (i : Nat) (s : Shared) (h : s.heap.IsListIter it l i) (hl : s.heap.IsList l As) :
    ∃ n, ∃ Pf : Nat → Value → Prop, ∃ St : Nat → Heap → Prop, Draws P w A it [it, l] n Pf St ∧ St i s.heap ∧ i ≤ n ∧ (As.size ≤ i → i = n) := by
  rcases Nat.lt_or_ge As.size i with g | g
  · exact ⟨i, _, _, listEnd calm it l As i (Array.getElem?_eq_none (Nat.le_of_lt g)), ⟨rfl, h, hl⟩, Nat.le_refl _, fun _ => rfl⟩
  · exact ⟨As.size, _, _, Draws.list calm it l ne As, ⟨h, hl⟩, g, Nat.le_antisymm g⟩
theorem tailT {P : Program} {w : World} {A : Around} (calm : A.handled = none) (it l : Addr) (ne : l ≠ it) (As : Array Value) (i : Nat) (s : Shared) (h : s.heap.IsTupleIter it l i) (hl : s.heap.IsTuple l As) :
    ∃ n, ∃ Pf : Nat → Value → Prop, ∃ St : Nat → Heap → Prop, Draws P w A it [it, l] n Pf St ∧ St i s.heap ∧ i ≤ n ∧ (As.size ≤ i → i = n) := by
  rcases Nat.lt_or_ge As.size i with g | g
  · exact ⟨i, _, _, tupleEnd calm it l As i (Array.getElem?_eq_none (Nat.le_of_lt g)), ⟨rfl, h, hl⟩, Nat.le_refl _, fun _ => rfl⟩
  · exact ⟨As.size, _, _, Draws.tuple calm it l ne As, ⟨h, hl⟩, g, Nat.le_antisymm g⟩
theorem turnM {P : Program} {w : World} {K : PySem.W.Frag} {elts : List Expr} {kk : Nat} {tpos : Pos} {a b z TI TO i1 i2 : Addr} (D : ZipApart z TI TO i1 i2 a b) :
    Turn P w K (.Tuple elts kk tpos) (ItzM K a b) [z, TI, TO, i1, i2] z (stM a b z TI TO i1 i2) where
  mem := List.mem_cons_self
  obj := fun i h ⟨hz, hTI, ⟨_, _, hTO⟩, ⟨o1, e1, _, d1⟩, ⟨o2, e2, _, d2⟩⟩ c hc => by
    rcases in5 hc with rfl | rfl | rfl | rfl | rfl
    · exact ⟨_, hz, nofun⟩
    · exact ⟨_, hTI, nofun⟩
    · exact ⟨_, hTO, nofun⟩
    · exact ⟨o1, e1, fun _ q => by rw [d1] at q; cases q⟩
    · exact ⟨o2, e2, fun _ q => by rw [d2] at q; cases q⟩
  keep := fun i h h' ⟨hz, hTI, ⟨x, y, hTO⟩, h1, h2⟩ k =>
    ⟨k _ (by simp) _ hz, k _ (by simp) _ hTI, ⟨x, y, k _ (by simp) _ hTO⟩, h1.at fun o q => k i1 (by simp) o q, h2.at fun o q => k i2 (by simp) o q⟩
  item := by
    rintro X rfl rfl rfl hc i pins s σ H E I hf ⟨hz, hTI, ⟨x0, y0, hTO⟩, ⟨p1, g1, r1⟩, ⟨p2, g2, r2⟩⟩ ⟨xs, ys, x, y, hqx, hqy, hx, hy⟩
    have ⟨As, Bs, la, lb, za, zb, ra, rb⟩ := bothM I hqx hqy
    have calm : X.A.in1.handled = none := I.ok.hd hc
    have inz := Heap.lt_size hz
    have inT := I.hok.fresh (Nat.le_refl s.heap.objs.size)
    refine wpAny_pyNext_zipD2_item (sepM D) (Draws.list calm i1 a D.l1i1 As) (Draws.tuple calm i2 b D.l2i2 Bs) hz hTI hTO ⟨⟨p1, g1, r1⟩, la⟩ ⟨⟨p2, g2, r2⟩, lb⟩ (ltM za hx) (ltM zb hy) fun u v h' tk eu ev hz' hTO' st1 st2 hT hsz hk => ?_
    refine ⟨_, rfl, wpAny_letOwnedTupleGo_zip (s := { s with heap := h', toks := tk }) hz' fun h'' hz'' sb => ?_⟩
    have pair : ObjOk X.prog X.w (upd H s.heap.objs.size (.tup [x, y])) h'' s.heap.objs.size (.tup [x, y]) :=
      ⟨(by decide : 2 ≤ sizeLine), [u, v], .cons (atM ra hx eu) (.cons (atM rb hy ev) .nil), ⟨_, (sb.2 _ (Nat.ne_of_gt inz)).trans hT, rfl, _, rfl⟩⟩
    -- outside the five cells of the zip nothing moved
    have old : ∀ c o, c ∉ [z, TI, TO, i1, i2] → s.heap.get? c = some o → h''.get? c = some o := fun c o hb q => by
      simp only [List.mem_cons, List.not_mem_nil, or_false, not_or] at hb
      rw [sb.2 c hb.1]
      exact hk c o hb.1 hb.2.2.1 hb.2.2.2.1 hb.2.2.2.2 q
    have I1 := I.turnedNew (t' := tk) (ch := [z, TI, TO, i1, i2]) old hf (Nat.le_refl _) pair
    refine ⟨.ref s.heap.objs.size, _, I1, rfl, ⟨_, x, y, rfl, inT, rfl, fun l hl => ?_, fun l hl => ?_⟩, ⟨hz'', ?_, ⟨u, v, ?_⟩, ?_, ?_⟩, fun c hcm => ?_⟩
    · rwa [I.list_inj hl hqx]
    · rwa [I.tuple_inj hl hqy]
    · rw [IsTupOf2, sb.2 _ D.TIz]
      exact hk _ _ D.TIz D.TITO D.TIi1 D.TIi2 hTI
    · rw [IsTupOf2, sb.2 _ D.TOz]
      exact hTO'
    · exact st1.1.at fun o q => by rwa [sb.2 _ D.i1z]
    · exact st2.1.at fun o q => by rwa [sb.2 _ D.i2z]
    · have lt : c < s.heap.objs.size := by
        rcases in5 hcm with rfl | rfl | rfl | rfl | rfl <;> apply Heap.lt_size <;> assumption
      exact (upd_ne (Nat.ne_of_lt lt)).trans (hf c hcm).1
  done := by
    rintro X rfl rfl rfl hc i pins s σ H E I hf ⟨hz, hTI, ⟨_, _, hTO⟩, h1, h2⟩ ⟨xs, ys, hqx, hqy, last⟩
    have ⟨As, Bs, la, lb, za, zb, _⟩ := bothM I hqx hqy
    have calm : X.A.in1.handled = none := I.ok.hd hc
    rw [← za, ← zb] at last
    have after : ∀ h' tk, (∀ c o, c ≠ z → c ≠ TO → c ≠ i1 → c ≠ i2 → s.heap.get? c = some o → h'.get? c = some o) → (none : Option Value) = none ∧ Inv X pins σ H { s with heap := h', toks := tk } := fun h' tk hk => by
      refine ⟨rfl, I.turnedL (t' := tk) (ch := [z, TI, TO, i1, i2]) (fun c o hb q => ?_) hf⟩
      simp only [List.mem_cons, List.not_mem_nil, or_false, not_or] at hb
      exact hk c o hb.1 hb.2.2.1 hb.2.2.2.1 hb.2.2.2.2 q
    have ⟨_, _, _, D1, s1, l1, e1⟩ := tailL (P := X.prog) (w := X.w) calm i1 a D.l1i1 As i s h1 la
    have ⟨_, _, _, D2, s2, l2, e2⟩ := tailT (P := X.prog) (w := X.w) calm i2 b D.l2i2 Bs i s h2 lb
    exact wpAny_pyNext_zipD2_end (sepM D) D1 D2 hz hTI hTO s1 s2 l1 l2 (last.imp e1 e2) after
  self := fun A i s Q E st h => wpAny_pyIter_zip st.1 h
def iZipM (K : PySem.W.Frag) (ta : TA) : TI := fun σ H R => ta σ H fun vs H1 => ∃ a b xs ys, vs = [.ref a, .ref b] ∧ SqL K H1 a xs ∧ SqT K H1 b ys ∧ R (ItzM K a b) H1
theorem pi_zipM {X : Cx} {e e2 : Expr} {ta : TA} {p pos tpos : Pos} {elts : List Expr} {kk : Nat} (hg : Gl X "zip") (hm : X.mg "zip" = none) (ha : PA X [e, e2] ta)
    (hs : starEach [e, e2] X.env = (false, eval e X.env) :: starEach [e2] X.env) (hpl : (backTo pos (starEach [e2] X.env)).any (·.1) = false) :
    PI X (.Tuple elts kk tpos) (.Call (.Name "zip" p) [e, e2] [] pos) (iZipM X.K ta) := by
  constructor
  intro pins s σ H R I h
  refine Call_ (ld_blt I hg hm PyProof.Rows.boot_zip (PyProof.Rows.callWith_type1 (thn (ha.run pos pins s σ H _ I h) ?_) hs hpl))
  rintro us t ⟨_, H1, I1, r1, a, b, xs, ys, rfl, hqx, hqy, q⟩
  obtain _ | ⟨⟨⟩, _ | ⟨⟨⟩, ⟨⟩⟩⟩ := r1
  have ⟨As, Bs, la, lb, _⟩ := bothM I1 hqx hqy
  have ⟨_, ea, _⟩ := id la
  have ⟨_, eb, _⟩ := id lb
  refine zip_begins2 (begins_list a As) (begins_tuple b Bs) la lb fun h' hz hTI hTO g1 g2 hsz hk => wpAny_pyIter_zip hz ?_
  let n := t.heap.objs.size
  refine ⟨n + 4, [n + 4, n + 2, n + 3, n, n + 1], _, _, H1, rfl, I1.kept (t' := t.toks) hk, turnM (PySem.W.ktu_apart n a b (Heap.lt_size ea) (Heap.lt_size eb)), ⟨hz, hTI, ⟨_, _, hTO⟩, ⟨_, g1, rfl, rfl⟩, ⟨_, g2, rfl, rfl⟩⟩, fun c hcm => ?_, q⟩
  have up : n ≤ c := by rcases in5 hcm with rfl | rfl | rfl | rfl | rfl <;> omega
  exact I1.fpOk up (I1.hok.fresh up)
end J
namespace J
open PySem PySem.Spec PyProof.Rows L2 RZ
/-! ### what is walked -/
def WalkJ (M : Str → Option Value) (J : It) (kept : List (V × Rv)) (items : List FV) : Prop :=
  ∀ F H i, Same F H → (∀ p ∈ kept, Bor M F H p.2.ov p.1) → (∀ x, items[i]? = some x → J.go i H ∧ ∀ v H', J.yld i H v H' → New M F H H' (.fz x) v) ∧ (items.length ≤ i → J.stop i H)
def PostI (M : Str → Option Value) (W : WX) (G Z : Hp) (σ : Sl) (env : VEnv) (T : List (V × Rv)) (Q : It → Hp → Prop) (H : Hp) : Ans (List FV) → Prop
  | .ok items => ∀ J H' kept, AllSt kept → Same H H' → R M G Z H' σ env (kept ++ T) → WalkJ M J kept items → Q J H'
  | .ex c => ∀ C H', M c = some (.ref C) → Same H H' → R M G Z H' σ env T → W (.ref C) none σ H'
  | .no => False
def tI (M : Str → Option Value) (W : WX) (f : VEnv → Ans (List FV)) : TI := fun σ H Q => ∃ G Z env T, R M G Z H σ env T ∧ PostI M W G Z σ env T Q H (f env)
abbrev JI (X : Cx) (W : WX) (tg e : Expr) (f : VEnv → Ans (List FV)) : Prop := PI X tg e (tI X.mg W f)
theorem PI.imp {X : Cx} {tg e : Expr} {t t' : TI} (p : PI X tg e t) (h : ∀ σ H Q, t' σ H Q → t σ H Q) : PI X tg e t' := ⟨fun pins s σ H Q I q => p.run pins s σ H Q I (h σ H Q q)⟩
theorem PI.or {X : Cx} {tg e : Expr} {t t' : TI} (p : PI X tg e t) (p' : PI X tg e t') : PI X tg e (fun σ H Q => t σ H Q ∨ t' σ H Q) := ⟨fun pins s σ H Q I q => q.elim (p.run pins s σ H Q I) (p'.run pins s σ H Q I)⟩
section
variable {M : Str → Option Value} {G Z H F : Hp} {σ : Sl} {env : VEnv} {T T2 : List (V × Rv)} {W : WX} {C1 C2 : Cells}
theorem PostI.later {x : Ans (List FV)} {Q : It → Hp → Prop} {H1 : Hp} (p : PostI M W G Z σ env T Q H x) (h : Same H H1) : PostI M W G Z σ env T Q H1 x := by
  cases x with
  | ok r => exact fun J H' kp hk s r w => p J H' kp hk (h.trans s) r w
  | ex c => exact fun C H' m s r => p C H' m (h.trans s) r
  | no => exact p
theorem tE.bindI {f : DE} {k : Rv → Ans (List FV)} {Q1 : VK} {Q : It → Hp → Prop} (r : R M G Z H σ env T2) (hs : Sb T T2) (p : PostI M W G Z σ env T Q H ((f env).bind k))
    (h : ∀ rv v H1, f env = .ok rv → Same H H1 → R M G Z H1 σ env ((v, rv) :: T2) → PostI M W G Z σ env T Q H1 (k rv) → Q1 v H1) : tE M W f σ H Q1 := by
  refine tE.then r hs (fun rv v H1 e s r => h rv v H1 e s r ?_) (fun c C H1 e m s r => ?_) fun e => ?_
  · rw [e] at p; exact p.later s
  · rw [e] at p; exact p C H1 m s r
  · rw [e] at p; exact p
theorem tA.bindI {f : VEnv → Ans (List Rv)} {k : List Rv → Ans (List FV)} {Q1 : List V → Hp → Prop} {Q : It → Hp → Prop} (r : R M G Z H σ env T2) (hs : Sb T T2) (p : PostI M W G Z σ env T Q H ((f env).bind k))
    (h : ∀ rs vs H1, f env = .ok rs → vs.length = rs.length → Same H H1 → R M G Z H1 σ env (vs.zip rs ++ T2) → PostI M W G Z σ env T Q H1 (k rs) → Q1 vs H1) : tA M W f σ H Q1 := by
  refine ⟨G, Z, env, T2, r, ?_⟩
  cases e : f env with
  | ok rs =>
    rw [e] at p
    exact fun vs H1 hl s r => h rs vs H1 e hl s r (p.later s)
  | ex c =>
    rw [e] at p
    exact fun C H1 m s r => p C H1 m s (r.sb hs)
  | no => rw [e] at p; exact p
end
theorem walk_list {M : Str → Option Value} {K : PySem.W.Frag} {a : Addr} {o : OV} {xs : List FV} (e : o.lst? = some xs) : WalkJ M (Itl K a) [(.ref a, .st o)] xs := fun F H i hf hk => by
  obtain ⟨a', vs, ea, q, d⟩ := (hk _ (List.mem_singleton_self _)).lst hf e
  cases ea
  refine ⟨fun x hx => ?_, fun hi => ⟨vs, SqL.of q, by rw [d.length]; exact hi⟩⟩
  obtain ⟨v, h1, h2⟩ := d.get hx
  refine ⟨⟨vs, v, SqL.of q, h1⟩, fun w H' ⟨e1, e2⟩ => ?_⟩
  have e3 := e2 vs (SqL.of q)
  rw [h1] at e3
  cases e3
  rw [e1]
  exact New.old hf h2
theorem walk_tup {M : Str → Option Value} {K : PySem.W.Frag} {a : Addr} {y : FV} {xs : List FV} (e : y.tup? = some xs) : WalkJ M (Itt K a) [(.ref a, .st (.fz y))] xs := fun F H i hf hk => by
  obtain ⟨a', vs, ea, q, d⟩ := FDen.tupT (K := K) (hk _ (List.mem_singleton_self _)).fz e
  cases ea
  have q := SqT.sameS hf q
  refine ⟨fun x hx => ?_, fun hi => ⟨vs, q, by rw [d.length]; exact hi⟩⟩
  obtain ⟨v, h1, h2⟩ := d.get hx
  refine ⟨⟨vs, v, q, h1⟩, fun w H' ⟨e1, e2⟩ => ?_⟩
  have e3 := e2 vs q
  rw [h1] at e3
  cases e3
  rw [e1]
  exact New.old hf h2
theorem walk_str {M : Str → Option Value} {z : Str} {kept : List (V × Rv)} : WalkJ M (Its z) kept (z.cps.toList.map fun c => .str ⟨#[c]⟩) := fun F H i hf _ => by
  refine ⟨fun x hx => ?_, fun hi => ?_⟩
  · rw [List.getElem?_map] at hx
    obtain ⟨c, h1, h2⟩ := Option.map_eq_some_iff.mp hx
    subst h2
    rw [Array.getElem?_toList] at h1
    refine ⟨?_, fun v H' ⟨e1, c', h3, h4⟩ => ?_⟩
    · show i < z.cps.size
      exact (Array.getElem?_eq_some_iff.mp h1).1
    · rw [h1] at h3
      cases h3
      rw [e1, h4]
      exact New.str hf
  · show z.cps.size ≤ i
    rw [List.length_map, Array.length_toList] at hi
    exact hi
theorem walk_range {M : Str → Option Value} {n : Nat} {kept : List (V × Rv)} : WalkJ M (Itr 0 n) kept ((List.range n).map fun i => .int (i : Nat)) := fun F H i hf _ => by
  refine ⟨fun x hx => ?_, fun hi => ?_⟩
  · rw [List.getElem?_map] at hx
    obtain ⟨c, h1, h2⟩ := Option.map_eq_some_iff.mp hx
    subst h2
    obtain ⟨h3, h4⟩ := List.getElem?_eq_some_iff.mp h1
    rw [List.length_range] at h3
    rw [List.getElem_range] at h4
    subst h4
    refine ⟨h3, fun v H' ⟨e1, e2⟩ => ?_⟩
    rw [e1, e2, Int.zero_add]
    exact New.int hf
  · show n ≤ i
    rw [List.length_map, List.length_range] at hi
    exact hi
/-- the items of a list, a tuple, a text that stands still -/
def dItems (f : DE) : VEnv → Ans (List FV) := fun env => (f env).bind fun r => match r with
  | .st (.ol xs) => .ok xs
  | .st (.fz (.lst xs)) => .ok xs
  | .st (.fz (.tup xs)) => .ok xs
  | .st (.fz (.tuz xs)) => .ok xs
  | .st (.fz (.str z)) => .ok (z.cps.toList.map fun c => .str ⟨#[c]⟩)
  | _ => .no
def dRange (f : DE) : VEnv → Ans (List FV) := fun env => (f env).bind fun r => match r.ov with
  | .fz (.int n) => if n < 2 ^ 60 ∧ -(2 ^ 60) < n then .ok ((List.range n.toNat).map fun i => .int (i : Nat)) else .no
  | _ => .no
/-- two lists or two tuples -/
def zipF (xs ys : List FV) : List FV := (xs.zip ys).map fun p => .tup [p.1, p.2]
def OV.tupF? : OV → Option (List FV)
  | .fz b => b.tup?
  | _ => none
def zipM (x y : OV) : Ans (List FV) := match x.lst?, y.tupF? with
  | some xs, some ys => .ok (zipF xs ys)
  | _, _ => .no
def dZip (f g : DE) : VEnv → Ans (List FV) := fun env => (f env).bind fun r => (g env).bind fun q => match r, q with
  | .st x, .st y => match x.lst?, y.lst? with
    | some xs, some ys => .ok (zipF xs ys)
    | _, _ => match x, y with
      | .fz a, .fz b => match a.tup?, b.tup? with
        | some xs, some ys => .ok (zipF xs ys)
        | _, _ => zipM (.fz a) (.fz b)
      | x, y => zipM x y
  | _, _ => .no
theorem zipM_some {x y : OV} {zs : List FV} (h : zipM x y = .ok zs) : ∃ xs b ys, x.lst? = some xs ∧ y = .fz b ∧ b.tup? = some ys ∧ zs = zipF xs ys := by
  unfold zipM at h
  split at h
  · rename_i xs ys h1 h2
    cases h
    unfold OV.tupF? at h2
    split at h2
    · exact ⟨xs, _, ys, h1, rfl, h2, rfl⟩
    · cases h2
  · cases h
theorem zipM_nex {x y : OV} {c : Str} : zipM x y ≠ .ex c := by
  unfold zipM
  split <;> exact fun h => nomatch h
def enumF (xs : List FV) : List FV := (xs.zipIdx).map fun p => .tup [.int (p.2 : Nat), p.1]
def dEnum (f : DE) : VEnv → Ans (List FV) := fun env => (f env).bind fun r => match r with
  | .st x => match x.lst? with
    | some xs => .ok (enumF xs)
    | _ => .no
  | _ => .no
def dRevd (f : DE) : VEnv → Ans (List FV) := fun env => (f env).bind fun r => match r with
  | .st x => match x.lst? with
    | some xs => .ok xs.reverse
    | _ => .no
  | _ => .no
theorem allst1 {v : V} {o : OV} : AllSt [(v, .st o)] := fun p hp => by rw [List.mem_singleton] at hp; subst hp; exact ⟨o, rfl⟩
theorem allst0 : AllSt [] := fun _ h => nomatch h
theorem walk_zip {M : Str → Option Value} {K : PySem.W.Frag} {a b : Addr} {x y : OV} {xs ys : List FV} (e : x.lst? = some xs) (e2 : y.lst? = some ys) : WalkJ M (Itz K a b) [(.ref b, .st y), (.ref a, .st x)] (zipF xs ys) := fun F H i hf hk => by
  obtain ⟨a', vs, ea, q, d⟩ := (hk (.ref a, .st x) (by simp)).lst hf e
  cases ea
  obtain ⟨b', ws, eb, q2, d2⟩ := (hk (.ref b, .st y) (by simp)).lst hf e2
  cases eb
  refine ⟨fun z hz => ?_, fun hi => ⟨vs, ws, SqL.of q, SqL.of q2, ?_⟩⟩
  · unfold zipF at hz
    rw [List.getElem?_map] at hz
    obtain ⟨p, h1, h2⟩ := Option.map_eq_some_iff.mp hz
    subst h2
    obtain ⟨h3, h4⟩ := List.getElem?_zip_eq_some.mp h1
    obtain ⟨v, h5, h6⟩ := d.get h3
    obtain ⟨w, h7, h8⟩ := d2.get h4
    refine ⟨⟨vs, ws, v, w, SqL.of q, SqL.of q2, h5, h7⟩, fun u H' ⟨T, v', w', e1, hT, e2, k1, k2⟩ => ?_⟩
    have k3 := k1 vs (SqL.of q)
    rw [h5] at k3
    cases k3
    have k4 := k2 ws (SqL.of q2)
    rw [h7] at k4
    cases k4
    rw [e1, e2]
    exact New.tup hf hT ⟨v, [w], rfl, h6, w, [], rfl, h8, rfl⟩
  · unfold zipF at hi
    rw [List.length_map, List.length_zip] at hi
    rw [d.length, d2.length]
    omega
theorem walk_zipT {M : Str → Option Value} {K : PySem.W.Frag} {a b : Addr} {x y : FV} {xs ys : List FV} (e : x.tup? = some xs) (e2 : y.tup? = some ys) : WalkJ M (ItzT K a b) [(.ref b, .st (.fz y)), (.ref a, .st (.fz x))] (zipF xs ys) := fun F H i hf hk => by
  obtain ⟨a', vs, ea, q, d⟩ := FDen.tupT (K := K) (hk (.ref a, .st (.fz x)) (by simp)).fz e
  cases ea
  obtain ⟨b', ws, eb, q2, d2⟩ := FDen.tupT (K := K) (hk (.ref b, .st (.fz y)) (by simp)).fz e2
  cases eb
  have q := SqT.sameS hf q
  have q2 := SqT.sameS hf q2
  refine ⟨fun z hz => ?_, fun hi => ⟨vs, ws, q, q2, ?_⟩⟩
  · unfold zipF at hz
    rw [List.getElem?_map] at hz
    obtain ⟨p, h1, h2⟩ := Option.map_eq_some_iff.mp hz
    subst h2
    obtain ⟨h3, h4⟩ := List.getElem?_zip_eq_some.mp h1
    obtain ⟨v, h5, h6⟩ := d.get h3
    obtain ⟨w, h7, h8⟩ := d2.get h4
    refine ⟨⟨vs, ws, v, w, q, q2, h5, h7⟩, fun u H' ⟨T, v', w', e1, hT, e2, k1, k2⟩ => ?_⟩
    have k3 := k1 vs q
    rw [h5] at k3
    cases k3
    have k4 := k2 ws q2
    rw [h7] at k4
    cases k4
    rw [e1, e2]
    exact New.tup hf hT ⟨v, [w], rfl, h6, w, [], rfl, h8, rfl⟩
  · unfold zipF at hi
    rw [List.length_map, List.length_zip] at hi
    rw [d.length, d2.length]
    omega
theorem walk_zipM {M : Str → Option Value} {K : PySem.W.Frag} {a b : Addr} {x : OV} {y : FV} {xs ys : List FV} (e : x.lst? = some xs) (e2 : y.tup? = some ys) : WalkJ M (ItzM K a b) [(.ref b, .st (.fz y)), (.ref a, .st x)] (zipF xs ys) := fun F H i hf hk => by
  obtain ⟨a', vs, ea, q0, d⟩ := (hk (.ref a, .st x) (by simp)).lst hf e
  cases ea
  obtain ⟨b', ws, eb, q2, d2⟩ := FDen.tupT (K := K) (hk (.ref b, .st (.fz y)) (by simp)).fz e2
  cases eb
  have q : SqL K H a vs := SqL.of q0
  have q2 := SqT.sameS hf q2
  refine ⟨fun z hz => ?_, fun hi => ⟨vs, ws, q, q2, ?_⟩⟩
  · unfold zipF at hz
    rw [List.getElem?_map] at hz
    obtain ⟨p, h1, h2⟩ := Option.map_eq_some_iff.mp hz
    subst h2
    obtain ⟨h3, h4⟩ := List.getElem?_zip_eq_some.mp h1
    obtain ⟨v, h5, h6⟩ := d.get h3
    obtain ⟨w, h7, h8⟩ := d2.get h4
    refine ⟨⟨vs, ws, v, w, q, q2, h5, h7⟩, fun u H' ⟨T, v', w', e1, hT, e2, k1, k2⟩ => ?_⟩
    have k3 := k1 vs q
    rw [h5] at k3
    cases k3
    have k4 := k2 ws q2
    rw [h7] at k4
    cases k4
    rw [e1, e2]
    exact New.tup hf hT ⟨v, [w], rfl, h6, w, [], rfl, h8, rfl⟩
  · unfold zipF at hi
    rw [List.length_map, List.length_zip] at hi
    rw [d.length, d2.length]
    omega
theorem walk_enum {M : Str → Option Value} {K : PySem.W.Frag} {a : Addr} {o : OV} {xs : List FV} (e : o.lst? = some xs) : WalkJ M (Ite K a) [(.ref a, .st o)] (enumF xs) := fun F H i hf hk => by
  obtain ⟨a', vs, ea, q, d⟩ := (hk _ (List.mem_singleton_self _)).lst hf e
  cases ea
  refine ⟨fun z hz => ?_, fun hi => ⟨vs, SqL.of q, ?_⟩⟩
  · unfold enumF at hz
    rw [List.getElem?_map] at hz
    obtain ⟨p, h1, h2⟩ := Option.map_eq_some_iff.mp hz
    subst h2
    rw [List.getElem?_zipIdx, Nat.zero_add] at h1
    obtain ⟨x, h3, h4⟩ := Option.map_eq_some_iff.mp h1
    subst h4
    obtain ⟨v, h5, h6⟩ := d.get h3
    refine ⟨⟨vs, v, SqL.of q, h5⟩, fun u H' ⟨T, v', e1, hT, e2, k1⟩ => ?_⟩
    have k3 := k1 vs (SqL.of q)
    rw [h5] at k3
    cases k3
    rw [e1, e2]
    exact New.tup hf hT ⟨.int _, [v], rfl, rfl, v, [], rfl, h6, rfl⟩
  · unfold enumF at hi
    rw [List.length_map, List.length_zipIdx] at hi
    rw [d.length]
    exact hi
theorem walk_rev {M : Str → Option Value} {K : PySem.W.Frag} {a : Addr} {o : OV} {xs : List FV} (e : o.lst? = some xs) : WalkJ M (Itv K a xs.length) [(.ref a, .st o)] xs.reverse := fun F H i hf hk => by
  obtain ⟨a', vs, ea, q, d⟩ := (hk _ (List.mem_singleton_self _)).lst hf e
  cases ea
  refine ⟨fun z hz => ?_, fun hi => by rw [List.length_reverse] at hi; exact hi⟩
  have hlt := (List.getElem?_eq_some_iff.mp hz).1
  rw [List.length_reverse] at hlt
  rw [List.getElem?_reverse hlt] at hz
  obtain ⟨v, h5, h6⟩ := d.get hz
  refine ⟨⟨hlt, vs, v, SqL.of q, h5⟩, fun u H' ⟨e1, k1⟩ => ?_⟩
  have k3 := k1 vs (SqL.of q)
  rw [h5] at k3
  cases k3
  rw [e1]
  exact New.old hf h6
section
variable {X : Cx} {W : WX} {pos p : Pos} {tg e e2 : Expr} {f g : DE}
theorem ji_items (he : JE X W e f) : JI X W tg e (dItems f) := by
  refine PI.imp (PI.or (pi_list he) (PI.or (pi_tup he) (pi_str he))) fun σ H Q ⟨G, Z, env, T, r, q⟩ => ?_
  have qq := q
  unfold dItems at qq
  cases ef : f env with
  | ex c =>
    refine .inl (tE.bindI r Sb.refl q fun x u H1 e1 s1 r1 p1 => ?_)
    rw [ef] at e1; cases e1
  | no => rw [ef] at qq; exact qq.elim
  | ok rv =>
    rw [ef] at qq
    simp only [Ans.bind] at qq
    split at qq
    · refine .inl (tE.bindI r Sb.refl q fun x u H1 e1 s1 r1 p1 => ?_)
      rw [ef] at e1; cases e1
      obtain ⟨F, C1, C2, r1⟩ := r1
      obtain ⟨a, vs, rfl, h1, d⟩ := (r1.bor List.mem_cons_self).lst r1.fh rfl
      exact ⟨a, rfl, ⟨vs, SqL.of h1⟩, p1 _ _ [_] allst1 (Same.refl _) r1.r (walk_list rfl)⟩
    · refine .inl (tE.bindI r Sb.refl q fun x u H1 e1 s1 r1 p1 => ?_)
      rw [ef] at e1; cases e1
      obtain ⟨F, C1, C2, r1⟩ := r1
      obtain ⟨a, vs, rfl, h1, d⟩ := (r1.bor List.mem_cons_self).lst r1.fh rfl
      exact ⟨a, rfl, ⟨vs, SqL.of h1⟩, p1 _ _ [_] allst1 (Same.refl _) r1.r (walk_list rfl)⟩
    · refine .inr (.inl (tE.bindI r Sb.refl q fun x u H1 e1 s1 r1 p1 => ?_))
      rw [ef] at e1; cases e1
      obtain ⟨F, C1, C2, r1⟩ := r1
      obtain ⟨a, vs, rfl, h1, d⟩ := FDen.tupT (K := X.K) (r1.bor List.mem_cons_self).fz rfl
      exact ⟨a, rfl, ⟨vs, SqT.sameS r1.fh h1⟩, p1 _ _ [_] allst1 (Same.refl _) r1.r (walk_tup rfl)⟩
    · refine .inr (.inl (tE.bindI r Sb.refl q fun x u H1 e1 s1 r1 p1 => ?_))
      rw [ef] at e1; cases e1
      obtain ⟨F, C1, C2, r1⟩ := r1
      obtain ⟨a, vs, rfl, h1, d⟩ := FDen.tupT (K := X.K) (r1.bor List.mem_cons_self).fz rfl
      exact ⟨a, rfl, ⟨vs, SqT.sameS r1.fh h1⟩, p1 _ _ [_] allst1 (Same.refl _) r1.r (walk_tup rfl)⟩
    · refine .inr (.inr (tE.bindI r Sb.refl q fun x u H1 e1 s1 r1 p1 => ?_))
      rw [ef] at e1; cases e1
      obtain ⟨F, C1, C2, r1⟩ := r1
      exact ⟨_, (r1.bor List.mem_cons_self).str, p1 _ _ [] allst0 (Same.refl _) r1.r.pop walk_str⟩
    · exact qq.elim
theorem ji_range (he : JE X W e f) (hm : X.mg "range" = none) (hg : Gl X "range" := by rfl) (hs : starEach [e] X.env = [(false, eval e X.env)] := by rfl) (hs2 : starEach [e] X.env = (false, eval e X.env) :: starEach [] X.env := by rfl) : JI X W tg (.Call (.Name "range" p) [e] [] pos) (dRange f) := by
  refine PI.imp (pi_range1 hg hm (pa_cons he pa_nil hs2) hs) fun σ H Q ⟨G, Z, env, T, r, q⟩ => ?_
  refine tE.bindI r Sb.refl q fun x u H1 e1 s1 ⟨F, C1, C2, r1⟩ p1 => ?_
  split at p1
  · rename_i n en
    split at p1
    · rename_i hn
      have hb : Bor X.mg F H1 x.ov u := r1.bor List.mem_cons_self
      rw [en] at hb
      exact ⟨n, by rw [hb.int], by omega, by omega, p1 _ _ [] allst0 (Same.refl _) r1.r.pop walk_range⟩
    · exact p1.elim
  · exact p1.elim
theorem ji_zip {tp : Pos} {elts : List Expr} {kk : Nat} (he : JE X W e f) (he2 : JE X W e2 g) (hm : X.mg "zip" = none) (hg : Gl X "zip" := by rfl)
    (hs : starEach [e, e2] X.env = (false, eval e X.env) :: starEach [e2] X.env := by rfl) (hs2 : starEach [e2] X.env = (false, eval e2 X.env) :: starEach [] X.env := by rfl) (hpl : (backTo pos (starEach [e2] X.env)).any (·.1) = false := by rfl) :
    JI X W (.Tuple elts kk tp) (.Call (.Name "zip" p) [e, e2] [] pos) (dZip f g) := by
  refine PI.imp (PI.or (pi_zipA hg hm (pa_cons he (pa_cons he2 pa_nil hs2) hs) hs hpl) (pi_zipM hg hm (pa_cons he (pa_cons he2 pa_nil hs2) hs) hs hpl)) fun σ H Q ⟨G, Z, env, T, r, q⟩ => ?_
  by_cases hM : ∃ x b xs ys, f env = .ok (.st x) ∧ g env = .ok (.st (.fz b)) ∧ x.lst? = some xs ∧ b.tup? = some ys
  · obtain ⟨x0, b0, xs, ys, hx0, hb0, lx, ty⟩ := hM
    right
    refine tE.bindI r Sb.refl q fun x u H1 e1 s1 r1 p1 => ?_
    refine tE.bindI r1 Sb.refl.cons p1 fun y w H2 e3 s2 ⟨F, C1, C2, r2⟩ p2 => ?_
    rw [hx0] at e1
    cases e1
    rw [hb0] at e3
    cases e3
    have bx := r2.bor (List.mem_cons_of_mem _ (List.mem_cons_self (a := (u, Rv.st x0))))
    have by' := r2.bor (List.mem_cons_self (a := (w, Rv.st (.fz b0))))
    obtain ⟨a, vs, rfl, h1, d⟩ := bx.lst r2.fh lx
    obtain ⟨b, ws, rfl, h2, d2⟩ := FDen.tupT (K := X.K) by'.fz ty
    have ev : (match (Rv.st x0), (Rv.st (OV.fz b0)) with
  | .st x, .st y => match x.lst?, y.lst? with
    | some xs, some ys => Ans.ok (zipF xs ys)
    | _, _ => match x, y with
      | .fz a, .fz b => match a.tup?, b.tup? with
        | some xs, some ys => .ok (zipF xs ys)
        | _, _ => zipM (.fz a) (.fz b)
      | x, y => zipM x y
  | _, _ => .no) = .ok (zipF xs ys) := by
      have n1 : (OV.fz b0).lst? = none := by
        unfold FV.tup? at ty
        split at ty <;> first | rfl | cases ty
      have zm : zipM x0 (.fz b0) = .ok (zipF xs ys) := by
        unfold zipM
        rw [lx]
        show (match some xs, b0.tup? with
          | some xs, some ys => Ans.ok (zipF xs ys)
          | _, _ => .no) = _
        rw [ty]
      simp only [lx, n1]
      cases x0 with
      | fz z =>
        have n2 : z.tup? = none := by
          unfold OV.lst? at lx
          split at lx
          · rename_i h; cases h
          · rename_i h; cases h; rfl
          · cases lx
        simp only [n2]
        exact zm
      | ol z => exact zm
      | oK z => exact zm
      | oT z => exact zm
      | dl z => exact zm
      | dd z => exact zm
      | tp z => exact zm
      | ob z w => exact zm
      | oN z => exact zm
    rw [ev] at p2
    refine ⟨a, b, vs, ws, rfl, SqL.of h1, SqT.sameS r2.fh h2, p2 _ _ [_, _] (fun p hp => ?_) (Same.refl _) r2.r (walk_zipM lx ty)⟩
    simp only [List.mem_cons, List.not_mem_nil, or_false] at hp
    rcases hp with rfl | rfl <;> exact ⟨_, rfl⟩
  left
  have noM : ∀ x y, f env = .ok (.st x) → g env = .ok (.st y) → zipM x y = .no := fun x y h1 h2 => by
    cases e : zipM x y with
    | no => rfl
    | ex c => exact absurd e zipM_nex
    | ok zs =>
      obtain ⟨xs, b, ys, l1, rfl, l2, _⟩ := zipM_some e
      exact absurd ⟨x, b, xs, ys, h1, h2, l1, l2⟩ hM
  refine tE.bindI r Sb.refl q fun x u H1 e1 s1 r1 p1 => ?_
  refine tE.bindI r1 Sb.refl.cons p1 fun y w H2 e3 s2 ⟨F, C1, C2, r2⟩ p2 => ?_
  have bx := r2.bor (List.mem_cons_of_mem _ (List.mem_cons_self (a := (u, x))))
  have by' := r2.bor (List.mem_cons_self (a := (w, y)))
  split at p2
  · rename_i x y
    have nm := noM _ _ e1 e3
    split at p2
    · rename_i xs ys ex ey
      obtain ⟨a, vs, rfl, h1, d⟩ := bx.lst r2.fh ex
      obtain ⟨b, ws, rfl, h2, d2⟩ := by'.lst r2.fh ey
      refine ⟨a, b, vs, ws, rfl, .inl ⟨SqL.of h1, SqL.of h2, p2 _ _ [_, _] (fun p hp => ?_) (Same.refl _) r2.r (walk_zip ex ey)⟩⟩
      simp only [List.mem_cons, List.not_mem_nil, or_false] at hp
      rcases hp with rfl | rfl <;> exact ⟨_, rfl⟩
    · split at p2
      · split at p2
        · rename_i xs ys ex ey
          obtain ⟨a, vs, rfl, h1, d⟩ := FDen.tupT (K := X.K) bx.fz ex
          obtain ⟨b, ws, rfl, h2, d2⟩ := FDen.tupT (K := X.K) by'.fz ey
          refine ⟨a, b, vs, ws, rfl, .inr ⟨SqT.sameS r2.fh h1, SqT.sameS r2.fh h2, p2 _ _ [_, _] (fun p hp => ?_) (Same.refl _) r2.r (walk_zipT ex ey)⟩⟩
          simp only [List.mem_cons, List.not_mem_nil, or_false] at hp
          rcases hp with rfl | rfl <;> exact ⟨_, rfl⟩
        · rw [nm] at p2; exact p2.elim
      · rw [nm] at p2; exact p2.elim
  · exact p2.elim
theorem ji_enum {tp : Pos} {elts : List Expr} {kk : Nat} (he : JE X W e f) (hm : X.mg "enumerate" = none) (hg : Gl X "enumerate" := by rfl) (hs : starEach [e] X.env = [(false, eval e X.env)] := by rfl) (hs2 : starEach [e] X.env = (false, eval e X.env) :: starEach [] X.env := by rfl) :
    JI X W (.Tuple elts kk tp) (.Call (.Name "enumerate" p) [e] [] pos) (dEnum f) := by
  refine PI.imp (pi_enum hg hm (pa_cons he pa_nil hs2) hs) fun σ H Q ⟨G, Z, env, T, r, q⟩ => ?_
  refine tE.bindI r Sb.refl q fun x u H1 e1 s1 ⟨F, C1, C2, r1⟩ p1 => ?_
  have bx := r1.bor (List.mem_cons_self (a := (u, x)))
  split at p1
  · split at p1
    · rename_i xs ex
      obtain ⟨a, vs, rfl, h1, d⟩ := bx.lst r1.fh ex
      exact ⟨a, vs, rfl, SqL.of h1, p1 _ _ [_] allst1 (Same.refl _) r1.r (walk_enum ex)⟩
    · exact p1.elim
  · exact p1.elim
theorem ji_rev (he : JE X W e f) (hm : X.mg "reversed" = none) (hg : Gl X "reversed" := by rfl) (hs : starEach [e] X.env = [(false, eval e X.env)] := by rfl) (hs2 : starEach [e] X.env = (false, eval e X.env) :: starEach [] X.env := by rfl) :
    JI X W tg (.Call (.Name "reversed" p) [e] [] pos) (dRevd f) := by
  refine PI.imp (pi_reversed hg hm (pa_cons he pa_nil hs2) hs) fun σ H Q ⟨G, Z, env, T, r, q⟩ => ?_
  refine tE.bindI r Sb.refl q fun x u H1 e1 s1 ⟨F, C1, C2, r1⟩ p1 => ?_
  have bx := r1.bor (List.mem_cons_self (a := (u, x)))
  split at p1
  · split at p1
    · rename_i xs ex
      obtain ⟨a, vs, rfl, h1, d⟩ := bx.lst r1.fh ex
      refine ⟨a, vs, rfl, SqL.of h1, ?_⟩
      rw [d.length]
      exact p1 _ _ [_] allst1 (Same.refl _) r1.r (walk_rev ex)
    · exact p1.elim
  · exact p1.elim
end
end J
namespace J
open PySem PySem.Spec PyProof.Rows L2
/-! ### targets -/
/-- only the slots vs differ -/
structure Only (vs : List Nat) (σ σ' : Sl) : Prop where
  len : σ'.length = σ.length
  get : ∀ j, j ∉ vs → σ'[j]? = σ[j]?
theorem Only.refl {vs : List Nat} {σ : Sl} : Only vs σ σ := ⟨rfl, fun _ _ => rfl⟩
theorem Only.set {vs : List Nat} {σ : Sl} {i : Nat} {x : Option V} (h : i ∈ vs) : Only vs σ (σ.set i x) := ⟨by simp, fun j hj => List.getElem?_set_ne fun e => hj (by rw [← e]; exact h)⟩
theorem Only.trans {vs : List Nat} {σ σ1 σ2 : Sl} (a : Only vs σ σ1) (b : Only vs σ1 σ2) : Only vs σ σ2 := ⟨b.len.trans a.len, fun j hj => (b.get j hj).trans (a.get j hj)⟩
theorem Only.mono {vs ws : List Nat} {σ σ' : Sl} (a : Only vs σ σ') (h : ∀ i ∈ vs, i ∈ ws) : Only ws σ σ' := ⟨a.len, fun j hj => a.get j fun z => hj (h j z)⟩
theorem wipe_get {σ : Sl} {j : Nat} : ∀ {vs : List Nat}, (wipe σ vs)[j]? = if j ∈ vs ∧ j < σ.length then some none else σ[j]?
  | [] => by simp [wipe]
  | v :: vs => by
    unfold wipe
    by_cases h : v = j
    · subst h
      by_cases hl : v < σ.length
      · rw [List.getElem?_set_self (by rw [wipe_length]; exact hl), if_pos ⟨List.mem_cons_self, hl⟩]
      · rw [if_neg (fun z => hl z.2), List.getElem?_eq_none (by rw [List.length_set, wipe_length]; omega), List.getElem?_eq_none (by omega)]
    · rw [List.getElem?_set_ne h, wipe_get]
      by_cases h2 : j ∈ vs
      · simp [h2, h]
      · simp [h2, Ne.symm h]
theorem Only.wipe {vs : List Nat} {σ σ' : Sl} (a : Only vs σ σ') : wipe σ' vs = wipe σ vs := by
  apply List.ext_getElem?
  intro j
  rw [wipe_get, wipe_get, a.len]
  by_cases h : j ∈ vs
  · by_cases h2 : j < σ.length
    · simp [h, h2]
    · rw [if_neg (fun z => h2 z.2), if_neg (fun z => h2 z.2), List.getElem?_eq_none (by rw [a.len]; omega), List.getElem?_eq_none (by omega)]
  · rw [if_neg (fun z => h z.1), if_neg (fun z => h z.1), a.get j h]
abbrev TgF := FV → VEnv → Option VEnv
def gJ (M : Str → Option Value) (vs : List Nat) (t : TgF) : TG := fun v σ H Q => ∃ G Z env T x, R M G Z H σ env ((v, .st (.fz x)) :: T) ∧ match t x env with
  | some e => ∀ σ', Only vs σ σ' → R M G Z H σ' e T → Q σ' H
  | none => False
abbrev JG (X : Cx) (tg : Expr) (vs : List Nat) (t : TgF) : Prop := PG X tg (gJ X.mg vs t)
theorem PG.imp {X : Cx} {tg : Expr} {t t' : TG} (p : PG X tg t) (h : ∀ v σ H Q, t' v σ H Q → t v σ H Q) : PG X tg t' := ⟨fun pins s σ H v u Q I r q => p.run pins s σ H v u Q I r (h v σ H Q q)⟩
def tName (i : Nat) : TgF := fun x env => some (env.set i (some (.fz x)))
def tTup2 (i j : Nat) : TgF := fun x env => match x with
  | .tup [a, b] => some ((env.set i (some (.fz a))).set j (some (.fz b)))
  | _ => none
theorem tTup2_some {i j : Nat} {x : FV} {env e : VEnv} (h : tTup2 i j x env = some e) : ∃ a b, x = .tup [a, b] ∧ e = (env.set i (some (.fz a))).set j (some (.fz b)) := by
  unfold tTup2 at h
  split at h
  · cases h; exact ⟨_, _, rfl, rfl⟩
  · cases h
section
variable {X : Cx} {pos p1 p2 : Pos} {x y : Str}
theorem jg_name (i : Nat) (hN : X.N.Nodup) (hi : X.N[i]? = some x := by rfl) (hx : Loc X.env.scope x := by first | exact .inl rfl | exact .inr rfl) (hf : X.fn x = true ∨ X.env.scope.names.lookup x = some .local := by first | exact .inl rfl | exact .inr rfl) : JG X (.Name x pos) [i] (tName i) :=
  PG.imp (pg_name hN hi hx hf) fun v σ H Q ⟨G, Z, env, T, y, r, q⟩ => q _ (Only.set (by simp)) (r.set i)
theorem jg_tup2 (i j : Nat) {k : Nat} (hc : X.calm = true) (hN : X.N.Nodup) (hi : X.N[i]? = some x := by rfl) (hx : Loc X.env.scope x := by first | exact .inl rfl | exact .inr rfl) (hf : X.fn x = true ∨ X.env.scope.names.lookup x = some .local := by first | exact .inl rfl | exact .inr rfl)
    (hj : X.N[j]? = some y := by rfl) (hy : Loc X.env.scope y := by first | exact .inl rfl | exact .inr rfl) (hf2 : X.fn y = true ∨ X.env.scope.names.lookup y = some .local := by first | exact .inl rfl | exact .inr rfl)
    (hn : (assignEach [.Name x p1, .Name y p2] X.env).length = 2 := by rfl) (hst : (assignEach [.Name x p1, .Name y p2] X.env).findIdx? (·.1) = none := by rfl)
    (hs : (assignEach [.Name x p1, .Name y p2] X.env).map (·.2) = assign (.Name x p1) X.env :: (assignEach [.Name y p2] X.env).map (·.2) := by rfl)
    (hs2 : (assignEach [.Name y p2] X.env).map (·.2) = assign (.Name y p2) X.env :: (assignEach [] X.env).map (·.2) := by rfl) : JG X (.Tuple [.Name x p1, .Name y p2] k pos) [i, j] (tTup2 i j) := by
  refine PG.imp (pg_tup hc (pgs_cons (pg_name hN hi hx hf) (pgs_cons (pg_name hN hj hy hf2) pgs_nil hs2) hs) hn hst) fun v σ H Q ⟨G, Z, env, T, z, ⟨F, C1, C2, r⟩, q⟩ => ?_
  cases et : tTup2 i j z env with
  | none => rw [et] at q; exact q.elim
  | some e =>
    rw [et] at q
    obtain ⟨a, b, e1, e2⟩ := tTup2_some et
    subst e1 e2
    have hb : Bor X.mg F H (.fz (.tup [a, b])) v := r.bor List.mem_cons_self
    obtain ⟨p, vs, e, h1, u, ws, e1, d1, w, ws2, e2, d2, e3⟩ := hb.fz
    rw [show _ = [] from e3] at e2
    rw [e2] at e1
    subst e1
    refine ⟨p, _, e, SqT.of (r.fh _ _ h1), rfl, u, [w], rfl, w, [], rfl, rfl, ?_⟩
    refine q _ ((Only.set (by simp)).trans (Only.set (by simp))) ?_
    have r1 : R X.mg G Z H σ env ((w, .st (.fz b)) :: (v, .st (.fz (.tup [a, b]))) :: T) := r.new (New.old r.fh d2)
    obtain ⟨F6, D5, D6, r6⟩ := r1.pop2
    have r0 : R X.mg G Z H σ env ((u, .st (.fz a)) :: (w, .st (.fz b)) :: T) := by
      obtain ⟨F7, D7, D8, r7⟩ := r1
      have hb2 : Bor X.mg F7 H (.fz (.tup [a, b])) v := r7.bor (List.mem_cons_of_mem _ List.mem_cons_self)
      obtain ⟨p', vs', e', h1', u', ws', e1', d1', _⟩ := hb2.fz
      cases e.symm.trans e'
      have hh := r7.fh _ _ h1'
      rw [r.fh _ _ h1] at hh
      cases hh
      cases e1'
      exact (r7.new (New.old r7.fh d1')).sb (Sb.both (Sb.both Sb.refl.cons))
    exact (r0.set i).set j
end
/-! ### for -/
def loopK (k : VEnv → Ans SO) : SO → Ans SO
  | .nx e => k e
  | .ct e => k e
  | .bk e => .ok (.nx e)
  | .rt o e => .ok (.rt o e)
def forL (t : TgF) (body : DS) : List FV → VEnv → Ans SO
  | [], env => .ok (.nx env)
  | x :: xs, env => match t x env with
    | some e1 => (body e1).bind (loopK (forL t body xs))
    | none => .no
def dFor (it : VEnv → Ans (List FV)) (t : TgF) (body : DS) : DS := fun env => (it env).bind fun xs => forL t body xs env
theorem RF.kept {M : Str → Option Value} {G Z H F : Hp} {σ : Sl} {env : VEnv} {T kept : List (V × Rv)} {C1 C2 : Cells} (r : RF M G Z H F σ env (kept ++ T) C1 C2) : ∀ p ∈ kept, Bor M F H p.2.ov p.1 := fun p hp => r.bor (List.mem_append_left _ hp)
theorem AllSt.app {A B : List (V × Rv)} (a : AllSt A) (b : AllSt B) : AllSt (A ++ B) := fun p hp => (List.mem_append.mp hp).elim (a p) (b p)
theorem sb_app {A T : List (V × Rv)} : Sb T (A ++ T) := ⟨A, List.perm_append_comm⟩
section
variable {X : Cx} {W : WX} {pos : Pos} {tg iter : Expr} {body : List Stmt} {it : VEnv → Ans (List FV)} {t : TgF} {fb : DS} {vs : List Nat}
theorem js_for (hp : PassesOwn (model X.prog X.w) X.A X.env X.xe) (hc : X.calm = true) (hi : JI X W tg iter it) (hg : JG X tg vs t) (hb : JSs X W body fb) (hs : ∀ x, foldedSetIterable iter X.env x = pure x := by intro _; rfl) :
    JS X W (.For tg iter body [] pos) (dFor it t fb) := by
  refine PS.imp (ps_for hp hc hi hg hb hs) fun D σ H ⟨G, Z, env, T, hT, r, p⟩ => ?_
  refine ⟨G, Z, env, T, r, ?_⟩
  have hp := p
  unfold dFor at hp
  cases ei : it env with
  | no => rw [ei] at hp; exact hp.elim
  | ex c =>
    rw [ei] at hp
    exact fun C H' m s r' => let ⟨_, _, _, r'⟩ := r'; hp C σ H' m r'.zh
  | ok items =>
    rw [ei] at hp
    intro J H1 kept hk s1 r1 wk
    have hp : PostS X.mg W G Z T D (forL t fb items env) := hp
    refine ⟨fun i m σ H => i + m = items.length ∧ ∃ env, R X.mg G Z H σ env (kept ++ T) ∧ PostS X.mg W G Z T D (forL t fb (items.drop i) env), ⟨items.length, by omega, env, r1, by rw [List.drop_zero]; exact hp⟩, ?_⟩
    rintro i m σ H ⟨him, env, ⟨F, C1, C2, r⟩, hpost⟩
    obtain ⟨w1, w2⟩ := wk F H i r.fh r.kept
    by_cases hlt : i < items.length
    · obtain ⟨hgo, hy⟩ := w1 items[i] (List.getElem?_eq_getElem hlt)
      rw [List.drop_eq_getElem_cons hlt] at hpost
      have hpost : PostS X.mg W G Z T D (match t items[i] env with
        | some e1 => (fb e1).bind (loopK (forL t fb (items.drop (i + 1))))
        | none => .no) := hpost
      refine .inr ⟨hgo, fun σ' H' => ∃ env', R X.mg G Z H' σ' env' (kept ++ T) ∧ PostS X.mg W G Z T D (forL t fb (items.drop (i + 1)) env'), fun σ' H' ⟨env', r', p'⟩ => ⟨m - 1, by omega, by omega, env', r', p'⟩, fun v H' yl => ?_⟩
      refine ⟨G, Z, env, kept ++ T, items[i], r.new (hy v H' yl), ?_⟩
      cases et : t items[i] env with
      | none => rw [et] at hpost; exact hpost.elim
      | some e1 =>
        rw [et] at hpost
        intro σ' _ r2
        have hpost : PostS X.mg W G Z T D ((fb e1).bind (loopK (forL t fb (items.drop (i + 1))))) := hpost
        refine ⟨G, Z, e1, kept ++ T, hk.app hT, r2, ?_⟩
        cases eb : fb e1 with
        | no => rw [eb] at hpost; exact hpost.elim
        | ex c => rw [eb] at hpost; exact hpost
        | ok s =>
          rw [eb] at hpost
          cases s with
          | nx e => exact fun σ3 H3 r3 => ⟨e, r3, hpost⟩
          | ct e => exact fun σ3 H3 r3 => ⟨e, r3, hpost⟩
          | bk e => exact fun σ3 H3 r3 => hpost σ3 H3 (r3.sb sb_app)
          | rt o e => exact fun v σ3 H3 r3 => hpost v σ3 H3 (r3.sb sb_app.both)
    · refine .inl ⟨w2 (by omega), ?_⟩
      rw [List.drop_of_length_le (by omega)] at hpost
      exact hpost σ H (r.r.sb sb_app)
end
/-! ### while -/
def whileK (c : DT) (body : DS) (k : VEnv → Ans SO) : DS := fun env => (c env).bind fun b => if b then (body env).bind (loopK k) else .ok (.nx env)
def whileN (c : DT) (body : DS) : Nat → VEnv → Ans SO
  | 0, _ => .no
  | n + 1, env => whileK c body (whileN c body n) env
open Classical in
noncomputable def dWhile (c : DT) (body : DS) : DS := fun env => if h : ∃ n, whileN c body n env ≠ .no then whileN c body (Classical.choose h) env else .no
theorem whileK_mono {c : DT} {body : DS} {k k' : VEnv → Ans SO} (hk : ∀ e, k e ≠ .no → k' e = k e) {env : VEnv} (h : whileK c body k env ≠ .no) : whileK c body k' env = whileK c body k env := by
  unfold whileK at h ⊢
  cases ec : c env with
  | no => rfl
  | ex x => rfl
  | ok b =>
    rw [ec] at h
    cases b with
    | false => rfl
    | true =>
      simp only [Ans.bind, if_true] at h ⊢
      cases eb : body env with
      | no => rfl
      | ex x => rfl
      | ok s =>
        rw [eb] at h
        cases s with
        | nx e => exact hk e h
        | ct e => exact hk e h
        | bk e => rfl
        | rt o e => rfl
theorem whileN_more {c : DT} {body : DS} : ∀ {n m : Nat} {env : VEnv}, n ≤ m → whileN c body n env ≠ .no → whileN c body m env = whileN c body n env
  | 0, _, _, _, h => absurd rfl h
  | n + 1, 0, _, hl, _ => by omega
  | n + 1, m + 1, env, hl, h => whileK_mono (fun e he => whileN_more (by omega) he) h
theorem dWhile_of {c : DT} {body : DS} {n : Nat} {env : VEnv} (h : whileN c body n env ≠ .no) : dWhile c body env = whileN c body n env := by
  have hx : ∃ n, whileN c body n env ≠ .no := ⟨n, h⟩
  unfold dWhile
  rw [dif_pos hx]
  rcases Nat.le_total n (Classical.choose hx) with hl | hl
  · exact whileN_more hl h
  · exact (whileN_more hl (Classical.choose_spec hx)).symm
theorem dWhile_ex {c : DT} {body : DS} {env : VEnv} (h : dWhile c body env ≠ .no) : ∃ n, dWhile c body env = whileN c body n env := by
  unfold dWhile at h ⊢
  by_cases hx : ∃ n, whileN c body n env ≠ .no
  · rw [dif_pos hx]
    exact ⟨_, rfl⟩
  · rw [dif_neg hx] at h
    exact absurd rfl h
/-- one turn -/
theorem dWhile_eq (c : DT) (body : DS) (env : VEnv) : dWhile c body env = whileK c body (dWhile c body) env := by
  by_cases h : whileK c body (dWhile c body) env = .no
  · by_cases h2 : dWhile c body env = .no
    · rw [h, h2]
    · obtain ⟨n, hn⟩ := dWhile_ex h2
      cases n with
      | zero => exact absurd hn h2
      | succ n =>
        rw [hn] at h2
        rw [hn]
        exact (whileK_mono (k := whileN c body n) (k' := dWhile c body) (fun e he => dWhile_of he) h2).symm
  · have hn : ∃ n, whileK c body (whileN c body n) env = whileK c body (dWhile c body) env := by
      unfold whileK at h ⊢
      cases ec : c env with
      | no => exact ⟨0, rfl⟩
      | ex x => exact ⟨0, rfl⟩
      | ok b =>
        rw [ec] at h
        cases b with
        | false => exact ⟨0, rfl⟩
        | true =>
          simp only [Ans.bind, if_true] at h ⊢
          cases eb : body env with
          | no => exact ⟨0, rfl⟩
          | ex x => exact ⟨0, rfl⟩
          | ok s =>
            rw [eb] at h
            cases s with
            | nx e =>
              obtain ⟨n, hn⟩ := dWhile_ex (show dWhile c body e ≠ .no from h)
              exact ⟨n, hn.symm⟩
            | ct e =>
              obtain ⟨n, hn⟩ := dWhile_ex (show dWhile c body e ≠ .no from h)
              exact ⟨n, hn.symm⟩
            | bk e => exact ⟨0, rfl⟩
            | rt o e => exact ⟨0, rfl⟩
    obtain ⟨n, hn⟩ := hn
    rw [← hn]
    exact dWhile_of (n := n + 1) (by rw [← hn] at h; exact h)
section
variable {X : Cx} {W : WX} {pos : Pos} {c : Expr} {body : List Stmt} {fc : DT} {fb : DS}
theorem js_while (hp : PassesOwn (model X.prog X.w) X.A X.env X.xe) (hc : JT X W c fc) (hb : JSs X W body fb) : JS X W (.While c body [] pos) (dWhile fc fb) := by
  refine PS.imp (ps_while hp hc hb) fun D σ H ⟨G, Z, env, T, hT, r, p⟩ => ?_
  have hx : dWhile fc fb env ≠ .no := fun e => by rw [e] at p; exact p
  obtain ⟨n, hn⟩ := dWhile_ex hx
  rw [hn] at p
  refine ⟨fun m σ H => ∃ env, R X.mg G Z H σ env T ∧ PostS X.mg W G Z T D (whileN fc fb m env), ⟨n, env, r, p⟩, ?_⟩
  rintro m σ H ⟨env, r, p⟩
  cases m with
  | zero => exact p.elim
  | succ m =>
    have p : PostS X.mg W G Z T D ((fc env).bind fun b => if b then (fb env).bind (loopK (whileN fc fb m)) else .ok (.nx env)) := p
    refine tT.bindS r p fun b H1 _ s1 r1 p1 => ?_
    cases b with
    | false =>
      rw [if_neg Bool.false_ne_true] at p1 ⊢
      exact p1 σ H1 r1
    | true =>
      rw [if_pos rfl] at p1 ⊢
      refine ⟨fun σ' H' => ∃ env', R X.mg G Z H' σ' env' T ∧ PostS X.mg W G Z T D (whileN fc fb m env'), fun σ' H' q => ⟨m, by omega, q⟩, G, Z, env, T, hT, r1, ?_⟩
      cases eb : fb env with
      | no => rw [eb] at p1; exact p1.elim
      | ex x => rw [eb] at p1; exact p1
      | ok s =>
        rw [eb] at p1
        cases s with
        | nx e => exact fun σ3 H3 r3 => ⟨e, r3, p1⟩
        | ct e => exact fun σ3 H3 r3 => ⟨e, r3, p1⟩
        | bk e => exact fun σ3 H3 r3 => p1 σ3 H3 r3
        | rt o e => exact fun v σ3 H3 r3 => p1 v σ3 H3 r3
end
end J
namespace J
open PySem PySem.Spec PyProof.Rows L2 RZ
/-! ### what a comprehension walks: all is looked at as frozen -/
def kfz (p : V × Rv) : V × Rv := (p.1, .st (.fz p.2.fv))
def allFzE (env : VEnv) : Bool := env.all fun o => match o with
  | some (.fz _) => true
  | none => true
  | _ => false
/-- held, or looked at where some slot is one's own -/
def sbR (env : VEnv) : Rv → Bool
  | .st _ => true
  | .bo _ => !allFzE env
def PostC (M : Str → Option Value) (W : WX) (G Z : Hp) (σ : Sl) (env : VEnv) (T : List (V × Rv)) (Q : It → Hp → Prop) (H : Hp) : Ans (List FV) → Prop
  | .ok items => ∀ J H' kept, Same H H' → R M G Z H' σ env (kept ++ T) → WalkJ M J (kept.map kfz) items → (∀ p ∈ kept, sbR env p.2 = true) → Q J H'
  | .ex c => ∀ C H', M c = some (.ref C) → Same H H' → R M G Z H' σ env T → W (.ref C) none σ H'
  | .no => False
def tIC (M : Str → Option Value) (W : WX) (f : VEnv → Ans (List FV)) : TI := fun σ H Q => ∃ G Z env T, R M G Z H σ env T ∧ PostC M W G Z σ env T Q H (f env)
abbrev JC (X : Cx) (W : WX) (tg e : Expr) (f : VEnv → Ans (List FV)) : Prop := PI X tg e (tIC X.mg W f)
section
variable {M : Str → Option Value} {G Z H F : Hp} {σ : Sl} {env : VEnv} {T T2 : List (V × Rv)} {W : WX} {C1 C2 : Cells}
theorem PostC.later {x : Ans (List FV)} {Q : It → Hp → Prop} {H1 : Hp} (p : PostC M W G Z σ env T Q H x) (h : Same H H1) : PostC M W G Z σ env T Q H1 x := by
  cases x with
  | ok r => exact fun J H' kp s r w k => p J H' kp (h.trans s) r w k
  | ex c => exact fun C H' m s r => p C H' m (h.trans s) r
  | no => exact p
theorem tE.bindC {f : DE} {k : Rv → Ans (List FV)} {Q1 : VK} {Q : It → Hp → Prop} (r : R M G Z H σ env T2) (hs : Sb T T2) (p : PostC M W G Z σ env T Q H ((f env).bind k))
    (h : ∀ rv v H1, f env = .ok rv → Same H H1 → R M G Z H1 σ env ((v, rv) :: T2) → PostC M W G Z σ env T Q H1 (k rv) → Q1 v H1) : tE M W f σ H Q1 := by
  refine tE.then r hs (fun rv v H1 e s r => h rv v H1 e s r ?_) (fun c C H1 e m s r => ?_) fun e => ?_
  · rw [e] at p; exact p.later s
  · rw [e] at p; exact p C H1 m s r
  · rw [e] at p; exact p
end
def FV.items? : FV → Option (List FV)
  | .lst xs => some xs
  | .tup xs => some xs
  | .tuz xs => some xs
  | .str z => some (z.cps.toList.map fun c => .str ⟨#[c]⟩)
  | _ => none
def cItems (f : DE) : VEnv → Ans (List FV) := fun env => (f env).bind fun r => if sbR env r then Ans.of r.fv.items? else .no
def cZip (f g : DE) : VEnv → Ans (List FV) := fun env => (f env).bind fun r => (g env).bind fun q => if sbR env r && sbR env q then match r.fv.lst?, q.fv.lst? with
  | some xs, some ys => .ok (zipF xs ys)
  | _, _ => match r.fv.tup?, q.fv.tup? with
    | some xs, some ys => .ok (zipF xs ys)
    | _, _ => match r.fv.lst?, q.fv.tup? with
      | some xs, some ys => .ok (zipF xs ys)
      | _, _ => .no
  else .no
def cEnum (f : DE) : VEnv → Ans (List FV) := fun env => (f env).bind fun r => if sbR env r then (match r.fv.lst? with
    | some xs => .ok (enumF xs)
    | _ => .no) else .no
theorem FV.lst?_fz {x : FV} {xs : List FV} (e : x.lst? = some xs) : OV.lst? (.fz x) = some xs := by
  unfold FV.lst? at e
  split at e
  · cases e; rfl
  · cases e
section
variable {X : Cx} {W : WX} {pos p : Pos} {tg e e2 : Expr} {f g : DE}
theorem FDen.lstL {M : Str → Option Value} {F : Hp} {x : FV} {v : V} {xs : List FV} (d : FDen M F x v) (e : x.lst? = some xs) : ∃ a vs, v = .ref a ∧ F a = some (.lst vs) ∧ FDenL M F xs vs := by
  unfold FV.lst? at e
  split at e
  · cases e; exact d
  · cases e
theorem jc_items (he : JE X W e f) : JC X W tg e (cItems f) := by
  refine PI.imp (PI.or (pi_list he) (PI.or (pi_tup he) (pi_str he))) fun σ H Q ⟨G, Z, env, T, r, q⟩ => ?_
  have qq := q
  unfold cItems at qq
  cases ef : f env with
  | ex c =>
    refine .inl (tE.bindC r Sb.refl q fun x u H1 e1 s1 r1 p1 => ?_)
    rw [ef] at e1; cases e1
  | no => rw [ef] at qq; exact qq.elim
  | ok rv =>
    rw [ef] at qq
    simp only [Ans.bind] at qq
    by_cases hsb : sbR env rv = true
    rotate_left
    · rw [if_neg hsb] at qq; exact qq.elim
    rw [if_pos hsb] at qq
    have one : ∀ u : V, ∀ p ∈ [(u, rv)], sbR env p.2 = true := fun u p hp => by rw [List.mem_singleton.mp hp]; exact hsb
    cases ei : rv.fv.items? with
    | none => rw [ei] at qq; exact qq.elim
    | some items =>
      have ei' := ei
      unfold FV.items? at ei'
      split at ei'
      · rename_i xs ex
        cases ei'
        refine .inl (tE.bindC r Sb.refl q fun x u H1 e1 s1 r1 p1 => ?_)
        rw [ef] at e1; cases e1
        rw [if_pos hsb, ei] at p1
        obtain ⟨F, C1, C2, r1⟩ := r1
        have d : FDen X.mg H1 rv.fv u := (r1.bor (List.mem_cons_self (a := (u, rv)))).fden r1.fh
        rw [ex] at d
        obtain ⟨a, vs, rfl, h1, d⟩ := d
        refine ⟨a, rfl, ⟨vs, SqL.of h1⟩, p1 _ _ [(V.ref a, rv)] (Same.refl _) r1.r ?_ (one _)⟩
        show WalkJ X.mg _ [(V.ref a, .st (.fz rv.fv))] _
        rw [ex]
        exact walk_list rfl
      · rename_i xs ex
        cases ei'
        refine .inr (.inl (tE.bindC r Sb.refl q fun x u H1 e1 s1 r1 p1 => ?_))
        rw [ef] at e1; cases e1
        rw [if_pos hsb, ei] at p1
        obtain ⟨F, C1, C2, r1⟩ := r1
        have d : FDen X.mg H1 rv.fv u := (r1.bor (List.mem_cons_self (a := (u, rv)))).fden r1.fh
        rw [ex] at d
        obtain ⟨a, vs, rfl, h1, _⟩ := FDen.tupT (K := X.K) d rfl
        refine ⟨a, rfl, ⟨vs, h1⟩, p1 _ _ [(V.ref a, rv)] (Same.refl _) r1.r ?_ (one _)⟩
        show WalkJ X.mg _ [(V.ref a, .st (.fz rv.fv))] _
        rw [ex]
        exact walk_tup rfl
      · rename_i xs ex
        cases ei'
        refine .inr (.inl (tE.bindC r Sb.refl q fun x u H1 e1 s1 r1 p1 => ?_))
        rw [ef] at e1; cases e1
        rw [if_pos hsb, ei] at p1
        obtain ⟨F, C1, C2, r1⟩ := r1
        have d : FDen X.mg H1 rv.fv u := (r1.bor (List.mem_cons_self (a := (u, rv)))).fden r1.fh
        rw [ex] at d
        obtain ⟨a, vs, rfl, h1, _⟩ := FDen.tupT (K := X.K) d rfl
        refine ⟨a, rfl, ⟨vs, h1⟩, p1 _ _ [(V.ref a, rv)] (Same.refl _) r1.r ?_ (one _)⟩
        show WalkJ X.mg _ [(V.ref a, .st (.fz rv.fv))] _
        rw [ex]
        exact walk_tup rfl
      · rename_i z ex
        cases ei'
        refine .inr (.inr (tE.bindC r Sb.refl q fun x u H1 e1 s1 r1 p1 => ?_))
        rw [ef] at e1; cases e1
        rw [if_pos hsb, ei] at p1
        obtain ⟨F, C1, C2, r1⟩ := r1
        have d : FDen X.mg H1 rv.fv u := (r1.bor (List.mem_cons_self (a := (u, rv)))).fden r1.fh
        rw [ex] at d
        exact ⟨_, d, p1 _ _ [] (Same.refl _) r1.r.pop walk_str (fun _ h => nomatch h)⟩
      · cases ei'
theorem jc_range (he : JE X W e f) (hm : X.mg "range" = none) (hg : Gl X "range" := by rfl) (hs : starEach [e] X.env = [(false, eval e X.env)] := by rfl) (hs2 : starEach [e] X.env = (false, eval e X.env) :: starEach [] X.env := by rfl) : JC X W tg (.Call (.Name "range" p) [e] [] pos) (dRange f) := by
  refine PI.imp (pi_range1 hg hm (pa_cons he pa_nil hs2) hs) fun σ H Q ⟨G, Z, env, T, r, q⟩ => ?_
  refine tE.bindC r Sb.refl q fun x u H1 e1 s1 ⟨F, C1, C2, r1⟩ p1 => ?_
  split at p1
  · rename_i n en
    split at p1
    · rename_i hn
      have hb : Bor X.mg F H1 x.ov u := r1.bor List.mem_cons_self
      rw [en] at hb
      exact ⟨n, by rw [hb.int], by omega, by omega, p1 _ _ [] (Same.refl _) r1.r.pop walk_range (fun _ h => nomatch h)⟩
    · exact p1.elim
  · exact p1.elim
theorem jc_zip {tp : Pos} {elts : List Expr} {kk : Nat} (he : JE X W e f) (he2 : JE X W e2 g) (hm : X.mg "zip" = none) (hg : Gl X "zip" := by rfl)
    (hs : starEach [e, e2] X.env = (false, eval e X.env) :: starEach [e2] X.env := by rfl) (hs2 : starEach [e2] X.env = (false, eval e2 X.env) :: starEach [] X.env := by rfl) (hpl : (backTo pos (starEach [e2] X.env)).any (·.1) = false := by rfl) :
    JC X W (.Tuple elts kk tp) (.Call (.Name "zip" p) [e, e2] [] pos) (cZip f g) := by
  refine PI.imp (PI.or (pi_zipA hg hm (pa_cons he (pa_cons he2 pa_nil hs2) hs) hs hpl) (pi_zipM hg hm (pa_cons he (pa_cons he2 pa_nil hs2) hs) hs hpl)) fun σ H Q ⟨G, Z, env, T, r, q⟩ => ?_
  by_cases hM : ∃ x y xs ys, f env = .ok x ∧ g env = .ok y ∧ x.fv.lst? = some xs ∧ y.fv.tup? = some ys
  · obtain ⟨x0, y0, xs, ys, hx0, hy0, lx, ty⟩ := hM
    right
    refine tE.bindC r Sb.refl q fun x u H1 e1 s1 r1 p1 => ?_
    refine tE.bindC r1 Sb.refl.cons p1 fun y w H2 e3 s2 ⟨F, C1, C2, r2⟩ p2 => ?_
    rw [hx0] at e1
    cases e1
    rw [hy0] at e3
    cases e3
    have dx : FDen X.mg H2 x0.fv u := (r2.bor (List.mem_cons_of_mem _ (List.mem_cons_self (a := (u, x0))))).fden r2.fh
    have dy : FDen X.mg H2 y0.fv w := (r2.bor (List.mem_cons_self (a := (w, y0)))).fden r2.fh
    by_cases hsb : (sbR env x0 && sbR env y0) = true
    rotate_left
    · rw [if_neg hsb] at p2; exact p2.elim
    rw [if_pos hsb] at p2
    rw [Bool.and_eq_true] at hsb
    have two : ∀ p ∈ [(w, y0), (u, x0)], sbR env p.2 = true := fun p hp => by
      rcases List.mem_cons.mp hp with rfl | hp
      · exact hsb.2
      · rw [List.mem_singleton.mp hp]; exact hsb.1
    have n1 : y0.fv.lst? = none := by
      cases h : y0.fv <;> rw [h] at ty <;> first | rfl | cases ty
    have n2 : x0.fv.tup? = none := by
      cases h : x0.fv <;> rw [h] at lx <;> first | rfl | cases lx
    simp only [lx, n1, n2, ty] at p2
    obtain ⟨a, vs, rfl, h1, d⟩ := dx.lstL lx
    obtain ⟨b, ws, rfl, h2, d2⟩ := FDen.tupT (K := X.K) dy ty
    exact ⟨a, b, vs, ws, rfl, SqL.of h1, h2, p2 _ _ [(.ref b, y0), (.ref a, x0)] (Same.refl _) r2.r (walk_zipM (FV.lst?_fz lx) ty) two⟩
  left
  refine tE.bindC r Sb.refl q fun x u H1 e1 s1 r1 p1 => ?_
  refine tE.bindC r1 Sb.refl.cons p1 fun y w H2 e3 s2 ⟨F, C1, C2, r2⟩ p2 => ?_
  have dx : FDen X.mg H2 x.fv u := (r2.bor (List.mem_cons_of_mem _ (List.mem_cons_self (a := (u, x))))).fden r2.fh
  have dy : FDen X.mg H2 y.fv w := (r2.bor (List.mem_cons_self (a := (w, y)))).fden r2.fh
  by_cases hsb : (sbR env x && sbR env y) = true
  rotate_left
  · rw [if_neg hsb] at p2; exact p2.elim
  rw [if_pos hsb] at p2
  rw [Bool.and_eq_true] at hsb
  have two : ∀ p ∈ [(w, y), (u, x)], sbR env p.2 = true := fun p hp => by
    rcases List.mem_cons.mp hp with rfl | hp
    · exact hsb.2
    · rw [List.mem_singleton.mp hp]; exact hsb.1
  split at p2
  · rename_i xs ys ex ey
    obtain ⟨a, vs, rfl, h1, d⟩ := dx.lstL ex
    obtain ⟨b, ws, rfl, h2, d2⟩ := dy.lstL ey
    exact ⟨a, b, vs, ws, rfl, .inl ⟨SqL.of h1, SqL.of h2, p2 _ _ [(.ref b, y), (.ref a, x)] (Same.refl _) r2.r (walk_zip (FV.lst?_fz ex) (FV.lst?_fz ey)) two⟩⟩
  · split at p2
    · rename_i xs ys ex ey
      obtain ⟨a, vs, rfl, h1, d⟩ := FDen.tupT (K := X.K) dx ex
      obtain ⟨b, ws, rfl, h2, d2⟩ := FDen.tupT (K := X.K) dy ey
      exact ⟨a, b, vs, ws, rfl, .inr ⟨h1, h2, p2 _ _ [(.ref b, y), (.ref a, x)] (Same.refl _) r2.r (walk_zipT ex ey) two⟩⟩
    · split at p2
      · rename_i xs ys ex ey
        exact absurd ⟨x, y, xs, ys, e1, e3, ex, ey⟩ hM
      · exact p2.elim
theorem jc_enum {tp : Pos} {elts : List Expr} {kk : Nat} (he : JE X W e f) (hm : X.mg "enumerate" = none) (hg : Gl X "enumerate" := by rfl) (hs : starEach [e] X.env = [(false, eval e X.env)] := by rfl) (hs2 : starEach [e] X.env = (false, eval e X.env) :: starEach [] X.env := by rfl) :
    JC X W (.Tuple elts kk tp) (.Call (.Name "enumerate" p) [e] [] pos) (cEnum f) := by
  refine PI.imp (pi_enum hg hm (pa_cons he pa_nil hs2) hs) fun σ H Q ⟨G, Z, env, T, r, q⟩ => ?_
  refine tE.bindC r Sb.refl q fun x u H1 e1 s1 ⟨F, C1, C2, r1⟩ p1 => ?_
  have dx : FDen X.mg H1 x.fv u := (r1.bor (List.mem_cons_self (a := (u, x)))).fden r1.fh
  by_cases hsb : sbR env x = true
  rotate_left
  · rw [if_neg hsb] at p1; exact p1.elim
  rw [if_pos hsb] at p1
  split at p1
  · rename_i xs ex
    obtain ⟨a, vs, rfl, h1, d⟩ := dx.lstL ex
    exact ⟨a, vs, rfl, SqL.of h1, p1 _ _ [(.ref a, x)] (Same.refl _) r1.r (walk_enum (FV.lst?_fz ex)) (fun p hp => by rw [List.mem_singleton.mp hp]; exact hsb)⟩
  · exact p1.elim
end
/-! ### list comprehensions -/
def wipeE (env : VEnv) : List Nat → VEnv
  | [] => env
  | v :: vs => (wipeE env vs).set v none
def frzE (env : VEnv) : VEnv := env.map fun o => o.map fun o => .fz o.fv
def Ans.nox {α : Type} : Ans α → Ans α
  | .ok a => .ok a
  | _ => .no
def dTrue : DT := fun _ => .ok true
def lcF (t : TgF) (c : DT) (e : DE) (env : VEnv) : List FV → Ans (List FV)
  | [] => .ok []
  | x :: xs => match t x env with
    | some e1 => (c e1).nox.bind fun b => if b then (e e1).nox.bind fun r => match r.fz? with
        | some y => (lcF t c e env xs).bind fun ys => .ok (y :: ys)
        | none => .no
      else lcF t c e env xs
    | none => .no
def lcD (t : TgF) (c : DT) (e : DE) (env : VEnv) : List FV → Ans (List OV)
  | [] => .ok []
  | x :: xs => match t x env with
    | some e1 => (c e1).nox.bind fun b => if b then (e e1).nox.bind fun r => match r.st? with
        | some y => (lcD t c e env xs).bind fun ys => .ok (y :: ys)
        | none => .no
      else lcD t c e env xs
    | none => .no
def dLc (it : VEnv → Ans (List FV)) (t : TgF) (c : DT) (e : DE) (vs : List Nat) : DE := fun env => (it env).bind fun items => (lcF t c e (frzE (wipeE env vs)) items).bind fun ys =>
  if decide (ys.length ≤ BIG) && (allFzE env || FV.pureL ys) then .ok (.st (.ol ys)) else .no
def dLcD (it : VEnv → Ans (List FV)) (t : TgF) (c : DT) (e : DE) (vs : List Nat) : DE := fun env => (it env).bind fun items => (lcD t c e (frzE (wipeE env vs)) items).bind fun ys =>
  if decide (ys.length ≤ BIG) && (allFzE env || OV.cleanL ys) then .ok (.st (.dl ys)) else .no
theorem fz_ol {M : Str → Option Value} {F : Hp} : ∀ {xs : List FV} {vs : List V} {L : Cells}, OwnL M F (xs.map .fz) vs L → FDenL M F xs vs ∧ L = []
  | [], _, _, h => h
  | x :: xs, _, _, ⟨v, ws, A, B, e, d, r, q⟩ => by
    obtain ⟨h1, h2⟩ := fz_ol r
    rw [q, d.2, h2]
    exact ⟨⟨v, ws, e, d.1, h1⟩, rfl⟩
theorem own_dl_ol {M : Str → Option Value} {F : Hp} {xs : List FV} {v : V} {L : Cells} (h : Own M F (.dl (xs.map .fz)) v L) : Own M F (.ol xs) v L := by
  obtain ⟨a, vs, L', e, r, q⟩ := h
  obtain ⟨h1, h2⟩ := fz_ol r
  rw [q, h2]
  exact ⟨a, vs, e, h1, rfl⟩
theorem own_ol_dl {M : Str → Option Value} {F : Hp} {xs : List FV} {v : V} {L : Cells} (h : Own M F (.ol xs) v L) : Own M F (.dl (xs.map .fz)) v L := by
  obtain ⟨a, vs, e, r, q⟩ := h
  have key : ∀ {xs : List FV} {vs : List V}, FDenL M F xs vs → OwnL M F (xs.map .fz) vs [] := by
    intro xs
    induction xs with
    | nil => intro vs h; exact ⟨h, rfl⟩
    | cons x xs ih => intro vs ⟨v, ws, e, d, r⟩; exact ⟨v, ws, [], [], e, ⟨d, rfl⟩, ih r, rfl⟩
  exact ⟨a, vs, [], e, key r, q⟩
theorem lcF_D {t : TgF} {c : DT} {e : DE} {env : VEnv} : ∀ {items ys : List FV}, lcF t c e env items = .ok ys → lcD t c e env items = .ok (ys.map .fz)
  | [], ys, h => by cases h; rfl
  | x :: xs, ys, h => by
    unfold lcF at h
    unfold lcD
    cases et : t x env with
    | none => rw [et] at h; cases h
    | some e1 =>
      rw [et] at h
      simp only at h ⊢
      cases ec : (c e1).nox with
      | no => rw [ec] at h; cases h
      | ex z => rw [ec] at h; cases h
      | ok b =>
        rw [ec] at h
        cases b with
        | false =>
          simp only [Ans.bind, Bool.false_eq_true, if_false] at h ⊢
          exact lcF_D h
        | true =>
          simp only [Ans.bind, if_true] at h ⊢
          cases ee : (e e1).nox with
          | no => rw [ee] at h; cases h
          | ex z => rw [ee] at h; cases h
          | ok r =>
            rw [ee] at h
            simp only at h ⊢
            cases ef : r.fz? with
            | none => rw [ef] at h; cases h
            | some y =>
              rw [ef] at h
              have hs : r.st? = some (.fz y) := by
                unfold Rv.fz? at ef
                split at ef
                · cases ef; rfl
                · cases ef
              rw [hs]
              simp only at h ⊢
              cases el : lcF t c e env xs with
              | no => rw [el] at h; cases h
              | ex z => rw [el] at h; cases h
              | ok zs =>
                rw [el] at h
                cases h
                rw [lcF_D el]
                rfl
/-- what a target leaves -/
def TgOk (vs : List Nat) (t : TgF) : Prop := ∀ x env e, t x env = some e → e.length = env.length ∧ ∀ j, j ∉ vs → e[j]? = env[j]?
theorem tg_name {i : Nat} : TgOk [i] (tName i) := fun x env e h => by
  cases h
  exact ⟨by simp, fun j hj => List.getElem?_set_ne fun z => hj (by simp [z])⟩
theorem tg_tup2 {i j : Nat} : TgOk [i, j] (tTup2 i j) := fun x env e h => by
  obtain ⟨a, b, _, e2⟩ := tTup2_some h
  subst e2
  refine ⟨by simp, fun k hk => ?_⟩
  rw [List.getElem?_set_ne fun z => hk (by simp [z]), List.getElem?_set_ne fun z => hk (by simp [z])]
theorem wipeE_length (env : VEnv) : ∀ vs, (wipeE env vs).length = env.length
  | [] => rfl
  | v :: vs => by unfold wipeE; rw [List.length_set, wipeE_length env vs]
theorem wipeE_get {env : VEnv} {j : Nat} : ∀ {vs : List Nat}, (wipeE env vs)[j]? = if j ∈ vs ∧ j < env.length then some none else env[j]?
  | [] => by simp [wipeE]
  | v :: vs => by
    unfold wipeE
    by_cases h : v = j
    · subst h
      by_cases hl : v < env.length
      · rw [List.getElem?_set_self (by rw [wipeE_length]; exact hl), if_pos ⟨List.mem_cons_self, hl⟩]
      · rw [if_neg (fun z => hl z.2), List.getElem?_eq_none (by rw [List.length_set, wipeE_length]; omega), List.getElem?_eq_none (by omega)]
    · rw [List.getElem?_set_ne h, wipeE_get]
      by_cases h2 : j ∈ vs
      · simp [h2, h]
      · simp [h2, Ne.symm h]
theorem frz_wipe (env : VEnv) : ∀ vs, frzE (wipeE env vs) = wipeE (frzE env) vs
  | [] => rfl
  | v :: vs => by
    unfold wipeE
    unfold frzE
    rw [List.map_set]
    have := frz_wipe env vs
    unfold frzE at this
    rw [this]
    rfl
theorem wipeE_of {env e : VEnv} {vs : List Nat} (hl : e.length = env.length) (h : ∀ j, j ∉ vs → e[j]? = env[j]?) : wipeE e vs = wipeE env vs := by
  apply List.ext_getElem?
  intro j
  rw [wipeE_get, wipeE_get, hl]
  by_cases hv : j ∈ vs
  · by_cases h2 : j < env.length
    · simp [hv, h2]
    · rw [if_neg (fun z => h2 z.2), if_neg (fun z => h2 z.2), List.getElem?_eq_none (by rw [hl]; omega), List.getElem?_eq_none (by omega)]
  · rw [if_neg (fun z => hv z.1), if_neg (fun z => hv z.1), h j hv]
theorem wipeE_idem (env : VEnv) (vs : List Nat) : wipeE (wipeE env vs) vs = wipeE env vs := wipeE_of (wipeE_length _ _) fun j hj => by rw [wipeE_get, if_neg (fun z => hj z.1)]
theorem wipe_idem (σ : Sl) (vs : List Nat) : wipe (wipe σ vs) vs = wipe σ vs := (Only.wipe ⟨wipe_length _ _, fun j hj => by rw [wipe_get, if_neg (fun z => hj z.1)]⟩)
section
variable {M : Str → Option Value} {G Z H F : Hp} {σ : Sl} {env : VEnv} {T T2 : List (V × Rv)} {C1 C2 : Cells}
theorem R.wipeD (r : R M G Z H σ env T) : ∀ vs, R M G Z H (wipe σ vs) (wipeE env vs) T
  | [] => r
  | v :: vs => (R.wipeD r vs).unset v none
theorem EnvOwn.fz {L : Cells} (h : Same F H) (e : EnvOwn M F σ env L) : (∀ p ∈ L, H p.1 = some p.2) → EnvOwn M (mutG F H) σ (frzE env) [] := by
  induction e with
  | nil => intro _; exact .nil
  | skip _ ih => intro c; exact .skip (ih c)
  | cons d _ ih => intro c; exact .cons (A := []) (B := []) ⟨d.mut h fun p hp => c p (List.mem_append_left _ hp), rfl⟩ (ih fun p hp => c p (List.mem_append_right _ hp))
theorem EnvOwn.allFz {L : Cells} (e : EnvOwn M F σ env L) : allFzE env = true → EnvOwn M F σ (frzE env) [] := by
  induction e with
  | nil => intro _; exact .nil
  | skip _ ih => intro h; exact .skip (ih (by simpa [allFzE] using h))
  | @cons v o σ env A B d _ ih =>
    intro h
    have h1 : (match some o with | some (.fz _) => true | none => true | _ => false) = true ∧ allFzE env = true := by
      unfold allFzE at h ⊢
      rw [List.all_cons, Bool.and_eq_true] at h
      exact h
    have h0 := h1.1
    cases o with
    | fz x => exact .cons (A := []) (B := []) ⟨d.1, rfl⟩ (ih h1.2)
    | ol x => cases h0
    | oK x => cases h0
    | oT x => cases h0
    | dl x => cases h0
    | dd x => cases h0
    | tp x => cases h0
    | ob c x => cases h0
    | oN x => cases h0
theorem EnvOwn.wipe {L : Cells} (e : EnvOwn M F σ env L) : ∀ vs, ∃ L', EnvOwn M F (wipe σ vs) (wipeE env vs) L' ∧ ∀ p ∈ L', p ∈ L
  | [] => ⟨L, e, fun _ h => h⟩
  | v :: vs => by
    obtain ⟨L', e', h⟩ := EnvOwn.wipe e vs
    obtain ⟨L2, D, h1, h2⟩ := e'.unset v none
    exact ⟨L2, h1, fun p hp => h p (h2.mem_iff.mpr (List.mem_append_left _ hp))⟩
/-- the block of a comprehension starts: all is frozen -/
theorem RF.block (r : RF M G Z H F σ env T C1 C2) (vs : List Nat) : R M (mutG F H) H H (wipe σ vs) (frzE (wipeE env vs)) [] := by
  have e := r.ev.fz r.fh fun p hp => r.gd.hp p (List.mem_append_left _ hp)
  obtain ⟨L', e', h⟩ := e.wipe vs
  have hL : L' = [] := List.eq_nil_iff_forall_not_mem.mpr fun p hp => nomatch h p hp
  subst hL
  rw [frz_wipe]
  exact ⟨mutG F H, [], [], Same.refl _, fun a o e => .inl e, mutG_H r.fh, Same.refl _, e', .nil, Good.nil⟩
theorem RF.blockF (r : RF M G Z H F σ env T C1 C2) (vs : List Nat) (h : allFzE env = true) : R M F H H (wipe σ vs) (frzE (wipeE env vs)) [] := by
  have e := r.ev.allFz h
  obtain ⟨L', e', h⟩ := e.wipe vs
  have hL : L' = [] := List.eq_nil_iff_forall_not_mem.mpr fun p hp => nomatch h p hp
  subst hL
  rw [frz_wipe]
  exact ⟨F, [], [], Same.refl _, fun a o e => .inl e, r.fh, Same.refl _, e', .nil, Good.nil⟩
theorem TmpOwn.split {H : Hp} : ∀ {kept T : List (V × Rv)} {L : Cells}, TmpOwn M F H (kept ++ T) L → (∀ p ∈ kept, ∃ o, p.2 = .st o) → ∃ A B, L = A ++ B ∧ TmpOwn M F H T B ∧ ∀ p ∈ kept, ∃ Lp, Own M F p.2.ov p.1 Lp ∧ ∀ q ∈ Lp, q ∈ A
  | [], T, L, t, _ => ⟨[], L, rfl, t, fun _ h => nomatch h⟩
  | (v, r) :: kept, T, L, t, h => by
    obtain ⟨o, ho⟩ := h _ List.mem_cons_self
    simp only at ho
    subst ho
    cases t with
    | @st _ _ _ A1 B1 d t =>
      obtain ⟨A, B, e, t2, k⟩ := TmpOwn.split t fun p hp => h p (List.mem_cons_of_mem _ hp)
      subst e
      refine ⟨A1 ++ A, B, by rw [List.append_assoc], t2, fun p hp => ?_⟩
      rcases List.mem_cons.mp hp with rfl | hp
      · exact ⟨A1, d, fun q hq => List.mem_append_left _ hq⟩
      · obtain ⟨Lp, q1, q2⟩ := k p hp
        exact ⟨Lp, q1, fun q hq => List.mem_append_right _ (q2 q hq)⟩
theorem RF.iceK {kept : List (V × Rv)} (r : RF M G Z H F σ env (kept ++ T) C1 C2) (h : ∀ p ∈ kept, ∃ o, p.2 = .st o) :
    ∃ F2 C3 C4, RF M G Z H F2 σ env T C3 C4 ∧ ∀ p ∈ kept, FDen M F2 p.2.fv p.1 := by
  obtain ⟨A, B, e, t, k⟩ := r.tm.split h
  subst e
  obtain ⟨i1, i2, i3, i4, i5, i6⟩ := r.ice (A := A) (Lr := C1 ++ B) (by
    rw [← List.append_assoc, ← List.append_assoc]
    exact List.perm_append_comm.append_right _)
  refine ⟨updL F A, C1, B, ⟨i1, i2, i4, r.zh, r.ev.mono i3, t.mono i3 (Same.refl _), i5⟩, fun p hp => ?_⟩
  obtain ⟨Lp, d, c⟩ := k p hp
  exact d.fden i3 fun q hq => i6 q (c q hq)
/-- its list grows -/
theorem R.grow {D : Addr} {os : List OV} {o : OV} {y : V} (r : R M G Z H σ env [(y, .st o), (.ref D, .st (.dl os))]) : ∃ acc, H D = some (.lst acc) ∧ acc.length = os.length ∧ R M G Z (upd H D (.lst (acc ++ [y]))) σ env [(.ref D, .st (.dl (os ++ [o])))] := by
  obtain ⟨F, C1, C2, r⟩ := r
  obtain ⟨A, B, e1, dy, t⟩ := r.tm.freeze
  obtain ⟨A2, B2, e2, dD, t2⟩ := t.freeze
  cases t2
  rw [List.append_nil] at e2
  subst e2
  subst e1
  obtain ⟨a, vs, L', ea, ow, q⟩ := dD
  cases ea
  subst q
  have gd := r.gd
  have hD : H D = some (.lst vs) := gd.hp (D, .lst vs) (by simp)
  have fD : F D = none := gd.fr (D, .lst vs) (by simp)
  have zD : Z D = none := gd.zr (D, .lst vs) (by simp)
  have ne : ∀ p ∈ C1 ++ (A ++ L'), p.1 ≠ D := by
    have g2 := gd.perm (L' := (C1 ++ (A ++ L')) ++ [(D, .lst vs)]) (by
      rw [List.append_assoc, List.append_assoc]
      refine List.Perm.append_left C1 (List.Perm.append_left A ?_)
      exact (List.perm_append_comm (l₁ := [(D, HO.lst vs)]) (l₂ := L')))
    exact fun p hp e => g2.apart p hp (D, .lst vs) (by simp) e
  refine ⟨vs, hD, ow.length, F, C1, (D, .lst (vs ++ [y])) :: (L' ++ A), r.gf, r.fg, fun b u e => ?_, fun b u e => ?_, r.ev, ?_, ?_⟩
  · rw [upd_ne (fun z => by rw [z, fD] at e; cases e)]
    exact r.fh _ _ e
  · rw [upd_ne (fun z => by rw [z, zD] at e; cases e)]
    exact r.zh _ _ e
  · have key : ∀ {os : List OV} {vs : List V} {L : Cells}, OwnL M F os vs L → OwnL M F (os ++ [o]) (vs ++ [y]) (L ++ A) := by
      intro os
      induction os with
      | nil => intro vs L h; rw [h.1, h.2]; exact ⟨y, [], A, [], rfl, dy, ⟨rfl, rfl⟩, by simp⟩
      | cons x xs ih =>
        intro vs L ⟨v, ws, A', B', e, d, r, q⟩
        rw [e, q]
        exact ⟨v, ws ++ [y], A', B' ++ A, rfl, d, ih r, by rw [List.append_assoc]⟩
    have t := TmpOwn.st (H := upd H D (.lst (vs ++ [y]))) (T := []) (B := []) (show Own M F (.dl (os ++ [o])) (.ref D) ((D, .lst (vs ++ [y])) :: (L' ++ A)) from ⟨D, _, _, rfl, key ow, rfl⟩) .nil
    rw [List.append_nil] at t
    exact t
  · have g1 : Good F Z (upd H D (.lst (vs ++ [y]))) (C1 ++ (A ++ L')) := by
      have g2 := gd.perm (L' := (C1 ++ (A ++ L')) ++ [(D, .lst vs)]) (by
        rw [List.append_assoc, List.append_assoc]
        refine List.Perm.append_left C1 (List.Perm.append_left A ?_)
        exact (List.perm_append_comm (l₁ := [(D, HO.lst vs)]) (l₂ := L')))
      have g3 := g2.left
      exact ⟨g3.nd, fun p hp => by rw [upd_ne (ne p hp)]; exact g3.hp p hp, g3.fr, g3.zr⟩
    have g4 : Good F Z (upd H D (.lst (vs ++ [y]))) [(D, .lst (vs ++ [y]))] := ⟨by simp, fun p hp => by rw [List.mem_singleton] at hp; subst hp; exact upd_same, fun p hp => by rw [List.mem_singleton] at hp; subst hp; exact fD, fun p hp => by rw [List.mem_singleton] at hp; subst hp; exact zD⟩
    refine (g1.mk' g4 fun p hp q hq => by rw [List.mem_singleton] at hq; subst hq; exact ne p hp).perm ?_
    rw [List.append_assoc]
    refine List.Perm.append_left C1 ?_
    refine (List.perm_append_comm (l₁ := A ++ L')).trans ?_
    show ((D, HO.lst (vs ++ [y])) :: (A ++ L')).Perm _
    exact (List.perm_append_comm).cons _
end
abbrev W0 : WX := fun _ _ _ _ => False
abbrev JTs (X : Cx) (W : WX) (ifs : List Expr) (f : DT) : Prop := PTs X ifs (tT X.mg W f)
theorem jts_nil {X : Cx} {W : WX} : JTs X W [] dTrue := ⟨fun pins s σ H Q I ⟨G, Z, env, T, r, p⟩ => pts_nil.run pins s σ H Q I (p H (Same.refl _) r)⟩
theorem jts_one {X : Cx} {W : WX} {c : Expr} {f : DT} (h : JT X W c f) : JTs X W [c] f := pts_one h
theorem WalkJ.at {M : Str → Option Value} {J : It} {kept : List (V × Rv)} {items : List FV} (w : WalkJ M J (kept.map kfz) items) {F H : Hp} (hf : Same F H) (hk : ∀ p ∈ kept, FDen M F p.2.fv p.1) (i : Nat) :
    (∀ x, items[i]? = some x → J.go i H ∧ ∀ v H', J.yld i H v H' → New M F H H' (.fz x) v) ∧ (items.length ≤ i → J.stop i H) :=
  w F H i hf fun p hp => by
    obtain ⟨q, hq, e⟩ := List.mem_map.mp hp
    subst e
    exact ⟨[], ⟨hk q hq, rfl⟩, fun _ h => nomatch h⟩
/-- the loop of the block, from its relation -/
theorem lc_run {M : Str → Option Value} {G Z H1 : Hp} {σw : Sl} {envw : VEnv} {vs ws : List Nat} {t : TgF} {c : DT} {e : DE} {J : It} {kept : List (V × Rv)} {items : List FV} {ys : List OV} {D : Addr} {Qd : Hp → Prop}
    (hw : σw = wipe σw vs) (hwe : envw = wipeE envw vs) (hws : ∀ i ∈ ws, i ∈ vs) (hto : TgOk ws t) (wk : WalkJ M J (kept.map kfz) items) (hk : ∀ p ∈ kept, FDen M G p.2.fv p.1) (hlen : ys.length ≤ BIG)
    (hl : lcD t c e envw items = .ok ys) (r : R M G Z (upd H1 D (.lst [])) σw envw [(.ref D, .st (.dl []))]) (hd : ∀ H, R M G Z H σw envw [(.ref D, .st (.dl ys))] → Qd H) :
    ∃ W : Nat → Nat → Hp → Prop, (∃ m, W 0 m (upd H1 D (.lst []))) ∧ ∀ i m H, W i m H →
      (J.stop i H ∧ Qd H) ∨ (J.go i H ∧ ∃ Nx : Hp → Prop, (∀ H', Nx H' → ∃ m', m' < m ∧ W (i + 1) m' H') ∧ ∀ x H', J.yld i H x H' → gJ M ws t x σw H' fun σ2 H2 => wipe σ2 vs = σw ∧ tT M W0 c σ2 H2 fun b H3 =>
        if b = true then tE M W0 e σ2 H3 fun y H4 => ∃ acc, H4 D = some (.lst acc) ∧ acc.length < sizeLine ∧ Nx (upd H4 D (.lst (acc ++ [y]))) else Nx H3) := by
  refine ⟨fun i m H => i + m = items.length ∧ ∃ done rest, lcD t c e envw (items.drop i) = .ok rest ∧ done ++ rest = ys ∧ R M G Z H σw envw [(.ref D, .st (.dl done))], ⟨items.length, by omega, [], ys, by rw [List.drop_zero]; exact hl, rfl, r⟩, ?_⟩
  rintro i m H ⟨him, done, rest, h1, h2, ⟨F, C1, C2, r⟩⟩
  obtain ⟨w1, w2⟩ := wk.at r.fh (fun p hp => (hk p hp).mono r.gf) i
  by_cases hlt : i < items.length
  · obtain ⟨hgo, hy⟩ := w1 items[i] (List.getElem?_eq_getElem hlt)
    rw [List.drop_eq_getElem_cons hlt] at h1
    have h1' : (match t items[i] envw with
      | some e1 => (c e1).nox.bind fun b => if b then (e e1).nox.bind fun r => match r.st? with
          | some y => (lcD t c e envw (items.drop (i + 1))).bind fun ys => .ok (y :: ys)
          | none => .no
        else lcD t c e envw (items.drop (i + 1))
      | none => .no) = Ans.ok rest := h1
    refine .inr ⟨hgo, fun H' => ∃ done rest, lcD t c e envw (items.drop (i + 1)) = .ok rest ∧ done ++ rest = ys ∧ R M G Z H' σw envw [(.ref D, .st (.dl done))], fun H' q => ⟨m - 1, by omega, by omega, q⟩, fun x H' yl => ?_⟩
    refine ⟨G, Z, envw, _, items[i], r.new (hy x H' yl), ?_⟩
    cases et : t items[i] envw with
    | none => rw [et] at h1'; cases h1'
    | some e1 =>
      rw [et] at h1'
      intro σ2 hon r2
      have hσ : wipe σ2 vs = σw := by rw [(hon.mono hws).wipe, ← hw]
      have hE : wipeE e1 vs = envw := by
        obtain ⟨hl1, hl2⟩ := hto _ _ _ et
        rw [wipeE_of hl1 fun j hj => hl2 j fun z => hj (hws j z), ← hwe]
      have back : ∀ {H : Hp} {T : List (V × Rv)}, R M G Z H σ2 e1 T → R M G Z H σw envw T := fun {H T} r => by
        have := r.wipeD vs
        rw [hσ, hE] at this
        exact this
      refine ⟨hσ, G, Z, e1, _, r2, ?_⟩
      cases ec : c e1 with
      | no => simp [ec, Ans.nox, Ans.bind] at h1'
      | ex z => simp [ec, Ans.nox, Ans.bind] at h1'
      | ok b =>
        simp only [ec, Ans.nox, Ans.bind] at h1'
        intro H3 s3 r3
        cases b with
        | false =>
          rw [if_neg Bool.false_ne_true] at h1' ⊢
          exact ⟨done, rest, h1', h2, back r3⟩
        | true =>
          rw [if_pos rfl] at h1' ⊢
          refine ⟨G, Z, e1, _, r3, ?_⟩
          cases ee : e e1 with
          | no => simp [ee] at h1'
          | ex z => simp [ee] at h1'
          | ok rv =>
            rw [ee] at h1'
            simp only at h1'
            intro y H4 s4 r4
            cases es : rv.st? with
            | none => rw [es] at h1'; cases h1'
            | some o =>
              rw [es] at h1'
              have hrv : rv = .st o := by
                unfold Rv.st? at es
                split at es
                · cases es; rfl
                · cases es
              subst hrv
              simp only at h1'
              cases el : lcD t c e envw (items.drop (i + 1)) with
              | no => rw [el] at h1'; cases h1'
              | ex z => rw [el] at h1'; cases h1'
              | ok zs =>
                rw [el] at h1'
                have h1' : Ans.ok (o :: zs) = Ans.ok rest := h1'
                injection h1' with h1'
                subst h1'
                obtain ⟨acc, hD, hla, r5⟩ := r4.grow
                refine ⟨acc, hD, ?_, done ++ [o], zs, (by first | exact el | rfl), by rw [List.append_assoc]; exact h2, back r5⟩
                rw [hla, big_eq]
                have := congrArg List.length h2
                rw [List.length_append, List.length_cons] at this
                omega
  · refine .inl ⟨w2 (by omega), ?_⟩
    rw [List.drop_of_length_le (by omega)] at h1
    cases h1
    rw [List.append_nil] at h2
    subst h2
    exact hd H r.r
section
variable {X : Cx} {W : WX} {pos spos py : Pos} {tg iter elt : Expr} {ifs : List Expr} {scope : Scope} {own : List (Str × Nat)} {it : VEnv → Ans (List FV)} {t : TgF} {fc : DT} {fe : DE} {ws : List Nat}
theorem R.newOf {M : Str → Option Value} {G H H' : Hp} {σ : Sl} {env : VEnv} {v : V} {o : OV} (r : R M G H H' σ env [(v, .st o)]) : New M G H H' o v := by
  obtain ⟨F, C1, C2, r⟩ := r
  obtain ⟨A, B, e1, d, t⟩ := r.tm.freeze
  cases t
  rw [List.append_nil] at e1
  subst e1
  have g := r.gd.right
  exact ⟨F, C2, r.gf, r.fg, r.fh, r.zh, d, ⟨g.nd, g.hp, g.fr, g.zr⟩⟩
theorem lc_post (hws : ∀ i ∈ ws, i ∈ own.map (·.2)) (hto : TgOk ws t) {σ : Sl} {H : Hp} {Q : VK} {G Z : Hp} {env : VEnv} {T : List (V × Rv)} (r : R X.mg G Z H σ env T)
    (p : Post X.mg W G Z σ env T Q H (dLcD it t fc fe (own.map (·.2)) env)) : tLc (tIC X.mg W it) (gJ X.mg ws t) (tT X.mg W0 fc) (tE X.mg W0 fe) (own.map (·.2)) σ H Q := by
  refine ⟨G, Z, env, T, r, ?_⟩
  unfold dLcD at p
  cases ei : it env with
  | no => rw [ei] at p; exact p.elim
  | ex c => rw [ei] at p; exact fun C H' m s r' => p C H' m s r'
  | ok items =>
    rw [ei] at p
    intro J H1 kept s1 ⟨F, C1, C2, r1⟩ wk hsbk D hD
    have p : Post X.mg W G Z σ env T Q H ((lcD t fc fe (frzE (wipeE env (own.map (·.2)))) items).bind fun ys => if decide (ys.length ≤ BIG) && (allFzE env || OV.cleanL ys) then .ok (.st (.dl ys)) else .no) := p
    cases el : lcD t fc fe (frzE (wipeE env (own.map (·.2)))) items with
    | no => rw [el] at p; exact p.elim
    | ex c =>
      -- no exception comes out of lcD
      exfalso
      have key : ∀ items c, lcD t fc fe (frzE (wipeE env (own.map (·.2)))) items ≠ .ex c := by
        intro items
        induction items with
        | nil => intro c h; cases h
        | cons x xs ih =>
          intro c h
          unfold lcD at h
          split at h
          · rename_i e1 _
            cases ec : fc e1 with
            | no => simp [ec, Ans.nox, Ans.bind] at h
            | ex z => simp [ec, Ans.nox, Ans.bind] at h
            | ok b =>
              simp only [ec, Ans.nox, Ans.bind] at h
              cases b with
              | false => exact ih c (by simpa using h)
              | true =>
                rw [if_pos rfl] at h
                cases ee : fe e1 with
                | no => simp [ee] at h
                | ex z => simp [ee] at h
                | ok rv =>
                  rw [ee] at h
                  simp only at h
                  split at h
                  · cases el2 : lcD t fc fe (frzE (wipeE env (own.map (·.2)))) xs with
                    | no => rw [el2] at h; cases h
                    | ex z => exact ih z el2
                    | ok zs => rw [el2] at h; cases h
                  · cases h
          · cases h
      exact key items c el
    | ok ys =>
      rw [el] at p
      simp only [Ans.bind] at p
      split at p
      · rename_i hc
        rw [Bool.and_eq_true] at hc
        have hlen : ys.length ≤ BIG := of_decide_eq_true hc.1
        have hwe : frzE (wipeE env (own.map (·.2))) = wipeE (frzE (wipeE env (own.map (·.2)))) (own.map (·.2)) := by
          rw [frz_wipe, wipeE_idem]
        have fin : ∀ H', New X.mg F H1 H' (.dl ys) (.ref D) → Q (.ref D) H' := fun H' n => p _ H' (s1.trans (let ⟨_, _, n⟩ := n; n.hh)) ((r1.new n).sb sb_app.both)
        have start : ∀ {K0 : Hp} (r0 : R X.mg K0 H1 H1 (wipe σ (own.map (·.2))) (frzE (wipeE env (own.map (·.2)))) []), R X.mg K0 H1 (upd H1 D (.lst [])) (wipe σ (own.map (·.2))) (frzE (wipeE env (own.map (·.2)))) [(.ref D, .st (.dl []))] := fun {K0} r0 => by
          obtain ⟨F0, D1, D2, r0⟩ := r0
          exact r0.new (New.cell r0.fh hD ⟨D, [], [], rfl, ⟨rfl, rfl⟩, rfl⟩)
        cases ha : allFzE env with
        | true =>
          -- all frozen: what is walked is frozen first
          obtain ⟨F2, C3, C4, r2, hkA⟩ := r1.iceK (fun p hp => by
            have := hsbk p hp
            revert this
            cases p.2 with
            | st o => exact fun _ => ⟨o, rfl⟩
            | bo o => intro h; rw [show sbR env (.bo o) = !allFzE env from rfl, ha] at h; cases h)
          refine lc_run (hw := (wipe_idem _ _).symm) (hwe := hwe) hws hto wk (G := F2) (Z := H1) hkA hlen el (start (r2.blockF _ ha)) fun H' r' => ?_
          have n := r'.newOf
          exact p _ H' (s1.trans (let ⟨_, _, n⟩ := n; n.hh)) (r2.new n)
        | false =>
          rw [ha, Bool.false_or] at hc
          refine lc_run (hw := (wipe_idem _ _).symm) (hwe := hwe) hws hto wk (G := mutG F H1) (Z := H1) (fun p hp => ?_) hlen el (start (r1.block _)) fun H' r' => fin H' (r'.newOf.clean r1.fh (by simpa [OV.clean] using hc.2))
          obtain ⟨A, d, c⟩ := r1.bor (List.mem_append_left T hp)
          exact d.mut r1.fh c
      · exact p.elim
theorem R.dl_ol {M : Str → Option Value} {G Z H : Hp} {σ : Sl} {env : VEnv} {T : List (V × Rv)} {v : V} {ys : List FV} (r : R M G Z H σ env ((v, .st (.dl (ys.map .fz))) :: T)) : R M G Z H σ env ((v, .st (.ol ys)) :: T) := by
  obtain ⟨F, C1, C2, r⟩ := r
  obtain ⟨A, B, e, d, t⟩ := r.tm.freeze
  subst e
  exact ⟨F, C1, A ++ B, r.gf, r.fg, r.fh, r.zh, r.ev, .st (own_dl_ol d) t, r.gd⟩
theorem cleanL_fz : ∀ ys : List FV, OV.cleanL (ys.map .fz) = FV.pureL ys
  | [] => rfl
  | y :: ys => by
    show ((OV.fz y).clean && OV.cleanL (ys.map .fz)) = (FV.pure y && FV.pureL ys)
    rw [cleanL_fz ys]
    rfl
theorem lcF_ex {c : DT} {e : DE} {t : TgF} {env : VEnv} : ∀ (items : List FV) (z : Str), lcF t c e env items ≠ .ex z := by
  intro items
  induction items with
  | nil => intro c h; cases h
  | cons x xs ih =>
    intro z h
    unfold lcF at h
    split at h
    · rename_i e1 _
      cases ec : c e1 with
      | no => simp [ec, Ans.nox, Ans.bind] at h
      | ex z => simp [ec, Ans.nox, Ans.bind] at h
      | ok b =>
        simp only [ec, Ans.nox, Ans.bind] at h
        cases b with
        | false => exact ih z (by simpa using h)
        | true =>
          rw [if_pos rfl] at h
          cases ee : e e1 with
          | no => simp [ee] at h
          | ex z => simp [ee] at h
          | ok rv =>
            rw [ee] at h
            simp only at h
            split at h
            · cases el2 : lcF t c e env xs with
              | no => rw [el2] at h; cases h
              | ex z => exact ih z el2
              | ok zs => rw [el2] at h; cases h
            · cases h
    · cases h
theorem lc_postF {σ : Sl} {H : Hp} {Q : VK} {G Z : Hp} {env : VEnv} {T : List (V × Rv)} {vs : List Nat}
    (p : Post X.mg W G Z σ env T Q H (dLc it t fc fe vs env)) : Post X.mg W G Z σ env T Q H (dLcD it t fc fe vs env) := by
  unfold dLc at p
  unfold dLcD
  cases ei : it env with
  | no => rw [ei] at p; exact p.elim
  | ex c => rw [ei] at p; exact p
  | ok items =>
    rw [ei] at p
    simp only [Ans.bind] at p ⊢
    cases el : lcF t fc fe (frzE (wipeE env vs)) items with
    | no => rw [el] at p; exact p.elim
    | ex c => exact absurd el (lcF_ex _ _)
    | ok ys =>
      rw [el] at p
      rw [lcF_D el]
      simp only at p ⊢
      rw [cleanL_fz, List.length_map]
      split at p
      · rename_i hc
        rw [if_pos hc]
        exact fun v H' s r => p v H' s r.dl_ol
      · exact p.elim
theorem je_lcD (hc : X.calm = true) (hN : X.N.Nodup) (hi : JC X W tg iter it) (ok : BlkOk X.N X.env.scope scope own)
    (hg : ∀ (s : Shared) (H : Hp) (C : Addr) (cl : List (Str × Addr)) (fp : List Addr), JG (X.blk s H scope (compEnvC scope cl C X.env) fp) tg ws t)
    (ht : ∀ (s : Shared) (H : Hp) (C : Addr) (cl : List (Str × Addr)) (fp : List Addr), JTs (X.blk s H scope (compEnvC scope cl C X.env) fp) W0 ifs fc)
    (he : ∀ (s : Shared) (H : Hp) (C : Addr) (cl : List (Str × Addr)) (fp : List Addr), JE (X.blk s H scope (compEnvC scope cl C X.env) fp) W0 elt fe)
    (hto : TgOk ws t) (hws : ∀ i ∈ ws, i ∈ own.map (·.2) := by decide) (hs : ∀ x, foldedSetIterable iter X.env x = pure x := by intro _; rfl) :
    JE X W (.ListComp elt [⟨tg, iter, ifs, 0⟩] scope pos) (dLcD it t fc fe (own.map (·.2))) :=
  PE.imp (pe_lc hc hN hi ok hg ht he hs) fun σ H Q ⟨G, Z, env, T, r, p⟩ => lc_post hws hto r p
theorem je_lc (hc : X.calm = true) (hN : X.N.Nodup) (hi : JC X W tg iter it) (ok : BlkOk X.N X.env.scope scope own)
    (hg : ∀ (s : Shared) (H : Hp) (C : Addr) (cl : List (Str × Addr)) (fp : List Addr), JG (X.blk s H scope (compEnvC scope cl C X.env) fp) tg ws t)
    (ht : ∀ (s : Shared) (H : Hp) (C : Addr) (cl : List (Str × Addr)) (fp : List Addr), JTs (X.blk s H scope (compEnvC scope cl C X.env) fp) W0 ifs fc)
    (he : ∀ (s : Shared) (H : Hp) (C : Addr) (cl : List (Str × Addr)) (fp : List Addr), JE (X.blk s H scope (compEnvC scope cl C X.env) fp) W0 elt fe)
    (hto : TgOk ws t) (hws : ∀ i ∈ ws, i ∈ own.map (·.2) := by decide) (hs : ∀ x, foldedSetIterable iter X.env x = pure x := by intro _; rfl) :
    JE X W (.ListComp elt [⟨tg, iter, ifs, 0⟩] scope pos) (dLc it t fc fe (own.map (·.2))) :=
  PE.imp (je_lcD hc hN hi ok hg ht he hto hws hs) fun σ H Q ⟨G, Z, env, T, r, p⟩ => ⟨G, Z, env, T, r, lc_postF p⟩
theorem js_setLcD (i : Nat) {y : Str} (hc : X.calm = true) (hN : X.N.Nodup) (hsw : swapsWith (.ListComp elt [⟨tg, iter, ifs, 0⟩] scope pos) (some (.Name y py)) spos.line X.env = pure true) (hi : JC X W tg iter it) (ok : BlkOk X.N X.env.scope scope own)
    (hg : ∀ (s : Shared) (H : Hp) (C : Addr) (cl : List (Str × Addr)) (fp : List Addr), JG (X.blk s H scope (compEnvC scope cl C X.env) fp) tg ws t)
    (ht : ∀ (s : Shared) (H : Hp) (C : Addr) (cl : List (Str × Addr)) (fp : List Addr), JTs (X.blk s H scope (compEnvC scope cl C X.env) fp) W0 ifs fc)
    (he : ∀ (s : Shared) (H : Hp) (C : Addr) (cl : List (Str × Addr)) (fp : List Addr), JE (X.blk s H scope (compEnvC scope cl C X.env) fp) W0 elt fe)
    (hto : TgOk ws t) (hws : ∀ i ∈ ws, i ∈ own.map (·.2) := by decide) (hy : X.N[i]? = some y := by rfl) (hyl : X.env.scope.names.lookup y = some .local := by rfl) (hs : ∀ x, foldedSetIterable iter X.env x = pure x := by intro _; rfl) :
    JS X W (.Assign [.Name y py] (.ListComp elt [⟨tg, iter, ifs, 0⟩] scope pos) spos) (dSet i (dLcD it t fc fe (own.map (·.2)))) := by
  refine PS.imp (ps_setLc (wi := tIC X.mg W it) (g := gJ X.mg ws t) (tt := tT X.mg W0 fc) (te := tE X.mg W0 fe) hc hN hy hyl hsw hi ok hg ht he hs) fun D σ H ⟨G, Z, env, T, hT, r, p⟩ => ?_
  have q : tE X.mg W (dLcD it t fc fe (own.map (·.2))) σ H fun x H1 => gName i x σ H1 D.nx := by
    refine tE.bindS r p fun rv v H1 _ s r1 p1 => ?_
    cases rv with
    | st o => exact p1 _ _ (r1.set i)
    | bo o => exact p1.elim
  obtain ⟨G, Z, env, T, r, p⟩ := q
  exact lc_post hws hto r p
theorem js_setLc (i : Nat) {y : Str} (hc : X.calm = true) (hN : X.N.Nodup) (hsw : swapsWith (.ListComp elt [⟨tg, iter, ifs, 0⟩] scope pos) (some (.Name y py)) spos.line X.env = pure true) (hi : JC X W tg iter it) (ok : BlkOk X.N X.env.scope scope own)
    (hg : ∀ (s : Shared) (H : Hp) (C : Addr) (cl : List (Str × Addr)) (fp : List Addr), JG (X.blk s H scope (compEnvC scope cl C X.env) fp) tg ws t)
    (ht : ∀ (s : Shared) (H : Hp) (C : Addr) (cl : List (Str × Addr)) (fp : List Addr), JTs (X.blk s H scope (compEnvC scope cl C X.env) fp) W0 ifs fc)
    (he : ∀ (s : Shared) (H : Hp) (C : Addr) (cl : List (Str × Addr)) (fp : List Addr), JE (X.blk s H scope (compEnvC scope cl C X.env) fp) W0 elt fe)
    (hto : TgOk ws t) (hws : ∀ i ∈ ws, i ∈ own.map (·.2) := by decide) (hy : X.N[i]? = some y := by rfl) (hyl : X.env.scope.names.lookup y = some .local := by rfl) (hs : ∀ x, foldedSetIterable iter X.env x = pure x := by intro _; rfl) :
    JS X W (.Assign [.Name y py] (.ListComp elt [⟨tg, iter, ifs, 0⟩] scope pos) spos) (dSet i (dLc it t fc fe (own.map (·.2)))) := by
  refine PS.imp (ps_setLc (wi := tIC X.mg W it) (g := gJ X.mg ws t) (tt := tT X.mg W0 fc) (te := tE X.mg W0 fe) hc hN hy hyl hsw hi ok hg ht he hs) fun D σ H ⟨G, Z, env, T, hT, r, p⟩ => ?_
  have q : tE X.mg W (dLc it t fc fe (own.map (·.2))) σ H fun x H1 => gName i x σ H1 D.nx := by
    refine tE.bindS r p fun rv v H1 _ s r1 p1 => ?_
    cases rv with
    | st o => exact p1 _ _ (r1.set i)
    | bo o => exact p1.elim
  obtain ⟨G, Z, env, T, r, p⟩ := q
  exact lc_post hws hto r (lc_postF p)
end
end J
namespace J
open PySem PySem.Spec PyProof.Rows L2
/-! ### one's own cells rewritten -/
/-- the value o at v (cells L) becomes o' by rewriting the cell a; the cells B go in -/
def Wrote (M : Str → Option Value) (F : Hp) (L B : Cells) (v : V) (a : Addr) (ho ho' : HO) (o' : OV) : Prop := ∃ A D L', L.Perm ((a, ho) :: (A ++ D)) ∧ Own M F o' v L' ∧ L'.Perm ((a, ho') :: (A ++ B))
section
variable {M : Str → Option Value} {G Z H F : Hp} {σ : Sl} {env : VEnv} {T : List (V × Rv)} {o p p' : OV} {v y : V} {i : Nat} {L B : Cells} {L1 L2 : Cells} {a : Addr} {ho ho' : HO}
theorem TmpOwn.anyH {H' : Hp} (t : TmpOwn M F H T L) (h : AllSt T) : TmpOwn M F H' T L := by
  induction t with
  | nil => exact .nil
  | st d _ ih => exact .st d (ih fun p hp => h p (List.mem_cons_of_mem _ hp))
  | bo d _ ih =>
    obtain ⟨o, e⟩ := h _ List.mem_cons_self
    cases e
theorem RF.write (r : RF M G Z H F σ env ((y, .st o) :: T) L1 L2) (hT : AllSt T) (he : env[i]? = some (some p)) :
    ∃ v L B, σ[i]? = some (some v) ∧ Own M F p v L ∧ Own M F o y B ∧ (∀ q ∈ L, H q.1 = some q.2) ∧ ∀ a ho ho' p', Wrote M F L B v a ho ho' p' → ∃ E1 E2, RF M G Z (upd H a ho') F σ (env.set i (some p')) T E1 E2 := by
  obtain ⟨v, L, Lr, h1, h2, h3, h4, _⟩ := r.ev.repl he
  obtain ⟨B, C, e, d, t⟩ := r.tm.freeze
  subst e
  refine ⟨v, L, B, h1, h2, d, fun q hq => r.gd.hp q (List.mem_append_left _ (h3.mem_iff.mpr (List.mem_append_left _ hq))), fun a ho ho' p' ⟨A, D, L', q1, q2, q3⟩ => ?_⟩
  obtain ⟨L3, k1, k2⟩ := h4 p' v L' q2
  have hσ : σ.set i (some v) = σ := by
    apply List.ext_getElem?
    intro j
    by_cases hj : i = j
    · subst hj
      obtain ⟨hlt, _⟩ := List.getElem?_eq_some_iff.mp h1
      rw [List.getElem?_set_self hlt, h1]
    · rw [List.getElem?_set_ne hj]
  rw [hσ] at k1
  -- all cells of before
  have pm : (L1 ++ (B ++ C)).Perm ((a, ho) :: ((A ++ B) ++ Lr ++ C) ++ D) := by
    refine (h3.append_right _).trans ?_
    refine ((q1.append_right Lr).append_right (B ++ C)).trans ?_
    have e1 : ((a, ho) :: (A ++ D) ++ Lr ++ (B ++ C)) = (a, ho) :: (A ++ (D ++ (Lr ++ (B ++ C)))) := by simp
    have e2 : ((a, ho) :: ((A ++ B) ++ Lr ++ C) ++ D) = (a, ho) :: (A ++ (B ++ (Lr ++ (C ++ D)))) := by simp
    rw [e1, e2]
    refine List.Perm.cons _ (List.Perm.append_left A ?_)
    -- D ++ (Lr ++ (B ++ C)) ~ B ++ (Lr ++ (C ++ D))
    refine List.perm_append_comm.trans ?_
    have e3 : Lr ++ (B ++ C) ++ D = (Lr ++ B) ++ (C ++ D) := by simp
    have e4 : B ++ (Lr ++ (C ++ D)) = (B ++ Lr) ++ (C ++ D) := by simp
    rw [e3, e4]
    exact List.perm_append_comm.append_right _
  have g := (r.gd.perm pm).left
  have nd := g.nd
  rw [List.map_cons, List.nodup_cons] at nd
  have ne : ∀ q ∈ (A ++ B) ++ Lr ++ C, q.1 ≠ a := fun q hq z => nd.1 (by rw [← z]; exact List.mem_map.mpr ⟨q, hq, rfl⟩)
  have fa : F a = none := g.fr (a, ho) List.mem_cons_self
  have za : Z a = none := g.zr (a, ho) List.mem_cons_self
  have g2 : Good F Z (upd H a ho') ((a, ho') :: ((A ++ B) ++ Lr ++ C)) := by
    refine ⟨by rw [List.map_cons, List.nodup_cons]; exact nd, fun q hq => ?_, fun q hq => ?_, fun q hq => ?_⟩
    · rcases List.mem_cons.mp hq with rfl | hq
      · exact upd_same
      · rw [upd_ne (ne q hq)]; exact g.hp q (List.mem_cons_of_mem _ hq)
    · rcases List.mem_cons.mp hq with rfl | hq
      · exact fa
      · exact g.fr q (List.mem_cons_of_mem _ hq)
    · rcases List.mem_cons.mp hq with rfl | hq
      · exact za
      · exact g.zr q (List.mem_cons_of_mem _ hq)
  refine ⟨L3, C, r.gf, r.fg, fun b u e => ?_, fun b u e => ?_, k1, t.anyH hT, g2.perm ?_⟩
  · rw [upd_ne (fun z => by rw [z, fa] at e; cases e)]; exact r.fh b u e
  · rw [upd_ne (fun z => by rw [z, za] at e; cases e)]; exact r.zh b u e
  · refine List.Perm.symm ((k2.append_right C).trans ?_)
    exact (q3.append_right Lr).append_right C
theorem OwnL.snoc {os : List OV} {vs : List V} {y : V} (h : OwnL M F os vs L) (d : Own M F o y B) : OwnL M F (os ++ [o]) (vs ++ [y]) (L ++ B) := by
  induction os generalizing vs L with
  | nil =>
    obtain ⟨e1, e2⟩ := h
    subst e1 e2
    exact ⟨y, [], B, [], rfl, d, ⟨rfl, rfl⟩, by simp⟩
  | cons x os ih =>
    obtain ⟨v, ws, A, C, e, q, r, e2⟩ := h
    subst e e2
    exact ⟨v, ws ++ [y], A, C ++ B, rfl, q, ih r, by rw [List.append_assoc]⟩
end
/-! ### append -/
def OV.app : OV → OV → Option OV
  | .ol xs, .fz x => some (.ol (xs ++ [x]))
  | .ol [], o => some (.dl [o])
  | .dl os, o => some (.dl (os ++ [o]))
  | _, _ => none
def OV.size : OV → Nat
  | .ol xs => xs.length
  | .dl os => os.length
  | .oK k => k.length
  | .oT k => k.length
  | .dd k => k.length
  | _ => 0
section
variable {M : Str → Option Value} {G Z H F : Hp} {σ : Sl} {env : VEnv} {T : List (V × Rv)} {o p p' : OV} {v y : V} {i : Nat} {L B : Cells} {L1 L2 : Cells} {a : Addr} {ho ho' : HO}
theorem own_app (e : p.app o = some p') (h : Own M F p v L) (d : Own M F o y B) : ∃ a vs, v = .ref a ∧ (a, HO.lst vs) ∈ L ∧ vs.length = p.size ∧ Wrote M F L B v a (.lst vs) (.lst (vs ++ [y])) p' := by
  unfold OV.app at e
  split at e
  · rename_i xs x
    cases e
    obtain ⟨a, vs, e1, r, e2⟩ := h
    obtain ⟨d, hB⟩ := d
    subst hB e1 e2
    exact ⟨a, vs, rfl, List.mem_singleton.mpr rfl, r.length, [], [], _, .refl _, ⟨a, _, rfl, r.append ⟨y, [], rfl, d, rfl⟩, rfl⟩, .refl _⟩
  · rename_i o' _
    cases e
    obtain ⟨a, vs, e1, r, e2⟩ := h
    cases (show vs = [] from r)
    subst e1 e2
    exact ⟨a, [], rfl, List.mem_singleton.mpr rfl, rfl, [], [], _, .refl _, ⟨a, [y], B, rfl, ⟨y, [], B, [], rfl, d, ⟨rfl, rfl⟩, by simp⟩, rfl⟩, .refl _⟩
  · rename_i os o'
    cases e
    obtain ⟨a, vs, L', e1, r, e2⟩ := h
    subst e1 e2
    exact ⟨a, vs, rfl, List.mem_cons_self, r.length, L', [], _, by simp, ⟨a, _, _, rfl, r.snoc d, rfl⟩, .refl _⟩
  · cases e
end
def OV.isL : OV → Bool
  | .ol _ => true
  | .dl _ => true
  | _ => false
theorem own_isL {M : Str → Option Value} {F : Hp} {p : OV} {v : V} {L : Cells} (h : p.isL = true) (d : Own M F p v L) : ∃ a vs, v = .ref a ∧ (a, HO.lst vs) ∈ L := by
  unfold OV.isL at h
  split at h
  · obtain ⟨a, vs, e1, r, e2⟩ := d
    exact ⟨a, vs, e1, by rw [e2]; exact List.mem_singleton.mpr rfl⟩
  · obtain ⟨a, vs, L', e1, r, e2⟩ := d
    exact ⟨a, vs, e1, by rw [e2]; exact List.mem_cons_self⟩
  · cases h
theorem RF.isL {M : Str → Option Value} {G Z H F : Hp} {σ : Sl} {env : VEnv} {T : List (V × Rv)} {C1 C2 : Cells} {p : OV} {i : Nat} (r : RF M G Z H F σ env T C1 C2) (h : p.isL = true) (e : env[i]? = some (some p)) : ∃ a vs, σ[i]? = some (some (.ref a)) ∧ H a = some (.lst vs) := by
  obtain ⟨v, A, Lr, h1, h2, h3, _⟩ := r.ev.repl e
  obtain ⟨a, vs, e1, hm⟩ := own_isL h h2
  subst e1
  exact ⟨a, vs, h1, r.gd.hp (a, .lst vs) (List.mem_append_left _ (h3.mem_iff.mpr (List.mem_append_left _ hm)))⟩
def dApp (i : Nat) (f : DE) : DS := fun env => match env[i]? with
  | some (some p) => if p.isL then (f env).bind fun r => match r with
    | .st o => if p.size < BIG then match p.app o with
      | some p' => .ok (.nx (env.set i (some p')))
      | none => .no
      else .no
    | _ => .no
    else .no
  | _ => .no
section
variable {X : Cx} {W : WX} {pos pos' apos : Pos} {e : Expr} {f g : DE} {x : Str}
theorem PS.or {st : Stmt} {t t' : TS} (p : PS X st t) (p' : PS X st t') : PS X st (fun D σ H => t D σ H ∨ t' D σ H) := ⟨fun pins s σ H D I h => h.elim (p.run pins s σ H D I) (p'.run pins s σ H D I)⟩
theorem js_append (i : Nat) (he : JE X W e f) (hN : X.N[i]? = some x := by rfl) (hv : Vis X.env.scope x := by first | exact Or.inl rfl | exact Or.inr (Or.inl rfl) | exact Or.inr (Or.inr rfl))
    (hd : (x == ("__debug__" : Str)) = false := by decide) (hcd : (x == ("__classdict__" : Str)) = false := by decide)
    (hs : swapsWith (.Call (.Attribute (.Name x pos') "append" apos) [e] [] cpos) none pos.line X.env = pure false := by rfl)
    (hbase : attributeBase (.Name x pos') "append" X.env (eval (.Name x pos') X.env) = eval (.Name x pos') X.env := by rfl)
    (hfew : ((backTo cpos (starEach [e] X.env)).all (fun x => !x.1) && (backToKw cpos (keywordEach [] X.env)).all (fun x => x.1.isSome)
      && decide ([e].length + ([] : List Keyword).length + (if ([] : List Keyword).isEmpty then 0 else 1) < 30)) = true := by rfl)
    (hline : (apos.endLine == cpos.line) = true := by rfl) (hst : starEach [e] X.env = (false, eval e X.env) :: starEach [] X.env := by rfl) (hplain : (backTo cpos (starEach [] X.env)).any (·.1) = false := by rfl) :
    JS X W (.Expr (.Call (.Attribute (.Name x pos') "append" apos) [e] [] cpos) pos) (dApp i f) := by
  refine PS.imp (ps_expr (pe_bm F.plainAttrs_list F.slot_list_append (by rfl) (fun pins s σ H x xs v us Q I r rv q => mt_append pins s σ H x xs v us Q I r rv q) (pe_var hN hv hd hcd) (pa_cons he pa_nil hst) hbase hfew hline hst hplain) hs) fun D σ H ⟨G, Z, env, T, hT, r, p⟩ => ?_
  unfold dApp at p
  cases ei : env[i]? with
  | none => rw [ei] at p; exact p.elim
  | some ov =>
    cases ov with
    | none => rw [ei] at p; exact p.elim
    | some q =>
      rw [ei] at p
      simp only at p
      by_cases hl : q.isL = true
      · rw [if_pos hl] at p
        obtain ⟨F, C1, C2, r⟩ := r
        obtain ⟨a0, vs0, k1, k2⟩ := r.isL hl ei
        refine ⟨_, k1, .inl ⟨rfl, vs0, SqL.of k2⟩, ?_⟩
        refine tE.bindS r.r p fun rv y H1 _ s1 r1 p1 => ?_
        cases rv with
        | bo o => exact p1.elim
        | st o =>
          simp only at p1
          split at p1
          · rename_i hb
            split at p1
            · rename_i p' ep
              obtain ⟨F2, D1, D2, r1⟩ := r1
              obtain ⟨v, L, B, j1, j2, j3, j4, j5⟩ := r1.write hT ei
              rw [k1] at j1
              obtain rfl := Option.some.inj (Option.some.inj j1)
              obtain ⟨a, vs, e1, m1, m2, wr⟩ := own_app ep j2 j3
              cases e1
              exact ⟨a0, vs, y, rfl, rfl, j4 _ m1, by rw [m2, big_eq] at *; exact hb, p1 σ _ (let ⟨_, _, z⟩ := j5 _ _ _ _ wr; z.r)⟩
            · exact p1.elim
          · exact p1.elim
      · rw [if_neg hl] at p; exact p.elim
/-- x.append(y.pop(k)) -/
def dAppPop (i j : Nat) (f : DE) : DS := fun env => match env[i]?, env[j]? with
  | some (some p), some (some (.ol xs)) => if p.isL && decide (i ≠ j) && decide (xs.length ≤ BIG) && decide (p.size < BIG) then (f env).bind fun r => match r.fv with
      | .int k => match ixN xs.length k with
        | some m => match xs[m]? with
          | some x => match p.app (.fz x) with
            | some p' => .ok (.nx ((env.set j (some (.ol (xs.eraseIdx m)))).set i (some p')))
            | none => .no
          | none => .no
        | none => .no
      | _ => .no
    else .no
  | _, _ => .no
theorem FDenL.erase {M : Str → Option Value} {F : Hp} : ∀ {xs : List FV} {vs : List V} (m : Nat), FDenL M F xs vs → FDenL M F (xs.eraseIdx m) (vs.eraseIdx m)
  | [], _, m, d => by rw [show _ = [] from d]; rfl
  | x :: xs, _, 0, ⟨v, ws, e, d, r⟩ => by rw [e]; exact r
  | x :: xs, _, m + 1, ⟨v, ws, e, d, r⟩ => by rw [e]; exact ⟨v, _, rfl, d, r.erase m⟩
theorem js_appPop (i j : Nat) {y : Str} {cpos cpos2 apos2 pos2 : Pos} (he : JE X W e f) (hN : X.N[i]? = some x := by rfl) (hv : Vis X.env.scope x := by first | exact Or.inl rfl | exact Or.inr (Or.inl rfl) | exact Or.inr (Or.inr rfl))
    (hd : (x == ("__debug__" : Str)) = false := by decide) (hcd : (x == ("__classdict__" : Str)) = false := by decide)
    (hN2 : X.N[j]? = some y := by rfl) (hv2 : Vis X.env.scope y := by first | exact Or.inl rfl | exact Or.inr (Or.inl rfl) | exact Or.inr (Or.inr rfl))
    (hd2 : (y == ("__debug__" : Str)) = false := by decide) (hcd2 : (y == ("__classdict__" : Str)) = false := by decide)
    (hs : swapsWith (.Call (.Attribute (.Name x pos') "append" apos) [.Call (.Attribute (.Name y pos2) "pop" apos2) [e] [] cpos2] [] cpos) none pos.line X.env = pure false := by rfl)
    (hbase : attributeBase (.Name x pos') "append" X.env (eval (.Name x pos') X.env) = eval (.Name x pos') X.env := by rfl)
    (hfew : ((backTo cpos (starEach [.Call (.Attribute (.Name y pos2) "pop" apos2) [e] [] cpos2] X.env)).all (fun x => !x.1) && (backToKw cpos (keywordEach [] X.env)).all (fun x => x.1.isSome)
      && decide ([Expr.Call (.Attribute (.Name y pos2) "pop" apos2) [e] [] cpos2].length + ([] : List Keyword).length + (if ([] : List Keyword).isEmpty then 0 else 1) < 30)) = true := by rfl)
    (hline : (apos.endLine == cpos.line) = true := by rfl) (hst : starEach [.Call (.Attribute (.Name y pos2) "pop" apos2) [e] [] cpos2] X.env = (false, eval (.Call (.Attribute (.Name y pos2) "pop" apos2) [e] [] cpos2) X.env) :: starEach [] X.env := by rfl) (hplain : (backTo cpos (starEach [] X.env)).any (·.1) = false := by rfl)
    (hbase2 : attributeBase (.Name y pos2) "pop" X.env (eval (.Name y pos2) X.env) = eval (.Name y pos2) X.env := by rfl)
    (hfew2 : ((backTo cpos2 (starEach [e] X.env)).all (fun x => !x.1) && (backToKw cpos2 (keywordEach [] X.env)).all (fun x => x.1.isSome)
      && decide ([e].length + ([] : List Keyword).length + (if ([] : List Keyword).isEmpty then 0 else 1) < 30)) = true := by rfl)
    (hline2 : (apos2.endLine == cpos2.line) = true := by rfl) (hst2 : starEach [e] X.env = (false, eval e X.env) :: starEach [] X.env := by rfl) (hplain2 : (backTo cpos2 (starEach [] X.env)).any (·.1) = false := by rfl) :
    JS X W (.Expr (.Call (.Attribute (.Name x pos') "append" apos) [.Call (.Attribute (.Name y pos2) "pop" apos2) [e] [] cpos2] [] cpos) pos) (dAppPop i j f) := by
  have hpop := pe_bm F.plainAttrs_list F.slot_list_pop (by rfl) (fun pins s σ H x xs v us Q I r rv q => mt_popAt pins s σ H x xs v us Q I r rv q) (pe_var (pos := pos2) hN2 hv2 hd2 hcd2) (pa_cons he pa_nil hst2) hbase2 hfew2 hline2 hst2 hplain2
  refine PS.imp (ps_expr (pe_bm F.plainAttrs_list F.slot_list_append (by rfl) (fun pins s σ H x xs v us Q I r rv q => mt_append pins s σ H x xs v us Q I r rv q) (pe_var hN hv hd hcd) (pa_cons hpop pa_nil hst) hbase hfew hline hst hplain) hs) fun D σ H ⟨G, Z, env, T, hT, r, p⟩ => ?_
  unfold dAppPop at p
  split at p
  · rename_i p0 xs ei ej
    split at p
    · rename_i hc
      simp only [Bool.and_eq_true, decide_eq_true_eq] at hc
      obtain ⟨⟨⟨hl, hij⟩, hx⟩, hsz⟩ := hc
      obtain ⟨F, C1, C2, r⟩ := r
      obtain ⟨a0, vs0, k1, k2⟩ := r.isL hl ei
      obtain ⟨a1, vs1, k3, k4⟩ := r.isL (p := .ol xs) rfl ej
      refine ⟨_, k1, .inl ⟨rfl, vs0, SqL.of k2⟩, ⟨_, k3, .inl ⟨rfl, vs1, SqL.of k4⟩, ?_⟩⟩
      refine tE.bindS r.r p fun rv y H1 _ s1 r1 p1 => ?_
      split at p1
      · rename_i k ek
        split at p1
        · rename_i m em
          split at p1
          · rename_i z ez
            split at p1
            · rename_i p' ep
              obtain ⟨F2, D1, D2, r1⟩ := r1
              have hb : FDen X.mg H1 rv.fv y := (r1.bor (List.mem_cons_self (a := (y, rv)))).fden r1.fh
              rw [ek] at hb
              have hy : y = .int k := hb
              obtain ⟨F3, E1, E2, r2⟩ := r1.r.pop
              obtain ⟨F4, E3, E4, r2⟩ := r2.new (New.non r2.fh)
              obtain ⟨v, L, B, j1, j2, j3, j4, j5⟩ := r2.write hT ej
              rw [k3] at j1
              obtain rfl := Option.some.inj (Option.some.inj j1)
              obtain ⟨a, vs, e1, dd, e2⟩ := j2
              cases e1
              have hB : B = [] := j3.2
              subst hB e2
              have hlen : vs.length = xs.length := dd.length
              have hH1 : H1 a1 = some (.lst vs) := j4 (a1, .lst vs) (List.mem_singleton.mpr rfl)
              obtain ⟨q1, q2, q3, q4⟩ := ixN_seq em
              obtain ⟨w, hw, dw⟩ := dd.get ez
              have hx2 : xs.length ≤ 16777216 := hx
              refine ⟨a1, vs, k, m, w, rfl, by rw [hy], hH1, by omega, by omega, by rw [hlen]; exact q1, hw, ?_⟩
              have r3 := j5 a1 (.lst vs) (.lst (vs.eraseIdx m)) (.ol (xs.eraseIdx m)) ⟨[], [], _, .refl _, ⟨a1, _, rfl, dd.erase m, rfl⟩, .refl _⟩
              obtain ⟨E5, E6, r3⟩ := r3
              have ei' : (env.set j (some (.ol (xs.eraseIdx m))))[i]? = some (some p0) := by rw [List.getElem?_set_ne (Ne.symm hij)]; exact ei
              have r4 : RF X.mg G Z (upd H1 a1 (.lst (vs.eraseIdx m))) F4 σ (env.set j (some (.ol (xs.eraseIdx m)))) ((w, .st (.fz z)) :: T) E5 ([] ++ E6) := ⟨r3.gf, r3.fg, r3.fh, r3.zh, r3.ev, .st ⟨dw, rfl⟩ r3.tm, r3.gd⟩
              obtain ⟨v2, L2, B2, j1, j2, j3, j4, j5⟩ := r4.write hT ei'
              rw [k1] at j1
              obtain rfl := Option.some.inj (Option.some.inj j1)
              obtain ⟨a2, vs2, e1, m1, m2, wr⟩ := own_app ep j2 j3
              cases e1
              exact ⟨a0, vs2, w, rfl, rfl, j4 _ m1, by rw [m2]; exact hsz, p1 σ _ (let ⟨_, _, z⟩ := j5 _ _ _ _ wr; z.r)⟩
            · exact p1.elim
          · exact p1.elim
        · exact p1.elim
      · exact p1.elim
    · exact p.elim
  · exact p.elim
end
end J
namespace J
open PySem PySem.Spec PyProof.Rows L2
/-! ### x[k] = e -/
def putKV {κ α : Type} [DecidableEq κ] (kvs : List (κ × α)) (k : κ) (v : α) : List (κ × α) := if kvs.any (fun kv => decide (kv.1 = k)) then kvs.map (fun kv => if kv.1 = k then (kv.1, v) else kv) else kvs ++ [(k, v)]
def OV.isD2 : OV → Bool
  | .oK _ => true
  | .oT _ => true
  | .dd _ => true
  | _ => false
def OV.put (p : OV) (k : FV) (o : OV) : Option OV := match p, k, o with
  | .ol xs, .int i, .fz x => (ixN xs.length i).map fun j => .ol (xs.set j x)
  | .dl os, .int i, o => (ixN os.length i).map fun j => .dl (os.set j o)
  | .oK kvs, k, .fz x => k.key?.map fun k => .oK (putKV kvs k x)
  | .oK [], k, o => k.key?.map fun k => .dd [(k, o)]
  | .dd kvs, k, o => k.key?.bind fun k => if kvs.any (fun kv => decide (kv.1 = k)) then none else some (.dd (kvs ++ [(k, o)]))
  | .oT kvs, k, .fz x => k.keyT?.map fun k => .oT (putKV kvs k x)
  | _, _, _ => none
section
variable {M : Str → Option Value} {G Z H F : Hp} {σ : Sl} {env : VEnv} {T : List (V × Rv)} {o p p' : OV} {v y : V} {i : Nat} {L B : Cells} {L1 L2 : Cells} {a : Addr} {ho ho' : HO}
theorem OwnL.put {os : List OV} {vs : List V} (h : OwnL M F os vs L) (d : Own M F o y B) : ∀ {j : Nat}, j < os.length → ∃ D A L', L.Perm (A ++ D) ∧ OwnL M F (os.set j o) (vs.set j y) L' ∧ L'.Perm (A ++ B) := by
  induction os generalizing vs L with
  | nil => intro j hj; simp at hj
  | cons x os ih =>
    intro j hj
    obtain ⟨v, ws, A, C, e, q, r, e2⟩ := h
    subst e e2
    cases j with
    | zero => exact ⟨A, C, _, List.perm_append_comm, ⟨y, ws, B, C, rfl, d, r, rfl⟩, List.perm_append_comm⟩
    | succ j =>
      obtain ⟨D, A2, L', q1, q2, q3⟩ := ih r (j := j) (by simpa using hj)
      refine ⟨D, A ++ A2, _, ?_, ⟨v, _, A, L', rfl, q, q2, rfl⟩, ?_⟩
      · rw [List.append_assoc]; exact List.Perm.append_left A q1
      · rw [List.append_assoc]; exact List.Perm.append_left A q3
theorem FDenL.put {x : FV} {xs : List FV} {vs : List V} (h : FDenL M F xs vs) (d : FDen M F x y) : ∀ (j : Nat), FDenL M F (xs.set j x) (vs.set j y) := by
  induction xs generalizing vs with
  | nil => intro j; rw [show vs = [] from h]; exact rfl
  | cons z xs ih =>
    intro j
    obtain ⟨v, ws, e, q, r⟩ := h
    subst e
    cases j with
    | zero => exact ⟨y, ws, rfl, d, r⟩
    | succ j => exact ⟨v, _, rfl, q, ih r j⟩
theorem FDenK.any {kvs : List (Key × FV)} {ws : List (Key × V)} (h : FDenK M F kvs ws) (k : Key) : kvs.any (fun kv => decide (kv.1 = k)) = ws.any (fun kv => decide (kv.1 = k)) := by
  induction kvs generalizing ws with
  | nil => rw [show ws = [] from h]; rfl
  | cons p kvs ih =>
    obtain ⟨j, x⟩ := p
    obtain ⟨v, rs, e, q, r⟩ := h
    subst e
    rw [List.any_cons, List.any_cons, ih r]
theorem FDenT.any {kvs : List (List Key × FV)} {ws : List (List Key × V)} (h : FDenT M F kvs ws) (k : List Key) : kvs.any (fun kv => decide (kv.1 = k)) = ws.any (fun kv => decide (kv.1 = k)) := by
  induction kvs generalizing ws with
  | nil => rw [show ws = [] from h]; rfl
  | cons p kvs ih =>
    obtain ⟨j, x⟩ := p
    obtain ⟨v, rs, e, q, r⟩ := h
    subst e
    rw [List.any_cons, List.any_cons, ih r]
theorem OwnK.any {kvs : List (Key × OV)} {ws : List (Key × V)} (h : OwnK M F kvs ws L) (k : Key) : kvs.any (fun kv => decide (kv.1 = k)) = ws.any (fun kv => decide (kv.1 = k)) := by
  induction kvs generalizing ws L with
  | nil => rw [h.1]; rfl
  | cons p kvs ih =>
    obtain ⟨j, x⟩ := p
    obtain ⟨v, rs, A, C, e, q, r, _⟩ := h
    subst e
    rw [List.any_cons, List.any_cons, ih r]
theorem FDenK.snoc {x : FV} {k : Key} {kvs : List (Key × FV)} {ws : List (Key × V)} (h : FDenK M F kvs ws) (d : FDen M F x y) : FDenK M F (kvs ++ [(k, x)]) (ws ++ [(k, y)]) := by
  induction kvs generalizing ws with
  | nil => rw [show ws = [] from h]; exact ⟨y, [], rfl, d, rfl⟩
  | cons p kvs ih =>
    obtain ⟨j, z⟩ := p
    obtain ⟨v, rs, e, q, r⟩ := h
    subst e
    exact ⟨v, _, rfl, q, ih r⟩
theorem FDenT.snoc {x : FV} {k : List Key} {kvs : List (List Key × FV)} {ws : List (List Key × V)} (h : FDenT M F kvs ws) (d : FDen M F x y) : FDenT M F (kvs ++ [(k, x)]) (ws ++ [(k, y)]) := by
  induction kvs generalizing ws with
  | nil => rw [show ws = [] from h]; exact ⟨y, [], rfl, d, rfl⟩
  | cons p kvs ih =>
    obtain ⟨j, z⟩ := p
    obtain ⟨v, rs, e, q, r⟩ := h
    subst e
    exact ⟨v, _, rfl, q, ih r⟩
theorem OwnK.snoc {k : Key} {kvs : List (Key × OV)} {ws : List (Key × V)} (h : OwnK M F kvs ws L) (d : Own M F o y B) : OwnK M F (kvs ++ [(k, o)]) (ws ++ [(k, y)]) (L ++ B) := by
  induction kvs generalizing ws L with
  | nil =>
    obtain ⟨e1, e2⟩ := h
    subst e1 e2
    exact ⟨y, [], B, [], rfl, d, ⟨rfl, rfl⟩, by simp⟩
  | cons p kvs ih =>
    obtain ⟨j, z⟩ := p
    obtain ⟨v, rs, A, C, e, q, r, e2⟩ := h
    subst e e2
    exact ⟨v, _, A, _, rfl, q, ih r, by rw [List.append_assoc]⟩
theorem FDenK.repl {x : FV} {k : Key} {kvs : List (Key × FV)} {ws : List (Key × V)} (h : FDenK M F kvs ws) (d : FDen M F x y) : FDenK M F (kvs.map fun kv => if kv.1 = k then (kv.1, x) else kv) (ws.map fun kv => if kv.1 = k then (kv.1, y) else kv) := by
  induction kvs generalizing ws with
  | nil => rw [show ws = [] from h]; exact rfl
  | cons p kvs ih =>
    obtain ⟨j, z⟩ := p
    obtain ⟨v, rs, e, q, r⟩ := h
    subst e
    rw [List.map_cons, List.map_cons]
    by_cases hj : j = k
    · simp only [hj, if_true]; exact ⟨y, _, rfl, d, ih r⟩
    · simp only [hj, if_false]; exact ⟨v, _, rfl, q, ih r⟩
theorem FDenT.repl {x : FV} {k : List Key} {kvs : List (List Key × FV)} {ws : List (List Key × V)} (h : FDenT M F kvs ws) (d : FDen M F x y) : FDenT M F (kvs.map fun kv => if kv.1 = k then (kv.1, x) else kv) (ws.map fun kv => if kv.1 = k then (kv.1, y) else kv) := by
  induction kvs generalizing ws with
  | nil => rw [show ws = [] from h]; exact rfl
  | cons p kvs ih =>
    obtain ⟨j, z⟩ := p
    obtain ⟨v, rs, e, q, r⟩ := h
    subst e
    rw [List.map_cons, List.map_cons]
    by_cases hj : j = k
    · simp only [hj, if_true]; exact ⟨y, _, rfl, d, ih r⟩
    · simp only [hj, if_false]; exact ⟨v, _, rfl, q, ih r⟩
theorem FDenK.put {x : FV} {k : Key} {kvs : List (Key × FV)} {ws : List (Key × V)} (h : FDenK M F kvs ws) (d : FDen M F x y) : FDenK M F (putKV kvs k x) (putK ws k y) := by
  unfold putKV putK
  rw [h.any]
  split
  · exact h.repl d
  · exact h.snoc d
theorem FDenT.put {x : FV} {k : List Key} {kvs : List (List Key × FV)} {ws : List (List Key × V)} (h : FDenT M F kvs ws) (d : FDen M F x y) : FDenT M F (putKV kvs k x) (putK ws k y) := by
  unfold putKV putK
  rw [h.any]
  split
  · exact h.repl d
  · exact h.snoc d
theorem FDenT.length {kvs : List (List Key × FV)} {ws : List (List Key × V)} (h : FDenT M F kvs ws) : ws.length = kvs.length := by
  induction kvs generalizing ws with
  | nil => rw [show ws = [] from h]; rfl
  | cons p kvs ih => obtain ⟨j, z⟩ := p; obtain ⟨v, rs, e, q, r⟩ := h; subst e; rw [List.length_cons, List.length_cons, ih r]
theorem OwnK.length {kvs : List (Key × OV)} {ws : List (Key × V)} (h : OwnK M F kvs ws L) : ws.length = kvs.length := by
  induction kvs generalizing ws L with
  | nil => rw [h.1]; rfl
  | cons p kvs ih => obtain ⟨j, z⟩ := p; obtain ⟨v, rs, A, C, e, q, r, _⟩ := h; subst e; rw [List.length_cons, List.length_cons, ih r]
/-- what x[k] = e does -/
theorem own_put {k : FV} {w : V} (e : p.put k o = some p') (h : Own M F p v L) (d : Own M F o y B) (dk : FDen M H k w) (hH : ∀ q ∈ L, H q.1 = some q.2) (hs : p.size < BIG) :
    (p.isL = true ∧ ∃ a vs i j, v = .ref a ∧ w = .int i ∧ H a = some (.lst vs) ∧ ixN vs.length i = some j ∧ Wrote M F L B v a (.lst vs) (.lst (vs.set j y)) p') ∨
    (p.isD2 = true ∧ ∃ a ho ho', v = .ref a ∧ DPut H a w y (upd H a ho') ∧ Wrote M F L B v a ho ho' p') := by
  unfold OV.put at e
  split at e
  · rename_i xs i x
    obtain ⟨j, ej, e⟩ := Option.map_eq_some_iff.mp e
    subst e
    obtain ⟨a, vs, e1, r, e2⟩ := h
    obtain ⟨d, hB⟩ := d
    subst hB e1 e2
    exact .inl ⟨rfl, a, vs, i, j, rfl, dk, hH _ (List.mem_singleton.mpr rfl), by rw [r.length]; exact ej, [], [], _, .refl _, ⟨a, _, rfl, r.put d j, rfl⟩, .refl _⟩
  · rename_i os i
    obtain ⟨j, ej, e⟩ := Option.map_eq_some_iff.mp e
    subst e
    obtain ⟨a, vs, L', e1, r, e2⟩ := h
    subst e1 e2
    obtain ⟨D, A, L2, q1, q2, q3⟩ := r.put d (ixN_seq ej).2.1
    exact .inl ⟨rfl, a, vs, i, j, rfl, dk, hH _ List.mem_cons_self, by rw [r.length]; exact ej, A, D, _, q1.cons _, ⟨a, _, _, rfl, q2, rfl⟩, q3.cons _⟩
  · rename_i kvs k x
    obtain ⟨k', ek, e⟩ := Option.map_eq_some_iff.mp e
    subst e
    obtain ⟨a, ws, e1, r, e2⟩ := h
    obtain ⟨d, hB⟩ := d
    subst hB e1 e2
    refine .inr ⟨rfl, a, .dK ws, .dK (putK ws k' y), rfl, ?_, [], [], _, .refl _, ⟨a, _, rfl, r.put d, rfl⟩, .refl _⟩
    rw [dk.key ek]
    exact DPut.k (hH (a, .dK ws) (List.mem_singleton.mpr rfl)) (by rw [r.length, big_eq]; exact hs)
  · rename_i k o _
    obtain ⟨k', ek, e⟩ := Option.map_eq_some_iff.mp e
    subst e
    obtain ⟨a, ws, e1, r, e2⟩ := h
    cases (show ws = [] from r)
    subst e1 e2
    refine .inr ⟨rfl, a, .dK [], .dK [(k', y)], rfl, ?_, [], [], _, .refl _, ⟨a, _, _, rfl, ⟨y, [], B, [], rfl, d, ⟨rfl, rfl⟩, rfl⟩, rfl⟩, by simp⟩
    rw [dk.key ek]
    exact DPut.k (kvs := []) (k := k') (hH (a, .dK []) (List.mem_singleton.mpr rfl)) (by rw [big_eq]; decide)
  · rename_i kvs k o
    obtain ⟨k', ek, e⟩ := Option.bind_eq_some_iff.mp e
    split at e
    · cases e
    · rename_i hn
      cases e
      obtain ⟨a, ws, L', e1, r, e2⟩ := h
      subst e1 e2
      have hp : putK ws k' y = ws ++ [(k', y)] := by
        unfold putK
        rw [← r.any, if_neg hn]
      refine .inr ⟨rfl, a, .dK ws, .dK (putK ws k' y), rfl, ?_, L', [], _, by simp, ⟨a, _, _, rfl, by rw [hp]; exact r.snoc d, rfl⟩, .refl _⟩
      rw [dk.key ek]
      exact DPut.k (hH (a, .dK ws) List.mem_cons_self) (by rw [r.length, big_eq]; exact hs)
  · rename_i kvs k x
    obtain ⟨k', ek, e⟩ := Option.map_eq_some_iff.mp e
    subst e
    obtain ⟨a, ws, e1, r, e2⟩ := h
    obtain ⟨d, hB⟩ := d
    subst hB e1 e2
    obtain ⟨b, eb, hb⟩ := dk.keyT ek
    subst eb
    exact .inr ⟨rfl, a, .dT ws, .dT (putK ws k' y), rfl, DPut.t (hH (a, .dT ws) (List.mem_singleton.mpr rfl)) hb (by rw [r.length, big_eq]; exact hs), [], [], _, .refl _, ⟨a, _, rfl, r.put d, rfl⟩, .refl _⟩
  · cases e
end
theorem isL_D2 {p : OV} (h : p.isL = true) (h2 : p.isD2 = true) : False := by
  cases p <;> simp [OV.isL, OV.isD2] at h h2
def dPut (i : Nat) (fk fe : DE) : DS := fun env => match env[i]? with
  | some (some p) => if p.isL || p.isD2 then (fe env).bind fun r => match r with
      | .st o => (fk env).bind fun kr => if p.size < BIG then match p.put kr.fv o with
          | some p' => .ok (.nx (env.set i (some p')))
          | none => .no
        else .no
      | _ => .no
    else .no
  | _ => .no
theorem tE.bindS2 {M : Str → Option Value} {G Z H : Hp} {σ : Sl} {env : VEnv} {T T2 : List (V × Rv)} {W : WX} {D : Ends} {f : DE} {k : Rv → Ans SO} {Q1 : VK} (r : R M G Z H σ env T2) (hs : Sb T T2) (p : PostS M W G Z T D ((f env).bind k))
    (h : ∀ rv v H1, f env = .ok rv → Same H H1 → R M G Z H1 σ env ((v, rv) :: T2) → PostS M W G Z T D (k rv) → Q1 v H1) : tE M W f σ H Q1 := by
  refine tE.then r hs (fun rv v H1 e s r => h rv v H1 e s r ?_) (fun c C H1 e m s r => ?_) fun e => ?_
  · rw [e] at p; exact p
  · rw [e] at p
    obtain ⟨_, _, _, r⟩ := r
    exact p C σ H1 m r.zh
  · rw [e] at p; exact p
section
variable {X : Cx} {W : WX} {pos pos' apos tpos : Pos} {e k : Expr} {f fk fe : DE} {x : Str}
theorem put_run {M : Str → Option Value} {G Z H : Hp} {σ : Sl} {env : VEnv} {T : List (V × Rv)} {i : Nat} {D : Ends} {p : OV} (hT : AllSt T) (ei : env[i]? = some (some p)) (r : R M G Z H σ env T) (h : PostS M W G Z T D ((fe env).bind fun r => match r with
      | .st o => (fk env).bind fun kr => if p.size < BIG then match p.put kr.fv o with
          | some p' => .ok (.nx (env.set i (some p')))
          | none => .no
        else .no
      | _ => .no)) (Qf : V → V → V → Hp → Prop)
    (hQ : ∀ a w y H3, ((p.isL = true ∧ ∃ vs i j, w = .int i ∧ H3 a = some (.lst vs) ∧ ixN vs.length i = some j ∧ D.nx σ (upd H3 a (.lst (vs.set j y)))) ∨ (p.isD2 = true ∧ ∃ H4, DPut H3 a w y H4 ∧ D.nx σ H4)) → Qf (.ref a) w y H3) :
    tE M W fe σ H fun y H1 => ∃ v, σ[i]? = some (some v) ∧ tE M W fk σ H1 fun w H3 => Qf v w y H3 := by
  refine tE.bindS r h fun rv y H1 _ s1 r1 p1 => ?_
  cases rv with
  | bo o => exact p1.elim
  | st o =>
    simp only at p1
    obtain ⟨F1, D1, D2, r1⟩ := r1
    obtain ⟨v0, A0, _, h1, _⟩ := r1.ev.repl ei
    refine ⟨v0, h1, ?_⟩
    refine tE.bindS2 r1.r Sb.refl.cons p1 fun kr w H3 _ s3 r3 p3 => ?_
    split at p3
    · rename_i hs
      split at p3
      · rename_i p' ep
        obtain ⟨F3, D3, D4, r3⟩ := r3
        have dk : FDen M H3 kr.fv w := (r3.bor (List.mem_cons_self (a := (w, kr)))).fden r3.fh
        obtain ⟨F4, D5, D6, r4⟩ := r3.r.pop
        obtain ⟨v, L, B, j1, j2, j3, j4, j5⟩ := r4.write hT ei
        rw [h1] at j1
        obtain rfl := Option.some.inj (Option.some.inj j1)
        rcases own_put ep j2 j3 dk j4 hs with ⟨hp, a, vs, n, j, e1, e2, e3, e4, wr⟩ | ⟨hp, a, ho, ho', e1, e2, wr⟩
        · subst e1
          exact hQ a w y H3 (.inl ⟨hp, vs, n, j, e2, e3, e4, p3 σ _ (let ⟨_, _, z⟩ := j5 _ _ _ _ wr; z.r)⟩)
        · subst e1
          exact hQ a w y H3 (.inr ⟨hp, _, e2, p3 σ _ (let ⟨_, _, z⟩ := j5 _ _ _ _ wr; z.r)⟩)
      · exact p3.elim
    · exact p3.elim
theorem js_put (i : Nat) (hu : X.A.units + 1 < cLine) (hk : JE X W k fk) (he : JE X W e fe) (hN : X.N[i]? = some x := by rfl) (hv : Vis X.env.scope x := by first | exact Or.inl rfl | exact Or.inr (Or.inl rfl) | exact Or.inr (Or.inr rfl))
    (hd : (x == ("__debug__" : Str)) = false := by decide) (hcd : (x == ("__classdict__" : Str)) = false := by decide)
    (hs1 : swapsWith e (some (.Subscript (.Name x pos') k tpos)) pos.line X.env = pure false := by rfl)
    (hs : swapsWithSole [.Subscript (.Name x pos') k tpos] e pos.line X.env = pure false := by rfl) (hw : swappedStores [.Subscript (.Name x pos') k tpos] e X.env = pure none := by rfl)
    (h1 : (assignEach [.Subscript (.Name x pos') k tpos] X.env).map (·.2) = [assign (.Subscript (.Name x pos') k tpos) X.env] := by rfl)
    (ha : ∀ v, assign (.Subscript (.Name x pos') k tpos) X.env v = (do
      let ov ← holding [v] (eval (.Name x pos') X.env)
      let iv ← holding [v, ov] (eval k X.env)
      standAt tpos
      holding [v, ov, iv] (setItem ov iv v)
      release [v, ov, iv] []) := by intro _; rfl) :
    JS X W (.Assign [.Subscript (.Name x pos') k tpos] e pos) (dPut i fk fe) := by
  refine PS.imp (PS.or (ps_asg he (pg_sub (pe_var (pos := pos') hN hv hd hcd) hk set_list ha) hs hw h1) (ps_dput hu (pe_var (pos := pos') hN hv hd hcd) hk he hs1)) fun D σ H ⟨G, Z, env, T, hT, r, p⟩ => ?_
  unfold dPut at p
  split at p
  · rename_i q ei
    split at p
    · rename_i hq
      rw [Bool.or_eq_true] at hq
      rcases hq with hq | hq
      · refine .inl (put_run hT ei r p (fun o i y H3 => rSetL o i y H3 fun H4 => D.nx σ H4) fun a w y H3 h => ?_)
        rcases h with ⟨_, vs, n, j, e1, e2, e3, e4⟩ | ⟨hd, _⟩
        · exact ⟨a, vs, n, j, rfl, e1, e2, e3, e4⟩
        · exact (isL_D2 hq hd).elim
      · refine .inr (put_run hT ei r p (fun o i y H3 => ∃ a H4, o = .ref a ∧ DPut H3 a i y H4 ∧ D.nx σ H4) fun a w y H3 h => ?_)
        rcases h with ⟨hl, _⟩ | ⟨_, H4, e1, e2⟩
        · exact (isL_D2 hl hq).elim
        · exact ⟨a, H4, rfl, e1, e2⟩
    · exact p.elim
  · exact p.elim
end
end J
namespace J
open PySem PySem.Spec PyProof.Rows L2
/-! ### sorted -/
def FV.enc (x : FV) : PyData := x.toD.getD .none
def sortFV (xs : List FV) : List FV := xs.mergeSort (PySem.W.dataLe false FV.enc)
def tupD : PyData → Bool
  | .tuple (_ :: _) => true
  | _ => false
def othD : PyData → Bool
  | .none => false
  | .tuple _ => false
  | _ => true
def sortOk (xs : List FV) : Bool := xs.all (fun x => x.toD.isSome) && xs.all (fun x => xs.all fun y => PySem.W.alike x.enc y.enc) && (xs.all (fun x => tupD x.enc) || xs.all fun x => othD x.enc) && decide (xs.length ≤ BIG) && xs.all fun x => decide (x.enc.depth ≤ 60)
def opSorted : List OV → Option OV
  | [o] => o.lst?.bind fun xs => if sortOk xs then some (.ol (sortFV xs)) else none
  | _ => none
/-- a value that stands for the frozen x -/
def SF (M : Str → Option Value) (F : Hp) (u : Value) (x : FV) : Prop := ∃ v, RelV v u ∧ FDen M F x v
theorem sf_of {M : Str → Option Value} {F : Hp} : ∀ {xs : List FV} {vs : List V} {us : List Value}, FDenL M F xs vs → Vals vs us → PySem.W.EachIs (SF M F) us xs
  | [], _, _, d, r => by
    rw [show _ = [] from d] at r
    cases r
    exact .nil
  | x :: xs, _, _, ⟨v, ws, e, d, q⟩, r => by
    rw [e] at r
    cases r with
    | cons r1 r2 => exact .cons ⟨v, r1, d⟩ (sf_of q r2)
theorem of_sf {M : Str → Option Value} {F : Hp} : ∀ {xs : List FV} {us : List Value}, PySem.W.EachIs (SF M F) us xs → ∃ vs, FDenL M F xs vs ∧ Vals vs us
  | [], _, h => by cases h; exact ⟨[], rfl, .nil⟩
  | x :: xs, _, h => by
    cases h with
    | cons h1 h2 =>
      obtain ⟨v, r, d⟩ := h1
      obtain ⟨vs, q1, q2⟩ := of_sf h2
      exact ⟨v :: vs, ⟨v, vs, rfl, d, q1⟩, .cons r q2⟩
theorem tupD_of {d : PyData} (h : tupD d = true) : ∃ x r, d = .tuple (x :: r) := by
  unfold tupD at h
  split at h
  · exact ⟨_, _, rfl⟩
  · cases h
theorem othD_of {d : PyData} (h : othD d = true) : d ≠ .none ∧ ∀ xs, d ≠ .tuple xs := by
  constructor
  · rintro rfl; cases h
  · rintro xs rfl; cases h
section
variable {X : Cx}
theorem sf_reads {pins : List (Addr × Obj)} {σ : Sl} {H F : Hp} {s : Shared} (I : Inv X pins σ H s) (hf : Same F H) : ∀ {xs : List FV} {us : List Value}, xs.all (fun x => x.toD.isSome) = true → PySem.W.EachIs (SF X.mg F) us xs → PySem.W.EachIs (fun u x => ∃ as, Reads s.heap u x.enc as) us xs
  | [], _, _, h => by cases h; exact .nil
  | x :: xs, _, ha, h => by
    cases h with
    | cons h1 h2 =>
      rw [List.all_cons, Bool.and_eq_true] at ha
      obtain ⟨v, r, d⟩ := h1
      refine .cons ?_ (sf_reads I hf ha.2 h2)
      obtain ⟨dd, e⟩ := Option.isSome_iff_exists.mp ha.1
      have : x.enc = dd := by unfold FV.enc; rw [e]; rfl
      rw [this]
      exact Dp.reads I dd v _ ((d.mono hf).dp e) r
theorem sortable_of {xs : List FV} (h : (xs.all (fun x => tupD x.enc) || xs.all fun x => othD x.enc) = true) : PySem.W.Sortable (xs.map FV.enc) := by
  rw [Bool.or_eq_true] at h
  rcases h with h | h
  · refine .inl fun d hd => ?_
    obtain ⟨x, hx, rfl⟩ := List.mem_map.mp hd
    exact tupD_of (List.all_eq_true.mp h x hx)
  · refine .inr fun d hd => ?_
    obtain ⟨x, hx, rfl⟩ := List.mem_map.mp hd
    exact othD_of (List.all_eq_true.mp h x hx)
theorem alike_of {xs : List FV} (h : xs.all (fun x => xs.all fun y => PySem.W.alike x.enc y.enc) = true) : PySem.W.AllAlike (xs.map FV.enc) := by
  intro d hd d' hd'
  obtain ⟨x, hx, rfl⟩ := List.mem_map.mp hd
  obtain ⟨y, hy, rfl⟩ := List.mem_map.mp hd'
  exact List.all_eq_true.mp (List.all_eq_true.mp h x hx) y hy
theorem cj_sorted (hu : X.A.units + 62 < cLine) : CallR X (.builtin "sorted") (rJn X.mg opSorted) := by
  rintro pins s σ H us vs Q I rs ⟨F, os, o, hf, ps, e, k⟩
  unfold opSorted at e
  split at e
  · rename_i q
    obtain ⟨xs, e1, e2⟩ := Option.bind_eq_some_iff.mp e
    split at e2
    · rename_i hs
      cases e2
      obtain ⟨u, rfl, b⟩ := paired1 ps
      obtain ⟨a, ws, rfl, hq, d⟩ := b.lst hf e1
      rw [Vals.ref1 rs]
      obtain ⟨its, rv, hl, hz⟩ := I.list (SqL.of (K := X.K) hq)
      unfold sortOk at hs
      simp only [Bool.and_eq_true] at hs
      obtain ⟨⟨⟨⟨h1, h2⟩, h3⟩, h4⟩, h5⟩ := hs
      have es := sf_of d rv
      refine PySem.W.sorted_data (enc := FV.enc) (bs := xs) hl.isList es (sf_reads I hf h1 es) (alike_of h2) (sortable_of h3) (by rw [big_eq]; exact of_decide_eq_true h4) (fun b hb => ?_) fun out ho eo => ?_
      · have := of_decide_eq_true (List.all_eq_true.mp h5 b hb)
        omega
      · obtain ⟨ys, q1, q2⟩ := of_sf eo
        obtain ⟨ep, he'⟩ := PyProof.Rows.sortedAll_at s.heap its out.toArray
        have hlen : ys.length ≤ sizeLine := by
          rw [q1.length, List.length_mergeSort, big_eq]
          exact of_decide_eq_true h4
        exact ⟨.ref _, upd H (s.heap.objs.size + 1) (.lst ys), I.laid (t' := s.toks) (fun _ _ => PyProof.Rows.sortedAll_old) (Nat.le_succ _) ⟨hlen, out, ep, q2, he'⟩, rfl, k _ _ (New.lst hf (I.hok.fresh (Nat.le_succ _)) q1)⟩
    · cases e2
  · cases e
end
end J
namespace J
open PySem PySem.Spec PyProof.Rows L2
/-! ### the keys of a dict -/
def keyF : Key → FV
  | .inl i => .int i
  | .inr x => .str x
def tKeys (te : TE) (r : List Key → Hp → VK → Prop) : TE := fun σ H Q => te σ H fun x H1 => ∃ d kvs, x = .ref d ∧ Rd H1 d (.dK kvs) ∧ r (kvs.map (·.1)) H1 Q
def rKeysL : List Key → Hp → VK → Prop := fun ks H Q => ∀ p, H p = none → Q (.ref p) (upd H p (.lst (ks.map kV)))
def rKeysS : List Key → Hp → VK → Prop := fun ks H Q => sortOk (ks.map keyF) = true ∧ ∀ ys p, (∀ M F, FDenL M F (sortFV (ks.map keyF)) ys) → H p = none → Q (.ref p) (upd H p (.lst ys))
theorem keyF_den {M : Str → Option Value} {F : Hp} : ∀ ks : List Key, FDenL M F (ks.map keyF) (ks.map kV)
  | [] => rfl
  | .inl i :: ks => ⟨.int i, _, rfl, rfl, keyF_den ks⟩
  | .inr x :: ks => ⟨.str x, _, rfl, rfl, keyF_den ks⟩
theorem keyF_flat {M M' : Str → Option Value} {F F' : Hp} : ∀ {xs : List FV} {vs : List V}, (∀ x ∈ xs, ∃ k, x = keyF k) → FDenL M F xs vs → FDenL M' F' xs vs
  | [], _, _, h => h
  | x :: xs, _, hk, ⟨v, ws, e, d, r⟩ => by
    refine ⟨v, ws, e, ?_, keyF_flat (fun x hx => hk x (List.mem_cons_of_mem _ hx)) r⟩
    obtain ⟨k, rfl⟩ := hk x List.mem_cons_self
    cases k with
    | inl i => exact d
    | inr x => exact d
theorem keyF_reads {h : Heap} {a : Addr} : ∀ {ks : List Key} {us : List Value}, Vals (ks.map kV) us → PySem.W.EachIs (fun v b => ∃ as, Reads h v (FV.enc b) as ∧ a ∉ as) us (ks.map keyF)
  | [], _, r => by cases r; exact .nil
  | .inl i :: ks, _, r => by
    cases r with
    | cons r1 r2 =>
      obtain ⟨t, rfl⟩ := r1
      exact .cons ⟨[], .int i t, by simp⟩ (keyF_reads r2)
  | .inr x :: ks, _, r => by
    cases r with
    | cons r1 r2 =>
      obtain ⟨t, rfl⟩ := r1
      exact .cons ⟨[], .str x t, by simp⟩ (keyF_reads r2)
section
variable {X : Cx} {e : Expr} {te : TE} {p apos cpos pos : Pos}
/-- what a walk over the keys gave, as values of the model -/
theorem keys_of {kvs : List (Key × V)} {vs : List (Key × Value)} {us : Array Value} (rel : KV kvs vs) (h : ItemsOf (fun i v => ∃ k x, vs[i]? = some (k, x) ∧ (mixKind X.prog X.w).is k v = true) us vs.length) : Vals ((kvs.map (·.1)).map kV) us.toList := by
  rw [rel.keys, List.map_map]
  exact L2.keys_at (by rw [Array.length_toList]; exact h.1) fun j v e => h.2 j v (by rw [← Array.getElem?_toList]; exact e)
/-- the view that d.keys() makes -/
abbrev keysView (d : Addr) : Obj := { cls := .type "dict_keys", data := .fields #[.ref d] }
/-- d.keys() by itself: a view of d, and all else as it was -/
theorem ev_view {pins : List (Addr × Obj)} {σ : L2.St} {H : Hp} {s : Shared} {C : List (Key × V) → Hp → Prop} {Q : Value → Shared → Prop} (he : PE X e te) (hbase : attributeBase e "keys" X.env (eval e X.env) = eval e X.env) (hline : (apos.endLine == cpos.line) = true) (I : Inv X pins σ H s)
    (ht : te σ H fun x H1 => ∃ d kvs, x = .ref d ∧ Rd H1 d (.dK kvs) ∧ C kvs H1)
    (q : ∀ (t : Shared) H1 d kvs vs ep, C kvs H1 → KV kvs vs → vs.length ≤ sizeLine → t.heap.DictAt (mixKind X.prog X.w) d vs ep → Inv X pins σ H1 t → Inv X pins σ H1 { t with heap := t.heap.push (keysView d) } → Q (.ref t.heap.objs.size) { t with heap := t.heap.push (keysView d) }) :
    wpAny (model X.prog X.w) X.A (eval (.Call (.Attribute e "keys" apos) [] [] cpos) X.env) Q X.xe s := by
  refine wpAny_Call_method (T := "dict") (id := "dict.keys") hbase rfl hline F.plainAttrs_dict F.slot_dict_keys F.type_dict_keys (thn (he.run pins s σ H _ I ht) ?_)
  rintro u t ⟨_, H1, I1, ru, d, kvs, rfl, hd, c⟩
  cases ru
  have ⟨few, notSys, vs, kv, isD⟩ := dk_rd I1.hok hd
  have ⟨ep, at_d⟩ := isD.dictAt
  rw [Paired.length kv] at few
  have I2 : Inv X pins σ H1 { t with heap := t.heap.push (keysView d) } := I1.kept (t' := t.toks) fun _ _ => Heap.get?_push_of_some _
  have mk := PySem.W.kdl_meets_keys (mixKind X.prog X.w) d notSys
  exact ⟨isD.typeIs, isD.mapOf.noDict, method_meetsIn F.slot_dict_keys F.entry_dict_keys rfl (PySem.evalArgs_none ⟨rfl, isD.typeIs, F.args_dict_keys_1 _, _, mk, ⟨vs, isD⟩, q t H1 d kvs vs ep c kv few at_d I1 I2⟩)⟩
theorem view_ok {t : Shared} {d : Addr} {vs : List (Key × Value)} {ep : Nat} (h : t.heap.DictAt (mixKind X.prog X.w) d vs ep) : PySem.W.KdlKeysView (t.heap.push (keysView d)) t.heap.objs.size d ∧ (t.heap.push (keysView d)).DictAt (mixKind X.prog X.w) d vs ep := ⟨⟨_, Heap.get?_push_size _ rfl, rfl, rfl⟩, h.push _⟩
theorem pe_listKeys (hc : X.calm = true) (he : PE X e te) (hg : Gl X "list") (hm : X.mg "list" = none) (hv : bootBuiltins "list" = some (.type "list")) (hbase : attributeBase e "keys" X.env (eval e X.env) = eval e X.env := by rfl) (hline : (apos.endLine == cpos.line) = true := by rfl)
    (hs : starEach [.Call (.Attribute e "keys" apos) [] [] cpos] X.env = (false, eval (.Call (.Attribute e "keys" apos) [] [] cpos) X.env) :: starEach [] X.env := by rfl) :
    PE X (.Call (.Name "list" p) [.Call (.Attribute e "keys" apos) [] [] cpos] [] pos) (tKeys te rKeysL) := by
  constructor
  intro pins s σ H Q I hq
  refine wpAny_Call_Name_kw (ld_blt I hg hm hv (PyProof.Rows.callWith_type1 ?_ hs rfl))
  rw [hs]
  refine Calls.spliced_cons (ev_view (C := fun kvs H1 => rKeysL (kvs.map fun q : Key × V => q.1) H1 Q) (te := te) he hbase hline I hq fun t H1 d kvs vs ep c kv few at_d I1 I2 => Calls.spliced_nil ?_)
  refine PySem.W.kdl_call (PySem.W.kdl_keys (knd := mixKind X.prog X.w) (kvs := vs) (ep := ep)) (I1.ok.hd hc) (view_ok at_d) few fun h' tk acc c' old isL got => ?_
  have z := size_push' t.heap (keysView d)
  rw [z] at isL ⊢
  have free : H1 (t.heap.objs.size + 1) = none := I1.hok.fresh (Nat.le_succ _)
  refine ⟨.ref _, upd H1 (t.heap.objs.size + 1) (.lst ((kvs.map (·.1)).map kV)), I2.laid (t' := tk) old (Nat.le_of_eq z) ⟨?_, acc.toList, c', keys_of kv got, isL⟩, rfl, c _ free⟩
  rw [List.length_map, List.length_map, Paired.length kv]
  exact few
theorem pe_sortedKeys (hc : X.calm = true) (hu : X.A.units + 62 < cLine) (he : PE X e te) (hg : Gl X "sorted") (hm : X.mg "sorted" = none) (hv : bootBuiltins "sorted" = some (.builtin "sorted")) (hbase : attributeBase e "keys" X.env (eval e X.env) = eval e X.env := by rfl) (hline : (apos.endLine == cpos.line) = true := by rfl)
    (hs : starEach [.Call (.Attribute e "keys" apos) [] [] cpos] X.env = (false, eval (.Call (.Attribute e "keys" apos) [] [] cpos) X.env) :: starEach [] X.env := by rfl) :
    PE X (.Call (.Name "sorted" p) [.Call (.Attribute e "keys" apos) [] [] cpos] [] pos) (tKeys te rKeysS) := by
  constructor
  intro pins s σ H Q I hq
  refine wpAny_Call_Name_kw (ld_blt I hg hm hv (PyProof.Rows.callWith_builtin1 ?_ hs rfl))
  rw [hs]
  refine Calls.spliced_cons (ev_view (C := fun kvs H1 => rKeysS (kvs.map fun q : Key × V => q.1) H1 Q) he hbase hline I hq fun t H1 d kvs vs ep c kv few at_d I1 I2 => Calls.spliced_nil (Calls.call_function_entry kind_sorted plain_sorted entry_sorted (args_sorted1 _) ?_))
  have ⟨can, c⟩ := c
  -- the keys into a list of their own
  unfold Builtin.«sorted»
  refine wpAny_bind (m := checkCount _ _ _ _) (wpAny_pure (wpAny_bind (PySem.W.kdu_collect (A := X.A.in1) (PySem.W.kdl_keys (knd := mixKind X.prog X.w) (kvs := vs) (ep := ep)) (I1.ok.hd hc) (view_ok at_d) few fun h' tk acc old got => ?_)))
  have I3 : Inv X pins σ H1 { t with heap := h', toks := tk } := I2.kept (t' := tk) old
  have ks := keys_of kv got
  have zk : acc.toList.length = ((kvs.map (·.1)).map keyF).length := by
    have e := ks.length
    rw [List.length_map] at e
    rw [List.length_map, ← e]
  have fewF : ((kvs.map (·.1)).map keyF).length ≤ sizeLine := by
    rw [List.length_map, List.length_map, Paired.length kv]
    exact few
  refine wpAny_bind (wpAny_newList ?_ (zk ▸ fewF))
  -- and that list sorted
  have fresh : (h'.push (seqObj "list" acc.toList.toArray 0)).get? h'.objs.size = some (seqObj "list" acc.toList.toArray 0) := Heap.get?_push_size _ rfl
  have can' := can
  simp only [sortOk, Bool.and_eq_true] at can'
  have ⟨⟨⟨⟨_, alike⟩, able⟩, _⟩, units⟩ := can'
  refine wpAny_bind (wpAny_holding (PySem.W.list_sort_data (s := { t with heap := h'.push (seqObj "list" acc.toList.toArray 0), toks := tk }) (enc := FV.enc) fresh (sf_of (M := X.mg) (keyF_den (F := H1) _) ks) (keyF_reads ks) (alike_of alike) (sortable_of able) fewF (fun b hb => ?_) fun out ho eo => ?_))
  · have u := of_decide_eq_true (List.all_eq_true.mp units b hb)
    show X.A.units + 1 + 1 + _ < cLine
    omega
  · have ⟨ys, den, rel⟩ := of_sf eo
    have ⟨c', isL⟩ := sortedHeap_at (vs := acc.toList) (out := out.toArray) fresh
    have flat : ∀ M F, FDenL M F (sortFV ((kvs.map (·.1)).map keyF)) ys := fun M F => keyF_flat (fun x hx => by
      have ⟨k, _, e⟩ := List.mem_map.mp ((List.mergeSort_perm _ _).mem_iff.mp hx)
      exact ⟨k, e.symm⟩) den
    have fewY : ys.length ≤ sizeLine := by
      rw [den.length, List.length_mergeSort]
      exact fewF
    refine wpAny_pure ⟨_, rfl, .ref h'.objs.size, upd H1 h'.objs.size (.lst ys), I3.laid (t' := tk) (fun b u e => ?_) (Nat.le_refl _) ⟨fewY, out, c', rel, isL⟩, rfl, c ys _ flat (I3.hok.fresh (Nat.le_refl _))⟩
    have lt := Heap.lt_size e
    have e2 := Heap.get?_push_of_some (seqObj "list" acc.toList.toArray 0) e
    rwa [← sortedHeap_old (out := out.toArray) (Nat.ne_of_lt lt) (size_push' h' _ ▸ Nat.lt_succ_of_lt lt)] at e2
/-! as derivations -/
def dKeysL (f : DE) : DE := fun env => (f env).bind fun r => match r.ov with
  | .oK kvs => .ok (.st (.ol (kvs.map fun kv => keyF kv.1)))
  | .fz (.dK kvs) => .ok (.st (.ol (kvs.map fun kv => keyF kv.1)))
  | _ => .no
def dKeysS (f : DE) : DE := fun env => (f env).bind fun r => match r.ov with
  | .oK kvs => if sortOk (kvs.map fun kv => keyF kv.1) then .ok (.st (.ol (sortFV (kvs.map fun kv => keyF kv.1)))) else .no
  | .fz (.dK kvs) => if sortOk (kvs.map fun kv => keyF kv.1) then .ok (.st (.ol (sortFV (kvs.map fun kv => keyF kv.1)))) else .no
  | _ => .no
theorem FDenK.keys {M : Str → Option Value} {F : Hp} : ∀ {kvs : List (Key × FV)} {ws : List (Key × V)}, FDenK M F kvs ws → ws.map (·.1) = kvs.map (·.1)
  | [], _, h => by rw [show _ = [] from h]; rfl
  | (k, x) :: r, _, ⟨v, rs, e, _, q⟩ => by rw [e, List.map_cons, List.map_cons, q.keys]
theorem Bor.dK {M : Str → Option Value} {F H : Hp} {o : OV} {u : V} {kvs : List (Key × FV)} (hf : Same F H) (b : Bor M F H o u) (e : o = .oK kvs ∨ o = .fz (.dK kvs)) : ∃ d ws, u = .ref d ∧ H d = some (.dK ws) ∧ ws.map (·.1) = kvs.map (·.1) := by
  rcases e with rfl | rfl
  · obtain ⟨A, ⟨a, ws, e, d, q⟩, c⟩ := b
    exact ⟨a, ws, e, c (a, .dK ws) (by rw [q]; exact List.mem_singleton.mpr rfl), d.keys⟩
  · obtain ⟨A, ⟨⟨a, ws, e, q, d⟩, _⟩, c⟩ := b
    exact ⟨a, ws, e, hf _ _ q, d.keys⟩
theorem keysL_red {W : WX} {f : DE} {σ : Sl} {H : Hp} {Q : VK} (h : tE X.mg W (dKeysL f) σ H Q) : tKeys (tE X.mg W f) rKeysL σ H Q := by
  obtain ⟨G, Z, env, T, r, p⟩ := h
  refine tE.bind r Sb.refl p fun rv v H1 _ s1 ⟨F, C1, C2, r1⟩ p1 => ?_
  have hb : Bor X.mg F H1 rv.ov v := r1.bor List.mem_cons_self
  have fin : ∀ kvs : List (Key × FV), (rv.ov = .oK kvs ∨ rv.ov = .fz (.dK kvs)) → Post X.mg W G Z σ env T Q H1 (.ok (.st (.ol (kvs.map fun kv => keyF kv.1)))) → ∃ d kvs, v = .ref d ∧ Rd H1 d (.dK kvs) ∧ rKeysL (kvs.map (·.1)) H1 Q := fun kvs e p1 => by
    obtain ⟨d, ws, e1, e2, e3⟩ := hb.dK r1.fh e
    refine ⟨d, ws, e1, .inl e2, fun q hq => ?_⟩
    have den : FDenL X.mg F (kvs.map fun kv => keyF kv.1) ((ws.map (·.1)).map kV) := by
      rw [e3]
      have := keyF_den (M := X.mg) (F := F) (kvs.map (·.1))
      rw [List.map_map] at this
      exact this
    have n := New.lst r1.fh hq den
    exact p1 _ _ (let ⟨_, _, n⟩ := n; n.hh) ((r1.new n).sb (Sb.refl.cons.both))
  split at p1
  · rename_i kvs e
    exact fin kvs (.inl e) p1
  · rename_i kvs e
    exact fin kvs (.inr e) p1
  · exact p1.elim
theorem keysS_red {W : WX} {f : DE} {σ : Sl} {H : Hp} {Q : VK} (h : tE X.mg W (dKeysS f) σ H Q) : tKeys (tE X.mg W f) rKeysS σ H Q := by
  obtain ⟨G, Z, env, T, r, p⟩ := h
  refine tE.bind r Sb.refl p fun rv v H1 _ s1 ⟨F, C1, C2, r1⟩ p1 => ?_
  have hb : Bor X.mg F H1 rv.ov v := r1.bor List.mem_cons_self
  have fin : ∀ kvs : List (Key × FV), (rv.ov = .oK kvs ∨ rv.ov = .fz (.dK kvs)) → Post X.mg W G Z σ env T Q H1 (if sortOk (kvs.map fun kv => keyF kv.1) then .ok (.st (.ol (sortFV (kvs.map fun kv => keyF kv.1)))) else .no) → ∃ d kvs, v = .ref d ∧ Rd H1 d (.dK kvs) ∧ rKeysS (kvs.map (·.1)) H1 Q := fun kvs e p1 => by
    obtain ⟨d, ws, e1, e2, e3⟩ := hb.dK r1.fh e
    have em : (ws.map (·.1)).map keyF = kvs.map fun kv => keyF kv.1 := by rw [e3, List.map_map]; rfl
    split at p1
    · rename_i hs
      refine ⟨d, ws, e1, .inl e2, by rw [em]; exact hs, fun ys q hd hq => ?_⟩
      rw [em] at hd
      have n := New.lst r1.fh hq (hd X.mg F)
      exact p1 _ _ (let ⟨_, _, n⟩ := n; n.hh) ((r1.new n).sb (Sb.refl.cons.both))
    · exact p1.elim
  split at p1
  · rename_i kvs e
    exact fin kvs (.inl e) p1
  · rename_i kvs e
    exact fin kvs (.inr e) p1
  · exact p1.elim
theorem je_listKeys {W : WX} {f : DE} (hc : X.calm = true) (he : JE X W e f) (hm : X.mg "list" = none) (hg : Gl X "list" := by rfl) (hv : bootBuiltins "list" = some (.type "list") := by rfl) (hbase : attributeBase e "keys" X.env (eval e X.env) = eval e X.env := by rfl) (hline : (apos.endLine == cpos.line) = true := by rfl)
    (hs : starEach [.Call (.Attribute e "keys" apos) [] [] cpos] X.env = (false, eval (.Call (.Attribute e "keys" apos) [] [] cpos) X.env) :: starEach [] X.env := by rfl) :
    JE X W (.Call (.Name "list" p) [.Call (.Attribute e "keys" apos) [] [] cpos] [] pos) (dKeysL f) := PE.imp (pe_listKeys hc he hg hm hv hbase hline hs) fun σ H Q h => keysL_red h
theorem je_sortedKeys {W : WX} {f : DE} (hc : X.calm = true) (hu : X.A.units + 62 < cLine) (he : JE X W e f) (hm : X.mg "sorted" = none) (hg : Gl X "sorted" := by rfl) (hv : bootBuiltins "sorted" = some (.builtin "sorted") := by rfl) (hbase : attributeBase e "keys" X.env (eval e X.env) = eval e X.env := by rfl) (hline : (apos.endLine == cpos.line) = true := by rfl)
    (hs : starEach [.Call (.Attribute e "keys" apos) [] [] cpos] X.env = (false, eval (.Call (.Attribute e "keys" apos) [] [] cpos) X.env) :: starEach [] X.env := by rfl) :
    JE X W (.Call (.Name "sorted" p) [.Call (.Attribute e "keys" apos) [] [] cpos] [] pos) (dKeysS f) := PE.imp (pe_sortedKeys hc hu he hg hm hv hbase hline hs) fun σ H Q h => keysS_red h
end
end J
namespace J
open PySem PySem.Spec PyProof.Rows L2
/-! ### isinstance -/
def FV.ty? : FV → Option String
  | .non => some "NoneType"
  | .bl _ => some "bool"
  | .int _ => some "int"
  | .str _ => some "str"
  | .tup _ => some "tuple"
  | .tuz _ => some "tuple"
  | .lst _ => some "list"
  | .dK _ => some "dict"
  | .dT _ => some "dict"
  | .scr _ => some "list"
  | _ => none
def OV.ty? : OV → Option String
  | .fz x => x.ty?
  | .ol _ => some "list"
  | .dl _ => some "list"
  | .oK _ => some "dict"
  | .oT _ => some "dict"
  | .dd _ => some "dict"
  | .tp _ => some "tuple"
  | _ => none
def isaT (a T : String) : Bool := a == T || (a == "bool" && T == "int")
def tyNs : List String := ["NoneType", "bool", "int", "str", "tuple", "list", "dict"]
theorem kit_isa : ∀ a ∈ tyNs, ∀ T ∈ tyNs, kitB a T = some (isaT a T) := by decide +kernel
theorem ty_ns {o : OV} {a : String} (h : o.ty? = some a) : a ∈ tyNs := by
  unfold tyNs
  cases o with
  | fz x => cases x <;> simp [OV.ty?, FV.ty?] at h <;> subst h <;> simp
  | _ => simp [OV.ty?] at h <;> subst h <;> simp
theorem Bor.tyX {M : Str → Option Value} {K : PySem.W.Frag} {F H : Hp} {o : OV} {u : V} {a : String} (hf : Same F H) (b : Bor M F H o u) (h : o.ty? = some a) : TyX K H u (.type a) := by
  have d := b.fden hf
  cases o with
  | fz x =>
    cases x with
    | non => cases h; rw [show u = .non from d]; exact .base .non
    | bl c => cases h; rw [show u = .bl c from d]; exact .base (.bl c)
    | int i => cases h; rw [show u = .int i from d]; exact .base (.int i)
    | str x => cases h; rw [show u = .str x from d]; exact .base (.str x)
    | tup xs => cases h; obtain ⟨a, vs, e, q, _⟩ := d; rw [e]; exact .base (.tup q)
    | tuz xs => cases h; obtain ⟨a, vs, o, e, q, _⟩ := d; rw [e]; exact .fTuple q
    | lst xs => cases h; obtain ⟨a, vs, e, q, _⟩ := d; rw [e]; exact .base (.lst q)
    | dK xs => cases h; obtain ⟨a, vs, e, q, _⟩ := d; rw [e]; exact .base (.dK q)
    | dT xs => cases h; obtain ⟨a, vs, e, q, _⟩ := d; rw [e]; exact .base (.dT q)
    | scr xs =>
      cases h
      obtain ⟨a, e, q⟩ := d
      rw [e]
      rcases q with q | ⟨o, q⟩
      · exact .base (.lst q)
      · exact .base (.frz q)
    | ins c fs => cases h
    | exc c => cases h
    | dN ks => cases h
  | ol xs => cases h; obtain ⟨a, vs, e, q, _⟩ := d; rw [e]; exact .base (.lst q)
  | oK xs => cases h; obtain ⟨a, vs, e, q, _⟩ := d; rw [e]; exact .base (.dK q)
  | oT xs => cases h; obtain ⟨a, vs, e, q, _⟩ := d; rw [e]; exact .base (.dT q)
  | dl xs => cases h; obtain ⟨a, vs, e, q, _⟩ := d; rw [e]; exact .base (.lst q)
  | dd xs => cases h; obtain ⟨a, vs, e, q, _⟩ := d; rw [e]; exact .base (.dK q)
  | tp xs => cases h; obtain ⟨a, vs, e, q, _⟩ := d; rw [e]; exact .base (.tup q)
  | ob c fs => cases h
  | oN ks => cases h
def opIsa (Ts : List String) : OV → Option OV := fun o => o.ty?.map fun a => .fz (.bl (Ts.any fun T => isaT a T))
theorem any_kit {K : PySem.W.Frag} {a : String} (ha : a ∈ tyNs) : ∀ {Ts : List String}, (∀ T ∈ Ts, T ∈ tyNs) → PySem.W.kitAny K (.type a) (Ts.map Value.type) = some (Ts.any fun T => isaT a T)
  | [], _ => kitAny_nil
  | T :: Ts, h => kitAny_cons (kit_ty (kit_isa a ha T (h T List.mem_cons_self))) (fun e => by rw [List.any_cons, e, Bool.false_or]; exact any_kit ha fun T hT => h T (List.mem_cons_of_mem _ hT)) fun e => by rw [List.any_cons, e, Bool.true_or]
section
variable {X : Cx} {W : WX} {e : Expr} {f : DE} {p p2 p3 p4 pos : Pos} {t t2 : Str} {T T2 : String}
theorem je_isa (he : JE X W e f) (hm : X.mg "isinstance" = none) (hmt : X.mg t = none) (hT : T ∈ tyNs := by decide) (hv : bootBuiltins t = some (.type T) := by rfl) (hg : Gl X "isinstance" := by rfl) (hgt : Gl X t := by rfl) (hn : t ≠ "__name__" := by decide) (hd : (t == ("__debug__" : Str)) = false := by decide)
    (hs : starEach [e, .Name t p2] X.env = (false, eval e X.env) :: starEach [.Name t p2] X.env := by rfl) (hs2 : starEach [.Name t p2] X.env = (false, eval (.Name t p2) X.env) :: starEach [] X.env := by rfl) (hpl : (backTo pos (starEach [.Name t p2] X.env)).any (·.1) = false := by rfl) (hbi : bootBuiltins "isinstance" = some (.builtin "isinstance") := by rfl) :
    JE X W (.Call (.Name "isinstance" p) [e, .Name t p2] [] pos) (dUn (opIsa [T]) f) := by
  refine PE.imp (pe_callB (call_isi (X := X)) hg hm hbi (pa_cons he (pa_cons (pe_bltn (v := .ty T) hgt hmt hv rfl hn hd) pa_nil hs2) hs) (by decide) (by decide) hs hpl) fun σ H Q ⟨G, Z, env, T2, r, q⟩ => ?_
  refine tE.bind r Sb.refl q fun x u H1 _ s1 ⟨F, C1, C2, r1⟩ p1 => ?_
  obtain ⟨o, eo, k⟩ := r1.fin Sb.refl.cons p1
  obtain ⟨a, ea, eo⟩ := Option.map_eq_some_iff.mp eo
  subst eo
  have b : Bor X.mg F H1 x.ov u := r1.bor List.mem_cons_self
  exact ⟨u, .ty T, .type a, .type T, isaT a T, rfl, .ty T, b.tyX r1.fh ea, kit_ty (kit_isa a (ty_ns ea) T hT), by
    have e : ([T].any fun T => isaT a T) = isaT a T := by simp
    rw [e] at k
    exact k _ _ (New.bl r1.fh)⟩
theorem je_isa2 {kk : Nat} (he : JE X W e f) (hm : X.mg "isinstance" = none) (hmt : X.mg t = none) (hmt2 : X.mg t2 = none) (hT : T ∈ tyNs := by decide) (hT2 : T2 ∈ tyNs := by decide) (hv : bootBuiltins t = some (.type T) := by rfl) (hv2 : bootBuiltins t2 = some (.type T2) := by rfl) (hg : Gl X "isinstance" := by rfl) (hgt : Gl X t := by rfl) (hgt2 : Gl X t2 := by rfl)
    (hn : t ≠ "__name__" := by decide) (hd : (t == ("__debug__" : Str)) = false := by decide) (hn2 : t2 ≠ "__name__" := by decide) (hd2 : (t2 == ("__debug__" : Str)) = false := by decide)
    (hs : starEach [e, .Tuple [.Name t p2, .Name t2 p3] kk p4] X.env = (false, eval e X.env) :: starEach [.Tuple [.Name t p2, .Name t2 p3] kk p4] X.env := by rfl) (hs2 : starEach [.Tuple [.Name t p2, .Name t2 p3] kk p4] X.env = (false, eval (.Tuple [.Name t p2, .Name t2 p3] kk p4) X.env) :: starEach [] X.env := by rfl) (hpl : (backTo pos (starEach [.Tuple [.Name t p2, .Name t2 p3] kk p4] X.env)).any (·.1) = false := by rfl) (hbi : bootBuiltins "isinstance" = some (.builtin "isinstance") := by rfl)
    (ht1 : starEach [.Name t p2, .Name t2 p3] X.env = (false, eval (.Name t p2) X.env) :: starEach [.Name t2 p3] X.env := by rfl) (ht2 : starEach [.Name t2 p3] X.env = (false, eval (.Name t2 p3) X.env) :: starEach [] X.env := by rfl) :
    JE X W (.Call (.Name "isinstance" p) [e, .Tuple [.Name t p2, .Name t2 p3] kk p4] [] pos) (dUn (opIsa [T, T2]) f) := by
  refine PE.imp (pe_callB (call_isiT (X := X)) hg hm hbi (pa_cons he (pa_cons (pe_tup (pa_cons (pe_bltn (v := .ty T) hgt hmt hv rfl hn hd) (pa_cons (pe_bltn (v := .ty T2) hgt2 hmt2 hv2 rfl hn2 hd2) pa_nil ht2) ht1)) pa_nil hs2) hs) (by decide) (by decide) hs hpl) fun σ H Q ⟨G, Z, env, TT, r, q⟩ => ?_
  refine tE.bind r Sb.refl q fun x u H1 _ s1 ⟨F, C1, C2, r1⟩ p1 => ?_
  obtain ⟨o, eo, k⟩ := r1.fin Sb.refl.cons p1
  obtain ⟨a, ea, eo⟩ := Option.map_eq_some_iff.mp eo
  subst eo
  have b : Bor X.mg F H1 x.ov u := r1.bor List.mem_cons_self
  refine ⟨by show 2 ≤ sizeLine; decide, fun p hp => ?_⟩
  have r2 := r1.same (same_upd (o := .tup [.ty T, .ty T2]) hp)
  have b2 : Bor X.mg F (upd H1 p (.tup [.ty T, .ty T2])) x.ov u := r2.bor List.mem_cons_self
  obtain ⟨o, eo2, k2⟩ := r2.fin Sb.refl.cons (p1.later (same_upd hp))
  rw [eo] at eo2
  cases eo2
  exact ⟨u, p, [.ty T, .ty T2], .type a, [.type T, .type T2], [T, T2].any fun T => isaT a T, rfl, upd_same, .cons (.ty T) (.cons (.ty T2) .nil), b2.tyX r2.fh ea, any_kit (ty_ns ea) (Ts := [T, T2]) (fun t ht => by rcases List.mem_cons.mp ht with rfl | ht; exact hT; rw [List.mem_singleton.mp ht]; exact hT2), k2 _ _ (New.bl r2.fh)⟩
end
/-! ### methods of what is built in -/
def rM (M : Str → Option Value) (op : OV → List OV → Option OV) : V → List V → Hp → VK → Prop := fun u us H Q => ∃ F x os o, Same F H ∧ Bor M F H x u ∧ Paired (fun x u => Bor M F H x u) os us ∧ op x os = some o ∧ ∀ v H', New M F H H' o v → Q v H'
def dMeth (ok : OV → Bool) (op : OV → List OV → Option OV) (f : DE) (g : VEnv → Ans (List Rv)) : DE := fun env => (f env).bind fun r => if ok r.ov then (g env).bind fun rs => (Ans.of (op r.ov (rs.map Rv.ov))).map .st else .no
def okStr : OV → Bool
  | .fz (.str _) => true
  | _ => false
def okLst : OV → Bool := fun o => o.lst?.isSome
theorem okStr_ty {M : Str → Option Value} {K : PySem.W.Frag} {F H : Hp} {o : OV} {u : V} (hf : Same F H) (b : Bor M F H o u) (h : okStr o = true) : tyV K "str" u H := by
  unfold okStr at h
  split at h
  · rw [b.str]; exact rfl
  · cases h
theorem okLst_ty {M : Str → Option Value} {K : PySem.W.Frag} {F H : Hp} {o : OV} {u : V} (hf : Same F H) (b : Bor M F H o u) (h : okLst o = true) : tyV K "list" u H := by
  obtain ⟨xs, e⟩ := Option.isSome_iff_exists.mp h
  obtain ⟨a, vs, rfl, q, _⟩ := b.lst hf e
  exact .inl ⟨rfl, vs, SqL.of q⟩
section
variable {X : Cx} {W : WX} {o e : Expr} {es : List Expr} {f : DE} {g : VEnv → Ans (List Rv)} {name : Str} {apos cpos : Pos} {T id : String} {ok : OV → Bool} {op : OV → List OV → Option OV}
theorem je_meth (pa : PlainAttrs T) (slot : Slot T name id) (hty : typeOf (.builtin id) = pure (.type "method_descriptor")) (hm : MtR X id (rM X.mg op)) (ht : ∀ {F H : Hp} {o : OV} {u : V}, Same F H → Bor X.mg F H o u → ok o = true → tyV X.K T u H) (ho : JE X W o f) (ha : JA X W (e :: es) g)
    (hbase : attributeBase o name X.env (eval o X.env) = eval o X.env := by rfl)
    (hfew : ((backTo cpos (starEach (e :: es) X.env)).all (fun x => !x.1) && (backToKw cpos (keywordEach [] X.env)).all (fun x => x.1.isSome)
      && decide ((e :: es).length + ([] : List Keyword).length + (if ([] : List Keyword).isEmpty then 0 else 1) < 30)) = true := by rfl)
    (hline : (apos.endLine == cpos.line) = true := by rfl) (hs : starEach (e :: es) X.env = (false, eval e X.env) :: starEach es X.env := by rfl) (hplain : (backTo cpos (starEach es X.env)).any (·.1) = false := by rfl) :
    JE X W (.Call (.Attribute o name apos) (e :: es) [] cpos) (dMeth ok op f g) := by
  refine PE.imp (pe_bm pa slot hty hm ho ha hbase hfew hline hs hplain) fun σ H Q ⟨G, Z, env, T, r, p⟩ => ?_
  refine tE.bind r Sb.refl p fun rv v H1 _ s1 r1 p1 => ?_
  split at p1
  · rename_i hk
    obtain ⟨F, C1, C2, r1⟩ := r1
    refine ⟨ht r1.fh (r1.bor (List.mem_cons_self (a := (v, rv)))) hk, ?_⟩
    refine tA.bind r1.r Sb.refl.cons p1 fun rs vs H2 _ hl s2 ⟨F2, D1, D2, r2⟩ p2 => ?_
    obtain ⟨o, e, k⟩ := r2.fin (T := T) (Sb.trans (Sb.refl.cons) ⟨vs.zip rs, List.perm_append_comm⟩) p2
    exact ⟨F2, rv.ov, rs.map Rv.ov, o, r2.fh, r2.bor (p := (v, rv)) (List.mem_append_right _ List.mem_cons_self), zip_bor hl fun p hp => r2.bor (List.mem_append_left _ hp), e, k⟩
  · exact p1.elim
end
def opJoin : OV → List OV → Option OV
  | .fz (.str a), [o] => o.seq?.bind fun xs => (strs? xs).bind fun ys => if (ys.map (·.length)).sum + ys.length * a.length ≤ BIG then some (.fz (.str (Txt.join a ys))) else none
  | _, _ => none
theorem mj_join {X : Cx} : MtR X "str.join" (rM X.mg opJoin) := by
  rintro pins s σ H x xs v us Q I rx rs ⟨F, o, os, res, hf, bx, ps, e, k⟩
  unfold opJoin at e
  split at e
  · rename_i a q
    obtain ⟨zs, e1, e⟩ := Option.bind_eq_some_iff.mp e
    obtain ⟨ys, e2, e⟩ := Option.bind_eq_some_iff.mp e
    split at e
    · rename_i hz
      cases e
      obtain ⟨u, rfl, b⟩ := paired1 ps
      obtain ⟨p, vs, rfl, hq, d⟩ := b.seq (K := X.K) hf e1
      exact mt_join pins s σ H x _ v us Q I rx rs ⟨a, p, ys, bx.str, rfl, (by rw [← d.strs? e2]; exact hq), hz, k _ _ (New.str hf)⟩
    · cases e
  · cases e
end J
namespace J
open PySem PySem.Spec PyProof.Rows L2
/-! ### a def that is called; the law's own def -/
structure Cal (P : Program) (w : World) (K : PySem.W.Frag) (mg : Str → Option Value) (base : Heap) (k : Nat) (name : Str) (n : Nat) (m : FM) : Prop where
  ex : ∃ f fd ps, FnOk P w K mg base (L2.CX P w) k f fd ps (spF mg n m) ∧ mg name = some (.ref f) ∧ PySem.W.keepIn K (.ref f) = true ∧ Binds K fd ps []
section
variable {X : Cx} {W : WX} {pos p : Pos} {x : Str} {e : Expr} {es : List Expr} {g : VEnv → Ans (List Rv)} {m : FM} {k kk : Nat} {n : Nat}
theorem je_cal (tk : Takes X W) (C : Cal X.prog X.w X.K X.mg X.base k x n m) (hr : Room kk X.A) (ha : JA X W (e :: es) g) (hk : k ≤ kk := by decide)
    (hl : (e :: es).length = n := by rfl) (hgl : DL g (e :: es).length := by repeat (first | exact dl_nil | refine dl_cons ?_)) (hg : Gl X x := by rfl) (hdb : (x == ("__debug__" : Str)) = false := by decide)
    (he : starEach (e :: es) X.env = (false, eval e X.env) :: starEach es X.env := by rfl) (hpl : (backTo pos (starEach es X.env)).any (·.1) = false := by rfl) : JE X W (.Call (.Name x p) (e :: es) [] pos) (dCall m g) := by
  obtain ⟨f, fd, ps, F, h1, h2, h3⟩ := C.ex
  exact je_call tk F (hr.mono hk) h1 h2 h3 ha hl hgl hg hdb he hpl
end
def spLaw (K : PySem.W.Frag) : Sp := fun vs H Q _ => ∃ (a : Addr) (ns : List Int), vs = [.ref a] ∧ SqL K H a (ns.map V.int) ∧ ns.length ≤ 63 ∧ ∀ H', Q (.bl true) H'
def law0 (n : Nat) (cells : List Int) : VEnv := none :: some (.ol (cells.map .int)) :: List.replicate (n - 2) none
theorem law_r {M : Str → Option Value} {H H1 : Hp} {a p : Addr} {cells : List Int} {σ : Sl} (hs : Same H H1) (hp : H p = none) (h1 : H1 p = some (.lst (cells.map V.int))) : R M (fun _ => none) H H1 (some (.ref a) :: some (.ref p) :: List.replicate n none) (none :: some (.ol (cells.map .int)) :: List.replicate n none) [] := by
  refine ⟨fun _ => none, [(p, .lst (cells.map V.int))], [], Same.refl _, (fun _ _ e => nomatch (show (none : Option HO) = some _ from e)), (fun _ _ e => nomatch (show (none : Option HO) = some _ from e)), hs, .skip (.cons (A := [(p, .lst (cells.map V.int))]) (B := []) ⟨p, _, rfl, FDenL_ints cells, rfl⟩ ?_), .nil, ?_⟩
  · have := env_none (M := M) (F := fun _ => none) (List.replicate n none)
    rw [List.length_replicate] at this
    exact this
  · refine ⟨by simp, fun q hq => ?_, fun q hq => rfl, fun q hq => ?_⟩
    · rw [List.append_nil, List.mem_singleton] at hq; subst hq; exact h1
    · rw [List.append_nil, List.mem_singleton] at hq; subst hq; exact hp
theorem cut_take (ns : List Int) (c : Nat) : cutV (ns.map V.int) none (some (c : Int)) = (ns.take c).map V.int := by
  unfold cutV
  rw [HT.sIx_none, HT.sIx_nat, List.drop_zero, List.map_take, List.length_map, Nat.sub_zero]
  by_cases h : c ≤ ns.length
  · rw [Nat.min_eq_left h]
  · rw [Nat.min_eq_right (by omega), List.take_of_length_le (by rw [List.length_map]; exact Nat.le_refl _), List.take_of_length_le (by rw [List.length_map]; omega)]
section
variable {X : Cx} {W : WX} {c s : Str} {p1 p2 p3 p4 p5 p6 p7 p8 p9 : Pos} {j j2 : Nat} {n : Nat} {rest : List Stmt} {f : DS} {N : List Str}
theorem law_body (hN : X.N = N) (h2 : 2 ≤ N.length) (hb : JSs X W rest f) {te : TE} {e : Expr} (he : PE X e te) (hset : PS X (.Assign [.Name c p1] e p6) (tAsg te (gName 1))) {cells : List Int}
    (hrt : ∃ env, f (law0 N.length cells) = .ok (.rt (.fz (.bl true)) env)) {H : Hp} {a : Addr} {Q : VK} (hQ : ∀ H', Q (.bl true) H')
    (hte : ∀ (Q : VK), (∀ p H1, Same H H1 → H p = none → H1 p = some (.lst (cells.map V.int)) → Q (.ref p) H1) → te (L2.start N [.ref a]) H Q) :
    ∃ t, PSs X (.Assign [.Name c p1] e p6 :: rest) t ∧ t { nx := fun _ H' => Q .non H', rt := Q } (L2.start N [.ref a]) H := by
  refine ⟨_, pss_cons hset hb, ?_⟩
  refine hte _ fun p H1 hs hp h1 => ?_
  obtain ⟨env, er⟩ := hrt
  have es : (L2.start N [.ref a]).set 1 (some (V.ref p)) = some (.ref a) :: some (.ref p) :: List.replicate (N.length - 2) none := by
    unfold L2.start
    obtain ⟨m, hm⟩ : ∃ m, N.length = m + 2 := ⟨N.length - 2, by omega⟩
    rw [hm]
    rfl
  show sJ X.mg W f _ ((L2.start N [.ref a]).set 1 (some (V.ref p))) H1
  rw [es]
  refine ⟨fun _ => none, H, law0 N.length cells, [], (fun _ h => nomatch h), law_r (σ := []) hs hp h1, ?_⟩
  rw [er]
  intro v σ' H' ⟨F, C1, C2, r⟩
  have hb : Bor X.mg F H' (.fz (.bl true)) v := r.bor (p := (v, .st (.fz (.bl true)))) List.mem_cons_self
  have hv : v = .bl true := hb.fden r.fh
  rw [hv]
  exact hQ H'
theorem law_slice {a : Addr} {ns : List Int} {H : Hp} {cc : Nat} (hS : SqL X.K H a (ns.map V.int)) (Q : VK) (h : ∀ p H1, Same H H1 → H p = none → H1 p = some (.lst ((ns.take cc).map V.int)) → Q (.ref p) H1) (h2 : N ≠ []) :
    tSl (rSlL X.K) (tVar 0) tNoPart (tPart (tC (.int (cc : Int)))) (L2.start N [.ref a]) H Q := by
  refine ⟨.ref a, ?_, _, rfl, a, _, rfl, hS, fun p hp => ?_⟩
  · rfl
  · rw [cut_take]
    exact h p _ (same_upd hp) hp upd_same
theorem law_sliceP {a : Addr} {ns : List Int} {H : Hp} {cc : Nat} (hS : SqL X.K H a (ns.map V.int)) (Q : VK) (h : ∀ p H1, Same H H1 → H p = none → H1 p = some (.lst ((ns.take cc ++ [0]).map V.int)) → Q (.ref p) H1) (hl : ns.length ≤ 63) (h2 : N ≠ [] := by decide) :
    tOp rCat (tSl (rSlL X.K) (tVar 0) tNoPart (tPart (tC (.int (cc : Int))))) (tLst (tCons (tC (.int 0)) tNil)) (L2.start N [.ref a]) H Q := by
  refine law_slice hS _ (fun p H1 hs hp h1 => ?_) h2
  refine ⟨by rw [sizeLine_eq]; decide, fun b hb => ⟨p, b, _, _, rfl, rfl, same_upd hb _ _ h1, upd_same, ?_, fun q hq => ?_⟩⟩
  · rw [List.length_map, List.length_take, sizeLine_eq]
    simp
    omega
  · have q1 : H1 q = none := none_of_same (same_upd hb) hq
    refine h q _ ((hs.trans (same_upd hb)).trans (same_upd hq)) (none_of_same hs q1) ?_
    rw [upd_same, List.map_append]
    rfl
end
theorem boot_len : bootBuiltins "len" = some (.builtin "len") :=
  PySem.boot_len
theorem boot_list : bootBuiltins "list" = some (.type "list") :=
  PyProof.Rows.boot_list
theorem boot_tuple : bootBuiltins "tuple" = some (.type "tuple") :=
  PyProof.Rows.boot_tuple
theorem boot_sum : bootBuiltins "sum" = some (.builtin "sum") :=
  PyProof.Rows.boot_sum
theorem boot_all : bootBuiltins "all" = some (.builtin "all") :=
  PyProof.Rows.boot_all
theorem boot_ord : bootBuiltins "ord" = some (.builtin "ord") :=
  PyProof.Rows.boot_ord
theorem boot_str : bootBuiltins "str" = some (.type "str") :=
  PyProof.Rows.boot_str
theorem boot_int : bootBuiltins "int" = some (.type "int") :=
  PyProof.Rows.boot_int
theorem boot_sorted : bootBuiltins "sorted" = some (.builtin "sorted") :=
  PyProof.Rows.boot_sorted
theorem boot_isinstance : bootBuiltins "isinstance" = some (.builtin "isinstance") :=
  PyProof.Rows.boot_isinstance
theorem boot_min : bootBuiltins "min" = some (.builtin "min") :=
  PyProof.Rows.boot_min
theorem boot_max : bootBuiltins "max" = some (.builtin "max") :=
  PyProof.Rows.boot_max
theorem boot_bool : bootBuiltins "bool" = some (.type "bool") :=
  PyProof.Rows.boot_bool
theorem boot_dict : bootBuiltins "dict" = some (.type "dict") :=
  PyProof.Rows.boot_dict
theorem boot_set : bootBuiltins "set" = some (.type "set") :=
  PyProof.Rows.boot_set
theorem boot_divmod : bootBuiltins "divmod" = some (.builtin "divmod") :=
  PyProof.Rows.boot_divmod
theorem u1 {k : Nat} {A : Around} (hr : Room k A) : A.units + 1 < cLine := by have := hr.un; omega
theorem u62 {k : Nat} {A : Around} (hr : Room k A) : A.units + 62 < cLine := by have := hr.un; omega
theorem u64 {k : Nat} {A : Around} (hr : Room k A) : A.units + 64 < cLine := by have := hr.un; omega
theorem u10 {k : Nat} {A : Around} (hr : Room k A) : A.units + 10 < cLine := by have := hr.un; omega
theorem u65 {k : Nat} {A : Around} (hr : Room k A) : A.units + 65 < cLine := by have := hr.un; omega
end J
set_option maxHeartbeats 4000000
namespace J
open PySem PySem.Spec PyProof.Rows L2
/-! ### set(a list of ints), sorted(set(..))
`fill_ints`: one walk of the list into the fresh set. `call_set_lstI`: the call of the class around it. -/
section
variable {P : Program} {w : World} {A : Around} {E : Value → Shared → Prop} {s : Shared}
/-- what set.__new__ leaves -/
abbrev E0 (w : World) : Obj := { cls := .type "set", dict := none, data := .set #[] 0 (.fresh 0 0 (!w.params.followText "set-order")) }
theorem intsAt {items : Array Value} {ns : List Int} (r : IntsAre items.toList ns) (z : items.size = ns.length) {i : Nat} {v : Value} (hv : items[i]? = some v) : ∃ k t, ns[i]? = some k ∧ v = .int k t := by
  have hi := (Array.getElem?_eq_some_iff.mp hv).1
  rw [z] at hi
  obtain ⟨t, e⟩ := IntsAre.int_at r i v (by rw [Array.getElem?_toList, hv])
  exact ⟨_, t, List.getElem?_eq_getElem hi, by rw [e, List.getD_eq_getElem?_getD, List.getElem?_eq_getElem hi, Option.getD_some]⟩
/-- the ints of the list at l go into the fresh set at S -/
theorem fill_ints {S l : Addr} {items : Array Value} {ns : List Int} {R : Result → Shared → Prop} (calm : A.handled = none) (hl : s.heap.IsList l items) (hit : IntsAre items.toList ns) (few : ns.length + 1 < scanBound) (hS : s.heap.get? S = some (E0 w)) (ne : S ≠ l)
    (k : ∀ h' tk c, SetR w h' S (fun j => decide (j ∈ ns)) c → c ≤ ns.length → (∀ b o, b ≠ S → s.heap.get? b = some o → h'.get? b = some o) → R (.ok (.ret .none)) { s with heap := h', toks := tk }) :
    wpAny (model P w) A.in1 (Builtin.«set.__init__» ⟨[.ref S, .ref l], []⟩) (fun fin s' => match fin with | .done f => R (.ok f) s' | .again c' => c'.quiet = true ∧ codeAny (model P w) A c' R s') (fun e s' => R (.error e) s') s := by
  have z : items.size = ns.length := by rw [← Array.length_toList]; exact hit.length
  have lS := Heap.lt_size hS
  have hl' := hl
  obtain ⟨ob, at_l, cl, nl, dl⟩ := hl
  have ll := Heap.lt_size at_l
  cases ob with
  | mk cls dict data slots =>
    cases cl
    cases dl
    have sub1 := F.sub_list_set
    have sub2 := F.sub_list_frozenset
    have nd : (Value.type "list" == Value.type "dict") = false := rfl
    unfold Builtin.«set.__init__» noKeywords Builtin.Frozenset.updateFrom
    generalize hPI : pyIter = PI
    wp_walk
    subst hPI
    refine wpAny_pyIter_list hl' (wpAny_bind (wpAny_runValue ?_))
    have walk := (Walks.list (A := A.in1.in1) (by simp [calm]) s.heap.objs.size l (Nat.ne_of_lt ll) items).toS (prog := P) (w := w)
    refine set_update_ints walk S (by simp [Nat.ne_of_lt lS, ne]) ns z few (fun i v => intsAt hit z) _ 0 _ rfl (Nat.zero_le _) ⟨⟨_, Heap.get?_push_size _ rfl, rfl, rfl⟩, hl'.push _⟩ ⟨0, Nat.le_refl 0, setR_new_at (Heap.get?_push_of_some _ hS)⟩ fun s' c m hc hR => ?_
    cases s' with
    | mk h' g d tk os =>
      cases m.gens
      cases m.drawn
      cases m.os
      refine wpAny_pure (wpAny_pure (k h' tk c hR (z ▸ hc) fun b o hb e => m.heap b o ?_ (Heap.get?_push_of_some _ e)))
      simp [hb, Nat.ne_of_lt (Heap.lt_size e)]
theorem call_set_lstI {l : Addr} {items : Array Value} (ns : List Int) {Q : Value → Shared → Prop} (calm : A.handled = none) (hl : s.heap.IsList l items) (hit : IntsAre items.toList ns) (few : ns.length + 1 < scanBound)
    (k : ∀ (h' : Heap) (tk c : Nat), SetR w h' s.heap.objs.size (fun j => decide (j ∈ ns)) c → c ≤ ns.length → (∀ b o, s.heap.get? b = some o → h'.get? b = some o) → Q (.ref s.heap.objs.size) { s with heap := h', toks := tk }) :
    wpAny (model P w) A (call (.type "set") [.ref l]) Q E s := by
  obtain ⟨o, e, _⟩ := id hl
  have inside := Heap.lt_size e
  -- what set.__init__ is to give, and that it gives it
  have init : codeAny (model P w) A.in1 (.call (.builtin "set.__init__") ⟨[.ref s.heap.objs.size, .ref l], []⟩) (wants (fun r t => r = .none ∧ Q (.ref s.heap.objs.size) t) E) { s with heap := s.heap.push (E0 w) } := by
    have hS : (s.heap.push (E0 w)).get? s.heap.objs.size = some (E0 w) := Heap.get?_push_size _ rfl
    refine codeAny_call_builtin F.called_set.init.plain F.entry_set_init (check_set_init_1 ⟨_, hS, rfl⟩ (fill_ints (by simp [calm]) (hl.push _) hit few hS (Nat.ne_of_gt inside) fun h' tk c hR hc old => ⟨rfl, k h' tk c hR hc fun b ob e => ?_⟩))
    exact old b ob (Nat.ne_of_lt (Heap.lt_size e)) (Heap.get?_push_of_some _ e)
  have ⟨_, _, mro⟩ := F.called_set.mro
  have ⟨made, sub, notType, can⟩ := And.intro F.called_set.made (And.intro F.called_set.sub (And.intro F.called_set.notType F.called_set.canCreate))
  have fine := F.typeCall_set_1 (.ref l)
  have ⟨look, bind⟩ := And.intro F.called_set.init.lookup (F.called_set.init.bind (.ref s.heap.objs.size))
  refine wpAny_call (codeAny_of_tree ?_)
  show wpAny _ _ (callAny (.type "set") _) _ _ _
  refine wpAny_pure ⟨Code.quiet_builtin _ (by decide +kernel), codeAny_builtin F.entry_type_call ?_⟩
  rw [Around.under_plain (weight_type_call_type "set" [.ref l] []) rfl]
  repeat any_goals first | assumption | wp_step
  have born : codeAny (model P w) A.in1 (.call (.builtin "set.__new__") ⟨[.type "set", .ref l], []⟩) (wants (fun v t => v = .ref s.heap.objs.size ∧ t = { s with heap := s.heap.push (E0 w) }) E) s := code_set_led1 _ ⟨rfl, rfl⟩
  refine codeAny_mono born fun r t ht => ?_
  match r, ht with
  | .error e, ht => exact ht
  | .ok (.ret v), ⟨ev, et⟩ =>
    subst ev et
    have ty : Shared.TypeIs { s with heap := s.heap.push (E0 w) } (.ref s.heap.objs.size) "set" := ⟨_, Heap.get?_push_size _ rfl, rfl⟩
    repeat any_goals first | assumption | wp_step
    refine codeAny_mono init fun r t ht => ?_
    match r, ht with
    | .error e, ht => exact ht
    | .ok (.ret v), ⟨ev, q⟩ =>
      subst ev
      repeat any_goals first | assumption | wp_step
end
section
variable {X : Cx}
def rSetLI (w : World) (K : PySem.W.Frag) : List V → Hp → VK → Prop := fun xs H Q => ∃ (a : Addr) (ns : List Int), xs = [.ref a] ∧ SqL K H a (ns.map V.int) ∧ ns.length + 1 < scanBound ∧
  ∀ p c, H p = none → c ≤ ns.length → Q (.ref p) (upd H p (SetO w p (fun j => decide (j ∈ ns)) c))
theorem cr_setLI (hc : X.calm = true) : CallR X (.type "set") (rSetLI X.w X.K) := by
  intro pins s σ H xs us Q I r h
  obtain ⟨a, ns, rfl, hs, hb, q⟩ := h
  obtain ⟨its, rv, hl, hz⟩ := I.list hs
  rw [Vals.ref1 r]
  refine call_set_lstI ns (I.ok.hd hc) hl.isList (by simpa using rv.ints) hb fun h' tk c R hcl k => ?_
  exact ⟨.ref _, upd H s.heap.objs.size (SetO X.w s.heap.objs.size (fun j => decide (j ∈ ns)) c), I.laid (t' := tk) k (Nat.le_refl _) (setO_new R), rfl, q _ c (I.hok.fresh (Nat.le_refl _)) hcl⟩
def dedI : List Int → List Int
  | [] => []
  | x :: xs => if x ∈ dedI xs then dedI xs else x :: dedI xs
theorem dedI_mem {x : Int} : ∀ {xs : List Int}, x ∈ dedI xs ↔ x ∈ xs
  | [] => Iff.rfl
  | y :: xs => by
    have ih := dedI_mem (x := x) (xs := xs)
    unfold dedI
    split
    · rename_i h
      rw [ih, List.mem_cons]
      exact ⟨.inr, fun q => q.elim (fun e => by rw [e]; exact dedI_mem.mp h) id⟩
    · rw [List.mem_cons, List.mem_cons, ih]
theorem dedI_nodup : ∀ xs : List Int, (dedI xs).Nodup
  | [] => List.nodup_nil
  | y :: xs => by
    unfold dedI
    split
    · exact dedI_nodup xs
    · rename_i h
      exact List.nodup_cons.mpr ⟨h, dedI_nodup xs⟩
def sortI (ns : List Int) : List Int := (dedI ns).mergeSort (fun a b => decide (a ≤ b))
theorem strictI_eq : ∀ {a b : List Int}, a.Pairwise (· < ·) → b.Pairwise (· < ·) → (∀ x, x ∈ a ↔ x ∈ b) → a = b
  | [], [], _, _, _ => rfl
  | [], y :: b, _, _, h => absurd ((h y).mpr List.mem_cons_self) (by simp)
  | x :: a, [], _, _, h => absurd ((h x).mp List.mem_cons_self) (by simp)
  | x :: a, y :: b, ha, hb, h => by
    rw [List.pairwise_cons] at ha hb
    have e : x = y := by
      rcases List.mem_cons.mp ((h x).mp List.mem_cons_self) with e | h1
      · exact e
      · rcases List.mem_cons.mp ((h y).mpr List.mem_cons_self) with e | h2
        · exact e.symm
        · have q1 := ha.1 y h2; have q2 := hb.1 x h1; omega
    subst e
    rw [strictI_eq ha.2 hb.2 fun z => ?_]
    constructor
    · intro hz
      rcases List.mem_cons.mp ((h z).mp (List.mem_cons_of_mem _ hz)) with e | h1
      · have := ha.1 z hz; omega
      · exact h1
    · intro hz
      rcases List.mem_cons.mp ((h z).mpr (List.mem_cons_of_mem _ hz)) with e | h1
      · have := hb.1 z hz; omega
      · exact h1
theorem sortI_mem {ns : List Int} {x : Int} : x ∈ sortI ns ↔ x ∈ ns := by
  unfold sortI
  rw [(List.mergeSort_perm _ _).mem_iff, dedI_mem]
theorem sortI_lt (ns : List Int) : (sortI ns).Pairwise (· < ·) := by
  have h1 : (sortI ns).Pairwise (fun a b => decide (a ≤ b) = true) := List.pairwise_mergeSort (fun a b c h1 h2 => by simp at *; omega) (fun a b => by simp; omega) _
  have h2 : (sortI ns).Nodup := (List.mergeSort_perm _ _).nodup_iff.mpr (dedI_nodup ns)
  exact (h1.and h2).imp fun {a b} h => by have := of_decide_eq_true h.1; have := h.2; omega
def dSortSet (f : DE) : DE := fun env => (f env).bind fun r => match r.ov.lst?.bind ints? with
  | some ns => if ns.length < 64 then .ok (.st (.ol ((sortI ns).map .int))) else .no
  | none => .no
variable {W : WX} {f : DE} {e : Expr} {p p2 pos pos2 : Pos}
theorem je_sortSet (hc : X.calm = true) (he : JE X W e f) (hm : X.mg "sorted" = none) (hm2 : X.mg "set" = none) (hg : Gl X "sorted" := by rfl) (hg2 : Gl X "set" := by rfl)
    (hs : starEach [.Call (.Name "set" p2) [e] [] pos2] X.env = (false, eval (.Call (.Name "set" p2) [e] [] pos2) X.env) :: starEach [] X.env := by rfl) (hs2 : starEach [e] X.env = (false, eval e X.env) :: starEach [] X.env := by rfl) :
    JE X W (.Call (.Name "sorted" p) [.Call (.Name "set" p2) [e] [] pos2] [] pos) (dSortSet f) := by
  refine PE.imp (pe_callB (cr_sortedSet hc) hg hm boot_sorted (pa_cons (pe_callTy (cr_setLI hc) hg2 hm2 boot_set (pa_cons he pa_nil hs2) (by decide) (by decide) hs2 rfl) pa_nil hs) (by decide) (by decide) hs rfl) fun σ H Q ⟨G, Z, env, T, r, q⟩ => ?_
  refine tE.bind r Sb.refl q fun x u H1 _ s1 ⟨F, C1, C2, r1⟩ p1 => ?_
  split at p1
  · rename_i ns en
    split at p1
    · rename_i hn
      obtain ⟨xs, e1, e2⟩ := Option.bind_eq_some_iff.mp en
      have b : Bor X.mg F H1 x.ov u := r1.bor List.mem_cons_self
      obtain ⟨a, vs, rfl, hq, d⟩ := b.lst r1.fh e1
      have ev := d.ints? e2
      subst ev
      refine ⟨a, ns, rfl, SqL.of hq, by unfold scanBound; omega, fun pp c hp hcl => ?_⟩
      refine ⟨pp, fun j => decide (j ∈ ns), c, rfl, upd_same, by omega, fun ms p3 h1 h2 h3 hp3 => ?_⟩
      have ms_eq : ms = sortI ns := strictI_eq h1 (sortI_lt ns) fun k => by rw [h2, sortI_mem, decide_eq_true_iff]
      subst ms_eq
      have r2 := r1.same (same_upd (o := SetO X.w pp (fun j => decide (j ∈ ns)) c) hp)
      have n := New.lst (M := X.mg) r2.fh hp3 (FDenL_ints (sortI ns))
      exact p1 _ _ ((same_upd hp).trans (let ⟨_, _, n⟩ := n; n.hh)) ((r2.new n).sb (Sb.refl.cons.both))
    · exact p1.elim
  · exact p1.elim
end
end J
set_option maxHeartbeats 4000000
namespace J
open PySem PySem.Spec PyProof.Rows L2
def rowF (r : List Int) : FV := .tup (r.map .int)
theorem rle_total (a b : List Int) : a ≤ b ∨ b ≤ a := List.le_total a b
theorem rle_trans {a b c : List Int} (h : a ≤ b) (h2 : b ≤ c) : a ≤ c := List.le_trans h h2
theorem rle_antisymm {a b : List Int} (h : a ≤ b) (h2 : b ≤ a) : a = b := List.le_antisymm h h2
theorem rlt_irrefl (a : List Int) : ¬ a < a := List.lt_irrefl a
theorem rlt_trans {a b c : List Int} (h : a < b) (h2 : b < c) : a < c := List.lt_trans h h2
theorem rlt_of_le {a b : List Int} (h : a ≤ b) (n : a ≠ b) : a < b := by
  rcases List.le_iff_lt_or_eq.mp h with h | h
  · exact h
  · exact absurd h n
theorem toDL_ints : ∀ r : List Int, FV.toDL (r.map .int) = some (r.map PyData.int)
  | [] => rfl
  | n :: r => by rw [List.map_cons, FV.toDL, toDL_ints r]; rfl
theorem enc_row (r : List Int) : (rowF r).enc = .tuple (r.map .int) := by
  show ((FV.toDL (r.map .int)).map PyData.tuple).getD .none = _
  rw [toDL_ints]
  rfl
theorem toD_row (r : List Int) : (rowF r).toD = some (.tuple (r.map .int)) := by
  show (FV.toDL (r.map .int)).map PyData.tuple = _
  rw [toDL_ints]
  rfl
theorem le_row (a b : List Int) : PySem.W.dataLe false FV.enc (rowF a) (rowF b) = decide (a ≤ b) := by
  have h := congrFun (congrFun (PySem.W.dataLe_rows (x := fun r : List Int => r)) a) b
  rw [← h]
  rw [PySem.W.dataLe_eq, PySem.W.dataLe_eq]
  show (!PySem.W.dataLt (rowF b).enc (rowF a).enc) = (!PySem.W.dataLt (.list (b.map .int)) (.list (a.map .int)))
  rw [enc_row, enc_row, PySem.W.dataLt_list, PySem.W.dataLt_tuple]
theorem alike_row (a b : List Int) : PySem.W.alike (rowF a).enc (rowF b).enc = true := by
  rw [enc_row, enc_row, PySem.W.alike]
  exact PySem.W.alike_ints a b
theorem strictR {l : List (List Int)} (h : l.Pairwise (· ≤ ·)) (n : l.Nodup) : l.Pairwise (· < ·) := (h.and n).imp fun {a b} ⟨h1, h2⟩ => rlt_of_le h1 h2
theorem strict_ext {α : Type} {lt : α → α → Prop} (irr : ∀ a, ¬ lt a a) (tr : ∀ a b c, lt a b → lt b c → lt a c) : ∀ {a b : List α}, a.Pairwise lt → b.Pairwise lt → (∀ x, x ∈ a ↔ x ∈ b) → a = b
  | [], [], _, _, _ => rfl
  | [], y :: b, _, _, h => absurd ((h y).mpr List.mem_cons_self) (by simp)
  | x :: a, [], _, _, h => absurd ((h x).mp List.mem_cons_self) (by simp)
  | x :: a, y :: b, ha, hb, h => by
    rw [List.pairwise_cons] at ha hb
    have e : x = y := by
      rcases List.mem_cons.mp ((h x).mp List.mem_cons_self) with e | h1
      · exact e
      · rcases List.mem_cons.mp ((h y).mpr List.mem_cons_self) with e | h2
        · exact e.symm
        · exact absurd (tr _ _ _ (ha.1 y h2) (hb.1 x h1)) (irr x)
    subst e
    rw [strict_ext irr tr ha.2 hb.2 fun z => ?_]
    constructor
    · intro hz
      rcases List.mem_cons.mp ((h z).mp (List.mem_cons_of_mem _ hz)) with e | h1
      · exact absurd (e ▸ ha.1 z hz) (irr _)
      · exact h1
    · intro hz
      rcases List.mem_cons.mp ((h z).mpr (List.mem_cons_of_mem _ hz)) with e | h1
      · exact absurd (e ▸ hb.1 z hz) (irr _)
      · exact h1
theorem strictR_ext {a b : List (List Int)} (ha : a.Pairwise (· < ·)) (hb : b.Pairwise (· < ·)) (h : ∀ x, x ∈ a ↔ x ∈ b) : a = b := strict_ext rlt_irrefl (fun a b c => rlt_trans) ha hb h
/-! ### sorted(set(a list of tuples of ints)) -/
def dedR : List (List Int) → List (List Int)
  | [] => []
  | x :: xs => if x ∈ dedR xs then dedR xs else x :: dedR xs
theorem dedR_spec : ∀ xs : List (List Int), (dedR xs).Nodup ∧ ∀ x, x ∈ dedR xs ↔ x ∈ xs
  | [] => ⟨List.nodup_nil, fun _ => Iff.rfl⟩
  | y :: ys => by
    have ⟨n, m⟩ := dedR_spec ys
    unfold dedR
    split
    · rename_i h
      refine ⟨n, fun x => ?_⟩
      rw [m, List.mem_cons]
      exact ⟨.inr, fun q => q.elim (fun e => e ▸ (m y).mp h) id⟩
    · rename_i h
      exact ⟨List.nodup_cons.mpr ⟨h, n⟩, fun x => by rw [List.mem_cons, List.mem_cons, m]⟩
def sortR (ks : List (List Int)) : List (List Int) := (dedR ks).mergeSort fun a b => decide (a ≤ b)
theorem sortR_mem {ks : List (List Int)} {x : List Int} : x ∈ sortR ks ↔ x ∈ ks := by
  unfold sortR
  rw [(List.mergeSort_perm _ _).mem_iff, (dedR_spec ks).2]
theorem sortR_lt (ks : List (List Int)) : (sortR ks).Pairwise (· < ·) := by
  refine strictR ?_ ((List.mergeSort_perm _ _).nodup_iff.mpr (dedR_spec ks).1)
  refine List.Pairwise.imp of_decide_eq_true (List.pairwise_mergeSort (le := fun a b : List Int => decide (a ≤ b)) (fun a b c h1 h2 => decide_eq_true (rle_trans (of_decide_eq_true h1) (of_decide_eq_true h2))) (fun a b => ?_) _)
  rw [← Bool.decide_or]
  exact decide_eq_true (rle_total a b)
/-- a list that is one of images in another order is the images of one in another order -/
theorem perm_src {α β : Type} {f : α → β} {as bs : List β} (h : as.Perm bs) : ∀ L, bs = L.map f → ∃ L1 : List α, L1.Perm L ∧ as = L1.map f := by
  induction h with
  | nil =>
    intro L e
    exact ⟨[], by rw [List.map_eq_nil_iff.mp e.symm], rfl⟩
  | cons x _ ih =>
    rintro (_ | ⟨y, L⟩) e
    · cases e
    · obtain ⟨e1, e2⟩ := List.cons.inj e
      have ⟨L1, p, q⟩ := ih L e2
      exact ⟨y :: L1, p.cons y, by rw [List.map_cons, e1, q]⟩
  | swap x y l =>
    rintro (_ | ⟨a, _ | ⟨b, L⟩⟩) e <;> try cases e
    exact ⟨b :: a :: L, .swap _ _ _, rfl⟩
  | trans _ _ ih1 ih2 =>
    intro L e
    have ⟨L2, p2, e2⟩ := ih2 L e
    have ⟨L1, p1, e1⟩ := ih1 L2 e2
    exact ⟨L1, p1.trans p2, e1⟩
theorem reads_ints {P : Program} {w : World} {h : Heap} : ∀ {k : List Int} {us : List Value}, ItemsAre (intKind P w) k us → ReadsAll h us (k.map .int) []
  | [], _, q => by
    cases q
    exact .nil
  | n :: k, _, q => by
    cases q with
    | cons q1 q2 =>
      have ⟨t, e⟩ := Value.isInt_shape q1
      subst e
      exact .cons (.int n t) (reads_ints q2)
theorem reads_tup {P : Program} {w : World} {h : Heap} {k : List Int} {b : Addr} (q : IsT P w h k b) : Reads h (.ref b) (.tuple (k.map .int)) [] :=
  let ⟨_, _, _, ho, hc, hd, hi⟩ := q
  .tuple ho hc hd (reads_ints hi)
/-- each of a list with its image, and of the image something -/
theorem each_of {α : Type} {f : α → Value} {R : Value → α → Prop} : ∀ {L : List α}, (∀ p ∈ L, R (f p) p) → PySem.W.EachIs R (L.map f) L
  | [], _ => .nil
  | p :: L, h => .cons (h p List.mem_cons_self) (each_of fun q hq => h q (List.mem_cons_of_mem _ hq))
theorem each_img {α : Type} {f : α → Value} : ∀ {L : List α} {us : List Value}, PySem.W.EachIs (fun u p => u = f p) us L → us = L.map f
  | [], _, h => by
    cases h
    rfl
  | p :: L, _, h => by
    cases h with
    | cons e r => rw [e, each_img r, List.map_cons]
abbrev encT (p : Addr × List Int) : PyData := .tuple (p.2.map .int)
section
variable {X : Cx}
/-- sorted(s), s a set of tuples of ints, each not empty -/
def rSortedR (K : PySem.W.Frag) (P : Program) (w : World) : List V → Hp → VK → Prop := fun vs H Q => ∃ (a : Addr) (L : List (Addr × List Int)), vs = [V.ref a] ∧ H a = some (SetTO P w a L) ∧ (∀ p ∈ L, SqT K H p.1 (p.2.map V.int) ∧ p.2 ≠ []) ∧
  ∀ (L' : List (Addr × List Int)) (p : Addr), L'.Perm L → (L'.map (·.2)).Pairwise (· < ·) → H p = none → Q (.ref p) (upd H p (.lst (L'.map fun q => V.ref q.1)))
theorem le_encT (p q : Addr × List Int) : PySem.W.dataLe false encT p q = decide (p.2 ≤ q.2) := by
  rw [← le_row, PySem.W.dataLe_eq, PySem.W.dataLe_eq]
  show (!PySem.W.dataLt (encT q) (encT p)) = (!PySem.W.dataLt (rowF q.2).enc (rowF p.2).enc)
  rw [enc_row, enc_row]
theorem cr_sortedR (hc : X.calm = true) (hu : X.A.units + 62 < cLine) : CallR X (.builtin "sorted") (rSortedR X.K X.prog X.w) := by
  rintro pins s σ H _ us Q I r ⟨a, L, rfl, ha, hk, q⟩
  rw [Vals.ref1 r]
  obtain ⟨es, ep, t, R⟩ := SetT0.full (I.hok a _ ha).1 fun p hp => I.isT (hk p hp).1
  have ⟨o, ho, ex, hd⟩ := R.ob
  have few := R.few
  have sz := R.size
  refine Calls.call_function_entry kind_sorted plain_sorted entry_sorted (args_sorted1 _) ?_
  unfold Builtin.«sorted»
  refine wpAny_bind (m := checkCount _ _ _ _) (wpAny_pure (wpAny_bind (collect_set (A := X.A.in1) (I.ok.hd hc) ⟨o, ho, ex.1, hd⟩ R.fits (by unfold scanBound; omega) R.tab.ris R.led fun t out old hz hg hos pm => ?_)))
  have e0 : es.toList.map (·.2) = L.map fun p => Value.ref p.1 := by
    rw [R.rows, rowsOf, List.map_map]
    rfl
  obtain ⟨L1, p1, rfl⟩ := perm_src pm L e0
  have few1 : L1.length < 64 := p1.length_eq ▸ few
  have fewL : L1.length ≤ sizeLine := by rw [sizeLine_eq]; omega
  refine wpAny_bind (wpAny_newList ?_ (by rw [List.length_map]; exact fewL))
  let vs := L1.map fun p => Value.ref p.1
  have fresh : (t.heap.push (seqObj "list" vs.toArray 0)).get? t.heap.objs.size = some (seqObj "list" vs.toArray 0) := Heap.get?_push_size _ rfl
  have isT : ∀ p ∈ L1, IsT X.prog X.w (t.heap.push (seqObj "list" vs.toArray 0)) p.2 p.1 := fun p hp => isT_keep (R.tup p (p1.mem_iff.mp hp)) fun b u e => Heap.get?_push_of_some _ (old b u e)
  refine wpAny_bind (wpAny_holding (PySem.W.list_sort_data (s := { t with heap := t.heap.push (seqObj "list" vs.toArray 0) }) (R := fun u p => u = Value.ref p.1) (enc := encT) fresh (each_of fun _ _ => rfl) (each_of fun p hp => ⟨[], reads_tup (isT p hp), List.not_mem_nil⟩) ?_ ?_ fewL ?_ fun out hl eo => ?_))
  · intro d hd d' hd'
    obtain ⟨p, _, rfl⟩ := List.mem_map.mp hd
    obtain ⟨p', _, rfl⟩ := List.mem_map.mp hd'
    have := alike_row p.2 p'.2
    rwa [enc_row, enc_row] at this
  · refine .inl fun d hd => ?_
    obtain ⟨p, hp, rfl⟩ := List.mem_map.mp hd
    have ne := (hk p (p1.mem_iff.mp hp)).2
    cases e : p.2 with
    | nil => exact absurd e ne
    | cons n k => exact ⟨.int n, k.map .int, by simp only [encT, e, List.map_cons]⟩
  · intro p hp
    rw [encT, PyData.depth, PySem.W.depth_ints]
    show X.A.units + 1 + 1 + _ < cLine
    omega
  · have eq := each_img eo
    have pL : (L1.mergeSort (PySem.W.dataLe false encT)).Perm L := (List.mergeSort_perm _ _).trans p1
    have le : (L1.mergeSort (PySem.W.dataLe false encT)).Pairwise fun p q => p.2 ≤ q.2 := by
      rw [show PySem.W.dataLe false encT = fun p q : Addr × List Int => decide (p.2 ≤ q.2) from funext fun p => funext fun q => le_encT p q]
      refine List.Pairwise.imp of_decide_eq_true (List.pairwise_mergeSort (le := fun p q : Addr × List Int => decide (p.2 ≤ q.2)) (fun a b c h1 h2 => decide_eq_true (rle_trans (of_decide_eq_true h1) (of_decide_eq_true h2))) (fun a b => ?_) _)
      rw [← Bool.decide_or]
      exact decide_eq_true (rle_total a.2 b.2)
    have lt : ((L1.mergeSort (PySem.W.dataLe false encT)).map (·.2)).Pairwise (· < ·) := strictR (List.pairwise_map.mpr le) ((pL.map _).nodup_iff.mpr R.nd)
    generalize L1.mergeSort (PySem.W.dataLe false encT) = L' at eq pL lt
    have ⟨c', isL⟩ := sortedHeap_at (vs := vs) (out := out.toArray) fresh
    have keep : ∀ b u, s.heap.get? b = some u → (sortedHeap (t.heap.push (seqObj "list" vs.toArray 0)) t.heap.objs.size vs out.toArray).get? b = some u := fun b u e => by
      have e1 := old b u e
      have lt := Heap.lt_size e1
      have e2 := Heap.get?_push_of_some (seqObj "list" vs.toArray 0) e1
      rwa [← sortedHeap_old (out := out.toArray) (vs := vs) (Nat.ne_of_lt lt) (size_push' t.heap _ ▸ Nat.lt_succ_of_lt lt)] at e2
    have free : H t.heap.objs.size = none := I.hok.fresh hz
    have fewY : (L'.map fun q => V.ref q.1).length ≤ sizeLine := by
      rw [List.length_map, pL.length_eq, sizeLine_eq]
      omega
    have rel : Vals (L'.map fun q => V.ref q.1) out := by
      rw [eq]
      exact vals_of_refs L'
    refine wpAny_pure ⟨_, rfl, .ref t.heap.objs.size, upd H t.heap.objs.size (.lst (L'.map fun q => V.ref q.1)), ?_, rfl, q L' _ pL lt free⟩
    exact I.call' (ch := []) hos (Un.laid keep hz free) (I.hok.laid keep hz ⟨fewY, out, c', rel, isL⟩) (by show AllBare t.gens; rw [hg]; exact I.bare) nofun
end
def rows? : List FV → Option (List (List Int))
  | [] => some []
  | .tup xs :: r => (ints? xs).bind fun k => (rows? r).map (k :: ·)
  | _ => none
theorem rows_den {M : Str → Option Value} {F : Hp} : ∀ {xs : List FV} {vs : List V} {ks : List (List Int)}, rows? xs = some ks → FDenL M F xs vs → ∃ L : List (Addr × List Int), vs = L.map (fun p => V.ref p.1) ∧ L.map (·.2) = ks ∧ ∀ p ∈ L, F p.1 = some (.tup (p.2.map V.int))
  | [], vs, ks, h, d => by
    cases h
    exact ⟨[], d, rfl, nofun⟩
  | .tup xs :: r, vs, ks, h, d => by
    unfold rows? at h
    obtain ⟨k, e1, h⟩ := Option.bind_eq_some_iff.mp h
    obtain ⟨ks', e2, rfl⟩ := Option.map_eq_some_iff.mp h
    obtain ⟨v, ws, rfl, ⟨a, us, rfl, e3, d1⟩, d2⟩ := d
    obtain ⟨L, rfl, rfl, m⟩ := rows_den e2 d2
    have e4 := d1.ints? e1
    subst e4
    refine ⟨(a, k) :: L, rfl, rfl, fun p hp => ?_⟩
    rcases List.mem_cons.mp hp with rfl | hp
    · exact e3
    · exact m p hp
  | .non :: _, _, _, h, _ | .bl _ :: _, _, _, h, _ | .int _ :: _, _, _, h, _ | .str _ :: _, _, _, h, _ | .tuz _ :: _, _, _, h, _ | .lst _ :: _, _, _, h, _ | .dK _ :: _, _, _, h, _ | .dT _ :: _, _, _, h, _ | .ins _ _ :: _, _, _, h, _ | .exc _ :: _, _, _, h, _ | .scr _ :: _, _, _, h, _ | .dN _ :: _, _, _, h, _ => nomatch h
theorem den_rows {M : Str → Option Value} {F : Hp} : ∀ {L : List (Addr × List Int)}, (∀ p ∈ L, F p.1 = some (.tup (p.2.map V.int))) → FDenL M F ((L.map (·.2)).map rowF) (L.map fun p => V.ref p.1)
  | [], _ => rfl
  | p :: L, h => ⟨_, _, rfl, ⟨p.1, _, rfl, h p List.mem_cons_self, FDenL_ints p.2⟩, den_rows fun q hq => h q (List.mem_cons_of_mem _ hq)⟩
section
variable {X : Cx} {W : WX} {f : DE} {e : Expr} {p p2 pos pos2 : Pos}
def dSortSetT (f : DE) : DE := fun env => (f env).bind fun r => match r.ov.lst?.bind rows? with
  | some ks => if ks.length < 64 ∧ [] ∉ ks then .ok (.st (.ol ((sortR ks).map rowF))) else .no
  | none => .no
theorem je_sortSetT (hc : X.calm = true) (hu : X.A.units + 64 < cLine) (he : JE X W e f) (hm : X.mg "sorted" = none) (hm2 : X.mg "set" = none) (hg : Gl X "sorted" := by rfl) (hg2 : Gl X "set" := by rfl)
    (hs : starEach [.Call (.Name "set" p2) [e] [] pos2] X.env = (false, eval (.Call (.Name "set" p2) [e] [] pos2) X.env) :: starEach [] X.env := by rfl) (hs2 : starEach [e] X.env = (false, eval e X.env) :: starEach [] X.env := by rfl) :
    JE X W (.Call (.Name "sorted" p) [.Call (.Name "set" p2) [e] [] pos2] [] pos) (dSortSetT f) := by
  refine PE.imp (pe_callB (cr_sortedR hc (by omega)) hg hm boot_sorted (pa_cons (pe_callTy (cr_setOfT hc hu) hg2 hm2 boot_set (pa_cons he pa_nil hs2) (by decide) (by decide) hs2 rfl) pa_nil hs) (by decide) (by decide) hs rfl) ?_
  rintro σ H Q ⟨G, Z, env, T, r, q⟩
  refine tE.bind r Sb.refl q fun x u H1 _ s1 ⟨F, C1, C2, r1⟩ p1 => ?_
  split at p1
  case h_2 => exact p1.elim
  case h_1 ks ek =>
    split at p1
    case isFalse => exact p1.elim
    case isTrue few =>
      obtain ⟨xs, e1, e2⟩ := Option.bind_eq_some_iff.mp ek
      have b : Bor X.mg F H1 x.ov u := r1.bor List.mem_cons_self
      obtain ⟨l, vs, rfl, hq, d⟩ := b.lst r1.fh e1
      obtain ⟨L0, rfl, rfl, hF⟩ := rows_den e2 d
      have hT : ∀ p ∈ L0, H1 p.1 = some (.tup (p.2.map V.int)) := fun p hp => r1.fh _ _ (hF p hp)
      refine ⟨l, L0, rfl, SqL.of hq, fun p hp => .inl (.inl (hT p hp)), by simpa using few.1, fun a L ha sub all => ?_⟩
      have same := same_upd (o := SetTO X.prog X.w a L) ha
      refine ⟨a, L, rfl, upd_same, fun p hp => ⟨.inl (.inl (same _ _ (hT p (sub p hp)))), fun e => few.2 (e ▸ List.mem_map_of_mem (sub p hp))⟩, fun L' pp pm lt hpp => ?_⟩
      have r2 := r1.same same
      have eL : L'.map (·.2) = sortR (L0.map (·.2)) := strictR_ext lt (sortR_lt _) fun k => by
        rw [sortR_mem, (pm.map _).mem_iff]
        constructor
        · intro h
          obtain ⟨p, hp, rfl⟩ := List.mem_map.mp h
          exact List.mem_map_of_mem (sub p hp)
        · intro h
          obtain ⟨p, hp, rfl⟩ := List.mem_map.mp h
          exact all p hp
      have den : FDenL X.mg F ((sortR (L0.map (·.2))).map rowF) (L'.map fun q => V.ref q.1) := by
        rw [← eL]
        exact den_rows fun p hp => hF p (sub p (pm.mem_iff.mp hp))
      have n := New.lst (M := X.mg) r2.fh hpp den
      exact p1 _ _ (same.trans (let ⟨_, _, n⟩ := n; n.hh)) ((r2.new n).sb (Sb.refl.cons.both))
end
end J
namespace J
open PySem PySem.Spec PyProof.Rows L2
/-! ### statements that rewrite nothing: what is looked at may stay looked at -/
def sQ (M : Str → Option Value) (W : WX) (f : DS) : TS := fun D σ H => ∃ G Z env T, R M G Z H σ env T ∧ PostS M W G Z T D (f env)
abbrev JQ (X : Cx) (W : WX) (st : Stmt) (f : DS) : Prop := PS X st (sQ X.mg W f)
abbrev JQs (X : Cx) (W : WX) (st : List Stmt) (f : DS) : Prop := PSs X st (sQ X.mg W f)
theorem PostS.seqQ {M : Str → Option Value} {G Z : Hp} {env : VEnv} {T : List (V × Rv)} {W : WX} {D : Ends} {f : DS} {g : DS} (p : PostS M W G Z T D (SO.bind (f env) g)) : PostS M W G Z T { D with nx := sQ M W g D } (f env) := by
  unfold SO.bind at p
  split at p
  · rename_i e e1
    rw [e1]
    exact fun σ' H' r => ⟨G, Z, e, T, r, p⟩
  · rename_i x hx
    cases e : f env with
    | ok s =>
      rw [e] at p hx
      cases s with
      | nx e2 => exact absurd rfl (hx e2)
      | rt o e2 => exact p
      | bk e2 => exact p
      | ct e2 => exact p
    | ex c => rw [e] at p; exact p
    | no => rw [e] at p; exact p
/-- the items of a list of one's own, which stands still -/
def qItems (f : DE) : VEnv → Ans (List FV) := fun env => (f env).bind fun r => Ans.of r.ov.lst?
section
variable {X : Cx} {W : WX} {pos pos' : Pos} {e tg : Expr} {st : Stmt} {rest a b body : List Stmt} {f g fb : DS} {fe : DE} {c : Expr} {fc : DT} {t : TgF} {vs : List Nat}
theorem js_quiet (h : JQ X W st f) : JS X W st f := PS.imp h fun D σ H ⟨G, Z, env, T, _, r, p⟩ => ⟨G, Z, env, T, r, p⟩
theorem jqs_nil : JQs X W [] dSkip := PSs.imp pss_nil fun D σ H ⟨G, Z, env, T, r, p⟩ => p σ H r
theorem jqs_cons (h1 : JQ X W st f) (h2 : JQs X W rest g) : JQs X W (st :: rest) (dSeq f g) := PSs.imp (pss_cons h1 h2) fun D σ H ⟨G, Z, env, T, r, p⟩ => ⟨G, Z, env, T, r, p.seqQ⟩
theorem jqs_one (h1 : JQ X W st f) : JQs X W [st] f := pss_one h1
theorem jq_break : JQ X W (.Break pos) dBrk := PS.imp ps_break fun D σ H ⟨G, Z, env, T, r, p⟩ => p σ H r
theorem jq_continue : JQ X W (.Continue pos) dCt := PS.imp ps_continue fun D σ H ⟨G, Z, env, T, r, p⟩ => p σ H r
theorem jq_ret (he : JE X W e fe) : JQ X W (.Return (some e) pos) (dRet fe) := PS.imp (ps_ret he) fun D σ H ⟨G, Z, env, T, r, p⟩ => tE.bindS r p fun rv v H1 _ s r1 p1 => by
  cases rv with
  | st o => exact p1 v σ H1 r1
  | bo o => exact p1.elim
theorem jq_set (i : Nat) {x : Str} (hN : X.N.Nodup) (he : JE X W e fe) (hi : X.N[i]? = some x := by rfl) (hx : Loc X.env.scope x := by first | exact .inl rfl | exact .inr rfl) (hs : swapsWith e (some (.Name x pos')) pos.line X.env = pure false := by rfl)
    (hf : X.fn x = true ∨ X.env.scope.names.lookup x = some .local := by first | exact .inl rfl | exact .inr rfl) : JQ X W (.Assign [.Name x pos'] e pos) (dSet i fe) :=
  PS.imp (ps_set hN hi hx he hs hf) fun D σ H ⟨G, Z, env, T, r, p⟩ => tE.bindS r p fun rv v H1 _ s r1 p1 => by
    cases rv with
    | st o => exact p1 _ _ (r1.set i)
    | bo o => exact p1.elim
theorem jq_if (hc : JT X W c fc) (ha : JQs X W a f) (hb : JQs X W b g) : JQ X W (.If c a b pos) (dIf fc f g) := by
  refine PS.imp (ps_if hc ha hb) fun D σ H ⟨G, Z, env, T, r, p⟩ => tT.bindS r p fun b H1 _ s r1 p1 => ?_
  cases b with
  | true =>
    rw [if_pos rfl] at p1 ⊢
    exact ⟨G, Z, env, T, r1, p1⟩
  | false =>
    rw [if_neg Bool.false_ne_true] at p1 ⊢
    exact ⟨G, Z, env, T, r1, p1⟩
theorem walk_listR {M : Str → Option Value} {K : PySem.W.Frag} {a : Addr} {r : Rv} {xs : List FV} (e : r.ov.lst? = some xs) : WalkJ M (Itl K a) [(.ref a, r)] xs := fun F H i hf hk => by
  obtain ⟨a', vs, ea, q, d⟩ := (hk _ (List.mem_singleton_self _)).lst hf e
  cases ea
  refine ⟨fun x hx => ?_, fun hi => ⟨vs, SqL.of q, by rw [d.length]; exact hi⟩⟩
  obtain ⟨v, h1, h2⟩ := d.get hx
  refine ⟨⟨vs, v, SqL.of q, h1⟩, fun w H' ⟨e1, e2⟩ => ?_⟩
  have e3 := e2 vs (SqL.of q)
  rw [h1] at e3
  cases e3
  rw [e1]
  exact New.old hf h2
theorem jq_for (hp : PassesOwn (model X.prog X.w) X.A X.env X.xe) (hc : X.calm = true) (he : JE X W e fe) (hg : JG X tg vs t) (hb : JQs X W body fb) (hs : ∀ x, foldedSetIterable e X.env x = pure x := by intro _; rfl) :
    JQ X W (.For tg e body [] pos) (dFor (qItems fe) t fb) := by
  refine PS.imp (ps_for hp hc (pi_list he) hg hb hs) fun D σ H ⟨G, Z, env, T, r, p⟩ => ?_
  have p : PostS X.mg W G Z T D (((fe env).bind fun r => Ans.of r.ov.lst?).bind fun xs => forL t fb xs env) := p
  rw [Ans.bind_assoc] at p
  refine tE.bindS r p fun rv v H1 _ s1 r1 p1 => ?_
  cases el : rv.ov.lst? with
  | none => rw [el] at p1; exact p1.elim
  | some items =>
    rw [el] at p1
    obtain ⟨F, C1, C2, r1⟩ := r1
    obtain ⟨a, ws, rfl, h1, d⟩ := (r1.bor (List.mem_cons_self (a := (v, rv)))).lst r1.fh el
    have wk := walk_listR (M := X.mg) (K := X.K) (a := a) el
    have hp : PostS X.mg W G Z T D (forL t fb items env) := p1
    refine ⟨a, rfl, ⟨ws, SqL.of h1⟩, fun i m σ H => i + m = items.length ∧ ∃ env, R X.mg G Z H σ env ([(.ref a, rv)] ++ T) ∧ PostS X.mg W G Z T D (forL t fb (items.drop i) env), ⟨items.length, by omega, env, r1.r, by rw [List.drop_zero]; exact hp⟩, ?_⟩
    rintro i m σ H ⟨him, env, ⟨F, C1, C2, r⟩, hpost⟩
    obtain ⟨w1, w2⟩ := wk F H i r.fh r.kept
    by_cases hlt : i < items.length
    · obtain ⟨hgo, hy⟩ := w1 items[i] (List.getElem?_eq_getElem hlt)
      rw [List.drop_eq_getElem_cons hlt] at hpost
      have hpost : PostS X.mg W G Z T D (match t items[i] env with
        | some e1 => (fb e1).bind (loopK (forL t fb (items.drop (i + 1))))
        | none => .no) := hpost
      refine .inr ⟨hgo, fun σ' H' => ∃ env', R X.mg G Z H' σ' env' ([(.ref a, rv)] ++ T) ∧ PostS X.mg W G Z T D (forL t fb (items.drop (i + 1)) env'), fun σ' H' ⟨env', r', p'⟩ => ⟨m - 1, by omega, by omega, env', r', p'⟩, fun v H' yl => ?_⟩
      refine ⟨G, Z, env, [(.ref a, rv)] ++ T, items[i], r.new (hy v H' yl), ?_⟩
      cases et : t items[i] env with
      | none => rw [et] at hpost; exact hpost.elim
      | some e1 =>
        rw [et] at hpost
        intro σ' _ r2
        have hpost : PostS X.mg W G Z T D ((fb e1).bind (loopK (forL t fb (items.drop (i + 1))))) := hpost
        refine ⟨G, Z, e1, [(.ref a, rv)] ++ T, r2, ?_⟩
        cases eb : fb e1 with
        | no => rw [eb] at hpost; exact hpost.elim
        | ex c => rw [eb] at hpost; exact hpost
        | ok s =>
          rw [eb] at hpost
          cases s with
          | nx e => exact fun σ3 H3 r3 => ⟨e, r3, hpost⟩
          | ct e => exact fun σ3 H3 r3 => ⟨e, r3, hpost⟩
          | bk e => exact fun σ3 H3 r3 => hpost σ3 H3 (r3.sb sb_app)
          | rt o e => exact fun v σ3 H3 r3 => hpost v σ3 H3 (r3.sb sb_app.both)
    · refine .inl ⟨w2 (by omega), ?_⟩
      rw [List.drop_of_length_le (by omega)] at hpost
      exact hpost σ H (r.r.sb sb_app)
end
end J
namespace J
open PySem PySem.Spec PyProof.Rows L2
/-! ### x[k].append(e), x.extend(e) -/
def OV.sub? (p : OV) (k : FV) : Option OV := match p, k with
  | .dl os, .int i => atI os i
  | .dd kvs, k => k.key?.bind fun k => lookK kvs k
  | _, _ => none
def setK {κ α : Type} [DecidableEq κ] : List (κ × α) → κ → α → List (κ × α)
  | [], _, _ => []
  | p :: r, k, v => if p.1 = k then (p.1, v) :: r else p :: setK r k v
def OV.setAt (p : OV) (k : FV) (o : OV) : OV := match p, k with
  | .dl os, .int i => match ixN os.length i with
    | some j => .dl (os.set j o)
    | none => p
  | .dd kvs, k => match k.key? with
    | some k => .dd (setK kvs k o)
    | none => p
  | _, _ => p
section
variable {M : Str → Option Value} {G Z H F : Hp} {o p p' q q' : OV} {v y : V} {i : Nat} {L B : Cells} {a : Addr} {ho ho' : HO}
theorem OwnL.focus {os : List OV} {vs : List V} (h : OwnL M F os vs L) : ∀ {j : Nat} {q : OV}, os[j]? = some q → ∃ u A Lr, vs[j]? = some u ∧ Own M F q u A ∧ L.Perm (A ++ Lr) ∧ ∀ q' A', Own M F q' u A' → ∃ L', OwnL M F (os.set j q') vs L' ∧ L'.Perm (A' ++ Lr) := by
  induction os generalizing vs L with
  | nil => intro j q h; simp at h
  | cons x os ih =>
    intro j q hj
    obtain ⟨v, ws, A, C, e, d, r, e2⟩ := h
    subst e e2
    cases j with
    | zero =>
      have hj : x = q := by simpa using hj
      subst hj
      exact ⟨v, A, C, rfl, d, .refl _, fun q' A' d' => ⟨A' ++ C, ⟨v, ws, A', C, rfl, d', r, rfl⟩, .refl _⟩⟩
    | succ j =>
      obtain ⟨u, A2, Lr, h1, h2, h3, h4⟩ := ih r (j := j) (by simpa using hj)
      refine ⟨u, A2, A ++ Lr, by simpa using h1, h2, ?_, fun q' A' d' => ?_⟩
      · refine (List.Perm.append_left A h3).trans ?_
        have e1 : A ++ (A2 ++ Lr) = (A ++ A2) ++ Lr := by simp
        have e2 : A2 ++ (A ++ Lr) = (A2 ++ A) ++ Lr := by simp
        rw [e1, e2]
        exact List.perm_append_comm.append_right Lr
      · obtain ⟨L', q1, q2⟩ := h4 q' A' d'
        refine ⟨A ++ L', ⟨v, ws, A, L', rfl, d, q1, rfl⟩, (List.Perm.append_left A q2).trans ?_⟩
        have e1 : A ++ (A' ++ Lr) = (A ++ A') ++ Lr := by simp
        have e2 : A' ++ (A ++ Lr) = (A' ++ A) ++ Lr := by simp
        rw [e1, e2]
        exact List.perm_append_comm.append_right Lr
theorem OwnK.focus {k : Key} {os : List (Key × OV)} {vs : List (Key × V)} (h : OwnK M F os vs L) : ∀ {q : OV}, lookK os k = some q → ∃ u A Lr, valV vs k = some u ∧ Own M F q u A ∧ L.Perm (A ++ Lr) ∧ ∀ q' A', Own M F q' u A' → ∃ L', OwnK M F (setK os k q') vs L' ∧ L'.Perm (A' ++ Lr) := by
  induction os generalizing vs L with
  | nil => intro q h; simp [lookK] at h
  | cons x os ih =>
    intro q hj
    obtain ⟨j, x⟩ := x
    obtain ⟨v, ws, A, C, e, d, r, e2⟩ := h
    subst e e2
    rw [lookK_cons] at hj
    by_cases hjk : j = k
    · rw [if_pos hjk] at hj
      cases hj
      exact ⟨v, A, C, valV_pos hjk, d, .refl _, fun q' A' d' => ⟨A' ++ C, by unfold setK; rw [if_pos hjk]; exact ⟨v, ws, A', C, rfl, d', r, rfl⟩, .refl _⟩⟩
    · rw [if_neg hjk] at hj
      obtain ⟨u, A2, Lr, h1, h2, h3, h4⟩ := ih r hj
      refine ⟨u, A2, A ++ Lr, by rw [valV_neg hjk]; exact h1, h2, ?_, fun q' A' d' => ?_⟩
      · refine (List.Perm.append_left A h3).trans ?_
        have e1 : A ++ (A2 ++ Lr) = (A ++ A2) ++ Lr := by simp
        have e2 : A2 ++ (A ++ Lr) = (A2 ++ A) ++ Lr := by simp
        rw [e1, e2]
        exact List.perm_append_comm.append_right Lr
      · obtain ⟨L', q1, q2⟩ := h4 q' A' d'
        refine ⟨A ++ L', by unfold setK; rw [if_neg hjk]; exact ⟨v, ws, A, L', rfl, d, q1, rfl⟩, (List.Perm.append_left A q2).trans ?_⟩
        have e1 : A ++ (A' ++ Lr) = (A ++ A') ++ Lr := by simp
        have e2 : A' ++ (A ++ Lr) = (A' ++ A) ++ Lr := by simp
        rw [e1, e2]
        exact List.perm_append_comm.append_right Lr
/-- a part rewritten is the whole rewritten -/
theorem wrote_up {b : Addr} {hb : HO} {A Lr L0 : Cells} (hL : L0.Perm (A ++ Lr)) (hw : Wrote M F A B y a ho ho' q') (hup : ∀ A', Own M F q' y A' → ∃ L', Own M F p' v ((b, hb) :: L') ∧ L'.Perm (A' ++ Lr)) : Wrote M F ((b, hb) :: L0) B v a ho ho' p' := by
  obtain ⟨A1, D, A', w1, w2, w3⟩ := hw
  obtain ⟨L', u1, u2⟩ := hup A' w2
  refine ⟨(b, hb) :: (A1 ++ Lr), D, _, ?_, u1, ?_⟩
  · have h1 : L0.Perm ((a, ho) :: (A1 ++ D) ++ Lr) := hL.trans (w1.append_right Lr)
    have h2 : ((a, ho) :: (A1 ++ D) ++ Lr).Perm ((a, ho) :: ((A1 ++ Lr) ++ D)) := by
      refine List.Perm.cons _ ?_
      show ((A1 ++ D) ++ Lr).Perm ((A1 ++ Lr) ++ D)
      rw [List.append_assoc, List.append_assoc]
      exact List.Perm.append_left A1 List.perm_append_comm
    exact ((h1.trans h2).cons _).trans (List.Perm.swap _ _ _)
  · have h1 : L'.Perm ((a, ho') :: (A1 ++ B) ++ Lr) := u2.trans (w3.append_right Lr)
    have h2 : ((a, ho') :: (A1 ++ B) ++ Lr).Perm ((a, ho') :: ((A1 ++ Lr) ++ B)) := by
      refine List.Perm.cons _ ?_
      show ((A1 ++ B) ++ Lr).Perm ((A1 ++ Lr) ++ B)
      rw [List.append_assoc, List.append_assoc]
      exact List.Perm.append_left A1 List.perm_append_comm
    exact ((h1.trans h2).cons _).trans (List.Perm.swap _ _ _)
/-- a part of a value: where it lies, and how the whole is rewritten with it -/
theorem own_sub {k : FV} {w : V} (e : p.sub? k = some q) (h : Own M F p v L) (dk : FDen M H k w) (hH : ∀ c ∈ L, H c.1 = some c.2) :
    ∃ d u A, v = .ref d ∧ Own M F q u A ∧ (∀ c ∈ A, H c.1 = some c.2) ∧ ((p.isL = true ∧ ∃ vs i, w = .int i ∧ H d = some (.lst vs) ∧ atI vs i = some u) ∨ (p.isL = false ∧ ∃ ws k, w = kV k ∧ H d = some (.dK ws) ∧ valV ws k = some u)) ∧
      ∀ q' B a ho ho', Wrote M F A B u a ho ho' q' → Wrote M F L B v a ho ho' (p.setAt k q') := by
  unfold OV.sub? at e
  split at e
  · rename_i os i
    obtain ⟨j, e1, e2⟩ := Option.bind_eq_some_iff.mp e
    obtain ⟨d, vs, L0, ev, r, eL⟩ := h
    subst ev eL
    obtain ⟨u, A, Lr, h1, h2, h3, h4⟩ := r.focus e2
    refine ⟨d, u, A, rfl, h2, fun c hc => hH c (List.mem_cons_of_mem _ (h3.mem_iff.mpr (List.mem_append_left _ hc))), .inl ⟨rfl, vs, i, dk, hH _ List.mem_cons_self, ?_⟩, fun q' B a ho ho' hw => ?_⟩
    · unfold atI
      rw [r.length, e1]
      exact h1
    · refine wrote_up h3 hw fun A' d' => ?_
      obtain ⟨L', u1, u2⟩ := h4 q' A' d'
      refine ⟨L', ?_, u2⟩
      show Own M F (OV.setAt (.dl os) (.int i) q') (.ref d) _
      unfold OV.setAt
      simp only
      rw [e1]
      exact ⟨d, vs, L', rfl, u1, rfl⟩
  · rename_i kvs
    obtain ⟨k', e1, e2⟩ := Option.bind_eq_some_iff.mp e
    obtain ⟨d, ws, L0, ev, r, eL⟩ := h
    subst ev eL
    obtain ⟨u, A, Lr, h1, h2, h3, h4⟩ := r.focus e2
    refine ⟨d, u, A, rfl, h2, fun c hc => hH c (List.mem_cons_of_mem _ (h3.mem_iff.mpr (List.mem_append_left _ hc))), .inr ⟨rfl, ws, k', dk.key e1, hH _ List.mem_cons_self, h1⟩, fun q' B a ho ho' hw => ?_⟩
    refine wrote_up h3 hw fun A' d' => ?_
    obtain ⟨L', u1, u2⟩ := h4 q' A' d'
    refine ⟨L', ?_, u2⟩
    have : OV.setAt (.dd kvs) k q' = .dd (setK kvs k' q') := by
      unfold OV.setAt
      simp only
      rw [e1]
    rw [this]
    exact ⟨d, ws, L', rfl, u1, rfl⟩
  · cases e
end
/-- x[k].append(e) -/
def dAppAt (i : Nat) (fk fe : DE) : DS := fun env => match env[i]? with
  | some (some p) => (fk env).bind fun kr => match p.sub? kr.fv with
    | some q => if q.isL then (fe env).bind fun r => match r with
        | .st o => if q.size < BIG then match q.app o with
          | some q' => .ok (.nx (env.set i (some (p.setAt kr.fv q'))))
          | none => .no
          else .no
        | _ => .no
      else .no
    | none => .no
  | _ => .no
section
variable {X : Cx} {W : WX} {pos pos' apos spos cpos : Pos} {e k : Expr} {f fk fe : DE} {x : Str}
theorem js_appAt (i : Nat) (hu : X.A.units + 1 < cLine) (hk : JE X W k fk) (he : JE X W e fe) (hN : X.N[i]? = some x := by rfl) (hv : Vis X.env.scope x := by first | exact Or.inl rfl | exact Or.inr (Or.inl rfl) | exact Or.inr (Or.inr rfl))
    (hd : (x == ("__debug__" : Str)) = false := by decide) (hcd : (x == ("__classdict__" : Str)) = false := by decide)
    (hs : swapsWith (.Call (.Attribute (.Subscript (.Name x pos') k spos) "append" apos) [e] [] cpos) none pos.line X.env = pure false := by rfl)
    (hbase : attributeBase (.Subscript (.Name x pos') k spos) "append" X.env (eval (.Subscript (.Name x pos') k spos) X.env) = eval (.Subscript (.Name x pos') k spos) X.env := by rfl)
    (hfew : ((backTo cpos (starEach [e] X.env)).all (fun x => !x.1) && (backToKw cpos (keywordEach [] X.env)).all (fun x => x.1.isSome)
      && decide ([e].length + ([] : List Keyword).length + (if ([] : List Keyword).isEmpty then 0 else 1) < 30)) = true := by rfl)
    (hline : (apos.endLine == cpos.line) = true := by rfl) (hst : starEach [e] X.env = (false, eval e X.env) :: starEach [] X.env := by rfl) (hplain : (backTo cpos (starEach [] X.env)).any (·.1) = false := by rfl)
    (hix : PlainIx k := by first | exact fun _ _ => rfl | (intro _ _; rfl)) :
    JS X W (.Expr (.Call (.Attribute (.Subscript (.Name x pos') k spos) "append" apos) [e] [] cpos) pos) (dAppAt i fk fe) := by
  have hpl := PE.or (pe_ix (ix_seq (X := X)) (pe_var (pos := pos') hN hv hd hcd) hk hix (pos := spos)) (pe_dget hu (pe_var (pos := pos') hN hv hd hcd) hk hix (pos := spos))
  refine PS.imp (ps_expr (pe_bm F.plainAttrs_list F.slot_list_append (by rfl) (fun pins s σ H x xs v us Q I r rv q => mt_append pins s σ H x xs v us Q I r rv q) hpl (pa_cons he pa_nil hst) hbase hfew hline hst hplain) hs) fun D σ H ⟨G, Z, env, T, hT, r, p⟩ => ?_
  unfold dAppAt at p
  split at p
  · rename_i q0 ei
    -- which of the two it is
    have main : ∀ Qk : VK, (∀ w H1, (∃ d u, σ[i]? = some (some (.ref d)) ∧ ((q0.isL = true ∧ ∃ vs i, w = .int i ∧ H1 d = some (.lst vs) ∧ atI vs i = some u) ∨ (q0.isL = false ∧ ∃ ws k, w = kV k ∧ H1 d = some (.dK ws) ∧ valV ws k = some u)) ∧
        tyV X.K "list" u H1 ∧ tE X.mg W fe σ H1 fun y H2 => rAppend u [y] H2 fun _ H3 => D.nx σ H3) → Qk w H1) → tE X.mg W fk σ H Qk := by
      intro Qk hQk
      refine tE.bindS r p fun kr w H1 _ s1 r1 p1 => hQk w H1 ?_
      split at p1
      · rename_i q eq
        split at p1
        · rename_i hl
          obtain ⟨F1, D1, D2, r1⟩ := r1
          have dk : FDen X.mg H1 kr.fv w := (r1.bor (List.mem_cons_self (a := (w, kr)))).fden r1.fh
          obtain ⟨F2, D3, D4, r2⟩ := r1.r.pop
          obtain ⟨v, A, Lr, j1, j2, j3, _⟩ := r2.ev.repl ei
          obtain ⟨d, u, A2, e1, o2, c2, k2, _⟩ := own_sub eq j2 dk fun c hc => r2.gd.hp c (List.mem_append_left _ (j3.mem_iff.mpr (List.mem_append_left _ hc)))
          subst e1
          obtain ⟨b, vs0, e3, m3⟩ := own_isL hl o2
          subst e3
          refine ⟨d, .ref b, j1, k2, .inl ⟨rfl, vs0, SqL.of (c2 _ m3)⟩, ?_⟩
          refine tE.bindS r2.r p1 fun rv y H2 _ s2 r3 p3 => ?_
          cases rv with
          | bo o => exact p3.elim
          | st o =>
            simp only at p3
            split at p3
            · rename_i hsz
              split at p3
              · rename_i q' eq'
                obtain ⟨F4, D5, D6, r4⟩ := r3
                obtain ⟨v4, L4, B4, w1, w2, w3, w4, w5⟩ := r4.write hT ei
                rw [j1] at w1
                obtain rfl := Option.some.inj (Option.some.inj w1)
                obtain ⟨d5, u5, A5, e5, o5, c5, k5, up5⟩ := own_sub eq w2 (dk.mono s2) w4
                cases e5
                have eu : u5 = .ref b := by
                  rcases k2 with ⟨_, vs, ii, a1, a2, a3⟩ | ⟨_, ws, kk, a1, a2, a3⟩
                  · rcases k5 with ⟨_, vs', ii', b1, b2, b3⟩ | ⟨_, ws', kk', b1, b2, b3⟩
                    · rw [a1] at b1
                      cases b1
                      rw [s2 _ _ a2] at b2
                      cases b2
                      rw [a3] at b3
                      exact (Option.some.inj b3).symm
                    · rw [s2 _ _ a2] at b2
                      cases b2
                  · rcases k5 with ⟨_, vs', ii', b1, b2, b3⟩ | ⟨_, ws', kk', b1, b2, b3⟩
                    · rw [s2 _ _ a2] at b2
                      cases b2
                    · rw [a1] at b1
                      have := kV_inj b1
                      subst this
                      rw [s2 _ _ a2] at b2
                      cases b2
                      rw [a3] at b3
                      exact (Option.some.inj b3).symm
                subst eu
                obtain ⟨a, vs, e6, m1, m2, wr⟩ := own_app eq' o5 w3
                cases e6
                exact ⟨b, vs, y, rfl, rfl, c5 _ m1, by rw [m2]; exact hsz, p3 σ _ (let ⟨_, _, z⟩ := w5 _ _ _ _ (up5 _ _ _ _ _ wr); z.r)⟩
              · exact p3.elim
            · exact p3.elim
        · exact p1.elim
      · exact p1.elim
    -- the owner's kind tells the road
    obtain ⟨F, C1, C2, r0⟩ := r
    obtain ⟨v, A, Lr, j1, j2, j3, _⟩ := r0.ev.repl ei
    have hH : ∀ c ∈ A, H c.1 = some c.2 := fun c hc => r0.gd.hp c (List.mem_append_left _ (j3.mem_iff.mpr (List.mem_append_left _ hc)))
    by_cases hq : q0.isL = true
    · refine .inl ⟨v, j1, main _ fun w H1 ⟨d, u, h1, h2, h3, h4⟩ => .inl ?_⟩
      rw [j1] at h1
      obtain rfl := Option.some.inj (Option.some.inj h1)
      rcases h2 with ⟨_, vs, ii, a1, a2, a3⟩ | ⟨hn, _⟩
      · exact ⟨d, vs, ii, u, rfl, a1, SqL.of a2, a3, h3, h4⟩
      · rw [hq] at hn; cases hn
    · refine .inr ⟨v, j1, main _ fun w H1 ⟨d, u, h1, h2, h3, h4⟩ => ?_⟩
      rw [j1] at h1
      obtain rfl := Option.some.inj (Option.some.inj h1)
      rcases h2 with ⟨hn, _⟩ | ⟨_, ws, kk, a1, a2, a3⟩
      · exact absurd hn hq
      · subst a1
        exact ⟨d, u, rfl, (by have := DGet.k (k := kk) a2; rwa [a3] at this), h3, h4⟩
  · exact p.elim
end
end J
namespace J
open PySem PySem.Spec PyProof.Rows L2
/-! ### x.extend(e) -/
def dExt (i : Nat) (f : DE) : DS := fun env => match env[i]? with
  | some (some (.ol xs)) => (f env).bind fun r => match r with
    | .st (.fz (.lst zs)) => if xs.length + zs.length ≤ BIG then .ok (.nx (env.set i (some (.ol (xs ++ zs))))) else .no
    | _ => .no
  | _ => .no
section
variable {X : Cx} {W : WX} {pos pos' apos spos cpos : Pos} {e k : Expr} {f fk fe : DE} {x : Str}
theorem js_extend (i : Nat) (he : JE X W e f) (hN : X.N[i]? = some x := by rfl) (hv : Vis X.env.scope x := by first | exact Or.inl rfl | exact Or.inr (Or.inl rfl) | exact Or.inr (Or.inr rfl))
    (hd : (x == ("__debug__" : Str)) = false := by decide) (hcd : (x == ("__classdict__" : Str)) = false := by decide)
    (hs : swapsWith (.Call (.Attribute (.Name x pos') "extend" apos) [e] [] cpos) none pos.line X.env = pure false := by rfl)
    (hbase : attributeBase (.Name x pos') "extend" X.env (eval (.Name x pos') X.env) = eval (.Name x pos') X.env := by rfl)
    (hfew : ((backTo cpos (starEach [e] X.env)).all (fun x => !x.1) && (backToKw cpos (keywordEach [] X.env)).all (fun x => x.1.isSome)
      && decide ([e].length + ([] : List Keyword).length + (if ([] : List Keyword).isEmpty then 0 else 1) < 30)) = true := by rfl)
    (hline : (apos.endLine == cpos.line) = true := by rfl) (hst : starEach [e] X.env = (false, eval e X.env) :: starEach [] X.env := by rfl) (hplain : (backTo cpos (starEach [] X.env)).any (·.1) = false := by rfl) :
    JS X W (.Expr (.Call (.Attribute (.Name x pos') "extend" apos) [e] [] cpos) pos) (dExt i f) := by
  refine PS.imp (ps_expr (pe_bm F.plainAttrs_list F.slot_list_extend (by rfl) (fun pins s σ H x xs v us Q I r rv q => mt_extend pins s σ H x xs v us Q I r rv q) (pe_var hN hv hd hcd) (pa_cons he pa_nil hst) hbase hfew hline hst hplain) hs) fun D σ H ⟨G, Z, env, T, hT, r, p⟩ => ?_
  unfold dExt at p
  split at p
  · rename_i xs ei
    obtain ⟨F, C1, C2, r⟩ := r
    obtain ⟨a0, vs0, k1, k2⟩ := r.isL (p := .ol xs) rfl ei
    refine ⟨_, k1, .inl ⟨rfl, vs0, SqL.of k2⟩, ?_⟩
    refine tE.bindS r.r p fun rv y H1 _ s1 r1 p1 => ?_
    split at p1
    · rename_i zs _
      split at p1
      · rename_i hz
        obtain ⟨F2, D1, D2, r1⟩ := r1
        obtain ⟨b, ws, rfl, hb, dz⟩ := (r1.bor (List.mem_cons_self (a := (y, Rv.st (.fz (.lst zs)))))).lst r1.fh rfl
        obtain ⟨v, L, B, j1, j2, j3, j4, j5⟩ := r1.write hT ei
        rw [k1] at j1
        obtain rfl := Option.some.inj (Option.some.inj j1)
        obtain ⟨a, vs, e1, dd, e2⟩ := j2
        cases e1
        have hB : B = [] := j3.2
        subst hB e2
        refine ⟨a0, b, vs, ws, rfl, rfl, j4 _ (List.mem_singleton.mpr rfl), hb, by rw [dd.length, dz.length, big_eq]; exact hz, p1 σ _ ?_⟩
        obtain ⟨_, _, z⟩ := j5 a0 (.lst vs) (.lst (vs ++ ws)) (.ol (xs ++ zs)) ⟨[], [], _, .refl _, ⟨a0, _, rfl, dd.append dz, rfl⟩, .refl _⟩
        exact z.r
      · exact p1.elim
    · exact p1.elim
  · exact p.elim
def brB (o : OV) (a b : Ans SO) : Ans SO := match o with
  | .fz (.bl c) => if c then a else b
  | _ => .no
theorem brB_no {o : OV} {a b : Ans SO} (h : ¬ ∃ c, o = .fz (.bl c)) : brB o a b = .no := by
  unfold brB
  split
  · exact absurd ⟨_, rfl⟩ h
  · rfl
/-! ### if d.setdefault(k, v) != e: .. -/
def dSetd (i : Nat) (fk fv fe : DE) (opd : OV → OV → Option OV) (a b : DS) : DS := fun env => match env[i]? with
  | some (some (.oK kvs)) => (fk env).bind fun kr => (fv env).bind fun vr => match kr.fv.key?, vr with
    | some k, .st (.fz x) => if kvs.length < BIG then
        (let y := (lookK kvs k).getD x
         let env2 := env.set i (some (.oK (match lookK kvs k with | some _ => kvs | none => kvs ++ [(k, x)])))
         (fe env2).bind fun er => (Ans.of (opd (.fz y) er.ov)).bind fun o => brB o (a env2) (b env2))
      else .no
    | _, _ => .no
  | _ => .no
theorem FDenK.look2 {M : Str → Option Value} {F : Hp} {kvs : List (Key × FV)} {ws : List (Key × V)} (k : Key) (d : FDenK M F kvs ws) {y : FV} {u : V} (e : lookK kvs k = some y) (e2 : valV ws k = some u) : FDen M F y u := by
  rcases d.look k with ⟨x, v, h1, h2, h3⟩ | ⟨h1, _⟩
  · rw [e] at h1
    rw [e2] at h2
    cases h1
    cases h2
    exact h3
  · rw [e] at h1; cases h1
theorem RF.sb' {M : Str → Option Value} {G Z H F : Hp} {σ : Sl} {env : VEnv} {T T' : List (V × Rv)} {C1 C2 : Cells} (r : RF M G Z H F σ env T' C1 C2) (h : Sb T T') : ∃ C4, RF M G Z H F σ env T C1 C4 := by
  obtain ⟨A, hp⟩ := h
  obtain ⟨L', t, hL⟩ := r.tm.perm hp
  obtain ⟨L2, D, t2, h2⟩ := t.sub (List.sublist_append_left T A)
  refine ⟨L2, r.gf, r.fg, r.fh, r.zh, r.ev, t2, ?_⟩
  have g := r.gd.perm (List.Perm.append_left C1 (hL.trans h2))
  rw [← List.append_assoc] at g
  exact g.left
theorem setd_fin {op : CmpOp} {opd : OV → OV → Option OV} (ho : OJ X (compareOp op) opd) {G Z H F : Hp} {σ : Sl} {env : VEnv} {T : List (V × Rv)} {C1 : Cells} {D : Ends} {fa fb : DS} {y : FV} {u : V} (hT : AllSt T) (r : ∃ C2, RF X.mg G Z H F σ env T C1 C2) (du : FDen X.mg F y u)
    (p : PostS X.mg W G Z T D ((fe env).bind fun er => (Ans.of (opd (.fz y) er.ov)).bind fun o => brB o (fa env) (fb env))) :
    tE X.mg W fe σ H fun t H3 => rJ X.mg opd u t H3 fun x H4 => ∃ k, x = .bl k ∧ if k = true then sJ X.mg W fa D σ H4 else sJ X.mg W fb D σ H4 := by
  obtain ⟨C2, r⟩ := r
  have r2 := r.new (New.old r.fh du)
  refine tE.bindS2 r2 Sb.refl.cons p fun er t H3 _ s3 ⟨F6, C6, C7, r6⟩ p3 => ?_
  cases eo : opd (.fz y) er.ov with
  | none => rw [eo] at p3; exact p3.elim
  | some o =>
    rw [eo] at p3
    have b1 : Bor X.mg F6 H3 (.fz y) u := r6.bor (p := (u, .st (.fz y))) (List.mem_cons_of_mem _ List.mem_cons_self)
    have b2 : Bor X.mg F6 H3 er.ov t := r6.bor (p := (t, er)) List.mem_cons_self
    refine ⟨F6, .fz y, er.ov, o, r6.fh, b1, b2, eo, fun v H4 n => ?_⟩
    by_cases hc : ∃ c, o = .fz (.bl c)
    · obtain ⟨c, rfl⟩ := hc
      have p3 : PostS X.mg W G Z T D (if c then fa env else fb env) := p3
      have r7 := r6.new n
      have hv : v = .bl c := by
        obtain ⟨F8, C8, C9, r8⟩ := r7
        exact (r8.bor (p := (v, .st (.fz (.bl c)))) List.mem_cons_self).bl
      have r9 : R X.mg G Z H4 σ env T := r7.sb (Sb.refl.cons.cons.cons)
      refine ⟨c, hv, ?_⟩
      cases c with
      | true => rw [if_pos rfl] at p3 ⊢; exact ⟨G, Z, env, T, hT, r9, p3⟩
      | false => rw [if_neg Bool.false_ne_true] at p3 ⊢; exact ⟨G, Z, env, T, hT, r9, p3⟩
    · exfalso
      have p4 : PostS X.mg W G Z T D (brB o (fa env) (fb env)) := p3
      rw [brB_no hc] at p4
      exact p4
theorem js_ifSetd (i : Nat) {op : CmpOp} {opd : OV → OV → Option OV} {e2 e3 : Expr} {a b : List Stmt} {fa fb : DS} {mpos ifpos : Pos} (ho : OJ X (compareOp op) opd) (hk : JE X W k fk) (hvv : JE X W e2 f) (he : JE X W e3 fe) (ha : JSs X W a fa) (hb : JSs X W b fb) (hm : M2 X (.Name x pos') "setdefault" apos k e2 cpos)
    (hN : X.N[i]? = some x := by rfl) (hv : Vis X.env.scope x := by first | exact Or.inl rfl | exact Or.inr (Or.inl rfl) | exact Or.inr (Or.inr rfl))
    (hd : (x == ("__debug__" : Str)) = false := by decide) (hcd : (x == ("__classdict__" : Str)) = false := by decide) (hmk : behindInMarks op e3 = false := by first | exact nomark _ | rfl) :
    JS X W (.If (.Compare (.Call (.Attribute (.Name x pos') "setdefault" apos) [k, e2] [] cpos) [op] [e3] mpos) a b ifpos) (dSetd i fk f fe opd fa fb) := by
  refine PS.imp (ps_if (pt_cmpR ho (pe_dsetd (pe_var hN hv hd hcd) hk hvv hm) he hmk) ha hb) fun D σ H ⟨G, Z, env, T, hT, r, p⟩ => ?_
  unfold dSetd at p
  split at p
  · rename_i kvs ei
    obtain ⟨F, C1, C2, r⟩ := r
    obtain ⟨v, A, Lr, j1, j2, j3, _⟩ := r.ev.repl ei
    obtain ⟨d, ws, e1, dd, e2⟩ := j2
    subst e1 e2
    have hHd : H d = some (.dK ws) := r.gd.hp (d, .dK ws) (List.mem_append_left _ (j3.mem_iff.mpr (List.mem_append_left _ (List.mem_singleton.mpr rfl))))
    refine ⟨.ref d, j1, d, rfl, .inl ⟨ws, .inl hHd⟩, ?_⟩
    refine tE.bindS r.r p fun kr w H1 _ s1 r1 p1 => ?_
    refine tE.bindS2 r1 Sb.refl.cons p1 fun vr z H2 _ s2 r2 p2 => ?_
    split at p2
    · rename_i kk x' ek _
      split at p2
      · rename_i hz
        obtain ⟨F2, D1, D2, r2⟩ := r2
        have dk : FDen X.mg H2 kr.fv w := (r2.bor (p := (w, kr)) (List.mem_cons_of_mem _ List.mem_cons_self)).fden r2.fh
        have ew : w = kV kk := dk.key ek
        subst ew
        have r3 : R X.mg G Z H2 σ env ((z, .st (.fz x')) :: T) := r2.r.sb (Sb.refl.cons.both)
        obtain ⟨F3, D3, D4, r3⟩ := r3
        obtain ⟨v4, L, B, w1, w2, w3, w4, w5⟩ := r3.write hT ei
        rw [j1] at w1
        obtain rfl := Option.some.inj (Option.some.inj w1)
        obtain ⟨d', ws', e1, dd', e2⟩ := w2
        cases e1
        have hB : B = [] := w3.2
        subst hB e2
        have hH2 : H2 d = some (.dK ws') := w4 _ (List.mem_singleton.mpr rfl)
        have dz : FDen X.mg F3 x' z := w3.1
        refine ⟨ws', kk, hH2, rfl, by rw [dd'.length, big_eq]; exact hz, fun u hu => ?_, fun hn => ?_⟩
        · rcases dd'.look kk with ⟨y, u', h1, h2, h3⟩ | ⟨_, h2⟩
          · rw [hu] at h2
            cases h2
            have henv : env.set i (some (.oK kvs)) = env := by
              apply List.ext_getElem?
              intro n
              by_cases hn : i = n
              · subst hn
                obtain ⟨hlt, _⟩ := List.getElem?_eq_some_iff.mp ei
                rw [List.getElem?_set_self hlt, ei]
              · rw [List.getElem?_set_ne hn]
            simp only [h1, Option.getD_some, henv] at p2
            exact setd_fin ho hT (r3.sb' Sb.refl.cons) h3 p2
          · rw [hu] at h2; cases h2
        · rcases dd'.look kk with ⟨y, u', h1, h2, h3⟩ | ⟨h1, _⟩
          · rw [hn] at h2; cases h2
          · simp only [h1, Option.getD_none] at p2
            have hput : putK ws' kk z = ws' ++ [(kk, z)] := putK_new z hn
            rw [hput]
            obtain ⟨_, _, r5⟩ := w5 d (.dK ws') (.dK (ws' ++ [(kk, z)])) (.oK (kvs ++ [(kk, x')])) ⟨[], [], _, .refl _, ⟨d, _, rfl, dd'.snoc dz, rfl⟩, .refl _⟩
            exact setd_fin ho hT ⟨_, r5⟩ dz p2
      · exact p2.elim
    · exact p2.elim
  · exact p.elim
end
end J
namespace J
open PySem PySem.Spec PyProof.Rows L2
/-! ### dict(d), list.index -/
def opDict : List OV → Option OV
  | [.oK kvs] => some (.oK kvs)
  | [.fz (.dK kvs)] => some (.oK kvs)
  | _ => none
theorem cj_dict {X : Cx} : CallR X (.type "dict") (rJn X.mg opDict) := by
  refine CallR.imp call_dictD fun us H Q ⟨F, os, o, hf, ps, e, k⟩ => ?_
  unfold opDict at e
  split at e
  · cases e
    obtain ⟨u, rfl, b⟩ := paired1 ps
    obtain ⟨A, ⟨a, ws, e, d, q⟩, c⟩ := b
    subst e q
    exact ⟨a, ws, rfl, .inl (c (a, .dK ws) (List.mem_singleton.mpr rfl)), fun p hp => k _ _ (New.dK hf hp d)⟩
  · cases e
    obtain ⟨u, rfl, b⟩ := paired1 ps
    obtain ⟨A, ⟨⟨a, ws, e, q, d⟩, _⟩, c⟩ := b
    subst e
    exact ⟨a, ws, rfl, .inl (hf _ _ q), fun p hp => k _ _ (New.dK hf hp d)⟩
  · cases e
def opIndex : OV → List OV → Option OV
  | x, [y] => match x.lst?, y.fv.toD with
    | some xs, some d => match FV.toDL xs with
      | some ds => if SeqAt.shaped (.list ds) && SeqAt.shaped d then (ds.findIdx? fun z => PyData.eqv z d).map fun j => .fz (.int (j : Nat)) else none
      | none => none
    | _, _ => none
  | _, _ => none
theorem mj_index {X : Cx} (hu : X.A.units + 65 < cLine) : MtR X "list.index" (rM X.mg opIndex) := by
  rintro pins s σ H x xs v us Q I rx rs ⟨F, o, os, res, hf, bx, ps, e, k⟩
  unfold opIndex at e
  split at e
  · rename_i y
    split at e
    · rename_i zs d e1 e2
      split at e
      · rename_i ds e3
        split at e
        · rename_i hs
          rw [Bool.and_eq_true] at hs
          obtain ⟨j, ej, e4⟩ := Option.map_eq_some_iff.mp e
          subst e4
          obtain ⟨u, rfl, b⟩ := paired1 ps
          obtain ⟨a, vs, rfl, hq, dd⟩ := bx.lst hf e1
          obtain ⟨hj, hj2, hj3⟩ := List.findIdx?_eq_some_iff_getElem.mp ej
          refine mt_indexD hu pins s σ H _ _ v us Q I rx rs ⟨a, u, d, ds, j, ds[j], rfl, rfl, .lst (SqL.of hq) (FDenL.dp (dd.mono hf) e3), FDen.dp (b.fden hf) e2, hs.1, hs.2, List.getElem?_eq_getElem hj, hj2, fun m z' hm hz => ?_, k _ _ (New.int hf)⟩
          obtain ⟨hml, rfl⟩ := List.getElem?_eq_some_iff.mp hz
          have := hj3 m hm
          simpa using this
        · cases e
      · cases e
    · cases e
  · cases e
end J
namespace J
open PySem PySem.Spec PyProof.Rows L2
/-! ### tuples that are known to have no dict of their own; their index -/
def opTupY : List OV → Option OV
  | [x] => x.lst?.map fun xs => match xs with
    | [] => .fz (.tup [])
    | y :: ys => .fz (.tuz (y :: ys))
  | _ => none
theorem cj_tupY {X : Cx} (hc : X.calm = true) : CallR X (.type "tuple") (rJn X.mg opTupY) := by
  intro pins s σ H xs us Q I r h
  obtain ⟨F, os, o, hf, ps, e, k⟩ := h
  unfold opTupY at e
  split at e
  · rename_i x
    obtain ⟨ys, e1, e2⟩ := Option.map_eq_some_iff.mp e
    cases ys with
    | nil =>
      subst e2
      refine cj_tup hc pins s σ H xs us Q I r ⟨F, _, .fz (.tup []), hf, ps, ?_, k⟩
      unfold opTup
      split
      · rename_i z hz; injection hz with hz; subst hz; cases e1
      · rename_i y hz; injection hz with hz; subst hz; rw [e1]; rfl
      · rename_i h1 h2; exact absurd rfl (h2 x)
    | cons y ys =>
      subst e2
      exact cj_tupZ pins s σ H xs us Q I r ⟨F, _, _, hf, ps, by show (x.lst?).map (fun xs => OV.fz (.tuz xs)) = _; rw [e1]; rfl, k⟩
  · cases e
def okTuz : OV → Bool
  | .fz (.tuz _) => true
  | _ => false
def opIndexZ : OV → List OV → Option OV
  | .fz (.tuz xs), [.fz (.str k)] => (strs? xs).bind fun ys => (ys.findIdx? fun z => decide (z = k)).map fun j => .fz (.int (j : Nat))
  | _, _ => none
theorem mj_indexZ {X : Cx} : MtR X "tuple.index" (rM X.mg opIndexZ) := by
  rintro pins s σ H x xs v us Q I rx rs ⟨F, o, os, res, hf, bx, ps, e, k⟩
  unfold opIndexZ at e
  split at e
  · rename_i zs kk
    obtain ⟨ys, e1, e⟩ := Option.bind_eq_some_iff.mp e
    obtain ⟨j, ej, e2⟩ := Option.map_eq_some_iff.mp e
    subst e2
    obtain ⟨u, rfl, b⟩ := paired1 ps
    obtain ⟨p, vs, ob, rfl, h1, h2, h3, d⟩ := bx.fz
    have hu := b.str
    subst hu
    have ev := d.strs? e1
    subst ev
    obtain ⟨hj, hj2, hj3⟩ := List.findIdx?_eq_some_iff_getElem.mp ej
    refine mt_tup_index pins s σ H _ _ v us Q I rx rs ⟨p, ys, kk, j, rfl, rfl, .inl (.inr ⟨ob, hf _ _ h1⟩), ?_, fun m hm hz => ?_, k _ _ (New.int hf)⟩
    · rw [List.getElem?_eq_getElem hj]
      congr 1
      exact of_decide_eq_true hj2
    · obtain ⟨hml, e5⟩ := List.getElem?_eq_some_iff.mp hz
      have := hj3 m hm
      rw [e5] at this
      simp at this
  · cases e
section
variable {X : Cx} {W : WX} {o e : Expr} {es : List Expr} {to : TE} {t : TA} {f : DE} {g : VEnv → Ans (List Rv)} {name : Str} {apos cpos : Pos} {id : String} {r : V → List V → Hp → VK → Prop}
def tBMZ (r : V → List V → Hp → VK → Prop) (to : TE) (t : TA) : TE := fun σ H Q => to σ H fun x H1 => (∃ p ob vs, x = .ref p ∧ H1 p = some (.frz ob (.tup vs)) ∧ ob.cls = .type "tuple" ∧ ob.dict = none) ∧ t σ H1 fun xs H2 => r x xs H2 Q
theorem pe_bmZ (slot : Slot "tuple" name id) (hty : typeOf (.builtin id) = pure (.type "method_descriptor")) (hm : MtR X id r) (ho : PE X o to) (ha : PA X (e :: es) t)
    (hbase : attributeBase o name X.env (eval o X.env) = eval o X.env)
    (hfew : ((backTo cpos (starEach (e :: es) X.env)).all (fun x => !x.1) && (backToKw cpos (keywordEach [] X.env)).all (fun x => x.1.isSome)
      && decide ((e :: es).length + ([] : List Keyword).length + (if ([] : List Keyword).isEmpty then 0 else 1) < 30)) = true)
    (hline : (apos.endLine == cpos.line) = true) (hs : starEach (e :: es) X.env = (false, eval e X.env) :: starEach es X.env) (hplain : (backTo cpos (starEach es X.env)).any (·.1) = false) :
    PE X (.Call (.Attribute o name apos) (e :: es) [] cpos) (tBMZ r to t) := by
  refine ⟨fun pins s σ H Q I h => ?_⟩
  refine wpAny_Call_method_late hbase hfew hline rfl (thn (ho.run pins s σ H _ I h) fun v s1 ⟨x, H1, I1, r1, ty, q1⟩ => ?_)
  obtain ⟨p, ob, vs, rfl, h1, h2, h3⟩ := ty
  cases r1
  obtain ⟨hg, _⟩ := I1.hok p _ h1
  refine ⟨"tuple", id, PySem.F.plainAttrs_tuple, slot, hty, ⟨ob, hg, h2⟩, fun a e => ?_, ?_⟩
  · cases e
    exact ⟨ob, hg, h3⟩
  have hA := ha.run cpos pins s1 σ H1 _ I1 q1
  rw [hs] at hA ⊢
  refine Calls.callWith_builtin (by show (false || (backTo cpos (starEach es X.env)).any (·.1)) = false; rw [hplain] <;> rfl) (Calls.evalArgs_plain ?_)
  exact thn hA fun us s2 ⟨vs, H2, I2, r2, q2⟩ => hm pins s2 σ H2 (V.ref p) vs _ us Q I2 rfl r2 q2
theorem je_methZ {op : OV → List OV → Option OV} (slot : Slot "tuple" name id) (hty : typeOf (.builtin id) = pure (.type "method_descriptor")) (hm : MtR X id (rM X.mg op)) (ho : JE X W o f) (ha : JA X W (e :: es) g)
    (hbase : attributeBase o name X.env (eval o X.env) = eval o X.env)
    (hfew : ((backTo cpos (starEach (e :: es) X.env)).all (fun x => !x.1) && (backToKw cpos (keywordEach [] X.env)).all (fun x => x.1.isSome)
      && decide ((e :: es).length + ([] : List Keyword).length + (if ([] : List Keyword).isEmpty then 0 else 1) < 30)) = true)
    (hline : (apos.endLine == cpos.line) = true) (hs : starEach (e :: es) X.env = (false, eval e X.env) :: starEach es X.env) (hplain : (backTo cpos (starEach es X.env)).any (·.1) = false) :
    JE X W (.Call (.Attribute o name apos) (e :: es) [] cpos) (dMeth okTuz op f g) := by
  refine PE.imp (pe_bmZ slot hty hm ho ha hbase hfew hline hs hplain) fun σ H Q ⟨G, Z, env, T, r, p⟩ => ?_
  refine tE.bind r Sb.refl p fun rv v H1 _ s1 r1 p1 => ?_
  split at p1
  · rename_i hk
    obtain ⟨F, C1, C2, r1⟩ := r1
    have b : Bor X.mg F H1 rv.ov v := r1.bor (List.mem_cons_self (a := (v, rv)))
    refine ⟨?_, ?_⟩
    · unfold okTuz at hk
      split at hk
      · rename_i zs ez
        rw [ez] at b
        obtain ⟨p, vs, ob, rfl, h1, h2, h3, d⟩ := b.fz
        exact ⟨p, ob, vs, rfl, r1.fh _ _ h1, h2, h3⟩
      · cases hk
    refine tA.bind r1.r Sb.refl.cons p1 fun rs vs H2 _ hl s2 ⟨F2, D1, D2, r2⟩ p2 => ?_
    obtain ⟨o, e, k⟩ := r2.fin (T := T) (Sb.trans (Sb.refl.cons) ⟨vs.zip rs, List.perm_append_comm⟩) p2
    exact ⟨F2, rv.ov, rs.map Rv.ov, o, r2.fh, r2.bor (p := (v, rv)) (List.mem_append_right _ List.mem_cons_self), zip_bor hl fun p hp => r2.bor (List.mem_append_left _ hp), e, k⟩
  · exact p1.elim
/-- x.index(y): x a list or such a tuple -/
def dIdx (f : DE) (g : VEnv → Ans (List Rv)) : DE := fun env => match f env with
  | .ok r => if okTuz r.ov then dMeth okTuz opIndexZ f g env else dMeth okLst opIndex f g env
  | .ex c => .ex c
  | .no => .no
theorem je_idx (hu : X.A.units + 65 < cLine) (ho : JE X W o f) (ha : JA X W (e :: es) g)
    (hbase : attributeBase o "index" X.env (eval o X.env) = eval o X.env := by rfl)
    (hfew : ((backTo cpos (starEach (e :: es) X.env)).all (fun x => !x.1) && (backToKw cpos (keywordEach [] X.env)).all (fun x => x.1.isSome)
      && decide ((e :: es).length + ([] : List Keyword).length + (if ([] : List Keyword).isEmpty then 0 else 1) < 30)) = true := by rfl)
    (hline : (apos.endLine == cpos.line) = true := by rfl) (hs : starEach (e :: es) X.env = (false, eval e X.env) :: starEach es X.env := by rfl) (hplain : (backTo cpos (starEach es X.env)).any (·.1) = false := by rfl) :
    JE X W (.Call (.Attribute o "index" apos) (e :: es) [] cpos) (dIdx f g) := by
  have A := je_meth (W := W) (f := f) (g := g) PySem.F.plainAttrs_list PySem.F.slot_list_index PySem.F.type_list_index (mj_index hu) okLst_ty ho ha hbase hfew hline hs hplain
  have B := je_methZ (W := W) (f := f) (g := g) PySem.F.slot_tuple_index PySem.F.type_tuple_index mj_indexZ ho ha hbase hfew hline hs hplain
  refine PE.imp (PE.or A B) fun σ H Q ⟨G, Z, env, T, r, p⟩ => ?_
  cases ef : f env with
  | ok rv =>
    unfold dIdx at p
    rw [ef] at p
    simp only at p
    split at p
    · exact .inr ⟨G, Z, env, T, r, p⟩
    · exact .inl ⟨G, Z, env, T, r, p⟩
  | ex c =>
    unfold dIdx at p
    rw [ef] at p
    refine .inl ⟨G, Z, env, T, r, ?_⟩
    unfold dMeth
    rw [ef]
    exact p
  | no =>
    unfold dIdx at p
    rw [ef] at p
    exact p.elim
end
/-! ### dict(a list of pairs) -/
def pairs? : List FV → Option (List (Key × FV))
  | [] => some []
  | x :: xs => match x with
    | .tup [k, v] => match k.key?, pairs? xs with
      | some k, some r => some ((k, v) :: r)
      | _, _ => none
    | _ => none
def mergeF (kvs more : List (Key × FV)) : List (Key × FV) := more.foldl (fun acc kv => putKV acc kv.1 kv.2) kvs
def opDictP : List OV → Option OV
  | [x] => (x.lst?.bind pairs?).map fun ps => .oK (mergeF [] ps)
  | _ => none
theorem FDenK.merge {M : Str → Option Value} {F : Hp} : ∀ {more : List (Key × FV)} {ws : List (Key × V)} {kvs : List (Key × FV)} {vs : List (Key × V)}, FDenK M F more ws → FDenK M F kvs vs → FDenK M F (mergeF kvs more) (mergeK vs ws)
  | [], _, _, _, e, d => by rw [show _ = [] from e]; exact d
  | (k, x) :: more, _, kvs, vs, ⟨v, rs, e, dx, dr⟩, d => by
    subst e
    show FDenK M F (mergeF (putKV kvs k x) more) (mergeK (putK vs k v) rs)
    exact FDenK.merge (more := more) dr (d.put dx)
theorem pairs_den {M : Str → Option Value} {K : PySem.W.Frag} {F H : Hp} (hf : Same F H) : ∀ {xs : List FV} {vs : List V} {ps : List (Key × FV)}, pairs? xs = some ps → FDenL M F xs vs → ∃ (as : List Addr) (ws : List (Key × V)), vs = as.map V.ref ∧ FDenK M F ps ws ∧ Paired (fun p kv => SqT K H p [kV kv.1, kv.2]) as ws
  | [], _, _, e, d => by
    cases e
    rw [show _ = [] from d]
    exact ⟨[], [], rfl, rfl, .nil⟩
  | x :: xs, _, ps, e, ⟨v, vs, ev, dx, dr⟩ => by
    subst ev
    unfold pairs? at e
    split at e
    · rename_i k y
      split at e
      · rename_i k' r e1 e2
        cases e
        obtain ⟨as, ws, rfl, h1, h2⟩ := pairs_den hf e2 dr
        obtain ⟨a, us, rfl, q, d⟩ := dx
        obtain ⟨u, us1, rfl, d1, d⟩ := d
        obtain ⟨w, us2, rfl, d2, d⟩ := d
        rw [show us2 = [] from d] at q
        have hk : u = kV k' := by
          unfold FV.key? at e1
          split at e1
          · cases e1; exact d1
          · cases e1; exact d1
          · cases e1
        subst hk
        exact ⟨a :: as, (k', w) :: ws, rfl, ⟨w, ws, rfl, d2, h1⟩, .cons (SqT.of (hf _ _ q)) h2⟩
      · cases e
    · cases e
theorem cj_dictP {X : Cx} (hc : X.calm = true) : CallR X (.type "dict") (rJn X.mg opDictP) := by
  refine CallR.imp (call_dictP hc) fun us H Q ⟨F, os, o, hf, ps, e, k⟩ => ?_
  unfold opDictP at e
  split at e
  · obtain ⟨u, rfl, b⟩ := paired1 ps
    obtain ⟨prs, e1, e2⟩ := Option.map_eq_some_iff.mp e
    obtain ⟨xs, e3, e4⟩ := Option.bind_eq_some_iff.mp e1
    subst e2
    obtain ⟨a, vs, rfl, q, d⟩ := b.lst hf e3
    obtain ⟨as, ws, rfl, h1, h2⟩ := pairs_den (K := X.K) hf e4 d
    exact ⟨a, as, ws, rfl, SqL.of q, h2, fun p hp => k _ _ (New.dK hf hp (FDenK.merge h1 rfl))⟩
  · cases e
end J
set_option maxHeartbeats 4000000
namespace J
open PySem PySem.Spec PyProof.Rows L2
/-! ### told = [x]; for .. in ..: x = e; told.append(x); return told
While the loop runs, the cells C of the list and of what it holds stand in Z; x alone owns the last one. -/
structure Hold (G Z G' Z' : Hp) (C : Cells) : Prop where
  gg : Same G G'
  gn : ∀ a o, G' a = some o → G a = some o ∨ Z a = none
  zin : ∀ q ∈ C, Z' q.1 = some q.2
  zout : ∀ a, (∀ q ∈ C, q.1 ≠ a) → Z' a = Z a
  nd : (C.map (·.1)).Nodup
  gc : ∀ q ∈ C, G' q.1 = none
  zc : ∀ q ∈ C, Z q.1 = none
section
variable {M : Str → Option Value} {G Z G' Z' H F : Hp} {C A Lr : Cells} {σ : Sl} {env : VEnv} {T : List (V × Rv)} {L1 L2 : Cells} {o : OV} {v : V} {i j : Nat}
theorem Hold.start (G Z : Hp) : Hold G Z G Z [] := ⟨Same.refl _, fun _ _ e => .inl e, nofun, fun _ _ => rfl, List.nodup_nil, nofun, nofun⟩
theorem Hold.zz (h : Hold G Z G' Z' C) : Same Z Z' := fun a o e => by
  rw [h.zout a fun q hq z => by
    have := h.zc q hq
    rw [z, e] at this
    cases this]
  exact e
theorem Hold.perm {C' : Cells} (h : Hold G Z G' Z' C) (p : C.Perm C') : Hold G Z G' Z' C' :=
  ⟨h.gg, h.gn, fun q hq => h.zin q (p.mem_iff.mpr hq), fun a ha => h.zout a fun q hq => ha q (p.mem_iff.mp hq), (p.map _).nodup_iff.mp h.nd, fun q hq => h.gc q (p.mem_iff.mpr hq), fun q hq => h.zc q (p.mem_iff.mpr hq)⟩
theorem Hold.znone (h : Hold G Z G' Z' C) {a : Addr} (e : Z' a = none) : Z a = none := by
  cases q : Z a with
  | none => rfl
  | some o =>
    rw [h.zz a o q] at e
    cases e
/-- the cells become a thing of one's own -/
theorem Hold.give (h : Hold G Z G' Z' C) (r : R M G' Z' H σ env T) (own : ∀ F, Same G' F → Own M F o v C) : R M G Z H σ env ((v, .st o) :: T) := by
  obtain ⟨F, L1, L2, r⟩ := r
  have fc : ∀ q ∈ C, F q.1 = none := fun q hq => by
    cases e : F q.1 with
    | none => rfl
    | some u =>
      rcases r.fg _ u e with e1 | e1
      · rw [h.gc q hq] at e1
        cases e1
      · rw [h.zin q hq] at e1
        cases e1
  refine ⟨F, L1, C ++ L2, h.gg.trans r.gf, fun a u e => ?_, r.fh, fun a u e => r.zh a u (h.zz a u e), r.ev, .st (own F r.gf) r.tm, ?_⟩
  · rcases r.fg a u e with e1 | e1
    · exact h.gn a u e1
    · exact .inr (h.znone e1)
  · have g1 : Good F Z H (L1 ++ L2) := ⟨r.gd.nd, r.gd.hp, r.gd.fr, fun q hq => h.znone (r.gd.zr q hq)⟩
    have g2 : Good F Z H C := ⟨h.nd, fun q hq => r.zh _ _ (h.zin q hq), fc, h.zc⟩
    have g := g2.mk' g1 fun p hp q hq e => by
      have e1 := h.zin p hp
      rw [e, r.gd.zr q hq] at e1
      cases e1
    refine g.perm ?_
    rw [← List.append_assoc, ← List.append_assoc]
    exact List.perm_append_comm.append_right _
/-- what slot i owns is held, too; the slot keeps its value -/
theorem Hold.take (h : Hold G Z G' Z' C) (r : R M G' Z' H σ env T) (e : env[i]? = some (some o)) :
    ∃ F Z2 A, Own M F o ((σ[i]?.bind id).getD .non) A ∧ (∃ w, σ[i]? = some (some w)) ∧ Same G' F ∧ Hold G Z F Z2 (A ++ C) ∧ R M F Z2 H σ (env.set i none) T := by
  obtain ⟨F, L1, L2, r⟩ := r
  obtain ⟨v, A, Lr, s1, own, pm, _, k⟩ := r.ev.repl e
  have g := r.gd.perm ((pm.append_right L2).trans (by rw [List.append_assoc]) : (L1 ++ L2).Perm (A ++ (Lr ++ L2)))
  have ga := g.left
  have nd := g.nd
  rw [List.map_append, List.nodup_append] at nd
  have fc : ∀ q ∈ C, F q.1 = none := fun q hq => by
    cases e : F q.1 with
    | none => rfl
    | some u =>
      rcases r.fg _ u e with e1 | e1
      · rw [h.gc q hq] at e1
        cases e1
      · rw [h.zin q hq] at e1
        cases e1
  have ap : ∀ p ∈ A, ∀ q ∈ C, p.1 ≠ q.1 := fun p hp q hq e => by
    have e1 := h.zin q hq
    rw [← e, ga.zr p hp] at e1
    cases e1
  have hσ : σ.set i (some v) = σ := by
    apply List.ext_getElem?
    intro k
    by_cases hk : i = k
    · subst hk
      rw [List.getElem?_set_self (List.getElem?_eq_some_iff.mp s1).1, s1]
    · rw [List.getElem?_set_ne hk]
  have ev := k (some v)
  rw [hσ] at ev
  refine ⟨F, updL Z' A, A, by rw [s1]; exact own, ⟨v, s1⟩, r.gf, ⟨h.gg.trans r.gf, fun a u e => ?_, fun q hq => ?_, fun a ha => ?_, ?_, fun q hq => ?_, fun q hq => ?_⟩, F, Lr, L2, Same.refl _, fun a u e => .inl e, r.fh, fun a u e => ?_, ev, r.tm, ⟨g.right.nd, g.right.hp, g.right.fr, fun q hq => ?_⟩⟩
  · rcases r.fg a u e with e1 | e1
    · exact h.gn a u e1
    · exact .inr (h.znone e1)
  · rcases List.mem_append.mp hq with hq | hq
    · exact updL_in ga.nd q hq
    · rw [updL_out fun p hp => ap p hp q hq]
      exact h.zin q hq
  · rw [updL_out fun p hp => ha p (List.mem_append_left _ hp)]
    exact h.zout a fun q hq => ha q (List.mem_append_right _ hq)
  · rw [List.map_append, List.nodup_append]
    refine ⟨ga.nd, h.nd, fun a ha b hb e => ?_⟩
    obtain ⟨p, hp, rfl⟩ := List.mem_map.mp ha
    obtain ⟨q, hq, rfl⟩ := List.mem_map.mp hb
    exact ap p hp q hq e
  · exact (List.mem_append.mp hq).elim (ga.fr q) (fc q)
  · exact (List.mem_append.mp hq).elim (fun hq => h.znone (ga.zr q hq)) (h.zc q)
  · rcases updL_cases e with e1 | e1
    · exact r.zh a u e1
    · exact ga.hp _ e1
  · rw [updL_out fun p hp e => nd.2.2 p.1 (List.mem_map_of_mem hp) q.1 (List.mem_map_of_mem hq) e]
    exact g.right.zr q hq
/-- a held cell is written -/
theorem Hold.write {t : Addr} {ho ho' : HO} {B : Cells} (h : Hold G Z G' Z' ((t, ho) :: B)) (r : R M G' Z' H σ env T) (hT : AllSt T) : Hold G Z G' (upd Z' t ho') ((t, ho') :: B) ∧ R M G' (upd Z' t ho') (upd H t ho') σ env T := by
  have nd := h.nd
  rw [List.map_cons, List.nodup_cons] at nd
  have nb : ∀ q ∈ B, q.1 ≠ t := fun q hq e => nd.1 (List.mem_map.mpr ⟨q, hq, e⟩)
  have zt := h.zin _ List.mem_cons_self
  have gt := h.gc _ List.mem_cons_self
  refine ⟨⟨h.gg, h.gn, fun q hq => ?_, fun a ha => ?_, h.nd, fun q hq => ?_, fun q hq => ?_⟩, ?_⟩
  · rcases List.mem_cons.mp hq with rfl | hq
    · exact upd_same
    · rw [upd_ne (nb q hq)]
      exact h.zin q (List.mem_cons_of_mem _ hq)
  · have ne : t ≠ a := ha (t, ho') List.mem_cons_self
    rw [upd_ne ne.symm]
    exact h.zout a fun q hq => (List.mem_cons.mp hq).elim (fun e => by rw [e]; exact ne) fun hq => ha q (List.mem_cons_of_mem _ hq)
  · rcases List.mem_cons.mp hq with rfl | hq
    · exact gt
    · exact h.gc q (List.mem_cons_of_mem _ hq)
  · rcases List.mem_cons.mp hq with rfl | hq
    · exact h.zc (t, ho) List.mem_cons_self
    · exact h.zc q (List.mem_cons_of_mem _ hq)
  · obtain ⟨F, L1, L2, r⟩ := r
    have ft : F t = none := by
      cases e : F t with
      | none => rfl
      | some u =>
        rcases r.fg _ u e with e1 | e1
        · rw [gt] at e1
          cases e1
        · rw [zt] at e1
          cases e1
    have nl : ∀ q ∈ L1 ++ L2, q.1 ≠ t := fun q hq e => by
      have := r.gd.zr q hq
      rw [e, zt] at this
      cases this
    refine ⟨F, L1, L2, r.gf, fun a u e => ?_, fun a u e => ?_, fun a u e => ?_, r.ev, r.tm.anyH hT, r.gd.nd, fun q hq => ?_, r.gd.fr, fun q hq => ?_⟩
    · have ne : a ≠ t := fun z => by rw [z, ft] at e; cases e
      rw [upd_ne ne]
      exact r.fg a u e
    · have ne : a ≠ t := fun z => by rw [z, ft] at e; cases e
      rw [upd_ne ne]
      exact r.fh a u e
    · by_cases z : a = t
      · subst z
        rw [upd_same] at e ⊢
        exact e
      · rw [upd_ne z] at e ⊢
        exact r.zh a u e
    · rw [upd_ne (nl q hq)]
      exact r.gd.hp q hq
    · rw [upd_ne (nl q hq)]
      exact r.gd.zr q hq
/-- a new cell is held -/
theorem Hold.lay {t : Addr} {ho : HO} (h : Hold G Z G' Z' C) (r : R M G' Z' H σ env T) (ht : H t = none) : Hold G Z G' (upd Z' t ho) ((t, ho) :: C) ∧ R M G' (upd Z' t ho) (upd H t ho) σ env T := by
  obtain ⟨F, L1, L2, r⟩ := r
  have ft : F t = none := none_of_same r.fh ht
  have zt : Z' t = none := none_of_same r.zh ht
  have nc : ∀ q ∈ C, q.1 ≠ t := fun q hq e => by
    have := h.zin q hq
    rw [e, zt] at this
    cases this
  have nl : ∀ q ∈ L1 ++ L2, q.1 ≠ t := fun q hq e => by
    have := r.gd.hp q hq
    rw [e, ht] at this
    cases this
  refine ⟨⟨h.gg, h.gn, fun q hq => ?_, fun a ha => ?_, ?_, fun q hq => ?_, fun q hq => ?_⟩, F, L1, L2, r.gf, fun a u e => ?_, r.fh.trans (same_upd ht), fun a u e => ?_, r.ev, r.tm.mono (Same.refl _) (same_upd ht), r.gd.nd, fun q hq => same_upd ht _ _ (r.gd.hp q hq), r.gd.fr, fun q hq => ?_⟩
  · rcases List.mem_cons.mp hq with rfl | hq
    · exact upd_same
    · rw [upd_ne (nc q hq)]
      exact h.zin q hq
  · rw [upd_ne (Ne.symm (ha (t, ho) List.mem_cons_self))]
    exact h.zout a fun q hq => ha q (List.mem_cons_of_mem _ hq)
  · rw [List.map_cons, List.nodup_cons]
    exact ⟨fun hm => let ⟨q, hq, e⟩ := List.mem_map.mp hm; nc q hq e, h.nd⟩
  · rcases List.mem_cons.mp hq with rfl | hq
    · exact none_of_same r.gf ft
    · exact h.gc q hq
  · rcases List.mem_cons.mp hq with rfl | hq
    · exact h.znone zt
    · exact h.zc q hq
  · have ne : a ≠ t := fun z => by rw [z, ft] at e; cases e
    rw [upd_ne ne]
    exact r.fg a u e
  · by_cases z : a = t
    · subst z
      rw [upd_same] at e ⊢
      exact e
    · rw [upd_ne z] at e
      rw [upd_ne z]
      exact r.zh a u e
  · rw [upd_ne (nl q hq)]
    exact r.gd.zr q hq
end
def carL (t : TgF) (fe : DE) (i : Nat) : List FV → List OV → VEnv → Ans SO
  | [], acc, env => match env[i]? with
    | some (some (.ol c)) => .ok (.rt (.dl (acc ++ [.ol c])) (env.set i none))
    | _ => .no
  | x :: xs, acc, env => match t x env with
    | none => .no
    | some e1 => match e1[i]? with
      | some (some (.ol c)) => if acc.length + 1 < BIG then (fe e1).bind fun r => match r with
          | .st (.ol c') => carL t fe i xs (acc ++ [.ol c]) (e1.set i (some (.ol c')))
          | _ => .no
        else .no
      | _ => .no
def dCarry (it : VEnv → Ans (List FV)) (t : TgF) (fe : DE) (i j : Nat) : DS := fun env => match env[i]? with
  | some (some (.ol _)) => if j < env.length then (it (env.set j none)).bind fun items => carL t fe i items [] (env.set j none) else .no
  | _ => .no
/-- between two turns: what is told so far, and x the last one -/
structure Car (M : Str → Option Value) (G Z H : Hp) (σ : Sl) (env : VEnv) (T : List (V × Rv)) (i j : Nat) (acc : List OV) (G' Z' : Hp) (t : Addr) (vs : List V) (p : V) (B : Cells) : Prop where
  sj : σ[j]? = some (some (.ref t))
  si : σ[i]? = some (some p)
  hold : Hold G Z G' Z' ((t, .lst (vs ++ [p])) :: B)
  own : OwnL M G' acc vs B
  r : R M G' Z' H σ env T
theorem OwnL.len {M : Str → Option Value} {F : Hp} : ∀ {xs : List OV} {vs : List V} {L : Cells}, OwnL M F xs vs L → vs.length = xs.length
  | [], _, _, ⟨e, _⟩ => by rw [e]; rfl
  | x :: xs, _, _, ⟨v, ws, A, B, e, _, r, _⟩ => by rw [e, List.length_cons, List.length_cons, OwnL.len r]
section
variable {X : Cx} {W : WX} {tg iter : Expr} {st1 st3 : Stmt} {body : List Stmt} {pos : Pos} {it : VEnv → Ans (List FV)} {t : TgF} {fe : DE} {vs : List Nat} {i j : Nat}
theorem js_carry (hp : PassesOwn (model X.prog X.w) X.A X.env X.xe) (hc : X.calm = true) (hij : i ≠ j) (hvi : i ∉ vs) (hvj : j ∉ vs)
    (h1 : PS X st1 (tAsg (tLst (tCons (tVar i) tNil)) (gName j))) (hi : JI X W tg iter it) (hg : JG X tg vs t)
    (hb : PSs X body (tSeq (tAsg (tE X.mg W fe) (gName i)) (tDrop (tBM X.K "list" rAppend (tVar j) (tCons (tVar i) tNil)))))
    (h3 : PS X st3 (tRet (tVar j))) (hs : ∀ x, foldedSetIterable iter X.env x = pure x := by intro _; rfl) :
    JSs X W [st1, .For tg iter body [] pos, st3] (dCarry it t fe i j) := by
  refine PSs.imp (pss_cons h1 (pss_cons (ps_for hp hc hi hg hb hs) (pss_one h3))) fun D σ H ⟨G, Z, env, T, hT, r, p⟩ => ?_
  unfold dCarry at p
  split at p
  case h_2 => exact p.elim
  case h_1 c ec =>
    split at p
    case isFalse => exact p.elim
    case isTrue hj =>
      have ⟨F0, D1, D2, rf⟩ := r
      obtain ⟨p0, _, _, si, _⟩ := rf.ev.repl ec
      have hj2 : j < σ.length := by rw [rf.ev.len]; exact hj
      refine ⟨p0, si, by show 1 ≤ sizeLine; rw [sizeLine_eq]; decide, fun a ha => ?_⟩
      -- the list is laid
      obtain ⟨h0, r0⟩ := (Hold.start G Z).lay (ho := .lst [p0]) r ha
      have r1 := r0.unset j (some (.ref a))
      show tI X.mg W it (σ.set j (some (.ref a))) (upd H a (.lst [p0])) _
      refine ⟨G, _, env.set j none, T, r1, ?_⟩
      cases ei : it (env.set j none) with
      | no => rw [ei] at p; exact p.elim
      | ex c =>
        rw [ei] at p
        exact fun C H' m s r' => let ⟨_, _, _, r'⟩ := r'; p C _ H' m (h0.zz.trans r'.zh)
      | ok items =>
        rw [ei] at p
        intro J H2 kept hk s2 r2 wk
        have p : PostS X.mg W G Z T D (carL t fe i items [] (env.set j none)) := p
        have sj0 : (σ.set j (some (V.ref a)))[j]? = some (some (.ref a)) := List.getElem?_set_self hj2
        have si0 : (σ.set j (some (V.ref a)))[i]? = some (some p0) := by rw [List.getElem?_set_ne hij.symm]; exact si
        refine ⟨fun n m σ H => n + m = items.length ∧ ∃ env acc G' Z' tt vs p B, Car X.mg G Z H σ env (kept ++ T) i j acc G' Z' tt vs p B ∧ PostS X.mg W G Z T D (carL t fe i (items.drop n) acc env),
          ⟨items.length, by omega, _, [], G, _, a, [], p0, [], ⟨sj0, si0, h0, ⟨rfl, rfl⟩, r2⟩, by rw [List.drop_zero]; exact p⟩, ?_⟩
        rintro n m σ H ⟨hnm, env, acc, G', Z', tt, ws, q, B, car, post⟩
        have ⟨F, C1, C2, rr⟩ := car.r
        obtain ⟨w1, w2⟩ := wk F H n rr.fh rr.kept
        by_cases hlt : n < items.length
        · obtain ⟨hgo, hy⟩ := w1 items[n] (List.getElem?_eq_getElem hlt)
          rw [List.drop_eq_getElem_cons hlt] at post
          refine .inr ⟨hgo, fun σ' H' => ∃ env acc G' Z' tt vs p B, Car X.mg G Z H' σ' env (kept ++ T) i j acc G' Z' tt vs p B ∧ PostS X.mg W G Z T D (carL t fe i (items.drop (n + 1)) acc env), fun σ' H' h => ⟨m - 1, by omega, by omega, h⟩, fun v H' yl => ?_⟩
          refine ⟨G', Z', env, kept ++ T, items[n], rr.new (hy v H' yl), ?_⟩
          unfold carL at post
          cases et : t items[n] env with
          | none => rw [et] at post; exact post.elim
          | some e1 =>
            rw [et] at post
            intro σ' only r3
            simp only at post
            split at post
            case h_2 => exact post.elim
            case h_1 c1 ec1 =>
              split at post
              case isFalse => exact post.elim
              case isTrue big =>
                refine tE.then r3 Sb.refl (fun rv v2 H3 ev s3 r4 => ?_) (fun cc C H3 ev m s r5 => ?_) fun ev => ?_
                · rw [ev] at post
                  obtain ⟨c2, rfl⟩ : ∃ c2, rv = .st (.ol c2) := by
                    cases rv with
                    | bo o => exact post.elim
                    | st o =>
                      cases o with
                      | ol c2 => exact ⟨c2, rfl⟩
                      | _ => exact post.elim
                  have post : PostS X.mg W G Z T D (carL t fe i (items.drop (n + 1)) (acc ++ [.ol c1]) (e1.set i (some (.ol c2)))) := post
                  obtain ⟨F2, Z2, A, own, ⟨w, sw⟩, gf, hold, r5⟩ := car.hold.take r4 ec1
                  have si1 : σ'[i]? = some (some q) := (only.get i hvi).trans car.si
                  have sj1 : σ'[j]? = some (some (.ref tt)) := (only.get j hvj).trans car.sj
                  rw [si1] at own
                  have r6 := r5.set i
                  rw [List.set_set] at r6
                  have hold := hold.perm (C' := (tt, .lst (ws ++ [q])) :: (B ++ A)) List.perm_append_comm
                  have at_t : H3 tt = some (.lst (ws ++ [q])) := let ⟨_, _, _, z⟩ := r6; z.zh _ _ (hold.zin _ List.mem_cons_self)
                  obtain ⟨hold2, r7⟩ := hold.write (ho' := .lst (ws ++ [q] ++ [v2])) r6 (hk.app hT)
                  have il : i < σ'.length := (List.getElem?_eq_some_iff.mp si1).1
                  have sj2 : (σ'.set i (some v2))[j]? = some (some (.ref tt)) := by rw [List.getElem?_set_ne hij]; exact sj1
                  have si2 : (σ'.set i (some v2))[i]? = some (some v2) := List.getElem?_set_self il
                  have room : (ws ++ [q]).length < sizeLine := by
                    rw [List.length_append, car.own.len, big_eq]
                    exact big
                  refine ⟨_, sj2, .inl ⟨rfl, _, SqL.of at_t⟩, v2, si2, tt, _, v2, rfl, rfl, at_t, room, ?_⟩
                  exact ⟨_, acc ++ [.ol c1], F2, _, tt, ws ++ [q], v2, B ++ A, ⟨sj2, si2, hold2, (car.own.mono gf).snoc own, r7⟩, post⟩
                · rw [ev] at post
                  obtain ⟨_, _, _, r5⟩ := r5
                  exact post C _ H3 m (car.hold.zz.trans r5.zh)
                · rw [ev] at post
                  exact post
        · refine .inl ⟨w2 (by omega), ?_⟩
          rw [List.drop_of_length_le (by omega)] at post
          unfold carL at post
          split at post
          case h_2 => exact post.elim
          case h_1 c1 ec1 =>
            obtain ⟨F2, Z2, A, own, ⟨w, sw⟩, gf, hold, r5⟩ := car.hold.take car.r ec1
            rw [car.si] at own
            have hold := hold.perm (C' := (tt, .lst (ws ++ [q])) :: (B ++ A)) List.perm_append_comm
            have r6 := hold.give (o := .dl (acc ++ [.ol c1])) (v := .ref tt) r5 fun F3 g3 => ⟨tt, ws ++ [q], B ++ A, rfl, ((car.own.mono gf).snoc own |>.mono g3), rfl⟩
            exact ⟨_, car.sj, post _ _ _ (r6.sb sb_app.both)⟩
end
section
variable {X : Cx} {W : WX} {tg iter e : Expr} {x y : Str} {pos p1 p2 p3 p4 p5 p6 p7 p8 p9 p10 p11 apos cpos : Pos} {it : VEnv → Ans (List FV)} {t : TgF} {fe : DE} {vs : List Nat}
theorem js_carryN (i j : Nat) (hp : PassesOwn (model X.prog X.w) X.A X.env X.xe) (hc : X.calm = true) (hN : X.N.Nodup) (hi : JI X W tg iter it) (hg : JG X tg vs t) (he : JE X W e fe)
    (ni : X.N[i]? = some x := by rfl) (nj : X.N[j]? = some y := by rfl) (li : Loc X.env.scope x := by first | exact .inl rfl | exact .inr rfl) (lj : Loc X.env.scope y := by first | exact .inl rfl | exact .inr rfl)
    (vi : Vis X.env.scope x := by first | exact Or.inl rfl | exact Or.inr (Or.inl rfl) | exact Or.inr (Or.inr rfl)) (vj : Vis X.env.scope y := by first | exact Or.inl rfl | exact Or.inr (Or.inl rfl) | exact Or.inr (Or.inr rfl))
    (fi : X.fn x = true ∨ X.env.scope.names.lookup x = some .local := by first | exact .inl rfl | exact .inr rfl) (fj : X.fn y = true ∨ X.env.scope.names.lookup y = some .local := by first | exact .inl rfl | exact .inr rfl)
    (dx : (x == ("__debug__" : Str)) = false := by decide) (dx2 : (x == ("__classdict__" : Str)) = false := by decide) (dy : (y == ("__debug__" : Str)) = false := by decide) (dy2 : (y == ("__classdict__" : Str)) = false := by decide)
    (s1 : swapsWith (.List [.Name x p2] p3) (some (.Name y p1)) p4.line X.env = pure false := by rfl) (s2 : swapsWith e (some (.Name x p5)) p6.line X.env = pure false := by rfl)
    (s3 : swapsWith (.Call (.Attribute (.Name y p8) "append" apos) [.Name x p9] [] cpos) none p7.line X.env = pure false := by rfl)
    (st1 : starEach [.Name x p2] X.env = (false, eval (.Name x p2) X.env) :: starEach [] X.env := by rfl)
    (b1 : attributeBase (.Name y p8) "append" X.env (eval (.Name y p8) X.env) = eval (.Name y p8) X.env := by rfl)
    (b2 : ((backTo cpos (starEach [.Name x p9] X.env)).all (fun x => !x.1) && (backToKw cpos (keywordEach [] X.env)).all (fun x => x.1.isSome) && decide ([Expr.Name x p9].length + ([] : List Keyword).length + (if ([] : List Keyword).isEmpty then 0 else 1) < 30)) = true := by rfl)
    (b3 : (apos.endLine == cpos.line) = true := by rfl) (b4 : starEach [.Name x p9] X.env = (false, eval (.Name x p9) X.env) :: starEach [] X.env := by rfl) (b5 : (backTo cpos (starEach [] X.env)).any (·.1) = false := by rfl)
    (hij : i ≠ j := by decide) (hvi : i ∉ vs := by decide) (hvj : j ∉ vs := by decide) (hs : ∀ x, foldedSetIterable iter X.env x = pure x := by intro _; rfl) :
    JSs X W [.Assign [.Name y p1] (.List [.Name x p2] p3) p4, .For tg iter [.Assign [.Name x p5] e p6, .Expr (.Call (.Attribute (.Name y p8) "append" apos) [.Name x p9] [] cpos) p7] [] pos, .Return (some (.Name y p10)) p11] (dCarry it t fe i j) :=
  js_carry hp hc hij hvi hvj (ps_set hN nj lj (pe_lst (pa_cons (pe_var ni vi dx dx2) pa_nil st1)) s1 fj) hi hg
    (pss_cons (ps_set hN ni li he s2 fi) (pss_one (ps_expr (pe_bm F.plainAttrs_list F.slot_list_append (by rfl) (fun pins s σ H x xs v us Q I r rv q => mt_append pins s σ H x xs v us Q I r rv q) (pe_var nj vj dy dy2) (pa_cons (pe_var ni vi dx dx2) pa_nil b4) b1 b2 b3 b4 b5) s3)))
    (ps_ret (pe_var nj vj dy dy2)) hs
end
/-! ### return told[e]: the element goes out, told goes with the def -/
def dRetAt (j : Nat) (f : DE) : DS := fun env => match env[j]? with
  | some (some (.dl os)) => (f env).bind fun r => match r.fv with
    | .int k => match (ixN os.length k).bind fun m => os[m]? with
      | some o => .ok (.rt o (env.set j none))
      | none => .no
    | _ => .no
  | _ => .no
section
variable {X : Cx} {W : WX} {e : Expr} {f : DE} {x : Str} {pos pos' spos : Pos}
theorem js_retAt (j : Nat) (he : JE X W e f) (hN : X.N[j]? = some x := by rfl) (hv : Vis X.env.scope x := by first | exact Or.inl rfl | exact Or.inr (Or.inl rfl) | exact Or.inr (Or.inr rfl))
    (hd : (x == ("__debug__" : Str)) = false := by decide) (hcd : (x == ("__classdict__" : Str)) = false := by decide) (hix : PlainIx e := by first | exact fun _ _ => rfl | (intro _ _; rfl)) :
    JS X W (.Return (some (.Subscript (.Name x pos') e spos)) pos) (dRetAt j f) := by
  refine PS.imp (ps_ret (pe_ix (ix_seq (X := X)) (pe_var (pos := pos') hN hv hd hcd) he hix)) fun D σ H ⟨G, Z, env, T, hT, r, p⟩ => ?_
  unfold dRetAt at p
  split at p
  case h_2 => exact p.elim
  case h_1 os ej =>
    have ⟨F0, D1, D2, r0⟩ := r
    obtain ⟨v, _, _, sv, _⟩ := r0.ev.repl ej
    refine ⟨v, sv, tE.bindS r p fun kr w H1 _ s1 r1 p1 => ?_⟩
    split at p1
    case h_2 => exact p1.elim
    case h_1 k ek =>
      split at p1
      case h_2 => exact p1.elim
      case h_1 o eo =>
        obtain ⟨F1, D3, D4, r1⟩ := r1
        have dk : FDen X.mg H1 kr.fv w := (r1.bor (List.mem_cons_self (a := (w, kr)))).fden r1.fh
        rw [ek] at dk
        have dk : w = .int k := dk
        obtain ⟨F2, L1, L2, r2⟩ := r1.r.pop
        obtain ⟨v2, A, Lr, sv2, own, pm, _, free⟩ := r2.ev.repl ej
        rw [sv] at sv2
        cases sv2
        obtain ⟨d, vs, L0, ev, rr, eL⟩ := own
        obtain ⟨m, e1, e2⟩ := Option.bind_eq_some_iff.mp eo
        obtain ⟨u, B, Lq, h1, h2, h3, _⟩ := rr.focus e2
        have at_d : H1 d = some (.lst vs) := r2.gd.hp (d, .lst vs) (List.mem_append_left _ (pm.mem_iff.mpr (List.mem_append_left _ (eL ▸ List.mem_cons_self))))
        have iu : atI vs k = some u := by
          unfold atI
          rw [rr.length, e1]
          exact h1
        have big : (L1 ++ L2).Perm ((Lr ++ (B ++ L2)) ++ ((d, .lst vs) :: Lq)) := by
          refine ((pm.trans ((show A.Perm ((d, HO.lst vs) :: (B ++ Lq)) from eL ▸ (h3.cons _)).append_right Lr)).append_right L2).trans ?_
          haveI : DecidableEq (Addr × HO) := fun a b => Classical.propDecidable _
          refine List.perm_iff_count.mpr fun z => ?_
          simp only [List.cons_append, List.append_assoc, List.count_append, List.count_cons]
          omega
        exact .inl ⟨d, vs, k, u, ev, dk, SqL.of at_d, iu, p1 u (σ.set j none) H1 ⟨F2, Lr, B ++ L2, r2.gf, r2.fg, r2.fh, r2.zh, free none, .st h2 r2.tm, (r2.gd.perm big).left⟩⟩
end
end J
namespace J
open PySem PySem.Spec PyProof.Rows L2
/-! ### a, b = e; x += e -/
def dAsgT (fe : DE) (t : TgF) : DS := fun env => (fe env).bind fun r => match r with
  | .st (.fz x) => match t x env with
    | some e1 => .ok (.nx e1)
    | none => .no
  | _ => .no
def dAugI (i : Nat) (f : Int → Int → Int) (fe : DE) : DS := fun env => match env[i]? with
  | some (some (.fz (.int a))) => (fe env).bind fun r => match r.fv with
    | .int b => .ok (.nx (env.set i (some (.fz (.int (f a b))))))
    | _ => .no
  | _ => .no
section
variable {X : Cx} {W : WX} {pos pos' : Pos} {e tg : Expr} {fe : DE} {t : TgF} {vs : List Nat} {x : Str}
theorem js_asgT (he : JE X W e fe) (hg : JG X tg vs t) (hs : swapsWithSole [tg] e pos.line X.env = pure false := by rfl) (hw : swappedStores [tg] e X.env = pure none := by rfl)
    (h1 : (assignEach [tg] X.env).map (·.2) = [assign tg X.env] := by rfl) : JS X W (.Assign [tg] e pos) (dAsgT fe t) :=
  PS.imp (ps_asg he hg hs hw h1) fun D σ H ⟨G, Z, env, T, hT, r, p⟩ => tE.bindS r p fun rv v H1 _ s r1 p1 => by
    cases rv with
    | bo o => exact p1.elim
    | st o =>
      cases o with
      | fz y =>
        refine ⟨G, Z, env, T, y, r1, ?_⟩
        have p1 : PostS X.mg W G Z T D (match t y env with
          | some e1 => .ok (.nx e1)
          | none => .no) := p1
        cases et : t y env with
        | none => rw [et] at p1; exact p1.elim
        | some e1 =>
          rw [et] at p1
          exact fun σ' _ r2 => p1 σ' _ r2
      | _ => exact p1.elim
theorem js_augI (i : Nat) {op : Operator} {f : Int → Int → Int} (ho : PIp X op (ipI f)) (hN : X.N.Nodup) (he : JE X W e fe) (hi : X.N[i]? = some x := by rfl) (hx : Loc X.env.scope x := by first | exact .inl rfl | exact .inr rfl)
    (hf : X.fn x = true ∨ X.env.scope.names.lookup x = some .local := by first | exact .inl rfl | exact .inr rfl) : JS X W (.AugAssign (.Name x pos') op e pos) (dAugI i f fe) :=
  PS.imp (ps_aug hN hi hx he ho hf) fun D σ H ⟨G, Z, env, T, hT, r, p⟩ => by
    unfold dAugI at p
    split at p
    case h_2 => exact p.elim
    case h_1 a ea =>
      have ⟨F0, C1, C2, r0⟩ := r
      obtain ⟨v, _, _, sv, own, _⟩ := r0.ev.repl ea
      have ev : v = .int a := own.1
      subst ev
      refine ⟨.int a, sv, tE.bindS r p fun kr w H1 _ s1 r1 p1 => ?_⟩
      split at p1
      case h_2 => exact p1.elim
      case h_1 b eb =>
        obtain ⟨F1, D1, D2, r1⟩ := r1
        have dk : FDen X.mg H1 kr.fv w := (r1.bor (List.mem_cons_self (a := (w, kr)))).fden r1.fh
        rw [eb] at dk
        have dk : w = .int b := dk
        subst dk
        obtain ⟨F2, D3, D4, r2⟩ := r1.r.pop
        refine ⟨a, b, rfl, rfl, p1 _ _ ?_⟩
        exact ((r2.new (New.old r2.fh (x := .int (f a b)) (v := .int (f a b)) rfl)).set i)
end
end J
set_option maxHeartbeats 4000000
namespace J
open PySem PySem.Spec PyProof.Rows L2
/-! ### a dict with keys (int, tuple of ints), each with True -/
theorem nums_hash (w w' : World) : ∀ ns : List Int, NestedKey.hashes w (ns.map .num) = NestedKey.hashes w' (ns.map .num)
  | [] => rfl
  | n :: ns => by rw [List.map_cons, NestedKey.hashes, NestedKey.hashes, nums_hash w w' ns, NestedKey.hash, NestedKey.hash]
theorem nkey_hash (w w' : World) (k : NK) : (nkey k).hash w = (nkey k).hash w' := by
  unfold nkey
  simp only [NestedKey.hash, NestedKey.hashes]
  rw [nums_hash w w']
theorem nkey_inj {a b : NK} (h : nkey a = nkey b) : a = b := by
  unfold nkey at h
  injection h with h
  injection h with h1 h2
  injection h1 with h1
  injection h2 with h2 _
  injection h2 with h2
  have : a.2 = b.2 := List.map_inj_right (fun x y e => by injection e) |>.mp h2
  exact Prod.ext h1 this
theorem nums_depth : ∀ ns : List Int, NestedKey.depthAll (ns.map .num) = 0
  | [] => rfl
  | n :: ns => by rw [List.map_cons, NestedKey.depthAll, nums_depth ns, NestedKey.depth]; rfl
theorem nkey_depth (k : NK) : (nkey k).depth ≤ 8 := by
  unfold nkey
  simp only [NestedKey.depth, NestedKey.depthAll, nums_depth]
  decide
section
variable {X : Cx} {pins : List (Addr × Obj)} {σ : L2.St} {H : Hp} {s : Shared}
theorem nums_is {h : Heap} : ∀ {ns : List Int} {us : List Value}, Vals (ns.map V.int) us → NestedAll h (ns.map .num) us
  | [], _, r => by
    cases r
    exact .nil
  | n :: ns, _, r => by
    cases r with
    | cons r1 r2 =>
      obtain ⟨t, rfl⟩ := r1
      exact .cons (.int n t) (nums_is r2)
/-- a key that is tracked -/
def KeyT (H : Hp) (k : NK) (b : Addr) : Prop := ∃ c, H b = some (.tup [.int k.1, .ref c]) ∧ H c = some (.tup (k.2.map V.int))
theorem key_is (I : Inv X pins σ H s) {k : NK} {b : Addr} (h : KeyT H k b) : (nestedKind X.prog X.w).is s.heap (nkey k) b := by
  obtain ⟨c, h1, h2⟩ := h
  obtain ⟨its, r, ⟨o, ho, hc, n, hd⟩, _⟩ := I.tuple (.inl (.inl h1) : SqT X.K H b _)
  obtain ⟨its2, r2, ⟨o2, ho2, hc2, n2, hd2⟩, _⟩ := I.tuple (.inl (.inl h2) : SqT X.K H c _)
  refine ⟨?_, nkey_depth k⟩
  unfold nkey
  refine .tup ho hc hd ?_
  obtain _ | ⟨r1, _ | ⟨r3, r4⟩⟩ := r
  cases r4
  obtain ⟨t, rfl⟩ := r1
  cases r3
  exact .cons (.int _ t) (.cons (.tup ho2 hc2 hd2 (nums_is r2)) .nil)
theorem tab_dict (I : Inv X pins σ H s) {a : Addr} {kb : List (NK × Addr)} (h : H a = some (TabN a kb)) (hk : KeyTs H kb) : (a == sysModules) = false ∧ s.heap.DictOfH (nestedKind X.prog X.w) a (kb.map fun p => (nkey p.1, p.2, .bool true)) := by
  obtain ⟨⟨h1, h2, h3⟩, _⟩ := I.hok a _ h
  obtain ⟨o, es, ep, q1, q2, q3, q4⟩ := h3 X.w
  refine ⟨h1, o, es, ep, q1, q2, q3, ?_, fun x hx => ?_, ?_⟩
  · rw [q4, List.map_map]
    rfl
  · obtain ⟨p, hp, rfl⟩ := List.mem_map.mp hx
    exact key_is I (hk p hp)
  · rw [List.map_map]
    exact List.pairwise_map.mpr ((List.pairwise_map.mp h2).imp fun h e => h (nkey_inj e))
/-- k into the table, b its tuple -/
def putNK (kb : List (NK × Addr)) (k : NK) (b : Addr) : List (NK × Addr) := if k ∈ kb.map (·.1) then kb else kb ++ [(k, b)]
theorem tab_stored {P : Program} {w : World} {kb : List (NK × Addr)} {k : NK} {b : Addr} : (storedH (kb.map fun p => (nkey p.1, p.2, Value.bool true)) (nkey k) b (.bool true)) = (putNK kb k b).map fun p => (nkey p.1, p.2, Value.bool true) := by
  unfold storedH putNK
  have e : (atKey (kb.map fun p => (nkey p.1, p.2, Value.bool true)) (nkey k)).isSome = true ↔ k ∈ kb.map (·.1) := by
    unfold atKey
    rw [Option.isSome_map, List.find?_isSome, List.mem_map]
    constructor
    · rintro ⟨x, hx, hd⟩
      obtain ⟨p, hp, rfl⟩ := List.mem_map.mp hx
      exact ⟨p, hp, nkey_inj (of_decide_eq_true hd)⟩
    · rintro ⟨p, hp, rfl⟩
      exact ⟨_, List.mem_map_of_mem hp, by simp⟩
  by_cases h : k ∈ kb.map (·.1)
  · rw [if_pos (e.mpr h), if_pos h, List.map_map]
    refine List.map_congr_left fun p _ => ?_
    show putAt (nkey k) (.bool true) (nkey p.1, p.2, .bool true) = _
    unfold putAt
    split <;> rfl
  · rw [if_neg (fun z => h (e.mp z)), if_neg h, List.map_append]
    rfl
theorem tab_new {P : Program} {w : World} {H : Hp} {h : Heap} {a : Addr} {kb : List (NK × Addr)} (hs : (a == sysModules) = false) (hn : (kb.map (·.1)).Nodup) {o : Obj} {es : Array DictEntry} {ep : Nat} (q1 : h.get? a = some o) (q2 : o.ExactDict) (q3 : o.data = .dict es ep)
    (q4 : es.toList = (kb.map fun p => (nkey p.1, p.2, Value.bool true)).map (entryOfKey (nestedKind P w))) : ObjOk P w H h a (TabN a kb) := by
  refine ⟨⟨hs, hn, fun w' => ⟨o, es, ep, q1, q2, q3, ?_⟩⟩, ⟨o, q1⟩, fun h1 h2 ⟨a1, a2, a3⟩ k => ⟨a1, a2, fun w' => ?_⟩⟩
  · rw [q4, List.map_map]
    refine List.map_congr_left fun p _ => ?_
    show (⟨(nkey p.1).hash w, .ref p.2, .bool true⟩ : DictEntry) = _
    rw [nkey_hash w w']
  · obtain ⟨o, es, ep, r1, r2⟩ := a3 w'
    exact ⟨o, es, ep, k o r1, r2⟩
theorem putNK_nodup {kb : List (NK × Addr)} {k : NK} {b : Addr} (h : (kb.map (·.1)).Nodup) : ((putNK kb k b).map (·.1)).Nodup := by
  unfold putNK
  split
  · exact h
  · rename_i hk
    rw [List.map_append, List.nodup_append]
    exact ⟨h, by simp, fun x hx y hy e => hk (by rw [List.map_singleton, List.mem_singleton] at hy; have hy : y = k := hy; rw [← hy, ← e]; exact hx)⟩
def rNPut : TSet := fun o i y H Q => ∃ a b kb k, o = .ref a ∧ i = .ref b ∧ y = .bl true ∧ H a = some (TabN a kb) ∧ KeyTs H kb ∧ KeyT H k b ∧ kb.length ≤ sizeLine ∧ Q (upd H a (TabN a (putNK kb k b)))
theorem set_nput (hu : X.A.units + 10 < cLine) : PSet X rNPut := by
  intro pins s σ H o i y ov iv yv Q I ro ri ry ⟨a, b, kb, k, e1, e2, e3, ha, hk, hb, hz, q⟩
  subst e1 e2 e3
  cases ro
  cases ri
  cases (show yv = Value.bool true from ry)
  obtain ⟨hs, dd⟩ := tab_dict I ha hk
  have nd : (kb.map (·.1)).Nodup := (I.hok a _ ha).1.2.1
  refine wpAny_setItem_heap (hsz := by rw [List.length_map]; exact hz) (by show X.A.in1.units + 8 < cLine; show X.A.units + 1 + 8 < cLine; omega) (key_is I hb) dd fun h' dd' sb => ?_
  rw [tab_stored (P := X.prog) (w := X.w)] at dd'
  obtain ⟨o', es, ep, q1, q2, q3, q4, _, _⟩ := dd'
  exact ⟨_, I.write (e := a) (by rw [ha]; trivial) (.inl rfl) (fun c u hc hu => (sb.2 c hc).trans hu) ⟨o', q1⟩ (tab_new (P := X.prog) (w := X.w) hs (putNK_nodup nd) q1 q2 q3 q4), q⟩
theorem tab_at {P : Program} {w : World} {kb : List (NK × Addr)} {k : NK} : (atKey (kb.map fun p => (nkey p.1, p.2, Value.bool true)) (nkey k)).isSome = decide (k ∈ kb.map (·.1)) := by
  rw [Bool.eq_iff_iff, decide_eq_true_iff]
  unfold atKey
  rw [Option.isSome_map, List.find?_isSome, List.mem_map]
  constructor
  · rintro ⟨x, hx, hd⟩
    obtain ⟨p, hp, rfl⟩ := List.mem_map.mp hx
    exact ⟨p, hp, nkey_inj (of_decide_eq_true hd)⟩
  · rintro ⟨p, hp, rfl⟩
    exact ⟨_, List.mem_map_of_mem hp, by simp⟩
def rNIn : V → V → Hp → VK → Prop := fun u w H Q => ∃ a b kb k, w = .ref a ∧ u = .ref b ∧ H a = some (TabN a kb) ∧ KeyTs H kb ∧ KeyT H k b ∧ Q (.bl (decide (k ∈ kb.map (·.1)))) H
theorem op_inN (hu : X.A.units + 10 < cLine) : OpR X (compareOp .In) rNIn := by
  intro pins s σ H u w v1 v2 Q I r1 r2 ⟨a, b, kb, k, e1, e2, ha, hk, hb, q⟩
  subst e1 e2
  cases r1
  cases r2
  obtain ⟨hs, dd⟩ := tab_dict I ha hk
  refine wpAny_in_heap (by show X.A.units + 1 + 8 < cLine; omega) (key_is I hb) hs dd ?_
  rw [tab_at (P := X.prog) (w := X.w)]
  generalize decide (k ∈ kb.map (·.1)) = c at q ⊢
  exact ⟨.bl c, H, I.tok _, rfl, q⟩
def rNNo : V → V → Hp → VK → Prop := fun u w H Q => ∃ a b kb k, w = .ref a ∧ u = .ref b ∧ H a = some (TabN a kb) ∧ KeyTs H kb ∧ KeyT H k b ∧ Q (.bl (!decide (k ∈ kb.map (·.1)))) H
theorem op_noN (hu : X.A.units + 10 < cLine) : OpR X (compareOp .NotIn) rNNo := by
  rintro pins s σ H u w v1 v2 Q I r1 r2 ⟨a, b, kb, k, rfl, rfl, ha, hk, hb, q⟩
  cases r1; cases r2
  have ⟨hs, dd⟩ := tab_dict I ha hk
  refine wpAny_notIn_heap (show X.A.units + 1 + 8 < cLine by omega) (key_is I hb) hs dd ?_
  rw [tab_at (P := X.prog) (w := X.w)]
  generalize decide (k ∈ kb.map (·.1)) = c at q ⊢
  exact ⟨.bl (!c), H, I.tok _, rfl, q⟩
def nk? : FV → Option NK
  | .tup [.int i, .tup xs] => (ints? xs).map fun k => (i, k)
  | _ => none
def OV.nks? : OV → Option (List NK)
  | .oN ks => some ks
  | .fz (.dN ks) => some ks
  | _ => none
def opInN (x y : OV) : Option OV := y.nks?.bind fun ks => (nk? x.fv).map fun k => .fz (.bl (decide (k ∈ ks)))
theorem nk_den {M : Str → Option Value} {F : Hp} {x : FV} {v : V} {k : NK} (h : nk? x = some k) (d : FDen M F x v) : ∃ b, v = .ref b ∧ KeyT F k b := by
  unfold nk? at h
  split at h
  · rename_i i xs
    obtain ⟨ns, e, rfl⟩ := Option.map_eq_some_iff.mp h
    obtain ⟨a, vs, rfl, q, u, ws, rfl, d1, u2, ws2, rfl, ⟨c, vs2, rfl, q2, d2⟩, d3⟩ := d
    rw [show u = V.int i from d1, show ws2 = [] from d3] at q
    have e2 := d2.ints? e
    subst e2
    exact ⟨a, rfl, c, q, q2⟩
  · cases h
theorem KeyT.mono {F H : Hp} (h : Same F H) {k : NK} {b : Addr} (t : KeyT F k b) : KeyT H k b := let ⟨c, x, y⟩ := t; ⟨c, h _ _ x, h _ _ y⟩
theorem Bor.nks {M : Str → Option Value} {F H : Hp} {o : OV} {v : V} {ks : List NK} (hf : Same F H) (b : Bor M F H o v) (h : o.nks? = some ks) : ∃ a kb, v = .ref a ∧ H a = some (TabN a kb) ∧ kb.map (·.1) = ks ∧ KeyTs H kb := by
  obtain ⟨A, ow, c⟩ := b
  unfold OV.nks? at h
  split at h
  · cases h
    obtain ⟨a, kb, e, n, k, q⟩ := ow
    exact ⟨a, kb, e, c (a, TabN a kb) (by rw [q]; exact List.mem_singleton.mpr rfl), n, k.mono hf⟩
  · cases h
    obtain ⟨⟨a, kb, e, q, n, k⟩, _⟩ := ow
    exact ⟨a, kb, e, hf _ _ q, n, k.mono hf⟩
  · cases h
end
section
variable {X : Cx} {W : WX} {a b : Expr} {f g : DE} {pos : Pos}
theorem op_inNJ (hu : X.A.units + 10 < cLine) : OpR X (compareOp .In) (rJ X.mg opInN) := by
  intro pins s σ H u w v1 v2 Q I r1 r2 ⟨F, x, y, o, hf, bx, by', e, k⟩
  unfold opInN at e
  obtain ⟨ks, e1, e⟩ := Option.bind_eq_some_iff.mp e
  obtain ⟨q, e2, rfl⟩ := Option.map_eq_some_iff.mp e
  obtain ⟨A, kb, rfl, h1, rfl, h3⟩ := by'.nks hf e1
  obtain ⟨B, rfl, h4⟩ := nk_den e2 (bx.fden hf)
  exact op_inN hu pins s σ H _ _ v1 v2 Q I r1 r2 ⟨A, B, kb, q, rfl, rfl, h1, h3, h4, k _ _ (New.bl hf)⟩
theorem pc_inNJ (hu : X.A.units + 65 < cLine) (ha : JE X W a f) (hb : JE X W b g) : PC X .In a b (tE X.mg W (dBin opInN f g)) :=
  ⟨fun pins s σ H Q I q => (pc_of (op_inNJ (by omega)) ha hb).run pins s σ H Q I (by
    obtain ⟨G, Z, env, T, r, p⟩ := q
    refine tE.bind r Sb.refl p fun x u H1 ef s1 r1 p1 => ?_
    refine tE.bind r1 Sb.refl.cons p1 fun y w H2 eg s2 ⟨F, C1, C2, r2⟩ p2 => ?_
    obtain ⟨o, e, k⟩ := r2.fin (Sb.refl.cons.cons) p2
    exact ⟨F, x.ov, y.ov, o, r2.fh, r2.bor (List.mem_cons_of_mem _ List.mem_cons_self), r2.bor List.mem_cons_self, e, k⟩)⟩
theorem je_inN (hu : X.A.units + 65 < cLine) (ha : JE X W a f) (hb : JE X W b g) (hm : behindInMarks .In b = false := by rfl) : JE X W (.Compare a [.In] [b] pos) (dBin opInN f g) := pe_cmp (pc_inNJ hu ha hb) hm
theorem jt_inN (hu : X.A.units + 65 < cLine) (ha : JE X W a f) (hb : JE X W b g) (hm : behindInMarks .In b = false := by rfl) : JT X W (.Compare a [.In] [b] pos) (dTest (dBin opInN f g)) := PT.imp (pt_cmp (pc_inNJ hu ha hb) hm) fun _ _ _ h => tB_red h
def opNoN (x y : OV) : Option OV := y.nks?.bind fun ks => (nk? x.fv).map fun k => .fz (.bl (!decide (k ∈ ks)))
theorem op_noNJ (hu : X.A.units + 10 < cLine) : OpR X (compareOp .NotIn) (rJ X.mg opNoN) := by
  rintro pins s σ H u w v1 v2 Q I r1 r2 ⟨F, x, y, o, hf, bx, by', e, k⟩
  obtain ⟨ks, e1, e⟩ := Option.bind_eq_some_iff.mp e
  obtain ⟨q, e2, rfl⟩ := Option.map_eq_some_iff.mp e
  have ⟨A, kb, ew, h1, eks, h3⟩ := by'.nks hf e1
  have ⟨B, eu, h4⟩ := nk_den e2 (bx.fden hf)
  subst ew eks eu
  exact op_noN hu pins s σ H _ _ v1 v2 Q I r1 r2 ⟨A, B, kb, q, rfl, rfl, h1, h3, h4, k _ _ (New.bl hf)⟩
theorem pc_noNJ (hu : X.A.units + 65 < cLine) (ha : JE X W a f) (hb : JE X W b g) : PC X .NotIn a b (tE X.mg W (dBin opNoN f g)) :=
  ⟨fun pins s σ H Q I q => (pc_of (op_noNJ (by omega)) ha hb).run pins s σ H Q I (by
    obtain ⟨G, Z, env, T, r, p⟩ := q
    refine tE.bind r Sb.refl p fun x u H1 ef s1 r1 p1 => ?_
    refine tE.bind r1 Sb.refl.cons p1 fun y w H2 eg s2 ⟨F, C1, C2, r2⟩ p2 => ?_
    obtain ⟨o, e, k⟩ := r2.fin (Sb.refl.cons.cons) p2
    exact ⟨F, x.ov, y.ov, o, r2.fh, r2.bor (List.mem_cons_of_mem _ List.mem_cons_self), r2.bor List.mem_cons_self, e, k⟩)⟩
theorem je_noN (hu : X.A.units + 65 < cLine) (ha : JE X W a f) (hb : JE X W b g) (hm : behindInMarks .NotIn b = false := by rfl) : JE X W (.Compare a [.NotIn] [b] pos) (dBin opNoN f g) := pe_cmp (pc_noNJ hu ha hb) hm
theorem jt_noN (hu : X.A.units + 65 < cLine) (ha : JE X W a f) (hb : JE X W b g) (hm : behindInMarks .NotIn b = false := by rfl) : JT X W (.Compare a [.NotIn] [b] pos) (dTest (dBin opNoN f g)) := PT.imp (pt_cmp (pc_noNJ hu ha hb) hm) fun _ _ _ h => tB_red h
def dNewN : DE := fun _ => .ok (.st (.oN []))
theorem je_newN : JE X W (.Dict [] [] pos) dNewN := by
  refine PE.imp (t := fun σ H Q => ∀ q, H q = none → Q (.ref q) (upd H q (TabN q []))) ⟨fun pins s σ H Q I h => wpAny_Dict_empty ?_⟩ ?_
  · have z : (s.heap.objs.size == sysModules) = false := beq_eq_false_iff_ne.mpr fun e => by
      have := I.big
      rw [e] at this
      exact absurd this (by decide)
    have new : ObjOk X.prog X.w (upd H s.heap.objs.size (TabN s.heap.objs.size [])) (s.heap.push { cls := .type "dict", data := .dict #[] }) s.heap.objs.size (TabN s.heap.objs.size []) := tab_new z List.nodup_nil (Heap.get?_push_size _ rfl) ⟨rfl, rfl, rfl⟩ rfl rfl
    exact ⟨.ref s.heap.objs.size, _, I.laid (t' := s.toks) (fun _ _ q => Heap.get?_push_of_some _ q) (Nat.le_refl _) new, rfl, h _ (I.hok.fresh (Nat.le_refl _))⟩
  · rintro σ H Q ⟨G, Z, env, T, ⟨F, C1, C2, r⟩, p⟩ q hq
    have fq : F q = none := none_of_same r.fh hq
    exact p _ _ (same_upd hq) (r.new ⟨F, [(q, TabN q [])], Same.refl _, fun a u e => .inl e, r.fh.trans (same_upd hq), same_upd hq, ⟨q, [], rfl, rfl, nofun, rfl⟩, ⟨by simp, fun p hp => by rw [List.mem_singleton.mp hp]; exact upd_same, fun p hp => by rw [List.mem_singleton.mp hp]; exact fq, fun p hp => by rw [List.mem_singleton.mp hp]; exact hq⟩⟩)
end
def dNPut (i : Nat) (fk fe : DE) : DS := fun env => match env[i]? with
  | some (some (.oN ks)) => (fe env).bind fun r => match r with
    | .st (.fz (.bl true)) => (fk env).bind fun kr => match kr with
      | .st (.fz x) => match nk? x with
        | some k => if ks.length < BIG then .ok (.nx (env.set i (some (.oN (if k ∈ ks then ks else ks ++ [k]))))) else .no
        | none => .no
      | _ => .no
    | _ => .no
  | _ => .no
section
variable {X : Cx} {W : WX} {pos pos' tpos : Pos} {e k : Expr} {fk fe : DE} {x : Str}
theorem js_nput (i : Nat) (hu : X.A.units + 10 < cLine) (hk : JE X W k fk) (he : JE X W e fe) (hN : X.N[i]? = some x := by rfl) (hv : Vis X.env.scope x := by first | exact Or.inl rfl | exact Or.inr (Or.inl rfl) | exact Or.inr (Or.inr rfl))
    (hd : (x == ("__debug__" : Str)) = false := by decide) (hcd : (x == ("__classdict__" : Str)) = false := by decide)
    (hs : swapsWithSole [.Subscript (.Name x pos') k tpos] e pos.line X.env = pure false := by rfl) (hw : swappedStores [.Subscript (.Name x pos') k tpos] e X.env = pure none := by rfl)
    (h1 : (assignEach [.Subscript (.Name x pos') k tpos] X.env).map (·.2) = [assign (.Subscript (.Name x pos') k tpos) X.env] := by rfl)
    (ha : ∀ v, assign (.Subscript (.Name x pos') k tpos) X.env v = (do
      let ov ← holding [v] (eval (.Name x pos') X.env)
      let iv ← holding [v, ov] (eval k X.env)
      standAt tpos
      holding [v, ov, iv] (setItem ov iv v)
      release [v, ov, iv] []) := by intro _; rfl) :
    JS X W (.Assign [.Subscript (.Name x pos') k tpos] e pos) (dNPut i fk fe) := by
  refine PS.imp (ps_asg he (pg_sub (pe_var (pos := pos') hN hv hd hcd) hk (set_nput hu) ha) hs hw h1) fun D σ H ⟨G, Z, env, T, hT, r, p⟩ => ?_
  unfold dNPut at p
  split at p
  case h_2 => exact p.elim
  case h_1 ks ei =>
    refine tE.bindS r p fun rv y H1 _ s1 r1 p1 => ?_
    obtain rfl : rv = .st (.fz (.bl true)) := by
      split at p1
      · rfl
      · exact p1.elim
    have ⟨F1, D1, D2, q1⟩ := r1
    obtain ⟨v0, _, _, sv, _⟩ := q1.ev.repl ei
    refine ⟨v0, sv, tE.bindS2 r1 Sb.refl.cons p1 fun kr w H3 _ s3 r3 p3 => ?_⟩
    cases kr with
    | bo o => exact p3.elim
    | st o =>
      cases o with
      | fz z =>
        have p3 : PostS X.mg W G Z T D (match nk? z with
          | some k => if ks.length < BIG then .ok (.nx (env.set i (some (.oN (if k ∈ ks then ks else ks ++ [k]))))) else .no
          | none => .no) := p3
        cases ek : nk? z with
        | none => rw [ek] at p3; exact p3.elim
        | some key =>
          rw [ek] at p3
          simp only at p3
          split at p3
          case isFalse => exact p3.elim
          case isTrue few =>
            obtain ⟨F3, L1, L2, q3⟩ := r3
            obtain ⟨A, B, eA, ⟨dz, eN⟩, tm⟩ := q3.tm.freeze
            rw [eN, List.nil_append] at eA
            rw [← eA] at tm
            have q4 : RF X.mg G Z H3 F3 σ env ((y, .st (.fz (.bl true))) :: T) L1 L2 := ⟨q3.gf, q3.fg, q3.fh, q3.zh, q3.ev, tm, q3.gd⟩
            obtain ⟨b, rfl, kt⟩ := nk_den ek dz
            obtain ⟨v, L, C, j1, j2, j3, j4, j5⟩ := q4.write hT ei
            rw [sv] at j1
            cases j1
            obtain ⟨a, kb, rfl, rfl, kts, rfl⟩ := j2
            obtain ⟨ey, rfl⟩ := j3
            have eks : (putNK kb key b).map (·.1) = if key ∈ kb.map (·.1) then kb.map (·.1) else kb.map (·.1) ++ [key] := by
              unfold putNK
              split
              · rfl
              · rw [List.map_append]; rfl
            have kts' : KeyTs F3 (putNK kb key b) := fun p hp => by
              unfold putNK at hp
              split at hp
              · exact kts p hp
              · rcases List.mem_append.mp hp with hp | hp
                · exact kts p hp
                · rw [List.mem_singleton.mp hp]; exact kt
            obtain ⟨E1, E2, q5⟩ := j5 a (TabN a kb) (TabN a (putNK kb key b)) (.oN (if key ∈ kb.map (·.1) then kb.map (·.1) else kb.map (·.1) ++ [key])) ⟨[], [], [(a, TabN a (putNK kb key b))], .refl _, ⟨a, _, rfl, eks, kts', rfl⟩, .refl _⟩
            exact ⟨a, b, kb, key, rfl, rfl, ey, j4 _ (List.mem_singleton.mpr rfl), kts.mono q4.fh, kt.mono q4.fh, by rw [big_eq]; rw [List.length_map] at few; omega, p3 σ _ q5.r⟩
      | _ => exact p3.elim
end
end J
set_option maxHeartbeats 4000000
namespace J
open PySem PySem.Spec PyProof.Rows L2
/-! ### for y in x: y.append(None), over one's own list of one's own lists -/
def OV.addN : OV → OV
  | .ol xs => .ol (xs ++ [.non])
  | o => o
def OV.slim : OV → Bool
  | .ol xs => decide (xs.length < BIG)
  | _ => false
def dEachN (i j : Nat) : DS := fun env => match env[i]? with
  | some (some (.dl os)) => if i ≠ j ∧ j < env.length ∧ os.all OV.slim = true then .ok (.nx ((env.set i (some (.dl (os.map OV.addN)))).set j none)) else .no
  | _ => .no
def addTo (n : Nat) (os : List OV) : List OV := (os.take n).map OV.addN ++ os.drop n
theorem addTo_zero (os : List OV) : addTo 0 os = os := by simp [addTo]
theorem addTo_all {n : Nat} {os : List OV} (h : os.length ≤ n) : addTo n os = os.map OV.addN := by
  unfold addTo
  rw [List.take_of_length_le h, List.drop_of_length_le h, List.append_nil]
theorem addTo_get {n : Nat} {os : List OV} {o : OV} (h : os[n]? = some o) : (addTo n os)[n]? = some o := by
  have hl := (List.getElem?_eq_some_iff.mp h).1
  unfold addTo
  rw [List.getElem?_append_right (by rw [List.length_map, List.length_take]; omega), List.length_map, List.length_take, Nat.min_eq_left (by omega), Nat.sub_self, List.getElem?_drop, Nat.add_zero]
  exact h
theorem addTo_set {n : Nat} {os : List OV} {o : OV} (h : os[n]? = some o) : (addTo n os).set n o.addN = addTo (n + 1) os := by
  obtain ⟨hl, he⟩ := List.getElem?_eq_some_iff.mp h
  unfold addTo
  rw [List.set_append_right (h := by rw [List.length_map, List.length_take]; omega), List.length_map, List.length_take, Nat.min_eq_left (by omega), Nat.sub_self, List.drop_eq_getElem_cons hl, List.set_cons_zero, List.take_succ_eq_append_getElem hl, List.map_append, he]
  simp
section
variable {X : Cx} {W : WX} {e : Expr} {x y : Str} {pos p1 p2 p3 p4 apos cpos : Pos}
theorem js_eachN (i j : Nat) (hp : PassesOwn (model X.prog X.w) X.A X.env X.xe) (hc : X.calm = true) (hN : X.N.Nodup) (he : JE X W e (dC .non))
    (ni : X.N[i]? = some x := by rfl) (nj : X.N[j]? = some y := by rfl) (lj : Loc X.env.scope y := by first | exact .inl rfl | exact .inr rfl)
    (vi : Vis X.env.scope x := by first | exact Or.inl rfl | exact Or.inr (Or.inl rfl) | exact Or.inr (Or.inr rfl)) (vj : Vis X.env.scope y := by first | exact Or.inl rfl | exact Or.inr (Or.inl rfl) | exact Or.inr (Or.inr rfl))
    (fj : X.fn y = true ∨ X.env.scope.names.lookup y = some .local := by first | exact .inl rfl | exact .inr rfl)
    (dx : (x == ("__debug__" : Str)) = false := by decide) (dx2 : (x == ("__classdict__" : Str)) = false := by decide) (dy : (y == ("__debug__" : Str)) = false := by decide) (dy2 : (y == ("__classdict__" : Str)) = false := by decide)
    (s3 : swapsWith (.Call (.Attribute (.Name y p3) "append" apos) [e] [] cpos) none p4.line X.env = pure false := by rfl)
    (b1 : attributeBase (.Name y p3) "append" X.env (eval (.Name y p3) X.env) = eval (.Name y p3) X.env := by rfl)
    (b2 : ((backTo cpos (starEach [e] X.env)).all (fun x => !x.1) && (backToKw cpos (keywordEach [] X.env)).all (fun x => x.1.isSome) && decide ([e].length + ([] : List Keyword).length + (if ([] : List Keyword).isEmpty then 0 else 1) < 30)) = true := by rfl)
    (b3 : (apos.endLine == cpos.line) = true := by rfl) (b4 : starEach [e] X.env = (false, eval e X.env) :: starEach [] X.env := by rfl) (b5 : (backTo cpos (starEach [] X.env)).any (·.1) = false := by rfl)
    (hs : ∀ z, foldedSetIterable (.Name x p2) X.env z = pure z := by intro _; rfl) :
    JS X W (.For (.Name y p1) (.Name x p2) [.Expr (.Call (.Attribute (.Name y p3) "append" apos) [e] [] cpos) p4] [] pos) (dEachN i j) := by
  refine PS.imp (ps_for hp hc (pi_list (pe_var ni vi dx dx2)) (pg_name hN nj lj fj)
    (pss_one (ps_expr (pe_bm F.plainAttrs_list F.slot_list_append (by rfl) (fun pins s σ H x xs v us Q I r rv q => mt_append pins s σ H x xs v us Q I r rv q) (pe_var nj vj dy dy2) (pa_cons he pa_nil b4) b1 b2 b3 b4 b5) s3)) hs) fun D σ H ⟨G, Z, env, T, hT, r, p⟩ => ?_
  unfold dEachN at p
  split at p
  case h_2 => exact p.elim
  case h_1 os ei =>
    split at p
    case isFalse => exact p.elim
    case isTrue hh =>
      obtain ⟨hij, hj, hall⟩ := hh
      obtain ⟨F0, C1, C2, r0⟩ := r
      obtain ⟨a, vs0, sa, ha⟩ := r0.isL (p := .dl os) rfl ei
      have hj2 : j < σ.length := by rw [r0.ev.len]; exact hj
      have hset : ∀ (ρ : Sl), j < ρ.length → ρ.set j (ρ[j]?.bind id) = ρ := by
        intro ρ hl
        apply List.ext_getElem?
        intro k
        by_cases hk : j = k
        · subst hk
          rw [List.getElem?_set_self hl, List.getElem?_eq_getElem hl]
          rfl
        · rw [List.getElem?_set_ne hk]
      have ru := r0.r.unset j (σ[j]?.bind id)
      rw [hset σ hj2] at ru
      have e0 : (env.set i (some (.dl (addTo 0 os)))).set j none = env.set j none := by
        rw [addTo_zero]
        congr 1
        apply List.ext_getElem?
        intro k
        by_cases hk : i = k
        · subst hk
          obtain ⟨hlt, _⟩ := List.getElem?_eq_some_iff.mp ei
          rw [List.getElem?_set_self hlt, ei]
        · rw [List.getElem?_set_ne hk]
      have p : D.nx = D.nx ∧ ∀ σ' H', R X.mg G Z H' σ' ((env.set i (some (.dl (addTo os.length os)))).set j none) T → D.nx σ' H' := ⟨rfl, fun σ' H' r => p σ' H' (by rw [addTo_all (Nat.le_refl _)] at r; exact r)⟩
      obtain ⟨_, p⟩ := p
      have il : i < env.length := (List.getElem?_eq_some_iff.mp ei).1
      refine ⟨.ref a, sa, a, rfl, ⟨vs0, SqL.of ha⟩, fun n m σ H => n + m = os.length ∧ j < σ.length ∧ σ[i]? = some (some (.ref a)) ∧ R X.mg G Z H σ ((env.set i (some (.dl (addTo n os)))).set j none) T, ⟨os.length, by omega, hj2, sa, by rw [e0]; exact ru⟩, ?_⟩
      rintro n m σ H ⟨hnm, hjl, sa, r⟩
      have en : ((env.set i (some (.dl (addTo n os)))).set j none)[i]? = some (some (.dl (addTo n os))) := by
        rw [List.getElem?_set_ne (Ne.symm hij), List.getElem?_set_self il]
      obtain ⟨F1, D1, D2, r1⟩ := r
      obtain ⟨v, A, Lr, sv, own, pm, _, _⟩ := r1.ev.repl en
      rw [sa] at sv
      obtain rfl := Option.some.inj (Option.some.inj sv)
      obtain ⟨a', vs, L0, ev, rr, eL⟩ := own
      cases ev
      have at_a : H a = some (.lst vs) := r1.gd.hp (a, .lst vs) (List.mem_append_left _ (pm.mem_iff.mpr (List.mem_append_left _ (eL ▸ List.mem_cons_self))))
      have lv : vs.length = os.length := by rw [rr.length]; unfold addTo; rw [List.length_append, List.length_map, List.length_take, List.length_drop]; omega
      by_cases hlt : n < os.length
      · have on : os[n]? = some os[n] := List.getElem?_eq_getElem hlt
        have sl := List.all_eq_true.mp hall _ (List.getElem_mem hlt)
        obtain ⟨xs, ex, hx⟩ : ∃ xs, os[n] = .ol xs ∧ xs.length < BIG := by
          revert sl
          generalize os[n] = o
          intro sl
          unfold OV.slim at sl
          split at sl
          · exact ⟨_, rfl, of_decide_eq_true sl⟩
          · cases sl
        rw [ex] at on
        obtain ⟨u, B, Lq, h1, h2, h3, _⟩ := rr.focus (addTo_get on)
        refine .inr ⟨⟨vs, u, SqL.of at_a, h1⟩, fun σ' H' => j < σ'.length ∧ σ'[i]? = some (some (.ref a)) ∧ R X.mg G Z H' σ' ((env.set i (some (.dl (addTo (n + 1) os)))).set j none) T, fun σ' H' h => ⟨m - 1, by omega, by omega, h⟩, fun v H' yl => ?_⟩
        obtain ⟨e1, e2⟩ := yl
        have e3 := e2 vs (SqL.of at_a)
        rw [h1] at e3
        cases e3
        subst e1
        obtain ⟨b, ws, eu, hm⟩ := own_isL (p := .ol xs) rfl h2
        subst eu
        have at_b : H' b = some (.lst ws) := r1.gd.hp _ (List.mem_append_left _ (pm.mem_iff.mpr (List.mem_append_left _ (eL ▸ List.mem_cons_of_mem _ (h3.mem_iff.mpr (List.mem_append_left _ hm))))))
        have r2 := r1.r.unset j (some (.ref b))
        rw [List.set_set] at r2
        have sj : (σ.set j (some (V.ref b)))[j]? = some (some (.ref b)) := List.getElem?_set_self hjl
        refine ⟨.ref b, sj, .inl ⟨rfl, ws, SqL.of at_b⟩, ?_⟩
        refine tE.then r2 Sb.refl (fun rv v2 H3 ev s3 r4 => ?_) (fun cc C H3 ev m s r5 => nomatch ev) fun ev => nomatch ev
        cases ev
        obtain ⟨F4, D5, D6, r4⟩ := r4
        obtain ⟨v4, L4, B4, w1, w2, w3, w4, w5⟩ := r4.write hT en
        rw [List.getElem?_set_ne (Ne.symm hij), sa] at w1
        obtain rfl := Option.some.inj (Option.some.inj w1)
        obtain ⟨a2, vs2, L2, e5, rr2, eL2⟩ := w2
        cases e5
        have at_a2 : H3 a = some (.lst vs2) := w4 _ (eL2 ▸ List.mem_cons_self)
        rw [s3 _ _ at_a] at at_a2
        cases at_a2
        obtain ⟨u2, B2, Lq2, k1, k2, k3, k4⟩ := rr2.focus (addTo_get on)
        rw [h1] at k1
        cases k1
        obtain ⟨b2, ws2, eb, hm2, hl2, wr⟩ := own_app (o := .fz .non) (p := .ol xs) (p' := .ol (xs ++ [.non])) rfl k2 w3
        cases eb
        have at_b2 : H3 b = some (.lst ws2) := w4 _ (eL2 ▸ List.mem_cons_of_mem _ (k3.mem_iff.mpr (List.mem_append_left _ hm2)))
        obtain ⟨_, _, r7⟩ := w5 b (.lst ws2) (.lst (ws2 ++ [v2])) (.dl ((addTo n os).set n (.ol (xs ++ [.non])))) (by
          rw [eL2]
          exact wrote_up k3 wr fun A' d' => let ⟨L', u1, u2⟩ := k4 _ A' d'; ⟨L', ⟨a, vs, L', rfl, u1, rfl⟩, u2⟩)
        refine ⟨b, ws2, v2, rfl, rfl, at_b2, by rw [hl2, big_eq]; exact hx, by rw [List.length_set]; exact hjl, by rw [List.getElem?_set_ne (Ne.symm hij)]; exact sa, ?_⟩
        have e9 := addTo_set on
        unfold OV.addN at e9
        have e10 : ((env.set i (some (.dl (addTo n os)))).set j none).set i (some (.dl ((addTo n os).set n (.ol (xs ++ [.non]))))) = (env.set i (some (.dl (addTo (n + 1) os)))).set j none := by
          rw [← e9, List.set_comm _ _ (Ne.symm hij), List.set_set]
        rw [← e10]
        exact r7.r
      · refine .inl ⟨⟨vs, SqL.of at_a, by rw [lv]; omega⟩, ?_⟩
        have : n = os.length := by omega
        subst this
        exact p σ H ⟨F1, D1, D2, r1⟩
end
end J
set_option maxHeartbeats 4000000
namespace J
open PySem PySem.Spec PyProof.Rows L2 RZ
/-! ### x.update(e), e a dict that stands still -/
def tDUpd (td ty : TE) : TE := fun σ H Q => td σ H fun x H1 => ∃ a, x = .ref a ∧ IsD H1 a ∧ ty σ H1 fun y H2 => ∃ b kvs more, y = .ref b ∧ a ≠ b ∧ H2 a = some (.dK kvs) ∧ H2 b = some (.dK more) ∧ kvs.length + more.length ≤ sizeLine ∧ Q .non (upd H2 a (.dK (mergeK kvs more)))
section
variable {X : Cx} {pins : List (Addr × Obj)} {σ : L2.St} {H : Hp} {s : Shared} {A : Around} {E : Value → Shared → Prop}
theorem d_merge {a b : Addr} {kvs more : List (Key × V)} {Q : Value → Shared → Prop} (I : Inv X pins σ H s) (ea : H a = some (.dK kvs)) (eb : H b = some (.dK more)) (ne : a ≠ b) (hz : kvs.length + more.length ≤ sizeLine)
    (h : ∀ s', Inv X pins σ (upd H a (.dK (mergeK kvs more))) s' → Q .none s') : wpAny (model X.prog X.w) A (call (.builtin "dict.update") [.ref a, .ref b]) Q E s := by
  have ⟨_, na, va, ra, da⟩ := dk_of I.hok ea
  have ⟨_, nb, vb, rb, db⟩ := dk_of I.hok eb
  have room : va.length + vb.length ≤ sizeLine := by rw [← ra.length, ← rb.length]; exact hz
  exact call_meetsIn PySem.F.slot_dict_update da.typeIs PySem.F.entry_dict_update (PySem.F.args_dict_update_2 _ _) (meets_dict_update (mixKind X.prog X.w) a b ne nb) ⟨va, vb, da, db, room, fun h' dd _ hs =>
    h _ (d_write I (by rw [ea]; trivial) hs (let ⟨q, _, _, hq, _⟩ := dd; ⟨q, hq⟩) (dk_new (Nat.le_trans (length_mergeK more kvs) hz) na (KV.merge rb ra) dd))⟩
theorem pe_dupd {o e : Expr} {apos cpos : Pos} {td ty : TE} (ho : PE X o td) (he : PE X e ty) (m : M1 X o "update" apos e cpos) : PE X (.Call (.Attribute o "update" apos) [e] [] cpos) (tDUpd td ty) := ⟨fun pins s σ H Q I h =>
  wpAny_Call_method m.base m.few m.line PySem.F.plainAttrs_dict PySem.F.slot_dict_update PySem.F.type_dict_update (thn (ho.run pins s σ H _ I h) fun u s1 ⟨x, H1, I1, rx, a, ex, d, q1⟩ => by
    have eu : u = Value.ref a := by subst ex; exact rx
    subst ex eu
    have ⟨t1, t2, _⟩ := isD_at I1 d
    refine ⟨t1, t2, ?_⟩
    rw [m.trees]
    exact Calls.callWith_builtin rfl (Calls.evalArgs_plain (Calls.spliced_cons (thn (he.run pins s1 σ H1 _ I1 q1) fun v s2 ⟨y, H2, I2, ry, b, kvs, more, ey, ne, ea, eb, hz, q2⟩ => Calls.spliced_nil (by
      subst ey
      cases ry
      exact d_merge I2 ea eb ne hz fun s3 I3 => ⟨.non, _, I3, rfl, q2⟩)))))⟩
end
def dUpd (i : Nat) (f : DE) : DS := fun env => match env[i]? with
  | some (some (.oK kvs)) => (f env).bind fun r => match r with
    | .st (.fz (.dK more)) => if kvs.length + more.length ≤ BIG then .ok (.nx (env.set i (some (.oK (mergeF kvs more))))) else .no
    | _ => .no
  | _ => .no
section
variable {X : Cx} {W : WX} {pos pos' apos cpos : Pos} {e : Expr} {f : DE} {x : Str}
theorem js_upd (i : Nat) (he : JE X W e f) (m : M1 X (.Name x pos') "update" apos e cpos) (hN : X.N[i]? = some x := by rfl) (hv : Vis X.env.scope x := by first | exact Or.inl rfl | exact Or.inr (Or.inl rfl) | exact Or.inr (Or.inr rfl))
    (hd : (x == ("__debug__" : Str)) = false := by decide) (hcd : (x == ("__classdict__" : Str)) = false := by decide)
    (hs : swapsWith (.Call (.Attribute (.Name x pos') "update" apos) [e] [] cpos) none pos.line X.env = pure false := by rfl) :
    JS X W (.Expr (.Call (.Attribute (.Name x pos') "update" apos) [e] [] cpos) pos) (dUpd i f) := by
  refine PS.imp (ps_expr (pe_dupd (pe_var hN hv hd hcd) he m) hs) fun D σ H ⟨G, Z, env, T, hT, r, p⟩ => ?_
  unfold dUpd at p
  split at p
  case h_2 => exact p.elim
  case h_1 kvs ei =>
    have ⟨F, C1, C2, r0⟩ := r
    obtain ⟨v, A, Lr, sv, own, pm, _, _⟩ := r0.ev.repl ei
    obtain ⟨a, ws, rfl, dd, eA⟩ := own
    have ha : H a = some (.dK ws) := r0.gd.hp (a, .dK ws) (List.mem_append_left _ (pm.mem_iff.mpr (List.mem_append_left _ (eA ▸ List.mem_cons_self))))
    refine ⟨_, sv, a, rfl, .inl ⟨ws, .inl ha⟩, tE.bindS r p fun rv y H1 _ s1 r1 p1 => ?_⟩
    split at p1
    case h_2 => exact p1.elim
    case h_1 more _ =>
      split at p1
      case isFalse => exact p1.elim
      case isTrue hz =>
        obtain ⟨F1, D1, D2, r1⟩ := r1
        obtain ⟨v2, L, B, j1, j2, j3, j4, j5⟩ := r1.write hT ei
        rw [sv] at j1
        obtain rfl := Option.some.inj (Option.some.inj j1)
        obtain ⟨a2, ws2, e2, dd2, eL⟩ := j2
        cases e2
        obtain ⟨⟨b, us, rfl, fb, db⟩, hB⟩ := j3
        have h1a : H1 a = some (.dK ws2) := j4 _ (eL ▸ List.mem_cons_self)
        have fa : F1 a = none := by
          have ⟨v3, A3, L3, k1, k2, k3, _, _⟩ := r1.ev.repl ei
          rw [sv] at k1
          obtain rfl := Option.some.inj (Option.some.inj k1)
          obtain ⟨a3, ws3, e3, _, eA3⟩ := k2
          cases e3
          exact r1.gd.fr (a, .dK ws3) (List.mem_append_left _ (k3.mem_iff.mpr (List.mem_append_left _ (eA3 ▸ List.mem_cons_self))))
        have ne : a ≠ b := fun e => by
          rw [← e, fa] at fb
          cases fb
        refine ⟨b, ws2, us, rfl, ne, h1a, r1.fh _ _ fb, by rw [dd2.length, db.length, big_eq]; exact hz, p1 σ _ ?_⟩
        obtain ⟨_, _, r5⟩ := j5 a (.dK ws2) (.dK (mergeK ws2 us)) (.oK (mergeF kvs more)) (by
          rw [eL, hB]
          exact ⟨[], [], _, .refl _, ⟨a, _, rfl, db.merge dd2, rfl⟩, .refl _⟩)
        exact r5.r
end
/-! ### dict(zip(a, b)) of two tuples -/
section
variable {prog : Program} {w : World} {A : Around} {E : Value → Shared → Prop} {s : Shared} {z TI TO i1 i2 T : Addr} {fp1 fp2 : List Addr} {n1 n2 i : Nat} {P1 P2 : Nat → Value → Prop} {St1 St2 : Nat → Heap → Prop} {f : Bool} {oT : Obj}
/-- next of a zip whose pair is out: a new pair -/
theorem zipOut_item {Q : Value → Shared → Prop} (S : ZipSep2 z TI TO i1 i2 fp1 fp2) (D1 : Draws prog w A i1 fp1 n1 P1 St1) (D2 : Draws prog w A i2 fp2 n2 P2 St2) (hz : IsZipHeld s.heap z TI TO T f) (hT : s.heap.get? T = some oT)
    (hTI : IsTupOf2 s.heap TI (.ref i1) (.ref i2)) (st1 : St1 i s.heap) (st2 : St2 i s.heap) (l1 : i < n1) (l2 : i < n2)
    (hQ : ∀ x y h' tk q, P1 i x → P2 i y → IsZipHeld h' z TI TO T true → St1 (i + 1) h' → St2 (i + 1) h' → IsTupOf2 h' q x y → (∀ c o, c ≠ z → c ≠ i1 → c ≠ i2 → s.heap.get? c = some o → h'.get? c = some o) → Q (.ref q) { s with heap := h', toks := tk }) :
    wpAny (model prog w) A (Builtin.«zip.__next__» ⟨[.ref z], []⟩) (fun fin s' => ∃ v, fin = .done (.ret v) ∧ Q v s') E s := by
  obtain ⟨hp, g, d, tk0, os⟩ := s
  show wpAny _ _ (field (.ref z) 2 >>= _) _ _ _; refine wpAny_bind (wpAny_field hz rfl (x := .bool false) rfl ?_)
  show wpAny _ _ (field (.ref z) 3 >>= _) _ _ _; refine wpAny_bind (wpAny_field hz rfl (x := .ref TI) rfl (wpAny_bind (wpAny_seqItems hTI rfl ?_)))
  show wpAny _ _ (Builtin.SmallTypes.ownedTupleIsFree (.ref z) >>= _) _ _ _; refine wpAny_bind (wpAny_tupleHeld_zip hz hT fun h₁ z₁ k₁ => ?_)
  simp only [Bool.false_eq_true, if_false]; refine wpAny_bind ?_
  rw [← Array.forIn_toList]; simp only [List.forIn_cons, List.forIn_nil]; refine wpAny_bind (wpAny_bind (wpAny_holding ?_))
  show wpAny _ _ (Builtin.SmallTypes.nextOf (.ref i1) >>= _) _ _ _
  refine wpAny_bind (D1.item i _ _ _ l1 (D1.over st1 k₁ S.zf1) fun x h₂ t₂ y₁ u₁ k₂ => wpAny_pure (wpAny_pure (wpAny_bind (wpAny_bind (wpAny_holding ?_)))))
  show wpAny _ _ (Builtin.SmallTypes.nextOf (.ref i2) >>= _) _ _ _
  refine wpAny_bind (D2.item i _ _ _ l2 (D2.over (D2.over st2 k₁ S.zf2) k₂ S.sep1_2) fun y h₃ t₃ y₂ u₂ k₃ => wpAny_pure (wpAny_pure (wpAny_pure ?_)))
  show wpAny _ _ (newTuple [x, y] >>= _) _ _ _; refine wpAny_bind (wpAny_newTuple (wpAny_pure ⟨_, rfl, ?_⟩))
  have up : ∀ c o, h₃.get? c = some o → (h₃.push { cls := .type "tuple", data := .seq #[x, y] }).get? c = some o := fun c o e => Heap.get?_push_of_some _ e
  have far : ∀ c o, c ≠ z → c ≠ i1 → c ≠ i2 → hp.get? c = some o → h₃.get? c = some o := fun c o a b c' e => k₃.extBut _ _ c' (k₂.extBut _ _ b (k₁.extBut _ _ a e))
  exact hQ x y _ _ _ y₁ y₂ (up _ _ (k₃.extBut _ _ S.zi2 (k₂.extBut _ _ S.zi1 z₁))) (D1.frame _ _ _ (D1.over u₁ k₃ S.sep2_1) fun b _ o e => up b o e) (D2.frame _ _ _ u₂ fun b _ o e => up b o e) (Heap.get?_push_size _ rfl) fun c o a b c' e => up c o (far c o a b c' e)
theorem zipOut_end {Q : Fin → Shared → Prop} (S : ZipSep2 z TI TO i1 i2 fp1 fp2) (D1 : Draws prog w A i1 fp1 n1 P1 St1) (hz : IsZipHeld s.heap z TI TO T f) (hT : s.heap.get? T = some oT)
    (hTI : IsTupOf2 s.heap TI (.ref i1) (.ref i2)) (st1 : St1 n1 s.heap)
    (hE : ∀ h' tk e, (∀ c o, c ≠ z → c ≠ i1 → s.heap.get? c = some o → h'.get? c = some o) → (∃ o, h'.get? e = some o ∧ o.cls = .type "StopIteration") → E (.ref e) { s with heap := h', toks := tk }) :
    wpAny (model prog w) A (Builtin.«zip.__next__» ⟨[.ref z], []⟩) Q E s := by
  obtain ⟨hp, g, d, tk0, os⟩ := s
  show wpAny _ _ (field (.ref z) 2 >>= _) _ _ _; refine wpAny_bind (wpAny_field hz rfl (x := .bool false) rfl ?_)
  show wpAny _ _ (field (.ref z) 3 >>= _) _ _ _; refine wpAny_bind (wpAny_field hz rfl (x := .ref TI) rfl (wpAny_bind (wpAny_seqItems hTI rfl ?_)))
  show wpAny _ _ (Builtin.SmallTypes.ownedTupleIsFree (.ref z) >>= _) _ _ _; refine wpAny_bind (wpAny_tupleHeld_zip hz hT fun h₁ z₁ k₁ => ?_)
  simp only [Bool.false_eq_true, if_false]; refine wpAny_bind ?_
  rw [← Array.forIn_toList]; simp only [List.forIn_cons, List.forIn_nil]; refine wpAny_bind (wpAny_bind (wpAny_holding ?_))
  show wpAny _ _ (Builtin.SmallTypes.nextOf (.ref i1) >>= _) _ _ _
  exact wpAny_bind (D1.done _ _ _ (D1.over st1 k₁ S.zf1) fun h₂ e k₂ he => hE h₂ _ e (fun c o a b x => k₂ _ _ b (k₁.extBut _ _ a x)) he)
theorem nextOut_item {Q : Option Value → Shared → Prop} (S : ZipSep2 z TI TO i1 i2 fp1 fp2) (D1 : Draws prog w A.in1 i1 fp1 n1 P1 St1) (D2 : Draws prog w A.in1 i2 fp2 n2 P2 St2) (hz : IsZipHeld s.heap z TI TO T f) (hT : s.heap.get? T = some oT)
    (hTI : IsTupOf2 s.heap TI (.ref i1) (.ref i2)) (st1 : St1 i s.heap) (st2 : St2 i s.heap) (l1 : i < n1) (l2 : i < n2)
    (hQ : ∀ x y h' tk q, P1 i x → P2 i y → IsZipHeld h' z TI TO T true → St1 (i + 1) h' → St2 (i + 1) h' → IsTupOf2 h' q x y → (∀ c o, c ≠ z → c ≠ i1 → c ≠ i2 → s.heap.get? c = some o → h'.get? c = some o) → Q (some (.ref q)) { s with heap := h', toks := tk }) :
    wpAny (model prog w) A (pyNext (.ref z)) Q E s := by
  have ty : s.TypeIs (.ref z) "zip" := ⟨_, hz, rfl⟩
  unfold pyNext
  exact wpAny_bind (wpAny_attempt (wpAny_callSpecial?_slot (name := Str.ofString "__next__") ty PySem.F.slot_zip_next (wpAny_call_entry PySem.F.slot_zip_next ty PySem.F.entry_zip_next (zipOut_item S D1 D2 hz hT hTI st1 st2 l1 l2 fun x y h' tk q a b c d e u v => wpAny_pure (hQ x y h' tk q a b c d e u v)) (PySem.F.args_zip_next_1 _))))
theorem nextOut_end {Q : Option Value → Shared → Prop} (S : ZipSep2 z TI TO i1 i2 fp1 fp2) (D1 : Draws prog w A.in1 i1 fp1 n1 P1 St1) (hz : IsZipHeld s.heap z TI TO T f) (hT : s.heap.get? T = some oT)
    (hTI : IsTupOf2 s.heap TI (.ref i1) (.ref i2)) (st1 : St1 n1 s.heap)
    (hQ : ∀ h' tk, (∀ c o, c ≠ z → c ≠ i1 → s.heap.get? c = some o → h'.get? c = some o) → Q none { s with heap := h', toks := tk }) : wpAny (model prog w) A (pyNext (.ref z)) Q E s := by
  have ty : s.TypeIs (.ref z) "zip" := ⟨_, hz, rfl⟩
  unfold pyNext
  refine wpAny_bind (wpAny_attempt (wpAny_callSpecial?_slot (name := Str.ofString "__next__") ty PySem.F.slot_zip_next (wpAny_call_entry PySem.F.slot_zip_next ty PySem.F.entry_zip_next (zipOut_end S D1 hz hT hTI st1 fun h' tk e hk he => ?_) (PySem.F.args_zip_next_1 _))))
  have ⟨o, ho, hc⟩ := he
  exact wpAny_bind (wpAny_isInstance (T := "StopIteration") (b := true) ⟨o, ho, hc⟩ isSubtype_stop (wpAny_pure (hQ _ _ hk)))
/-- zip over two iterators of as many turns, as what a dict is made of -/
theorem argD {n : Nat} (S : ZipSep2 z TI TO i1 i2 fp1 fp2) (D1 : ∀ A : Around, A.handled = none → Draws prog w A i1 fp1 n P1 St1) (D2 : ∀ A : Around, A.handled = none → Draws prog w A i2 fp2 n P2 St2)
    (F1 : ∀ i h h', St1 i h → (∀ b ∈ fp1, ∀ o, h.get? b = some o → h'.get? b = some o) → St1 i h') (F2 : ∀ i h h', St2 i h → (∀ b ∈ fp2, ∀ o, h.get? b = some o → h'.get? b = some o) → St2 i h')
    (L1 : ∀ h, St1 0 h → ∀ b ∈ fp1, ∃ o, h.get? b = some o) (L2 : ∀ h, St2 0 h → ∀ b ∈ fp2, ∃ o, h.get? b = some o) :
    PairArg prog w "zip" z (z :: TI :: TO :: (fp1 ++ fp2)) [z, TO, i1, i2] n (fun i k v => P1 i k ∧ P2 i v)
      (fun h => IsZip h z TI TO .none ∧ IsTupOf2 h TI (.ref i1) (.ref i2) ∧ (∃ a b, IsTupOf2 h TO a b) ∧ St1 0 h ∧ St2 0 h) where
  type := fun s ok => ⟨_, ok.1, rfl⟩
  notDict := by decide
  keep := fun h h' ⟨a, b, ⟨x, y, c⟩, d, e⟩ k => ⟨k _ _ a, k _ _ b, ⟨x, y, k _ _ c⟩, F1 _ _ _ d fun c _ o q => k c o q, F2 _ _ _ e fun c _ o q => k c o q⟩
  there := fun h ⟨a, b, ⟨x, y, c⟩, d, e⟩ q hq => by
    rcases List.mem_cons.mp hq with e1 | hq
    · exact ⟨_, e1 ▸ a⟩
    rcases List.mem_cons.mp hq with e1 | hq
    · exact ⟨_, e1 ▸ b⟩
    rcases List.mem_cons.mp hq with e1 | hq
    · exact ⟨_, e1 ▸ c⟩
    exact (List.mem_append.mp hq).elim (L1 h d q) (L2 h e q)
  sub := fun b hb => by
    have m1 := S.mem1
    have m2 := S.mem2
    simp only [List.mem_cons, List.not_mem_nil, or_false] at hb
    simp only [List.mem_cons, List.mem_append]
    rcases hb with e | e | e | e
    · exact .inl e
    · exact .inr (.inr (.inl e))
    · exact .inr (.inr (.inr (.inl (e ▸ m1))))
    · exact .inr (.inr (.inr (.inr (e ▸ m2))))
  noKeys := fun A s Q E hA ok h => getAttrOr_miss_zip ok.1 rfl rfl rfl zip_no_keys (by decide +kernel) hA h
  iter := fun A s d Q E hA ⟨hz, hTI, ⟨a, b, hTO⟩, st1, st2⟩ hd hdf h => by
    have dn : d ≠ z ∧ d ≠ TI ∧ d ≠ TO ∧ d ∉ fp1 ∧ d ∉ fp2 := by simpa [not_or] using hdf
    obtain ⟨dz, dTI, dTO, d1, d2⟩ := dn
    have di1 : d ≠ i1 := fun e => d1 (e ▸ S.mem1)
    have di2 : d ≠ i2 := fun e => d2 (e ▸ S.mem2)
    let St : Nat → Heap → Prop := fun i h => IsTupOf2 h TI (.ref i1) (.ref i2) ∧ St1 i h ∧ St2 i h ∧ ((IsZip h z TI TO .none ∧ ∃ a b, IsTupOf2 h TO a b) ∨ ∃ T f oT, IsZipHeld h z TI TO T f ∧ h.get? T = some oT ∧ T ≠ z ∧ T ≠ i1 ∧ T ≠ i2 ∧ T ≠ d)
    refine wpAny_pyIter_zip hz (h z [z, TO, i1, i2] St s.heap s.toks ⟨?_, ?_, ?_, ?_⟩ ⟨hTI, st1, st2, .inl ⟨hz, a, b, hTO⟩⟩ (fun _ _ e => e) fun b hb => .inl hb)
    · simp [dz, dTO, di1, di2]
    · rintro i h h' ⟨q1, q2, q3, q4⟩ k
      refine ⟨k _ _ dTI.symm q1, F1 _ _ _ q2 fun c hc o e => k c o (fun z => d1 (z ▸ hc)) e, F2 _ _ _ q3 fun c hc o e => k c o (fun z => d2 (z ▸ hc)) e, q4.imp (fun ⟨u, x, y, v⟩ => ⟨k _ _ dz.symm u, x, y, k _ _ dTO.symm v⟩) fun ⟨T, f, oT, u, v, n1, n2, n3, n4⟩ => ⟨T, f, oT, k _ _ dz.symm u, k _ _ n4 v, n1, n2, n3, n4⟩⟩
    · rintro i s1 Q1 E1 hi ⟨q1, q2, q3, q4⟩ hds hQ
      have calm1 : A.in1.handled = none := hA
      rcases q4 with ⟨u, x, y, v⟩ | ⟨T, f, oT, u, v, n1, n2, n3, n4⟩
      · have old : ∀ c o, s1.heap.get? c = some o → s1.heap.objs.size ≠ c := fun c o e => Nat.ne_of_gt (Heap.lt_size e)
        have ⟨o1, e1⟩ := (D1 A hA).live _ _ q2
        have ⟨o2, e2⟩ := (D2 A hA).live _ _ q3
        refine wpAny_pyNext_zipD2_item S (D1 _ calm1) (D2 _ calm1) u q1 v q2 q3 hi hi fun k0 v0 h' tk y1 y2 z1 t1 g1 g2 p1 _ k => ?_
        refine hQ s1.heap.objs.size k0 v0 h' tk ⟨y1, y2⟩ (.inl ⟨_, p1, rfl, _, rfl⟩) ⟨k _ _ S.TIz S.TITO S.TIi1 S.TIi2 q1, g1, g2, .inr ⟨_, false, _, z1, p1, old _ _ u, old _ _ e1, old _ _ e2, Nat.ne_of_gt hds⟩⟩ fun c o hc e => ?_
        have hn : c ≠ z ∧ c ≠ TO ∧ c ≠ i1 ∧ c ≠ i2 := by simpa [not_or] using hc
        exact k c o hn.1 hn.2.1 hn.2.2.1 hn.2.2.2 e
      · refine nextOut_item S (D1 _ calm1) (D2 _ calm1) u v q1 q2 q3 hi hi fun k0 v0 h' tk q y1 y2 z1 g1 g2 p1 k => ?_
        refine hQ q k0 v0 h' tk ⟨y1, y2⟩ (.inl ⟨_, p1, rfl, _, rfl⟩) ⟨k _ _ S.TIz S.TIi1 S.TIi2 q1, g1, g2, .inr ⟨T, true, oT, z1, k _ _ n1 n2 n3 v, n1, n2, n3, n4⟩⟩ fun c o hc e => ?_
        have hn : c ≠ z ∧ c ≠ TO ∧ c ≠ i1 ∧ c ≠ i2 := by simpa [not_or] using hc
        exact k c o hn.1 hn.2.2.1 hn.2.2.2 e
    · rintro s1 Q1 E1 ⟨q1, q2, q3, q4⟩ hQ
      have calm1 : A.in1.handled = none := hA
      rcases q4 with ⟨u, x, y, v⟩ | ⟨T, f, oT, u, v, n1, n2, n3, n4⟩
      · refine wpAny_pyNext_zipD2_end S (D1 _ calm1) (D2 _ calm1) u q1 v q2 q3 (Nat.le_refl _) (Nat.le_refl _) (.inl rfl) fun h' tk k => hQ h' tk fun c o hc e => ?_
        have hn : c ≠ z ∧ c ≠ TO ∧ c ≠ i1 ∧ c ≠ i2 := by simpa [not_or] using hc
        exact k c o hn.1 hn.2.1 hn.2.2.1 hn.2.2.2 e
      · refine nextOut_end S (D1 _ calm1) u v q1 q2 fun h' tk k => hQ h' tk fun c o hc e => ?_
        have hn : c ≠ z ∧ c ≠ TO ∧ c ≠ i1 ∧ c ≠ i2 := by simpa [not_or] using hc
        exact k c o hn.1 hn.2.2.1 e
end
def tDictZip (K : PySem.W.Frag) (ta : TA) : TE := fun σ H Q => ta σ H fun vs H1 => ∃ (a b : Addr) (ks : List Key) (xs : List V), vs = [.ref a, .ref b] ∧ SqT K H1 a (ks.map kV) ∧ SqT K H1 b xs ∧ ks.length = xs.length ∧ ∀ p, H1 p = none → Q (.ref p) (upd H1 p (.dK (mergeK [] (ks.zip xs))))
theorem keyVals {P : Program} {w : World} : ∀ {ks : List Key} {us : List Value}, Vals (ks.map kV) us → us.length = ks.length ∧ ∀ (i : Nat) (u : Value), us[i]? = some u → ∃ k, ks[i]? = some k ∧ (mixKind P w).is k u = true
  | [], _, .nil => ⟨rfl, fun i u h => by simp at h⟩
  | k :: ks, _, .cons r t => by
    obtain ⟨h1, h2⟩ := keyVals (P := P) (w := w) t
    refine ⟨by simp [h1], fun i u h => ?_⟩
    cases i with
    | zero =>
      cases h
      exact ⟨k, rfl, kV_is r⟩
    | succ i => exact h2 i u (by simpa using h)
theorem kv_zip : ∀ {ks : List Key} {xs : List V} {us : List Value}, Vals xs us → ks.length = xs.length → KV (ks.zip xs) (ks.zip us)
  | [], [], _, .nil, _ => .nil
  | _ :: _, [], _, _, h => by simp at h
  | [], _ :: _, _, _, h => by simp at h
  | k :: ks, x :: xs, _, .cons r t, h => .cons ⟨rfl, r⟩ (kv_zip t (by simpa using h))
section
variable {X : Cx} {e e2 : Expr} {ta : TA} {p p2 q pos : Pos}
theorem pe_dictZip (hc : X.calm = true) (hg : Gl X "dict") (hm : X.mg "dict" = none) (hg2 : Gl X "zip") (hm2 : X.mg "zip" = none) (ha : PA X [e, e2] ta)
    (na : starEach [.Call (.Name "zip" p2) [e, e2] [] q] X.env = (false, eval (.Call (.Name "zip" p2) [e, e2] [] q) X.env) :: starEach [] X.env) (hs : starEach [e, e2] X.env = (false, eval e X.env) :: starEach [e2] X.env) (hpl : (backTo q (starEach [e2] X.env)).any (·.1) = false) :
    PE X (.Call (.Name "dict" p) [.Call (.Name "zip" p2) [e, e2] [] q] [] pos) (tDictZip X.K ta) := by
  refine ⟨fun pins s σ H Q I h => Call_ (ld_blt I hg hm boot_dict (PyProof.Rows.callWith_type1 (PyProof.Rows.args_cons (Call_ (ld_blt I hg2 hm2 PyProof.Rows.boot_zip (PyProof.Rows.callWith_type1 (thn (ha.run q pins s σ H _ I h) fun us s1 ⟨vs, H1, I1, r1, q1⟩ => ?_) hs hpl))) na) na rfl))⟩
  obtain ⟨a, b, ks, xs, rfl, hk, hx, hl, q2⟩ := q1
  cases r1 with
  | cons ra rr =>
    cases rr with
    | cons rb rr =>
      cases rr
      cases ra
      cases rb
      have ⟨As, va, la, za⟩ := I1.tuple hk
      have ⟨Bs, vb, lb, zb⟩ := I1.tuple hx
      have ⟨oa, ea, _⟩ := id la
      have ⟨ob, eb, _⟩ := id lb
      refine call_zipT (show s1.heap.IsTuple a As.toArray from la) (show s1.heap.IsTuple b Bs.toArray from lb) fun h' hz hTI hTO t1 t2 h5 keep => PyProof.Rows.args_nil ?_
      have calm := I1.ok.hd hc
      have D := PySem.W.ktu_apart s1.heap.objs.size a b (Heap.lt_size ea) (Heap.lt_size eb)
      have la' : h'.IsTuple a As.toArray := (show s1.heap.IsTuple a As.toArray from la).at fun o e => keep _ o e
      have lb' : h'.IsTuple b Bs.toArray := (show s1.heap.IsTuple b Bs.toArray from lb).at fun o e => keep _ o e
      have nk : As.length = ks.length := (keyVals (P := X.prog) (w := X.w) va).1
      have nb : Bs.length = xs.length := vb.length.symm
      have ab : As.toArray.size = Bs.toArray.size := by simp [nk, nb, hl]
      have S := sepM D
      have args := argD (prog := X.prog) (w := X.w) S (fun A hA => Draws.tuple hA _ a D.l1i1 As.toArray) (fun A hA => ab ▸ Draws.tuple hA _ b D.l2i2 Bs.toArray)
        (fun i g g' st k => ⟨st.1.at fun o e => k _ (by simp) o e, st.2.at fun o e => k _ (by simp) o e⟩) (fun i g g' st k => ⟨st.1.at fun o e => k _ (by simp) o e, st.2.at fun o e => k _ (by simp) o e⟩)
        (fun g ⟨⟨o, e, _⟩, ⟨o', e', _⟩⟩ c hc => by
          rcases List.mem_cons.mp hc with h | h
          · exact ⟨o, h ▸ e⟩
          · exact ⟨o', (List.mem_singleton.mp h) ▸ e'⟩)
        (fun g ⟨⟨o, e, _⟩, ⟨o', e', _⟩⟩ c hc => by
          rcases List.mem_cons.mp hc with h | h
          · exact ⟨o, h ▸ e⟩
          · exact ⟨o', (List.mem_singleton.mp h) ▸ e'⟩)
      refine PySem.call_dict_pairs (knd := mixKind X.prog X.w) (kvs := ks.zip Bs) args calm ⟨hz, hTI, ⟨_, _, hTO⟩, ⟨t1, la'⟩, t2, lb'⟩ ⟨?_, ?_⟩ ?_ fun h'' tk dd k => ?_
      · simp [nk, nb, hl]
      · rintro i key v ⟨hi1, hi2⟩
        obtain ⟨k, e1, e2⟩ := (keyVals (P := X.prog) (w := X.w) va).2 i key (by simpa using hi1)
        exact ⟨k, List.getElem?_zip_eq_some.mpr ⟨e1, by simpa using hi2⟩, e2⟩
      · have := za
        rw [List.length_map] at this
        show As.toArray.size ≤ sizeLine
        rw [List.size_toArray, nk]
        exact this
      · have le : s1.heap.objs.size ≤ h'.objs.size := by rw [h5]; exact Nat.le_add_right _ _
        have nsys : (h'.objs.size == sysModules) = false := beq_eq_false_iff_ne.mpr (Nat.ne_of_gt (Nat.lt_of_lt_of_le I1.big le))
        have few : (mergeK [] (ks.zip xs)).length ≤ sizeLine := by
          refine Nat.le_trans (length_mergeK _ _) ?_
          rw [List.length_nil, Nat.zero_add, List.length_zip, ← hl, Nat.min_self]
          have := za
          rw [List.length_map] at this
          exact this
        refine ⟨.ref h'.objs.size, upd H1 h'.objs.size (.dK (mergeK [] (ks.zip xs))), I1.laid (t' := tk) (fun b o e => k b o (fun hb => ?_) (keep _ _ e)) le (show ObjOk X.prog X.w _ _ _ (.dK (mergeK [] (ks.zip xs))) from ⟨few, nsys, merged [] (ks.zip Bs), KV.merge (kv_zip vb hl) .nil, dd⟩), rfl, q2 _ (I1.hok.fresh le)⟩
        have := Heap.lt_size e
        simp only [List.mem_cons, List.not_mem_nil, or_false] at hb
        rcases hb with q | q | q | q <;> rw [q] at this
        · exact Nat.not_lt.mpr (Nat.le_add_right _ _) this
        · exact Nat.not_lt.mpr (Nat.le_add_right _ _) this
        · exact Nat.lt_irrefl _ this
        · exact Nat.not_lt.mpr (Nat.le_add_right _ _) this
end
def kys? : List FV → Option (List Key)
  | [] => some []
  | x :: xs => match x.key?, kys? xs with
    | some k, some ks => some (k :: ks)
    | _, _ => none
def dDictZip (g : VEnv → Ans (List Rv)) : DE := fun env => (g env).bind fun rs => match rs with
  | [.st (.fz x), .st (.fz y)] => match x.tup?, y.tup? with
    | some xs, some ys => match kys? xs with
      | some ks => if ks.length = ys.length then .ok (.st (.oK (mergeF [] (ks.zip ys)))) else .no
      | none => .no
    | _, _ => .no
  | _ => .no
theorem keys_den {M : Str → Option Value} {F : Hp} : ∀ {xs : List FV} {vs : List V} {ks : List Key}, kys? xs = some ks → FDenL M F xs vs → vs = ks.map kV
  | [], _, _, e, d => by
    cases e
    exact d
  | x :: xs, _, ks, e, ⟨v, ws, ev, dx, dr⟩ => by
    subst ev
    unfold kys? at e
    split at e
    · rename_i k r e1 e2
      cases e
      rw [keys_den e2 dr, dx.key e1]
      rfl
    · cases e
theorem fdk_zip {M : Str → Option Value} {F : Hp} : ∀ {ks : List Key} {ys : List FV} {vs : List V}, FDenL M F ys vs → ks.length = ys.length → FDenK M F (ks.zip ys) (ks.zip vs)
  | [], [], _, d, _ => by rw [show _ = [] from d]; exact rfl
  | _ :: _, [], _, _, h => by simp at h
  | [], _ :: _, _, _, h => by simp at h
  | k :: ks, y :: ys, _, ⟨v, ws, e, dy, dr⟩, h => by
    subst e
    exact ⟨v, _, rfl, dy, fdk_zip dr (by simpa using h)⟩
section
variable {X : Cx} {W : WX} {e e2 : Expr} {g : VEnv → Ans (List Rv)} {p p2 q pos : Pos}
theorem je_dictZip (hc : X.calm = true) (ha : JA X W [e, e2] g) (hm : X.mg "dict" = none) (hm2 : X.mg "zip" = none) (hg : Gl X "dict" := by rfl) (hg2 : Gl X "zip" := by rfl)
    (na : starEach [.Call (.Name "zip" p2) [e, e2] [] q] X.env = (false, eval (.Call (.Name "zip" p2) [e, e2] [] q) X.env) :: starEach [] X.env := by rfl) (hs : starEach [e, e2] X.env = (false, eval e X.env) :: starEach [e2] X.env := by rfl) (hpl : (backTo q (starEach [e2] X.env)).any (·.1) = false := by rfl) :
    JE X W (.Call (.Name "dict" p) [.Call (.Name "zip" p2) [e, e2] [] q] [] pos) (dDictZip g) := by
  refine PE.imp (pe_dictZip hc hg hm hg2 hm2 ha na hs hpl) fun σ H Q ⟨G, Z, env, T, r, q⟩ => ?_
  refine tA.bind r Sb.refl q fun rs vs H1 _ hl s1 ⟨F, C1, C2, r1⟩ p1 => ?_
  split at p1
  case h_2 => exact p1.elim
  case h_1 x y _ _ =>
    split at p1
    case h_2 => exact p1.elim
    case h_1 xs ys ex ey =>
      split at p1
      case h_2 => exact p1.elim
      case h_1 ks ek =>
        split at p1
        case isFalse => exact p1.elim
        case isTrue hn =>
          match vs, hl with
          | [v1, v2], _ =>
            obtain ⟨a, us, rfl, qa, da⟩ := FDen.tupT (K := X.K) (r1.bor (p := (v1, .st (.fz x))) (by simp)).fz ex
            obtain ⟨b, ws, rfl, qb, db⟩ := FDen.tupT (K := X.K) (r1.bor (p := (v2, .st (.fz y))) (by simp)).fz ey
            have eu := keys_den ek da
            subst eu
            refine ⟨a, b, ks, ws, rfl, SqT.sameS r1.fh qa, SqT.sameS r1.fh qb, by rw [hn, db.length], fun pp hp => ?_⟩
            exact p1 _ _ (same_upd hp) ((r1.new (New.dK r1.fh hp (FDenK.merge (kvs := []) (vs := []) (fdk_zip db hn) rfl))).sb sb_app.both)
end
end J
set_option maxHeartbeats 4000000
namespace J
open PySem PySem.Spec PyProof.Rows L2
/-! ### for k, v in x.items(): while it runs the dict is locked, so nothing else may lead to a dict -/
mutual
def FV.noD : FV → Bool
  | .tup xs => FV.noDL xs
  | .tuz xs => FV.noDL xs
  | .lst xs => FV.noDL xs
  | .dK _ => false
  | .dT kvs => FV.noDT kvs
  | .ins _ fs => FV.noDA fs
  | _ => true
def FV.noDL : List FV → Bool
  | [] => true
  | x :: xs => x.noD && FV.noDL xs
def FV.noDT : List (List Key × FV) → Bool
  | [] => true
  | (_, x) :: xs => x.noD && FV.noDT xs
def FV.noDA : List (Str × FV) → Bool
  | [] => true
  | (_, x) :: xs => x.noD && FV.noDA xs
end
def noDK : List (Key × FV) → Bool
  | [] => true
  | (_, x) :: xs => x.noD && noDK xs
mutual
def OV.noD : OV → Bool
  | .fz x => x.noD
  | .ol xs => FV.noDL xs
  | .oK kvs => J.noDK kvs
  | .oT kvs => FV.noDT kvs
  | .dl xs => OV.noDL xs
  | .dd kvs => OV.noDK kvs
  | .tp xs => OV.noDL xs
  | .ob _ fs => OV.noDA fs
  | .oN _ => true
def OV.noDL : List OV → Bool
  | [] => true
  | x :: xs => x.noD && OV.noDL xs
def OV.noDK : List (Key × OV) → Bool
  | [] => true
  | (_, x) :: xs => x.noD && OV.noDK xs
def OV.noDA : List (Str × OV) → Bool
  | [] => true
  | (_, x) :: xs => x.noD && OV.noDA xs
end
def noDE : VEnv → Bool
  | [] => true
  | none :: e => noDE e
  | some o :: e => o.noD && noDE e
section
variable {M : Str → Option Value} {F : Hp} {d : Addr} {u : HO}
theorem ne_d {ws : List (Key × V)} (hd : F d = some (.dK ws)) {a : Addr} {o : HO} (e : F a = some o) (n : ∀ ws, o ≠ .dK ws) : upd F d u a = some o := by
  rw [upd_ne fun z => by rw [z, hd] at e; cases e; exact n _ rfl]
  exact e
theorem KeyTs.lock {ws : List (Key × V)} (hd : F d = some (.dK ws)) {kb : List (NK × Addr)} (k : KeyTs F kb) : KeyTs (upd F d u) kb := fun p hp => let ⟨c, x, y⟩ := k p hp; ⟨c, ne_d hd x nofun, ne_d hd y nofun⟩
mutual
theorem FDen.lock {ws : List (Key × V)} (hd : F d = some (.dK ws)) : ∀ {x : FV} {v : V}, x.noD = true → FDen M F x v → FDen M (upd F d u) x v
  | .non, _, _, q => q
  | .bl _, _, _, q => q
  | .int _, _, _, q => q
  | .str _, _, _, q => q
  | .tup xs, _, n, ⟨a, vs, e, q, r⟩ => ⟨a, vs, e, ne_d hd q nofun, FDenL.lock hd n r⟩
  | .tuz xs, _, n, ⟨a, vs, o, e, q, q1, q2, r⟩ => ⟨a, vs, o, e, ne_d hd q nofun, q1, q2, FDenL.lock hd n r⟩
  | .lst xs, _, n, ⟨a, vs, e, q, r⟩ => ⟨a, vs, e, ne_d hd q nofun, FDenL.lock hd n r⟩
  | .dK _, _, n, _ => nomatch n
  | .dT kvs, _, n, ⟨a, vs, e, q, r⟩ => ⟨a, vs, e, ne_d hd q nofun, FDenT.lock hd n r⟩
  | .ins c fs, _, n, ⟨a, C, dx, vs, e, m, q, q2, r⟩ => ⟨a, C, dx, vs, e, m, ne_d hd q nofun, ne_d hd q2 nofun, FDenA.lock hd n r⟩
  | .exc c, _, _, ⟨a, C, e, m, q⟩ => ⟨a, C, e, m, ne_d hd q nofun⟩
  | .scr xs, _, _, ⟨a, e, q⟩ => ⟨a, e, q.elim (fun q => .inl (ne_d hd q nofun)) fun ⟨o, q⟩ => .inr ⟨o, ne_d hd q nofun⟩⟩
  | .dN ks, _, _, ⟨a, kb, e, q, n, k⟩ => ⟨a, kb, e, ne_d hd q nofun, n, k.lock hd⟩
theorem FDenL.lock {ws : List (Key × V)} (hd : F d = some (.dK ws)) : ∀ {xs : List FV} {vs : List V}, FV.noDL xs = true → FDenL M F xs vs → FDenL M (upd F d u) xs vs
  | [], _, _, q => q
  | _ :: _, _, n, ⟨v, us, e, q, r⟩ => by
    unfold FV.noDL at n
    rw [Bool.and_eq_true] at n
    exact ⟨v, us, e, FDen.lock hd n.1 q, FDenL.lock hd n.2 r⟩
theorem FDenT.lock {ws : List (Key × V)} (hd : F d = some (.dK ws)) : ∀ {xs : List (List Key × FV)} {vs : List (List Key × V)}, FV.noDT xs = true → FDenT M F xs vs → FDenT M (upd F d u) xs vs
  | [], _, _, q => q
  | (_, _) :: _, _, n, ⟨v, us, e, q, r⟩ => by
    unfold FV.noDT at n
    rw [Bool.and_eq_true] at n
    exact ⟨v, us, e, FDen.lock hd n.1 q, FDenT.lock hd n.2 r⟩
theorem FDenA.lock {ws : List (Key × V)} (hd : F d = some (.dK ws)) : ∀ {xs : List (Str × FV)} {vs : List (Str × V)}, FV.noDA xs = true → FDenA M F xs vs → FDenA M (upd F d u) xs vs
  | [], _, _, q => q
  | (_, _) :: _, _, n, ⟨v, us, e, q, r⟩ => by
    unfold FV.noDA at n
    rw [Bool.and_eq_true] at n
    exact ⟨v, us, e, FDen.lock hd n.1 q, FDenA.lock hd n.2 r⟩
end
theorem FDenK.lock {ws : List (Key × V)} (hd : F d = some (.dK ws)) : ∀ {xs : List (Key × FV)} {vs : List (Key × V)}, noDK xs = true → FDenK M F xs vs → FDenK M (upd F d u) xs vs
  | [], _, _, q => q
  | (_, _) :: _, _, n, ⟨v, us, e, q, r⟩ => by
    unfold noDK at n
    rw [Bool.and_eq_true] at n
    exact ⟨v, us, e, FDen.lock hd n.1 q, FDenK.lock hd n.2 r⟩
mutual
theorem Own.lock {ws : List (Key × V)} (hd : F d = some (.dK ws)) : ∀ {x : OV} {v : V} {L : Cells}, x.noD = true → Own M F x v L → Own M (upd F d u) x v L
  | .fz _, _, _, n, ⟨q, e⟩ => ⟨q.lock hd n, e⟩
  | .ol _, _, _, n, ⟨a, vs, e, r, q⟩ => ⟨a, vs, e, r.lock hd n, q⟩
  | .oK _, _, _, n, ⟨a, vs, e, r, q⟩ => ⟨a, vs, e, r.lock hd n, q⟩
  | .oT _, _, _, n, ⟨a, vs, e, r, q⟩ => ⟨a, vs, e, r.lock hd n, q⟩
  | .dl _, _, _, n, ⟨a, vs, L', e, r, q⟩ => ⟨a, vs, L', e, OwnL.lock hd n r, q⟩
  | .dd _, _, _, n, ⟨a, vs, L', e, r, q⟩ => ⟨a, vs, L', e, OwnK.lock hd n r, q⟩
  | .tp _, _, _, n, ⟨a, vs, e, q, r⟩ => ⟨a, vs, e, ne_d hd q nofun, OwnL.lock hd n r⟩
  | .ob _ _, _, _, n, ⟨a, C, dx, vs, L', e, m, q, r, q2⟩ => ⟨a, C, dx, vs, L', e, m, ne_d hd q nofun, OwnA.lock hd n r, q2⟩
  | .oN ks, _, _, _, ⟨a, kb, e, n, k, q⟩ => ⟨a, kb, e, n, k.lock hd, q⟩
theorem OwnL.lock {ws : List (Key × V)} (hd : F d = some (.dK ws)) : ∀ {xs : List OV} {vs : List V} {L : Cells}, OV.noDL xs = true → OwnL M F xs vs L → OwnL M (upd F d u) xs vs L
  | [], _, _, _, q => q
  | _ :: _, _, _, n, ⟨v, us, A, B, e, q, r, z⟩ => by
    unfold OV.noDL at n
    rw [Bool.and_eq_true] at n
    exact ⟨v, us, A, B, e, Own.lock hd n.1 q, OwnL.lock hd n.2 r, z⟩
theorem OwnK.lock {ws : List (Key × V)} (hd : F d = some (.dK ws)) : ∀ {xs : List (Key × OV)} {vs : List (Key × V)} {L : Cells}, OV.noDK xs = true → OwnK M F xs vs L → OwnK M (upd F d u) xs vs L
  | [], _, _, _, q => q
  | (_, _) :: _, _, _, n, ⟨v, us, A, B, e, q, r, z⟩ => by
    unfold OV.noDK at n
    rw [Bool.and_eq_true] at n
    exact ⟨v, us, A, B, e, Own.lock hd n.1 q, OwnK.lock hd n.2 r, z⟩
theorem OwnA.lock {ws : List (Key × V)} (hd : F d = some (.dK ws)) : ∀ {xs : List (Str × OV)} {vs : List (Str × V)} {L : Cells}, OV.noDA xs = true → OwnA M F xs vs L → OwnA M (upd F d u) xs vs L
  | [], _, _, _, q => q
  | (_, _) :: _, _, _, n, ⟨v, us, A, B, e, q, r, z⟩ => by
    unfold OV.noDA at n
    rw [Bool.and_eq_true] at n
    exact ⟨v, us, A, B, e, Own.lock hd n.1 q, OwnA.lock hd n.2 r, z⟩
end
theorem EnvOwn.lock {ws : List (Key × V)} (hd : F d = some (.dK ws)) {σ : Sl} {env : VEnv} {L : Cells} (h : EnvOwn M F σ env L) (n : noDE env = true) : EnvOwn M (upd F d u) σ env L := by
  induction h with
  | nil => exact .nil
  | skip _ ih => exact .skip (ih n)
  | cons q _ ih =>
    unfold noDE at n
    rw [Bool.and_eq_true] at n
    exact .cons (q.lock hd n.1) (ih n.2)
/-! nothing leads to a locked dict -/
def isLk : HO → Bool
  | .frz _ (.dK _) => true
  | _ => false
theorem ne_l {od : Obj} {ws : List (Key × V)} (hd : F d = some (.frz od (.dK ws))) {a : Addr} {o : HO} (e : F a = some o) (n : isLk o = false) : upd F d u a = some o := by
  rw [upd_ne fun z => by rw [z, hd] at e; cases e; cases n]
  exact e
mutual
theorem FDen.open {od : Obj} {ws : List (Key × V)} (hd : F d = some (.frz od (.dK ws))) : ∀ {x : FV} {v : V}, FDen M F x v → FDen M (upd F d u) x v
  | .non, _, q => q
  | .bl _, _, q => q
  | .int _, _, q => q
  | .str _, _, q => q
  | .tup xs, _, ⟨a, vs, e, q, r⟩ => ⟨a, vs, e, ne_l hd q rfl, FDenL.open hd r⟩
  | .tuz xs, _, ⟨a, vs, o, e, q, q1, q2, r⟩ => ⟨a, vs, o, e, ne_l hd q rfl, q1, q2, FDenL.open hd r⟩
  | .lst xs, _, ⟨a, vs, e, q, r⟩ => ⟨a, vs, e, ne_l hd q rfl, FDenL.open hd r⟩
  | .dK kvs, _, ⟨a, vs, e, q, r⟩ => ⟨a, vs, e, ne_l hd q rfl, FDenK.open hd r⟩
  | .dT kvs, _, ⟨a, vs, e, q, r⟩ => ⟨a, vs, e, ne_l hd q rfl, FDenT.open hd r⟩
  | .ins c fs, _, ⟨a, C, dx, vs, e, m, q, q2, r⟩ => ⟨a, C, dx, vs, e, m, ne_l hd q rfl, ne_l hd q2 rfl, FDenA.open hd r⟩
  | .exc c, _, ⟨a, C, e, m, q⟩ => ⟨a, C, e, m, ne_l hd q rfl⟩
  | .scr xs, _, ⟨a, e, q⟩ => ⟨a, e, q.elim (fun q => .inl (ne_l hd q rfl)) fun ⟨o, q⟩ => .inr ⟨o, ne_l hd q rfl⟩⟩
  | .dN ks, _, ⟨a, kb, e, q, n, k⟩ => ⟨a, kb, e, ne_l hd q rfl, n, fun p hp => let ⟨c, x, y⟩ := k p hp; ⟨c, ne_l hd x rfl, ne_l hd y rfl⟩⟩
theorem FDenL.open {od : Obj} {ws : List (Key × V)} (hd : F d = some (.frz od (.dK ws))) : ∀ {xs : List FV} {vs : List V}, FDenL M F xs vs → FDenL M (upd F d u) xs vs
  | [], _, q => q
  | _ :: _, _, ⟨v, us, e, q, r⟩ => ⟨v, us, e, FDen.open hd q, FDenL.open hd r⟩
theorem FDenK.open {od : Obj} {ws : List (Key × V)} (hd : F d = some (.frz od (.dK ws))) : ∀ {xs : List (Key × FV)} {vs : List (Key × V)}, FDenK M F xs vs → FDenK M (upd F d u) xs vs
  | [], _, q => q
  | (_, _) :: _, _, ⟨v, us, e, q, r⟩ => ⟨v, us, e, FDen.open hd q, FDenK.open hd r⟩
theorem FDenT.open {od : Obj} {ws : List (Key × V)} (hd : F d = some (.frz od (.dK ws))) : ∀ {xs : List (List Key × FV)} {vs : List (List Key × V)}, FDenT M F xs vs → FDenT M (upd F d u) xs vs
  | [], _, q => q
  | (_, _) :: _, _, ⟨v, us, e, q, r⟩ => ⟨v, us, e, FDen.open hd q, FDenT.open hd r⟩
theorem FDenA.open {od : Obj} {ws : List (Key × V)} (hd : F d = some (.frz od (.dK ws))) : ∀ {xs : List (Str × FV)} {vs : List (Str × V)}, FDenA M F xs vs → FDenA M (upd F d u) xs vs
  | [], _, q => q
  | (_, _) :: _, _, ⟨v, us, e, q, r⟩ => ⟨v, us, e, FDen.open hd q, FDenA.open hd r⟩
end
mutual
theorem Own.open {od : Obj} {ws : List (Key × V)} (hd : F d = some (.frz od (.dK ws))) : ∀ {x : OV} {v : V} {L : Cells}, Own M F x v L → Own M (upd F d u) x v L
  | .fz _, _, _, ⟨q, e⟩ => ⟨q.open hd, e⟩
  | .ol _, _, _, ⟨a, vs, e, r, q⟩ => ⟨a, vs, e, r.open hd, q⟩
  | .oK _, _, _, ⟨a, vs, e, r, q⟩ => ⟨a, vs, e, r.open hd, q⟩
  | .oT _, _, _, ⟨a, vs, e, r, q⟩ => ⟨a, vs, e, r.open hd, q⟩
  | .dl _, _, _, ⟨a, vs, L', e, r, q⟩ => ⟨a, vs, L', e, OwnL.open hd r, q⟩
  | .dd _, _, _, ⟨a, vs, L', e, r, q⟩ => ⟨a, vs, L', e, OwnK.open hd r, q⟩
  | .tp _, _, _, ⟨a, vs, e, q, r⟩ => ⟨a, vs, e, ne_l hd q rfl, OwnL.open hd r⟩
  | .ob _ _, _, _, ⟨a, C, dx, vs, L', e, m, q, r, q2⟩ => ⟨a, C, dx, vs, L', e, m, ne_l hd q rfl, OwnA.open hd r, q2⟩
  | .oN ks, _, _, ⟨a, kb, e, n, k, q⟩ => ⟨a, kb, e, n, fun p hp => let ⟨c, x, y⟩ := k p hp; ⟨c, ne_l hd x rfl, ne_l hd y rfl⟩, q⟩
theorem OwnL.open {od : Obj} {ws : List (Key × V)} (hd : F d = some (.frz od (.dK ws))) : ∀ {xs : List OV} {vs : List V} {L : Cells}, OwnL M F xs vs L → OwnL M (upd F d u) xs vs L
  | [], _, _, q => q
  | _ :: _, _, _, ⟨v, us, A, B, e, q, r, z⟩ => ⟨v, us, A, B, e, Own.open hd q, OwnL.open hd r, z⟩
theorem OwnK.open {od : Obj} {ws : List (Key × V)} (hd : F d = some (.frz od (.dK ws))) : ∀ {xs : List (Key × OV)} {vs : List (Key × V)} {L : Cells}, OwnK M F xs vs L → OwnK M (upd F d u) xs vs L
  | [], _, _, q => q
  | (_, _) :: _, _, _, ⟨v, us, A, B, e, q, r, z⟩ => ⟨v, us, A, B, e, Own.open hd q, OwnK.open hd r, z⟩
theorem OwnA.open {od : Obj} {ws : List (Key × V)} (hd : F d = some (.frz od (.dK ws))) : ∀ {xs : List (Str × OV)} {vs : List (Str × V)} {L : Cells}, OwnA M F xs vs L → OwnA M (upd F d u) xs vs L
  | [], _, _, q => q
  | (_, _) :: _, _, _, ⟨v, us, A, B, e, q, r, z⟩ => ⟨v, us, A, B, e, Own.open hd q, OwnA.open hd r, z⟩
end
theorem EnvOwn.open {od : Obj} {ws : List (Key × V)} (hd : F d = some (.frz od (.dK ws))) {σ : Sl} {env : VEnv} {L : Cells} (h : EnvOwn M F σ env L) : EnvOwn M (upd F d u) σ env L := by
  induction h with
  | nil => exact .nil
  | skip _ ih => exact .skip ih
  | cons q _ ih => exact .cons (q.open hd) ih
end
/-! the relation while d is locked -/
section
variable {M : Str → Option Value} {G Z H F : Hp} {σ : Sl} {env : VEnv} {T : List (V × Rv)} {L1 L2 : Cells} {d : Addr} {od : Obj} {ws : List (Key × V)} {kvs : List (Key × FV)} {i : Nat}
def lockZ (Z : Hp) (d : Addr) (L2 : Cells) : Hp := updL (fun a => if a = d then none else Z a) L2
theorem lockZ_in (nd : (L2.map (·.1)).Nodup) : ∀ p ∈ L2, lockZ Z d L2 p.1 = some p.2 := updL_in nd
theorem lockZ_out {a : Addr} (h : ∀ p ∈ L2, p.1 ≠ a) (n : a ≠ d) : lockZ Z d L2 a = Z a := by
  unfold lockZ
  rw [updL_out h]
  exact if_neg n
theorem RF.lock (r : RF M G Z H F σ env T L1 L2) (hd : F d = some (.dK ws)) (nv : env[i]? = some (some (.fz (.dK kvs)))) (n : noDE (env.set i none) = true) :
    R M (upd F d (.frz od (.dK ws))) (lockZ Z d L2) (upd H d (.frz od (.dK ws))) σ (env.set i none) [] := by
  obtain ⟨v, A, Lr, sv, own, pm, _, k⟩ := r.ev.repl nv
  have hA : A = [] := own.2
  subst hA
  have hσ : σ.set i (some v) = σ := by
    apply List.ext_getElem?
    intro j
    by_cases hj : i = j
    · subst hj
      rw [List.getElem?_set_self (List.getElem?_eq_some_iff.mp sv).1, sv]
    · rw [List.getElem?_set_ne hj]
  have ev := k (some v)
  rw [hσ] at ev
  have g := r.gd.perm (pm.append_right L2)
  rw [List.nil_append] at g
  have nd : ∀ p ∈ Lr ++ L2, p.1 ≠ d := fun p hp e => by
    have := g.fr p hp
    rw [e, hd] at this
    cases this
  have n2 := g.right.nd
  have ap := g.apart
  refine ⟨_, Lr, [], Same.refl _, fun a o e => .inl e, fun a o e => ?_, fun a o e => ?_, ev.lock hd n, .nil, ?_⟩
  · by_cases z : a = d
    · subst z
      rw [upd_same] at e ⊢
      exact e
    · rw [upd_ne z] at e ⊢
      exact r.fh a o e
  · by_cases hm : ∃ p ∈ L2, p.1 = a
    · obtain ⟨p, hp, rfl⟩ := hm
      rw [lockZ_in n2 p hp] at e
      cases e
      rw [upd_ne (nd p (List.mem_append_right _ hp))]
      exact g.hp p (List.mem_append_right _ hp)
    · have ho : ∀ p ∈ L2, p.1 ≠ a := fun p hp e => hm ⟨p, hp, e⟩
      by_cases z : a = d
      · subst z
        unfold lockZ at e
        rw [updL_out ho] at e
        simp at e
      · rw [lockZ_out ho z] at e
        rw [upd_ne z]
        exact r.zh a o e
  · rw [List.append_nil]
    refine ⟨g.left.nd, fun p hp => ?_, fun p hp => ?_, fun p hp => ?_⟩
    · rw [upd_ne (nd p (List.mem_append_left _ hp))]
      exact g.left.hp p hp
    · rw [upd_ne (nd p (List.mem_append_left _ hp))]
      exact g.left.fr p hp
    · rw [lockZ_out (fun q hq e => ap p hp q hq e.symm) (nd p (List.mem_append_left _ hp))]
      exact g.left.zr p hp
theorem RF.unlock {σ' : Sl} {env' : VEnv} {H' : Hp} (r : RF M G Z H F σ env T L1 L2) (hT : AllSt T) (hd : F d = some (.dK ws)) (r' : R M (upd F d (.frz od (.dK ws))) (lockZ Z d L2) H' σ' env' []) :
    H' d = some (.frz od (.dK ws)) ∧ R M G Z (upd H' d (.dK ws)) σ' env' T := by
  obtain ⟨Fc, C1, C2, r'⟩ := r'
  have e2 : C2 = [] := by
    cases r'.tm
    rfl
  subst e2
  have fd : Fc d = some (.frz od (.dK ws)) := r'.gf _ _ upd_same
  have g2 := r.gd.right
  have n2 : ∀ p ∈ L2, p.1 ≠ d := fun p hp e => by
    have := g2.fr p hp
    rw [e, hd] at this
    cases this
  have g1 : Good Fc (lockZ Z d L2) H' C1 := r'.gd.left
  have n1 : ∀ p ∈ C1, p.1 ≠ d := fun p hp e => by
    have := g1.fr p hp
    rw [e, fd] at this
    cases this
  have zin := lockZ_in (Z := Z) (d := d) g2.nd
  have apart : ∀ p ∈ C1, ∀ q ∈ L2, p.1 ≠ q.1 := fun p hp q hq e => by
    have := g1.zr p hp
    rw [e, zin q hq] at this
    cases this
  refine ⟨r'.fh _ _ fd, upd Fc d (.dK ws), C1, L2, fun a o e => ?_, fun a o e => ?_, fun a o e => ?_, fun a o e => ?_, r'.ev.open fd, ?_, ?_⟩
  · by_cases z : a = d
    · subst z
      rw [upd_same]
      rw [r.gf _ _ e] at hd
      exact hd.symm
    · rw [upd_ne z]
      exact r'.gf a o (by rw [upd_ne z]; exact r.gf a o e)
  · by_cases z : a = d
    · subst z
      exact (r.fg a _ hd).imp (fun h => by rw [upd_same] at e; cases e; exact h) id
    · rw [upd_ne z] at e
      rcases r'.fg a o e with h | h
      · rw [upd_ne z] at h
        exact r.fg a o h
      · refine .inr ?_
        by_cases hm : ∃ p ∈ L2, p.1 = a
        · obtain ⟨p, hp, rfl⟩ := hm
          exact g2.zr p hp
        · rw [lockZ_out (fun p hp e => hm ⟨p, hp, e⟩) z] at h
          exact h
  · by_cases z : a = d
    · subst z
      rw [upd_same] at e ⊢
      exact e
    · rw [upd_ne z] at e ⊢
      exact r'.fh a o e
  · by_cases z : a = d
    · subst z
      rw [upd_same]
      have h1 := r.zh _ _ e
      rw [r.fh _ _ hd] at h1
      exact h1
    · rw [upd_ne z]
      refine r'.zh a o ?_
      rw [lockZ_out (fun p hp q => by
        have := g2.zr p hp
        rw [q, e] at this
        cases this) z]
      exact e
  · refine (r.tm.anyH hT).mono (F' := upd Fc d (.dK ws)) (H := upd H' d (.dK ws)) (fun a o e => ?_) (Same.refl _)
    by_cases z : a = d
    · subst z
      rw [hd] at e
      rw [upd_same]
      exact e
    · rw [upd_ne z]
      exact r'.gf a o (by rw [upd_ne z]; exact e)
  · refine Good.mk' ⟨g1.nd, fun p hp => ?_, fun p hp => ?_, fun p hp => ?_⟩ ⟨g2.nd, fun p hp => ?_, fun p hp => ?_, g2.zr⟩ apart
    · rw [upd_ne (n1 p hp)]
      exact g1.hp p hp
    · rw [upd_ne (n1 p hp)]
      exact g1.fr p hp
    · have h := g1.zr p hp
      rw [lockZ_out (fun q hq e => apart p hp q hq e.symm) (n1 p hp)] at h
      exact h
    · rw [upd_ne (n2 p hp)]
      exact r'.zh _ _ (zin p hp)
    · rw [upd_ne (n2 p hp)]
      cases e : Fc p.1 with
      | none => rfl
      | some o =>
        rcases r'.fg _ _ e with h | h
        · rw [upd_ne (n2 p hp), g2.fr p hp] at h
          cases h
        · rw [zin p hp] at h
          cases h
end
def pairF (p : Key × FV) : FV := .tup [keyF p.1, p.2]
def finI : Ans SO → Ans SO
  | .ok (.nx e) => .ok (.nx e)
  | _ => .no
def dForItems (i : Nat) (t : TgF) (fb : DS) : DS := fun env => match env[i]? with
  | some (some (.fz (.dK kvs))) => if noDE (env.set i none) && noDK kvs then finI (forL t fb (kvs.map pairF) (env.set i none)) else .no
  | _ => .no
theorem FDenK.get {M : Str → Option Value} {F : Hp} : ∀ {kvs : List (Key × FV)} {ws : List (Key × V)} {n : Nat} {k : Key} {v : V}, FDenK M F kvs ws → ws[n]? = some (k, v) → ∃ x, kvs[n]? = some (k, x) ∧ FDen M F x v
  | [], _, n, _, _, e, h => by
    rw [show _ = [] from e] at h
    simp at h
  | (j, x) :: r, _, n, k, v, ⟨w, rs, e, q, z⟩, h => by
    subst e
    cases n with
    | zero =>
      cases h
      exact ⟨x, rfl, q⟩
    | succ n => exact z.get (by simpa using h)
section
variable {X : Cx} {W : WX} {x : Str} {pos px apos cpos tpos : Pos} {elts : List Expr} {kk : Nat} {body : List Stmt} {t : TgF} {fb : DS} {vs : List Nat}
theorem js_forItems (i : Nat) (hp : PassesOwn (model X.prog X.w) X.A X.env X.xe) (hc : X.calm = true) (hg : JG X (.Tuple elts kk tpos) vs t) (hb : JSs X W body fb) (hN : X.N[i]? = some x := by rfl) (hv : Vis X.env.scope x := by first | exact Or.inl rfl | exact Or.inr (Or.inl rfl) | exact Or.inr (Or.inr rfl))
    (hd : (x == ("__debug__" : Str)) = false := by decide) (hcd : (x == ("__classdict__" : Str)) = false := by decide)
    (hbase : attributeBase (.Name x px) "items" X.env (eval (.Name x px) X.env) = eval (.Name x px) X.env := by rfl) (hline : (apos.endLine == cpos.line) = true := by rfl)
    (hs : ∀ z, foldedSetIterable (.Call (.Attribute (.Name x px) "items" apos) [] [] cpos) X.env z = pure z := by intro _; rfl) :
    JS X W (.For (.Tuple elts kk tpos) (.Call (.Attribute (.Name x px) "items" apos) [] [] cpos) body [] pos) (dForItems i t fb) := by
  refine PS.imp (ps_lock (ps_for hp hc (pi_items (pe_var hN hv hd hcd) hbase hline) hg hb hs)) fun D σ H ⟨G, Z, env, T, hT, r, p⟩ => ?_
  unfold dForItems at p
  split at p
  case h_2 => exact p.elim
  case h_1 kvs ei =>
    split at p
    case isFalse => exact p.elim
    case isTrue hn =>
      rw [Bool.and_eq_true] at hn
      obtain ⟨F, L1, L2, r⟩ := r
      obtain ⟨v, A, Lr, sv, own, _⟩ := r.ev.repl ei
      obtain ⟨⟨d, ws, rfl, fd, dd⟩, _⟩ := own
      refine ⟨d, .dK ws, r.fh _ _ fd, trivial, fun od => ⟨.ref d, sv, d, od, ws, rfl, upd_same, ?_⟩⟩
      have lw : ws.length = kvs.length := dd.length
      have dd2 : FDenK X.mg (upd F d (.frz od (.dK ws))) kvs ws := dd.lock fd hn.2
      have r0 := r.lock (od := od) fd ei hn.1
      have done : ∀ σ' H' e, R X.mg (upd F d (.frz od (.dK ws))) (lockZ Z d L2) H' σ' e [] → PostS X.mg W G Z T D (.ok (.nx e)) → H' d = some (.frz od (.dK ws)) ∧ D.nx σ' (upd H' d (.dK ws)) := fun σ' H' e r' q => by
        obtain ⟨h1, h2⟩ := r.unlock hT fd r'
        exact ⟨h1, q _ _ h2⟩
      refine ⟨fun n m σ H => n + m = kvs.length ∧ ∃ env', R X.mg (upd F d (.frz od (.dK ws))) (lockZ Z d L2) H σ env' [] ∧ PostS X.mg W G Z T D (finI (forL t fb ((kvs.drop n).map pairF) env')), ⟨kvs.length, by omega, env.set i none, r0, by rw [List.drop_zero]; exact p⟩, ?_⟩
      rintro n m σ H ⟨hnm, env', r1, post⟩
      have ⟨Fc, C1, C2, rc⟩ := r1
      have hld : H d = some (.frz od (.dK ws)) := rc.fh _ _ (rc.gf _ _ upd_same)
      by_cases hlt : n < kvs.length
      · rw [List.drop_eq_getElem_cons hlt, List.map_cons] at post
        refine .inr ⟨⟨hld, by rw [lw]; exact hlt⟩, fun σ' H' => ∃ env', R X.mg (upd F d (.frz od (.dK ws))) (lockZ Z d L2) H' σ' env' [] ∧ PostS X.mg W G Z T D (finI (forL t fb ((kvs.drop (n + 1)).map pairF) env')), fun σ' H' ⟨e', r', p'⟩ => ⟨m - 1, by omega, by omega, e', r', p'⟩, fun v H' yl => ?_⟩
        obtain ⟨q, k, w, e1, rfl, hq, rfl⟩ := yl
        obtain ⟨y, e2, dy⟩ := dd2.get e1
        have ey : kvs[n] = (k, y) := Option.some.inj ((List.getElem?_eq_getElem hlt).symm.trans e2)
        rw [ey] at post
        have dk : FDen X.mg Fc (keyF k) (kV k) := by cases k <;> exact rfl
        have nw : New X.mg Fc H (upd H q (.tup [kV k, w])) (.fz (pairF (k, y))) (.ref q) := New.tup rc.fh hq ⟨_, [w], rfl, dk, w, [], rfl, dy.mono rc.gf, rfl⟩
        refine ⟨_, _, env', [], pairF (k, y), rc.new nw, ?_⟩
        unfold forL at post
        cases et : t (pairF (k, y)) env' with
        | none => rw [et] at post; exact post.elim
        | some ea =>
          rw [et] at post
          intro σ' _ r2
          have post : PostS X.mg W G Z T D (finI ((fb ea).bind (loopK (forL t fb ((kvs.drop (n + 1)).map pairF))))) := post
          refine ⟨_, _, ea, [], allst0, r2, ?_⟩
          cases eb : fb ea with
          | no => rw [eb] at post; exact post.elim
          | ex c => rw [eb] at post; exact post.elim
          | ok s =>
            rw [eb] at post
            cases s with
            | nx e => exact fun σ3 H3 r3 => ⟨e, r3, post⟩
            | ct e => exact fun σ3 H3 r3 => ⟨e, r3, post⟩
            | bk e => exact fun σ3 H3 r3 => done σ3 H3 e r3 post
            | rt o e => exact post.elim
      · refine .inl ⟨⟨hld, by rw [lw]; omega⟩, ?_⟩
        rw [List.drop_of_length_le (by omega)] at post
        exact done σ H env' r1 post
end
end J
namespace J
open PySem PySem.Spec PyProof.Rows L2
/-! ### a < b < c -/
def dChain (o1 o2 : OV → OV → Option OV) (f g h : DE) : DE := fun env => (f env).bind fun x => (g env).bind fun y => match o1 x.ov y.ov with
  | some (.fz (.bl true)) => (h env).bind fun z => (Ans.of (o2 y.ov z.ov)).map .st
  | some (.fz (.bl false)) => .ok (.st (.fz (.bl false)))
  | _ => .no
section
variable {X : Cx} {W : WX} {a b c : Expr} {f g h : DE} {pos : Pos} {p1 p2 : CmpOp} {o1 o2 : OV → OV → Option OV}
theorem chain_red {σ : L2.St} {H : Hp} {Q : VK} (q : tE X.mg W (dChain o1 o2 f g h) σ H Q) : tChain (rJ X.mg o1) (rJ X.mg o2) (tE X.mg W f) (tE X.mg W g) (tE X.mg W h) σ H Q := by
  obtain ⟨G, Z, env, T, r, p⟩ := q
  refine tE.bind r Sb.refl p fun x u H1 _ s1 r1 p1 => ?_
  refine tE.bind r1 Sb.refl.cons p1 fun y w H2 _ s2 ⟨F, C1, C2, r2⟩ p2 => ?_
  have bx := r2.bor (p := (u, x)) (List.mem_cons_of_mem _ List.mem_cons_self)
  have bw := r2.bor (p := (w, y)) List.mem_cons_self
  split at p2
  · rename_i e
    refine ⟨F, x.ov, y.ov, _, r2.fh, bx, bw, e, fun v H' n => ?_⟩
    have hh : Same H2 H' := let ⟨_, _, n⟩ := n; n.hh
    obtain ⟨F3, C3, C4, r3⟩ := r2.new n
    have hv : v = .bl true := (r3.bor (p := (v, .st (.fz (.bl true)))) List.mem_cons_self).bl
    refine ⟨true, hv, ?_⟩
    rw [if_pos rfl]
    refine tE.bind r3.r (Sb.refl.cons.cons.cons) (p2.later hh) fun z w' H4 _ s4 ⟨F4, C5, C6, r4⟩ p4 => ?_
    obtain ⟨o, e4, k⟩ := r4.fin (Sb.refl.cons.cons.cons.cons) p4
    exact ⟨F4, y.ov, z.ov, o, r4.fh, r4.bor (p := (w, y)) (List.mem_cons_of_mem _ (List.mem_cons_of_mem _ List.mem_cons_self)), r4.bor (p := (w', z)) List.mem_cons_self, e4, k⟩
  · rename_i e
    refine ⟨F, x.ov, y.ov, _, r2.fh, bx, bw, e, fun v H' n => ?_⟩
    have hh : Same H2 H' := let ⟨_, _, n⟩ := n; n.hh
    obtain ⟨F3, C3, C4, r3⟩ := r2.new n
    have hv : v = .bl false := (r3.bor (p := (v, .st (.fz (.bl false)))) List.mem_cons_self).bl
    refine ⟨false, hv, ?_⟩
    rw [if_neg Bool.false_ne_true, ← hv]
    exact p2 v H' hh (r3.r.sb (Sb.refl.cons.cons.both))
  · exact p2.elim
theorem je_chain (ho : OJ X (compareOp p1) o1) (ho2 : OJ X (compareOp p2) o2) (ha : JE X W a f) (hb : JE X W b g) (hc : JE X W c h) (hm : lastMarks [p1, p2] [b, c] = false := by with_unfolding_all rfl) :
    JE X W (.Compare a [p1, p2] [b, c] pos) (dChain o1 o2 f g h) := PE.imp (pe_chain ho ho2 ha hb hc hm) fun _ _ _ q => chain_red q
theorem jt_chain (ho : OJ X (compareOp p1) o1) (ho2 : OJ X (compareOp p2) o2) (ha : JE X W a f) (hb : JE X W b g) (hc : JE X W c h) (hm : lastMarks [p1, p2] [b, c] = false := by with_unfolding_all rfl) :
    JT X W (.Compare a [p1, p2] [b, c] pos) (dTest (dChain o1 o2 f g h)) := PT.imp (pt_chain ho ho2 ha hb hc hm) fun _ _ _ q => chain_red (tB_red q)
end
end J
set_option maxHeartbeats 4000000
namespace J
open PySem PySem.Spec PyProof.Rows L2
/-! ### a caught error that is kept behind its try -/
/-- an error that is known by its class -/
def ErrO (C a : Addr) : HO := .ext fun h => ∃ oe vs, h.get? a = some oe ∧ Zc (.ref C) none oe ∧ oe.data = .fields vs
theorem errO_ok {P : Program} {w : World} {H : Hp} {h : Heap} {a C : Addr} {oe : Obj} {vs : Array Value} (e : h.get? a = some oe) (z : Zc (.ref C) none oe) (d : oe.data = .fields vs) : ObjOk P w H h a (ErrO C a) :=
  ⟨⟨oe, vs, e, z, d⟩, ⟨oe, e⟩, fun _ _ ⟨o, v, q, r⟩ k => ⟨o, v, k o q, r⟩⟩
section
variable {X : Cx} {pins : List (Addr × Obj)} {σ : Sl} {H : Hp} {s : Shared}
/-- a pinned error becomes a tracked one -/
theorem inv_known {a C : Addr} {oe : Obj} {vs : Array Value} (I : Inv X ((a, oe) :: pins) σ H s) (fresh : X.s_0.heap.get? a = none) (ne : ∀ p ∈ X.pn ++ pins, p.1 ≠ a) (hz : Zc (.ref C) none oe) (hd : oe.data = .fields vs) :
    Inv X pins σ (upd H a (ErrO C a)) s := by
  obtain ⟨ha, hn, nl, nf, nc⟩ := I.pin (a, oe) (List.mem_append_right _ List.mem_cons_self)
  have off : ∀ {b : Addr}, b ≠ a → upd H a (ErrO C a) b = H b := fun h => upd_ne h
  have trk : ∀ {b : Addr} {u : HO}, H b = some u → upd H a (ErrO C a) b = some u := fun {b u} h => (off fun z => by rw [z, hn] at h; cases h).trans h
  have cel : ∀ x c, X.env.cells.lookup x = some c → c ≠ a := fun x c e z => by
    obtain ⟨v, o, ho, hv⟩ := I.cell x c e
    rw [z, ha] at ho
    cases ho
    exact nc _ hv
  have bas := I.base
  constructor
  · exact I.ok
  · exact I.os
  · exact I.bare
  · constructor
    · exact bas.keep
    · exact bas.slot
    · intro b o h1 h2 h3
      rw [off fun z => by rw [z, fresh] at h1; cases h1]
      exact bas.free b o h1 h2 h3
    · exact bas.there
    · exact fun b xs h => trk (bas.tups b xs h)
    · exact fun b o u h => trk (bas.frzs b o u h)
    · intro b ps h
      obtain ⟨m, h⟩ := bas.tbls b ps h
      exact ⟨m, trk h⟩
  · exact I.loc
  · exact I.cell
  · rw [off (Ne.symm nl)]
    exact I.free
  · intro x c e
    rw [off (cel x c e)]
    exact I.freeC x c e
  · intro p hp
    have hp2 : p ∈ X.pn ++ (a, oe) :: pins := (List.mem_append.mp hp).elim (List.mem_append_left _) fun h => List.mem_append_right _ (List.mem_cons_of_mem _ h)
    obtain ⟨q1, q2, q3⟩ := I.pin p hp2
    exact ⟨q1, (off (ne p hp)).trans q2, q3⟩
  · intro b u e
    by_cases hb : b = a
    · subst hb
      rw [upd_same] at e
      cases e
      exact errO_ok ha hz hd
    · rw [off hb] at e
      exact (I.hok b u e).stay (fun _ _ _ q => q) (fun _ q => trk q) fun _ _ q => trk q
  · exact I.len
/-- out of the suite, the error's pin kept -/
theorem inv_out {a : Addr} {q : Addr × Obj} (I : Inv (X.suite a (q :: (X.pn ++ pins))) [] σ H s) (ok : X.Ok) : Inv X (q :: pins) σ H s := by
  constructor
  · exact ok
  · exact I.os
  · exact I.bare
  · exact I.base
  · exact I.loc
  · exact I.cell
  · exact I.free
  · exact I.freeC
  · intro p hp
    refine I.pin p (List.mem_append_left _ ?_)
    rcases List.mem_append.mp hp with h | h
    · exact List.mem_cons_of_mem _ (List.mem_append_left _ h)
    · exact (List.mem_cons.mp h).elim (fun e => e ▸ List.mem_cons_self) fun h => List.mem_cons_of_mem _ (List.mem_append_right _ h)
  · exact I.hok
  · exact I.len
end
/-- what «except x as n: y = n» wishes of the error: it is caught; slot i is n's, slot j is y's -/
def wTold (K : PySem.W.Frag) (c : Value) (i j : Nat) (D : Ends) : WX := fun cls d σ H => d = none ∧ (∃ C, cls = .ref C ∧ PySem.W.exmOne K (.ref C) c = some true ∧
  ∀ a, H a = none → D.nx (((σ.set i (some (V.ref a))).set j (some (V.ref a))).set i none) (upd H a (ErrO C a)))
section
variable {X : Cx} {x n y : Str} {c : Value} {i j : Nat} {body : List Stmt} {np p1 p2 p3 pos pos' : Pos} {tb : WX → TS}
theorem ps_try_told (hx : X.ex = []) (hs : X.stack = X.env :: X.outer) (hf : X.env.frame = some X.env.locals) (hN : X.N.Nodup) (hi : X.N[i]? = some n) (hln : X.env.kindOf n = some .local) (hj : X.N[j]? = some y) (hly : X.env.kindOf y = some .local) (hc : Names X x c)
    (hsw : ∀ a pn, swapsWith (.Name n p2) (some (.Name y p1)) p3.line (X.suite a pn).env = pure false) (dn : (n == ("__debug__" : Str)) = false := by decide) (cn : (n == ("__classdict__" : Str)) = false := by decide)
    (hb : ∀ (W : WX) (pn : List (Addr × Obj)) (xe : Value → Shared → Prop), Takes (X.tr pn xe) W → PSs (X.tr pn xe) body (tb W)) :
    PS X (.Try body [.ExceptHandler (some (.Name x np)) (some n) [.Assign [.Name y p1] (.Name n p2) p3] pos'] [] [] pos) (fun D σ H => tb (wTold X.K c i j D) D σ H) := by
  constructor
  intro pins s σ H D I h
  have ok := I.ok
  have hfr : X.A.frames = some (X.env :: X.outer) := ok.frames.trans (by rw [hs])
  refine wpAny_Try_except (wpAny_mono ((hb (wTold X.K c i j D) (X.pn ++ pins) _ ?tk).run [] s σ H D (I.toTry _) h) ?fine fun _ _ z => z)
  case fine =>
    intro f s1 q
    match f, q with
    | .next, ⟨σ', H', J, q⟩ => exact wpAny_execs_nil ⟨σ', H', J.ofTry ok, q⟩
    | .brk, ⟨σ', H', J, q⟩ => exact ⟨σ', H', J.ofTry ok, q⟩
    | .cont, ⟨σ', H', J, q⟩ => exact ⟨σ', H', J.ofTry ok, q⟩
    | .ret u, ⟨v, σ', H', J, r, q⟩ => exact ⟨v, σ', H', J.ofTry ok, r, q⟩
  case tk =>
    intro u s' ⟨a, B, sI, pins', σ', H', cls, d, eu, J', nb, up, sky, na, eos, ag, ed, C, ec, em, fin⟩
    subst eu ed ec
    have J : Inv X pins σ' H' sI := J'.ofTry ok
    have sky2 : Sky B (X.env :: X.outer) a (Zc (.ref C) none) X.env.locals s'.heap := hs ▸ sky
    refine Sky.land Zc.steady hfr hf sky2 fun h3 fl3 up3 => ?_
    have new : B.get? a = none := fl3.2.1
    obtain ⟨oe, vs, he, hz, hd⟩ := fl3.there
    have J3 : Inv X pins σ' H' { s' with heap := h3 } := J.landed nb fl3.1 (up.trans up3) eos ag
    have offF : a ∉ frs (X.env :: X.outer) := fun hm => by
      obtain ⟨_, o, ho, nd⟩ := fl3.2.2.1.mem hm
      rw [he] at ho
      cases ho
      exact nd _ hd
    have offL : a ≠ X.env.locals := fun z => offF (List.mem_filterMap.mpr ⟨X.env, List.mem_cons_self, hf.trans (congrArg some z.symm)⟩)
    have offO : a ∉ X.fs := fun hm => offF (by
      obtain ⟨e, q1, q2⟩ := List.mem_filterMap.mp hm
      exact List.mem_filterMap.mpr ⟨e, List.mem_cons_of_mem _ q1, q2⟩)
    have notI : sI.heap.get? a = none := by
      cases e : sI.heap.get? a with
      | none => rfl
      | some o =>
        have := nb a o e (hs ▸ offF)
        rw [new] at this
        cases this
    have fresh : X.s_0.heap.get? a = none := by
      cases e : X.s_0.heap.get? a with
      | none => rfl
      | some o =>
        obtain ⟨o', q⟩ := J.base.there a o e (by rw [hx]; exact fun z => nomatch z)
        rw [notI] at q
        cases q
    have pinsNe : ∀ p ∈ X.pn ++ pins, p.1 ≠ a := fun p hp z => by
      have := (J.pin p hp).1
      rw [z, notI] at this
      cases this
    -- the clause's class
    have S3 := J3.suite he hd na offL offO
    have cls3 : PySem.W.Looks (model X.prog X.w) h3 (typeOf (.ref a)) (.ref C) := fun A Q E t k q => wpAny_typeOf_ref (k _ _ he) (hz.1.symm ▸ q)
    have asks := PySem.W.exm_one (M := model X.prog X.w) J3.kIn cls3 em
    refine wpAny_handleBy_cons (codeAny_handlers_test ?_) (fun q => by cases q)
    have readC : ∀ {Q E : Value → Shared → Prop}, Q c { s' with heap := h3 } → wpAny (model X.prog X.w) (X.A.mark (some (.ref a))) (eval (.Name x np) X.env) Q E { s' with heap := h3 } := fun q =>
      match hc with
      | ⟨hg, hdb, .inl hm⟩ => ld_glob (X := X.suite a ((a, oe) :: (X.pn ++ pins))) S3 hg hm q hdb
      | ⟨hg, hdb, .inr ⟨hm, hv, hnn⟩⟩ => ld_blt (X := X.suite a ((a, oe) :: (X.pn ++ pins))) S3 hg hm hv q hnn hdb
    refine readC (asks.here (codeAny_handlers_suite_as (HandSPX.lands_againZ fl3 fun h4 fl4 up4 => ?_)))
    obtain ⟨oe4, vs4, he4, hz4, hd4⟩ := fl4.there
    have J4 : Inv X pins σ' H' { s' with heap := h4 } := J.landed nb fl4.1 ((up.trans up3).trans up4) eos ag
    have S4 := J4.suite he4 hd4 na offL offO
    refine store_ok (X := X.suite a ((a, oe4) :: (X.pn ++ pins))) (v := V.ref a) S4 hN hi (.inl hln) rfl (fun s5 S5 => ?_) (.inr hln)
    -- the suite: y = n
    have suite : PSs (X.suite a ((a, oe4) :: (X.pn ++ pins))) [.Assign [.Name y p1] (.Name n p2) p3] (tAsg (tVar i) (gName j)) :=
      pss_one (ps_set hN hj (.inl hly) (pe_var hi (.inl hln) dn cn) (hsw _ _) (.inr hly))
    have li : i < σ'.length := by rw [J.len]; exact (List.getElem?_eq_some_iff.mp hi).1
    refine wpAny_mono (suite.run [] s5 _ H' { nx := fun σ6 H6 => σ6 = (σ'.set i (some (V.ref a))).set j (some (V.ref a)) ∧ H6 = H', rt := fun _ _ => False, bk := fun _ _ => False, ct := fun _ _ => False } S5 ⟨V.ref a, List.getElem?_set_self li, rfl, rfl⟩) ?_ fun _ _ z => z.elim
    intro f s6 q
    match f, q with
    | .next, ⟨σ6, H6, S6, e1, e2⟩ =>
      subst e1 e2
      refine gone_ok (inv_out S6 ok) hN hi hln fun s7 J7 => ?_
      exact ⟨_, _, inv_known J7 fresh pinsNe hz4 hd4, fin a na⟩
    | .ret u, ⟨_, _, _, _, _, z⟩ => exact z.elim
    | .brk, ⟨_, _, _, z⟩ => exact z.elim
    | .cont, ⟨_, _, _, z⟩ => exact z.elim
end
end J
set_option maxHeartbeats 4000000
namespace J
open PySem PySem.Spec PyProof.Rows L2
/-! ### own error classes: raised, caught and kept, asked for their class -/
abbrev veMro : List Value := [.type "ValueError", .type "Exception", .type "BaseException", .type "object"]
structure ErrAt (K : PySem.W.Frag) (C : Addr) : Prop where
  kp : PySem.W.keepIn K (.ref C) = true
  ex : PySem.W.excIn K C veMro "ValueError.__new__" = true
  sb : PySem.W.subIn K (.ref C) (.type "BaseException") = some true
  sv : PySem.W.subIn K (.ref C) (.type "ValueError") = some true
  ss : PySem.W.subIn K (.ref C) (.ref C) = some true
  sn : PySem.W.subIn K (.type "NoneType") (.ref C) = some false
  ty : PySem.W.typeIn K (.ref C) = some (.type "type")
  hd : PySem.W.hasDictIn K C = true
  hg : PySem.W.findIn K (.ref C) "__getattribute__" = some (some (.builtin "BaseException.__getattribute__"))
  hk : PySem.W.findIn K (.ref C) "__getattr__" = some none
  ha : PySem.W.findIn K (.ref C) "__class__" = some (some (.builtin "object.__class__"))
  hm : PySem.W.mroIn K C (.type "object") = some true
structure ErrK (K : PySem.W.Frag) : Prop where
  hn : PySem.W.specialIn K (.builtin "object.__class__") "__get__" = some (some (.builtin "getset_descriptor.__get__"))
  ht : PySem.W.takesIn K (.builtin "object.__class__") = some true
def ErrC (K : PySem.W.Frag) (mg : Str → Option Value) (x : Str) : Prop := ∃ C, mg x = some (.ref C) ∧ ErrAt K C
/-- one class under another or not -/
def ErrP (K : PySem.W.Frag) (mg : Str → Option Value) (x y : Str) (b : Bool) : Prop := ∀ C D, mg x = some (.ref C) → mg y = some (.ref D) → PySem.W.subIn K (.ref C) (.ref D) = some b
theorem ErrP.mk {K : PySem.W.Frag} {mg : Str → Option Value} {x y : Str} {b : Bool} {C D : Addr} (h1 : mg x = some (.ref C)) (h2 : mg y = some (.ref D)) (h : PySem.W.subIn K (.ref C) (.ref D) = some b) : ErrP K mg x y b := fun C' D' e1 e2 => by
  rw [h1] at e1
  rw [h2] at e2
  cases e1
  cases e2
  exact h
theorem ErrAt.kit {K : PySem.W.Frag} {D : Addr} (E : ErrAt K D) {t : Value} {b : Bool} (h : PySem.W.subIn K t (.ref D) = some b) : PySem.W.kitOne K t (.ref D) = some b := by
  unfold PySem.W.kitOne
  by_cases e : (t == Value.ref D) = true
  · have e2 := beq_iff_eq.mp e
    subst e2
    rw [if_pos e, ← h, E.ss]
  · obtain ⟨cd, hc, _⟩ := PySem.W.any_some E.hd
    rw [if_neg e]
    show (if ((PySem.W.clsIn K D).isSome && PySem.W.typeIn K (.ref D) == some (.type "type")) = true then PySem.W.subIn K t (.ref D) else none) = some b
    rw [hc, E.ty, if_pos (by rfl)]
    exact h
theorem ErrAt.kitV {K : PySem.W.Frag} {C : Addr} (E : ErrAt K C) : PySem.W.kitOne K (.ref C) (.type "ValueError") = some true := by
  unfold PySem.W.kitOne
  rw [if_neg (fun z => Value.noConfusion (beq_iff_eq.mp z))]
  show (if PySem.W.kitMeta "ValueError" = true then PySem.W.subIn K (.ref C) (.type "ValueError") else none) = some true
  rw [if_pos (by decide +kernel)]
  exact E.sv
theorem ErrAt.exc {K : PySem.W.Frag} {C : Addr} (E : ErrAt K C) (k : ErrK K) : ExcC K C := ⟨E.hg, E.hk, E.sb, E.hd, E.ha, k.hn, k.ht, E.hm⟩
/-! raise -/
def dRaise (c : Str) : DS := fun _ => .ex c
section
variable {X : Cx} {W : WX} {x m : Str} {j : Nat} {p p2 pos pos' : Pos}
theorem js_raise (hc : X.calm = true) (tk : Takes X W) (E : ErrC X.K X.mg x) (hg : Gl X x := by rfl) (hdb : (x == ("__debug__" : Str)) = false := by decide) : JS X W (.Raise (some (.Call (.Name x p) [.Constant (.str m) j p2] [] pos)) none pos') (dRaise x) := by
  obtain ⟨C, gC, E⟩ := E
  exact PS.imp (ps_raise hc tk (pmk_own PySem.F.excBase_ValueError E.ex gC E.kp (raises_own E.sb E.ty) hg hdb)) fun D σ H ⟨_, _, _, _, _, ⟨_, _, _, r⟩, q⟩ => q C σ H gC r.zh
end
/-! try: e, except E as n: y = n -/
def dTry (L : List Str) (f : DE) (i j : Nat) : DS := fun env => match env[i]? with
  | some none => match f env with
    | .ok _ => .ok (.nx env)
    | .ex c => if L.contains c then .ok (.nx (env.set j (some (.fz (.exc c))))) else .no
    | .no => .no
  | _ => .no
theorem set_over {α : Type} {l : List (Option α)} {i j : Nat} {a b : α} (h : i ≠ j) : ((l.set i (some a)).set j (some b)).set i none = (l.set j (some b)).set i none := by
  rw [List.set_comm _ _ h, List.set_set]
theorem EnvOwn.put {M : Str → Option Value} {F : Hp} {σ : Sl} {env : VEnv} {L : Cells} {s : Option V} (e : EnvOwn M F σ env L) : ∀ {i : Nat}, env[i]? = some none → EnvOwn M F (σ.set i s) env L := by
  induction e with
  | nil => intro i h; simp at h
  | skip e ih =>
    intro i h
    cases i with
    | zero => exact .skip e
    | succ i => exact .skip (ih (by simpa using h))
  | cons d e ih =>
    intro i h
    cases i with
    | zero => simp at h
    | succ i => exact .cons d (ih (by simpa using h))
theorem R.put {M : Str → Option Value} {G Z H : Hp} {σ : Sl} {env : VEnv} {T : List (V × Rv)} {i : Nat} {s : Option V} (r : R M G Z H σ env T) (h : env[i]? = some none) : R M G Z H (σ.set i s) env T := by
  obtain ⟨F, L1, L2, r⟩ := r
  exact ⟨F, L1, L2, r.gf, r.fg, r.fh, r.zh, r.ev.put h, r.tm, r.gd⟩
section
variable {X : Cx} {W : WX} {x n y : Str} {i j : Nat} {e : Expr} {f : DE} {np p1 p2 p3 pos pos' pe : Pos} {L : List Str}
theorem js_tryE (i j : Nat) (L : List Str) (hx : X.ex = []) (hs : X.stack = X.env :: X.outer) (hf : X.env.frame = some X.env.locals) (hN : X.N.Nodup) (E : ErrC X.K X.mg x) (hL : ∀ c ∈ L, ErrP X.K X.mg c x true)
    (he : ∀ (W : WX) (pn : List (Addr × Obj)) (xe : Value → Shared → Prop), Takes (X.tr pn xe) W → JE (X.tr pn xe) W e f)
    (hi : X.N[i]? = some n := by rfl) (hln : X.env.kindOf n = some .local := by rfl) (hj : X.N[j]? = some y := by rfl) (hly : X.env.kindOf y = some .local := by rfl) (hij : i ≠ j := by decide) (hg : Gl X x := by rfl) (hdb : (x == ("__debug__" : Str)) = false := by decide)
    (hsw : ∀ a pn, swapsWith (.Name n p2) (some (.Name y p1)) p3.line (X.suite a pn).env = pure false := by exact fun _ _ => rfl) (hse : swapsWith e none pe.line X.env = pure false := by rfl) (dn : (n == ("__debug__" : Str)) = false := by decide) (cn : (n == ("__classdict__" : Str)) = false := by decide) :
    JS X W (.Try [.Expr e pe] [.ExceptHandler (some (.Name x np)) (some n) [.Assign [.Name y p1] (.Name n p2) p3] pos'] [] [] pos) (dTry L f i j) := by
  obtain ⟨CE, gE, E⟩ := E
  refine PS.imp (ps_try_told hx hs hf hN hi hln hj hly ⟨hg, hdb, .inl gE⟩ hsw dn cn (tb := fun W => tDrop (tE X.mg W f)) fun W pn xe tk => pss_one (ps_expr (X := X.tr pn xe) (he W pn xe tk) hse)) fun D σ H ⟨G, Z, env, T, hT, r, p⟩ => ?_
  unfold dTry at p
  show ∃ G Z env T, R X.mg G Z H σ env T ∧ _
  cases hn : env[i]? with
  | none => rw [hn] at p; exact p.elim
  | some o =>
    cases o with
    | some o => rw [hn] at p; exact p.elim
    | none =>
      rw [hn] at p
      simp only at p
      refine ⟨G, Z, env, T, r, ?_⟩
      cases hv : f env with
      | no => rw [hv] at p; exact p.elim
      | ok rv =>
        rw [hv] at p
        exact fun v H' s r' => p σ H' r'.pop
      | ex c =>
        rw [hv] at p
        simp only at p
        intro C H' m s r'
        by_cases hc : L.contains c = true
        · rw [if_pos hc] at p
          have sub := hL c (List.contains_iff_mem.mp hc) C CE m gE
          refine ⟨rfl, C, rfl, PySem.W.exm_ref E.sb E.hd E.ty sub, fun a na => p _ _ ?_⟩
          rw [set_over hij]
          obtain ⟨F, A, B, q⟩ := r'
          have new : New X.mg F H' (upd H' a (ErrO C a)) (.fz (.exc c)) (V.ref a) := New.ice q.fh na ⟨a, C, rfl, m, upd_same⟩
          refine ((q.new new).set j).put ?_
          rw [List.getElem?_set_ne (Ne.symm hij)]
          exact hn
        · rw [if_neg hc] at p
          exact p.elim
end
/-! isinstance(e, C), e None or a kept error -/
def rIsX (K : PySem.W.Frag) : List V → Hp → VK → Prop := fun xs H Q => ∃ (a C : Addr) (c : V) (u : Value) (b : Bool), xs = [.ref a, c] ∧ H a = some (ErrO C a) ∧ ClsV c u ∧ ExcC K C ∧ PySem.W.kitOne K (.ref C) u = some b ∧ Q (.bl b) H
theorem call_isX {X : Cx} : CallR X (.builtin "isinstance") (rIsX X.K) := by
  intro pins s σ H xs us Q I r ⟨a, C, c, u, b, ex, ha, hc, E, k, q⟩
  subst ex
  obtain ⟨u1, u2, eu, r1, r2⟩ := vals2 r
  subst eu
  cases (show u1 = Value.ref a from r1)
  cases hc.eq r2
  have o : ObjOk X.prog X.w H s.heap a (ErrO C a) := I.hok a _ ha
  obtain ⟨⟨oe, vs, h1, ⟨h2, h3⟩, h4⟩, _⟩ := o
  have J : PySem.W.InstAt s.heap a oe C none := by
    constructor
    · exact h1
    · exact h2
    · obtain ⟨oc, od, dt, sl⟩ := oe
      cases (show dt = .fields vs from h4)
      rfl
    · rw [h3]
      exact trivial
  exact PySem.W.kia_one (PySem.W.handS_kitx_exc E.hg E.hk E.hs E.hd E.ha E.hn E.ht E.hm) I.kIn J k (fun z => nomatch z) fun tk => ⟨.bl b, H, I.tok tk, rfl, q⟩
def opIsE (tab : List (Str × Bool)) : OV → Option OV
  | .fz .non => some (.fz (.bl false))
  | .fz (.exc c) => (tab.lookup c).map fun b => .fz (.bl b)
  | _ => none
theorem lookup_mem {α β : Type} [BEq α] [LawfulBEq α] : ∀ {l : List (α × β)} {a : α} {b : β}, l.lookup a = some b → (a, b) ∈ l
  | [], _, _, h => nomatch h
  | (k, v) :: l, a, b, h => by
    unfold List.lookup at h
    cases e : a == k with
    | true =>
      rw [e] at h
      cases h
      rw [beq_iff_eq.mp e]
      exact List.mem_cons_self
    | false =>
      rw [e] at h
      exact List.mem_cons_of_mem _ (lookup_mem h)
section
variable {X : Cx} {W : WX} {e : Expr} {f : DE} {p p2 pos : Pos} {x : Str} {tab : List (Str × Bool)}
theorem je_isG {c : V} {u : Value} (he : JE X W e f) (hc : PE X (.Name x p2) (tC c)) (k : ClsV c u) (hn : PySem.W.kitOne X.K (.type "NoneType") u = some false) (ht : ∀ c b, (c, b) ∈ tab → ∀ C, X.mg c = some (.ref C) → ExcC X.K C ∧ PySem.W.kitOne X.K (.ref C) u = some b) (hm : X.mg "isinstance" = none) (hg : Gl X "isinstance" := by rfl)
    (hs : starEach [e, .Name x p2] X.env = (false, eval e X.env) :: starEach [.Name x p2] X.env := by rfl) (hs2 : starEach [.Name x p2] X.env = (false, eval (.Name x p2) X.env) :: starEach [] X.env := by rfl) (hpl : (backTo pos (starEach [.Name x p2] X.env)).any (·.1) = false := by rfl) (hbi : bootBuiltins "isinstance" = some (.builtin "isinstance") := by rfl) :
    JE X W (.Call (.Name "isinstance" p) [e, .Name x p2] [] pos) (dUn (opIsE tab) f) := by
  refine PE.imp (pe_callB ((call_isi (X := X)).or call_isX) hg hm hbi (pa_cons he (pa_cons hc pa_nil hs2) hs) (by decide) (by decide) hs hpl) fun σ H Q ⟨G, Z, env, T2, r, q⟩ => ?_
  refine tE.bind r Sb.refl q fun y w H1 _ s1 ⟨F, C1, C2, r1⟩ p1 => ?_
  obtain ⟨o, eo, kk⟩ := r1.fin Sb.refl.cons p1
  have b : Bor X.mg F H1 y.ov w := r1.bor List.mem_cons_self
  unfold opIsE at eo
  split at eo
  · rename_i ey
    cases eo
    rw [ey] at b
    have ew : w = .non := b.fz
    exact .inl ⟨w, c, .type "NoneType", u, false, rfl, k, by rw [ew]; exact .base .non, hn, kk _ _ (New.bl r1.fh)⟩
  · rename_i cn ey
    obtain ⟨bb, eb, rfl⟩ := Option.map_eq_some_iff.mp eo
    rw [ey] at b
    obtain ⟨a, C, ew, m, ha⟩ := b.fz
    obtain ⟨q1, q2⟩ := ht cn bb (lookup_mem eb) C m
    exact .inr ⟨a, C, c, u, bb, by rw [ew], r1.fh _ _ ha, k, q1, q2, kk _ _ (New.bl r1.fh)⟩
  · cases eo
/-- .. an own class -/
theorem je_isE (tab : List (Str × Bool)) (he : JE X W e f) (EK : ErrK X.K) (E : ErrC X.K X.mg x) (ht : ∀ q ∈ tab, ErrC X.K X.mg q.1 ∧ ErrP X.K X.mg q.1 x q.2) (hm : X.mg "isinstance" = none) (hgx : Gl X x := by rfl) (hdb : (x == ("__debug__" : Str)) = false := by decide) (hg : Gl X "isinstance" := by rfl)
    (hs : starEach [e, .Name x p2] X.env = (false, eval e X.env) :: starEach [.Name x p2] X.env := by rfl) (hs2 : starEach [.Name x p2] X.env = (false, eval (.Name x p2) X.env) :: starEach [] X.env := by rfl) (hpl : (backTo pos (starEach [.Name x p2] X.env)).any (·.1) = false := by rfl) :
    JE X W (.Call (.Name "isinstance" p) [e, .Name x p2] [] pos) (dUn (opIsE tab) f) := by
  obtain ⟨D, gD, E⟩ := E
  refine je_isG (c := .ref D) he (pe_glob hgx gD rfl hdb) (.own D) (E.kit E.sn) (fun c b h C m => ?_) hm hg hs hs2 hpl
  obtain ⟨⟨C', m', E'⟩, P⟩ := ht _ h
  have e : C' = C := by
    have := m'.symm.trans m
    cases this
    rfl
  subst e
  exact ⟨E'.exc EK, E.kit (P C' D m gD)⟩
theorem boot_VE : bootBuiltins "ValueError" = some (.type "ValueError") := by decide +kernel
/-- .. ValueError -/
theorem je_isV (tab : List Str) (he : JE X W e f) (EK : ErrK X.K) (ht : ∀ q ∈ tab, ErrC X.K X.mg q) (hm : X.mg "isinstance" = none) (hmv : X.mg "ValueError" = none) (hgx : Gl X "ValueError" := by rfl) (hg : Gl X "isinstance" := by rfl)
    (hs : starEach [e, .Name "ValueError" p2] X.env = (false, eval e X.env) :: starEach [.Name "ValueError" p2] X.env := by rfl) (hs2 : starEach [.Name "ValueError" p2] X.env = (false, eval (.Name "ValueError" p2) X.env) :: starEach [] X.env := by rfl) (hpl : (backTo pos (starEach [.Name "ValueError" p2] X.env)).any (·.1) = false := by rfl) :
    JE X W (.Call (.Name "isinstance" p) [e, .Name "ValueError" p2] [] pos) (dUn (opIsE (tab.map fun c => (c, true))) f) := by
  refine je_isG (c := .ty "ValueError") he (pe_bltn (v := .ty "ValueError") hgx hmv boot_VE rfl (by decide) (by decide)) (.ty "ValueError") (kit_ty (by decide +kernel)) (fun c b h C m => ?_) hm hg hs hs2 hpl
  obtain ⟨q, hq, e⟩ := List.mem_map.mp h
  cases e
  obtain ⟨C', m', E'⟩ := ht _ hq
  have e : C' = C := by
    have := m'.symm.trans m
    cases this
    rfl
  subst e
  exact ⟨E'.exc EK, E'.kitV⟩
end
end J
namespace J
open PySem PySem.Spec PyProof.Rows L2
/-! ### texts looked through -/
def opFind : OV → List OV → Option OV
  | .fz (.str a), [.fz (.str b)] => some (.fz (.int (Txt.find a b)))
  | _, _ => none
def opCount : OV → List OV → Option OV
  | .fz (.str a), [.fz (.str b)] => some (.fz (.int (Txt.count a b)))
  | _, _ => none
theorem mj_find {X : Cx} : MtR X "str.find" (rM X.mg opFind) := by
  rintro pins s σ H x xs v us Q I rx rs ⟨F, o, os, res, hf, bx, ps, e, k⟩
  unfold opFind at e
  split at e
  · cases e
    obtain ⟨u, rfl, b⟩ := paired1 ps
    exact mt_find pins s σ H x _ v us Q I rx rs ⟨_, _, bx.str, by rw [b.str], k _ _ (New.int hf)⟩
  · cases e
theorem mj_count {X : Cx} : MtR X "str.count" (rM X.mg opCount) := by
  rintro pins s σ H x xs v us Q I rx rs ⟨F, o, os, res, hf, bx, ps, e, k⟩
  unfold opCount at e
  split at e
  · cases e
    obtain ⟨u, rfl, b⟩ := paired1 ps
    exact mt_count pins s σ H x _ v us Q I rx rs ⟨_, _, bx.str, by rw [b.str], k _ _ (New.int hf)⟩
  · cases e
end J
set_option maxHeartbeats 4000000
namespace J
open PySem PySem.Spec PyProof.Rows L2
/-! ### x[k][j] = e -/
def dPutAt (i : Nat) (fk fj fe : DE) : DS := fun env => match env[i]? with
  | some (some p) => (fe env).bind fun r => (fk env).bind fun kr => match p.sub? kr.fv with
    | some q => if q.isL then (fj env).bind fun jr => match r with
        | .st o => if q.size < BIG then match q.put jr.fv o with
          | some q' => .ok (.nx (env.set i (some (p.setAt kr.fv q'))))
          | none => .no
          else .no
        | _ => .no
      else .no
    | none => .no
  | _ => .no
/-- where a part lies, told twice, is one place -/
theorem part_one {H H2 : Hp} {p : OV} {d b : Addr} {w u : V} (s : Same H H2)
    (h1 : (p.isL = true ∧ ∃ vs i, w = .int i ∧ H d = some (.lst vs) ∧ atI vs i = some (.ref b)) ∨ (p.isL = false ∧ ∃ ws k, w = kV k ∧ H d = some (.dK ws) ∧ valV ws k = some (.ref b)))
    (h2 : (p.isL = true ∧ ∃ vs i, w = .int i ∧ H2 d = some (.lst vs) ∧ atI vs i = some u) ∨ (p.isL = false ∧ ∃ ws k, w = kV k ∧ H2 d = some (.dK ws) ∧ valV ws k = some u)) : u = .ref b := by
  rcases h1 with ⟨l1, vs, i, a1, a2, a3⟩ | ⟨l1, ws, k, a1, a2, a3⟩
  · rcases h2 with ⟨_, vs', i', b1, b2, b3⟩ | ⟨l2, _⟩
    · rw [a1] at b1
      cases b1
      rw [s _ _ a2] at b2
      cases b2
      rw [a3] at b3
      exact (Option.some.inj b3).symm
    · rw [l1] at l2
      cases l2
  · rcases h2 with ⟨l2, _⟩ | ⟨_, ws', k', b1, b2, b3⟩
    · rw [l1] at l2
      cases l2
    · rw [a1] at b1
      have ek := kV_inj b1
      subst ek
      rw [s _ _ a2] at b2
      cases b2
      rw [a3] at b3
      exact (Option.some.inj b3).symm
section
variable {X : Cx} {W : WX} {pos p1 p2 p3 : Pos} {e k k2 : Expr} {fk fj fe : DE} {x : Str}
theorem js_putAt (i : Nat) (hu : X.A.units + 1 < cLine) (hk : JE X W k fk) (hk2 : JE X W k2 fj) (he : JE X W e fe) (hN : X.N[i]? = some x := by rfl) (hv : Vis X.env.scope x := by first | exact Or.inl rfl | exact Or.inr (Or.inl rfl) | exact Or.inr (Or.inr rfl))
    (hd : (x == ("__debug__" : Str)) = false := by decide) (hcd : (x == ("__classdict__" : Str)) = false := by decide)
    (hs : swapsWithSole [.Subscript (.Subscript (.Name x p1) k p2) k2 p3] e pos.line X.env = pure false := by rfl) (hw : swappedStores [.Subscript (.Subscript (.Name x p1) k p2) k2 p3] e X.env = pure none := by rfl)
    (h1 : (assignEach [.Subscript (.Subscript (.Name x p1) k p2) k2 p3] X.env).map (·.2) = [assign (.Subscript (.Subscript (.Name x p1) k p2) k2 p3) X.env] := by rfl)
    (ha : ∀ v, assign (.Subscript (.Subscript (.Name x p1) k p2) k2 p3) X.env v = (do
      let ov ← holding [v] (eval (.Subscript (.Name x p1) k p2) X.env)
      let iv ← holding [v, ov] (eval k2 X.env)
      standAt p3
      holding [v, ov, iv] (setItem ov iv v)
      release [v, ov, iv] []) := by intro _; rfl)
    (hix : PlainIx k := by first | exact fun _ _ => rfl | (intro _ _; rfl)) :
    JS X W (.Assign [.Subscript (.Subscript (.Name x p1) k p2) k2 p3] e pos) (dPutAt i fk fj fe) := by
  have hpl := PE.or (pe_ix (ix_seq (X := X)) (pe_var (pos := p1) hN hv hd hcd) hk hix (pos := p2)) (pe_dget hu (pe_var (pos := p1) hN hv hd hcd) hk hix (pos := p2))
  refine PS.imp (ps_asg he (pg_sub hpl hk2 set_list ha) hs hw h1) fun D σ H ⟨G, Z, env, T, hT, r, p⟩ => ?_
  unfold dPutAt at p
  split at p
  · rename_i q0 ei
    refine tE.bindS r p fun rv y H1 _ s1 r1 pp => ?_
    have main : ∀ Qk : VK, (∀ w H2, (∃ d u, σ[i]? = some (some (.ref d)) ∧ ((q0.isL = true ∧ ∃ vs i, w = .int i ∧ H2 d = some (.lst vs) ∧ atI vs i = some u) ∨ (q0.isL = false ∧ ∃ ws k, w = kV k ∧ H2 d = some (.dK ws) ∧ valV ws k = some u)) ∧
        tE X.mg W fj σ H2 fun w2 H3 => rSetL u w2 y H3 fun H4 => D.nx σ H4) → Qk w H2) → tE X.mg W fk σ H1 Qk := by
      intro Qk hQk
      refine tE.bindS2 r1 Sb.refl.cons pp fun kr w H2 _ s2 r2 q2 => hQk w H2 ?_
      split at q2
      · rename_i q eq
        split at q2
        · rename_i hl
          obtain ⟨F1, D1, D2, r2⟩ := r2
          have dk : FDen X.mg H2 kr.fv w := (r2.bor (List.mem_cons_self (a := (w, kr)))).fden r2.fh
          obtain ⟨F2, D3, D4, r3⟩ := r2.r.pop
          obtain ⟨v, A, Lr, j1, j2, j3, _⟩ := r3.ev.repl ei
          obtain ⟨d, u, A2, e1, o2, c2, k2', _⟩ := own_sub eq j2 dk fun c hc => r3.gd.hp c (List.mem_append_left _ (j3.mem_iff.mpr (List.mem_append_left _ hc)))
          subst e1
          obtain ⟨b, vs0, e3, m3⟩ := own_isL hl o2
          subst e3
          refine ⟨d, .ref b, j1, k2', ?_⟩
          refine tE.bindS2 r3.r Sb.refl.cons q2 fun jr w2 H3 _ s3 r4 q3 => ?_
          cases rv with
          | bo o => exact q3.elim
          | st o =>
            simp only at q3
            split at q3
            · rename_i hsz
              split at q3
              · rename_i q' eq'
                obtain ⟨F4, D5, D6, r4⟩ := r4
                have dj : FDen X.mg H3 jr.fv w2 := (r4.bor (List.mem_cons_self (a := (w2, jr)))).fden r4.fh
                obtain ⟨F5, D7, D8, r5⟩ := r4.r.pop
                obtain ⟨v4, L4, B4, w1, w2', w3, w4, w5⟩ := r5.write hT ei
                rw [j1] at w1
                obtain rfl := Option.some.inj (Option.some.inj w1)
                obtain ⟨d5, u5, A5, e5, o5, c5, k5, up5⟩ := own_sub eq w2' (dk.mono s3) w4
                cases e5
                have eu := part_one s3 k2' k5
                subst eu
                rcases own_put eq' o5 w3 dj c5 hsz with ⟨hp, a, vs, n, j, e1, e2, e3, e4, wr⟩ | ⟨hp, _⟩
                · cases e1
                  exact ⟨b, vs, n, j, rfl, e2, e3, e4, q3 σ _ (let ⟨_, _, z⟩ := w5 _ _ _ _ (up5 _ _ _ _ _ wr); z.r)⟩
                · exact (isL_D2 hl hp).elim
              · exact q3.elim
            · exact q3.elim
        · exact q2.elim
      · exact q2.elim
    obtain ⟨F, C1, C2, r0⟩ := r1
    obtain ⟨v, A, Lr, j1, j2, j3, _⟩ := r0.ev.repl ei
    by_cases hq : q0.isL = true
    · refine .inl ⟨v, j1, main _ fun w H2 ⟨d, u, h1, h2, h4⟩ => .inl ?_⟩
      rw [j1] at h1
      obtain rfl := Option.some.inj (Option.some.inj h1)
      rcases h2 with ⟨_, vs, ii, a1, a2, a3⟩ | ⟨hn, _⟩
      · exact ⟨d, vs, ii, u, rfl, a1, SqL.of a2, a3, h4⟩
      · rw [hq] at hn; cases hn
    · refine .inr ⟨v, j1, main _ fun w H2 ⟨d, u, h1, h2, h4⟩ => ?_⟩
      rw [j1] at h1
      obtain rfl := Option.some.inj (Option.some.inj h1)
      rcases h2 with ⟨hn, _⟩ | ⟨_, ws, kk, a1, a2, a3⟩
      · exact absurd hn hq
      · subst a1
        exact ⟨d, u, rfl, (by have := DGet.k (k := kk) a2; rwa [a3] at this), h4⟩
  · exact p.elim
end
end J
namespace J
open PySem PySem.Spec PyProof.Rows L2
/-! ### list(d.keys()), d with owned values -/
def dKeysLD (f : DE) : DE := fun env => (f env).bind fun r => match r.ov with
  | .oK kvs => .ok (.st (.ol (kvs.map fun kv => keyF kv.1)))
  | .dd kvs => .ok (.st (.ol (kvs.map fun kv => keyF kv.1)))
  | _ => .no
theorem OwnK.keys {M : Str → Option Value} {F : Hp} : ∀ {kvs : List (Key × OV)} {ws : List (Key × V)} {L : Cells}, OwnK M F kvs ws L → ws.map (·.1) = kvs.map (·.1)
  | [], _, _, h => by rw [h.1]; rfl
  | (k, x) :: r, _, _, ⟨v, rs, A, B, e, _, q, _⟩ => by rw [e, List.map_cons, List.map_cons, q.keys]
section
variable {X : Cx} {e : Expr} {p pos apos cpos : Pos}
theorem keysLD_red {W : WX} {f : DE} {σ : Sl} {H : Hp} {Q : VK} (h : tE X.mg W (dKeysLD f) σ H Q) : tKeys (tE X.mg W f) rKeysL σ H Q := by
  obtain ⟨G, Z, env, T, r, p⟩ := h
  refine tE.bind r Sb.refl p fun rv v H1 _ s1 ⟨F, C1, C2, r1⟩ p1 => ?_
  have hb : Bor X.mg F H1 rv.ov v := r1.bor List.mem_cons_self
  have fin : ∀ (ks : List Key) (d : Addr) (ws : List (Key × V)), v = .ref d → H1 d = some (.dK ws) → ws.map (·.1) = ks → Post X.mg W G Z σ env T Q H1 (.ok (.st (.ol (ks.map keyF)))) → ∃ d kvs, v = .ref d ∧ Rd H1 d (.dK kvs) ∧ rKeysL (kvs.map (·.1)) H1 Q := fun ks d ws e1 e2 e3 q => by
    refine ⟨d, ws, e1, .inl e2, fun a ha => ?_⟩
    have n := New.lst r1.fh ha (xs := ks.map keyF) (vs := (ws.map (·.1)).map kV) (by rw [e3]; exact keyF_den (M := X.mg) (F := F) ks)
    exact q _ _ (let ⟨_, _, n⟩ := n; n.hh) ((r1.new n).sb (Sb.refl.cons.both))
  split at p1
  · rename_i kvs ek
    obtain ⟨d, ws, e1, e2, e3⟩ := hb.dK r1.fh (.inl ek)
    refine fin (kvs.map (·.1)) d ws e1 e2 e3 ?_
    rw [List.map_map]
    exact p1
  · rename_i kvs ek
    rw [ek] at hb
    obtain ⟨A, ⟨d, ws, L', e1, d1, q⟩, c⟩ := hb
    refine fin (kvs.map (·.1)) d ws e1 (c (d, .dK ws) (by rw [q]; exact List.mem_cons_self)) d1.keys ?_
    rw [List.map_map]
    exact p1
  · exact p1.elim
theorem je_listKeysD {W : WX} {f : DE} (hc : X.calm = true) (he : JE X W e f) (hm : X.mg "list" = none) (hv : bootBuiltins "list" = some (.type "list") := by rfl) (hg : Gl X "list" := by rfl) (hbase : attributeBase e "keys" X.env (eval e X.env) = eval e X.env := by rfl) (hline : (apos.endLine == cpos.line) = true := by rfl)
    (hs : starEach [.Call (.Attribute e "keys" apos) [] [] cpos] X.env = (false, eval (.Call (.Attribute e "keys" apos) [] [] cpos) X.env) :: starEach [] X.env := by rfl) :
    JE X W (.Call (.Name "list" p) [.Call (.Attribute e "keys" apos) [] [] cpos] [] pos) (dKeysLD f) := PE.imp (pe_listKeys hc he hg hm hv hbase hline hs) fun σ H Q h => keysLD_red h
end
end J
namespace J
open PySem PySem.Spec PyProof.Rows L2
/-! ### a == b, two dicts that are alike, their values lists or tuples -/
def Alike (K : PySem.W.Frag) (H : Hp) (x y : V) : Prop := ∃ d e, Dp K H x d ∧ Dp K H y e ∧ SeqAt.shaped d = true ∧ SeqAt.shaped e = true ∧ PyData.eqv d e = true
def rEqK (K : PySem.W.Frag) : R2 := fun x y H Q => EqR K H (Alike K H) x y ∧ Q (.bl true) H
theorem op_eqK {X : Cx} (hu : X.A.units + 70 < cLine) : OpR X (compareOp .Eq) (rEqK X.K) := by
  intro pins s σ H x y v u Q I rx ry ⟨h, q⟩
  have part : ∀ x y v u, Alike X.K H x y → RelV x v → RelV y u → SeqAt.EqP X.prog X.w X.A.in1 s v u true := fun x y v u ⟨d, e, hd, he, sd, se, hq⟩ rx ry => by
    obtain ⟨as, r1⟩ := Dp.reads I d x v hd rx
    obtain ⟨bs, r2⟩ := Dp.reads I e y u he ry
    have at_ := SeqAt.eqAt_reads d e X.A.in1 s v u as bs r1 r2 (SeqAt.canLay_of_shaped sd) (SeqAt.canLay_of_shaped se) (by
      have := SeqAt.depth_of_shaped sd
      show X.A.units + 1 + min d.depth e.depth < cLine
      omega)
    rw [hq] at at_
    exact at_.eqP
  exact eqR_run I (A := X.A) (by omega) part h rx ry _ _ ⟨.bl true, H, I, rfl, q⟩
theorem FDenK.mem {M : Str → Option Value} {F : Hp} : ∀ {kvs : List (Key × FV)} {ws : List (Key × V)}, FDenK M F kvs ws → ∀ p ∈ ws, ∃ x, (p.1, x) ∈ kvs ∧ FDen M F x p.2
  | [], _, h, p, hp => by rw [show _ = [] from h] at hp; cases hp
  | (k, x) :: r, _, ⟨v, rs, e, d, q⟩, p, hp => by
    rw [e] at hp
    rcases List.mem_cons.mp hp with rfl | hp
    · exact ⟨x, List.mem_cons_self, d⟩
    · obtain ⟨y, h1, h2⟩ := q.mem p hp
      exact ⟨y, List.mem_cons_of_mem _ h1, h2⟩
theorem FDenK.at_ {M : Str → Option Value} {F : Hp} {k : Key} {x : FV} : ∀ {kvs : List (Key × FV)} {ws : List (Key × V)}, FDenK M F kvs ws → lookK kvs k = some x → ∃ v, valV ws k = some v ∧ FDen M F x v
  | [], _, _, h => by simp [lookK] at h
  | (j, y) :: r, _, ⟨v, rs, e, d, q⟩, h => by
    subst e
    rw [lookK_cons] at h
    by_cases hj : j = k
    · rw [if_pos hj] at h
      cases h
      exact ⟨v, valV_pos hj, d⟩
    · rw [if_neg hj] at h
      obtain ⟨w, h1, h2⟩ := q.at_ h
      exact ⟨w, by rw [valV_neg hj]; exact h1, h2⟩
theorem FDenK.len {M : Str → Option Value} {F : Hp} : ∀ {kvs : List (Key × FV)} {ws : List (Key × V)}, FDenK M F kvs ws → ws.length = kvs.length
  | [], _, h => by rw [show _ = [] from h]; rfl
  | _ :: _, _, ⟨v, rs, e, _, q⟩ => by rw [e, List.length_cons, List.length_cons, q.len]
def FV.sameAt (b : List (Key × FV)) (p : Key × FV) : Bool := match lookK b p.1 with
  | some w => p.2.eqD w == some true
  | none => false
def opEqK (x y : OV) : Option OV := match x.fv, y.fv with
  | .dK a, .dK b => if a.length = b.length ∧ a.all (FV.sameAt b) = true then some (.fz (.bl true)) else none
  | _, _ => none
theorem oj_eqK {X : Cx} (hu : X.A.units + 70 < cLine) : OJ X (compareOp .Eq) opEqK := by
  refine oj_of (op_eqK hu) fun F H x y u w o Q hf bx by' e k => ?_
  unfold opEqK at e
  split at e
  · rename_i a b e1 e2
    split at e
    · rename_i hc
      cases e
      have d1 := bx.fden hf
      have d2 := by'.fden hf
      rw [e1] at d1
      rw [e2] at d2
      obtain ⟨p1, w1, r1, q1, k1⟩ := d1
      obtain ⟨p2, w2, r2, q2, k2⟩ := d2
      refine ⟨.inr ⟨p1, p2, w1, w2, r1, r2, q1, q2, by rw [k1.len, k2.len]; exact hc.1, fun p hp => ?_⟩, k _ _ (New.bl hf)⟩
      obtain ⟨v, hv, dv⟩ := k1.mem p hp
      have hs := List.all_eq_true.mp hc.2 _ hv
      unfold FV.sameAt at hs
      split at hs
      · rename_i z ez
        obtain ⟨t, ht, dt⟩ := k2.at_ ez
        refine ⟨t, ht, ?_⟩
        have hq : v.eqD z = some true := by simpa using hs
        unfold FV.eqD at hq
        split at hq
        · rename_i dd ee h1 h2
          split at hq
          · rename_i hsh
            rw [Bool.and_eq_true] at hsh
            exact ⟨dd, ee, dv.dp h1, dt.dp h2, hsh.1, hsh.2, Option.some.inj hq⟩
          · cases hq
        · cases hq
      · cases hs
    · cases e
  · cases e
theorem u70 {k : Nat} {A : Around} (hr : Room k A) : A.units + 70 < cLine := by have := hr.un; omega
end J
namespace J
open PySem PySem.Spec PyProof.Rows L2
/-! ### the plain functions: lists, loops -/
theorem lcF_map {t : TgF} {c : DT} {e : DE} {env : VEnv} {p : FV → Bool} {g : FV → FV} : ∀ {items : List FV}, (∀ x ∈ items, ∃ e1, t x env = some e1 ∧ c e1 = .ok (p x) ∧ (p x = true → e e1 = .ok (.st (.fz (g x))))) → lcF t c e env items = .ok ((items.filter p).map g)
  | [], _ => rfl
  | x :: xs, h => by
    obtain ⟨e1, h1, h2, h3⟩ := h x List.mem_cons_self
    have ih := lcF_map (items := xs) fun y hy => h y (List.mem_cons_of_mem _ hy)
    unfold lcF
    rw [h1]
    simp only [h2, Ans.nox, Ans.bind]
    cases hp : p x with
    | false => rw [if_neg Bool.false_ne_true, List.filter_cons_of_neg (by simp [hp])]; exact ih
    | true =>
      rw [if_pos rfl, List.filter_cons_of_pos hp, h3 hp]
      simp only [Rv.fz?, ih, List.map_cons]
theorem dLc_ok {it : VEnv → Ans (List FV)} {t : TgF} {c : DT} {e : DE} {vs : List Nat} {env : VEnv} {items : List FV} {p : FV → Bool} {g : FV → FV} (hi : it env = .ok items)
    (h : ∀ x ∈ items, ∃ e1, t x (frzE (wipeE env vs)) = some e1 ∧ c e1 = .ok (p x) ∧ (p x = true → e e1 = .ok (.st (.fz (g x)))))
    (hl : items.length ≤ BIG) (hc : allFzE env = true ∨ FV.pureL ((items.filter p).map g) = true) : dLc it t c e vs env = .ok (.st (.ol ((items.filter p).map g))) := by
  unfold dLc
  rw [hi]
  simp only [Ans.bind]
  rw [lcF_map h]
  simp only
  rw [if_pos]
  rw [Bool.and_eq_true, Bool.or_eq_true]
  refine ⟨decide_eq_true ?_, hc⟩
  rw [List.length_map]
  exact Nat.le_trans (List.length_filter_le _ _) hl
/-- without a test -/
theorem dLc_all {it : VEnv → Ans (List FV)} {t : TgF} {e : DE} {vs : List Nat} {env : VEnv} {items : List FV} {g : FV → FV} (hi : it env = .ok items)
    (h : ∀ x ∈ items, ∃ e1, t x (frzE (wipeE env vs)) = some e1 ∧ e e1 = .ok (.st (.fz (g x))))
    (hl : items.length ≤ BIG) (hc : allFzE env = true ∨ FV.pureL (items.map g) = true) : dLc it t dTrue e vs env = .ok (.st (.ol (items.map g))) := by
  have hf : items.filter (fun _ => true) = items := List.filter_eq_self.mpr fun _ _ => rfl
  have := dLc_ok (c := dTrue) (p := fun _ => true) (g := g) hi (fun x hx => let ⟨e1, h1, h2⟩ := h x hx; ⟨e1, h1, rfl, fun _ => h2⟩) hl (by rw [hf]; exact hc)
  rw [hf] at this
  exact this
/-- a for that runs through -/
theorem forL_inv {t : TgF} {body : DS} (I : Nat → VEnv → Prop) : ∀ {items : List FV} {n : Nat} {env : VEnv}, I n env → (∀ i x env, items[i]? = some x → I (n + i) env → ∃ e1 e2, t x env = some e1 ∧ (body e1 = .ok (.nx e2) ∨ body e1 = .ok (.ct e2)) ∧ I (n + i + 1) e2) →
    ∃ e, forL t body items env = .ok (.nx e) ∧ I (n + items.length) e
  | [], n, env, h, _ => ⟨env, rfl, h⟩
  | x :: xs, n, env, h, hs => by
    obtain ⟨e1, e2, h1, h2, h3⟩ := hs 0 x env rfl h
    obtain ⟨e, k1, k2⟩ := forL_inv (t := t) (body := body) I (items := xs) (n := n + 1) h3 fun i y env hy hi => by
      have e : n + 1 + i = n + (i + 1) := by omega
      rw [e] at hi ⊢
      exact hs (i + 1) y env (by simpa using hy) hi
    refine ⟨e, ?_, ?_⟩
    · unfold forL
      rw [h1]
      rcases h2 with h2 | h2 <;> (simp only [h2, Ans.bind, loopK]; exact k1)
    · rw [List.length_cons, show n + (xs.length + 1) = n + 1 + xs.length by omega]
      exact k2
theorem dFor_inv {it : VEnv → Ans (List FV)} {t : TgF} {body : DS} {items : List FV} {env : VEnv} (I : Nat → VEnv → Prop) (hi : it env = .ok items) (h0 : I 0 env) (hs : ∀ i x env, items[i]? = some x → I i env → ∃ e1 e2, t x env = some e1 ∧ (body e1 = .ok (.nx e2) ∨ body e1 = .ok (.ct e2)) ∧ I (i + 1) e2) :
    ∃ e, dFor it t body env = .ok (.nx e) ∧ I items.length e := by
  obtain ⟨e, k1, k2⟩ := forL_inv (t := t) (body := body) I (items := items) (n := 0) h0 fun i x env hx hi => by
    rw [Nat.zero_add] at hi ⊢
    exact hs i x env hx hi
  rw [Nat.zero_add] at k2
  exact ⟨e, by unfold dFor; rw [hi]; exact k1, k2⟩
/-- a while that runs through -/
theorem dWhile_inv {c : DT} {body : DS} (I : Nat → VEnv → Prop) (hs : ∀ n env, I n env → (c env = .ok false) ∨ (c env = .ok true ∧ ∃ e2 m, (body env = .ok (.nx e2) ∨ body env = .ok (.ct e2)) ∧ m < n ∧ I m e2)) : ∀ n {env : VEnv}, I n env → ∃ e m, dWhile c body env = .ok (.nx e) ∧ I m e ∧ c e = .ok false := by
  intro n
  induction n using Nat.strongRecOn with
  | ind n ih =>
    intro env h
    rw [dWhile_eq]
    unfold whileK
    rcases hs n env h with h1 | ⟨h1, e2, m, h2, hm, h3⟩
    · rw [h1]
      exact ⟨env, n, rfl, h, h1⟩
    · obtain ⟨e, m', k1, k2, k3⟩ := ih m hm h3
      refine ⟨e, m', ?_, k2, k3⟩
      rw [h1]
      simp only [Ans.bind, if_true]
      rcases h2 with h2 | h2 <;> (rw [h2]; simp only [loopK]; exact k1)
/-! ### texts of one sign -/
def s1 (c : Nat) : FV := .str ⟨#[c]⟩
/-! ### plain data -/
mutual
def FV.pl : FV → Bool
  | .non => true
  | .int _ => true
  | .str x => PyData.strOk x
  | .tup xs => FV.plL xs
  | .lst xs => FV.plL xs
  | _ => false
def FV.plL : List FV → Bool
  | [] => true
  | x :: xs => x.pl && FV.plL xs
def FV.dep : FV → Nat
  | .tup xs => FV.depL xs + 1
  | .lst xs => FV.depL xs + 1
  | _ => 0
def FV.depL : List FV → Nat
  | [] => 0
  | x :: xs => max x.dep (FV.depL xs)
end
mutual
theorem FV.pl_toD : ∀ {x : FV}, x.pl = true → ∃ d, x.toD = some d ∧ d.canLay0 = true ∧ d.depth = x.dep
  | .non, _ => ⟨.none, rfl, rfl, rfl⟩
  | .int i, _ => ⟨.int i, rfl, rfl, rfl⟩
  | .str x, h => ⟨.str x, rfl, by rw [PyData.canLay0]; rw [FV.pl] at h; exact h, rfl⟩
  | .tup xs, h => by
    obtain ⟨ds, e, h1, h2⟩ := FV.plL_toD (xs := xs) h
    exact ⟨.tuple ds, by rw [FV.toD, e]; rfl, by simpa [PyData.canLay0] using h1, by rw [PyData.depth, h2]; rfl⟩
  | .lst xs, h => by
    obtain ⟨ds, e, h1, h2⟩ := FV.plL_toD (xs := xs) h
    exact ⟨.list ds, by rw [FV.toD, e]; rfl, by simpa [PyData.canLay0] using h1, by rw [PyData.depth, h2]; rfl⟩
theorem FV.plL_toD : ∀ {xs : List FV}, FV.plL xs = true → ∃ ds, FV.toDL xs = some ds ∧ PyData.canLayAll0 ds = true ∧ PyData.depthAll ds = FV.depL xs
  | [], _ => ⟨[], rfl, rfl, rfl⟩
  | x :: xs, h => by
    rw [FV.plL, Bool.and_eq_true] at h
    obtain ⟨d, e, h1, h2⟩ := FV.pl_toD h.1
    obtain ⟨ds, e3, h3, h4⟩ := FV.plL_toD h.2
    exact ⟨d :: ds, by rw [FV.toDL, e, e3], by rw [PyData.canLayAll0, h1, h3]; rfl, by rw [PyData.depthAll, h2, h4]; rfl⟩
end
mutual
theorem FV.pl_eqv : ∀ {x y : FV} {d e : PyData}, x.pl = true → y.pl = true → x.toD = some d → y.toD = some e → (PyData.eqv d e = true ↔ x = y)
  | .non, y, d, e, _, hy, hd, he => by
    cases y <;> simp [FV.pl] at hy <;> simp [FV.toD] at hd he <;> (try obtain ⟨_, _, he⟩ := he) <;> subst hd <;> (try subst he) <;> simp [PyData.eqv]
  | .int i, y, d, e, _, hy, hd, he => by
    cases y <;> simp [FV.pl] at hy <;> simp [FV.toD] at hd he <;> (try obtain ⟨_, _, he⟩ := he) <;> subst hd <;> (try subst he) <;> simp [PyData.eqv]
  | .str i, y, d, e, _, hy, hd, he => by
    cases y <;> simp [FV.pl] at hy <;> simp [FV.toD] at hd he <;> (try obtain ⟨_, _, he⟩ := he) <;> subst hd <;> (try subst he) <;> simp [PyData.eqv]
  | .tup xs, y, d, e, hx, hy, hd, he => by
    obtain ⟨ds, e1, rfl⟩ := Option.map_eq_some_iff.mp (show (FV.toDL xs).map PyData.tuple = some d from hd)
    cases y with
    | tup ys =>
      obtain ⟨es, e2, rfl⟩ := Option.map_eq_some_iff.mp (show (FV.toDL ys).map PyData.tuple = some e from he)
      rw [PyData.eqv, FV.plL_eqv (xs := xs) (ys := ys) hx hy e1 e2]
      simp
    | _ => simp [FV.pl] at hy <;> simp [FV.toD] at he <;> (try obtain ⟨_, _, he⟩ := he) <;> (try subst he) <;> simp [PyData.eqv]
  | .lst xs, y, d, e, hx, hy, hd, he => by
    obtain ⟨ds, e1, rfl⟩ := Option.map_eq_some_iff.mp (show (FV.toDL xs).map PyData.list = some d from hd)
    cases y with
    | lst ys =>
      obtain ⟨es, e2, rfl⟩ := Option.map_eq_some_iff.mp (show (FV.toDL ys).map PyData.list = some e from he)
      rw [PyData.eqv, FV.plL_eqv (xs := xs) (ys := ys) hx hy e1 e2]
      simp
    | _ => simp [FV.pl] at hy <;> simp [FV.toD] at he <;> (try obtain ⟨_, _, he⟩ := he) <;> (try subst he) <;> simp [PyData.eqv]
theorem FV.plL_eqv : ∀ {xs ys : List FV} {ds es : List PyData}, FV.plL xs = true → FV.plL ys = true → FV.toDL xs = some ds → FV.toDL ys = some es → (PyData.eqvAll ds es = true ↔ xs = ys)
  | [], [], _, _, _, _, h1, h2 => by cases h1; cases h2; simp [PyData.eqvAll]
  | [], y :: ys, _, es, _, hy, h1, h2 => by
    cases h1
    rw [FV.plL, Bool.and_eq_true] at hy
    obtain ⟨d, e, _⟩ := FV.pl_toD hy.1
    obtain ⟨ds, e3, _⟩ := FV.plL_toD hy.2
    rw [FV.toDL, e, e3] at h2
    cases h2
    simp [PyData.eqvAll]
  | x :: xs, [], _, es, hy, _, h2, h1 => by
    cases h1
    rw [FV.plL, Bool.and_eq_true] at hy
    obtain ⟨d, e, _⟩ := FV.pl_toD hy.1
    obtain ⟨ds, e3, _⟩ := FV.plL_toD hy.2
    rw [FV.toDL, e, e3] at h2
    cases h2
    simp [PyData.eqvAll]
  | x :: xs, y :: ys, _, _, hx, hy, h1, h2 => by
    rw [FV.plL, Bool.and_eq_true] at hx hy
    obtain ⟨d, e, _⟩ := FV.pl_toD hx.1
    obtain ⟨ds, e3, _⟩ := FV.plL_toD hx.2
    rw [FV.toDL, e, e3] at h1
    cases h1
    obtain ⟨d', e', _⟩ := FV.pl_toD hy.1
    obtain ⟨ds', e3', _⟩ := FV.plL_toD hy.2
    rw [FV.toDL, e', e3'] at h2
    cases h2
    rw [PyData.eqvAll, Bool.and_eq_true, FV.pl_eqv hx.1 hy.1 e e', FV.plL_eqv hx.2 hy.2 e3 e3']
    simp
end
open Classical in
theorem FV.eqD_pl {x y : FV} (hx : x.pl = true) (hy : y.pl = true) (dx : x.dep ≤ 64) (dy : y.dep ≤ 64) : x.eqD y = some (decide (x = y)) := by
  obtain ⟨d, e1, c1, d1⟩ := FV.pl_toD hx
  obtain ⟨e, e2, c2, d2⟩ := FV.pl_toD hy
  unfold FV.eqD
  rw [e1, e2]
  have s1 : SeqAt.shaped d = true := by unfold SeqAt.shaped; rw [c1, d1]; simpa using dx
  have s2 : SeqAt.shaped e = true := by unfold SeqAt.shaped; rw [c2, d2]; simpa using dy
  simp only [s1, s2, Bool.and_self, if_true]
  congr 1
  have := FV.pl_eqv hx hy e1 e2
  by_cases h : x = y
  · rw [decide_eq_true h]; exact this.mpr h
  · rw [decide_eq_false h]
    cases q : PyData.eqv d e with
    | false => rfl
    | true => exact absurd (this.mp q) h
/-! ### evaluation, step by step -/
section
variable {α β : Type} {a : α} {c : Str} {f : α → Ans β} {env e : VEnv} {x y : FV} {o : OV}
theorem bind_ok : (Ans.ok a).bind f = f a := rfl
theorem bind_ex : (Ans.ex c : Ans α).bind f = .ex c := rfl
theorem bind_no : (Ans.no : Ans α).bind f = .no := rfl
theorem map_ok {g : α → β} : (Ans.ok a).map g = .ok (g a) := rfl
theorem so_nx {g : VEnv → Ans SO} : SO.bind (.ok (.nx e)) g = g e := rfl
theorem so_rt {g : VEnv → Ans SO} : SO.bind (.ok (.rt o e)) g = .ok (.rt o e) := rfl
theorem so_bk {g : VEnv → Ans SO} : SO.bind (.ok (.bk e)) g = .ok (.bk e) := rfl
theorem so_ct {g : VEnv → Ans SO} : SO.bind (.ok (.ct e)) g = .ok (.ct e) := rfl
theorem of_some : Ans.of (some a) = .ok a := rfl
theorem ov_st : (Rv.st o).ov = o := rfl
theorem ov_bo : (Rv.bo o).ov = o := rfl
theorem rfv (r : Rv) : r.fv = r.ov.fv := rfl
theorem fv_fz : (OV.fz x).fv = x := rfl
theorem fv_ol {xs : List FV} : (OV.ol xs).fv = .lst xs := rfl
theorem fv_oK {xs : List (Key × FV)} : (OV.oK xs).fv = .dK xs := rfl
theorem rbool {b : Bool} : (Rv.st (.fz (.bl b))).bool = .ok b := rfl
theorem ev_seq {f g : DS} : dSeq f g env = SO.bind (f env) g := rfl
theorem ev_skip : dSkip env = .ok (.nx env) := rfl
theorem ev_expr {f : DE} : dExpr f env = (f env).bind fun _ => .ok (.nx env) := rfl
theorem ev_set {f : DE} {i : Nat} (h : f env = .ok (.st o)) : dSet i f env = .ok (.nx (env.set i (some o))) := by unfold dSet; rw [h]; rfl
theorem ev_ret {f : DE} (h : f env = .ok (.st o)) : dRet f env = .ok (.rt o env) := by unfold dRet; rw [h]; rfl
theorem ev_retV {i : Nat} (h : env[i]? = some (some o)) : dRetV i env = .ok (.rt o (env.set i none)) := by unfold dRetV; rw [h]
theorem ev_ice {i : Nat} {f : DS} (h : env[i]? = some (some o)) : dIce i f env = f (env.set i (some (.fz o.fv))) := by unfold dIce; rw [h]
theorem ev_ifT {d : DT} {f g : DS} (h : d env = .ok true) : dIf d f g env = f env := by unfold dIf; rw [h]; rfl
theorem ev_ifF {d : DT} {f g : DS} (h : d env = .ok false) : dIf d f g env = g env := by unfold dIf; rw [h]; rfl
theorem ev_test {f : DE} {b : Bool} (h : f env = .ok (.st (.fz (.bl b)))) : dTest f env = .ok b := by unfold dTest; rw [h]; rfl
theorem ev_notT {f : DT} {b : Bool} (h : f env = .ok b) : dNotT f env = .ok !b := by unfold dNotT; rw [h]; rfl
theorem ev_andF {f g : DT} (h : f env = .ok false) : dAndT f g env = .ok false := by unfold dAndT; rw [h]; rfl
theorem ev_andT {f g : DT} (h : f env = .ok true) : dAndT f g env = g env := by unfold dAndT; rw [h]; rfl
theorem ev_orF {f g : DT} (h : f env = .ok false) : dOrT f g env = g env := by unfold dOrT; rw [h]; rfl
theorem ev_orT {f g : DT} (h : f env = .ok true) : dOrT f g env = .ok true := by unfold dOrT; rw [h]; rfl
theorem ev_andVF {f g : DE} (h : f env = .ok (.st (.fz (.bl false)))) : dAndV f g env = .ok (.st (.fz (.bl false))) := by unfold dAndV; rw [ev_test h]; rfl
theorem ev_andVT {f g : DE} (h : f env = .ok (.st (.fz (.bl true)))) : dAndV f g env = g env := by unfold dAndV; rw [ev_test h]; rfl
theorem ev_c : dC x env = .ok (.st (.fz x)) := rfl
theorem ev_varF {i : Nat} (h : env[i]? = some (some (.fz x))) : dVar i env = .ok (.st (.fz x)) := by unfold dVar; rw [h]
theorem ev_varL {i : Nat} {xs : List FV} (h : env[i]? = some (some (.ol xs))) : dVar i env = .ok (.bo (.ol xs)) := by unfold dVar; rw [h]
theorem ev_varK {i : Nat} {xs : List (Key × FV)} (h : env[i]? = some (some (.oK xs))) : dVar i env = .ok (.bo (.oK xs)) := by unfold dVar; rw [h]
theorem ev_bin {op : OV → OV → Option OV} {f g : DE} {r q : Rv} (h : f env = .ok r) (h2 : g env = .ok q) (h3 : op r.ov q.ov = some o) : dBin op f g env = .ok (.st o) := by unfold dBin; rw [h, bind_ok, h2, bind_ok, h3]; rfl
theorem ev_un {op : OV → Option OV} {f : DE} {r : Rv} (h : f env = .ok r) (h3 : op r.ov = some o) : dUn op f env = .ok (.st o) := by unfold dUn; rw [h, bind_ok, h3]; rfl
theorem ev_nil : dNil env = .ok [] := rfl
theorem ev_cons {f : DE} {g : VEnv → Ans (List Rv)} {r : Rv} {rs : List Rv} (h : f env = .ok r) (h2 : g env = .ok rs) : dCons f g env = .ok (r :: rs) := by unfold dCons; rw [h, bind_ok, h2]; rfl
theorem ev_frz {f : DE} (h : f env = .ok (.st o)) : dFrz f env = .ok (.st (.fz o.fv)) := by unfold dFrz; rw [h]; rfl
theorem ev_call {m : FM} {g : VEnv → Ans (List Rv)} {rs : List Rv} (h : g env = .ok rs) (h2 : m (rs.map Rv.fv) = .ok o) (h3 : rs.all Rv.isFz = true ∨ o.clean = true) : dCall m g env = .ok (.st o) := by
  unfold dCall
  rw [h, bind_ok, h2, bind_ok, if_pos]
  rw [Bool.or_eq_true]
  exact h3
theorem ev_callB {op : List OV → Option OV} {g : VEnv → Ans (List Rv)} {rs : List Rv} (h : g env = .ok rs) (h2 : op (rs.map Rv.ov) = some o) : dCallB op g env = .ok (.st o) := by unfold dCallB; rw [h, bind_ok, h2]; rfl
theorem ev_meth {ok : OV → Bool} {op : OV → List OV → Option OV} {f : DE} {g : VEnv → Ans (List Rv)} {r : Rv} {rs : List Rv} (h : f env = .ok r) (hk : ok r.ov = true) (h1 : g env = .ok rs) (h2 : op r.ov (rs.map Rv.ov) = some o) : dMeth ok op f g env = .ok (.st o) := by unfold dMeth; rw [h, bind_ok, if_pos hk, h1, bind_ok, h2]; rfl
theorem ev_list {g : VEnv → Ans (List Rv)} {rs : List Rv} {xs : List FV} (h : g env = .ok rs) (h1 : rs.length ≤ 1000) (h2 : allFz rs = some xs) : dList g env = .ok (.st (.ol xs)) := by unfold dList; rw [h, bind_ok, if_pos h1, h2]
theorem ev_tup {g : VEnv → Ans (List Rv)} {rs : List Rv} {xs : List FV} (h : g env = .ok rs) (h1 : rs.length ≤ 1000) (h2 : allFz rs = some xs) : dTup g env = .ok (.st (.fz (.tup xs))) := by unfold dTup; rw [h, bind_ok, if_pos h1, h2]
theorem ev_sub {f g : DE} {r q t : Rv} (h : f env = .ok r) (h2 : g env = .ok q) (h3 : FV.frozenKey q.ov = true) (h4 : opSub' r.ov q.ov = some t) : dSub f g env = .ok t := by unfold dSub; rw [h, bind_ok, h2, bind_ok, if_pos h3, h4]; rfl
theorem ev_range {f : DE} {r : Rv} {n : Nat} (h : f env = .ok r) (h2 : r.ov = .fz (.int (n : Int))) (h3 : n < 2 ^ 60) : dRange f env = .ok ((List.range n).map fun i => .int (i : Nat)) := by
  unfold dRange
  rw [h, bind_ok, h2]
  simp only
  rw [if_pos ⟨by omega, by omega⟩, Int.toNat_natCast]
theorem ev_items {f : DE} {xs : List FV} (h : f env = .ok (.st (.ol xs)) ∨ f env = .ok (.st (.fz (.lst xs))) ∨ f env = .ok (.st (.fz (.tup xs)))) : dItems f env = .ok xs := by
  unfold dItems
  rcases h with h | h | h <;> (rw [h]; rfl)
theorem ev_cItems {f : DE} {r : Rv} {xs : List FV} (h : f env = .ok r) (hs : sbR env r = true) (h2 : r.ov = .ol xs ∨ r.ov = .fz (.lst xs) ∨ r.ov = .fz (.tup xs)) : cItems f env = .ok xs := by
  unfold cItems
  rw [h, bind_ok, if_pos hs, rfv]
  rcases h2 with h | h | h <;> (rw [h]; rfl)
theorem ev_app {f : DE} {i : Nat} {p p' : OV} (h : env[i]? = some (some p)) (hl : p.isL = true) (h2 : f env = .ok (.st o)) (hs : p.size < BIG) (h3 : p.app o = some p') : dApp i f env = .ok (.nx (env.set i (some p'))) := by
  unfold dApp
  rw [h]
  simp only
  rw [if_pos hl, h2, bind_ok]
  simp only
  rw [if_pos hs, h3]
theorem ev_appPop {f : DE} {i j m : Nat} {p p' : OV} {xs : List FV} {r : Rv} (h : env[i]? = some (some p)) (hj : env[j]? = some (some (.ol xs))) (hl : p.isL = true) (hij : i ≠ j) (hz : xs.length ≤ BIG) (hs : p.size < BIG) (h2 : f env = .ok r) (h3 : r.ov = .fz (.int (m : Int))) (h4 : xs[m]? = some x) (h5 : p.app (.fz x) = some p') :
    dAppPop i j f env = .ok (.nx ((env.set j (some (.ol (xs.eraseIdx m)))).set i (some p'))) := by
  have hm : m < xs.length := (List.getElem?_eq_some_iff.mp h4).1
  have hx : ixN xs.length (m : Int) = some m := by
    unfold ixN
    rw [if_pos (by omega), if_pos (by omega), Int.toNat_natCast]
  unfold dAppPop
  rw [h, hj]
  simp only
  rw [if_pos (by simp [hl, hij, hz, hs]), h2, bind_ok, rfv, h3]
  simp only [fv_fz, hx, h4, h5]
theorem ev_put {fk fe : DE} {i : Nat} {p p' : OV} {r : Rv} (h : env[i]? = some (some p)) (hl : (p.isL || p.isD2) = true) (h2 : fe env = .ok (.st o)) (h3 : fk env = .ok r) (hs : p.size < BIG) (h4 : p.put r.fv o = some p') : dPut i fk fe env = .ok (.nx (env.set i (some p'))) := by
  unfold dPut
  rw [h]
  simp only
  rw [if_pos hl, h2, bind_ok]
  simp only
  rw [h3, bind_ok, if_pos hs, h4]
theorem ev_run {n : Nat} {f : DS} {as : List FV} (h : f (startE n as) = .ok (.rt o e)) : runF n f as = .ok o := by unfold runF; rw [h]
theorem ev_seqN {f g : DS} {r : Ans SO} (h : f env = .ok (.nx e)) (h2 : g e = r) : dSeq f g env = r := by rw [ev_seq, h, so_nx, h2]
theorem ev_seqR {f g : DS} {e2 : VEnv} (h : f env = .ok (.rt o e2)) : dSeq f g env = .ok (.rt o e2) := by rw [ev_seq, h, so_rt]
theorem ev_ifT' {d : DT} {f g : DS} {r : Ans SO} (h : d env = .ok true) (h2 : f env = r) : dIf d f g env = r := by rw [ev_ifT h, h2]
theorem ev_ifF' {d : DT} {f g : DS} {r : Ans SO} (h : d env = .ok false) (h2 : g env = r) : dIf d f g env = r := by rw [ev_ifF h, h2]
theorem ev_ice' {i : Nat} {f : DS} {r : Ans SO} (h : env[i]? = some (some o)) (h2 : f (env.set i (some (.fz o.fv))) = r) : dIce i f env = r := by rw [ev_ice h, h2]
theorem ev_andT' {f g : DT} {r : Ans Bool} (h : f env = .ok true) (h2 : g env = r) : dAndT f g env = r := by rw [ev_andT h, h2]
theorem ev_orF' {f g : DT} {r : Ans Bool} (h : f env = .ok false) (h2 : g env = r) : dOrT f g env = r := by rw [ev_orF h, h2]
theorem ev_andVT' {f g : DE} {r : Ans Rv} (h : f env = .ok (.st (.fz (.bl true)))) (h2 : g env = r) : dAndV f g env = r := by rw [ev_andVT h, h2]
end
section
variable {i j : Int} {b : Bool} {env : VEnv}
theorem e_add : opAdd (.fz (.int i)) (.fz (.int j)) = some (.fz (.int (i + j))) := rfl
theorem e_sub : opSub (.fz (.int i)) (.fz (.int j)) = some (.fz (.int (i - j))) := rfl
theorem e_mul (h : mulOk i j = true) : opMul (.fz (.int i)) (.fz (.int j)) = some (.fz (.int (i * j))) := if_pos h
theorem e_mod (h : 0 < j) : opMod (.fz (.int i)) (.fz (.int j)) = some (.fz (.int (i % j))) := if_pos h
theorem e_shr (h : 0 ≤ j) : opShr (.fz (.int i)) (.fz (.int j)) = some (.fz (.int (i / 2 ^ j.toNat))) := if_pos h
theorem e_eq : opEq (.fz (.int i)) (.fz (.int j)) = some (.fz (.bl (decide (i = j)))) := rfl
theorem e_ne : opNe (.fz (.int i)) (.fz (.int j)) = some (.fz (.bl (!decide (i = j)))) := rfl
theorem mulL {i j : Int} (h : i.natAbs < 2 ^ 62) : mulOk i j = true := by unfold mulOk; rw [Bool.or_eq_true, Bool.or_eq_true]; exact .inl (.inl (decide_eq_true h))
theorem mulR {i j : Int} (h : j.natAbs < 2 ^ 62) : mulOk i j = true := by unfold mulOk; rw [Bool.or_eq_true, Bool.or_eq_true]; exact .inl (.inr (decide_eq_true h))
/-- a test that is known -/
theorem ev_testB {f : DE} {b : Bool} (h : f env = .ok (.st (.fz (.bl b)))) {c : Bool} (e : b = c) : dTest f env = .ok c := by rw [ev_test h, e]
theorem ev_notB {f : DT} {b c : Bool} (h : f env = .ok b) (e : (!b) = c) : dNotT f env = .ok c := by rw [ev_notT h, e]
end
end J
namespace J
open PySem PySem.Spec PyProof.Rows L2
/-! ### typed values and how they stand as plain ones -/
abbrev Chr := Fin 128
def sxS (s : List Chr) : Str := ⟨(s.map Fin.val).toArray⟩
section
variable {α β γ κ : Type}
abbrev eI : Int → FV := FV.int
abbrev eB : Bool → FV := FV.bl
abbrev eC : Chr → FV := fun c => .str ⟨#[c.val]⟩
abbrev eS : List Chr → FV := fun s => .str (sxS s)
abbrev eU : Unit → FV := fun _ => .non
abbrev eL (e : α → FV) : List α → FV := fun xs => .lst (xs.map e)
abbrev eT (e : α → FV) : List α → FV := fun xs => .tup (xs.map e)
abbrev eP (e : α → FV) (d : β → FV) : α × β → FV := fun p => .tup [e p.1, d p.2]
abbrev eP3 (e : α → FV) (d : β → FV) (c : γ → FV) : α × β × γ → FV := fun p => .tup [e p.1, d p.2.1, c p.2.2]
def eO (e : α → FV) : Option α → FV
  | none => .non
  | some a => e a
abbrev kC : Chr → Key := fun c => .inr ⟨#[c.val]⟩
abbrev kS : List Chr → Key := fun s => .inr (sxS s)
abbrev kI : Int → Key := .inl
abbrev eK (k : κ → Key) (e : α → FV) : List (κ × α) → FV := fun d => .dK (d.map fun p => (k p.1, e p.2))
abbrev eD (k : κ → Key) (e : α → FV) : List (List κ × α) → FV := fun d => .dT (d.map fun p => (p.1.map k, e p.2))
abbrev oF (e : α → FV) : α → OV := fun x => .fz (e x)
abbrev oL (e : α → FV) : List α → OV := fun xs => .ol (xs.map e)
abbrev oK (k : κ → Key) (e : α → FV) : List (κ × α) → OV := fun d => .oK (d.map fun p => (k p.1, e p.2))
abbrev oD (k : κ → Key) (e : α → FV) : List (List κ × α) → OV := fun d => .oT (d.map fun p => (p.1.map k, e p.2))
abbrev oLL (o : α → OV) : List α → OV := fun xs => .dl (xs.map o)
def oO (o : α → OV) : Option α → OV
  | none => .fz .non
  | some a => o a
def eZ (e : α → FV) : List α → FV
  | [] => .tup []
  | x :: xs => .tuz ((x :: xs).map e)
/-- comparable: data, not deep; equal just where the typed values are -/
structure EnP (n : Nat) (e : α → FV) : Prop where
  d : ∀ a, ∃ p, (e a).toD = some p ∧ p.canLay0 = true ∧ p.depth ≤ n
  inj : ∀ a b p q, (e a).toD = some p → (e b).toD = some q → (PyData.eqv p q = true ↔ a = b)
/-- not None -/
structure NN (e : α → FV) : Prop where
  n : ∀ a, (e a).isNon = false
theorem sxS_inj {a b : List Chr} (h : sxS a = sxS b) : a = b := by
  unfold sxS at h
  injection h with h
  have h2 : (a.map Fin.val) = (b.map Fin.val) := by simpa using congrArg Array.toList h
  exact (List.map_inj_right (fun x y e => Fin.ext e)).mp h2
theorem sxS_ok (s : List Chr) : PyData.strOk (sxS s) = true := by
  unfold PyData.strOk sxS
  simp
  intro x _
  omega
theorem epI : EnP 0 eI := ⟨fun a => ⟨.int a, rfl, rfl, Nat.le_refl _⟩, fun a b p q h1 h2 => by cases h1; cases h2; simp [PyData.eqv]⟩
theorem epU : EnP 0 eU := ⟨fun a => ⟨.none, rfl, rfl, Nat.le_refl _⟩, fun a b p q h1 h2 => by cases h1; cases h2; simp [PyData.eqv]⟩
theorem epS : EnP 0 eS := ⟨fun a => ⟨.str (sxS a), rfl, by rw [PyData.canLay0]; exact sxS_ok a, Nat.le_refl _⟩, fun a b p q h1 h2 => by
  cases h1; cases h2
  rw [PyData.eqv]
  exact ⟨fun h => sxS_inj (by simpa using h), fun h => by rw [h]; simp⟩⟩
theorem epC : EnP 0 eC := ⟨fun a => ⟨.str (sxS [a]), rfl, by rw [PyData.canLay0]; exact sxS_ok [a], Nat.le_refl _⟩, fun a b p q h1 h2 => by
  cases h1; cases h2
  rw [PyData.eqv]
  exact ⟨fun h => by
    have h : (⟨#[a.val]⟩ : Str) = ⟨#[b.val]⟩ := by simpa using h
    injection h with h
    simp at h
    exact Fin.ext h, fun h => by rw [h]; simp⟩⟩
theorem nnI : NN eI := ⟨fun _ => rfl⟩
theorem nnB : NN eB := ⟨fun _ => rfl⟩
theorem nnC : NN eC := ⟨fun _ => rfl⟩
theorem nnS : NN eS := ⟨fun _ => rfl⟩
section
variable {e : α → FV} {d : β → FV} {c : γ → FV} {n m k : Nat}
theorem nnL : NN (eL e) := ⟨fun _ => rfl⟩
theorem nnT : NN (eT e) := ⟨fun _ => rfl⟩
theorem nnZ : NN (eZ e) := ⟨fun a => by cases a <;> rfl⟩
theorem nnP : NN (eP e d) := ⟨fun _ => rfl⟩
theorem nnP3 : NN (eP3 e d c) := ⟨fun _ => rfl⟩
theorem nnK {κ : Type} {k : κ → Key} : NN (eK k e) := ⟨fun _ => rfl⟩
theorem nnD {κ : Type} {k : κ → Key} : NN (eD k e) := ⟨fun _ => rfl⟩
theorem EnP.mono (h : EnP n e) (hm : n ≤ m) : EnP m e := ⟨fun a => let ⟨p, h1, h2, h3⟩ := h.d a; ⟨p, h1, h2, Nat.le_trans h3 hm⟩, h.inj⟩
theorem EnP.L (h : EnP n e) : ∀ xs : List α, ∃ ds, FV.toDL (xs.map e) = some ds ∧ PyData.canLayAll0 ds = true ∧ PyData.depthAll ds ≤ n
  | [] => ⟨[], rfl, rfl, Nat.zero_le _⟩
  | x :: xs => by
    obtain ⟨p, h1, h2, h3⟩ := h.d x
    obtain ⟨ds, q1, q2, q3⟩ := EnP.L h xs
    exact ⟨p :: ds, by rw [List.map_cons, FV.toDL, h1, q1], by rw [PyData.canLayAll0, h2, q2]; rfl, by rw [PyData.depthAll]; exact Nat.max_le.mpr ⟨h3, q3⟩⟩
theorem EnP.Linj (h : EnP n e) : ∀ {xs ys : List α} {ds es : List PyData}, FV.toDL (xs.map e) = some ds → FV.toDL (ys.map e) = some es → (PyData.eqvAll ds es = true ↔ xs = ys)
  | [], [], _, _, h1, h2 => by cases h1; cases h2; simp [PyData.eqvAll]
  | [], y :: ys, _, _, h1, h2 => by
    cases h1
    obtain ⟨p, e1, _⟩ := h.d y
    obtain ⟨ds, e3, _⟩ := EnP.L h ys
    rw [List.map_cons, FV.toDL, e1, e3] at h2
    cases h2
    simp [PyData.eqvAll]
  | x :: xs, [], _, _, h2, h1 => by
    cases h1
    obtain ⟨p, e1, _⟩ := h.d x
    obtain ⟨ds, e3, _⟩ := EnP.L h xs
    rw [List.map_cons, FV.toDL, e1, e3] at h2
    cases h2
    simp [PyData.eqvAll]
  | x :: xs, y :: ys, _, _, h1, h2 => by
    obtain ⟨p, e1, _⟩ := h.d x
    obtain ⟨ds, e3, _⟩ := EnP.L h xs
    rw [List.map_cons, FV.toDL, e1, e3] at h1
    cases h1
    obtain ⟨p', e1', _⟩ := h.d y
    obtain ⟨ds', e3', _⟩ := EnP.L h ys
    rw [List.map_cons, FV.toDL, e1', e3'] at h2
    cases h2
    rw [PyData.eqvAll, Bool.and_eq_true, h.inj x y _ _ e1 e1', EnP.Linj h e3 e3']
    simp
theorem map_inj_of {f : α → β} (h : ∀ a b, f a = f b → a = b) : ∀ {xs ys : List α}, xs.map f = ys.map f → xs = ys
  | [], [], _ => rfl
  | [], _ :: _, e => by simp at e
  | _ :: _, [], e => by simp at e
  | x :: xs, y :: ys, e => by
    rw [List.map_cons, List.map_cons] at e
    injection e with e1 e2
    rw [h _ _ e1, map_inj_of h e2]
theorem epL (h : EnP n e) : EnP (n + 1) (eL e) := ⟨fun a => by
    obtain ⟨ds, h1, h2, h3⟩ := h.L a
    exact ⟨.list ds, by rw [FV.toD, h1]; rfl, by rw [PyData.canLay0]; exact h2, by rw [PyData.depth]; omega⟩, fun a b p q h1 h2 => by
    obtain ⟨ds, e1, rfl⟩ := Option.map_eq_some_iff.mp (show (FV.toDL (a.map e)).map PyData.list = some p from h1)
    obtain ⟨es, e2, rfl⟩ := Option.map_eq_some_iff.mp (show (FV.toDL (b.map e)).map PyData.list = some q from h2)
    rw [PyData.eqv]
    exact h.Linj e1 e2⟩
theorem epT (h : EnP n e) : EnP (n + 1) (eT e) := ⟨fun a => by
    obtain ⟨ds, h1, h2, h3⟩ := h.L a
    exact ⟨.tuple ds, by rw [FV.toD, h1]; rfl, by rw [PyData.canLay0]; exact h2, by rw [PyData.depth]; omega⟩, fun a b p q h1 h2 => by
    obtain ⟨ds, e1, rfl⟩ := Option.map_eq_some_iff.mp (show (FV.toDL (a.map e)).map PyData.tuple = some p from h1)
    obtain ⟨es, e2, rfl⟩ := Option.map_eq_some_iff.mp (show (FV.toDL (b.map e)).map PyData.tuple = some q from h2)
    rw [PyData.eqv]
    exact h.Linj e1 e2⟩
theorem eZ_toD (a : List α) : (eZ e a).toD = (FV.toDL (a.map e)).map PyData.tuple := by cases a <;> rfl
theorem epZ (h : EnP n e) : EnP (n + 1) (eZ e) := ⟨fun a => by
    obtain ⟨ds, h1, h2, h3⟩ := h.L a
    exact ⟨.tuple ds, by rw [eZ_toD, h1]; rfl, by rw [PyData.canLay0]; exact h2, by rw [PyData.depth]; omega⟩, fun a b p q h1 h2 => by
    obtain ⟨ds, e1, rfl⟩ := Option.map_eq_some_iff.mp ((eZ_toD (e := e) a).symm.trans h1)
    obtain ⟨es, e2, rfl⟩ := Option.map_eq_some_iff.mp ((eZ_toD (e := e) b).symm.trans h2)
    rw [PyData.eqv]
    exact h.Linj e1 e2⟩
theorem epP (h : EnP n e) (g : EnP m d) : EnP (max n m + 1) (eP e d) := ⟨fun a => by
    obtain ⟨p, h1, h2, h3⟩ := h.d a.1
    obtain ⟨q, g1, g2, g3⟩ := g.d a.2
    refine ⟨.tuple [p, q], by rw [FV.toD, FV.toDL, FV.toDL, FV.toDL, h1, g1]; rfl, by rw [PyData.canLay0, PyData.canLayAll0, PyData.canLayAll0, PyData.canLayAll0, h2, g2]; rfl, ?_⟩
    rw [PyData.depth, PyData.depthAll, PyData.depthAll, PyData.depthAll]
    omega, fun a b x y q1 q2 => by
    obtain ⟨p, h1, h2, h3⟩ := h.d a.1
    obtain ⟨q, g1, g2, g3⟩ := g.d a.2
    obtain ⟨p', h1', _, _⟩ := h.d b.1
    obtain ⟨q', g1', _, _⟩ := g.d b.2
    rw [FV.toD, FV.toDL, FV.toDL, FV.toDL, h1, g1] at q1
    rw [FV.toD, FV.toDL, FV.toDL, FV.toDL, h1', g1'] at q2
    cases q1
    cases q2
    rw [PyData.eqv, PyData.eqvAll, PyData.eqvAll, PyData.eqvAll, Bool.and_eq_true, Bool.and_eq_true, h.inj _ _ _ _ h1 h1', g.inj _ _ _ _ g1 g1']
    exact ⟨fun z => Prod.ext z.1 z.2.1, fun z => ⟨by rw [z], by rw [z], rfl⟩⟩⟩
theorem epP3 (h : EnP n e) (g : EnP m d) (f : EnP k c) : EnP (max n (max m k) + 1) (eP3 e d c) := ⟨fun a => by
    obtain ⟨p, h1, h2, h3⟩ := h.d a.1
    obtain ⟨q, g1, g2, g3⟩ := g.d a.2.1
    obtain ⟨r, f1, f2, f3⟩ := f.d a.2.2
    refine ⟨.tuple [p, q, r], by rw [FV.toD, FV.toDL, FV.toDL, FV.toDL, FV.toDL, h1, g1, f1]; rfl, by rw [PyData.canLay0, PyData.canLayAll0, PyData.canLayAll0, PyData.canLayAll0, PyData.canLayAll0, h2, g2, f2]; rfl, ?_⟩
    rw [PyData.depth, PyData.depthAll, PyData.depthAll, PyData.depthAll, PyData.depthAll]
    omega, fun a b x y q1 q2 => by
    obtain ⟨p, h1, h2, h3⟩ := h.d a.1
    obtain ⟨q, g1, g2, g3⟩ := g.d a.2.1
    obtain ⟨r, f1, f2, f3⟩ := f.d a.2.2
    obtain ⟨p', h1', _, _⟩ := h.d b.1
    obtain ⟨q', g1', _, _⟩ := g.d b.2.1
    obtain ⟨r', f1', _, _⟩ := f.d b.2.2
    rw [FV.toD, FV.toDL, FV.toDL, FV.toDL, FV.toDL, h1, g1, f1] at q1
    rw [FV.toD, FV.toDL, FV.toDL, FV.toDL, FV.toDL, h1', g1', f1'] at q2
    cases q1
    cases q2
    rw [PyData.eqv, PyData.eqvAll, PyData.eqvAll, PyData.eqvAll, PyData.eqvAll, Bool.and_eq_true, Bool.and_eq_true, Bool.and_eq_true, h.inj _ _ _ _ h1 h1', g.inj _ _ _ _ g1 g1', f.inj _ _ _ _ f1 f1']
    exact ⟨fun z => Prod.ext z.1 (Prod.ext z.2.1 z.2.2.1), fun z => ⟨by rw [z], by rw [z], by rw [z], rfl⟩⟩⟩
theorem NN.toD (hn : NN e) (a : α) : (e a).toD ≠ some .none := fun h => by
  have := hn.n a
  revert h this
  cases e a <;> simp [FV.toD, FV.isNon]
theorem eqv_none : ∀ p : PyData, p ≠ .none → PyData.eqv .none p = false ∧ PyData.eqv p .none = false := fun p h => by
  cases p <;> simp [PyData.eqv] at h ⊢
theorem epO (h : EnP n e) (hn : NN e) : EnP n (eO e) := ⟨fun a => by
    cases a with
    | none => exact ⟨.none, rfl, rfl, Nat.zero_le _⟩
    | some a => exact h.d a, fun a b p q h1 h2 => by
    cases a with
    | none => cases b with
      | none => cases h1; cases h2; simp [PyData.eqv]
      | some b =>
        cases h1
        have := hn.toD b
        rw [(eqv_none q fun z => this (by rw [← z]; exact h2)).1]
        simp
    | some a => cases b with
      | none =>
        cases h2
        have := hn.toD a
        rw [(eqv_none p fun z => this (by rw [← z]; exact h1)).2]
        simp
      | some b => rw [h.inj a b p q h1 h2]; simp⟩
end
/-! ### pure (no list within) -/
section
variable {e : α → FV} {d : β → FV} {c : γ → FV} {n m k : Nat}
structure EPu (e : α → FV) : Prop where
  p : ∀ a, (e a).pure = true
theorem pureL_all : ∀ {xs : List FV}, (∀ x ∈ xs, x.pure = true) → FV.pureL xs = true
  | [], _ => rfl
  | x :: xs, h => by
    unfold FV.pureL
    rw [h x List.mem_cons_self, pureL_all fun y hy => h y (List.mem_cons_of_mem _ hy)]
    rfl
theorem EPu.L (h : EPu e) (xs : List α) : FV.pureL (xs.map e) = true := pureL_all fun x hx => by
  obtain ⟨a, _, rfl⟩ := List.mem_map.mp hx
  exact h.p a
theorem puI : EPu eI := ⟨fun _ => rfl⟩
theorem puB : EPu eB := ⟨fun _ => rfl⟩
theorem puU : EPu eU := ⟨fun _ => rfl⟩
theorem puC : EPu eC := ⟨fun _ => rfl⟩
theorem puS : EPu eS := ⟨fun _ => rfl⟩
theorem puZ (h : EPu e) : EPu (eZ e) := ⟨fun a => by
  cases a with
  | nil => rfl
  | cons x xs => show FV.pure (.tuz ((x :: xs).map e)) = true; rw [FV.pure]; exact h.L _⟩
theorem puT (h : EPu e) : EPu (eT e) := ⟨fun a => by rw [FV.pure]; exact h.L a⟩
theorem puP (h : EPu e) (g : EPu d) : EPu (eP e d) := ⟨fun a => by rw [FV.pure, FV.pureL, FV.pureL, FV.pureL, h.p, g.p]; rfl⟩
theorem puP3 (h : EPu e) (g : EPu d) (f : EPu c) : EPu (eP3 e d c) := ⟨fun a => by rw [FV.pure, FV.pureL, FV.pureL, FV.pureL, FV.pureL, h.p, g.p, f.p]; rfl⟩
theorem puO (h : EPu e) : EPu (eO e) := ⟨fun a => by cases a with | none => rfl | some a => exact h.p a⟩
end
end
/-! ### judgements: where the typed function answers, so does the plain one -/
section
variable {α β γ δ σ ρ κ : Type}
def OE (x : Ans δ) (tt : Option γ) (R : γ → δ) : Prop := ∀ v, tt = some v → x = .ok (R v)
def SG (x : Ans SO) (tt : Option γ) (P : γ → SO → Prop) : Prop := ∀ g, tt = some g → ∃ so, x = .ok so ∧ P g so
def PR (O : γ → OV) : γ → SO → Prop := fun v so => ∃ e, so = .rt (O v) e
def PN (E : γ → VEnv → Prop) : γ → SO → Prop := fun s so => ∃ e, so = .nx e ∧ E s e
inductive Ctl (σ ρ : Type) where
  | nx (s : σ)
  | bk (s : σ)
  | rt (r : ρ)
def PC (E : σ → VEnv → Prop) (B : σ → VEnv → Prop) (O : ρ → OV) : Ctl σ ρ → SO → Prop
  | .nx s, so => ∃ e, so = .nx e ∧ E s e
  | .bk s, so => ∃ e, so = .bk e ∧ B s e
  | .rt r, so => ∃ e, so = .rt (O r) e
/-- behind a loop: nx or rt -/
def PL (B : σ → VEnv → Prop) (O : ρ → OV) : Ctl σ ρ → SO → Prop
  | .nx s, so => ∃ e, so = .nx e ∧ B s e
  | .bk s, so => ∃ e, so = .nx e ∧ B s e
  | .rt r, so => ∃ e, so = .rt (O r) e
theorem oe_bind {x : Ans δ} {o : Option α} {k : α → Option γ} {R : γ → δ} (h : ∀ a, o = some a → OE x (k a) R) : OE x (o.bind k) R := fun v hv => by
  cases o with
  | none => cases hv
  | some a => exact h a rfl v hv
theorem oe_ret {x : Ans δ} {v : γ} {R : γ → δ} (h : x = .ok (R v)) : OE x (some v) R := fun w hw => by cases hw; exact h
theorem oe_if {x : Ans δ} {b : Bool} {t u : Option γ} {R : γ → δ} (h : b = true → OE x t R) (h2 : b = false → OE x u R) : OE x (if b then t else u) R := fun w hw => by
  cases b with
  | true => exact h rfl w hw
  | false => exact h2 rfl w hw
variable {P : γ → SO → Prop} {tt : Option γ} {env : VEnv} {f : DE} {D A B : DS} {o : OV}
theorem sg_bind {x : Ans SO} {o : Option α} {k : α → Option γ} (h : ∀ a, o = some a → SG x (k a) P) : SG x (o.bind k) P := fun v hv => by
  cases o with
  | none => cases hv
  | some a => exact h a rfl v hv
theorem sg_env {e2 : VEnv} (h : env = e2) (h2 : SG (D e2) tt P) : SG (D env) tt P := by rw [h]; exact h2
theorem sg_set {i : Nat} (h : f env = .ok (.st o)) (h2 : SG (D (env.set i (some o))) tt P) : SG (dSeq (dSet i f) D env) tt P := by
  rw [ev_seqN (ev_set h) rfl]; exact h2
theorem sg_expr {r : Rv} (h : f env = .ok r) (h2 : SG (D env) tt P) : SG (dSeq (dExpr f) D env) tt P := by
  rw [ev_seqN (e := env) (by unfold dExpr; rw [h]; rfl) rfl]; exact h2
theorem sg_skip (h2 : SG (D env) tt P) : SG (dSeq dSkip D env) tt P := h2
theorem so_assoc {A B C : VEnv → Ans SO} (x : Ans SO) : SO.bind (SO.bind x A) B = SO.bind x (fun e => SO.bind (A e) B) := by
  cases x with
  | ok s => cases s <;> rfl
  | ex c => rfl
  | no => rfl
theorem sg_assoc {C : DS} (h : SG (dSeq A (dSeq B C) env) tt P) : SG (dSeq (dSeq A B) C env) tt P := by
  have e : dSeq (dSeq A B) C env = dSeq A (dSeq B C) env := so_assoc (C := C) (A env)
  rw [e]; exact h
theorem sg_seq {E : α → VEnv → Prop} {t1 : Option α} {t2 : α → Option γ} (h : SG (A env) t1 (PN E)) (h2 : ∀ s e, E s e → SG (B e) (t2 s) P) : SG (dSeq A B env) (t1.bind t2) P := fun v hv => by
  cases h1 : t1 with
  | none => rw [h1] at hv; cases hv
  | some a =>
    rw [h1] at hv
    obtain ⟨so, q1, e, rfl, q2⟩ := h a h1
    rw [ev_seqN q1 rfl]
    exact h2 a e q2 v hv
/-- a loop that may return, then the rest -/
def behind (k : ρ → γ) (t2 : σ → Option γ) : Ctl σ ρ → Option γ
  | .nx s => t2 s
  | .bk s => t2 s
  | .rt r => some (k r)
theorem sg_seqL {E : σ → VEnv → Prop} {O : ρ → OV} {t1 : Option (Ctl σ ρ)} {t2 : σ → Option γ} {k : ρ → γ} (h : SG (A env) t1 (PL E O)) (h3 : ∀ r e, P (k r) (.rt (O r) e)) (h2 : ∀ s e, E s e → SG (B e) (t2 s) P) :
    SG (dSeq A B env) (t1.bind (behind k t2)) P := fun v hv => by
  cases h1 : t1 with
  | none => rw [h1] at hv; cases hv
  | some a =>
    rw [h1] at hv
    obtain ⟨so, q1, q2⟩ := h a h1
    cases a with
    | nx s =>
      obtain ⟨e, rfl, q2⟩ := q2
      rw [ev_seqN q1 rfl]
      exact h2 s e q2 v hv
    | bk s =>
      obtain ⟨e, rfl, q2⟩ := q2
      rw [ev_seqN q1 rfl]
      exact h2 s e q2 v hv
    | rt r =>
      obtain ⟨e, rfl⟩ := q2
      cases hv
      rw [ev_seqR q1]
      exact ⟨_, rfl, h3 r e⟩
theorem sg_if {c : DT} {b : Bool} {t u : Option γ} (h : c env = .ok b) (h1 : b = true → SG (A env) t P) (h2 : b = false → SG (B env) u P) : SG (dIf c A B env) (if b then t else u) P := by
  cases b with
  | true => rw [ev_ifT h]; exact h1 rfl
  | false => rw [ev_ifF h]; exact h2 rfl
/-- a test, what follows pushed into both ways -/
theorem sg_ifs {c : DT} {b : Bool} {t u : Option γ} (h : c env = .ok b) (h1 : b = true → SG (dSeq A D env) t P) (h2 : b = false → SG (dSeq B D env) u P) : SG (dSeq (dIf c A B) D env) (if b then t else u) P := by
  have e : dSeq (dIf c A B) D env = if b then dSeq A D env else dSeq B D env := by
    rw [ev_seq]
    cases b with
    | true => rw [ev_ifT h]; rfl
    | false => rw [ev_ifF h]; rfl
  rw [e]
  cases b with
  | true => exact h1 rfl
  | false => exact h2 rfl
theorem sg_ice {i : Nat} {x : FV} (h : env[i]? = some (some o)) (hx : o.fv = x) (h2 : SG (D (env.set i (some (.fz x)))) tt P) : SG (dIce i D env) tt P := by
  rw [ev_ice h, hx]; exact h2
theorem sg_iceF {i : Nat} {x : FV} (h : env[i]? = some (some (.fz x))) (h2 : SG (D env) tt P) : SG (dIce i D env) tt P := by
  rw [ev_iceQ' h]; exact h2
where
  ev_iceQ' {i : Nat} {f : DS} {env : VEnv} {x : FV} (h : env[i]? = some (some (.fz x))) : dIce i f env = f env := by
    have hset : env.set i (some (.fz (OV.fz x).fv)) = env := by
      apply List.ext_getElem?
      intro j
      by_cases hj : i = j
      · subst hj
        obtain ⟨hlt, _⟩ := List.getElem?_eq_some_iff.mp h
        rw [List.getElem?_set_self hlt, h]
        rfl
      · rw [List.getElem?_set_ne hj]
    rw [ev_ice h, hset]
def iceJ (j : Option OV) : Option OV := j.map fun o => .fz o.fv
theorem ev_iceJ {i : Nat} {j : Option OV} (h : env[i]? = some j) : dIce i D env = D (env.set i (iceJ j)) := by
  cases j with
  | some o => exact ev_ice h
  | none =>
    have hset : env.set i none = env := by
      apply List.ext_getElem?
      intro k
      by_cases hj : i = k
      · subst hj
        obtain ⟨hlt, _⟩ := List.getElem?_eq_some_iff.mp h
        rw [List.getElem?_set_self hlt, h]
      · rw [List.getElem?_set_ne hj]
    unfold dIce
    rw [h]
    show D env = D (env.set i none)
    rw [hset]
theorem sg_iceJ {i : Nat} {j : Option OV} (h : env[i]? = some j) (h2 : SG (D (env.set i (iceJ j))) tt P) : SG (dIce i D env) tt P := by
  rw [ev_iceJ h]; exact h2
/-- dIce i A; B  is  dIce i (A; B) -/
theorem sg_iceS {i : Nat} (h : SG (dIce i (dSeq A B) env) tt P) : SG (dSeq (dIce i A) B env) tt P := by
  have e : dSeq (dIce i A) B env = dIce i (dSeq A B) env := by
    rw [ev_seq]
    unfold dIce
    rcases env[i]? with _ | _ | o <;> rfl
  rw [e]; exact h
theorem sg_nx {E : γ → VEnv → Prop} {v : γ} {env : VEnv} (h : E v env) : SG (dSkip env) (some v) (PN E) := fun w hw => by cases hw; exact ⟨_, rfl, env, rfl, h⟩
theorem sg_of {P : γ → SO → Prop} {x : Ans SO} {so : SO} {v : γ} (h : x = .ok so) (hp : P v so) : SG x (some v) P := fun w hw => by cases hw; exact ⟨so, h, hp⟩
theorem sg_one {D : DS} (h : SG (dSeq D dSkip env) tt P) : SG (D env) tt P := by
  have e : dSeq D dSkip env = D env := by
    rw [ev_seq]
    cases h : D env with
    | ok s => cases s <;> rfl
    | ex c => rfl
    | no => rfl
  rw [← e]; exact h
theorem sg_ret {O : γ → OV} {v : γ} (h : f env = .ok (.st (O v))) : SG (dRet f env) (some v) (PR O) := sg_of (ev_ret h) ⟨_, rfl⟩
theorem sg_retS {v : γ} {o : OV} (h : f env = .ok (.st o)) (hp : ∀ e, P v (.rt o e)) : SG (dSeq (dRet f) D env) (some v) P := sg_of (ev_seqR (ev_ret h)) (hp _)
theorem sg_retVS {i : Nat} {v : γ} {o : OV} (h : env[i]? = some (some o)) (hp : ∀ e, P v (.rt o e)) : SG (dSeq (dRetV i) D env) (some v) P := sg_of (ev_seqR (ev_retV h)) (hp _)
theorem sg_brkS {v : γ} (hp : P v (.bk env)) : SG (dSeq dBrk D env) (some v) P := sg_of (by rw [ev_seq]; rfl) hp
theorem sg_app {i : Nat} {p p' : OV} (h : env[i]? = some (some p)) (hl : p.isL = true) (h2 : f env = .ok (.st o)) (hs : p.size < BIG) (h3 : p.app o = some p') (k : SG (D (env.set i (some p'))) tt P) : SG (dSeq (dApp i f) D env) tt P := by
  rw [ev_seqN (ev_app h hl h2 hs h3) rfl]; exact k
/-! ### loops -/
def forT (f : α → σ → Option σ) : List α → σ → Option σ
  | [], s => some s
  | x :: xs, s => (f x s).bind (forT f xs)
def forC (f : α → σ → Option (Ctl σ ρ)) : List α → σ → Option (Ctl σ ρ)
  | [], s => some (.nx s)
  | x :: xs, s => (f x s).bind fun c => match c with
    | .nx s => forC f xs s
    | .bk s => some (.bk s)
    | .rt r => some (.rt r)
theorem forL_sim {eA : α → FV} {t : TgF} {body : DS} {E : σ → VEnv → Prop} {tb : α → σ → Option σ} (hb : ∀ x s e, E s e → ∃ e1, t (eA x) e = some e1 ∧ SG (body e1) (tb x s) (PN E)) :
    ∀ (items : List α) (s : σ) (env : VEnv), E s env → SG (forL t body (items.map eA) env) (forT tb items s) (PN E)
  | [], s, env, h => fun g hg => by cases hg; exact ⟨_, rfl, env, rfl, h⟩
  | x :: xs, s, env, h => fun g hg => by
    unfold forT at hg
    obtain ⟨e1, q1, q2⟩ := hb x s env h
    cases ht : tb x s with
    | none => rw [ht] at hg; cases hg
    | some s' =>
      rw [ht] at hg
      obtain ⟨so, r1, e2, rfl, r2⟩ := q2 s' ht
      rw [List.map_cons]
      unfold forL
      rw [q1]
      simp only
      rw [r1]
      exact forL_sim hb xs s' e2 r2 g hg
theorem forC_sim {eA : α → FV} {t : TgF} {body : DS} {E B : σ → VEnv → Prop} {O : ρ → OV} {tb : α → σ → Option (Ctl σ ρ)} (hEB : ∀ s e, E s e → B s e) (hb : ∀ x s e, E s e → ∃ e1, t (eA x) e = some e1 ∧ SG (body e1) (tb x s) (PC E B O)) :
    ∀ (items : List α) (s : σ) (env : VEnv), E s env → SG (forL t body (items.map eA) env) (forC tb items s) (PL B O)
  | [], s, env, h => fun g hg => by cases hg; exact ⟨_, rfl, env, rfl, hEB _ _ h⟩
  | x :: xs, s, env, h => fun g hg => by
    unfold forC at hg
    obtain ⟨e1, q1, q2⟩ := hb x s env h
    cases ht : tb x s with
    | none => rw [ht] at hg; cases hg
    | some c =>
      rw [ht] at hg
      obtain ⟨so, r1, r2⟩ := q2 c ht
      rw [List.map_cons]
      unfold forL
      rw [q1]
      simp only
      rw [r1]
      cases c with
      | nx s' =>
        obtain ⟨e2, rfl, r2⟩ := r2
        exact forC_sim hEB hb xs s' e2 r2 g hg
      | bk s' =>
        obtain ⟨e2, rfl, r2⟩ := r2
        cases hg
        exact ⟨_, rfl, e2, rfl, r2⟩
      | rt r =>
        obtain ⟨e2, rfl⟩ := r2
        cases hg
        exact ⟨_, rfl, e2, rfl⟩
theorem sg_for {it : VEnv → Ans (List FV)} {eA : α → FV} {t : TgF} {body : DS} (E : σ → VEnv → Prop) {tb : α → σ → Option σ} {items : List α} {s : σ} (hi : it env = .ok (items.map eA)) (h : E s env) (hb : ∀ x s e, E s e → ∃ e1, t (eA x) e = some e1 ∧ SG (body e1) (tb x s) (PN E)) :
    SG (dFor it t body env) (forT tb items s) (PN E) := by
  unfold dFor
  rw [hi, bind_ok]
  exact forL_sim hb items s env h
theorem sg_forC {it : VEnv → Ans (List FV)} {eA : α → FV} {t : TgF} {body : DS} (E B : σ → VEnv → Prop) (O : ρ → OV) {tb : α → σ → Option (Ctl σ ρ)} {items : List α} {s : σ} (hi : it env = .ok (items.map eA)) (h : E s env) (hEB : ∀ s e, E s e → B s e) (hb : ∀ x s e, E s e → ∃ e1, t (eA x) e = some e1 ∧ SG (body e1) (tb x s) (PC E B O)) :
    SG (dFor it t body env) (forC tb items s) (PL B O) := by
  unfold dFor
  rw [hi, bind_ok]
  exact forC_sim hEB hb items s env h
/-- while -/
def whileTN (c : σ → Option Bool) (f : σ → Option (Ctl σ ρ)) : Nat → σ → Option (Ctl σ ρ)
  | 0, _ => none
  | n + 1, s => (c s).bind fun b => if b then (f s).bind fun r => (match r with
      | .nx s => whileTN c f n s
      | .bk s => some (.bk s)
      | .rt r => some (.rt r)) else some (.nx s)
open Classical in
noncomputable def whileT (c : σ → Option Bool) (f : σ → Option (Ctl σ ρ)) (s : σ) : Option (Ctl σ ρ) := if h : ∃ n, whileTN c f n s ≠ none then whileTN c f (Classical.choose h) s else none
theorem whileTN_mono {c : σ → Option Bool} {f : σ → Option (Ctl σ ρ)} : ∀ {n : Nat} {s : σ} {r : Ctl σ ρ}, whileTN c f n s = some r → ∀ m, n ≤ m → whileTN c f m s = some r
  | 0, _, _, h, _, _ => by cases h
  | n + 1, s, r, h, 0, hm => by omega
  | n + 1, s, r, h, m + 1, hm => by
    unfold whileTN at h ⊢
    cases hc : c s with
    | none => rw [hc] at h; cases h
    | some b =>
      rw [hc] at h
      simp only [Option.bind_some] at h ⊢
      cases b with
      | false => simpa using h
      | true =>
        simp only [if_true] at h ⊢
        cases hf : f s with
        | none => rw [hf] at h; cases h
        | some q =>
          rw [hf] at h
          simp only [Option.bind_some] at h ⊢
          cases q with
          | nx s' => exact whileTN_mono h m (by omega)
          | bk s' => exact h
          | rt s' => exact h
theorem whileT_of {c : σ → Option Bool} {f : σ → Option (Ctl σ ρ)} {n : Nat} {s : σ} {r : Ctl σ ρ} (h : whileTN c f n s = some r) : whileT c f s = some r := by
  unfold whileT
  have hx : ∃ n, whileTN c f n s ≠ none := ⟨n, by rw [h]; exact fun e => by cases e⟩
  rw [dif_pos hx]
  have h2 := Classical.choose_spec hx
  cases q : whileTN c f (Classical.choose hx) s with
  | none => exact absurd q h2
  | some r2 =>
    have a := whileTN_mono h (max n (Classical.choose hx)) (Nat.le_max_left _ _)
    have b := whileTN_mono q (max n (Classical.choose hx)) (Nat.le_max_right _ _)
    rw [← b, a]
theorem whileT_ex {c : σ → Option Bool} {f : σ → Option (Ctl σ ρ)} {s : σ} {r : Ctl σ ρ} (h : whileT c f s = some r) : ∃ n, whileTN c f n s = some r := by
  unfold whileT at h
  by_cases hx : ∃ n, whileTN c f n s ≠ none
  · rw [dif_pos hx] at h; exact ⟨_, h⟩
  · rw [dif_neg hx] at h; cases h
/-- by a measure: what holds at the start holds behind -/
theorem whileT_inv {c : σ → Option Bool} {f : σ → Option (Ctl σ ρ)} (I : Nat → σ → Prop) (Q : Ctl σ ρ → Prop) (hs : ∀ n s, I n s → (c s = some false ∧ Q (.nx s)) ∨ (c s = some true ∧ ((∃ s' m, f s = some (.nx s') ∧ m < n ∧ I m s') ∨ (∃ r, f s = some r ∧ (∀ s', r ≠ .nx s') ∧ Q r)))) : ∀ n s, I n s → ∃ r, whileT c f s = some r ∧ Q r := by
  have key : ∀ n s, I n s → ∃ k r, whileTN c f k s = some r ∧ Q r := by
    intro n
    induction n using Nat.strongRecOn with
    | ind n ih =>
      intro s h
      rcases hs n s h with ⟨h1, h2⟩ | ⟨h1, ⟨s', m, h2, h3, h4⟩ | ⟨r, h2, h3, h4⟩⟩
      · exact ⟨1, .nx s, by unfold whileTN; rw [h1]; rfl, h2⟩
      · obtain ⟨k, r, q1, q2⟩ := ih m h3 s' h4
        exact ⟨k + 1, r, by unfold whileTN; rw [h1]; simp only [Option.bind_some, if_true]; rw [h2]; exact q1, q2⟩
      · refine ⟨1, r, ?_, h4⟩
        unfold whileTN
        rw [h1]
        simp only [Option.bind_some, if_true]
        rw [h2]
        cases r with
        | nx s' => exact absurd rfl (h3 s')
        | bk s' => rfl
        | rt s' => rfl
  intro n s h
  obtain ⟨k, r, q1, q2⟩ := key n s h
  exact ⟨r, whileT_of q1, q2⟩
theorem sg_while {c : DT} {body : DS} (E B : σ → VEnv → Prop) (O : ρ → OV) {tc : σ → Option Bool} {tb : σ → Option (Ctl σ ρ)} {s : σ} (h : E s env) (hEB : ∀ s e, E s e → B s e) (hc : ∀ s e, E s e → OE (c e) (tc s) id) (hb : ∀ s e, E s e → SG (body e) (tb s) (PC E B O)) :
    SG (dWhile c body env) (whileT tc tb s) (PL B O) := fun g hg => by
  obtain ⟨n, hn⟩ := whileT_ex hg
  clear hg
  induction n generalizing s env with
  | zero => cases hn
  | succ n ih =>
    unfold whileTN at hn
    rw [dWhile_eq]
    unfold whileK
    cases hq : tc s with
    | none => rw [hq] at hn; cases hn
    | some b =>
      rw [hq] at hn
      rw [hc s env h b hq, bind_ok]
      simp only [id, Option.bind_some] at hn ⊢
      cases b with
      | false =>
        simp only [Bool.false_eq_true, if_false] at hn ⊢
        cases hn
        exact ⟨_, rfl, env, rfl, hEB _ _ h⟩
      | true =>
        simp only [if_true] at hn ⊢
        cases hf : tb s with
        | none => rw [hf] at hn; cases hn
        | some r =>
          rw [hf] at hn
          simp only [Option.bind_some] at hn
          obtain ⟨so, r1, r2⟩ := hb s env h r hf
          rw [r1, bind_ok]
          cases r with
          | nx s' =>
            obtain ⟨e2, rfl, r2⟩ := r2
            exact ih r2 hn
          | bk s' =>
            obtain ⟨e2, rfl, r2⟩ := r2
            cases hn
            exact ⟨_, rfl, e2, rfl, r2⟩
          | rt r =>
            obtain ⟨e2, rfl⟩ := r2
            cases hn
            exact ⟨_, rfl, e2, rfl⟩
end
end J
namespace J
open PySem PySem.Spec PyProof.Rows L2
section
variable {α β γ κ : Type} {e : α → FV} {d : β → FV} {env : VEnv} {x y o : OV} {n m : Nat}
def OV.nf : OV → Bool
  | .fz _ => false
  | _ => true
theorem ev_varO {i : Nat} (h : env[i]? = some (some o)) (ho : o.nf = true) : dVar i env = .ok (.bo o) := by
  unfold dVar
  rw [h]
  cases o with
  | fz x => cases ho
  | _ => rfl
theorem ev_cs {s : Str} {l : List Chr} (h : s = sxS l) : dC (.str s) env = .ok (.st (.fz (eS l))) := by rw [h]; rfl
theorem ev_cc {s : Str} {c : Chr} (h : s = ⟨#[c.val]⟩) : dC (.str s) env = .ok (.st (.fz (eC c))) := by rw [h]; rfl
theorem fvL_of {ov : α → OV} (h : ∀ a, (ov a).fv = e a) (xs : List α) : (oLL ov xs).fv = eL e xs := by
  show FV.lst (OV.fvL (xs.map ov)) = _
  rw [OV.fvL_map, List.map_map]
  exact congrArg FV.lst (List.map_congr_left fun a _ => h a)
theorem fvO_of {ov : α → OV} (h : ∀ a, (ov a).fv = e a) (v : Option α) : (oO ov v).fv = eO e v := by
  cases v with
  | none => rfl
  | some a => exact h a
theorem fvOF (v : Option α) : (OV.fz (eO e v)).fv = eO e v := rfl
/-! ### numbers -/
def mulG (i j : Int) : Option Int := if mulOk i j then some (i * j) else none
def modG (i j : Int) : Option Int := if 0 < j then some (i % j) else none
def divG (i j : Int) : Option Int := if 0 < j ∧ j.natAbs < 2 ^ 62 then some (i / j) else none
def shrG (i j : Int) : Option Int := if 0 ≤ j then some (i / 2 ^ j.toNat) else none
def powG (i j : Int) : Option Int := if 0 ≤ j ∧ j ≤ 1000 ∧ i.natAbs < 2 ^ 60 then some (i ^ j.toNat) else none
section
variable {i j v : Int}
theorem t_mulG (h : mulG i j = some v) : opMul (.fz (.int i)) (.fz (.int j)) = some (.fz (.int v)) := by
  unfold mulG at h
  show (if mulOk i j then some (OV.fz (.int (i * j))) else none) = _
  split at h
  · cases h; rename_i q; rw [if_pos q]
  · cases h
theorem t_modG (h : modG i j = some v) : opMod (.fz (.int i)) (.fz (.int j)) = some (.fz (.int v)) := by
  unfold modG at h
  show (if 0 < j then some (OV.fz (.int (i % j))) else none) = _
  split at h
  · cases h; rename_i q; rw [if_pos q]
  · cases h
theorem t_divG (h : divG i j = some v) : opDiv (.fz (.int i)) (.fz (.int j)) = some (.fz (.int v)) := by
  unfold divG at h
  show (if 0 < j ∧ j.natAbs < 2 ^ 62 then some (OV.fz (.int (i / j))) else none) = _
  split at h
  · cases h; rename_i q; rw [if_pos q]
  · cases h
theorem t_shrG (h : shrG i j = some v) : opShr (.fz (.int i)) (.fz (.int j)) = some (.fz (.int v)) := by
  unfold shrG at h
  show (if 0 ≤ j then some (OV.fz (.int (i / 2 ^ j.toNat))) else none) = _
  split at h
  · cases h; rename_i q; rw [if_pos q]
  · cases h
theorem t_powG (h : powG i j = some v) : opPow (.fz (.int i)) (.fz (.int j)) = some (.fz (.int v)) := by
  unfold powG at h
  show (if 0 ≤ j ∧ j ≤ 1000 ∧ i.natAbs < 2 ^ 60 then some (OV.fz (.int (i ^ j.toNat))) else none) = _
  split at h
  · cases h; rename_i q; rw [if_pos q]
  · cases h
theorem t_div (h : 0 < j ∧ j.natAbs < 2 ^ 62) : opDiv (.fz (.int i)) (.fz (.int j)) = some (.fz (.int (i / j))) := if_pos h
theorem t_pow (h : 0 ≤ j ∧ j ≤ 1000 ∧ i.natAbs < 2 ^ 60) : opPow (.fz (.int i)) (.fz (.int j)) = some (.fz (.int (i ^ j.toNat))) := if_pos h
theorem t_lt : opLt (.fz (.int i)) (.fz (.int j)) = some (.fz (.bl (decide (i < j)))) := rfl
theorem t_le : opLe (.fz (.int i)) (.fz (.int j)) = some (.fz (.bl (decide (i ≤ j)))) := rfl
theorem t_gt : opGt (.fz (.int i)) (.fz (.int j)) = some (.fz (.bl (decide (j < i)))) := rfl
theorem t_ge : opGe (.fz (.int i)) (.fz (.int j)) = some (.fz (.bl (decide (j ≤ i)))) := rfl
theorem t_neg : opNeg (.fz (.int i)) = some (.fz (.int (-i))) := rfl
end
/-! ### equal, in -/
theorem dec_of {p : Prop} [Decidable p] {b : Bool} (h : b = true ↔ p) : b = decide p := by
  by_cases q : p
  · rw [decide_eq_true q, h.mpr q]
  · rw [decide_eq_false q]
    cases b with
    | false => rfl
    | true => exact absurd (h.mp rfl) q
theorem eqE {a b : α} [Decidable (a = b)] (h : EnP n e) (hn : n ≤ 64) : (e a).eqD (e b) = some (decide (a = b)) := by
  obtain ⟨p, h1, h2, h3⟩ := h.d a
  obtain ⟨q, g1, g2, g3⟩ := h.d b
  unfold FV.eqD
  rw [h1, g1]
  have s1 : SeqAt.shaped p = true := by unfold SeqAt.shaped; rw [h2]; simp; omega
  have s2 : SeqAt.shaped q = true := by unfold SeqAt.shaped; rw [g2]; simp; omega
  simp only [s1, s2, Bool.and_self, if_true]
  rw [dec_of (h.inj a b p q h1 g1)]
theorem t_eq {a b : α} [Decidable (a = b)] (h : EnP n e) (hn : n ≤ 64) (hx : x.fv = e a) (hy : y.fv = e b) : opEq x y = some (.fz (.bl (decide (a = b)))) := by
  unfold opEq
  split
  · rename_i i j
    rw [dec_of (p := a = b) (b := decide (i = j)) (by
      rw [← h.inj a b (.int i) (.int j) (by rw [← hx]; rfl) (by rw [← hy]; rfl)]; simp [PyData.eqv])]
  · rename_i i j
    rw [dec_of (p := a = b) (b := decide (i = j)) (by
      rw [← h.inj a b (.str i) (.str j) (by rw [← hx]; rfl) (by rw [← hy]; rfl)]; simp [PyData.eqv])]
  · rw [hx, hy, eqE h hn, Option.map_some]
theorem t_ne {a b : α} [Decidable (a = b)] (h : EnP n e) (hn : n ≤ 64) (hx : x.fv = e a) (hy : y.fv = e b) : opNe x y = some (.fz (.bl (!decide (a = b)))) := by
  unfold opNe
  split
  · rename_i i j
    rw [dec_of (p := a = b) (b := decide (i = j)) (by
      rw [← h.inj a b (.int i) (.int j) (by rw [← hx]; rfl) (by rw [← hy]; rfl)]; simp [PyData.eqv])]
  · rename_i i j
    rw [dec_of (p := a = b) (b := decide (i = j)) (by
      rw [← h.inj a b (.str i) (.str j) (by rw [← hx]; rfl) (by rw [← hy]; rfl)]; simp [PyData.eqv])]
  · rw [hx, hy, eqE h hn, Option.map_some]
theorem any_eqv (h : EnP n e) {a : α} {p : PyData} (hp : (e a).toD = some p) : ∀ {xs : List α} {ds : List PyData}, FV.toDL (xs.map e) = some ds → ((ds.any fun z => PyData.eqv z p) = true ↔ a ∈ xs)
  | [], ds, hd => by cases hd; simp
  | x :: xs, ds, hd => by
    rw [List.map_cons] at hd
    obtain ⟨dx, ex, _⟩ := h.d x
    obtain ⟨dy, ey, _⟩ := h.L xs
    rw [FV.toDL, ex, ey] at hd
    cases hd
    rw [List.any_cons, Bool.or_eq_true, any_eqv h hp ey, h.inj _ _ _ _ ex hp, List.mem_cons]
    exact ⟨fun q => q.imp Eq.symm id, fun q => q.imp Eq.symm id⟩
theorem inSeqL {a : α} {xs : List α} [Decidable (a ∈ xs)] (h : EnP n e) (hn : n < 64) : inSeq (e a) (eL e xs) = some (decide (a ∈ xs)) := by
  obtain ⟨p, ep, c1, d1⟩ := h.d a
  obtain ⟨ds, es, c2, d2⟩ := h.L xs
  unfold inSeq
  simp only
  rw [ep, es]
  have s1 : SeqAt.shaped p = true := by unfold SeqAt.shaped; rw [c1]; simp; omega
  have s2 : SeqAt.shaped (.list ds) = true := by
    unfold SeqAt.shaped
    rw [PyData.canLay0, c2, PyData.depth]
    simp
    omega
  simp only [s1, s2, Bool.and_self, if_true]
  rw [dec_of (any_eqv h ep es)]
theorem t_inL {a : α} {xs : List α} [Decidable (a ∈ xs)] (h : EnP n e) (hn : n < 64) (hx : x.fv = e a) (hy : y.fv = eL e xs) (hd : y.isD = false) : opIn false x y = some (.fz (.bl (decide (a ∈ xs)))) := by
  unfold opIn
  rw [hd, if_neg Bool.false_ne_true, hx, hy, inSeqL h hn, Option.map_some]
  cases decide (a ∈ xs) <;> rfl
theorem t_ninL {a : α} {xs : List α} [Decidable (a ∈ xs)] (h : EnP n e) (hn : n < 64) (hx : x.fv = e a) (hy : y.fv = eL e xs) (hd : y.isD = false) : opIn true x y = some (.fz (.bl (!decide (a ∈ xs)))) := by
  unfold opIn
  rw [hd, if_neg Bool.false_ne_true, hx, hy, inSeqL h hn, Option.map_some]
  cases decide (a ∈ xs) <;> rfl
structure EAt (e : α → FV) : Prop where
  a : ∀ a, (e a).atom = true
theorem atI' : EAt eI := ⟨fun _ => rfl⟩
theorem atU : EAt eU := ⟨fun _ => rfl⟩
theorem atC : EAt eC := ⟨fun _ => rfl⟩
theorem atS : EAt eS := ⟨fun _ => rfl⟩
theorem atO (h : EAt e) : EAt (eO e) := ⟨fun a => by cases a with | none => rfl | some a => exact h.a a⟩
theorem atZ_ok {a : α} {xs : List α} [Decidable (a ∈ xs)] (h : EnP n e) (ha : EAt e) (y : FV) (hy : y = .tup (xs.map e) ∨ y = .tuz (xs.map e)) : inSeq (e a) y = some (decide (a ∈ xs)) := by
  obtain ⟨p, ep, c1, d1⟩ := h.d a
  obtain ⟨ds, es, c2, d2⟩ := h.L xs
  have : (xs.map e).all FV.atom = true := by
    rw [List.all_map]
    exact List.all_eq_true.mpr fun a _ => ha.a a
  rcases hy with rfl | rfl
  · unfold inSeq
    simp only
    rw [ep, es, ha.a a, this]
    simp only [Bool.and_self, if_true]
    rw [dec_of (any_eqv h ep es)]
  · unfold inSeq
    simp only
    rw [ep, es, ha.a a, this]
    simp only [Bool.and_self, if_true]
    rw [dec_of (any_eqv h ep es)]
theorem inSeqT {a : α} {xs : List α} [Decidable (a ∈ xs)] (h : EnP n e) (ha : EAt e) : inSeq (e a) (eT e xs) = some (decide (a ∈ xs)) := atZ_ok h ha _ (.inl rfl)
theorem eZ_or (xs : List α) : eZ e xs = .tup (xs.map e) ∨ eZ e xs = .tuz (xs.map e) := by cases xs with | nil => exact .inl rfl | cons x xs => exact .inr rfl
theorem eZ_isD (xs : List α) : (OV.fz (eZ e xs)).isD = false := by cases xs <;> rfl
theorem t_inZ {a : α} {xs : List α} [Decidable (a ∈ xs)] (h : EnP n e) (ha : EAt e) (hx : x.fv = e a) (hy : y = .fz (eZ e xs)) : opIn false x y = some (.fz (.bl (decide (a ∈ xs)))) := by
  subst hy
  unfold opIn
  rw [eZ_isD, if_neg Bool.false_ne_true, hx]
  show (inSeq (e a) (eZ e xs)).map _ = _
  rw [atZ_ok h ha _ (eZ_or xs), Option.map_some]
  cases decide (a ∈ xs) <;> rfl
theorem t_ninZ {a : α} {xs : List α} [Decidable (a ∈ xs)] (h : EnP n e) (ha : EAt e) (hx : x.fv = e a) (hy : y = .fz (eZ e xs)) : opIn true x y = some (.fz (.bl (!decide (a ∈ xs)))) := by
  subst hy
  unfold opIn
  rw [eZ_isD, if_neg Bool.false_ne_true, hx]
  show (inSeq (e a) (eZ e xs)).map _ = _
  rw [atZ_ok h ha _ (eZ_or xs), Option.map_some]
  cases decide (a ∈ xs) <;> rfl
theorem t_inT {a : α} {xs : List α} [Decidable (a ∈ xs)] (h : EnP n e) (ha : EAt e) (hx : x.fv = e a) (hy : y = .fz (eT e xs)) : opIn false x y = some (.fz (.bl (decide (a ∈ xs)))) := by
  subst hy
  unfold opIn
  rw [if_neg (show ¬ (OV.fz (eT e xs)).isD = true from Bool.false_ne_true), hx]
  show (inSeq (e a) (eT e xs)).map _ = _
  rw [inSeqT h ha, Option.map_some]
  cases decide (a ∈ xs) <;> rfl
theorem t_ninT {a : α} {xs : List α} [Decidable (a ∈ xs)] (h : EnP n e) (ha : EAt e) (hx : x.fv = e a) (hy : y = .fz (eT e xs)) : opIn true x y = some (.fz (.bl (!decide (a ∈ xs)))) := by
  subst hy
  unfold opIn
  rw [if_neg (show ¬ (OV.fz (eT e xs)).isD = true from Bool.false_ne_true), hx]
  show (inSeq (e a) (eT e xs)).map _ = _
  rw [inSeqT h ha, Option.map_some]
  cases decide (a ∈ xs) <;> rfl
theorem inSeqS {c : Chr} {s : List Chr} [Decidable (c ∈ s)] : inSeq (eC c) (eS s) = some (decide (c ∈ s)) := by
  show some (decide (c.val ∈ (sxS s).cps.toList)) = _
  congr 1
  have : c.val ∈ (sxS s).cps.toList ↔ c ∈ s := by
    unfold sxS
    simp only [List.mem_map]
    constructor
    · rintro ⟨a, h, e⟩; rw [← Fin.ext e]; exact h
    · exact fun h => ⟨c, h, rfl⟩
  by_cases q : c ∈ s
  · rw [decide_eq_true q, decide_eq_true (this.mpr q)]
  · rw [decide_eq_false q, decide_eq_false (fun z => q (this.mp z))]
theorem t_inS {c : Chr} {s : List Chr} [Decidable (c ∈ s)] (hx : x.fv = eC c) (hy : y = .fz (eS s)) : opIn false x y = some (.fz (.bl (decide (c ∈ s)))) := by
  subst hy
  unfold opIn
  rw [if_neg (show ¬ (OV.fz (eS s)).isD = true from Bool.false_ne_true), hx]
  show (inSeq (eC c) (eS s)).map _ = _
  rw [inSeqS, Option.map_some]
  cases decide (c ∈ s) <;> rfl
theorem t_ninS {c : Chr} {s : List Chr} [Decidable (c ∈ s)] (hx : x.fv = eC c) (hy : y = .fz (eS s)) : opIn true x y = some (.fz (.bl (!decide (c ∈ s)))) := by
  subst hy
  unfold opIn
  rw [if_neg (show ¬ (OV.fz (eS s)).isD = true from Bool.false_ne_true), hx]
  show (inSeq (eC c) (eS s)).map _ = _
  rw [inSeqS, Option.map_some]
  cases decide (c ∈ s) <;> rfl
/-! ### keys -/
structure EKey (k : κ → Key) (d : κ → FV) : Prop where
  inj : ∀ a b, k a = k b → a = b
  key : ∀ a, (d a).key? = some (k a)
  back : ∀ a, keyF (k a) = d a
theorem ekC : EKey kC eC := ⟨fun a b h => by injection h with h; injection h with h; simp at h; exact Fin.ext h, fun _ => rfl, fun _ => rfl⟩
theorem ekS : EKey kS eS := ⟨fun a b h => by injection h with h; exact sxS_inj h, fun _ => rfl, fun _ => rfl⟩
theorem ekI : EKey kI eI := ⟨fun a b h => by injection h, fun _ => rfl, fun _ => rfl⟩
theorem look_map {κ' α β : Type} [DecidableEq κ'] [DecidableEq κ] {k : κ' → κ} {g : α → β} (hk : ∀ a b, k a = k b → a = b) (c : κ') : ∀ l : List (κ' × α), lookK (l.map fun p => (k p.1, g p.2)) (k c) = (lookK l c).map g
  | [] => rfl
  | p :: l => by
    have ih := look_map (g := g) hk c l
    unfold lookK at ih ⊢
    rw [List.map_cons, List.find?_cons, List.find?_cons]
    by_cases h : p.1 = c
    · rw [decide_eq_true h, decide_eq_true (show (k p.1, g p.2).1 = k c by rw [← h])]
      rfl
    · rw [decide_eq_false h, decide_eq_false (show ¬ (k p.1, g p.2).1 = k c from fun q => h (hk _ _ q))]
      exact ih
theorem put_map {κ' α β : Type} [DecidableEq κ'] [DecidableEq κ] {k : κ' → κ} {g : α → β} (hk : ∀ a b, k a = k b → a = b) (c : κ') (v : α) (l : List (κ' × α)) : putKV (l.map fun p => (k p.1, g p.2)) (k c) (g v) = (putKV l c v).map fun p => (k p.1, g p.2) := by
  have he : ∀ p : κ' × α, decide ((k p.1, g p.2).1 = k c) = decide (p.1 = c) := fun p => by
    by_cases h : p.1 = c
    · rw [decide_eq_true h, decide_eq_true (show (k p.1, g p.2).1 = k c by rw [← h])]
    · rw [decide_eq_false h, decide_eq_false (show ¬ (k p.1, g p.2).1 = k c from fun q => h (hk _ _ q))]
  have ha : (l.map fun p => (k p.1, g p.2)).any (fun kv => decide (kv.1 = k c)) = l.any (fun kv => decide (kv.1 = c)) := by
    rw [List.any_map]
    congr 1
    funext p
    exact he p
  unfold putKV
  rw [ha]
  split
  · rw [List.map_map, List.map_map]
    refine List.map_congr_left fun p _ => ?_
    show (if (k p.1, g p.2).1 = k c then ((k p.1, g p.2).1, g v) else (k p.1, g p.2)) = (k (if p.1 = c then (p.1, v) else p).1, g (if p.1 = c then (p.1, v) else p).2)
    by_cases h : p.1 = c
    · rw [if_pos h, if_pos (show (k p.1, g p.2).1 = k c by rw [← h])]
    · rw [if_neg h, if_neg (show ¬ (k p.1, g p.2).1 = k c from fun q => h (hk _ _ q))]
  · rw [List.map_append]
    rfl
theorem keysE {k : κ → Key} {d : κ → FV} (hk : EKey k d) : ∀ xs : List κ, keys? (xs.map d) = some (xs.map k)
  | [] => rfl
  | x :: xs => by
    rw [List.map_cons, keys?, hk.key, keysE hk xs]
    rfl
theorem keyT_of {k : κ → Key} {d : κ → FV} (hk : EKey k d) (xs : List κ) : (eT d xs).keyT? = some (xs.map k) := keysE hk xs
section
variable [DecidableEq κ] {k : κ → Key} {c : κ → FV} {l : List (κ × α)} {a : κ} {v : α}
theorem dget_K (hk : EKey k c) (hx : x = OV.oK (l.map fun p => (k p.1, e p.2)) ∨ x = .fz (eK k e l)) : dGet x (c a) = some ((lookK l a).map fun v => .st (.fz (e v))) := by
  rcases hx with rfl | rfl
  · show (c a).key?.map (fun k' => (lookK (l.map fun p => (k p.1, e p.2)) k').map fun v => Rv.st (.fz v)) = _
    rw [hk.key, Option.map_some, look_map hk.inj, Option.map_map]; rfl
  · show (c a).key?.map (fun k' => (lookK (l.map fun p => (k p.1, e p.2)) k').map fun v => Rv.st (.fz v)) = _
    rw [hk.key, Option.map_some, look_map hk.inj, Option.map_map]; rfl
theorem t_inK (hk : EKey k c) (hy : x = .oK (l.map fun p => (k p.1, e p.2)) ∨ x = .fz (eK k e l)) : opIn false (.fz (c a)) x = some (.fz (.bl (lookK l a).isSome)) := by
  have hd : x.isD = true := by rcases hy with rfl | rfl <;> rfl
  unfold opIn
  rw [hd, if_pos rfl]
  show (dGet x (c a)).map _ = _
  rw [dget_K hk hy]
  cases lookK l a <;> rfl
theorem t_ninK (hk : EKey k c) (hy : x = .oK (l.map fun p => (k p.1, e p.2)) ∨ x = .fz (eK k e l)) : opIn true (.fz (c a)) x = some (.fz (.bl (!(lookK l a).isSome))) := by
  have hd : x.isD = true := by rcases hy with rfl | rfl <;> rfl
  unfold opIn
  rw [hd, if_pos rfl]
  show (dGet x (c a)).map _ = _
  rw [dget_K hk hy]
  cases lookK l a <;> rfl
theorem t_subK (hk : EKey k c) (hy : x = .oK (l.map fun p => (k p.1, e p.2)) ∨ x = .fz (eK k e l)) (h : lookK l a = some v) : opSub' x (.fz (c a)) = some (.st (.fz (e v))) := by
  have hd : x.isD = true := by rcases hy with rfl | rfl <;> rfl
  unfold opSub'
  rw [hd, if_pos rfl]
  show (dGet x (c a)).bind id = _
  rw [dget_K hk hy, h]
  rfl
end
section
variable [DecidableEq κ] {k : κ → Key} {c : κ → FV} {l : List (List κ × α)} {a : List κ} {v : α}
theorem dget_D (hk : EKey k c) (hx : x = .oT (l.map fun p => (p.1.map k, e p.2)) ∨ x = .fz (eD k e l)) : dGet x (eT c a) = some ((lookK l a).map fun v => .st (.fz (e v))) := by
  have hm : ∀ a b : List κ, a.map k = b.map k → a = b := fun a b h => map_inj_of hk.inj h
  rcases hx with rfl | rfl
  · show (eT c a).keyT?.map (fun k' => (lookK (l.map fun p => (p.1.map k, e p.2)) k').map fun v => Rv.st (.fz v)) = _
    rw [keyT_of hk, Option.map_some, look_map (k := fun a : List κ => a.map k) hm, Option.map_map]; rfl
  · show (eT c a).keyT?.map (fun k' => (lookK (l.map fun p => (p.1.map k, e p.2)) k').map fun v => Rv.st (.fz v)) = _
    rw [keyT_of hk, Option.map_some, look_map (k := fun a : List κ => a.map k) hm, Option.map_map]; rfl
theorem t_inD (hk : EKey k c) (hy : x = .oT (l.map fun p => (p.1.map k, e p.2)) ∨ x = .fz (eD k e l)) : opIn false (.fz (eT c a)) x = some (.fz (.bl (lookK l a).isSome)) := by
  have hd : x.isD = true := by rcases hy with rfl | rfl <;> rfl
  unfold opIn
  rw [hd, if_pos rfl]
  show (dGet x (eT c a)).map _ = _
  rw [dget_D hk hy]
  cases lookK l a <;> rfl
theorem t_ninD (hk : EKey k c) (hy : x = .oT (l.map fun p => (p.1.map k, e p.2)) ∨ x = .fz (eD k e l)) : opIn true (.fz (eT c a)) x = some (.fz (.bl (!(lookK l a).isSome))) := by
  have hd : x.isD = true := by rcases hy with rfl | rfl <;> rfl
  unfold opIn
  rw [hd, if_pos rfl]
  show (dGet x (eT c a)).map _ = _
  rw [dget_D hk hy]
  cases lookK l a <;> rfl
end
/-! ### items -/
theorem atI_map (xs : List α) (i : Int) : atI (xs.map e) i = (atI xs i).map e := by
  unfold atI
  rw [List.length_map]
  cases ixN xs.length i with
  | none => rfl
  | some j => exact List.getElem?_map
theorem atI_mapO {ov : α → OV} (xs : List α) (i : Int) : atI (xs.map ov) i = (atI xs i).map ov := by
  unfold atI
  rw [List.length_map]
  cases ixN xs.length i with
  | none => rfl
  | some j => exact List.getElem?_map
theorem t_atL {xs : List α} {i : Int} {v : α} (hx : x = .ol (xs.map e) ∨ x = .fz (eL e xs) ∨ x = .fz (eT e xs)) (h : atI xs i = some v) : opSub' x (.fz (.int i)) = some (.st (.fz (e v))) := by
  rcases hx with rfl | rfl | rfl
  · show (atI (xs.map e) i).map (fun v => Rv.st (.fz v)) = _
    rw [atI_map, h]; rfl
  · show (atI (xs.map e) i).map (fun v => Rv.st (.fz v)) = _
    rw [atI_map, h]; rfl
  · show (atI (xs.map e) i).map (fun v => Rv.st (.fz v)) = _
    rw [atI_map, h]; rfl
theorem t_atLL {ov : α → OV} {xs : List α} {i : Int} {v : α} (h : atI xs i = some v) : opSub' (oLL ov xs) (.fz (.int i)) = some (.bo (ov v)) := by
  show (atI (xs.map ov) i).map Rv.bo = _
  rw [atI_mapO, h]; rfl
theorem sx_list (s : List Chr) : (sxS s).cps.toList = s.map Fin.val := by unfold sxS; simp
theorem sx_len (s : List Chr) : (sxS s).length = s.length := by
  show (sxS s).cps.size = _
  unfold sxS
  simp
def atS' (s : List Chr) (i : Int) : Option Chr := if s.length ≤ BIG then atI s i else none
theorem t_atS {s : List Chr} {i : Int} {v : Chr} (h : atS' s i = some v) : opSub' (.fz (eS s)) (.fz (.int i)) = some (.st (.fz (eC v))) := by
  unfold atS' at h
  split at h
  · rename_i q
    show (if (sxS s).length ≤ BIG then (atI (sxS s).cps.toList i).map (fun c => Rv.st (.fz (.str ⟨#[c]⟩))) else none) = _
    rw [sx_len, if_pos q, sx_list]
    have : atI (s.map Fin.val) i = (atI s i).map Fin.val := by
      unfold atI
      rw [List.length_map]
      cases ixN s.length i with
      | none => rfl
      | some j => exact List.getElem?_map
    rw [this, h]; rfl
  · cases h
theorem t_fst {p : α × β} : opSub' (.fz (eP e d p)) (.fz (.int 0)) = some (.st (.fz (e p.1))) := rfl
theorem t_snd {p : α × β} : opSub' (.fz (eP e d p)) (.fz (.int 1)) = some (.st (.fz (d p.2))) := rfl
theorem cutF_mapT {γ δ : Type} (f : γ → δ) (xs : List γ) (lo hi : Option Int) : cutF (xs.map f) lo hi = (cutF xs lo hi).map f := by
  unfold cutF
  rw [List.length_map, List.map_take, List.map_drop]
theorem t_slL {xs : List α} {lo hi : Option Int} (hx : x = .ol (xs.map e) ∨ x = .fz (eL e xs)) : opSl x lo hi = some (.ol ((cutF xs lo hi).map e)) := by
  rcases hx with rfl | rfl
  · show some (OV.ol (cutF (xs.map e) lo hi)) = _
    rw [cutF_mapT]
  · show some (OV.ol (cutF (xs.map e) lo hi)) = _
    rw [cutF_mapT]
theorem t_slT {xs : List α} {lo hi : Option Int} : opSl (.fz (eT e xs)) lo hi = some (.fz (eT e (cutF xs lo hi))) := by
  show some (OV.fz (.tup (cutF (xs.map e) lo hi))) = _
  rw [cutF_mapT]
theorem ev_pn : dPN env = .ok none := rfl
theorem ev_ps {f : DE} {i : Int} (h : f env = .ok (.st (.fz (.int i)))) : dPS f env = .ok (some i) := by unfold dPS; rw [h]; rfl
theorem ev_sl {f : DE} {l h : VEnv → Ans (Option Int)} {r : Rv} {i j : Option Int} (h1 : f env = .ok r) (h2 : l env = .ok i) (h3 : h env = .ok j) (h4 : opSl r.ov i j = some o) : dSl f l h env = .ok (.st o) := by
  unfold dSl
  rw [h1, bind_ok, h2, bind_ok, h3, bind_ok, h4]
  rfl
theorem t_rev {xs : List α} (hx : x = .ol (xs.map e) ∨ x = .fz (eL e xs)) : opRev x = some (.ol (xs.reverse.map e)) := by
  rcases hx with rfl | rfl
  · show some (OV.ol (xs.map e).reverse) = _
    rw [List.map_reverse]
  · show some (OV.ol (xs.map e).reverse) = _
    rw [List.map_reverse]
def catG (a b : List α) : Option (List α) := if a.length + b.length ≤ BIG then some (a ++ b) else none
theorem t_catT {a b v : List α} (h : catG a b = some v) : opAdd (.fz (eT e a)) (.fz (eT e b)) = some (.fz (eT e v)) := by
  unfold catG at h
  show (if (a.map e).length + (b.map e).length ≤ BIG then some (OV.fz (.tup (a.map e ++ b.map e))) else none) = _
  rw [List.length_map, List.length_map]
  split at h
  · cases h; rename_i q; rw [if_pos q]; show _ = some (OV.fz (.tup ((a ++ b).map e))); rw [List.map_append]
  · cases h
theorem t_catL {a b v : List α} (hx : x = .ol (a.map e) ∨ x = .fz (eL e a)) (hy : y = .ol (b.map e) ∨ y = .fz (eL e b)) (h : catG a b = some v) : opAdd x y = some (.ol (v.map e)) := by
  unfold catG at h
  have hA : opAdd x y = (if (a.map e).length + (b.map e).length ≤ BIG then some (OV.ol (a.map e ++ b.map e)) else none) := by
    rcases hx with rfl | rfl <;> rcases hy with rfl | rfl <;> rfl
  rw [hA, List.length_map, List.length_map]
  split at h
  · cases h; rename_i q; rw [if_pos q, List.map_append]
  · cases h
theorem sx_app (a b : List Chr) : sxS a ++ sxS b = sxS (a ++ b) := by
  have : (sxS a ++ sxS b).cps = (sxS (a ++ b)).cps := by
    show (sxS a).cps ++ (sxS b).cps = _
    unfold sxS
    simp
  have ext : ∀ x y : Str, x.cps = y.cps → x = y := fun x y h => by cases x; cases y; simp at h; rw [h]
  exact ext _ _ this
theorem t_catS {a b v : List Chr} (h : catG a b = some v) : opAdd (.fz (eS a)) (.fz (eS b)) = some (.fz (eS v)) := by
  unfold catG at h
  show (if (sxS a).length + (sxS b).length ≤ BIG then some (OV.fz (.str (sxS a ++ sxS b))) else none) = _
  rw [sx_len, sx_len]
  split at h
  · cases h; rename_i q; rw [if_pos q, sx_app]
  · cases h
/-! ### calls of built-ins -/
theorem t_lenL {xs : List α} (hx : x = .ol (xs.map e) ∨ x = .fz (eL e xs) ∨ x = .fz (eT e xs)) : opLen [x] = some (.fz (.int (xs.length : Nat))) := by
  rcases hx with rfl | rfl | rfl
  · show some (OV.fz (.int ((xs.map e).length : Nat))) = _
    rw [List.length_map]
  · show some (OV.fz (.int ((xs.map e).length : Nat))) = _
    rw [List.length_map]
  · show some (OV.fz (.int ((xs.map e).length : Nat))) = _
    rw [List.length_map]
theorem t_lenLL {ov : α → OV} {xs : List α} : opLen [oLL ov xs] = some (.fz (.int (xs.length : Nat))) := by
  show some (OV.fz (.int ((xs.map ov).length : Nat))) = _
  rw [List.length_map]
theorem t_lenK {k : κ → Key} {l : List (κ × α)} (hx : x = .oK (l.map fun p => (k p.1, e p.2)) ∨ x = .fz (eK k e l)) : opLen [x] = some (.fz (.int (l.length : Nat))) := by
  rcases hx with rfl | rfl
  · show some (OV.fz (.int ((l.map fun p => (k p.1, e p.2)).length : Nat))) = _
    rw [List.length_map]
  · show some (OV.fz (.int ((l.map fun p => (k p.1, e p.2)).length : Nat))) = _
    rw [List.length_map]
def lenS (s : List Chr) : Option Int := if s.length ≤ BIG then some (s.length : Nat) else none
theorem t_lenS {s : List Chr} {v : Int} (h : lenS s = some v) : opLen [.fz (eS s)] = some (.fz (.int v)) := by
  unfold lenS at h
  show (if (sxS s).length ≤ BIG then some (OV.fz (.int ((sxS s).length : Nat))) else none) = _
  rw [sx_len]
  split at h
  · cases h; rename_i q; rw [if_pos q]
  · cases h
theorem t_list {xs : List α} (hx : x = .ol (xs.map e) ∨ x = .fz (eL e xs) ∨ x = .fz (eT e xs)) : opList [x] = some (.ol (xs.map e)) := by
  rcases hx with rfl | rfl | rfl <;> rfl
def listS (s : List Chr) : Option (List Chr) := if s.length ≤ BIG then some s else none
theorem t_listS {s v : List Chr} (h : listS s = some v) : opList [.fz (eS s)] = some (.ol (v.map eC)) := by
  unfold listS at h
  show (if (sxS s).length ≤ BIG then some (OV.ol ((sxS s).cps.toList.map fun c => FV.str ⟨#[c]⟩)) else none) = _
  rw [sx_len]
  split at h
  · cases h; rename_i q; rw [if_pos q, sx_list, List.map_map]; rfl
  · cases h
theorem t_tup {xs : List α} (hx : x = .ol (xs.map e) ∨ x = .fz (eL e xs)) : opTup [x] = some (.fz (eT e xs)) := by
  rcases hx with rfl | rfl <;> rfl
theorem t_tupS {s v : List Chr} (h : listS s = some v) : opTup [.fz (eS s)] = some (.fz (eT eC v)) := by
  unfold listS at h
  show (if (sxS s).length ≤ BIG then some (OV.fz (.tup ((sxS s).cps.toList.map fun c => FV.str ⟨#[c]⟩))) else none) = _
  rw [sx_len]
  split at h
  · cases h; rename_i q; rw [if_pos q, sx_list, List.map_map]; rfl
  · cases h
theorem ints_of : ∀ xs : List Int, ints? (xs.map FV.int) = some xs
  | [] => rfl
  | x :: xs => by rw [List.map_cons, ints?, ints_of xs]; rfl
theorem bools_of : ∀ xs : List Bool, bools? (xs.map FV.bl) = some xs
  | [] => rfl
  | x :: xs => by rw [List.map_cons, bools?, bools_of xs]; rfl
theorem t_sum {xs : List Int} (hx : x = .ol (xs.map eI) ∨ x = .fz (eL eI xs)) : opSum [x] = some (.fz (.int xs.sum)) := by
  have hl : x.lst? = some (xs.map FV.int) := by rcases hx with rfl | rfl <;> rfl
  show (x.lst?.bind ints?).map _ = _
  rw [hl, Option.bind_some, ints_of]; rfl
theorem t_all {xs : List Bool} (hx : x = .ol (xs.map eB) ∨ x = .fz (eL eB xs)) : opAll [x] = some (.fz (.bl (xs.all id))) := by
  have hl : x.lst? = some (xs.map FV.bl) := by rcases hx with rfl | rfl <;> rfl
  show (x.lst?.bind bools?).map _ = _
  rw [hl, Option.bind_some, bools_of]; rfl
theorem t_ord {c : Chr} : opOrd [.fz (eC c)] = some (.fz (.int (c.val : Nat))) := rfl
theorem t_intB {b : Bool} : opInt [.fz (.bl b)] = some (.fz (.int (if b then 1 else 0))) := rfl
theorem t_intI {i : Int} : opInt [.fz (.int i)] = some (.fz (.int i)) := rfl
theorem t_min2 {i j : Int} : opMin2 [.fz (.int i), .fz (.int j)] = some (.fz (.int (if j < i then j else i))) := rfl
theorem t_max2 {i j : Int} : opMax2 [.fz (.int i), .fz (.int j)] = some (.fz (.int (if j > i then j else i))) := rfl
theorem t_min3 {i j k : Int} : opMin3 [.fz (.int i), .fz (.int j), .fz (.int k)] = some (.fz (.int (min2 (min2 i j) k))) := rfl
theorem t_dict {k : κ → Key} {l : List (κ × α)} (hx : x = .oK (l.map fun p => (k p.1, e p.2)) ∨ x = .fz (eK k e l)) : opDict [x] = some (.oK (l.map fun p => (k p.1, e p.2))) := by
  rcases hx with rfl | rfl <;> rfl
/-- a sort by the interpreter's order -/
def srt (e : α → FV) (xs : List α) : Option (List α) := if sortOk (xs.map e) then some (xs.mergeSort fun a b => PySem.W.dataLe false FV.enc (e a) (e b)) else none
theorem srt_map {xs v : List α} (h : srt e xs = some v) : sortOk (xs.map e) = true ∧ sortFV (xs.map e) = v.map e := by
  unfold srt at h
  split at h
  · cases h
    refine ⟨by assumption, ?_⟩
    unfold sortFV
    exact (List.map_mergeSort (f := e) (r := fun a b => PySem.W.dataLe false FV.enc (e a) (e b)) (s := PySem.W.dataLe false FV.enc) (l := xs) fun a _ b _ => rfl).symm
  · cases h
theorem t_sort {xs v : List α} (hx : x = .ol (xs.map e) ∨ x = .fz (eL e xs)) (h : srt e xs = some v) : opSorted [x] = some (.ol (v.map e)) := by
  have hl : x.lst? = some (xs.map e) := by rcases hx with rfl | rfl <;> rfl
  obtain ⟨h1, h2⟩ := srt_map h
  show x.lst?.bind (fun xs => if sortOk xs then some (OV.ol (sortFV xs)) else none) = _
  rw [hl, Option.bind_some, if_pos h1, h2]
theorem keys_back {k : κ → Key} {c : κ → FV} (hk : EKey k c) (l : List (κ × α)) : (l.map fun p => (k p.1, e p.2)).map (fun kv => keyF kv.1) = (l.map (·.1)).map c := by
  rw [List.map_map, List.map_map]
  exact List.map_congr_left fun p _ => hk.back p.1
theorem ev_keysS {f : DE} {r : Rv} {k : κ → Key} {c : κ → FV} {l : List (κ × α)} {v : List κ} (hk : EKey k c) (h : f env = .ok r) (hx : r.ov = .oK (l.map fun p => (k p.1, e p.2)) ∨ r.ov = .fz (eK k e l)) (hs : srt c (l.map (·.1)) = some v) : dKeysS f env = .ok (.st (.ol (v.map c))) := by
  obtain ⟨h1, h2⟩ := srt_map hs
  unfold dKeysS
  rw [h, bind_ok]
  rcases hx with hx | hx <;> rw [hx] <;> simp only <;> rw [keys_back hk, if_pos h1, h2]
theorem ev_keysL {f : DE} {r : Rv} {k : κ → Key} {c : κ → FV} {l : List (κ × α)} (hk : EKey k c) (h : f env = .ok r) (hx : r.ov = .oK (l.map fun p => (k p.1, e p.2)) ∨ r.ov = .fz (eK k e l)) : dKeysL f env = .ok (.st (.ol ((l.map (·.1)).map c))) := by
  unfold dKeysL
  rw [h, bind_ok]
  rcases hx with hx | hx <;> rw [hx] <;> simp only <;> rw [keys_back hk]
def setG (xs : List Int) : Option (List Int) := if xs.length < 64 then some (sortI xs) else none
theorem ev_sortSet {f : DE} {r : Rv} {xs v : List Int} (h : f env = .ok r) (hx : r.ov = .ol (xs.map eI) ∨ r.ov = .fz (eL eI xs)) (hs : setG xs = some v) : dSortSet f env = .ok (.st (.ol (v.map eI))) := by
  have hl : r.ov.lst? = some (xs.map FV.int) := by rcases hx with hx | hx <;> rw [hx] <;> rfl
  unfold setG at hs
  unfold dSortSet
  rw [h, bind_ok, hl, Option.bind_some, ints_of]
  split at hs
  · cases hs; rename_i q; simp only; rw [if_pos q]
  · cases hs
theorem rows_of : ∀ xs : List (List Int), rows? (xs.map (eT eI)) = some xs
  | [] => rfl
  | x :: xs => by
    show (ints? (x.map FV.int)).bind (fun k => (rows? (xs.map (eT eI))).map (k :: ·)) = _
    rw [ints_of, Option.bind_some, rows_of xs]
    rfl
def setR (xs : List (List Int)) : Option (List (List Int)) := if xs.length < 64 ∧ [] ∉ xs then some (sortR xs) else none
theorem ev_sortSetT {f : DE} {r : Rv} {xs v : List (List Int)} (h : f env = .ok r) (hx : r.ov = .ol (xs.map (eT eI)) ∨ r.ov = .fz (eL (eT eI) xs)) (hs : setR xs = some v) : dSortSetT f env = .ok (.st (.ol (v.map (eT eI)))) := by
  have hl : r.ov.lst? = some (xs.map (eT eI)) := by rcases hx with hx | hx <;> rw [hx] <;> rfl
  unfold setR at hs
  unfold dSortSetT
  rw [h, bind_ok, hl, Option.bind_some, rows_of]
  split at hs
  · cases hs; rename_i q; simp only; rw [if_pos q]; rfl
  · cases hs
def idxT [DecidableEq α] (xs : List α) (a : α) : Option Int := (xs.findIdx? fun z => decide (z = a)).map fun j => ((j : Nat) : Int)
theorem findIdx_eqv [DecidableEq α] (h : EnP n e) {a : α} {p : PyData} (hp : (e a).toD = some p) : ∀ {xs : List α} {ds : List PyData}, FV.toDL (xs.map e) = some ds → (ds.findIdx? fun z => PyData.eqv z p) = xs.findIdx? fun z => decide (z = a)
  | [], ds, hd => by cases hd; rfl
  | x :: xs, ds, hd => by
    rw [List.map_cons] at hd
    obtain ⟨dx, ex, _⟩ := h.d x
    obtain ⟨dy, ey, _⟩ := h.L xs
    rw [FV.toDL, ex, ey] at hd
    cases hd
    rw [List.findIdx?_cons, List.findIdx?_cons, findIdx_eqv h hp ey, dec_of (h.inj _ _ _ _ ex hp)]
theorem t_index [DecidableEq α] {xs : List α} {a : α} {v : Int} (h : EnP n e) (hn : n < 64) (hx : x = .ol (xs.map e) ∨ x = .fz (eL e xs)) (hy : y.fv = e a) (hv : idxT xs a = some v) : opIndex x [y] = some (.fz (.int v)) := by
  have hl : x.lst? = some (xs.map e) := by rcases hx with rfl | rfl <;> rfl
  obtain ⟨p, ep, c1, d1⟩ := h.d a
  obtain ⟨ds, es, c2, d2⟩ := h.L xs
  have s1 : SeqAt.shaped p = true := by unfold SeqAt.shaped; rw [c1]; simp; omega
  have s2 : SeqAt.shaped (.list ds) = true := by
    unfold SeqAt.shaped
    rw [PyData.canLay0, c2, PyData.depth]
    simp
    omega
  unfold idxT at hv
  unfold opIndex
  simp only [hl, hy, ep, es, s1, s2, Bool.and_self, if_true]
  rw [findIdx_eqv h ep es]
  cases q : xs.findIdx? fun z => decide (z = a) with
  | none => rw [q] at hv; cases hv
  | some j => rw [q] at hv; cases hv; rfl
theorem ev_idxL [DecidableEq α] {f : DE} {g : VEnv → Ans (List Rv)} {r q : Rv} {xs : List α} {a : α} {v : Int} (h1 : f env = .ok r) (h2 : g env = .ok [q]) (h : EnP n e) (hn : n < 64) (hx : r.ov = .ol (xs.map e) ∨ r.ov = .fz (eL e xs)) (hy : q.ov.fv = e a) (hv : idxT xs a = some v) : dIdx f g env = .ok (.st (.fz (.int v))) := by
  have k : okTuz r.ov = false := by rcases hx with hx | hx <;> rw [hx] <;> rfl
  have k2 : okLst r.ov = true := by rcases hx with hx | hx <;> rw [hx] <;> rfl
  unfold dIdx
  rw [h1]
  simp only
  rw [k, if_neg Bool.false_ne_true]
  exact ev_meth h1 k2 h2 (t_index h hn hx hy hv)
theorem strs_of : ∀ xs : List Chr, strs? (xs.map eC) = some (xs.map fun c => ⟨#[c.val]⟩)
  | [] => rfl
  | x :: xs => by rw [List.map_cons, strs?, strs_of xs]; rfl
theorem ev_idxZ {f : DE} {g : VEnv → Ans (List Rv)} {xs : List Chr} {a : Chr} {v : Int} (h1 : f env = .ok (.st (.fz (eZ eC xs)))) (h2 : g env = .ok [.st (.fz (eC a))]) (hv : idxT xs a = some v) : dIdx f g env = .ok (.st (.fz (.int v))) := by
  cases xs with
  | nil => cases hv
  | cons x xs =>
    unfold dIdx
    rw [h1]
    simp only
    rw [if_pos (show okTuz (Rv.ov (.st (.fz (eZ eC (x :: xs))))) = true from rfl)]
    refine ev_meth h1 rfl h2 ?_
    show (strs? ((x :: xs).map eC)).bind _ = _
    rw [strs_of, Option.bind_some]
    unfold idxT at hv
    have : ((x :: xs).map fun c : Chr => (⟨#[c.val]⟩ : Str)).findIdx? (fun z => decide (z = ⟨#[a.val]⟩)) = (x :: xs).findIdx? fun z => decide (z = a) := by
      rw [List.findIdx?_map]
      congr 1
      funext c
      show decide ((⟨#[c.val]⟩ : Str) = ⟨#[a.val]⟩) = decide (c = a)
      by_cases q : c = a
      · rw [q]; simp
      · rw [decide_eq_false q, decide_eq_false]
        intro z
        injection z with z
        simp at z
        exact q (Fin.ext z)
    rw [this]
    cases q : (x :: xs).findIdx? fun z => decide (z = a) with
    | none => rw [q] at hv; cases hv
    | some j => rw [q] at hv; cases hv; rfl
/-! ### tuples of letters (no dict of their own) -/
theorem t_atZ {xs : List α} {i : Int} {v : α} (hx : x = .fz (eZ e xs)) (h : atI xs i = some v) : opSub' x (.fz (.int i)) = some (.st (.fz (e v))) := by
  subst hx
  have : opSub' (.fz (eZ e xs)) (.fz (.int i)) = (atI (xs.map e) i).map (fun v => Rv.st (.fz v)) := by cases xs <;> rfl
  rw [this, atI_map, h]; rfl
theorem t_lenZ {xs : List α} : opLen [.fz (eZ e xs)] = some (.fz (.int (xs.length : Nat))) := by
  have : opLen [.fz (eZ e xs)] = some (.fz (.int ((xs.map e).length : Nat))) := by cases xs <;> rfl
  rw [this, List.length_map]
theorem t_listZ {xs : List α} : opList [.fz (eZ e xs)] = some (.ol (xs.map e)) := by cases xs <;> rfl
theorem t_tupY {xs : List α} (hx : x = .ol (xs.map e) ∨ x = .fz (eL e xs)) : opTupY [x] = some (.fz (eZ e xs)) := by
  have hl : x.lst? = some (xs.map e) := by rcases hx with rfl | rfl <;> rfl
  show x.lst?.map _ = _
  rw [hl]
  cases xs <;> rfl
theorem t_isaZ {xs : List α} {Ts : List String} {b : Bool} (h : (Ts.any fun T => isaT "tuple" T) = b) : opIsa Ts (.fz (eZ e xs)) = some (.fz (.bl b)) := by
  rw [← h]
  cases xs <;> rfl
theorem it_itemsZ {f : DE} {xs : List α} (h : f env = .ok (.st (.fz (eZ e xs)))) : dItems f env = .ok (xs.map e) := by
  unfold dItems
  rw [h]
  cases xs <;> rfl
theorem eZ_tup (xs : List α) : (eZ e xs).tup? = some (xs.map e) := by cases xs <;> rfl
theorem eZ_lst (xs : List α) : (OV.fz (eZ e xs)).lst? = none := by cases xs <;> rfl
theorem it_zipY {f g : DE} {xs : List α} {ys : List β} {a b : FV} (h1 : f env = .ok (.st (.fz a))) (h2 : g env = .ok (.st (.fz b))) (ha : a = eZ e xs ∨ a = eT e xs) (hb : b = eZ d ys ∨ b = eT d ys) : dZip f g env = .ok ((xs.zip ys).map (eP e d)) := by
  have a1 : a.tup? = some (xs.map e) := by rcases ha with rfl | rfl; exact eZ_tup xs; rfl
  have a2 : (OV.fz a).lst? = none := by rcases ha with rfl | rfl; exact eZ_lst xs; rfl
  have b1 : b.tup? = some (ys.map d) := by rcases hb with rfl | rfl; exact eZ_tup ys; rfl
  unfold dZip
  rw [h1, bind_ok, h2, bind_ok]
  simp only [a2, a1, b1, OV.fv]
  rw [zipF_map']
where
  zipF_map' {α β : Type} {e : α → FV} {d : β → FV} {xs : List α} {ys : List β} : zipF (xs.map e) (ys.map d) = (xs.zip ys).map (eP e d) := by
    unfold zipF
    rw [List.zip_map, List.map_map]
    rfl
theorem ci_itemsZ {f : DE} {r : Rv} {xs : List α} (h : f env = .ok r) (hs : sbR env r = true) (hx : r.fv = eZ e xs) : cItems f env = .ok (xs.map e) := by
  unfold cItems
  rw [h, bind_ok, if_pos hs, hx]
  cases xs <;> rfl
theorem ci_zipY {f g : DE} {r q : Rv} {xs : List α} {ys : List β} (h1 : f env = .ok r) (h2 : g env = .ok q) (s1 : sbR env r = true) (s2 : sbR env q = true) (ha : r.fv = eZ e xs ∨ r.fv = eT e xs) (hb : q.fv = eZ d ys ∨ q.fv = eT d ys) : cZip f g env = .ok ((xs.zip ys).map (eP e d)) := by
  have a1 : r.fv.tup? = some (xs.map e) := by rcases ha with h | h <;> rw [h]; exact eZ_tup xs; rfl
  have a2 : r.fv.lst? = none := by rcases ha with h | h <;> rw [h]; cases xs <;> rfl; rfl
  have b1 : q.fv.tup? = some (ys.map d) := by rcases hb with h | h <;> rw [h]; exact eZ_tup ys; rfl
  unfold cZip
  rw [h1, bind_ok, h2, bind_ok, s1, s2]
  simp only [Bool.and_self, if_true, a2, a1, b1]
  rw [it_zipY.zipF_map']
/-! ### iterators -/
def rangeG (n : Int) : Option (List Int) := if n < 2 ^ 60 ∧ -2 ^ 60 < n then some ((List.range n.toNat).map fun i => ((i : Nat) : Int)) else none
theorem it_range {f : DE} {i : Int} {v : List Int} (h : f env = .ok (.st (.fz (.int i)))) (hv : rangeG i = some v) : dRange f env = .ok (v.map eI) := by
  unfold rangeG at hv
  unfold dRange
  rw [h, bind_ok]
  show (if i < 2 ^ 60 ∧ -2 ^ 60 < i then Ans.ok ((List.range i.toNat).map fun j => FV.int (j : Nat)) else .no) = _
  split at hv
  · cases hv; rename_i q; rw [if_pos q, List.map_map]; rfl
  · cases hv
theorem it_items {f : DE} {xs : List α} (h : f env = .ok (.st (.ol (xs.map e))) ∨ f env = .ok (.st (.fz (eL e xs))) ∨ f env = .ok (.st (.fz (eT e xs)))) : dItems f env = .ok (xs.map e) := ev_items h
theorem it_q {f : DE} {r : Rv} {xs : List α} (h : f env = .ok r) (hx : r.ov = .ol (xs.map e) ∨ r.ov = .fz (eL e xs)) : qItems f env = .ok (xs.map e) := by
  unfold qItems
  rw [h, bind_ok]
  rcases hx with hx | hx <;> rw [hx] <;> rfl
theorem zipF_map (xs : List α) (ys : List β) : zipF (xs.map e) (ys.map d) = (xs.zip ys).map (eP e d) := by
  unfold zipF
  rw [List.zip_map, List.map_map]
  rfl
theorem it_zipL {f g : DE} {xs : List α} {ys : List β} {x y : OV} (h1 : f env = .ok (.st x)) (h2 : g env = .ok (.st y)) (hx : x = .ol (xs.map e) ∨ x = .fz (eL e xs)) (hy : y = .ol (ys.map d) ∨ y = .fz (eL d ys)) : dZip f g env = .ok ((xs.zip ys).map (eP e d)) := by
  have l1 : x.lst? = some (xs.map e) := by rcases hx with rfl | rfl <;> rfl
  have l2 : y.lst? = some (ys.map d) := by rcases hy with rfl | rfl <;> rfl
  unfold dZip
  rw [h1, bind_ok, h2, bind_ok]
  simp only [l1, l2]
  rw [zipF_map]
theorem it_zipLT {f g : DE} {xs : List α} {ys : List β} {x : OV} {b : FV} (h1 : f env = .ok (.st x)) (h2 : g env = .ok (.st (.fz b))) (hx : x = .ol (xs.map e) ∨ x = .fz (eL e xs)) (hb : b = eT d ys ∨ b = eZ d ys) : dZip f g env = .ok ((xs.zip ys).map (eP e d)) := by
  have l1 : x.lst? = some (xs.map e) := by rcases hx with rfl | rfl <;> rfl
  have b1 : b.tup? = some (ys.map d) := by rcases hb with rfl | rfl; rfl; cases ys <;> rfl
  have b2 : (OV.fz b).lst? = none := by rcases hb with rfl | rfl; rfl; cases ys <;> rfl
  have zm : zipM x (.fz b) = .ok (zipF (xs.map e) (ys.map d)) := by
    unfold zipM
    rw [l1]
    show (match some (xs.map e), b.tup? with
      | some xs, some ys => Ans.ok (zipF xs ys)
      | _, _ => .no) = _
    rw [b1]
  unfold dZip
  rw [h1, bind_ok, h2, bind_ok]
  simp only [l1, b2]
  rcases hx with rfl | rfl
  · simp only [zm]
    rw [zipF_map]
  · simp only [show (eL e xs).tup? = none from rfl, zm]
    rw [zipF_map]
theorem it_zipT {f g : DE} {xs : List α} {ys : List β} (h1 : f env = .ok (.st (.fz (eT e xs)))) (h2 : g env = .ok (.st (.fz (eT d ys)))) : dZip f g env = .ok ((xs.zip ys).map (eP e d)) := by
  unfold dZip
  rw [h1, bind_ok, h2, bind_ok]
  show Ans.ok (zipF (xs.map e) (ys.map d)) = _
  rw [zipF_map]
def enumT (xs : List α) : List (Int × α) := xs.zipIdx.map fun p => ((p.2 : Nat), p.1)
theorem enumF_map (xs : List α) : enumF (xs.map e) = (enumT xs).map (eP eI e) := by
  unfold enumF enumT
  rw [List.zipIdx_map, List.map_map, List.map_map]
  rfl
theorem it_enum {f : DE} {xs : List α} {x : OV} (h1 : f env = .ok (.st x)) (hx : x = .ol (xs.map e) ∨ x = .fz (eL e xs)) : dEnum f env = .ok ((enumT xs).map (eP eI e)) := by
  have l1 : x.lst? = some (xs.map e) := by rcases hx with rfl | rfl <;> rfl
  unfold dEnum
  rw [h1, bind_ok]
  simp only [l1]
  rw [enumF_map]
theorem it_rev {f : DE} {xs : List α} {x : OV} (h1 : f env = .ok (.st x)) (hx : x = .ol (xs.map e) ∨ x = .fz (eL e xs)) : dRevd f env = .ok (xs.reverse.map e) := by
  have l1 : x.lst? = some (xs.map e) := by rcases hx with rfl | rfl <;> rfl
  unfold dRevd
  rw [h1, bind_ok]
  simp only [l1]
  rw [List.map_reverse]
theorem sb_st {o : OV} : sbR env (.st o) = true := rfl
theorem sb_bo {i : Nat} {o p : OV} (h : env[i]? = some (some p)) (hp : p.nf = true) : sbR env (.bo o) = true := by
  show (!allFzE env) = true
  have : allFzE env = false := by
    unfold allFzE
    refine List.all_eq_false.mpr ⟨some p, ?_, ?_⟩
    · exact List.mem_of_getElem? h
    · cases p with
      | fz x => cases hp
      | _ => exact Bool.false_ne_true
  rw [this]; rfl
theorem ci_items {f : DE} {r : Rv} {xs : List α} (h : f env = .ok r) (hs : sbR env r = true) (hx : r.fv = eL e xs ∨ r.fv = eT e xs) : cItems f env = .ok (xs.map e) := by
  unfold cItems
  rw [h, bind_ok, if_pos hs]
  rcases hx with hx | hx <;> rw [hx] <;> rfl
theorem ci_str {f : DE} {r : Rv} {s : List Chr} (h : f env = .ok r) (hs : sbR env r = true) (hx : r.fv = eS s) : cItems f env = .ok (s.map eC) := by
  unfold cItems
  rw [h, bind_ok, if_pos hs, hx]
  show Ans.ok ((sxS s).cps.toList.map fun c => FV.str ⟨#[c]⟩) = _
  rw [sx_list, List.map_map]; rfl
theorem ci_zipL {f g : DE} {r q : Rv} {xs : List α} {ys : List β} (h1 : f env = .ok r) (h2 : g env = .ok q) (s1 : sbR env r = true) (s2 : sbR env q = true) (hx : r.fv = eL e xs) (hy : q.fv = eL d ys) : cZip f g env = .ok ((xs.zip ys).map (eP e d)) := by
  unfold cZip
  rw [h1, bind_ok, h2, bind_ok, s1, s2, hx, hy]
  show Ans.ok (zipF (xs.map e) (ys.map d)) = _
  rw [zipF_map]
theorem ci_zipLT {f g : DE} {r q : Rv} {xs : List α} {ys : List β} (h1 : f env = .ok r) (h2 : g env = .ok q) (s1 : sbR env r = true) (s2 : sbR env q = true) (hx : r.fv = eL e xs) (hy : q.fv = eT d ys ∨ q.fv = eZ d ys) : cZip f g env = .ok ((xs.zip ys).map (eP e d)) := by
  have b1 : q.fv.tup? = some (ys.map d) := by rcases hy with h | h <;> rw [h]; rfl; cases ys <;> rfl
  have b2 : q.fv.lst? = none := by rcases hy with h | h <;> rw [h]; rfl; cases ys <;> rfl
  unfold cZip
  rw [h1, bind_ok, h2, bind_ok, s1, s2, hx]
  simp only [Bool.and_self, if_true, b1, b2, show (eL e xs).lst? = some (xs.map e) from rfl, show (eL e xs).tup? = none from rfl]
  rw [zipF_map]
theorem ci_zipT {f g : DE} {r q : Rv} {xs : List α} {ys : List β} (h1 : f env = .ok r) (h2 : g env = .ok q) (s1 : sbR env r = true) (s2 : sbR env q = true) (hx : r.fv = eT e xs) (hy : q.fv = eT d ys) : cZip f g env = .ok ((xs.zip ys).map (eP e d)) := by
  unfold cZip
  rw [h1, bind_ok, h2, bind_ok, s1, s2, hx, hy]
  show Ans.ok (zipF (xs.map e) (ys.map d)) = _
  rw [zipF_map]
theorem ci_enum {f : DE} {r : Rv} {xs : List α} (h : f env = .ok r) (hs : sbR env r = true) (hx : r.fv = eL e xs) : cEnum f env = .ok ((enumT xs).map (eP eI e)) := by
  unfold cEnum
  rw [h, bind_ok, if_pos hs, hx]
  show Ans.ok (enumF (xs.map e)) = _
  rw [enumF_map]
/-! ### comprehensions -/
def lcT (c : α → Option Bool) (g : α → Option β) : List α → Option (List β)
  | [] => some []
  | x :: xs => (c x).bind fun b => if b then (g x).bind fun y => (lcT c g xs).bind fun ys => some (y :: ys) else lcT c g xs
def lcG (c : α → Option Bool) (g : α → Option β) (xs : List α) : Option (List β) := (lcT c g xs).bind fun ys => if ys.length ≤ BIG then some ys else none
theorem lcF_sim {t : TgF} {c : DT} {f : DE} {env : VEnv} {tc : α → Option Bool} {te : α → Option β} (h : ∀ x, ∃ e1, t (e x) env = some e1 ∧ OE (c e1) (tc x) id ∧ OE (f e1) (te x) fun y => .st (.fz (d y))) :
    ∀ {items : List α} {ys : List β}, lcT tc te items = some ys → lcF t c f env (items.map e) = .ok (ys.map d)
  | [], ys, q => by cases q; rfl
  | x :: xs, ys, q => by
    obtain ⟨e1, h1, h2, h3⟩ := h x
    unfold lcT at q
    rw [List.map_cons]
    unfold lcF
    rw [h1]
    simp only
    cases hc : tc x with
    | none => rw [hc] at q; cases q
    | some b =>
      rw [hc] at q
      rw [h2 b hc]
      simp only [id, Ans.nox, Option.bind_some, bind_ok] at q ⊢
      cases b with
      | false =>
        simp only [Bool.false_eq_true, if_false] at q ⊢
        exact lcF_sim h q
      | true =>
        simp only [if_true] at q ⊢
        cases he : te x with
        | none => rw [he] at q; cases q
        | some y =>
          rw [he] at q
          rw [h3 y he]
          cases hr : lcT tc te xs with
          | none => rw [hr] at q; cases q
          | some zs =>
            rw [hr] at q
            simp only [Ans.nox, Option.bind_some, bind_ok, Rv.fz?] at q ⊢
            cases q
            rw [lcF_sim h hr]
            rfl
theorem lcD_sim {t : TgF} {c : DT} {f : DE} {env : VEnv} {tc : α → Option Bool} {te : α → Option β} {ov : β → OV} (h : ∀ x, ∃ e1, t (e x) env = some e1 ∧ OE (c e1) (tc x) id ∧ OE (f e1) (te x) fun y => .st (ov y)) :
    ∀ {items : List α} {ys : List β}, lcT tc te items = some ys → lcD t c f env (items.map e) = .ok (ys.map ov)
  | [], ys, q => by cases q; rfl
  | x :: xs, ys, q => by
    obtain ⟨e1, h1, h2, h3⟩ := h x
    unfold lcT at q
    rw [List.map_cons]
    unfold lcD
    rw [h1]
    simp only
    cases hc : tc x with
    | none => rw [hc] at q; cases q
    | some b =>
      rw [hc] at q
      rw [h2 b hc]
      simp only [id, Ans.nox, Option.bind_some, bind_ok] at q ⊢
      cases b with
      | false =>
        simp only [Bool.false_eq_true, if_false] at q ⊢
        exact lcD_sim h q
      | true =>
        simp only [if_true] at q ⊢
        cases he : te x with
        | none => rw [he] at q; cases q
        | some y =>
          rw [he] at q
          rw [h3 y he]
          cases hr : lcT tc te xs with
          | none => rw [hr] at q; cases q
          | some zs =>
            rw [hr] at q
            simp only [Ans.nox, Option.bind_some, bind_ok, Rv.st?] at q ⊢
            cases q
            rw [lcD_sim h hr]
            rfl
theorem lcG_some {c : α → Option Bool} {g : α → Option β} {xs : List α} {ys : List β} (h : lcG c g xs = some ys) : lcT c g xs = some ys ∧ ys.length ≤ BIG := by
  unfold lcG at h
  cases q : lcT c g xs with
  | none => rw [q] at h; cases h
  | some zs =>
    rw [q, Option.bind_some] at h
    split at h
    · cases h; exact ⟨rfl, by assumption⟩
    · cases h
theorem ev_lc {it : VEnv → Ans (List FV)} {t : TgF} {c : DT} {f : DE} {vs : List Nat} {env : VEnv} {tc : α → Option Bool} {te : α → Option β} {items : List α} {ys : List β} (hi : it env = .ok (items.map e)) (h : ∀ x, ∃ e1, t (e x) (frzE (wipeE env vs)) = some e1 ∧ OE (c e1) (tc x) id ∧ OE (f e1) (te x) fun y => .st (.fz (d y)))
    (hz : allFzE env = true ∨ EPu d) (hv : lcG tc te items = some ys) : dLc it t c f vs env = .ok (.st (.ol (ys.map d))) := by
  obtain ⟨h1, h2⟩ := lcG_some hv
  unfold dLc
  rw [hi, bind_ok, lcF_sim h h1, bind_ok, if_pos]
  rw [Bool.and_eq_true, Bool.or_eq_true, List.length_map]
  exact ⟨decide_eq_true h2, hz.imp id fun p => p.L ys⟩
theorem ev_lcD {it : VEnv → Ans (List FV)} {t : TgF} {c : DT} {f : DE} {vs : List Nat} {env : VEnv} {tc : α → Option Bool} {te : α → Option β} {ov : β → OV} {items : List α} {ys : List β} (hi : it env = .ok (items.map e)) (h : ∀ x, ∃ e1, t (e x) (frzE (wipeE env vs)) = some e1 ∧ OE (c e1) (tc x) id ∧ OE (f e1) (te x) fun y => .st (ov y))
    (hz : allFzE env = true ∨ ∀ ys : List β, OV.cleanL (ys.map ov) = true) (hv : lcG tc te items = some ys) : dLcD it t c f vs env = .ok (.st (oLL ov ys)) := by
  obtain ⟨h1, h2⟩ := lcG_some hv
  unfold dLcD
  rw [hi, bind_ok, lcD_sim h h1, bind_ok, if_pos]
  rw [Bool.and_eq_true, Bool.or_eq_true, List.length_map]
  exact ⟨decide_eq_true h2, hz.imp id fun p => p ys⟩
/-! ### tests -/
variable {f g : DT} {a b : Bool}
theorem ev_and (h : f env = .ok a) (h2 : g env = .ok b) : dAndT f g env = .ok (a && b) := by
  unfold dAndT; rw [h, bind_ok]
  cases a with
  | true => exact h2
  | false => rfl
theorem ev_or (h : f env = .ok a) (h2 : g env = .ok b) : dOrT f g env = .ok (a || b) := by
  unfold dOrT; rw [h, bind_ok]
  cases a with
  | true => rfl
  | false => exact h2
theorem ev_andO {tb : Option Bool} {v : Bool} (h : f env = .ok a) (h2 : a = true → OE (g env) tb id) (hv : (if a then tb else some false) = some v) : dAndT f g env = .ok v := by
  unfold dAndT; rw [h, bind_ok]
  cases a with
  | true => exact h2 rfl v hv
  | false => cases hv; rfl
theorem ev_orO {tb : Option Bool} {v : Bool} (h : f env = .ok a) (h2 : a = false → OE (g env) tb id) (hv : (if a then some true else tb) = some v) : dOrT f g env = .ok v := by
  unfold dOrT; rw [h, bind_ok]
  cases a with
  | false => exact h2 rfl v hv
  | true => cases hv; rfl
variable {p q : DE}
theorem ev_andV (h : p env = .ok (.st (.fz (.bl a)))) (h2 : q env = .ok (.st (.fz (.bl b)))) : dAndV p q env = .ok (.st (.fz (.bl (a && b)))) := by
  unfold dAndV; rw [ev_test h, bind_ok]
  cases a with
  | true => exact h2
  | false => rfl
theorem ev_orV (h : p env = .ok (.st (.fz (.bl a)))) (h2 : q env = .ok (.st (.fz (.bl b)))) : dOrV p q env = .ok (.st (.fz (.bl (a || b)))) := by
  unfold dOrV; rw [ev_test h, bind_ok]
  cases a with
  | true => rfl
  | false => exact h2
theorem ev_andVO {tb : Option Bool} {v : Bool} (h : p env = .ok (.st (.fz (.bl a)))) (h2 : a = true → OE (q env) tb fun b => .st (.fz (.bl b))) (hv : (if a then tb else some false) = some v) : dAndV p q env = .ok (.st (.fz (.bl v))) := by
  unfold dAndV; rw [ev_test h, bind_ok]
  cases a with
  | true => exact h2 rfl v hv
  | false => cases hv; rfl
theorem ev_orVO {tb : Option Bool} {v : Bool} (h : p env = .ok (.st (.fz (.bl a)))) (h2 : a = false → OE (q env) tb fun b => .st (.fz (.bl b))) (hv : (if a then some true else tb) = some v) : dOrV p q env = .ok (.st (.fz (.bl v))) := by
  unfold dOrV; rw [ev_test h, bind_ok]
  cases a with
  | false => exact h2 rfl v hv
  | true => cases hv; rfl
theorem ev_dB (h : f env = .ok a) : dB f env = .ok (.st (.fz (.bl a))) := by unfold dB; rw [h]; rfl
theorem t_isN {v : Option α} (hn : NN e) (hx : x.fv = eO e v) : opIsN x = some (.fz (.bl v.isNone)) := by
  unfold opIsN
  rw [hx]
  cases v with
  | none => rfl
  | some a => show some (OV.fz (.bl (e a).isNon)) = _; rw [hn.n]; rfl
theorem t_notN {v : Option α} (hn : NN e) (hx : x.fv = eO e v) : opNotN x = some (.fz (.bl v.isSome)) := by
  unfold opNotN
  rw [hx]
  cases v with
  | none => rfl
  | some a => show some (OV.fz (.bl !(e a).isNon)) = _; rw [hn.n]; rfl
theorem t_isU : opIsN (.fz (eU ())) = some (.fz (.bl true)) := rfl
theorem oe_id {x : Ans β} {v : β} (h : x = .ok v) : OE x (some v) id := fun w hw => by cases hw; exact h
end
end J
namespace J
open PySem PySem.Spec PyProof.Rows L2
section
variable {α β γ δ σ ρ κ : Type} {e : α → FV} {d : β → FV} {env : VEnv} {P : γ → SO → Prop} {tt : Option γ} {f g : DE} {D A B : DS} {o : OV}
theorem unO {x : Ans Rv} {v : Option α} {a : α} (h : x = .ok (.st (.fz (eO e v)))) (hv : v = some a) : x = .ok (.st (.fz (e a))) := by rw [h, hv]; rfl
theorem asO {x : Ans Rv} (o : Rv) (h : x = .ok o) : x = .ok o := h
theorem ev_frzX {x : FV} (h : f env = .ok (.st o)) (hx : o.fv = x) : dFrz f env = .ok (.st (.fz x)) := by rw [ev_frz h, hx]
theorem t_subD [DecidableEq κ] {kk : κ → Key} {c : κ → FV} {x : OV} {l : List (List κ × α)} {a : List κ} {v : α} (hk : EKey kk c) (hy : x = .oT (l.map fun p => (p.1.map kk, e p.2)) ∨ x = .fz (eD kk e l)) (h : lookK l a = some v) : opSub' x (.fz (eT c a)) = some (.st (.fz (e v))) := by
  have hd : x.isD = true := by rcases hy with rfl | rfl <;> rfl
  unfold opSub'
  rw [hd, if_pos rfl]
  show (dGet x (eT c a)).bind id = _
  rw [dget_D hk hy, h]
  rfl
theorem ev_callA {m : FM} {g : VEnv → Ans (List Rv)} {rs : List Rv} {as : List FV} (h : g env = .ok rs) (ha : rs.map Rv.fv = as) (h2 : m as = .ok o) (h3 : rs.all Rv.isFz = true ∨ o.clean = true) : dCall m g env = .ok (.st o) := ev_call h (by rw [ha]; exact h2) h3
def dictT [DecidableEq κ] (l : List (κ × α)) : List (κ × α) := l.foldl (fun acc kv => putKV acc kv.1 kv.2) []
theorem pairs_of' {kk : κ → Key} {c : κ → FV} (hk : EKey kk c) : ∀ l : List (κ × α), pairs? (l.map (eP c e)) = some (l.map fun p => (kk p.1, e p.2))
  | [] => rfl
  | x :: l => by
    rw [List.map_cons, pairs?]
    simp only [hk.key, pairs_of' hk l]
    rfl
theorem merge_of [DecidableEq κ] {kk : κ → Key} (hk : ∀ a b, kk a = kk b → a = b) : ∀ l acc : List (κ × α), mergeF (acc.map fun p => (kk p.1, e p.2)) (l.map fun p => (kk p.1, e p.2)) = (l.foldl (fun acc kv => putKV acc kv.1 kv.2) acc).map fun p => (kk p.1, e p.2)
  | [], _ => rfl
  | x :: l, acc => by
    show mergeF (putKV (acc.map fun p => (kk p.1, e p.2)) (kk x.1) (e x.2)) (l.map fun p => (kk p.1, e p.2)) = _
    rw [put_map hk, merge_of hk l]
    rfl
theorem t_dictP [DecidableEq κ] {k : κ → Key} {c : κ → FV} {x : OV} {l : List (κ × α)} (hk : EKey k c) (hx : x = .ol (l.map (eP c e)) ∨ x = .fz (eL (eP c e) l)) : opDictP [x] = some (.oK ((dictT l).map fun p => (k p.1, e p.2))) := by
  have hl : x.lst? = some (l.map (eP c e)) := by rcases hx with rfl | rfl <;> rfl
  show (x.lst?.bind pairs?).map _ = _
  rw [hl, Option.bind_some, pairs_of' hk]
  show some (OV.oK (mergeF [] _)) = _
  have := merge_of (e := e) hk.inj l []
  rw [show mergeF [] (l.map fun p => (k p.1, e p.2)) = _ from this]
  rfl
theorem clean_F (h : EPu e) (v : α) : (OV.fz (e v)).clean = true := h.p v
theorem clean_L (h : EPu e) (v : List α) : (OV.ol (v.map e)).clean = true := h.L v
/-! ### changes -/
def appG (xs : List α) (x : α) : Option (List α) := if xs.length < BIG then some (xs ++ [x]) else none
theorem sg_appL {i : Nat} {xs v : List α} {x : α} (h : env[i]? = some (some (.ol (xs.map e)))) (h2 : f env = .ok (.st (.fz (e x)))) (hv : appG xs x = some v) (k : SG (D (env.set i (some (.ol (v.map e))))) tt P) : SG (dSeq (dApp i f) D env) tt P := by
  unfold appG at hv
  split at hv
  · cases hv
    rename_i q
    refine sg_app h rfl h2 (by show (xs.map e).length < BIG; rw [List.length_map]; exact q) ?_ k
    show some (OV.ol (xs.map e ++ [e x])) = _
    rw [List.map_append]; rfl
  · cases hv
/-- what is laid behind a list of another kind (nothing is read of it later) -/
theorem sg_appX {i : Nat} {xs : List FV} {x : FV} (h : env[i]? = some (some (.ol xs))) (h2 : f env = .ok (.st (.fz x))) {u : Unit} (hv : (if xs.length < BIG then some () else none) = some u) (k : SG (D (env.set i (some (.ol (xs ++ [x]))))) tt P) : SG (dSeq (dApp i f) D env) tt P := by
  split at hv
  · rename_i q
    exact sg_app h rfl h2 q rfl k
  · cases hv
def putL (xs : List α) (i : Int) (x : α) : Option (List α) := if xs.length < BIG then (ixN xs.length i).map fun j => xs.set j x else none
theorem sg_putL {i : Nat} {xs v : List α} {x : α} {j : Int} (h : env[i]? = some (some (.ol (xs.map e)))) (h2 : f env = .ok (.st (.fz (e x)))) (h3 : g env = .ok (.st (.fz (.int j)))) (hv : putL xs j x = some v) (k : SG (D (env.set i (some (.ol (v.map e))))) tt P) : SG (dSeq (dPut i g f) D env) tt P := by
  unfold putL at hv
  split at hv
  · rename_i q
    obtain ⟨m, hm, e2⟩ := Option.map_eq_some_iff.mp hv
    subst e2
    rw [ev_seqN (ev_put (p := .ol (xs.map e)) (p' := .ol ((xs.set m x).map e)) h rfl h2 h3 (by show (xs.map e).length < BIG; rw [List.length_map]; exact q) ?_) rfl]
    · exact k
    · show (ixN (xs.map e).length j).map (fun j => OV.ol ((xs.map e).set j (e x))) = _
      rw [List.length_map, hm, Option.map_some, List.map_set]
  · cases hv
def putG [DecidableEq κ] (l : List (κ × α)) (c : κ) (v : α) : Option (List (κ × α)) := if l.length < BIG then some (putKV l c v) else none
theorem sg_putK [DecidableEq κ] {i : Nat} {kk : κ → Key} {c : κ → FV} {l v : List (κ × α)} {x : α} {a : κ} {r : Rv} (hk : EKey kk c) (h : env[i]? = some (some (.oK (l.map fun p => (kk p.1, e p.2))))) (h2 : f env = .ok (.st (.fz (e x)))) (h3 : g env = .ok r) (h4 : r.fv = c a) (hv : putG l a x = some v) (k : SG (D (env.set i (some (.oK (v.map fun p => (kk p.1, e p.2)))))) tt P) : SG (dSeq (dPut i g f) D env) tt P := by
  unfold putG at hv
  split at hv
  · cases hv
    rename_i q
    rw [ev_seqN (ev_put (p := .oK (l.map fun p => (kk p.1, e p.2))) (p' := .oK ((putKV l a x).map fun p => (kk p.1, e p.2))) h rfl h2 h3 (by show (l.map _).length < BIG; rw [List.length_map]; exact q) ?_) rfl]
    · exact k
    · rw [h4]
      have : OV.put (.oK (l.map fun p => (kk p.1, e p.2))) (c a) (.fz (e x)) = (c a).key?.map fun k => OV.oK (putKV (l.map fun p => (kk p.1, e p.2)) k (e x)) := by
        unfold OV.put
        cases (c a) <;> rfl
      rw [this, hk.key, Option.map_some, put_map hk.inj]
  · cases hv
theorem sg_putD [DecidableEq κ] {i : Nat} {kk : κ → Key} {c : κ → FV} {l v : List (List κ × α)} {x : α} {a : List κ} {r : Rv} (hk : EKey kk c) (h : env[i]? = some (some (.oT (l.map fun p => (p.1.map kk, e p.2))))) (h2 : f env = .ok (.st (.fz (e x)))) (h3 : g env = .ok r) (h4 : r.fv = eT c a) (hv : putG l a x = some v) (k : SG (D (env.set i (some (.oT (v.map fun p => (p.1.map kk, e p.2)))))) tt P) : SG (dSeq (dPut i g f) D env) tt P := by
  unfold putG at hv
  split at hv
  · cases hv
    rename_i q
    rw [ev_seqN (ev_put (p := .oT (l.map fun p => (p.1.map kk, e p.2))) (p' := .oT ((putKV l a x).map fun p => (p.1.map kk, e p.2))) h rfl h2 h3 (by show (l.map _).length < BIG; rw [List.length_map]; exact q) ?_) rfl]
    · exact k
    · rw [h4]
      show (eT c a).keyT?.map (fun k => OV.oT (putKV (l.map fun p => (p.1.map kk, e p.2)) k (e x))) = _
      rw [keyT_of hk, Option.map_some, put_map (k := fun a : List κ => a.map kk) fun a b h => map_inj_of hk.inj h]
  · cases hv
theorem sg_ext {i : Nat} {xs zs v : List α} (h : env[i]? = some (some (.ol (xs.map e)))) (h2 : f env = .ok (.st (.fz (eL e zs)))) (hv : catG xs zs = some v) (k : SG (D (env.set i (some (.ol (v.map e))))) tt P) : SG (dSeq (dExt i f) D env) tt P := by
  unfold catG at hv
  split at hv
  · cases hv
    rename_i q
    rw [ev_seqN (e := env.set i (some (.ol ((xs ++ zs).map e)))) ?_ rfl]
    · exact k
    · unfold dExt
      rw [h]
      simp only
      rw [h2, bind_ok]
      simp only
      rw [if_pos (by rw [List.length_map, List.length_map]; exact q), List.map_append]
  · cases hv
theorem eraseIdx_mp {α β : Type} {f : α → β} : ∀ (l : List α) (k : Nat), (l.map f).eraseIdx k = (l.eraseIdx k).map f
  | [], _ => rfl
  | _ :: _, 0 => rfl
  | x :: l, k + 1 => by rw [List.map_cons, List.eraseIdx_cons_succ, List.eraseIdx_cons_succ, List.map_cons, eraseIdx_mp l k]
def popG (xs ys : List α) (k : Int) : Option (List α × List α) := if xs.length < BIG ∧ ys.length ≤ BIG then (ixN ys.length k).bind fun m => (ys[m]?).map fun y => (xs ++ [y], ys.eraseIdx m) else none
theorem sg_appPop {i j : Nat} {xs ys : List α} {k : Int} {v : List α × List α} (h : env[i]? = some (some (.ol (xs.map e)))) (hj : env[j]? = some (some (.ol (ys.map e)))) (hij : i ≠ j) (h2 : f env = .ok (.st (.fz (.int k)))) (hv : popG xs ys k = some v) (kk : SG (D ((env.set j (some (.ol (v.2.map e)))).set i (some (.ol (v.1.map e))))) tt P) : SG (dSeq (dAppPop i j f) D env) tt P := by
  unfold popG at hv
  split at hv
  · rename_i q
    obtain ⟨m, hm, hv⟩ := Option.bind_eq_some_iff.mp hv
    obtain ⟨y, hy, hv⟩ := Option.map_eq_some_iff.mp hv
    subst hv
    rw [ev_seqN (e := (env.set j (some (.ol ((ys.eraseIdx m).map e)))).set i (some (.ol ((xs ++ [y]).map e)))) ?_ rfl]
    · exact kk
    · unfold dAppPop
      rw [h, hj]
      simp only
      rw [if_pos (by simp [OV.isL, OV.size, hij]; exact ⟨q.2, q.1⟩), h2, bind_ok]
      simp only [Rv.fv, Rv.ov, OV.fv]
      rw [List.length_map, hm]
      simp only
      rw [List.getElem?_map, hy]
      show Ans.ok (SO.nx ((env.set j (some (OV.ol ((ys.map e).eraseIdx m)))).set i (some (OV.ol (xs.map e ++ [e y]))))) = _
      rw [eraseIdx_mp, List.map_append]
      rfl
  · cases hv
def appAtG (xs : List (List α)) (k : Int) (x : α) : Option (List (List α)) := (ixN xs.length k).bind fun m => (xs[m]?).bind fun q => if q.length < BIG then some (xs.set m (q ++ [x])) else none
theorem sg_appAt {i : Nat} {xs v : List (List α)} {k : Int} {x : α} {fk fe : DE} {kr : Rv} (h : env[i]? = some (some (oLL (oL e) xs))) (h1 : fk env = .ok kr) (h1' : kr.fv = .int k) (h2 : fe env = .ok (.st (.fz (e x)))) (hv : appAtG xs k x = some v) (kk : SG (D (env.set i (some (oLL (oL e) v)))) tt P) : SG (dSeq (dAppAt i fk fe) D env) tt P := by
  unfold appAtG at hv
  obtain ⟨m, hm, hv⟩ := Option.bind_eq_some_iff.mp hv
  obtain ⟨q, hq, hv⟩ := Option.bind_eq_some_iff.mp hv
  split at hv
  · rename_i hl
    cases hv
    rw [ev_seqN (e := env.set i (some (oLL (oL e) (xs.set m (q ++ [x]))))) ?_ rfl]
    · exact kk
    · unfold dAppAt
      rw [h]
      simp only
      rw [h1, bind_ok, h1']
      have hs : OV.sub? (oLL (oL e) xs) (.int k) = some (oL e q) := by
        show atI (xs.map (oL e)) k = _
        rw [atI_mapO]
        unfold atI
        rw [hm, Option.bind_some, hq]
        rfl
      rw [hs]
      simp only
      rw [if_pos (show (oL e q).isL = true from rfl), h2, bind_ok]
      simp only
      rw [if_pos (show (oL e q).size < BIG by show (q.map e).length < BIG; rw [List.length_map]; exact hl)]
      show (Ans.ok (SO.nx (env.set i (some (OV.setAt (oLL (oL e) xs) (.int k) (.ol (q.map e ++ [e x]))))))) = _
      congr 4
      unfold OV.setAt
      simp only
      rw [List.length_map, hm]
      simp only
      show OV.dl ((List.map (oL e) xs).set m (OV.ol (List.map e q ++ [e x]))) = .dl ((xs.set m (q ++ [x])).map (oL e))
      rw [List.map_set]
      congr 2
      show OV.ol (List.map e q ++ [e x]) = .ol ((q ++ [x]).map e)
      rw [List.map_append]
      rfl
  · cases hv
def sdG [DecidableEq κ] (l : List (κ × α)) (c : κ) (v : α) : Option (α × List (κ × α)) := if l.length < BIG then some ((lookK l c).getD v, match lookK l c with | some _ => l | none => l ++ [(c, v)]) else none
/-- if d.setdefault(k, x) op y: a else: b -/
theorem sg_setd [DecidableEq κ] {i : Nat} {kk : κ → Key} {c : κ → FV} {l : List (κ × α)} {x : α} {a : κ} {fk fv fe : DE} {opd : OV → OV → Option OV} {kr er : Rv} {w : α × List (κ × α)} {b : Bool} {t u : Option γ} (hk : EKey kk c) (h : env[i]? = some (some (.oK (l.map fun p => (kk p.1, e p.2))))) (h1 : fk env = .ok kr) (h1' : kr.fv = c a) (h2 : fv env = .ok (.st (.fz (e x))))
    (hw : sdG l a x = some w) (h3 : fe (env.set i (some (.oK (w.2.map fun p => (kk p.1, e p.2))))) = .ok er) (h4 : opd (.fz (e w.1)) er.ov = some (.fz (.bl b)))
    (k1 : b = true → SG (dSeq A D (env.set i (some (.oK (w.2.map fun p => (kk p.1, e p.2)))))) t P) (k2 : b = false → SG (dSeq B D (env.set i (some (.oK (w.2.map fun p => (kk p.1, e p.2)))))) u P) :
    SG (dSeq (dSetd i fk fv fe opd A B) D env) (if b then t else u) P := by
  unfold sdG at hw
  split at hw
  · cases hw
    rename_i q
    have e1 : dSetd i fk fv fe opd A B env = if b then A (env.set i (some (.oK ((match lookK l a with | some _ => l | none => l ++ [(a, x)]).map fun p : κ × α => (kk p.1, e p.2))))) else B (env.set i (some (.oK ((match lookK l a with | some _ => l | none => l ++ [(a, x)]).map fun p : κ × α => (kk p.1, e p.2))))) := by
      have hlk : lookK (l.map fun p : κ × α => (kk p.1, e p.2)) (kk a) = (lookK l a).map e := look_map hk.inj a l
      unfold dSetd
      rw [h]
      simp only
      rw [h1, bind_ok, h2, bind_ok, h1', hk.key]
      simp only
      rw [if_pos (by rw [List.length_map]; exact q)]
      rw [hlk]
      clear k1 k2 hlk
      revert h3 h4
      cases lookK l a with
      | some v =>
        intro h3 h4
        show (fe (env.set i (some (.oK (l.map fun p : κ × α => (kk p.1, e p.2)))))).bind _ = _
        rw [show fe (env.set i (some (.oK (l.map fun p : κ × α => (kk p.1, e p.2))))) = .ok er from h3, bind_ok]
        show (Ans.of (opd (.fz (e v)) er.ov)).bind _ = _
        rw [show opd (.fz (e v)) er.ov = _ from h4]
        cases b <;> rfl
      | none =>
        intro h3 h4
        have e2 : (l.map (fun p : κ × α => (kk p.1, e p.2)) ++ [(kk a, e x)]) = (l ++ [(a, x)]).map fun p : κ × α => (kk p.1, e p.2) := by rw [List.map_append]; rfl
        show (fe (env.set i (some (.oK (l.map (fun p : κ × α => (kk p.1, e p.2)) ++ [(kk a, e x)]))))).bind _ = _
        rw [e2, show fe (env.set i (some (.oK ((l ++ [(a, x)]).map fun p : κ × α => (kk p.1, e p.2))))) = .ok er from h3, bind_ok]
        show (Ans.of (opd (.fz (e x)) er.ov)).bind _ = _
        rw [show opd (.fz (e x)) er.ov = _ from h4]
        cases b <;> rfl
    rw [ev_seq, e1]
    cases b with
    | true => exact k1 rfl
    | false => exact k2 rfl
  · cases hw
theorem afz_nil : allFzE [] = true := rfl
theorem afz_F {x : FV} {r : VEnv} (h : allFzE r = true) : allFzE (some (.fz x) :: r) = true := by unfold allFzE at h ⊢; rw [List.all_cons, h]; rfl
theorem afz_N {r : VEnv} (h : allFzE r = true) : allFzE (none :: r) = true := by unfold allFzE at h ⊢; rw [List.all_cons, h]; rfl
theorem afz_J {j : Option OV} {r : VEnv} (h : allFzE r = true) : allFzE (iceJ j :: r) = true := by
  unfold allFzE at h ⊢
  rw [List.all_cons, h]
  cases j <;> rfl
theorem run_sg {n : Nat} {D : DS} {as : List FV} {O : ρ → OV} {t : Option ρ} (h : SG (D (startE n as)) t (PR O)) {v : ρ} (hv : t = some v) : runF n D as = .ok (O v) := by
  obtain ⟨so, h1, e2, rfl⟩ := h v hv
  exact ev_run h1
end
end J
namespace J
open PySem PySem.Spec PyProof.Rows L2
/-! ### a list that is told and carried on, typed -/
section
variable {α β γ : Type} {env : VEnv} {e : β → FV} {eA : α → FV} {P : γ → SO → Prop} {D : DS} {f : DE}
def carT (f : α → List β → Option (List β)) : List α → List (List β) → List β → Option (List (List β))
  | [], acc, c => some (acc ++ [c])
  | x :: xs, acc, c => if acc.length + 1 < BIG then (f x c).bind fun c' => carT f xs (acc ++ [c]) c' else none
theorem carL_sim {t : TgF} {fe : DE} {i : Nat} {g : α → List β → Option (List β)} {E : List β → VEnv → Prop}
    (hE : ∀ c env, E c env → env[i]? = some (some (oL e c)))
    (hs : ∀ x c env, E c env → ∃ e1, t (eA x) env = some e1 ∧ e1[i]? = some (some (oL e c)) ∧ OE (fe e1) (g x c) (fun c' => .st (oL e c')) ∧ ∀ c', E c' (e1.set i (some (oL e c')))) :
    ∀ (xs : List α) (acc : List (List β)) (c : List β) (env : VEnv) (v : List (List β)), E c env → carT g xs acc c = some v → ∃ e', carL t fe i (xs.map eA) (acc.map (oL e)) env = .ok (.rt (oLL (oL e) v) e')
  | [], acc, c, env, v, h, hv => by
    cases hv
    refine ⟨env.set i none, ?_⟩
    show carL t fe i [] (acc.map (oL e)) env = _
    unfold carL
    rw [hE c env h]
    simp only [oLL, List.map_append, List.map_cons, List.map_nil]
  | x :: xs, acc, c, env, v, h, hv => by
    obtain ⟨e1, h1, h2, h3, h4⟩ := hs x c env h
    unfold carT at hv
    split at hv
    case isFalse => cases hv
    case isTrue hb =>
      obtain ⟨c', g1, g2⟩ := Option.bind_eq_some_iff.mp hv
      obtain ⟨e', q⟩ := carL_sim hE hs xs (acc ++ [c]) c' _ v (h4 c') g2
      refine ⟨e', ?_⟩
      rw [List.map_append] at q
      show carL t fe i (eA x :: xs.map eA) (acc.map (oL e)) env = _
      unfold carL
      rw [h1]
      simp only
      rw [h2]
      simp only [List.length_map]
      rw [if_pos hb, h3 c' g1]
      exact q
theorem sg_carryS {it : VEnv → Ans (List FV)} {t : TgF} {fe : DE} {i j : Nat} {g : α → List β → Option (List β)} {items : List α} {c : List β} {P : List (List β) → SO → Prop} (E : List β → VEnv → Prop)
    (he : env[i]? = some (some (oL e c))) (hj : j < env.length) (hi : it (env.set j none) = .ok (items.map eA)) (h0 : E c (env.set j none))
    (hE : ∀ c env, E c env → env[i]? = some (some (oL e c)))
    (hs : ∀ x c env, E c env → ∃ e1, t (eA x) env = some e1 ∧ e1[i]? = some (some (oL e c)) ∧ OE (fe e1) (g x c) (fun c' => .st (oL e c')) ∧ ∀ c', E c' (e1.set i (some (oL e c'))))
    (hp : ∀ v e', P v (.rt (oLL (oL e) v) e')) : SG (dSeq (dCarry it t fe i j) D env) (carT g items [] c) P := fun v hv => by
  obtain ⟨e', q⟩ := carL_sim hE hs items [] c _ v h0 hv
  refine ⟨_, ?_, hp v e'⟩
  have : dCarry it t fe i j env = .ok (.rt (oLL (oL e) v) e') := by
    unfold dCarry
    rw [he]
    simp only
    rw [if_pos hj, hi]
    exact q
  rw [ev_seqR this]
theorem sg_retAtS {j : Nat} {xs : List (List β)} {k : Int} {v : List β} {r : Rv} {P : List β → SO → Prop} (he : env[j]? = some (some (oLL (oL e) xs))) (hf : f env = .ok r) (hr : r.fv = .int k) (hv : atI xs k = some v)
    (hp : ∀ e', P v (.rt (oL e v) e')) : SG (dSeq (dRetAt j f) D env) (some v) P := by
  have : dRetAt j f env = .ok (.rt (oL e v) (env.set j none)) := by
    unfold atI at hv
    obtain ⟨m, e1, e2⟩ := Option.bind_eq_some_iff.mp hv
    unfold dRetAt
    rw [he]
    simp only
    rw [hf]
    show (match r.fv with | .int k => _ | _ => _) = _
    rw [hr]
    simp only [List.length_map]
    rw [e1]
    simp only [Option.bind_some, List.getElem?_map, e2, Option.map_some]
  exact sg_of (ev_seqR this) (hp _)
end
end J
namespace J
open PySem PySem.Spec PyProof.Rows L2
/-! ### dicts with keys (int, tuple), unpacked values, lists of lists, typed -/
section
variable {α β γ : Type} {e : α → FV} {d : β → FV} {env : VEnv} {P : γ → SO → Prop} {tt : Option γ} {f g : DE} {D : DS} {o : OV}
abbrev eN : List NK → FV := fun l => .dN l
abbrev oNk : List NK → OV := fun l => .oN l
theorem ev_newN : dNewN env = .ok (.st (.oN [])) := rfl
theorem nk_of (p : NK) : nk? (eP eI (eT eI) p) = some p := by
  show (ints? (p.2.map FV.int)).map _ = _
  rw [ints_of]
  rfl
theorem t_inN {x : OV} {l : List NK} {p : NK} (h : x = .oN l ∨ x = .fz (eN l)) : opInN (.fz (eP eI (eT eI) p)) x = some (.fz (.bl (decide (p ∈ l)))) := by
  unfold opInN
  have hn : x.nks? = some l := by rcases h with rfl | rfl <;> rfl
  rw [hn, Option.bind_some]
  show (nk? (eP eI (eT eI) p)).map _ = _
  rw [nk_of]
  rfl
def putNG (l : List NK) (p : NK) : Option (List NK) := if l.length < BIG then some (if p ∈ l then l else l ++ [p]) else none
theorem sg_putN {i : Nat} {l v : List NK} {p : NK} (h : env[i]? = some (some (.oN l))) (h2 : f env = .ok (.st (.fz (.bl true)))) (h3 : g env = .ok (.st (.fz (eP eI (eT eI) p)))) (hv : putNG l p = some v) (k : SG (D (env.set i (some (.oN v)))) tt P) : SG (dSeq (dNPut i g f) D env) tt P := by
  unfold putNG at hv
  split at hv
  · cases hv
    rename_i q
    rw [ev_seqN (e := env.set i (some (.oN (if p ∈ l then l else l ++ [p])))) ?_ rfl]
    · exact k
    · unfold dNPut
      rw [h]
      simp only
      rw [h2, bind_ok]
      simp only
      rw [h3, bind_ok]
      simp only
      rw [nk_of]
      simp only
      rw [if_pos q]
  · cases hv
theorem sg_asgT {t : TgF} {x : FV} {e1 : VEnv} (h : f env = .ok (.st (.fz x))) (ht : t x env = some e1) (k : SG (D e1) tt P) : SG (dSeq (dAsgT f t) D env) tt P := by
  rw [ev_seqN (e := e1) ?_ rfl]
  · exact k
  · unfold dAsgT
    rw [h, bind_ok]
    simp only
    rw [ht]
theorem sg_augI {i : Nat} {a b : Int} {op : Int → Int → Int} {r : Rv} (h : env[i]? = some (some (.fz (.int a)))) (h2 : f env = .ok r) (hr : r.fv = .int b) (k : SG (D (env.set i (some (.fz (.int (op a b)))))) tt P) : SG (dSeq (dAugI i op f) D env) tt P := by
  rw [ev_seqN (e := env.set i (some (.fz (.int (op a b))))) ?_ rfl]
  · exact k
  · unfold dAugI
    rw [h]
    simp only
    rw [h2, bind_ok, hr]
theorem sg_putLL {i : Nat} {xs v : List (List α)} {x : List α} {j : Int} (h : env[i]? = some (some (oLL (oL e) xs))) (h2 : f env = .ok (.st (oL e x))) (h3 : g env = .ok (.st (.fz (.int j)))) (hv : putL xs j x = some v) (k : SG (D (env.set i (some (oLL (oL e) v)))) tt P) : SG (dSeq (dPut i g f) D env) tt P := by
  unfold putL at hv
  split at hv
  · rename_i q
    obtain ⟨m, hm, e2⟩ := Option.map_eq_some_iff.mp hv
    subst e2
    rw [ev_seqN (ev_put (p := oLL (oL e) xs) (p' := oLL (oL e) (xs.set m x)) h rfl h2 h3 (by show (xs.map (oL e)).length < BIG; rw [List.length_map]; exact q) ?_) rfl]
    · exact k
    · show (ixN (xs.map (oL e)).length j).map (fun j => OV.dl ((xs.map (oL e)).set j (oL e x))) = _
      rw [List.length_map, hm, Option.map_some]
      show _ = some (OV.dl ((xs.set m x).map (oL e)))
      rw [List.map_set]
  · cases hv
theorem sg_each {i j : Nat} {xs : List (List α)} {u : Unit} (h : env[i]? = some (some (oLL (oL e) xs))) (hij : i ≠ j) (hj : j < env.length) (hv : (if xs.all (fun l => decide (l.length < BIG)) then some () else none) = some u)
    (k : SG (D ((env.set i (some (.dl (xs.map fun l => .ol (l.map e ++ [.non]))))).set j none)) tt P) : SG (dSeq (dEachN i j) D env) tt P := by
  split at hv
  · rename_i q
    rw [ev_seqN (e := (env.set i (some (.dl (xs.map fun l => .ol (l.map e ++ [.non]))))).set j none) ?_ rfl]
    · exact k
    · unfold dEachN
      rw [h]
      simp only
      have hq : (List.map (oL e) xs).all OV.slim = true := by
        rw [List.all_map]
        refine Eq.trans (congrArg (List.all xs) (funext fun l => ?_)) q
        show decide ((l.map e).length < BIG) = _
        rw [List.length_map]
      rw [if_pos ⟨hij, hj, hq⟩, List.map_map]
      rfl
  · cases hv
theorem sg_appXD {i : Nat} {os : List OV} {x : FV} {n : Nat} {u : Unit} (h : env[i]? = some (some (.dl os))) (h2 : f env = .ok (.st (.fz x))) (hn : os.length = n) (hv : (if n < BIG then some () else none) = some u) (k : SG (D (env.set i (some (.dl (os ++ [.fz x]))))) tt P) : SG (dSeq (dApp i f) D env) tt P := by
  subst hn
  split at hv
  · rename_i q
    exact sg_app h rfl h2 q rfl k
  · cases hv
theorem fvs_nil : ([] : List Rv).map Rv.fv = [] := rfl
theorem fvs_cons {r : Rv} {rs : List Rv} {a : FV} {as : List FV} (h : r.fv = a) (h2 : rs.map Rv.fv = as) : (r :: rs).map Rv.fv = a :: as := by rw [List.map_cons, h, h2]
theorem cleanLL (h : EPu e) (v : List (List α)) : (oLL (oL e) v).clean = true := by
  show OV.cleanL (v.map (oL e)) = true
  induction v with
  | nil => rfl
  | cons x xs ih =>
    rw [List.map_cons]
    unfold OV.cleanL
    rw [ih, Bool.and_true]
    exact clean_L h x
theorem t_noN {x : OV} {l : List NK} {p : NK} (h : x = .oN l ∨ x = .fz (eN l)) : opNoN (.fz (eP eI (eT eI) p)) x = some (.fz (.bl (!decide (p ∈ l)))) := by
  unfold opNoN
  have hn : x.nks? = some l := by rcases h with rfl | rfl <;> rfl
  rw [hn, Option.bind_some]
  show (nk? (eP eI (eT eI) p)).map _ = _
  rw [nk_of]
  rfl
def zipD {κ : Type} [DecidableEq κ] (as : List κ) (bs : List α) : Option (List (κ × α)) := if as.length = bs.length then some (dictT (as.zip bs)) else none
theorem kys_of {κ : Type} {kk : κ → Key} {c : κ → FV} (hk : EKey kk c) : ∀ as : List κ, kys? (as.map c) = some (as.map kk)
  | [] => rfl
  | a :: as => by
    rw [List.map_cons, kys?]
    simp only [hk.key, kys_of hk as]
    rfl
theorem ev_dictZip {κ : Type} [DecidableEq κ] {kk : κ → Key} {c : κ → FV} {g : VEnv → Ans (List Rv)} {as : List κ} {bs : List α} {x : FV} {v : List (κ × α)} (hk : EKey kk c) (hx : x = eZ c as ∨ x = eT c as) (h : g env = .ok [.st (.fz x), .st (.fz (eT e bs))]) (hv : zipD as bs = some v) :
    dDictZip g env = .ok (.st (.oK (v.map fun p => (kk p.1, e p.2)))) := by
  unfold zipD at hv
  split at hv
  case isFalse => cases hv
  case isTrue hl =>
    cases hv
    have hx : x.tup? = some (as.map c) := by
      rcases hx with rfl | rfl
      · cases as <;> rfl
      · rfl
    unfold dDictZip
    rw [h, bind_ok]
    simp only
    rw [hx, show (eT e bs).tup? = some (bs.map e) from rfl]
    simp only
    rw [kys_of hk]
    simp only
    rw [if_pos (by rw [List.length_map, List.length_map]; exact hl)]
    have : (as.map kk).zip (bs.map e) = (as.zip bs).map fun p => (kk p.1, e p.2) := by rw [List.zip_map]; rfl
    rw [this]
    have h2 := merge_of (e := e) hk.inj (as.zip bs) []
    rw [show mergeF [] ((as.zip bs).map fun p => (kk p.1, e p.2)) = _ from h2]
    rfl
def updG {κ : Type} [DecidableEq κ] (l more : List (κ × α)) : Option (List (κ × α)) := if l.length + more.length ≤ BIG then some (more.foldl (fun acc kv => putKV acc kv.1 kv.2) l) else none
theorem sg_upd {κ : Type} [DecidableEq κ] {i : Nat} {kk : κ → Key} {c : κ → FV} {l more v : List (κ × α)} (hk : EKey kk c) (h : env[i]? = some (some (.oK (l.map fun p => (kk p.1, e p.2))))) (h2 : f env = .ok (.st (.fz (eK kk e more)))) (hv : updG l more = some v)
    (k : SG (D (env.set i (some (.oK (v.map fun p => (kk p.1, e p.2)))))) tt P) : SG (dSeq (dUpd i f) D env) tt P := by
  unfold updG at hv
  split at hv
  case isFalse => cases hv
  case isTrue hl =>
    cases hv
    rw [ev_seqN (e := env.set i (some (.oK ((more.foldl (fun acc kv => putKV acc kv.1 kv.2) l).map fun p => (kk p.1, e p.2))))) ?_ rfl]
    · exact k
    · unfold dUpd
      rw [h]
      simp only
      rw [h2, bind_ok]
      simp only
      rw [if_pos (by rw [List.length_map, List.length_map]; exact hl), merge_of hk.inj]
end
end J
namespace J
open PySem PySem.Spec PyProof.Rows L2
/-! ### chains, items, typed -/
section
variable {α β γ σ κ : Type} {e : α → FV} {c : κ → FV} {env : VEnv} {P : γ → SO → Prop} {tt : Option γ} {f g h : DE} {D body : DS} {o : OV}
theorem ev_chain {o1 o2 : OV → OV → Option OV} {x y z : Rv} {b1 b2 : Bool} (h1 : f env = .ok x) (h2 : g env = .ok y) (h3 : h env = .ok z) (e1 : o1 x.ov y.ov = some (.fz (.bl b1))) (e2 : o2 y.ov z.ov = some (.fz (.bl b2))) : dChain o1 o2 f g h env = .ok (.st (.fz (.bl (b1 && b2)))) := by
  unfold dChain
  rw [h1, bind_ok, h2, bind_ok, e1]
  cases b1 with
  | false => rfl
  | true =>
    simp only
    rw [h3, bind_ok, e2]
    rfl
abbrev eR : Str → FV := FV.str
theorem epR : EnP 0 (fun s : List Chr => eR (sxS s)) := epS
def cutSG (s : List Chr) (lo hi : Option Int) : Option (List Chr) := if s.length ≤ BIG then some (cutF s lo hi) else none
theorem t_slS {s v : List Chr} {lo hi : Option Int} (h : cutSG s lo hi = some v) : opSl (.fz (eS s)) lo hi = some (.fz (eS v)) := by
  unfold cutSG at h
  split at h
  · rename_i hl
    cases h
    show (if (sxS s).length ≤ BIG then some (OV.fz (.str (cutS (sxS s) lo hi))) else none) = _
    rw [if_pos (by rw [sx_len]; exact hl)]
    have : cutS (sxS s) lo hi = sxS (cutF s lo hi) := by
      unfold cutS sxS cutF
      rw [show (⟨(s.map Fin.val).toArray⟩ : Str).length = s.length from sx_len s]
      simp [List.map_take, List.map_drop]
    rw [this]
  · cases h
/-- two words: alike or not -/
theorem w_eq {a b : List Chr} : opEq (.fz (.str (sxS a))) (.fz (.str (sxS b))) = some (.fz (.bl (decide (a = b)))) := t_eq (e := eS) epS (by decide) rfl rfl
theorem w_ne {a b : List Chr} : opNe (.fz (.str (sxS a))) (.fz (.str (sxS b))) = some (.fz (.bl (!decide (a = b)))) := t_ne (e := eS) epS (by decide) rfl rfl
structure ENd (e : α → FV) : Prop where
  p : ∀ a, (e a).noD = true
theorem ndI : ENd eI := ⟨fun _ => rfl⟩
theorem ndB : ENd eB := ⟨fun _ => rfl⟩
theorem ndC : ENd eC := ⟨fun _ => rfl⟩
theorem ndS : ENd eS := ⟨fun _ => rfl⟩
theorem ndU : ENd eU := ⟨fun _ => rfl⟩
theorem noDL_of : ∀ {xs : List FV}, (∀ x ∈ xs, x.noD = true) → FV.noDL xs = true
  | [], _ => rfl
  | x :: xs, h => by
    unfold FV.noDL
    rw [h x List.mem_cons_self, noDL_of fun y hy => h y (List.mem_cons_of_mem _ hy)]
    rfl
theorem ENd.L (h : ENd e) (xs : List α) : FV.noDL (xs.map e) = true := noDL_of fun x hx => by
  obtain ⟨a, _, rfl⟩ := List.mem_map.mp hx
  exact h.p a
theorem ndL (h : ENd e) : ENd (eL e) := ⟨fun a => h.L a⟩
theorem ndT (h : ENd e) : ENd (eT e) := ⟨fun a => h.L a⟩
theorem ndZ (h : ENd e) : ENd (eZ e) := ⟨fun a => by
  cases a with
  | nil => rfl
  | cons x xs => exact h.L (x :: xs)⟩
theorem ndO (h : ENd e) : ENd (eO e) := ⟨fun a => by
  cases a with
  | none => rfl
  | some x => exact h.p x⟩
theorem ndP {d : β → FV} (h : ENd e) (k : ENd d) : ENd (eP e d) := ⟨fun a => by
  show ((e a.1).noD && ((d a.2).noD && true)) = true
  rw [h.p, k.p]
  rfl⟩
theorem noDK_of {kk : κ → Key} (h : ENd e) : ∀ l : List (κ × α), noDK (l.map fun p => (kk p.1, e p.2)) = true
  | [] => rfl
  | x :: l => by
    rw [List.map_cons]
    unfold noDK
    rw [h.p, noDK_of h l]
    rfl
theorem nde_nil : noDE [] = true := rfl
theorem nde_N {r : VEnv} (h : noDE r = true) : noDE (none :: r) = true := h
theorem nde_F {r : VEnv} {a : α} (k : ENd e) (h : noDE r = true) : noDE (some (.fz (e a)) :: r) = true := by
  show ((e a).noD && noDE r) = true
  rw [k.p, h]
  rfl
theorem nde_L {r : VEnv} {a : List α} (k : ENd e) (h : noDE r = true) : noDE (some (.ol (a.map e)) :: r) = true := by
  show (FV.noDL (a.map e) && noDE r) = true
  rw [k.L, h]
  rfl
theorem nde_K {r : VEnv} {kk : κ → Key} {l : List (κ × α)} (k : ENd e) (h : noDE r = true) : noDE (some (.oK (l.map fun p => (kk p.1, e p.2))) :: r) = true := by
  show (noDK (l.map fun p => (kk p.1, e p.2)) && noDE r) = true
  rw [noDK_of k, h]
  rfl
theorem sg_forItems {i : Nat} {t : TgF} {kk : κ → Key} {l : List (κ × α)} (E : σ → VEnv → Prop) {tb : κ × α → σ → Option σ} {s : σ} (hk : ∀ a, keyF (kk a) = c a) (hn : ENd e) (hi : env[i]? = some (some (.fz (eK kk e l)))) (nd : noDE (env.set i none) = true) (h : E s (env.set i none))
    (hb : ∀ x s e', E s e' → ∃ e1, t (eP c e x) e' = some e1 ∧ SG (body e1) (tb x s) (PN E)) : SG (dForItems i t body env) (forT tb l s) (PN E) := fun v hv => by
  obtain ⟨so, h1, e', rfl, h2⟩ := forL_sim hb l s _ h v hv
  refine ⟨.nx e', ?_, e', rfl, h2⟩
  have em : (l.map fun p => (kk p.1, e p.2)).map pairF = l.map (eP c e) := by
    rw [List.map_map]
    refine List.map_congr_left fun p _ => ?_
    show FV.tup [keyF (kk p.1), e p.2] = _
    rw [hk]
  unfold dForItems
  rw [hi]
  simp only
  rw [if_pos (by rw [nd, noDK_of hn]; rfl), em, h1]
  rfl
end
/-! ### loops with a continue -/
def PCt (E : σ → VEnv → Prop) (B : σ → VEnv → Prop) (O : ρ → OV) : Ctl σ ρ → SO → Prop
  | .nx s, so => ∃ e, (so = .nx e ∨ so = .ct e) ∧ E s e
  | .bk s, so => ∃ e, so = .bk e ∧ B s e
  | .rt r, so => ∃ e, so = .rt (O r) e
theorem sg_ctS {γ : Type} {P : γ → SO → Prop} {D : DS} {env : VEnv} {v : γ} (hp : P v (.ct env)) : SG (dSeq dCt D env) (some v) P := sg_of (by rw [ev_seq]; rfl) hp
theorem forCt_sim {eA : α → FV} {t : TgF} {body : DS} {E B : σ → VEnv → Prop} {O : ρ → OV} {tb : α → σ → Option (Ctl σ ρ)} (hEB : ∀ s e, E s e → B s e) (hb : ∀ x s e, E s e → ∃ e1, t (eA x) e = some e1 ∧ SG (body e1) (tb x s) (PCt E B O)) :
    ∀ (items : List α) (s : σ) (env : VEnv), E s env → SG (forL t body (items.map eA) env) (forC tb items s) (PL B O)
  | [], s, env, h => fun g hg => by cases hg; exact ⟨_, rfl, env, rfl, hEB _ _ h⟩
  | x :: xs, s, env, h => fun g hg => by
    obtain ⟨e1, q1, q2⟩ := hb x s env h
    rw [List.map_cons]
    unfold forL
    rw [q1]
    unfold forC at hg
    obtain ⟨c, ec, hg⟩ := Option.bind_eq_some_iff.mp hg
    obtain ⟨so, r1, r2⟩ := q2 c ec
    simp only
    rw [r1]
    cases c with
    | nx s' =>
      obtain ⟨e2, h1, r3⟩ := r2
      rcases h1 with rfl | rfl
      · exact forCt_sim hEB hb xs s' e2 r3 g hg
      · exact forCt_sim hEB hb xs s' e2 r3 g hg
    | bk s' =>
      obtain ⟨e2, rfl, r3⟩ := r2
      cases hg
      exact ⟨_, rfl, e2, rfl, r3⟩
    | rt r =>
      obtain ⟨e2, rfl⟩ := r2
      cases hg
      exact ⟨_, rfl, e2, rfl⟩
theorem sg_forCt {it : VEnv → Ans (List FV)} {eA : α → FV} {t : TgF} {body : DS} {env : VEnv} (E B : σ → VEnv → Prop) (O : ρ → OV) {tb : α → σ → Option (Ctl σ ρ)} {items : List α} {s : σ} (hi : it env = .ok (items.map eA)) (h : E s env) (hEB : ∀ s e, E s e → B s e) (hb : ∀ x s e, E s e → ∃ e1, t (eA x) e = some e1 ∧ SG (body e1) (tb x s) (PCt E B O)) :
    SG (dFor it t body env) (forC tb items s) (PL B O) := by
  unfold dFor
  rw [hi, bind_ok]
  exact forCt_sim hEB hb items s env h
theorem epB : EnP 0 eB := ⟨fun a => ⟨.bool a, rfl, rfl, Nat.le_refl _⟩, fun a b p q h1 h2 => by cases h1; cases h2; cases a <;> cases b <;> simp [PyData.eqv]⟩
end J
namespace J
open PySem PySem.Spec PyProof.Rows L2
/-! ### dicts with lists of their own, typed -/
section
variable {α κ : Type} {e : α → FV} {env : VEnv} {D : DS} {tt : Option γ} {P : γ → SO → Prop}
def dDe (kk : κ → Key) (ov : α → OV) (l : List (κ × α)) : OV := if l.isEmpty then .oK [] else .dd (l.map fun p => (kk p.1, ov p.2))
theorem dDe_cons {kk : κ → Key} {ov : α → OV} {l : List (κ × α)} (h : l ≠ []) : dDe kk ov l = .dd (l.map fun p => (kk p.1, ov p.2)) := by
  cases l with
  | nil => exact absurd rfl h
  | cons x l => rfl
theorem dDe_nf {kk : κ → Key} {ov : α → OV} {l : List (κ × α)} : (dDe kk ov l).nf = true := by cases l <;> rfl
theorem fvK_map (kk : κ → Key) (ov : α → OV) : ∀ l : List (κ × α), OV.fvK (l.map fun p => (kk p.1, ov p.2)) = l.map fun p => (kk p.1, (ov p.2).fv)
  | [] => rfl
  | p :: l => by
    rw [List.map_cons, List.map_cons]
    show (kk p.1, (ov p.2).fv) :: OV.fvK (l.map _) = _
    rw [fvK_map kk ov l]
theorem dDe_fv {kk : κ → Key} {l : List (κ × List α)} : (dDe kk (oL e) l).fv = eK kk (eL e) l := by
  cases l with
  | nil => rfl
  | cons x l =>
    rw [dDe_cons (by simp)]
    show FV.dK (OV.fvK _) = _
    rw [fvK_map]
    rfl
theorem look_ne [DecidableEq κ] {l : List (κ × α)} {a : κ} {q : α} (h : lookK l a = some q) : l ≠ [] := by
  rintro rfl
  cases h
theorem dDe_sub [DecidableEq κ] {kk : κ → Key} {c : κ → FV} {ov : α → OV} {l : List (κ × α)} {a : κ} {q : α} {o : OV} (hk : EKey kk c) (ho : o.fv = c a) (h : lookK l a = some q) : opSub' (dDe kk ov l) o = some (.bo (ov q)) := by
  rw [dDe_cons (look_ne h)]
  show ((o.fv.key?.map fun k => (lookK (l.map fun p => (kk p.1, ov p.2)) k).map Rv.bo)).bind id = _
  rw [ho, hk.key]
  show (lookK (l.map fun p => (kk p.1, ov p.2)) (kk a)).map Rv.bo = _
  rw [look_map hk.inj, h]
  rfl
theorem ev_keysLD {f : DE} {r : Rv} {kk : κ → Key} {c : κ → FV} {ov : α → OV} {l : List (κ × α)} (hk : EKey kk c) (h : f env = .ok r) (hx : r.ov = dDe kk ov l) : dKeysLD f env = .ok (.st (.ol ((l.map (·.1)).map c))) := by
  unfold dKeysLD
  rw [h, bind_ok, hx]
  cases l with
  | nil => rfl
  | cons x l =>
    rw [dDe_cons (by simp)]
    simp only
    have : ∀ l : List (κ × α), (l.map fun p => (kk p.1, ov p.2)).map (fun kv => keyF kv.1) = (l.map (·.1)).map c := fun l => by
      rw [List.map_map, List.map_map]
      exact List.map_congr_left fun p _ => hk.back p.1
    rw [this]
/-- d[k] = a new list, k a new key -/
def putN0 [DecidableEq κ] (l : List (κ × α)) (c : κ) (v : α) : Option (List (κ × α)) := if l.length < BIG ∧ c ∉ l.map (·.1) then some (l ++ [(c, v)]) else none
theorem sg_putDD [DecidableEq κ] {i : Nat} {kk : κ → Key} {c : κ → FV} {f g : DE} {l v : List (κ × List α)} {x : List α} {a : κ} {r : Rv} (hk : EKey kk c) (h : env[i]? = some (some (dDe kk (oL e) l))) (h2 : f env = .ok (.st (oL e x))) (h3 : g env = .ok r) (h4 : r.fv = c a) (hv : putN0 l a x = some v) (k : SG (D (env.set i (some (dDe kk (oL e) v)))) tt P) : SG (dSeq (dPut i g f) D env) tt P := by
  unfold putN0 at hv
  split at hv
  · rename_i q
    cases hv
    rw [ev_seqN (ev_put (p' := dDe kk (oL e) (l ++ [(a, x)])) h ?_ h2 h3 ?_ ?_) rfl]
    · exact k
    · cases l <;> rfl
    · cases l with
      | nil => show 0 < BIG; decide
      | cons y l => show ((y :: l).map _).length < BIG; rw [List.length_map]; exact q.1
    · rw [h4]
      cases l with
      | nil =>
        have : OV.put (.oK []) (c a) (.ol (x.map e)) = (c a).key?.map fun k => OV.dd [(k, .ol (x.map e))] := by
          unfold OV.put
          cases (c a) <;> rfl
        show OV.put (.oK []) (c a) (.ol (x.map e)) = some (OV.dd [(kk a, .ol (x.map e))])
        rw [this, hk.key]
        rfl
      | cons y l =>
        have : OV.put (.dd ((y :: l).map fun p => (kk p.1, oL e p.2))) (c a) (.ol (x.map e)) = (c a).key?.bind fun k => if ((y :: l).map fun p => (kk p.1, oL e p.2)).any (fun kv => decide (kv.1 = k)) then none else some (OV.dd (((y :: l).map fun p => (kk p.1, oL e p.2)) ++ [(k, .ol (x.map e))])) := by
          unfold OV.put
          cases (c a) <;> rfl
        show OV.put (.dd ((y :: l).map fun p => (kk p.1, oL e p.2))) (c a) (.ol (x.map e)) = some (OV.dd (((y :: l) ++ [(a, x)]).map fun p => (kk p.1, oL e p.2)))
        rw [this, hk.key]
        show (if _ then none else some _) = _
        rw [if_neg]
        · rw [List.map_append]
          rfl
        · intro hh
          obtain ⟨z, hz, ez⟩ := List.any_eq_true.mp hh
          obtain ⟨w, hw, rfl⟩ := List.mem_map.mp hz
          exact q.2 (List.mem_map.mpr ⟨w, hw, hk.inj _ _ (of_decide_eq_true ez)⟩)
  · cases hv
theorem setK_map [DecidableEq κ] {kk : κ → Key} {ov : α → OV} (hk : ∀ a b, kk a = kk b → a = b) (a : κ) (q : α) : ∀ l : List (κ × α), setK (l.map fun p => (kk p.1, ov p.2)) (kk a) (ov q) = (setK l a q).map fun p => (kk p.1, ov p.2)
  | [] => rfl
  | p :: l => by
    rw [List.map_cons]
    unfold setK
    by_cases h : p.1 = a
    · rw [if_pos h, if_pos (show kk p.1 = kk a by rw [h])]
      rfl
    · rw [if_neg h, if_neg (show ¬ kk p.1 = kk a from fun z => h (hk _ _ z)), setK_map hk a q l]
      rfl
theorem setK_ne [DecidableEq κ] {l : List (κ × α)} {a : κ} {q : α} (h : l ≠ []) : setK l a q ≠ [] := by
  cases l with
  | nil => exact absurd rfl h
  | cons p l =>
    unfold setK
    split <;> simp
theorem dDe_sub? [DecidableEq κ] {kk : κ → Key} {c : κ → FV} {ov : α → OV} {l : List (κ × α)} {a : κ} {q : α} (hk : EKey kk c) (h : lookK l a = some q) : (dDe kk ov l).sub? (c a) = some (ov q) ∧ ∀ q', (dDe kk ov l).setAt (c a) (ov q') = dDe kk ov (setK l a q') := by
  rw [dDe_cons (look_ne h)]
  constructor
  · have : OV.sub? (.dd (l.map fun p => (kk p.1, ov p.2))) (c a) = (c a).key?.bind fun k => lookK (l.map fun p => (kk p.1, ov p.2)) k := by
      unfold OV.sub?
      cases (c a) <;> rfl
    rw [this, hk.key]
    show lookK (l.map fun p => (kk p.1, ov p.2)) (kk a) = _
    rw [look_map hk.inj, h]
    rfl
  · intro q'
    have : OV.setAt (.dd (l.map fun p => (kk p.1, ov p.2))) (c a) (ov q') = match (c a).key? with
      | some k => .dd (setK (l.map fun p => (kk p.1, ov p.2)) k (ov q'))
      | none => .dd (l.map fun p => (kk p.1, ov p.2)) := by
      unfold OV.setAt
      cases (c a) <;> rfl
    rw [this, hk.key, dDe_cons (setK_ne (look_ne h))]
    show OV.dd (setK _ (kk a) (ov q')) = _
    rw [setK_map hk.inj]
def appKG [DecidableEq κ] (l : List (κ × List α)) (a : κ) (x : α) : Option (List (κ × List α)) := (lookK l a).bind fun q => if q.length < BIG then some (setK l a (q ++ [x])) else none
theorem sg_appDD [DecidableEq κ] {i : Nat} {kk : κ → Key} {c : κ → FV} {l v : List (κ × List α)} {a : κ} {x : α} {fk fe : DE} {kr : Rv} (hk : EKey kk c) (h : env[i]? = some (some (dDe kk (oL e) l))) (h1 : fk env = .ok kr) (h1' : kr.fv = c a) (h2 : fe env = .ok (.st (.fz (e x)))) (hv : appKG l a x = some v) (k : SG (D (env.set i (some (dDe kk (oL e) v)))) tt P) : SG (dSeq (dAppAt i fk fe) D env) tt P := by
  unfold appKG at hv
  obtain ⟨q, hq, hv⟩ := Option.bind_eq_some_iff.mp hv
  split at hv
  · rename_i hl
    cases hv
    obtain ⟨s1, s2⟩ := dDe_sub? (ov := oL e) hk hq
    rw [ev_seqN (e := env.set i (some (dDe kk (oL e) (setK l a (q ++ [x]))))) ?_ rfl]
    · exact k
    · unfold dAppAt
      rw [h]
      simp only
      rw [h1, bind_ok, h1', s1]
      simp only
      rw [if_pos (show (oL e q).isL = true from rfl), h2, bind_ok]
      simp only
      rw [if_pos (show (oL e q).size < BIG by show (q.map e).length < BIG; rw [List.length_map]; exact hl)]
      show (Ans.ok (SO.nx (env.set i (some (OV.setAt (dDe kk (oL e) l) (c a) (.ol (q.map e ++ [e x]))))))) = _
      have : (OV.ol (q.map e ++ [e x])) = oL e (q ++ [x]) := by
        show _ = OV.ol ((q ++ [x]).map e)
        rw [List.map_append]
        rfl
      rw [this, s2]
  · cases hv
def putAtKG [DecidableEq κ] (l : List (κ × List α)) (a : κ) (j : Int) (x : α) : Option (List (κ × List α)) := (lookK l a).bind fun q => if q.length < BIG then (ixN q.length j).map fun m => setK l a (q.set m x) else none
theorem sg_putAtDD [DecidableEq κ] {i : Nat} {kk : κ → Key} {c : κ → FV} {l v : List (κ × List α)} {a : κ} {x : α} {j : Int} {fk fj fe : DE} {kr jr : Rv} (hk : EKey kk c) (h : env[i]? = some (some (dDe kk (oL e) l))) (h2 : fe env = .ok (.st (.fz (e x)))) (h1 : fk env = .ok kr) (h1' : kr.fv = c a) (h3 : fj env = .ok jr) (h3' : jr.fv = .int j) (hv : putAtKG l a j x = some v) (k : SG (D (env.set i (some (dDe kk (oL e) v)))) tt P) : SG (dSeq (dPutAt i fk fj fe) D env) tt P := by
  unfold putAtKG at hv
  obtain ⟨q, hq, hv⟩ := Option.bind_eq_some_iff.mp hv
  split at hv
  · rename_i hl
    obtain ⟨m, hm, e2⟩ := Option.map_eq_some_iff.mp hv
    subst e2
    obtain ⟨s1, s2⟩ := dDe_sub? (ov := oL e) hk hq
    rw [ev_seqN (e := env.set i (some (dDe kk (oL e) (setK l a (q.set m x))))) ?_ rfl]
    · exact k
    · unfold dPutAt
      rw [h]
      simp only
      rw [h2, bind_ok, h1, bind_ok, h1', s1]
      simp only
      rw [if_pos (show (oL e q).isL = true from rfl), h3, bind_ok, h3']
      rw [if_pos (show (oL e q).size < BIG by show (q.map e).length < BIG; rw [List.length_map]; exact hl)]
      have : OV.put (oL e q) (.int j) (.fz (e x)) = some (oL e (q.set m x)) := by
        show (ixN (q.map e).length j).map (fun n => OV.ol ((q.map e).set n (e x))) = _
        rw [List.length_map, hm]
        show some (OV.ol ((q.map e).set m (e x))) = some (OV.ol ((q.set m x).map e))
        rw [List.map_set]
      rw [this]
      show (Ans.ok (SO.nx (env.set i (some (OV.setAt (dDe kk (oL e) l) (c a) (oL e (q.set m x))))))) = _
      rw [s2]
  · cases hv
end
end J
namespace J
open PySem PySem.Spec PyProof.Rows L2
section
variable {α β γ κ : Type} {e : α → FV} {env : VEnv} {D : DS} {tt : Option γ} {P : γ → SO → Prop}
/-! ### dicts that are alike -/
def eqKG [DecidableEq κ] [DecidableEq α] (a b : List (κ × α)) : Option Bool := if a = b ∧ (a.map (·.1)).Nodup then some true else none
theorem lookK_nd [DecidableEq κ] : ∀ {l : List (κ × α)}, (l.map (·.1)).Nodup → ∀ p ∈ l, lookK l p.1 = some p.2
  | [], _, _, h => nomatch h
  | x :: l, hn, p, hp => by
    rw [List.map_cons, List.nodup_cons] at hn
    rw [lookK_cons]
    rcases List.mem_cons.mp hp with rfl | hp
    · rw [if_pos rfl]
    · rw [if_neg fun h => hn.1 (List.mem_map.mpr ⟨p, hp, h.symm⟩)]
      exact lookK_nd hn.2 p hp
theorem eqD_self {n : Nat} (h : EnP n e) (hn : n ≤ 64) (a : α) : (e a).eqD (e a) = some true := by
  obtain ⟨p, h1, h2, h3⟩ := h.d a
  unfold FV.eqD
  rw [h1]
  have : SeqAt.shaped p = true := by unfold SeqAt.shaped; rw [h2]; simpa using Nat.le_trans h3 hn
  simp only [this, Bool.and_self, if_true]
  rw [(h.inj a a p p h1 h1).mpr rfl]
theorem t_eqK [DecidableEq κ] [DecidableEq α] {kk : κ → Key} {c : κ → FV} {n : Nat} {a b : List (κ × α)} {v : Bool} {x y : OV} (hk : EKey kk c) (he : EnP n e) (hn : n ≤ 64) (hx : x.fv = eK kk e a) (hy : y.fv = eK kk e b) (h : eqKG a b = some v) : opEqK x y = some (.fz (.bl v)) := by
  unfold eqKG at h
  split at h
  · rename_i q
    cases h
    obtain ⟨rfl, nd⟩ := q
    unfold opEqK
    rw [hx, hy]
    simp only
    rw [if_pos]
    refine ⟨trivial, List.all_eq_true.mpr fun z hz => ?_⟩
    obtain ⟨p, hp, rfl⟩ := List.mem_map.mp hz
    unfold FV.sameAt
    simp only
    rw [look_map hk.inj, lookK_nd nd p hp]
    show ((e p.2).eqD (e p.2) == some true) = true
    rw [eqD_self he hn]
    rfl
  · cases h
/-! ### texts -/
def joinG (xs : List Chr) : Option (List Chr) := if xs.length ≤ BIG then some xs else none
theorem strs_C : ∀ xs : List Chr, strs? (xs.map eC) = some (xs.map fun c => (⟨#[c.val]⟩ : Str))
  | [] => rfl
  | c :: xs => by
    show (strs? (xs.map eC)).map (_ :: ·) = _
    rw [strs_C xs]
    rfl
theorem glue_C (xs : List Chr) : Txt.join (sxS []) (xs.map fun c => (⟨#[c.val]⟩ : Str)) = sxS xs := by
  have key : ∀ (xs : List Chr) (acc : Array Nat), (xs.map fun c => (⟨#[c.val]⟩ : Str)).foldl (fun acc p => acc ++ (sxS []).cps ++ p.cps) acc = acc ++ (xs.map Fin.val).toArray := fun xs => by
    induction xs with
    | nil => intro acc; simp
    | cons c xs ih =>
      intro acc
      rw [List.map_cons, List.foldl_cons, ih]
      simp [sxS]
  cases xs with
  | nil => rfl
  | cons c xs =>
    show (⟨(xs.map fun c => (⟨#[c.val]⟩ : Str)).foldl (fun acc p => acc ++ (sxS []).cps ++ p.cps) #[c.val]⟩ : Str) = _
    rw [key]
    unfold sxS
    simp
theorem t_join0 {xs v : List Chr} {x : OV} (hx : x = .ol (xs.map eC) ∨ x = .fz (eL eC xs)) (h : joinG xs = some v) : opJoin (.fz (eS [])) [x] = some (.fz (eS v)) := by
  unfold joinG at h
  split at h
  · rename_i q
    cases h
    have hs : x.seq? = some (xs.map eC) := by rcases hx with rfl | rfl <;> rfl
    show (x.seq?).bind _ = _
    rw [hs, Option.bind_some, strs_C, Option.bind_some]
    have l1 : ((xs.map fun c => (⟨#[c.val]⟩ : Str)).map (·.length)).sum = xs.length := by
      clear q hs hx
      induction xs with
      | nil => rfl
      | cons c xs ih => rw [List.map_cons, List.map_cons, List.sum_cons, ih, List.length_cons]; show 1 + xs.length = _; omega
    rw [if_pos, glue_C]
    rw [l1]
    show xs.length + _ * 0 ≤ BIG
    omega
  · cases h
abbrev findC (s : List Chr) (c : Chr) : Int := Txt.find (sxS s) ⟨#[c.val]⟩
theorem t_findC {s : List Chr} {c : Chr} : opFind (.fz (eS s)) [.fz (eC c)] = some (.fz (.int (findC s c))) := rfl
/-! ### the one or the other -/
def eV (a : α → FV) (b : β → FV) : α ⊕ β → FV
  | .inl x => a x
  | .inr y => b y
theorem unVl {a : α → FV} {b : β → FV} {f : DE} {v : α ⊕ β} {x : α} (p : f env = .ok (.st (.fz (eV a b v)))) (h : v.getLeft? = some x) : f env = .ok (.st (.fz (a x))) := by
  cases v with
  | inl y => cases h; exact p
  | inr y => cases h
theorem unVr {a : α → FV} {b : β → FV} {f : DE} {v : α ⊕ β} {y : β} (p : f env = .ok (.st (.fz (eV a b v)))) (h : v.getRight? = some y) : f env = .ok (.st (.fz (b y))) := by
  cases v with
  | inl y => cases h
  | inr y => cases h; exact p
theorem t_isaV {v : Int ⊕ List α} : opIsa ["int"] (.fz (eV eI (eL e) v)) = some (.fz (.bl v.isLeft)) := by cases v <;> rfl
/-! ### kept errors -/
abbrev eQ : Str → FV := FV.exc
def isEG (tab : List (Str × Bool)) : Option Str → Option Bool
  | none => some false
  | some c => tab.lookup c
theorem t_isE {tab : List (Str × Bool)} {v : Option Str} {b : Bool} (h : isEG tab v = some b) : opIsE tab (.fz (eO eQ v)) = some (.fz (.bl b)) := by
  cases v with
  | none => cases h; rfl
  | some c =>
    show (tab.lookup c).map _ = _
    rw [show tab.lookup c = some b from h]
    rfl
theorem sg_none {x : Ans SO} : SG x none P := fun _ h => nomatch h
def tryG (a : Option α) (x : Option Str) : Option (Option Str) := match a with
  | some _ => some none
  | none => x.map some
def TryOut (f : DE) (env : VEnv) (L : List Str) : Option Str → Prop
  | none => ∃ r, f env = .ok r
  | some c => f env = .ex c ∧ L.contains c = true
theorem try_call {m : FM} {g : VEnv → Ans (List Rv)} {rs : List Rv} {as : List FV} {a : Option α} {x : Option Str} {O : α → OV} {v : Option Str} {L : List Str} (hg : g env = .ok rs) (ha : rs.map Rv.fv = as) (hz : rs.all Rv.isFz = true) (h1 : ∀ w, a = some w → m as = .ok (O w)) (h2 : ∀ c, x = some c → m as = .ex c ∧ L.contains c = true) (hv : tryG a x = some v) : TryOut (dCall m g) env L v := by
  have run : dCall m g env = (m as).bind fun o => if rs.all Rv.isFz || o.clean then .ok (.st o) else .no := by
    unfold dCall
    rw [hg, bind_ok, ha]
  cases a with
  | some w =>
    cases hv
    refine ⟨.st (O w), ?_⟩
    rw [run, h1 w rfl, bind_ok, hz]
    rfl
  | none =>
    obtain ⟨c, hc, rfl⟩ := Option.map_eq_some_iff.mp hv
    obtain ⟨q1, q2⟩ := h2 c hc
    exact ⟨by rw [run, q1]; rfl, q2⟩
theorem sg_try {L : List Str} {i j : Nat} {f : DE} {v : Option Str} (hi : env[i]? = some none) (hj : env[j]? = some (some (.fz .non))) (h : TryOut f env L v) (k : SG (D (env.set j (some (.fz (eO eQ v))))) tt P) : SG (dSeq (dTry L f i j) D env) tt P := by
  cases v with
  | none =>
    obtain ⟨r, h⟩ := h
    have same : env.set j (some (.fz .non)) = env := by
      refine List.ext_getElem? fun n => ?_
      by_cases hn : j = n
      · subst hn
        rw [List.getElem?_set_self (List.getElem?_eq_some_iff.mp hj).1, hj]
      · rw [List.getElem?_set_ne hn]
    rw [ev_seqN (e := env) ?_ rfl]
    · have k : SG (D (env.set j (some (.fz .non)))) tt P := k
      rw [same] at k
      exact k
    · unfold dTry
      rw [hi]
      simp only
      rw [h]
  | some c =>
    rw [ev_seqN (e := env.set j (some (.fz (.exc c)))) ?_ rfl]
    · exact k
    · unfold dTry
      rw [hi]
      simp only
      rw [h.1]
      simp only
      rw [if_pos h.2]
/-! ### a list that owned lists are put behind -/
def dLe (e : α → FV) (xs : List (List α)) : OV := if xs.isEmpty then .ol [] else oLL (oL e) xs
theorem dLe_ne {xs : List (List α)} (h : xs ≠ []) : dLe e xs = oLL (oL e) xs := by
  cases xs with
  | nil => exact absurd rfl h
  | cons x xs => rfl
theorem dLe_nf {xs : List (List α)} : (dLe e xs).nf = true := by cases xs <;> rfl
theorem dLe_fv {xs : List (List α)} : (dLe e xs).fv = eL (eL e) xs := by
  cases xs with
  | nil => rfl
  | cons x xs => rw [dLe_ne (by simp)]; exact fvL_of (e := eL e) (ov := oL e) (fun _ => rfl) _
theorem ne_of_if {p : Prop} [Decidable p] {u : Unit} (h : (if p then some () else none) = some u) : p := by
  by_cases q : p
  · exact q
  · rw [if_neg q] at h; cases h
def appE (xs : List (List α)) (x : List α) : Option (List (List α)) := if xs.length < BIG then some (xs ++ [x]) else none
theorem sg_appE {i : Nat} {f : DE} {xs v : List (List α)} {x : List α} (h : env[i]? = some (some (dLe e xs))) (h2 : f env = .ok (.st (oL e x))) (hv : appE xs x = some v) (k : SG (D (env.set i (some (dLe e v)))) tt P) : SG (dSeq (dApp i f) D env) tt P := by
  unfold appE at hv
  split at hv
  · rename_i q
    cases hv
    refine sg_app (p := dLe e xs) (p' := dLe e (xs ++ [x])) h (by cases xs <;> rfl) h2 ?_ ?_ k
    · cases xs with
      | nil => show 0 < BIG; decide
      | cons y xs => show ((y :: xs).map (oL e)).length < BIG; rw [List.length_map]; exact q
    · cases xs with
      | nil => rfl
      | cons y xs =>
        rw [dLe_ne (by simp), dLe_ne (by simp)]
        show some (OV.dl (((y :: xs).map (oL e)) ++ [oL e x])) = some (OV.dl (((y :: xs) ++ [x]).map (oL e)))
        rw [List.map_append]
        rfl
  · cases hv
end
end J
namespace J
open PySem PySem.Spec PyProof.Rows L2
/-! ### the typed functions' words, for proofs without a program -/
section
variable {α β γ σ ρ κ : Type}
theorem bindS {a : α} {f : α → Option β} : (some a).bind f = f a := rfl
theorem bigL {n : Nat} (h : n ≤ 100000) : n ≤ BIG := Nat.le_trans h (by decide)
theorem bigT {n : Nat} (h : n ≤ 100000) : n < BIG := Nat.lt_of_le_of_lt h (by decide)
/-! loops -/
theorem forT_inv {f : α → σ → Option σ} (I : Nat → σ → Prop) : ∀ {xs : List α} {n : Nat} {s : σ}, I n s → (∀ i x s, xs[i]? = some x → I (n + i) s → ∃ s', f x s = some s' ∧ I (n + i + 1) s') → ∃ s', forT f xs s = some s' ∧ I (n + xs.length) s'
  | [], n, s, h, _ => ⟨s, rfl, h⟩
  | x :: xs, n, s, h, hs => by
    obtain ⟨s', h1, h2⟩ := hs 0 x s rfl h
    obtain ⟨r, k1, k2⟩ := forT_inv (f := f) I (xs := xs) (n := n + 1) h2 fun i y s hy hi => by
      have e : n + 1 + i = n + (i + 1) := by omega
      rw [e] at hi ⊢
      exact hs (i + 1) y s (by simpa using hy) hi
    refine ⟨r, ?_, ?_⟩
    · unfold forT; rw [h1]; exact k1
    · rw [List.length_cons, show n + (xs.length + 1) = n + 1 + xs.length by omega]; exact k2
theorem forT_inv0 {f : α → σ → Option σ} (I : Nat → σ → Prop) {xs : List α} {s : σ} (h0 : I 0 s) (hs : ∀ i x s, xs[i]? = some x → I i s → ∃ s', f x s = some s' ∧ I (i + 1) s') : ∃ s', forT f xs s = some s' ∧ I xs.length s' := by
  have := forT_inv (f := f) I (xs := xs) (n := 0) h0 fun i x s hx hi => by
    rw [Nat.zero_add] at hi ⊢
    exact hs i x s hx hi
  rw [Nat.zero_add] at this
  exact this
theorem forT_flat {f : α → List β → Option (List β)} {g : α → List β} {N : Nat} : ∀ {xs : List α} {acc : List β}, (∀ x ∈ xs, ∀ a : List β, a.length + (g x).length ≤ N → f x a = some (a ++ g x)) → acc.length + (xs.flatMap g).length ≤ N → forT f xs acc = some (acc ++ xs.flatMap g)
  | [], acc, _, _ => by rw [List.flatMap_nil, List.append_nil]; rfl
  | x :: xs, acc, h, hn => by
    rw [List.flatMap_cons, List.length_append] at hn
    unfold forT
    rw [h x List.mem_cons_self acc (by omega)]
    show forT f xs (acc ++ g x) = _
    rw [forT_flat (fun y hy => h y (List.mem_cons_of_mem _ hy)) (by rw [List.length_append]; omega), List.flatMap_cons, List.append_assoc]
theorem forT_map {f : α → List β → Option (List β)} {g : α → β} {N : Nat} {xs : List α} {acc : List β} (h : ∀ x ∈ xs, ∀ a : List β, a.length < N → f x a = some (a ++ [g x])) (hn : acc.length + xs.length ≤ N) : forT f xs acc = some (acc ++ xs.map g) := by
  have e : xs.flatMap (fun x => [g x]) = xs.map g := by
    induction xs with
    | nil => rfl
    | cons x xs ih => rw [List.flatMap_cons, ih (fun y hy => h y (List.mem_cons_of_mem _ hy)) (by simp at hn; omega)]; rfl
  rw [← e]
  exact forT_flat (N := N) (fun x hx a ha => h x hx a (by simp at ha; omega)) (by rw [e, List.length_map]; exact hn)
theorem forT_fold {f : α → σ → Option σ} {g : α → σ → σ} : ∀ {xs : List α} {s : σ}, (∀ x ∈ xs, ∀ s, f x s = some (g x s)) → forT f xs s = some (xs.foldl (fun s x => g x s) s)
  | [], s, _ => rfl
  | x :: xs, s, h => by
    unfold forT
    rw [h x List.mem_cons_self]
    exact forT_fold fun y hy => h y (List.mem_cons_of_mem _ hy)
/-- a search: goes on where p, else the answer -/
theorem forC_all {f : α → Unit → Option (Ctl Unit ρ)} {p : α → Bool} {r : ρ} : ∀ {xs : List α}, (∀ x ∈ xs, f x () = some (if p x then .nx () else .rt r)) → forC f xs () = some (if xs.all p then .nx () else .rt r)
  | [], _ => rfl
  | x :: xs, h => by
    unfold forC
    rw [h x List.mem_cons_self, bindS, List.all_cons]
    cases p x with
    | false => rfl
    | true =>
      simp only [if_true, Bool.true_and]
      exact forC_all fun y hy => h y (List.mem_cons_of_mem _ hy)
/-- a search that ends at the first one found -/
theorem forC_first {f : α → Unit → Option (Ctl Unit ρ)} {p : α → Bool} {r : α → ρ} : ∀ {xs : List α}, (∀ x ∈ xs, f x () = some (if p x then .rt (r x) else .nx ())) → forC f xs () = some (match xs.find? p with | some x => .rt (r x) | none => .nx ())
  | [], _ => rfl
  | x :: xs, h => by
    unfold forC
    rw [h x List.mem_cons_self, bindS, List.find?_cons]
    cases p x with
    | true => rfl
    | false => exact forC_first fun y hy => h y (List.mem_cons_of_mem _ hy)
/-! comprehensions -/
theorem lcT_ok {c : α → Option Bool} {g : α → Option β} {p : α → Bool} {h : α → β} : ∀ {xs : List α}, (∀ x ∈ xs, c x = some (p x) ∧ (p x = true → g x = some (h x))) → lcT c g xs = some ((xs.filter p).map h)
  | [], _ => rfl
  | x :: xs, q => by
    obtain ⟨h1, h2⟩ := q x List.mem_cons_self
    unfold lcT
    rw [h1, bindS, lcT_ok fun y hy => q y (List.mem_cons_of_mem _ hy)]
    cases hp : p x with
    | false => rw [if_neg Bool.false_ne_true, List.filter_cons_of_neg (by rw [hp]; decide)]
    | true => rw [if_pos rfl, h2 hp, List.filter_cons_of_pos hp]; rfl
theorem lcG_ok {c : α → Option Bool} {g : α → Option β} {p : α → Bool} {h : α → β} {xs : List α} (q : ∀ x ∈ xs, c x = some (p x) ∧ (p x = true → g x = some (h x))) (hl : xs.length ≤ 100000) : lcG c g xs = some ((xs.filter p).map h) := by
  unfold lcG
  rw [lcT_ok q, bindS, if_pos]
  rw [List.length_map]
  exact bigL (Nat.le_trans (List.length_filter_le _ _) hl)
theorem lcG_map {c : α → Option Bool} {g : α → Option β} {h : α → β} {xs : List α} (q : ∀ x ∈ xs, c x = some true ∧ g x = some (h x)) (hl : xs.length ≤ 100000) : lcG c g xs = some (xs.map h) := by
  have := lcG_ok (p := fun _ => true) (fun x hx => ⟨(q x hx).1, fun _ => (q x hx).2⟩) hl
  rw [List.filter_eq_self.mpr fun _ _ => rfl] at this
  exact this
theorem lcG_bind {c : α → Option Bool} {g : α → Option β} {p : α → Bool} {h : α → β} {xs : List α} {k : List β → Option γ} {r : Option γ} (q : ∀ x ∈ xs, c x = some (p x) ∧ (p x = true → g x = some (h x))) (hl : xs.length ≤ 100000) (hk : k ((xs.filter p).map h) = r) : (lcG c g xs).bind k = r := by
  rw [lcG_ok q hl, bindS, hk]
theorem lcM_bind {c : α → Option Bool} {g : α → Option β} {h : α → β} {xs : List α} {k : List β → Option γ} {r : Option γ} (q : ∀ x ∈ xs, c x = some true ∧ g x = some (h x)) (hl : xs.length ≤ 100000) (hk : k (xs.map h) = r) : (lcG c g xs).bind k = r := by
  rw [lcG_map q hl, bindS, hk]
/-! numbers, places -/
theorem rangeN {n : Int} (m : Nat) (e : n = (m : Int)) (h : m ≤ 100000) : rangeG n = some ((List.range m).map fun i => ((i : Nat) : Int)) := by
  unfold rangeG
  rw [if_pos (by omega), e, Int.toNat_natCast]
theorem modN {a b : Int} (h : 0 < b) : modG a b = some (a % b) := if_pos h
theorem atN {xs : List α} {i : Int} {n : Nat} (e : i = (n : Int)) (h : n < xs.length) : atI xs i = some (xs[n]'h) := by
  unfold atI ixN
  rw [e, if_pos (by omega), if_pos (by omega), Option.bind_some, Int.toNat_natCast, List.getElem?_eq_getElem h]
theorem atQ {xs : List α} {i : Int} {n : Nat} {x : α} (e : i = (n : Int)) (h : xs[n]? = some x) : atI xs i = some x := by
  obtain ⟨hl, rfl⟩ := List.getElem?_eq_some_iff.mp h
  exact atN e hl
theorem atLast {xs : List α} {x : α} (h : xs ≠ []) : atI xs (-1) = some (xs.getLast h) := by
  have hl : 0 < xs.length := List.length_pos_iff.mpr h
  unfold atI ixN
  rw [if_neg (by decide), if_pos (by omega), Option.bind_some, List.getLast_eq_getElem, show ((-1 : Int) + xs.length).toNat = xs.length - 1 by omega]
  exact List.getElem?_eq_getElem (by omega)
theorem idxM [DecidableEq α] {xs : List α} {a : α} (h : a ∈ xs) : idxT xs a = some ((xs.idxOf a : Nat) : Int) := by
  unfold idxT
  have : xs.findIdx? (fun z => decide (z = a)) = some (xs.idxOf a) := by
    have hl := List.idxOf_lt_length_iff.mpr h
    refine List.findIdx?_eq_some_iff_getElem.mpr ⟨hl, by simp, fun j hj => ?_⟩
    have : xs[j] ≠ a := by
      intro e
      have := List.not_of_lt_findIdx (p := (· == a)) (xs := xs) (i := j) hj
      simp [e] at this
    simp [this]
  rw [this]; rfl
theorem appN {xs : List α} {x : α} (h : xs.length ≤ 100000) : appG xs x = some (xs ++ [x]) := if_pos (bigT h)
theorem catN {xs ys : List α} (h : xs.length + ys.length ≤ 100000) : catG xs ys = some (xs ++ ys) := if_pos (bigL h)
theorem cut_none {xs : List α} {n : Nat} {i : Int} (e : i = (n : Int)) : cutF xs none (some i) = xs.take n := by
  subst e
  have := (HT.sIx xs.length xs.length (some (n : Int)))
  unfold cutF
  show (xs.drop 0).take (HT.sIx xs.length xs.length (some (n : Int)) - 0) = _
  rw [List.drop_zero, Nat.sub_zero]
  unfold HT.sIx
  simp only
  split
  · omega
  · by_cases h : n ≤ xs.length
    · congr 1; omega
    · rw [List.take_of_length_le (by omega), List.take_of_length_le (by omega)]
/-! dicts -/
theorem lookK_mem [DecidableEq κ] {l : List (κ × α)} {k : κ} : (lookK l k).isSome = true ↔ k ∈ l.map (·.1) := by
  unfold lookK
  rw [Option.isSome_map, List.find?_isSome, List.mem_map]
  constructor
  · rintro ⟨x, h1, h2⟩; exact ⟨x, h1, of_decide_eq_true h2⟩
  · rintro ⟨x, h1, h2⟩; exact ⟨x, h1, decide_eq_true h2⟩
theorem putKV_keys [DecidableEq κ] {l : List (κ × α)} {k : κ} {v : α} : (putKV l k v).map (·.1) = if k ∈ l.map (·.1) then l.map (·.1) else l.map (·.1) ++ [k] := by
  unfold putKV
  have e : l.any (fun kv => decide (kv.1 = k)) = decide (k ∈ l.map (·.1)) := by
    by_cases h : k ∈ l.map (·.1)
    · rw [decide_eq_true h]
      obtain ⟨x, h1, h2⟩ := List.mem_map.mp h
      exact List.any_eq_true.mpr ⟨x, h1, decide_eq_true h2⟩
    · rw [decide_eq_false h]
      exact List.any_eq_false.mpr fun x hx => by simpa using fun e => h (List.mem_map.mpr ⟨x, hx, e⟩)
  rw [e]
  by_cases h : k ∈ l.map (·.1)
  · rw [decide_eq_true h, if_pos rfl, if_pos h, List.map_map]
    refine List.map_congr_left fun x _ => ?_
    show (if x.1 = k then (x.1, v) else x).1 = x.1
    split <;> rfl
  · rw [decide_eq_false h, if_neg Bool.false_ne_true, if_neg h, List.map_append]
    rfl
theorem putKV_len [DecidableEq κ] {l : List (κ × α)} {k : κ} {v : α} : (putKV l k v).length ≤ l.length + 1 := by
  unfold putKV
  split
  · rw [List.length_map]; omega
  · rw [List.length_append]; exact Nat.le_refl _
theorem putN [DecidableEq κ] {l : List (κ × α)} {k : κ} {v : α} (h : l.length ≤ 100000) : putG l k v = some (putKV l k v) := if_pos (bigT h)
theorem putKV_nodup [DecidableEq κ] {l : List (κ × α)} {k : κ} {v : α} (h : (l.map (·.1)).Nodup) : ((putKV l k v).map (·.1)).Nodup := by
  rw [putKV_keys]
  split
  · exact h
  · rename_i q
    rw [List.nodup_append]
    exact ⟨h, by simp, fun a ha b hb e => q (by rw [List.mem_singleton] at hb; rw [← hb, ← e]; exact ha)⟩
/-- a loop that puts keys: which keys there are then -/
theorem forT_keys [DecidableEq κ] {f : α → List (κ × β) → Option (List (κ × β))} {k : α → κ} {v : α → β} {N : Nat} (hN : N ≤ 100000) : ∀ {xs : List α} {l : List (κ × β)}, (∀ x ∈ xs, ∀ l : List (κ × β), l.length ≤ N → f x l = some (putKV l (k x) (v x))) → l.length + xs.length ≤ N → (l.map (·.1)).Nodup →
    ∃ l', forT f xs l = some l' ∧ (∀ c, c ∈ l'.map (·.1) ↔ c ∈ l.map (·.1) ∨ c ∈ xs.map k) ∧ (l'.map (·.1)).Nodup ∧ l'.length ≤ l.length + xs.length
  | [], l, _, _, h => ⟨l, rfl, fun c => by simp, h, Nat.le_refl _⟩
  | x :: xs, l, h, hl, hn => by
    rw [List.length_cons] at hl
    have h1 := putKV_len (l := l) (k := k x) (v := v x)
    obtain ⟨l', q1, q2, q3, q4⟩ := forT_keys hN (xs := xs) (l := putKV l (k x) (v x)) (fun y hy => h y (List.mem_cons_of_mem _ hy)) (by omega) (putKV_nodup hn)
    refine ⟨l', ?_, fun c => ?_, q3, by rw [List.length_cons]; omega⟩
    · unfold forT
      rw [h x List.mem_cons_self l (by omega)]
      exact q1
    · rw [q2, putKV_keys, List.map_cons, List.mem_cons]
      split
      · rename_i hk
        exact ⟨fun z => z.elim .inl fun z => .inr (.inr z), fun z => z.elim .inl fun z => z.elim (fun z => .inl (by rw [z]; exact hk)) .inr⟩
      · rw [List.mem_append, List.mem_singleton, or_assoc]
end
theorem le_s1 (a b : Nat) : PySem.W.dataLe false FV.enc (s1 a) (s1 b) = decide (a ≤ b) := by
  have h := congrFun (congrFun (PySem.W.dataLe_str (k := fun n : Nat => (⟨#[n]⟩ : Str))) a) b
  have e : PySem.W.dataLe false FV.enc (s1 a) (s1 b) = PySem.W.dataLe false (fun n : Nat => PyData.str ⟨#[n]⟩) a b := rfl
  rw [e, h]
  have : ([a] ≤ [b]) ↔ a ≤ b := by rw [List.cons_le_cons_iff]; simp; omega
  show decide ([a] ≤ [b]) = decide (a ≤ b)
  simp only [this]
theorem sortOk_s1 (l : List Nat) (h : l.length ≤ BIG) : sortOk (l.map s1) = true := by
  unfold sortOk
  simp only [Bool.and_eq_true, Bool.or_eq_true]
  refine ⟨⟨⟨⟨?_, ?_⟩, .inr ?_⟩, decide_eq_true (by rw [List.length_map]; exact h)⟩, ?_⟩
  · rw [List.all_map]; exact List.all_eq_true.mpr fun x _ => rfl
  · rw [List.all_map]
    refine List.all_eq_true.mpr fun x _ => ?_
    show ((l.map s1).all fun y => PySem.W.alike (s1 x).enc y.enc) = true
    rw [List.all_map]
    exact List.all_eq_true.mpr fun y _ => by
      show PySem.W.alike (.str ⟨#[x]⟩) (.str ⟨#[y]⟩) = true
      rw [PySem.W.alike]
  · rw [List.all_map]; exact List.all_eq_true.mpr fun x _ => rfl
  · rw [List.all_map]
    refine List.all_eq_true.mpr fun x _ => ?_
    show decide ((PyData.str ⟨#[x]⟩).depth ≤ 60) = true
    rw [PyData.depth]
    rfl
theorem rcons_lt {a b : Int} {l m : List Int} : (a :: l) < (b :: m) ↔ a < b ∨ a = b ∧ l < m := List.cons_lt_cons_iff
theorem rapp_lt {a b : List Int} {x y : Int} (hl : a.length = b.length) : (a ++ [x]) < (b ++ [y]) ↔ a < b ∨ a = b ∧ x < y := by
  induction a generalizing b with
  | nil =>
    cases b with
    | nil => simp [rcons_lt]
    | cons c b => simp at hl
  | cons c a ih =>
    cases b with
    | nil => simp at hl
    | cons d b =>
      rw [List.cons_append, List.cons_append, rcons_lt, rcons_lt, ih (by simpa using hl)]
      constructor
      · rintro (h | ⟨h, h2 | ⟨h2, h3⟩⟩)
        · exact .inl (.inl h)
        · exact .inl (.inr ⟨h, h2⟩)
        · exact .inr ⟨by rw [h, h2], h3⟩
      · rintro ((h | ⟨h, h2⟩) | ⟨h, h2⟩)
        · exact .inl h
        · exact .inr ⟨h, .inl h2⟩
        · injection h with h1 h3
          exact .inr ⟨h1, .inr ⟨h3, h2⟩⟩
theorem sortOk_row (l : List (List Int)) (h : l.length ≤ BIG) (hne : ∀ r ∈ l, r ≠ []) : sortOk (l.map rowF) = true := by
  unfold sortOk
  simp only [Bool.and_eq_true, Bool.or_eq_true]
  refine ⟨⟨⟨⟨?_, ?_⟩, .inl ?_⟩, decide_eq_true (by rw [List.length_map]; exact h)⟩, ?_⟩
  · rw [List.all_map]
    refine List.all_eq_true.mpr fun x _ => ?_
    show (rowF x).toD.isSome = true
    rw [toD_row]
    rfl
  · rw [List.all_map]
    refine List.all_eq_true.mpr fun x _ => ?_
    show ((l.map rowF).all fun y => PySem.W.alike (rowF x).enc y.enc) = true
    rw [List.all_map]
    exact List.all_eq_true.mpr fun y _ => alike_row x y
  · rw [List.all_map]
    refine List.all_eq_true.mpr fun x hx => ?_
    show tupD (rowF x).enc = true
    rw [enc_row]
    cases x with
    | nil => exact absurd rfl (hne _ hx)
    | cons n x => rfl
  · rw [List.all_map]
    refine List.all_eq_true.mpr fun x _ => ?_
    show decide ((rowF x).enc.depth ≤ 60) = true
    rw [enc_row, PyData.depth, PySem.W.depth_ints]
    rfl
/-! sorts -/
theorem le_C (a b : Chr) : PySem.W.dataLe false FV.enc (eC a) (eC b) = decide (a ≤ b) := by
  have := le_s1 a.val b.val
  show PySem.W.dataLe false FV.enc (s1 a.val) (s1 b.val) = _
  rw [this]
  by_cases h : a ≤ b
  · rw [decide_eq_true h, decide_eq_true (show a.val ≤ b.val from h)]
  · rw [decide_eq_false h, decide_eq_false (show ¬ a.val ≤ b.val from h)]
theorem le_I (a b : Int) : PySem.W.dataLe false FV.enc (eI a) (eI b) = decide (a ≤ b) := by
  exact congrFun (congrFun (PySem.W.dataLe_int (k := fun n : Int => n)) a) b
theorem sortOk_I (l : List Int) (h : l.length ≤ BIG) : sortOk (l.map eI) = true := by
  unfold sortOk
  simp only [Bool.and_eq_true, Bool.or_eq_true]
  refine ⟨⟨⟨⟨?_, ?_⟩, .inr ?_⟩, decide_eq_true (by rw [List.length_map]; exact h)⟩, ?_⟩
  · rw [List.all_map]; exact List.all_eq_true.mpr fun x _ => rfl
  · rw [List.all_map]
    refine List.all_eq_true.mpr fun x _ => ?_
    show ((l.map eI).all fun y => PySem.W.alike (eI x).enc y.enc) = true
    rw [List.all_map]
    exact List.all_eq_true.mpr fun y _ => by
      show PySem.W.alike (.int x) (.int y) = true
      rw [PySem.W.alike]
  · rw [List.all_map]; exact List.all_eq_true.mpr fun x _ => rfl
  · rw [List.all_map]
    refine List.all_eq_true.mpr fun x _ => ?_
    show decide ((PyData.int x).depth ≤ 60) = true
    rw [PyData.depth]
    rfl
theorem srt_gen {α : Type} {e : α → FV} {le : α → α → Prop} [DecidableRel le] (hle : ∀ a b, PySem.W.dataLe false FV.enc (e a) (e b) = decide (le a b)) (tot : ∀ a b, le a b ∨ le b a) (tr : ∀ a b c, le a b → le b c → le a c) {l : List α} (ok : sortOk (l.map e) = true) : ∃ ys, srt e l = some ys ∧ ys.Perm l ∧ ys.Pairwise le := by
  refine ⟨l.mergeSort fun a b => decide (le a b), ?_, List.mergeSort_perm l _, ?_⟩
  · unfold srt
    rw [if_pos ok]
    congr 2
    funext a b
    exact hle a b
  · have := List.pairwise_mergeSort (le := fun a b => decide (le a b)) (fun a b c h1 h2 => decide_eq_true (tr a b c (of_decide_eq_true h1) (of_decide_eq_true h2))) (fun a b => by
      rcases tot a b with h | h
      · rw [decide_eq_true h]; rfl
      · rw [decide_eq_true h, Bool.or_true]) l
    exact this.imp fun h => of_decide_eq_true h
theorem srtC_ok {l : List Chr} (h : l.length ≤ 100000) : ∃ ys, srt eC l = some ys ∧ ys.Perm l ∧ ys.Pairwise (· ≤ ·) :=
  srt_gen le_C (fun a b => Nat.le_total a.val b.val) (fun a b c h1 h2 => Nat.le_trans h1 h2) (by
    have := sortOk_s1 (l.map Fin.val) (by rw [List.length_map]; exact bigL h)
    rw [List.map_map] at this
    exact this)
theorem srtI_ok {l : List Int} (h : l.length ≤ 100000) : ∃ ys, srt eI l = some ys ∧ ys.Perm l ∧ ys.Pairwise (· ≤ ·) :=
  srt_gen le_I Int.le_total (fun a b c h1 h2 => Int.le_trans h1 h2) (sortOk_I l (bigL h))
theorem srtR_ok {l : List (List Int)} (h : l.length ≤ 100000) (hne : ∀ r ∈ l, r ≠ []) : ∃ ys, srt (eT eI) l = some ys ∧ ys.Perm l ∧ ys.Pairwise (· ≤ ·) :=
  srt_gen (e := eT eI) le_row rle_total (fun a b c => rle_trans) (sortOk_row l (bigL h) hne)
theorem strictC {l : List Chr} (h : l.Pairwise (· ≤ ·)) (n : l.Nodup) : l.Pairwise (· < ·) := (h.and n).imp fun {a b} ⟨h1, h2⟩ => Nat.lt_of_le_of_ne h1 fun e => h2 (Fin.ext e)
theorem strictI {l : List Int} (h : l.Pairwise (· ≤ ·)) (n : l.Nodup) : l.Pairwise (· < ·) := (h.and n).imp fun {a b} ⟨h1, h2⟩ => Int.lt_iff_le_and_ne.mpr ⟨h1, h2⟩
theorem strictI_ext {a b : List Int} (ha : a.Pairwise (· < ·)) (hb : b.Pairwise (· < ·)) (h : ∀ x, x ∈ a ↔ x ∈ b) : a = b := strict_ext Int.lt_irrefl (fun a b c => Int.lt_trans) ha hb h
theorem strictC_ext {a b : List Chr} (ha : a.Pairwise (· < ·)) (hb : b.Pairwise (· < ·)) (h : ∀ x, x ∈ a ↔ x ∈ b) : a = b := strict_ext (fun a => Nat.lt_irrefl a.val) (fun a b c h1 h2 => Nat.lt_trans (m := b.val) h1 h2) ha hb h
theorem setN {l : List Int} (h : l.length < 64) : setG l = some (sortI l) := if_pos h
end J
namespace J
open PySem PySem.Spec PyProof.Rows L2
abbrev top (i : Nat) : Stmt := PySem.Challenge.pw_joinwood_k02_rows.main.body.getD i (.Pass ⟨0, 0, 0, 0⟩)
abbrev s__law_mix : Stmt := top 12
abbrev s__law_names : Stmt := top 13
abbrev s__law_numbers : Stmt := top 14
abbrev s__law_tables : Stmt := top 15
abbrev s__law_question : Stmt := top 16
abbrev s__law_due : Stmt := top 17
abbrev s__law_marks : Stmt := top 19
abbrev s_in_order : Stmt := top 8
abbrev s_rows_of : Stmt := top 9
abbrev s__law_error : Stmt := top 18
abbrev s__law_whole : Stmt := top 11
abbrev s__law_is_rows : Stmt := top 20
abbrev s_law : Stmt := top 21
structure Tx (K : PySem.W.Frag) (mg : Str → Option Value) : Prop where
  b_sum : mg "sum" = none
  b_isinstance : mg "isinstance" = none
  b_int : mg "int" = none
  b_list : mg "list" = none
  b_range : mg "range" = none
  b_tuple : mg "tuple" = none
  b_len : mg "len" = none
  b_sorted : mg "sorted" = none
  b_ValueError : mg "ValueError" = none
  b_bool : mg "bool" = none
  e_JoinError : ErrC K mg "JoinError"
  e_NoTable : ErrC K mg "NoTable"
  e_NoWidth : ErrC K mg "NoWidth"
  e_NoAnswer : ErrC K mg "NoAnswer"
  e_NoText : ErrC K mg "NoText"
  e_NoRow : ErrC K mg "NoRow"
  ek : ErrK K
  i_NoTable : ∀ q ∈ ([("NoTable", true), ("NoWidth", false)] : List (Str × Bool)), ErrC K mg q.1 ∧ ErrP K mg q.1 "NoTable" q.2
  i_NoWidth : ∀ q ∈ ([("NoTable", false), ("NoWidth", true)] : List (Str × Bool)), ErrC K mg q.1 ∧ ErrP K mg q.1 "NoWidth" q.2
  i_NoAnswer : ∀ q ∈ ([("NoTable", false), ("NoWidth", false)] : List (Str × Bool)), ErrC K mg q.1 ∧ ErrP K mg q.1 "NoAnswer" q.2
  i_NoText : ∀ q ∈ ([("NoTable", false), ("NoWidth", false)] : List (Str × Bool)), ErrC K mg q.1 ∧ ErrP K mg q.1 "NoText" q.2
  i_NoRow : ∀ q ∈ ([("NoTable", false), ("NoWidth", false)] : List (Str × Bool)), ErrC K mg q.1 ∧ ErrP K mg q.1 "NoRow" q.2
  i_V : ∀ q ∈ (["NoTable", "NoWidth"] : List Str), ErrC K mg q
  u_JoinError : ∀ c ∈ (["NoTable", "NoWidth"] : List Str), ErrP K mg c "JoinError" true
noncomputable def D__law_mix : DS :=
    (dSeq (dIf (dAndT (dTest (dBin opEq (dBin opMod (dVar 0) (dC (.int 2))) (dC (.int 1)))) (dTest (dBin opNe (dBin opShr (dVar 0) (dC (.int 27))) (dC (.int 0)))))
    (dRet (dBin opMod (dBin opShr (dVar 0) (dBin opAdd (dC (.int 1)) (dBin opMul (dC (.int 20)) (dVar 1)))) (dC (.int 1048576))))
    dSkip)
    (dSeq (dSet 2 (dBin opMod (dBin opAdd (dBin opMul (dVar 0) (dBin opAdd (dBin opMul (dC (.int 2)) (dVar 1)) (dC (.int 3)))) (dVar 1)) (dC (.int 2147483629))))
    (dSeq (dSet 2 (dBin opMod (dBin opMul (dBin opAdd (dBin opMul (dVar 2) (dVar 2)) (dC (.int 1))) (dC (.int 48271))) (dC (.int 2147483629))))
    (dRet (dBin opMod (dBin opMul (dVar 2) (dVar 2)) (dC (.int 2147483587)))))))
noncomputable def m__law_mix : FM := runF 3 D__law_mix
noncomputable def D__law_names : DS :=
    (dSeq (dSet 1 (dC (.str (Str.ofString "abcdefghijklmnopqrstuvwxyz"))))
    (dSeq (dSet 2 (dBin opAdd (dC (.int 1)) (dBin opMod (dCall m__law_mix (dCons (dVar 0) (dCons (dC (.int 1)) dNil))) (dC (.int 7)))))
    (dSeq (dSet 3 (dMeth okStr opJoin (dC (.str (Str.ofString ""))) (dCons (dLc (dRange (dVar 2)) (tName 6) dTrue (dFrz (dSub (dVar 1) (dBin opMod (dCall m__law_mix (dCons (dVar 0) (dCons (dFrz (dBin opAdd (dC (.int 2)) (dVar 6))) dNil))) (dC (.int 26))))) [6]) dNil)))
    (dSeq (dSet 4 (dBin opMod (dCall m__law_mix (dCons (dVar 0) (dCons (dC (.int 9)) dNil))) (dVar 2)))
    (dSeq (dSet 5 (dList dNil))
    (dSeq (dFor (dRange (dC (.int 6))) (tName 6)
    (dSeq (dSet 7 (dSub (dVar 1) (dBin opMod (dBin opAdd (dMeth okStr opFind (dVar 1) (dCons (dSub (dVar 3) (dVar 4)) dNil)) (dBin opMul (dC (.int 4)) (dVar 6))) (dC (.int 26)))))
    (dApp 5 (dFrz (dBin opAdd (dBin opAdd (dSl (dVar 3) dPN (dPS (dVar 4))) (dVar 7)) (dSl (dVar 3) (dPS (dBin opAdd (dVar 4) (dC (.int 1)))) dPN))))))
    (dRet (dBin opAdd (dVar 5) (dList (dCons (dFrz (dBin opAdd (dVar 3) (dSub (dVar 1) (dBin opMod (dCall m__law_mix (dCons (dVar 0) (dCons (dC (.int 10)) dNil))) (dC (.int 26)))))) dNil))))))))))
noncomputable def m__law_names : FM := runF 8 D__law_names
noncomputable def D__law_numbers : DS :=
    (dSeq (dSet 1 (dBin opMod (dVar 0) (dBin opSub (dBin opPow (dC (.int 10)) (dC (.int 60))) (dC (.int 1)))))
    (dIce 1 (dRet (dList (dCons (dVar 1) (dCons (dFrz (dBin opAdd (dVar 1) (dC (.int 1)))) (dCons (dFrz (dUn opNeg (dVar 1))) (dCons (dC (.int 0)) (dCons (dFrz (dUn opNeg (dC (.int 7)))) dNil)))))))))
noncomputable def m__law_numbers : FM := runF 2 D__law_numbers
noncomputable def D__law_tables : DS :=
    (dSeq (dSet 3 (dCall m__law_numbers (dCons (dVar 2) dNil)))
    (dSeq (dIce 3 (dSet 4 (dBin opAdd (dC (.int 1)) (dBin opMod (dCall m__law_mix (dCons (dVar 2) (dCons (dC (.int 11)) dNil))) (dC (.int 6))))))
    (dSeq (dSet 5 (dNewK))
    (dSeq (dFor (dRange (dVar 4)) (tName 6)
    (dPut 5 (dSub (dVar 0) (dBin opMod (dBin opAdd (dVar 6) (dBin opMul (dC (.int 3)) (dVar 2))) (dC (.int 6)))) (dList dNil)))
    (dSeq (dSet 7 (dKeysLD (dVar 5)))
    (dSeq (dIce 7 (dIce 1 (dFor (dItems (dVar 1)) (tName 8)
    (dSeq (dSet 9 (dSub (dVar 7) (dBin opMod (dCall m__law_mix (dCons (dVar 8) (dCons (dC (.int 12)) dNil))) (dVar 4))))
    (dSeq (dSet 10 (dBin opAdd (dC (.int 1)) (dBin opMod (dCall m__law_mix (dCons (dVar 2) (dCons (dFrz (dBin opAdd (dC (.int 20)) (dIdx (dVar 0) (dCons (dVar 9) dNil)))) dNil))) (dC (.int 4)))))
    (dSeq (dSet 11 (dCallB opTup (dCons (dLc (dRange (dVar 10)) (tName 6) dTrue (dFrz (dSub (dVar 3) (dBin opMod (dCall m__law_mix (dCons (dVar 8) (dCons (dFrz (dBin opAdd (dC (.int 13)) (dVar 6))) dNil))) (dC (.int 5))))) [6]) dNil)))
    (dSeq (dIf (dAndT (dTest (dBin opNe (dSub (dVar 5) (dVar 9)) (dList dNil))) (dTest (dBin opEq (dBin opMod (dCall m__law_mix (dCons (dVar 8) (dCons (dC (.int 18)) dNil))) (dC (.int 4))) (dC (.int 1)))))
    (dSet 11 (dSub (dSub (dVar 5) (dVar 9)) (dBin opMod (dCall m__law_mix (dCons (dVar 8) (dCons (dC (.int 19)) dNil))) (dCallB opLen (dCons (dSub (dVar 5) (dVar 9)) dNil)))))
    dSkip)
    (dIce 11 (dAppAt 5 (dVar 9) (dVar 11))))))))))
    (dSeq (dIf (dAndT (dTest (dBin opNe (dVar 1) (dList dNil))) (dTest (dBin opEq (dBin opMod (dCall m__law_mix (dCons (dVar 2) (dCons (dC (.int 30)) dNil))) (dC (.int 4))) (dC (.int 1)))))
    (dSeq (dSet 9 (dSub (dVar 7) (dBin opMod (dCall m__law_mix (dCons (dFrz (dSub (dVar 1) (dC (.int 0)))) (dCons (dC (.int 12)) dNil))) (dVar 4))))
    (dSeq (dSet 12 (dBin opMod (dCall m__law_mix (dCons (dVar 2) (dCons (dC (.int 31)) dNil))) (dCallB opLen (dCons (dSub (dVar 5) (dVar 9)) dNil))))
    (dPutAt 5 (dVar 9) (dVar 12) (dFrz (dBin opAdd (dSl (dSub (dSub (dVar 5) (dVar 9)) (dVar 12)) dPN (dPS (dC (.int 3)))) (dTup (dCons (dC (.int 7)) (dCons (dC (.int 7)) dNil))))))))
    dSkip)
    (dRetV 5))))))))
noncomputable def m__law_tables : FM := runF 13 D__law_tables
noncomputable def D__law_question : DS :=
    (dSeq (dSet 3 (dKeysL (dVar 1)))
    (dSeq (dIce 3 (dSet 4 (dList dNil)))
    (dSeq (dFor (dRange (dBin opAdd (dC (.int 1)) (dBin opMod (dCall m__law_mix (dCons (dVar 2) (dCons (dC (.int 32)) dNil))) (dC (.int 6))))) (tName 5)
    (dSeq (dSet 6 (dSub (dVar 3) (dBin opMod (dCall m__law_mix (dCons (dVar 2) (dCons (dFrz (dBin opAdd (dC (.int 33)) (dVar 5))) dNil))) (dCallB opLen (dCons (dVar 3) dNil)))))
    (dSeq (dSet 7 (dBin opAdd (dC (.int 1)) (dBin opMod (dCall m__law_mix (dCons (dVar 2) (dCons (dFrz (dBin opAdd (dC (.int 20)) (dIdx (dVar 0) (dCons (dVar 6) dNil)))) dNil))) (dC (.int 4)))))
    (dSeq (dIf (dAndT (dTest (dBin opEq (dBin opMod (dCall m__law_mix (dCons (dVar 2) (dCons (dC (.int 40)) dNil))) (dC (.int 4))) (dC (.int 1)))) (dTest (dBin opEq (dBin opMod (dCall m__law_mix (dCons (dVar 2) (dCons (dC (.int 41)) dNil))) (dC (.int 6))) (dVar 5))))
    (dSet 7 (dBin opAdd (dC (.int 1)) (dBin opMod (dVar 7) (dC (.int 4)))))
    dSkip)
    (dSeq (dIf (dAndT (dTest (dBin opEq (dBin opMod (dCall m__law_mix (dCons (dVar 2) (dCons (dC (.int 42)) dNil))) (dC (.int 4))) (dC (.int 1)))) (dTest (dBin opEq (dBin opMod (dCall m__law_mix (dCons (dVar 2) (dCons (dC (.int 43)) dNil))) (dC (.int 6))) (dVar 5))))
    (dSet 6 (dSub (dVar 0) (dC (.int 6))))
    dSkip)
    (dIce 6 (dApp 4 (dFrz (dTup (dCons (dVar 6) (dCons (dFrz (dCallB opTup (dCons (dSl (dC (.str (Str.ofString "KLMN"))) dPN (dPS (dVar 7))) dNil))) dNil)))))))))))
    (dRetV 4))))
noncomputable def m__law_question : FM := runF 8 D__law_question
noncomputable def D__law_due : DS :=
    (dSeq (dSet 2 (dList dNil))
    (dSeq (dIce 1 (dFor (dItems (dVar 1)) (tTup2 3 4)
    (dSeq (dIf (dTest (dBin (opIn true) (dVar 3) (dVar 0)))
    (dRet (dFrz (dC (.int 1))))
    dSkip)
    (dSeq (dSet 5 (dList dNil))
    (dSeq (dFor (dItems (dCallB opSorted (dCons (dSub (dVar 0) (dVar 3)) dNil))) (tName 6)
    (dSeq (dIf (dTest (dBin opNe (dCallB opLen (dCons (dVar 6) dNil)) (dCallB opLen (dCons (dVar 4) dNil))))
    (dRet (dFrz (dC (.int 2))))
    dSkip)
    (dIf (dTest (dBin (opIn true) (dVar 6) (dVar 5)))
    (dIce 6 (dApp 5 (dVar 6)))
    dSkip)))
    (dIce 5 (dApp 2 (dVar 5))))))))
    (dIce 2 (dRet (dFrz (dVar 2))))))
noncomputable def m__law_due : FM := runF 7 D__law_due
noncomputable def D__law_marks : DS :=
    (dSeq (dSet 1 (dList (dCons (dFrz (dUn (opIsE [("NoTable", true), ("NoWidth", false)]) (dVar 0))) (dCons (dFrz (dUn (opIsE [("NoTable", false), ("NoWidth", true)]) (dVar 0))) (dCons (dFrz (dUn (opIsE [("NoTable", false), ("NoWidth", false)]) (dVar 0))) dNil)))))
    (dSeq (dIce 1 (dSet 1 (dBin opAdd (dVar 1) (dList (dCons (dFrz (dUn (opIsE [("NoTable", false), ("NoWidth", false)]) (dVar 0))) (dCons (dFrz (dUn (opIsE [("NoTable", false), ("NoWidth", false)]) (dVar 0))) (dCons (dFrz (dB (dNotT (dTest (dUn (opIsE (List.map (fun c => (c, true)) ["NoTable", "NoWidth"])) (dVar 0)))))) dNil)))))))
    (dIce 1 (dIce 1 (dRet (dLc (dRange (dC (.int 6))) (tName 2) (dTest (dSub (dVar 1) (dVar 2))) (dVar 2) [2]))))))
noncomputable def m__law_marks : FM := runF 3 D__law_marks
noncomputable def D_in_order : DS :=
    (dSeq (dSet 1 (dList dNil))
    (dSeq (dFor (dItems (dCallB opSorted (dCons (dVar 0) dNil))) (tName 2)
    (dIf (dOrT (dTest (dBin opEq (dVar 1) (dList dNil))) (dTest (dBin opNe (dSub (dVar 1) (dBin opSub (dCallB opLen (dCons (dVar 1) dNil)) (dC (.int 1)))) (dVar 2))))
    (dIce 2 (dApp 1 (dVar 2)))
    dSkip))
    (dRetV 1)))
noncomputable def m_in_order : FM := runF 3 D_in_order
noncomputable def D_rows_of : DS :=
    (dSeq (dSet 2 (dList dNil))
    (dSeq (dIce 1 (dFor (dItems (dVar 1)) (tTup2 3 4)
    (dSeq (dIf (dTest (dBin (opIn true) (dVar 3) (dVar 0)))
    (dRaise "NoTable")
    dSkip)
    (dSeq (dIce 0 (dFor (dItems (dSub (dVar 0) (dVar 3))) (tName 5)
    (dIf (dTest (dBin opNe (dCallB opLen (dCons (dVar 5) dNil)) (dCallB opLen (dCons (dVar 4) dNil))))
    (dRaise "NoWidth")
    dSkip)))
    (dApp 2 (dCall m_in_order (dCons (dFrz (dSub (dVar 0) (dVar 3))) dNil)))))))
    (dRetV 2)))
noncomputable def m_rows_of : FM := runF 6 D_rows_of
noncomputable def D__law_error : DS :=
    (dSeq (dSet 2 (dC .non))
    (dSeq (dTry ["NoTable", "NoWidth"] (dCall m_rows_of (dCons (dVar 0) (dCons (dVar 1) dNil))) 3 2)
    (dRetV 2)))
noncomputable def m__law_error : FM := runF 4 D__law_error
noncomputable def D__law_whole : DS :=
    (dRet (dAndV (dUn (opIsa ["int"]) (dVar 0)) (dB (dNotT (dTest (dUn (opIsa ["bool"]) (dVar 0)))))))
noncomputable def m__law_whole : FM := runF 1 D__law_whole
noncomputable def D__law_is_rows : DS :=
    (dSeq (dIf (dOrT (dNotT (dTest (dUn (opIsa ["list"]) (dVar 0)))) (dTest (dBin opNe (dVar 0) (dVar 1))))
    (dRet (dC (.bl false)))
    dSkip)
    (dSeq (dIce 0 (dFor (dItems (dVar 0)) (tName 2)
    (dSeq (dIf (dNotT (dTest (dUn (opIsa ["list"]) (dVar 2))))
    (dRet (dC (.bl false)))
    dSkip)
    (dIce 2 (dFor (dItems (dVar 2)) (tName 3)
    (dIf (dOrT (dNotT (dTest (dUn (opIsa ["tuple"]) (dVar 3)))) (dTest (dBin opNe (dLc (cItems (dVar 3)) (tName 4) (dNotT (dTest (dCall m__law_whole (dCons (dVar 4) dNil)))) (dVar 4) [4]) (dList dNil))))
    (dRet (dC (.bl false)))
    dSkip))))))
    (dRet (dC (.bl true)))))
noncomputable def m__law_is_rows : FM := runF 5 D__law_is_rows
noncomputable def D_law : DS :=
    (dSeq (dIce 1 (dSet 2 (dCallB opSum (dCons (dVar 1) dNil))))
    (dSeq (dSet 3 (dCall m__law_names (dCons (dVar 2) dNil)))
    (dSeq (dIce 3 (dSet 4 (dCall m__law_tables (dCons (dVar 3) (dCons (dVar 1) (dCons (dVar 2) dNil))))))
    (dSeq (dIce 4 (dSet 5 (dCall m__law_question (dCons (dVar 3) (dCons (dVar 4) (dCons (dVar 2) dNil))))))
    (dSeq (dIce 5 (dSet 6 (dCall m__law_due (dCons (dVar 4) (dCons (dVar 5) dNil)))))
    (dSeq (dIce 6 (dIf (dTest (dUn (opIsa ["int"]) (dVar 6)))
    (dIf (dTest (dBin opNe (dCall m__law_marks (dCons (dFrz (dCall m__law_error (dCons (dVar 4) (dCons (dVar 5) dNil)))) dNil)) (dList (dCons (dFrz (dBin opSub (dVar 6) (dC (.int 1)))) dNil))))
    (dRet (dC (.bl false)))
    dSkip)
    (dSeq (dSet 7 (dCall m_rows_of (dCons (dVar 4) (dCons (dVar 5) dNil))))
    (dSeq (dIf (dNotT (dTest (dCall m__law_is_rows (dCons (dVar 7) (dCons (dVar 6) dNil)))))
    (dRet (dC (.bl false)))
    dSkip)
    (dSeq (dEachN 7 8)
    (dSeq (dApp 7 (dC .non))
    (dIf (dTest (dBin opNe (dCall m_rows_of (dCons (dVar 4) (dCons (dVar 5) dNil))) (dVar 6)))
    (dRet (dC (.bl false)))
    dSkip)))))))
    (dSeq (dSet 9 (dCall m__law_tables (dCons (dVar 3) (dCons (dVar 1) (dCons (dVar 2) dNil)))))
    (dIce 9 (dRet (dAndV (dBin opEqK (dVar 4) (dVar 9)) (dAndV (dBin opEq (dKeysL (dVar 4)) (dKeysL (dVar 9))) (dBin opEq (dVar 5) (dCall m__law_question (dCons (dVar 3) (dCons (dVar 9) (dCons (dVar 2) dNil))))))))))))))))
noncomputable def m_law : FM := runF 10 D_law
section
variable {P : Program} {w : World} {K : PySem.W.Frag} {mg : Str → Option Value} {base : Heap}
abbrev N__law_mix : List Str := ["_law_cell", "_law_j", "_law_number"]
theorem sc__law_mix : FnScope N__law_mix ["_law_cell", "_law_j"] (defScope s__law_mix) := ⟨rfl, rfl, rfl, by decide +kernel, rfl, by decide +kernel, by decide +kernel⟩
theorem ok__law_mix {f : Addr} {fd : FuncData} (F : Fun K "_law_mix" "_law_mix" s__law_mix f fd) (T : Tx K mg)  : FnOk P w K mg base (L2.CX P w) 1 f fd ["_law_cell", "_law_j"] (spF mg 2 m__law_mix) :=
  ok_of F sc__law_mix fun cdv A outer s H E (hr : Room 0 _) tk hp =>
    (jss_cons (js_if (jt_w (jw_and (jt_cmp (oj_eq (u64 hr)) (je_bin oj_mod (je_var 0) je_int) je_int) (jw_and1 (jt_cmp (oj_ne (u64 hr)) (je_bin oj_shr (je_var 0) je_int) je_int))))
    (jss_one (js_ret (je_bin oj_mod (je_bin oj_shr (je_var 0) (je_bin oj_add je_int (je_bin oj_mul je_int (je_var 1)))) je_int)))
    jss_nil)
    (jss_cons (js_set 2 sc__law_mix.nd (je_bin oj_mod (je_bin oj_add (je_bin oj_mul (je_var 0) (je_bin oj_add (je_bin oj_mul je_int (je_var 1)) je_int)) (je_var 1)) je_int))
    (jss_cons (js_set 2 sc__law_mix.nd (je_bin oj_mod (je_bin oj_mul (je_bin oj_add (je_bin oj_mul (je_var 2) (je_var 2)) je_int) je_int) je_int))
    (jss_one (js_ret (je_bin oj_mod (je_bin oj_mul (je_var 2) (je_var 2)) je_int))))))
abbrev N__law_names : List Str := ["_law_cell", "_law_letters", "_law_size", "_law_stem", "_law_at", "_law_found", "_law_k", "_law_sign"]
theorem sc__law_names : FnScope N__law_names ["_law_cell"] (defScope s__law_names) := ⟨rfl, rfl, rfl, by decide +kernel, rfl, by decide +kernel, by decide +kernel⟩
theorem ok__law_names {f : Addr} {fd : FuncData} (F : Fun K "_law_names" "_law_names" s__law_names f fd) (T : Tx K mg) (C__law_mix : Cal P w K mg base 1 "_law_mix" 2 m__law_mix) : FnOk P w K mg base (L2.CX P w) 2 f fd ["_law_cell"] (spF mg 1 m__law_names) :=
  ok_of F sc__law_names fun cdv A outer s H E (hr : Room 1 _) tk hp =>
    (jss_cons (js_set 1 sc__law_names.nd je_str)
    (jss_cons (js_set 2 sc__law_names.nd (je_bin oj_add je_int (je_bin oj_mod (je_cal tk C__law_mix hr (ja_cons (je_var 0) (ja_cons je_int ja_nil))) je_int)))
    (jss_cons (js_set 3 sc__law_names.nd (je_meth PySem.F.plainAttrs_str PySem.F.slot_str_join PySem.F.type_str_join mj_join okStr_ty je_str (ja_cons (je_lc (own := [((Str.ofString "_law_k"), 6)]) rfl sc__law_names.nd (jc_range (je_var 2) T.b_range) (blkOk_by (by rfl)) (fun _ _ _ _ _ => (jg_name 6 sc__law_names.nd)) (fun _ _ _ _ _ => jts_nil) (fun _ _ _ _ _ => (je_frz (je_sub (u1 hr) (je_var 1) (je_bin oj_mod (je_cal takes0 C__law_mix hr (ja_cons (je_var 0) (ja_cons (je_frz (je_bin oj_add je_int (je_var 6))) ja_nil))) je_int)))) tg_name) ja_nil)))
    (jss_cons (js_set 4 sc__law_names.nd (je_bin oj_mod (je_cal tk C__law_mix hr (ja_cons (je_var 0) (ja_cons je_int ja_nil))) (je_var 2)))
    (jss_cons (js_set 5 sc__law_names.nd (je_list ja_nil))
    (jss_cons (js_for hp rfl (ji_range je_int T.b_range) (jg_name 6 sc__law_names.nd)
    (jss_cons (js_set 7 sc__law_names.nd (je_sub (u1 hr) (je_var 1) (je_bin oj_mod (je_bin oj_add (je_meth PySem.F.plainAttrs_str PySem.F.slot_str_find PySem.F.type_str_find mj_find okStr_ty (je_var 1) (ja_cons (je_sub (u1 hr) (je_var 3) (je_var 4)) ja_nil)) (je_bin oj_mul je_int (je_var 6))) je_int)))
    (jss_one (js_append 5 (je_frz (je_bin oj_add (je_bin oj_add (je_slice (je_var 3) jo_none (jo_some (je_var 4))) (je_var 7)) (je_slice (je_var 3) (jo_some (je_bin oj_add (je_var 4) je_int)) jo_none)))))))
    (jss_one (js_ret (je_bin oj_add (je_var 5) (je_list (ja_cons (je_frz (je_bin oj_add (je_var 3) (je_sub (u1 hr) (je_var 1) (je_bin oj_mod (je_cal tk C__law_mix hr (ja_cons (je_var 0) (ja_cons je_int ja_nil))) je_int)))) ja_nil)))))))))))
abbrev N__law_numbers : List Str := ["_law_cell", "_law_far"]
theorem sc__law_numbers : FnScope N__law_numbers ["_law_cell"] (defScope s__law_numbers) := ⟨rfl, rfl, rfl, by decide +kernel, rfl, by decide +kernel, by decide +kernel⟩
theorem ok__law_numbers {f : Addr} {fd : FuncData} (F : Fun K "_law_numbers" "_law_numbers" s__law_numbers f fd) (T : Tx K mg)  : FnOk P w K mg base (L2.CX P w) 1 f fd ["_law_cell"] (spF mg 1 m__law_numbers) :=
  ok_of F sc__law_numbers fun cdv A outer s H E (hr : Room 0 _) tk hp =>
    (jss_cons (js_set 1 sc__law_numbers.nd (je_bin oj_mod (je_var 0) (je_bin oj_sub (je_bin oj_pow je_int je_int) je_int)))
    (jss_one (js_ice 1 (js_ret (je_list (ja_cons (je_var 1) (ja_cons (je_frz (je_bin oj_add (je_var 1) je_int)) (ja_cons (je_frz (je_neg (je_var 1))) (ja_cons je_int (ja_cons (je_frz (je_neg je_int)) ja_nil))))))))))
abbrev N__law_tables : List Str := ["_law_names_here", "_law_cells", "_law_total", "_law_numbers_here", "_law_many", "_law_tables_here", "_law_k", "_law_known", "_law_cell", "_law_name", "_law_width", "_law_row", "_law_at"]
theorem sc__law_tables : FnScope N__law_tables ["_law_names_here", "_law_cells", "_law_total"] (defScope s__law_tables) := ⟨rfl, rfl, rfl, by decide +kernel, rfl, by decide +kernel, by decide +kernel⟩
theorem ok__law_tables {f : Addr} {fd : FuncData} (F : Fun K "_law_tables" "_law_tables" s__law_tables f fd) (T : Tx K mg) (C__law_numbers : Cal P w K mg base 1 "_law_numbers" 1 m__law_numbers) (C__law_mix : Cal P w K mg base 1 "_law_mix" 2 m__law_mix) : FnOk P w K mg base (L2.CX P w) 2 f fd ["_law_names_here", "_law_cells", "_law_total"] (spF mg 3 m__law_tables) :=
  ok_of F sc__law_tables fun cdv A outer s H E (hr : Room 1 _) tk hp =>
    (jss_cons (js_set 3 sc__law_tables.nd (je_cal tk C__law_numbers hr (ja_cons (je_var 2) ja_nil)))
    (jss_cons (js_ice 3 (js_set 4 sc__law_tables.nd (je_bin oj_add je_int (je_bin oj_mod (je_cal tk C__law_mix hr (ja_cons (je_var 2) (ja_cons je_int ja_nil))) je_int))))
    (jss_cons (js_set 5 sc__law_tables.nd je_newK)
    (jss_cons (js_for hp rfl (ji_range (je_var 4) T.b_range) (jg_name 6 sc__law_tables.nd)
    (jss_one (js_put 5 (u1 hr) (je_sub (u1 hr) (je_var 0) (je_bin oj_mod (je_bin oj_add (je_var 6) (je_bin oj_mul je_int (je_var 2))) je_int)) (je_list ja_nil))))
    (jss_cons (js_set 7 sc__law_tables.nd (je_listKeysD rfl (je_var 5) T.b_list boot_list))
    (jss_cons (js_ice 7 (js_ice 1 (js_for hp rfl (ji_items (je_var 1)) (jg_name 8 sc__law_tables.nd)
    (jss_cons (js_set 9 sc__law_tables.nd (je_sub (u1 hr) (je_var 7) (je_bin oj_mod (je_cal tk C__law_mix hr (ja_cons (je_var 8) (ja_cons je_int ja_nil))) (je_var 4))))
    (jss_cons (js_set 10 sc__law_tables.nd (je_bin oj_add je_int (je_bin oj_mod (je_cal tk C__law_mix hr (ja_cons (je_var 2) (ja_cons (je_frz (je_bin oj_add je_int (je_idx (u65 hr) (je_var 0) (ja_cons (je_var 9) ja_nil)))) ja_nil))) je_int)))
    (jss_cons (js_set 11 sc__law_tables.nd (je_callTy (cj_tup rfl) (ja_cons (je_lc (own := [((Str.ofString "_law_k"), 6)]) rfl sc__law_tables.nd (jc_range (je_var 10) T.b_range) (blkOk_by (by rfl)) (fun _ _ _ _ _ => (jg_name 6 sc__law_tables.nd)) (fun _ _ _ _ _ => jts_nil) (fun _ _ _ _ _ => (je_frz (je_sub (u1 hr) (je_var 3) (je_bin oj_mod (je_cal takes0 C__law_mix hr (ja_cons (je_var 8) (ja_cons (je_frz (je_bin oj_add je_int (je_var 6))) ja_nil))) je_int)))) tg_name) ja_nil) T.b_tuple boot_tuple))
    (jss_cons (js_if (jt_w (jw_and (jt_cmp (oj_ne (u64 hr)) (je_sub (u1 hr) (je_var 5) (je_var 9)) (je_list ja_nil)) (jw_and1 (jt_cmp (oj_eq (u64 hr)) (je_bin oj_mod (je_cal tk C__law_mix hr (ja_cons (je_var 8) (ja_cons je_int ja_nil))) je_int) je_int))))
    (jss_one (js_set 11 sc__law_tables.nd (je_sub (u1 hr) (je_sub (u1 hr) (je_var 5) (je_var 9)) (je_bin oj_mod (je_cal tk C__law_mix hr (ja_cons (je_var 8) (ja_cons je_int ja_nil))) (je_callB cj_len (ja_cons (je_sub (u1 hr) (je_var 5) (je_var 9)) ja_nil) T.b_len boot_len)))))
    jss_nil)
    (jss_one (js_ice 11 (js_appAt 5 (u1 hr) (je_var 9) (je_var 11)))))))))))
    (jss_cons (js_if (jt_w (jw_and (jt_cmp (oj_ne (u64 hr)) (je_var 1) (je_list ja_nil)) (jw_and1 (jt_cmp (oj_eq (u64 hr)) (je_bin oj_mod (je_cal tk C__law_mix hr (ja_cons (je_var 2) (ja_cons je_int ja_nil))) je_int) je_int))))
    (jss_cons (js_set 9 sc__law_tables.nd (je_sub (u1 hr) (je_var 7) (je_bin oj_mod (je_cal tk C__law_mix hr (ja_cons (je_frz (je_sub (u1 hr) (je_var 1) je_int)) (ja_cons je_int ja_nil))) (je_var 4))))
    (jss_cons (js_set 12 sc__law_tables.nd (je_bin oj_mod (je_cal tk C__law_mix hr (ja_cons (je_var 2) (ja_cons je_int ja_nil))) (je_callB cj_len (ja_cons (je_sub (u1 hr) (je_var 5) (je_var 9)) ja_nil) T.b_len boot_len)))
    (jss_one (js_putAt 5 (u1 hr) (je_var 9) (je_var 12) (je_frz (je_bin oj_add (je_slice (je_sub (u1 hr) (je_sub (u1 hr) (je_var 5) (je_var 9)) (je_var 12)) jo_none (jo_some je_int)) (je_tup (ja_cons je_int (ja_cons je_int ja_nil)))))))))
    jss_nil)
    (jss_one (js_retV 5)))))))))
abbrev N__law_question : List Str := ["_law_names_here", "_law_tables_here", "_law_total", "_law_known", "_law_question_here", "_law_k", "_law_name", "_law_width"]
theorem sc__law_question : FnScope N__law_question ["_law_names_here", "_law_tables_here", "_law_total"] (defScope s__law_question) := ⟨rfl, rfl, rfl, by decide +kernel, rfl, by decide +kernel, by decide +kernel⟩
theorem ok__law_question {f : Addr} {fd : FuncData} (F : Fun K "_law_question" "_law_question" s__law_question f fd) (T : Tx K mg) (C__law_mix : Cal P w K mg base 1 "_law_mix" 2 m__law_mix) : FnOk P w K mg base (L2.CX P w) 2 f fd ["_law_names_here", "_law_tables_here", "_law_total"] (spF mg 3 m__law_question) :=
  ok_of F sc__law_question fun cdv A outer s H E (hr : Room 1 _) tk hp =>
    (jss_cons (js_set 3 sc__law_question.nd (je_listKeys rfl (je_var 1) T.b_list rfl boot_list))
    (jss_cons (js_ice 3 (js_set 4 sc__law_question.nd (je_list ja_nil)))
    (jss_cons (js_for hp rfl (ji_range (je_bin oj_add je_int (je_bin oj_mod (je_cal tk C__law_mix hr (ja_cons (je_var 2) (ja_cons je_int ja_nil))) je_int)) T.b_range) (jg_name 5 sc__law_question.nd)
    (jss_cons (js_set 6 sc__law_question.nd (je_sub (u1 hr) (je_var 3) (je_bin oj_mod (je_cal tk C__law_mix hr (ja_cons (je_var 2) (ja_cons (je_frz (je_bin oj_add je_int (je_var 5))) ja_nil))) (je_callB cj_len (ja_cons (je_var 3) ja_nil) T.b_len boot_len))))
    (jss_cons (js_set 7 sc__law_question.nd (je_bin oj_add je_int (je_bin oj_mod (je_cal tk C__law_mix hr (ja_cons (je_var 2) (ja_cons (je_frz (je_bin oj_add je_int (je_idx (u65 hr) (je_var 0) (ja_cons (je_var 6) ja_nil)))) ja_nil))) je_int)))
    (jss_cons (js_if (jt_w (jw_and (jt_cmp (oj_eq (u64 hr)) (je_bin oj_mod (je_cal tk C__law_mix hr (ja_cons (je_var 2) (ja_cons je_int ja_nil))) je_int) je_int) (jw_and1 (jt_cmp (oj_eq (u64 hr)) (je_bin oj_mod (je_cal tk C__law_mix hr (ja_cons (je_var 2) (ja_cons je_int ja_nil))) je_int) (je_var 5)))))
    (jss_one (js_set 7 sc__law_question.nd (je_bin oj_add je_int (je_bin oj_mod (je_var 7) je_int))))
    jss_nil)
    (jss_cons (js_if (jt_w (jw_and (jt_cmp (oj_eq (u64 hr)) (je_bin oj_mod (je_cal tk C__law_mix hr (ja_cons (je_var 2) (ja_cons je_int ja_nil))) je_int) je_int) (jw_and1 (jt_cmp (oj_eq (u64 hr)) (je_bin oj_mod (je_cal tk C__law_mix hr (ja_cons (je_var 2) (ja_cons je_int ja_nil))) je_int) (je_var 5)))))
    (jss_one (js_set 6 sc__law_question.nd (je_sub (u1 hr) (je_var 0) je_int)))
    jss_nil)
    (jss_one (js_ice 6 (js_append 4 (je_frz (je_tup (ja_cons (je_var 6) (ja_cons (je_frz (je_callTy (cj_tup rfl) (ja_cons (je_slice je_str jo_none (jo_some (je_var 7))) ja_nil) T.b_tuple boot_tuple)) ja_nil))))))))))))
    (jss_one (js_retV 4)))))
abbrev N__law_due : List Str := ["_law_tables_here", "_law_question_here", "_law_due_here", "_law_name", "_law_letters", "_law_rows", "_law_row"]
theorem sc__law_due : FnScope N__law_due ["_law_tables_here", "_law_question_here"] (defScope s__law_due) := ⟨rfl, rfl, rfl, by decide +kernel, rfl, by decide +kernel, by decide +kernel⟩
theorem ok__law_due {f : Addr} {fd : FuncData} (F : Fun K "_law_due" "_law_due" s__law_due f fd) (T : Tx K mg)  : FnOk P w K mg base (L2.CX P w) 1 f fd ["_law_tables_here", "_law_question_here"] (spF mg 2 m__law_due) :=
  ok_of F sc__law_due fun cdv A outer s H E (hr : Room 0 _) tk hp =>
    (jss_cons (js_set 2 sc__law_due.nd (je_list ja_nil))
    (jss_cons (js_ice 1 (js_for hp rfl (ji_items (je_var 1)) (jg_tup2 3 4 rfl sc__law_due.nd)
    (jss_cons (js_if (jt_notIn (u65 hr) (je_var 3) (je_var 0))
    (jss_one (js_ret (je_frz je_int)))
    jss_nil)
    (jss_cons (js_set 5 sc__law_due.nd (je_list ja_nil))
    (jss_cons (js_for hp rfl (ji_items (je_callB (cj_sorted (u62 hr)) (ja_cons (je_sub (u1 hr) (je_var 0) (je_var 3)) ja_nil) T.b_sorted boot_sorted)) (jg_name 6 sc__law_due.nd)
    (jss_cons (js_if (jt_cmp (oj_ne (u64 hr)) (je_callB cj_len (ja_cons (je_var 6) ja_nil) T.b_len boot_len) (je_callB cj_len (ja_cons (je_var 4) ja_nil) T.b_len boot_len))
    (jss_one (js_ret (je_frz je_int)))
    jss_nil)
    (jss_one (js_if (jt_notIn (u65 hr) (je_var 6) (je_var 5))
    (jss_one (js_ice 6 (js_append 5 (je_var 6))))
    jss_nil))))
    (jss_one (js_ice 5 (js_append 2 (je_var 5)))))))))
    (jss_one (js_ice 2 (js_ret (je_frz (je_var 2)))))))
abbrev N__law_marks : List Str := ["_law_error_here", "_law_found", "_law_k"]
theorem sc__law_marks : FnScope N__law_marks ["_law_error_here"] (defScope s__law_marks) := ⟨rfl, rfl, rfl, by decide +kernel, rfl, by decide +kernel, by decide +kernel⟩
theorem ok__law_marks {f : Addr} {fd : FuncData} (F : Fun K "_law_marks" "_law_marks" s__law_marks f fd) (T : Tx K mg)  : FnOk P w K mg base (L2.CX P w) 1 f fd ["_law_error_here"] (spF mg 1 m__law_marks) :=
  ok_of F sc__law_marks fun cdv A outer s H E (hr : Room 0 _) tk hp =>
    (jss_cons (js_set 1 sc__law_marks.nd (je_list (ja_cons (je_frz (je_isE [("NoTable", true), ("NoWidth", false)] (je_var 0) T.ek T.e_NoTable T.i_NoTable T.b_isinstance)) (ja_cons (je_frz (je_isE [("NoTable", false), ("NoWidth", true)] (je_var 0) T.ek T.e_NoWidth T.i_NoWidth T.b_isinstance)) (ja_cons (je_frz (je_isE [("NoTable", false), ("NoWidth", false)] (je_var 0) T.ek T.e_NoAnswer T.i_NoAnswer T.b_isinstance)) ja_nil)))))
    (jss_cons (js_ice 1 (js_set 1 sc__law_marks.nd (je_bin oj_add (je_var 1) (je_list (ja_cons (je_frz (je_isE [("NoTable", false), ("NoWidth", false)] (je_var 0) T.ek T.e_NoText T.i_NoText T.b_isinstance)) (ja_cons (je_frz (je_isE [("NoTable", false), ("NoWidth", false)] (je_var 0) T.ek T.e_NoRow T.i_NoRow T.b_isinstance)) (ja_cons (je_frz (je_not (je_isV ["NoTable", "NoWidth"] (je_var 0) T.ek T.i_V T.b_isinstance T.b_ValueError))) ja_nil)))))))
    (jss_one (js_ice 1 (js_ice 1 (js_ret (je_lc (own := [((Str.ofString "_law_k"), 2)]) rfl sc__law_marks.nd (jc_range je_int T.b_range) (blkOk_by (by rfl)) (fun _ _ _ _ _ => (jg_name 2 sc__law_marks.nd)) (fun _ _ _ _ _ => (jts_one (jt_val (je_sub (u1 hr) (je_var 1) (je_var 2))))) (fun _ _ _ _ _ => (je_var 2)) tg_name)))))))
abbrev N_in_order : List Str := ["rows", "told", "row"]
theorem sc_in_order : FnScope N_in_order ["rows"] (defScope s_in_order) := ⟨rfl, rfl, rfl, by decide +kernel, rfl, by decide +kernel, by decide +kernel⟩
theorem ok_in_order {f : Addr} {fd : FuncData} (F : Fun K "in_order" "in_order" s_in_order f fd) (T : Tx K mg)  : FnOk P w K mg base (L2.CX P w) 1 f fd ["rows"] (spF mg 1 m_in_order) :=
  ok_of F sc_in_order fun cdv A outer s H E (hr : Room 0 _) tk hp =>
    (jss_cons (js_set 1 sc_in_order.nd (je_list ja_nil))
    (jss_cons (js_for hp rfl (ji_items (je_callB (cj_sorted (u62 hr)) (ja_cons (je_var 0) ja_nil) T.b_sorted boot_sorted)) (jg_name 2 sc_in_order.nd)
    (jss_one (js_if (jt_w (jw_or (jt_cmp (oj_eq (u64 hr)) (je_var 1) (je_list ja_nil)) (jw_or1 (jt_cmp (oj_ne (u64 hr)) (je_sub (u1 hr) (je_var 1) (je_bin oj_sub (je_callB cj_len (ja_cons (je_var 1) ja_nil) T.b_len boot_len) je_int)) (je_var 2)))))
    (jss_one (js_ice 2 (js_append 1 (je_var 2))))
    jss_nil)))
    (jss_one (js_retV 1))))
abbrev N_rows_of : List Str := ["tables", "question", "told", "table", "letters", "row"]
theorem sc_rows_of : FnScope N_rows_of ["tables", "question"] (defScope s_rows_of) := ⟨rfl, rfl, rfl, by decide +kernel, rfl, by decide +kernel, by decide +kernel⟩
theorem ok_rows_of {f : Addr} {fd : FuncData} (F : Fun K "rows_of" "rows_of" s_rows_of f fd) (T : Tx K mg) (C_in_order : Cal P w K mg base 1 "in_order" 1 m_in_order) : FnOk P w K mg base (L2.CX P w) 2 f fd ["tables", "question"] (spF mg 2 m_rows_of) :=
  ok_of F sc_rows_of fun cdv A outer s H E (hr : Room 1 _) tk hp =>
    (jss_cons (js_set 2 sc_rows_of.nd (je_list ja_nil))
    (jss_cons (js_ice 1 (js_for hp rfl (ji_items (je_var 1)) (jg_tup2 3 4 rfl sc_rows_of.nd)
    (jss_cons (js_if (jt_notIn (u65 hr) (je_var 3) (je_var 0))
    (jss_one (js_raise rfl tk T.e_NoTable))
    jss_nil)
    (jss_cons (js_ice 0 (js_for hp rfl (ji_items (je_sub (u1 hr) (je_var 0) (je_var 3))) (jg_name 5 sc_rows_of.nd)
    (jss_one (js_if (jt_cmp (oj_ne (u64 hr)) (je_callB cj_len (ja_cons (je_var 5) ja_nil) T.b_len boot_len) (je_callB cj_len (ja_cons (je_var 4) ja_nil) T.b_len boot_len))
    (jss_one (js_raise rfl tk T.e_NoWidth))
    jss_nil))))
    (jss_one (js_append 2 (je_cal tk C_in_order hr (ja_cons (je_frz (je_sub (u1 hr) (je_var 0) (je_var 3))) ja_nil))))))))
    (jss_one (js_retV 2))))
abbrev N__law_error : List Str := ["_law_tables_here", "_law_question_here", "_law_error_here", "e"]
theorem sc__law_error : FnScope N__law_error ["_law_tables_here", "_law_question_here"] (defScope s__law_error) := ⟨rfl, rfl, rfl, by decide +kernel, rfl, by decide +kernel, by decide +kernel⟩
theorem ok__law_error {f : Addr} {fd : FuncData} (F : Fun K "_law_error" "_law_error" s__law_error f fd) (T : Tx K mg) (C_rows_of : Cal P w K mg base 2 "rows_of" 2 m_rows_of) : FnOk P w K mg base (L2.CX P w) 3 f fd ["_law_tables_here", "_law_question_here"] (spF mg 2 m__law_error) :=
  ok_of F sc__law_error fun cdv A outer s H E (hr : Room 2 _) tk hp =>
    (jss_cons (js_set 2 sc__law_error.nd je_non)
    (jss_cons (js_tryE 3 2 ["NoTable", "NoWidth"] rfl rfl rfl sc__law_error.nd T.e_JoinError T.u_JoinError fun W pn xe tk => (je_cal tk C_rows_of hr (ja_cons (je_var 0) (ja_cons (je_var 1) ja_nil))))
    (jss_one (js_retV 2))))
abbrev N__law_whole : List Str := ["_law_found"]
theorem sc__law_whole : FnScope N__law_whole ["_law_found"] (defScope s__law_whole) := ⟨rfl, rfl, rfl, by decide +kernel, rfl, by decide +kernel, by decide +kernel⟩
theorem ok__law_whole {f : Addr} {fd : FuncData} (F : Fun K "_law_whole" "_law_whole" s__law_whole f fd) (T : Tx K mg)  : FnOk P w K mg base (L2.CX P w) 1 f fd ["_law_found"] (spF mg 1 m__law_whole) :=
  ok_of F sc__law_whole fun cdv A outer s H E (hr : Room 0 _) tk hp =>
    (jss_one (js_ret (je_and (je_isa (T := "int") (je_var 0) T.b_isinstance T.b_int (by decide) boot_int) (je_one (je_not (je_isa (T := "bool") (je_var 0) T.b_isinstance T.b_bool (by decide) boot_bool))))))
abbrev N__law_is_rows : List Str := ["_law_found", "_law_due_here", "_law_rows", "_law_row", "_law_cell"]
theorem sc__law_is_rows : FnScope N__law_is_rows ["_law_found", "_law_due_here"] (defScope s__law_is_rows) := ⟨rfl, rfl, rfl, by decide +kernel, rfl, by decide +kernel, by decide +kernel⟩
theorem ok__law_is_rows {f : Addr} {fd : FuncData} (F : Fun K "_law_is_rows" "_law_is_rows" s__law_is_rows f fd) (T : Tx K mg) (C__law_whole : Cal P w K mg base 1 "_law_whole" 1 m__law_whole) : FnOk P w K mg base (L2.CX P w) 2 f fd ["_law_found", "_law_due_here"] (spF mg 2 m__law_is_rows) :=
  ok_of F sc__law_is_rows fun cdv A outer s H E (hr : Room 1 _) tk hp =>
    (jss_cons (js_if (jt_w (jw_or (jt_not (jt_val (je_isa (T := "list") (je_var 0) T.b_isinstance T.b_list (by decide) boot_list))) (jw_or1 (jt_cmp (oj_ne (u64 hr)) (je_var 0) (je_var 1)))))
    (jss_one (js_ret je_bl))
    jss_nil)
    (jss_cons (js_ice 0 (js_for hp rfl (ji_items (je_var 0)) (jg_name 2 sc__law_is_rows.nd)
    (jss_cons (js_if (jt_not (jt_val (je_isa (T := "list") (je_var 2) T.b_isinstance T.b_list (by decide) boot_list)))
    (jss_one (js_ret je_bl))
    jss_nil)
    (jss_one (js_ice 2 (js_for hp rfl (ji_items (je_var 2)) (jg_name 3 sc__law_is_rows.nd)
    (jss_one (js_if (jt_w (jw_or (jt_not (jt_val (je_isa (T := "tuple") (je_var 3) T.b_isinstance T.b_tuple (by decide) boot_tuple))) (jw_or1 (jt_cmp (oj_ne (u64 hr)) (je_lc (own := [((Str.ofString "_law_cell"), 4)]) rfl sc__law_is_rows.nd (jc_items (je_var 3)) (blkOk_by (by rfl)) (fun _ _ _ _ _ => (jg_name 4 sc__law_is_rows.nd)) (fun _ _ _ _ _ => (jts_one (jt_not (jt_val (je_cal takes0 C__law_whole hr (ja_cons (je_var 4) ja_nil)))))) (fun _ _ _ _ _ => (je_var 4)) tg_name) (je_list ja_nil)))))
    (jss_one (js_ret je_bl))
    jss_nil))))))))
    (jss_one (js_ret je_bl))))
abbrev N_law : List Str := ["_law_script", "_law_cells", "_law_total", "_law_names_here", "_law_tables_here", "_law_question_here", "_law_due_here", "_law_found", "_law_rows", "_law_kept"]
theorem sc_law : FnScope N_law ["_law_script"] (defScope s_law) := ⟨rfl, rfl, rfl, by decide +kernel, rfl, by decide +kernel, by decide +kernel⟩
theorem ok_law {f : Addr} {fd : FuncData} (F : Fun K "law" "law" s_law f fd) (T : Tx K mg) (C__law_names : Cal P w K mg base 2 "_law_names" 1 m__law_names) (C__law_tables : Cal P w K mg base 2 "_law_tables" 3 m__law_tables) (C__law_question : Cal P w K mg base 2 "_law_question" 3 m__law_question) (C__law_due : Cal P w K mg base 1 "_law_due" 2 m__law_due) (C__law_marks : Cal P w K mg base 1 "_law_marks" 1 m__law_marks) (C__law_error : Cal P w K mg base 3 "_law_error" 2 m__law_error) (C_rows_of : Cal P w K mg base 2 "rows_of" 2 m_rows_of) (C__law_is_rows : Cal P w K mg base 2 "_law_is_rows" 2 m__law_is_rows) (hlaw : ∀ ns : List Int, ns.length ≤ 63 → ∃ env, D_law (law0 10 (ns.take 60)) = .ok (.rt (.fz (.bl true)) env)) : FnOk P w K mg base (L2.CX P w) 4 f fd ["_law_script"] (spLaw K) := by
  refine F.okX sc_law (fun vs H Q E h => ?_) (fun cdv A outer s H vs Q E (hr : Room 3 _) h => ?_)
  · obtain ⟨a, ns, rfl, _⟩ := h
    rfl
  · obtain ⟨a, ns, rfl, hS, hl, hQ⟩ := h
    have tk := takes_of (X := cxOf (L2.CX P w) P w K mg base N_law "law" (defScope s_law) f cdv A outer s H E) rfl rfl rfl rfl
    have hp := passes_of (X := cxOf (L2.CX P w) P w K mg base N_law "law" (defScope s_law) f cdv A outer s H E) rfl
    have hb : JSs (cxOf (L2.CX P w) P w K mg base N_law "law" (defScope s_law) f cdv A outer s H E) (fun cls d _ H => E cls d H) ((defBody s_law).drop 1) D_law :=
    (jss_cons (js_ice 1 (js_set 2 sc_law.nd (je_callB (cj_sum rfl) (ja_cons (je_var 1) ja_nil) T.b_sum boot_sum)))
    (jss_cons (js_set 3 sc_law.nd (je_cal tk C__law_names hr (ja_cons (je_var 2) ja_nil)))
    (jss_cons (js_ice 3 (js_set 4 sc_law.nd (je_cal tk C__law_tables hr (ja_cons (je_var 3) (ja_cons (je_var 1) (ja_cons (je_var 2) ja_nil))))))
    (jss_cons (js_ice 4 (js_set 5 sc_law.nd (je_cal tk C__law_question hr (ja_cons (je_var 3) (ja_cons (je_var 4) (ja_cons (je_var 2) ja_nil))))))
    (jss_cons (js_ice 5 (js_set 6 sc_law.nd (je_cal tk C__law_due hr (ja_cons (je_var 4) (ja_cons (je_var 5) ja_nil)))))
    (jss_cons (js_ice 6 (js_if (jt_val (je_isa (T := "int") (je_var 6) T.b_isinstance T.b_int (by decide) boot_int))
    (jss_one (js_if (jt_cmp (oj_ne (u64 hr)) (je_cal tk C__law_marks hr (ja_cons (je_frz (je_cal tk C__law_error hr (ja_cons (je_var 4) (ja_cons (je_var 5) ja_nil)))) ja_nil)) (je_list (ja_cons (je_frz (je_bin oj_sub (je_var 6) je_int)) ja_nil)))
    (jss_one (js_ret je_bl))
    jss_nil))
    (jss_cons (js_set 7 sc_law.nd (je_cal tk C_rows_of hr (ja_cons (je_var 4) (ja_cons (je_var 5) ja_nil))))
    (jss_cons (js_if (jt_not (jt_val (je_cal tk C__law_is_rows hr (ja_cons (je_var 7) (ja_cons (je_var 6) ja_nil)))))
    (jss_one (js_ret je_bl))
    jss_nil)
    (jss_cons (js_eachN 7 8 hp rfl sc_law.nd je_non)
    (jss_cons (js_append 7 je_non)
    (jss_one (js_if (jt_cmp (oj_ne (u64 hr)) (je_cal tk C_rows_of hr (ja_cons (je_var 4) (ja_cons (je_var 5) ja_nil))) (je_var 6))
    (jss_one (js_ret je_bl))
    jss_nil))))))))
    (jss_cons (js_set 9 sc_law.nd (je_cal tk C__law_tables hr (ja_cons (je_var 3) (ja_cons (je_var 1) (ja_cons (je_var 2) ja_nil)))))
    (jss_one (js_ice 9 (js_ret (je_and (je_cmp (oj_eqK (u70 hr)) (je_var 4) (je_var 9)) (je_and (je_cmp (oj_eq (u64 hr)) (je_listKeys rfl (je_var 4) T.b_list rfl boot_list) (je_listKeys rfl (je_var 9) T.b_list rfl boot_list)) (je_one (je_cmp (oj_eq (u64 hr)) (je_var 5) (je_cal tk C__law_question hr (ja_cons (je_var 3) (ja_cons (je_var 9) (ja_cons (je_var 2) ja_nil))))))))))))))))))
    exact law_body (N := N_law) rfl (by decide) hb (pe_slice sl_list (pe_var (i := 0) rfl (by first | exact Or.inl rfl | exact Or.inr (Or.inl rfl))) po_none (po_some pe_int)) (ps_set (i := 1) sc_law.nd rfl (by first | exact Or.inl rfl | exact Or.inr rfl) (pe_slice sl_list (pe_var (i := 0) rfl (by first | exact Or.inl rfl | exact Or.inr (Or.inl rfl))) po_none (po_some pe_int))) (hlaw ns hl) hQ (fun Q h => law_slice hS Q h (by decide))
end
noncomputable def lawAns (ns : List Int) : Ans SO := D_law (law0 10 (ns.take 60))
theorem all_mk {l : PySem.W.OpenLaw} {w : World} {K : PySem.W.Frag} {h : Heap} {mg : Str → Option Value} {fa : Addr} (X : K.In h) (G : h.Ns mainGlobals mg) (hfa : mg "law" = some (.ref fa)) (hlaw : ∀ ns : List Int, ns.length ≤ 63 → ∃ env, lawAns ns = .ok (.rt (.fz (.bl true)) env))
    {f1 : Addr} {od1 an1 : Option Addr} {sl1 : Array (Option Value)} {oc1 kV1 dc1 pm1 cd1 ct1 : Value} (a1 : PySem.W.nsIn K mainGlobals "_law_mix" = some (some (.ref f1))) (l1 : K.lookup f1 = some ⟨oc1, od1, .func (PySem.W.fnOf "_law_mix" "_law_mix" (defArgs s__law_mix) (defBody s__law_mix) (defScope s__law_mix) .none kV1 dc1 pm1 an1 cd1 ct1), sl1⟩) (c1 : PySem.W.codeIn K cd1 "_law_mix" = true) (k1 : PySem.W.keepIn K (.ref f1) = true)
    {f2 : Addr} {od2 an2 : Option Addr} {sl2 : Array (Option Value)} {oc2 kV2 dc2 pm2 cd2 ct2 : Value} (a2 : PySem.W.nsIn K mainGlobals "_law_names" = some (some (.ref f2))) (l2 : K.lookup f2 = some ⟨oc2, od2, .func (PySem.W.fnOf "_law_names" "_law_names" (defArgs s__law_names) (defBody s__law_names) (defScope s__law_names) .none kV2 dc2 pm2 an2 cd2 ct2), sl2⟩) (c2 : PySem.W.codeIn K cd2 "_law_names" = true) (k2 : PySem.W.keepIn K (.ref f2) = true)
    {f3 : Addr} {od3 an3 : Option Addr} {sl3 : Array (Option Value)} {oc3 kV3 dc3 pm3 cd3 ct3 : Value} (a3 : PySem.W.nsIn K mainGlobals "_law_numbers" = some (some (.ref f3))) (l3 : K.lookup f3 = some ⟨oc3, od3, .func (PySem.W.fnOf "_law_numbers" "_law_numbers" (defArgs s__law_numbers) (defBody s__law_numbers) (defScope s__law_numbers) .none kV3 dc3 pm3 an3 cd3 ct3), sl3⟩) (c3 : PySem.W.codeIn K cd3 "_law_numbers" = true) (k3 : PySem.W.keepIn K (.ref f3) = true)
    {f4 : Addr} {od4 an4 : Option Addr} {sl4 : Array (Option Value)} {oc4 kV4 dc4 pm4 cd4 ct4 : Value} (a4 : PySem.W.nsIn K mainGlobals "_law_tables" = some (some (.ref f4))) (l4 : K.lookup f4 = some ⟨oc4, od4, .func (PySem.W.fnOf "_law_tables" "_law_tables" (defArgs s__law_tables) (defBody s__law_tables) (defScope s__law_tables) .none kV4 dc4 pm4 an4 cd4 ct4), sl4⟩) (c4 : PySem.W.codeIn K cd4 "_law_tables" = true) (k4 : PySem.W.keepIn K (.ref f4) = true)
    {f5 : Addr} {od5 an5 : Option Addr} {sl5 : Array (Option Value)} {oc5 kV5 dc5 pm5 cd5 ct5 : Value} (a5 : PySem.W.nsIn K mainGlobals "_law_question" = some (some (.ref f5))) (l5 : K.lookup f5 = some ⟨oc5, od5, .func (PySem.W.fnOf "_law_question" "_law_question" (defArgs s__law_question) (defBody s__law_question) (defScope s__law_question) .none kV5 dc5 pm5 an5 cd5 ct5), sl5⟩) (c5 : PySem.W.codeIn K cd5 "_law_question" = true) (k5 : PySem.W.keepIn K (.ref f5) = true)
    {f6 : Addr} {od6 an6 : Option Addr} {sl6 : Array (Option Value)} {oc6 kV6 dc6 pm6 cd6 ct6 : Value} (a6 : PySem.W.nsIn K mainGlobals "_law_due" = some (some (.ref f6))) (l6 : K.lookup f6 = some ⟨oc6, od6, .func (PySem.W.fnOf "_law_due" "_law_due" (defArgs s__law_due) (defBody s__law_due) (defScope s__law_due) .none kV6 dc6 pm6 an6 cd6 ct6), sl6⟩) (c6 : PySem.W.codeIn K cd6 "_law_due" = true) (k6 : PySem.W.keepIn K (.ref f6) = true)
    {f7 : Addr} {od7 an7 : Option Addr} {sl7 : Array (Option Value)} {oc7 kV7 dc7 pm7 cd7 ct7 : Value} (a7 : PySem.W.nsIn K mainGlobals "_law_marks" = some (some (.ref f7))) (l7 : K.lookup f7 = some ⟨oc7, od7, .func (PySem.W.fnOf "_law_marks" "_law_marks" (defArgs s__law_marks) (defBody s__law_marks) (defScope s__law_marks) .none kV7 dc7 pm7 an7 cd7 ct7), sl7⟩) (c7 : PySem.W.codeIn K cd7 "_law_marks" = true) (k7 : PySem.W.keepIn K (.ref f7) = true)
    {f8 : Addr} {od8 an8 : Option Addr} {sl8 : Array (Option Value)} {oc8 kV8 dc8 pm8 cd8 ct8 : Value} (a8 : PySem.W.nsIn K mainGlobals "in_order" = some (some (.ref f8))) (l8 : K.lookup f8 = some ⟨oc8, od8, .func (PySem.W.fnOf "in_order" "in_order" (defArgs s_in_order) (defBody s_in_order) (defScope s_in_order) .none kV8 dc8 pm8 an8 cd8 ct8), sl8⟩) (c8 : PySem.W.codeIn K cd8 "in_order" = true) (k8 : PySem.W.keepIn K (.ref f8) = true)
    {f9 : Addr} {od9 an9 : Option Addr} {sl9 : Array (Option Value)} {oc9 kV9 dc9 pm9 cd9 ct9 : Value} (a9 : PySem.W.nsIn K mainGlobals "rows_of" = some (some (.ref f9))) (l9 : K.lookup f9 = some ⟨oc9, od9, .func (PySem.W.fnOf "rows_of" "rows_of" (defArgs s_rows_of) (defBody s_rows_of) (defScope s_rows_of) .none kV9 dc9 pm9 an9 cd9 ct9), sl9⟩) (c9 : PySem.W.codeIn K cd9 "rows_of" = true) (k9 : PySem.W.keepIn K (.ref f9) = true)
    {f10 : Addr} {od10 an10 : Option Addr} {sl10 : Array (Option Value)} {oc10 kV10 dc10 pm10 cd10 ct10 : Value} (a10 : PySem.W.nsIn K mainGlobals "_law_error" = some (some (.ref f10))) (l10 : K.lookup f10 = some ⟨oc10, od10, .func (PySem.W.fnOf "_law_error" "_law_error" (defArgs s__law_error) (defBody s__law_error) (defScope s__law_error) .none kV10 dc10 pm10 an10 cd10 ct10), sl10⟩) (c10 : PySem.W.codeIn K cd10 "_law_error" = true) (k10 : PySem.W.keepIn K (.ref f10) = true)
    {f11 : Addr} {od11 an11 : Option Addr} {sl11 : Array (Option Value)} {oc11 kV11 dc11 pm11 cd11 ct11 : Value} (a11 : PySem.W.nsIn K mainGlobals "_law_whole" = some (some (.ref f11))) (l11 : K.lookup f11 = some ⟨oc11, od11, .func (PySem.W.fnOf "_law_whole" "_law_whole" (defArgs s__law_whole) (defBody s__law_whole) (defScope s__law_whole) .none kV11 dc11 pm11 an11 cd11 ct11), sl11⟩) (c11 : PySem.W.codeIn K cd11 "_law_whole" = true) (k11 : PySem.W.keepIn K (.ref f11) = true)
    {f12 : Addr} {od12 an12 : Option Addr} {sl12 : Array (Option Value)} {oc12 kV12 dc12 pm12 cd12 ct12 : Value} (a12 : PySem.W.nsIn K mainGlobals "_law_is_rows" = some (some (.ref f12))) (l12 : K.lookup f12 = some ⟨oc12, od12, .func (PySem.W.fnOf "_law_is_rows" "_law_is_rows" (defArgs s__law_is_rows) (defBody s__law_is_rows) (defScope s__law_is_rows) .none kV12 dc12 pm12 an12 cd12 ct12), sl12⟩) (c12 : PySem.W.codeIn K cd12 "_law_is_rows" = true) (k12 : PySem.W.keepIn K (.ref f12) = true)
    {f13 : Addr} {od13 an13 : Option Addr} {sl13 : Array (Option Value)} {oc13 kV13 dc13 pm13 cd13 ct13 : Value} (a13 : PySem.W.nsIn K mainGlobals "law" = some (some (.ref f13))) (l13 : K.lookup f13 = some ⟨oc13, od13, .func (PySem.W.fnOf "law" "law" (defArgs s_law) (defBody s_law) (defScope s_law) .none kV13 dc13 pm13 an13 cd13 ct13), sl13⟩) (c13 : PySem.W.codeIn K cd13 "law" = true) (k13 : PySem.W.keepIn K (.ref f13) = true)
    {C_JoinError : Addr} (xa_JoinError : PySem.W.nsIn K mainGlobals "JoinError" = some (some (.ref C_JoinError)))
    (xk_JoinError : PySem.W.keepIn K (.ref C_JoinError) = true)
    (xe_JoinError : PySem.W.excIn K C_JoinError veMro "ValueError.__new__" = true)
    (xb_JoinError : PySem.W.subIn K (.ref C_JoinError) (.type "BaseException") = some true)
    (xv_JoinError : PySem.W.subIn K (.ref C_JoinError) (.type "ValueError") = some true)
    (xs_JoinError : PySem.W.subIn K (.ref C_JoinError) (.ref C_JoinError) = some true)
    (xn_JoinError : PySem.W.subIn K (.type "NoneType") (.ref C_JoinError) = some false)
    (xt_JoinError : PySem.W.typeIn K (.ref C_JoinError) = some (.type "type"))
    (xd_JoinError : PySem.W.hasDictIn K C_JoinError = true)
    (xg_JoinError : PySem.W.findIn K (.ref C_JoinError) "__getattribute__" = some (some (.builtin "BaseException.__getattribute__")))
    (xh_JoinError : PySem.W.findIn K (.ref C_JoinError) "__getattr__" = some none)
    (xc_JoinError : PySem.W.findIn K (.ref C_JoinError) "__class__" = some (some (.builtin "object.__class__")))
    (xm_JoinError : PySem.W.mroIn K C_JoinError (.type "object") = some true)
    {C_NoTable : Addr} (xa_NoTable : PySem.W.nsIn K mainGlobals "NoTable" = some (some (.ref C_NoTable)))
    (xk_NoTable : PySem.W.keepIn K (.ref C_NoTable) = true)
    (xe_NoTable : PySem.W.excIn K C_NoTable veMro "ValueError.__new__" = true)
    (xb_NoTable : PySem.W.subIn K (.ref C_NoTable) (.type "BaseException") = some true)
    (xv_NoTable : PySem.W.subIn K (.ref C_NoTable) (.type "ValueError") = some true)
    (xs_NoTable : PySem.W.subIn K (.ref C_NoTable) (.ref C_NoTable) = some true)
    (xn_NoTable : PySem.W.subIn K (.type "NoneType") (.ref C_NoTable) = some false)
    (xt_NoTable : PySem.W.typeIn K (.ref C_NoTable) = some (.type "type"))
    (xd_NoTable : PySem.W.hasDictIn K C_NoTable = true)
    (xg_NoTable : PySem.W.findIn K (.ref C_NoTable) "__getattribute__" = some (some (.builtin "BaseException.__getattribute__")))
    (xh_NoTable : PySem.W.findIn K (.ref C_NoTable) "__getattr__" = some none)
    (xc_NoTable : PySem.W.findIn K (.ref C_NoTable) "__class__" = some (some (.builtin "object.__class__")))
    (xm_NoTable : PySem.W.mroIn K C_NoTable (.type "object") = some true)
    {C_NoWidth : Addr} (xa_NoWidth : PySem.W.nsIn K mainGlobals "NoWidth" = some (some (.ref C_NoWidth)))
    (xk_NoWidth : PySem.W.keepIn K (.ref C_NoWidth) = true)
    (xe_NoWidth : PySem.W.excIn K C_NoWidth veMro "ValueError.__new__" = true)
    (xb_NoWidth : PySem.W.subIn K (.ref C_NoWidth) (.type "BaseException") = some true)
    (xv_NoWidth : PySem.W.subIn K (.ref C_NoWidth) (.type "ValueError") = some true)
    (xs_NoWidth : PySem.W.subIn K (.ref C_NoWidth) (.ref C_NoWidth) = some true)
    (xn_NoWidth : PySem.W.subIn K (.type "NoneType") (.ref C_NoWidth) = some false)
    (xt_NoWidth : PySem.W.typeIn K (.ref C_NoWidth) = some (.type "type"))
    (xd_NoWidth : PySem.W.hasDictIn K C_NoWidth = true)
    (xg_NoWidth : PySem.W.findIn K (.ref C_NoWidth) "__getattribute__" = some (some (.builtin "BaseException.__getattribute__")))
    (xh_NoWidth : PySem.W.findIn K (.ref C_NoWidth) "__getattr__" = some none)
    (xc_NoWidth : PySem.W.findIn K (.ref C_NoWidth) "__class__" = some (some (.builtin "object.__class__")))
    (xm_NoWidth : PySem.W.mroIn K C_NoWidth (.type "object") = some true)
    {C_NoAnswer : Addr} (xa_NoAnswer : PySem.W.nsIn K mainGlobals "NoAnswer" = some (some (.ref C_NoAnswer)))
    (xk_NoAnswer : PySem.W.keepIn K (.ref C_NoAnswer) = true)
    (xe_NoAnswer : PySem.W.excIn K C_NoAnswer veMro "ValueError.__new__" = true)
    (xb_NoAnswer : PySem.W.subIn K (.ref C_NoAnswer) (.type "BaseException") = some true)
    (xv_NoAnswer : PySem.W.subIn K (.ref C_NoAnswer) (.type "ValueError") = some true)
    (xs_NoAnswer : PySem.W.subIn K (.ref C_NoAnswer) (.ref C_NoAnswer) = some true)
    (xn_NoAnswer : PySem.W.subIn K (.type "NoneType") (.ref C_NoAnswer) = some false)
    (xt_NoAnswer : PySem.W.typeIn K (.ref C_NoAnswer) = some (.type "type"))
    (xd_NoAnswer : PySem.W.hasDictIn K C_NoAnswer = true)
    (xg_NoAnswer : PySem.W.findIn K (.ref C_NoAnswer) "__getattribute__" = some (some (.builtin "BaseException.__getattribute__")))
    (xh_NoAnswer : PySem.W.findIn K (.ref C_NoAnswer) "__getattr__" = some none)
    (xc_NoAnswer : PySem.W.findIn K (.ref C_NoAnswer) "__class__" = some (some (.builtin "object.__class__")))
    (xm_NoAnswer : PySem.W.mroIn K C_NoAnswer (.type "object") = some true)
    {C_NoText : Addr} (xa_NoText : PySem.W.nsIn K mainGlobals "NoText" = some (some (.ref C_NoText)))
    (xk_NoText : PySem.W.keepIn K (.ref C_NoText) = true)
    (xe_NoText : PySem.W.excIn K C_NoText veMro "ValueError.__new__" = true)
    (xb_NoText : PySem.W.subIn K (.ref C_NoText) (.type "BaseException") = some true)
    (xv_NoText : PySem.W.subIn K (.ref C_NoText) (.type "ValueError") = some true)
    (xs_NoText : PySem.W.subIn K (.ref C_NoText) (.ref C_NoText) = some true)
    (xn_NoText : PySem.W.subIn K (.type "NoneType") (.ref C_NoText) = some false)
    (xt_NoText : PySem.W.typeIn K (.ref C_NoText) = some (.type "type"))
    (xd_NoText : PySem.W.hasDictIn K C_NoText = true)
    (xg_NoText : PySem.W.findIn K (.ref C_NoText) "__getattribute__" = some (some (.builtin "BaseException.__getattribute__")))
    (xh_NoText : PySem.W.findIn K (.ref C_NoText) "__getattr__" = some none)
    (xc_NoText : PySem.W.findIn K (.ref C_NoText) "__class__" = some (some (.builtin "object.__class__")))
    (xm_NoText : PySem.W.mroIn K C_NoText (.type "object") = some true)
    {C_NoRow : Addr} (xa_NoRow : PySem.W.nsIn K mainGlobals "NoRow" = some (some (.ref C_NoRow)))
    (xk_NoRow : PySem.W.keepIn K (.ref C_NoRow) = true)
    (xe_NoRow : PySem.W.excIn K C_NoRow veMro "ValueError.__new__" = true)
    (xb_NoRow : PySem.W.subIn K (.ref C_NoRow) (.type "BaseException") = some true)
    (xv_NoRow : PySem.W.subIn K (.ref C_NoRow) (.type "ValueError") = some true)
    (xs_NoRow : PySem.W.subIn K (.ref C_NoRow) (.ref C_NoRow) = some true)
    (xn_NoRow : PySem.W.subIn K (.type "NoneType") (.ref C_NoRow) = some false)
    (xt_NoRow : PySem.W.typeIn K (.ref C_NoRow) = some (.type "type"))
    (xd_NoRow : PySem.W.hasDictIn K C_NoRow = true)
    (xg_NoRow : PySem.W.findIn K (.ref C_NoRow) "__getattribute__" = some (some (.builtin "BaseException.__getattribute__")))
    (xh_NoRow : PySem.W.findIn K (.ref C_NoRow) "__getattr__" = some none)
    (xc_NoRow : PySem.W.findIn K (.ref C_NoRow) "__class__" = some (some (.builtin "object.__class__")))
    (xm_NoRow : PySem.W.mroIn K C_NoRow (.type "object") = some true)
    (xp_NoTable_NoTable : PySem.W.subIn K (.ref C_NoTable) (.ref C_NoTable) = some true)
    (xp_NoWidth_NoTable : PySem.W.subIn K (.ref C_NoWidth) (.ref C_NoTable) = some false)
    (xp_NoTable_NoWidth : PySem.W.subIn K (.ref C_NoTable) (.ref C_NoWidth) = some false)
    (xp_NoWidth_NoWidth : PySem.W.subIn K (.ref C_NoWidth) (.ref C_NoWidth) = some true)
    (xp_NoTable_NoAnswer : PySem.W.subIn K (.ref C_NoTable) (.ref C_NoAnswer) = some false)
    (xp_NoWidth_NoAnswer : PySem.W.subIn K (.ref C_NoWidth) (.ref C_NoAnswer) = some false)
    (xp_NoTable_NoText : PySem.W.subIn K (.ref C_NoTable) (.ref C_NoText) = some false)
    (xp_NoWidth_NoText : PySem.W.subIn K (.ref C_NoWidth) (.ref C_NoText) = some false)
    (xp_NoTable_NoRow : PySem.W.subIn K (.ref C_NoTable) (.ref C_NoRow) = some false)
    (xp_NoWidth_NoRow : PySem.W.subIn K (.ref C_NoWidth) (.ref C_NoRow) = some false)
    (xp_NoTable_JoinError : PySem.W.subIn K (.ref C_NoTable) (.ref C_JoinError) = some true)
    (xp_NoWidth_JoinError : PySem.W.subIn K (.ref C_NoWidth) (.ref C_JoinError) = some true)
    (xo1 : PySem.W.specialIn K (.builtin "object.__class__") "__get__" = some (some (.builtin "getset_descriptor.__get__"))) (xo2 : PySem.W.takesIn K (.builtin "object.__class__") = some true)
    (z_sum : PySem.W.nsIn K mainGlobals "sum" = some none)
    (z_isinstance : PySem.W.nsIn K mainGlobals "isinstance" = some none)
    (z_int : PySem.W.nsIn K mainGlobals "int" = some none)
    (z_list : PySem.W.nsIn K mainGlobals "list" = some none)
    (z_range : PySem.W.nsIn K mainGlobals "range" = some none)
    (z_tuple : PySem.W.nsIn K mainGlobals "tuple" = some none)
    (z_len : PySem.W.nsIn K mainGlobals "len" = some none)
    (z_sorted : PySem.W.nsIn K mainGlobals "sorted" = some none)
    (z_ValueError : PySem.W.nsIn K mainGlobals "ValueError" = some none)
    (z_bool : PySem.W.nsIn K mainGlobals "bool" = some none)
    : ∃ fd : FuncData, (∀ (s : Shared) (v : Value), BindsTo s fd ⟨[v], []⟩ [("_law_script", v)]) ∧ ∀ base : Heap, K.In base → base.Ns mainGlobals mg → FnOk l.prog w K mg base (L2.CX l.prog w) 4 fa fd ["_law_script"] (spLaw K) := by
  have e := hfa.symm.trans (PySem.W.mg_of X G a13)
  cases e
  have e_JoinError : ErrC K mg "JoinError" := ⟨_, PySem.W.mg_of X G xa_JoinError, ⟨xk_JoinError, xe_JoinError, xb_JoinError, xv_JoinError, xs_JoinError, xn_JoinError, xt_JoinError, xd_JoinError, xg_JoinError, xh_JoinError, xc_JoinError, xm_JoinError⟩⟩
  have e_NoTable : ErrC K mg "NoTable" := ⟨_, PySem.W.mg_of X G xa_NoTable, ⟨xk_NoTable, xe_NoTable, xb_NoTable, xv_NoTable, xs_NoTable, xn_NoTable, xt_NoTable, xd_NoTable, xg_NoTable, xh_NoTable, xc_NoTable, xm_NoTable⟩⟩
  have e_NoWidth : ErrC K mg "NoWidth" := ⟨_, PySem.W.mg_of X G xa_NoWidth, ⟨xk_NoWidth, xe_NoWidth, xb_NoWidth, xv_NoWidth, xs_NoWidth, xn_NoWidth, xt_NoWidth, xd_NoWidth, xg_NoWidth, xh_NoWidth, xc_NoWidth, xm_NoWidth⟩⟩
  have e_NoAnswer : ErrC K mg "NoAnswer" := ⟨_, PySem.W.mg_of X G xa_NoAnswer, ⟨xk_NoAnswer, xe_NoAnswer, xb_NoAnswer, xv_NoAnswer, xs_NoAnswer, xn_NoAnswer, xt_NoAnswer, xd_NoAnswer, xg_NoAnswer, xh_NoAnswer, xc_NoAnswer, xm_NoAnswer⟩⟩
  have e_NoText : ErrC K mg "NoText" := ⟨_, PySem.W.mg_of X G xa_NoText, ⟨xk_NoText, xe_NoText, xb_NoText, xv_NoText, xs_NoText, xn_NoText, xt_NoText, xd_NoText, xg_NoText, xh_NoText, xc_NoText, xm_NoText⟩⟩
  have e_NoRow : ErrC K mg "NoRow" := ⟨_, PySem.W.mg_of X G xa_NoRow, ⟨xk_NoRow, xe_NoRow, xb_NoRow, xv_NoRow, xs_NoRow, xn_NoRow, xt_NoRow, xd_NoRow, xg_NoRow, xh_NoRow, xc_NoRow, xm_NoRow⟩⟩
  have T : Tx K mg := ⟨PySem.W.mg_none_of X G z_sum, PySem.W.mg_none_of X G z_isinstance, PySem.W.mg_none_of X G z_int, PySem.W.mg_none_of X G z_list, PySem.W.mg_none_of X G z_range, PySem.W.mg_none_of X G z_tuple, PySem.W.mg_none_of X G z_len, PySem.W.mg_none_of X G z_sorted, PySem.W.mg_none_of X G z_ValueError, PySem.W.mg_none_of X G z_bool, e_JoinError, e_NoTable, e_NoWidth, e_NoAnswer, e_NoText, e_NoRow, ⟨xo1, xo2⟩, List.forall_mem_cons.mpr ⟨⟨e_NoTable, ErrP.mk (PySem.W.mg_of X G xa_NoTable) (PySem.W.mg_of X G xa_NoTable) xp_NoTable_NoTable⟩, List.forall_mem_cons.mpr ⟨⟨e_NoWidth, ErrP.mk (PySem.W.mg_of X G xa_NoWidth) (PySem.W.mg_of X G xa_NoTable) xp_NoWidth_NoTable⟩, fun _ h => (nomatch h)⟩⟩, List.forall_mem_cons.mpr ⟨⟨e_NoTable, ErrP.mk (PySem.W.mg_of X G xa_NoTable) (PySem.W.mg_of X G xa_NoWidth) xp_NoTable_NoWidth⟩, List.forall_mem_cons.mpr ⟨⟨e_NoWidth, ErrP.mk (PySem.W.mg_of X G xa_NoWidth) (PySem.W.mg_of X G xa_NoWidth) xp_NoWidth_NoWidth⟩, fun _ h => (nomatch h)⟩⟩, List.forall_mem_cons.mpr ⟨⟨e_NoTable, ErrP.mk (PySem.W.mg_of X G xa_NoTable) (PySem.W.mg_of X G xa_NoAnswer) xp_NoTable_NoAnswer⟩, List.forall_mem_cons.mpr ⟨⟨e_NoWidth, ErrP.mk (PySem.W.mg_of X G xa_NoWidth) (PySem.W.mg_of X G xa_NoAnswer) xp_NoWidth_NoAnswer⟩, fun _ h => (nomatch h)⟩⟩, List.forall_mem_cons.mpr ⟨⟨e_NoTable, ErrP.mk (PySem.W.mg_of X G xa_NoTable) (PySem.W.mg_of X G xa_NoText) xp_NoTable_NoText⟩, List.forall_mem_cons.mpr ⟨⟨e_NoWidth, ErrP.mk (PySem.W.mg_of X G xa_NoWidth) (PySem.W.mg_of X G xa_NoText) xp_NoWidth_NoText⟩, fun _ h => (nomatch h)⟩⟩, List.forall_mem_cons.mpr ⟨⟨e_NoTable, ErrP.mk (PySem.W.mg_of X G xa_NoTable) (PySem.W.mg_of X G xa_NoRow) xp_NoTable_NoRow⟩, List.forall_mem_cons.mpr ⟨⟨e_NoWidth, ErrP.mk (PySem.W.mg_of X G xa_NoWidth) (PySem.W.mg_of X G xa_NoRow) xp_NoWidth_NoRow⟩, fun _ h => (nomatch h)⟩⟩, List.forall_mem_cons.mpr ⟨e_NoTable, List.forall_mem_cons.mpr ⟨e_NoWidth, fun _ h => (nomatch h)⟩⟩, List.forall_mem_cons.mpr ⟨ErrP.mk (PySem.W.mg_of X G xa_NoTable) (PySem.W.mg_of X G xa_JoinError) xp_NoTable_JoinError, List.forall_mem_cons.mpr ⟨ErrP.mk (PySem.W.mg_of X G xa_NoWidth) (PySem.W.mg_of X G xa_JoinError) xp_NoWidth_JoinError, fun _ h => (nomatch h)⟩⟩⟩
  refine ⟨PySem.W.fnOf "law" "law" (defArgs s_law) (defBody s_law) (defScope s_law) .none kV13 dc13 pm13 an13 cd13 ct13, fun s v => .of_eq rfl, fun base _ _ => ?_⟩
  have F1 := fun_mk (st := s__law_mix) l1 c1 k1
  have F2 := fun_mk (st := s__law_names) l2 c2 k2
  have F3 := fun_mk (st := s__law_numbers) l3 c3 k3
  have F4 := fun_mk (st := s__law_tables) l4 c4 k4
  have F5 := fun_mk (st := s__law_question) l5 c5 k5
  have F6 := fun_mk (st := s__law_due) l6 c6 k6
  have F7 := fun_mk (st := s__law_marks) l7 c7 k7
  have F8 := fun_mk (st := s_in_order) l8 c8 k8
  have F9 := fun_mk (st := s_rows_of) l9 c9 k9
  have F10 := fun_mk (st := s__law_error) l10 c10 k10
  have F11 := fun_mk (st := s__law_whole) l11 c11 k11
  have F12 := fun_mk (st := s__law_is_rows) l12 c12 k12
  have F13 := fun_mk (st := s_law) l13 c13 k13
  have C__law_mix : Cal l.prog w K mg base 1 "_law_mix" 2 m__law_mix := ⟨_, _, ["_law_cell", "_law_j"], ok__law_mix F1 T , PySem.W.mg_of X G a1, k1, F1.binds (ps := ["_law_cell", "_law_j"]) fun _ _ _ _ _ _ us hl => match us, hl with | [_, _], _ => rfl⟩
  have C__law_names : Cal l.prog w K mg base 2 "_law_names" 1 m__law_names := ⟨_, _, ["_law_cell"], ok__law_names F2 T C__law_mix, PySem.W.mg_of X G a2, k2, F2.binds (ps := ["_law_cell"]) fun _ _ _ _ _ _ us hl => match us, hl with | [_], _ => rfl⟩
  have C__law_numbers : Cal l.prog w K mg base 1 "_law_numbers" 1 m__law_numbers := ⟨_, _, ["_law_cell"], ok__law_numbers F3 T , PySem.W.mg_of X G a3, k3, F3.binds (ps := ["_law_cell"]) fun _ _ _ _ _ _ us hl => match us, hl with | [_], _ => rfl⟩
  have C__law_tables : Cal l.prog w K mg base 2 "_law_tables" 3 m__law_tables := ⟨_, _, ["_law_names_here", "_law_cells", "_law_total"], ok__law_tables F4 T C__law_numbers C__law_mix, PySem.W.mg_of X G a4, k4, F4.binds (ps := ["_law_names_here", "_law_cells", "_law_total"]) fun _ _ _ _ _ _ us hl => match us, hl with | [_, _, _], _ => rfl⟩
  have C__law_question : Cal l.prog w K mg base 2 "_law_question" 3 m__law_question := ⟨_, _, ["_law_names_here", "_law_tables_here", "_law_total"], ok__law_question F5 T C__law_mix, PySem.W.mg_of X G a5, k5, F5.binds (ps := ["_law_names_here", "_law_tables_here", "_law_total"]) fun _ _ _ _ _ _ us hl => match us, hl with | [_, _, _], _ => rfl⟩
  have C__law_due : Cal l.prog w K mg base 1 "_law_due" 2 m__law_due := ⟨_, _, ["_law_tables_here", "_law_question_here"], ok__law_due F6 T , PySem.W.mg_of X G a6, k6, F6.binds (ps := ["_law_tables_here", "_law_question_here"]) fun _ _ _ _ _ _ us hl => match us, hl with | [_, _], _ => rfl⟩
  have C__law_marks : Cal l.prog w K mg base 1 "_law_marks" 1 m__law_marks := ⟨_, _, ["_law_error_here"], ok__law_marks F7 T , PySem.W.mg_of X G a7, k7, F7.binds (ps := ["_law_error_here"]) fun _ _ _ _ _ _ us hl => match us, hl with | [_], _ => rfl⟩
  have C_in_order : Cal l.prog w K mg base 1 "in_order" 1 m_in_order := ⟨_, _, ["rows"], ok_in_order F8 T , PySem.W.mg_of X G a8, k8, F8.binds (ps := ["rows"]) fun _ _ _ _ _ _ us hl => match us, hl with | [_], _ => rfl⟩
  have C_rows_of : Cal l.prog w K mg base 2 "rows_of" 2 m_rows_of := ⟨_, _, ["tables", "question"], ok_rows_of F9 T C_in_order, PySem.W.mg_of X G a9, k9, F9.binds (ps := ["tables", "question"]) fun _ _ _ _ _ _ us hl => match us, hl with | [_, _], _ => rfl⟩
  have C__law_error : Cal l.prog w K mg base 3 "_law_error" 2 m__law_error := ⟨_, _, ["_law_tables_here", "_law_question_here"], ok__law_error F10 T C_rows_of, PySem.W.mg_of X G a10, k10, F10.binds (ps := ["_law_tables_here", "_law_question_here"]) fun _ _ _ _ _ _ us hl => match us, hl with | [_, _], _ => rfl⟩
  have C__law_whole : Cal l.prog w K mg base 1 "_law_whole" 1 m__law_whole := ⟨_, _, ["_law_found"], ok__law_whole F11 T , PySem.W.mg_of X G a11, k11, F11.binds (ps := ["_law_found"]) fun _ _ _ _ _ _ us hl => match us, hl with | [_], _ => rfl⟩
  have C__law_is_rows : Cal l.prog w K mg base 2 "_law_is_rows" 2 m__law_is_rows := ⟨_, _, ["_law_found", "_law_due_here"], ok__law_is_rows F12 T C__law_whole, PySem.W.mg_of X G a12, k12, F12.binds (ps := ["_law_found", "_law_due_here"]) fun _ _ _ _ _ _ us hl => match us, hl with | [_, _], _ => rfl⟩
  exact ok_law F13 T C__law_names C__law_tables C__law_question C__law_due C__law_marks C__law_error C_rows_of C__law_is_rows hlaw
theorem walk {l : PySem.W.OpenLaw} {q : Program} {loose : List Str} {XP : (Str → Option Value) → Heap → Prop} {YP : World → Heap → Prop} {d : DefRec} {K : Params → PySem.W.Frag} (hn : l.most = some 63) (hdf : d.params.defaults = [])
    (hY : ∀ (w : World) (h : Heap), YP w h → (K w.params).In h)
    (F : ∀ (w : World) (mg : Str → Option Value) (fa : Addr) (h : Heap), (K w.params).In h → h.Ns mainGlobals mg → mg d.name = some (.ref fa) →
      ∃ fd : FuncData, (∀ (s : Shared) (u : Value), BindsTo s fd ⟨[u], []⟩ [("_law_script", u)]) ∧ ∀ base : Heap, (K w.params).In base → base.Ns mainGlobals mg → FnOk l.prog w (K w.params) mg base (L2.CX l.prog w) 4 fa fd ["_law_script"] (spLaw (K w.params))) :
    PySem.W.WalkO q loose XP YP l.row.toRowW d [] (fun f vs => PySem.call f vs) :=
  L2.walk_of (n := 63) (k := 4) (x := "_law_script") (CX := fun w => L2.CX l.prog w) (sp := fun w => spLaw (K w.params)) hn (by decide) hdf ⟨rfl, by decide, by decide⟩ hY F (fun _ _ a ns hl _ hS => ⟨a, ns, rfl, hS, hl, fun _ => rfl⟩) fun _ _ _ _ _ z => let ⟨_, _, _, _, _, _, _, _, _, _, _, _, z⟩ := z; z.elim
set_option maxHeartbeats 4000000
def Tcs_1 : List Chr := [97, 98, 99, 100, 101, 102, 103, 104, 105, 106, 107, 108, 109, 110, 111, 112, 113, 114, 115, 116, 117, 118, 119, 120, 121, 122]
theorem cs_1 : Str.ofString "abcdefghijklmnopqrstuvwxyz" = sxS Tcs_1 := by decide +kernel
def Tcs_2 : List Chr := []
theorem cs_2 : Str.ofString "" = sxS Tcs_2 := by decide +kernel
def Tcs_3 : List Chr := [75, 76, 77, 78]
theorem cs_3 : Str.ofString "KLMN" = sxS Tcs_3 := by decide +kernel
noncomputable def T__law_mix (p_cell : Int) (p_j : Int) : Option Int :=
  (if ((decide ((p_cell % (2 : Int)) = (1 : Int))) && (!(decide ((p_cell / 2 ^ (27 : Nat)) = (0 : Int))))) then (shrG p_cell ((1 : Int) + ((20 : Int) * p_j))).bind fun v1 => some (v1 % (1048576 : Int)) else (mulG p_cell (((2 : Int) * p_j) + (3 : Int))).bind fun v2 => (mulG ((v2 + p_j) % (2147483629 : Int)) ((v2 + p_j) % (2147483629 : Int))).bind fun v3 => (mulG (((v3 + (1 : Int)) * (48271 : Int)) % (2147483629 : Int)) (((v3 + (1 : Int)) * (48271 : Int)) % (2147483629 : Int))).bind fun v4 => some (v4 % (2147483587 : Int)))
theorem sm__law_mix {p_cell : Int} {p_j : Int} {v : Int} (hv : T__law_mix p_cell p_j = some v) : m__law_mix [eI p_cell, eI p_j] = .ok ((oF eI) v) := by
  refine run_sg (O := (oF eI)) (t := T__law_mix p_cell p_j) ?_ hv
  unfold T__law_mix D__law_mix
  refine sg_env (e2 := [some (.fz (eI p_cell)), some (.fz (eI p_j)), none]) rfl ?_
  refine sg_one ?_
  refine sg_assoc ?_
  refine sg_ifs (ev_and (ev_test (asO (.st (.fz (eB (decide ((p_cell % (2 : Int)) = (1 : Int)))))) (ev_bin (asO (.st (.fz (eI (p_cell % (2 : Int))))) (ev_bin (ev_varF (x := eI p_cell) rfl) (ev_c (x := eI 2)) (e_mod (by decide)))) (ev_c (x := eI 1)) (t_eq (e := eI) (a := (p_cell % (2 : Int))) (b := (1 : Int)) epI (by decide) rfl rfl)))) (ev_test (asO (.st (.fz (eB (!(decide ((p_cell / 2 ^ (27 : Nat)) = (0 : Int))))))) (ev_bin (asO (.st (.fz (eI (p_cell / 2 ^ (27 : Nat))))) (ev_bin (ev_varF (x := eI p_cell) rfl) (ev_c (x := eI 27)) (e_shr (by decide)))) (ev_c (x := eI 0)) (t_ne (e := eI) (a := (p_cell / 2 ^ (27 : Nat))) (b := (0 : Int)) epI (by decide) rfl rfl))))) (fun _ => ?_) (fun _ => ?_)
  · refine sg_bind fun v1 hv1 => ?_
    exact sg_retS (o := (.fz (eI (v1 % (1048576 : Int))))) (asO (.st (.fz (eI (v1 % (1048576 : Int))))) (ev_bin (asO (.st (.fz (eI v1))) (ev_bin (ev_varF (x := eI p_cell) rfl) (asO (.st (.fz (eI ((1 : Int) + ((20 : Int) * p_j))))) (ev_bin (ev_c (x := eI 1)) (asO (.st (.fz (eI ((20 : Int) * p_j)))) (ev_bin (ev_c (x := eI 20)) (ev_varF (x := eI p_j) rfl) (e_mul (mulL (by decide))))) e_add)) (t_shrG (i := p_cell) (j := ((1 : Int) + ((20 : Int) * p_j))) hv1))) (ev_c (x := eI 1048576)) (e_mod (by decide)))) (fun e => ⟨e, rfl⟩)
  · refine sg_skip ?_
    refine sg_assoc ?_
    refine sg_bind fun v2 hv2 => ?_
    refine sg_set (o := (.fz (eI ((v2 + p_j) % (2147483629 : Int))))) (asO (.st (.fz (eI ((v2 + p_j) % (2147483629 : Int))))) (ev_bin (asO (.st (.fz (eI (v2 + p_j)))) (ev_bin (asO (.st (.fz (eI v2))) (ev_bin (ev_varF (x := eI p_cell) rfl) (asO (.st (.fz (eI (((2 : Int) * p_j) + (3 : Int))))) (ev_bin (asO (.st (.fz (eI ((2 : Int) * p_j)))) (ev_bin (ev_c (x := eI 2)) (ev_varF (x := eI p_j) rfl) (e_mul (mulL (by decide))))) (ev_c (x := eI 3)) e_add)) (t_mulG (i := p_cell) (j := (((2 : Int) * p_j) + (3 : Int))) hv2))) (ev_varF (x := eI p_j) rfl) e_add)) (ev_c (x := eI 2147483629)) (e_mod (by decide)))) ?_
    refine sg_assoc ?_
    refine sg_bind fun v3 hv3 => ?_
    refine sg_set (o := (.fz (eI (((v3 + (1 : Int)) * (48271 : Int)) % (2147483629 : Int))))) (asO (.st (.fz (eI (((v3 + (1 : Int)) * (48271 : Int)) % (2147483629 : Int))))) (ev_bin (asO (.st (.fz (eI ((v3 + (1 : Int)) * (48271 : Int))))) (ev_bin (asO (.st (.fz (eI (v3 + (1 : Int))))) (ev_bin (asO (.st (.fz (eI v3))) (ev_bin (ev_varF (x := eI ((v2 + p_j) % (2147483629 : Int))) rfl) (ev_varF (x := eI ((v2 + p_j) % (2147483629 : Int))) rfl) (t_mulG (i := ((v2 + p_j) % (2147483629 : Int))) (j := ((v2 + p_j) % (2147483629 : Int))) hv3))) (ev_c (x := eI 1)) e_add)) (ev_c (x := eI 48271)) (e_mul (mulR (by decide))))) (ev_c (x := eI 2147483629)) (e_mod (by decide)))) ?_
    refine sg_bind fun v4 hv4 => ?_
    exact sg_retS (o := (.fz (eI (v4 % (2147483587 : Int))))) (asO (.st (.fz (eI (v4 % (2147483587 : Int))))) (ev_bin (asO (.st (.fz (eI v4))) (ev_bin (ev_varF (x := eI (((v3 + (1 : Int)) * (48271 : Int)) % (2147483629 : Int))) rfl) (ev_varF (x := eI (((v3 + (1 : Int)) * (48271 : Int)) % (2147483629 : Int))) rfl) (t_mulG (i := (((v3 + (1 : Int)) * (48271 : Int)) % (2147483629 : Int))) (j := (((v3 + (1 : Int)) * (48271 : Int)) % (2147483629 : Int))) hv4))) (ev_c (x := eI 2147483587)) (e_mod (by decide)))) (fun e => ⟨e, rfl⟩)
noncomputable def T__law_names_b1 (v6 : (List Chr)) (v8 : Int) (x2 : Int) (s1 : (List (List Chr))) : Option (List (List Chr)) :=
  (atS' v6 v8).bind fun v10 => (atS' Tcs_1 (((findC Tcs_1 v10) + ((4 : Int) * x2)) % (26 : Int))).bind fun v11 => (cutSG v6 none (some v8)).bind fun v12 => (catG v12 [v11]).bind fun v13 => (cutSG v6 (some (v8 + (1 : Int))) none).bind fun v14 => (catG v13 v14).bind fun v15 => (appG s1 v15).bind fun v16 => some v16
noncomputable def T__law_names (p_cell : Int) : Option (List (List Chr)) :=
  (T__law_mix p_cell (1 : Int)).bind fun v1 => (rangeG ((1 : Int) + (v1 % (7 : Int)))).bind fun v2 => (lcG (fun x1 : Int => some true) (fun x1 => (T__law_mix p_cell ((2 : Int) + x1)).bind fun v3 => (atS' Tcs_1 (v3 % (26 : Int))).bind fun v4 => some v4) v2).bind fun v5 => (joinG v5).bind fun v6 => (T__law_mix p_cell (9 : Int)).bind fun v7 => (modG v7 ((1 : Int) + (v1 % (7 : Int)))).bind fun v8 => (rangeG (6 : Int)).bind fun v9 => (forT (T__law_names_b1 v6 v8) v9 ([] : List (List Chr))).bind fun s2 => (T__law_mix p_cell (10 : Int)).bind fun v17 => (atS' Tcs_1 (v17 % (26 : Int))).bind fun v18 => (catG v6 [v18]).bind fun v19 => (catG s2 ([v19] : List (List Chr))).bind fun v20 => some v20
theorem sm__law_names {p_cell : Int} {v : (List (List Chr))} (hv : T__law_names p_cell = some v) : m__law_names [eI p_cell] = .ok ((oL eS) v) := by
  refine run_sg (O := (oL eS)) (t := T__law_names p_cell) ?_ hv
  unfold T__law_names D__law_names
  refine sg_env (e2 := [some (.fz (eI p_cell)), none, none, none, none, none, none, none]) rfl ?_
  refine sg_one ?_
  refine sg_assoc ?_
  refine sg_set (o := (.fz (eS Tcs_1))) (ev_cs cs_1) ?_
  refine sg_assoc ?_
  refine sg_bind fun v1 hv1 => ?_
  refine sg_set (o := (.fz (eI ((1 : Int) + (v1 % (7 : Int)))))) (asO (.st (.fz (eI ((1 : Int) + (v1 % (7 : Int)))))) (ev_bin (ev_c (x := eI 1)) (asO (.st (.fz (eI (v1 % (7 : Int))))) (ev_bin (asO (.st (.fz (eI v1))) (ev_callA (ev_cons (ev_varF (x := eI p_cell) rfl) (ev_cons (ev_c (x := eI 1)) ev_nil)) (as := [eI p_cell, eI (1 : Int)]) rfl (sm__law_mix hv1) (.inl rfl))) (ev_c (x := eI 7)) (e_mod (by decide)))) e_add)) ?_
  refine sg_assoc ?_
  refine sg_bind fun v2 hv2 => ?_
  refine sg_bind fun v5 hv5 => ?_
  refine sg_bind fun v6 hv6 => ?_
  refine sg_set (o := (.fz (eS v6))) (asO (.st (.fz (eS v6))) (ev_meth (ev_cs cs_2) rfl (ev_cons (asO (.st (.ol (List.map eC v5))) (ev_lc (e := eI) (d := eC) (tc := fun x1 => some true) (te := fun x1 => (T__law_mix p_cell ((2 : Int) + x1)).bind fun v3 => (atS' Tcs_1 (v3 % (26 : Int))).bind fun v4 => some v4) (items := v2) (it_range (ev_varF (x := eI ((1 : Int) + (v1 % (7 : Int)))) rfl) hv2) (fun x1 => ⟨_, rfl, (oe_id rfl), (oe_bind fun v3 hv3 => (oe_bind fun v4 hv4 => (oe_ret (asO (.st (.fz (eC v4))) (ev_frzX (asO (.st (.fz (eC v4))) (ev_sub (ev_varF (x := eS Tcs_1) rfl) (asO (.st (.fz (eI (v3 % (26 : Int))))) (ev_bin (asO (.st (.fz (eI v3))) (ev_callA (ev_cons (ev_varF (x := eI p_cell) rfl) (ev_cons (asO (.st (.fz (eI ((2 : Int) + x1)))) (ev_frzX (asO (.st (.fz (eI ((2 : Int) + x1)))) (ev_bin (ev_c (x := eI 2)) (ev_varF (x := eI x1) rfl) e_add)) rfl)) ev_nil)) (as := [eI p_cell, eI ((2 : Int) + x1)]) rfl (sm__law_mix hv3) (.inl rfl))) (ev_c (x := eI 26)) (e_mod (by decide)))) rfl (t_atS (s := Tcs_1) hv4))) rfl)))))⟩) (.inl (afz_F (afz_F (afz_F (afz_N (afz_N (afz_N (afz_N (afz_N afz_nil))))))))) hv5)) ev_nil) (t_join0 (xs := v5) (.inl rfl) hv6))) ?_
  refine sg_assoc ?_
  refine sg_bind fun v7 hv7 => ?_
  refine sg_bind fun v8 hv8 => ?_
  refine sg_set (o := (.fz (eI v8))) (asO (.st (.fz (eI v8))) (ev_bin (asO (.st (.fz (eI v7))) (ev_callA (ev_cons (ev_varF (x := eI p_cell) rfl) (ev_cons (ev_c (x := eI 9)) ev_nil)) (as := [eI p_cell, eI (9 : Int)]) rfl (sm__law_mix hv7) (.inl rfl))) (ev_varF (x := eI ((1 : Int) + (v1 % (7 : Int)))) rfl) (t_modG (i := v7) (j := ((1 : Int) + (v1 % (7 : Int)))) hv8))) ?_
  refine sg_assoc ?_
  refine sg_set (o := (.ol (List.map eS ([] : List (List Chr))))) (asO (.st (.ol (List.map eS ([] : List (List Chr))))) (ev_list ev_nil (Nat.le_of_ble_eq_true rfl) rfl)) ?_
  refine sg_assoc ?_
  refine sg_bind fun v9 hv9 => ?_
  refine sg_seq (sg_for (eA := eI) (fun (s1 : (List (List Chr))) (e : VEnv) => ∃ j1 j2 : Option OV, e = [some (.fz (eI p_cell)), some (.fz (eS Tcs_1)), some (.fz (eI ((1 : Int) + (v1 % (7 : Int))))), some (.fz (eS v6)), some (.fz (eI v8)), some (.ol (List.map eS s1)), j1, j2]) (tb := (T__law_names_b1 v6 v8)) (it_range (ev_c (x := eI 6)) hv9) ⟨_, _, rfl⟩ (fun x2 s1 e hE => ?_)) (fun s2 e hE => ?_)
  · obtain ⟨j1, j2, rfl⟩ := hE
    refine ⟨_, rfl, ?_⟩
    unfold T__law_names_b1
    refine sg_one ?_
    refine sg_assoc ?_
    refine sg_bind fun v10 hv10 => ?_
    refine sg_bind fun v11 hv11 => ?_
    refine sg_set (o := (.fz (eC v11))) (asO (.st (.fz (eC v11))) (ev_sub (ev_varF (x := eS Tcs_1) rfl) (asO (.st (.fz (eI (((findC Tcs_1 v10) + ((4 : Int) * x2)) % (26 : Int))))) (ev_bin (asO (.st (.fz (eI ((findC Tcs_1 v10) + ((4 : Int) * x2))))) (ev_bin (asO (.st (.fz (eI (findC Tcs_1 v10)))) (ev_meth (ev_varF (x := eS Tcs_1) rfl) rfl (ev_cons (asO (.st (.fz (eC v10))) (ev_sub (ev_varF (x := eS v6) rfl) (ev_varF (x := eI v8) rfl) rfl (t_atS (s := v6) hv10))) ev_nil) (t_findC (s := Tcs_1) (c := v10)))) (asO (.st (.fz (eI ((4 : Int) * x2)))) (ev_bin (ev_c (x := eI 4)) (ev_varF (x := eI x2) rfl) (e_mul (mulL (by decide))))) e_add)) (ev_c (x := eI 26)) (e_mod (by decide)))) rfl (t_atS (s := Tcs_1) hv11))) ?_
    refine sg_bind fun v12 hv12 => ?_
    refine sg_bind fun v13 hv13 => ?_
    refine sg_bind fun v14 hv14 => ?_
    refine sg_bind fun v15 hv15 => ?_
    refine sg_bind fun v16 hv16 => ?_
    refine sg_appL (e := eS) (xs := s1) (x := v15) rfl (asO (.st (.fz (eS v15))) (ev_frzX (asO (.st (.fz (eS v15))) (ev_bin (asO (.st (.fz (eS v13))) (ev_bin (asO (.st (.fz (eS v12))) (ev_sl (ev_varF (x := eS v6) rfl) ev_pn (ev_ps (ev_varF (x := eI v8) rfl)) (t_slS (s := v6) hv12))) (ev_varF (x := eC v11) rfl) (t_catS (a := v12) (b := [v11]) hv13))) (asO (.st (.fz (eS v14))) (ev_sl (ev_varF (x := eS v6) rfl) (ev_ps (asO (.st (.fz (eI (v8 + (1 : Int))))) (ev_bin (ev_varF (x := eI v8) rfl) (ev_c (x := eI 1)) e_add))) ev_pn (t_slS (s := v6) hv14))) (t_catS (a := v13) (b := v14) hv15))) rfl)) hv16 ?_
    exact sg_nx ⟨_, _, rfl⟩
  · obtain ⟨j3, j4, rfl⟩ := hE
    refine sg_bind fun v17 hv17 => ?_
    refine sg_bind fun v18 hv18 => ?_
    refine sg_bind fun v19 hv19 => ?_
    refine sg_bind fun v20 hv20 => ?_
    exact sg_retS (o := (.ol (List.map eS v20))) (asO (.st (.ol (List.map eS v20))) (ev_bin (ev_varO (o := (.ol (List.map eS s2))) rfl rfl) (asO (.st (.ol (List.map eS ([v19] : List (List Chr))))) (ev_list (ev_cons (asO (.st (.fz (eS v19))) (ev_frzX (asO (.st (.fz (eS v19))) (ev_bin (ev_varF (x := eS v6) rfl) (asO (.st (.fz (eC v18))) (ev_sub (ev_varF (x := eS Tcs_1) rfl) (asO (.st (.fz (eI (v17 % (26 : Int))))) (ev_bin (asO (.st (.fz (eI v17))) (ev_callA (ev_cons (ev_varF (x := eI p_cell) rfl) (ev_cons (ev_c (x := eI 10)) ev_nil)) (as := [eI p_cell, eI (10 : Int)]) rfl (sm__law_mix hv17) (.inl rfl))) (ev_c (x := eI 26)) (e_mod (by decide)))) rfl (t_atS (s := Tcs_1) hv18))) (t_catS (a := v6) (b := [v18]) hv19))) rfl)) ev_nil) (Nat.le_of_ble_eq_true rfl) rfl)) (t_catL (e := eS) (a := s2) (b := ([v19] : List (List Chr))) (.inl rfl) (.inl rfl) hv20))) (fun e => ⟨e, rfl⟩)
noncomputable def T__law_numbers (p_cell : Int) : Option (List Int) :=
  (modG p_cell (((10 : Int) ^ (60 : Nat)) - (1 : Int))).bind fun v1 => some ([v1, (v1 + (1 : Int)), (-v1), (0 : Int), (-(7 : Int))] : List Int)
theorem sm__law_numbers {p_cell : Int} {v : (List Int)} (hv : T__law_numbers p_cell = some v) : m__law_numbers [eI p_cell] = .ok ((oL eI) v) := by
  refine run_sg (O := (oL eI)) (t := T__law_numbers p_cell) ?_ hv
  unfold T__law_numbers D__law_numbers
  refine sg_env (e2 := [some (.fz (eI p_cell)), none]) rfl ?_
  refine sg_one ?_
  refine sg_assoc ?_
  refine sg_bind fun v1 hv1 => ?_
  refine sg_set (o := (.fz (eI v1))) (asO (.st (.fz (eI v1))) (ev_bin (ev_varF (x := eI p_cell) rfl) (asO (.st (.fz (eI (((10 : Int) ^ (60 : Nat)) - (1 : Int))))) (ev_bin (asO (.st (.fz (eI ((10 : Int) ^ (60 : Nat))))) (ev_bin (ev_c (x := eI 10)) (ev_c (x := eI 60)) (t_pow (by decide)))) (ev_c (x := eI 1)) e_sub)) (t_modG (i := p_cell) (j := (((10 : Int) ^ (60 : Nat)) - (1 : Int))) hv1))) ?_
  refine sg_iceS ?_
  refine sg_iceF rfl ?_
  exact sg_retS (o := (.ol (List.map eI ([v1, (v1 + (1 : Int)), (-v1), (0 : Int), (-(7 : Int))] : List Int)))) (asO (.st (.ol (List.map eI ([v1, (v1 + (1 : Int)), (-v1), (0 : Int), (-(7 : Int))] : List Int)))) (ev_list (ev_cons (ev_varF (x := eI v1) rfl) (ev_cons (asO (.st (.fz (eI (v1 + (1 : Int))))) (ev_frzX (asO (.st (.fz (eI (v1 + (1 : Int))))) (ev_bin (ev_varF (x := eI v1) rfl) (ev_c (x := eI 1)) e_add)) rfl)) (ev_cons (asO (.st (.fz (eI (-v1)))) (ev_frzX (asO (.st (.fz (eI (-v1)))) (ev_un (ev_varF (x := eI v1) rfl) t_neg)) rfl)) (ev_cons (ev_c (x := eI 0)) (ev_cons (asO (.st (.fz (eI (-(7 : Int))))) (ev_frzX (asO (.st (.fz (eI (-(7 : Int))))) (ev_un (ev_c (x := eI 7)) t_neg)) rfl)) ev_nil))))) (Nat.le_of_ble_eq_true rfl) rfl)) (fun e => ⟨e, rfl⟩)
noncomputable def T__law_tables_b1 (p_names_here : (List (List Chr))) (p_total : Int) (x1 : Int) (s1 : (List ((List Chr) × (List (List Int))))) : Option (List ((List Chr) × (List (List Int)))) :=
  (atI p_names_here ((x1 + ((3 : Int) * p_total)) % (6 : Int))).bind fun v4 => (putN0 s1 v4 ([] : List (List Int))).bind fun v5 => some v5
noncomputable def T__law_tables_b2 (p_names_here : (List (List Chr))) (p_total : Int) (v1 : (List Int)) (v2 : Int) (s2 : (List ((List Chr) × (List (List Int))))) (x2 : Int) (s3 : (List ((List Chr) × (List (List Int))))) : Option (List ((List Chr) × (List (List Int)))) :=
  (T__law_mix x2 (12 : Int)).bind fun v6 => (modG v6 ((1 : Int) + (v2 % (6 : Int)))).bind fun v7 => (atI (List.map (fun x : (List Chr) × (List (List Int)) => x.1) s2) v7).bind fun v8 => (idxT p_names_here v8).bind fun v9 => (T__law_mix p_total ((20 : Int) + v9)).bind fun v10 => (rangeG ((1 : Int) + (v10 % (4 : Int)))).bind fun v11 => (lcG (fun x3 : Int => some true) (fun x3 => (T__law_mix x2 ((13 : Int) + x3)).bind fun v12 => (atI v1 (v12 % (5 : Int))).bind fun v13 => some v13) v11).bind fun v14 => (lookK s3 v8).bind fun v15 => (if (!(decide (v15 = ([] : List (List Int))))) then (T__law_mix x2 (18 : Int)).bind fun v16 => some (decide ((v16 % (4 : Int)) = (1 : Int))) else some false).bind fun v17 => ((if v17 then (lookK s3 v8).bind fun v18 => (T__law_mix x2 (19 : Int)).bind fun v19 => (lookK s3 v8).bind fun v20 => (modG v19 (v20.length : Int)).bind fun v21 => (atI v18 v21).bind fun v22 => some v22 else some v14) : Option (List Int)).bind fun s4 => (appKG s3 v8 s4).bind fun v23 => some v23
noncomputable def T__law_tables (p_names_here : (List (List Chr))) (p_cells : (List Int)) (p_total : Int) : Option (List ((List Chr) × (List (List Int)))) :=
  (T__law_numbers p_total).bind fun v1 => (T__law_mix p_total (11 : Int)).bind fun v2 => (rangeG ((1 : Int) + (v2 % (6 : Int)))).bind fun v3 => (forT (T__law_tables_b1 p_names_here p_total) v3 ([] : (List ((List Chr) × (List (List Int)))))).bind fun s2 => (forT (T__law_tables_b2 p_names_here p_total v1 v2 s2) p_cells s2).bind fun s5 => (if (!(decide (p_cells = ([] : List Int)))) then (T__law_mix p_total (30 : Int)).bind fun v24 => some (decide ((v24 % (4 : Int)) = (1 : Int))) else some false).bind fun v25 => ((if v25 then (atI p_cells (0 : Int)).bind fun v26 => (T__law_mix v26 (12 : Int)).bind fun v27 => (modG v27 ((1 : Int) + (v2 % (6 : Int)))).bind fun v28 => (atI (List.map (fun x : (List Chr) × (List (List Int)) => x.1) s2) v28).bind fun v29 => (T__law_mix p_total (31 : Int)).bind fun v30 => (lookK s5 v29).bind fun v31 => (modG v30 (v31.length : Int)).bind fun v32 => (lookK s5 v29).bind fun v33 => (atI v33 v32).bind fun v34 => (catG (cutF v34 none (some (3 : Int))) ([(7 : Int), (7 : Int)] : List Int)).bind fun v35 => (putAtKG s5 v29 v32 v35).bind fun v36 => some v36 else some s5) : Option (List ((List Chr) × (List (List Int))))).bind fun s6 => some s6
theorem sm__law_tables {p_names_here : (List (List Chr))} {p_cells : (List Int)} {p_total : Int} {v : (List ((List Chr) × (List (List Int))))} (hv : T__law_tables p_names_here p_cells p_total = some v) : m__law_tables [(eL eS) p_names_here, (eL eI) p_cells, eI p_total] = .ok ((dDe kS (oL (eT eI))) v) := by
  refine run_sg (O := (dDe kS (oL (eT eI)))) (t := T__law_tables p_names_here p_cells p_total) ?_ hv
  unfold T__law_tables D__law_tables
  refine sg_env (e2 := [some (.fz ((eL eS) p_names_here)), some (.fz ((eL eI) p_cells)), some (.fz (eI p_total)), none, none, none, none, none, none, none, none, none, none]) rfl ?_
  refine sg_one ?_
  refine sg_assoc ?_
  refine sg_bind fun v1 hv1 => ?_
  refine sg_set (o := (.ol (List.map eI v1))) (asO (.st (.ol (List.map eI v1))) (ev_callA (ev_cons (ev_varF (x := eI p_total) rfl) ev_nil) (as := [eI p_total]) rfl (sm__law_numbers hv1) (.inl rfl))) ?_
  refine sg_assoc ?_
  refine sg_iceS ?_
  refine sg_ice (o := (.ol (List.map eI v1))) (x := (eL eI) v1) rfl rfl ?_
  refine sg_bind fun v2 hv2 => ?_
  refine sg_set (o := (.fz (eI ((1 : Int) + (v2 % (6 : Int)))))) (asO (.st (.fz (eI ((1 : Int) + (v2 % (6 : Int)))))) (ev_bin (ev_c (x := eI 1)) (asO (.st (.fz (eI (v2 % (6 : Int))))) (ev_bin (asO (.st (.fz (eI v2))) (ev_callA (ev_cons (ev_varF (x := eI p_total) rfl) (ev_cons (ev_c (x := eI 11)) ev_nil)) (as := [eI p_total, eI (11 : Int)]) rfl (sm__law_mix hv2) (.inl rfl))) (ev_c (x := eI 6)) (e_mod (by decide)))) e_add)) ?_
  refine sg_assoc ?_
  refine sg_set (o := (dDe kS (oL (eT eI)) ([] : (List ((List Chr) × (List (List Int))))))) (asO (.st (dDe kS (oL (eT eI)) ([] : (List ((List Chr) × (List (List Int))))))) rfl) ?_
  refine sg_assoc ?_
  refine sg_bind fun v3 hv3 => ?_
  refine sg_seq (sg_for (eA := eI) (fun (s1 : (List ((List Chr) × (List (List Int))))) (e : VEnv) => ∃ j1 : Option OV, e = [some (.fz ((eL eS) p_names_here)), some (.fz ((eL eI) p_cells)), some (.fz (eI p_total)), some (.fz ((eL eI) v1)), some (.fz (eI ((1 : Int) + (v2 % (6 : Int))))), some (dDe kS (oL (eT eI)) s1), j1, none, none, none, none, none, none]) (tb := (T__law_tables_b1 p_names_here p_total)) (it_range (ev_varF (x := eI ((1 : Int) + (v2 % (6 : Int)))) rfl) hv3) ⟨_, rfl⟩ (fun x1 s1 e hE => ?_)) (fun s2 e hE => ?_)
  · obtain ⟨j1, rfl⟩ := hE
    refine ⟨_, rfl, ?_⟩
    unfold T__law_tables_b1
    refine sg_one ?_
    refine sg_bind fun v4 hv4 => ?_
    refine sg_bind fun v5 hv5 => ?_
    refine sg_putDD (kk := kS) (c := eS) (e := (eT eI)) (l := s1) (x := ([] : List (List Int))) (a := v4) ekS rfl (asO (.st (.ol (List.map (eT eI) ([] : List (List Int))))) (ev_list ev_nil (Nat.le_of_ble_eq_true rfl) rfl)) (asO (.st (.fz (eS v4))) (ev_sub (ev_varF (x := (eL eS) p_names_here) rfl) (asO (.st (.fz (eI ((x1 + ((3 : Int) * p_total)) % (6 : Int))))) (ev_bin (asO (.st (.fz (eI (x1 + ((3 : Int) * p_total))))) (ev_bin (ev_varF (x := eI x1) rfl) (asO (.st (.fz (eI ((3 : Int) * p_total)))) (ev_bin (ev_c (x := eI 3)) (ev_varF (x := eI p_total) rfl) (e_mul (mulL (by decide))))) e_add)) (ev_c (x := eI 6)) (e_mod (by decide)))) rfl (t_atL (e := eS) (xs := p_names_here) (.inr (.inl rfl)) hv4))) rfl hv5 ?_
    exact sg_nx ⟨_, rfl⟩
  · obtain ⟨j2, rfl⟩ := hE
    refine sg_assoc ?_
    refine sg_set (o := (.ol (List.map eS (List.map (fun x : (List Chr) × (List (List Int)) => x.1) s2)))) (asO (.st (.ol (List.map eS (List.map (fun x : (List Chr) × (List (List Int)) => x.1) s2)))) (ev_keysLD (kk := kS) (c := eS) (ov := oL (eT eI)) (l := s2) ekS (ev_varO (o := (dDe kS (oL (eT eI)) s2)) rfl dDe_nf) rfl)) ?_
    refine sg_assoc ?_
    refine sg_iceS ?_
    refine sg_ice (o := (.ol (List.map eS (List.map (fun x : (List Chr) × (List (List Int)) => x.1) s2)))) (x := (eL eS) (List.map (fun x : (List Chr) × (List (List Int)) => x.1) s2)) rfl rfl ?_
    refine sg_iceS ?_
    refine sg_iceF rfl ?_
    refine sg_seq (sg_for (eA := eI) (fun (s3 : (List ((List Chr) × (List (List Int))))) (e : VEnv) => ∃ j3 j4 j5 j6 : Option OV, e = [some (.fz ((eL eS) p_names_here)), some (.fz ((eL eI) p_cells)), some (.fz (eI p_total)), some (.fz ((eL eI) v1)), some (.fz (eI ((1 : Int) + (v2 % (6 : Int))))), some (dDe kS (oL (eT eI)) s3), j2, some (.fz ((eL eS) (List.map (fun x : (List Chr) × (List (List Int)) => x.1) s2))), j3, j4, j5, j6, none]) (tb := (T__law_tables_b2 p_names_here p_total v1 v2 s2)) (it_items (e := eI) (xs := p_cells) (.inr (.inl (ev_varF (x := (eL eI) p_cells) rfl)))) ⟨_, _, _, _, rfl⟩ (fun x2 s3 e hE => ?_)) (fun s5 e hE => ?_)
    · obtain ⟨j3, j4, j5, j6, rfl⟩ := hE
      refine ⟨_, rfl, ?_⟩
      unfold T__law_tables_b2
      refine sg_one ?_
      refine sg_assoc ?_
      refine sg_bind fun v6 hv6 => ?_
      refine sg_bind fun v7 hv7 => ?_
      refine sg_bind fun v8 hv8 => ?_
      refine sg_set (o := (.fz (eS v8))) (asO (.st (.fz (eS v8))) (ev_sub (ev_varF (x := (eL eS) (List.map (fun x : (List Chr) × (List (List Int)) => x.1) s2)) rfl) (asO (.st (.fz (eI v7))) (ev_bin (asO (.st (.fz (eI v6))) (ev_callA (ev_cons (ev_varF (x := eI x2) rfl) (ev_cons (ev_c (x := eI 12)) ev_nil)) (as := [eI x2, eI (12 : Int)]) rfl (sm__law_mix hv6) (.inl rfl))) (ev_varF (x := eI ((1 : Int) + (v2 % (6 : Int)))) rfl) (t_modG (i := v6) (j := ((1 : Int) + (v2 % (6 : Int)))) hv7))) rfl (t_atL (e := eS) (xs := (List.map (fun x : (List Chr) × (List (List Int)) => x.1) s2)) (.inr (.inl rfl)) hv8))) ?_
      refine sg_assoc ?_
      refine sg_bind fun v9 hv9 => ?_
      refine sg_bind fun v10 hv10 => ?_
      refine sg_set (o := (.fz (eI ((1 : Int) + (v10 % (4 : Int)))))) (asO (.st (.fz (eI ((1 : Int) + (v10 % (4 : Int)))))) (ev_bin (ev_c (x := eI 1)) (asO (.st (.fz (eI (v10 % (4 : Int))))) (ev_bin (asO (.st (.fz (eI v10))) (ev_callA (ev_cons (ev_varF (x := eI p_total) rfl) (ev_cons (asO (.st (.fz (eI ((20 : Int) + v9)))) (ev_frzX (asO (.st (.fz (eI ((20 : Int) + v9)))) (ev_bin (ev_c (x := eI 20)) (asO (.st (.fz (eI v9))) (ev_idxL (e := eS) (xs := p_names_here) (a := v8) (ev_varF (x := (eL eS) p_names_here) rfl) (ev_cons (ev_varF (x := eS v8) rfl) ev_nil) epS (by decide) (.inr rfl) rfl hv9)) e_add)) rfl)) ev_nil)) (as := [eI p_total, eI ((20 : Int) + v9)]) rfl (sm__law_mix hv10) (.inl rfl))) (ev_c (x := eI 4)) (e_mod (by decide)))) e_add)) ?_
      refine sg_assoc ?_
      refine sg_bind fun v11 hv11 => ?_
      refine sg_bind fun v14 hv14 => ?_
      refine sg_set (o := (.fz ((eT eI) v14))) (asO (.st (.fz ((eT eI) v14))) (ev_callB (ev_cons (asO (.st (.ol (List.map eI v14))) (ev_lc (e := eI) (d := eI) (tc := fun x3 => some true) (te := fun x3 => (T__law_mix x2 ((13 : Int) + x3)).bind fun v12 => (atI v1 (v12 % (5 : Int))).bind fun v13 => some v13) (items := v11) (it_range (ev_varF (x := eI ((1 : Int) + (v10 % (4 : Int)))) rfl) hv11) (fun x3 => ⟨_, rfl, (oe_id rfl), (oe_bind fun v12 hv12 => (oe_bind fun v13 hv13 => (oe_ret (asO (.st (.fz (eI v13))) (ev_frzX (asO (.st (.fz (eI v13))) (ev_sub (ev_varF (x := (eL eI) v1) rfl) (asO (.st (.fz (eI (v12 % (5 : Int))))) (ev_bin (asO (.st (.fz (eI v12))) (ev_callA (ev_cons (ev_varF (x := eI x2) rfl) (ev_cons (asO (.st (.fz (eI ((13 : Int) + x3)))) (ev_frzX (asO (.st (.fz (eI ((13 : Int) + x3)))) (ev_bin (ev_c (x := eI 13)) (ev_varF (x := eI x3) rfl) e_add)) rfl)) ev_nil)) (as := [eI x2, eI ((13 : Int) + x3)]) rfl (sm__law_mix hv12) (.inl rfl))) (ev_c (x := eI 5)) (e_mod (by decide)))) rfl (t_atL (e := eI) (xs := v1) (.inr (.inl rfl)) hv13))) rfl)))))⟩) (.inr puI) hv14)) ev_nil) (t_tup (e := eI) (xs := v14) (.inl rfl)))) ?_
      refine sg_assoc ?_
      refine sg_bind fun v15 hv15 => ?_
      refine sg_bind fun v17 hv17 => ?_
      refine sg_seq (E := (fun (s4 : (List Int)) (e : VEnv) => e = [some (.fz ((eL eS) p_names_here)), some (.fz ((eL eI) p_cells)), some (.fz (eI p_total)), some (.fz ((eL eI) v1)), some (.fz (eI ((1 : Int) + (v2 % (6 : Int))))), some (dDe kS (oL (eT eI)) s3), j2, some (.fz ((eL eS) (List.map (fun x : (List Chr) × (List (List Int)) => x.1) s2))), some (.fz (eI x2)), some (.fz (eS v8)), some (.fz (eI ((1 : Int) + (v10 % (4 : Int))))), some (.fz ((eT eI) s4)), none])) ?_ (fun s4 e hE => ?_)
      · refine sg_if (ev_andO (ev_test (asO (.st (.fz (eB (!(decide (v15 = ([] : List (List Int)))))))) (ev_bin (asO (.bo (.ol (List.map (eT eI) v15))) (ev_sub (ev_varO (o := (dDe kS (oL (eT eI)) s3)) rfl dDe_nf) (ev_varF (x := eS v8) rfl) rfl (dDe_sub (kk := kS) (c := eS) (ov := oL (eT eI)) (l := s3) (a := v8) ekS rfl hv15))) (asO (.st (.ol (List.map (eT eI) ([] : List (List Int))))) (ev_list ev_nil (Nat.le_of_ble_eq_true rfl) rfl)) (t_ne (e := (eL (eT eI))) (a := v15) (b := ([] : List (List Int))) (epL (epT epI)) (by decide) rfl rfl)))) (fun _ => (oe_bind fun v16 hv16 => (oe_id (ev_test (asO (.st (.fz (eB (decide ((v16 % (4 : Int)) = (1 : Int)))))) (ev_bin (asO (.st (.fz (eI (v16 % (4 : Int))))) (ev_bin (asO (.st (.fz (eI v16))) (ev_callA (ev_cons (ev_varF (x := eI x2) rfl) (ev_cons (ev_c (x := eI 18)) ev_nil)) (as := [eI x2, eI (18 : Int)]) rfl (sm__law_mix hv16) (.inl rfl))) (ev_c (x := eI 4)) (e_mod (by decide)))) (ev_c (x := eI 1)) (t_eq (e := eI) (a := (v16 % (4 : Int))) (b := (1 : Int)) epI (by decide) rfl rfl))))))) hv17) (fun _ => ?_) (fun _ => ?_)
        · refine sg_one ?_
          refine sg_bind fun v18 hv18 => ?_
          refine sg_bind fun v19 hv19 => ?_
          refine sg_bind fun v20 hv20 => ?_
          refine sg_bind fun v21 hv21 => ?_
          refine sg_bind fun v22 hv22 => ?_
          refine sg_set (o := (.fz ((eT eI) v22))) (asO (.st (.fz ((eT eI) v22))) (ev_sub (asO (.bo (.ol (List.map (eT eI) v18))) (ev_sub (ev_varO (o := (dDe kS (oL (eT eI)) s3)) rfl dDe_nf) (ev_varF (x := eS v8) rfl) rfl (dDe_sub (kk := kS) (c := eS) (ov := oL (eT eI)) (l := s3) (a := v8) ekS rfl hv18))) (asO (.st (.fz (eI v21))) (ev_bin (asO (.st (.fz (eI v19))) (ev_callA (ev_cons (ev_varF (x := eI x2) rfl) (ev_cons (ev_c (x := eI 19)) ev_nil)) (as := [eI x2, eI (19 : Int)]) rfl (sm__law_mix hv19) (.inl rfl))) (asO (.st (.fz (eI (v20.length : Int)))) (ev_callB (ev_cons (asO (.bo (.ol (List.map (eT eI) v20))) (ev_sub (ev_varO (o := (dDe kS (oL (eT eI)) s3)) rfl dDe_nf) (ev_varF (x := eS v8) rfl) rfl (dDe_sub (kk := kS) (c := eS) (ov := oL (eT eI)) (l := s3) (a := v8) ekS rfl hv20))) ev_nil) (t_lenL (e := (eT eI)) (xs := v20) (.inl rfl)))) (t_modG (i := v19) (j := (v20.length : Int)) hv21))) rfl (t_atL (e := (eT eI)) (xs := v18) (.inl rfl) hv22))) ?_
          exact sg_nx rfl
        · refine sg_one ?_
          refine sg_skip ?_
          exact sg_nx rfl
      · subst hE
        refine sg_iceS ?_
        refine sg_iceF rfl ?_
        refine sg_bind fun v23 hv23 => ?_
        refine sg_appDD (kk := kS) (c := eS) (e := (eT eI)) (l := s3) (a := v8) (x := s4) ekS rfl (ev_varF (x := eS v8) rfl) rfl (ev_varF (x := (eT eI) s4) rfl) hv23 ?_
        exact sg_nx ⟨_, _, _, _, rfl⟩
    · obtain ⟨j7, j8, j9, j10, rfl⟩ := hE
      refine sg_assoc ?_
      refine sg_bind fun v25 hv25 => ?_
      refine sg_seq (E := (fun (s6 : (List ((List Chr) × (List (List Int))))) (e : VEnv) => ∃ j11 j12 : Option OV, e = [some (.fz ((eL eS) p_names_here)), some (.fz ((eL eI) p_cells)), some (.fz (eI p_total)), some (.fz ((eL eI) v1)), some (.fz (eI ((1 : Int) + (v2 % (6 : Int))))), some (dDe kS (oL (eT eI)) s6), j2, some (.fz ((eL eS) (List.map (fun x : (List Chr) × (List (List Int)) => x.1) s2))), j7, j11, j9, j10, j12])) ?_ (fun s6 e hE => ?_)
      · refine sg_if (ev_andO (ev_test (asO (.st (.fz (eB (!(decide (p_cells = ([] : List Int))))))) (ev_bin (ev_varF (x := (eL eI) p_cells) rfl) (asO (.st (.ol (List.map eI ([] : List Int)))) (ev_list ev_nil (Nat.le_of_ble_eq_true rfl) rfl)) (t_ne (e := (eL eI)) (a := p_cells) (b := ([] : List Int)) (epL epI) (by decide) rfl rfl)))) (fun _ => (oe_bind fun v24 hv24 => (oe_id (ev_test (asO (.st (.fz (eB (decide ((v24 % (4 : Int)) = (1 : Int)))))) (ev_bin (asO (.st (.fz (eI (v24 % (4 : Int))))) (ev_bin (asO (.st (.fz (eI v24))) (ev_callA (ev_cons (ev_varF (x := eI p_total) rfl) (ev_cons (ev_c (x := eI 30)) ev_nil)) (as := [eI p_total, eI (30 : Int)]) rfl (sm__law_mix hv24) (.inl rfl))) (ev_c (x := eI 4)) (e_mod (by decide)))) (ev_c (x := eI 1)) (t_eq (e := eI) (a := (v24 % (4 : Int))) (b := (1 : Int)) epI (by decide) rfl rfl))))))) hv25) (fun _ => ?_) (fun _ => ?_)
        · refine sg_one ?_
          refine sg_assoc ?_
          refine sg_bind fun v26 hv26 => ?_
          refine sg_bind fun v27 hv27 => ?_
          refine sg_bind fun v28 hv28 => ?_
          refine sg_bind fun v29 hv29 => ?_
          refine sg_set (o := (.fz (eS v29))) (asO (.st (.fz (eS v29))) (ev_sub (ev_varF (x := (eL eS) (List.map (fun x : (List Chr) × (List (List Int)) => x.1) s2)) rfl) (asO (.st (.fz (eI v28))) (ev_bin (asO (.st (.fz (eI v27))) (ev_callA (ev_cons (asO (.st (.fz (eI v26))) (ev_frzX (asO (.st (.fz (eI v26))) (ev_sub (ev_varF (x := (eL eI) p_cells) rfl) (ev_c (x := eI 0)) rfl (t_atL (e := eI) (xs := p_cells) (.inr (.inl rfl)) hv26))) rfl)) (ev_cons (ev_c (x := eI 12)) ev_nil)) (as := [eI v26, eI (12 : Int)]) rfl (sm__law_mix hv27) (.inl rfl))) (ev_varF (x := eI ((1 : Int) + (v2 % (6 : Int)))) rfl) (t_modG (i := v27) (j := ((1 : Int) + (v2 % (6 : Int)))) hv28))) rfl (t_atL (e := eS) (xs := (List.map (fun x : (List Chr) × (List (List Int)) => x.1) s2)) (.inr (.inl rfl)) hv29))) ?_
          refine sg_assoc ?_
          refine sg_bind fun v30 hv30 => ?_
          refine sg_bind fun v31 hv31 => ?_
          refine sg_bind fun v32 hv32 => ?_
          refine sg_set (o := (.fz (eI v32))) (asO (.st (.fz (eI v32))) (ev_bin (asO (.st (.fz (eI v30))) (ev_callA (ev_cons (ev_varF (x := eI p_total) rfl) (ev_cons (ev_c (x := eI 31)) ev_nil)) (as := [eI p_total, eI (31 : Int)]) rfl (sm__law_mix hv30) (.inl rfl))) (asO (.st (.fz (eI (v31.length : Int)))) (ev_callB (ev_cons (asO (.bo (.ol (List.map (eT eI) v31))) (ev_sub (ev_varO (o := (dDe kS (oL (eT eI)) s5)) rfl dDe_nf) (ev_varF (x := eS v29) rfl) rfl (dDe_sub (kk := kS) (c := eS) (ov := oL (eT eI)) (l := s5) (a := v29) ekS rfl hv31))) ev_nil) (t_lenL (e := (eT eI)) (xs := v31) (.inl rfl)))) (t_modG (i := v30) (j := (v31.length : Int)) hv32))) ?_
          refine sg_bind fun v33 hv33 => ?_
          refine sg_bind fun v34 hv34 => ?_
          refine sg_bind fun v35 hv35 => ?_
          refine sg_bind fun v36 hv36 => ?_
          refine sg_putAtDD (kk := kS) (c := eS) (e := (eT eI)) (l := s5) (a := v29) (x := v35) (j := v32) ekS rfl (asO (.st (.fz ((eT eI) v35))) (ev_frzX (asO (.st (.fz ((eT eI) v35))) (ev_bin (asO (.st (.fz ((eT eI) (cutF v34 none (some (3 : Int)))))) (ev_sl (asO (.st (.fz ((eT eI) v34))) (ev_sub (asO (.bo (.ol (List.map (eT eI) v33))) (ev_sub (ev_varO (o := (dDe kS (oL (eT eI)) s5)) rfl dDe_nf) (ev_varF (x := eS v29) rfl) rfl (dDe_sub (kk := kS) (c := eS) (ov := oL (eT eI)) (l := s5) (a := v29) ekS rfl hv33))) (ev_varF (x := eI v32) rfl) rfl (t_atL (e := (eT eI)) (xs := v33) (.inl rfl) hv34))) ev_pn (ev_ps (ev_c (x := eI 3))) (t_slT (e := eI) (xs := v34)))) (asO (.st (.fz ((eT eI) ([(7 : Int), (7 : Int)] : List Int)))) (ev_tup (ev_cons (ev_c (x := eI 7)) (ev_cons (ev_c (x := eI 7)) ev_nil)) (Nat.le_of_ble_eq_true rfl) rfl)) (t_catT (e := eI) (a := (cutF v34 none (some (3 : Int)))) (b := ([(7 : Int), (7 : Int)] : List Int)) hv35))) rfl)) (ev_varF (x := eS v29) rfl) rfl (ev_varF (x := eI v32) rfl) rfl hv36 ?_
          exact sg_nx ⟨_, _, rfl⟩
        · refine sg_one ?_
          refine sg_skip ?_
          exact sg_nx ⟨_, _, rfl⟩
      · obtain ⟨j11, j12, rfl⟩ := hE
        exact sg_retVS (o := (dDe kS (oL (eT eI)) s6)) rfl (fun e => ⟨e, rfl⟩)
noncomputable def T__law_question_b1 (p_names_here : (List (List Chr))) (p_tables_here : (List ((List Chr) × (List (List Int))))) (p_total : Int) (x1 : Int) (s1 : (List ((List Chr) × (List Chr)))) : Option (List ((List Chr) × (List Chr))) :=
  (T__law_mix p_total ((33 : Int) + x1)).bind fun v3 => (modG v3 ((List.map (fun x : (List Chr) × (List (List Int)) => x.1) p_tables_here).length : Int)).bind fun v4 => (atI (List.map (fun x : (List Chr) × (List (List Int)) => x.1) p_tables_here) v4).bind fun v5 => (idxT p_names_here v5).bind fun v6 => (T__law_mix p_total ((20 : Int) + v6)).bind fun v7 => (T__law_mix p_total (40 : Int)).bind fun v8 => (if (decide ((v8 % (4 : Int)) = (1 : Int))) then (T__law_mix p_total (41 : Int)).bind fun v9 => some (decide ((v9 % (6 : Int)) = x1)) else some false).bind fun v10 => ((if v10 then some ((1 : Int) + (((1 : Int) + (v7 % (4 : Int))) % (4 : Int))) else some ((1 : Int) + (v7 % (4 : Int)))) : Option Int).bind fun s2 => (T__law_mix p_total (42 : Int)).bind fun v11 => (if (decide ((v11 % (4 : Int)) = (1 : Int))) then (T__law_mix p_total (43 : Int)).bind fun v12 => some (decide ((v12 % (6 : Int)) = x1)) else some false).bind fun v13 => ((if v13 then (atI p_names_here (6 : Int)).bind fun v14 => some v14 else some v5) : Option (List Chr)).bind fun s3 => (cutSG Tcs_3 none (some s2)).bind fun v15 => (listS v15).bind fun v16 => (appG s1 (s3, v16)).bind fun v17 => some v17
noncomputable def T__law_question (p_names_here : (List (List Chr))) (p_tables_here : (List ((List Chr) × (List (List Int))))) (p_total : Int) : Option (List ((List Chr) × (List Chr))) :=
  (T__law_mix p_total (32 : Int)).bind fun v1 => (rangeG ((1 : Int) + (v1 % (6 : Int)))).bind fun v2 => (forT (T__law_question_b1 p_names_here p_tables_here p_total) v2 ([] : List ((List Chr) × (List Chr)))).bind fun s4 => some s4
theorem sm__law_question {p_names_here : (List (List Chr))} {p_tables_here : (List ((List Chr) × (List (List Int))))} {p_total : Int} {v : (List ((List Chr) × (List Chr)))} (hv : T__law_question p_names_here p_tables_here p_total = some v) : m__law_question [(eL eS) p_names_here, (eK kS (eL (eT eI))) p_tables_here, eI p_total] = .ok ((oL (eP eS (eT eC))) v) := by
  refine run_sg (O := (oL (eP eS (eT eC)))) (t := T__law_question p_names_here p_tables_here p_total) ?_ hv
  unfold T__law_question D__law_question
  refine sg_env (e2 := [some (.fz ((eL eS) p_names_here)), some (.fz ((eK kS (eL (eT eI))) p_tables_here)), some (.fz (eI p_total)), none, none, none, none, none]) rfl ?_
  refine sg_one ?_
  refine sg_assoc ?_
  refine sg_set (o := (.ol (List.map eS (List.map (fun x : (List Chr) × (List (List Int)) => x.1) p_tables_here)))) (asO (.st (.ol (List.map eS (List.map (fun x : (List Chr) × (List (List Int)) => x.1) p_tables_here)))) (ev_keysL (k := kS) (e := (eL (eT eI))) (l := p_tables_here) ekS (ev_varF (x := (eK kS (eL (eT eI))) p_tables_here) rfl) (.inr rfl))) ?_
  refine sg_assoc ?_
  refine sg_iceS ?_
  refine sg_ice (o := (.ol (List.map eS (List.map (fun x : (List Chr) × (List (List Int)) => x.1) p_tables_here)))) (x := (eL eS) (List.map (fun x : (List Chr) × (List (List Int)) => x.1) p_tables_here)) rfl rfl ?_
  refine sg_set (o := (.ol (List.map (eP eS (eT eC)) ([] : List ((List Chr) × (List Chr)))))) (asO (.st (.ol (List.map (eP eS (eT eC)) ([] : List ((List Chr) × (List Chr)))))) (ev_list ev_nil (Nat.le_of_ble_eq_true rfl) rfl)) ?_
  refine sg_assoc ?_
  refine sg_bind fun v1 hv1 => ?_
  refine sg_bind fun v2 hv2 => ?_
  refine sg_seq (sg_for (eA := eI) (fun (s1 : (List ((List Chr) × (List Chr)))) (e : VEnv) => ∃ j1 j2 j3 : Option OV, e = [some (.fz ((eL eS) p_names_here)), some (.fz ((eK kS (eL (eT eI))) p_tables_here)), some (.fz (eI p_total)), some (.fz ((eL eS) (List.map (fun x : (List Chr) × (List (List Int)) => x.1) p_tables_here))), some (.ol (List.map (eP eS (eT eC)) s1)), j1, j2, j3]) (tb := (T__law_question_b1 p_names_here p_tables_here p_total)) (it_range (asO (.st (.fz (eI ((1 : Int) + (v1 % (6 : Int)))))) (ev_bin (ev_c (x := eI 1)) (asO (.st (.fz (eI (v1 % (6 : Int))))) (ev_bin (asO (.st (.fz (eI v1))) (ev_callA (ev_cons (ev_varF (x := eI p_total) rfl) (ev_cons (ev_c (x := eI 32)) ev_nil)) (as := [eI p_total, eI (32 : Int)]) rfl (sm__law_mix hv1) (.inl rfl))) (ev_c (x := eI 6)) (e_mod (by decide)))) e_add)) hv2) ⟨_, _, _, rfl⟩ (fun x1 s1 e hE => ?_)) (fun s4 e hE => ?_)
  · obtain ⟨j1, j2, j3, rfl⟩ := hE
    refine ⟨_, rfl, ?_⟩
    unfold T__law_question_b1
    refine sg_one ?_
    refine sg_assoc ?_
    refine sg_bind fun v3 hv3 => ?_
    refine sg_bind fun v4 hv4 => ?_
    refine sg_bind fun v5 hv5 => ?_
    refine sg_set (o := (.fz (eS v5))) (asO (.st (.fz (eS v5))) (ev_sub (ev_varF (x := (eL eS) (List.map (fun x : (List Chr) × (List (List Int)) => x.1) p_tables_here)) rfl) (asO (.st (.fz (eI v4))) (ev_bin (asO (.st (.fz (eI v3))) (ev_callA (ev_cons (ev_varF (x := eI p_total) rfl) (ev_cons (asO (.st (.fz (eI ((33 : Int) + x1)))) (ev_frzX (asO (.st (.fz (eI ((33 : Int) + x1)))) (ev_bin (ev_c (x := eI 33)) (ev_varF (x := eI x1) rfl) e_add)) rfl)) ev_nil)) (as := [eI p_total, eI ((33 : Int) + x1)]) rfl (sm__law_mix hv3) (.inl rfl))) (asO (.st (.fz (eI ((List.map (fun x : (List Chr) × (List (List Int)) => x.1) p_tables_here).length : Int)))) (ev_callB (ev_cons (ev_varF (x := (eL eS) (List.map (fun x : (List Chr) × (List (List Int)) => x.1) p_tables_here)) rfl) ev_nil) (t_lenL (e := eS) (xs := (List.map (fun x : (List Chr) × (List (List Int)) => x.1) p_tables_here)) (.inr (.inl rfl))))) (t_modG (i := v3) (j := ((List.map (fun x : (List Chr) × (List (List Int)) => x.1) p_tables_here).length : Int)) hv4))) rfl (t_atL (e := eS) (xs := (List.map (fun x : (List Chr) × (List (List Int)) => x.1) p_tables_here)) (.inr (.inl rfl)) hv5))) ?_
    refine sg_assoc ?_
    refine sg_bind fun v6 hv6 => ?_
    refine sg_bind fun v7 hv7 => ?_
    refine sg_set (o := (.fz (eI ((1 : Int) + (v7 % (4 : Int)))))) (asO (.st (.fz (eI ((1 : Int) + (v7 % (4 : Int)))))) (ev_bin (ev_c (x := eI 1)) (asO (.st (.fz (eI (v7 % (4 : Int))))) (ev_bin (asO (.st (.fz (eI v7))) (ev_callA (ev_cons (ev_varF (x := eI p_total) rfl) (ev_cons (asO (.st (.fz (eI ((20 : Int) + v6)))) (ev_frzX (asO (.st (.fz (eI ((20 : Int) + v6)))) (ev_bin (ev_c (x := eI 20)) (asO (.st (.fz (eI v6))) (ev_idxL (e := eS) (xs := p_names_here) (a := v5) (ev_varF (x := (eL eS) p_names_here) rfl) (ev_cons (ev_varF (x := eS v5) rfl) ev_nil) epS (by decide) (.inr rfl) rfl hv6)) e_add)) rfl)) ev_nil)) (as := [eI p_total, eI ((20 : Int) + v6)]) rfl (sm__law_mix hv7) (.inl rfl))) (ev_c (x := eI 4)) (e_mod (by decide)))) e_add)) ?_
    refine sg_assoc ?_
    refine sg_bind fun v8 hv8 => ?_
    refine sg_bind fun v10 hv10 => ?_
    refine sg_seq (E := (fun (s2 : Int) (e : VEnv) => e = [some (.fz ((eL eS) p_names_here)), some (.fz ((eK kS (eL (eT eI))) p_tables_here)), some (.fz (eI p_total)), some (.fz ((eL eS) (List.map (fun x : (List Chr) × (List (List Int)) => x.1) p_tables_here))), some (.ol (List.map (eP eS (eT eC)) s1)), some (.fz (eI x1)), some (.fz (eS v5)), some (.fz (eI s2))])) ?_ (fun s2 e hE => ?_)
    · refine sg_if (ev_andO (ev_test (asO (.st (.fz (eB (decide ((v8 % (4 : Int)) = (1 : Int)))))) (ev_bin (asO (.st (.fz (eI (v8 % (4 : Int))))) (ev_bin (asO (.st (.fz (eI v8))) (ev_callA (ev_cons (ev_varF (x := eI p_total) rfl) (ev_cons (ev_c (x := eI 40)) ev_nil)) (as := [eI p_total, eI (40 : Int)]) rfl (sm__law_mix hv8) (.inl rfl))) (ev_c (x := eI 4)) (e_mod (by decide)))) (ev_c (x := eI 1)) (t_eq (e := eI) (a := (v8 % (4 : Int))) (b := (1 : Int)) epI (by decide) rfl rfl)))) (fun _ => (oe_bind fun v9 hv9 => (oe_id (ev_test (asO (.st (.fz (eB (decide ((v9 % (6 : Int)) = x1))))) (ev_bin (asO (.st (.fz (eI (v9 % (6 : Int))))) (ev_bin (asO (.st (.fz (eI v9))) (ev_callA (ev_cons (ev_varF (x := eI p_total) rfl) (ev_cons (ev_c (x := eI 41)) ev_nil)) (as := [eI p_total, eI (41 : Int)]) rfl (sm__law_mix hv9) (.inl rfl))) (ev_c (x := eI 6)) (e_mod (by decide)))) (ev_varF (x := eI x1) rfl) (t_eq (e := eI) (a := (v9 % (6 : Int))) (b := x1) epI (by decide) rfl rfl))))))) hv10) (fun _ => ?_) (fun _ => ?_)
      · refine sg_one ?_
        refine sg_set (o := (.fz (eI ((1 : Int) + (((1 : Int) + (v7 % (4 : Int))) % (4 : Int)))))) (asO (.st (.fz (eI ((1 : Int) + (((1 : Int) + (v7 % (4 : Int))) % (4 : Int)))))) (ev_bin (ev_c (x := eI 1)) (asO (.st (.fz (eI (((1 : Int) + (v7 % (4 : Int))) % (4 : Int))))) (ev_bin (ev_varF (x := eI ((1 : Int) + (v7 % (4 : Int)))) rfl) (ev_c (x := eI 4)) (e_mod (by decide)))) e_add)) ?_
        exact sg_nx rfl
      · refine sg_one ?_
        refine sg_skip ?_
        exact sg_nx rfl
    · subst hE
      refine sg_assoc ?_
      refine sg_bind fun v11 hv11 => ?_
      refine sg_bind fun v13 hv13 => ?_
      refine sg_seq (E := (fun (s3 : (List Chr)) (e : VEnv) => e = [some (.fz ((eL eS) p_names_here)), some (.fz ((eK kS (eL (eT eI))) p_tables_here)), some (.fz (eI p_total)), some (.fz ((eL eS) (List.map (fun x : (List Chr) × (List (List Int)) => x.1) p_tables_here))), some (.ol (List.map (eP eS (eT eC)) s1)), some (.fz (eI x1)), some (.fz (eS s3)), some (.fz (eI s2))])) ?_ (fun s3 e hE => ?_)
      · refine sg_if (ev_andO (ev_test (asO (.st (.fz (eB (decide ((v11 % (4 : Int)) = (1 : Int)))))) (ev_bin (asO (.st (.fz (eI (v11 % (4 : Int))))) (ev_bin (asO (.st (.fz (eI v11))) (ev_callA (ev_cons (ev_varF (x := eI p_total) rfl) (ev_cons (ev_c (x := eI 42)) ev_nil)) (as := [eI p_total, eI (42 : Int)]) rfl (sm__law_mix hv11) (.inl rfl))) (ev_c (x := eI 4)) (e_mod (by decide)))) (ev_c (x := eI 1)) (t_eq (e := eI) (a := (v11 % (4 : Int))) (b := (1 : Int)) epI (by decide) rfl rfl)))) (fun _ => (oe_bind fun v12 hv12 => (oe_id (ev_test (asO (.st (.fz (eB (decide ((v12 % (6 : Int)) = x1))))) (ev_bin (asO (.st (.fz (eI (v12 % (6 : Int))))) (ev_bin (asO (.st (.fz (eI v12))) (ev_callA (ev_cons (ev_varF (x := eI p_total) rfl) (ev_cons (ev_c (x := eI 43)) ev_nil)) (as := [eI p_total, eI (43 : Int)]) rfl (sm__law_mix hv12) (.inl rfl))) (ev_c (x := eI 6)) (e_mod (by decide)))) (ev_varF (x := eI x1) rfl) (t_eq (e := eI) (a := (v12 % (6 : Int))) (b := x1) epI (by decide) rfl rfl))))))) hv13) (fun _ => ?_) (fun _ => ?_)
        · refine sg_one ?_
          refine sg_bind fun v14 hv14 => ?_
          refine sg_set (o := (.fz (eS v14))) (asO (.st (.fz (eS v14))) (ev_sub (ev_varF (x := (eL eS) p_names_here) rfl) (ev_c (x := eI 6)) rfl (t_atL (e := eS) (xs := p_names_here) (.inr (.inl rfl)) hv14))) ?_
          exact sg_nx rfl
        · refine sg_one ?_
          refine sg_skip ?_
          exact sg_nx rfl
      · subst hE
        refine sg_iceS ?_
        refine sg_iceF rfl ?_
        refine sg_bind fun v15 hv15 => ?_
        refine sg_bind fun v16 hv16 => ?_
        refine sg_bind fun v17 hv17 => ?_
        refine sg_appL (e := (eP eS (eT eC))) (xs := s1) (x := (s3, v16)) rfl (asO (.st (.fz ((eP eS (eT eC)) (s3, v16)))) (ev_frzX (asO (.st (.fz ((eP eS (eT eC)) (s3, v16)))) (ev_tup (ev_cons (ev_varF (x := eS s3) rfl) (ev_cons (asO (.st (.fz ((eT eC) v16))) (ev_frzX (asO (.st (.fz ((eT eC) v16))) (ev_callB (ev_cons (asO (.st (.fz (eS v15))) (ev_sl (ev_cs cs_3) ev_pn (ev_ps (ev_varF (x := eI s2) rfl)) (t_slS (s := Tcs_3) hv15))) ev_nil) (t_tupS (s := v15) hv16))) rfl)) ev_nil)) (Nat.le_of_ble_eq_true rfl) rfl)) rfl)) hv17 ?_
        exact sg_nx ⟨_, _, _, rfl⟩
  · obtain ⟨j4, j5, j6, rfl⟩ := hE
    exact sg_retVS (o := (.ol (List.map (eP eS (eT eC)) s4))) rfl (fun e => ⟨e, rfl⟩)
noncomputable def T__law_due_b1 (x1 : ((List Chr) × (List Chr))) (x2 : (List Int)) (s2 : (List (List Int))) : Option (Ctl (List (List Int)) (Int ⊕ (List (List (List Int))))) :=
  (if (!(decide ((x2.length : Int) = (x1.2.length : Int)))) then some (.rt (Sum.inl (2 : Int) : (Int ⊕ (List (List (List Int)))))) else (if (!(decide (x2 ∈ s2))) then (appG s2 x2).bind fun v3 => some (.nx v3) else some (.nx s2)))
noncomputable def T__law_due_b2 (p_tables_here : (List ((List Chr) × (List (List Int))))) (x1 : ((List Chr) × (List Chr))) (s1 : (List (List (List Int)))) : Option (Ctl (List (List (List Int))) (Int ⊕ (List (List (List Int))))) :=
  (if (!(lookK p_tables_here x1.1).isSome) then some (.rt (Sum.inl (1 : Int) : (Int ⊕ (List (List (List Int)))))) else (lookK p_tables_here x1.1).bind fun v1 => (srt (eT eI) v1).bind fun v2 => ((forC (T__law_due_b1 x1) v2 ([] : List (List Int)))).bind (behind (fun r => (.rt r)) fun s3 => (appG s1 s3).bind fun v4 => some (.nx v4)))
noncomputable def T__law_due (p_tables_here : (List ((List Chr) × (List (List Int))))) (p_question_here : (List ((List Chr) × (List Chr)))) : Option (Int ⊕ (List (List (List Int)))) :=
  ((forC (T__law_due_b2 p_tables_here) p_question_here ([] : List (List (List Int))))).bind (behind (fun r => r) fun s4 => some (Sum.inr s4 : (Int ⊕ (List (List (List Int))))))
theorem sm__law_due {p_tables_here : (List ((List Chr) × (List (List Int))))} {p_question_here : (List ((List Chr) × (List Chr)))} {v : (Int ⊕ (List (List (List Int))))} (hv : T__law_due p_tables_here p_question_here = some v) : m__law_due [(eK kS (eL (eT eI))) p_tables_here, (eL (eP eS (eT eC))) p_question_here] = .ok ((oF (eV eI (eL (eL (eT eI))))) v) := by
  refine run_sg (O := (oF (eV eI (eL (eL (eT eI)))))) (t := T__law_due p_tables_here p_question_here) ?_ hv
  unfold T__law_due D__law_due
  refine sg_env (e2 := [some (.fz ((eK kS (eL (eT eI))) p_tables_here)), some (.fz ((eL (eP eS (eT eC))) p_question_here)), none, none, none, none, none]) rfl ?_
  refine sg_one ?_
  refine sg_assoc ?_
  refine sg_set (o := (.ol (List.map (eL (eT eI)) ([] : List (List (List Int)))))) (asO (.st (.ol (List.map (eL (eT eI)) ([] : List (List (List Int)))))) (ev_list ev_nil (Nat.le_of_ble_eq_true rfl) rfl)) ?_
  refine sg_assoc ?_
  refine sg_iceS ?_
  refine sg_iceF rfl ?_
  refine sg_seqL (sg_forC (eA := (eP eS (eT eC))) (fun (s1 : (List (List (List Int)))) (e : VEnv) => ∃ j1 j2 j3 j4 : Option OV, e = [some (.fz ((eK kS (eL (eT eI))) p_tables_here)), some (.fz ((eL (eP eS (eT eC))) p_question_here)), some (.ol (List.map (eL (eT eI)) s1)), j1, j2, j3, j4]) (fun (s1 : (List (List (List Int)))) (e : VEnv) => ∃ j1 j2 j3 j4 : Option OV, e = [some (.fz ((eK kS (eL (eT eI))) p_tables_here)), some (.fz ((eL (eP eS (eT eC))) p_question_here)), some (.ol (List.map (eL (eT eI)) s1)), j1, j2, j3, j4]) ((oF (eV eI (eL (eL (eT eI)))))) (tb := (T__law_due_b2 p_tables_here)) (it_items (e := (eP eS (eT eC))) (xs := p_question_here) (.inr (.inl (ev_varF (x := (eL (eP eS (eT eC))) p_question_here) rfl)))) ⟨_, _, _, _, rfl⟩ (fun _ _ h => h) (fun x1 s1 e hE => ?_)) (fun r e => ⟨e, rfl⟩) (fun s4 e hE => ?_)
  · obtain ⟨j1, j2, j3, j4, rfl⟩ := hE
    refine ⟨_, rfl, ?_⟩
    unfold T__law_due_b2
    refine sg_one ?_
    refine sg_assoc ?_
    refine sg_ifs (ev_test (asO (.st (.fz (eB (!(lookK p_tables_here x1.1).isSome)))) (ev_bin (ev_varF (x := eS x1.1) rfl) (ev_varF (x := (eK kS (eL (eT eI))) p_tables_here) rfl) (t_ninK (k := kS) (e := (eL (eT eI))) (l := p_tables_here) (a := x1.1) ekS (.inr rfl))))) (fun _ => ?_) (fun _ => ?_)
    · exact sg_retS (o := (.fz ((eV eI (eL (eL (eT eI)))) (Sum.inl (1 : Int) : (Int ⊕ (List (List (List Int)))))))) (asO (.st (.fz (eI (1 : Int)))) (ev_frzX (ev_c (x := eI 1)) rfl)) (fun e => ⟨e, rfl⟩)
    · refine sg_skip ?_
      refine sg_assoc ?_
      refine sg_set (o := (.ol (List.map (eT eI) ([] : List (List Int))))) (asO (.st (.ol (List.map (eT eI) ([] : List (List Int))))) (ev_list ev_nil (Nat.le_of_ble_eq_true rfl) rfl)) ?_
      refine sg_assoc ?_
      refine sg_bind fun v1 hv1 => ?_
      refine sg_bind fun v2 hv2 => ?_
      refine sg_seqL (sg_forC (eA := (eT eI)) (fun (s2 : (List (List Int))) (e : VEnv) => ∃ j5 : Option OV, e = [some (.fz ((eK kS (eL (eT eI))) p_tables_here)), some (.fz ((eL (eP eS (eT eC))) p_question_here)), some (.ol (List.map (eL (eT eI)) s1)), some (.fz (eS x1.1)), some (.fz ((eT eC) x1.2)), some (.ol (List.map (eT eI) s2)), j5]) (fun (s2 : (List (List Int))) (e : VEnv) => ∃ j5 : Option OV, e = [some (.fz ((eK kS (eL (eT eI))) p_tables_here)), some (.fz ((eL (eP eS (eT eC))) p_question_here)), some (.ol (List.map (eL (eT eI)) s1)), some (.fz (eS x1.1)), some (.fz ((eT eC) x1.2)), some (.ol (List.map (eT eI) s2)), j5]) ((oF (eV eI (eL (eL (eT eI)))))) (tb := (T__law_due_b1 x1)) (it_items (e := (eT eI)) (xs := v2) (.inl (asO (.st (.ol (List.map (eT eI) v2))) (ev_callB (ev_cons (asO (.st (.fz ((eL (eT eI)) v1))) (ev_sub (ev_varF (x := (eK kS (eL (eT eI))) p_tables_here) rfl) (ev_varF (x := eS x1.1) rfl) rfl (t_subK (k := kS) (e := (eL (eT eI))) (l := p_tables_here) (a := x1.1) ekS (.inr rfl) hv1))) ev_nil) (t_sort (e := (eT eI)) (xs := v1) (.inr rfl) hv2))))) ⟨_, rfl⟩ (fun _ _ h => h) (fun x2 s2 e hE => ?_)) (fun r e => ⟨e, rfl⟩) (fun s3 e hE => ?_)
      · obtain ⟨j5, rfl⟩ := hE
        refine ⟨_, rfl, ?_⟩
        unfold T__law_due_b1
        refine sg_one ?_
        refine sg_assoc ?_
        refine sg_ifs (ev_test (asO (.st (.fz (eB (!(decide ((x2.length : Int) = (x1.2.length : Int))))))) (ev_bin (asO (.st (.fz (eI (x2.length : Int)))) (ev_callB (ev_cons (ev_varF (x := (eT eI) x2) rfl) ev_nil) (t_lenL (e := eI) (xs := x2) (.inr (.inr rfl))))) (asO (.st (.fz (eI (x1.2.length : Int)))) (ev_callB (ev_cons (ev_varF (x := (eT eC) x1.2) rfl) ev_nil) (t_lenL (e := eC) (xs := x1.2) (.inr (.inr rfl))))) (t_ne (e := eI) (a := (x2.length : Int)) (b := (x1.2.length : Int)) epI (by decide) rfl rfl)))) (fun _ => ?_) (fun _ => ?_)
        · exact sg_retS (o := (.fz ((eV eI (eL (eL (eT eI)))) (Sum.inl (2 : Int) : (Int ⊕ (List (List (List Int)))))))) (asO (.st (.fz (eI (2 : Int)))) (ev_frzX (ev_c (x := eI 2)) rfl)) (fun e => ⟨e, rfl⟩)
        · refine sg_skip ?_
          refine sg_ifs (ev_test (asO (.st (.fz (eB (!(decide (x2 ∈ s2)))))) (ev_bin (ev_varF (x := (eT eI) x2) rfl) (ev_varO (o := (.ol (List.map (eT eI) s2))) rfl rfl) (t_ninL (e := (eT eI)) (a := x2) (xs := s2) (epT epI) (by decide) rfl rfl rfl)))) (fun _ => ?_) (fun _ => ?_)
          · refine sg_iceS ?_
            refine sg_iceF rfl ?_
            refine sg_bind fun v3 hv3 => ?_
            refine sg_appL (e := (eT eI)) (xs := s2) (x := x2) rfl (ev_varF (x := (eT eI) x2) rfl) hv3 ?_
            exact sg_of rfl ⟨_, rfl, ⟨_, rfl⟩⟩
          · refine sg_skip ?_
            exact sg_of rfl ⟨_, rfl, ⟨_, rfl⟩⟩
      · obtain ⟨j6, rfl⟩ := hE
        refine sg_iceS ?_
        refine sg_ice (o := (.ol (List.map (eT eI) s3))) (x := (eL (eT eI)) s3) rfl rfl ?_
        refine sg_bind fun v4 hv4 => ?_
        refine sg_appL (e := (eL (eT eI))) (xs := s1) (x := s3) rfl (ev_varF (x := (eL (eT eI)) s3) rfl) hv4 ?_
        exact sg_of rfl ⟨_, rfl, ⟨_, _, _, _, rfl⟩⟩
  · obtain ⟨j7, j8, j9, j10, rfl⟩ := hE
    refine sg_iceS ?_
    refine sg_ice (o := (.ol (List.map (eL (eT eI)) s4))) (x := (eL (eL (eT eI))) s4) rfl rfl ?_
    exact sg_retS (o := (.fz ((eV eI (eL (eL (eT eI)))) (Sum.inr s4 : (Int ⊕ (List (List (List Int)))))))) (asO (.st (.fz ((eL (eL (eT eI))) s4))) (ev_frzX (ev_varF (x := (eL (eL (eT eI))) s4) rfl) rfl)) (fun e => ⟨e, rfl⟩)
noncomputable def T__law_marks (p_error_here : (Option Str)) : Option (List Int) :=
  (isEG [("NoTable" , true), ("NoWidth" , false)] p_error_here).bind fun v1 => (isEG [("NoTable" , false), ("NoWidth" , true)] p_error_here).bind fun v2 => (isEG [("NoTable" , false), ("NoWidth" , false)] p_error_here).bind fun v3 => (isEG [("NoTable" , false), ("NoWidth" , false)] p_error_here).bind fun v4 => (isEG [("NoTable" , false), ("NoWidth" , false)] p_error_here).bind fun v5 => (isEG (List.map (fun c => (c , true)) ["NoTable", "NoWidth"]) p_error_here).bind fun v6 => (catG ([v1, v2, v3] : List Bool) ([v4, v5, (!v6)] : List Bool)).bind fun v7 => (rangeG (6 : Int)).bind fun v8 => (lcG (fun x1 : Int => (atI v7 x1).bind fun v9 => some v9) (fun x1 => some x1) v8).bind fun v10 => some v10
theorem sm__law_marks {p_error_here : (Option Str)} {v : (List Int)} (hv : T__law_marks p_error_here = some v) : m__law_marks [(eO eQ) p_error_here] = .ok ((oL eI) v) := by
  refine run_sg (O := (oL eI)) (t := T__law_marks p_error_here) ?_ hv
  unfold T__law_marks D__law_marks
  refine sg_env (e2 := [some (.fz ((eO eQ) p_error_here)), none, none]) rfl ?_
  refine sg_one ?_
  refine sg_assoc ?_
  refine sg_bind fun v1 hv1 => ?_
  refine sg_bind fun v2 hv2 => ?_
  refine sg_bind fun v3 hv3 => ?_
  refine sg_set (o := (.ol (List.map eB ([v1, v2, v3] : List Bool)))) (asO (.st (.ol (List.map eB ([v1, v2, v3] : List Bool)))) (ev_list (ev_cons (asO (.st (.fz (eB v1))) (ev_frzX (asO (.st (.fz (eB v1))) (ev_un (ev_varF (x := (eO eQ) p_error_here) rfl) (t_isE (tab := [("NoTable" , true), ("NoWidth" , false)]) (v := p_error_here) hv1))) rfl)) (ev_cons (asO (.st (.fz (eB v2))) (ev_frzX (asO (.st (.fz (eB v2))) (ev_un (ev_varF (x := (eO eQ) p_error_here) rfl) (t_isE (tab := [("NoTable" , false), ("NoWidth" , true)]) (v := p_error_here) hv2))) rfl)) (ev_cons (asO (.st (.fz (eB v3))) (ev_frzX (asO (.st (.fz (eB v3))) (ev_un (ev_varF (x := (eO eQ) p_error_here) rfl) (t_isE (tab := [("NoTable" , false), ("NoWidth" , false)]) (v := p_error_here) hv3))) rfl)) ev_nil))) (Nat.le_of_ble_eq_true rfl) rfl)) ?_
  refine sg_assoc ?_
  refine sg_iceS ?_
  refine sg_ice (o := (.ol (List.map eB ([v1, v2, v3] : List Bool)))) (x := (eL eB) ([v1, v2, v3] : List Bool)) rfl rfl ?_
  refine sg_bind fun v4 hv4 => ?_
  refine sg_bind fun v5 hv5 => ?_
  refine sg_bind fun v6 hv6 => ?_
  refine sg_bind fun v7 hv7 => ?_
  refine sg_set (o := (.ol (List.map eB v7))) (asO (.st (.ol (List.map eB v7))) (ev_bin (ev_varF (x := (eL eB) ([v1, v2, v3] : List Bool)) rfl) (asO (.st (.ol (List.map eB ([v4, v5, (!v6)] : List Bool)))) (ev_list (ev_cons (asO (.st (.fz (eB v4))) (ev_frzX (asO (.st (.fz (eB v4))) (ev_un (ev_varF (x := (eO eQ) p_error_here) rfl) (t_isE (tab := [("NoTable" , false), ("NoWidth" , false)]) (v := p_error_here) hv4))) rfl)) (ev_cons (asO (.st (.fz (eB v5))) (ev_frzX (asO (.st (.fz (eB v5))) (ev_un (ev_varF (x := (eO eQ) p_error_here) rfl) (t_isE (tab := [("NoTable" , false), ("NoWidth" , false)]) (v := p_error_here) hv5))) rfl)) (ev_cons (asO (.st (.fz (eB (!v6)))) (ev_frzX (ev_dB (ev_notT (ev_test (asO (.st (.fz (eB v6))) (ev_un (ev_varF (x := (eO eQ) p_error_here) rfl) (t_isE (tab := (List.map (fun c => (c , true)) ["NoTable", "NoWidth"])) (v := p_error_here) hv6)))))) rfl)) ev_nil))) (Nat.le_of_ble_eq_true rfl) rfl)) (t_catL (e := eB) (a := ([v1, v2, v3] : List Bool)) (b := ([v4, v5, (!v6)] : List Bool)) (.inr rfl) (.inl rfl) hv7))) ?_
  refine sg_iceS ?_
  refine sg_ice (o := (.ol (List.map eB v7))) (x := (eL eB) v7) rfl rfl ?_
  refine sg_iceS ?_
  refine sg_iceF rfl ?_
  refine sg_bind fun v8 hv8 => ?_
  refine sg_bind fun v10 hv10 => ?_
  exact sg_retS (o := (.ol (List.map eI v10))) (asO (.st (.ol (List.map eI v10))) (ev_lc (e := eI) (d := eI) (tc := fun x1 => (atI v7 x1).bind fun v9 => some v9) (te := fun x1 => some x1) (items := v8) (it_range (ev_c (x := eI 6)) hv8) (fun x1 => ⟨_, rfl, (oe_bind fun v9 hv9 => (oe_id (ev_test (asO (.st (.fz (eB v9))) (ev_sub (ev_varF (x := (eL eB) v7) rfl) (ev_varF (x := eI x1) rfl) rfl (t_atL (e := eB) (xs := v7) (.inr (.inl rfl)) hv9)))))), (oe_ret (ev_varF (x := eI x1) rfl))⟩) (.inl (afz_F (afz_F (afz_N afz_nil)))) hv10)) (fun e => ⟨e, rfl⟩)
noncomputable def T_in_order_b1 (x1 : (List Int)) (s1 : (List (List Int))) : Option (List (List Int)) :=
  (if (decide (s1 = ([] : List (List Int)))) then some true else (atI s1 ((s1.length : Int) - (1 : Int))).bind fun v2 => some (!(decide (v2 = x1)))).bind fun v3 => (if v3 then (appG s1 x1).bind fun v4 => some v4 else some s1)
noncomputable def T_in_order (p_rows : (List (List Int))) : Option (List (List Int)) :=
  (srt (eT eI) p_rows).bind fun v1 => (forT T_in_order_b1 v1 ([] : List (List Int))).bind fun s2 => some s2
theorem sm_in_order {p_rows : (List (List Int))} {v : (List (List Int))} (hv : T_in_order p_rows = some v) : m_in_order [(eL (eT eI)) p_rows] = .ok ((oL (eT eI)) v) := by
  refine run_sg (O := (oL (eT eI))) (t := T_in_order p_rows) ?_ hv
  unfold T_in_order D_in_order
  refine sg_env (e2 := [some (.fz ((eL (eT eI)) p_rows)), none, none]) rfl ?_
  refine sg_one ?_
  refine sg_assoc ?_
  refine sg_set (o := (.ol (List.map (eT eI) ([] : List (List Int))))) (asO (.st (.ol (List.map (eT eI) ([] : List (List Int))))) (ev_list ev_nil (Nat.le_of_ble_eq_true rfl) rfl)) ?_
  refine sg_assoc ?_
  refine sg_bind fun v1 hv1 => ?_
  refine sg_seq (sg_for (eA := (eT eI)) (fun (s1 : (List (List Int))) (e : VEnv) => ∃ j1 : Option OV, e = [some (.fz ((eL (eT eI)) p_rows)), some (.ol (List.map (eT eI) s1)), j1]) (tb := T_in_order_b1) (it_items (e := (eT eI)) (xs := v1) (.inl (asO (.st (.ol (List.map (eT eI) v1))) (ev_callB (ev_cons (ev_varF (x := (eL (eT eI)) p_rows) rfl) ev_nil) (t_sort (e := (eT eI)) (xs := p_rows) (.inr rfl) hv1))))) ⟨_, rfl⟩ (fun x1 s1 e hE => ?_)) (fun s2 e hE => ?_)
  · obtain ⟨j1, rfl⟩ := hE
    refine ⟨_, rfl, ?_⟩
    unfold T_in_order_b1
    refine sg_one ?_
    refine sg_bind fun v3 hv3 => ?_
    refine sg_ifs (ev_orO (ev_test (asO (.st (.fz (eB (decide (s1 = ([] : List (List Int))))))) (ev_bin (ev_varO (o := (.ol (List.map (eT eI) s1))) rfl rfl) (asO (.st (.ol (List.map (eT eI) ([] : List (List Int))))) (ev_list ev_nil (Nat.le_of_ble_eq_true rfl) rfl)) (t_eq (e := (eL (eT eI))) (a := s1) (b := ([] : List (List Int))) (epL (epT epI)) (by decide) rfl rfl)))) (fun _ => (oe_bind fun v2 hv2 => (oe_id (ev_test (asO (.st (.fz (eB (!(decide (v2 = x1)))))) (ev_bin (asO (.st (.fz ((eT eI) v2))) (ev_sub (ev_varO (o := (.ol (List.map (eT eI) s1))) rfl rfl) (asO (.st (.fz (eI ((s1.length : Int) - (1 : Int))))) (ev_bin (asO (.st (.fz (eI (s1.length : Int)))) (ev_callB (ev_cons (ev_varO (o := (.ol (List.map (eT eI) s1))) rfl rfl) ev_nil) (t_lenL (e := (eT eI)) (xs := s1) (.inl rfl)))) (ev_c (x := eI 1)) e_sub)) rfl (t_atL (e := (eT eI)) (xs := s1) (.inl rfl) hv2))) (ev_varF (x := (eT eI) x1) rfl) (t_ne (e := (eT eI)) (a := v2) (b := x1) (epT epI) (by decide) rfl rfl))))))) hv3) (fun _ => ?_) (fun _ => ?_)
    · refine sg_iceS ?_
      refine sg_iceF rfl ?_
      refine sg_bind fun v4 hv4 => ?_
      refine sg_appL (e := (eT eI)) (xs := s1) (x := x1) rfl (ev_varF (x := (eT eI) x1) rfl) hv4 ?_
      exact sg_nx ⟨_, rfl⟩
    · refine sg_skip ?_
      exact sg_nx ⟨_, rfl⟩
  · obtain ⟨j2, rfl⟩ := hE
    exact sg_retVS (o := (.ol (List.map (eT eI) s2))) rfl (fun e => ⟨e, rfl⟩)
noncomputable def T_rows_of_b1 (x1 : ((List Chr) × (List Chr))) (x2 : (List Int)) (s2 : Unit) : Option (Ctl Unit (List (List (List Int)))) :=
  (if (!(decide ((x2.length : Int) = (x1.2.length : Int)))) then none else some (.nx ()))
noncomputable def T_rows_of_b2 (p_tables : (List ((List Chr) × (List (List Int))))) (x1 : ((List Chr) × (List Chr))) (s1 : (List (List (List Int)))) : Option (Ctl (List (List (List Int))) (List (List (List Int)))) :=
  (if (!(lookK p_tables x1.1).isSome) then none else (lookK p_tables x1.1).bind fun v1 => ((forC (T_rows_of_b1 x1) v1 ())).bind (behind (fun r => (.rt r)) fun s3 => (lookK p_tables x1.1).bind fun v2 => (T_in_order v2).bind fun v3 => (appE s1 v3).bind fun v4 => some (.nx v4)))
noncomputable def T_rows_of (p_tables : (List ((List Chr) × (List (List Int))))) (p_question : (List ((List Chr) × (List Chr)))) : Option (List (List (List Int))) :=
  ((forC (T_rows_of_b2 p_tables) p_question ([] : (List (List (List Int)))))).bind (behind (fun r => r) fun s4 => some s4)
theorem sm_rows_of {p_tables : (List ((List Chr) × (List (List Int))))} {p_question : (List ((List Chr) × (List Chr)))} {v : (List (List (List Int)))} (hv : T_rows_of p_tables p_question = some v) : m_rows_of [(eK kS (eL (eT eI))) p_tables, (eL (eP eS (eT eC))) p_question] = .ok ((dLe (eT eI)) v) := by
  refine run_sg (O := (dLe (eT eI))) (t := T_rows_of p_tables p_question) ?_ hv
  unfold T_rows_of D_rows_of
  refine sg_env (e2 := [some (.fz ((eK kS (eL (eT eI))) p_tables)), some (.fz ((eL (eP eS (eT eC))) p_question)), none, none, none, none]) rfl ?_
  refine sg_one ?_
  refine sg_assoc ?_
  refine sg_set (o := (dLe (eT eI) ([] : (List (List (List Int)))))) (asO (.st (dLe (eT eI) ([] : (List (List (List Int)))))) rfl) ?_
  refine sg_assoc ?_
  refine sg_iceS ?_
  refine sg_iceF rfl ?_
  refine sg_seqL (sg_forC (eA := (eP eS (eT eC))) (fun (s1 : (List (List (List Int)))) (e : VEnv) => ∃ j1 j2 j3 : Option OV, e = [some (.fz ((eK kS (eL (eT eI))) p_tables)), some (.fz ((eL (eP eS (eT eC))) p_question)), some (dLe (eT eI) s1), j1, j2, j3]) (fun (s1 : (List (List (List Int)))) (e : VEnv) => ∃ j1 j2 j3 : Option OV, e = [some (.fz ((eK kS (eL (eT eI))) p_tables)), some (.fz ((eL (eP eS (eT eC))) p_question)), some (dLe (eT eI) s1), j1, j2, j3]) ((dLe (eT eI))) (tb := (T_rows_of_b2 p_tables)) (it_items (e := (eP eS (eT eC))) (xs := p_question) (.inr (.inl (ev_varF (x := (eL (eP eS (eT eC))) p_question) rfl)))) ⟨_, _, _, rfl⟩ (fun _ _ h => h) (fun x1 s1 e hE => ?_)) (fun r e => ⟨e, rfl⟩) (fun s4 e hE => ?_)
  · obtain ⟨j1, j2, j3, rfl⟩ := hE
    refine ⟨_, rfl, ?_⟩
    unfold T_rows_of_b2
    refine sg_one ?_
    refine sg_assoc ?_
    refine sg_ifs (ev_test (asO (.st (.fz (eB (!(lookK p_tables x1.1).isSome)))) (ev_bin (ev_varF (x := eS x1.1) rfl) (ev_varF (x := (eK kS (eL (eT eI))) p_tables) rfl) (t_ninK (k := kS) (e := (eL (eT eI))) (l := p_tables) (a := x1.1) ekS (.inr rfl))))) (fun _ => ?_) (fun _ => ?_)
    · exact sg_none
    · refine sg_skip ?_
      refine sg_assoc ?_
      refine sg_iceS ?_
      refine sg_iceF rfl ?_
      refine sg_bind fun v1 hv1 => ?_
      refine sg_seqL (sg_forC (eA := (eT eI)) (fun (s2 : Unit) (e : VEnv) => ∃ j4 : Option OV, e = [some (.fz ((eK kS (eL (eT eI))) p_tables)), some (.fz ((eL (eP eS (eT eC))) p_question)), some (dLe (eT eI) s1), some (.fz (eS x1.1)), some (.fz ((eT eC) x1.2)), j4]) (fun (s2 : Unit) (e : VEnv) => ∃ j4 : Option OV, e = [some (.fz ((eK kS (eL (eT eI))) p_tables)), some (.fz ((eL (eP eS (eT eC))) p_question)), some (dLe (eT eI) s1), some (.fz (eS x1.1)), some (.fz ((eT eC) x1.2)), j4]) ((dLe (eT eI))) (tb := (T_rows_of_b1 x1)) (it_items (e := (eT eI)) (xs := v1) (.inr (.inl (asO (.st (.fz ((eL (eT eI)) v1))) (ev_sub (ev_varF (x := (eK kS (eL (eT eI))) p_tables) rfl) (ev_varF (x := eS x1.1) rfl) rfl (t_subK (k := kS) (e := (eL (eT eI))) (l := p_tables) (a := x1.1) ekS (.inr rfl) hv1)))))) ⟨_, rfl⟩ (fun _ _ h => h) (fun x2 s2 e hE => ?_)) (fun r e => ⟨e, rfl⟩) (fun s3 e hE => ?_)
      · obtain ⟨j4, rfl⟩ := hE
        refine ⟨_, rfl, ?_⟩
        unfold T_rows_of_b1
        refine sg_one ?_
        refine sg_ifs (ev_test (asO (.st (.fz (eB (!(decide ((x2.length : Int) = (x1.2.length : Int))))))) (ev_bin (asO (.st (.fz (eI (x2.length : Int)))) (ev_callB (ev_cons (ev_varF (x := (eT eI) x2) rfl) ev_nil) (t_lenL (e := eI) (xs := x2) (.inr (.inr rfl))))) (asO (.st (.fz (eI (x1.2.length : Int)))) (ev_callB (ev_cons (ev_varF (x := (eT eC) x1.2) rfl) ev_nil) (t_lenL (e := eC) (xs := x1.2) (.inr (.inr rfl))))) (t_ne (e := eI) (a := (x2.length : Int)) (b := (x1.2.length : Int)) epI (by decide) rfl rfl)))) (fun _ => ?_) (fun _ => ?_)
        · exact sg_none
        · refine sg_skip ?_
          exact sg_of rfl ⟨_, rfl, ⟨_, rfl⟩⟩
      · obtain ⟨j5, rfl⟩ := hE
        refine sg_bind fun v2 hv2 => ?_
        refine sg_bind fun v3 hv3 => ?_
        refine sg_bind fun v4 hv4 => ?_
        refine sg_appE (e := (eT eI)) (xs := s1) (x := v3) rfl (asO (.st (.ol (List.map (eT eI) v3))) (ev_callA (ev_cons (asO (.st (.fz ((eL (eT eI)) v2))) (ev_frzX (asO (.st (.fz ((eL (eT eI)) v2))) (ev_sub (ev_varF (x := (eK kS (eL (eT eI))) p_tables) rfl) (ev_varF (x := eS x1.1) rfl) rfl (t_subK (k := kS) (e := (eL (eT eI))) (l := p_tables) (a := x1.1) ekS (.inr rfl) hv2))) rfl)) ev_nil) (as := [(eL (eT eI)) v2]) rfl (sm_in_order hv3) (.inl rfl))) hv4 ?_
        exact sg_of rfl ⟨_, rfl, ⟨_, _, _, rfl⟩⟩
  · obtain ⟨j6, j7, j8, rfl⟩ := hE
    exact sg_retVS (o := (dLe (eT eI) s4)) rfl (fun e => ⟨e, rfl⟩)
/-! what rows_of refuses -/
abbrev eTB : List (List Chr × List (List Int)) → FV := eK kS (eL (eT eI))
abbrev eQU : List (List Chr × List Chr) → FV := eL (eP eS (eT eC))
def badW (q : List Chr × List Chr) (r : List Int) : Bool := !(decide ((r.length : Int) = (q.2.length : Int)))
noncomputable def rowsX (tb : List (List Chr × List (List Int))) : List (List Chr × List Chr) → List (List (List Int)) → Option Str
  | [], _ => none
  | q :: qu, s => match lookK tb q.1 with
    | none => some "NoTable"
    | some rs => if rs.any (badW q) = true then some "NoWidth" else match T_rows_of_b2 tb q s with
      | some (.nx s') => rowsX tb qu s'
      | _ => none
noncomputable def T_rows_of_x (p_tables : List (List Chr × List (List Int))) (p_question : List (List Chr × List Chr)) : Option Str := rowsX p_tables p_question []
noncomputable def WB : DS := (dIf (dTest (dBin opNe (dCallB opLen (dCons (dVar 5) dNil)) (dCallB opLen (dCons (dVar 4) dNil))))
    (dRaise "NoWidth")
    dSkip)
noncomputable def RB : DS := (dSeq (dIf (dTest (dBin (opIn true) (dVar 3) (dVar 0)))
    (dRaise "NoTable")
    dSkip)
    (dSeq (dIce 0 (dFor (dItems (dSub (dVar 0) (dVar 3))) (tName 5) WB))
    (dApp 2 (dCall m_in_order (dCons (dFrz (dSub (dVar 0) (dVar 3))) dNil)))))
abbrev EE (tb : List (List Chr × List (List Int))) (qu : List (List Chr × List Chr)) (s : List (List (List Int))) (j1 j2 j3 : Option OV) : VEnv := [some (.fz (eTB tb)), some (.fz (eQU qu)), some (dLe (eT eI) s), j1, j2, j3]
section
variable {tb : List (List Chr × List (List Int))} {qu : List (List Chr × List Chr)} {s : List (List (List Int))} {q : List Chr × List Chr} {j3 : Option OV}
theorem wb_test {r : List Int} : (dTest (dBin opNe (dCallB opLen (dCons (dVar 5) dNil)) (dCallB opLen (dCons (dVar 4) dNil)))) (EE tb qu s (some (.fz (eS q.1))) (some (.fz ((eT eC) q.2))) (some (.fz ((eT eI) r)))) = .ok (badW q r) :=
  ev_test (asO (.st (.fz (eB (!(decide ((r.length : Int) = (q.2.length : Int))))))) (ev_bin (asO (.st (.fz (eI (r.length : Int)))) (ev_callB (ev_cons (ev_varF (x := (eT eI) r) rfl) ev_nil) (t_lenL (e := eI) (xs := r) (.inr (.inr rfl))))) (asO (.st (.fz (eI (q.2.length : Int)))) (ev_callB (ev_cons (ev_varF (x := (eT eC) q.2) rfl) ev_nil) (t_lenL (e := eC) (xs := q.2) (.inr (.inr rfl))))) (t_ne (e := eI) (a := (r.length : Int)) (b := (q.2.length : Int)) epI (by decide) rfl rfl)))
theorem wb_loop : ∀ {rs : List (List Int)} (j : Option OV), rs.any (badW q) = true → forL (tName 5) WB (rs.map (eT eI)) (EE tb qu s (some (.fz (eS q.1))) (some (.fz ((eT eC) q.2))) j) = .ex "NoWidth"
  | [], _, h => by simp at h
  | r :: rs, j, h => by
    rw [List.map_cons]
    unfold forL
    show (WB (EE tb qu s (some (.fz (eS q.1))) (some (.fz ((eT eC) q.2))) (some (.fz ((eT eI) r))))).bind (loopK (forL (tName 5) WB (rs.map (eT eI)))) = _
    have t := wb_test (tb := tb) (qu := qu) (s := s) (q := q) (r := r)
    cases hb : badW q r with
    | true =>
      rw [hb] at t
      unfold WB
      rw [ev_ifT t]
      rfl
    | false =>
      rw [hb] at t
      have e1 : WB (EE tb qu s (some (.fz (eS q.1))) (some (.fz ((eT eC) q.2))) (some (.fz ((eT eI) r)))) = .ok (.nx (EE tb qu s (some (.fz (eS q.1))) (some (.fz ((eT eC) q.2))) (some (.fz ((eT eI) r))))) := by
        unfold WB
        rw [ev_ifF t]
        rfl
      rw [e1]
      exact wb_loop _ (by rw [List.any_cons, hb, Bool.false_or] at h; exact h)
theorem rb_test : (dTest (dBin (opIn true) (dVar 3) (dVar 0))) (EE tb qu s (some (.fz (eS q.1))) (some (.fz ((eT eC) q.2))) j3) = .ok (!(lookK tb q.1).isSome) :=
  ev_test (asO (.st (.fz (eB (!(lookK tb q.1).isSome)))) (ev_bin (ev_varF (x := eS q.1) rfl) (ev_varF (x := (eK kS (eL (eT eI))) tb) rfl) (t_ninK (k := kS) (e := (eL (eT eI))) (l := tb) (a := q.1) ekS (.inr rfl))))
theorem rb_table (h : lookK tb q.1 = none) : RB (EE tb qu s (some (.fz (eS q.1))) (some (.fz ((eT eC) q.2))) j3) = .ex "NoTable" := by
  have t := rb_test (tb := tb) (qu := qu) (s := s) (q := q) (j3 := j3)
  rw [h] at t
  unfold RB
  rw [ev_seq, ev_ifT t]
  rfl
theorem rb_width {rs : List (List Int)} (h : lookK tb q.1 = some rs) (hb : rs.any (badW q) = true) : RB (EE tb qu s (some (.fz (eS q.1))) (some (.fz ((eT eC) q.2))) j3) = .ex "NoWidth" := by
  have t := rb_test (tb := tb) (qu := qu) (s := s) (q := q) (j3 := j3)
  rw [h] at t
  unfold RB
  rw [ev_seqN (e := EE tb qu s (some (.fz (eS q.1))) (some (.fz ((eT eC) q.2))) j3) (by rw [ev_ifF t]; rfl) rfl, ev_seq]
  have e1 : dIce 0 (dFor (dItems (dSub (dVar 0) (dVar 3))) (tName 5) WB) (EE tb qu s (some (.fz (eS q.1))) (some (.fz ((eT eC) q.2))) j3) = .ex "NoWidth" := by
    show dFor (dItems (dSub (dVar 0) (dVar 3))) (tName 5) WB (EE tb qu s (some (.fz (eS q.1))) (some (.fz ((eT eC) q.2))) j3) = _
    unfold dFor
    rw [it_items (e := (eT eI)) (xs := rs) (.inr (.inl (asO (.st (.fz ((eL (eT eI)) rs))) (ev_sub (ev_varF (x := (eK kS (eL (eT eI))) tb) rfl) (ev_varF (x := eS q.1) rfl) rfl (t_subK (k := kS) (e := (eL (eT eI))) (l := tb) (a := q.1) ekS (.inr rfl) h))))), bind_ok]
    exact wb_loop _ hb
  rw [e1]
  rfl
theorem rb_ok {s' : List (List (List Int))} (h : T_rows_of_b2 tb q s = some (.nx s')) : ∃ j1 j2 j4, RB (EE tb qu s (some (.fz (eS q.1))) (some (.fz ((eT eC) q.2))) j3) = .ok (.nx (EE tb qu s' j1 j2 j4)) := by
  have key : SG (RB (EE tb qu s (some (.fz (eS q.1))) (some (.fz ((eT eC) q.2))) j3)) (T_rows_of_b2 tb q s) (PC (fun (s1 : (List (List (List Int)))) (e : VEnv) => ∃ j1 j2 j3 : Option OV, e = EE tb qu s1 j1 j2 j3) (fun (s1 : (List (List (List Int)))) (e : VEnv) => ∃ j1 j2 j3 : Option OV, e = EE tb qu s1 j1 j2 j3) (dLe (eT eI))) := by
    unfold T_rows_of_b2 RB
    refine sg_one ?_
    refine sg_assoc ?_
    refine sg_ifs rb_test (fun _ => ?_) (fun _ => ?_)
    · exact sg_none
    · refine sg_skip ?_
      refine sg_assoc ?_
      refine sg_iceS ?_
      refine sg_iceF rfl ?_
      refine sg_bind fun v1 hv1 => ?_
      refine sg_seqL (sg_forC (eA := (eT eI)) (fun (s2 : Unit) (e : VEnv) => ∃ j4 : Option OV, e = [some (.fz ((eK kS (eL (eT eI))) tb)), some (.fz ((eL (eP eS (eT eC))) qu)), some (dLe (eT eI) s), some (.fz (eS q.1)), some (.fz ((eT eC) q.2)), j4]) (fun (s2 : Unit) (e : VEnv) => ∃ j4 : Option OV, e = [some (.fz ((eK kS (eL (eT eI))) tb)), some (.fz ((eL (eP eS (eT eC))) qu)), some (dLe (eT eI) s), some (.fz (eS q.1)), some (.fz ((eT eC) q.2)), j4]) ((dLe (eT eI))) (tb := (T_rows_of_b1 q)) (it_items (e := (eT eI)) (xs := v1) (.inr (.inl (asO (.st (.fz ((eL (eT eI)) v1))) (ev_sub (ev_varF (x := (eK kS (eL (eT eI))) tb) rfl) (ev_varF (x := eS q.1) rfl) rfl (t_subK (k := kS) (e := (eL (eT eI))) (l := tb) (a := q.1) ekS (.inr rfl) hv1)))))) ⟨_, rfl⟩ (fun _ _ h => h) (fun x2 s2 e hE => ?_)) (fun r e => ⟨e, rfl⟩) (fun s3 e hE => ?_)
      · obtain ⟨j4, rfl⟩ := hE
        refine ⟨_, rfl, ?_⟩
        unfold T_rows_of_b1 WB
        refine sg_one ?_
        refine sg_ifs (wb_test (tb := tb) (qu := qu) (s := s) (q := q) (r := x2)) (fun _ => ?_) (fun _ => ?_)
        · exact sg_none
        · refine sg_skip ?_
          exact sg_of rfl ⟨_, rfl, ⟨_, rfl⟩⟩
      · obtain ⟨j5, rfl⟩ := hE
        refine sg_bind fun v2 hv2 => ?_
        refine sg_bind fun v3 hv3 => ?_
        refine sg_bind fun v4 hv4 => ?_
        refine sg_appE (e := (eT eI)) (xs := s) (x := v3) rfl (asO (.st (.ol (List.map (eT eI) v3))) (ev_callA (ev_cons (asO (.st (.fz ((eL (eT eI)) v2))) (ev_frzX (asO (.st (.fz ((eL (eT eI)) v2))) (ev_sub (ev_varF (x := (eK kS (eL (eT eI))) tb) rfl) (ev_varF (x := eS q.1) rfl) rfl (t_subK (k := kS) (e := (eL (eT eI))) (l := tb) (a := q.1) ekS (.inr rfl) hv2))) rfl)) ev_nil) (as := [(eL (eT eI)) v2]) rfl (sm_in_order hv3) (.inl rfl))) hv4 ?_
        exact sg_of rfl ⟨_, rfl, ⟨_, _, _, rfl⟩⟩
  obtain ⟨so, h1, e2, rfl, j1, j2, j4, rfl⟩ := key _ h
  exact ⟨j1, j2, j4, h1⟩
end
theorem rows_ex {tb : List (List Chr × List (List Int))} {qu0 : List (List Chr × List Chr)} {c : Str} : ∀ {qu : List (List Chr × List Chr)} {s : List (List (List Int))} (j1 j2 j3 : Option OV), rowsX tb qu s = some c → forL (tTup2 3 4) RB (qu.map (eP eS (eT eC))) (EE tb qu0 s j1 j2 j3) = .ex c ∧ (c = "NoTable" ∨ c = "NoWidth")
  | [], _, _, _, _, h => nomatch h
  | q :: qu, s, j1, j2, j3, h => by
    rw [List.map_cons]
    unfold forL
    unfold rowsX at h
    show ((RB (EE tb qu0 s (some (.fz (eS q.1))) (some (.fz ((eT eC) q.2))) j3)).bind (loopK (forL (tTup2 3 4) RB (qu.map (eP eS (eT eC))))) = _) ∧ _
    cases hl : lookK tb q.1 with
    | none =>
      rw [hl] at h
      cases h
      rw [rb_table hl]
      exact ⟨rfl, .inl rfl⟩
    | some rs =>
      rw [hl] at h
      simp only at h
      split at h
      · rename_i hb
        cases h
        rw [rb_width hl hb]
        exact ⟨rfl, .inr rfl⟩
      · split at h
        · rename_i s' hs
          obtain ⟨k1, k2, k3, e⟩ := rb_ok (qu := qu0) (j3 := j3) hs
          rw [e]
          exact rows_ex k1 k2 k3 h
        · cases h
theorem smx_rows_of {p_tables : List (List Chr × List (List Int))} {p_question : List (List Chr × List Chr)} {c : Str} (h : T_rows_of_x p_tables p_question = some c) : m_rows_of [(eK kS (eL (eT eI))) p_tables, (eL (eP eS (eT eC))) p_question] = .ex c ∧ (["NoTable", "NoWidth"] : List Str).contains c = true := by
  obtain ⟨e, hc⟩ := rows_ex (qu0 := p_question) none none none h
  refine ⟨?_, by rcases hc with rfl | rfl <;> decide +kernel⟩
  have run : D_rows_of [some (.fz (eTB p_tables)), some (.fz (eQU p_question)), none, none, none, none] = .ex c := by
    show dSeq (dSet 2 (dList dNil)) (dSeq (dIce 1 (dFor (dItems (dVar 1)) (tTup2 3 4) RB)) (dRetV 2)) _ = _
    rw [ev_seqN (e := EE p_tables p_question [] none none none) rfl rfl, ev_seq]
    have : dIce 1 (dFor (dItems (dVar 1)) (tTup2 3 4) RB) (EE p_tables p_question [] none none none) = .ex c := by
      show dFor (dItems (dVar 1)) (tTup2 3 4) RB (EE p_tables p_question [] none none none) = _
      unfold dFor
      rw [it_items (e := (eP eS (eT eC))) (xs := p_question) (.inr (.inl (ev_varF (x := (eL (eP eS (eT eC))) p_question) rfl))), bind_ok]
      exact e
    rw [this]
    rfl
  show runF 6 D_rows_of _ = _
  unfold runF
  rw [show startE 6 [(eK kS (eL (eT eI))) p_tables, (eL (eP eS (eT eC))) p_question] = [some (.fz (eTB p_tables)), some (.fz (eQU p_question)), none, none, none, none] from rfl, run]
noncomputable def T__law_error (p_tables_here : (List ((List Chr) × (List (List Int))))) (p_question_here : (List ((List Chr) × (List Chr)))) : Option (Option Str) :=
  (tryG (T_rows_of p_tables_here p_question_here) (T_rows_of_x p_tables_here p_question_here)).bind fun v1 => some v1
theorem sm__law_error {p_tables_here : (List ((List Chr) × (List (List Int))))} {p_question_here : (List ((List Chr) × (List Chr)))} {v : (Option Str)} (hv : T__law_error p_tables_here p_question_here = some v) : m__law_error [(eK kS (eL (eT eI))) p_tables_here, (eL (eP eS (eT eC))) p_question_here] = .ok ((oF (eO eQ)) v) := by
  refine run_sg (O := (oF (eO eQ))) (t := T__law_error p_tables_here p_question_here) ?_ hv
  unfold T__law_error D__law_error
  refine sg_env (e2 := [some (.fz ((eK kS (eL (eT eI))) p_tables_here)), some (.fz ((eL (eP eS (eT eC))) p_question_here)), none, none]) rfl ?_
  refine sg_one ?_
  refine sg_assoc ?_
  refine sg_set (o := (.fz (eU ()))) (ev_c (x := eU ())) ?_
  refine sg_assoc ?_
  refine sg_bind fun v1 hv1 => ?_
  refine sg_try rfl rfl (try_call (ev_cons (ev_varF (x := (eK kS (eL (eT eI))) p_tables_here) rfl) (ev_cons (ev_varF (x := (eL (eP eS (eT eC))) p_question_here) rfl) ev_nil)) (as := [(eK kS (eL (eT eI))) p_tables_here, (eL (eP eS (eT eC))) p_question_here]) rfl rfl (fun _ h => sm_rows_of h) (fun _ h => smx_rows_of h) hv1) ?_
  exact sg_retVS (o := (.fz ((eO eQ) v1))) rfl (fun e => ⟨e, rfl⟩)
noncomputable def T__law_whole (p_found : Int) : Option Bool :=
  some (true && (!false))
theorem sm__law_whole {p_found : Int} {v : Bool} (hv : T__law_whole p_found = some v) : m__law_whole [eI p_found] = .ok ((oF eB) v) := by
  refine run_sg (O := (oF eB)) (t := T__law_whole p_found) ?_ hv
  unfold T__law_whole D__law_whole
  refine sg_env (e2 := [some (.fz (eI p_found))]) rfl ?_
  refine sg_one ?_
  exact sg_retS (o := (.fz (eB (true && (!false))))) (asO (.st (.fz (eB (true && (!false))))) (ev_andV (asO (.st (.fz (eB true))) (ev_un (op := opIsa ["int"]) (ev_varF (x := eI p_found) rfl) rfl)) (ev_dB (ev_notT (ev_test (asO (.st (.fz (eB false))) (ev_un (op := opIsa ["bool"]) (ev_varF (x := eI p_found) rfl) rfl))))))) (fun e => ⟨e, rfl⟩)
noncomputable def T__law_is_rows_b1 (x2 : (List Int)) (s2 : Unit) : Option (Ctl Unit Bool) :=
  (if (!true) then some true else (lcG (fun x3 : Int => (T__law_whole x3).bind fun v1 => some (!v1)) (fun x3 => some x3) x2).bind fun v2 => some (!(decide (v2 = ([] : List Int))))).bind fun v3 => (if v3 then some (.rt false) else some (.nx ()))
noncomputable def T__law_is_rows_b2 (x1 : (List (List Int))) (s1 : Unit) : Option (Ctl Unit Bool) :=
  (if (!true) then some (.rt false) else ((forC T__law_is_rows_b1 x1 ())).bind (behind (fun r => (.rt r)) fun s3 => some (.nx ())))
noncomputable def T__law_is_rows (p_found : (List (List (List Int)))) (p_due_here : (List (List (List Int)))) : Option Bool :=
  (if ((!true) || (!(decide (p_found = p_due_here)))) then some false else ((forC T__law_is_rows_b2 p_found ())).bind (behind (fun r => r) fun s4 => some true))
theorem sm__law_is_rows {p_found : (List (List (List Int)))} {p_due_here : (List (List (List Int)))} {v : Bool} (hv : T__law_is_rows p_found p_due_here = some v) : m__law_is_rows [(eL (eL (eT eI))) p_found, (eL (eL (eT eI))) p_due_here] = .ok ((oF eB) v) := by
  refine run_sg (O := (oF eB)) (t := T__law_is_rows p_found p_due_here) ?_ hv
  unfold T__law_is_rows D__law_is_rows
  refine sg_env (e2 := [some (.fz ((eL (eL (eT eI))) p_found)), some (.fz ((eL (eL (eT eI))) p_due_here)), none, none, none]) rfl ?_
  refine sg_one ?_
  refine sg_assoc ?_
  refine sg_ifs (ev_or (ev_notT (ev_test (asO (.st (.fz (eB true))) (ev_un (op := opIsa ["list"]) (ev_varF (x := (eL (eL (eT eI))) p_found) rfl) rfl)))) (ev_test (asO (.st (.fz (eB (!(decide (p_found = p_due_here)))))) (ev_bin (ev_varF (x := (eL (eL (eT eI))) p_found) rfl) (ev_varF (x := (eL (eL (eT eI))) p_due_here) rfl) (t_ne (e := (eL (eL (eT eI)))) (a := p_found) (b := p_due_here) (epL (epL (epT epI))) (by decide) rfl rfl))))) (fun _ => ?_) (fun _ => ?_)
  · exact sg_retS (o := (.fz (eB false))) (ev_c (x := eB false)) (fun e => ⟨e, rfl⟩)
  · refine sg_skip ?_
    refine sg_assoc ?_
    refine sg_iceS ?_
    refine sg_iceF rfl ?_
    refine sg_seqL (sg_forC (eA := (eL (eT eI))) (fun (s1 : Unit) (e : VEnv) => ∃ j1 j2 : Option OV, e = [some (.fz ((eL (eL (eT eI))) p_found)), some (.fz ((eL (eL (eT eI))) p_due_here)), j1, j2, none]) (fun (s1 : Unit) (e : VEnv) => ∃ j1 j2 : Option OV, e = [some (.fz ((eL (eL (eT eI))) p_found)), some (.fz ((eL (eL (eT eI))) p_due_here)), j1, j2, none]) ((oF eB)) (tb := T__law_is_rows_b2) (it_items (e := (eL (eT eI))) (xs := p_found) (.inr (.inl (ev_varF (x := (eL (eL (eT eI))) p_found) rfl)))) ⟨_, _, rfl⟩ (fun _ _ h => h) (fun x1 s1 e hE => ?_)) (fun r e => ⟨e, rfl⟩) (fun s4 e hE => ?_)
    · obtain ⟨j1, j2, rfl⟩ := hE
      refine ⟨_, rfl, ?_⟩
      unfold T__law_is_rows_b2
      refine sg_one ?_
      refine sg_assoc ?_
      refine sg_ifs (ev_notT (ev_test (asO (.st (.fz (eB true))) (ev_un (op := opIsa ["list"]) (ev_varF (x := (eL (eT eI)) x1) rfl) rfl)))) (fun _ => ?_) (fun _ => ?_)
      · exact sg_retS (o := (.fz (eB false))) (ev_c (x := eB false)) (fun e => ⟨e, rfl⟩)
      · refine sg_skip ?_
        refine sg_iceS ?_
        refine sg_iceF rfl ?_
        refine sg_seqL (sg_forC (eA := (eT eI)) (fun (s2 : Unit) (e : VEnv) => ∃ j3 : Option OV, e = [some (.fz ((eL (eL (eT eI))) p_found)), some (.fz ((eL (eL (eT eI))) p_due_here)), some (.fz ((eL (eT eI)) x1)), j3, none]) (fun (s2 : Unit) (e : VEnv) => ∃ j3 : Option OV, e = [some (.fz ((eL (eL (eT eI))) p_found)), some (.fz ((eL (eL (eT eI))) p_due_here)), some (.fz ((eL (eT eI)) x1)), j3, none]) ((oF eB)) (tb := T__law_is_rows_b1) (it_items (e := (eT eI)) (xs := x1) (.inr (.inl (ev_varF (x := (eL (eT eI)) x1) rfl)))) ⟨_, rfl⟩ (fun _ _ h => h) (fun x2 s2 e hE => ?_)) (fun r e => ⟨e, rfl⟩) (fun s3 e hE => ?_)
        · obtain ⟨j3, rfl⟩ := hE
          refine ⟨_, rfl, ?_⟩
          unfold T__law_is_rows_b1
          refine sg_one ?_
          refine sg_bind fun v3 hv3 => ?_
          refine sg_ifs (ev_orO (ev_notT (ev_test (asO (.st (.fz (eB true))) (ev_un (op := opIsa ["tuple"]) (ev_varF (x := (eT eI) x2) rfl) rfl)))) (fun _ => (oe_bind fun v2 hv2 => (oe_id (ev_test (asO (.st (.fz (eB (!(decide (v2 = ([] : List Int))))))) (ev_bin (asO (.st (.ol (List.map eI v2))) (ev_lc (e := eI) (d := eI) (tc := fun x3 => (T__law_whole x3).bind fun v1 => some (!v1)) (te := fun x3 => some x3) (items := x2) (ci_items (e := eI) (xs := x2) (ev_varF (x := (eT eI) x2) rfl) sb_st (.inr rfl)) (fun x3 => ⟨_, rfl, (oe_bind fun v1 hv1 => (oe_id (ev_notT (ev_test (asO (.st (.fz (eB v1))) (ev_callA (ev_cons (ev_varF (x := eI x3) rfl) ev_nil) (as := [eI x3]) rfl (sm__law_whole hv1) (.inl rfl))))))), (oe_ret (ev_varF (x := eI x3) rfl))⟩) (.inl (afz_F (afz_F (afz_F (afz_F (afz_N afz_nil)))))) hv2)) (asO (.st (.ol (List.map eI ([] : List Int)))) (ev_list ev_nil (Nat.le_of_ble_eq_true rfl) rfl)) (t_ne (e := (eL eI)) (a := v2) (b := ([] : List Int)) (epL epI) (by decide) rfl rfl))))))) hv3) (fun _ => ?_) (fun _ => ?_)
          · exact sg_retS (o := (.fz (eB false))) (ev_c (x := eB false)) (fun e => ⟨e, rfl⟩)
          · refine sg_skip ?_
            exact sg_of rfl ⟨_, rfl, ⟨_, rfl⟩⟩
        · obtain ⟨j4, rfl⟩ := hE
          exact sg_of rfl ⟨_, rfl, ⟨_, _, rfl⟩⟩
    · obtain ⟨j5, j6, rfl⟩ := hE
      exact sg_retS (o := (.fz (eB true))) (ev_c (x := eB true)) (fun e => ⟨e, rfl⟩)
noncomputable def T_law (p1 : (List Int)) : Option Bool :=
  (T__law_names p1.sum).bind fun v1 => (T__law_tables v1 p1 p1.sum).bind fun v2 => (T__law_question v1 v2 p1.sum).bind fun v3 => (T__law_due v2 v3).bind fun v4 => (if v4.isLeft then (T__law_error v2 v3).bind fun v5 => (T__law_marks v5).bind fun v6 => (v4.getLeft?).bind fun v7 => (if (!(decide (v6 = ([(v7 - (1 : Int))] : List Int)))) then some false else (T__law_tables v1 p1 p1.sum).bind fun v8 => (eqKG v2 v8).bind fun v9 => (if v9 then (if (decide ((List.map (fun x : (List Chr) × (List (List Int)) => x.1) v2) = (List.map (fun x : (List Chr) × (List (List Int)) => x.1) v8))) then (T__law_question v1 v8 p1.sum).bind fun v10 => some (decide (v3 = v10)) else some false).bind fun v11 => some v11 else some false).bind fun v12 => some v12) else (T_rows_of v2 v3).bind fun v13 => (v4.getRight?).bind fun v14 => (T__law_is_rows v13 v14).bind fun v15 => (if (!v15) then some false else (if v13 ≠ [] then some () else none).bind fun v16 => (if (List.all v13 (fun l => decide (l.length < BIG))) then some () else none).bind fun v17 => (if (List.length v13) < BIG then some () else none).bind fun v18 => (T_rows_of v2 v3).bind fun v19 => (v4.getRight?).bind fun v20 => (if (!(decide (v19 = v20))) then some false else (T__law_tables v1 p1 p1.sum).bind fun v21 => (eqKG v2 v21).bind fun v22 => (if v22 then (if (decide ((List.map (fun x : (List Chr) × (List (List Int)) => x.1) v2) = (List.map (fun x : (List Chr) × (List (List Int)) => x.1) v21))) then (T__law_question v1 v21 p1.sum).bind fun v23 => some (decide (v3 = v23)) else some false).bind fun v24 => some v24 else some false).bind fun v25 => some v25)))
theorem sm_law {p1 : (List Int)} {v : Bool} (hv : T_law p1 = some v) : ∃ env, D_law (law0 10 p1) = .ok (.rt (.fz (.bl v)) env) := by
  have key : SG (D_law (law0 10 p1)) (T_law p1) (PR (oF eB)) := by
    unfold T_law D_law
    refine sg_env (e2 := [none, some (.ol (List.map eI p1)), none, none, none, none, none, none, none, none]) rfl ?_
    refine sg_one ?_
    refine sg_assoc ?_
    refine sg_iceS ?_
    refine sg_ice (o := (.ol (List.map eI p1))) (x := (eL eI) p1) rfl rfl ?_
    refine sg_set (o := (.fz (eI p1.sum))) (asO (.st (.fz (eI p1.sum))) (ev_callB (ev_cons (ev_varF (x := (eL eI) p1) rfl) ev_nil) (t_sum (xs := p1) (.inr rfl)))) ?_
    refine sg_assoc ?_
    refine sg_bind fun v1 hv1 => ?_
    refine sg_set (o := (.ol (List.map eS v1))) (asO (.st (.ol (List.map eS v1))) (ev_callA (ev_cons (ev_varF (x := eI p1.sum) rfl) ev_nil) (as := [eI p1.sum]) rfl (sm__law_names hv1) (.inl rfl))) ?_
    refine sg_assoc ?_
    refine sg_iceS ?_
    refine sg_ice (o := (.ol (List.map eS v1))) (x := (eL eS) v1) rfl rfl ?_
    refine sg_bind fun v2 hv2 => ?_
    refine sg_set (o := (dDe kS (oL (eT eI)) v2)) (asO (.st (dDe kS (oL (eT eI)) v2)) (ev_callA (ev_cons (ev_varF (x := (eL eS) v1) rfl) (ev_cons (ev_varF (x := (eL eI) p1) rfl) (ev_cons (ev_varF (x := eI p1.sum) rfl) ev_nil))) (as := [(eL eS) v1, (eL eI) p1, eI p1.sum]) rfl (sm__law_tables hv2) (.inl rfl))) ?_
    refine sg_assoc ?_
    refine sg_iceS ?_
    refine sg_ice (o := (dDe kS (oL (eT eI)) v2)) (x := (eK kS (eL (eT eI))) v2) rfl dDe_fv ?_
    refine sg_bind fun v3 hv3 => ?_
    refine sg_set (o := (.ol (List.map (eP eS (eT eC)) v3))) (asO (.st (.ol (List.map (eP eS (eT eC)) v3))) (ev_callA (ev_cons (ev_varF (x := (eL eS) v1) rfl) (ev_cons (ev_varF (x := (eK kS (eL (eT eI))) v2) rfl) (ev_cons (ev_varF (x := eI p1.sum) rfl) ev_nil))) (as := [(eL eS) v1, (eK kS (eL (eT eI))) v2, eI p1.sum]) rfl (sm__law_question hv3) (.inl rfl))) ?_
    refine sg_assoc ?_
    refine sg_iceS ?_
    refine sg_ice (o := (.ol (List.map (eP eS (eT eC)) v3))) (x := (eL (eP eS (eT eC))) v3) rfl rfl ?_
    refine sg_bind fun v4 hv4 => ?_
    refine sg_set (o := (.fz ((eV eI (eL (eL (eT eI)))) v4))) (asO (.st (.fz ((eV eI (eL (eL (eT eI)))) v4))) (ev_callA (ev_cons (ev_varF (x := (eK kS (eL (eT eI))) v2) rfl) (ev_cons (ev_varF (x := (eL (eP eS (eT eC))) v3) rfl) ev_nil)) (as := [(eK kS (eL (eT eI))) v2, (eL (eP eS (eT eC))) v3]) rfl (sm__law_due hv4) (.inl rfl))) ?_
    refine sg_assoc ?_
    refine sg_iceS ?_
    refine sg_iceF rfl ?_
    refine sg_ifs (ev_test (asO (.st (.fz (eB v4.isLeft))) (ev_un (op := opIsa ["int"]) (ev_varF (x := (eV eI (eL (eL (eT eI)))) v4) rfl) (t_isaV (e := (eL (eT eI))) (v := v4))))) (fun _ => ?_) (fun _ => ?_)
    · refine sg_bind fun v5 hv5 => ?_
      refine sg_bind fun v6 hv6 => ?_
      refine sg_bind fun v7 hv7 => ?_
      refine sg_ifs (ev_test (asO (.st (.fz (eB (!(decide (v6 = ([(v7 - (1 : Int))] : List Int))))))) (ev_bin (asO (.st (.ol (List.map eI v6))) (ev_callA (ev_cons (asO (.st (.fz ((eO eQ) v5))) (ev_frzX (asO (.st (.fz ((eO eQ) v5))) (ev_callA (ev_cons (ev_varF (x := (eK kS (eL (eT eI))) v2) rfl) (ev_cons (ev_varF (x := (eL (eP eS (eT eC))) v3) rfl) ev_nil)) (as := [(eK kS (eL (eT eI))) v2, (eL (eP eS (eT eC))) v3]) rfl (sm__law_error hv5) (.inl rfl))) rfl)) ev_nil) (as := [(eO eQ) v5]) rfl (sm__law_marks hv6) (.inl rfl))) (asO (.st (.ol (List.map eI ([(v7 - (1 : Int))] : List Int)))) (ev_list (ev_cons (asO (.st (.fz (eI (v7 - (1 : Int))))) (ev_frzX (asO (.st (.fz (eI (v7 - (1 : Int))))) (ev_bin (unVl (a := eI) (b := (eL (eL (eT eI)))) (ev_varF (x := (eV eI (eL (eL (eT eI)))) v4) rfl) hv7) (ev_c (x := eI 1)) e_sub)) rfl)) ev_nil) (Nat.le_of_ble_eq_true rfl) rfl)) (t_ne (e := (eL eI)) (a := v6) (b := ([(v7 - (1 : Int))] : List Int)) (epL epI) (by decide) rfl rfl)))) (fun _ => ?_) (fun _ => ?_)
      · exact sg_retS (o := (.fz (eB false))) (ev_c (x := eB false)) (fun e => ⟨e, rfl⟩)
      · refine sg_skip ?_
        refine sg_assoc ?_
        refine sg_bind fun v8 hv8 => ?_
        refine sg_set (o := (dDe kS (oL (eT eI)) v8)) (asO (.st (dDe kS (oL (eT eI)) v8)) (ev_callA (ev_cons (ev_varF (x := (eL eS) v1) rfl) (ev_cons (ev_varF (x := (eL eI) p1) rfl) (ev_cons (ev_varF (x := eI p1.sum) rfl) ev_nil))) (as := [(eL eS) v1, (eL eI) p1, eI p1.sum]) rfl (sm__law_tables hv8) (.inl rfl))) ?_
        refine sg_iceS ?_
        refine sg_ice (o := (dDe kS (oL (eT eI)) v8)) (x := (eK kS (eL (eT eI))) v8) rfl dDe_fv ?_
        refine sg_bind fun v9 hv9 => ?_
        refine sg_bind fun v12 hv12 => ?_
        exact sg_retS (o := (.fz (eB v12))) (ev_andVO (asO (.st (.fz (eB v9))) (ev_bin (ev_varF (x := (eK kS (eL (eT eI))) v2) rfl) (ev_varF (x := (eK kS (eL (eT eI))) v8) rfl) (t_eqK (kk := kS) (c := eS) (e := (eL (eT eI))) (a := v2) (b := v8) ekS (epL (epT epI)) (by decide) rfl rfl hv9))) (fun _ => (oe_bind fun v11 hv11 => (oe_ret (ev_andVO (asO (.st (.fz (eB (decide ((List.map (fun x : (List Chr) × (List (List Int)) => x.1) v2) = (List.map (fun x : (List Chr) × (List (List Int)) => x.1) v8)))))) (ev_bin (asO (.st (.ol (List.map eS (List.map (fun x : (List Chr) × (List (List Int)) => x.1) v2)))) (ev_keysL (k := kS) (e := (eL (eT eI))) (l := v2) ekS (ev_varF (x := (eK kS (eL (eT eI))) v2) rfl) (.inr rfl))) (asO (.st (.ol (List.map eS (List.map (fun x : (List Chr) × (List (List Int)) => x.1) v8)))) (ev_keysL (k := kS) (e := (eL (eT eI))) (l := v8) ekS (ev_varF (x := (eK kS (eL (eT eI))) v8) rfl) (.inr rfl))) (t_eq (e := (eL eS)) (a := (List.map (fun x : (List Chr) × (List (List Int)) => x.1) v2)) (b := (List.map (fun x : (List Chr) × (List (List Int)) => x.1) v8)) (epL epS) (by decide) rfl rfl))) (fun _ => (oe_bind fun v10 hv10 => (oe_ret (asO (.st (.fz (eB (decide (v3 = v10))))) (ev_bin (ev_varF (x := (eL (eP eS (eT eC))) v3) rfl) (asO (.st (.ol (List.map (eP eS (eT eC)) v10))) (ev_callA (ev_cons (ev_varF (x := (eL eS) v1) rfl) (ev_cons (ev_varF (x := (eK kS (eL (eT eI))) v8) rfl) (ev_cons (ev_varF (x := eI p1.sum) rfl) ev_nil))) (as := [(eL eS) v1, (eK kS (eL (eT eI))) v8, eI p1.sum]) rfl (sm__law_question hv10) (.inl rfl))) (t_eq (e := (eL (eP eS (eT eC)))) (a := v3) (b := v10) (epL (epP epS (epT epC))) (by decide) rfl rfl)))))) hv11)))) hv12) (fun e => ⟨e, rfl⟩)
    · refine sg_assoc ?_
      refine sg_bind fun v13 hv13 => ?_
      refine sg_set (o := (dLe (eT eI) v13)) (asO (.st (dLe (eT eI) v13)) (ev_callA (ev_cons (ev_varF (x := (eK kS (eL (eT eI))) v2) rfl) (ev_cons (ev_varF (x := (eL (eP eS (eT eC))) v3) rfl) ev_nil)) (as := [(eK kS (eL (eT eI))) v2, (eL (eP eS (eT eC))) v3]) rfl (sm_rows_of hv13) (.inl rfl))) ?_
      refine sg_assoc ?_
      refine sg_bind fun v14 hv14 => ?_
      refine sg_bind fun v15 hv15 => ?_
      refine sg_ifs (ev_notT (ev_test (asO (.st (.fz (eB v15))) (ev_callA (ev_cons (ev_varO (o := (dLe (eT eI) v13)) rfl dLe_nf) (ev_cons (unVr (a := eI) (b := (eL (eL (eT eI)))) (ev_varF (x := (eV eI (eL (eL (eT eI)))) v4) rfl) hv14) ev_nil)) (as := [(eL (eL (eT eI))) v13, (eL (eL (eT eI))) v14]) (fvs_cons dLe_fv (fvs_cons rfl fvs_nil)) (sm__law_is_rows hv15) (.inr (clean_F puB _)))))) (fun _ => ?_) (fun _ => ?_)
      · exact sg_retS (o := (.fz (eB false))) (ev_c (x := eB false)) (fun e => ⟨e, rfl⟩)
      · refine sg_skip ?_
        refine sg_assoc ?_
        refine sg_bind fun v16 hv16 => ?_
        refine sg_bind fun v17 hv17 => ?_
        refine sg_each (e := (eT eI)) (xs := v13) (congrArg (fun x => some (some x)) (dLe_ne (ne_of_if hv16))) (by decide) (Nat.le_of_ble_eq_true rfl) hv17 ?_
        refine sg_assoc ?_
        refine sg_bind fun v18 hv18 => ?_
        refine sg_appXD rfl (ev_c (x := eU ())) (List.length_map _) hv18 ?_
        refine sg_bind fun v19 hv19 => ?_
        refine sg_bind fun v20 hv20 => ?_
        refine sg_ifs (ev_test (asO (.st (.fz (eB (!(decide (v19 = v20)))))) (ev_bin (asO (.st (dLe (eT eI) v19)) (ev_callA (ev_cons (ev_varF (x := (eK kS (eL (eT eI))) v2) rfl) (ev_cons (ev_varF (x := (eL (eP eS (eT eC))) v3) rfl) ev_nil)) (as := [(eK kS (eL (eT eI))) v2, (eL (eP eS (eT eC))) v3]) rfl (sm_rows_of hv19) (.inl rfl))) (unVr (a := eI) (b := (eL (eL (eT eI)))) (ev_varF (x := (eV eI (eL (eL (eT eI)))) v4) rfl) hv20) (t_ne (e := (eL (eL (eT eI)))) (a := v19) (b := v20) (epL (epL (epT epI))) (by decide) dLe_fv rfl)))) (fun _ => ?_) (fun _ => ?_)
        · exact sg_retS (o := (.fz (eB false))) (ev_c (x := eB false)) (fun e => ⟨e, rfl⟩)
        · refine sg_skip ?_
          refine sg_assoc ?_
          refine sg_bind fun v21 hv21 => ?_
          refine sg_set (o := (dDe kS (oL (eT eI)) v21)) (asO (.st (dDe kS (oL (eT eI)) v21)) (ev_callA (ev_cons (ev_varF (x := (eL eS) v1) rfl) (ev_cons (ev_varF (x := (eL eI) p1) rfl) (ev_cons (ev_varF (x := eI p1.sum) rfl) ev_nil))) (as := [(eL eS) v1, (eL eI) p1, eI p1.sum]) rfl (sm__law_tables hv21) (.inl rfl))) ?_
          refine sg_iceS ?_
          refine sg_ice (o := (dDe kS (oL (eT eI)) v21)) (x := (eK kS (eL (eT eI))) v21) rfl dDe_fv ?_
          refine sg_bind fun v22 hv22 => ?_
          refine sg_bind fun v25 hv25 => ?_
          exact sg_retS (o := (.fz (eB v25))) (ev_andVO (asO (.st (.fz (eB v22))) (ev_bin (ev_varF (x := (eK kS (eL (eT eI))) v2) rfl) (ev_varF (x := (eK kS (eL (eT eI))) v21) rfl) (t_eqK (kk := kS) (c := eS) (e := (eL (eT eI))) (a := v2) (b := v21) ekS (epL (epT epI)) (by decide) rfl rfl hv22))) (fun _ => (oe_bind fun v24 hv24 => (oe_ret (ev_andVO (asO (.st (.fz (eB (decide ((List.map (fun x : (List Chr) × (List (List Int)) => x.1) v2) = (List.map (fun x : (List Chr) × (List (List Int)) => x.1) v21)))))) (ev_bin (asO (.st (.ol (List.map eS (List.map (fun x : (List Chr) × (List (List Int)) => x.1) v2)))) (ev_keysL (k := kS) (e := (eL (eT eI))) (l := v2) ekS (ev_varF (x := (eK kS (eL (eT eI))) v2) rfl) (.inr rfl))) (asO (.st (.ol (List.map eS (List.map (fun x : (List Chr) × (List (List Int)) => x.1) v21)))) (ev_keysL (k := kS) (e := (eL (eT eI))) (l := v21) ekS (ev_varF (x := (eK kS (eL (eT eI))) v21) rfl) (.inr rfl))) (t_eq (e := (eL eS)) (a := (List.map (fun x : (List Chr) × (List (List Int)) => x.1) v2)) (b := (List.map (fun x : (List Chr) × (List (List Int)) => x.1) v21)) (epL epS) (by decide) rfl rfl))) (fun _ => (oe_bind fun v23 hv23 => (oe_ret (asO (.st (.fz (eB (decide (v3 = v23))))) (ev_bin (ev_varF (x := (eL (eP eS (eT eC))) v3) rfl) (asO (.st (.ol (List.map (eP eS (eT eC)) v23))) (ev_callA (ev_cons (ev_varF (x := (eL eS) v1) rfl) (ev_cons (ev_varF (x := (eK kS (eL (eT eI))) v21) rfl) (ev_cons (ev_varF (x := eI p1.sum) rfl) ev_nil))) (as := [(eL eS) v1, (eK kS (eL (eT eI))) v21, eI p1.sum]) rfl (sm__law_question hv23) (.inl rfl))) (t_eq (e := (eL (eP eS (eT eC)))) (a := v3) (b := v23) (epL (epP epS (epT epC))) (by decide) rfl rfl)))))) hv24)))) hv25) (fun e => ⟨e, rfl⟩)
  obtain ⟨so, h1, e, rfl⟩ := key v hv
  exact ⟨e, h1⟩
theorem mulGr {i j : Int} (h : j.natAbs < 2 ^ 62) : mulG i j = some (i * j) := if_pos (mulR h)
theorem mulGl {i j : Int} (h : i.natAbs < 2 ^ 62) : mulG i j = some (i * j) := if_pos (mulL h)
theorem mix_ok (c j : Int) (h0 : 0 ≤ j) (h1 : j ≤ 1000) : ∃ v, T__law_mix c j = some v ∧ 0 ≤ v := by
  unfold T__law_mix
  split
  · refine ⟨_, by rw [show shrG c (1 + 20 * j) = some _ from if_pos (by omega), bindS], by omega⟩
  · rw [mulGr (by omega), bindS, mulGr (by omega), bindS, mulGr (by omega), bindS]
    exact ⟨_, rfl, by omega⟩
theorem nat_of {z : Int} (h : 0 ≤ z) : z = ((z.toNat : Nat) : Int) := (Int.toNat_of_nonneg h).symm
theorem popN {α : Type} {xs ys : List α} {k : Int} {m : Nat} (e : k = (m : Int)) (hm : m < ys.length) (hx : xs.length ≤ 100000) (hy : ys.length ≤ 100000) : popG xs ys k = some (xs ++ [ys[m]], ys.eraseIdx m) := by
  unfold popG
  rw [if_pos ⟨bigT hx, bigL hy⟩]
  have : ixN ys.length k = some m := by
    unfold ixN
    rw [e, if_pos (by omega), if_pos (by omega), Int.toNat_natCast]
  rw [this, bindS, List.getElem?_eq_getElem hm]
  rfl
theorem erase_perm {α : Type} : ∀ {l : List α} {m : Nat} (h : m < l.length), (l[m] :: l.eraseIdx m).Perm l
  | x :: l, 0, _ => .refl _
  | x :: l, m + 1, h => by
    have hh : m < l.length := by simpa using h
    have ih := erase_perm (l := l) (m := m) hh
    show (l[m] :: x :: l.eraseIdx m).Perm (x :: l)
    exact (List.Perm.swap _ _ _).trans (ih.cons x)
theorem atSN {s : List Chr} {i : Int} {n : Nat} (e : i = (n : Int)) (h : n < s.length) (hs : s.length ≤ 100000) : atS' s i = some (s[n]'h) := by
  unfold atS'
  rw [if_pos (bigL hs)]
  exact atN e h
def abcAt (n : Nat) : Chr := (Tcs_1[n]?).getD 0
theorem abc_len : Tcs_1.length = 26 := by decide
theorem abc_some {n : Nat} (h : n < 26) : Tcs_1[n]'(by rw [abc_len]; exact h) = abcAt n := by
  unfold abcAt
  rw [List.getElem?_eq_getElem (by rw [abc_len]; exact h)]
  rfl
theorem cutNat {α : Type} {xs : List α} {a b : Nat} (h : a ≤ b) : cutF xs (some (a : Int)) (some (b : Int)) = (xs.drop a).take (b - a) := by
  have e : ∀ n k d : Nat, HT.sIx n d (some (k : Int)) = min k n := fun n k d => by
    unfold HT.sIx
    simp only
    rw [if_neg (by omega), Int.toNat_natCast]
  unfold cutF
  rw [e, e]
  by_cases h1 : a ≤ xs.length
  · rw [Nat.min_eq_left h1]
    by_cases h2 : b ≤ xs.length
    · rw [Nat.min_eq_left h2]
    · rw [Nat.min_eq_right (by omega), List.take_of_length_le (by rw [List.length_drop]; omega), List.take_of_length_le (by rw [List.length_drop]; omega)]
  · rw [Nat.min_eq_right (by omega), Nat.min_eq_right (by omega), List.drop_of_length_le (Nat.le_refl _), List.drop_of_length_le (by omega)]
    simp
theorem cutFrom {α : Type} {xs : List α} {a : Nat} : cutF xs (some (a : Int)) none = xs.drop a := by
  unfold cutF
  show (xs.drop (HT.sIx xs.length 0 (some (a : Int)))).take (xs.length - HT.sIx xs.length 0 (some (a : Int))) = _
  have e : HT.sIx xs.length 0 (some (a : Int)) = min a xs.length := by
    unfold HT.sIx
    simp only
    rw [if_neg (by omega), Int.toNat_natCast]
  rw [e]
  by_cases h : a ≤ xs.length
  · rw [Nat.min_eq_left h, List.take_of_length_le (by rw [List.length_drop]; omega)]
  · rw [Nat.min_eq_right (by omega), List.drop_of_length_le (Nat.le_refl _), List.drop_of_length_le (by omega)]
    simp
/-! names -/
theorem find_abc : ∀ n : Nat, n < 26 → findC Tcs_1 (abcAt n) = (n : Int) := by decide +kernel
theorem abc_inj : ∀ i : Nat, i < 26 → ∀ j : Nat, j < 26 → abcAt i = abcAt j → i = j := by decide +kernel
def nmAt (st : List Chr) (a n0 k : Nat) : List Chr := st.take a ++ [abcAt ((n0 + 4 * k) % 26)] ++ st.drop (a + 1)
theorem nmAt_len {st : List Chr} {a n0 k : Nat} (h : a < st.length) : (nmAt st a n0 k).length = st.length := by
  unfold nmAt
  simp
  omega
theorem nmAt_at {st : List Chr} {a n0 k : Nat} (h : a < st.length) : (nmAt st a n0 k)[a]? = some (abcAt ((n0 + 4 * k) % 26)) := by
  unfold nmAt
  rw [List.append_assoc, List.getElem?_append_right (by simp; omega)]
  have : a - (st.take a).length = 0 := by simp; omega
  rw [this]
  rfl
theorem abc_at {v : Int} : ∃ n : Nat, n < 26 ∧ atS' Tcs_1 (v % (26 : Int)) = some (abcAt n) := by
  obtain ⟨n, en, hn⟩ : ∃ n : Nat, v % 26 = (n : Int) ∧ n < 26 := ⟨(v % 26).toNat, by omega, by omega⟩
  refine ⟨n, hn, ?_⟩
  rw [atSN en (by rw [abc_len]; exact hn) (by rw [abc_len]; decide), abc_some hn]
theorem names_ok (c : Int) : ∃ ns, T__law_names c = some ns ∧ ns.length = 7 ∧ ns.Nodup := by
  obtain ⟨v1, e1, g1⟩ := mix_ok c 1 (by decide) (by decide)
  obtain ⟨v7, e7, g7⟩ := mix_ok c 9 (by decide) (by decide)
  obtain ⟨v17, e17, g17⟩ := mix_ok c 10 (by decide) (by decide)
  obtain ⟨m, em, m1, m7⟩ : ∃ m : Nat, 1 + v1 % 7 = (m : Int) ∧ 1 ≤ m ∧ m ≤ 7 := ⟨(1 + v1 % 7).toNat, by omega, by omega, by omega⟩
  obtain ⟨a, ea, ha⟩ : ∃ a : Nat, v7 % (m : Int) = (a : Int) ∧ a < m := by
    have x := Int.emod_nonneg v7 (show (m : Int) ≠ 0 by omega)
    have y := Int.emod_lt_of_pos v7 (show (0 : Int) < m by omega)
    exact ⟨(v7 % (m : Int)).toNat, by omega, by omega⟩
  have cell : ∀ x : Int, ∃ n : Nat, n < 26 ∧ (0 ≤ x → x ≤ 100 → (T__law_mix c ((2 : Int) + x)).bind (fun v3 => (atS' Tcs_1 (v3 % (26 : Int))).bind fun v4 => some v4) = some (abcAt n)) := fun x => by
    by_cases hx : 0 ≤ x ∧ x ≤ 100
    · obtain ⟨v, ev, _⟩ := mix_ok c (2 + x) (by omega) (by omega)
      obtain ⟨n, hn, en⟩ := abc_at (v := v)
      exact ⟨n, hn, fun _ _ => by rw [ev, bindS, en, bindS]⟩
    · exact ⟨0, by decide, fun h1 h2 => absurd ⟨h1, h2⟩ hx⟩
  let g : Int → Chr := fun x => abcAt (Classical.choose (cell x))
  have hg : ∀ x, _ := fun x => Classical.choose_spec (cell x)
  obtain ⟨st, est⟩ : ∃ st : List Chr, st = ((List.range m).map fun i => ((i : Nat) : Int)).map g := ⟨_, rfl⟩
  have sl : st.length = m := by rw [est]; simp
  obtain ⟨n0, hn0, es⟩ : ∃ n0, n0 < 26 ∧ st[a]? = some (abcAt n0) := by
    refine ⟨Classical.choose (cell (a : Int)), (hg (a : Int)).1, ?_⟩
    rw [est, List.map_map, List.getElem?_map, List.getElem?_range ha]
    rfl
  obtain ⟨z, hz, ez⟩ := abc_at (v := v17)
  obtain ⟨s2, k1, k2⟩ := forT_inv0 (f := T__law_names_b1 st (a : Int)) (xs := (List.range 6).map fun i => ((i : Nat) : Int)) (s := ([] : List (List Chr))) (I := fun n s => s = (List.range n).map (nmAt st a n0)) rfl fun k x s hx e => by
    subst e
    obtain ⟨hk, hx2⟩ := List.getElem?_eq_some_iff.mp hx
    rw [List.length_map, List.length_range] at hk
    rw [List.getElem_map, List.getElem_range] at hx2
    subst hx2
    have ast : atS' st (a : Int) = some (abcAt n0) := by
      obtain ⟨h1, h2⟩ := List.getElem?_eq_some_iff.mp es
      rw [atSN rfl h1 (by omega), h2]
    have sg : atS' Tcs_1 (((n0 : Int) + ((4 : Int) * (k : Int))) % (26 : Int)) = some (abcAt ((n0 + 4 * k) % 26)) := by
      rw [atSN (n := (n0 + 4 * k) % 26) (by omega) (by rw [abc_len]; omega) (by rw [abc_len]; decide), abc_some (by omega)]
    unfold T__law_names_b1 cutSG
    rw [ast, bindS, find_abc n0 hn0, sg, bindS, if_pos (bigL (by omega)), bindS, cut_none (n := a) rfl, catN (by simp; omega), bindS, if_pos (bigL (by omega)), bindS, show ((a : Int) + 1) = ((a + 1 : Nat) : Int) by omega, cutFrom, catN (by simp; omega), bindS, appN (by simp; omega), bindS]
    refine ⟨_, rfl, ?_⟩
    rw [List.range_succ, List.map_append]
    rfl
  rw [List.length_map, List.length_range] at k2
  refine ⟨(List.range 6).map (nmAt st a n0) ++ [st ++ [abcAt z]], ?_, by simp, ?_⟩
  · unfold T__law_names
    rw [e1, bindS, em, rangeN m rfl (by omega), bindS, lcG_map (h := g) (fun x hx => ⟨rfl, by
      obtain ⟨i, hi, rfl⟩ := List.mem_map.mp hx
      have := List.mem_range.mp hi
      exact (hg _).2 (by omega) (by omega)⟩) (by simp; omega), bindS, ← est]
    unfold joinG
    rw [if_pos (bigL (by omega)), bindS, e7, bindS, modN (by omega), bindS, ea, rangeN (n := 6) 6 rfl (by decide), bindS, k1, bindS, k2, e17, bindS, ez, bindS, catN (by simp; omega), bindS, catN (by simp), bindS]
  · rw [List.nodup_append]
    refine ⟨List.pairwise_map.mpr (List.Pairwise.imp_of_mem (fun {i j} hi hj hij e => ?_) List.pairwise_lt_range), by simp, fun x hx y hy e => ?_⟩
    · have hi := List.mem_range.mp hi
      have hj := List.mem_range.mp hj
      have e2 : (nmAt st a n0 i)[a]? = (nmAt st a n0 j)[a]? := congrArg (fun l : List Chr => l[a]?) e
      rw [nmAt_at (by omega), nmAt_at (by omega)] at e2
      have := abc_inj _ (by omega) _ (by omega) (Option.some.inj e2)
      omega
    · obtain ⟨k, _, rfl⟩ := List.mem_map.mp hx
      rw [List.mem_singleton.mp hy] at e
      have := congrArg List.length e
      rw [nmAt_len (by omega), List.length_append, List.length_singleton] at this
      omega
/-! tables -/
theorem idxO {α : Type} [DecidableEq α] {xs : List α} {a : α} (h : a ∈ xs) : ∃ k : Nat, idxT xs a = some (k : Int) ∧ xs[k]? = some a := by
  refine ⟨_, idxM h, ?_⟩
  rw [List.getElem?_eq_getElem (List.idxOf_lt_length_iff.mpr h), List.getElem_idxOf]
abbrev TBs := List (List Chr × List (List Int))
theorem setK_keys {κ α : Type} [DecidableEq κ] {a : κ} {q : α} : ∀ {l : List (κ × α)}, (setK l a q).map (·.1) = l.map (·.1)
  | [] => rfl
  | p :: l => by
    unfold setK
    split
    · rfl
    · rw [List.map_cons, List.map_cons, setK_keys]
theorem setK_look {κ α : Type} [DecidableEq κ] {a c : κ} {q : α} : ∀ {l : List (κ × α)}, a ∈ l.map (·.1) → lookK (setK l a q) c = if c = a then some q else lookK l c
  | [], h => nomatch h
  | p :: l, h => by
    unfold setK
    by_cases hp : p.1 = a
    · rw [if_pos hp, lookK_cons, lookK_cons]
      by_cases hc : c = a
      · rw [if_pos hc, if_pos (hp.trans hc.symm)]
      · rw [if_neg hc, if_neg (fun z => hc (z.symm.trans hp)), if_neg (fun z => hc (z.symm.trans hp))]
    · rw [if_neg hp, lookK_cons, lookK_cons, setK_look ((List.mem_cons.mp h).resolve_left fun z => hp z.symm)]
      by_cases hc : p.1 = c
      · rw [if_pos hc, if_pos hc, if_neg (fun z => hp (hc.trans z))]
      · rw [if_neg hc, if_neg hc]
theorem look_some {κ α : Type} [DecidableEq κ] {a : κ} {l : List (κ × α)} (h : a ∈ l.map (·.1)) : ∃ q, lookK l a = some q := by
  induction l with
  | nil => cases h
  | cons p l ih =>
    rw [lookK_cons]
    by_cases hp : p.1 = a
    · exact ⟨p.2, if_pos hp⟩
    · rw [if_neg hp]
      exact ih ((List.mem_cons.mp h).resolve_left fun z => hp z.symm)
/-- tables under way: the keys stay, rows are no empty tuples and few -/
structure TbI (ks : List (List Chr)) (n : Nat) (tb : TBs) : Prop where
  ky : tb.map (·.1) = ks
  rw_ : ∀ t rs, lookK tb t = some rs → rs.length ≤ n ∧ ∀ r ∈ rs, r ≠ [] ∧ r.length ≤ 10
theorem numbers_ok (c : Int) : ∃ ns, T__law_numbers c = some ns ∧ ns.length = 5 := by
  unfold T__law_numbers
  rw [modN (by decide), bindS]
  exact ⟨_, rfl, rfl⟩
theorem drawn_row {nums : List Int} (h5 : nums.length = 5) (c : Int) (w : Nat) (h1 : 1 ≤ w) (h4 : w ≤ 4) : ∃ r : List Int, lcG (fun x3 : Int => some true) (fun x3 => (T__law_mix c ((13 : Int) + x3)).bind fun v12 => (atI nums (v12 % (5 : Int))).bind fun v13 => some v13) ((List.range w).map fun i => ((i : Nat) : Int)) = some r ∧ r ≠ [] ∧ r.length ≤ 10 := by
  have cell : ∀ x : Int, ∃ y : Int, (0 ≤ x → x ≤ 100 → (T__law_mix c ((13 : Int) + x)).bind (fun v12 => (atI nums (v12 % (5 : Int))).bind fun v13 => some v13) = some y) := fun x => by
    by_cases hx : 0 ≤ x ∧ x ≤ 100
    · obtain ⟨v, ev, _⟩ := mix_ok c (13 + x) (by omega) (by omega)
      obtain ⟨n, en, hn⟩ : ∃ n : Nat, v % 5 = (n : Int) ∧ n < 5 := ⟨(v % 5).toNat, by omega, by omega⟩
      exact ⟨nums[n]'(by omega), fun _ _ => by rw [ev, bindS, atN en (by omega), bindS]⟩
    · exact ⟨0, fun h1 h2 => absurd ⟨h1, h2⟩ hx⟩
  refine ⟨_, lcG_map (h := fun x => Classical.choose (cell x)) (fun x hx => ⟨rfl, by
    obtain ⟨i, hi, rfl⟩ := List.mem_map.mp hx
    have := List.mem_range.mp hi
    exact Classical.choose_spec (cell _) (by omega) (by omega)⟩) (by simp; omega), fun e => ?_, by simp; omega⟩
  have := congrArg List.length e
  simp at this
  omega
theorem tb_step {names ks : List (List Chr)} {nums : List Int} {tot v2 : Int} {s2 tb : TBs} {n : Nat} (c : Int) (h5 : nums.length = 5) (hm : ∃ m : Nat, (1 : Int) + v2 % 6 = (m : Int) ∧ 1 ≤ m ∧ m = ks.length) (h6 : names.length = 7) (sub : ∀ t ∈ ks, t ∈ names) (e2 : s2.map (·.1) = ks) (I : TbI ks n tb) (hn : n ≤ 1000) :
    ∃ tb' t, T__law_tables_b2 names tot nums v2 s2 c tb = some tb' ∧ TbI ks (n + 1) tb' ∧ (∀ v, T__law_mix c 12 = some v → atI ks (v % (((1 : Int) + v2 % 6))) = some t) ∧ (∃ rs, lookK tb' t = some rs ∧ rs ≠ []) ∧ ∀ u rs, lookK tb u = some rs → rs ≠ [] → ∃ rs', lookK tb' u = some rs' ∧ rs' ≠ [] := by
  obtain ⟨m, em, m1, mk⟩ := hm
  obtain ⟨v6, e6, g6⟩ := mix_ok c 12 (by decide) (by decide)
  obtain ⟨a, ea, ha⟩ : ∃ a : Nat, v6 % (m : Int) = (a : Int) ∧ a < m := by
    have x := Int.emod_nonneg v6 (show (m : Int) ≠ 0 by omega)
    have y := Int.emod_lt_of_pos v6 (show (0 : Int) < m by omega)
    exact ⟨(v6 % (m : Int)).toNat, by omega, by omega⟩
  have hak : a < ks.length := by omega
  obtain ⟨t, et⟩ : ∃ t, t = ks[a] := ⟨_, rfl⟩
  have tk : t ∈ ks := by rw [et]; exact List.getElem_mem _
  have tn := sub t tk
  have tkey : t ∈ tb.map (·.1) := by rw [I.ky]; exact tk
  obtain ⟨rs, hrs⟩ := look_some tkey
  obtain ⟨r1, r2⟩ := I.rw_ t rs hrs
  obtain ⟨ip, eip, ix⟩ : ∃ p : Nat, idxT names t = some (p : Int) ∧ p < names.length := by
    obtain ⟨k, a, b⟩ := idxO tn
    exact ⟨k, a, (List.getElem?_eq_some_iff.mp b).1⟩
  obtain ⟨v10, e10, g10⟩ := mix_ok tot (20 + (ip : Int)) (by omega) (by omega)
  obtain ⟨w, ew, w1, w4⟩ : ∃ w : Nat, 1 + v10 % 4 = (w : Int) ∧ 1 ≤ w ∧ w ≤ 4 := ⟨(1 + v10 % 4).toNat, by omega, by omega, by omega⟩
  obtain ⟨row, er, rne, rl⟩ := drawn_row h5 c w w1 w4
  obtain ⟨v16, e16, _⟩ := mix_ok c 18 (by decide) (by decide)
  obtain ⟨v19, e19, _⟩ := mix_ok c 19 (by decide) (by decide)
  have sel : ∃ q : List Int, ((if (!(decide (rs = ([] : List (List Int))))) then some (decide ((v16 % (4 : Int)) = (1 : Int))) else some false).bind fun v17 => ((if v17 then (modG v19 (rs.length : Int)).bind fun v21 => (atI rs v21).bind fun v22 => some v22 else some row) : Option (List Int))) = some q ∧ q ≠ [] ∧ q.length ≤ 10 := by
    by_cases hr : rs = []
    · rw [decide_eq_true hr]
      exact ⟨row, rfl, rne, rl⟩
    · rw [decide_eq_false hr, if_pos (by decide), bindS]
      have pos := List.length_pos_iff.mpr hr
      split
      · obtain ⟨j, ej, hj⟩ : ∃ j : Nat, v19 % (rs.length : Int) = (j : Int) ∧ j < rs.length := by
          have x := Int.emod_nonneg v19 (show (rs.length : Int) ≠ 0 by omega)
          have y := Int.emod_lt_of_pos v19 (show (0 : Int) < rs.length by omega)
          exact ⟨(v19 % (rs.length : Int)).toNat, by omega, by omega⟩
        rw [modN (by omega), bindS, ej, atN rfl hj, bindS]
        exact ⟨_, rfl, r2 _ (List.getElem_mem _)⟩
      · exact ⟨row, rfl, rne, rl⟩
  obtain ⟨q, eq, q1, q2⟩ := sel
  have fin : appKG tb t q = some (setK tb t (rs ++ [q])) := by
    unfold appKG
    rw [hrs, bindS, if_pos (bigT (by omega))]
  refine ⟨setK tb t (rs ++ [q]), t, ?_, ⟨by rw [setK_keys]; exact I.ky, fun u us hu => ?_⟩, fun v hv => ?_, ⟨_, by rw [setK_look tkey, if_pos rfl], by simp⟩, fun u us hu une => ?_⟩
  · unfold T__law_tables_b2
    rw [e6, bindS, em, modN (by omega), bindS, ea, e2, atN rfl hak, bindS, ← et, eip, bindS, e10, bindS, ew, rangeN w rfl (by omega), bindS, er, bindS, hrs, bindS]
    have sh : ((if (!(decide (rs = ([] : List (List Int))))) then (T__law_mix c (18 : Int)).bind fun v16 => some (decide ((v16 % (4 : Int)) = (1 : Int))) else some false).bind fun v17 => ((if v17 then (some rs).bind fun v18 => (T__law_mix c (19 : Int)).bind fun v19 => (some rs).bind fun v20 => (modG v19 (v20.length : Int)).bind fun v21 => (atI v18 v21).bind fun v22 => some v22 else some row) : Option (List Int)).bind fun s4 => (appKG tb t s4).bind fun v23 => some v23) = some (setK tb t (rs ++ [q])) := by
      rw [e16, e19]
      have : ∀ o : Option (List Int), o = some q → (o.bind fun s4 => (appKG tb t s4).bind fun v23 => some v23) = some (setK tb t (rs ++ [q])) := fun o h => by rw [h, bindS, fin, bindS]
      cases ho : (if (!(decide (rs = ([] : List (List Int))))) then some (decide ((v16 % (4 : Int)) = (1 : Int))) else some false) with
      | none => rw [ho] at eq; cases eq
      | some b =>
        rw [ho, bindS] at eq
        show ((if (!(decide (rs = ([] : List (List Int))))) then some (decide ((v16 % (4 : Int)) = (1 : Int))) else some false).bind _) = _
        rw [ho, bindS]
        exact this _ eq
    exact sh
  · rw [setK_look tkey] at hu
    by_cases h : u = t
    · rw [if_pos h] at hu
      cases hu
      refine ⟨by simp; omega, fun r hr => ?_⟩
      rcases List.mem_append.mp hr with hr | hr
      · exact r2 r hr
      · rw [List.mem_singleton.mp hr]
        exact ⟨q1, q2⟩
    · rw [if_neg h] at hu
      obtain ⟨x, y⟩ := I.rw_ u us hu
      exact ⟨by omega, y⟩
  · rw [e6] at hv
    cases hv
    rw [em, ea, atN rfl hak, et]
  · rw [setK_look tkey]
    by_cases h : u = t
    · rw [if_pos h]
      exact ⟨_, rfl, by simp⟩
    · rw [if_neg h]
      exact ⟨us, hu, une⟩
theorem tables_ok {names : List (List Chr)} (h7 : names.length = 7) (hn : names.Nodup) (cells : List Int) (tot : Int) (hc : cells.length ≤ 100) :
    ∃ (tb : TBs) (ks : List (List Chr)), T__law_tables names cells tot = some tb ∧ TbI ks 200 tb ∧ ks.Nodup ∧ 1 ≤ ks.length ∧ ks.length ≤ 6 ∧ ∀ t ∈ ks, t ∈ names := by
  obtain ⟨nums, e1, h5⟩ := numbers_ok tot
  obtain ⟨v2, e2, g2⟩ := mix_ok tot 11 (by decide) (by decide)
  obtain ⟨m, em, m1, m6⟩ : ∃ m : Nat, 1 + v2 % 6 = (m : Int) ∧ 1 ≤ m ∧ m ≤ 6 := ⟨(1 + v2 % 6).toNat, by omega, by omega, by omega⟩
  obtain ⟨f, ef, hf⟩ : ∃ f : Nat → Nat, (∀ x : Nat, ((x : Int) + 3 * tot) % 6 = (f x : Int)) ∧ ∀ x, f x < 6 := ⟨fun x => (((x : Int) + 3 * tot) % 6).toNat, fun x => (Int.toNat_of_nonneg (Int.emod_nonneg _ (by decide))).symm, fun x => by
    have := Int.emod_lt_of_pos ((x : Int) + 3 * tot) (show (0 : Int) < 6 by decide)
    show (((x : Int) + 3 * tot) % 6).toNat < 6
    omega⟩
  have finj : ∀ x y : Nat, x < 6 → y < 6 → f x = f y → x = y := fun x y hx hy h => by
    have a := ef x
    have b := ef y
    omega
  obtain ⟨s2, k1, k2⟩ := forT_inv0 (f := T__law_tables_b1 names tot) (xs := (List.range m).map fun i => ((i : Nat) : Int)) (s := ([] : TBs)) (I := fun n s => s = (List.range n).map fun x => ((names[f x]?).getD [], ([] : List (List Int)))) rfl fun k x s hx e => by
    subst e
    obtain ⟨hk, hx2⟩ := List.getElem?_eq_some_iff.mp hx
    rw [List.length_map, List.length_range] at hk
    rw [List.getElem_map, List.getElem_range] at hx2
    subst hx2
    have hfk := hf k
    have ek : names[f k]? = some (names[f k]'(by omega)) := List.getElem?_eq_getElem (by omega)
    unfold T__law_tables_b1 putN0
    rw [ef k, atQ rfl ek, bindS, if_pos, bindS]
    · refine ⟨_, rfl, ?_⟩
      rw [List.range_succ, List.map_append, List.map_cons, List.map_nil, ek]
      rfl
    · refine ⟨bigT (by simp; omega), fun hm => ?_⟩
      obtain ⟨p, hp, e⟩ := List.mem_map.mp hm
      obtain ⟨j, hj, rfl⟩ := List.mem_map.mp hp
      have hj := List.mem_range.mp hj
      have hfj := hf j
      have e : (names[f j]?).getD [] = names[f k]'(by omega) := e
      rw [List.getElem?_eq_getElem (by omega : f j < names.length)] at e
      have e : names[f j]'(by omega) = names[f k]'(by omega) := e
      have := (List.getElem_inj hn).mp e
      have := finj j k (by omega) (by omega) this
      omega
  rw [List.length_map, List.length_range] at k2
  obtain ⟨ks, eks⟩ : ∃ ks, ks = s2.map (·.1) := ⟨_, rfl⟩
  have kk : ks = (List.range m).map fun x => (names[f x]?).getD [] := by rw [eks, k2, List.map_map]; rfl
  have kl : ks.length = m := by rw [kk]; simp
  have sub : ∀ t ∈ ks, t ∈ names := fun t ht => by
    rw [kk] at ht
    obtain ⟨x, _, rfl⟩ := List.mem_map.mp ht
    have := hf x
    rw [List.getElem?_eq_getElem (by omega : f x < names.length)]
    exact List.getElem_mem _
  have knd : ks.Nodup := by
    rw [kk]
    refine List.pairwise_map.mpr (List.Pairwise.imp_of_mem (fun {i j} hi hj hij e => ?_) List.pairwise_lt_range)
    have hi := List.mem_range.mp hi
    have hj := List.mem_range.mp hj
    have h1 := hf i
    have h2 := hf j
    rw [List.getElem?_eq_getElem (by omega : f i < names.length), List.getElem?_eq_getElem (by omega : f j < names.length)] at e
    have e : names[f i]'(by omega) = names[f j]'(by omega) := e
    have := finj i j (by omega) (by omega) ((List.getElem_inj hn).mp e)
    omega
  have start : TbI ks 0 s2 := ⟨eks.symm, fun t rs h => by
    have hm : (t, rs) ∈ s2 := by
      obtain ⟨p, hp, e⟩ := Option.map_eq_some_iff.mp (show (s2.find? fun kv => decide (kv.1 = t)).map (·.2) = some rs from h)
      have h1 := List.mem_of_find?_eq_some hp
      have h2 := List.find?_some hp
      rw [← of_decide_eq_true h2, ← e]
      exact h1
    rw [k2] at hm
    obtain ⟨x, _, e⟩ := List.mem_map.mp hm
    have : ([] : List (List Int)) = rs := congrArg Prod.snd e
    rw [← this]
    exact ⟨Nat.le_refl _, fun r hr => nomatch hr⟩⟩
  have hm' : ∃ m : Nat, (1 : Int) + v2 % 6 = (m : Int) ∧ 1 ≤ m ∧ m = ks.length := ⟨m, em, m1, kl.symm⟩
  obtain ⟨s5, k3, k4, k5⟩ := forT_inv0 (f := T__law_tables_b2 names tot nums v2 s2) (xs := cells) (s := s2) (I := fun n s => TbI ks n s ∧ ∀ c t v, cells[0]? = some c → 0 < n → T__law_mix c 12 = some v → atI ks (v % ((1 : Int) + v2 % 6)) = some t → ∃ rs, lookK s t = some rs ∧ rs ≠ []) ⟨start, fun _ _ _ _ h => absurd h (Nat.lt_irrefl _)⟩ fun n c s hcn ⟨I, J⟩ => by
    have hn' := (List.getElem?_eq_some_iff.mp hcn).1
    obtain ⟨tb', t, r1, r2, r3, r4, r5⟩ := tb_step c h5 hm' h7 sub eks.symm I (by omega)
    refine ⟨tb', r1, r2, fun c0 t0 v hc0 _ hv ht => ?_⟩
    by_cases h0 : n = 0
    · subst h0
      rw [hcn] at hc0
      cases hc0
      have := (r3 v hv).symm.trans ht
      cases this
      exact r4
    · obtain ⟨rs, q1, q2⟩ := J c0 t0 v hc0 (by omega) hv ht
      exact r5 t0 rs q1 q2
  have weak : TbI ks 200 s5 := ⟨k4.ky, fun t rs h => let ⟨a, b⟩ := k4.rw_ t rs h; ⟨by omega, b⟩⟩
  have last : ∃ s6, ((if (!(decide (cells = ([] : List Int)))) then (T__law_mix tot (30 : Int)).bind fun v24 => some (decide ((v24 % (4 : Int)) = (1 : Int))) else some false).bind fun v25 => ((if v25 then (atI cells (0 : Int)).bind fun v26 => (T__law_mix v26 (12 : Int)).bind fun v27 => (modG v27 ((1 : Int) + (v2 % (6 : Int)))).bind fun v28 => (atI ks v28).bind fun v29 => (T__law_mix tot (31 : Int)).bind fun v30 => (lookK s5 v29).bind fun v31 => (modG v30 (v31.length : Int)).bind fun v32 => (lookK s5 v29).bind fun v33 => (atI v33 v32).bind fun v34 => (catG (cutF v34 none (some (3 : Int))) ([(7 : Int), (7 : Int)] : List Int)).bind fun v35 => (putAtKG s5 v29 v32 v35).bind fun v36 => some v36 else some s5) : Option TBs).bind fun s6 => some s6) = some s6 ∧ TbI ks 200 s6 := by
    obtain ⟨v24, e24, _⟩ := mix_ok tot 30 (by decide) (by decide)
    obtain ⟨v30, e30, g30⟩ := mix_ok tot 31 (by decide) (by decide)
    by_cases hcl : cells = []
    · rw [decide_eq_true hcl]
      exact ⟨s5, rfl, weak⟩
    · rw [decide_eq_false hcl, if_pos (by decide), e24, bindS, bindS]
      cases decide ((v24 % (4 : Int)) = (1 : Int)) with
      | false => exact ⟨s5, rfl, weak⟩
      | true =>
        have cpos := List.length_pos_iff.mpr hcl
        obtain ⟨v27, e27, g27⟩ := mix_ok cells[0] 12 (by decide) (by decide)
        obtain ⟨a, ea, ha⟩ : ∃ a : Nat, v27 % (m : Int) = (a : Int) ∧ a < m := by
          have x := Int.emod_nonneg v27 (show (m : Int) ≠ 0 by omega)
          have y := Int.emod_lt_of_pos v27 (show (0 : Int) < m by omega)
          exact ⟨(v27 % (m : Int)).toNat, by omega, by omega⟩
        have hak : a < ks.length := by omega
        obtain ⟨rs, q1, q2⟩ := k5 cells[0] ks[a] v27 (List.getElem?_eq_getElem cpos) cpos e27 (by rw [em, ea, atN rfl hak])
        have rpos := List.length_pos_iff.mpr q2
        obtain ⟨j, ej, hj⟩ : ∃ j : Nat, v30 % (rs.length : Int) = (j : Int) ∧ j < rs.length := by
          have x := Int.emod_nonneg v30 (show (rs.length : Int) ≠ 0 by omega)
          have y := Int.emod_lt_of_pos v30 (show (0 : Int) < rs.length by omega)
          exact ⟨(v30 % (rs.length : Int)).toNat, by omega, by omega⟩
        obtain ⟨w1, w2⟩ := weak.rw_ _ _ q1
        have kin : ks[a] ∈ s5.map (·.1) := by rw [k4.ky]; exact List.getElem_mem _
        rw [if_pos rfl, atN (i := 0) (n := 0) rfl cpos, bindS, e27, bindS, em, modN (by omega), bindS, ea, atN rfl hak, bindS, e30, bindS, q1, bindS, modN (by omega), bindS, ej, bindS, atN rfl hj, bindS, show cutF rs[j] none (some (3 : Int)) = rs[j].take 3 from cut_none (n := 3) rfl, catN (by simp; omega), bindS]
        unfold putAtKG
        rw [q1, bindS, if_pos (bigT (by omega))]
        have : ixN rs.length (j : Int) = some j := by
          unfold ixN
          rw [if_pos (by omega), if_pos (by omega), Int.toNat_natCast]
        rw [this]
        refine ⟨_, rfl, by rw [setK_keys]; exact k4.ky, fun t us ht => ?_⟩
        rw [setK_look kin] at ht
        split at ht
        · cases ht
          refine ⟨by rw [List.length_set]; exact w1, fun r hr => ?_⟩
          rcases List.mem_or_eq_of_mem_set hr with hr | rfl
          · exact w2 r hr
          · exact ⟨by simp, by simp; omega⟩
        · exact weak.rw_ t us ht
  obtain ⟨s6, k6, k7⟩ := last
  refine ⟨s6, ks, ?_, k7, knd, by omega, by omega, sub⟩
  unfold T__law_tables
  rw [e1, bindS, e2, bindS, em, rangeN m rfl (by omega), bindS, k1, bindS, k3, bindS, ← em]
  have : List.map (fun x : (List Chr) × (List (List Int)) => x.1) s2 = ks := eks.symm
  rw [this]
  exact k6
/-! questions -/
theorem question_ok {names ks : List (List Chr)} {tb : TBs} (h7 : names.length = 7) (tot : Int) (hk : tb.map (·.1) = ks) (k1 : 1 ≤ ks.length) (k6 : ks.length ≤ 6) (sub : ∀ t ∈ ks, t ∈ names) :
    ∃ qu, T__law_question names tb tot = some qu ∧ 1 ≤ qu.length ∧ qu.length ≤ 6 := by
  obtain ⟨v1, e1, g1⟩ := mix_ok tot 32 (by decide) (by decide)
  obtain ⟨v8, e8, _⟩ := mix_ok tot 40 (by decide) (by decide)
  obtain ⟨v9, e9, _⟩ := mix_ok tot 41 (by decide) (by decide)
  obtain ⟨v11, e11, _⟩ := mix_ok tot 42 (by decide) (by decide)
  obtain ⟨v12, e12, _⟩ := mix_ok tot 43 (by decide) (by decide)
  obtain ⟨m, em, m1, m6⟩ : ∃ m : Nat, 1 + v1 % 6 = (m : Int) ∧ 1 ≤ m ∧ m ≤ 6 := ⟨(1 + v1 % 6).toNat, by omega, by omega, by omega⟩
  have hk' : List.map (fun x : (List Chr) × (List (List Int)) => x.1) tb = ks := hk
  obtain ⟨qu, q1, q2⟩ := forT_inv0 (f := T__law_question_b1 names tb tot) (xs := (List.range m).map fun i => ((i : Nat) : Int)) (s := ([] : List (List Chr × List Chr))) (I := fun n s => s.length = n) rfl fun k x s hx e => by
    obtain ⟨hk2, hx2⟩ := List.getElem?_eq_some_iff.mp hx
    rw [List.length_map, List.length_range] at hk2
    rw [List.getElem_map, List.getElem_range] at hx2
    subst hx2
    obtain ⟨v3, e3, g3⟩ := mix_ok tot (33 + (k : Int)) (by omega) (by omega)
    obtain ⟨a, ea, ha⟩ : ∃ a : Nat, v3 % (ks.length : Int) = (a : Int) ∧ a < ks.length := by
      have x := Int.emod_nonneg v3 (show (ks.length : Int) ≠ 0 by omega)
      have y := Int.emod_lt_of_pos v3 (show (0 : Int) < ks.length by omega)
      exact ⟨(v3 % (ks.length : Int)).toNat, by omega, by omega⟩
    obtain ⟨ip, eip, ei2⟩ := idxO (sub ks[a] (List.getElem_mem _))
    have hip := (List.getElem?_eq_some_iff.mp ei2).1
    obtain ⟨v7, e7, g7⟩ := mix_ok tot (20 + (ip : Int)) (by omega) (by omega)
    have s2 : ∃ w : Int, ((if (decide ((v8 % (4 : Int)) = (1 : Int))) then (T__law_mix tot (41 : Int)).bind fun v9 => some (decide ((v9 % (6 : Int)) = (k : Int))) else some false).bind fun v10 => ((if v10 then some ((1 : Int) + (((1 : Int) + (v7 % (4 : Int))) % (4 : Int))) else some ((1 : Int) + (v7 % (4 : Int)))) : Option Int)) = some w := by
      rw [e9]
      by_cases h : (v8 % (4 : Int)) = (1 : Int)
      · rw [decide_eq_true h, if_pos rfl, bindS, bindS]
        split <;> exact ⟨_, rfl⟩
      · rw [decide_eq_false h]
        exact ⟨_, rfl⟩
    have s3 : ∃ w : List Chr, ((if (decide ((v11 % (4 : Int)) = (1 : Int))) then (T__law_mix tot (43 : Int)).bind fun v12 => some (decide ((v12 % (6 : Int)) = (k : Int))) else some false).bind fun v13 => ((if v13 then (atI names (6 : Int)).bind fun v14 => some v14 else some ks[a]) : Option (List Chr))) = some w := by
      rw [e12]
      by_cases h : (v11 % (4 : Int)) = (1 : Int)
      · rw [decide_eq_true h, if_pos rfl, bindS, bindS]
        split
        · rw [atN (i := 6) (n := 6) rfl (by omega), bindS]
          exact ⟨_, rfl⟩
        · exact ⟨_, rfl⟩
      · rw [decide_eq_false h]
        exact ⟨_, rfl⟩
    obtain ⟨w2, z2⟩ := s2
    obtain ⟨w3, z3⟩ := s3
    obtain ⟨o2, p2, z2⟩ := Option.bind_eq_some_iff.mp z2
    obtain ⟨o3, p3, z3⟩ := Option.bind_eq_some_iff.mp z3
    have l4 : Tcs_3.length = 4 := by decide
    have cutl : (cutF Tcs_3 none (some w2)).length ≤ 4 := by
      unfold cutF
      rw [List.length_take, List.length_drop, l4]
      omega
    refine ⟨s ++ [(w3, cutF Tcs_3 none (some w2))], ?_, by rw [List.length_append, List.length_singleton, e]⟩
    unfold T__law_question_b1 cutSG listS
    rw [e3, bindS, hk', modN (by omega), bindS, ea, atN rfl ha, bindS, eip, bindS, e7, bindS, e8, bindS, p2, bindS, z2, bindS, e11, bindS, p3, bindS, z3, bindS, if_pos (bigL (by rw [l4]; decide)), bindS, if_pos (bigL (by omega)), bindS, appN (by omega), bindS]
  rw [List.length_map, List.length_range] at q2
  refine ⟨qu, ?_, by omega, by omega⟩
  unfold T__law_question
  rw [e1, bindS, em, rangeN m rfl (by omega), bindS, q1, bindS]
/-! what is due, and what is told -/
theorem rle_last {s : List (List Int)} (h : s.Pairwise (· < ·)) (ne : s ≠ []) : ∀ y ∈ s, y = s.getLast ne ∨ y < s.getLast ne := fun y hy => by
  have e := List.dropLast_concat_getLast ne
  have hp : (s.dropLast ++ [s.getLast ne]).Pairwise (· < ·) := by rw [e]; exact h
  rw [← e] at hy
  rcases List.mem_append.mp hy with hy | hy
  · exact .inr ((List.pairwise_append.mp hp).2.2 y hy _ (List.mem_singleton.mpr rfl))
  · exact .inl (List.mem_singleton.mp hy)
def addU (s : List (List Int)) (x : List Int) : List (List Int) := if x ∈ s then s else s ++ [x]
theorem in_b1 {s : List (List Int)} {x : List Int} (h : s.Pairwise (· < ·)) (hx : ∀ y ∈ s, y ≤ x) (hl : s.length ≤ 1000) : T_in_order_b1 x s = some (addU s x) ∧ (addU s x).Pairwise (· < ·) ∧ (addU s x).length ≤ s.length + 1 ∧ ∀ y, y ∈ addU s x ↔ y ∈ s ∨ y = x := by
  have lt_of : ∀ y, y ≤ x → y ≠ x → y < x := fun y h1 h2 => rlt_of_le h1 h2
  unfold T_in_order_b1 addU
  by_cases ne : s = []
  · subst ne
    rw [decide_eq_true rfl, if_pos rfl, bindS, if_pos rfl, if_neg (by simp), appN (by simp), bindS]
    exact ⟨rfl, by simp, by simp, fun y => by simp⟩
  · have pos := List.length_pos_iff.mpr ne
    have at_ : atI s ((s.length : Int) - 1) = some (s.getLast ne) := by
      rw [atN (n := s.length - 1) (by omega) (by omega), List.getLast_eq_getElem]
    rw [decide_eq_false ne, if_neg (by decide), at_, bindS]
    by_cases e : s.getLast ne = x
    · have hm : x ∈ s := e ▸ List.getLast_mem ne
      rw [decide_eq_true e, if_pos hm]
      exact ⟨rfl, h, by omega, fun y => ⟨.inl, fun z => z.elim id fun z => z ▸ hm⟩⟩
    · have hm : x ∉ s := fun hm => by
        rcases rle_last h ne x hm with z | z
        · exact e z.symm
        · exact rlt_irrefl _ (rlt_trans z (lt_of _ (hx _ (List.getLast_mem ne)) e))
      rw [decide_eq_false e, if_neg hm, bindS, if_pos (by decide), appN (by omega), bindS]
      refine ⟨rfl, List.pairwise_append.mpr ⟨h, by simp, fun y hy z hz => ?_⟩, by simp, fun y => by simp⟩
      rw [List.mem_singleton.mp hz]
      exact lt_of y (hx y hy) fun q => hm (q ▸ hy)
/-- the rows of one table, in order, each once -/
def uniq (ys : List (List Int)) : List (List Int) := ys.foldl addU []
theorem loops_ok : ∀ {ys s : List (List Int)}, ys.Pairwise (· ≤ ·) → s.Pairwise (· < ·) → (∀ y ∈ s, ∀ x ∈ ys, y ≤ x) → s.length + ys.length ≤ 1000 →
    forT T_in_order_b1 ys s = some (ys.foldl addU s) ∧ (ys.foldl addU s).length ≤ s.length + ys.length ∧ ∀ q : List Chr × List Chr, (∀ x ∈ ys, x.length = q.2.length) → forC (T__law_due_b1 q) ys s = some (.nx (ys.foldl addU s))
  | [], s, _, _, _, _ => ⟨rfl, Nat.le_refl _, fun _ _ => rfl⟩
  | x :: ys, s, hy, hs, hle, hl => by
    rw [List.pairwise_cons] at hy
    rw [List.length_cons] at hl
    obtain ⟨a, b, c, d⟩ := in_b1 hs (fun y h => hle y h x List.mem_cons_self) (by omega)
    obtain ⟨i1, i2, i3⟩ := loops_ok (ys := ys) (s := addU s x) hy.2 b (fun y h z hz => by
      rcases (d y).mp h with h | rfl
      · exact hle y h z (List.mem_cons_of_mem _ hz)
      · exact hy.1 z hz) (by omega)
    refine ⟨?_, by rw [List.foldl_cons, List.length_cons]; omega, fun q hq => ?_⟩
    · unfold forT
      rw [a, bindS]
      exact i1
    · have one : T__law_due_b1 q x s = some (.nx (addU s x)) := by
        unfold T__law_due_b1 addU
        rw [decide_eq_true (show (x.length : Int) = (q.2.length : Int) by rw [hq x List.mem_cons_self]), if_neg (by decide)]
        by_cases hm : x ∈ s
        · rw [decide_eq_true hm, if_neg (by decide), if_pos hm]
        · rw [decide_eq_false hm, if_pos (by decide), if_neg hm, appN (by omega), bindS]
      unfold forC
      rw [one, bindS]
      exact i3 q fun z hz => hq z (List.mem_cons_of_mem _ hz)
theorem due_bad {q : List Chr × List Chr} : ∀ {ys s : List (List Int)}, s.length + ys.length ≤ 1000 → (∃ x ∈ ys, x.length ≠ q.2.length) → forC (T__law_due_b1 q) ys s = some (.rt (Sum.inl 2))
  | [], _, _, ⟨_, h, _⟩ => nomatch h
  | x :: ys, s, hl, ⟨y, hy, hne⟩ => by
    rw [List.length_cons] at hl
    unfold forC
    by_cases hx : x.length = q.2.length
    · obtain ⟨s', e, l⟩ : ∃ s', T__law_due_b1 q x s = some (.nx s') ∧ s'.length ≤ s.length + 1 := by
        unfold T__law_due_b1
        rw [decide_eq_true (show (x.length : Int) = (q.2.length : Int) by rw [hx]), if_neg (by decide)]
        by_cases hm : x ∈ s
        · rw [decide_eq_true hm]
          exact ⟨s, rfl, by omega⟩
        · rw [decide_eq_false hm, if_pos (by decide), appN (by omega), bindS]
          exact ⟨_, rfl, by simp⟩
      rw [e, bindS]
      refine due_bad (by omega) ⟨y, (List.mem_cons.mp hy).resolve_left fun z => hne (z ▸ hx), hne⟩
    · have : T__law_due_b1 q x s = some (.rt (Sum.inl 2)) := by
        unfold T__law_due_b1
        rw [decide_eq_false (show ¬ (x.length : Int) = (q.2.length : Int) by omega), if_pos (by decide)]
      rw [this]
      rfl
theorem fold_sub : ∀ {ys s : List (List Int)} {r : List Int}, r ∈ ys.foldl addU s → r ∈ s ∨ r ∈ ys
  | [], _, _, h => .inl h
  | x :: ys, s, r, h => by
    rcases fold_sub (ys := ys) h with h | h
    · unfold addU at h
      split at h
      · exact .inl h
      · rcases List.mem_append.mp h with h | h
        · exact .inl h
        · exact .inr (by rw [List.mem_singleton.mp h]; exact List.mem_cons_self)
    · exact .inr (List.mem_cons_of_mem _ h)
def GoodT (tb : TBs) : Prop := ∀ t rs, lookK tb t = some rs → rs.length ≤ 200 ∧ ∀ r ∈ rs, r ≠ [] ∧ r.length ≤ 10
theorem step_q {tb : TBs} (G : GoodT tb) (q : List Chr × List Chr) {s : List (List (List Int))} (hs : s.length ≤ 1000) :
    (lookK tb q.1 = none ∧ T__law_due_b2 tb q s = some (.rt (.inl 1)) ∧ T_rows_of_b2 tb q s = none)
    ∨ (∃ rs, lookK tb q.1 = some rs ∧ rs.any (badW q) = true ∧ T__law_due_b2 tb q s = some (.rt (.inl 2)) ∧ T_rows_of_b2 tb q s = none)
    ∨ (∃ rs u, lookK tb q.1 = some rs ∧ rs.any (badW q) = false ∧ T__law_due_b2 tb q s = some (.nx (s ++ [u])) ∧ T_rows_of_b2 tb q s = some (.nx (s ++ [u])) ∧ u.length ≤ 200 ∧ ∀ r ∈ u, r.length ≤ 10) := by
  cases hl : lookK tb q.1 with
  | none =>
    left
    refine ⟨rfl, ?_, ?_⟩
    · unfold T__law_due_b2
      rw [hl]
      rfl
    · unfold T_rows_of_b2
      rw [hl]
      rfl
  | some rs =>
    right
    obtain ⟨g1, g2⟩ := G _ _ hl
    obtain ⟨ys, e1, e2, e3⟩ := srtR_ok (l := rs) (by omega) fun r hr => (g2 r hr).1
    have yl : ys.length ≤ 200 := by rw [e2.length_eq]; exact g1
    have hb1 : ∀ (xs : List (List Int)), xs.any (badW q) = true → forC (T_rows_of_b1 q) xs () = none := fun xs => by
      induction xs with
      | nil => intro h; simp at h
      | cons r xs ih =>
        intro h
        unfold forC
        have : T_rows_of_b1 q r () = if badW q r = true then none else some (.nx ()) := rfl
        rw [this]
        cases hr : badW q r with
        | true => rfl
        | false =>
          rw [if_neg (by decide), bindS]
          exact ih (by rw [List.any_cons, hr, Bool.false_or] at h; exact h)
    have hb0 : ∀ (xs : List (List Int)), xs.any (badW q) = false → forC (T_rows_of_b1 q) xs () = some (.nx ()) := fun xs => by
      induction xs with
      | nil => intro _; rfl
      | cons r xs ih =>
        intro h
        rw [List.any_cons, Bool.or_eq_false_iff] at h
        unfold forC
        have : T_rows_of_b1 q r () = if badW q r = true then none else some (.nx ()) := rfl
        rw [this, h.1, if_neg (by decide), bindS]
        exact ih h.2
    have bw : ∀ r, badW q r = true ↔ r.length ≠ q.2.length := fun r => by
      unfold badW
      rw [Bool.not_eq_true', decide_eq_false_iff_not]
      omega
    cases hb : rs.any (badW q) with
    | true =>
      left
      refine ⟨rs, rfl, hb, ?_, ?_⟩
      · obtain ⟨r, hr, hw⟩ := List.any_eq_true.mp hb
        unfold T__law_due_b2
        rw [hl, if_neg (by simp), bindS, e1, bindS, due_bad (by simp; omega) ⟨r, e2.mem_iff.mpr hr, (bw r).mp hw⟩, bindS]
        rfl
      · unfold T_rows_of_b2
        rw [hl, if_neg (by simp), bindS, hb1 rs hb]
        rfl
    | false =>
      right
      obtain ⟨l1, l2, l3⟩ := loops_ok (ys := ys) (s := []) e3 List.Pairwise.nil (fun _ h => nomatch h) (by simp; omega)
      have io : T_in_order rs = some (ys.foldl addU []) := by
        unfold T_in_order
        rw [e1, bindS, l1, bindS]
      refine ⟨rs, ys.foldl addU [], rfl, hb, ?_, ?_, by simp at l2; omega, fun r hr => ?_⟩
      · have wid : ∀ x ∈ ys, x.length = q.2.length := fun x hx => Classical.byContradiction fun h => by
          have := List.any_eq_true.mpr ⟨x, e2.mem_iff.mp hx, (bw x).mpr h⟩
          rw [hb] at this
          cases this
        unfold T__law_due_b2
        rw [hl, if_neg (by simp), bindS, e1, bindS, l3 q wid, bindS]
        show (appG s _).bind _ = _
        rw [appN (by omega), bindS]
      · unfold T_rows_of_b2 appE
        rw [hl, if_neg (by simp), bindS, hb0 rs hb, bindS]
        show ((some rs).bind fun v2 => (T_in_order v2).bind fun v3 => (if s.length < BIG then some (s ++ [v3]) else none).bind fun v4 => some (Ctl.nx v4)) = _
        rw [bindS, io, bindS, if_pos (bigT (by omega)), bindS]
      · rcases fold_sub hr with h | h
        · cases h
        · exact (g2 r (e2.mem_iff.mp h)).2
theorem both_ok {tb : TBs} (G : GoodT tb) : ∀ {qu : List (List Chr × List Chr)} {s : List (List (List Int))}, s.length + qu.length ≤ 1000 → (∀ l ∈ s, l.length ≤ 200 ∧ ∀ r ∈ l, r.length ≤ 10) →
    (∃ k c, forC (T__law_due_b2 tb) qu s = some (.rt (.inl k)) ∧ rowsX tb qu s = some c ∧ forC (T_rows_of_b2 tb) qu s = none ∧ ((k = 1 ∧ c = "NoTable") ∨ (k = 2 ∧ c = "NoWidth")))
    ∨ ∃ L, forC (T__law_due_b2 tb) qu s = some (.nx L) ∧ forC (T_rows_of_b2 tb) qu s = some (.nx L) ∧ L.length = s.length + qu.length ∧ ∀ l ∈ L, l.length ≤ 200 ∧ ∀ r ∈ l, r.length ≤ 10
  | [], s, _, h => .inr ⟨s, rfl, rfl, rfl, h⟩
  | q :: qu, s, hl, h => by
    rw [List.length_cons] at hl
    rcases step_q G q (s := s) (by omega) with ⟨a, b, c⟩ | ⟨rs, a, a2, b, c⟩ | ⟨rs, u, a, a2, b, c, d, e⟩
    · refine .inl ⟨1, "NoTable", ?_, ?_, ?_, .inl ⟨rfl, rfl⟩⟩
      · unfold forC
        rw [b, bindS]
      · unfold rowsX
        rw [a]
      · unfold forC
        rw [c]
        rfl
    · refine .inl ⟨2, "NoWidth", ?_, ?_, ?_, .inr ⟨rfl, rfl⟩⟩
      · unfold forC
        rw [b, bindS]
      · unfold rowsX
        rw [a]
        simp only
        rw [if_pos a2]
      · unfold forC
        rw [c]
        rfl
    · have rx : rowsX tb (q :: qu) s = rowsX tb qu (s ++ [u]) := by
        rw [rowsX, a]
        simp only
        rw [if_neg (by rw [a2]; decide), c]
      have h2 : ∀ l ∈ s ++ [u], l.length ≤ 200 ∧ ∀ r ∈ l, r.length ≤ 10 := fun l hm => by
        rcases List.mem_append.mp hm with hm | hm
        · exact h l hm
        · rw [List.mem_singleton.mp hm]
          exact ⟨d, e⟩
      rcases both_ok G (qu := qu) (s := s ++ [u]) (by simp; omega) h2 with ⟨k, c', p1, p2, p3, p4⟩ | ⟨L, p1, p2, p3, p4⟩
      · refine .inl ⟨k, c', ?_, by rw [rx]; exact p2, ?_, p4⟩
        · unfold forC
          rw [b, bindS]
          exact p1
        · unfold forC
          rw [c, bindS]
          exact p3
      · refine .inr ⟨L, ?_, ?_, by simp at p3; rw [List.length_cons]; omega, p4⟩
        · unfold forC
          rw [b, bindS]
          exact p1
        · unfold forC
          rw [c, bindS]
          exact p2
theorem marks1 : T__law_marks (some "NoTable") = some [0] := by
  unfold T__law_marks
  have h1 : isEG [("NoTable" , true), ("NoWidth" , false)] (some "NoTable") = some true := by decide +kernel
  have h2 : isEG [("NoTable" , false), ("NoWidth" , true)] (some "NoTable") = some false := by decide +kernel
  have h3 : isEG [("NoTable" , false), ("NoWidth" , false)] (some "NoTable") = some false := by decide +kernel
  have h4 : isEG (List.map (fun c => (c , true)) ["NoTable", "NoWidth"]) (some "NoTable") = some true := by decide +kernel
  rw [h1, h2, h3, h4]
  decide +kernel
theorem marks2 : T__law_marks (some "NoWidth") = some [1] := by
  unfold T__law_marks
  have h1 : isEG [("NoTable" , true), ("NoWidth" , false)] (some "NoWidth") = some false := by decide +kernel
  have h2 : isEG [("NoTable" , false), ("NoWidth" , true)] (some "NoWidth") = some true := by decide +kernel
  have h3 : isEG [("NoTable" , false), ("NoWidth" , false)] (some "NoWidth") = some false := by decide +kernel
  have h4 : isEG (List.map (fun c => (c , true)) ["NoTable", "NoWidth"]) (some "NoWidth") = some true := by decide +kernel
  rw [h1, h2, h3, h4]
  decide +kernel
theorem is_rows_ok {L : List (List (List Int))} (h : ∀ l ∈ L, l.length ≤ 200 ∧ ∀ r ∈ l, r.length ≤ 10) : T__law_is_rows L L = some true := by
  have key := forC_all (f := T__law_is_rows_b2) (p := fun _ => true) (r := false) (xs := L) fun l hl => by
    have k1 := forC_all (f := T__law_is_rows_b1) (p := fun _ => true) (r := false) (xs := l) fun r hr => by
      have r10 := (h l hl).2 r hr
      unfold T__law_is_rows_b1
      rw [if_neg (by decide), show lcG (fun x3 : Int => (T__law_whole x3).bind fun v1 => some (!v1)) (fun x3 => some x3) r = some ((r.filter fun _ => false).map fun x => x) from lcG_ok (p := fun _ => false) (h := fun x => x) (fun x _ => ⟨rfl, fun h => nomatch h⟩) (by omega), bindS]
      simp
    unfold T__law_is_rows_b2
    rw [if_neg (by decide), k1, bindS]
    simp [behind]
  unfold T__law_is_rows
  rw [decide_eq_true rfl, if_neg (by decide), key, bindS]
  simp [behind]
theorem law_T (ns : List Int) (h : ns.length ≤ 63) : T_law (ns.take 60) = some true := by
  obtain ⟨names, e1, n7, nd⟩ := names_ok (ns.take 60).sum
  obtain ⟨tb, ks, e2, TI, knd, k1, k6, sub⟩ := tables_ok n7 nd (ns.take 60) (ns.take 60).sum (by rw [List.length_take]; omega)
  obtain ⟨qu, e3, q1, q6⟩ := question_ok (tb := tb) n7 (ns.take 60).sum TI.ky k1 k6 sub
  have G : GoodT tb := fun t rs hh => TI.rw_ t rs hh
  have same : eqKG tb tb = some true := if_pos ⟨rfl, by rw [TI.ky]; exact knd⟩
  unfold T_law
  rw [e1, bindS, e2, bindS, e3, bindS]
  rcases both_ok G (qu := qu) (s := []) (by simp; omega) (fun _ h => nomatch h) with ⟨k, c, p1, p2, p3, p4⟩ | ⟨L, p1, p2, p3, p4⟩
  · have due : T__law_due tb qu = some (.inl k) := by
      unfold T__law_due
      rw [p1, bindS]
      rfl
    have ro : T_rows_of tb qu = none := by
      unfold T_rows_of
      rw [p3]
      rfl
    have er : T__law_error tb qu = some (some c) := by
      unfold T__law_error tryG T_rows_of_x
      rw [ro, p2]
      rfl
    have mk : T__law_marks (some c) = some [k - 1] := by
      rcases p4 with ⟨rfl, rfl⟩ | ⟨rfl, rfl⟩
      · exact marks1
      · exact marks2
    rw [due, bindS, if_pos (by rfl), er, bindS, mk, bindS]
    show ((some k).bind _) = _
    rw [bindS, decide_eq_true rfl, if_neg (by decide), bindS, same, bindS, if_pos rfl, decide_eq_true rfl, if_pos rfl, e3, bindS, decide_eq_true rfl, bindS, bindS]
  · have due : T__law_due tb qu = some (.inr L) := by
      unfold T__law_due
      rw [p1, bindS]
      rfl
    have ro : T_rows_of tb qu = some L := by
      unfold T_rows_of
      rw [p2, bindS]
      rfl
    have Ll : L.length = qu.length := by simpa using p3
    have Lne : L ≠ [] := fun e => by rw [e] at Ll; simp at Ll; omega
    have all : (List.all L (fun l => decide (l.length < BIG))) = true := List.all_eq_true.mpr fun l hl => decide_eq_true (bigT (by have := (p4 l hl).1; omega))
    rw [due, bindS, if_neg (by simp), ro, bindS]
    show ((some L).bind _) = _
    rw [bindS, is_rows_ok p4, bindS, if_neg (by decide), if_pos Lne, bindS, if_pos all, bindS, if_pos (bigT (by omega)), bindS, bindS]
    show ((some L).bind _) = _
    rw [bindS, decide_eq_true rfl, if_neg (by decide), bindS, same, bindS, if_pos rfl, decide_eq_true rfl, if_pos rfl, e3, bindS, decide_eq_true rfl, bindS, bindS]
theorem law_true (ns : List Int) (h : ns.length ≤ 63) : ∃ env, lawAns ns = .ok (.rt (.fz (.bl true)) env) := sm_law (law_T ns h)
end J
open PySem PySem.W PyProof.Rows in
set_option maxRecDepth 100000 in
set_option maxHeartbeats 0 in
theorem PySem.Challenge.cw_joinwood_k02_rows_holds : PySem.Challenge.rw_joinwood_k02_rows.Holds := by
  w_on; o_law; k_head; (case hw => w_witness2)
  k_fill
  refine J.walk (l := PySem.Challenge.rw_joinwood_k02_rows) rfl rfl (fun w h Y => PySem.W.kIn_of Y) ?F
  case F =>
    intro w mg fa h KX G hmg
    refine' J.all_mk KX G hmg J.law_true ?a1 ?l1 ?c1 ?k1 ?a2 ?l2 ?c2 ?k2 ?a3 ?l3 ?c3 ?k3 ?a4 ?l4 ?c4 ?k4 ?a5 ?l5 ?c5 ?k5 ?a6 ?l6 ?c6 ?k6 ?a7 ?l7 ?c7 ?k7 ?a8 ?l8 ?c8 ?k8 ?a9 ?l9 ?c9 ?k9 ?a10 ?l10 ?c10 ?k10 ?a11 ?l11 ?c11 ?k11 ?a12 ?l12 ?c12 ?k12 ?a13 ?l13 ?c13 ?k13 ?xa_JoinError ?xk_JoinError ?xe_JoinError ?xb_JoinError ?xv_JoinError ?xs_JoinError ?xn_JoinError ?xt_JoinError ?xd_JoinError ?xg_JoinError ?xh_JoinError ?xc_JoinError ?xm_JoinError ?xa_NoTable ?xk_NoTable ?xe_NoTable ?xb_NoTable ?xv_NoTable ?xs_NoTable ?xn_NoTable ?xt_NoTable ?xd_NoTable ?xg_NoTable ?xh_NoTable ?xc_NoTable ?xm_NoTable ?xa_NoWidth ?xk_NoWidth ?xe_NoWidth ?xb_NoWidth ?xv_NoWidth ?xs_NoWidth ?xn_NoWidth ?xt_NoWidth ?xd_NoWidth ?xg_NoWidth ?xh_NoWidth ?xc_NoWidth ?xm_NoWidth ?xa_NoAnswer ?xk_NoAnswer ?xe_NoAnswer ?xb_NoAnswer ?xv_NoAnswer ?xs_NoAnswer ?xn_NoAnswer ?xt_NoAnswer ?xd_NoAnswer ?xg_NoAnswer ?xh_NoAnswer ?xc_NoAnswer ?xm_NoAnswer ?xa_NoText ?xk_NoText ?xe_NoText ?xb_NoText ?xv_NoText ?xs_NoText ?xn_NoText ?xt_NoText ?xd_NoText ?xg_NoText ?xh_NoText ?xc_NoText ?xm_NoText ?xa_NoRow ?xk_NoRow ?xe_NoRow ?xb_NoRow ?xv_NoRow ?xs_NoRow ?xn_NoRow ?xt_NoRow ?xd_NoRow ?xg_NoRow ?xh_NoRow ?xc_NoRow ?xm_NoRow ?xp_NoTable_NoTable ?xp_NoWidth_NoTable ?xp_NoTable_NoWidth ?xp_NoWidth_NoWidth ?xp_NoTable_NoAnswer ?xp_NoWidth_NoAnswer ?xp_NoTable_NoText ?xp_NoWidth_NoText ?xp_NoTable_NoRow ?xp_NoWidth_NoRow ?xp_NoTable_JoinError ?xp_NoWidth_JoinError ?xo1 ?xo2 ?z_sum ?z_isinstance ?z_int ?z_list ?z_range ?z_tuple ?z_len ?z_sorted ?z_ValueError ?z_bool
    (case a1 => k_is)
    (case l1 => k_is)
    (case c1 => k_is)
    (case k1 => k_is)
    (case a2 => k_is)
    (case l2 => k_is)
    (case c2 => k_is)
    (case k2 => k_is)
    (case a3 => k_is)
    (case l3 => k_is)
    (case c3 => k_is)
    (case k3 => k_is)
    (case a4 => k_is)
    (case l4 => k_is)
    (case c4 => k_is)
    (case k4 => k_is)
    (case a5 => k_is)
    (case l5 => k_is)
    (case c5 => k_is)
    (case k5 => k_is)
    (case a6 => k_is)
    (case l6 => k_is)
    (case c6 => k_is)
    (case k6 => k_is)
    (case a7 => k_is)
    (case l7 => k_is)
    (case c7 => k_is)
    (case k7 => k_is)
    (case a8 => k_is)
    (case l8 => k_is)
    (case c8 => k_is)
    (case k8 => k_is)
    (case a9 => k_is)
    (case l9 => k_is)
    (case c9 => k_is)
    (case k9 => k_is)
    (case a10 => k_is)
    (case l10 => k_is)
    (case c10 => k_is)
    (case k10 => k_is)
    (case a11 => k_is)
    (case l11 => k_is)
    (case c11 => k_is)
    (case k11 => k_is)
    (case a12 => k_is)
    (case l12 => k_is)
    (case c12 => k_is)
    (case k12 => k_is)
    (case a13 => k_is)
    (case l13 => k_is)
    (case c13 => k_is)
    (case k13 => k_is)
    (case xa_JoinError => k_is)
    (case xk_JoinError => k_is)
    (case xe_JoinError => k_exc)
    (case xb_JoinError => k_is)
    (case xv_JoinError => k_is)
    (case xs_JoinError => k_is)
    (case xn_JoinError => k_is)
    (case xt_JoinError => k_is)
    (case xd_JoinError => k_is)
    (case xg_JoinError => k_is)
    (case xh_JoinError => k_is)
    (case xc_JoinError => k_is)
    (case xm_JoinError => k_is)
    (case xa_NoTable => k_is)
    (case xk_NoTable => k_is)
    (case xe_NoTable => k_exc)
    (case xb_NoTable => k_is)
    (case xv_NoTable => k_is)
    (case xs_NoTable => k_is)
    (case xn_NoTable => k_is)
    (case xt_NoTable => k_is)
    (case xd_NoTable => k_is)
    (case xg_NoTable => k_is)
    (case xh_NoTable => k_is)
    (case xc_NoTable => k_is)
    (case xm_NoTable => k_is)
    (case xa_NoWidth => k_is)
    (case xk_NoWidth => k_is)
    (case xe_NoWidth => k_exc)
    (case xb_NoWidth => k_is)
    (case xv_NoWidth => k_is)
    (case xs_NoWidth => k_is)
    (case xn_NoWidth => k_is)
    (case xt_NoWidth => k_is)
    (case xd_NoWidth => k_is)
    (case xg_NoWidth => k_is)
    (case xh_NoWidth => k_is)
    (case xc_NoWidth => k_is)
    (case xm_NoWidth => k_is)
    (case xa_NoAnswer => k_is)
    (case xk_NoAnswer => k_is)
    (case xe_NoAnswer => k_exc)
    (case xb_NoAnswer => k_is)
    (case xv_NoAnswer => k_is)
    (case xs_NoAnswer => k_is)
    (case xn_NoAnswer => k_is)
    (case xt_NoAnswer => k_is)
    (case xd_NoAnswer => k_is)
    (case xg_NoAnswer => k_is)
    (case xh_NoAnswer => k_is)
    (case xc_NoAnswer => k_is)
    (case xm_NoAnswer => k_is)
    (case xa_NoText => k_is)
    (case xk_NoText => k_is)
    (case xe_NoText => k_exc)
    (case xb_NoText => k_is)
    (case xv_NoText => k_is)
    (case xs_NoText => k_is)
    (case xn_NoText => k_is)
    (case xt_NoText => k_is)
    (case xd_NoText => k_is)
    (case xg_NoText => k_is)
    (case xh_NoText => k_is)
    (case xc_NoText => k_is)
    (case xm_NoText => k_is)
    (case xa_NoRow => k_is)
    (case xk_NoRow => k_is)
    (case xe_NoRow => k_exc)
    (case xb_NoRow => k_is)
    (case xv_NoRow => k_is)
    (case xs_NoRow => k_is)
    (case xn_NoRow => k_is)
    (case xt_NoRow => k_is)
    (case xd_NoRow => k_is)
    (case xg_NoRow => k_is)
    (case xh_NoRow => k_is)
    (case xc_NoRow => k_is)
    (case xm_NoRow => k_is)
    (case xp_NoTable_NoTable => k_is)
    (case xp_NoWidth_NoTable => k_is)
    (case xp_NoTable_NoWidth => k_is)
    (case xp_NoWidth_NoWidth => k_is)
    (case xp_NoTable_NoAnswer => k_is)
    (case xp_NoWidth_NoAnswer => k_is)
    (case xp_NoTable_NoText => k_is)
    (case xp_NoWidth_NoText => k_is)
    (case xp_NoTable_NoRow => k_is)
    (case xp_NoWidth_NoRow => k_is)
    (case xp_NoTable_JoinError => k_is)
    (case xp_NoWidth_JoinError => k_is)
    (case xo1 => k_is)
    (case xo2 => k_is)
    (case z_sum => k_is)
    (case z_isinstance => k_is)
    (case z_int => k_is)
    (case z_list => k_is)
    (case z_range => k_is)
    (case z_tuple => k_is)
    (case z_len => k_is)
    (case z_sorted => k_is)
    (case z_ValueError => k_is)
    (case z_bool => k_is)

