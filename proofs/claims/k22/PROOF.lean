import PyProof.Rows.All
import Wide.All
import OpenK.AllK
import Wide.FinOn
import HandS.ForMost
import HandS.ForExc
import HandS.Deep
import HandS.TupAny
import HandS.SortInts
import HandS.SortOrd
import HandS.Wide
import KE.KeyNested
import HandS.Style
import HandS.IsInst
import KE.SortData
import HandS.Flt
import PyProof.ListStr
import PyProof.TupleOfStr
import KE.KIndexOf
import HandS.Zip
import KE.GoesMore
import HandS.Rev
import HandS.ListItems
import HandS.More
import HandS.Text
import HandS.SetFor
import HandS.Strs
import HandS.TupSets
import HandS.SetKeys
import HandS.Dict
import PyProof.Rows.TupTab
import KE.KDictZip
import PyProof.DictUpdate
import PySem.Challenge.RW_joinwood_k22_through
set_option Elab.async false
set_option linter.all false
set_option maxRecDepth 100000
namespace J
open PySem PySem.Spec PyProof.Rows L2
abbrev Sl := List (Option V)
/-- keys (i, (j, ..)): a dict that holds True at each -/
abbrev NK := Int × List Int
def nkey (k : NK) : NestedKey := .tup [.num k.1, .tup (k.2.map .num)]
def TabN (a : Addr) (kb : List (NK × Addr)) : HO := .ext fun h => (a == sysModules) = false ∧ (kb.map (·.1)).Nodup ∧ ∀ w : World, ∃ o es ep, h.get? a = some o ∧ o.ExactDict ∧ o.data = .dict es ep ∧ es.toList = kb.map fun p => ⟨(nkey p.1).hash w, .ref p.2, .bool true⟩
def KeyTs (F : Hp) (kb : List (NK × Addr)) : Prop := ∀ p ∈ kb, ∃ c, F p.2 = some (.tup [.int p.1.1, .ref c]) ∧ F c = some (.tup (p.1.2.map V.int))
/-! ### values -/
inductive FV where
  | non
  | bl (b : Bool)
  | int (i : Int)
  | str (x : Str)
  | tup (xs : List FV)
  | tuz (xs : List FV)
  | lst (xs : List FV)
  | dK (kvs : List (Key × FV))
  | dT (kvs : List (List Key × FV))
  | ins (c : Str) (fs : List (Str × FV))
  | exc (c : Str)
  | scr (xs : List Int)
  | dN (ks : List NK)
inductive OV where
  | fz (x : FV)
  | ol (xs : List FV)
  | oK (kvs : List (Key × FV))
  | oT (kvs : List (List Key × FV))
  | dl (xs : List OV)
  | dd (kvs : List (Key × OV))
  | tp (xs : List OV)
  | ob (c : Str) (fs : List (Str × OV))
  | oN (ks : List NK)
section
variable (M : Str → Option Value) (F : Hp)
mutual
def FDen : FV → V → Prop
  | .non, v => v = .non
  | .bl b, v => v = .bl b
  | .int i, v => v = .int i
  | .str x, v => v = .str x
  | .tup xs, v => ∃ a vs, v = .ref a ∧ F a = some (.tup vs) ∧ FDenL xs vs
  | .tuz xs, v => ∃ a vs o, v = .ref a ∧ F a = some (.frz o (.tup vs)) ∧ o.cls = .type "tuple" ∧ o.dict = none ∧ FDenL xs vs
  | .lst xs, v => ∃ a vs, v = .ref a ∧ F a = some (.lst vs) ∧ FDenL xs vs
  | .dK kvs, v => ∃ a ws, v = .ref a ∧ F a = some (.dK ws) ∧ FDenK kvs ws
  | .dT kvs, v => ∃ a ws, v = .ref a ∧ F a = some (.dT ws) ∧ FDenT kvs ws
  | .ins c fs, v => ∃ a C dx ws, v = .ref a ∧ M c = some (.ref C) ∧ F a = some (.ins C dx ws) ∧ F dx = some (.own a) ∧ FDenA fs ws
  | .exc c, v => ∃ a C, v = .ref a ∧ M c = some (.ref C) ∧ F a = some (.ext fun h => ∃ oe vs, h.get? a = some oe ∧ Zc (.ref C) none oe ∧ oe.data = .fields vs)
  | .scr xs, v => ∃ a, v = .ref a ∧ Rd F a (.lst (xs.map V.int))
  | .dN ks, v => ∃ a kb, v = .ref a ∧ F a = some (TabN a kb) ∧ kb.map (·.1) = ks ∧ KeyTs F kb
def FDenL : List FV → List V → Prop
  | [], vs => vs = []
  | x :: xs, vs => ∃ v ws, vs = v :: ws ∧ FDen x v ∧ FDenL xs ws
def FDenK : List (Key × FV) → List (Key × V) → Prop
  | [], ws => ws = []
  | (k, x) :: r, ws => ∃ v rs, ws = (k, v) :: rs ∧ FDen x v ∧ FDenK r rs
def FDenT : List (List Key × FV) → List (List Key × V) → Prop
  | [], ws => ws = []
  | (k, x) :: r, ws => ∃ v rs, ws = (k, v) :: rs ∧ FDen x v ∧ FDenT r rs
def FDenA : List (Str × FV) → List (Str × V) → Prop
  | [], ws => ws = []
  | (k, x) :: r, ws => ∃ v rs, ws = (k, v) :: rs ∧ FDen x v ∧ FDenA r rs
end
abbrev Cells := List (Addr × HO)
mutual
def Own : OV → V → Cells → Prop
  | .fz x, v, L => FDen M F x v ∧ L = []
  | .ol xs, v, L => ∃ a vs, v = .ref a ∧ FDenL M F xs vs ∧ L = [(a, .lst vs)]
  | .oK kvs, v, L => ∃ a ws, v = .ref a ∧ FDenK M F kvs ws ∧ L = [(a, .dK ws)]
  | .oT kvs, v, L => ∃ a ws, v = .ref a ∧ FDenT M F kvs ws ∧ L = [(a, .dT ws)]
  | .dl xs, v, L => ∃ a vs L', v = .ref a ∧ OwnL xs vs L' ∧ L = (a, .lst vs) :: L'
  | .dd kvs, v, L => ∃ a ws L', v = .ref a ∧ OwnK kvs ws L' ∧ L = (a, .dK ws) :: L'
  | .tp xs, v, L => ∃ a vs, v = .ref a ∧ F a = some (.tup vs) ∧ OwnL xs vs L
  | .ob c fs, v, L => ∃ a C dx ws L', v = .ref a ∧ M c = some (.ref C) ∧ F dx = some (.own a) ∧ OwnA fs ws L' ∧ L = (a, .ins C dx ws) :: L'
  | .oN ks, v, L => ∃ a kb, v = .ref a ∧ kb.map (·.1) = ks ∧ KeyTs F kb ∧ L = [(a, TabN a kb)]
def OwnL : List OV → List V → Cells → Prop
  | [], vs, L => vs = [] ∧ L = []
  | x :: xs, vs, L => ∃ v ws A B, vs = v :: ws ∧ Own x v A ∧ OwnL xs ws B ∧ L = A ++ B
def OwnK : List (Key × OV) → List (Key × V) → Cells → Prop
  | [], ws, L => ws = [] ∧ L = []
  | (k, x) :: r, ws, L => ∃ v rs A B, ws = (k, v) :: rs ∧ Own x v A ∧ OwnK r rs B ∧ L = A ++ B
def OwnA : List (Str × OV) → List (Str × V) → Cells → Prop
  | [], ws, L => ws = [] ∧ L = []
  | (k, x) :: r, ws, L => ∃ v rs A B, ws = (k, v) :: rs ∧ Own x v A ∧ OwnA r rs B ∧ L = A ++ B
end
end
/-! ### a larger frozen heap -/
section
variable {M : Str → Option Value} {F F' : Hp}
theorem KeyTs.mono (h : Same F F') {kb : List (NK × Addr)} (k : KeyTs F kb) : KeyTs F' kb := fun p hp => let ⟨c, a, b⟩ := k p hp; ⟨c, h _ _ a, h _ _ b⟩
mutual
theorem FDen.mono (h : Same F F') : ∀ {x : FV} {v : V}, FDen M F x v → FDen M F' x v
  | .non, _, d => d
  | .bl _, _, d => d
  | .int _, _, d => d
  | .str _, _, d => d
  | .tup xs, _, ⟨a, vs, e, q, r⟩ => ⟨a, vs, e, h _ _ q, FDenL.mono h r⟩
  | .tuz xs, _, ⟨a, vs, o, e, q, q1, q2, r⟩ => ⟨a, vs, o, e, h _ _ q, q1, q2, FDenL.mono h r⟩
  | .lst xs, _, ⟨a, vs, e, q, r⟩ => ⟨a, vs, e, h _ _ q, FDenL.mono h r⟩
  | .dK kvs, _, ⟨a, vs, e, q, r⟩ => ⟨a, vs, e, h _ _ q, FDenK.mono h r⟩
  | .dT kvs, _, ⟨a, vs, e, q, r⟩ => ⟨a, vs, e, h _ _ q, FDenT.mono h r⟩
  | .ins c fs, _, ⟨a, C, dx, ws, e, m, q, q2, r⟩ => ⟨a, C, dx, ws, e, m, h _ _ q, h _ _ q2, FDenA.mono h r⟩
  | .exc c, _, ⟨a, C, e, m, q⟩ => ⟨a, C, e, m, h _ _ q⟩
  | .scr xs, _, ⟨a, e, q⟩ => ⟨a, e, q.elim (fun q => .inl (h _ _ q)) fun ⟨o, q⟩ => .inr ⟨o, h _ _ q⟩⟩
  | .dN ks, _, ⟨a, kb, e, q, n, k⟩ => ⟨a, kb, e, h _ _ q, n, k.mono h⟩
theorem FDenL.mono (h : Same F F') : ∀ {xs : List FV} {vs : List V}, FDenL M F xs vs → FDenL M F' xs vs
  | [], _, d => d
  | _ :: _, _, ⟨v, ws, e, d, r⟩ => ⟨v, ws, e, FDen.mono h d, FDenL.mono h r⟩
theorem FDenK.mono (h : Same F F') : ∀ {xs : List (Key × FV)} {vs : List (Key × V)}, FDenK M F xs vs → FDenK M F' xs vs
  | [], _, d => d
  | (_, _) :: _, _, ⟨v, ws, e, d, r⟩ => ⟨v, ws, e, FDen.mono h d, FDenK.mono h r⟩
theorem FDenT.mono (h : Same F F') : ∀ {xs : List (List Key × FV)} {vs : List (List Key × V)}, FDenT M F xs vs → FDenT M F' xs vs
  | [], _, d => d
  | (_, _) :: _, _, ⟨v, ws, e, d, r⟩ => ⟨v, ws, e, FDen.mono h d, FDenT.mono h r⟩
theorem FDenA.mono (h : Same F F') : ∀ {xs : List (Str × FV)} {vs : List (Str × V)}, FDenA M F xs vs → FDenA M F' xs vs
  | [], _, d => d
  | (_, _) :: _, _, ⟨v, ws, e, d, r⟩ => ⟨v, ws, e, FDen.mono h d, FDenA.mono h r⟩
end
mutual
theorem Own.mono (h : Same F F') : ∀ {x : OV} {v : V} {L : Cells}, Own M F x v L → Own M F' x v L
  | .fz _, _, _, ⟨d, e⟩ => ⟨d.mono h, e⟩
  | .ol _, _, _, ⟨a, vs, e, r, q⟩ => ⟨a, vs, e, r.mono h, q⟩
  | .oK _, _, _, ⟨a, vs, e, r, q⟩ => ⟨a, vs, e, r.mono h, q⟩
  | .oT _, _, _, ⟨a, vs, e, r, q⟩ => ⟨a, vs, e, r.mono h, q⟩
  | .dl _, _, _, ⟨a, vs, L', e, r, q⟩ => ⟨a, vs, L', e, OwnL.mono h r, q⟩
  | .dd _, _, _, ⟨a, vs, L', e, r, q⟩ => ⟨a, vs, L', e, OwnK.mono h r, q⟩
  | .tp _, _, _, ⟨a, vs, e, q, r⟩ => ⟨a, vs, e, h _ _ q, OwnL.mono h r⟩
  | .ob _ _, _, _, ⟨a, C, dx, ws, L', e, m, q, r, q2⟩ => ⟨a, C, dx, ws, L', e, m, h _ _ q, OwnA.mono h r, q2⟩
  | .oN ks, _, _, ⟨a, kb, e, n, k, q⟩ => ⟨a, kb, e, n, k.mono h, q⟩
theorem OwnL.mono (h : Same F F') : ∀ {xs : List OV} {vs : List V} {L : Cells}, OwnL M F xs vs L → OwnL M F' xs vs L
  | [], _, _, d => d
  | _ :: _, _, _, ⟨v, ws, A, B, e, d, r, q⟩ => ⟨v, ws, A, B, e, Own.mono h d, OwnL.mono h r, q⟩
theorem OwnK.mono (h : Same F F') : ∀ {xs : List (Key × OV)} {vs : List (Key × V)} {L : Cells}, OwnK M F xs vs L → OwnK M F' xs vs L
  | [], _, _, d => d
  | (_, _) :: _, _, _, ⟨v, ws, A, B, e, d, r, q⟩ => ⟨v, ws, A, B, e, Own.mono h d, OwnK.mono h r, q⟩
theorem OwnA.mono (h : Same F F') : ∀ {xs : List (Str × OV)} {vs : List (Str × V)} {L : Cells}, OwnA M F xs vs L → OwnA M F' xs vs L
  | [], _, _, d => d
  | (_, _) :: _, _, _, ⟨v, ws, A, B, e, d, r, q⟩ => ⟨v, ws, A, B, e, Own.mono h d, OwnA.mono h r, q⟩
end
end
/-! ### the frozen look of an owned value -/
mutual
def OV.fv : OV → FV
  | .fz x => x
  | .ol xs => .lst xs
  | .oK kvs => .dK kvs
  | .oT kvs => .dT kvs
  | .dl xs => .lst (OV.fvL xs)
  | .dd kvs => .dK (OV.fvK kvs)
  | .tp xs => .tup (OV.fvL xs)
  | .ob c fs => .ins c (OV.fvA fs)
  | .oN ks => .dN ks
def OV.fvL : List OV → List FV
  | [] => []
  | x :: xs => x.fv :: OV.fvL xs
def OV.fvK : List (Key × OV) → List (Key × FV)
  | [] => []
  | (k, x) :: xs => (k, x.fv) :: OV.fvK xs
def OV.fvA : List (Str × OV) → List (Str × FV)
  | [] => []
  | (k, x) :: xs => (k, x.fv) :: OV.fvA xs
end
theorem OV.fvL_map : ∀ xs : List OV, OV.fvL xs = xs.map OV.fv
  | [] => rfl
  | x :: xs => by simp only [OV.fvL, List.map_cons, OV.fvL_map xs]
section
variable {M : Str → Option Value} {F H : Hp}
mutual
theorem Own.fden (h : Same F H) : ∀ {x : OV} {v : V} {L : Cells}, Own M F x v L → (∀ p ∈ L, H p.1 = some p.2) → FDen M H x.fv v
  | .fz _, _, _, ⟨d, e⟩, _ => d.mono h
  | .ol _, _, _, ⟨a, vs, e, r, q⟩, c => ⟨a, vs, e, by subst q; exact c _ List.mem_cons_self, r.mono h⟩
  | .oK _, _, _, ⟨a, vs, e, r, q⟩, c => ⟨a, vs, e, by subst q; exact c _ List.mem_cons_self, r.mono h⟩
  | .oT _, _, _, ⟨a, vs, e, r, q⟩, c => ⟨a, vs, e, by subst q; exact c _ List.mem_cons_self, r.mono h⟩
  | .dl _, _, _, ⟨a, vs, L', e, r, q⟩, c => by
    subst q
    exact ⟨a, vs, e, c _ List.mem_cons_self, OwnL.fden h r fun p hp => c p (List.mem_cons_of_mem _ hp)⟩
  | .dd _, _, _, ⟨a, vs, L', e, r, q⟩, c => by
    subst q
    exact ⟨a, vs, e, c _ List.mem_cons_self, OwnK.fden h r fun p hp => c p (List.mem_cons_of_mem _ hp)⟩
  | .tp _, _, _, ⟨a, vs, e, q, r⟩, c => ⟨a, vs, e, h _ _ q, OwnL.fden h r c⟩
  | .ob _ _, _, _, ⟨a, C, dx, ws, L', e, m, q, r, q2⟩, c => by
    subst q2
    exact ⟨a, C, dx, ws, e, m, c _ List.mem_cons_self, h _ _ q, OwnA.fden h r fun p hp => c p (List.mem_cons_of_mem _ hp)⟩
  | .oN ks, _, _, ⟨a, kb, e, n, k, q⟩, c => ⟨a, kb, e, by subst q; exact c _ List.mem_cons_self, n, k.mono h⟩
theorem OwnL.fden (h : Same F H) : ∀ {xs : List OV} {vs : List V} {L : Cells}, OwnL M F xs vs L → (∀ p ∈ L, H p.1 = some p.2) → FDenL M H (OV.fvL xs) vs
  | [], _, _, d, _ => d.1
  | _ :: _, _, _, ⟨v, ws, A, B, e, d, r, q⟩, c => by
    subst q
    exact ⟨v, ws, e, Own.fden h d fun p hp => c p (List.mem_append_left _ hp), OwnL.fden h r fun p hp => c p (List.mem_append_right _ hp)⟩
theorem OwnK.fden (h : Same F H) : ∀ {xs : List (Key × OV)} {vs : List (Key × V)} {L : Cells}, OwnK M F xs vs L → (∀ p ∈ L, H p.1 = some p.2) → FDenK M H (OV.fvK xs) vs
  | [], _, _, d, _ => d.1
  | (_, _) :: _, _, _, ⟨v, ws, A, B, e, d, r, q⟩, c => by
    subst q
    exact ⟨v, ws, e, Own.fden h d fun p hp => c p (List.mem_append_left _ hp), OwnK.fden h r fun p hp => c p (List.mem_append_right _ hp)⟩
theorem OwnA.fden (h : Same F H) : ∀ {xs : List (Str × OV)} {vs : List (Str × V)} {L : Cells}, OwnA M F xs vs L → (∀ p ∈ L, H p.1 = some p.2) → FDenA M H (OV.fvA xs) vs
  | [], _, _, d, _ => d.1
  | (_, _) :: _, _, _, ⟨v, ws, A, B, e, d, r, q⟩, c => by
    subst q
    exact ⟨v, ws, e, Own.fden h d fun p hp => c p (List.mem_append_left _ hp), OwnA.fden h r fun p hp => c p (List.mem_append_right _ hp)⟩
end
end
/-! ### results, environments -/
/-- a result: one's own (or frozen), or only looked at -/
inductive Rv where
  | st (o : OV)
  | bo (o : OV)
def Rv.ov : Rv → OV
  | .st o => o
  | .bo o => o
def Rv.fv (r : Rv) : FV := r.ov.fv
inductive Ans (α : Type) where
  | ok (a : α)
  | ex (c : Str)
  | no
def Ans.bind {α β : Type} (x : Ans α) (f : α → Ans β) : Ans β := match x with
  | .ok a => f a
  | .ex c => .ex c
  | .no => .no
def Ans.map {α β : Type} (f : α → β) (x : Ans α) : Ans β := match x with
  | .ok a => .ok (f a)
  | .ex c => .ex c
  | .no => .no
abbrev VEnv := List (Option OV)
abbrev DE := VEnv → Ans Rv
abbrev DT := VEnv → Ans Bool
inductive SO where
  | nx (e : VEnv)
  | rt (o : OV) (e : VEnv)
  | bk (e : VEnv)
  | ct (e : VEnv)
abbrev DS := VEnv → Ans SO
/-! ### cells -/
def updL (F : Hp) : Cells → Hp
  | [] => F
  | p :: L => upd (updL F L) p.1 p.2
theorem updL_out {F : Hp} {a : Addr} : ∀ {L : Cells}, (∀ p ∈ L, p.1 ≠ a) → updL F L a = F a
  | [], _ => rfl
  | p :: L, h => by
    unfold updL
    rw [upd_ne (fun e => h p List.mem_cons_self e.symm)]
    exact updL_out fun q hq => h q (List.mem_cons_of_mem _ hq)
theorem updL_in {F : Hp} : ∀ {L : Cells}, (L.map (·.1)).Nodup → ∀ p ∈ L, updL F L p.1 = some p.2
  | [], _, _, h => nomatch h
  | q :: L, nd, p, h => by
    rw [List.map_cons, List.nodup_cons] at nd
    unfold updL
    rcases List.mem_cons.mp h with rfl | h
    · exact upd_same
    · rw [upd_ne (fun e => nd.1 (by rw [← e]; exact List.mem_map.mpr ⟨p, h, rfl⟩))]
      exact updL_in nd.2 p h
theorem updL_cases {F : Hp} {a : Addr} {o : HO} : ∀ {L : Cells}, updL F L a = some o → F a = some o ∨ (a, o) ∈ L
  | [], h => .inl h
  | q :: L, h => by
    unfold updL at h
    by_cases e : a = q.1
    · rw [e, upd_same] at h
      cases h
      exact .inr (by rw [e]; exact List.mem_cons_self)
    · rw [upd_ne e] at h
      exact (updL_cases h).imp id (List.mem_cons_of_mem _)
/-- L: one's own cells: they stand in H, apart, not among the frozen F, nor among what is kept (Z) -/
structure Good (F Z H : Hp) (L : Cells) : Prop where
  nd : (L.map (·.1)).Nodup
  hp : ∀ p ∈ L, H p.1 = some p.2
  fr : ∀ p ∈ L, F p.1 = none
  zr : ∀ p ∈ L, Z p.1 = none
section
variable {F F' Z H H' : Hp} {L L' D : Cells}
theorem Good.nil : Good F Z H [] := ⟨List.nodup_nil, (fun _ h => nomatch h), (fun _ h => nomatch h), (fun _ h => nomatch h)⟩
theorem Good.perm (g : Good F Z H L) (p : L.Perm L') : Good F Z H L' :=
  ⟨(p.map _).nodup_iff.mp g.nd, fun q hq => g.hp q (p.mem_iff.mpr hq), fun q hq => g.fr q (p.mem_iff.mpr hq), fun q hq => g.zr q (p.mem_iff.mpr hq)⟩
theorem Good.left (g : Good F Z H (L ++ L')) : Good F Z H L := by
  have n := g.nd
  rw [List.map_append, List.nodup_append] at n
  exact ⟨n.1, fun q hq => g.hp q (List.mem_append_left _ hq), fun q hq => g.fr q (List.mem_append_left _ hq), fun q hq => g.zr q (List.mem_append_left _ hq)⟩
theorem Good.right (g : Good F Z H (L ++ L')) : Good F Z H L' := (g.perm List.perm_append_comm).left
theorem Good.apart (g : Good F Z H (L ++ L')) : ∀ p ∈ L, ∀ q ∈ L', p.1 ≠ q.1 := fun p hp q hq e => by
  have n := g.nd
  rw [List.map_append, List.nodup_append] at n
  exact n.2.2 p.1 (List.mem_map.mpr ⟨p, hp, rfl⟩) q.1 (List.mem_map.mpr ⟨q, hq, rfl⟩) e
theorem Good.same (g : Good F Z H L) (h : Same H H') : Good F Z H' L := ⟨g.nd, fun p hp => h _ _ (g.hp p hp), g.fr, g.zr⟩
theorem Good.mk' (g : Good F Z H L) (g' : Good F Z H L') (h : ∀ p ∈ L, ∀ q ∈ L', p.1 ≠ q.1) : Good F Z H (L ++ L') := by
  refine ⟨?_, fun p hp => (List.mem_append.mp hp).elim (g.hp p) (g'.hp p), fun p hp => (List.mem_append.mp hp).elim (g.fr p) (g'.fr p), fun p hp => (List.mem_append.mp hp).elim (g.zr p) (g'.zr p)⟩
  rw [List.map_append, List.nodup_append]
  refine ⟨g.nd, g'.nd, fun a ha b hb e => ?_⟩
  obtain ⟨p, hp, e1⟩ := List.mem_map.mp ha
  obtain ⟨q, hq, e2⟩ := List.mem_map.mp hb
  exact h p hp q hq (by rw [e1, e2, e])
end
/-! ### environments over cells -/
section
variable (M : Str → Option Value) (F H : Hp)
inductive EnvOwn : Sl → VEnv → Cells → Prop
  | nil : EnvOwn [] [] []
  | skip {s : Option V} {σ : Sl} {env : VEnv} {L : Cells} : EnvOwn σ env L → EnvOwn (s :: σ) (none :: env) L
  | cons {v : V} {o : OV} {σ : Sl} {env : VEnv} {A B : Cells} : Own M F o v A → EnvOwn σ env B → EnvOwn (some v :: σ) (some o :: env) (A ++ B)
/-- looked at: it stands in the heap -/
def Bor (o : OV) (v : V) : Prop := ∃ A, Own M F o v A ∧ ∀ p ∈ A, H p.1 = some p.2
inductive TmpOwn : List (V × Rv) → Cells → Prop
  | nil : TmpOwn [] []
  | st {v : V} {o : OV} {T : List (V × Rv)} {A B : Cells} : Own M F o v A → TmpOwn T B → TmpOwn ((v, .st o) :: T) (A ++ B)
  | bo {v : V} {o : OV} {T : List (V × Rv)} {B : Cells} : Bor M F H o v → TmpOwn T B → TmpOwn ((v, .bo o) :: T) B
end
section
variable {M : Str → Option Value} {F F' H H' : Hp} {σ : Sl} {env : VEnv} {L : Cells} {T : List (V × Rv)} {o : OV} {v : V}
theorem EnvOwn.mono (h : Same F F') (e : EnvOwn M F σ env L) : EnvOwn M F' σ env L := by
  induction e with
  | nil => exact .nil
  | skip _ ih => exact .skip ih
  | cons d _ ih => exact .cons (d.mono h) ih
theorem Bor.mono (h : Same F F') (h' : Same H H') (b : Bor M F H o v) : Bor M F' H' o v :=
  let ⟨A, d, c⟩ := b
  ⟨A, d.mono h, fun p hp => h' _ _ (c p hp)⟩
theorem Bor.fden (h : Same F H) (b : Bor M F H o v) : FDen M H o.fv v :=
  let ⟨_, d, c⟩ := b
  d.fden h c
theorem TmpOwn.mono (h : Same F F') (h' : Same H H') (e : TmpOwn M F H T L) : TmpOwn M F' H' T L := by
  induction e with
  | nil => exact .nil
  | st d _ ih => exact .st (d.mono h) ih
  | bo d _ ih => exact .bo (d.mono h h') ih
theorem EnvOwn.len (e : EnvOwn M F σ env L) : σ.length = env.length := by
  induction e with
  | nil => rfl
  | skip _ ih => simp [ih]
  | cons _ _ ih => simp [ih]
/-- the value in a slot, and what may be put in its stead -/
theorem EnvOwn.repl (e : EnvOwn M F σ env L) : ∀ {i : Nat}, env[i]? = some (some o) → ∃ v A Lr, σ[i]? = some (some v) ∧ Own M F o v A ∧ L.Perm (A ++ Lr) ∧
    (∀ o' v' A', Own M F o' v' A' → ∃ L', EnvOwn M F (σ.set i (some v')) (env.set i (some o')) L' ∧ L'.Perm (A' ++ Lr)) ∧ ∀ s, EnvOwn M F (σ.set i s) (env.set i none) Lr := by
  induction e with
  | nil => intro i h; simp at h
  | @skip s σ env L e ih =>
    intro i h
    cases i with
    | zero => simp at h
    | succ i =>
      obtain ⟨v, A, Lr, h1, h2, h3, h4, h5⟩ := ih (i := i) (by simpa using h)
      refine ⟨v, A, Lr, by simpa using h1, h2, h3, fun o' v' A' d => ?_, fun s => .skip (h5 s)⟩
      obtain ⟨L', q1, q2⟩ := h4 o' v' A' d
      exact ⟨L', .skip q1, q2⟩
  | @cons v o2 σ env A B d e ih =>
    intro i h
    cases i with
    | zero =>
      have h' : o2 = o := by simpa using h
      subst h'
      exact ⟨v, A, B, rfl, d, .refl _, fun o' v' A' d' => ⟨A' ++ B, .cons d' e, .refl _⟩, fun s => .skip e⟩
    | succ i =>
      obtain ⟨w, A2, Lr, h1, h2, h3, h4, h5⟩ := ih (i := i) (by simpa using h)
      refine ⟨w, A2, A ++ Lr, by simpa using h1, h2, ?_, fun o' v' A' d' => ?_, fun s => .cons d (h5 s)⟩
      · exact (List.Perm.append_left A h3).trans (by
          rw [← List.append_assoc, ← List.append_assoc]
          exact List.perm_append_comm.append_right _)
      · obtain ⟨L', q1, q2⟩ := h4 o' v' A' d'
        refine ⟨A ++ L', .cons d q1, (List.Perm.append_left A q2).trans ?_⟩
        rw [← List.append_assoc, ← List.append_assoc]
        exact List.perm_append_comm.append_right _
/-- storing a value into a slot -/
theorem EnvOwn.set (e : EnvOwn M F σ env L) : ∀ (i : Nat) {A : Cells}, Own M F o v A → ∃ L' D, EnvOwn M F (σ.set i (some v)) (env.set i (some o)) L' ∧ (A ++ L).Perm (L' ++ D) := by
  induction e with
  | nil => intro i A d; exact ⟨[], A, .nil, by simp⟩
  | @skip s σ env L e ih =>
    intro i A d
    cases i with
    | zero => exact ⟨A ++ L, [], .cons d e, by simp⟩
    | succ i =>
      obtain ⟨L', D, q1, q2⟩ := ih i d
      exact ⟨L', D, .skip q1, q2⟩
  | @cons v2 o2 σ env A2 B d2 e ih =>
    intro i A d
    cases i with
    | zero =>
      refine ⟨A ++ B, A2, .cons d e, ?_⟩
      rw [List.append_assoc]
      exact List.Perm.append_left A List.perm_append_comm
    | succ i =>
      obtain ⟨L', D, q1, q2⟩ := ih i d
      refine ⟨A2 ++ L', D, .cons d2 q1, ?_⟩
      rw [List.append_assoc]
      refine List.Perm.trans ?_ (List.Perm.append_left A2 q2)
      rw [← List.append_assoc, ← List.append_assoc]
      exact List.perm_append_comm.append_right _
theorem EnvOwn.unset (e : EnvOwn M F σ env L) (i : Nat) (s : Option V) : ∃ L' D, EnvOwn M F (σ.set i s) (env.set i none) L' ∧ L.Perm (L' ++ D) := by
  induction e generalizing i with
  | nil => exact ⟨[], [], .nil, by simp⟩
  | @skip s2 σ env L e ih =>
    cases i with
    | zero => exact ⟨L, [], .skip e, by simp⟩
    | succ i =>
      obtain ⟨L', D, q1, q2⟩ := ih i
      exact ⟨L', D, .skip q1, q2⟩
  | @cons v2 o2 σ env A2 B d2 e ih =>
    cases i with
    | zero => exact ⟨B, A2, .skip e, List.perm_append_comm⟩
    | succ i =>
      obtain ⟨L', D, q1, q2⟩ := ih i
      refine ⟨A2 ++ L', D, .cons d2 q1, ?_⟩
      rw [List.append_assoc]
      exact List.Perm.append_left A2 q2
theorem TmpOwn.sub {T' : List (V × Rv)} (e : TmpOwn M F H T L) (h : T'.Sublist T) : ∃ L' D, TmpOwn M F H T' L' ∧ L.Perm (L' ++ D) := by
  induction h generalizing L with
  | slnil => exact ⟨L, [], e, by simp⟩
  | cons a _ ih =>
    cases e with
    | st d e =>
      obtain ⟨L', D, q1, q2⟩ := ih e
      rename_i A B
      refine ⟨L', A ++ D, q1, ?_⟩
      refine (List.Perm.append_left A q2).trans ?_
      rw [← List.append_assoc, ← List.append_assoc]
      exact List.perm_append_comm.append_right _
    | bo d e => exact ih e
  | cons_cons a _ ih =>
    cases e with
    | st d e =>
      obtain ⟨L', D, q1, q2⟩ := ih e
      rename_i A B
      refine ⟨A ++ L', D, .st d q1, ?_⟩
      rw [List.append_assoc]
      exact List.Perm.append_left A q2
    | bo d e =>
      obtain ⟨L', D, q1, q2⟩ := ih e
      exact ⟨L', D, .bo d q1, q2⟩
end
/-! ### the relation -/
/-- G: what is given; Z: what must stand; F: what is frozen -/
structure RF (M : Str → Option Value) (G Z H F : Hp) (σ : Sl) (env : VEnv) (T : List (V × Rv)) (L1 L2 : Cells) : Prop where
  gf : Same G F
  fg : ∀ a o, F a = some o → G a = some o ∨ Z a = none
  fh : Same F H
  zh : Same Z H
  ev : EnvOwn M F σ env L1
  tm : TmpOwn M F H T L2
  gd : Good F Z H (L1 ++ L2)
def R (M : Str → Option Value) (G Z H : Hp) (σ : Sl) (env : VEnv) (T : List (V × Rv)) : Prop := ∃ F L1 L2, RF M G Z H F σ env T L1 L2
/-- v is a new value o (its frozen parts stood before, or are new) -/
structure NewF (M : Str → Option Value) (F H H' F' : Hp) (o : OV) (v : V) (L : Cells) : Prop where
  ff : Same F F'
  fn : ∀ a u, F' a = some u → F a = some u ∨ H a = none
  fh : Same F' H'
  hh : Same H H'
  ow : Own M F' o v L
  gd : Good F' H H' L
def New (M : Str → Option Value) (F H H' : Hp) (o : OV) (v : V) : Prop := ∃ F' L, NewF M F H H' F' o v L
section
variable {M : Str → Option Value} {G Z H H' F F' : Hp} {σ : Sl} {env : VEnv} {T T' : List (V × Rv)} {L1 L2 : Cells} {o : OV} {v : V} {i : Nat}
theorem RF.r (r : RF M G Z H F σ env T L1 L2) : R M G Z H σ env T := ⟨F, L1, L2, r⟩
theorem RF.same (r : RF M G Z H F σ env T L1 L2) (h : Same H H') : RF M G Z H' F σ env T L1 L2 :=
  ⟨r.gf, r.fg, r.fh.trans h, r.zh.trans h, r.ev, r.tm.mono (Same.refl _) h, r.gd.same h⟩
theorem R.same (r : R M G Z H σ env T) (h : Same H H') : R M G Z H' σ env T := let ⟨_, _, _, r⟩ := r; (r.same h).r
theorem RF.sub (r : RF M G Z H F σ env T L1 L2) (h : T'.Sublist T) : R M G Z H σ env T' := by
  obtain ⟨L', D, q1, q2⟩ := r.tm.sub h
  refine ⟨F, L1, L', r.gf, r.fg, r.fh, r.zh, r.ev, q1, ?_⟩
  have g := r.gd.perm (List.Perm.append_left L1 q2)
  rw [← List.append_assoc] at g
  exact g.left
theorem R.sub (r : R M G Z H σ env T) (h : T'.Sublist T) : R M G Z H σ env T' := let ⟨_, _, _, r⟩ := r; r.sub h
theorem R.pop {p : V × Rv} (r : R M G Z H σ env (p :: T)) : R M G Z H σ env T := r.sub (List.sublist_cons_self _ _)
theorem R.pop2 {p q : V × Rv} (r : R M G Z H σ env (p :: q :: T)) : R M G Z H σ env (p :: T) := r.sub ((List.sublist_cons_self _ _).cons_cons _)
theorem R.pop3 {p q q2 : V × Rv} (r : R M G Z H σ env (p :: q :: q2 :: T)) : R M G Z H σ env (p :: T) := r.sub (((List.sublist_cons_self _ _).cons _).cons_cons _)
theorem RF.new (r : RF M G Z H F σ env T L1 L2) (n : New M F H H' o v) : R M G Z H' σ env ((v, .st o) :: T) := by
  obtain ⟨F', L, n⟩ := n
  refine ⟨F', L1, L ++ L2, r.gf.trans n.ff, fun a u e => ?_, n.fh, r.zh.trans n.hh, r.ev.mono n.ff, .st n.ow (r.tm.mono n.ff n.hh), ?_⟩
  · rcases n.fn a u e with e | e
    · exact r.fg a u e
    · refine .inr ?_
      cases q : Z a with
      | none => rfl
      | some z => rw [r.zh a z q] at e; cases e
  · have g : Good F' Z H' (L1 ++ L2) := ⟨r.gd.nd, fun p hp => n.hh _ _ (r.gd.hp p hp), (fun p hp => by
      cases q : F' p.1 with
      | none => rfl
      | some u =>
        rcases n.fn _ _ q with e | e
        · rw [r.gd.fr p hp] at e; cases e
        · rw [r.gd.hp p hp] at e; cases e), r.gd.zr⟩
    have g2 : Good F' Z H' L := ⟨n.gd.nd, n.gd.hp, n.gd.fr, fun p hp => by
      cases q : Z p.1 with
      | none => rfl
      | some z =>
        have e := n.gd.zr p hp
        rw [r.zh _ z q] at e
        cases e⟩
    have g3 := g2.mk' g fun p hp q hq e => by
      have e1 := n.gd.zr p hp
      rw [e, r.gd.hp q hq] at e1
      cases e1
    refine g3.perm ?_
    rw [← List.append_assoc, ← List.append_assoc]
    exact List.perm_append_comm.append_right _
theorem RF.look (r : RF M G Z H F σ env T L1 L2) (h : env[i]? = some (some o)) : ∃ v, σ[i]? = some (some v) ∧ RF M G Z H F σ env ((v, .bo o) :: T) L1 L2 := by
  obtain ⟨v, A, Lr, h1, h2, h3, _⟩ := r.ev.repl h
  refine ⟨v, h1, r.gf, r.fg, r.fh, r.zh, r.ev, .bo ⟨A, h2, fun p hp => r.gd.hp p (List.mem_append_left _ (h3.mem_iff.mpr (List.mem_append_left _ hp)))⟩ r.tm, r.gd⟩
theorem RF.lookF {x : FV} (r : RF M G Z H F σ env T L1 L2) (h : env[i]? = some (some (.fz x))) : ∃ v, σ[i]? = some (some v) ∧ RF M G Z H F σ env ((v, .st (.fz x)) :: T) L1 L2 := by
  obtain ⟨v, A, Lr, h1, h2, h3, _⟩ := r.ev.repl h
  have hA : A = [] := h2.2
  subst hA
  exact ⟨v, h1, r.gf, r.fg, r.fh, r.zh, r.ev, .st (A := []) h2 r.tm, r.gd⟩
theorem R.set (r : R M G Z H σ env ((v, .st o) :: T)) (i : Nat) : R M G Z H (σ.set i (some v)) (env.set i (some o)) T := by
  obtain ⟨F, L1, L2, r⟩ := r
  cases r.tm with
  | @st _ _ _ A B d t =>
    obtain ⟨L', D, q1, q2⟩ := r.ev.set i d
    refine ⟨F, L', B, r.gf, r.fg, r.fh, r.zh, q1, t, ?_⟩
    have g := r.gd
    have p1 : (L1 ++ (A ++ B)).Perm ((L' ++ B) ++ D) := by
      refine List.Perm.trans ?_ (List.Perm.trans (q2.append_right B) ?_)
      · rw [← List.append_assoc]
        exact (List.perm_append_comm).append_right B
      · rw [List.append_assoc, List.append_assoc]
        exact List.Perm.append_left L' List.perm_append_comm
    exact (g.perm p1).left
theorem R.unset (r : R M G Z H σ env T) (i : Nat) (s : Option V) : R M G Z H (σ.set i s) (env.set i none) T := by
  obtain ⟨F, L1, L2, r⟩ := r
  obtain ⟨L', D, q1, q2⟩ := r.ev.unset i s
  refine ⟨F, L', L2, r.gf, r.fg, r.fh, r.zh, q1, r.tm, ?_⟩
  have p1 : (L1 ++ L2).Perm ((L' ++ L2) ++ D) := by
    refine (q2.append_right L2).trans ?_
    rw [List.append_assoc, List.append_assoc]
    exact List.Perm.append_left L' List.perm_append_comm
  exact (r.gd.perm p1).left
/-- cells L frozen -/
theorem RF.ice (r : RF M G Z H F σ env T L1 L2) {A Lr : Cells} (p : (L1 ++ L2).Perm (A ++ Lr)) :
    Same G (updL F A) ∧ (∀ a o, updL F A a = some o → G a = some o ∨ Z a = none) ∧ Same F (updL F A) ∧ Same (updL F A) H ∧ Good (updL F A) Z H Lr ∧ ∀ p ∈ A, updL F A p.1 = some p.2 := by
  have g := r.gd.perm p
  have ff : Same F (updL F A) := fun a o e => by
    rw [updL_out fun q hq z => by
      have := g.fr q (List.mem_append_left _ hq)
      rw [z, e] at this
      cases this]
    exact e
  refine ⟨r.gf.trans ff, fun a o e => ?_, ff, fun a o e => ?_, ⟨g.right.nd, g.right.hp, fun q hq => ?_, g.right.zr⟩, fun q hq => updL_in g.left.nd q hq⟩
  · rcases updL_cases e with e | e
    · exact r.fg a o e
    · exact .inr (g.zr _ (List.mem_append_left _ e))
  · rcases updL_cases e with e | e
    · exact r.fh a o e
    · exact g.hp _ (List.mem_append_left _ e)
  · rw [updL_out fun q2 hq2 z => g.apart q2 hq2 q hq z]
    exact g.right.fr q hq
theorem R.freeze (r : R M G Z H σ env T) (h : env[i]? = some (some o)) : R M G Z H σ (env.set i (some (.fz o.fv))) T := by
  obtain ⟨F, L1, L2, r⟩ := r
  obtain ⟨v, A, Lr, h1, h2, h3, h4, _⟩ := r.ev.repl h
  obtain ⟨i1, i2, i3, i4, i5, i6⟩ := r.ice (A := A) (Lr := Lr ++ L2) (by rw [← List.append_assoc]; exact h3.append_right L2)
  obtain ⟨v2, A2, Lr2, k1, k2, k3, k4, _⟩ := (r.ev.mono i3).repl h
  rw [h1] at k1
  obtain rfl := Option.some.inj (Option.some.inj k1)
  have e2 := h4 (.fz .non) .non [] ⟨rfl, rfl⟩
  obtain ⟨L', q1, q2⟩ := e2
  have hset : env.set i (some (OV.fz o.fv)) = (env.set i (some (OV.fz .non))).set i (some (OV.fz o.fv)) := by rw [List.set_set]
  have hσ : σ = (σ.set i (some V.non)).set i (some v) := by
    rw [List.set_set]
    apply List.ext_getElem?
    intro j
    by_cases hj : i = j
    · subst hj
      obtain ⟨hlt, _⟩ := List.getElem?_eq_some_iff.mp h1
      rw [List.getElem?_set_self hlt, h1]
    · rw [List.getElem?_set_ne hj]
  have hi : (env.set i (some (OV.fz .non)))[i]? = some (some (OV.fz .non)) := by
    obtain ⟨hlt, _⟩ := List.getElem?_eq_some_iff.mp h
    exact List.getElem?_set_self hlt
  obtain ⟨v3, A3, Lr3, j1, j2, j3, j4, _⟩ := (q1.mono i3).repl hi
  have hA3 : A3 = [] := j2.2
  subst hA3
  obtain ⟨L4, u1, u2⟩ := j4 (.fz o.fv) v [] ⟨h2.fden i3 i6, rfl⟩
  rw [← hσ, ← hset] at u1
  refine ⟨updL F A, L4, L2, i1, i2, i4, r.zh, u1, r.tm.mono i3 (Same.refl _), i5.perm (List.Perm.append_right L2 ?_)⟩
  exact (q2.symm.trans j3).trans u2.symm
end
end J
namespace J
open PySem PySem.Spec PyProof.Rows L2
/-! ### judgements -/
section
variable {M : Str → Option Value} {G Z H H1 H2 F : Hp} {σ : Sl} {env : VEnv} {T T' T2 : List (V × Rv)} {W : WX} {Q : VK} {v : V} {o : OV} {L L1 L2 : Cells}
theorem TmpOwn.perm {H : Hp} (h : T.Perm T') : ∀ {L : Cells}, TmpOwn M F H T L → ∃ L', TmpOwn M F H T' L' ∧ L.Perm L' := by
  induction h with
  | nil => intro L e; exact ⟨L, e, .refl _⟩
  | cons x _ ih =>
    intro L e
    cases e with
    | st d e =>
      obtain ⟨L', q1, q2⟩ := ih e
      exact ⟨_, .st d q1, List.Perm.append_left _ q2⟩
    | bo d e =>
      obtain ⟨L', q1, q2⟩ := ih e
      exact ⟨_, .bo d q1, q2⟩
  | swap x y l =>
    intro L e
    cases e with
    | st d e =>
      cases e with
      | st d2 e =>
        refine ⟨_, .st d2 (.st d e), ?_⟩
        rw [← List.append_assoc, ← List.append_assoc]
        exact List.perm_append_comm.append_right _
      | bo d2 e => exact ⟨_, .bo d2 (.st d e), .refl _⟩
    | bo d e =>
      cases e with
      | st d2 e => exact ⟨_, .st d2 (.bo d e), .refl _⟩
      | bo d2 e => exact ⟨_, .bo d2 (.bo d e), .refl _⟩
  | trans _ _ ih1 ih2 =>
    intro L e
    obtain ⟨L1, q1, q2⟩ := ih1 e
    obtain ⟨L2, q3, q4⟩ := ih2 q1
    exact ⟨L2, q3, q2.trans q4⟩
theorem R.perm (r : R M G Z H σ env T) (h : T.Perm T') : R M G Z H σ env T' := by
  obtain ⟨F, L1, L2, r⟩ := r
  obtain ⟨L', q1, q2⟩ := r.tm.perm h
  exact ⟨F, L1, L', r.gf, r.fg, r.fh, r.zh, r.ev, q1, r.gd.perm (List.Perm.append_left _ q2)⟩
/-- T' is part of T -/
def Sb (T' T : List (V × Rv)) : Prop := ∃ D, T.Perm (T' ++ D)
theorem Sb.refl : Sb T T := ⟨[], by simp⟩
theorem Sb.cons {p : V × Rv} (h : Sb T' T) : Sb T' (p :: T) := by
  obtain ⟨D, h⟩ := h
  refine ⟨p :: D, (h.cons p).trans ?_⟩
  exact List.perm_middle.symm
theorem Sb.both {p : V × Rv} (h : Sb T' T) : Sb (p :: T') (p :: T) := by
  obtain ⟨D, h⟩ := h
  exact ⟨D, h.cons p⟩
theorem Sb.trans (a : Sb T T') (b : Sb T' T2) : Sb T T2 := by
  obtain ⟨D, a⟩ := a
  obtain ⟨E, b⟩ := b
  refine ⟨D ++ E, b.trans ?_⟩
  rw [← List.append_assoc]
  exact a.append_right E
theorem R.sb (r : R M G Z H σ env T) (h : Sb T' T) : R M G Z H σ env T' := by
  obtain ⟨D, h⟩ := h
  exact (r.perm h).sub (List.sublist_append_left _ _)
theorem RF.bor {p : V × Rv} (r : RF M G Z H F σ env T L1 L2) (h : p ∈ T) : Bor M F H p.2.ov p.1 := by
  obtain ⟨gf, fg, fh, zh, ev, tm, gd⟩ := r
  have key : ∀ {T : List (V × Rv)} {L : Cells}, TmpOwn M F H T L → (∀ q ∈ L, H q.1 = some q.2) → p ∈ T → Bor M F H p.2.ov p.1 := by
    intro T L e
    induction e with
    | nil => intro _ h; exact nomatch h
    | st d _ ih =>
      intro hc h
      rcases List.mem_cons.mp h with rfl | h
      · exact ⟨_, d, fun q hq => hc q (List.mem_append_left _ hq)⟩
      · exact ih (fun q hq => hc q (List.mem_append_right _ hq)) h
    | bo d _ ih =>
      intro hc h
      rcases List.mem_cons.mp h with rfl | h
      · exact d
      · exact ih hc h
  exact key tm (fun q hq => gd.hp q (List.mem_append_right _ hq)) h
/-- what is wanted of an answer -/
def Post (M : Str → Option Value) (W : WX) (G Z : Hp) (σ : Sl) (env : VEnv) (T : List (V × Rv)) (Q : VK) (H : Hp) : Ans Rv → Prop
  | .ok r => ∀ v H', Same H H' → R M G Z H' σ env ((v, r) :: T) → Q v H'
  | .ex c => ∀ C H', M c = some (.ref C) → Same H H' → R M G Z H' σ env T → W (.ref C) none σ H'
  | .no => False
def tE (M : Str → Option Value) (W : WX) (f : DE) : TE := fun σ H Q => ∃ G Z env T, R M G Z H σ env T ∧ Post M W G Z σ env T Q H (f env)
def PostT (M : Str → Option Value) (W : WX) (G Z : Hp) (σ : Sl) (env : VEnv) (T : List (V × Rv)) (Q : Bool → Hp → Prop) (H : Hp) : Ans Bool → Prop
  | .ok b => ∀ H', Same H H' → R M G Z H' σ env T → Q b H'
  | .ex c => ∀ C H', M c = some (.ref C) → Same H H' → R M G Z H' σ env T → W (.ref C) none σ H'
  | .no => False
def tT (M : Str → Option Value) (W : WX) (f : DT) : TT := fun σ H Q => ∃ G Z env T, R M G Z H σ env T ∧ PostT M W G Z σ env T Q H (f env)
/-- the answers of an argument list -/
def PostA (M : Str → Option Value) (W : WX) (G Z : Hp) (σ : Sl) (env : VEnv) (T : List (V × Rv)) (Q : List V → Hp → Prop) (H : Hp) : Ans (List Rv) → Prop
  | .ok rs => ∀ vs H', vs.length = rs.length → Same H H' → R M G Z H' σ env (vs.zip rs ++ T) → Q vs H'
  | .ex c => ∀ C H', M c = some (.ref C) → Same H H' → R M G Z H' σ env T → W (.ref C) none σ H'
  | .no => False
def tA (M : Str → Option Value) (W : WX) (f : VEnv → Ans (List Rv)) : TA := fun σ H Q => ∃ G Z env T, R M G Z H σ env T ∧ PostA M W G Z σ env T Q H (f env)
theorem Post.later {x : Ans Rv} (p : Post M W G Z σ env T Q H x) (h : Same H H1) : Post M W G Z σ env T Q H1 x := by
  cases x with
  | ok r => exact fun v H' s r => p v H' (h.trans s) r
  | ex c => exact fun C H' m s r => p C H' m (h.trans s) r
  | no => exact p
theorem PostT.later {x : Ans Bool} {Q : Bool → Hp → Prop} (p : PostT M W G Z σ env T Q H x) (h : Same H H1) : PostT M W G Z σ env T Q H1 x := by
  cases x with
  | ok r => exact fun H' s r => p H' (h.trans s) r
  | ex c => exact fun C H' m s r => p C H' m (h.trans s) r
  | no => exact p
theorem PostA.later {x : Ans (List Rv)} {Q : List V → Hp → Prop} (p : PostA M W G Z σ env T Q H x) (h : Same H H1) : PostA M W G Z σ env T Q H1 x := by
  cases x with
  | ok r => exact fun v H' hl s r => p v H' hl (h.trans s) r
  | ex c => exact fun C H' m s r => p C H' m (h.trans s) r
  | no => exact p
/-- one expression first: what follows is about the rest -/
theorem tE.then {f : DE} {Q1 : VK} (r : R M G Z H σ env T2) (hs : Sb T T2)
    (hok : ∀ rv v H1, f env = .ok rv → Same H H1 → R M G Z H1 σ env ((v, rv) :: T2) → Q1 v H1)
    (hex : ∀ c C H1, f env = .ex c → M c = some (.ref C) → Same H H1 → R M G Z H1 σ env T → W (.ref C) none σ H1) (hno : f env ≠ .no) : tE M W f σ H Q1 := by
  refine ⟨G, Z, env, T2, r, ?_⟩
  cases e : f env with
  | ok rv => exact fun v H1 s r => hok rv v H1 e s r
  | ex c => exact fun C H1 m s r => hex c C H1 e m s (r.sb hs)
  | no => exact absurd e hno
theorem tE.bind {f : DE} {k : Rv → Ans Rv} {Q1 : VK} (r : R M G Z H σ env T2) (hs : Sb T T2) (p : Post M W G Z σ env T Q H ((f env).bind k))
    (h : ∀ rv v H1, f env = .ok rv → Same H H1 → R M G Z H1 σ env ((v, rv) :: T2) → Post M W G Z σ env T Q H1 (k rv) → Q1 v H1) : tE M W f σ H Q1 := by
  refine tE.then r hs (fun rv v H1 e s r => h rv v H1 e s r ?_) (fun c C H1 e m s r => ?_) fun e => ?_
  · rw [e] at p; exact p.later s
  · rw [e] at p; exact p C H1 m s r
  · rw [e] at p; exact p
theorem tE.bindT {f : DE} {k : Rv → Ans Bool} {Q1 : VK} {Q : Bool → Hp → Prop} (r : R M G Z H σ env T2) (hs : Sb T T2) (p : PostT M W G Z σ env T Q H ((f env).bind k))
    (h : ∀ rv v H1, f env = .ok rv → Same H H1 → R M G Z H1 σ env ((v, rv) :: T2) → PostT M W G Z σ env T Q H1 (k rv) → Q1 v H1) : tE M W f σ H Q1 := by
  refine tE.then r hs (fun rv v H1 e s r => h rv v H1 e s r ?_) (fun c C H1 e m s r => ?_) fun e => ?_
  · rw [e] at p; exact p.later s
  · rw [e] at p; exact p C H1 m s r
  · rw [e] at p; exact p
theorem tE.bindA {f : DE} {k : Rv → Ans (List Rv)} {Q1 : VK} {Q : List V → Hp → Prop} (r : R M G Z H σ env T2) (hs : Sb T T2) (p : PostA M W G Z σ env T Q H ((f env).bind k))
    (h : ∀ rv v H1, f env = .ok rv → Same H H1 → R M G Z H1 σ env ((v, rv) :: T2) → PostA M W G Z σ env T Q H1 (k rv) → Q1 v H1) : tE M W f σ H Q1 := by
  refine tE.then r hs (fun rv v H1 e s r => h rv v H1 e s r ?_) (fun c C H1 e m s r => ?_) fun e => ?_
  · rw [e] at p; exact p.later s
  · rw [e] at p; exact p C H1 m s r
  · rw [e] at p; exact p
theorem tT.bind {f : DT} {k : Bool → Ans Rv} {Q1 : Bool → Hp → Prop} (r : R M G Z H σ env T2) (hs : Sb T T2) (p : Post M W G Z σ env T Q H ((f env).bind k))
    (h : ∀ b H1, f env = .ok b → Same H H1 → R M G Z H1 σ env T2 → Post M W G Z σ env T Q H1 (k b) → Q1 b H1) : tT M W f σ H Q1 := by
  refine ⟨G, Z, env, T2, r, ?_⟩
  cases e : f env with
  | ok b =>
    rw [e] at p
    exact fun H1 s r => h b H1 e s r (p.later s)
  | ex c =>
    rw [e] at p
    exact fun C H1 m s r => p C H1 m s (r.sb hs)
  | no => rw [e] at p; exact p
theorem tT.bindT {f : DT} {k : Bool → Ans Bool} {Q1 : Bool → Hp → Prop} {Q : Bool → Hp → Prop} (r : R M G Z H σ env T2) (hs : Sb T T2) (p : PostT M W G Z σ env T Q H ((f env).bind k))
    (h : ∀ b H1, f env = .ok b → Same H H1 → R M G Z H1 σ env T2 → PostT M W G Z σ env T Q H1 (k b) → Q1 b H1) : tT M W f σ H Q1 := by
  refine ⟨G, Z, env, T2, r, ?_⟩
  cases e : f env with
  | ok b =>
    rw [e] at p
    exact fun H1 s r => h b H1 e s r (p.later s)
  | ex c =>
    rw [e] at p
    exact fun C H1 m s r => p C H1 m s (r.sb hs)
  | no => rw [e] at p; exact p
theorem tA.bind {f : VEnv → Ans (List Rv)} {k : List Rv → Ans Rv} {Q1 : List V → Hp → Prop} (r : R M G Z H σ env T2) (hs : Sb T T2) (p : Post M W G Z σ env T Q H ((f env).bind k))
    (h : ∀ rs vs H1, f env = .ok rs → vs.length = rs.length → Same H H1 → R M G Z H1 σ env (vs.zip rs ++ T2) → Post M W G Z σ env T Q H1 (k rs) → Q1 vs H1) : tA M W f σ H Q1 := by
  refine ⟨G, Z, env, T2, r, ?_⟩
  cases e : f env with
  | ok rs =>
    rw [e] at p
    exact fun vs H1 hl s r => h rs vs H1 e hl s r (p.later s)
  | ex c =>
    rw [e] at p
    exact fun C H1 m s r => p C H1 m s (r.sb hs)
  | no => rw [e] at p; exact p
end
abbrev JE (X : Cx) (W : WX) (e : Expr) (f : DE) : Prop := PE X e (tE X.mg W f)
abbrev JT (X : Cx) (W : WX) (e : Expr) (f : DT) : Prop := PT X e (tT X.mg W f)
abbrev JW (X : Cx) (W : WX) (e : Expr) (f : DT) : Prop := PW X e (tT X.mg W f)
abbrev JA (X : Cx) (W : WX) (es : List Expr) (f : VEnv → Ans (List Rv)) : Prop := PA X es (tA X.mg W f)
theorem PE.imp {X : Cx} {e : Expr} {t t' : TE} (p : PE X e t) (h : ∀ σ H Q, t' σ H Q → t σ H Q) : PE X e t' := ⟨fun pins s σ H Q I q => p.run pins s σ H Q I (h σ H Q q)⟩
theorem PT.imp {X : Cx} {e : Expr} {t t' : TT} (p : PT X e t) (h : ∀ σ H Q, t' σ H Q → t σ H Q) : PT X e t' := ⟨fun pins s σ H Q I q => p.run pins s σ H Q I (h σ H Q q)⟩
theorem PW.imp {X : Cx} {e : Expr} {t t' : TT} (p : PW X e t) (h : ∀ σ H Q, t' σ H Q → t σ H Q) : PW X e t' := ⟨fun w pins s σ H Q I q => p.run w pins s σ H Q I (h σ H Q q)⟩
theorem PA.imp {X : Cx} {e : List Expr} {t t' : TA} (p : PA X e t) (h : ∀ σ H Q, t' σ H Q → t σ H Q) : PA X e t' := ⟨fun pos pins s σ H Q I q => p.run pos pins s σ H Q I (h σ H Q q)⟩
theorem PE.or {X : Cx} {e : Expr} {t t' : TE} (p : PE X e t) (p' : PE X e t') : PE X e (fun σ H Q => t σ H Q ∨ t' σ H Q) := ⟨fun pins s σ H Q I q => q.elim (p.run pins s σ H Q I) (p'.run pins s σ H Q I)⟩
theorem PT.or {X : Cx} {e : Expr} {t t' : TT} (p : PT X e t) (p' : PT X e t') : PT X e (fun σ H Q => t σ H Q ∨ t' σ H Q) := ⟨fun pins s σ H Q I q => q.elim (p.run pins s σ H Q I) (p'.run pins s σ H Q I)⟩
/-! ### new values -/
section
variable {M : Str → Option Value} {F H H' : Hp} {o : OV} {v : V} {x : FV} {xs : List FV} {vs : List V} {p : Addr}
theorem New.old (hf : Same F H) (d : FDen M F x v) : New M F H H (.fz x) v := ⟨F, [], Same.refl _, fun _ _ e => .inl e, hf, Same.refl _, ⟨d, rfl⟩, Good.nil⟩
theorem New.int {i : Int} (hf : Same F H) : New M F H H (.fz (.int i)) (.int i) := New.old hf rfl
theorem New.bl {i : Bool} (hf : Same F H) : New M F H H (.fz (.bl i)) (.bl i) := New.old hf rfl
theorem New.str {i : Str} (hf : Same F H) : New M F H H (.fz (.str i)) (.str i) := New.old hf rfl
theorem New.non (hf : Same F H) : New M F H H (.fz .non) .non := New.old hf rfl
theorem same_upd {H : Hp} {p : Addr} {o : HO} (h : H p = none) : Same H (upd H p o) := fun b x e => by
  rw [upd_ne (ne_of_none e h)]; exact e
theorem none_of_same (hf : Same F H) (h : H p = none) : F p = none := by
  cases q : F p with
  | none => rfl
  | some z => rw [hf _ _ q] at h; cases h
/-- a new cell of one's own -/
theorem New.cell {u : HO} (hf : Same F H) (h : H p = none) (ow : Own M F o v [(p, u)]) : New M F H (upd H p u) o v := by
  refine ⟨F, [(p, u)], Same.refl _, fun _ _ e => .inl e, hf.trans (same_upd h), same_upd h, ow, ⟨by simp, fun q hq => ?_, fun q hq => ?_, fun q hq => ?_⟩⟩
  · rw [List.mem_singleton] at hq; subst hq; exact upd_same
  · rw [List.mem_singleton] at hq; subst hq; exact none_of_same hf h
  · rw [List.mem_singleton] at hq; subst hq; exact h
theorem New.lst (hf : Same F H) (h : H p = none) (d : FDenL M F xs vs) : New M F H (upd H p (.lst vs)) (.ol xs) (.ref p) := New.cell hf h ⟨p, vs, rfl, d, rfl⟩
theorem New.dK {ks : List (Key × FV)} {ws : List (Key × V)} (hf : Same F H) (h : H p = none) (d : FDenK M F ks ws) : New M F H (upd H p (.dK ws)) (.oK ks) (.ref p) := New.cell hf h ⟨p, ws, rfl, d, rfl⟩
theorem New.dT {ks : List (List Key × FV)} {ws : List (List Key × V)} (hf : Same F H) (h : H p = none) (d : FDenT M F ks ws) : New M F H (upd H p (.dT ws)) (.oT ks) (.ref p) := New.cell hf h ⟨p, ws, rfl, d, rfl⟩
/-- a new frozen object -/
theorem New.ice {u : HO} (hf : Same F H) (h : H p = none) (d : FDen M (upd F p u) x v) : New M F H (upd H p u) (.fz x) v := by
  have hF := none_of_same hf h
  refine ⟨upd F p u, [], same_upd hF, fun a z e => ?_, fun a z e => ?_, same_upd h, ⟨d, rfl⟩, Good.nil⟩
  · by_cases q : a = p
    · subst q; exact .inr h
    · rw [upd_ne q] at e; exact .inl e
  · by_cases q : a = p
    · subst q; rw [upd_same] at e ⊢; exact e
    · rw [upd_ne q] at e ⊢; exact hf _ _ e
theorem New.tup (hf : Same F H) (h : H p = none) (d : FDenL M F xs vs) : New M F H (upd H p (.tup vs)) (.fz (.tup xs)) (.ref p) :=
  New.ice hf h ⟨p, vs, rfl, upd_same, d.mono (same_upd (none_of_same hf h))⟩
theorem FDenL.length : ∀ {xs : List FV} {vs : List V}, FDenL M F xs vs → vs.length = xs.length
  | [], _, e => by rw [show _ = [] from e]; rfl
  | _ :: xs, _, ⟨v, ws, e, _, r⟩ => by rw [e, List.length_cons, List.length_cons, FDenL.length r]
theorem FDenL.get : ∀ {xs : List FV} {vs : List V} {i : Nat} {x : FV}, FDenL M F xs vs → xs[i]? = some x → ∃ v, vs[i]? = some v ∧ FDen M F x v
  | [], _, _, _, _, h => by simp at h
  | _ :: _, _, 0, _, ⟨v, ws, e, d, _⟩, h => by
    rw [List.getElem?_cons_zero] at h
    cases h
    exact ⟨v, by rw [e]; rfl, d⟩
  | _ :: _, _, i + 1, _, ⟨v, ws, e, _, r⟩, h => by
    rw [List.getElem?_cons_succ] at h
    obtain ⟨w, q, d⟩ := FDenL.get r h
    exact ⟨w, by rw [e, List.getElem?_cons_succ]; exact q, d⟩
theorem FDenL.append : ∀ {xs ys : List FV} {vs ws : List V}, FDenL M F xs vs → FDenL M F ys ws → FDenL M F (xs ++ ys) (vs ++ ws)
  | [], _, _, _, e, h => by rw [show _ = [] from e]; exact h
  | _ :: _, _, _, _, ⟨v, us, e, d, r⟩, h => by
    rw [e]
    exact ⟨v, us ++ _, rfl, d, FDenL.append r h⟩
theorem FDenL.take : ∀ {xs : List FV} {vs : List V} (n : Nat), FDenL M F xs vs → FDenL M F (xs.take n) (vs.take n)
  | _, _, 0, _ => by simp [FDenL]
  | [], _, _ + 1, e => by rw [show _ = [] from e]; simp [FDenL]
  | _ :: _, _, n + 1, ⟨v, us, e, d, r⟩ => by
    rw [e]
    exact ⟨v, us.take n, rfl, d, FDenL.take n r⟩
theorem FDenL.drop : ∀ {xs : List FV} {vs : List V} (n : Nat), FDenL M F xs vs → FDenL M F (xs.drop n) (vs.drop n)
  | _, _, 0, h => h
  | [], _, _ + 1, e => by rw [show _ = [] from e]; simp [FDenL]
  | _ :: _, _, n + 1, ⟨v, us, e, d, r⟩ => by
    rw [e]
    exact FDenL.drop n r
theorem FDenL.reverse {xs : List FV} {vs : List V} (h : FDenL M F xs vs) : FDenL M F xs.reverse vs.reverse := by
  induction xs generalizing vs with
  | nil => rw [show _ = [] from h]; simp [FDenL]
  | cons x xs ih =>
    obtain ⟨v, us, e, d, r⟩ := h
    rw [e, List.reverse_cons, List.reverse_cons]
    exact (ih r).append ⟨v, [], rfl, d, rfl⟩
theorem FDenL.ints : ∀ {ns : List Int} {vs : List V}, FDenL M F (ns.map .int) vs → vs = ns.map V.int
  | [], _, e => e
  | n :: ns, _, ⟨v, us, e, d, r⟩ => by rw [e, show v = .int n from d, FDenL.ints r]; rfl
theorem FDenL.strs : ∀ {ns : List Str} {vs : List V}, FDenL M F (ns.map .str) vs → vs = ns.map V.str
  | [], _, e => e
  | n :: ns, _, ⟨v, us, e, d, r⟩ => by rw [e, show v = .str n from d, FDenL.strs r]; rfl
end
end J
namespace J
open PySem PySem.Spec PyProof.Rows L2
/-! ### data -/
mutual
def FV.toD : FV → Option PyData
  | .non => some .none
  | .bl b => some (.bool b)
  | .int i => some (.int i)
  | .str x => some (.str x)
  | .tup xs => (FV.toDL xs).map .tuple
  | .tuz xs => (FV.toDL xs).map .tuple
  | .lst xs => (FV.toDL xs).map .list
  | _ => none
def FV.toDL : List FV → Option (List PyData)
  | [] => some []
  | x :: xs => match x.toD, FV.toDL xs with
    | some d, some ds => some (d :: ds)
    | _, _ => none
end
section
variable {M : Str → Option Value} {K : PySem.W.Frag} {F H H' : Hp} {x : FV} {v : V} {d : PyData}
mutual
theorem FDen.dp : ∀ {x : FV} {v : V} {d : PyData}, FDen M H x v → x.toD = some d → Dp K H v d
  | .non, _, _, h, e => by cases e; rw [show _ = V.non from h]; exact .non
  | .bl b, _, _, h, e => by cases e; rw [show _ = V.bl b from h]; exact .bl b
  | .int i, _, _, h, e => by cases e; rw [show _ = V.int i from h]; exact .int i
  | .str x, _, _, h, e => by cases e; rw [show _ = V.str x from h]; exact .str x
  | .tup xs, _, d, ⟨a, vs, ev, q, r⟩, e => by
    obtain ⟨ds, e1, e2⟩ := Option.map_eq_some_iff.mp (show (FV.toDL xs).map PyData.tuple = some d from e)
    subst e2
    rw [ev]
    exact .tup (SqT.of q) (FDenL.dp r e1)
  | .tuz xs, _, d, ⟨a, vs, o, ev, q, _, _, r⟩, e => by
    obtain ⟨ds, e1, e2⟩ := Option.map_eq_some_iff.mp (show (FV.toDL xs).map PyData.tuple = some d from e)
    subst e2
    rw [ev]
    exact .tup (.inl (.inr ⟨o, q⟩)) (FDenL.dp r e1)
  | .lst xs, _, d, ⟨a, vs, ev, q, r⟩, e => by
    obtain ⟨ds, e1, e2⟩ := Option.map_eq_some_iff.mp (show (FV.toDL xs).map PyData.list = some d from e)
    subst e2
    rw [ev]
    exact .lst (SqL.of q) (FDenL.dp r e1)
  | .dK _, _, _, _, e => nomatch e
  | .dT _, _, _, _, e => nomatch e
  | .ins _ _, _, _, _, e => nomatch e
  | .exc _, _, _, _, e => nomatch e
  | .scr _, _, _, _, e => nomatch e
  | .dN _, _, _, _, e => nomatch e
theorem FDenL.dp : ∀ {xs : List FV} {vs : List V} {ds : List PyData}, FDenL M H xs vs → FV.toDL xs = some ds → DpAll K H vs ds
  | [], _, _, h, e => by cases e; rw [show _ = [] from h]; exact .nil
  | x :: xs, _, _, ⟨v, ws, ev, d, r⟩, e => by
    unfold FV.toDL at e
    split at e
    · rename_i d1 ds1 e1 e2
      cases e
      rw [ev]
      exact .cons (FDen.dp d e1) (FDenL.dp r e2)
    · cases e
end
end
/-! ### names, constants -/
def dVar (i : Nat) : DE := fun env => match env[i]? with
  | some (some (.fz x)) => .ok (.st (.fz x))
  | some (some o) => .ok (.bo o)
  | _ => .no
def dC (x : FV) : DE := fun _ => .ok (.st (.fz x))
section
variable {X : Cx} {W : WX} {pos p : Pos} {x : Str}
theorem je_var (i : Nat) (hN : X.N[i]? = some x := by rfl) (hv : Vis X.env.scope x := by first | exact Or.inl rfl | exact Or.inr (Or.inl rfl) | exact Or.inr (Or.inr rfl)) (hd : (x == ("__debug__" : Str)) = false := by decide)
    (hcd : (x == ("__classdict__" : Str)) = false := by decide) : JE X W (.Name x pos) (dVar i) := by
  refine PE.imp (pe_var hN hv hd hcd) fun σ H Q ⟨G, Z, env, T, ⟨F, C1, C2, r⟩, p⟩ => ?_
  have hp : Post X.mg W G Z σ env T Q H (dVar i env) := p
  unfold dVar at hp
  split at hp
  · rename_i x e
    obtain ⟨v, e1, r1⟩ := r.lookF e
    exact ⟨v, e1, hp v H (Same.refl _) r1.r⟩
  · rename_i o _ e
    obtain ⟨v, e1, r1⟩ := r.look e
    exact ⟨v, e1, hp v H (Same.refl _) r1.r⟩
  · exact hp.elim
theorem je_c {e : Expr} {v : V} {y : FV} (h : PE X e (tC v)) (d : ∀ M F, FDen M F y v) : JE X W e (dC y) := by
  refine PE.imp h fun σ H Q ⟨G, Z, env, T, ⟨F, C1, C2, r⟩, p⟩ => ?_
  exact p v H (Same.refl _) (r.new (New.old r.fh (d _ _)))
theorem je_int {i : Int} {j} : JE X W (.Constant (.int i) j pos) (dC (.int i)) := je_c pe_int fun _ _ => rfl
theorem je_bl {i : Bool} {j} : JE X W (.Constant (.bool i) j pos) (dC (.bl i)) := je_c pe_bl fun _ _ => rfl
theorem je_str {i : Str} {j} : JE X W (.Constant (.str i) j pos) (dC (.str i)) := je_c pe_str fun _ _ => rfl
theorem je_non {j} : JE X W (.Constant .none j pos) (dC .non) := je_c pe_non fun _ _ => rfl
/-- a constant of the module -/
theorem je_gint {i : Int} {t : Tok} (hm : X.mg x = some (.int i t)) (hg : Gl X x := by rfl) (hd : (x == ("__debug__" : Str)) = false := by decide) : JE X W (.Name x pos) (dC (.int i)) := je_c (pe_glob hg hm (v := .int i) ⟨t, rfl⟩ hd) fun _ _ => rfl
theorem je_gstr {i : Str} {t : Tok} (hm : X.mg x = some (.str i t)) (hg : Gl X x := by rfl) (hd : (x == ("__debug__" : Str)) = false := by decide) : JE X W (.Name x pos) (dC (.str i)) := je_c (pe_glob hg hm (v := .str i) ⟨t, rfl⟩ hd) fun _ _ => rfl
end
/-! ### operators -/
def Ans.of {α : Type} : Option α → Ans α
  | some a => .ok a
  | none => .no
def dBin (op : OV → OV → Option OV) (f g : DE) : DE := fun env => (f env).bind fun x => (g env).bind fun y => (Ans.of (op x.ov y.ov)).map .st
def dUn (op : OV → Option OV) (f : DE) : DE := fun env => (f env).bind fun x => (Ans.of (op x.ov)).map .st
def rJ (M : Str → Option Value) (op : OV → OV → Option OV) : R2 := fun u w H Q => ∃ F x y o, Same F H ∧ Bor M F H x u ∧ Bor M F H y w ∧ op x y = some o ∧ ∀ v H', New M F H H' o v → Q v H'
def rJ1 (M : Str → Option Value) (op : OV → Option OV) : V → Hp → VK → Prop := fun u H Q => ∃ F x o, Same F H ∧ Bor M F H x u ∧ op x = some o ∧ ∀ v H', New M F H H' o v → Q v H'
abbrev OJ (X : Cx) (f : Value → Value → Sem Value) (op : OV → OV → Option OV) : Prop := OpR X f (rJ X.mg op)
section
variable {M : Str → Option Value} {G Z H F : Hp} {σ : Sl} {env : VEnv} {T T2 : List (V × Rv)} {W : WX} {Q : VK} {C1 C2 : Cells}
/-- an answer from a new value -/
theorem RF.fin (r : RF M G Z H F σ env T2 C1 C2) (hs : Sb T T2) {oo : Option OV} (p : Post M W G Z σ env T Q H ((Ans.of oo).map .st)) : ∃ o, oo = some o ∧ ∀ v H', New M F H H' o v → Q v H' := by
  cases oo with
  | none => exact p.elim
  | some o => exact ⟨o, rfl, fun v H' n => p v H' (let ⟨_, _, n⟩ := n; n.hh) ((r.new n).sb hs.both)⟩
theorem RF.rj1 {op : OV → Option OV} {u : V} {x : Rv} (r : RF M G Z H F σ env ((u, x) :: T2) C1 C2) (hs : Sb T T2) (p : Post M W G Z σ env T Q H ((Ans.of (op x.ov)).map .st)) : rJ1 M op u H Q := by
  obtain ⟨o, e, k⟩ := r.fin (hs.cons) p
  exact ⟨F, x.ov, o, r.fh, r.bor List.mem_cons_self, e, k⟩
theorem RF.rj {op : OV → OV → Option OV} {u w : V} {x y : Rv} (r : RF M G Z H F σ env ((w, y) :: (u, x) :: T2) C1 C2) (hs : Sb T T2) (p : Post M W G Z σ env T Q H ((Ans.of (op x.ov y.ov)).map .st)) : rJ M op u w H Q := by
  obtain ⟨o, e, k⟩ := r.fin (hs.cons.cons) p
  exact ⟨F, x.ov, y.ov, o, r.fh, r.bor (List.mem_cons_of_mem _ List.mem_cons_self), r.bor List.mem_cons_self, e, k⟩
end
section
variable {X : Cx} {W : WX} {pos : Pos} {a b : Expr} {f g : DE}
theorem bin_red {op : OV → OV → Option OV} {σ : Sl} {H : Hp} {Q : VK} (h : tE X.mg W (dBin op f g) σ H Q) : tE X.mg W f σ H fun u H1 => tE X.mg W g σ H1 fun w H2 => rJ X.mg op u w H2 Q := by
  obtain ⟨G, Z, env, T, r, p⟩ := h
  refine tE.bind r Sb.refl p fun x u H1 _ s1 r1 p1 => ?_
  refine tE.bind r1 Sb.refl.cons p1 fun y w H2 _ s2 r2 p2 => ?_
  obtain ⟨F, C1, C2, r2⟩ := r2
  exact r2.rj Sb.refl p2
theorem je_bin {op : Operator} {opd : OV → OV → Option OV} (ho : OJ X (binaryOp op) opd) (ha : JE X W a f) (hb : JE X W b g) : JE X W (.BinOp a op b pos) (dBin opd f g) :=
  PE.imp (pe_op ho ha hb) fun σ H Q h => bin_red h
theorem je_cmp {op : CmpOp} {opd : OV → OV → Option OV} (ho : OJ X (compareOp op) opd) (ha : JE X W a f) (hb : JE X W b g) (hm : behindInMarks op b = false := by first | exact nomark _ | rfl) : JE X W (.Compare a [op] [b] pos) (dBin opd f g) :=
  PE.imp (pe_cmpR ho ha hb hm) fun σ H Q h => bin_red h
theorem je_un {op : UnaryOp} {opd : OV → Option OV} (ho : UnR X (unaryOp op) (rJ1 X.mg opd)) (ha : JE X W a f) : JE X W (.UnaryOp op a pos) (dUn opd f) :=
  PE.imp (pe_un ho ha) fun σ H Q ⟨G, Z, env, T, r, p⟩ => tE.bind r Sb.refl p fun x u H1 _ s1 r1 p1 => let ⟨F, C1, C2, r1⟩ := r1; r1.rj1 Sb.refl p1
end
/-! ### the operators' answers -/
abbrev BIG : Nat := 16777216
theorem big_eq : sizeLine = BIG := by rw [sizeLine_eq]
def OV.lst? : OV → Option (List FV)
  | .ol xs => some xs
  | .fz (.lst xs) => some xs
  | _ => none
def FV.tup? : FV → Option (List FV)
  | .tup xs => some xs
  | .tuz xs => some xs
  | _ => none
def opAdd : OV → OV → Option OV
  | .fz (.int i), .fz (.int j) => some (.fz (.int (i + j)))
  | .fz (.str x), .fz (.str y) => if x.length + y.length ≤ BIG then some (.fz (.str (x ++ y))) else none
  | .fz (.tup x), .fz (.tup y) => if x.length + y.length ≤ BIG then some (.fz (.tup (x ++ y))) else none
  | x, y => match x.lst?, y.lst? with
    | some a, some b => if a.length + b.length ≤ BIG then some (.ol (a ++ b)) else none
    | _, _ => none
def opSub : OV → OV → Option OV
  | .fz (.int i), .fz (.int j) => some (.fz (.int (i - j)))
  | _, _ => none
def mulOk (i j : Int) : Bool := decide (i.natAbs < 2 ^ 62) || decide (j.natAbs < 2 ^ 62) || decide (i.natAbs.log2 + j.natAbs.log2 < 1000000)
def opMul : OV → OV → Option OV
  | .fz (.int i), .fz (.int j) => if mulOk i j then some (.fz (.int (i * j))) else none
  | _, _ => none
def opDiv : OV → OV → Option OV
  | .fz (.int i), .fz (.int j) => if 0 < j ∧ j.natAbs < 2 ^ 62 then some (.fz (.int (i / j))) else none
  | _, _ => none
def opMod : OV → OV → Option OV
  | .fz (.int i), .fz (.int j) => if 0 < j then some (.fz (.int (i % j))) else none
  | _, _ => none
def opPow : OV → OV → Option OV
  | .fz (.int i), .fz (.int j) => if 0 ≤ j ∧ j ≤ 1000 ∧ i.natAbs < 2 ^ 60 then some (.fz (.int (i ^ j.toNat))) else none
  | _, _ => none
def opShr : OV → OV → Option OV
  | .fz (.int i), .fz (.int j) => if 0 ≤ j then some (.fz (.int (i / 2 ^ j.toNat))) else none
  | _, _ => none
def opCmp (p : Int → Int → Bool) : OV → OV → Option OV
  | .fz (.int i), .fz (.int j) => some (.fz (.bl (p i j)))
  | _, _ => none
abbrev opLt := opCmp fun i j => decide (i < j)
abbrev opLe := opCmp fun i j => decide (i ≤ j)
abbrev opGt := opCmp fun i j => decide (j < i)
abbrev opGe := opCmp fun i j => decide (j ≤ i)
def FV.atom : FV → Bool
  | .non => true
  | .bl _ => true
  | .int _ => true
  | .str _ => true
  | _ => false
def FV.eqD (x y : FV) : Option Bool :=
  match x.toD, y.toD with
    | some d, some e => if SeqAt.shaped d && SeqAt.shaped e then some (PyData.eqv d e) else none
    | _, _ => none
def opEq (x y : OV) : Option OV := match x, y with
  | .fz (.int i), .fz (.int j) => some (.fz (.bl (decide (i = j))))
  | .fz (.str i), .fz (.str j) => some (.fz (.bl (decide (i = j))))
  | _, _ => (x.fv.eqD y.fv).map fun b => .fz (.bl b)
def opNe (x y : OV) : Option OV := match x, y with
  | .fz (.int i), .fz (.int j) => some (.fz (.bl (!decide (i = j))))
  | .fz (.str i), .fz (.str j) => some (.fz (.bl (!decide (i = j))))
  | _, _ => (x.fv.eqD y.fv).map fun b => .fz (.bl !b)
section
variable {M : Str → Option Value} {F H : Hp} {x y : OV} {u w : V}
theorem Bor.int {i : Int} (b : Bor M F H (.fz (.int i)) u) : u = .int i := let ⟨_, d, _⟩ := b; d.1
theorem Bor.bl {i : Bool} (b : Bor M F H (.fz (.bl i)) u) : u = .bl i := let ⟨_, d, _⟩ := b; d.1
theorem Bor.str {i : Str} (b : Bor M F H (.fz (.str i)) u) : u = .str i := let ⟨_, d, _⟩ := b; d.1
theorem Bor.fz {i : FV} (b : Bor M F H (.fz i) u) : FDen M F i u := let ⟨_, d, _⟩ := b; d.1
theorem Bor.lst {xs : List FV} (hf : Same F H) (b : Bor M F H x u) (e : x.lst? = some xs) : ∃ a vs, u = .ref a ∧ H a = some (.lst vs) ∧ FDenL M F xs vs := by
  unfold OV.lst? at e
  split at e
  · cases e
    obtain ⟨A, ⟨a, vs, e, d, q⟩, c⟩ := b
    subst q
    exact ⟨a, vs, e, c _ List.mem_cons_self, d⟩
  · cases e
    obtain ⟨a, vs, e, q, d⟩ := b.fz
    exact ⟨a, vs, e, hf _ _ q, d⟩
  · cases e
theorem FDen.tupT {K : PySem.W.Frag} {xs : List FV} {z : FV} (d : FDen M F z u) (e : z.tup? = some xs) : ∃ a vs, u = .ref a ∧ SqT K F a vs ∧ FDenL M F xs vs := by
  unfold FV.tup? at e
  split at e
  · cases e
    obtain ⟨a, vs, e, q, d⟩ := d
    exact ⟨a, vs, e, SqT.of q, d⟩
  · cases e
    obtain ⟨a, vs, o, e, q, _, _, d⟩ := d
    exact ⟨a, vs, e, .inl (.inr ⟨o, q⟩), d⟩
  · cases e
end
theorem SqT.sameS {K : PySem.W.Frag} {F H : Hp} {a : Addr} {xs : List V} (h : Same F H) (q : SqT K F a xs) : SqT K H a xs := by
  rcases q with (q | ⟨o, q⟩) | q
  · exact .inl (.inl (h _ _ q))
  · exact .inl (.inr ⟨o, h _ _ q⟩)
  · exact .inr q
section
variable {X : Cx}
theorem oj_of {f : Value → Value → Sem Value} {op : OV → OV → Option OV} {r : R2} (ho : OpR X f r) (h : ∀ F H x y u w o Q, Same F H → Bor X.mg F H x u → Bor X.mg F H y w → op x y = some o → (∀ v H', New X.mg F H H' o v → Q v H') → r u w H Q) : OJ X f op :=
  fun pins s σ H u w v1 v2 Q I r1 r2 ⟨F, x, y, o, hf, bx, by', e, k⟩ => ho pins s σ H u w v1 v2 Q I r1 r2 (h F H x y u w o Q hf bx by' e k)
theorem oj_add : OJ X (binaryOp .Add) opAdd := by
  refine oj_of ((op_add.or op_add_str).or (op_catA.or op_cat)) fun F H x y u w o Q hf bx by' e k => ?_
  unfold opAdd at e
  split at e
  · cases e
    exact .inl (.inl ⟨_, _, bx.int, by'.int, k _ _ (New.int hf)⟩)
  · split at e
    · cases e
      exact .inl (.inr ⟨_, _, bx.str, by'.str, by rw [big_eq]; assumption, k _ _ (New.str hf)⟩)
    · cases e
  · split at e
    · rename_i xs ys hz
      cases e
      obtain ⟨a, vs, rfl, q, d⟩ := FDen.tupT (K := X.K) bx.fz (xs := _) rfl
      obtain ⟨b, ws, rfl, q2, d2⟩ := FDen.tupT (K := X.K) by'.fz (xs := _) rfl
      refine .inr (.inl ⟨a, b, vs, ws, rfl, rfl, SqT.sameS hf q, SqT.sameS hf q2, by rw [d.length, d2.length, big_eq]; exact hz, fun e => ?_, fun _ e => ?_, fun _ _ p hp => ?_⟩)
      · subst e
        have ex := d.length
        obtain rfl : xs = [] := List.eq_nil_of_length_eq_zero (by simpa using ex.symm)
        exact k _ _ (New.old hf by'.fz)
      · subst e
        have ex := d2.length
        obtain rfl : ys = [] := List.eq_nil_of_length_eq_zero (by simpa using ex.symm)
        rw [List.append_nil] at k
        exact k _ _ (New.old hf bx.fz)
      · exact k _ _ (New.tup hf hp (d.append d2))
    · cases e
  · split at e
    · rename_i a b e1 e2
      split at e
      · rename_i hz
        cases e
        obtain ⟨p, vs, rfl, q, d⟩ := bx.lst hf e1
        obtain ⟨p2, ws, rfl, q2, d2⟩ := by'.lst hf e2
        exact .inr (.inr ⟨p, p2, vs, ws, rfl, rfl, q, q2, by rw [d.length, d2.length, big_eq]; exact hz, fun p hp => k _ _ (New.lst hf hp (d.append d2))⟩)
      · cases e
    · cases e
theorem oj_sub : OJ X (binaryOp .Sub) opSub := by
  refine oj_of op_sub fun F H x y u w o Q hf bx by' e k => ?_
  unfold opSub at e
  split at e
  · cases e
    exact ⟨_, _, bx.int, by'.int, k _ _ (New.int hf)⟩
  · cases e
theorem mul_le {i : Int} (h : i.natAbs < 2 ^ 62) : -(2 ^ 64) < i ∧ i < 2 ^ 64 := by omega
theorem oj_mul : OJ X (binaryOp .Mult) opMul := by
  refine oj_of (op_mul.or op_mulW) fun F H x y u w o Q hf bx by' e k => ?_
  unfold opMul at e
  split at e
  · split at e
    · rename_i i j hm
      cases e
      unfold mulOk at hm
      rw [Bool.or_eq_true, Bool.or_eq_true] at hm
      rcases hm with (hm | hm) | hm
      · exact .inl ⟨_, _, bx.int, by'.int, .inl (mul_le (of_decide_eq_true hm)), k _ _ (New.int hf)⟩
      · exact .inl ⟨_, _, bx.int, by'.int, .inr (mul_le (of_decide_eq_true hm)), k _ _ (New.int hf)⟩
      · exact .inr ⟨_, _, bx.int, by'.int, show _ from (of_decide_eq_true hm : i.natAbs.log2 + j.natAbs.log2 < 1000000), k _ _ (New.int hf)⟩
    · cases e
  · cases e
theorem oj_div : OJ X (binaryOp .FloorDiv) opDiv := by
  refine oj_of op_fdivW fun F H x y u w o Q hf bx by' e k => ?_
  unfold opDiv at e
  split at e
  · split at e
    · rename_i i j hm
      cases e
      exact ⟨_, _, bx.int, by'.int, wide_div hm.1 (b := 62) hm.2 (by decide) (by decide), k _ _ (New.int hf)⟩
    · cases e
  · cases e
theorem oj_mod : OJ X (binaryOp .Mod) opMod := by
  refine oj_of op_mod fun F H x y u w o Q hf bx by' e k => ?_
  unfold opMod at e
  split at e
  · split at e
    · rename_i i j hm
      cases e
      exact ⟨_, _, bx.int, by'.int, hm, k _ _ (New.int hf)⟩
    · cases e
  · cases e
theorem oj_pow : OJ X (binaryOp .Pow) opPow := by
  refine oj_of op_pow fun F H x y u w o Q hf bx by' e k => ?_
  unfold opPow at e
  split at e
  · split at e
    · rename_i i j hm
      cases e
      exact ⟨_, _, bx.int, by'.int, ⟨hm.1, by omega, Nat.lt_of_lt_of_le hm.2.2 (by decide)⟩, k _ _ (New.int hf)⟩
    · cases e
  · cases e
theorem oj_shr : OJ X (binaryOp .RShift) opShr := by
  refine oj_of op_shr fun F H x y u w o Q hf bx by' e k => ?_
  unfold opShr at e
  split at e
  · split at e
    · rename_i i j hm
      cases e
      exact ⟨_, _, bx.int, by'.int, hm, k _ _ (New.int hf)⟩
    · cases e
  · cases e
theorem oj_cmp {op : CmpOp} {p : Int → Int → Bool} (ho : OpR X (compareOp op) (rI0 fun i j => .bl (p i j))) : OJ X (compareOp op) (opCmp p) := by
  refine oj_of ho fun F H x y u w o Q hf bx by' e k => ?_
  unfold opCmp at e
  split at e
  · cases e
    exact ⟨_, _, bx.int, by'.int, k _ _ (New.bl hf)⟩
  · cases e
theorem oj_lt : OJ X (compareOp .Lt) opLt := oj_cmp op_lt
theorem oj_le : OJ X (compareOp .LtE) opLe := oj_cmp op_le
theorem oj_gt : OJ X (compareOp .Gt) opGt := oj_cmp op_gt
theorem oj_ge : OJ X (compareOp .GtE) opGe := oj_cmp op_ge
theorem eqD_of {M : Str → Option Value} {K : PySem.W.Frag} {F H : Hp} {x y : OV} {u w : V} {b : Bool} (hf : Same F H) (bx : Bor M F H x u) (by' : Bor M F H y w) (e : x.fv.eqD y.fv = some b) :
    ∃ d e, Dp K H u d ∧ Dp K H w e ∧ SeqAt.shaped d = true ∧ SeqAt.shaped e = true ∧ b = PyData.eqv d e := by
  unfold FV.eqD at e
  split at e
  · rename_i d1 d2 e1 e2
    split at e
    · rename_i hs
      cases e
      rw [Bool.and_eq_true] at hs
      exact ⟨d1, d2, (bx.fden hf).dp e1, (by'.fden hf).dp e2, hs.1, hs.2, rfl⟩
    · cases e
  · cases e
theorem oj_eq (hu : X.A.units + 64 < cLine) : OJ X (compareOp .Eq) opEq := by
  refine oj_of (op_eq.or (op_eqD hu)) fun F H x y u w o Q hf bx by' e k => ?_
  unfold opEq at e
  split at e
  · cases e
    rename_i i j
    exact .inl ⟨by rw [bx.int, by'.int]; rfl, by rw [bx.int, by'.int, dec_int, Bool.beq_eq_decide_eq]; exact k _ _ (New.bl hf)⟩
  · cases e
    rename_i i j
    exact .inl ⟨by rw [bx.str, by'.str]; rfl, by rw [bx.str, by'.str, dec_str, Bool.beq_eq_decide_eq]; exact k _ _ (New.bl hf)⟩
  · obtain ⟨b, e1, e2⟩ := Option.map_eq_some_iff.mp e
    subst e2
    obtain ⟨d, d', h1, h2, h3, h4, rfl⟩ := eqD_of (K := X.K) hf bx by' e1
    exact .inr ⟨d, d', h1, h2, h3, h4, k _ _ (New.bl hf)⟩
theorem oj_ne (hu : X.A.units + 64 < cLine) : OJ X (compareOp .NotEq) opNe := by
  refine oj_of (op_ne.or (op_neD hu)) fun F H x y u w o Q hf bx by' e k => ?_
  unfold opNe at e
  split at e
  · cases e
    rename_i i j
    exact .inl ⟨by rw [bx.int, by'.int]; rfl, by rw [bx.int, by'.int, dec_int, Bool.beq_eq_decide_eq]; exact k _ _ (New.bl hf)⟩
  · cases e
    rename_i i j
    exact .inl ⟨by rw [bx.str, by'.str]; rfl, by rw [bx.str, by'.str, dec_str, Bool.beq_eq_decide_eq]; exact k _ _ (New.bl hf)⟩
  · obtain ⟨b, e1, e2⟩ := Option.map_eq_some_iff.mp e
    subst e2
    obtain ⟨d, d', h1, h2, h3, h4, rfl⟩ := eqD_of (K := X.K) hf bx by' e1
    exact .inr ⟨d, d', h1, h2, h3, h4, k _ _ (New.bl hf)⟩
end
end J
namespace J
open PySem PySem.Spec PyProof.Rows L2
/-! ### tests -/
theorem Ans.bind_assoc {α β γ : Type} (x : Ans α) (f : α → Ans β) (g : β → Ans γ) : (x.bind f).bind g = x.bind fun a => (f a).bind g := by cases x <;> rfl
def Rv.bool (r : Rv) : Ans Bool := match r.ov with
  | .fz (.bl b) => .ok b
  | _ => .no
theorem Rv.bool_or (r : Rv) : (∃ b, r.ov = .fz (.bl b) ∧ r.bool = .ok b) ∨ r.bool = .no := by
  unfold Rv.bool
  split
  · rename_i b e
    exact .inl ⟨b, e, rfl⟩
  · exact .inr rfl
def dTest (f : DE) : DT := fun env => (f env).bind Rv.bool
def dB (f : DT) : DE := fun env => (f env).bind fun b => .ok (.st (.fz (.bl b)))
def dNotT (f : DT) : DT := fun env => (f env).bind fun b => .ok !b
def dAndT (f g : DT) : DT := fun env => (f env).bind fun b => if b then g env else .ok false
def dOrT (f g : DT) : DT := fun env => (f env).bind fun b => if b then .ok true else g env
section
variable {M : Str → Option Value} {G Z H F : Hp} {σ : Sl} {env : VEnv} {T T2 : List (V × Rv)} {C1 C2 : Cells} {u : V} {x : Rv}
theorem RF.boolT {W : WX} {Q : Bool → Hp → Prop} {k : Bool → Ans Bool} (r : RF M G Z H F σ env T2 C1 C2) (h : (u, x) ∈ T2) (p : PostT M W G Z σ env T Q H (x.bool.bind k)) : ∃ b, u = .bl b ∧ PostT M W G Z σ env T Q H (k b) := by
  rcases x.bool_or with ⟨b, e, e2⟩ | e
  · have hb := r.bor h
    rw [show (u, x).2.ov = x.ov from rfl, e] at hb
    rw [e2] at p
    exact ⟨b, hb.bl, p⟩
  · rw [e] at p; exact p.elim
theorem RF.bool {W : WX} {Q : VK} {k : Bool → Ans Rv} (r : RF M G Z H F σ env T2 C1 C2) (h : (u, x) ∈ T2) (p : Post M W G Z σ env T Q H (x.bool.bind k)) : ∃ b, u = .bl b ∧ Post M W G Z σ env T Q H (k b) := by
  rcases x.bool_or with ⟨b, e, e2⟩ | e
  · have hb := r.bor h
    rw [show (u, x).2.ov = x.ov from rfl, e] at hb
    rw [e2] at p
    exact ⟨b, hb.bl, p⟩
  · rw [e] at p; exact p.elim
end
section
variable {X : Cx} {W : WX} {pos : Pos} {a b e : Expr} {rest : List Expr} {f g : DE} {ft gt : DT}
theorem Ans.bind_ok {α : Type} (x : Ans α) : x.bind .ok = x := by cases x <;> rfl
theorem tB_red {Q : Bool → Hp → Prop} {σ : Sl} {H : Hp} (h : tT X.mg W (dTest f) σ H Q) : tE X.mg W f σ H fun x H1 => ∃ c, x = .bl c ∧ Q c H1 := by
  obtain ⟨G, Z, env, T, r, p⟩ := h
  refine tE.bindT r Sb.refl p fun x u H1 _ s1 ⟨F, C1, C2, r1⟩ p1 => ?_
  rw [← Ans.bind_ok x.bool] at p1
  obtain ⟨b, e, p1⟩ := r1.boolT List.mem_cons_self p1
  exact ⟨b, e, p1 H1 (Same.refl _) r1.r.pop⟩
/-- an expression that gives True or False, as a test -/
theorem jt_val (h : JE X W e f) (he : ∀ whole, isTrue e X.env whole = (do let v ← whole; standAt e.pos; holding [v] (truthy v)) := by intro _; rfl) : JT X W e (dTest f) :=
  PT.imp (pt_val h he) fun σ H Q h => tB_red h
theorem jt_cmp {op : CmpOp} {opd : OV → OV → Option OV} (ho : OJ X (compareOp op) opd) (ha : JE X W a f) (hb : JE X W b g) (hm : behindInMarks op b = false := by first | exact nomark _ | rfl) : JT X W (.Compare a [op] [b] pos) (dTest (dBin opd f g)) := by
  refine PT.imp (pt_cmpR ho ha hb hm) fun σ H Q ⟨G, Z, env, T, r, p⟩ => ?_
  show tE X.mg W f σ H fun u H1 => tE X.mg W g σ H1 fun w H2 => rJ X.mg opd u w H2 fun x H' => ∃ k, x = .bl k ∧ Q k H'
  have p' : PostT X.mg W G Z σ env T Q H ((f env).bind fun x => (g env).bind fun y => ((Ans.of (opd x.ov y.ov)).map .st).bind Rv.bool) := by
    have p2 := p
    unfold dTest dBin at p2
    rw [Ans.bind_assoc] at p2
    simp only [Ans.bind_assoc] at p2
    exact p2
  refine tE.bindT r Sb.refl p' fun x u H1 _ s1 r1 p1 => ?_
  refine tE.bindT r1 Sb.refl.cons p1 fun y w H2 _ s2 ⟨F, C1, C2, r2⟩ p2 => ?_
  cases e : opd x.ov y.ov with
  | none => rw [e] at p2; exact p2.elim
  | some o =>
    rw [e] at p2
    refine ⟨F, x.ov, y.ov, o, r2.fh, r2.bor (List.mem_cons_of_mem _ List.mem_cons_self), r2.bor List.mem_cons_self, e, fun v H' n => ?_⟩
    obtain ⟨F3, C3, C4, r3⟩ := r2.new n
    have p3 : PostT X.mg W G Z σ env T Q H2 (Rv.bool (.st o)) := p2
    rw [← Ans.bind_ok (Rv.bool _)] at p3
    obtain ⟨b, e, p3⟩ := r3.boolT List.mem_cons_self (p3.later (let ⟨_, _, n⟩ := n; n.hh))
    exact ⟨b, e, p3 H' (Same.refl _) (r3.r.sb (Sb.refl.cons.cons.cons))⟩
theorem jt_not (h : JT X W a ft) : JT X W (.UnaryOp .Not a pos) (dNotT ft) := by
  refine PT.imp (pt_not h) fun σ H Q ⟨G, Z, env, T, r, p⟩ => ⟨G, Z, env, T, r, ?_⟩
  unfold dNotT at p
  cases e : ft env with
  | ok b => rw [e] at p; exact p
  | ex c => rw [e] at p; exact p
  | no => rw [e] at p; exact p
theorem jw_and1 (h : JT X W a ft) : JW X W (.BoolOp .And [a] pos) ft := pw_and1 h
theorem jw_or1 (h : JT X W a ft) : JW X W (.BoolOp .Or [a] pos) ft := pw_or1 h
theorem jw_and (ha : JT X W a ft) (hb : JW X W (.BoolOp .And (b :: rest) pos) gt) : JW X W (.BoolOp .And (a :: b :: rest) pos) (dAndT ft gt) := by
  refine PW.imp (pw_and ha hb) fun σ H Q ⟨G, Z, env, T, r, p⟩ => ?_
  refine tT.bindT r Sb.refl p fun c H1 _ s1 r1 p1 => ?_
  cases c with
  | true =>
    rw [if_pos rfl] at p1 ⊢
    exact ⟨G, Z, env, T, r1, p1⟩
  | false =>
    rw [if_neg Bool.false_ne_true] at p1 ⊢
    exact p1 H1 (Same.refl _) r1
theorem jw_or (ha : JT X W a ft) (hb : JW X W (.BoolOp .Or (b :: rest) pos) gt) : JW X W (.BoolOp .Or (a :: b :: rest) pos) (dOrT ft gt) := by
  refine PW.imp (pw_or ha hb) fun σ H Q ⟨G, Z, env, T, r, p⟩ => ?_
  refine tT.bindT r Sb.refl p fun c H1 _ s1 r1 p1 => ?_
  cases c with
  | true =>
    rw [if_pos rfl] at p1 ⊢
    exact p1 H1 (Same.refl _) r1
  | false =>
    rw [if_neg Bool.false_ne_true] at p1 ⊢
    exact ⟨G, Z, env, T, r1, p1⟩
theorem jt_w (h : JW X W a ft) : JT X W a ft := PW.pt h
/-- not, and, or as values -/
theorem b_red {σ : Sl} {H : Hp} {Q : VK} {G Z : Hp} {env : VEnv} {T : List (V × Rv)} {b : Bool} (r : R X.mg G Z H σ env T) (p : Post X.mg W G Z σ env T Q H (.ok (.st (.fz (.bl b))))) : Q (.bl b) H :=
  let ⟨F, C1, C2, r⟩ := r
  p _ H (Same.refl _) (r.new (New.bl r.fh))
theorem test_bind {σ : Sl} {H : Hp} {Q : VK} {G Z : Hp} {env : VEnv} {T : List (V × Rv)} {k : Bool → Ans Rv} {Q1 : Bool → Hp → Prop} (r : R X.mg G Z H σ env T) (p : Post X.mg W G Z σ env T Q H ((dTest f env).bind k))
    (h : ∀ b H1, Same H H1 → R X.mg G Z H1 σ env T → Post X.mg W G Z σ env T Q H1 (k b) → Q1 b H1) : tE X.mg W f σ H fun x H1 => ∃ c, x = .bl c ∧ Q1 c H1 := by
  unfold dTest at p
  rw [Ans.bind_assoc] at p
  refine tE.bind r Sb.refl p fun x u H1 _ s1 ⟨F, C1, C2, r1⟩ p1 => ?_
  obtain ⟨b, e, p1⟩ := r1.bool List.mem_cons_self p1
  exact ⟨b, e, h b H1 s1 r1.r.pop p1⟩
theorem je_not (h : JE X W a f) : JE X W (.UnaryOp .Not a pos) (dB (dNotT (dTest f))) := by
  refine PE.imp (pe_not h) fun σ H Q ⟨G, Z, env, T, r, p⟩ => ?_
  have p' : Post X.mg W G Z σ env T Q H ((dTest f env).bind fun b => .ok (.st (.fz (.bl !b)))) := by
    have p2 := p
    unfold dB dNotT at p2
    rw [Ans.bind_assoc] at p2
    exact p2
  exact test_bind r p' fun b H1 s1 r1 p1 => b_red r1 p1
def dAndV (f g : DE) : DE := fun env => (dTest f env).bind fun b => if b then g env else .ok (.st (.fz (.bl false)))
def dOrV (f g : DE) : DE := fun env => (dTest f env).bind fun b => if b then .ok (.st (.fz (.bl true))) else g env
theorem je_one {op} (h : JE X W a f) : JE X W (.BoolOp op [a] pos) f := pe_one h
theorem je_and (ha : JE X W a f) (hb : JE X W (.BoolOp .And (b :: rest) pos) g) : JE X W (.BoolOp .And (a :: b :: rest) pos) (dAndV f g) := by
  refine PE.imp (pe_and ha hb) fun σ H Q ⟨G, Z, env, T, r, p⟩ => test_bind r p fun c H1 s1 r1 p1 => ?_
  cases c with
  | true =>
    rw [if_pos rfl] at p1 ⊢
    exact ⟨G, Z, env, T, r1, p1⟩
  | false =>
    rw [if_neg Bool.false_ne_true] at p1 ⊢
    exact b_red r1 p1
theorem je_or (ha : JE X W a f) (hb : JE X W (.BoolOp .Or (b :: rest) pos) g) : JE X W (.BoolOp .Or (a :: b :: rest) pos) (dOrV f g) := by
  refine PE.imp (pe_or ha hb) fun σ H Q ⟨G, Z, env, T, r, p⟩ => test_bind r p fun c H1 s1 r1 p1 => ?_
  cases c with
  | true =>
    rw [if_pos rfl] at p1 ⊢
    exact b_red r1 p1
  | false =>
    rw [if_neg Bool.false_ne_true] at p1 ⊢
    exact ⟨G, Z, env, T, r1, p1⟩
end
/-! ### None, -n, chains -/
def FV.isNon : FV → Bool
  | .non => true
  | _ => false
def opNeg : OV → Option OV
  | .fz (.int i) => some (.fz (.int (-i)))
  | _ => none
/-- is None; of what may be None or anything -/
def opIsN (x : OV) : Option OV := some (.fz (.bl x.fv.isNon))
def opNotN (x : OV) : Option OV := some (.fz (.bl !x.fv.isNon))
theorem FDen.isNon {M : Str → Option Value} {F : Hp} {x : FV} {v : V} (d : FDen M F x v) : decide (v = .non) = x.isNon := by
  cases x with
  | non => rw [show v = .non from d]; rfl
  | bl b => rw [show v = .bl b from d]; rfl
  | int b => rw [show v = .int b from d]; rfl
  | str b => rw [show v = .str b from d]; rfl
  | tup b => obtain ⟨a, vs, e, _⟩ := d; rw [e]; rfl
  | tuz b => obtain ⟨a, vs, o, e, _⟩ := d; rw [e]; rfl
  | lst b => obtain ⟨a, vs, e, _⟩ := d; rw [e]; rfl
  | dK b => obtain ⟨a, vs, e, _⟩ := d; rw [e]; rfl
  | dT b => obtain ⟨a, vs, e, _⟩ := d; rw [e]; rfl
  | ins c b => obtain ⟨a, C, dx, vs, e, _⟩ := d; rw [e]; rfl
  | exc b => obtain ⟨a, C, e, _⟩ := d; rw [e]; rfl
  | scr b => obtain ⟨a, e, _⟩ := d; rw [e]; rfl
  | dN b => obtain ⟨a, kb, e, _⟩ := d; rw [e]; rfl
section
variable {X : Cx} {W : WX} {pos pos' : Pos} {a b c : Expr} {f g h : DE}
theorem je_neg (ha : JE X W a f) : JE X W (.UnaryOp .USub a pos) (dUn opNeg f) := by
  refine je_un (fun pins s σ H u v Q I r1 ⟨F, x, o, hf, bx, e, k⟩ => ?_) ha
  unfold opNeg at e
  split at e
  · cases e
    exact un_neg pins s σ H u v Q I r1 ⟨_, bx.int, k _ _ (New.int hf)⟩
  · cases e
theorem isN_red {opd : OV → Option OV} {p : Bool → Bool} (hp : ∀ x, opd x = some (.fz (.bl (p x.fv.isNon)))) {σ : Sl} {H : Hp} {Q : VK} (h : tE X.mg W (dUn opd f) σ H Q) : tE X.mg W f σ H fun x H1 => Q (.bl (p (decide (x = .non)))) H1 := by
  obtain ⟨G, Z, env, T, r, q⟩ := h
  refine tE.bind r Sb.refl q fun x u H1 _ s1 r1 p1 => ?_
  obtain ⟨F, C1, C2, r1⟩ := r1
  have hb := r1.bor List.mem_cons_self
  rw [hp] at p1
  have e : decide (u = .non) = x.ov.fv.isNon := (hb.fden r1.fh).isNon
  show Q (.bl (p (decide (u = .non)))) H1
  rw [e]
  exact b_red r1.r.pop p1
theorem je_isN {j} (ha : JE X W a f) : JE X W (.Compare a [.Is] [.Constant .none j pos'] pos) (dUn opIsN f) :=
  PE.imp (pe_cmp (pc_isN ha)) fun σ H Q h => isN_red (p := fun b => b) (fun _ => rfl) h
theorem je_notN {j} (ha : JE X W a f) : JE X W (.Compare a [.IsNot] [.Constant .none j pos'] pos) (dUn opNotN f) :=
  PE.imp (pe_cmp (pc_notN ha)) fun σ H Q h => isN_red (p := fun b => !b) (fun _ => rfl) h
theorem tt_red {opd : OV → Option OV} {p : Bool → Bool} (hp : ∀ x, opd x = some (.fz (.bl (p x.fv.isNon)))) {σ : Sl} {H : Hp} {Q : Bool → Hp → Prop} (h : tT X.mg W (dTest (dUn opd f)) σ H Q) : tE X.mg W f σ H fun x H1 => ∃ c, V.bl (p (decide (x = .non))) = .bl c ∧ Q c H1 := by
  obtain ⟨G, Z, env, T, r, q⟩ := h
  have q' : PostT X.mg W G Z σ env T Q H ((f env).bind fun x => .ok (p x.ov.fv.isNon)) := by
    have q2 := q
    unfold dTest dUn at q2
    simp only [Ans.bind_assoc, hp] at q2
    exact q2
  refine tE.bindT r Sb.refl q' fun x u H1 _ s1 r1 p1 => ?_
  obtain ⟨F, C1, C2, r1⟩ := r1
  have hb := r1.bor List.mem_cons_self
  have e : decide (u = .non) = x.ov.fv.isNon := (hb.fden r1.fh).isNon
  refine ⟨_, rfl, ?_⟩
  rw [e]
  exact p1 H1 (Same.refl _) r1.r.pop
theorem jt_isN {j} (ha : JE X W a f) : JT X W (.Compare a [.Is] [.Constant .none j pos'] pos) (dTest (dUn opIsN f)) :=
  PT.imp (pt_cmp (pc_isN ha)) fun σ H Q h => tt_red (p := fun b => b) (fun _ => rfl) h
theorem jt_notN {j} (ha : JE X W a f) : JT X W (.Compare a [.IsNot] [.Constant .none j pos'] pos) (dTest (dUn opNotN f)) :=
  PT.imp (pt_cmp (pc_notN ha)) fun σ H Q h => tt_red (p := fun b => !b) (fun _ => rfl) h
end
/-! ### argument lists, displays -/
def dNil : VEnv → Ans (List Rv) := fun _ => .ok []
def dCons (f : DE) (g : VEnv → Ans (List Rv)) : VEnv → Ans (List Rv) := fun env => (f env).bind fun r => (g env).bind fun rs => .ok (r :: rs)
section
variable {X : Cx} {W : WX} {pos : Pos} {e : Expr} {es : List Expr} {f : DE} {g : VEnv → Ans (List Rv)}
theorem ja_nil : JA X W [] dNil := PA.imp pa_nil fun σ H Q ⟨G, Z, env, T, r, p⟩ => p [] H rfl (Same.refl _) r
theorem ja_cons (he : JE X W e f) (hr : JA X W es g) (hs : starEach (e :: es) X.env = (false, eval e X.env) :: starEach es X.env := by rfl) : JA X W (e :: es) (dCons f g) := by
  refine PA.imp (pa_cons he hr hs) fun σ H Q ⟨G, Z, env, T, r, p⟩ => ?_
  refine tE.bindA r Sb.refl p fun x u H1 _ s1 r1 p1 => ?_
  refine ⟨G, Z, env, (u, x) :: T, r1, ?_⟩
  cases e2 : g env with
  | ok rs =>
    rw [e2] at p1
    intro vs H2 hl s2 r2
    refine p1 (u :: vs) H2 (by simp [hl]) s2 (r2.perm ?_)
    rw [List.zip_cons_cons]
    exact List.perm_middle
  | ex c =>
    rw [e2] at p1
    exact fun C H2 m s2 r2 => p1 C H2 m s2 r2.pop
  | no => rw [e2] at p1; exact p1
end
def Rv.fz? : Rv → Option FV
  | .st (.fz x) => some x
  | _ => none
def Rv.st? : Rv → Option OV
  | .st o => some o
  | _ => none
def allFz : List Rv → Option (List FV)
  | [] => some []
  | r :: rs => match r.fz?, allFz rs with
    | some x, some xs => some (x :: xs)
    | _, _ => none
def allSt : List Rv → Option (List OV)
  | [] => some []
  | r :: rs => match r.st?, allSt rs with
    | some x, some xs => some (x :: xs)
    | _, _ => none
/-- [a, b] of frozen things; of any of one's own -/
def dList (g : VEnv → Ans (List Rv)) : DE := fun env => (g env).bind fun rs => if rs.length ≤ 1000 then (match allFz rs with | some xs => .ok (.st (.ol xs)) | none => .no) else .no
def dListD (g : VEnv → Ans (List Rv)) : DE := fun env => (g env).bind fun rs => if rs.length ≤ 1000 then (match allSt rs with | some xs => .ok (.st (.dl xs)) | none => .no) else .no
def dTup (g : VEnv → Ans (List Rv)) : DE := fun env => (g env).bind fun rs => if rs.length ≤ 1000 then (match allFz rs with | some xs => .ok (.st (.fz (.tup xs))) | none => .no) else .no
def dTupD (g : VEnv → Ans (List Rv)) : DE := fun env => (g env).bind fun rs => if rs.length ≤ 1000 then (match allSt rs with | some xs => .ok (.st (.tp xs)) | none => .no) else .no
theorem le1000 {n : Nat} (h : n ≤ 1000) : n ≤ sizeLine := Nat.le_trans h (by rw [sizeLine_eq]; decide)
section
variable {M : Str → Option Value} {G Z H F : Hp} {σ : Sl} {env : VEnv} {T T2 : List (V × Rv)} {C1 C2 : Cells}
theorem fz_den : ∀ {rs : List Rv} {vs : List V} {xs : List FV}, vs.length = rs.length → allFz rs = some xs → (∀ p ∈ vs.zip rs, Bor M F H p.2.ov p.1) → FDenL M F xs vs
  | [], vs, xs, hl, e, _ => by
    cases e
    exact List.eq_nil_of_length_eq_zero hl
  | r :: rs, [], xs, hl, e, _ => by simp at hl
  | r :: rs, v :: vs, xs, hl, e, hb => by
    unfold allFz at e
    split at e
    · rename_i x ys e1 e2
      cases e
      have hr : r = .st (.fz x) := by
        unfold Rv.fz? at e1
        split at e1
        · cases e1; rfl
        · cases e1
      subst hr
      exact ⟨v, vs, rfl, (hb (v, .st (.fz x)) (by simp)).fz, fz_den (by simpa using hl) e2 fun p hp => hb p (by rw [List.zip_cons_cons]; exact List.mem_cons_of_mem _ hp)⟩
    · cases e
/-- one's own temporaries packed -/
theorem st_own : ∀ {rs : List Rv} {vs : List V} {xs : List OV} {L : Cells}, vs.length = rs.length → allSt rs = some xs → TmpOwn M F H (vs.zip rs ++ T) L → ∃ A B, OwnL M F xs vs A ∧ TmpOwn M F H T B ∧ L = A ++ B
  | [], vs, xs, L, hl, e, t => by
    cases e
    obtain rfl : vs = [] := List.eq_nil_of_length_eq_zero hl
    exact ⟨[], L, ⟨rfl, rfl⟩, t, rfl⟩
  | r :: rs, [], xs, L, hl, e, t => by simp at hl
  | r :: rs, v :: vs, xs, L, hl, e, t => by
    unfold allSt at e
    split at e
    · rename_i x ys e1 e2
      cases e
      have hr : r = .st x := by
        unfold Rv.st? at e1
        split at e1
        · cases e1; rfl
        · cases e1
      subst hr
      rw [List.zip_cons_cons, List.cons_append] at t
      cases t with
      | st d t =>
        obtain ⟨A, B, h1, h2, h3⟩ := st_own (by simpa using hl) e2 t
        subst h3
        exact ⟨_ ++ A, B, ⟨v, vs, _, A, rfl, d, h1, rfl⟩, h2, by rw [List.append_assoc]⟩
    · cases e
/-- a new cell that holds one's own things -/
theorem RF.pack {p : Addr} {u : HO} {o : OV} {A B : Cells} (r : RF M G Z H F σ env T2 C1 C2) (hp : H p = none) (e : C2 = A ++ B) (t : TmpOwn M F H T B) (ow : Own M F o (.ref p) ((p, u) :: A)) : R M G Z (upd H p u) σ env ((.ref p, .st o) :: T) := by
  subst e
  have s := same_upd (o := u) hp
  have hF := none_of_same r.fh hp
  have hZ := none_of_same r.zh hp
  refine ⟨F, C1, ((p, u) :: A) ++ B, r.gf, r.fg, r.fh.trans s, r.zh.trans s, r.ev, .st ow (t.mono (Same.refl _) s), ?_⟩
  have g := r.gd.same s
  have g2 : Good F Z (upd H p u) [(p, u)] := ⟨by simp, fun q hq => by rw [List.mem_singleton] at hq; subst hq; exact upd_same, fun q hq => by rw [List.mem_singleton] at hq; subst hq; exact hF, fun q hq => by rw [List.mem_singleton] at hq; subst hq; exact hZ⟩
  have g3 := g2.mk' g fun q hq q2 hq2 e => by
    rw [List.mem_singleton] at hq
    subst hq
    have := r.gd.hp q2 hq2
    rw [← e, hp] at this
    cases this
  refine g3.perm ?_
  show ((p, u) :: (C1 ++ (A ++ B))).Perm (C1 ++ ((p, u) :: (A ++ B)))
  exact List.perm_middle.symm
theorem RF.packT {p : Addr} {vs : List V} {xs : List OV} {A B : Cells} (r : RF M G Z H F σ env T2 C1 C2) (hp : H p = none) (e : C2 = A ++ B) (t : TmpOwn M F H T B) (ow : OwnL M F xs vs A) : R M G Z (upd H p (.tup vs)) σ env ((.ref p, .st (.tp xs)) :: T) := by
  subst e
  have s := same_upd (o := HO.tup vs) hp
  have hF := none_of_same r.fh hp
  have hZ := none_of_same r.zh hp
  have sF := same_upd (o := HO.tup vs) hF
  have lt : ∀ q ∈ C1 ++ (A ++ B), q.1 ≠ p := fun q hq e => by
    have := r.gd.hp q hq
    rw [e, hp] at this
    cases this
  refine ⟨upd F p (.tup vs), C1, A ++ B, r.gf.trans sF, fun a o e => ?_, fun a o e => ?_, r.zh.trans s, r.ev.mono sF, .st ⟨p, vs, rfl, upd_same, ow.mono sF⟩ (t.mono sF s), ⟨r.gd.nd, fun q hq => s _ _ (r.gd.hp q hq), fun q hq => by rw [upd_ne (lt q hq)]; exact r.gd.fr q hq, r.gd.zr⟩⟩
  · by_cases q : a = p
    · subst q; exact .inr hZ
    · rw [upd_ne q] at e; exact r.fg a o e
  · by_cases q : a = p
    · subst q; rw [upd_same] at e ⊢; exact e
    · rw [upd_ne q] at e ⊢; exact r.fh _ _ e
end
section
variable {X : Cx} {W : WX} {pos : Pos} {es : List Expr} {g : VEnv → Ans (List Rv)}
theorem je_list (h : JA X W es g) : JE X W (.List es pos) (dList g) := by
  refine PE.imp (pe_lst h) fun σ H Q ⟨G, Z, env, T, r, p⟩ => ?_
  refine tA.bind r Sb.refl p fun rs vs H1 _ hl s1 ⟨F, C1, C2, r1⟩ p1 => ?_
  split at p1
  · rename_i hz
    split at p1
    · rename_i xs e
      refine ⟨by rw [hl]; exact le1000 hz, fun q hq => p1 _ _ (same_upd hq) ?_⟩
      exact (r1.new (New.lst r1.fh hq (fz_den hl e fun p hp => r1.bor (List.mem_append_left _ hp)))).sb (Sb.both ⟨vs.zip rs, List.perm_append_comm⟩)
    · exact p1.elim
  · exact p1.elim
theorem je_listD (h : JA X W es g) : JE X W (.List es pos) (dListD g) := by
  refine PE.imp (pe_lst h) fun σ H Q ⟨G, Z, env, T, r, p⟩ => ?_
  refine tA.bind r Sb.refl p fun rs vs H1 _ hl s1 ⟨F, C1, C2, r1⟩ p1 => ?_
  split at p1
  · rename_i hz
    split at p1
    · rename_i xs e
      obtain ⟨A, B, h1, h2, h3⟩ := st_own hl e r1.tm
      exact ⟨by rw [hl]; exact le1000 hz, fun q hq => p1 _ _ (same_upd hq) (r1.pack hq h3 h2 ⟨q, vs, A, rfl, h1, rfl⟩)⟩
    · exact p1.elim
  · exact p1.elim
theorem je_tup {k} (h : JA X W es g) : JE X W (.Tuple es k pos) (dTup g) := by
  refine PE.imp (pe_tup h) fun σ H Q ⟨G, Z, env, T, r, p⟩ => ?_
  refine tA.bind r Sb.refl p fun rs vs H1 _ hl s1 ⟨F, C1, C2, r1⟩ p1 => ?_
  split at p1
  · rename_i hz
    split at p1
    · rename_i xs e
      refine ⟨by rw [hl]; exact le1000 hz, fun q hq => p1 _ _ (same_upd hq) ?_⟩
      exact (r1.new (New.tup r1.fh hq (fz_den hl e fun p hp => r1.bor (List.mem_append_left _ hp)))).sb (Sb.both ⟨vs.zip rs, List.perm_append_comm⟩)
    · exact p1.elim
  · exact p1.elim
theorem je_tupD {k} (h : JA X W es g) : JE X W (.Tuple es k pos) (dTupD g) := by
  refine PE.imp (pe_tup h) fun σ H Q ⟨G, Z, env, T, r, p⟩ => ?_
  refine tA.bind r Sb.refl p fun rs vs H1 _ hl s1 ⟨F, C1, C2, r1⟩ p1 => ?_
  split at p1
  · rename_i hz
    split at p1
    · rename_i xs e
      obtain ⟨A, B, h1, h2, h3⟩ := st_own hl e r1.tm
      exact ⟨by rw [hl]; exact le1000 hz, fun q hq => p1 _ _ (same_upd hq) (r1.packT hq h3 h2 h1)⟩
    · exact p1.elim
  · exact p1.elim
def dNewK : DE := fun _ => .ok (.st (.oK []))
def dNewT : DE := fun _ => .ok (.st (.oT []))
theorem je_newK : JE X W (.Dict [] [] pos) dNewK := PE.imp pe_dnewK fun σ H Q ⟨G, Z, env, T, ⟨F, C1, C2, r⟩, p⟩ => fun q hq => p _ _ (same_upd hq) (r.new (New.dK r.fh hq rfl))
theorem je_newT : JE X W (.Dict [] [] pos) dNewT := PE.imp pe_dnewT fun σ H Q ⟨G, Z, env, T, ⟨F, C1, C2, r⟩, p⟩ => fun q hq => p _ _ (same_upd hq) (r.new (New.dT r.fh hq rfl))
end
end J
namespace J
open PySem PySem.Spec PyProof.Rows L2
/-! ### items -/
theorem atI_den {M : Str → Option Value} {F : Hp} {xs : List FV} {vs : List V} {i : Int} {x : FV} (d : FDenL M F xs vs) (e : atI xs i = some x) : ∃ v, atI vs i = some v ∧ FDen M F x v := by
  unfold atI at e ⊢
  obtain ⟨j, e1, e2⟩ := Option.bind_eq_some_iff.mp e
  obtain ⟨v, e3, e4⟩ := d.get e2
  exact ⟨v, by rw [d.length, e1]; exact e3, e4⟩
theorem OwnL.length {M : Str → Option Value} {F : Hp} : ∀ {xs : List OV} {vs : List V} {L : Cells}, OwnL M F xs vs L → vs.length = xs.length
  | [], _, _, h => by rw [h.1]; rfl
  | _ :: _, _, _, ⟨v, ws, A, B, e, d, r, q⟩ => by rw [e, List.length_cons, List.length_cons, OwnL.length r]
theorem OwnL.get {M : Str → Option Value} {F : Hp} : ∀ {xs : List OV} {vs : List V} {L : Cells} {i : Nat} {x : OV}, OwnL M F xs vs L → xs[i]? = some x → ∃ v A, vs[i]? = some v ∧ Own M F x v A ∧ ∀ p ∈ A, p ∈ L
  | [], _, _, _, _, _, h => by simp at h
  | _ :: _, _, _, 0, _, ⟨v, ws, A, B, e, d, r, q⟩, h => by
    rw [List.getElem?_cons_zero] at h
    cases h
    exact ⟨v, A, by rw [e]; rfl, d, fun p hp => by rw [q]; exact List.mem_append_left _ hp⟩
  | _ :: _, _, _, i + 1, _, ⟨v, ws, A, B, e, d, r, q⟩, h => by
    rw [List.getElem?_cons_succ] at h
    obtain ⟨w, A2, h1, h2, h3⟩ := OwnL.get r h
    exact ⟨w, A2, by rw [e, List.getElem?_cons_succ]; exact h1, h2, fun p hp => by rw [q]; exact List.mem_append_right _ (h3 p hp)⟩
theorem atI_own {M : Str → Option Value} {F H : Hp} {xs : List OV} {vs : List V} {L : Cells} {i : Int} {x : OV} (d : OwnL M F xs vs L) (c : ∀ p ∈ L, H p.1 = some p.2) (e : atI xs i = some x) : ∃ v, atI vs i = some v ∧ Bor M F H x v := by
  unfold atI at e ⊢
  obtain ⟨j, e1, e2⟩ := Option.bind_eq_some_iff.mp e
  obtain ⟨v, A, e3, e4, e5⟩ := d.get e2
  exact ⟨v, by rw [d.length, e1]; exact e3, A, e4, fun p hp => c p (e5 p hp)⟩
/-- the value at a key -/
def lookK {κ α : Type} [DecidableEq κ] (kvs : List (κ × α)) (k : κ) : Option α := (kvs.find? fun kv => decide (kv.1 = k)).map (·.2)
theorem lookK_cons {κ α : Type} [DecidableEq κ] (p : κ × α) (kvs : List (κ × α)) (k : κ) : lookK (p :: kvs) k = if p.1 = k then some p.2 else lookK kvs k := by
  unfold lookK
  rw [List.find?_cons]
  by_cases h : p.1 = k
  · simp [h]
  · simp [h]
section
variable {M : Str → Option Value} {F H : Hp}
theorem FDenK.look : ∀ {kvs : List (Key × FV)} {ws : List (Key × V)} (k : Key), FDenK M F kvs ws → (∃ x v, lookK kvs k = some x ∧ valV ws k = some v ∧ FDen M F x v) ∨ (lookK kvs k = none ∧ valV ws k = none)
  | [], _, k, e => by rw [show _ = [] from e]; exact .inr ⟨rfl, rfl⟩
  | (j, x) :: r, _, k, ⟨v, rs, e, d, q⟩ => by
    rw [e, lookK_cons]
    by_cases h : j = k
    · rw [if_pos h]
      exact .inl ⟨x, v, rfl, valV_pos h, d⟩
    · rw [if_neg h, valV_neg (p := (j, v)) h]
      exact FDenK.look k q
theorem FDenT.look : ∀ {kvs : List (List Key × FV)} {ws : List (List Key × V)} (k : List Key), FDenT M F kvs ws → (∃ x v, lookK kvs k = some x ∧ valV ws k = some v ∧ FDen M F x v) ∨ (lookK kvs k = none ∧ valV ws k = none)
  | [], _, k, e => by rw [show _ = [] from e]; exact .inr ⟨rfl, rfl⟩
  | (j, x) :: r, _, k, ⟨v, rs, e, d, q⟩ => by
    rw [e, lookK_cons]
    by_cases h : j = k
    · rw [if_pos h]
      exact .inl ⟨x, v, rfl, valV_pos h, d⟩
    · rw [if_neg h, valV_neg (p := (j, v)) h]
      exact FDenT.look k q
theorem OwnK.look : ∀ {kvs : List (Key × OV)} {ws : List (Key × V)} {L : Cells} (k : Key), OwnK M F kvs ws L → (∃ x v A, lookK kvs k = some x ∧ valV ws k = some v ∧ Own M F x v A ∧ ∀ p ∈ A, p ∈ L) ∨ (lookK kvs k = none ∧ valV ws k = none)
  | [], _, _, k, e => by rw [e.1]; exact .inr ⟨rfl, rfl⟩
  | (j, x) :: r, _, _, k, ⟨v, rs, A, B, e, d, q, z⟩ => by
    rw [e, lookK_cons]
    by_cases h : j = k
    · rw [if_pos h]
      exact .inl ⟨x, v, A, rfl, valV_pos h, d, fun p hp => by rw [z]; exact List.mem_append_left _ hp⟩
    · rw [if_neg h, valV_neg (p := (j, v)) h]
      rcases OwnK.look k q with ⟨y, w, A2, h1, h2, h3, h4⟩ | h
      · exact .inl ⟨y, w, A2, h1, h2, h3, fun p hp => by rw [z]; exact List.mem_append_right _ (h4 p hp)⟩
      · exact .inr h
end
def FV.key? : FV → Option Key
  | .int i => some (.inl i)
  | .str x => some (.inr x)
  | _ => none
def keys? : List FV → Option (List Key)
  | [] => some []
  | x :: xs => match x.key?, keys? xs with
    | some k, some ks => some (k :: ks)
    | _, _ => none
def FV.keyT? : FV → Option (List Key)
  | .tup xs => keys? xs
  | _ => none
theorem FDen.key {M : Str → Option Value} {F : Hp} {x : FV} {v : V} {k : Key} (d : FDen M F x v) (e : x.key? = some k) : v = kV k := by
  unfold FV.key? at e
  split at e
  · cases e; exact d
  · cases e; exact d
  · cases e
theorem FDenL.keys {M : Str → Option Value} {F : Hp} : ∀ {xs : List FV} {vs : List V} {ks : List Key}, FDenL M F xs vs → keys? xs = some ks → vs = ks.map kV
  | [], _, _, d, e => by cases e; exact d
  | x :: xs, _, ks, ⟨v, ws, ev, d, r⟩, e => by
    unfold keys? at e
    split at e
    · rename_i k ks' e1 e2
      cases e
      rw [ev, d.key e1, FDenL.keys r e2]
      rfl
    · cases e
theorem FDen.keyT {M : Str → Option Value} {F : Hp} {x : FV} {v : V} {k : List Key} (d : FDen M F x v) (e : x.keyT? = some k) : ∃ b, v = .ref b ∧ F b = some (.tup (k.map kV)) := by
  unfold FV.keyT? at e
  split at e
  · obtain ⟨a, vs, ev, q, r⟩ := d
    rw [r.keys e] at q
    exact ⟨a, ev, q⟩
  · cases e
def OV.isD : OV → Bool
  | .oK _ => true
  | .oT _ => true
  | .dd _ => true
  | .fz (.dK _) => true
  | .fz (.dT _) => true
  | _ => false
/-- what a dict holds at a key: some r, nothing, or the key is not one of its kind -/
def dGet (x : OV) (k : FV) : Option (Option Rv) := match x with
  | .oK kvs => k.key?.map fun k => (lookK kvs k).map fun v => .st (.fz v)
  | .fz (.dK kvs) => k.key?.map fun k => (lookK kvs k).map fun v => .st (.fz v)
  | .dd kvs => k.key?.map fun k => (lookK kvs k).map .bo
  | .oT kvs => k.keyT?.map fun k => (lookK kvs k).map fun v => .st (.fz v)
  | .fz (.dT kvs) => k.keyT?.map fun k => (lookK kvs k).map fun v => .st (.fz v)
  | _ => none
/-- what is known of an item's value -/
def ResIs (M : Str → Option Value) (F H : Hp) (r : Rv) (v : V) : Prop := match r with
  | .st (.fz x) => FDen M F x v
  | .bo o => Bor M F H o v
  | _ => False
theorem RF.res {M : Str → Option Value} {G Z H F : Hp} {σ : Sl} {env : VEnv} {T : List (V × Rv)} {C1 C2 : Cells} {r : Rv} {v : V} (q : RF M G Z H F σ env T C1 C2) (h : ResIs M F H r v) : R M G Z H σ env ((v, r) :: T) := by
  unfold ResIs at h
  split at h
  · exact q.new (New.old q.fh h)
  · exact ⟨F, C1, C2, q.gf, q.fg, q.fh, q.zh, q.ev, .bo h q.tm, q.gd⟩
  · exact h.elim
theorem dGet_den {M : Str → Option Value} {F H : Hp} {x : OV} {k : FV} {u w : V} {o : Option Rv} (hf : Same F H) (bx : Bor M F H x u) (dk : FDen M F k w) (e : dGet x k = some o) :
    ∃ a ov, u = .ref a ∧ DGet H a w ov ∧ ov.isSome = o.isSome ∧ ∀ r, o = some r → ∃ v, ov = some v ∧ ResIs M F H r v := by
  have caseK : ∀ {kvs : List (Key × FV)} {ws : List (Key × V)} {a : Addr}, H a = some (.dK ws) → FDenK M F kvs ws → (k.key?.map fun k => (lookK kvs k).map fun v => Rv.st (.fz v)) = some o → ∃ ov, DGet H a w ov ∧ ov.isSome = o.isSome ∧ ∀ r, o = some r → ∃ v, ov = some v ∧ ResIs M F H r v := by
    intro kvs ws a hH d e
    obtain ⟨j, e1, e2⟩ := Option.map_eq_some_iff.mp e
    subst e2
    rw [dk.key e1]
    refine ⟨_, DGet.k hH, ?_⟩
    rcases d.look j with ⟨x, v, h1, h2, h3⟩ | ⟨h1, h2⟩
    · rw [h1, h2]
      exact ⟨rfl, fun r e => by cases e; exact ⟨v, rfl, h3⟩⟩
    · rw [h1, h2]
      exact ⟨rfl, fun r e => nomatch e⟩
  have caseT : ∀ {kvs : List (List Key × FV)} {ws : List (List Key × V)} {a : Addr}, H a = some (.dT ws) → FDenT M F kvs ws → (k.keyT?.map fun k => (lookK kvs k).map fun v => Rv.st (.fz v)) = some o → ∃ ov, DGet H a w ov ∧ ov.isSome = o.isSome ∧ ∀ r, o = some r → ∃ v, ov = some v ∧ ResIs M F H r v := by
    intro kvs ws a hH d e
    obtain ⟨j, e1, e2⟩ := Option.map_eq_some_iff.mp e
    subst e2
    obtain ⟨b, rfl, hb⟩ := dk.keyT e1
    refine ⟨_, DGet.t hH (hf _ _ hb), ?_⟩
    rcases d.look j with ⟨x, v, h1, h2, h3⟩ | ⟨h1, h2⟩
    · rw [h1, h2]
      exact ⟨rfl, fun r e => by cases e; exact ⟨v, rfl, h3⟩⟩
    · rw [h1, h2]
      exact ⟨rfl, fun r e => nomatch e⟩
  obtain ⟨A, ow, c⟩ := bx
  unfold dGet at e
  split at e
  · obtain ⟨a, ws, rfl, d, q⟩ := ow
    subst q
    obtain ⟨ov, h⟩ := caseK (c _ List.mem_cons_self) d e
    exact ⟨a, ov, rfl, h⟩
  · obtain ⟨⟨a, ws, rfl, q, d⟩, _⟩ := ow
    obtain ⟨ov, h⟩ := caseK (hf _ _ q) d e
    exact ⟨a, ov, rfl, h⟩
  · obtain ⟨a, ws, L', rfl, d, q⟩ := ow
    subst q
    obtain ⟨j, e1, e2⟩ := Option.map_eq_some_iff.mp e
    subst e2
    rw [dk.key e1]
    refine ⟨a, _, rfl, DGet.k (c _ List.mem_cons_self), ?_⟩
    rcases d.look j with ⟨x, v, B, h1, h2, h3, h4⟩ | ⟨h1, h2⟩
    · rw [h1, h2]
      exact ⟨rfl, fun r e => by cases e; exact ⟨v, rfl, B, h3, fun p hp => c p (List.mem_cons_of_mem _ (h4 p hp))⟩⟩
    · rw [h1, h2]
      exact ⟨rfl, fun r e => nomatch e⟩
  · obtain ⟨a, ws, rfl, d, q⟩ := ow
    subst q
    obtain ⟨ov, h⟩ := caseT (c _ List.mem_cons_self) d e
    exact ⟨a, ov, rfl, h⟩
  · obtain ⟨⟨a, ws, rfl, q, d⟩, _⟩ := ow
    obtain ⟨ov, h⟩ := caseT (hf _ _ q) d e
    exact ⟨a, ov, rfl, h⟩
  · cases e
/-- x[i] of a list, a tuple, a text -/
def opIx (x : OV) (i : Int) : Option Rv := match x with
  | .ol xs => (atI xs i).map fun v => .st (.fz v)
  | .fz (.lst xs) => (atI xs i).map fun v => .st (.fz v)
  | .fz (.tup xs) => (atI xs i).map fun v => .st (.fz v)
  | .fz (.tuz xs) => (atI xs i).map fun v => .st (.fz v)
  | .fz (.str z) => if z.length ≤ BIG then (atI z.cps.toList i).map fun c => .st (.fz (.str ⟨#[c]⟩)) else none
  | .dl os => (atI os i).map .bo
  | .tp os => (atI os i).map .bo
  | _ => none
def opSub' (x y : OV) : Option Rv := if x.isD then (dGet x y.fv).bind id else match y with
  | .fz (.int i) => opIx x i
  | _ => none
def FV.frozenKey : OV → Bool
  | .fz _ => true
  | _ => false
def dSub (f g : DE) : DE := fun env => (f env).bind fun x => (g env).bind fun y => if FV.frozenKey y.ov then Ans.of (opSub' x.ov y.ov) else .no
section
variable {M : Str → Option Value} {K : PySem.W.Frag} {F H : Hp} {x : OV} {u : V}
theorem opIx_den {i : Int} {r : Rv} (hf : Same F H) (bx : Bor M F H x u) (e : opIx x i = some r) (Q : VK) (k : ∀ v, ResIs M F H r v → Q v H) : rIx K u (.int i) H Q := by
  obtain ⟨A, ow, c⟩ := bx
  unfold opIx at e
  split at e
  · obtain ⟨a, vs, rfl, d, q⟩ := ow
    subst q
    obtain ⟨y, e1, e2⟩ := Option.map_eq_some_iff.mp e
    subst e2
    obtain ⟨v, h1, h2⟩ := atI_den d e1
    exact .inl ⟨a, vs, i, v, rfl, rfl, SqL.of (c _ List.mem_cons_self), h1, k v h2⟩
  · obtain ⟨⟨a, vs, rfl, q, d⟩, _⟩ := ow
    obtain ⟨y, e1, e2⟩ := Option.map_eq_some_iff.mp e
    subst e2
    obtain ⟨v, h1, h2⟩ := atI_den d e1
    exact .inl ⟨a, vs, i, v, rfl, rfl, SqL.of (hf _ _ q), h1, k v h2⟩
  · obtain ⟨⟨a, vs, rfl, q, d⟩, _⟩ := ow
    obtain ⟨y, e1, e2⟩ := Option.map_eq_some_iff.mp e
    subst e2
    obtain ⟨v, h1, h2⟩ := atI_den d e1
    exact .inr (.inl ⟨a, vs, i, v, rfl, rfl, SqT.of (hf _ _ q), h1, k v h2⟩)
  · obtain ⟨⟨a, vs, o, rfl, q, _, _, d⟩, _⟩ := ow
    obtain ⟨y, e1, e2⟩ := Option.map_eq_some_iff.mp e
    subst e2
    obtain ⟨v, h1, h2⟩ := atI_den d e1
    exact .inr (.inl ⟨a, vs, i, v, rfl, rfl, .inl (.inr ⟨o, hf _ _ q⟩), h1, k v h2⟩)
  · split at e
    · rename_i hz
      obtain ⟨h, _⟩ := ow
      obtain ⟨y, e1, e2⟩ := Option.map_eq_some_iff.mp e
      subst e2
      exact .inr (.inr ⟨_, i, y, h, rfl, by rw [big_eq]; exact hz, e1, k _ rfl⟩)
    · cases e
  · obtain ⟨a, vs, L', rfl, d, q⟩ := ow
    subst q
    obtain ⟨y, e1, e2⟩ := Option.map_eq_some_iff.mp e
    subst e2
    obtain ⟨v, h1, h2⟩ := atI_own d (fun p hp => c p (List.mem_cons_of_mem _ hp)) e1
    exact .inl ⟨a, vs, i, v, rfl, rfl, SqL.of (c _ List.mem_cons_self), h1, k v h2⟩
  · obtain ⟨a, vs, rfl, q, d⟩ := ow
    obtain ⟨y, e1, e2⟩ := Option.map_eq_some_iff.mp e
    subst e2
    obtain ⟨v, h1, h2⟩ := atI_own d c e1
    exact .inr (.inl ⟨a, vs, i, v, rfl, rfl, SqT.of (hf _ _ q), h1, k v h2⟩)
  · cases e
end
section
variable {X : Cx} {W : WX} {pos p2 : Pos} {a b : Expr} {f g : DE}
theorem je_sub (hu : X.A.units + 1 < cLine) (ha : JE X W a f) (hb : JE X W b g) (hs : PlainIx b := by first | exact fun _ _ => rfl | (intro _ _; rfl)) : JE X W (.Subscript a b pos) (dSub f g) := by
  refine PE.imp (PE.or (pe_ix (ix_seq (X := X)) ha hb hs) (pe_dget hu ha hb hs)) fun σ H Q ⟨G, Z, env, T, r, p⟩ => ?_
  have fin : ∀ (x : Rv), f env = .ok x → (x.ov.isD = false ∧ ∀ y, (g env = .ok y → FV.frozenKey y.ov = true → ∀ r, opSub' x.ov y.ov = some r → ∃ i, y.ov = .fz (.int i) ∧ opIx x.ov i = some r)) ∨ x.ov.isD = true := by
    intro x _
    cases hd : x.ov.isD with
    | true => exact .inr rfl
    | false =>
      refine .inl ⟨rfl, fun y _ _ r e => ?_⟩
      unfold opSub' at e
      rw [hd, if_neg Bool.false_ne_true] at e
      split at e
      · rename_i i e2
        exact ⟨i, e2, e⟩
      · cases e
  have left : (∀ x, f env = .ok x → x.ov.isD = false) → tOp (rIx X.K) (tE X.mg W f) (tE X.mg W g) σ H Q := by
    intro hd
    refine tE.bind r Sb.refl p fun x u H1 ef s1 r1 p1 => ?_
    refine tE.bind r1 Sb.refl.cons p1 fun y w H2 eg s2 ⟨F, C1, C2, r2⟩ p2 => ?_
    split at p2
    · rename_i hk
      cases e : opSub' x.ov y.ov with
      | none => rw [e] at p2; exact p2.elim
      | some rv =>
        rw [e] at p2
        rcases fin x ef with ⟨_, h⟩ | h
        · obtain ⟨i, e1, e2⟩ := h y eg hk rv e
          have hw := r2.bor (List.mem_cons_self (a := (w, y)))
          rw [show (w, y).2.ov = y.ov from rfl, e1] at hw
          rw [show w = .int i from hw.int]
          exact opIx_den r2.fh (r2.bor (List.mem_cons_of_mem _ List.mem_cons_self)) e2 Q fun v h => p2 v H2 (Same.refl _) ((r2.res h).sb (Sb.refl.cons.cons.both))
        · rw [hd x ef] at h; cases h
    · exact p2.elim
  cases ef : f env with
  | ex c => exact .inl (left fun x e => by rw [ef] at e; cases e)
  | no => exact .inl (left fun x e => by rw [ef] at e; cases e)
  | ok x =>
    cases hd : x.ov.isD with
    | false => exact .inl (left fun x' e => by rw [ef] at e; cases e; exact hd)
    | true =>
      refine .inr ?_
      refine tE.bind r Sb.refl p fun x' u H1 ef' s1 r1 p1 => ?_
      rw [ef] at ef'
      cases ef'
      refine tE.bind r1 Sb.refl.cons p1 fun y w H2 eg s2 ⟨F, C1, C2, r2⟩ p2 => ?_
      split at p2
      · rename_i hk
        unfold opSub' at p2
        rw [hd, if_pos rfl] at p2
        cases e : dGet x.ov y.ov.fv with
        | none => rw [e] at p2; exact p2.elim
        | some oo =>
          rw [e] at p2
          cases oo with
          | none => exact p2.elim
          | some rv =>
            have hy := r2.bor (List.mem_cons_self (a := (w, y)))
            have hy' : FDen X.mg F y.ov.fv w := by
              unfold FV.frozenKey at hk
              split at hk
              · rename_i z ez
                rw [show (w, y).2.ov = y.ov from rfl, ez] at hy
                rw [ez]
                exact hy.fz
              · cases hk
            obtain ⟨a, ov, h1, h2, h3, h4⟩ := dGet_den r2.fh (r2.bor (List.mem_cons_of_mem _ List.mem_cons_self)) hy' e
            obtain ⟨v, e3, h5⟩ := h4 rv rfl
            subst e3
            exact ⟨a, v, h1, h2, p2 v H2 (Same.refl _) ((r2.res h5).sb (Sb.refl.cons.cons.both))⟩
      · exact p2.elim
end
end J
namespace J
open PySem PySem.Spec PyProof.Rows L2
/-! ### slices -/
def cutF {α : Type} (xs : List α) (lo hi : Option Int) : List α := (xs.drop (HT.sIx xs.length 0 lo)).take (HT.sIx xs.length xs.length hi - HT.sIx xs.length 0 lo)
theorem FDenL.cut {M : Str → Option Value} {F : Hp} {xs : List FV} {vs : List V} (d : FDenL M F xs vs) (lo hi : Option Int) : FDenL M F (cutF xs lo hi) (cutV vs lo hi) := by
  unfold cutF cutV
  rw [d.length]
  exact (d.drop _).take _
theorem FDenL_ints {M : Str → Option Value} {F : Hp} : ∀ ns : List Int, FDenL M F (ns.map .int) (ns.map V.int)
  | [] => rfl
  | n :: ns => ⟨.int n, _, rfl, rfl, FDenL_ints ns⟩
theorem FDenL_strs {M : Str → Option Value} {F : Hp} : ∀ ns : List Str, FDenL M F (ns.map .str) (ns.map V.str)
  | [] => rfl
  | n :: ns => ⟨.str n, _, rfl, rfl, FDenL_strs ns⟩
theorem cutF_map {α β : Type} (f : α → β) (xs : List α) (lo hi : Option Int) : cutF (xs.map f) lo hi = (cutF xs lo hi).map f := by
  unfold cutF
  rw [List.length_map, List.map_take, List.map_drop]
theorem cutF_all {α : Type} {xs : List α} {lo hi : Option Int} (h : HT.sIx xs.length 0 lo = 0 ∧ HT.sIx xs.length xs.length hi = xs.length) : cutF xs lo hi = xs := by
  unfold cutF
  rw [h.1, h.2]
  simp
def opSl (x : OV) (lo hi : Option Int) : Option OV := match x with
  | .ol xs => some (.ol (cutF xs lo hi))
  | .fz (.lst xs) => some (.ol (cutF xs lo hi))
  | .fz (.scr xs) => some (.ol ((cutF xs lo hi).map .int))
  | .fz (.tup xs) => some (.fz (.tup (cutF xs lo hi)))
  | .fz (.str z) => if z.length ≤ BIG then some (.fz (.str (cutS z lo hi))) else none
  | _ => none
def rSlJ (M : Str → Option Value) : V → Option Int → Option Int → Hp → VK → Prop := fun u lo hi H Q => ∃ F x o, Same F H ∧ Bor M F H x u ∧ opSl x lo hi = some o ∧ ∀ v H', New M F H H' o v → Q v H'
theorem rSlJ_red {M : Str → Option Value} {K : PySem.W.Frag} {u : V} {lo hi : Option Int} {H : Hp} {Q : VK} (h : rSlJ M u lo hi H Q) : rSlL K u lo hi H Q ∨ rSlA K u lo hi H Q ∨ rSlS u lo hi H Q := by
  obtain ⟨F, x, o, hf, bx, e, k⟩ := h
  unfold opSl at e
  split at e
  · cases e
    obtain ⟨a, vs, rfl, q, d⟩ := bx.lst hf rfl
    exact .inl ⟨a, vs, rfl, SqL.of q, fun p hp => k _ _ (New.lst hf hp (d.cut lo hi))⟩
  · cases e
    obtain ⟨a, vs, rfl, q, d⟩ := bx.lst hf rfl
    exact .inl ⟨a, vs, rfl, SqL.of q, fun p hp => k _ _ (New.lst hf hp (d.cut lo hi))⟩
  · cases e
    rename_i xs
    obtain ⟨a, rfl, q⟩ := bx.fz
    refine .inl ⟨a, xs.map V.int, rfl, .inl (q.elim (fun q => .inl (hf _ _ q)) fun ⟨o, q⟩ => .inr ⟨o, hf _ _ q⟩), fun p hp => k _ _ (New.lst hf hp ?_)⟩
    rw [show cutV (xs.map V.int) lo hi = cutF (xs.map V.int) lo hi from rfl, cutF_map]
    exact FDenL_ints _
  · cases e
    obtain ⟨a, vs, rfl, q, d⟩ := bx.fz
    refine .inr (.inl ⟨a, vs, rfl, SqT.of (hf _ _ q), fun h => ?_, fun _ p hp => k _ _ (New.tup hf hp (d.cut lo hi))⟩)
    rw [d.length] at h
    rw [cutF_all h] at k
    exact k _ _ (New.old hf bx.fz)
  · split at e
    · rename_i hz
      cases e
      exact .inr (.inr ⟨_, bx.str, by rw [big_eq]; exact hz, k _ _ (New.str hf)⟩)
    · cases e
  · cases e
theorem sl_j {X : Cx} : SlR X (rSlJ X.mg) := by
  intro pins s σ H u v vl vu lo hi sl Q I r hs h1 h2 q
  exact (SlR.or sl_list (SlR.or sl_tupA sl_str)) pins s σ H u v vl vu lo hi sl Q I r hs h1 h2 (rSlJ_red q)
def dPN : VEnv → Ans (Option Int) := fun _ => .ok none
def dPS (f : DE) : VEnv → Ans (Option Int) := fun env => (f env).bind fun x => match x.ov with
  | .fz (.int i) => .ok (some i)
  | _ => .no
def PostO (M : Str → Option Value) (W : WX) (G Z : Hp) (σ : Sl) (env : VEnv) (T : List (V × Rv)) (Q : Option Int → Hp → Prop) (H : Hp) : Ans (Option Int) → Prop
  | .ok b => ∀ H', Same H H' → R M G Z H' σ env T → Q b H'
  | .ex c => ∀ C H', M c = some (.ref C) → Same H H' → R M G Z H' σ env T → W (.ref C) none σ H'
  | .no => False
def tO (M : Str → Option Value) (W : WX) (f : VEnv → Ans (Option Int)) : TO := fun σ H Q => ∃ G Z env T, R M G Z H σ env T ∧ PostO M W G Z σ env T Q H (f env)
abbrev JO (X : Cx) (W : WX) (e : Option Expr) (f : VEnv → Ans (Option Int)) : Prop := PO X e (tO X.mg W f)
theorem PO.imp {X : Cx} {e : Option Expr} {t t' : TO} (p : PO X e t) (h : ∀ σ H Q, t' σ H Q → t σ H Q) : PO X e t' := ⟨fun pins s σ H Q I q => p.run pins s σ H Q I (h σ H Q q)⟩
section
variable {M : Str → Option Value} {G Z H F : Hp} {σ : Sl} {env : VEnv} {T T2 : List (V × Rv)} {W : WX} {Q : VK} {C1 C2 : Cells}
theorem tO.bind {f : VEnv → Ans (Option Int)} {k : Option Int → Ans Rv} {Q1 : Option Int → Hp → Prop} (r : R M G Z H σ env T2) (hs : Sb T T2) (p : Post M W G Z σ env T Q H ((f env).bind k))
    (h : ∀ b H1, f env = .ok b → Same H H1 → R M G Z H1 σ env T2 → Post M W G Z σ env T Q H1 (k b) → Q1 b H1) : tO M W f σ H Q1 := by
  refine ⟨G, Z, env, T2, r, ?_⟩
  cases e : f env with
  | ok b =>
    rw [e] at p
    exact fun H1 s r => h b H1 e s r (p.later s)
  | ex c =>
    rw [e] at p
    exact fun C H1 m s r => p C H1 m s (r.sb hs)
  | no => rw [e] at p; exact p
theorem tE.bindO {f : DE} {k : Rv → Ans (Option Int)} {Q1 : VK} {Q : Option Int → Hp → Prop} (r : R M G Z H σ env T2) (hs : Sb T T2) (p : PostO M W G Z σ env T Q H ((f env).bind k))
    (h : ∀ rv v H1, f env = .ok rv → Same H H1 → R M G Z H1 σ env ((v, rv) :: T2) → PostO M W G Z σ env T Q H1 (k rv) → Q1 v H1) : tE M W f σ H Q1 := by
  refine tE.then r hs (fun rv v H1 e s r => h rv v H1 e s r ?_) (fun c C H1 e m s r => ?_) fun e => ?_
  · rw [e] at p
    cases e2 : k rv with
    | ok b => rw [show (Ans.ok rv).bind k = k rv from rfl, e2] at p; exact fun H' s' r' => p H' (s.trans s') r'
    | ex c => rw [show (Ans.ok rv).bind k = k rv from rfl, e2] at p; exact fun C H' m s' r' => p C H' m (s.trans s') r'
    | no => rw [show (Ans.ok rv).bind k = k rv from rfl, e2] at p; exact p
  · rw [e] at p; exact p C H1 m s r
  · rw [e] at p; exact p
end
def dSl (f : DE) (l h : VEnv → Ans (Option Int)) : DE := fun env => (f env).bind fun x => (l env).bind fun i => (h env).bind fun j => (Ans.of (opSl x.ov i j)).map .st
def opRev (x : OV) : Option OV := x.lst?.map fun xs => .ol xs.reverse
section
variable {X : Cx} {W : WX} {pos p2 : Pos} {a e : Expr} {lo hi : Option Expr} {f : DE} {l h : VEnv → Ans (Option Int)}
theorem jo_none : JO X W none dPN := PO.imp po_none fun σ H Q ⟨G, Z, env, T, r, p⟩ => p H (Same.refl _) r
theorem jo_some (he : JE X W e f) : JO X W (some e) (dPS f) := by
  refine PO.imp (po_some he) fun σ H Q ⟨G, Z, env, T, r, p⟩ => ?_
  refine tE.bindO r Sb.refl p fun x u H1 _ s1 ⟨F, C1, C2, r1⟩ p1 => ?_
  have hb := r1.bor List.mem_cons_self
  split at p1
  · rename_i i e
    rw [show (u, x).2.ov = x.ov from rfl, e] at hb
    exact ⟨i, hb.int, p1 H1 (Same.refl _) r1.r.pop⟩
  · exact p1.elim
theorem je_slice (he : JE X W e f) (hl : JO X W lo l) (hh : JO X W hi h) : JE X W (.Subscript e (.Slice lo hi none p2) pos) (dSl f l h) := by
  refine PE.imp (pe_slice sl_j he hl hh) fun σ H Q ⟨G, Z, env, T, r, p⟩ => ?_
  refine tE.bind r Sb.refl p fun x u H1 _ s1 r1 p1 => ?_
  refine tO.bind r1 Sb.refl.cons p1 fun i H2 _ s2 r2 p2 => ?_
  refine tO.bind r2 Sb.refl.cons p2 fun j H3 _ s3 ⟨F, C1, C2, r3⟩ p3 => ?_
  obtain ⟨o, e, k⟩ := r3.fin Sb.refl.cons p3
  exact ⟨F, x.ov, o, r3.fh, r3.bor List.mem_cons_self, e, k⟩
theorem je_rev {k : Nat} {p1 p3 : Pos} (he : JE X W e f) : JE X W (.Subscript e (.Slice none none (some (.UnaryOp .USub (.Constant (.int 1) k p1) p2)) p3) pos) (dUn opRev f) := by
  refine PE.imp (pe_revL he) fun σ H Q ⟨G, Z, env, T, r, p⟩ => ?_
  refine tE.bind r Sb.refl p fun x u H1 _ s1 ⟨F, C1, C2, r1⟩ p1 => ?_
  obtain ⟨o, e, k⟩ := r1.fin Sb.refl.cons p1
  obtain ⟨xs, e1, e2⟩ := Option.map_eq_some_iff.mp e
  subst e2
  obtain ⟨a, vs, e3, q, d⟩ := (r1.bor List.mem_cons_self).lst r1.fh e1
  exact ⟨a, vs, e3, SqL.of q, fun p hp => k _ _ (New.lst r1.fh hp d.reverse)⟩
end
/-! ### in -/
theorem PC.or {X : Cx} {op : CmpOp} {a b : Expr} {t t' : TE} (p : PC X op a b t) (p' : PC X op a b t') : PC X op a b (fun σ H Q => t σ H Q ∨ t' σ H Q) := ⟨fun pins s σ H Q I q => q.elim (p.run pins s σ H Q I) (p'.run pins s σ H Q I)⟩
theorem pc_of {X : Cx} {op : CmpOp} {a b : Expr} {r : R2} {ta tb : TE} (ho : OpR X (compareOp op) r) (ha : PE X a ta) (hb : PE X b tb) : PC X op a b (tOp r ta tb) :=
  ⟨fun pins s σ H Q I h => binT ha hb I h fun v u s2 x y H2 I2 rx ry q => ho pins s2 σ H2 x y v u Q I2 rx ry q⟩
def FV.lst? : FV → Option (List FV)
  | .lst xs => some xs
  | _ => none
def inSeq (x y : FV) : Option Bool := match y with
  | .lst ys => match x.toD, FV.toDL ys with
    | some d, some ds => if SeqAt.shaped d && SeqAt.shaped (.list ds) then some (ds.any fun z => PyData.eqv z d) else none
    | _, _ => none
  | .tup ys => if x.atom && ys.all FV.atom then (match x.toD, FV.toDL ys with
    | some d, some ds => some (ds.any fun z => PyData.eqv z d)
    | _, _ => none) else none
  | .tuz ys => if x.atom && ys.all FV.atom then (match x.toD, FV.toDL ys with
    | some d, some ds => some (ds.any fun z => PyData.eqv z d)
    | _, _ => none) else none
  | .str z => match x with
    | .str s => match s.cps.toList with
      | [c] => some (decide (c ∈ z.cps.toList))
      | _ => none
    | _ => none
  | _ => none
def opIn (neg : Bool) (x y : OV) : Option OV := if y.isD then (if FV.frozenKey x then (dGet y x.fv).map fun o => .fz (.bl (neg != o.isSome)) else none)
  else (inSeq x.fv y.fv).map fun b => .fz (.bl (neg != b))
section
variable {M : Str → Option Value} {K : PySem.W.Frag} {F H : Hp} {x y : FV} {u w : V}
theorem atom_eq {d e : PyData} (dx : FDen M F x u) (dy : FDen M F y w) (hx : x.atom = true) (hy : y.atom = true) (ex : x.toD = some d) (ey : y.toD = some e) : eqV w u = PyData.eqv e d := by
  cases x <;> first | (refine absurd hx ?_; simp [FV.atom]; done) | skip
  all_goals
    cases y <;> first | (refine absurd hy ?_; simp [FV.atom]; done) | skip
  all_goals
    (cases ex; cases ey; rw [show u = _ from dx, show w = _ from dy]; first | rfl | simp [eqV, PyData.eqv])
theorem atom_flat (dx : FDen M F x u) (hx : x.atom = true) : flatV u = true := by
  cases x <;> first | (refine absurd hx ?_; simp [FV.atom]; done) | skip
  all_goals (rw [show u = _ from dx]; rfl)
theorem atoms_any {d : PyData} (dx : FDen M F x u) (hx : x.atom = true) (ex : x.toD = some d) : ∀ {ys : List FV} {vs : List V} {ds : List PyData}, FDenL M F ys vs → ys.all FV.atom = true → FV.toDL ys = some ds → vs.all flatV = true ∧ inV u vs = ds.any fun z => PyData.eqv z d
  | [], _, _, h, _, e => by cases e; rw [show _ = [] from h]; exact ⟨rfl, rfl⟩
  | y :: ys, _, ds, ⟨v, ws, ev, dy, r⟩, ha, e => by
    rw [List.all_cons, Bool.and_eq_true] at ha
    unfold FV.toDL at e
    split at e
    · rename_i d1 ds1 e1 e2
      cases e
      obtain ⟨h1, h2⟩ := atoms_any dx hx ex r ha.2 e2
      rw [ev]
      refine ⟨by rw [List.all_cons, atom_flat dy ha.1, h1]; rfl, ?_⟩
      unfold inV at h2 ⊢
      rw [List.any_cons, List.any_cons, h2, atom_eq dx dy hx ha.1 ex e1]
    · cases e
end
section
variable {X : Cx} {W : WX} {pos : Pos} {a b : Expr} {f g : DE}
def rInJ (M : Str → Option Value) (neg : Bool) : R2 := fun u w H Q => ∃ F x y c, Same F H ∧ Bor M F H x u ∧ Bor M F H y w ∧ inSeq x.fv y.fv = some c ∧ Q (.bl (neg != c)) H
theorem rInJ_red {neg : Bool} {u w : V} {H : Hp} {Q : VK} (h : rInJ X.mg neg u w H Q) : (∃ d ds, Dp X.K H u d ∧ Dp X.K H w (.list ds) ∧ SeqAt.shaped d = true ∧ SeqAt.shaped (.list ds) = true ∧ Q (.bl (neg != ds.any fun z => PyData.eqv z d)) H) ∨
    (∃ p xs, w = .ref p ∧ (SqL X.K H p xs ∨ SqT X.K H p xs) ∧ flatV u = true ∧ xs.all flatV = true ∧ Q (.bl (neg != inV u xs)) H) ∨ ∃ (c : Nat) (z : Str), u = .str ⟨#[c]⟩ ∧ w = .str z ∧ Q (.bl (neg != decide (c ∈ z.cps.toList))) H := by
  obtain ⟨F, x, y, c, hf, bx, by', e, q⟩ := h
  have dx := bx.fden hf
  have dy := by'.fden hf
  revert e dy
  generalize y.fv = yf
  intro e dy
  unfold inSeq at e
  split at e
  · split at e
    · rename_i d ds e1 e2
      split at e
      · rename_i hs
        cases e
        rw [Bool.and_eq_true] at hs
        obtain ⟨p, vs, rfl, qq, dd⟩ := dy
        exact .inl ⟨d, ds, dx.dp e1, .lst (SqL.of qq) (dd.dp e2), hs.1, hs.2, q⟩
      · cases e
    · cases e
  · split at e
    · rename_i ha
      rw [Bool.and_eq_true] at ha
      split at e
      · rename_i d ds e1 e2
        cases e
        obtain ⟨p, vs, rfl, qq, dd⟩ := dy
        obtain ⟨h1, h2⟩ := atoms_any dx ha.1 e1 dd ha.2 e2
        exact .inr (.inl ⟨p, vs, rfl, .inr (SqT.of qq), atom_flat dx ha.1, h1, by rw [h2]; exact q⟩)
      · cases e
    · cases e
  · split at e
    · rename_i ha
      rw [Bool.and_eq_true] at ha
      split at e
      · rename_i d ds e1 e2
        cases e
        obtain ⟨p, vs, o, rfl, qq, _, _, dd⟩ := dy
        obtain ⟨h1, h2⟩ := atoms_any dx ha.1 e1 dd ha.2 e2
        exact .inr (.inl ⟨p, vs, rfl, .inr (.inl (.inr ⟨o, qq⟩)), atom_flat dx ha.1, h1, by rw [h2]; exact q⟩)
      · cases e
    · cases e
  · split at e
    · rename_i s ex
      split at e
      · rename_i c ec
        cases e
        rw [ex] at dx
        refine .inr (.inr ⟨c, _, ?_, dy, q⟩)
        rw [show u = .str s from dx]
        congr 1
        cases s with
        | mk cps =>
          have : cps = #[c] := by
            apply Array.toList_inj.mp
            exact ec
          rw [this]
      · cases e
    · cases e
  · cases e
theorem neg_ite (neg b : Bool) : (if neg = true then !b else b) = (neg != b) := by cases neg <;> cases b <;> rfl
theorem op_inJ (hu : X.A.units + 65 < cLine) : OpR X (compareOp .In) (rInJ X.mg false) := by
  intro pins s σ H u w v1 v2 Q I r1 r2 h
  rcases rInJ_red h with ⟨d, ds, h1, h2, h3, h4, q⟩ | ⟨p, xs, rfl, h1, h2, h3, q⟩ | ⟨c, z, h1, h2, q⟩
  · exact op_inD hu pins s σ H u w v1 v2 Q I r1 r2 ⟨d, ds, h1, h2, h3, h4, by simpa using q⟩
  · exact op_in_seq pins s σ H u _ v1 v2 Q I r1 r2 ⟨p, xs, rfl, h1, h2, h3, by rw [neg_ite]; exact q⟩
  · exact op_in_sign pins s σ H u w v1 v2 Q I r1 r2 ⟨c, z, h1, h2, by simpa using q⟩
theorem op_notInJ (hu : X.A.units + 65 < cLine) : OpR X (compareOp .NotIn) (rInJ X.mg true) := by
  intro pins s σ H u w v1 v2 Q I r1 r2 h
  rcases rInJ_red h with ⟨d, ds, h1, h2, h3, h4, q⟩ | ⟨p, xs, rfl, h1, h2, h3, q⟩ | ⟨c, z, h1, h2, q⟩
  · exact op_notInD hu pins s σ H u w v1 v2 Q I r1 r2 ⟨d, ds, h1, h2, h3, h4, by simpa using q⟩
  · exact op_notIn_seq pins s σ H u _ v1 v2 Q I r1 r2 ⟨p, xs, rfl, h1, h2, h3, by rw [neg_ite]; exact q⟩
  · exact op_notIn_sign pins s σ H u w v1 v2 Q I r1 r2 ⟨c, z, h1, h2, by simpa using q⟩
theorem frozenKey_fz {o : OV} (h : FV.frozenKey o = true) : o = .fz o.fv := by
  unfold FV.frozenKey at h
  split at h
  · rfl
  · cases h
def tInD (neg : Bool) (ty td : TE) : TE := fun σ H Q => ty σ H fun y H1 => td σ H1 fun x H2 => ∃ a o, x = .ref a ∧ DGet H2 a y o ∧ Q (.bl (neg != o.isSome)) H2
theorem in_red {neg : Bool} {σ : Sl} {H : Hp} {Q : VK} (h : tE X.mg W (dBin (opIn neg) f g) σ H Q) : tOp (rInJ X.mg neg) (tE X.mg W f) (tE X.mg W g) σ H Q ∨ tInD neg (tE X.mg W f) (tE X.mg W g) σ H Q := by
  obtain ⟨G, Z, env, T, r, p⟩ := h
  have left : (∀ y, g env = .ok y → y.ov.isD = false) → tOp (rInJ X.mg neg) (tE X.mg W f) (tE X.mg W g) σ H Q := by
    intro hd
    refine tE.bind r Sb.refl p fun x u H1 ef s1 r1 p1 => ?_
    refine tE.bind r1 Sb.refl.cons p1 fun y w H2 eg s2 ⟨F, C1, C2, r2⟩ p2 => ?_
    obtain ⟨o, e, k⟩ := r2.fin (Sb.refl.cons.cons) p2
    unfold opIn at e
    rw [hd y eg, if_neg Bool.false_ne_true] at e
    obtain ⟨c, e1, e2⟩ := Option.map_eq_some_iff.mp e
    subst e2
    exact ⟨F, x.ov, y.ov, c, r2.fh, r2.bor (List.mem_cons_of_mem _ List.mem_cons_self), r2.bor List.mem_cons_self, e1, k _ _ (New.bl r2.fh)⟩
  cases eg : g env with
  | ex c => exact .inl (left fun x e => by rw [eg] at e; cases e)
  | no => exact .inl (left fun x e => by rw [eg] at e; cases e)
  | ok y =>
    cases hd : y.ov.isD with
    | false => exact .inl (left fun x' e => by rw [eg] at e; cases e; exact hd)
    | true =>
      refine .inr ?_
      refine tE.bind r Sb.refl p fun x u H1 ef s1 r1 p1 => ?_
      refine tE.bind r1 Sb.refl.cons p1 fun y' w H2 eg' s2 ⟨F, C1, C2, r2⟩ p2 => ?_
      rw [eg] at eg'
      cases eg'
      obtain ⟨o, e, k⟩ := r2.fin (Sb.refl.cons.cons) p2
      unfold opIn at e
      rw [hd, if_pos rfl] at e
      split at e
      · rename_i hk
        obtain ⟨oo, e1, e2⟩ := Option.map_eq_some_iff.mp e
        subst e2
        have hx := r2.bor (List.mem_cons_of_mem _ (List.mem_cons_self (a := (u, x))))
        rw [show (u, x).2.ov = x.ov from rfl, frozenKey_fz hk] at hx
        obtain ⟨a, ov, h1, h2, h3, h4⟩ := dGet_den r2.fh (r2.bor List.mem_cons_self) hx.fz e1
        exact ⟨a, ov, h1, h2, by rw [h3]; exact k _ _ (New.bl r2.fh)⟩
      · cases e
theorem pc_inJ (hu : X.A.units + 65 < cLine) (ha : JE X W a f) (hb : JE X W b g) : PC X .In a b (tE X.mg W (dBin (opIn false) f g)) :=
  ⟨fun pins s σ H Q I q => (PC.or (pc_of (op_inJ hu) ha hb) (pc_din (Nat.lt_of_le_of_lt (by omega) hu) ha hb)).run pins s σ H Q I ((in_red q).imp id fun q => by simpa [tInD, tDIn] using q)⟩
theorem pc_notInJ (hu : X.A.units + 65 < cLine) (ha : JE X W a f) (hb : JE X W b g) : PC X .NotIn a b (tE X.mg W (dBin (opIn true) f g)) :=
  ⟨fun pins s σ H Q I q => (PC.or (pc_of (op_notInJ hu) ha hb) (pc_dnotin (Nat.lt_of_le_of_lt (by omega) hu) ha hb)).run pins s σ H Q I ((in_red q).imp id fun q => by simpa [tInD, tDNotIn] using q)⟩
theorem je_in (hu : X.A.units + 65 < cLine) (ha : JE X W a f) (hb : JE X W b g) (hm : behindInMarks .In b = false := by rfl) : JE X W (.Compare a [.In] [b] pos) (dBin (opIn false) f g) := pe_cmp (pc_inJ hu ha hb) hm
theorem je_notIn (hu : X.A.units + 65 < cLine) (ha : JE X W a f) (hb : JE X W b g) (hm : behindInMarks .NotIn b = false := by rfl) : JE X W (.Compare a [.NotIn] [b] pos) (dBin (opIn true) f g) := pe_cmp (pc_notInJ hu ha hb) hm
theorem jt_in (hu : X.A.units + 65 < cLine) (ha : JE X W a f) (hb : JE X W b g) (hm : behindInMarks .In b = false := by rfl) : JT X W (.Compare a [.In] [b] pos) (dTest (dBin (opIn false) f g)) := PT.imp (pt_cmp (pc_inJ hu ha hb) hm) fun _ _ _ h => tB_red h
theorem jt_notIn (hu : X.A.units + 65 < cLine) (ha : JE X W a f) (hb : JE X W b g) (hm : behindInMarks .NotIn b = false := by rfl) : JT X W (.Compare a [.NotIn] [b] pos) (dTest (dBin (opIn true) f g)) := PT.imp (pt_cmp (pc_notInJ hu ha hb) hm) fun _ _ _ h => tB_red h
end
end J
namespace J
open PySem PySem.Spec PyProof.Rows L2
/-! ### calls of what is built in -/
def rJn (M : Str → Option Value) (op : List OV → Option OV) : List V → Hp → VK → Prop := fun us H Q => ∃ F os o, Same F H ∧ Paired (fun x u => Bor M F H x u) os us ∧ op os = some o ∧ ∀ v H', New M F H H' o v → Q v H'
def dCallB (op : List OV → Option OV) (g : VEnv → Ans (List Rv)) : DE := fun env => (g env).bind fun rs => (Ans.of (op (rs.map Rv.ov))).map .st
theorem zip_bor {M : Str → Option Value} {F H : Hp} : ∀ {rs : List Rv} {vs : List V}, vs.length = rs.length → (∀ p ∈ vs.zip rs, Bor M F H p.2.ov p.1) → Paired (fun x u => Bor M F H x u) (rs.map Rv.ov) vs
  | [], vs, hl, _ => by
    obtain rfl : vs = [] := List.eq_nil_of_length_eq_zero hl
    exact .nil
  | r :: rs, [], hl, _ => by simp at hl
  | r :: rs, v :: vs, hl, h => .cons (h (v, r) (by simp)) (zip_bor (by simpa using hl) fun p hp => h p (by rw [List.zip_cons_cons]; exact List.mem_cons_of_mem _ hp))
section
variable {M : Str → Option Value} {G Z H F : Hp} {σ : Sl} {env : VEnv} {T T2 : List (V × Rv)} {W : WX} {Q : VK} {C1 C2 : Cells}
theorem RF.rjn {op : List OV → Option OV} {us : List V} {rs : List Rv} (r : RF M G Z H F σ env (us.zip rs ++ T2) C1 C2) (hl : us.length = rs.length) (hs : Sb T T2) (p : Post M W G Z σ env T Q H ((Ans.of (op (rs.map Rv.ov))).map .st)) : rJn M op us H Q := by
  obtain ⟨o, e, k⟩ := r.fin (T := T) (hs.trans ⟨us.zip rs, List.perm_append_comm⟩) p
  exact ⟨F, rs.map Rv.ov, o, r.fh, zip_bor hl fun p hp => r.bor (List.mem_append_left _ hp), e, k⟩
end
section
variable {X : Cx} {W : WX} {pos p : Pos} {x : Str} {e : Expr} {es : List Expr} {g : VEnv → Ans (List Rv)} {op : List OV → Option OV}
theorem callb_red {σ : Sl} {H : Hp} {Q : VK} (h : tE X.mg W (dCallB op g) σ H Q) : tA X.mg W g σ H fun vs H1 => rJn X.mg op vs H1 Q := by
  obtain ⟨G, Z, env, T, r, p⟩ := h
  exact tA.bind r Sb.refl p fun rs vs H1 _ hl s1 ⟨F, C1, C2, r1⟩ p1 => r1.rjn hl Sb.refl p1
theorem je_callB {id : String} (hc : CallR X (.builtin id) (rJn X.mg op)) (ha : JA X W (e :: es) g) (hm : X.mg x = none) (hv : bootBuiltins x = some (.builtin id)) (hg : Gl X x := by rfl) (hn : x ≠ "__name__" := by decide) (hdb : (x == ("__debug__" : Str)) = false := by decide)
    (he : starEach (e :: es) X.env = (false, eval e X.env) :: starEach es X.env := by rfl) (hpl : (backTo pos (starEach es X.env)).any (·.1) = false := by rfl) : JE X W (.Call (.Name x p) (e :: es) [] pos) (dCallB op g) :=
  PE.imp (pe_callB hc hg hm hv ha hn hdb he hpl) fun σ H Q h => callb_red h
theorem je_callTy {T : String} (hc : CallR X (.type T) (rJn X.mg op)) (ha : JA X W (e :: es) g) (hm : X.mg x = none) (hv : bootBuiltins x = some (.type T)) (hg : Gl X x := by rfl) (hn : x ≠ "__name__" := by decide) (hdb : (x == ("__debug__" : Str)) = false := by decide)
    (he : starEach (e :: es) X.env = (false, eval e X.env) :: starEach es X.env := by rfl) (hpl : (backTo pos (starEach es X.env)).any (·.1) = false := by rfl) : JE X W (.Call (.Name x p) (e :: es) [] pos) (dCallB op g) :=
  PE.imp (pe_callTy hc hg hm hv ha hn hdb he hpl) fun σ H Q h => callb_red h
end
theorem CallR.imp {X : Cx} {f : Value} {r r' : List V → Hp → VK → Prop} (h : CallR X f r) (k : ∀ us H Q, r' us H Q → r us H Q) : CallR X f r' := fun pins s σ H us vs Q I rs q => h pins s σ H us vs Q I rs (k us H Q q)
/-! ### what these answer -/
def opLen : List OV → Option OV
  | [.ol xs] => some (.fz (.int xs.length))
  | [.fz (.lst xs)] => some (.fz (.int xs.length))
  | [.fz (.tup xs)] => some (.fz (.int xs.length))
  | [.fz (.tuz xs)] => some (.fz (.int xs.length))
  | [.fz (.str z)] => if z.length ≤ BIG then some (.fz (.int z.length)) else none
  | [.dl xs] => some (.fz (.int xs.length))
  | [.tp xs] => some (.fz (.int xs.length))
  | [.oK xs] => some (.fz (.int xs.length))
  | [.fz (.dK xs)] => some (.fz (.int xs.length))
  | [.fz (.scr xs)] => some (.fz (.int xs.length))
  | _ => none
theorem FDenK.length {M : Str → Option Value} {F : Hp} : ∀ {xs : List (Key × FV)} {vs : List (Key × V)}, FDenK M F xs vs → vs.length = xs.length
  | [], _, e => by rw [show _ = [] from e]; rfl
  | (k, x) :: xs, _, ⟨v, ws, e, _, r⟩ => by rw [e, List.length_cons, List.length_cons, FDenK.length r]
theorem paired1 {α β : Type} {P : α → β → Prop} {x : α} {us : List β} (h : Paired P [x] us) : ∃ u, us = [u] ∧ P x u := by
  cases h with
  | cons a b => cases b; exact ⟨_, rfl, a⟩
theorem paired2 {α β : Type} {P : α → β → Prop} {x y : α} {us : List β} (h : Paired P [x, y] us) : ∃ u w, us = [u, w] ∧ P x u ∧ P y w := by
  cases h with
  | cons a b =>
    cases b with
    | cons b c => cases c; exact ⟨_, _, rfl, a, b⟩
theorem paired3 {α β : Type} {P : α → β → Prop} {x y z : α} {us : List β} (h : Paired P [x, y, z] us) : ∃ u w t, us = [u, w, t] ∧ P x u ∧ P y w ∧ P z t := by
  cases h with
  | cons a b =>
    cases b with
    | cons b c =>
      cases c with
      | cons c d => cases d; exact ⟨_, _, _, rfl, a, b, c⟩
section
variable {X : Cx}
theorem cj_len : CallR X (.builtin "len") (rJn X.mg opLen) := by
  refine CallR.imp (call_len_seq.or (call_len_str.or call_lenD)) fun us H Q ⟨F, os, o, hf, ps, e, k⟩ => ?_
  unfold opLen at e
  split at e <;> first | (cases e; done) | skip
  · cases e
    obtain ⟨u, rfl, b⟩ := paired1 ps
    obtain ⟨a, vs, rfl, q, d⟩ := b.lst hf rfl
    exact .inl ⟨a, vs, rfl, .inl (SqL.of q), by rw [d.length]; exact k _ _ (New.int hf)⟩
  · cases e
    obtain ⟨u, rfl, b⟩ := paired1 ps
    obtain ⟨a, vs, rfl, q, d⟩ := b.lst hf rfl
    exact .inl ⟨a, vs, rfl, .inl (SqL.of q), by rw [d.length]; exact k _ _ (New.int hf)⟩
  · cases e
    obtain ⟨u, rfl, b⟩ := paired1 ps
    obtain ⟨a, vs, rfl, q, d⟩ := FDen.tupT (K := X.K) b.fz (xs := _) rfl
    exact .inl ⟨a, vs, rfl, .inr (SqT.sameS hf q), by rw [d.length]; exact k _ _ (New.int hf)⟩
  · cases e
    obtain ⟨u, rfl, b⟩ := paired1 ps
    obtain ⟨a, vs, rfl, q, d⟩ := FDen.tupT (K := X.K) b.fz (xs := _) rfl
    exact .inl ⟨a, vs, rfl, .inr (SqT.sameS hf q), by rw [d.length]; exact k _ _ (New.int hf)⟩
  · split at e
    · rename_i hz
      cases e
      obtain ⟨u, rfl, b⟩ := paired1 ps
      exact .inr (.inl ⟨_, by rw [b.str], by rw [big_eq]; exact hz, k _ _ (New.int hf)⟩)
    · cases e
  · cases e
    obtain ⟨u, rfl, A, ⟨a, vs, L', rfl, d, q⟩, c⟩ := paired1 ps
    subst q
    exact .inl ⟨a, vs, rfl, .inl (SqL.of (c _ List.mem_cons_self)), by rw [d.length]; exact k _ _ (New.int hf)⟩
  · cases e
    obtain ⟨u, rfl, A, ⟨a, vs, rfl, q, d⟩, c⟩ := paired1 ps
    exact .inl ⟨a, vs, rfl, .inr (SqT.of (hf _ _ q)), by rw [d.length]; exact k _ _ (New.int hf)⟩
  · cases e
    obtain ⟨u, rfl, A, ⟨a, vs, rfl, d, q⟩, c⟩ := paired1 ps
    subst q
    exact .inr (.inr ⟨a, vs, rfl, c _ List.mem_cons_self, by rw [d.length]; exact k _ _ (New.int hf)⟩)
  · cases e
    obtain ⟨u, rfl, b⟩ := paired1 ps
    obtain ⟨a, vs, rfl, q, d⟩ := b.fz
    exact .inr (.inr ⟨a, vs, rfl, hf _ _ q, by rw [d.length]; exact k _ _ (New.int hf)⟩)
  · cases e
    rename_i xs
    obtain ⟨u, rfl, b⟩ := paired1 ps
    obtain ⟨a, rfl, q⟩ := b.fz
    refine .inl ⟨a, xs.map V.int, rfl, .inl (.inl (q.elim (fun q => .inl (hf _ _ q)) fun ⟨o, q⟩ => .inr ⟨o, hf _ _ q⟩)), ?_⟩
    rw [List.length_map]
    exact k _ _ (New.int hf)
end
/-- list(x) of a list, a tuple, a text -/
def FV.seq? : FV → Option (List FV)
  | .lst xs => some xs
  | .tup xs => some xs
  | .tuz xs => some xs
  | _ => none
def OV.seq? : OV → Option (List FV)
  | .ol xs => some xs
  | .fz x => x.seq?
  | _ => none
def opList : List OV → Option OV
  | [.fz (.str z)] => if z.length ≤ BIG then some (.ol (z.cps.toList.map fun c => .str ⟨#[c]⟩)) else none
  | [x] => x.seq?.map .ol
  | _ => none
def opTup : List OV → Option OV
  | [.fz (.str z)] => if z.length ≤ BIG then some (.fz (.tup (z.cps.toList.map fun c => .str ⟨#[c]⟩))) else none
  | [x] => x.lst?.map fun xs => .fz (.tup xs)
  | _ => none
/-- the same, the new tuple known to the object -/
def opTupZ : List OV → Option OV
  | [x] => x.lst?.map fun xs => .fz (.tuz xs)
  | _ => none
theorem Bor.seq {M : Str → Option Value} {K : PySem.W.Frag} {F H : Hp} {x : OV} {u : V} {xs : List FV} (hf : Same F H) (b : Bor M F H x u) (e : x.seq? = some xs) : ∃ a vs, u = .ref a ∧ (SqL K H a vs ∨ SqT K H a vs) ∧ FDenL M F xs vs := by
  unfold OV.seq? at e
  split at e
  · cases e
    obtain ⟨a, vs, rfl, q, d⟩ := b.lst hf rfl
    exact ⟨a, vs, rfl, .inl (SqL.of q), d⟩
  · rename_i x
    unfold FV.seq? at e
    split at e
    · cases e
      obtain ⟨a, vs, rfl, q, d⟩ := b.lst hf rfl
      exact ⟨a, vs, rfl, .inl (SqL.of q), d⟩
    · cases e
      obtain ⟨a, vs, rfl, q, d⟩ := FDen.tupT (K := K) b.fz (xs := _) rfl
      exact ⟨a, vs, rfl, .inr (SqT.sameS hf q), d⟩
    · cases e
      obtain ⟨a, vs, rfl, q, d⟩ := FDen.tupT (K := K) b.fz (xs := _) rfl
      exact ⟨a, vs, rfl, .inr (SqT.sameS hf q), d⟩
    · cases e
  · cases e
theorem signs_vals {z : Str} {acc : Array Value} (h : ItemsOf (SignAt z) acc z.cps.size) : Vals (z.cps.toList.map fun c => V.str ⟨#[c]⟩) acc.toList := by
  obtain ⟨h1, h2⟩ := h
  have key : ∀ (cs : List Nat) (us : List Value), us.length = cs.length → (∀ (i : Nat) (u : Value), us[i]? = some u → ∃ c t, cs[i]? = some c ∧ u = Value.str ⟨#[c]⟩ t) → Vals (cs.map fun c => V.str ⟨#[c]⟩) us := by
    intro cs
    induction cs with
    | nil =>
      intro us hl _
      obtain rfl : us = [] := List.eq_nil_of_length_eq_zero (by simpa using hl)
      exact .nil
    | cons c cs ih =>
      intro us hl h
      cases us with
      | nil => simp at hl
      | cons u us =>
        obtain ⟨c', t, e1, e2⟩ := h 0 u rfl
        have e1' : c = c' := by simpa using e1
        subst e1'
        exact .cons ⟨t, e2⟩ (ih us (by simpa using hl) fun i u e => h (i + 1) u (by simpa using e))
  refine key _ _ (by simpa using h1) fun i u e => ?_
  obtain ⟨c, t, e1, e2⟩ := h2 i u (by rw [← Array.getElem?_toList]; exact e)
  exact ⟨c, t, by rw [Array.getElem?_toList]; exact e1, e2⟩
section
variable {X : Cx}
theorem call_list_txt (hc : X.calm = true) : CallR X (.type "list") (fun xs H Q => ∃ z, xs = [.str z] ∧ z.length ≤ sizeLine ∧ ∀ l, H l = none → Q (.ref l) (upd H l (.lst (z.cps.toList.map fun c => V.str ⟨#[c]⟩)))) := by
  intro pins s σ H xs us Q I r h
  obtain ⟨z, rfl, hz, q⟩ := h
  obtain ⟨u, rfl, t, rfl⟩ := vals1 r
  refine call_list_str (I.ok.hd hc) z t (fun h' tk acc c' kp e hi => ?_) hz
  refine ⟨.ref s.heap.objs.size, _, I.laid (t' := tk) kp (Nat.le_refl _) (show ObjOk X.prog X.w _ h' _ (.lst _) from ⟨?_, acc.toList, c', signs_vals hi, by rw [Array.toArray_toList]; exact e⟩), rfl, q _ (I.hok.fresh (Nat.le_refl _))⟩
  rw [List.length_map, Array.length_toList]
  exact hz
theorem call_tuple_txt (hc : X.calm = true) : CallR X (.type "tuple") (fun xs H Q => ∃ z, xs = [.str z] ∧ z.length ≤ sizeLine ∧ ∀ l, H l = none → Q (.ref l) (upd H l (.tup (z.cps.toList.map fun c => V.str ⟨#[c]⟩)))) := by
  intro pins s σ H xs us Q I r h
  obtain ⟨z, rfl, hz, q⟩ := h
  obtain ⟨u, rfl, t, rfl⟩ := vals1 r
  refine call_tuple_str (I.ok.hd hc) z t (fun h' tk acc kp hi => ?_) hz
  have I1 : Inv X pins σ H { s with heap := h', toks := tk } := I.kept kp
  refine ⟨.ref h'.objs.size, _, I1.laid (t' := tk) (fun b o e => Heap.get?_push_of_some _ e) (Nat.le_refl _) (show ObjOk X.prog X.w _ _ _ (.tup _) from ⟨?_, acc.toList, signs_vals hi, by rw [Array.toArray_toList]; exact IsTup.new _ _⟩), rfl, q _ (I1.hok.fresh (Nat.le_refl _))⟩
  rw [List.length_map, Array.length_toList]
  exact hz
theorem call_tuple_z : CallR X (.type "tuple") (fun xs H Q => ∃ p ys, xs = [.ref p] ∧ SqL X.K H p ys ∧ ∀ l o, H l = none → o.cls = .type "tuple" → o.dict = none → Q (.ref l) (upd H l (.frz o (.tup ys)))) := by
  intro pins s σ H xs us Q I r h
  obtain ⟨p, ys, rfl, hq, q⟩ := h
  obtain ⟨u, rfl, rx⟩ := vals1 r
  cases rx
  obtain ⟨its, r', pl, hz⟩ := I.list hq
  have hlen := r'.length
  refine call_tuple_list pl.isList (fun h' kp => ?_) (by simp only [List.size_toArray] <;> omega)
  have I1 : Inv X pins σ H { s with heap := h' } := I.kept (t' := s.toks) kp
  have I2 : Inv X pins σ (upd H h'.objs.size (.frz { cls := .type "tuple", data := .seq its.toArray } (.tup ys))) { s with heap := h'.push { cls := .type "tuple", data := .seq its.toArray } } :=
    I1.laid (t' := s.toks) (fun b o e => Heap.get?_push_of_some _ e) (Nat.le_refl _) (show ObjOk X.prog X.w _ _ _ (.frz _ (.tup ys)) from ⟨Heap.get?_push_size _ rfl, hz, its, r', IsTup.new _ _⟩)
  exact ⟨.ref h'.objs.size, _, I2, rfl, q _ _ (I1.hok.fresh (Nat.le_refl _)) rfl rfl⟩
theorem FDenL_signs {M : Str → Option Value} {F : Hp} (cs : List Nat) : FDenL M F (cs.map fun c => FV.str ⟨#[c]⟩) (cs.map fun c => V.str ⟨#[c]⟩) := by
  have := FDenL_strs (M := M) (F := F) (cs.map fun c => (⟨#[c]⟩ : Str))
  rw [List.map_map, List.map_map] at this
  exact this
theorem cj_list (hc : X.calm = true) : CallR X (.type "list") (rJn X.mg opList) := by
  refine CallR.imp ((call_list_txt hc).or call_list_of) fun us H Q ⟨F, os, o, hf, ps, e, k⟩ => ?_
  unfold opList at e
  split at e
  · split at e
    · rename_i hz
      cases e
      obtain ⟨u, rfl, b⟩ := paired1 ps
      exact .inl ⟨_, by rw [b.str], by rw [big_eq]; exact hz, fun p hp => k _ _ (New.lst hf hp (FDenL_signs _))⟩
    · cases e
  · obtain ⟨u, rfl, b⟩ := paired1 ps
    obtain ⟨xs, e1, e2⟩ := Option.map_eq_some_iff.mp e
    subst e2
    obtain ⟨a, vs, rfl, q, d⟩ := b.seq (K := X.K) hf e1
    exact .inr ⟨a, vs, rfl, q, fun p hp => k _ _ (New.lst hf hp d)⟩
  · cases e
theorem cj_tup (hc : X.calm = true) : CallR X (.type "tuple") (rJn X.mg opTup) := by
  refine CallR.imp ((call_tuple_txt hc).or call_tuple_of) fun us H Q ⟨F, os, o, hf, ps, e, k⟩ => ?_
  unfold opTup at e
  split at e
  · split at e
    · rename_i hz
      cases e
      obtain ⟨u, rfl, b⟩ := paired1 ps
      exact .inl ⟨_, by rw [b.str], by rw [big_eq]; exact hz, fun p hp => k _ _ (New.tup hf hp (FDenL_signs _))⟩
    · cases e
  · obtain ⟨u, rfl, b⟩ := paired1 ps
    obtain ⟨xs, e1, e2⟩ := Option.map_eq_some_iff.mp e
    subst e2
    obtain ⟨a, vs, rfl, q, d⟩ := b.lst hf e1
    exact .inr ⟨a, vs, rfl, .inl ⟨SqL.of q, fun p hp => k _ _ (New.tup hf hp d)⟩⟩
  · cases e
theorem cj_tupZ : CallR X (.type "tuple") (rJn X.mg opTupZ) := by
  refine CallR.imp call_tuple_z fun us H Q ⟨F, os, o, hf, ps, e, k⟩ => ?_
  unfold opTupZ at e
  split at e
  · obtain ⟨u, rfl, b⟩ := paired1 ps
    obtain ⟨xs, e1, e2⟩ := Option.map_eq_some_iff.mp e
    subst e2
    obtain ⟨a, vs, rfl, q, d⟩ := b.lst hf e1
    exact ⟨a, vs, rfl, SqL.of q, fun p o hp h1 h2 => k _ _ (New.ice hf hp ⟨p, vs, o, rfl, upd_same, h1, h2, d.mono (same_upd (none_of_same hf hp))⟩)⟩
  · cases e
end
def ints? : List FV → Option (List Int)
  | [] => some []
  | .int i :: xs => (ints? xs).map (i :: ·)
  | _ => none
def bools? : List FV → Option (List Bool)
  | [] => some []
  | .bl i :: xs => (bools? xs).map (i :: ·)
  | _ => none
def strs? : List FV → Option (List Str)
  | [] => some []
  | .str i :: xs => (strs? xs).map (i :: ·)
  | _ => none
section
variable {M : Str → Option Value} {F : Hp}
theorem FDenL.ints? : ∀ {xs : List FV} {vs : List V} {ns : List Int}, FDenL M F xs vs → J.ints? xs = some ns → vs = ns.map V.int
  | [], _, _, d, e => by cases e; exact d
  | x :: xs, _, _, ⟨v, ws, ev, d, r⟩, e => by
    cases x <;> first | (cases e; done) | skip
    obtain ⟨ms, e1, e2⟩ := Option.map_eq_some_iff.mp e
    subst e2
    rw [ev, show v = _ from d, FDenL.ints? r e1]
    rfl
theorem FDenL.bools? : ∀ {xs : List FV} {vs : List V} {ns : List Bool}, FDenL M F xs vs → J.bools? xs = some ns → vs = ns.map V.bl
  | [], _, _, d, e => by cases e; exact d
  | x :: xs, _, _, ⟨v, ws, ev, d, r⟩, e => by
    cases x <;> first | (cases e; done) | skip
    obtain ⟨ms, e1, e2⟩ := Option.map_eq_some_iff.mp e
    subst e2
    rw [ev, show v = _ from d, FDenL.bools? r e1]
    rfl
theorem FDenL.strs? : ∀ {xs : List FV} {vs : List V} {ns : List Str}, FDenL M F xs vs → J.strs? xs = some ns → vs = ns.map V.str
  | [], _, _, d, e => by cases e; exact d
  | x :: xs, _, _, ⟨v, ws, ev, d, r⟩, e => by
    cases x <;> first | (cases e; done) | skip
    obtain ⟨ms, e1, e2⟩ := Option.map_eq_some_iff.mp e
    subst e2
    rw [ev, show v = _ from d, FDenL.strs? r e1]
    rfl
end
def opSum : List OV → Option OV
  | [x] => (x.lst?.bind ints?).map fun ns => .fz (.int ns.sum)
  | _ => none
def opAll : List OV → Option OV
  | [x] => (x.lst?.bind bools?).map fun ns => .fz (.bl (ns.all id))
  | _ => none
def opMinL : List OV → Option OV
  | [x] => (x.lst?.bind ints?).bind fun ns => ns.min?.map fun m => .fz (.int m)
  | _ => none
def opMin2 : List OV → Option OV
  | [.fz (.int i), .fz (.int j)] => some (.fz (.int (if j < i then j else i)))
  | _ => none
def opMax2 : List OV → Option OV
  | [.fz (.int i), .fz (.int j)] => some (.fz (.int (if j > i then j else i)))
  | _ => none
def min2 (i j : Int) : Int := if j < i then j else i
def opMin3 : List OV → Option OV
  | [.fz (.int i), .fz (.int j), .fz (.int k)] => some (.fz (.int (min2 (min2 i j) k)))
  | _ => none
def opOrd : List OV → Option OV
  | [.fz (.str z)] => match z.cps.toList with
    | [c] => some (.fz (.int (c : Nat)))
    | _ => none
  | _ => none
def opStr : List OV → Option OV
  | [.fz (.int i)] => if i.natAbs.log2 < 1920 then some (.fz (.str (toString i))) else none
  | _ => none
def opInt : List OV → Option OV
  | [.fz (.int i)] => some (.fz (.int i))
  | [.fz (.bl b)] => some (.fz (.int (if b then 1 else 0)))
  | [.fz (.str z)] => if z.length ≤ 640 then (PySem.intText? z).map fun n => .fz (.int n) else none
  | _ => none
section
variable {X : Cx}
theorem cj_sum (hc : X.calm = true) : CallR X (.builtin "sum") (rJn X.mg opSum) := by
  refine CallR.imp (cr_sum hc) fun us H Q ⟨F, os, o, hf, ps, e, k⟩ => ?_
  unfold opSum at e
  split at e
  · obtain ⟨u, rfl, b⟩ := paired1 ps
    obtain ⟨ns, e1, e2⟩ := Option.map_eq_some_iff.mp e
    subst e2
    obtain ⟨xs, e3, e4⟩ := Option.bind_eq_some_iff.mp e1
    obtain ⟨a, vs, rfl, q, d⟩ := b.lst hf e3
    rw [d.ints? e4] at q
    exact ⟨a, ns, rfl, SqL.of q, k _ _ (New.int hf)⟩
  · cases e
theorem cj_all (hc : X.calm = true) : CallR X (.builtin "all") (rJn X.mg opAll) := by
  refine CallR.imp (cr_all hc) fun us H Q ⟨F, os, o, hf, ps, e, k⟩ => ?_
  unfold opAll at e
  split at e
  · obtain ⟨u, rfl, b⟩ := paired1 ps
    obtain ⟨ns, e1, e2⟩ := Option.map_eq_some_iff.mp e
    subst e2
    obtain ⟨xs, e3, e4⟩ := Option.bind_eq_some_iff.mp e1
    obtain ⟨a, vs, rfl, q, d⟩ := b.lst hf e3
    rw [d.bools? e4] at q
    exact ⟨a, ns, rfl, SqL.of q, k _ _ (New.bl hf)⟩
  · cases e
theorem min_is {ns : List Int} {m n : Int} (e : ns.min? = some m) (h1 : n ∈ ns) (h2 : ∀ y, y ∈ ns → n ≤ y) : n = m := by
  have h := List.min?_eq_some_iff.mp e
  have := h2 m h.1
  have := h.2 n h1
  omega
theorem cj_minL (hc : X.calm = true) : CallR X (.builtin "min") (rJn X.mg opMinL) := by
  refine CallR.imp (cr_min hc) fun us H Q ⟨F, os, o, hf, ps, e, k⟩ => ?_
  unfold opMinL at e
  split at e
  · obtain ⟨u, rfl, b⟩ := paired1 ps
    obtain ⟨ns, e1, e2⟩ := Option.bind_eq_some_iff.mp e
    obtain ⟨m, e5, e6⟩ := Option.map_eq_some_iff.mp e2
    subst e6
    obtain ⟨xs, e3, e4⟩ := Option.bind_eq_some_iff.mp e1
    obtain ⟨a, vs, rfl, q, d⟩ := b.lst hf e3
    rw [d.ints? e4] at q
    refine ⟨a, ns, rfl, SqL.of q, ?_, fun n h1 h2 => by rw [min_is e5 h1 h2]; exact k _ _ (New.int hf)⟩
    cases ns with
    | nil => simp at e5
    | cons _ _ => simp
  · cases e
theorem cj_min2 (hc : X.calm = true) : CallR X (.builtin "min") (rJn X.mg opMin2) := by
  refine CallR.imp (call_min2 hc) fun us H Q ⟨F, os, o, hf, ps, e, k⟩ => ?_
  unfold opMin2 at e
  split at e
  · cases e
    obtain ⟨u, w, rfl, b, b2⟩ := paired2 ps
    exact ⟨_, _, by rw [b.int, b2.int], k _ _ (New.int hf)⟩
  · cases e
theorem cj_max2 (hc : X.calm = true) : CallR X (.builtin "max") (rJn X.mg opMax2) := by
  refine CallR.imp (call_max2 hc) fun us H Q ⟨F, os, o, hf, ps, e, k⟩ => ?_
  unfold opMax2 at e
  split at e
  · cases e
    obtain ⟨u, w, rfl, b, b2⟩ := paired2 ps
    exact ⟨_, _, by rw [b.int, b2.int], k _ _ (New.int hf)⟩
  · cases e
theorem cj_min3 (hc : X.calm = true) : CallR X (.builtin "min") (rJn X.mg opMin3) := by
  refine CallR.imp (call_min3Nu hc) fun us H Q ⟨F, os, o, hf, ps, e, k⟩ => ?_
  unfold opMin3 at e
  split at e
  · cases e
    rename_i i j l
    obtain ⟨u, w, t, rfl, b, b2, b3⟩ := paired3 ps
    refine ⟨_, _, _, _, by rw [b.int, b2.int, b3.int], ?_, k _ _ (New.int hf)⟩
    have h2 : ∀ i j : Int, nuMin2 (.int i) (.int j) = some (.int (min2 i j)) := fun i j => by
      show some (if decide (j < i) = true then V.int j else V.int i) = _
      unfold min2
      by_cases h : j < i
      · simp [h]
      · simp [h]
    unfold nuMin3
    rw [h2, Option.bind_some, h2]
  · cases e
theorem cj_ord : CallR X (.builtin "ord") (rJn X.mg opOrd) := by
  refine CallR.imp call_ord fun us H Q ⟨F, os, o, hf, ps, e, k⟩ => ?_
  unfold opOrd at e
  split at e
  · rename_i z
    split at e
    · rename_i c ec
      cases e
      obtain ⟨u, rfl, b⟩ := paired1 ps
      have hz : z.cps = #[c] := Array.toList_inj.mp ec
      refine ⟨z, by rw [b.str], by show z.cps.size = 1; rw [hz]; rfl, ?_⟩
      have hg : z.cps.getD 0 0 = c := by rw [hz]; rfl
      rw [hg]
      exact k _ _ (New.int hf)
    · cases e
  · cases e
theorem cj_str : CallR X (.type "str") (rJn X.mg opStr) := by
  refine CallR.imp call_str_int fun us H Q ⟨F, os, o, hf, ps, e, k⟩ => ?_
  unfold opStr at e
  split at e
  · split at e
    · rename_i hz
      cases e
      obtain ⟨u, rfl, b⟩ := paired1 ps
      exact ⟨_, by rw [b.int], hz, k _ _ (New.str hf)⟩
    · cases e
  · cases e
theorem cj_int : CallR X (.type "int") (rJn X.mg opInt) := by
  refine CallR.imp (call_int1.or call_int_str) fun us H Q ⟨F, os, o, hf, ps, e, k⟩ => ?_
  unfold opInt at e
  split at e
  · cases e
    obtain ⟨u, rfl, b⟩ := paired1 ps
    exact .inl (.inl ⟨_, by rw [b.int], k _ _ (New.int hf)⟩)
  · cases e
    obtain ⟨u, rfl, b⟩ := paired1 ps
    exact .inl (.inr ⟨_, by rw [b.bl], k _ _ (New.int hf)⟩)
  · split at e
    · rename_i hz
      obtain ⟨u, rfl, b⟩ := paired1 ps
      obtain ⟨n, e1, e2⟩ := Option.map_eq_some_iff.mp e
      subst e2
      exact .inr ⟨_, n, by rw [b.str], e1, hz, k _ _ (New.int hf)⟩
    · cases e
  · cases e
end
end J
namespace J
open PySem PySem.Spec PyProof.Rows L2
/-! ### values without changeable frozen parts -/
mutual
def FV.pure : FV → Bool
  | .non => true
  | .bl _ => true
  | .int _ => true
  | .str _ => true
  | .tup xs => FV.pureL xs
  | .tuz xs => FV.pureL xs
  | _ => false
def FV.pureL : List FV → Bool
  | [] => true
  | x :: xs => x.pure && FV.pureL xs
end
def FV.pureK {κ : Type} : List (κ × FV) → Bool
  | [] => true
  | (_, x) :: xs => x.pure && FV.pureK xs
mutual
def OV.clean : OV → Bool
  | .fz x => x.pure
  | .ol xs => FV.pureL xs
  | .oK kvs => FV.pureK kvs
  | .oT kvs => FV.pureK kvs
  | .dl xs => OV.cleanL xs
  | .dd kvs => OV.cleanK kvs
  | .tp xs => OV.cleanL xs
  | .ob _ fs => OV.cleanA fs
  | .oN _ => true
def OV.cleanL : List OV → Bool
  | [] => true
  | x :: xs => x.clean && OV.cleanL xs
def OV.cleanK : List (Key × OV) → Bool
  | [] => true
  | (_, x) :: xs => x.clean && OV.cleanK xs
def OV.cleanA : List (Str × OV) → Bool
  | [] => true
  | (_, x) :: xs => x.clean && OV.cleanA xs
end
def HO.mutable : HO → Bool
  | .lst _ => true
  | .dK _ => true
  | .dT _ => true
  | .ins _ _ _ => true
  | .ext _ => true
  | _ => false
/-- F and all that may change of H -/
def mutG (F H : Hp) : Hp := fun a => match F a with
  | some o => some o
  | none => match H a with
    | some o => if HO.mutable o then some o else none
    | none => none
/-- F' where it is new, else F -/
def backF (F H F' : Hp) : Hp := fun a => match H a with
  | some _ => F a
  | none => F' a
section
variable {M : Str → Option Value} {F H H' F' : Hp}
theorem mutG_F (F H : Hp) : Same F (mutG F H) := fun a o e => by unfold mutG; rw [e]
theorem mutG_H (hf : Same F H) : Same (mutG F H) H := fun a o e => by
  unfold mutG at e
  split at e
  · rename_i o' e'
    cases e
    exact hf _ _ e'
  · split at e
    · split at e
      · cases e; assumption
      · cases e
    · cases e
theorem mutG_in {a : Addr} {o : HO} (e : H a = some o) (m : HO.mutable o = true) (hf : Same F H) : mutG F H a = some o := by
  unfold mutG
  split
  · rename_i o' e'
    rw [hf _ _ e'] at e
    exact e
  · rw [e]
    simp [m]
theorem mutG_of {a : Addr} {o : HO} (e : mutG F H a = some o) (m : HO.mutable o = false) : F a = some o := by
  unfold mutG at e
  split at e
  · rename_i o' e'
    cases e
    exact e'
  · split at e
    · split at e
      · rename_i h
        cases e
        rw [m] at h
        cases h
      · cases e
    · cases e
theorem backF_in {a : Addr} {o : HO} (fn : ∀ a u, F' a = some u → mutG F H a = some u ∨ H a = none) (e : F' a = some o) (m : HO.mutable o = false) : backF F H F' a = some o := by
  unfold backF
  cases h : H a with
  | none => exact e
  | some z =>
    rcases fn a o e with q | q
    · exact mutG_of q m
    · rw [h] at q; cases q
mutual
theorem FDen.pure (k : ∀ a o, F' a = some o → HO.mutable o = false → F a = some o) : ∀ {x : FV} {v : V}, x.pure = true → FDen M F' x v → FDen M F x v
  | .non, _, _, d => d
  | .bl _, _, _, d => d
  | .int _, _, _, d => d
  | .str _, _, _, d => d
  | .tup xs, _, p, ⟨a, vs, e, q, r⟩ => ⟨a, vs, e, k _ _ q rfl, FDenL.pure k (by simpa [FV.pure] using p) r⟩
  | .tuz xs, _, p, ⟨a, vs, o, e, q, q1, q2, r⟩ => ⟨a, vs, o, e, k _ _ q rfl, q1, q2, FDenL.pure k (by simpa [FV.pure] using p) r⟩
  | .lst _, _, p, _ => by simp [FV.pure] at p
  | .dK _, _, p, _ => by simp [FV.pure] at p
  | .dT _, _, p, _ => by simp [FV.pure] at p
  | .ins _ _, _, p, _ => by simp [FV.pure] at p
  | .exc _, _, p, _ => by simp [FV.pure] at p
  | .scr _, _, p, _ => by simp [FV.pure] at p
  | .dN _, _, p, _ => by simp [FV.pure] at p
theorem FDenL.pure (k : ∀ a o, F' a = some o → HO.mutable o = false → F a = some o) : ∀ {xs : List FV} {vs : List V}, FV.pureL xs = true → FDenL M F' xs vs → FDenL M F xs vs
  | [], _, _, d => d
  | x :: xs, _, p, ⟨v, ws, e, d, r⟩ => by
    simp only [FV.pureL, Bool.and_eq_true] at p
    exact ⟨v, ws, e, FDen.pure k p.1 d, FDenL.pure k p.2 r⟩
end
theorem FDenK.pure (k : ∀ a o, F' a = some o → HO.mutable o = false → F a = some o) : ∀ {xs : List (Key × FV)} {vs : List (Key × V)}, FV.pureK xs = true → FDenK M F' xs vs → FDenK M F xs vs
  | [], _, _, d => d
  | (_, x) :: xs, _, p, ⟨v, ws, e, d, r⟩ => by
    simp only [FV.pureK, Bool.and_eq_true] at p
    exact ⟨v, ws, e, FDen.pure k p.1 d, FDenK.pure k p.2 r⟩
theorem FDenT.pure (k : ∀ a o, F' a = some o → HO.mutable o = false → F a = some o) : ∀ {xs : List (List Key × FV)} {vs : List (List Key × V)}, FV.pureK xs = true → FDenT M F' xs vs → FDenT M F xs vs
  | [], _, _, d => d
  | (_, x) :: xs, _, p, ⟨v, ws, e, d, r⟩ => by
    simp only [FV.pureK, Bool.and_eq_true] at p
    exact ⟨v, ws, e, FDen.pure k p.1 d, FDenT.pure k p.2 r⟩
mutual
theorem Own.clean (k : ∀ a o, F' a = some o → HO.mutable o = false → F a = some o) : ∀ {x : OV} {v : V} {L : Cells}, x.clean = true → Own M F' x v L → Own M F x v L
  | .fz _, _, _, p, ⟨d, e⟩ => ⟨d.pure k (by simpa [OV.clean] using p), e⟩
  | .ol _, _, _, p, ⟨a, vs, e, r, q⟩ => ⟨a, vs, e, r.pure k (by simpa [OV.clean] using p), q⟩
  | .oK _, _, _, p, ⟨a, vs, e, r, q⟩ => ⟨a, vs, e, r.pure k (by simpa [OV.clean] using p), q⟩
  | .oT _, _, _, p, ⟨a, vs, e, r, q⟩ => ⟨a, vs, e, r.pure k (by simpa [OV.clean] using p), q⟩
  | .dl _, _, _, p, ⟨a, vs, L', e, r, q⟩ => ⟨a, vs, L', e, OwnL.clean k (by simpa [OV.clean] using p) r, q⟩
  | .dd _, _, _, p, ⟨a, vs, L', e, r, q⟩ => ⟨a, vs, L', e, OwnK.clean k (by simpa [OV.clean] using p) r, q⟩
  | .tp _, _, _, p, ⟨a, vs, e, q, r⟩ => ⟨a, vs, e, k _ _ q rfl, OwnL.clean k (by simpa [OV.clean] using p) r⟩
  | .ob _ _, _, _, p, ⟨a, C, dx, ws, L', e, m, q, r, q2⟩ => ⟨a, C, dx, ws, L', e, m, k _ _ q rfl, OwnA.clean k (by simpa [OV.clean] using p) r, q2⟩
  | .oN _, _, _, _, ⟨a, kb, e, n, kt, q⟩ => ⟨a, kb, e, n, fun p hp => let ⟨c, x, y⟩ := kt p hp; ⟨c, k _ _ x rfl, k _ _ y rfl⟩, q⟩
theorem OwnL.clean (k : ∀ a o, F' a = some o → HO.mutable o = false → F a = some o) : ∀ {xs : List OV} {vs : List V} {L : Cells}, OV.cleanL xs = true → OwnL M F' xs vs L → OwnL M F xs vs L
  | [], _, _, _, d => d
  | _ :: _, _, _, p, ⟨v, ws, A, B, e, d, r, q⟩ => by
    simp only [OV.cleanL, Bool.and_eq_true] at p
    exact ⟨v, ws, A, B, e, Own.clean k p.1 d, OwnL.clean k p.2 r, q⟩
theorem OwnK.clean (k : ∀ a o, F' a = some o → HO.mutable o = false → F a = some o) : ∀ {xs : List (Key × OV)} {vs : List (Key × V)} {L : Cells}, OV.cleanK xs = true → OwnK M F' xs vs L → OwnK M F xs vs L
  | [], _, _, _, d => d
  | (_, _) :: _, _, _, p, ⟨v, ws, A, B, e, d, r, q⟩ => by
    simp only [OV.cleanK, Bool.and_eq_true] at p
    exact ⟨v, ws, A, B, e, Own.clean k p.1 d, OwnK.clean k p.2 r, q⟩
theorem OwnA.clean (k : ∀ a o, F' a = some o → HO.mutable o = false → F a = some o) : ∀ {xs : List (Str × OV)} {vs : List (Str × V)} {L : Cells}, OV.cleanA xs = true → OwnA M F' xs vs L → OwnA M F xs vs L
  | [], _, _, _, d => d
  | (_, _) :: _, _, _, p, ⟨v, ws, A, B, e, d, r, q⟩ => by
    simp only [OV.cleanA, Bool.and_eq_true] at p
    exact ⟨v, ws, A, B, e, Own.clean k p.1 d, OwnA.clean k p.2 r, q⟩
end
theorem New.clean {o : OV} {v : V} (hf : Same F H) (n : New M (mutG F H) H H' o v) (p : o.clean = true) : New M F H H' o v := by
  obtain ⟨F', L, ff, fn, fh, hh, ow, gd⟩ := n
  refine ⟨backF F H F', L, fun a u e => ?_, fun a u e => ?_, fun a u e => ?_, hh, ow.clean (fun a o e m => backF_in fn e m) p, ⟨gd.nd, gd.hp, fun q hq => ?_, gd.zr⟩⟩
  · unfold backF
    rw [hf _ _ e]
    exact e
  · unfold backF at e
    cases h : H a with
    | none => exact .inr rfl
    | some z => rw [h] at e; exact .inl e
  · unfold backF at e
    cases h : H a with
    | none => rw [h] at e; exact fh _ _ e
    | some z => rw [h] at e; exact hh _ _ (hf _ _ e)
  · unfold backF
    rw [gd.zr q hq]
    exact gd.fr q hq
mutual
theorem Own.mut (hf : Same F H) : ∀ {x : OV} {v : V} {L : Cells}, Own M F x v L → (∀ p ∈ L, H p.1 = some p.2) → FDen M (mutG F H) x.fv v
  | .fz _, _, _, ⟨d, e⟩, _ => d.mono (mutG_F F H)
  | .ol _, _, _, ⟨a, vs, e, r, q⟩, c => ⟨a, vs, e, mutG_in (by subst q; exact c _ List.mem_cons_self) rfl hf, r.mono (mutG_F F H)⟩
  | .oK _, _, _, ⟨a, vs, e, r, q⟩, c => ⟨a, vs, e, mutG_in (by subst q; exact c _ List.mem_cons_self) rfl hf, r.mono (mutG_F F H)⟩
  | .oT _, _, _, ⟨a, vs, e, r, q⟩, c => ⟨a, vs, e, mutG_in (by subst q; exact c _ List.mem_cons_self) rfl hf, r.mono (mutG_F F H)⟩
  | .dl _, _, _, ⟨a, vs, L', e, r, q⟩, c => by
    subst q
    exact ⟨a, vs, e, mutG_in (c _ List.mem_cons_self) rfl hf, OwnL.mut hf r fun p hp => c p (List.mem_cons_of_mem _ hp)⟩
  | .dd _, _, _, ⟨a, vs, L', e, r, q⟩, c => by
    subst q
    exact ⟨a, vs, e, mutG_in (c _ List.mem_cons_self) rfl hf, OwnK.mut hf r fun p hp => c p (List.mem_cons_of_mem _ hp)⟩
  | .tp _, _, _, ⟨a, vs, e, q, r⟩, c => ⟨a, vs, e, mutG_F F H _ _ q, OwnL.mut hf r c⟩
  | .ob _ _, _, _, ⟨a, C, dx, ws, L', e, m, q, r, q2⟩, c => by
    subst q2
    exact ⟨a, C, dx, ws, e, m, mutG_in (c _ List.mem_cons_self) rfl hf, mutG_F F H _ _ q, OwnA.mut hf r fun p hp => c p (List.mem_cons_of_mem _ hp)⟩
  | .oN _, _, _, ⟨a, kb, e, n, kt, q⟩, c => ⟨a, kb, e, mutG_in (by subst q; exact c _ List.mem_cons_self) rfl hf, n, kt.mono (mutG_F F H)⟩
theorem OwnL.mut (hf : Same F H) : ∀ {xs : List OV} {vs : List V} {L : Cells}, OwnL M F xs vs L → (∀ p ∈ L, H p.1 = some p.2) → FDenL M (mutG F H) (OV.fvL xs) vs
  | [], _, _, d, _ => d.1
  | _ :: _, _, _, ⟨v, ws, A, B, e, d, r, q⟩, c => by
    subst q
    exact ⟨v, ws, e, Own.mut hf d fun p hp => c p (List.mem_append_left _ hp), OwnL.mut hf r fun p hp => c p (List.mem_append_right _ hp)⟩
theorem OwnK.mut (hf : Same F H) : ∀ {xs : List (Key × OV)} {vs : List (Key × V)} {L : Cells}, OwnK M F xs vs L → (∀ p ∈ L, H p.1 = some p.2) → FDenK M (mutG F H) (OV.fvK xs) vs
  | [], _, _, d, _ => d.1
  | (_, _) :: _, _, _, ⟨v, ws, A, B, e, d, r, q⟩, c => by
    subst q
    exact ⟨v, ws, e, Own.mut hf d fun p hp => c p (List.mem_append_left _ hp), OwnK.mut hf r fun p hp => c p (List.mem_append_right _ hp)⟩
theorem OwnA.mut (hf : Same F H) : ∀ {xs : List (Str × OV)} {vs : List (Str × V)} {L : Cells}, OwnA M F xs vs L → (∀ p ∈ L, H p.1 = some p.2) → FDenA M (mutG F H) (OV.fvA xs) vs
  | [], _, _, d, _ => d.1
  | (_, _) :: _, _, _, ⟨v, ws, A, B, e, d, r, q⟩, c => by
    subst q
    exact ⟨v, ws, e, Own.mut hf d fun p hp => c p (List.mem_append_left _ hp), OwnA.mut hf r fun p hp => c p (List.mem_append_right _ hp)⟩
end
end
/-! ### one's own functions -/
abbrev FM := List FV → Ans OV
def spF (M : Str → Option Value) (n : Nat) (m : FM) : Sp := fun vs H Q E => ∃ G as, Same G H ∧ vs.length = n ∧ FDenL M G as vs ∧ match m as with
  | .ok o => ∀ v H', New M G H H' o v → Q v H'
  | .ex c => ∀ C H', M c = some (.ref C) → Same H H' → E (.ref C) none H'
  | .no => False
def Rv.isFz (r : Rv) : Bool := match r.ov with
  | .fz _ => true
  | _ => false
def dCall (m : FM) (g : VEnv → Ans (List Rv)) : DE := fun env => (g env).bind fun rs => (m (rs.map Rv.fv)).bind fun o => if rs.all Rv.isFz || o.clean then .ok (.st o) else .no
/-- a temporary frozen -/
def dFrz (f : DE) : DE := fun env => (f env).bind fun r => match r with
  | .st o => .ok (.st (.fz o.fv))
  | .bo o => .ok (.bo o)
theorem zip_den {M : Str → Option Value} {F H : Hp} (hf : Same F H) : ∀ {rs : List Rv} {vs : List V}, vs.length = rs.length → (∀ p ∈ vs.zip rs, Bor M F H p.2.ov p.1) → FDenL M (mutG F H) (rs.map Rv.fv) vs
  | [], vs, hl, _ => List.eq_nil_of_length_eq_zero hl
  | r :: rs, [], hl, _ => by simp at hl
  | r :: rs, v :: vs, hl, h => ⟨v, vs, rfl, (let ⟨A, d, c⟩ := h (v, r) (by simp); d.mut hf c), zip_den hf (by simpa using hl) fun p hp => h p (by rw [List.zip_cons_cons]; exact List.mem_cons_of_mem _ hp)⟩
theorem zip_denF {M : Str → Option Value} {F H : Hp} : ∀ {rs : List Rv} {vs : List V}, rs.all Rv.isFz = true → vs.length = rs.length → (∀ p ∈ vs.zip rs, Bor M F H p.2.ov p.1) → FDenL M F (rs.map Rv.fv) vs
  | [], vs, _, hl, _ => List.eq_nil_of_length_eq_zero hl
  | r :: rs, [], _, hl, _ => by simp at hl
  | r :: rs, v :: vs, ha, hl, h => by
    rw [List.all_cons, Bool.and_eq_true] at ha
    refine ⟨v, vs, rfl, ?_, zip_denF ha.2 (by simpa using hl) fun p hp => h p (by rw [List.zip_cons_cons]; exact List.mem_cons_of_mem _ hp)⟩
    have hb := h (v, r) (by simp)
    have h1 := ha.1
    unfold Rv.isFz at h1
    split at h1
    · rename_i x e
      rw [show (v, r).2.ov = r.ov from rfl, e] at hb
      show FDen M F r.ov.fv v
      rw [e]
      exact hb.fz
    · cases h1
def DL (g : VEnv → Ans (List Rv)) (n : Nat) : Prop := ∀ env rs, g env = .ok rs → rs.length = n
theorem dl_nil : DL dNil 0 := fun env rs h => by cases h; rfl
theorem dl_cons {f : DE} {g : VEnv → Ans (List Rv)} {n : Nat} (h : DL g n) : DL (dCons f g) (n + 1) := fun env rs e => by
  unfold dCons at e
  cases e1 : f env with
  | ok r =>
    rw [e1] at e
    cases e2 : g env with
    | ok rs' =>
      simp only [Ans.bind, e2] at e
      cases e
      rw [List.length_cons, h env rs' e2]
    | ex c => simp only [Ans.bind, e2] at e; cases e
    | no => simp only [Ans.bind, e2] at e; cases e
  | ex c => rw [e1] at e; cases e
  | no => rw [e1] at e; cases e
section
variable {M : Str → Option Value} {G Z H F : Hp} {σ : Sl} {env : VEnv} {T T2 : List (V × Rv)} {W : WX} {Q : VK} {C1 C2 : Cells}
theorem TmpOwn.freeze {v : V} {o : OV} {L : Cells} (t : TmpOwn M F H ((v, .st o) :: T) L) : ∃ A B, L = A ++ B ∧ Own M F o v A ∧ TmpOwn M F H T B := by
  cases t with
  | st d t => exact ⟨_, _, rfl, d, t⟩
theorem R.frz {v : V} {o : OV} (r : R M G Z H σ env ((v, .st o) :: T)) : R M G Z H σ env ((v, .st (.fz o.fv)) :: T) := by
  obtain ⟨F, C1, C2, r⟩ := r
  obtain ⟨A, B, e, d, t⟩ := r.tm.freeze
  subst e
  obtain ⟨i1, i2, i3, i4, i5, i6⟩ := r.ice (A := A) (Lr := C1 ++ B) (by rw [← List.append_assoc, ← List.append_assoc]; exact List.perm_append_comm.append_right _)
  exact ⟨updL F A, C1, B, i1, i2, i4, r.zh, r.ev.mono i3, .st (A := []) ⟨d.fden i3 i6, rfl⟩ (t.mono i3 (Same.refl _)), i5⟩
end
section
variable {X : Cx} {W : WX} {pos p : Pos} {x : Str} {e : Expr} {es : List Expr} {f : DE} {g : VEnv → Ans (List Rv)} {m : FM} {k : Nat} {fa : Addr} {fd : FuncData} {ps : List Str} {n : Nat}
theorem je_frz (h : JE X W e f) : JE X W e (dFrz f) := by
  refine PE.imp h fun σ H Q ⟨G, Z, env, T, r, p⟩ => ?_
  refine tE.bind r Sb.refl p fun x u H1 _ s1 r1 p1 => ?_
  cases x with
  | st o => exact p1 u H1 (Same.refl _) r1.frz
  | bo o => exact p1 u H1 (Same.refl _) r1
theorem call_red {vs : List V} {rs : List Rv} {G Z H : Hp} {σ : Sl} {env : VEnv} {T : List (V × Rv)} {Q : VK} (hl : vs.length = rs.length) (hn : rs.length = n) (r : R X.mg G Z H σ env (vs.zip rs ++ T))
    (p : Post X.mg W G Z σ env T Q H ((m (rs.map Rv.fv)).bind fun o => if rs.all Rv.isFz || o.clean then .ok (.st o) else .no)) : spF X.mg n m vs H Q fun cls d H => W cls d σ H := by
  obtain ⟨F, C1, C2, r⟩ := r
  have hb : ∀ p ∈ vs.zip rs, Bor X.mg F H p.2.ov p.1 := fun p hp => r.bor (List.mem_append_left _ hp)
  have hs : Sb T (vs.zip rs ++ T) := ⟨vs.zip rs, List.perm_append_comm⟩
  cases ha : rs.all Rv.isFz with
  | true =>
    refine ⟨F, rs.map Rv.fv, r.fh, by rw [hl, hn], zip_denF ha hl hb, ?_⟩
    cases em : m (rs.map Rv.fv) with
    | ok o =>
      rw [em] at p
      simp only [Ans.bind, ha, Bool.true_or, if_true] at p
      exact fun v H' nw => p v H' (let ⟨_, _, n⟩ := nw; n.hh) ((r.new nw).sb hs.both)
    | ex c =>
      rw [em] at p
      exact fun C H' mc s => p C H' mc s ((r.same s).r.sb hs)
    | no => rw [em] at p; exact p
  | false =>
    refine ⟨mutG F H, rs.map Rv.fv, mutG_H r.fh, by rw [hl, hn], zip_den r.fh hl hb, ?_⟩
    cases em : m (rs.map Rv.fv) with
    | ok o =>
      rw [em] at p
      simp only [Ans.bind, ha, Bool.false_or] at p
      split at p
      · rename_i hc
        exact fun v H' nw => p v H' (let ⟨_, _, n⟩ := nw; n.hh) ((r.new (nw.clean r.fh hc)).sb hs.both)
      · exact p.elim
    | ex c =>
      rw [em] at p
      exact fun C H' mc s => p C H' mc s ((r.same s).r.sb hs)
    | no => rw [em] at p; exact p
theorem je_call (tk : Takes X W) (F : FnOk X.prog X.w X.K X.mg X.base (L2.CX X.prog X.w) k fa fd ps (spF X.mg n m)) (hr : Room k X.A) (hm : X.mg x = some (.ref fa)) (hk : PySem.W.keepIn X.K (.ref fa) = true) (hb : Binds X.K fd ps []) (ha : JA X W (e :: es) g)
    (hl : (e :: es).length = n := by rfl) (hgl : DL g (e :: es).length := by repeat (first | exact dl_nil | refine dl_cons ?_)) (hg : Gl X x := by rfl) (hdb : (x == ("__debug__" : Str)) = false := by decide)
    (he : starEach (e :: es) X.env = (false, eval e X.env) :: starEach es X.env := by rfl) (hpl : (backTo pos (starEach es X.env)).any (·.1) = false := by rfl) : JE X W (.Call (.Name x p) (e :: es) [] pos) (dCall m g) := by
  refine PE.imp (pe_callS F hr hg hm hk hb (E := WE W) (passAt tk) ha hdb he hpl) fun σ H Q ⟨G, Z, env, T, r, p⟩ => ?_
  exact tA.bind r Sb.refl p fun rs vs H1 eg hlv s1 r1 p1 => call_red hlv (by rw [hgl env rs eg, hl]) r1 p1
end
end J
namespace J
open PySem PySem.Spec PyProof.Rows L2
/-! ### statements -/
def AllSt (T : List (V × Rv)) : Prop := ∀ p ∈ T, ∃ o, p.2 = .st o
def PostS (M : Str → Option Value) (W : WX) (G Z : Hp) (T : List (V × Rv)) (D : Ends) : Ans SO → Prop
  | .ok (.nx e) => ∀ σ' H', R M G Z H' σ' e T → D.nx σ' H'
  | .ok (.rt o e) => ∀ v σ' H', R M G Z H' σ' e ((v, .st o) :: T) → D.rt v H'
  | .ok (.bk e) => ∀ σ' H', R M G Z H' σ' e T → D.bk σ' H'
  | .ok (.ct e) => ∀ σ' H', R M G Z H' σ' e T → D.ct σ' H'
  | .ex c => ∀ C σ' H', M c = some (.ref C) → Same Z H' → W (.ref C) none σ' H'
  | .no => False
def sJ (M : Str → Option Value) (W : WX) (f : DS) : TS := fun D σ H => ∃ G Z env T, AllSt T ∧ R M G Z H σ env T ∧ PostS M W G Z T D (f env)
abbrev JS (X : Cx) (W : WX) (st : Stmt) (f : DS) : Prop := PS X st (sJ X.mg W f)
abbrev JSs (X : Cx) (W : WX) (st : List Stmt) (f : DS) : Prop := PSs X st (sJ X.mg W f)
theorem PS.imp {X : Cx} {st : Stmt} {t t' : TS} (p : PS X st t) (h : ∀ D σ H, t' D σ H → t D σ H) : PS X st t' := ⟨fun pins s σ H D I q => p.run pins s σ H D I (h D σ H q)⟩
theorem PSs.imp {X : Cx} {st : List Stmt} {t t' : TS} (p : PSs X st t) (h : ∀ D σ H, t' D σ H → t D σ H) : PSs X st t' := ⟨fun pins s σ H D I q => p.run pins s σ H D I (h D σ H q)⟩
def SO.bind (x : Ans SO) (f : VEnv → Ans SO) : Ans SO := match x with
  | .ok (.nx e) => f e
  | x => x
def dSkip : DS := fun env => .ok (.nx env)
def dSeq (f g : DS) : DS := fun env => SO.bind (f env) g
def dExpr (f : DE) : DS := fun env => (f env).bind fun _ => .ok (.nx env)
def dSet (i : Nat) (f : DE) : DS := fun env => (f env).bind fun r => match r with
  | .st o => .ok (.nx (env.set i (some o)))
  | .bo _ => .no
def dRet (f : DE) : DS := fun env => (f env).bind fun r => match r with
  | .st o => .ok (.rt o env)
  | .bo _ => .no
/-- return x: it is given away -/
def dRetV (i : Nat) : DS := fun env => match env[i]? with
  | some (some o) => .ok (.rt o (env.set i none))
  | _ => .no
def dRetN : DS := fun env => .ok (.rt (.fz .non) env)
def dIf (c : DT) (f g : DS) : DS := fun env => (c env).bind fun b => if b then f env else g env
def dBrk : DS := fun env => .ok (.bk env)
def dCt : DS := fun env => .ok (.ct env)
/-- ahead of a statement a slot is frozen -/
def dIce (i : Nat) (f : DS) : DS := fun env => match env[i]? with
  | some (some o) => f (env.set i (some (.fz o.fv)))
  | _ => f env
section
variable {M : Str → Option Value} {G Z H F : Hp} {σ : Sl} {env : VEnv} {T T2 : List (V × Rv)} {W : WX} {C1 C2 : Cells} {D : Ends}
theorem tE.bindS {f : DE} {k : Rv → Ans SO} {Q1 : VK} (r : R M G Z H σ env T) (p : PostS M W G Z T D ((f env).bind k))
    (h : ∀ rv v H1, f env = .ok rv → Same H H1 → R M G Z H1 σ env ((v, rv) :: T) → PostS M W G Z T D (k rv) → Q1 v H1) : tE M W f σ H Q1 := by
  refine tE.then r Sb.refl (fun rv v H1 e s r => h rv v H1 e s r ?_) (fun c C H1 e m s r => ?_) fun e => ?_
  · rw [e] at p; exact p
  · rw [e] at p
    obtain ⟨_, _, _, r⟩ := r
    exact p C σ H1 m r.zh
  · rw [e] at p; exact p
theorem tT.bindS {f : DT} {k : Bool → Ans SO} {Q1 : Bool → Hp → Prop} (r : R M G Z H σ env T) (p : PostS M W G Z T D ((f env).bind k))
    (h : ∀ b H1, f env = .ok b → Same H H1 → R M G Z H1 σ env T → PostS M W G Z T D (k b) → Q1 b H1) : tT M W f σ H Q1 := by
  refine ⟨G, Z, env, T, r, ?_⟩
  cases e : f env with
  | ok b =>
    rw [e] at p
    exact fun H1 s r => h b H1 e s r p
  | ex c =>
    rw [e] at p
    exact fun C H1 m s r => let ⟨_, _, _, r⟩ := r; p C σ H1 m r.zh
  | no => rw [e] at p; exact p
theorem PostS.seq {f : DS} {g : DS} (p : PostS M W G Z T D (SO.bind (f env) g)) (hT : AllSt T) : PostS M W G Z T { D with nx := sJ M W g D } (f env) := by
  unfold SO.bind at p
  split at p
  · rename_i e e1
    rw [e1]
    exact fun σ' H' r => ⟨G, Z, e, T, hT, r, p⟩
  · rename_i x hx
    cases e : f env with
    | ok s =>
      rw [e] at p hx
      cases s with
      | nx e2 => exact absurd rfl (hx e2)
      | rt o e2 => exact p
      | bk e2 => exact p
      | ct e2 => exact p
    | ex c => rw [e] at p; exact p
    | no => rw [e] at p; exact p
end
section
variable {X : Cx} {W : WX} {pos pos' : Pos} {e : Expr} {st : Stmt} {rest a b : List Stmt} {f g : DS} {fe : DE} {c : Expr} {fc : DT}
theorem jss_nil : JSs X W [] dSkip := PSs.imp pss_nil fun D σ H ⟨G, Z, env, T, hT, r, p⟩ => p σ H r
theorem jss_cons (h1 : JS X W st f) (h2 : JSs X W rest g) : JSs X W (st :: rest) (dSeq f g) :=
  PSs.imp (pss_cons h1 h2) fun D σ H ⟨G, Z, env, T, hT, r, p⟩ => ⟨G, Z, env, T, hT, r, p.seq hT⟩
theorem jss_one (h1 : JS X W st f) : JSs X W [st] f := pss_one h1
theorem js_pass : JS X W (.Pass pos) dSkip := PS.imp ps_pass fun D σ H ⟨G, Z, env, T, hT, r, p⟩ => p σ H r
theorem js_break : JS X W (.Break pos) dBrk := PS.imp ps_break fun D σ H ⟨G, Z, env, T, hT, r, p⟩ => p σ H r
theorem js_continue : JS X W (.Continue pos) dCt := PS.imp ps_continue fun D σ H ⟨G, Z, env, T, hT, r, p⟩ => p σ H r
theorem js_doc {x j} : JS X W (.Expr (.Constant (.str x) j pos) pos') dSkip := PS.imp ps_doc fun D σ H ⟨G, Z, env, T, hT, r, p⟩ => p σ H r
theorem js_expr (he : JE X W e fe) (hs : swapsWith e none pos.line X.env = pure false := by rfl) : JS X W (.Expr e pos) (dExpr fe) :=
  PS.imp (ps_expr he hs) fun D σ H ⟨G, Z, env, T, hT, r, p⟩ => tE.bindS r p fun rv v H1 _ s r1 p1 => p1 σ H1 r1.pop
theorem js_set (i : Nat) {x : Str} (hN : X.N.Nodup) (he : JE X W e fe) (hi : X.N[i]? = some x := by rfl) (hx : Loc X.env.scope x := by first | exact .inl rfl | exact .inr rfl) (hs : swapsWith e (some (.Name x pos')) pos.line X.env = pure false := by rfl)
    (hf : X.fn x = true ∨ X.env.scope.names.lookup x = some .local := by first | exact .inl rfl | exact .inr rfl) : JS X W (.Assign [.Name x pos'] e pos) (dSet i fe) :=
  PS.imp (ps_set hN hi hx he hs hf) fun D σ H ⟨G, Z, env, T, hT, r, p⟩ => tE.bindS r p fun rv v H1 _ s r1 p1 => by
    cases rv with
    | st o => exact p1 _ _ (r1.set i)
    | bo o => exact p1.elim
theorem js_ret (he : JE X W e fe) : JS X W (.Return (some e) pos) (dRet fe) :=
  PS.imp (ps_ret he) fun D σ H ⟨G, Z, env, T, hT, r, p⟩ => tE.bindS r p fun rv v H1 _ s r1 p1 => by
    cases rv with
    | st o => exact p1 v σ H1 r1
    | bo o => exact p1.elim
theorem js_retN : JS X W (.Return none pos) dRetN := PS.imp ps_retN fun D σ H ⟨G, Z, env, T, hT, ⟨F, C1, C2, r⟩, p⟩ => p .non σ H (r.new (New.non r.fh))
/-- a value taken out of its slot -/
theorem R.take {M : Str → Option Value} {G Z H : Hp} {σ : Sl} {env : VEnv} {T : List (V × Rv)} {o : OV} {i : Nat} (r : R M G Z H σ env T) (h : env[i]? = some (some o)) : ∃ v, σ[i]? = some (some v) ∧ R M G Z H σ (env.set i none) ((v, .st o) :: T) := by
  obtain ⟨F, C1, C2, r⟩ := r
  obtain ⟨v, A, Lr, h1, h2, h3, h4, h5⟩ := r.ev.repl h
  refine ⟨v, h1, F, Lr, A ++ C2, r.gf, r.fg, r.fh, r.zh, ?_, .st h2 r.tm, r.gd.perm ?_⟩
  · have h6 := h5 (some v)
    have e : σ.set i (some v) = σ := by
      apply List.ext_getElem?
      intro j
      by_cases hj : i = j
      · subst hj
        obtain ⟨hlt, _⟩ := List.getElem?_eq_some_iff.mp h1
        rw [List.getElem?_set_self hlt, h1]
      · rw [List.getElem?_set_ne hj]
    rw [e] at h6
    exact h6
  · refine (h3.append_right C2).trans ?_
    rw [← List.append_assoc]
    exact List.perm_append_comm.append_right _
theorem js_retV (i : Nat) {x : Str} (hN : X.N[i]? = some x := by rfl) (hv : Vis X.env.scope x := by first | exact Or.inl rfl | exact Or.inr (Or.inl rfl) | exact Or.inr (Or.inr rfl)) (hd : (x == ("__debug__" : Str)) = false := by decide)
    (hcd : (x == ("__classdict__" : Str)) = false := by decide) : JS X W (.Return (some (.Name x pos')) pos) (dRetV i) := by
  refine PS.imp (ps_ret (pe_var hN hv hd hcd)) fun D σ H ⟨G, Z, env, T, hT, r, p⟩ => ?_
  have hp : PostS X.mg W G Z T D (dRetV i env) := p
  unfold dRetV at hp
  split at hp
  · rename_i o e
    obtain ⟨v, h1, r1⟩ := r.take e
    exact ⟨v, h1, hp v σ H r1⟩
  · exact hp.elim
theorem js_if (hc : JT X W c fc) (ha : JSs X W a f) (hb : JSs X W b g) : JS X W (.If c a b pos) (dIf fc f g) := by
  refine PS.imp (ps_if hc ha hb) fun D σ H ⟨G, Z, env, T, hT, r, p⟩ => tT.bindS r p fun b H1 _ s r1 p1 => ?_
  cases b with
  | true =>
    rw [if_pos rfl] at p1 ⊢
    exact ⟨G, Z, env, T, hT, r1, p1⟩
  | false =>
    rw [if_neg Bool.false_ne_true] at p1 ⊢
    exact ⟨G, Z, env, T, hT, r1, p1⟩
theorem js_ice (i : Nat) (h : JS X W st f) : JS X W st (dIce i f) := by
  refine PS.imp h fun D σ H ⟨G, Z, env, T, hT, r, p⟩ => ?_
  have hp : PostS X.mg W G Z T D (dIce i f env) := p
  unfold dIce at hp
  split at hp
  · rename_i o e
    exact ⟨G, Z, _, T, hT, r.freeze e, hp⟩
  · exact ⟨G, Z, env, T, hT, r, hp⟩
theorem jss_ice (i : Nat) {st : List Stmt} (h : JSs X W st f) : JSs X W st (dIce i f) := by
  refine PSs.imp h fun D σ H ⟨G, Z, env, T, hT, r, p⟩ => ?_
  have hp : PostS X.mg W G Z T D (dIce i f env) := p
  unfold dIce at hp
  split at hp
  · rename_i o e
    exact ⟨G, Z, _, T, hT, r.freeze e, hp⟩
  · exact ⟨G, Z, env, T, hT, r, hp⟩
end
/-! ### a function's body -/
def startE (n : Nat) (as : List FV) : VEnv := as.map (fun x => some (.fz x)) ++ List.replicate (n - as.length) none
def runF (n : Nat) (f : DS) : FM := fun as => match f (startE n as) with
  | .ok (.nx _) => .ok (.fz .non)
  | .ok (.rt o _) => .ok o
  | .ex c => .ex c
  | _ => .no
theorem env_none {M : Str → Option Value} {F : Hp} : ∀ (σ : Sl) , EnvOwn M F σ (List.replicate σ.length none) []
  | [] => .nil
  | s :: σ => .skip (env_none σ)
theorem env_start {M : Str → Option Value} {F : Hp} (σ2 : Sl) : ∀ {as : List FV} {vs : List V}, FDenL M F as vs → EnvOwn M F (vs.map some ++ σ2) (as.map (fun x => some (.fz x)) ++ List.replicate σ2.length none) []
  | [], vs, d => by rw [show vs = [] from d]; exact env_none σ2
  | a :: as, _, ⟨v, ws, e, d, r⟩ => by
    rw [e]
    exact .cons (A := []) (B := []) ⟨d, rfl⟩ (env_start σ2 r)
theorem r_start {M : Str → Option Value} {G H : Hp} {as : List FV} {vs : List V} {N : List Str} (hg : Same G H) (d : FDenL M G as vs) : R M G H H (L2.start N vs) (startE N.length as) [] := by
  refine ⟨G, [], [], Same.refl _, fun a o e => .inl e, hg, Same.refl _, ?_, .nil, Good.nil⟩
  unfold L2.start startE
  rw [d.length]
  have := env_start (M := M) (F := G) (List.replicate (N.length - as.length) none) d
  rw [List.length_replicate] at this
  exact this
section
variable {P : Program} {w : World} {K : PySem.W.Frag} {mg : Str → Option Value} {base : Heap}
theorem run_post {M : Str → Option Value} {G H : Hp} {as : List FV} {n : Nat} {f : DS} {Q : VK} {E : XK}
    (p : match runF n f as with | .ok o => ∀ v H', New M G H H' o v → Q v H' | .ex c => ∀ C H', M c = some (.ref C) → Same H H' → E (.ref C) none H' | .no => False) :
    PostS M (fun cls d _ H => E cls d H) G H [] { nx := fun _ H' => Q .non H', rt := Q } (f (startE n as)) := by
  have key : ∀ {o : OV} {v : V} {σ' : Sl} {e : VEnv} {H' : Hp}, R M G H H' σ' e [(v, .st o)] → New M G H H' o v := by
    intro o v σ' e H' ⟨F, C1, C2, r⟩
    obtain ⟨A, B, e1, d, t⟩ := r.tm.freeze
    cases t
    rw [List.append_nil] at e1
    subst e1
    have g := r.gd.right
    exact ⟨F, C2, r.gf, r.fg, r.fh, r.zh, d, ⟨g.nd, g.hp, g.fr, g.zr⟩⟩
  unfold runF at p
  cases e : f (startE n as) with
  | ok s =>
    rw [e] at p
    cases s with
    | nx e2 =>
      intro σ' H' ⟨F, C1, C2, r⟩
      exact p .non H' (key (r.new (New.non r.fh)))
    | rt o e2 => exact fun v σ' H' r => p v H' (key r)
    | bk e2 => exact p.elim
    | ct e2 => exact p.elim
  | ex c =>
    rw [e] at p
    exact fun C σ' H' m s => p C H' m s
  | no => rw [e] at p; exact p
theorem ok_of {x qual : Str} {st : Stmt} {f : Addr} {fd : FuncData} {N ps : List Str} {k : Nat} {fD : DS} (F : Fun K x qual st f fd) (S : FnScope N ps (defScope st))
    (hb : ∀ (cdv : Value) (A : Around) (outer : List PySem.Env) (s : Shared) (H : Hp) (E : XK), Room k (A.deeper (envOfC qual (defScope st) s.heap.objs.size f cdv)) →
      Takes (cxOf (L2.CX P w) P w K mg base N qual (defScope st) f cdv A outer s H E) (fun cls d _ H => E cls d H) →
      PassesOwn (model P w) (A.deeper (envOfC qual (defScope st) s.heap.objs.size f cdv)) (envOfC qual (defScope st) s.heap.objs.size f cdv) (cxOf (L2.CX P w) P w K mg base N qual (defScope st) f cdv A outer s H E).xe →
      JSs (cxOf (L2.CX P w) P w K mg base N qual (defScope st) f cdv A outer s H E) (fun cls d _ H => E cls d H) (defBody st) fD) :
    FnOk P w K mg base (L2.CX P w) (k + 1) f fd ps (spF mg ps.length (runF N.length fD)) := by
  refine F.okX S (fun vs H Q E ⟨G, as, h1, h2, _⟩ => h2) fun cdv A outer s H vs Q E hr ⟨G, as, h1, h2, h3, p⟩ => ?_
  exact ⟨_, hb cdv A outer s H E hr (takes_of rfl rfl rfl rfl) (passes_of rfl), G, H, _, [], (fun _ h => nomatch h), r_start h1 h3, run_post p⟩
end
end J
namespace J
open PySem PySem.Spec PyProof.Rows L2
/-! ### zip of a list and a tuple -/
def ItzM (K : PySem.W.Frag) (a b : Addr) : It :=
  ⟨fun i H => ∃ (xs ys : List V) (x y : V), SqL K H a xs ∧ SqT K H b ys ∧ xs[i]? = some x ∧ ys[i]? = some y,
    fun i H v H' => ∃ T x y, v = .ref T ∧ H T = none ∧ H' = upd H T (.tup [x, y]) ∧ (∀ xs, SqL K H a xs → xs[i]? = some x) ∧ ∀ ys, SqT K H b ys → ys[i]? = some y,
    fun i H => ∃ xs ys : List V, SqL K H a xs ∧ SqT K H b ys ∧ (xs.length ≤ i ∨ ys.length ≤ i)⟩
def stM (a b z TI TO i1 i2 : Addr) (i : Nat) (h : Heap) : Prop := IsZip h z TI TO .none ∧ IsTupOf2 h TI (.ref i1) (.ref i2) ∧ (∃ x y, IsTupOf2 h TO x y) ∧ h.IsListIter i1 a i ∧ h.IsTupleIter i2 b i
theorem sepM {z TI TO i1 i2 a b : Addr} (D : ZipApart z TI TO i1 i2 a b) : ZipSep2 z TI TO i1 i2 [i1, a] [i2, b] where
  TIz := D.TIz
  TOz := D.TOz
  TITO := D.TITO
  TIi1 := D.TIi1
  mem1 := by simp
  zf1 := by simp [D.i1z.symm, D.l1z.symm]
  Tf1 := by simp [D.TOi1, D.l1TO.symm]
  TIi2 := D.TIi2
  mem2 := by simp
  zf2 := by simp [D.i2z.symm, D.l2z.symm]
  Tf2 := by simp [D.TOi2, D.l2TO.symm]
  sep1_2 := by simp [D.i12, D.l2i1.symm]
  sep2_1 := by simp [D.i12.symm, D.l1i2.symm]
theorem in5 {c z TI TO i1 i2 : Addr} (h : c ∈ [z, TI, TO, i1, i2]) : c = z ∨ c = TI ∨ c = TO ∨ c = i1 ∨ c = i2 := by simpa using h
theorem listEnd {prog : Program} {w : World} {A : Around} (hh : A.handled = none) (it l : Addr) (items : Array Value) (i : Nat) (hx : items[i]? = none) : Draws prog w A it [it, l] i (fun _ _ => False) (fun j h => j = i ∧ h.IsListIter it l i ∧ h.IsList l items) where
  live := fun _ _ st => let ⟨o, ho, _⟩ := st.2.1; ⟨o, ho⟩
  frame := fun _ _ _ st hk => ⟨st.1, st.2.1.at fun o e => hk it (by simp) o e, st.2.2.at fun o e => hk l (by simp) o e⟩
  item := fun j s Q E hi st _ => absurd st.1 (Nat.ne_of_lt hi)
  done := fun s Q E st hE => wpAny_nextOf_list_end hh st.2.1 st.2.2 hx hE
theorem tupleEnd {prog : Program} {w : World} {A : Around} (hh : A.handled = none) (it l : Addr) (items : Array Value) (i : Nat) (hx : items[i]? = none) : Draws prog w A it [it, l] i (fun _ _ => False) (fun j h => j = i ∧ h.IsTupleIter it l i ∧ h.IsTuple l items) where
  live := fun _ _ st => let ⟨o, ho, _⟩ := st.2.1; ⟨o, ho⟩
  frame := fun _ _ _ st hk => ⟨st.1, st.2.1.at fun o e => hk it (by simp) o e, st.2.2.at fun o e => hk l (by simp) o e⟩
  item := fun j s Q E hi st _ => absurd st.1 (Nat.ne_of_lt hi)
  done := fun s Q E st hE => wpAny_nextOf_tuple_end hh st.2.1 st.2.2 hx hE
/-- the two sequences as the model holds them: sizes, and what stands at each place -/
theorem bothM {X : Cx} {pins : List (Addr × Obj)} {σ : L2.St} {H : Hp} {s : Shared} {a b : Addr} {xs ys : List V} (I : Inv X pins σ H s) (hx : SqL X.K H a xs) (hy : SqT X.K H b ys) :
    ∃ As Bs : Array Value, s.heap.IsList a As ∧ s.heap.IsTuple b Bs ∧ As.size = xs.length ∧ Bs.size = ys.length ∧ Vals xs As.toList ∧ Vals ys Bs.toList := by
  have ⟨as, ra, la, _⟩ := I.list hx
  have ⟨bs, rb, lb, _⟩ := I.tuple hy
  exact ⟨as.toArray, bs.toArray, la.isList, lb, ra.length.symm, rb.length.symm, ra, rb⟩
theorem atM {xs : List V} {As : Array Value} {i : Nat} {x : V} (r : Vals xs As.toList) (h : xs[i]? = some x) {u : Value} (e : As[i]? = some u) : RelV x u := by
  have ⟨v, ev, rv⟩ := r.get h
  rw [← Array.getElem?_toList, ev] at e
  exact Option.some.inj e ▸ rv
theorem ltM {xs : List V} {As : Array Value} {i : Nat} {x : V} (z : As.size = xs.length) (h : xs[i]? = some x) : i < As.size := z ▸ (List.getElem?_eq_some_iff.mp h).1
/-- an iterator at its place i: told as one with just so many turns where it has run past its end -/
theorem tailL {P : Program} {w : World} {A : Around} (calm : A.handled = none) (it l : Addr) (ne : l ≠ it) (As : Array Value) (i : Nat) (s : Shared) (h : s.heap.IsListIter it l i) (hl : s.heap.IsList l As) :
    ∃ n, ∃ Pf : Nat → Value → Prop, ∃ St : Nat → Heap → Prop, Draws P w A it [it, l] n Pf St ∧ St i s.heap ∧ i ≤ n ∧ (As.size ≤ i → i = n) := by
  rcases Nat.lt_or_ge As.size i with g | g
  · exact ⟨i, _, _, listEnd calm it l As i (Array.getElem?_eq_none (Nat.le_of_lt g)), ⟨rfl, h, hl⟩, Nat.le_refl _, fun _ => rfl⟩
  · exact ⟨As.size, _, _, Draws.list calm it l ne As, ⟨h, hl⟩, g, Nat.le_antisymm g⟩
theorem tailT {P : Program} {w : World} {A : Around} (calm : A.handled = none) (it l : Addr) (ne : l ≠ it) (As : Array Value) (i : Nat) (s : Shared) (h : s.heap.IsTupleIter it l i) (hl : s.heap.IsTuple l As) :
    ∃ n, ∃ Pf : Nat → Value → Prop, ∃ St : Nat → Heap → Prop, Draws P w A it [it, l] n Pf St ∧ St i s.heap ∧ i ≤ n ∧ (As.size ≤ i → i = n) := by
  rcases Nat.lt_or_ge As.size i with g | g
  · exact ⟨i, _, _, tupleEnd calm it l As i (Array.getElem?_eq_none (Nat.le_of_lt g)), ⟨rfl, h, hl⟩, Nat.le_refl _, fun _ => rfl⟩
  · exact ⟨As.size, _, _, Draws.tuple calm it l ne As, ⟨h, hl⟩, g, Nat.le_antisymm g⟩
theorem turnM {P : Program} {w : World} {K : PySem.W.Frag} {elts : List Expr} {kk : Nat} {tpos : Pos} {a b z TI TO i1 i2 : Addr} (D : ZipApart z TI TO i1 i2 a b) :
    Turn P w K (.Tuple elts kk tpos) (ItzM K a b) [z, TI, TO, i1, i2] z (stM a b z TI TO i1 i2) where
  mem := List.mem_cons_self
  obj := fun i h ⟨hz, hTI, ⟨_, _, hTO⟩, ⟨o1, e1, _, d1⟩, ⟨o2, e2, _, d2⟩⟩ c hc => by
    rcases in5 hc with rfl | rfl | rfl | rfl | rfl
    · exact ⟨_, hz, nofun⟩
    · exact ⟨_, hTI, nofun⟩
    · exact ⟨_, hTO, nofun⟩
    · exact ⟨o1, e1, fun _ q => by rw [d1] at q; cases q⟩
    · exact ⟨o2, e2, fun _ q => by rw [d2] at q; cases q⟩
  keep := fun i h h' ⟨hz, hTI, ⟨x, y, hTO⟩, h1, h2⟩ k =>
    ⟨k _ (by simp) _ hz, k _ (by simp) _ hTI, ⟨x, y, k _ (by simp) _ hTO⟩, h1.at fun o q => k i1 (by simp) o q, h2.at fun o q => k i2 (by simp) o q⟩
  item := by
    rintro X rfl rfl rfl hc i pins s σ H E I hf ⟨hz, hTI, ⟨x0, y0, hTO⟩, ⟨p1, g1, r1⟩, ⟨p2, g2, r2⟩⟩ ⟨xs, ys, x, y, hqx, hqy, hx, hy⟩
    have ⟨As, Bs, la, lb, za, zb, ra, rb⟩ := bothM I hqx hqy
    have calm : X.A.in1.handled = none := I.ok.hd hc
    have inz := Heap.lt_size hz
    have inT := I.hok.fresh (Nat.le_refl s.heap.objs.size)
    refine wpAny_pyNext_zipD2_item (sepM D) (Draws.list calm i1 a D.l1i1 As) (Draws.tuple calm i2 b D.l2i2 Bs) hz hTI hTO ⟨⟨p1, g1, r1⟩, la⟩ ⟨⟨p2, g2, r2⟩, lb⟩ (ltM za hx) (ltM zb hy) fun u v h' tk eu ev hz' hTO' st1 st2 hT hsz hk => ?_
    refine ⟨_, rfl, wpAny_letOwnedTupleGo_zip (s := { s with heap := h', toks := tk }) hz' fun h'' hz'' sb => ?_⟩
    have pair : ObjOk X.prog X.w (upd H s.heap.objs.size (.tup [x, y])) h'' s.heap.objs.size (.tup [x, y]) :=
      ⟨(by decide : 2 ≤ sizeLine), [u, v], .cons (atM ra hx eu) (.cons (atM rb hy ev) .nil), ⟨_, (sb.2 _ (Nat.ne_of_gt inz)).trans hT, rfl, _, rfl⟩⟩
    -- outside the five cells of the zip nothing moved
    have old : ∀ c o, c ∉ [z, TI, TO, i1, i2] → s.heap.get? c = some o → h''.get? c = some o := fun c o hb q => by
      simp only [List.mem_cons, List.not_mem_nil, or_false, not_or] at hb
      rw [sb.2 c hb.1]
      exact hk c o hb.1 hb.2.2.1 hb.2.2.2.1 hb.2.2.2.2 q
    have I1 := I.turnedNew (t' := tk) (ch := [z, TI, TO, i1, i2]) old hf (Nat.le_refl _) pair
    refine ⟨.ref s.heap.objs.size, _, I1, rfl, ⟨_, x, y, rfl, inT, rfl, fun l hl => ?_, fun l hl => ?_⟩, ⟨hz'', ?_, ⟨u, v, ?_⟩, ?_, ?_⟩, fun c hcm => ?_⟩
    · rwa [I.list_inj hl hqx]
    · rwa [I.tuple_inj hl hqy]
    · rw [IsTupOf2, sb.2 _ D.TIz]
      exact hk _ _ D.TIz D.TITO D.TIi1 D.TIi2 hTI
    · rw [IsTupOf2, sb.2 _ D.TOz]
      exact hTO'
    · exact st1.1.at fun o q => by rwa [sb.2 _ D.i1z]
    · exact st2.1.at fun o q => by rwa [sb.2 _ D.i2z]
    · have lt : c < s.heap.objs.size := by
        rcases in5 hcm with rfl | rfl | rfl | rfl | rfl <;> apply Heap.lt_size <;> assumption
      exact (upd_ne (Nat.ne_of_lt lt)).trans (hf c hcm).1
  done := by
    rintro X rfl rfl rfl hc i pins s σ H E I hf ⟨hz, hTI, ⟨_, _, hTO⟩, h1, h2⟩ ⟨xs, ys, hqx, hqy, last⟩
    have ⟨As, Bs, la, lb, za, zb, _⟩ := bothM I hqx hqy
    have calm : X.A.in1.handled = none := I.ok.hd hc
    rw [← za, ← zb] at last
    have after : ∀ h' tk, (∀ c o, c ≠ z → c ≠ TO → c ≠ i1 → c ≠ i2 → s.heap.get? c = some o → h'.get? c = some o) → (none : Option Value) = none ∧ Inv X pins σ H { s with heap := h', toks := tk } := fun h' tk hk => by
      refine ⟨rfl, I.turnedL (t' := tk) (ch := [z, TI, TO, i1, i2]) (fun c o hb q => ?_) hf⟩
      simp only [List.mem_cons, List.not_mem_nil, or_false, not_or] at hb
      exact hk c o hb.1 hb.2.2.1 hb.2.2.2.1 hb.2.2.2.2 q
    have ⟨_, _, _, D1, s1, l1, e1⟩ := tailL (P := X.prog) (w := X.w) calm i1 a D.l1i1 As i s h1 la
    have ⟨_, _, _, D2, s2, l2, e2⟩ := tailT (P := X.prog) (w := X.w) calm i2 b D.l2i2 Bs i s h2 lb
    exact wpAny_pyNext_zipD2_end (sepM D) D1 D2 hz hTI hTO s1 s2 l1 l2 (last.imp e1 e2) after
  self := fun A i s Q E st h => wpAny_pyIter_zip st.1 h
def iZipM (K : PySem.W.Frag) (ta : TA) : TI := fun σ H R => ta σ H fun vs H1 => ∃ a b xs ys, vs = [.ref a, .ref b] ∧ SqL K H1 a xs ∧ SqT K H1 b ys ∧ R (ItzM K a b) H1
theorem pi_zipM {X : Cx} {e e2 : Expr} {ta : TA} {p pos tpos : Pos} {elts : List Expr} {kk : Nat} (hg : Gl X "zip") (hm : X.mg "zip" = none) (ha : PA X [e, e2] ta)
    (hs : starEach [e, e2] X.env = (false, eval e X.env) :: starEach [e2] X.env) (hpl : (backTo pos (starEach [e2] X.env)).any (·.1) = false) :
    PI X (.Tuple elts kk tpos) (.Call (.Name "zip" p) [e, e2] [] pos) (iZipM X.K ta) := by
  constructor
  intro pins s σ H R I h
  refine Call_ (ld_blt I hg hm PyProof.Rows.boot_zip (PyProof.Rows.callWith_type1 (thn (ha.run pos pins s σ H _ I h) ?_) hs hpl))
  rintro us t ⟨_, H1, I1, r1, a, b, xs, ys, rfl, hqx, hqy, q⟩
  obtain _ | ⟨⟨⟩, _ | ⟨⟨⟩, ⟨⟩⟩⟩ := r1
  have ⟨As, Bs, la, lb, _⟩ := bothM I1 hqx hqy
  have ⟨_, ea, _⟩ := id la
  have ⟨_, eb, _⟩ := id lb
  refine zip_begins2 (begins_list a As) (begins_tuple b Bs) la lb fun h' hz hTI hTO g1 g2 hsz hk => wpAny_pyIter_zip hz ?_
  let n := t.heap.objs.size
  refine ⟨n + 4, [n + 4, n + 2, n + 3, n, n + 1], _, _, H1, rfl, I1.kept (t' := t.toks) hk, turnM (PySem.W.ktu_apart n a b (Heap.lt_size ea) (Heap.lt_size eb)), ⟨hz, hTI, ⟨_, _, hTO⟩, ⟨_, g1, rfl, rfl⟩, ⟨_, g2, rfl, rfl⟩⟩, fun c hcm => ?_, q⟩
  have up : n ≤ c := by rcases in5 hcm with rfl | rfl | rfl | rfl | rfl <;> omega
  exact I1.fpOk up (I1.hok.fresh up)
end J
namespace J
open PySem PySem.Spec PyProof.Rows L2 RZ
/-! ### what is walked -/
def WalkJ (M : Str → Option Value) (J : It) (kept : List (V × Rv)) (items : List FV) : Prop :=
  ∀ F H i, Same F H → (∀ p ∈ kept, Bor M F H p.2.ov p.1) → (∀ x, items[i]? = some x → J.go i H ∧ ∀ v H', J.yld i H v H' → New M F H H' (.fz x) v) ∧ (items.length ≤ i → J.stop i H)
def PostI (M : Str → Option Value) (W : WX) (G Z : Hp) (σ : Sl) (env : VEnv) (T : List (V × Rv)) (Q : It → Hp → Prop) (H : Hp) : Ans (List FV) → Prop
  | .ok items => ∀ J H' kept, AllSt kept → Same H H' → R M G Z H' σ env (kept ++ T) → WalkJ M J kept items → Q J H'
  | .ex c => ∀ C H', M c = some (.ref C) → Same H H' → R M G Z H' σ env T → W (.ref C) none σ H'
  | .no => False
def tI (M : Str → Option Value) (W : WX) (f : VEnv → Ans (List FV)) : TI := fun σ H Q => ∃ G Z env T, R M G Z H σ env T ∧ PostI M W G Z σ env T Q H (f env)
abbrev JI (X : Cx) (W : WX) (tg e : Expr) (f : VEnv → Ans (List FV)) : Prop := PI X tg e (tI X.mg W f)
theorem PI.imp {X : Cx} {tg e : Expr} {t t' : TI} (p : PI X tg e t) (h : ∀ σ H Q, t' σ H Q → t σ H Q) : PI X tg e t' := ⟨fun pins s σ H Q I q => p.run pins s σ H Q I (h σ H Q q)⟩
theorem PI.or {X : Cx} {tg e : Expr} {t t' : TI} (p : PI X tg e t) (p' : PI X tg e t') : PI X tg e (fun σ H Q => t σ H Q ∨ t' σ H Q) := ⟨fun pins s σ H Q I q => q.elim (p.run pins s σ H Q I) (p'.run pins s σ H Q I)⟩
section
variable {M : Str → Option Value} {G Z H F : Hp} {σ : Sl} {env : VEnv} {T T2 : List (V × Rv)} {W : WX} {C1 C2 : Cells}
theorem PostI.later {x : Ans (List FV)} {Q : It → Hp → Prop} {H1 : Hp} (p : PostI M W G Z σ env T Q H x) (h : Same H H1) : PostI M W G Z σ env T Q H1 x := by
  cases x with
  | ok r => exact fun J H' kp hk s r w => p J H' kp hk (h.trans s) r w
  | ex c => exact fun C H' m s r => p C H' m (h.trans s) r
  | no => exact p
theorem tE.bindI {f : DE} {k : Rv → Ans (List FV)} {Q1 : VK} {Q : It → Hp → Prop} (r : R M G Z H σ env T2) (hs : Sb T T2) (p : PostI M W G Z σ env T Q H ((f env).bind k))
    (h : ∀ rv v H1, f env = .ok rv → Same H H1 → R M G Z H1 σ env ((v, rv) :: T2) → PostI M W G Z σ env T Q H1 (k rv) → Q1 v H1) : tE M W f σ H Q1 := by
  refine tE.then r hs (fun rv v H1 e s r => h rv v H1 e s r ?_) (fun c C H1 e m s r => ?_) fun e => ?_
  · rw [e] at p; exact p.later s
  · rw [e] at p; exact p C H1 m s r
  · rw [e] at p; exact p
theorem tA.bindI {f : VEnv → Ans (List Rv)} {k : List Rv → Ans (List FV)} {Q1 : List V → Hp → Prop} {Q : It → Hp → Prop} (r : R M G Z H σ env T2) (hs : Sb T T2) (p : PostI M W G Z σ env T Q H ((f env).bind k))
    (h : ∀ rs vs H1, f env = .ok rs → vs.length = rs.length → Same H H1 → R M G Z H1 σ env (vs.zip rs ++ T2) → PostI M W G Z σ env T Q H1 (k rs) → Q1 vs H1) : tA M W f σ H Q1 := by
  refine ⟨G, Z, env, T2, r, ?_⟩
  cases e : f env with
  | ok rs =>
    rw [e] at p
    exact fun vs H1 hl s r => h rs vs H1 e hl s r (p.later s)
  | ex c =>
    rw [e] at p
    exact fun C H1 m s r => p C H1 m s (r.sb hs)
  | no => rw [e] at p; exact p
end
theorem walk_list {M : Str → Option Value} {K : PySem.W.Frag} {a : Addr} {o : OV} {xs : List FV} (e : o.lst? = some xs) : WalkJ M (Itl K a) [(.ref a, .st o)] xs := fun F H i hf hk => by
  obtain ⟨a', vs, ea, q, d⟩ := (hk _ (List.mem_singleton_self _)).lst hf e
  cases ea
  refine ⟨fun x hx => ?_, fun hi => ⟨vs, SqL.of q, by rw [d.length]; exact hi⟩⟩
  obtain ⟨v, h1, h2⟩ := d.get hx
  refine ⟨⟨vs, v, SqL.of q, h1⟩, fun w H' ⟨e1, e2⟩ => ?_⟩
  have e3 := e2 vs (SqL.of q)
  rw [h1] at e3
  cases e3
  rw [e1]
  exact New.old hf h2
theorem walk_tup {M : Str → Option Value} {K : PySem.W.Frag} {a : Addr} {y : FV} {xs : List FV} (e : y.tup? = some xs) : WalkJ M (Itt K a) [(.ref a, .st (.fz y))] xs := fun F H i hf hk => by
  obtain ⟨a', vs, ea, q, d⟩ := FDen.tupT (K := K) (hk _ (List.mem_singleton_self _)).fz e
  cases ea
  have q := SqT.sameS hf q
  refine ⟨fun x hx => ?_, fun hi => ⟨vs, q, by rw [d.length]; exact hi⟩⟩
  obtain ⟨v, h1, h2⟩ := d.get hx
  refine ⟨⟨vs, v, q, h1⟩, fun w H' ⟨e1, e2⟩ => ?_⟩
  have e3 := e2 vs q
  rw [h1] at e3
  cases e3
  rw [e1]
  exact New.old hf h2
theorem walk_str {M : Str → Option Value} {z : Str} {kept : List (V × Rv)} : WalkJ M (Its z) kept (z.cps.toList.map fun c => .str ⟨#[c]⟩) := fun F H i hf _ => by
  refine ⟨fun x hx => ?_, fun hi => ?_⟩
  · rw [List.getElem?_map] at hx
    obtain ⟨c, h1, h2⟩ := Option.map_eq_some_iff.mp hx
    subst h2
    rw [Array.getElem?_toList] at h1
    refine ⟨?_, fun v H' ⟨e1, c', h3, h4⟩ => ?_⟩
    · show i < z.cps.size
      exact (Array.getElem?_eq_some_iff.mp h1).1
    · rw [h1] at h3
      cases h3
      rw [e1, h4]
      exact New.str hf
  · show z.cps.size ≤ i
    rw [List.length_map, Array.length_toList] at hi
    exact hi
theorem walk_range {M : Str → Option Value} {n : Nat} {kept : List (V × Rv)} : WalkJ M (Itr 0 n) kept ((List.range n).map fun i => .int (i : Nat)) := fun F H i hf _ => by
  refine ⟨fun x hx => ?_, fun hi => ?_⟩
  · rw [List.getElem?_map] at hx
    obtain ⟨c, h1, h2⟩ := Option.map_eq_some_iff.mp hx
    subst h2
    obtain ⟨h3, h4⟩ := List.getElem?_eq_some_iff.mp h1
    rw [List.length_range] at h3
    rw [List.getElem_range] at h4
    subst h4
    refine ⟨h3, fun v H' ⟨e1, e2⟩ => ?_⟩
    rw [e1, e2, Int.zero_add]
    exact New.int hf
  · show n ≤ i
    rw [List.length_map, List.length_range] at hi
    exact hi
/-- the items of a list, a tuple, a text that stands still -/
def dItems (f : DE) : VEnv → Ans (List FV) := fun env => (f env).bind fun r => match r with
  | .st (.ol xs) => .ok xs
  | .st (.fz (.lst xs)) => .ok xs
  | .st (.fz (.tup xs)) => .ok xs
  | .st (.fz (.tuz xs)) => .ok xs
  | .st (.fz (.str z)) => .ok (z.cps.toList.map fun c => .str ⟨#[c]⟩)
  | _ => .no
def dRange (f : DE) : VEnv → Ans (List FV) := fun env => (f env).bind fun r => match r.ov with
  | .fz (.int n) => if n < 2 ^ 60 ∧ -(2 ^ 60) < n then .ok ((List.range n.toNat).map fun i => .int (i : Nat)) else .no
  | _ => .no
/-- two lists or two tuples -/
def zipF (xs ys : List FV) : List FV := (xs.zip ys).map fun p => .tup [p.1, p.2]
def OV.tupF? : OV → Option (List FV)
  | .fz b => b.tup?
  | _ => none
def zipM (x y : OV) : Ans (List FV) := match x.lst?, y.tupF? with
  | some xs, some ys => .ok (zipF xs ys)
  | _, _ => .no
def dZip (f g : DE) : VEnv → Ans (List FV) := fun env => (f env).bind fun r => (g env).bind fun q => match r, q with
  | .st x, .st y => match x.lst?, y.lst? with
    | some xs, some ys => .ok (zipF xs ys)
    | _, _ => match x, y with
      | .fz a, .fz b => match a.tup?, b.tup? with
        | some xs, some ys => .ok (zipF xs ys)
        | _, _ => zipM (.fz a) (.fz b)
      | x, y => zipM x y
  | _, _ => .no
theorem zipM_some {x y : OV} {zs : List FV} (h : zipM x y = .ok zs) : ∃ xs b ys, x.lst? = some xs ∧ y = .fz b ∧ b.tup? = some ys ∧ zs = zipF xs ys := by
  unfold zipM at h
  split at h
  · rename_i xs ys h1 h2
    cases h
    unfold OV.tupF? at h2
    split at h2
    · exact ⟨xs, _, ys, h1, rfl, h2, rfl⟩
    · cases h2
  · cases h
theorem zipM_nex {x y : OV} {c : Str} : zipM x y ≠ .ex c := by
  unfold zipM
  split <;> exact fun h => nomatch h
def enumF (xs : List FV) : List FV := (xs.zipIdx).map fun p => .tup [.int (p.2 : Nat), p.1]
def dEnum (f : DE) : VEnv → Ans (List FV) := fun env => (f env).bind fun r => match r with
  | .st x => match x.lst? with
    | some xs => .ok (enumF xs)
    | _ => .no
  | _ => .no
def dRevd (f : DE) : VEnv → Ans (List FV) := fun env => (f env).bind fun r => match r with
  | .st x => match x.lst? with
    | some xs => .ok xs.reverse
    | _ => .no
  | _ => .no
theorem allst1 {v : V} {o : OV} : AllSt [(v, .st o)] := fun p hp => by rw [List.mem_singleton] at hp; subst hp; exact ⟨o, rfl⟩
theorem allst0 : AllSt [] := fun _ h => nomatch h
theorem walk_zip {M : Str → Option Value} {K : PySem.W.Frag} {a b : Addr} {x y : OV} {xs ys : List FV} (e : x.lst? = some xs) (e2 : y.lst? = some ys) : WalkJ M (Itz K a b) [(.ref b, .st y), (.ref a, .st x)] (zipF xs ys) := fun F H i hf hk => by
  obtain ⟨a', vs, ea, q, d⟩ := (hk (.ref a, .st x) (by simp)).lst hf e
  cases ea
  obtain ⟨b', ws, eb, q2, d2⟩ := (hk (.ref b, .st y) (by simp)).lst hf e2
  cases eb
  refine ⟨fun z hz => ?_, fun hi => ⟨vs, ws, SqL.of q, SqL.of q2, ?_⟩⟩
  · unfold zipF at hz
    rw [List.getElem?_map] at hz
    obtain ⟨p, h1, h2⟩ := Option.map_eq_some_iff.mp hz
    subst h2
    obtain ⟨h3, h4⟩ := List.getElem?_zip_eq_some.mp h1
    obtain ⟨v, h5, h6⟩ := d.get h3
    obtain ⟨w, h7, h8⟩ := d2.get h4
    refine ⟨⟨vs, ws, v, w, SqL.of q, SqL.of q2, h5, h7⟩, fun u H' ⟨T, v', w', e1, hT, e2, k1, k2⟩ => ?_⟩
    have k3 := k1 vs (SqL.of q)
    rw [h5] at k3
    cases k3
    have k4 := k2 ws (SqL.of q2)
    rw [h7] at k4
    cases k4
    rw [e1, e2]
    exact New.tup hf hT ⟨v, [w], rfl, h6, w, [], rfl, h8, rfl⟩
  · unfold zipF at hi
    rw [List.length_map, List.length_zip] at hi
    rw [d.length, d2.length]
    omega
theorem walk_zipT {M : Str → Option Value} {K : PySem.W.Frag} {a b : Addr} {x y : FV} {xs ys : List FV} (e : x.tup? = some xs) (e2 : y.tup? = some ys) : WalkJ M (ItzT K a b) [(.ref b, .st (.fz y)), (.ref a, .st (.fz x))] (zipF xs ys) := fun F H i hf hk => by
  obtain ⟨a', vs, ea, q, d⟩ := FDen.tupT (K := K) (hk (.ref a, .st (.fz x)) (by simp)).fz e
  cases ea
  obtain ⟨b', ws, eb, q2, d2⟩ := FDen.tupT (K := K) (hk (.ref b, .st (.fz y)) (by simp)).fz e2
  cases eb
  have q := SqT.sameS hf q
  have q2 := SqT.sameS hf q2
  refine ⟨fun z hz => ?_, fun hi => ⟨vs, ws, q, q2, ?_⟩⟩
  · unfold zipF at hz
    rw [List.getElem?_map] at hz
    obtain ⟨p, h1, h2⟩ := Option.map_eq_some_iff.mp hz
    subst h2
    obtain ⟨h3, h4⟩ := List.getElem?_zip_eq_some.mp h1
    obtain ⟨v, h5, h6⟩ := d.get h3
    obtain ⟨w, h7, h8⟩ := d2.get h4
    refine ⟨⟨vs, ws, v, w, q, q2, h5, h7⟩, fun u H' ⟨T, v', w', e1, hT, e2, k1, k2⟩ => ?_⟩
    have k3 := k1 vs q
    rw [h5] at k3
    cases k3
    have k4 := k2 ws q2
    rw [h7] at k4
    cases k4
    rw [e1, e2]
    exact New.tup hf hT ⟨v, [w], rfl, h6, w, [], rfl, h8, rfl⟩
  · unfold zipF at hi
    rw [List.length_map, List.length_zip] at hi
    rw [d.length, d2.length]
    omega
theorem walk_zipM {M : Str → Option Value} {K : PySem.W.Frag} {a b : Addr} {x : OV} {y : FV} {xs ys : List FV} (e : x.lst? = some xs) (e2 : y.tup? = some ys) : WalkJ M (ItzM K a b) [(.ref b, .st (.fz y)), (.ref a, .st x)] (zipF xs ys) := fun F H i hf hk => by
  obtain ⟨a', vs, ea, q0, d⟩ := (hk (.ref a, .st x) (by simp)).lst hf e
  cases ea
  obtain ⟨b', ws, eb, q2, d2⟩ := FDen.tupT (K := K) (hk (.ref b, .st (.fz y)) (by simp)).fz e2
  cases eb
  have q : SqL K H a vs := SqL.of q0
  have q2 := SqT.sameS hf q2
  refine ⟨fun z hz => ?_, fun hi => ⟨vs, ws, q, q2, ?_⟩⟩
  · unfold zipF at hz
    rw [List.getElem?_map] at hz
    obtain ⟨p, h1, h2⟩ := Option.map_eq_some_iff.mp hz
    subst h2
    obtain ⟨h3, h4⟩ := List.getElem?_zip_eq_some.mp h1
    obtain ⟨v, h5, h6⟩ := d.get h3
    obtain ⟨w, h7, h8⟩ := d2.get h4
    refine ⟨⟨vs, ws, v, w, q, q2, h5, h7⟩, fun u H' ⟨T, v', w', e1, hT, e2, k1, k2⟩ => ?_⟩
    have k3 := k1 vs q
    rw [h5] at k3
    cases k3
    have k4 := k2 ws q2
    rw [h7] at k4
    cases k4
    rw [e1, e2]
    exact New.tup hf hT ⟨v, [w], rfl, h6, w, [], rfl, h8, rfl⟩
  · unfold zipF at hi
    rw [List.length_map, List.length_zip] at hi
    rw [d.length, d2.length]
    omega
theorem walk_enum {M : Str → Option Value} {K : PySem.W.Frag} {a : Addr} {o : OV} {xs : List FV} (e : o.lst? = some xs) : WalkJ M (Ite K a) [(.ref a, .st o)] (enumF xs) := fun F H i hf hk => by
  obtain ⟨a', vs, ea, q, d⟩ := (hk _ (List.mem_singleton_self _)).lst hf e
  cases ea
  refine ⟨fun z hz => ?_, fun hi => ⟨vs, SqL.of q, ?_⟩⟩
  · unfold enumF at hz
    rw [List.getElem?_map] at hz
    obtain ⟨p, h1, h2⟩ := Option.map_eq_some_iff.mp hz
    subst h2
    rw [List.getElem?_zipIdx, Nat.zero_add] at h1
    obtain ⟨x, h3, h4⟩ := Option.map_eq_some_iff.mp h1
    subst h4
    obtain ⟨v, h5, h6⟩ := d.get h3
    refine ⟨⟨vs, v, SqL.of q, h5⟩, fun u H' ⟨T, v', e1, hT, e2, k1⟩ => ?_⟩
    have k3 := k1 vs (SqL.of q)
    rw [h5] at k3
    cases k3
    rw [e1, e2]
    exact New.tup hf hT ⟨.int _, [v], rfl, rfl, v, [], rfl, h6, rfl⟩
  · unfold enumF at hi
    rw [List.length_map, List.length_zipIdx] at hi
    rw [d.length]
    exact hi
theorem walk_rev {M : Str → Option Value} {K : PySem.W.Frag} {a : Addr} {o : OV} {xs : List FV} (e : o.lst? = some xs) : WalkJ M (Itv K a xs.length) [(.ref a, .st o)] xs.reverse := fun F H i hf hk => by
  obtain ⟨a', vs, ea, q, d⟩ := (hk _ (List.mem_singleton_self _)).lst hf e
  cases ea
  refine ⟨fun z hz => ?_, fun hi => by rw [List.length_reverse] at hi; exact hi⟩
  have hlt := (List.getElem?_eq_some_iff.mp hz).1
  rw [List.length_reverse] at hlt
  rw [List.getElem?_reverse hlt] at hz
  obtain ⟨v, h5, h6⟩ := d.get hz
  refine ⟨⟨hlt, vs, v, SqL.of q, h5⟩, fun u H' ⟨e1, k1⟩ => ?_⟩
  have k3 := k1 vs (SqL.of q)
  rw [h5] at k3
  cases k3
  rw [e1]
  exact New.old hf h6
section
variable {X : Cx} {W : WX} {pos p : Pos} {tg e e2 : Expr} {f g : DE}
theorem ji_items (he : JE X W e f) : JI X W tg e (dItems f) := by
  refine PI.imp (PI.or (pi_list he) (PI.or (pi_tup he) (pi_str he))) fun σ H Q ⟨G, Z, env, T, r, q⟩ => ?_
  have qq := q
  unfold dItems at qq
  cases ef : f env with
  | ex c =>
    refine .inl (tE.bindI r Sb.refl q fun x u H1 e1 s1 r1 p1 => ?_)
    rw [ef] at e1; cases e1
  | no => rw [ef] at qq; exact qq.elim
  | ok rv =>
    rw [ef] at qq
    simp only [Ans.bind] at qq
    split at qq
    · refine .inl (tE.bindI r Sb.refl q fun x u H1 e1 s1 r1 p1 => ?_)
      rw [ef] at e1; cases e1
      obtain ⟨F, C1, C2, r1⟩ := r1
      obtain ⟨a, vs, rfl, h1, d⟩ := (r1.bor List.mem_cons_self).lst r1.fh rfl
      exact ⟨a, rfl, ⟨vs, SqL.of h1⟩, p1 _ _ [_] allst1 (Same.refl _) r1.r (walk_list rfl)⟩
    · refine .inl (tE.bindI r Sb.refl q fun x u H1 e1 s1 r1 p1 => ?_)
      rw [ef] at e1; cases e1
      obtain ⟨F, C1, C2, r1⟩ := r1
      obtain ⟨a, vs, rfl, h1, d⟩ := (r1.bor List.mem_cons_self).lst r1.fh rfl
      exact ⟨a, rfl, ⟨vs, SqL.of h1⟩, p1 _ _ [_] allst1 (Same.refl _) r1.r (walk_list rfl)⟩
    · refine .inr (.inl (tE.bindI r Sb.refl q fun x u H1 e1 s1 r1 p1 => ?_))
      rw [ef] at e1; cases e1
      obtain ⟨F, C1, C2, r1⟩ := r1
      obtain ⟨a, vs, rfl, h1, d⟩ := FDen.tupT (K := X.K) (r1.bor List.mem_cons_self).fz rfl
      exact ⟨a, rfl, ⟨vs, SqT.sameS r1.fh h1⟩, p1 _ _ [_] allst1 (Same.refl _) r1.r (walk_tup rfl)⟩
    · refine .inr (.inl (tE.bindI r Sb.refl q fun x u H1 e1 s1 r1 p1 => ?_))
      rw [ef] at e1; cases e1
      obtain ⟨F, C1, C2, r1⟩ := r1
      obtain ⟨a, vs, rfl, h1, d⟩ := FDen.tupT (K := X.K) (r1.bor List.mem_cons_self).fz rfl
      exact ⟨a, rfl, ⟨vs, SqT.sameS r1.fh h1⟩, p1 _ _ [_] allst1 (Same.refl _) r1.r (walk_tup rfl)⟩
    · refine .inr (.inr (tE.bindI r Sb.refl q fun x u H1 e1 s1 r1 p1 => ?_))
      rw [ef] at e1; cases e1
      obtain ⟨F, C1, C2, r1⟩ := r1
      exact ⟨_, (r1.bor List.mem_cons_self).str, p1 _ _ [] allst0 (Same.refl _) r1.r.pop walk_str⟩
    · exact qq.elim
theorem ji_range (he : JE X W e f) (hm : X.mg "range" = none) (hg : Gl X "range" := by rfl) (hs : starEach [e] X.env = [(false, eval e X.env)] := by rfl) (hs2 : starEach [e] X.env = (false, eval e X.env) :: starEach [] X.env := by rfl) : JI X W tg (.Call (.Name "range" p) [e] [] pos) (dRange f) := by
  refine PI.imp (pi_range1 hg hm (pa_cons he pa_nil hs2) hs) fun σ H Q ⟨G, Z, env, T, r, q⟩ => ?_
  refine tE.bindI r Sb.refl q fun x u H1 e1 s1 ⟨F, C1, C2, r1⟩ p1 => ?_
  split at p1
  · rename_i n en
    split at p1
    · rename_i hn
      have hb : Bor X.mg F H1 x.ov u := r1.bor List.mem_cons_self
      rw [en] at hb
      exact ⟨n, by rw [hb.int], by omega, by omega, p1 _ _ [] allst0 (Same.refl _) r1.r.pop walk_range⟩
    · exact p1.elim
  · exact p1.elim
theorem ji_zip {tp : Pos} {elts : List Expr} {kk : Nat} (he : JE X W e f) (he2 : JE X W e2 g) (hm : X.mg "zip" = none) (hg : Gl X "zip" := by rfl)
    (hs : starEach [e, e2] X.env = (false, eval e X.env) :: starEach [e2] X.env := by rfl) (hs2 : starEach [e2] X.env = (false, eval e2 X.env) :: starEach [] X.env := by rfl) (hpl : (backTo pos (starEach [e2] X.env)).any (·.1) = false := by rfl) :
    JI X W (.Tuple elts kk tp) (.Call (.Name "zip" p) [e, e2] [] pos) (dZip f g) := by
  refine PI.imp (PI.or (pi_zipA hg hm (pa_cons he (pa_cons he2 pa_nil hs2) hs) hs hpl) (pi_zipM hg hm (pa_cons he (pa_cons he2 pa_nil hs2) hs) hs hpl)) fun σ H Q ⟨G, Z, env, T, r, q⟩ => ?_
  by_cases hM : ∃ x b xs ys, f env = .ok (.st x) ∧ g env = .ok (.st (.fz b)) ∧ x.lst? = some xs ∧ b.tup? = some ys
  · obtain ⟨x0, b0, xs, ys, hx0, hb0, lx, ty⟩ := hM
    right
    refine tE.bindI r Sb.refl q fun x u H1 e1 s1 r1 p1 => ?_
    refine tE.bindI r1 Sb.refl.cons p1 fun y w H2 e3 s2 ⟨F, C1, C2, r2⟩ p2 => ?_
    rw [hx0] at e1
    cases e1
    rw [hb0] at e3
    cases e3
    have bx := r2.bor (List.mem_cons_of_mem _ (List.mem_cons_self (a := (u, Rv.st x0))))
    have by' := r2.bor (List.mem_cons_self (a := (w, Rv.st (.fz b0))))
    obtain ⟨a, vs, rfl, h1, d⟩ := bx.lst r2.fh lx
    obtain ⟨b, ws, rfl, h2, d2⟩ := FDen.tupT (K := X.K) by'.fz ty
    have ev : (match (Rv.st x0), (Rv.st (OV.fz b0)) with
  | .st x, .st y => match x.lst?, y.lst? with
    | some xs, some ys => Ans.ok (zipF xs ys)
    | _, _ => match x, y with
      | .fz a, .fz b => match a.tup?, b.tup? with
        | some xs, some ys => .ok (zipF xs ys)
        | _, _ => zipM (.fz a) (.fz b)
      | x, y => zipM x y
  | _, _ => .no) = .ok (zipF xs ys) := by
      have n1 : (OV.fz b0).lst? = none := by
        unfold FV.tup? at ty
        split at ty <;> first | rfl | cases ty
      have zm : zipM x0 (.fz b0) = .ok (zipF xs ys) := by
        unfold zipM
        rw [lx]
        show (match some xs, b0.tup? with
          | some xs, some ys => Ans.ok (zipF xs ys)
          | _, _ => .no) = _
        rw [ty]
      simp only [lx, n1]
      cases x0 with
      | fz z =>
        have n2 : z.tup? = none := by
          unfold OV.lst? at lx
          split at lx
          · rename_i h; cases h
          · rename_i h; cases h; rfl
          · cases lx
        simp only [n2]
        exact zm
      | ol z => exact zm
      | oK z => exact zm
      | oT z => exact zm
      | dl z => exact zm
      | dd z => exact zm
      | tp z => exact zm
      | ob z w => exact zm
      | oN z => exact zm
    rw [ev] at p2
    refine ⟨a, b, vs, ws, rfl, SqL.of h1, SqT.sameS r2.fh h2, p2 _ _ [_, _] (fun p hp => ?_) (Same.refl _) r2.r (walk_zipM lx ty)⟩
    simp only [List.mem_cons, List.not_mem_nil, or_false] at hp
    rcases hp with rfl | rfl <;> exact ⟨_, rfl⟩
  left
  have noM : ∀ x y, f env = .ok (.st x) → g env = .ok (.st y) → zipM x y = .no := fun x y h1 h2 => by
    cases e : zipM x y with
    | no => rfl
    | ex c => exact absurd e zipM_nex
    | ok zs =>
      obtain ⟨xs, b, ys, l1, rfl, l2, _⟩ := zipM_some e
      exact absurd ⟨x, b, xs, ys, h1, h2, l1, l2⟩ hM
  refine tE.bindI r Sb.refl q fun x u H1 e1 s1 r1 p1 => ?_
  refine tE.bindI r1 Sb.refl.cons p1 fun y w H2 e3 s2 ⟨F, C1, C2, r2⟩ p2 => ?_
  have bx := r2.bor (List.mem_cons_of_mem _ (List.mem_cons_self (a := (u, x))))
  have by' := r2.bor (List.mem_cons_self (a := (w, y)))
  split at p2
  · rename_i x y
    have nm := noM _ _ e1 e3
    split at p2
    · rename_i xs ys ex ey
      obtain ⟨a, vs, rfl, h1, d⟩ := bx.lst r2.fh ex
      obtain ⟨b, ws, rfl, h2, d2⟩ := by'.lst r2.fh ey
      refine ⟨a, b, vs, ws, rfl, .inl ⟨SqL.of h1, SqL.of h2, p2 _ _ [_, _] (fun p hp => ?_) (Same.refl _) r2.r (walk_zip ex ey)⟩⟩
      simp only [List.mem_cons, List.not_mem_nil, or_false] at hp
      rcases hp with rfl | rfl <;> exact ⟨_, rfl⟩
    · split at p2
      · split at p2
        · rename_i xs ys ex ey
          obtain ⟨a, vs, rfl, h1, d⟩ := FDen.tupT (K := X.K) bx.fz ex
          obtain ⟨b, ws, rfl, h2, d2⟩ := FDen.tupT (K := X.K) by'.fz ey
          refine ⟨a, b, vs, ws, rfl, .inr ⟨SqT.sameS r2.fh h1, SqT.sameS r2.fh h2, p2 _ _ [_, _] (fun p hp => ?_) (Same.refl _) r2.r (walk_zipT ex ey)⟩⟩
          simp only [List.mem_cons, List.not_mem_nil, or_false] at hp
          rcases hp with rfl | rfl <;> exact ⟨_, rfl⟩
        · rw [nm] at p2; exact p2.elim
      · rw [nm] at p2; exact p2.elim
  · exact p2.elim
theorem ji_enum {tp : Pos} {elts : List Expr} {kk : Nat} (he : JE X W e f) (hm : X.mg "enumerate" = none) (hg : Gl X "enumerate" := by rfl) (hs : starEach [e] X.env = [(false, eval e X.env)] := by rfl) (hs2 : starEach [e] X.env = (false, eval e X.env) :: starEach [] X.env := by rfl) :
    JI X W (.Tuple elts kk tp) (.Call (.Name "enumerate" p) [e] [] pos) (dEnum f) := by
  refine PI.imp (pi_enum hg hm (pa_cons he pa_nil hs2) hs) fun σ H Q ⟨G, Z, env, T, r, q⟩ => ?_
  refine tE.bindI r Sb.refl q fun x u H1 e1 s1 ⟨F, C1, C2, r1⟩ p1 => ?_
  have bx := r1.bor (List.mem_cons_self (a := (u, x)))
  split at p1
  · split at p1
    · rename_i xs ex
      obtain ⟨a, vs, rfl, h1, d⟩ := bx.lst r1.fh ex
      exact ⟨a, vs, rfl, SqL.of h1, p1 _ _ [_] allst1 (Same.refl _) r1.r (walk_enum ex)⟩
    · exact p1.elim
  · exact p1.elim
theorem ji_rev (he : JE X W e f) (hm : X.mg "reversed" = none) (hg : Gl X "reversed" := by rfl) (hs : starEach [e] X.env = [(false, eval e X.env)] := by rfl) (hs2 : starEach [e] X.env = (false, eval e X.env) :: starEach [] X.env := by rfl) :
    JI X W tg (.Call (.Name "reversed" p) [e] [] pos) (dRevd f) := by
  refine PI.imp (pi_reversed hg hm (pa_cons he pa_nil hs2) hs) fun σ H Q ⟨G, Z, env, T, r, q⟩ => ?_
  refine tE.bindI r Sb.refl q fun x u H1 e1 s1 ⟨F, C1, C2, r1⟩ p1 => ?_
  have bx := r1.bor (List.mem_cons_self (a := (u, x)))
  split at p1
  · split at p1
    · rename_i xs ex
      obtain ⟨a, vs, rfl, h1, d⟩ := bx.lst r1.fh ex
      refine ⟨a, vs, rfl, SqL.of h1, ?_⟩
      rw [d.length]
      exact p1 _ _ [_] allst1 (Same.refl _) r1.r (walk_rev ex)
    · exact p1.elim
  · exact p1.elim
end
end J
namespace J
open PySem PySem.Spec PyProof.Rows L2
/-! ### targets -/
/-- only the slots vs differ -/
structure Only (vs : List Nat) (σ σ' : Sl) : Prop where
  len : σ'.length = σ.length
  get : ∀ j, j ∉ vs → σ'[j]? = σ[j]?
theorem Only.refl {vs : List Nat} {σ : Sl} : Only vs σ σ := ⟨rfl, fun _ _ => rfl⟩
theorem Only.set {vs : List Nat} {σ : Sl} {i : Nat} {x : Option V} (h : i ∈ vs) : Only vs σ (σ.set i x) := ⟨by simp, fun j hj => List.getElem?_set_ne fun e => hj (by rw [← e]; exact h)⟩
theorem Only.trans {vs : List Nat} {σ σ1 σ2 : Sl} (a : Only vs σ σ1) (b : Only vs σ1 σ2) : Only vs σ σ2 := ⟨b.len.trans a.len, fun j hj => (b.get j hj).trans (a.get j hj)⟩
theorem Only.mono {vs ws : List Nat} {σ σ' : Sl} (a : Only vs σ σ') (h : ∀ i ∈ vs, i ∈ ws) : Only ws σ σ' := ⟨a.len, fun j hj => a.get j fun z => hj (h j z)⟩
theorem wipe_get {σ : Sl} {j : Nat} : ∀ {vs : List Nat}, (wipe σ vs)[j]? = if j ∈ vs ∧ j < σ.length then some none else σ[j]?
  | [] => by simp [wipe]
  | v :: vs => by
    unfold wipe
    by_cases h : v = j
    · subst h
      by_cases hl : v < σ.length
      · rw [List.getElem?_set_self (by rw [wipe_length]; exact hl), if_pos ⟨List.mem_cons_self, hl⟩]
      · rw [if_neg (fun z => hl z.2), List.getElem?_eq_none (by rw [List.length_set, wipe_length]; omega), List.getElem?_eq_none (by omega)]
    · rw [List.getElem?_set_ne h, wipe_get]
      by_cases h2 : j ∈ vs
      · simp [h2, h]
      · simp [h2, Ne.symm h]
theorem Only.wipe {vs : List Nat} {σ σ' : Sl} (a : Only vs σ σ') : wipe σ' vs = wipe σ vs := by
  apply List.ext_getElem?
  intro j
  rw [wipe_get, wipe_get, a.len]
  by_cases h : j ∈ vs
  · by_cases h2 : j < σ.length
    · simp [h, h2]
    · rw [if_neg (fun z => h2 z.2), if_neg (fun z => h2 z.2), List.getElem?_eq_none (by rw [a.len]; omega), List.getElem?_eq_none (by omega)]
  · rw [if_neg (fun z => h z.1), if_neg (fun z => h z.1), a.get j h]
abbrev TgF := FV → VEnv → Option VEnv
def gJ (M : Str → Option Value) (vs : List Nat) (t : TgF) : TG := fun v σ H Q => ∃ G Z env T x, R M G Z H σ env ((v, .st (.fz x)) :: T) ∧ match t x env with
  | some e => ∀ σ', Only vs σ σ' → R M G Z H σ' e T → Q σ' H
  | none => False
abbrev JG (X : Cx) (tg : Expr) (vs : List Nat) (t : TgF) : Prop := PG X tg (gJ X.mg vs t)
theorem PG.imp {X : Cx} {tg : Expr} {t t' : TG} (p : PG X tg t) (h : ∀ v σ H Q, t' v σ H Q → t v σ H Q) : PG X tg t' := ⟨fun pins s σ H v u Q I r q => p.run pins s σ H v u Q I r (h v σ H Q q)⟩
def tName (i : Nat) : TgF := fun x env => some (env.set i (some (.fz x)))
def tTup2 (i j : Nat) : TgF := fun x env => match x with
  | .tup [a, b] => some ((env.set i (some (.fz a))).set j (some (.fz b)))
  | _ => none
theorem tTup2_some {i j : Nat} {x : FV} {env e : VEnv} (h : tTup2 i j x env = some e) : ∃ a b, x = .tup [a, b] ∧ e = (env.set i (some (.fz a))).set j (some (.fz b)) := by
  unfold tTup2 at h
  split at h
  · cases h; exact ⟨_, _, rfl, rfl⟩
  · cases h
section
variable {X : Cx} {pos p1 p2 : Pos} {x y : Str}
theorem jg_name (i : Nat) (hN : X.N.Nodup) (hi : X.N[i]? = some x := by rfl) (hx : Loc X.env.scope x := by first | exact .inl rfl | exact .inr rfl) (hf : X.fn x = true ∨ X.env.scope.names.lookup x = some .local := by first | exact .inl rfl | exact .inr rfl) : JG X (.Name x pos) [i] (tName i) :=
  PG.imp (pg_name hN hi hx hf) fun v σ H Q ⟨G, Z, env, T, y, r, q⟩ => q _ (Only.set (by simp)) (r.set i)
theorem jg_tup2 (i j : Nat) {k : Nat} (hc : X.calm = true) (hN : X.N.Nodup) (hi : X.N[i]? = some x := by rfl) (hx : Loc X.env.scope x := by first | exact .inl rfl | exact .inr rfl) (hf : X.fn x = true ∨ X.env.scope.names.lookup x = some .local := by first | exact .inl rfl | exact .inr rfl)
    (hj : X.N[j]? = some y := by rfl) (hy : Loc X.env.scope y := by first | exact .inl rfl | exact .inr rfl) (hf2 : X.fn y = true ∨ X.env.scope.names.lookup y = some .local := by first | exact .inl rfl | exact .inr rfl)
    (hn : (assignEach [.Name x p1, .Name y p2] X.env).length = 2 := by rfl) (hst : (assignEach [.Name x p1, .Name y p2] X.env).findIdx? (·.1) = none := by rfl)
    (hs : (assignEach [.Name x p1, .Name y p2] X.env).map (·.2) = assign (.Name x p1) X.env :: (assignEach [.Name y p2] X.env).map (·.2) := by rfl)
    (hs2 : (assignEach [.Name y p2] X.env).map (·.2) = assign (.Name y p2) X.env :: (assignEach [] X.env).map (·.2) := by rfl) : JG X (.Tuple [.Name x p1, .Name y p2] k pos) [i, j] (tTup2 i j) := by
  refine PG.imp (pg_tup hc (pgs_cons (pg_name hN hi hx hf) (pgs_cons (pg_name hN hj hy hf2) pgs_nil hs2) hs) hn hst) fun v σ H Q ⟨G, Z, env, T, z, ⟨F, C1, C2, r⟩, q⟩ => ?_
  cases et : tTup2 i j z env with
  | none => rw [et] at q; exact q.elim
  | some e =>
    rw [et] at q
    obtain ⟨a, b, e1, e2⟩ := tTup2_some et
    subst e1 e2
    have hb : Bor X.mg F H (.fz (.tup [a, b])) v := r.bor List.mem_cons_self
    obtain ⟨p, vs, e, h1, u, ws, e1, d1, w, ws2, e2, d2, e3⟩ := hb.fz
    rw [show _ = [] from e3] at e2
    rw [e2] at e1
    subst e1
    refine ⟨p, _, e, SqT.of (r.fh _ _ h1), rfl, u, [w], rfl, w, [], rfl, rfl, ?_⟩
    refine q _ ((Only.set (by simp)).trans (Only.set (by simp))) ?_
    have r1 : R X.mg G Z H σ env ((w, .st (.fz b)) :: (v, .st (.fz (.tup [a, b]))) :: T) := r.new (New.old r.fh d2)
    obtain ⟨F6, D5, D6, r6⟩ := r1.pop2
    have r0 : R X.mg G Z H σ env ((u, .st (.fz a)) :: (w, .st (.fz b)) :: T) := by
      obtain ⟨F7, D7, D8, r7⟩ := r1
      have hb2 : Bor X.mg F7 H (.fz (.tup [a, b])) v := r7.bor (List.mem_cons_of_mem _ List.mem_cons_self)
      obtain ⟨p', vs', e', h1', u', ws', e1', d1', _⟩ := hb2.fz
      cases e.symm.trans e'
      have hh := r7.fh _ _ h1'
      rw [r.fh _ _ h1] at hh
      cases hh
      cases e1'
      exact (r7.new (New.old r7.fh d1')).sb (Sb.both (Sb.both Sb.refl.cons))
    exact (r0.set i).set j
end
/-! ### for -/
def loopK (k : VEnv → Ans SO) : SO → Ans SO
  | .nx e => k e
  | .ct e => k e
  | .bk e => .ok (.nx e)
  | .rt o e => .ok (.rt o e)
def forL (t : TgF) (body : DS) : List FV → VEnv → Ans SO
  | [], env => .ok (.nx env)
  | x :: xs, env => match t x env with
    | some e1 => (body e1).bind (loopK (forL t body xs))
    | none => .no
def dFor (it : VEnv → Ans (List FV)) (t : TgF) (body : DS) : DS := fun env => (it env).bind fun xs => forL t body xs env
theorem RF.kept {M : Str → Option Value} {G Z H F : Hp} {σ : Sl} {env : VEnv} {T kept : List (V × Rv)} {C1 C2 : Cells} (r : RF M G Z H F σ env (kept ++ T) C1 C2) : ∀ p ∈ kept, Bor M F H p.2.ov p.1 := fun p hp => r.bor (List.mem_append_left _ hp)
theorem AllSt.app {A B : List (V × Rv)} (a : AllSt A) (b : AllSt B) : AllSt (A ++ B) := fun p hp => (List.mem_append.mp hp).elim (a p) (b p)
theorem sb_app {A T : List (V × Rv)} : Sb T (A ++ T) := ⟨A, List.perm_append_comm⟩
section
variable {X : Cx} {W : WX} {pos : Pos} {tg iter : Expr} {body : List Stmt} {it : VEnv → Ans (List FV)} {t : TgF} {fb : DS} {vs : List Nat}
theorem js_for (hp : PassesOwn (model X.prog X.w) X.A X.env X.xe) (hc : X.calm = true) (hi : JI X W tg iter it) (hg : JG X tg vs t) (hb : JSs X W body fb) (hs : ∀ x, foldedSetIterable iter X.env x = pure x := by intro _; rfl) :
    JS X W (.For tg iter body [] pos) (dFor it t fb) := by
  refine PS.imp (ps_for hp hc hi hg hb hs) fun D σ H ⟨G, Z, env, T, hT, r, p⟩ => ?_
  refine ⟨G, Z, env, T, r, ?_⟩
  have hp := p
  unfold dFor at hp
  cases ei : it env with
  | no => rw [ei] at hp; exact hp.elim
  | ex c =>
    rw [ei] at hp
    exact fun C H' m s r' => let ⟨_, _, _, r'⟩ := r'; hp C σ H' m r'.zh
  | ok items =>
    rw [ei] at hp
    intro J H1 kept hk s1 r1 wk
    have hp : PostS X.mg W G Z T D (forL t fb items env) := hp
    refine ⟨fun i m σ H => i + m = items.length ∧ ∃ env, R X.mg G Z H σ env (kept ++ T) ∧ PostS X.mg W G Z T D (forL t fb (items.drop i) env), ⟨items.length, by omega, env, r1, by rw [List.drop_zero]; exact hp⟩, ?_⟩
    rintro i m σ H ⟨him, env, ⟨F, C1, C2, r⟩, hpost⟩
    obtain ⟨w1, w2⟩ := wk F H i r.fh r.kept
    by_cases hlt : i < items.length
    · obtain ⟨hgo, hy⟩ := w1 items[i] (List.getElem?_eq_getElem hlt)
      rw [List.drop_eq_getElem_cons hlt] at hpost
      have hpost : PostS X.mg W G Z T D (match t items[i] env with
        | some e1 => (fb e1).bind (loopK (forL t fb (items.drop (i + 1))))
        | none => .no) := hpost
      refine .inr ⟨hgo, fun σ' H' => ∃ env', R X.mg G Z H' σ' env' (kept ++ T) ∧ PostS X.mg W G Z T D (forL t fb (items.drop (i + 1)) env'), fun σ' H' ⟨env', r', p'⟩ => ⟨m - 1, by omega, by omega, env', r', p'⟩, fun v H' yl => ?_⟩
      refine ⟨G, Z, env, kept ++ T, items[i], r.new (hy v H' yl), ?_⟩
      cases et : t items[i] env with
      | none => rw [et] at hpost; exact hpost.elim
      | some e1 =>
        rw [et] at hpost
        intro σ' _ r2
        have hpost : PostS X.mg W G Z T D ((fb e1).bind (loopK (forL t fb (items.drop (i + 1))))) := hpost
        refine ⟨G, Z, e1, kept ++ T, hk.app hT, r2, ?_⟩
        cases eb : fb e1 with
        | no => rw [eb] at hpost; exact hpost.elim
        | ex c => rw [eb] at hpost; exact hpost
        | ok s =>
          rw [eb] at hpost
          cases s with
          | nx e => exact fun σ3 H3 r3 => ⟨e, r3, hpost⟩
          | ct e => exact fun σ3 H3 r3 => ⟨e, r3, hpost⟩
          | bk e => exact fun σ3 H3 r3 => hpost σ3 H3 (r3.sb sb_app)
          | rt o e => exact fun v σ3 H3 r3 => hpost v σ3 H3 (r3.sb sb_app.both)
    · refine .inl ⟨w2 (by omega), ?_⟩
      rw [List.drop_of_length_le (by omega)] at hpost
      exact hpost σ H (r.r.sb sb_app)
end
/-! ### while -/
def whileK (c : DT) (body : DS) (k : VEnv → Ans SO) : DS := fun env => (c env).bind fun b => if b then (body env).bind (loopK k) else .ok (.nx env)
def whileN (c : DT) (body : DS) : Nat → VEnv → Ans SO
  | 0, _ => .no
  | n + 1, env => whileK c body (whileN c body n) env
open Classical in
noncomputable def dWhile (c : DT) (body : DS) : DS := fun env => if h : ∃ n, whileN c body n env ≠ .no then whileN c body (Classical.choose h) env else .no
theorem whileK_mono {c : DT} {body : DS} {k k' : VEnv → Ans SO} (hk : ∀ e, k e ≠ .no → k' e = k e) {env : VEnv} (h : whileK c body k env ≠ .no) : whileK c body k' env = whileK c body k env := by
  unfold whileK at h ⊢
  cases ec : c env with
  | no => rfl
  | ex x => rfl
  | ok b =>
    rw [ec] at h
    cases b with
    | false => rfl
    | true =>
      simp only [Ans.bind, if_true] at h ⊢
      cases eb : body env with
      | no => rfl
      | ex x => rfl
      | ok s =>
        rw [eb] at h
        cases s with
        | nx e => exact hk e h
        | ct e => exact hk e h
        | bk e => rfl
        | rt o e => rfl
theorem whileN_more {c : DT} {body : DS} : ∀ {n m : Nat} {env : VEnv}, n ≤ m → whileN c body n env ≠ .no → whileN c body m env = whileN c body n env
  | 0, _, _, _, h => absurd rfl h
  | n + 1, 0, _, hl, _ => by omega
  | n + 1, m + 1, env, hl, h => whileK_mono (fun e he => whileN_more (by omega) he) h
theorem dWhile_of {c : DT} {body : DS} {n : Nat} {env : VEnv} (h : whileN c body n env ≠ .no) : dWhile c body env = whileN c body n env := by
  have hx : ∃ n, whileN c body n env ≠ .no := ⟨n, h⟩
  unfold dWhile
  rw [dif_pos hx]
  rcases Nat.le_total n (Classical.choose hx) with hl | hl
  · exact whileN_more hl h
  · exact (whileN_more hl (Classical.choose_spec hx)).symm
theorem dWhile_ex {c : DT} {body : DS} {env : VEnv} (h : dWhile c body env ≠ .no) : ∃ n, dWhile c body env = whileN c body n env := by
  unfold dWhile at h ⊢
  by_cases hx : ∃ n, whileN c body n env ≠ .no
  · rw [dif_pos hx]
    exact ⟨_, rfl⟩
  · rw [dif_neg hx] at h
    exact absurd rfl h
/-- one turn -/
theorem dWhile_eq (c : DT) (body : DS) (env : VEnv) : dWhile c body env = whileK c body (dWhile c body) env := by
  by_cases h : whileK c body (dWhile c body) env = .no
  · by_cases h2 : dWhile c body env = .no
    · rw [h, h2]
    · obtain ⟨n, hn⟩ := dWhile_ex h2
      cases n with
      | zero => exact absurd hn h2
      | succ n =>
        rw [hn] at h2
        rw [hn]
        exact (whileK_mono (k := whileN c body n) (k' := dWhile c body) (fun e he => dWhile_of he) h2).symm
  · have hn : ∃ n, whileK c body (whileN c body n) env = whileK c body (dWhile c body) env := by
      unfold whileK at h ⊢
      cases ec : c env with
      | no => exact ⟨0, rfl⟩
      | ex x => exact ⟨0, rfl⟩
      | ok b =>
        rw [ec] at h
        cases b with
        | false => exact ⟨0, rfl⟩
        | true =>
          simp only [Ans.bind, if_true] at h ⊢
          cases eb : body env with
          | no => exact ⟨0, rfl⟩
          | ex x => exact ⟨0, rfl⟩
          | ok s =>
            rw [eb] at h
            cases s with
            | nx e =>
              obtain ⟨n, hn⟩ := dWhile_ex (show dWhile c body e ≠ .no from h)
              exact ⟨n, hn.symm⟩
            | ct e =>
              obtain ⟨n, hn⟩ := dWhile_ex (show dWhile c body e ≠ .no from h)
              exact ⟨n, hn.symm⟩
            | bk e => exact ⟨0, rfl⟩
            | rt o e => exact ⟨0, rfl⟩
    obtain ⟨n, hn⟩ := hn
    rw [← hn]
    exact dWhile_of (n := n + 1) (by rw [← hn] at h; exact h)
section
variable {X : Cx} {W : WX} {pos : Pos} {c : Expr} {body : List Stmt} {fc : DT} {fb : DS}
theorem js_while (hp : PassesOwn (model X.prog X.w) X.A X.env X.xe) (hc : JT X W c fc) (hb : JSs X W body fb) : JS X W (.While c body [] pos) (dWhile fc fb) := by
  refine PS.imp (ps_while hp hc hb) fun D σ H ⟨G, Z, env, T, hT, r, p⟩ => ?_
  have hx : dWhile fc fb env ≠ .no := fun e => by rw [e] at p; exact p
  obtain ⟨n, hn⟩ := dWhile_ex hx
  rw [hn] at p
  refine ⟨fun m σ H => ∃ env, R X.mg G Z H σ env T ∧ PostS X.mg W G Z T D (whileN fc fb m env), ⟨n, env, r, p⟩, ?_⟩
  rintro m σ H ⟨env, r, p⟩
  cases m with
  | zero => exact p.elim
  | succ m =>
    have p : PostS X.mg W G Z T D ((fc env).bind fun b => if b then (fb env).bind (loopK (whileN fc fb m)) else .ok (.nx env)) := p
    refine tT.bindS r p fun b H1 _ s1 r1 p1 => ?_
    cases b with
    | false =>
      rw [if_neg Bool.false_ne_true] at p1 ⊢
      exact p1 σ H1 r1
    | true =>
      rw [if_pos rfl] at p1 ⊢
      refine ⟨fun σ' H' => ∃ env', R X.mg G Z H' σ' env' T ∧ PostS X.mg W G Z T D (whileN fc fb m env'), fun σ' H' q => ⟨m, by omega, q⟩, G, Z, env, T, hT, r1, ?_⟩
      cases eb : fb env with
      | no => rw [eb] at p1; exact p1.elim
      | ex x => rw [eb] at p1; exact p1
      | ok s =>
        rw [eb] at p1
        cases s with
        | nx e => exact fun σ3 H3 r3 => ⟨e, r3, p1⟩
        | ct e => exact fun σ3 H3 r3 => ⟨e, r3, p1⟩
        | bk e => exact fun σ3 H3 r3 => p1 σ3 H3 r3
        | rt o e => exact fun v σ3 H3 r3 => p1 v σ3 H3 r3
end
end J
namespace J
open PySem PySem.Spec PyProof.Rows L2 RZ
/-! ### what a comprehension walks: all is looked at as frozen -/
def kfz (p : V × Rv) : V × Rv := (p.1, .st (.fz p.2.fv))
def allFzE (env : VEnv) : Bool := env.all fun o => match o with
  | some (.fz _) => true
  | none => true
  | _ => false
/-- held, or looked at where some slot is one's own -/
def sbR (env : VEnv) : Rv → Bool
  | .st _ => true
  | .bo _ => !allFzE env
def PostC (M : Str → Option Value) (W : WX) (G Z : Hp) (σ : Sl) (env : VEnv) (T : List (V × Rv)) (Q : It → Hp → Prop) (H : Hp) : Ans (List FV) → Prop
  | .ok items => ∀ J H' kept, Same H H' → R M G Z H' σ env (kept ++ T) → WalkJ M J (kept.map kfz) items → (∀ p ∈ kept, sbR env p.2 = true) → Q J H'
  | .ex c => ∀ C H', M c = some (.ref C) → Same H H' → R M G Z H' σ env T → W (.ref C) none σ H'
  | .no => False
def tIC (M : Str → Option Value) (W : WX) (f : VEnv → Ans (List FV)) : TI := fun σ H Q => ∃ G Z env T, R M G Z H σ env T ∧ PostC M W G Z σ env T Q H (f env)
abbrev JC (X : Cx) (W : WX) (tg e : Expr) (f : VEnv → Ans (List FV)) : Prop := PI X tg e (tIC X.mg W f)
section
variable {M : Str → Option Value} {G Z H F : Hp} {σ : Sl} {env : VEnv} {T T2 : List (V × Rv)} {W : WX} {C1 C2 : Cells}
theorem PostC.later {x : Ans (List FV)} {Q : It → Hp → Prop} {H1 : Hp} (p : PostC M W G Z σ env T Q H x) (h : Same H H1) : PostC M W G Z σ env T Q H1 x := by
  cases x with
  | ok r => exact fun J H' kp s r w k => p J H' kp (h.trans s) r w k
  | ex c => exact fun C H' m s r => p C H' m (h.trans s) r
  | no => exact p
theorem tE.bindC {f : DE} {k : Rv → Ans (List FV)} {Q1 : VK} {Q : It → Hp → Prop} (r : R M G Z H σ env T2) (hs : Sb T T2) (p : PostC M W G Z σ env T Q H ((f env).bind k))
    (h : ∀ rv v H1, f env = .ok rv → Same H H1 → R M G Z H1 σ env ((v, rv) :: T2) → PostC M W G Z σ env T Q H1 (k rv) → Q1 v H1) : tE M W f σ H Q1 := by
  refine tE.then r hs (fun rv v H1 e s r => h rv v H1 e s r ?_) (fun c C H1 e m s r => ?_) fun e => ?_
  · rw [e] at p; exact p.later s
  · rw [e] at p; exact p C H1 m s r
  · rw [e] at p; exact p
end
def FV.items? : FV → Option (List FV)
  | .lst xs => some xs
  | .tup xs => some xs
  | .tuz xs => some xs
  | .str z => some (z.cps.toList.map fun c => .str ⟨#[c]⟩)
  | _ => none
def cItems (f : DE) : VEnv → Ans (List FV) := fun env => (f env).bind fun r => if sbR env r then Ans.of r.fv.items? else .no
def cZip (f g : DE) : VEnv → Ans (List FV) := fun env => (f env).bind fun r => (g env).bind fun q => if sbR env r && sbR env q then match r.fv.lst?, q.fv.lst? with
  | some xs, some ys => .ok (zipF xs ys)
  | _, _ => match r.fv.tup?, q.fv.tup? with
    | some xs, some ys => .ok (zipF xs ys)
    | _, _ => match r.fv.lst?, q.fv.tup? with
      | some xs, some ys => .ok (zipF xs ys)
      | _, _ => .no
  else .no
def cEnum (f : DE) : VEnv → Ans (List FV) := fun env => (f env).bind fun r => if sbR env r then (match r.fv.lst? with
    | some xs => .ok (enumF xs)
    | _ => .no) else .no
theorem FV.lst?_fz {x : FV} {xs : List FV} (e : x.lst? = some xs) : OV.lst? (.fz x) = some xs := by
  unfold FV.lst? at e
  split at e
  · cases e; rfl
  · cases e
section
variable {X : Cx} {W : WX} {pos p : Pos} {tg e e2 : Expr} {f g : DE}
theorem FDen.lstL {M : Str → Option Value} {F : Hp} {x : FV} {v : V} {xs : List FV} (d : FDen M F x v) (e : x.lst? = some xs) : ∃ a vs, v = .ref a ∧ F a = some (.lst vs) ∧ FDenL M F xs vs := by
  unfold FV.lst? at e
  split at e
  · cases e; exact d
  · cases e
theorem jc_items (he : JE X W e f) : JC X W tg e (cItems f) := by
  refine PI.imp (PI.or (pi_list he) (PI.or (pi_tup he) (pi_str he))) fun σ H Q ⟨G, Z, env, T, r, q⟩ => ?_
  have qq := q
  unfold cItems at qq
  cases ef : f env with
  | ex c =>
    refine .inl (tE.bindC r Sb.refl q fun x u H1 e1 s1 r1 p1 => ?_)
    rw [ef] at e1; cases e1
  | no => rw [ef] at qq; exact qq.elim
  | ok rv =>
    rw [ef] at qq
    simp only [Ans.bind] at qq
    by_cases hsb : sbR env rv = true
    rotate_left
    · rw [if_neg hsb] at qq; exact qq.elim
    rw [if_pos hsb] at qq
    have one : ∀ u : V, ∀ p ∈ [(u, rv)], sbR env p.2 = true := fun u p hp => by rw [List.mem_singleton.mp hp]; exact hsb
    cases ei : rv.fv.items? with
    | none => rw [ei] at qq; exact qq.elim
    | some items =>
      have ei' := ei
      unfold FV.items? at ei'
      split at ei'
      · rename_i xs ex
        cases ei'
        refine .inl (tE.bindC r Sb.refl q fun x u H1 e1 s1 r1 p1 => ?_)
        rw [ef] at e1; cases e1
        rw [if_pos hsb, ei] at p1
        obtain ⟨F, C1, C2, r1⟩ := r1
        have d : FDen X.mg H1 rv.fv u := (r1.bor (List.mem_cons_self (a := (u, rv)))).fden r1.fh
        rw [ex] at d
        obtain ⟨a, vs, rfl, h1, d⟩ := d
        refine ⟨a, rfl, ⟨vs, SqL.of h1⟩, p1 _ _ [(V.ref a, rv)] (Same.refl _) r1.r ?_ (one _)⟩
        show WalkJ X.mg _ [(V.ref a, .st (.fz rv.fv))] _
        rw [ex]
        exact walk_list rfl
      · rename_i xs ex
        cases ei'
        refine .inr (.inl (tE.bindC r Sb.refl q fun x u H1 e1 s1 r1 p1 => ?_))
        rw [ef] at e1; cases e1
        rw [if_pos hsb, ei] at p1
        obtain ⟨F, C1, C2, r1⟩ := r1
        have d : FDen X.mg H1 rv.fv u := (r1.bor (List.mem_cons_self (a := (u, rv)))).fden r1.fh
        rw [ex] at d
        obtain ⟨a, vs, rfl, h1, _⟩ := FDen.tupT (K := X.K) d rfl
        refine ⟨a, rfl, ⟨vs, h1⟩, p1 _ _ [(V.ref a, rv)] (Same.refl _) r1.r ?_ (one _)⟩
        show WalkJ X.mg _ [(V.ref a, .st (.fz rv.fv))] _
        rw [ex]
        exact walk_tup rfl
      · rename_i xs ex
        cases ei'
        refine .inr (.inl (tE.bindC r Sb.refl q fun x u H1 e1 s1 r1 p1 => ?_))
        rw [ef] at e1; cases e1
        rw [if_pos hsb, ei] at p1
        obtain ⟨F, C1, C2, r1⟩ := r1
        have d : FDen X.mg H1 rv.fv u := (r1.bor (List.mem_cons_self (a := (u, rv)))).fden r1.fh
        rw [ex] at d
        obtain ⟨a, vs, rfl, h1, _⟩ := FDen.tupT (K := X.K) d rfl
        refine ⟨a, rfl, ⟨vs, h1⟩, p1 _ _ [(V.ref a, rv)] (Same.refl _) r1.r ?_ (one _)⟩
        show WalkJ X.mg _ [(V.ref a, .st (.fz rv.fv))] _
        rw [ex]
        exact walk_tup rfl
      · rename_i z ex
        cases ei'
        refine .inr (.inr (tE.bindC r Sb.refl q fun x u H1 e1 s1 r1 p1 => ?_))
        rw [ef] at e1; cases e1
        rw [if_pos hsb, ei] at p1
        obtain ⟨F, C1, C2, r1⟩ := r1
        have d : FDen X.mg H1 rv.fv u := (r1.bor (List.mem_cons_self (a := (u, rv)))).fden r1.fh
        rw [ex] at d
        exact ⟨_, d, p1 _ _ [] (Same.refl _) r1.r.pop walk_str (fun _ h => nomatch h)⟩
      · cases ei'
theorem jc_range (he : JE X W e f) (hm : X.mg "range" = none) (hg : Gl X "range" := by rfl) (hs : starEach [e] X.env = [(false, eval e X.env)] := by rfl) (hs2 : starEach [e] X.env = (false, eval e X.env) :: starEach [] X.env := by rfl) : JC X W tg (.Call (.Name "range" p) [e] [] pos) (dRange f) := by
  refine PI.imp (pi_range1 hg hm (pa_cons he pa_nil hs2) hs) fun σ H Q ⟨G, Z, env, T, r, q⟩ => ?_
  refine tE.bindC r Sb.refl q fun x u H1 e1 s1 ⟨F, C1, C2, r1⟩ p1 => ?_
  split at p1
  · rename_i n en
    split at p1
    · rename_i hn
      have hb : Bor X.mg F H1 x.ov u := r1.bor List.mem_cons_self
      rw [en] at hb
      exact ⟨n, by rw [hb.int], by omega, by omega, p1 _ _ [] (Same.refl _) r1.r.pop walk_range (fun _ h => nomatch h)⟩
    · exact p1.elim
  · exact p1.elim
theorem jc_zip {tp : Pos} {elts : List Expr} {kk : Nat} (he : JE X W e f) (he2 : JE X W e2 g) (hm : X.mg "zip" = none) (hg : Gl X "zip" := by rfl)
    (hs : starEach [e, e2] X.env = (false, eval e X.env) :: starEach [e2] X.env := by rfl) (hs2 : starEach [e2] X.env = (false, eval e2 X.env) :: starEach [] X.env := by rfl) (hpl : (backTo pos (starEach [e2] X.env)).any (·.1) = false := by rfl) :
    JC X W (.Tuple elts kk tp) (.Call (.Name "zip" p) [e, e2] [] pos) (cZip f g) := by
  refine PI.imp (PI.or (pi_zipA hg hm (pa_cons he (pa_cons he2 pa_nil hs2) hs) hs hpl) (pi_zipM hg hm (pa_cons he (pa_cons he2 pa_nil hs2) hs) hs hpl)) fun σ H Q ⟨G, Z, env, T, r, q⟩ => ?_
  by_cases hM : ∃ x y xs ys, f env = .ok x ∧ g env = .ok y ∧ x.fv.lst? = some xs ∧ y.fv.tup? = some ys
  · obtain ⟨x0, y0, xs, ys, hx0, hy0, lx, ty⟩ := hM
    right
    refine tE.bindC r Sb.refl q fun x u H1 e1 s1 r1 p1 => ?_
    refine tE.bindC r1 Sb.refl.cons p1 fun y w H2 e3 s2 ⟨F, C1, C2, r2⟩ p2 => ?_
    rw [hx0] at e1
    cases e1
    rw [hy0] at e3
    cases e3
    have dx : FDen X.mg H2 x0.fv u := (r2.bor (List.mem_cons_of_mem _ (List.mem_cons_self (a := (u, x0))))).fden r2.fh
    have dy : FDen X.mg H2 y0.fv w := (r2.bor (List.mem_cons_self (a := (w, y0)))).fden r2.fh
    by_cases hsb : (sbR env x0 && sbR env y0) = true
    rotate_left
    · rw [if_neg hsb] at p2; exact p2.elim
    rw [if_pos hsb] at p2
    rw [Bool.and_eq_true] at hsb
    have two : ∀ p ∈ [(w, y0), (u, x0)], sbR env p.2 = true := fun p hp => by
      rcases List.mem_cons.mp hp with rfl | hp
      · exact hsb.2
      · rw [List.mem_singleton.mp hp]; exact hsb.1
    have n1 : y0.fv.lst? = none := by
      cases h : y0.fv <;> rw [h] at ty <;> first | rfl | cases ty
    have n2 : x0.fv.tup? = none := by
      cases h : x0.fv <;> rw [h] at lx <;> first | rfl | cases lx
    simp only [lx, n1, n2, ty] at p2
    obtain ⟨a, vs, rfl, h1, d⟩ := dx.lstL lx
    obtain ⟨b, ws, rfl, h2, d2⟩ := FDen.tupT (K := X.K) dy ty
    exact ⟨a, b, vs, ws, rfl, SqL.of h1, h2, p2 _ _ [(.ref b, y0), (.ref a, x0)] (Same.refl _) r2.r (walk_zipM (FV.lst?_fz lx) ty) two⟩
  left
  refine tE.bindC r Sb.refl q fun x u H1 e1 s1 r1 p1 => ?_
  refine tE.bindC r1 Sb.refl.cons p1 fun y w H2 e3 s2 ⟨F, C1, C2, r2⟩ p2 => ?_
  have dx : FDen X.mg H2 x.fv u := (r2.bor (List.mem_cons_of_mem _ (List.mem_cons_self (a := (u, x))))).fden r2.fh
  have dy : FDen X.mg H2 y.fv w := (r2.bor (List.mem_cons_self (a := (w, y)))).fden r2.fh
  by_cases hsb : (sbR env x && sbR env y) = true
  rotate_left
  · rw [if_neg hsb] at p2; exact p2.elim
  rw [if_pos hsb] at p2
  rw [Bool.and_eq_true] at hsb
  have two : ∀ p ∈ [(w, y), (u, x)], sbR env p.2 = true := fun p hp => by
    rcases List.mem_cons.mp hp with rfl | hp
    · exact hsb.2
    · rw [List.mem_singleton.mp hp]; exact hsb.1
  split at p2
  · rename_i xs ys ex ey
    obtain ⟨a, vs, rfl, h1, d⟩ := dx.lstL ex
    obtain ⟨b, ws, rfl, h2, d2⟩ := dy.lstL ey
    exact ⟨a, b, vs, ws, rfl, .inl ⟨SqL.of h1, SqL.of h2, p2 _ _ [(.ref b, y), (.ref a, x)] (Same.refl _) r2.r (walk_zip (FV.lst?_fz ex) (FV.lst?_fz ey)) two⟩⟩
  · split at p2
    · rename_i xs ys ex ey
      obtain ⟨a, vs, rfl, h1, d⟩ := FDen.tupT (K := X.K) dx ex
      obtain ⟨b, ws, rfl, h2, d2⟩ := FDen.tupT (K := X.K) dy ey
      exact ⟨a, b, vs, ws, rfl, .inr ⟨h1, h2, p2 _ _ [(.ref b, y), (.ref a, x)] (Same.refl _) r2.r (walk_zipT ex ey) two⟩⟩
    · split at p2
      · rename_i xs ys ex ey
        exact absurd ⟨x, y, xs, ys, e1, e3, ex, ey⟩ hM
      · exact p2.elim
theorem jc_enum {tp : Pos} {elts : List Expr} {kk : Nat} (he : JE X W e f) (hm : X.mg "enumerate" = none) (hg : Gl X "enumerate" := by rfl) (hs : starEach [e] X.env = [(false, eval e X.env)] := by rfl) (hs2 : starEach [e] X.env = (false, eval e X.env) :: starEach [] X.env := by rfl) :
    JC X W (.Tuple elts kk tp) (.Call (.Name "enumerate" p) [e] [] pos) (cEnum f) := by
  refine PI.imp (pi_enum hg hm (pa_cons he pa_nil hs2) hs) fun σ H Q ⟨G, Z, env, T, r, q⟩ => ?_
  refine tE.bindC r Sb.refl q fun x u H1 e1 s1 ⟨F, C1, C2, r1⟩ p1 => ?_
  have dx : FDen X.mg H1 x.fv u := (r1.bor (List.mem_cons_self (a := (u, x)))).fden r1.fh
  by_cases hsb : sbR env x = true
  rotate_left
  · rw [if_neg hsb] at p1; exact p1.elim
  rw [if_pos hsb] at p1
  split at p1
  · rename_i xs ex
    obtain ⟨a, vs, rfl, h1, d⟩ := dx.lstL ex
    exact ⟨a, vs, rfl, SqL.of h1, p1 _ _ [(.ref a, x)] (Same.refl _) r1.r (walk_enum (FV.lst?_fz ex)) (fun p hp => by rw [List.mem_singleton.mp hp]; exact hsb)⟩
  · exact p1.elim
end
/-! ### list comprehensions -/
def wipeE (env : VEnv) : List Nat → VEnv
  | [] => env
  | v :: vs => (wipeE env vs).set v none
def frzE (env : VEnv) : VEnv := env.map fun o => o.map fun o => .fz o.fv
def Ans.nox {α : Type} : Ans α → Ans α
  | .ok a => .ok a
  | _ => .no
def dTrue : DT := fun _ => .ok true
def lcF (t : TgF) (c : DT) (e : DE) (env : VEnv) : List FV → Ans (List FV)
  | [] => .ok []
  | x :: xs => match t x env with
    | some e1 => (c e1).nox.bind fun b => if b then (e e1).nox.bind fun r => match r.fz? with
        | some y => (lcF t c e env xs).bind fun ys => .ok (y :: ys)
        | none => .no
      else lcF t c e env xs
    | none => .no
def lcD (t : TgF) (c : DT) (e : DE) (env : VEnv) : List FV → Ans (List OV)
  | [] => .ok []
  | x :: xs => match t x env with
    | some e1 => (c e1).nox.bind fun b => if b then (e e1).nox.bind fun r => match r.st? with
        | some y => (lcD t c e env xs).bind fun ys => .ok (y :: ys)
        | none => .no
      else lcD t c e env xs
    | none => .no
def dLc (it : VEnv → Ans (List FV)) (t : TgF) (c : DT) (e : DE) (vs : List Nat) : DE := fun env => (it env).bind fun items => (lcF t c e (frzE (wipeE env vs)) items).bind fun ys =>
  if decide (ys.length ≤ BIG) && (allFzE env || FV.pureL ys) then .ok (.st (.ol ys)) else .no
def dLcD (it : VEnv → Ans (List FV)) (t : TgF) (c : DT) (e : DE) (vs : List Nat) : DE := fun env => (it env).bind fun items => (lcD t c e (frzE (wipeE env vs)) items).bind fun ys =>
  if decide (ys.length ≤ BIG) && (allFzE env || OV.cleanL ys) then .ok (.st (.dl ys)) else .no
theorem fz_ol {M : Str → Option Value} {F : Hp} : ∀ {xs : List FV} {vs : List V} {L : Cells}, OwnL M F (xs.map .fz) vs L → FDenL M F xs vs ∧ L = []
  | [], _, _, h => h
  | x :: xs, _, _, ⟨v, ws, A, B, e, d, r, q⟩ => by
    obtain ⟨h1, h2⟩ := fz_ol r
    rw [q, d.2, h2]
    exact ⟨⟨v, ws, e, d.1, h1⟩, rfl⟩
theorem own_dl_ol {M : Str → Option Value} {F : Hp} {xs : List FV} {v : V} {L : Cells} (h : Own M F (.dl (xs.map .fz)) v L) : Own M F (.ol xs) v L := by
  obtain ⟨a, vs, L', e, r, q⟩ := h
  obtain ⟨h1, h2⟩ := fz_ol r
  rw [q, h2]
  exact ⟨a, vs, e, h1, rfl⟩
theorem own_ol_dl {M : Str → Option Value} {F : Hp} {xs : List FV} {v : V} {L : Cells} (h : Own M F (.ol xs) v L) : Own M F (.dl (xs.map .fz)) v L := by
  obtain ⟨a, vs, e, r, q⟩ := h
  have key : ∀ {xs : List FV} {vs : List V}, FDenL M F xs vs → OwnL M F (xs.map .fz) vs [] := by
    intro xs
    induction xs with
    | nil => intro vs h; exact ⟨h, rfl⟩
    | cons x xs ih => intro vs ⟨v, ws, e, d, r⟩; exact ⟨v, ws, [], [], e, ⟨d, rfl⟩, ih r, rfl⟩
  exact ⟨a, vs, [], e, key r, q⟩
theorem lcF_D {t : TgF} {c : DT} {e : DE} {env : VEnv} : ∀ {items ys : List FV}, lcF t c e env items = .ok ys → lcD t c e env items = .ok (ys.map .fz)
  | [], ys, h => by cases h; rfl
  | x :: xs, ys, h => by
    unfold lcF at h
    unfold lcD
    cases et : t x env with
    | none => rw [et] at h; cases h
    | some e1 =>
      rw [et] at h
      simp only at h ⊢
      cases ec : (c e1).nox with
      | no => rw [ec] at h; cases h
      | ex z => rw [ec] at h; cases h
      | ok b =>
        rw [ec] at h
        cases b with
        | false =>
          simp only [Ans.bind, Bool.false_eq_true, if_false] at h ⊢
          exact lcF_D h
        | true =>
          simp only [Ans.bind, if_true] at h ⊢
          cases ee : (e e1).nox with
          | no => rw [ee] at h; cases h
          | ex z => rw [ee] at h; cases h
          | ok r =>
            rw [ee] at h
            simp only at h ⊢
            cases ef : r.fz? with
            | none => rw [ef] at h; cases h
            | some y =>
              rw [ef] at h
              have hs : r.st? = some (.fz y) := by
                unfold Rv.fz? at ef
                split at ef
                · cases ef; rfl
                · cases ef
              rw [hs]
              simp only at h ⊢
              cases el : lcF t c e env xs with
              | no => rw [el] at h; cases h
              | ex z => rw [el] at h; cases h
              | ok zs =>
                rw [el] at h
                cases h
                rw [lcF_D el]
                rfl
/-- what a target leaves -/
def TgOk (vs : List Nat) (t : TgF) : Prop := ∀ x env e, t x env = some e → e.length = env.length ∧ ∀ j, j ∉ vs → e[j]? = env[j]?
theorem tg_name {i : Nat} : TgOk [i] (tName i) := fun x env e h => by
  cases h
  exact ⟨by simp, fun j hj => List.getElem?_set_ne fun z => hj (by simp [z])⟩
theorem tg_tup2 {i j : Nat} : TgOk [i, j] (tTup2 i j) := fun x env e h => by
  obtain ⟨a, b, _, e2⟩ := tTup2_some h
  subst e2
  refine ⟨by simp, fun k hk => ?_⟩
  rw [List.getElem?_set_ne fun z => hk (by simp [z]), List.getElem?_set_ne fun z => hk (by simp [z])]
theorem wipeE_length (env : VEnv) : ∀ vs, (wipeE env vs).length = env.length
  | [] => rfl
  | v :: vs => by unfold wipeE; rw [List.length_set, wipeE_length env vs]
theorem wipeE_get {env : VEnv} {j : Nat} : ∀ {vs : List Nat}, (wipeE env vs)[j]? = if j ∈ vs ∧ j < env.length then some none else env[j]?
  | [] => by simp [wipeE]
  | v :: vs => by
    unfold wipeE
    by_cases h : v = j
    · subst h
      by_cases hl : v < env.length
      · rw [List.getElem?_set_self (by rw [wipeE_length]; exact hl), if_pos ⟨List.mem_cons_self, hl⟩]
      · rw [if_neg (fun z => hl z.2), List.getElem?_eq_none (by rw [List.length_set, wipeE_length]; omega), List.getElem?_eq_none (by omega)]
    · rw [List.getElem?_set_ne h, wipeE_get]
      by_cases h2 : j ∈ vs
      · simp [h2, h]
      · simp [h2, Ne.symm h]
theorem frz_wipe (env : VEnv) : ∀ vs, frzE (wipeE env vs) = wipeE (frzE env) vs
  | [] => rfl
  | v :: vs => by
    unfold wipeE
    unfold frzE
    rw [List.map_set]
    have := frz_wipe env vs
    unfold frzE at this
    rw [this]
    rfl
theorem wipeE_of {env e : VEnv} {vs : List Nat} (hl : e.length = env.length) (h : ∀ j, j ∉ vs → e[j]? = env[j]?) : wipeE e vs = wipeE env vs := by
  apply List.ext_getElem?
  intro j
  rw [wipeE_get, wipeE_get, hl]
  by_cases hv : j ∈ vs
  · by_cases h2 : j < env.length
    · simp [hv, h2]
    · rw [if_neg (fun z => h2 z.2), if_neg (fun z => h2 z.2), List.getElem?_eq_none (by rw [hl]; omega), List.getElem?_eq_none (by omega)]
  · rw [if_neg (fun z => hv z.1), if_neg (fun z => hv z.1), h j hv]
theorem wipeE_idem (env : VEnv) (vs : List Nat) : wipeE (wipeE env vs) vs = wipeE env vs := wipeE_of (wipeE_length _ _) fun j hj => by rw [wipeE_get, if_neg (fun z => hj z.1)]
theorem wipe_idem (σ : Sl) (vs : List Nat) : wipe (wipe σ vs) vs = wipe σ vs := (Only.wipe ⟨wipe_length _ _, fun j hj => by rw [wipe_get, if_neg (fun z => hj z.1)]⟩)
section
variable {M : Str → Option Value} {G Z H F : Hp} {σ : Sl} {env : VEnv} {T T2 : List (V × Rv)} {C1 C2 : Cells}
theorem R.wipeD (r : R M G Z H σ env T) : ∀ vs, R M G Z H (wipe σ vs) (wipeE env vs) T
  | [] => r
  | v :: vs => (R.wipeD r vs).unset v none
theorem EnvOwn.fz {L : Cells} (h : Same F H) (e : EnvOwn M F σ env L) : (∀ p ∈ L, H p.1 = some p.2) → EnvOwn M (mutG F H) σ (frzE env) [] := by
  induction e with
  | nil => intro _; exact .nil
  | skip _ ih => intro c; exact .skip (ih c)
  | cons d _ ih => intro c; exact .cons (A := []) (B := []) ⟨d.mut h fun p hp => c p (List.mem_append_left _ hp), rfl⟩ (ih fun p hp => c p (List.mem_append_right _ hp))
theorem EnvOwn.allFz {L : Cells} (e : EnvOwn M F σ env L) : allFzE env = true → EnvOwn M F σ (frzE env) [] := by
  induction e with
  | nil => intro _; exact .nil
  | skip _ ih => intro h; exact .skip (ih (by simpa [allFzE] using h))
  | @cons v o σ env A B d _ ih =>
    intro h
    have h1 : (match some o with | some (.fz _) => true | none => true | _ => false) = true ∧ allFzE env = true := by
      unfold allFzE at h ⊢
      rw [List.all_cons, Bool.and_eq_true] at h
      exact h
    have h0 := h1.1
    cases o with
    | fz x => exact .cons (A := []) (B := []) ⟨d.1, rfl⟩ (ih h1.2)
    | ol x => cases h0
    | oK x => cases h0
    | oT x => cases h0
    | dl x => cases h0
    | dd x => cases h0
    | tp x => cases h0
    | ob c x => cases h0
    | oN x => cases h0
theorem EnvOwn.wipe {L : Cells} (e : EnvOwn M F σ env L) : ∀ vs, ∃ L', EnvOwn M F (wipe σ vs) (wipeE env vs) L' ∧ ∀ p ∈ L', p ∈ L
  | [] => ⟨L, e, fun _ h => h⟩
  | v :: vs => by
    obtain ⟨L', e', h⟩ := EnvOwn.wipe e vs
    obtain ⟨L2, D, h1, h2⟩ := e'.unset v none
    exact ⟨L2, h1, fun p hp => h p (h2.mem_iff.mpr (List.mem_append_left _ hp))⟩
/-- the block of a comprehension starts: all is frozen -/
theorem RF.block (r : RF M G Z H F σ env T C1 C2) (vs : List Nat) : R M (mutG F H) H H (wipe σ vs) (frzE (wipeE env vs)) [] := by
  have e := r.ev.fz r.fh fun p hp => r.gd.hp p (List.mem_append_left _ hp)
  obtain ⟨L', e', h⟩ := e.wipe vs
  have hL : L' = [] := List.eq_nil_iff_forall_not_mem.mpr fun p hp => nomatch h p hp
  subst hL
  rw [frz_wipe]
  exact ⟨mutG F H, [], [], Same.refl _, fun a o e => .inl e, mutG_H r.fh, Same.refl _, e', .nil, Good.nil⟩
theorem RF.blockF (r : RF M G Z H F σ env T C1 C2) (vs : List Nat) (h : allFzE env = true) : R M F H H (wipe σ vs) (frzE (wipeE env vs)) [] := by
  have e := r.ev.allFz h
  obtain ⟨L', e', h⟩ := e.wipe vs
  have hL : L' = [] := List.eq_nil_iff_forall_not_mem.mpr fun p hp => nomatch h p hp
  subst hL
  rw [frz_wipe]
  exact ⟨F, [], [], Same.refl _, fun a o e => .inl e, r.fh, Same.refl _, e', .nil, Good.nil⟩
theorem TmpOwn.split {H : Hp} : ∀ {kept T : List (V × Rv)} {L : Cells}, TmpOwn M F H (kept ++ T) L → (∀ p ∈ kept, ∃ o, p.2 = .st o) → ∃ A B, L = A ++ B ∧ TmpOwn M F H T B ∧ ∀ p ∈ kept, ∃ Lp, Own M F p.2.ov p.1 Lp ∧ ∀ q ∈ Lp, q ∈ A
  | [], T, L, t, _ => ⟨[], L, rfl, t, fun _ h => nomatch h⟩
  | (v, r) :: kept, T, L, t, h => by
    obtain ⟨o, ho⟩ := h _ List.mem_cons_self
    simp only at ho
    subst ho
    cases t with
    | @st _ _ _ A1 B1 d t =>
      obtain ⟨A, B, e, t2, k⟩ := TmpOwn.split t fun p hp => h p (List.mem_cons_of_mem _ hp)
      subst e
      refine ⟨A1 ++ A, B, by rw [List.append_assoc], t2, fun p hp => ?_⟩
      rcases List.mem_cons.mp hp with rfl | hp
      · exact ⟨A1, d, fun q hq => List.mem_append_left _ hq⟩
      · obtain ⟨Lp, q1, q2⟩ := k p hp
        exact ⟨Lp, q1, fun q hq => List.mem_append_right _ (q2 q hq)⟩
theorem RF.iceK {kept : List (V × Rv)} (r : RF M G Z H F σ env (kept ++ T) C1 C2) (h : ∀ p ∈ kept, ∃ o, p.2 = .st o) :
    ∃ F2 C3 C4, RF M G Z H F2 σ env T C3 C4 ∧ ∀ p ∈ kept, FDen M F2 p.2.fv p.1 := by
  obtain ⟨A, B, e, t, k⟩ := r.tm.split h
  subst e
  obtain ⟨i1, i2, i3, i4, i5, i6⟩ := r.ice (A := A) (Lr := C1 ++ B) (by
    rw [← List.append_assoc, ← List.append_assoc]
    exact List.perm_append_comm.append_right _)
  refine ⟨updL F A, C1, B, ⟨i1, i2, i4, r.zh, r.ev.mono i3, t.mono i3 (Same.refl _), i5⟩, fun p hp => ?_⟩
  obtain ⟨Lp, d, c⟩ := k p hp
  exact d.fden i3 fun q hq => i6 q (c q hq)
/-- its list grows -/
theorem R.grow {D : Addr} {os : List OV} {o : OV} {y : V} (r : R M G Z H σ env [(y, .st o), (.ref D, .st (.dl os))]) : ∃ acc, H D = some (.lst acc) ∧ acc.length = os.length ∧ R M G Z (upd H D (.lst (acc ++ [y]))) σ env [(.ref D, .st (.dl (os ++ [o])))] := by
  obtain ⟨F, C1, C2, r⟩ := r
  obtain ⟨A, B, e1, dy, t⟩ := r.tm.freeze
  obtain ⟨A2, B2, e2, dD, t2⟩ := t.freeze
  cases t2
  rw [List.append_nil] at e2
  subst e2
  subst e1
  obtain ⟨a, vs, L', ea, ow, q⟩ := dD
  cases ea
  subst q
  have gd := r.gd
  have hD : H D = some (.lst vs) := gd.hp (D, .lst vs) (by simp)
  have fD : F D = none := gd.fr (D, .lst vs) (by simp)
  have zD : Z D = none := gd.zr (D, .lst vs) (by simp)
  have ne : ∀ p ∈ C1 ++ (A ++ L'), p.1 ≠ D := by
    have g2 := gd.perm (L' := (C1 ++ (A ++ L')) ++ [(D, .lst vs)]) (by
      rw [List.append_assoc, List.append_assoc]
      refine List.Perm.append_left C1 (List.Perm.append_left A ?_)
      exact (List.perm_append_comm (l₁ := [(D, HO.lst vs)]) (l₂ := L')))
    exact fun p hp e => g2.apart p hp (D, .lst vs) (by simp) e
  refine ⟨vs, hD, ow.length, F, C1, (D, .lst (vs ++ [y])) :: (L' ++ A), r.gf, r.fg, fun b u e => ?_, fun b u e => ?_, r.ev, ?_, ?_⟩
  · rw [upd_ne (fun z => by rw [z, fD] at e; cases e)]
    exact r.fh _ _ e
  · rw [upd_ne (fun z => by rw [z, zD] at e; cases e)]
    exact r.zh _ _ e
  · have key : ∀ {os : List OV} {vs : List V} {L : Cells}, OwnL M F os vs L → OwnL M F (os ++ [o]) (vs ++ [y]) (L ++ A) := by
      intro os
      induction os with
      | nil => intro vs L h; rw [h.1, h.2]; exact ⟨y, [], A, [], rfl, dy, ⟨rfl, rfl⟩, by simp⟩
      | cons x xs ih =>
        intro vs L ⟨v, ws, A', B', e, d, r, q⟩
        rw [e, q]
        exact ⟨v, ws ++ [y], A', B' ++ A, rfl, d, ih r, by rw [List.append_assoc]⟩
    have t := TmpOwn.st (H := upd H D (.lst (vs ++ [y]))) (T := []) (B := []) (show Own M F (.dl (os ++ [o])) (.ref D) ((D, .lst (vs ++ [y])) :: (L' ++ A)) from ⟨D, _, _, rfl, key ow, rfl⟩) .nil
    rw [List.append_nil] at t
    exact t
  · have g1 : Good F Z (upd H D (.lst (vs ++ [y]))) (C1 ++ (A ++ L')) := by
      have g2 := gd.perm (L' := (C1 ++ (A ++ L')) ++ [(D, .lst vs)]) (by
        rw [List.append_assoc, List.append_assoc]
        refine List.Perm.append_left C1 (List.Perm.append_left A ?_)
        exact (List.perm_append_comm (l₁ := [(D, HO.lst vs)]) (l₂ := L')))
      have g3 := g2.left
      exact ⟨g3.nd, fun p hp => by rw [upd_ne (ne p hp)]; exact g3.hp p hp, g3.fr, g3.zr⟩
    have g4 : Good F Z (upd H D (.lst (vs ++ [y]))) [(D, .lst (vs ++ [y]))] := ⟨by simp, fun p hp => by rw [List.mem_singleton] at hp; subst hp; exact upd_same, fun p hp => by rw [List.mem_singleton] at hp; subst hp; exact fD, fun p hp => by rw [List.mem_singleton] at hp; subst hp; exact zD⟩
    refine (g1.mk' g4 fun p hp q hq => by rw [List.mem_singleton] at hq; subst hq; exact ne p hp).perm ?_
    rw [List.append_assoc]
    refine List.Perm.append_left C1 ?_
    refine (List.perm_append_comm (l₁ := A ++ L')).trans ?_
    show ((D, HO.lst (vs ++ [y])) :: (A ++ L')).Perm _
    exact (List.perm_append_comm).cons _
end
abbrev W0 : WX := fun _ _ _ _ => False
abbrev JTs (X : Cx) (W : WX) (ifs : List Expr) (f : DT) : Prop := PTs X ifs (tT X.mg W f)
theorem jts_nil {X : Cx} {W : WX} : JTs X W [] dTrue := ⟨fun pins s σ H Q I ⟨G, Z, env, T, r, p⟩ => pts_nil.run pins s σ H Q I (p H (Same.refl _) r)⟩
theorem jts_one {X : Cx} {W : WX} {c : Expr} {f : DT} (h : JT X W c f) : JTs X W [c] f := pts_one h
theorem WalkJ.at {M : Str → Option Value} {J : It} {kept : List (V × Rv)} {items : List FV} (w : WalkJ M J (kept.map kfz) items) {F H : Hp} (hf : Same F H) (hk : ∀ p ∈ kept, FDen M F p.2.fv p.1) (i : Nat) :
    (∀ x, items[i]? = some x → J.go i H ∧ ∀ v H', J.yld i H v H' → New M F H H' (.fz x) v) ∧ (items.length ≤ i → J.stop i H) :=
  w F H i hf fun p hp => by
    obtain ⟨q, hq, e⟩ := List.mem_map.mp hp
    subst e
    exact ⟨[], ⟨hk q hq, rfl⟩, fun _ h => nomatch h⟩
/-- the loop of the block, from its relation -/
theorem lc_run {M : Str → Option Value} {G Z H1 : Hp} {σw : Sl} {envw : VEnv} {vs ws : List Nat} {t : TgF} {c : DT} {e : DE} {J : It} {kept : List (V × Rv)} {items : List FV} {ys : List OV} {D : Addr} {Qd : Hp → Prop}
    (hw : σw = wipe σw vs) (hwe : envw = wipeE envw vs) (hws : ∀ i ∈ ws, i ∈ vs) (hto : TgOk ws t) (wk : WalkJ M J (kept.map kfz) items) (hk : ∀ p ∈ kept, FDen M G p.2.fv p.1) (hlen : ys.length ≤ BIG)
    (hl : lcD t c e envw items = .ok ys) (r : R M G Z (upd H1 D (.lst [])) σw envw [(.ref D, .st (.dl []))]) (hd : ∀ H, R M G Z H σw envw [(.ref D, .st (.dl ys))] → Qd H) :
    ∃ W : Nat → Nat → Hp → Prop, (∃ m, W 0 m (upd H1 D (.lst []))) ∧ ∀ i m H, W i m H →
      (J.stop i H ∧ Qd H) ∨ (J.go i H ∧ ∃ Nx : Hp → Prop, (∀ H', Nx H' → ∃ m', m' < m ∧ W (i + 1) m' H') ∧ ∀ x H', J.yld i H x H' → gJ M ws t x σw H' fun σ2 H2 => wipe σ2 vs = σw ∧ tT M W0 c σ2 H2 fun b H3 =>
        if b = true then tE M W0 e σ2 H3 fun y H4 => ∃ acc, H4 D = some (.lst acc) ∧ acc.length < sizeLine ∧ Nx (upd H4 D (.lst (acc ++ [y]))) else Nx H3) := by
  refine ⟨fun i m H => i + m = items.length ∧ ∃ done rest, lcD t c e envw (items.drop i) = .ok rest ∧ done ++ rest = ys ∧ R M G Z H σw envw [(.ref D, .st (.dl done))], ⟨items.length, by omega, [], ys, by rw [List.drop_zero]; exact hl, rfl, r⟩, ?_⟩
  rintro i m H ⟨him, done, rest, h1, h2, ⟨F, C1, C2, r⟩⟩
  obtain ⟨w1, w2⟩ := wk.at r.fh (fun p hp => (hk p hp).mono r.gf) i
  by_cases hlt : i < items.length
  · obtain ⟨hgo, hy⟩ := w1 items[i] (List.getElem?_eq_getElem hlt)
    rw [List.drop_eq_getElem_cons hlt] at h1
    have h1' : (match t items[i] envw with
      | some e1 => (c e1).nox.bind fun b => if b then (e e1).nox.bind fun r => match r.st? with
          | some y => (lcD t c e envw (items.drop (i + 1))).bind fun ys => .ok (y :: ys)
          | none => .no
        else lcD t c e envw (items.drop (i + 1))
      | none => .no) = Ans.ok rest := h1
    refine .inr ⟨hgo, fun H' => ∃ done rest, lcD t c e envw (items.drop (i + 1)) = .ok rest ∧ done ++ rest = ys ∧ R M G Z H' σw envw [(.ref D, .st (.dl done))], fun H' q => ⟨m - 1, by omega, by omega, q⟩, fun x H' yl => ?_⟩
    refine ⟨G, Z, envw, _, items[i], r.new (hy x H' yl), ?_⟩
    cases et : t items[i] envw with
    | none => rw [et] at h1'; cases h1'
    | some e1 =>
      rw [et] at h1'
      intro σ2 hon r2
      have hσ : wipe σ2 vs = σw := by rw [(hon.mono hws).wipe, ← hw]
      have hE : wipeE e1 vs = envw := by
        obtain ⟨hl1, hl2⟩ := hto _ _ _ et
        rw [wipeE_of hl1 fun j hj => hl2 j fun z => hj (hws j z), ← hwe]
      have back : ∀ {H : Hp} {T : List (V × Rv)}, R M G Z H σ2 e1 T → R M G Z H σw envw T := fun {H T} r => by
        have := r.wipeD vs
        rw [hσ, hE] at this
        exact this
      refine ⟨hσ, G, Z, e1, _, r2, ?_⟩
      cases ec : c e1 with
      | no => simp [ec, Ans.nox, Ans.bind] at h1'
      | ex z => simp [ec, Ans.nox, Ans.bind] at h1'
      | ok b =>
        simp only [ec, Ans.nox, Ans.bind] at h1'
        intro H3 s3 r3
        cases b with
        | false =>
          rw [if_neg Bool.false_ne_true] at h1' ⊢
          exact ⟨done, rest, h1', h2, back r3⟩
        | true =>
          rw [if_pos rfl] at h1' ⊢
          refine ⟨G, Z, e1, _, r3, ?_⟩
          cases ee : e e1 with
          | no => simp [ee] at h1'
          | ex z => simp [ee] at h1'
          | ok rv =>
            rw [ee] at h1'
            simp only at h1'
            intro y H4 s4 r4
            cases es : rv.st? with
            | none => rw [es] at h1'; cases h1'
            | some o =>
              rw [es] at h1'
              have hrv : rv = .st o := by
                unfold Rv.st? at es
                split at es
                · cases es; rfl
                · cases es
              subst hrv
              simp only at h1'
              cases el : lcD t c e envw (items.drop (i + 1)) with
              | no => rw [el] at h1'; cases h1'
              | ex z => rw [el] at h1'; cases h1'
              | ok zs =>
                rw [el] at h1'
                have h1' : Ans.ok (o :: zs) = Ans.ok rest := h1'
                injection h1' with h1'
                subst h1'
                obtain ⟨acc, hD, hla, r5⟩ := r4.grow
                refine ⟨acc, hD, ?_, done ++ [o], zs, (by first | exact el | rfl), by rw [List.append_assoc]; exact h2, back r5⟩
                rw [hla, big_eq]
                have := congrArg List.length h2
                rw [List.length_append, List.length_cons] at this
                omega
  · refine .inl ⟨w2 (by omega), ?_⟩
    rw [List.drop_of_length_le (by omega)] at h1
    cases h1
    rw [List.append_nil] at h2
    subst h2
    exact hd H r.r
section
variable {X : Cx} {W : WX} {pos spos py : Pos} {tg iter elt : Expr} {ifs : List Expr} {scope : Scope} {own : List (Str × Nat)} {it : VEnv → Ans (List FV)} {t : TgF} {fc : DT} {fe : DE} {ws : List Nat}
theorem R.newOf {M : Str → Option Value} {G H H' : Hp} {σ : Sl} {env : VEnv} {v : V} {o : OV} (r : R M G H H' σ env [(v, .st o)]) : New M G H H' o v := by
  obtain ⟨F, C1, C2, r⟩ := r
  obtain ⟨A, B, e1, d, t⟩ := r.tm.freeze
  cases t
  rw [List.append_nil] at e1
  subst e1
  have g := r.gd.right
  exact ⟨F, C2, r.gf, r.fg, r.fh, r.zh, d, ⟨g.nd, g.hp, g.fr, g.zr⟩⟩
theorem lc_post (hws : ∀ i ∈ ws, i ∈ own.map (·.2)) (hto : TgOk ws t) {σ : Sl} {H : Hp} {Q : VK} {G Z : Hp} {env : VEnv} {T : List (V × Rv)} (r : R X.mg G Z H σ env T)
    (p : Post X.mg W G Z σ env T Q H (dLcD it t fc fe (own.map (·.2)) env)) : tLc (tIC X.mg W it) (gJ X.mg ws t) (tT X.mg W0 fc) (tE X.mg W0 fe) (own.map (·.2)) σ H Q := by
  refine ⟨G, Z, env, T, r, ?_⟩
  unfold dLcD at p
  cases ei : it env with
  | no => rw [ei] at p; exact p.elim
  | ex c => rw [ei] at p; exact fun C H' m s r' => p C H' m s r'
  | ok items =>
    rw [ei] at p
    intro J H1 kept s1 ⟨F, C1, C2, r1⟩ wk hsbk D hD
    have p : Post X.mg W G Z σ env T Q H ((lcD t fc fe (frzE (wipeE env (own.map (·.2)))) items).bind fun ys => if decide (ys.length ≤ BIG) && (allFzE env || OV.cleanL ys) then .ok (.st (.dl ys)) else .no) := p
    cases el : lcD t fc fe (frzE (wipeE env (own.map (·.2)))) items with
    | no => rw [el] at p; exact p.elim
    | ex c =>
      -- no exception comes out of lcD
      exfalso
      have key : ∀ items c, lcD t fc fe (frzE (wipeE env (own.map (·.2)))) items ≠ .ex c := by
        intro items
        induction items with
        | nil => intro c h; cases h
        | cons x xs ih =>
          intro c h
          unfold lcD at h
          split at h
          · rename_i e1 _
            cases ec : fc e1 with
            | no => simp [ec, Ans.nox, Ans.bind] at h
            | ex z => simp [ec, Ans.nox, Ans.bind] at h
            | ok b =>
              simp only [ec, Ans.nox, Ans.bind] at h
              cases b with
              | false => exact ih c (by simpa using h)
              | true =>
                rw [if_pos rfl] at h
                cases ee : fe e1 with
                | no => simp [ee] at h
                | ex z => simp [ee] at h
                | ok rv =>
                  rw [ee] at h
                  simp only at h
                  split at h
                  · cases el2 : lcD t fc fe (frzE (wipeE env (own.map (·.2)))) xs with
                    | no => rw [el2] at h; cases h
                    | ex z => exact ih z el2
                    | ok zs => rw [el2] at h; cases h
                  · cases h
          · cases h
      exact key items c el
    | ok ys =>
      rw [el] at p
      simp only [Ans.bind] at p
      split at p
      · rename_i hc
        rw [Bool.and_eq_true] at hc
        have hlen : ys.length ≤ BIG := of_decide_eq_true hc.1
        have hwe : frzE (wipeE env (own.map (·.2))) = wipeE (frzE (wipeE env (own.map (·.2)))) (own.map (·.2)) := by
          rw [frz_wipe, wipeE_idem]
        have fin : ∀ H', New X.mg F H1 H' (.dl ys) (.ref D) → Q (.ref D) H' := fun H' n => p _ H' (s1.trans (let ⟨_, _, n⟩ := n; n.hh)) ((r1.new n).sb sb_app.both)
        have start : ∀ {K0 : Hp} (r0 : R X.mg K0 H1 H1 (wipe σ (own.map (·.2))) (frzE (wipeE env (own.map (·.2)))) []), R X.mg K0 H1 (upd H1 D (.lst [])) (wipe σ (own.map (·.2))) (frzE (wipeE env (own.map (·.2)))) [(.ref D, .st (.dl []))] := fun {K0} r0 => by
          obtain ⟨F0, D1, D2, r0⟩ := r0
          exact r0.new (New.cell r0.fh hD ⟨D, [], [], rfl, ⟨rfl, rfl⟩, rfl⟩)
        cases ha : allFzE env with
        | true =>
          -- all frozen: what is walked is frozen first
          obtain ⟨F2, C3, C4, r2, hkA⟩ := r1.iceK (fun p hp => by
            have := hsbk p hp
            revert this
            cases p.2 with
            | st o => exact fun _ => ⟨o, rfl⟩
            | bo o => intro h; rw [show sbR env (.bo o) = !allFzE env from rfl, ha] at h; cases h)
          refine lc_run (hw := (wipe_idem _ _).symm) (hwe := hwe) hws hto wk (G := F2) (Z := H1) hkA hlen el (start (r2.blockF _ ha)) fun H' r' => ?_
          have n := r'.newOf
          exact p _ H' (s1.trans (let ⟨_, _, n⟩ := n; n.hh)) (r2.new n)
        | false =>
          rw [ha, Bool.false_or] at hc
          refine lc_run (hw := (wipe_idem _ _).symm) (hwe := hwe) hws hto wk (G := mutG F H1) (Z := H1) (fun p hp => ?_) hlen el (start (r1.block _)) fun H' r' => fin H' (r'.newOf.clean r1.fh (by simpa [OV.clean] using hc.2))
          obtain ⟨A, d, c⟩ := r1.bor (List.mem_append_left T hp)
          exact d.mut r1.fh c
      · exact p.elim
theorem R.dl_ol {M : Str → Option Value} {G Z H : Hp} {σ : Sl} {env : VEnv} {T : List (V × Rv)} {v : V} {ys : List FV} (r : R M G Z H σ env ((v, .st (.dl (ys.map .fz))) :: T)) : R M G Z H σ env ((v, .st (.ol ys)) :: T) := by
  obtain ⟨F, C1, C2, r⟩ := r
  obtain ⟨A, B, e, d, t⟩ := r.tm.freeze
  subst e
  exact ⟨F, C1, A ++ B, r.gf, r.fg, r.fh, r.zh, r.ev, .st (own_dl_ol d) t, r.gd⟩
theorem cleanL_fz : ∀ ys : List FV, OV.cleanL (ys.map .fz) = FV.pureL ys
  | [] => rfl
  | y :: ys => by
    show ((OV.fz y).clean && OV.cleanL (ys.map .fz)) = (FV.pure y && FV.pureL ys)
    rw [cleanL_fz ys]
    rfl
theorem lcF_ex {c : DT} {e : DE} {t : TgF} {env : VEnv} : ∀ (items : List FV) (z : Str), lcF t c e env items ≠ .ex z := by
  intro items
  induction items with
  | nil => intro c h; cases h
  | cons x xs ih =>
    intro z h
    unfold lcF at h
    split at h
    · rename_i e1 _
      cases ec : c e1 with
      | no => simp [ec, Ans.nox, Ans.bind] at h
      | ex z => simp [ec, Ans.nox, Ans.bind] at h
      | ok b =>
        simp only [ec, Ans.nox, Ans.bind] at h
        cases b with
        | false => exact ih z (by simpa using h)
        | true =>
          rw [if_pos rfl] at h
          cases ee : e e1 with
          | no => simp [ee] at h
          | ex z => simp [ee] at h
          | ok rv =>
            rw [ee] at h
            simp only at h
            split at h
            · cases el2 : lcF t c e env xs with
              | no => rw [el2] at h; cases h
              | ex z => exact ih z el2
              | ok zs => rw [el2] at h; cases h
            · cases h
    · cases h
theorem lc_postF {σ : Sl} {H : Hp} {Q : VK} {G Z : Hp} {env : VEnv} {T : List (V × Rv)} {vs : List Nat}
    (p : Post X.mg W G Z σ env T Q H (dLc it t fc fe vs env)) : Post X.mg W G Z σ env T Q H (dLcD it t fc fe vs env) := by
  unfold dLc at p
  unfold dLcD
  cases ei : it env with
  | no => rw [ei] at p; exact p.elim
  | ex c => rw [ei] at p; exact p
  | ok items =>
    rw [ei] at p
    simp only [Ans.bind] at p ⊢
    cases el : lcF t fc fe (frzE (wipeE env vs)) items with
    | no => rw [el] at p; exact p.elim
    | ex c => exact absurd el (lcF_ex _ _)
    | ok ys =>
      rw [el] at p
      rw [lcF_D el]
      simp only at p ⊢
      rw [cleanL_fz, List.length_map]
      split at p
      · rename_i hc
        rw [if_pos hc]
        exact fun v H' s r => p v H' s r.dl_ol
      · exact p.elim
theorem je_lcD (hc : X.calm = true) (hN : X.N.Nodup) (hi : JC X W tg iter it) (ok : BlkOk X.N X.env.scope scope own)
    (hg : ∀ (s : Shared) (H : Hp) (C : Addr) (cl : List (Str × Addr)) (fp : List Addr), JG (X.blk s H scope (compEnvC scope cl C X.env) fp) tg ws t)
    (ht : ∀ (s : Shared) (H : Hp) (C : Addr) (cl : List (Str × Addr)) (fp : List Addr), JTs (X.blk s H scope (compEnvC scope cl C X.env) fp) W0 ifs fc)
    (he : ∀ (s : Shared) (H : Hp) (C : Addr) (cl : List (Str × Addr)) (fp : List Addr), JE (X.blk s H scope (compEnvC scope cl C X.env) fp) W0 elt fe)
    (hto : TgOk ws t) (hws : ∀ i ∈ ws, i ∈ own.map (·.2) := by decide) (hs : ∀ x, foldedSetIterable iter X.env x = pure x := by intro _; rfl) :
    JE X W (.ListComp elt [⟨tg, iter, ifs, 0⟩] scope pos) (dLcD it t fc fe (own.map (·.2))) :=
  PE.imp (pe_lc hc hN hi ok hg ht he hs) fun σ H Q ⟨G, Z, env, T, r, p⟩ => lc_post hws hto r p
theorem je_lc (hc : X.calm = true) (hN : X.N.Nodup) (hi : JC X W tg iter it) (ok : BlkOk X.N X.env.scope scope own)
    (hg : ∀ (s : Shared) (H : Hp) (C : Addr) (cl : List (Str × Addr)) (fp : List Addr), JG (X.blk s H scope (compEnvC scope cl C X.env) fp) tg ws t)
    (ht : ∀ (s : Shared) (H : Hp) (C : Addr) (cl : List (Str × Addr)) (fp : List Addr), JTs (X.blk s H scope (compEnvC scope cl C X.env) fp) W0 ifs fc)
    (he : ∀ (s : Shared) (H : Hp) (C : Addr) (cl : List (Str × Addr)) (fp : List Addr), JE (X.blk s H scope (compEnvC scope cl C X.env) fp) W0 elt fe)
    (hto : TgOk ws t) (hws : ∀ i ∈ ws, i ∈ own.map (·.2) := by decide) (hs : ∀ x, foldedSetIterable iter X.env x = pure x := by intro _; rfl) :
    JE X W (.ListComp elt [⟨tg, iter, ifs, 0⟩] scope pos) (dLc it t fc fe (own.map (·.2))) :=
  PE.imp (je_lcD hc hN hi ok hg ht he hto hws hs) fun σ H Q ⟨G, Z, env, T, r, p⟩ => ⟨G, Z, env, T, r, lc_postF p⟩
theorem js_setLcD (i : Nat) {y : Str} (hc : X.calm = true) (hN : X.N.Nodup) (hsw : swapsWith (.ListComp elt [⟨tg, iter, ifs, 0⟩] scope pos) (some (.Name y py)) spos.line X.env = pure true) (hi : JC X W tg iter it) (ok : BlkOk X.N X.env.scope scope own)
    (hg : ∀ (s : Shared) (H : Hp) (C : Addr) (cl : List (Str × Addr)) (fp : List Addr), JG (X.blk s H scope (compEnvC scope cl C X.env) fp) tg ws t)
    (ht : ∀ (s : Shared) (H : Hp) (C : Addr) (cl : List (Str × Addr)) (fp : List Addr), JTs (X.blk s H scope (compEnvC scope cl C X.env) fp) W0 ifs fc)
    (he : ∀ (s : Shared) (H : Hp) (C : Addr) (cl : List (Str × Addr)) (fp : List Addr), JE (X.blk s H scope (compEnvC scope cl C X.env) fp) W0 elt fe)
    (hto : TgOk ws t) (hws : ∀ i ∈ ws, i ∈ own.map (·.2) := by decide) (hy : X.N[i]? = some y := by rfl) (hyl : X.env.scope.names.lookup y = some .local := by rfl) (hs : ∀ x, foldedSetIterable iter X.env x = pure x := by intro _; rfl) :
    JS X W (.Assign [.Name y py] (.ListComp elt [⟨tg, iter, ifs, 0⟩] scope pos) spos) (dSet i (dLcD it t fc fe (own.map (·.2)))) := by
  refine PS.imp (ps_setLc (wi := tIC X.mg W it) (g := gJ X.mg ws t) (tt := tT X.mg W0 fc) (te := tE X.mg W0 fe) hc hN hy hyl hsw hi ok hg ht he hs) fun D σ H ⟨G, Z, env, T, hT, r, p⟩ => ?_
  have q : tE X.mg W (dLcD it t fc fe (own.map (·.2))) σ H fun x H1 => gName i x σ H1 D.nx := by
    refine tE.bindS r p fun rv v H1 _ s r1 p1 => ?_
    cases rv with
    | st o => exact p1 _ _ (r1.set i)
    | bo o => exact p1.elim
  obtain ⟨G, Z, env, T, r, p⟩ := q
  exact lc_post hws hto r p
theorem js_setLc (i : Nat) {y : Str} (hc : X.calm = true) (hN : X.N.Nodup) (hsw : swapsWith (.ListComp elt [⟨tg, iter, ifs, 0⟩] scope pos) (some (.Name y py)) spos.line X.env = pure true) (hi : JC X W tg iter it) (ok : BlkOk X.N X.env.scope scope own)
    (hg : ∀ (s : Shared) (H : Hp) (C : Addr) (cl : List (Str × Addr)) (fp : List Addr), JG (X.blk s H scope (compEnvC scope cl C X.env) fp) tg ws t)
    (ht : ∀ (s : Shared) (H : Hp) (C : Addr) (cl : List (Str × Addr)) (fp : List Addr), JTs (X.blk s H scope (compEnvC scope cl C X.env) fp) W0 ifs fc)
    (he : ∀ (s : Shared) (H : Hp) (C : Addr) (cl : List (Str × Addr)) (fp : List Addr), JE (X.blk s H scope (compEnvC scope cl C X.env) fp) W0 elt fe)
    (hto : TgOk ws t) (hws : ∀ i ∈ ws, i ∈ own.map (·.2) := by decide) (hy : X.N[i]? = some y := by rfl) (hyl : X.env.scope.names.lookup y = some .local := by rfl) (hs : ∀ x, foldedSetIterable iter X.env x = pure x := by intro _; rfl) :
    JS X W (.Assign [.Name y py] (.ListComp elt [⟨tg, iter, ifs, 0⟩] scope pos) spos) (dSet i (dLc it t fc fe (own.map (·.2)))) := by
  refine PS.imp (ps_setLc (wi := tIC X.mg W it) (g := gJ X.mg ws t) (tt := tT X.mg W0 fc) (te := tE X.mg W0 fe) hc hN hy hyl hsw hi ok hg ht he hs) fun D σ H ⟨G, Z, env, T, hT, r, p⟩ => ?_
  have q : tE X.mg W (dLc it t fc fe (own.map (·.2))) σ H fun x H1 => gName i x σ H1 D.nx := by
    refine tE.bindS r p fun rv v H1 _ s r1 p1 => ?_
    cases rv with
    | st o => exact p1 _ _ (r1.set i)
    | bo o => exact p1.elim
  obtain ⟨G, Z, env, T, r, p⟩ := q
  exact lc_post hws hto r (lc_postF p)
end
end J
namespace J
open PySem PySem.Spec PyProof.Rows L2
/-! ### one's own cells rewritten -/
/-- the value o at v (cells L) becomes o' by rewriting the cell a; the cells B go in -/
def Wrote (M : Str → Option Value) (F : Hp) (L B : Cells) (v : V) (a : Addr) (ho ho' : HO) (o' : OV) : Prop := ∃ A D L', L.Perm ((a, ho) :: (A ++ D)) ∧ Own M F o' v L' ∧ L'.Perm ((a, ho') :: (A ++ B))
section
variable {M : Str → Option Value} {G Z H F : Hp} {σ : Sl} {env : VEnv} {T : List (V × Rv)} {o p p' : OV} {v y : V} {i : Nat} {L B : Cells} {L1 L2 : Cells} {a : Addr} {ho ho' : HO}
theorem TmpOwn.anyH {H' : Hp} (t : TmpOwn M F H T L) (h : AllSt T) : TmpOwn M F H' T L := by
  induction t with
  | nil => exact .nil
  | st d _ ih => exact .st d (ih fun p hp => h p (List.mem_cons_of_mem _ hp))
  | bo d _ ih =>
    obtain ⟨o, e⟩ := h _ List.mem_cons_self
    cases e
theorem RF.write (r : RF M G Z H F σ env ((y, .st o) :: T) L1 L2) (hT : AllSt T) (he : env[i]? = some (some p)) :
    ∃ v L B, σ[i]? = some (some v) ∧ Own M F p v L ∧ Own M F o y B ∧ (∀ q ∈ L, H q.1 = some q.2) ∧ ∀ a ho ho' p', Wrote M F L B v a ho ho' p' → ∃ E1 E2, RF M G Z (upd H a ho') F σ (env.set i (some p')) T E1 E2 := by
  obtain ⟨v, L, Lr, h1, h2, h3, h4, _⟩ := r.ev.repl he
  obtain ⟨B, C, e, d, t⟩ := r.tm.freeze
  subst e
  refine ⟨v, L, B, h1, h2, d, fun q hq => r.gd.hp q (List.mem_append_left _ (h3.mem_iff.mpr (List.mem_append_left _ hq))), fun a ho ho' p' ⟨A, D, L', q1, q2, q3⟩ => ?_⟩
  obtain ⟨L3, k1, k2⟩ := h4 p' v L' q2
  have hσ : σ.set i (some v) = σ := by
    apply List.ext_getElem?
    intro j
    by_cases hj : i = j
    · subst hj
      obtain ⟨hlt, _⟩ := List.getElem?_eq_some_iff.mp h1
      rw [List.getElem?_set_self hlt, h1]
    · rw [List.getElem?_set_ne hj]
  rw [hσ] at k1
  -- all cells of before
  have pm : (L1 ++ (B ++ C)).Perm ((a, ho) :: ((A ++ B) ++ Lr ++ C) ++ D) := by
    refine (h3.append_right _).trans ?_
    refine ((q1.append_right Lr).append_right (B ++ C)).trans ?_
    have e1 : ((a, ho) :: (A ++ D) ++ Lr ++ (B ++ C)) = (a, ho) :: (A ++ (D ++ (Lr ++ (B ++ C)))) := by simp
    have e2 : ((a, ho) :: ((A ++ B) ++ Lr ++ C) ++ D) = (a, ho) :: (A ++ (B ++ (Lr ++ (C ++ D)))) := by simp
    rw [e1, e2]
    refine List.Perm.cons _ (List.Perm.append_left A ?_)
    -- D ++ (Lr ++ (B ++ C)) ~ B ++ (Lr ++ (C ++ D))
    refine List.perm_append_comm.trans ?_
    have e3 : Lr ++ (B ++ C) ++ D = (Lr ++ B) ++ (C ++ D) := by simp
    have e4 : B ++ (Lr ++ (C ++ D)) = (B ++ Lr) ++ (C ++ D) := by simp
    rw [e3, e4]
    exact List.perm_append_comm.append_right _
  have g := (r.gd.perm pm).left
  have nd := g.nd
  rw [List.map_cons, List.nodup_cons] at nd
  have ne : ∀ q ∈ (A ++ B) ++ Lr ++ C, q.1 ≠ a := fun q hq z => nd.1 (by rw [← z]; exact List.mem_map.mpr ⟨q, hq, rfl⟩)
  have fa : F a = none := g.fr (a, ho) List.mem_cons_self
  have za : Z a = none := g.zr (a, ho) List.mem_cons_self
  have g2 : Good F Z (upd H a ho') ((a, ho') :: ((A ++ B) ++ Lr ++ C)) := by
    refine ⟨by rw [List.map_cons, List.nodup_cons]; exact nd, fun q hq => ?_, fun q hq => ?_, fun q hq => ?_⟩
    · rcases List.mem_cons.mp hq with rfl | hq
      · exact upd_same
      · rw [upd_ne (ne q hq)]; exact g.hp q (List.mem_cons_of_mem _ hq)
    · rcases List.mem_cons.mp hq with rfl | hq
      · exact fa
      · exact g.fr q (List.mem_cons_of_mem _ hq)
    · rcases List.mem_cons.mp hq with rfl | hq
      · exact za
      · exact g.zr q (List.mem_cons_of_mem _ hq)
  refine ⟨L3, C, r.gf, r.fg, fun b u e => ?_, fun b u e => ?_, k1, t.anyH hT, g2.perm ?_⟩
  · rw [upd_ne (fun z => by rw [z, fa] at e; cases e)]; exact r.fh b u e
  · rw [upd_ne (fun z => by rw [z, za] at e; cases e)]; exact r.zh b u e
  · refine List.Perm.symm ((k2.append_right C).trans ?_)
    exact (q3.append_right Lr).append_right C
theorem OwnL.snoc {os : List OV} {vs : List V} {y : V} (h : OwnL M F os vs L) (d : Own M F o y B) : OwnL M F (os ++ [o]) (vs ++ [y]) (L ++ B) := by
  induction os generalizing vs L with
  | nil =>
    obtain ⟨e1, e2⟩ := h
    subst e1 e2
    exact ⟨y, [], B, [], rfl, d, ⟨rfl, rfl⟩, by simp⟩
  | cons x os ih =>
    obtain ⟨v, ws, A, C, e, q, r, e2⟩ := h
    subst e e2
    exact ⟨v, ws ++ [y], A, C ++ B, rfl, q, ih r, by rw [List.append_assoc]⟩
end
/-! ### append -/
def OV.app : OV → OV → Option OV
  | .ol xs, .fz x => some (.ol (xs ++ [x]))
  | .ol [], o => some (.dl [o])
  | .dl os, o => some (.dl (os ++ [o]))
  | _, _ => none
def OV.size : OV → Nat
  | .ol xs => xs.length
  | .dl os => os.length
  | .oK k => k.length
  | .oT k => k.length
  | .dd k => k.length
  | _ => 0
section
variable {M : Str → Option Value} {G Z H F : Hp} {σ : Sl} {env : VEnv} {T : List (V × Rv)} {o p p' : OV} {v y : V} {i : Nat} {L B : Cells} {L1 L2 : Cells} {a : Addr} {ho ho' : HO}
theorem own_app (e : p.app o = some p') (h : Own M F p v L) (d : Own M F o y B) : ∃ a vs, v = .ref a ∧ (a, HO.lst vs) ∈ L ∧ vs.length = p.size ∧ Wrote M F L B v a (.lst vs) (.lst (vs ++ [y])) p' := by
  unfold OV.app at e
  split at e
  · rename_i xs x
    cases e
    obtain ⟨a, vs, e1, r, e2⟩ := h
    obtain ⟨d, hB⟩ := d
    subst hB e1 e2
    exact ⟨a, vs, rfl, List.mem_singleton.mpr rfl, r.length, [], [], _, .refl _, ⟨a, _, rfl, r.append ⟨y, [], rfl, d, rfl⟩, rfl⟩, .refl _⟩
  · rename_i o' _
    cases e
    obtain ⟨a, vs, e1, r, e2⟩ := h
    cases (show vs = [] from r)
    subst e1 e2
    exact ⟨a, [], rfl, List.mem_singleton.mpr rfl, rfl, [], [], _, .refl _, ⟨a, [y], B, rfl, ⟨y, [], B, [], rfl, d, ⟨rfl, rfl⟩, by simp⟩, rfl⟩, .refl _⟩
  · rename_i os o'
    cases e
    obtain ⟨a, vs, L', e1, r, e2⟩ := h
    subst e1 e2
    exact ⟨a, vs, rfl, List.mem_cons_self, r.length, L', [], _, by simp, ⟨a, _, _, rfl, r.snoc d, rfl⟩, .refl _⟩
  · cases e
end
def OV.isL : OV → Bool
  | .ol _ => true
  | .dl _ => true
  | _ => false
theorem own_isL {M : Str → Option Value} {F : Hp} {p : OV} {v : V} {L : Cells} (h : p.isL = true) (d : Own M F p v L) : ∃ a vs, v = .ref a ∧ (a, HO.lst vs) ∈ L := by
  unfold OV.isL at h
  split at h
  · obtain ⟨a, vs, e1, r, e2⟩ := d
    exact ⟨a, vs, e1, by rw [e2]; exact List.mem_singleton.mpr rfl⟩
  · obtain ⟨a, vs, L', e1, r, e2⟩ := d
    exact ⟨a, vs, e1, by rw [e2]; exact List.mem_cons_self⟩
  · cases h
theorem RF.isL {M : Str → Option Value} {G Z H F : Hp} {σ : Sl} {env : VEnv} {T : List (V × Rv)} {C1 C2 : Cells} {p : OV} {i : Nat} (r : RF M G Z H F σ env T C1 C2) (h : p.isL = true) (e : env[i]? = some (some p)) : ∃ a vs, σ[i]? = some (some (.ref a)) ∧ H a = some (.lst vs) := by
  obtain ⟨v, A, Lr, h1, h2, h3, _⟩ := r.ev.repl e
  obtain ⟨a, vs, e1, hm⟩ := own_isL h h2
  subst e1
  exact ⟨a, vs, h1, r.gd.hp (a, .lst vs) (List.mem_append_left _ (h3.mem_iff.mpr (List.mem_append_left _ hm)))⟩
def dApp (i : Nat) (f : DE) : DS := fun env => match env[i]? with
  | some (some p) => if p.isL then (f env).bind fun r => match r with
    | .st o => if p.size < BIG then match p.app o with
      | some p' => .ok (.nx (env.set i (some p')))
      | none => .no
      else .no
    | _ => .no
    else .no
  | _ => .no
section
variable {X : Cx} {W : WX} {pos pos' apos : Pos} {e : Expr} {f g : DE} {x : Str}
theorem PS.or {st : Stmt} {t t' : TS} (p : PS X st t) (p' : PS X st t') : PS X st (fun D σ H => t D σ H ∨ t' D σ H) := ⟨fun pins s σ H D I h => h.elim (p.run pins s σ H D I) (p'.run pins s σ H D I)⟩
theorem js_append (i : Nat) (he : JE X W e f) (hN : X.N[i]? = some x := by rfl) (hv : Vis X.env.scope x := by first | exact Or.inl rfl | exact Or.inr (Or.inl rfl) | exact Or.inr (Or.inr rfl))
    (hd : (x == ("__debug__" : Str)) = false := by decide) (hcd : (x == ("__classdict__" : Str)) = false := by decide)
    (hs : swapsWith (.Call (.Attribute (.Name x pos') "append" apos) [e] [] cpos) none pos.line X.env = pure false := by rfl)
    (hbase : attributeBase (.Name x pos') "append" X.env (eval (.Name x pos') X.env) = eval (.Name x pos') X.env := by rfl)
    (hfew : ((backTo cpos (starEach [e] X.env)).all (fun x => !x.1) && (backToKw cpos (keywordEach [] X.env)).all (fun x => x.1.isSome)
      && decide ([e].length + ([] : List Keyword).length + (if ([] : List Keyword).isEmpty then 0 else 1) < 30)) = true := by rfl)
    (hline : (apos.endLine == cpos.line) = true := by rfl) (hst : starEach [e] X.env = (false, eval e X.env) :: starEach [] X.env := by rfl) (hplain : (backTo cpos (starEach [] X.env)).any (·.1) = false := by rfl) :
    JS X W (.Expr (.Call (.Attribute (.Name x pos') "append" apos) [e] [] cpos) pos) (dApp i f) := by
  refine PS.imp (ps_expr (pe_bm F.plainAttrs_list F.slot_list_append (by rfl) (fun pins s σ H x xs v us Q I r rv q => mt_append pins s σ H x xs v us Q I r rv q) (pe_var hN hv hd hcd) (pa_cons he pa_nil hst) hbase hfew hline hst hplain) hs) fun D σ H ⟨G, Z, env, T, hT, r, p⟩ => ?_
  unfold dApp at p
  cases ei : env[i]? with
  | none => rw [ei] at p; exact p.elim
  | some ov =>
    cases ov with
    | none => rw [ei] at p; exact p.elim
    | some q =>
      rw [ei] at p
      simp only at p
      by_cases hl : q.isL = true
      · rw [if_pos hl] at p
        obtain ⟨F, C1, C2, r⟩ := r
        obtain ⟨a0, vs0, k1, k2⟩ := r.isL hl ei
        refine ⟨_, k1, .inl ⟨rfl, vs0, SqL.of k2⟩, ?_⟩
        refine tE.bindS r.r p fun rv y H1 _ s1 r1 p1 => ?_
        cases rv with
        | bo o => exact p1.elim
        | st o =>
          simp only at p1
          split at p1
          · rename_i hb
            split at p1
            · rename_i p' ep
              obtain ⟨F2, D1, D2, r1⟩ := r1
              obtain ⟨v, L, B, j1, j2, j3, j4, j5⟩ := r1.write hT ei
              rw [k1] at j1
              obtain rfl := Option.some.inj (Option.some.inj j1)
              obtain ⟨a, vs, e1, m1, m2, wr⟩ := own_app ep j2 j3
              cases e1
              exact ⟨a0, vs, y, rfl, rfl, j4 _ m1, by rw [m2, big_eq] at *; exact hb, p1 σ _ (let ⟨_, _, z⟩ := j5 _ _ _ _ wr; z.r)⟩
            · exact p1.elim
          · exact p1.elim
      · rw [if_neg hl] at p; exact p.elim
/-- x.append(y.pop(k)) -/
def dAppPop (i j : Nat) (f : DE) : DS := fun env => match env[i]?, env[j]? with
  | some (some p), some (some (.ol xs)) => if p.isL && decide (i ≠ j) && decide (xs.length ≤ BIG) && decide (p.size < BIG) then (f env).bind fun r => match r.fv with
      | .int k => match ixN xs.length k with
        | some m => match xs[m]? with
          | some x => match p.app (.fz x) with
            | some p' => .ok (.nx ((env.set j (some (.ol (xs.eraseIdx m)))).set i (some p')))
            | none => .no
          | none => .no
        | none => .no
      | _ => .no
    else .no
  | _, _ => .no
theorem FDenL.erase {M : Str → Option Value} {F : Hp} : ∀ {xs : List FV} {vs : List V} (m : Nat), FDenL M F xs vs → FDenL M F (xs.eraseIdx m) (vs.eraseIdx m)
  | [], _, m, d => by rw [show _ = [] from d]; rfl
  | x :: xs, _, 0, ⟨v, ws, e, d, r⟩ => by rw [e]; exact r
  | x :: xs, _, m + 1, ⟨v, ws, e, d, r⟩ => by rw [e]; exact ⟨v, _, rfl, d, r.erase m⟩
theorem js_appPop (i j : Nat) {y : Str} {cpos cpos2 apos2 pos2 : Pos} (he : JE X W e f) (hN : X.N[i]? = some x := by rfl) (hv : Vis X.env.scope x := by first | exact Or.inl rfl | exact Or.inr (Or.inl rfl) | exact Or.inr (Or.inr rfl))
    (hd : (x == ("__debug__" : Str)) = false := by decide) (hcd : (x == ("__classdict__" : Str)) = false := by decide)
    (hN2 : X.N[j]? = some y := by rfl) (hv2 : Vis X.env.scope y := by first | exact Or.inl rfl | exact Or.inr (Or.inl rfl) | exact Or.inr (Or.inr rfl))
    (hd2 : (y == ("__debug__" : Str)) = false := by decide) (hcd2 : (y == ("__classdict__" : Str)) = false := by decide)
    (hs : swapsWith (.Call (.Attribute (.Name x pos') "append" apos) [.Call (.Attribute (.Name y pos2) "pop" apos2) [e] [] cpos2] [] cpos) none pos.line X.env = pure false := by rfl)
    (hbase : attributeBase (.Name x pos') "append" X.env (eval (.Name x pos') X.env) = eval (.Name x pos') X.env := by rfl)
    (hfew : ((backTo cpos (starEach [.Call (.Attribute (.Name y pos2) "pop" apos2) [e] [] cpos2] X.env)).all (fun x => !x.1) && (backToKw cpos (keywordEach [] X.env)).all (fun x => x.1.isSome)
      && decide ([Expr.Call (.Attribute (.Name y pos2) "pop" apos2) [e] [] cpos2].length + ([] : List Keyword).length + (if ([] : List Keyword).isEmpty then 0 else 1) < 30)) = true := by rfl)
    (hline : (apos.endLine == cpos.line) = true := by rfl) (hst : starEach [.Call (.Attribute (.Name y pos2) "pop" apos2) [e] [] cpos2] X.env = (false, eval (.Call (.Attribute (.Name y pos2) "pop" apos2) [e] [] cpos2) X.env) :: starEach [] X.env := by rfl) (hplain : (backTo cpos (starEach [] X.env)).any (·.1) = false := by rfl)
    (hbase2 : attributeBase (.Name y pos2) "pop" X.env (eval (.Name y pos2) X.env) = eval (.Name y pos2) X.env := by rfl)
    (hfew2 : ((backTo cpos2 (starEach [e] X.env)).all (fun x => !x.1) && (backToKw cpos2 (keywordEach [] X.env)).all (fun x => x.1.isSome)
      && decide ([e].length + ([] : List Keyword).length + (if ([] : List Keyword).isEmpty then 0 else 1) < 30)) = true := by rfl)
    (hline2 : (apos2.endLine == cpos2.line) = true := by rfl) (hst2 : starEach [e] X.env = (false, eval e X.env) :: starEach [] X.env := by rfl) (hplain2 : (backTo cpos2 (starEach [] X.env)).any (·.1) = false := by rfl) :
    JS X W (.Expr (.Call (.Attribute (.Name x pos') "append" apos) [.Call (.Attribute (.Name y pos2) "pop" apos2) [e] [] cpos2] [] cpos) pos) (dAppPop i j f) := by
  have hpop := pe_bm F.plainAttrs_list F.slot_list_pop (by rfl) (fun pins s σ H x xs v us Q I r rv q => mt_popAt pins s σ H x xs v us Q I r rv q) (pe_var (pos := pos2) hN2 hv2 hd2 hcd2) (pa_cons he pa_nil hst2) hbase2 hfew2 hline2 hst2 hplain2
  refine PS.imp (ps_expr (pe_bm F.plainAttrs_list F.slot_list_append (by rfl) (fun pins s σ H x xs v us Q I r rv q => mt_append pins s σ H x xs v us Q I r rv q) (pe_var hN hv hd hcd) (pa_cons hpop pa_nil hst) hbase hfew hline hst hplain) hs) fun D σ H ⟨G, Z, env, T, hT, r, p⟩ => ?_
  unfold dAppPop at p
  split at p
  · rename_i p0 xs ei ej
    split at p
    · rename_i hc
      simp only [Bool.and_eq_true, decide_eq_true_eq] at hc
      obtain ⟨⟨⟨hl, hij⟩, hx⟩, hsz⟩ := hc
      obtain ⟨F, C1, C2, r⟩ := r
      obtain ⟨a0, vs0, k1, k2⟩ := r.isL hl ei
      obtain ⟨a1, vs1, k3, k4⟩ := r.isL (p := .ol xs) rfl ej
      refine ⟨_, k1, .inl ⟨rfl, vs0, SqL.of k2⟩, ⟨_, k3, .inl ⟨rfl, vs1, SqL.of k4⟩, ?_⟩⟩
      refine tE.bindS r.r p fun rv y H1 _ s1 r1 p1 => ?_
      split at p1
      · rename_i k ek
        split at p1
        · rename_i m em
          split at p1
          · rename_i z ez
            split at p1
            · rename_i p' ep
              obtain ⟨F2, D1, D2, r1⟩ := r1
              have hb : FDen X.mg H1 rv.fv y := (r1.bor (List.mem_cons_self (a := (y, rv)))).fden r1.fh
              rw [ek] at hb
              have hy : y = .int k := hb
              obtain ⟨F3, E1, E2, r2⟩ := r1.r.pop
              obtain ⟨F4, E3, E4, r2⟩ := r2.new (New.non r2.fh)
              obtain ⟨v, L, B, j1, j2, j3, j4, j5⟩ := r2.write hT ej
              rw [k3] at j1
              obtain rfl := Option.some.inj (Option.some.inj j1)
              obtain ⟨a, vs, e1, dd, e2⟩ := j2
              cases e1
              have hB : B = [] := j3.2
              subst hB e2
              have hlen : vs.length = xs.length := dd.length
              have hH1 : H1 a1 = some (.lst vs) := j4 (a1, .lst vs) (List.mem_singleton.mpr rfl)
              obtain ⟨q1, q2, q3, q4⟩ := ixN_seq em
              obtain ⟨w, hw, dw⟩ := dd.get ez
              have hx2 : xs.length ≤ 16777216 := hx
              refine ⟨a1, vs, k, m, w, rfl, by rw [hy], hH1, by omega, by omega, by rw [hlen]; exact q1, hw, ?_⟩
              have r3 := j5 a1 (.lst vs) (.lst (vs.eraseIdx m)) (.ol (xs.eraseIdx m)) ⟨[], [], _, .refl _, ⟨a1, _, rfl, dd.erase m, rfl⟩, .refl _⟩
              obtain ⟨E5, E6, r3⟩ := r3
              have ei' : (env.set j (some (.ol (xs.eraseIdx m))))[i]? = some (some p0) := by rw [List.getElem?_set_ne (Ne.symm hij)]; exact ei
              have r4 : RF X.mg G Z (upd H1 a1 (.lst (vs.eraseIdx m))) F4 σ (env.set j (some (.ol (xs.eraseIdx m)))) ((w, .st (.fz z)) :: T) E5 ([] ++ E6) := ⟨r3.gf, r3.fg, r3.fh, r3.zh, r3.ev, .st ⟨dw, rfl⟩ r3.tm, r3.gd⟩
              obtain ⟨v2, L2, B2, j1, j2, j3, j4, j5⟩ := r4.write hT ei'
              rw [k1] at j1
              obtain rfl := Option.some.inj (Option.some.inj j1)
              obtain ⟨a2, vs2, e1, m1, m2, wr⟩ := own_app ep j2 j3
              cases e1
              exact ⟨a0, vs2, w, rfl, rfl, j4 _ m1, by rw [m2]; exact hsz, p1 σ _ (let ⟨_, _, z⟩ := j5 _ _ _ _ wr; z.r)⟩
            · exact p1.elim
          · exact p1.elim
        · exact p1.elim
      · exact p1.elim
    · exact p.elim
  · exact p.elim
end
end J
namespace J
open PySem PySem.Spec PyProof.Rows L2
/-! ### x[k] = e -/
def putKV {κ α : Type} [DecidableEq κ] (kvs : List (κ × α)) (k : κ) (v : α) : List (κ × α) := if kvs.any (fun kv => decide (kv.1 = k)) then kvs.map (fun kv => if kv.1 = k then (kv.1, v) else kv) else kvs ++ [(k, v)]
def OV.isD2 : OV → Bool
  | .oK _ => true
  | .oT _ => true
  | .dd _ => true
  | _ => false
def OV.put (p : OV) (k : FV) (o : OV) : Option OV := match p, k, o with
  | .ol xs, .int i, .fz x => (ixN xs.length i).map fun j => .ol (xs.set j x)
  | .dl os, .int i, o => (ixN os.length i).map fun j => .dl (os.set j o)
  | .oK kvs, k, .fz x => k.key?.map fun k => .oK (putKV kvs k x)
  | .oK [], k, o => k.key?.map fun k => .dd [(k, o)]
  | .dd kvs, k, o => k.key?.bind fun k => if kvs.any (fun kv => decide (kv.1 = k)) then none else some (.dd (kvs ++ [(k, o)]))
  | .oT kvs, k, .fz x => k.keyT?.map fun k => .oT (putKV kvs k x)
  | _, _, _ => none
section
variable {M : Str → Option Value} {G Z H F : Hp} {σ : Sl} {env : VEnv} {T : List (V × Rv)} {o p p' : OV} {v y : V} {i : Nat} {L B : Cells} {L1 L2 : Cells} {a : Addr} {ho ho' : HO}
theorem OwnL.put {os : List OV} {vs : List V} (h : OwnL M F os vs L) (d : Own M F o y B) : ∀ {j : Nat}, j < os.length → ∃ D A L', L.Perm (A ++ D) ∧ OwnL M F (os.set j o) (vs.set j y) L' ∧ L'.Perm (A ++ B) := by
  induction os generalizing vs L with
  | nil => intro j hj; simp at hj
  | cons x os ih =>
    intro j hj
    obtain ⟨v, ws, A, C, e, q, r, e2⟩ := h
    subst e e2
    cases j with
    | zero => exact ⟨A, C, _, List.perm_append_comm, ⟨y, ws, B, C, rfl, d, r, rfl⟩, List.perm_append_comm⟩
    | succ j =>
      obtain ⟨D, A2, L', q1, q2, q3⟩ := ih r (j := j) (by simpa using hj)
      refine ⟨D, A ++ A2, _, ?_, ⟨v, _, A, L', rfl, q, q2, rfl⟩, ?_⟩
      · rw [List.append_assoc]; exact List.Perm.append_left A q1
      · rw [List.append_assoc]; exact List.Perm.append_left A q3
theorem FDenL.put {x : FV} {xs : List FV} {vs : List V} (h : FDenL M F xs vs) (d : FDen M F x y) : ∀ (j : Nat), FDenL M F (xs.set j x) (vs.set j y) := by
  induction xs generalizing vs with
  | nil => intro j; rw [show vs = [] from h]; exact rfl
  | cons z xs ih =>
    intro j
    obtain ⟨v, ws, e, q, r⟩ := h
    subst e
    cases j with
    | zero => exact ⟨y, ws, rfl, d, r⟩
    | succ j => exact ⟨v, _, rfl, q, ih r j⟩
theorem FDenK.any {kvs : List (Key × FV)} {ws : List (Key × V)} (h : FDenK M F kvs ws) (k : Key) : kvs.any (fun kv => decide (kv.1 = k)) = ws.any (fun kv => decide (kv.1 = k)) := by
  induction kvs generalizing ws with
  | nil => rw [show ws = [] from h]; rfl
  | cons p kvs ih =>
    obtain ⟨j, x⟩ := p
    obtain ⟨v, rs, e, q, r⟩ := h
    subst e
    rw [List.any_cons, List.any_cons, ih r]
theorem FDenT.any {kvs : List (List Key × FV)} {ws : List (List Key × V)} (h : FDenT M F kvs ws) (k : List Key) : kvs.any (fun kv => decide (kv.1 = k)) = ws.any (fun kv => decide (kv.1 = k)) := by
  induction kvs generalizing ws with
  | nil => rw [show ws = [] from h]; rfl
  | cons p kvs ih =>
    obtain ⟨j, x⟩ := p
    obtain ⟨v, rs, e, q, r⟩ := h
    subst e
    rw [List.any_cons, List.any_cons, ih r]
theorem OwnK.any {kvs : List (Key × OV)} {ws : List (Key × V)} (h : OwnK M F kvs ws L) (k : Key) : kvs.any (fun kv => decide (kv.1 = k)) = ws.any (fun kv => decide (kv.1 = k)) := by
  induction kvs generalizing ws L with
  | nil => rw [h.1]; rfl
  | cons p kvs ih =>
    obtain ⟨j, x⟩ := p
    obtain ⟨v, rs, A, C, e, q, r, _⟩ := h
    subst e
    rw [List.any_cons, List.any_cons, ih r]
theorem FDenK.snoc {x : FV} {k : Key} {kvs : List (Key × FV)} {ws : List (Key × V)} (h : FDenK M F kvs ws) (d : FDen M F x y) : FDenK M F (kvs ++ [(k, x)]) (ws ++ [(k, y)]) := by
  induction kvs generalizing ws with
  | nil => rw [show ws = [] from h]; exact ⟨y, [], rfl, d, rfl⟩
  | cons p kvs ih =>
    obtain ⟨j, z⟩ := p
    obtain ⟨v, rs, e, q, r⟩ := h
    subst e
    exact ⟨v, _, rfl, q, ih r⟩
theorem FDenT.snoc {x : FV} {k : List Key} {kvs : List (List Key × FV)} {ws : List (List Key × V)} (h : FDenT M F kvs ws) (d : FDen M F x y) : FDenT M F (kvs ++ [(k, x)]) (ws ++ [(k, y)]) := by
  induction kvs generalizing ws with
  | nil => rw [show ws = [] from h]; exact ⟨y, [], rfl, d, rfl⟩
  | cons p kvs ih =>
    obtain ⟨j, z⟩ := p
    obtain ⟨v, rs, e, q, r⟩ := h
    subst e
    exact ⟨v, _, rfl, q, ih r⟩
theorem OwnK.snoc {k : Key} {kvs : List (Key × OV)} {ws : List (Key × V)} (h : OwnK M F kvs ws L) (d : Own M F o y B) : OwnK M F (kvs ++ [(k, o)]) (ws ++ [(k, y)]) (L ++ B) := by
  induction kvs generalizing ws L with
  | nil =>
    obtain ⟨e1, e2⟩ := h
    subst e1 e2
    exact ⟨y, [], B, [], rfl, d, ⟨rfl, rfl⟩, by simp⟩
  | cons p kvs ih =>
    obtain ⟨j, z⟩ := p
    obtain ⟨v, rs, A, C, e, q, r, e2⟩ := h
    subst e e2
    exact ⟨v, _, A, _, rfl, q, ih r, by rw [List.append_assoc]⟩
theorem FDenK.repl {x : FV} {k : Key} {kvs : List (Key × FV)} {ws : List (Key × V)} (h : FDenK M F kvs ws) (d : FDen M F x y) : FDenK M F (kvs.map fun kv => if kv.1 = k then (kv.1, x) else kv) (ws.map fun kv => if kv.1 = k then (kv.1, y) else kv) := by
  induction kvs generalizing ws with
  | nil => rw [show ws = [] from h]; exact rfl
  | cons p kvs ih =>
    obtain ⟨j, z⟩ := p
    obtain ⟨v, rs, e, q, r⟩ := h
    subst e
    rw [List.map_cons, List.map_cons]
    by_cases hj : j = k
    · simp only [hj, if_true]; exact ⟨y, _, rfl, d, ih r⟩
    · simp only [hj, if_false]; exact ⟨v, _, rfl, q, ih r⟩
theorem FDenT.repl {x : FV} {k : List Key} {kvs : List (List Key × FV)} {ws : List (List Key × V)} (h : FDenT M F kvs ws) (d : FDen M F x y) : FDenT M F (kvs.map fun kv => if kv.1 = k then (kv.1, x) else kv) (ws.map fun kv => if kv.1 = k then (kv.1, y) else kv) := by
  induction kvs generalizing ws with
  | nil => rw [show ws = [] from h]; exact rfl
  | cons p kvs ih =>
    obtain ⟨j, z⟩ := p
    obtain ⟨v, rs, e, q, r⟩ := h
    subst e
    rw [List.map_cons, List.map_cons]
    by_cases hj : j = k
    · simp only [hj, if_true]; exact ⟨y, _, rfl, d, ih r⟩
    · simp only [hj, if_false]; exact ⟨v, _, rfl, q, ih r⟩
theorem FDenK.put {x : FV} {k : Key} {kvs : List (Key × FV)} {ws : List (Key × V)} (h : FDenK M F kvs ws) (d : FDen M F x y) : FDenK M F (putKV kvs k x) (putK ws k y) := by
  unfold putKV putK
  rw [h.any]
  split
  · exact h.repl d
  · exact h.snoc d
theorem FDenT.put {x : FV} {k : List Key} {kvs : List (List Key × FV)} {ws : List (List Key × V)} (h : FDenT M F kvs ws) (d : FDen M F x y) : FDenT M F (putKV kvs k x) (putK ws k y) := by
  unfold putKV putK
  rw [h.any]
  split
  · exact h.repl d
  · exact h.snoc d
theorem FDenT.length {kvs : List (List Key × FV)} {ws : List (List Key × V)} (h : FDenT M F kvs ws) : ws.length = kvs.length := by
  induction kvs generalizing ws with
  | nil => rw [show ws = [] from h]; rfl
  | cons p kvs ih => obtain ⟨j, z⟩ := p; obtain ⟨v, rs, e, q, r⟩ := h; subst e; rw [List.length_cons, List.length_cons, ih r]
theorem OwnK.length {kvs : List (Key × OV)} {ws : List (Key × V)} (h : OwnK M F kvs ws L) : ws.length = kvs.length := by
  induction kvs generalizing ws L with
  | nil => rw [h.1]; rfl
  | cons p kvs ih => obtain ⟨j, z⟩ := p; obtain ⟨v, rs, A, C, e, q, r, _⟩ := h; subst e; rw [List.length_cons, List.length_cons, ih r]
/-- what x[k] = e does -/
theorem own_put {k : FV} {w : V} (e : p.put k o = some p') (h : Own M F p v L) (d : Own M F o y B) (dk : FDen M H k w) (hH : ∀ q ∈ L, H q.1 = some q.2) (hs : p.size < BIG) :
    (p.isL = true ∧ ∃ a vs i j, v = .ref a ∧ w = .int i ∧ H a = some (.lst vs) ∧ ixN vs.length i = some j ∧ Wrote M F L B v a (.lst vs) (.lst (vs.set j y)) p') ∨
    (p.isD2 = true ∧ ∃ a ho ho', v = .ref a ∧ DPut H a w y (upd H a ho') ∧ Wrote M F L B v a ho ho' p') := by
  unfold OV.put at e
  split at e
  · rename_i xs i x
    obtain ⟨j, ej, e⟩ := Option.map_eq_some_iff.mp e
    subst e
    obtain ⟨a, vs, e1, r, e2⟩ := h
    obtain ⟨d, hB⟩ := d
    subst hB e1 e2
    exact .inl ⟨rfl, a, vs, i, j, rfl, dk, hH _ (List.mem_singleton.mpr rfl), by rw [r.length]; exact ej, [], [], _, .refl _, ⟨a, _, rfl, r.put d j, rfl⟩, .refl _⟩
  · rename_i os i
    obtain ⟨j, ej, e⟩ := Option.map_eq_some_iff.mp e
    subst e
    obtain ⟨a, vs, L', e1, r, e2⟩ := h
    subst e1 e2
    obtain ⟨D, A, L2, q1, q2, q3⟩ := r.put d (ixN_seq ej).2.1
    exact .inl ⟨rfl, a, vs, i, j, rfl, dk, hH _ List.mem_cons_self, by rw [r.length]; exact ej, A, D, _, q1.cons _, ⟨a, _, _, rfl, q2, rfl⟩, q3.cons _⟩
  · rename_i kvs k x
    obtain ⟨k', ek, e⟩ := Option.map_eq_some_iff.mp e
    subst e
    obtain ⟨a, ws, e1, r, e2⟩ := h
    obtain ⟨d, hB⟩ := d
    subst hB e1 e2
    refine .inr ⟨rfl, a, .dK ws, .dK (putK ws k' y), rfl, ?_, [], [], _, .refl _, ⟨a, _, rfl, r.put d, rfl⟩, .refl _⟩
    rw [dk.key ek]
    exact DPut.k (hH (a, .dK ws) (List.mem_singleton.mpr rfl)) (by rw [r.length, big_eq]; exact hs)
  · rename_i k o _
    obtain ⟨k', ek, e⟩ := Option.map_eq_some_iff.mp e
    subst e
    obtain ⟨a, ws, e1, r, e2⟩ := h
    cases (show ws = [] from r)
    subst e1 e2
    refine .inr ⟨rfl, a, .dK [], .dK [(k', y)], rfl, ?_, [], [], _, .refl _, ⟨a, _, _, rfl, ⟨y, [], B, [], rfl, d, ⟨rfl, rfl⟩, rfl⟩, rfl⟩, by simp⟩
    rw [dk.key ek]
    exact DPut.k (kvs := []) (k := k') (hH (a, .dK []) (List.mem_singleton.mpr rfl)) (by rw [big_eq]; decide)
  · rename_i kvs k o
    obtain ⟨k', ek, e⟩ := Option.bind_eq_some_iff.mp e
    split at e
    · cases e
    · rename_i hn
      cases e
      obtain ⟨a, ws, L', e1, r, e2⟩ := h
      subst e1 e2
      have hp : putK ws k' y = ws ++ [(k', y)] := by
        unfold putK
        rw [← r.any, if_neg hn]
      refine .inr ⟨rfl, a, .dK ws, .dK (putK ws k' y), rfl, ?_, L', [], _, by simp, ⟨a, _, _, rfl, by rw [hp]; exact r.snoc d, rfl⟩, .refl _⟩
      rw [dk.key ek]
      exact DPut.k (hH (a, .dK ws) List.mem_cons_self) (by rw [r.length, big_eq]; exact hs)
  · rename_i kvs k x
    obtain ⟨k', ek, e⟩ := Option.map_eq_some_iff.mp e
    subst e
    obtain ⟨a, ws, e1, r, e2⟩ := h
    obtain ⟨d, hB⟩ := d
    subst hB e1 e2
    obtain ⟨b, eb, hb⟩ := dk.keyT ek
    subst eb
    exact .inr ⟨rfl, a, .dT ws, .dT (putK ws k' y), rfl, DPut.t (hH (a, .dT ws) (List.mem_singleton.mpr rfl)) hb (by rw [r.length, big_eq]; exact hs), [], [], _, .refl _, ⟨a, _, rfl, r.put d, rfl⟩, .refl _⟩
  · cases e
end
theorem isL_D2 {p : OV} (h : p.isL = true) (h2 : p.isD2 = true) : False := by
  cases p <;> simp [OV.isL, OV.isD2] at h h2
def dPut (i : Nat) (fk fe : DE) : DS := fun env => match env[i]? with
  | some (some p) => if p.isL || p.isD2 then (fe env).bind fun r => match r with
      | .st o => (fk env).bind fun kr => if p.size < BIG then match p.put kr.fv o with
          | some p' => .ok (.nx (env.set i (some p')))
          | none => .no
        else .no
      | _ => .no
    else .no
  | _ => .no
theorem tE.bindS2 {M : Str → Option Value} {G Z H : Hp} {σ : Sl} {env : VEnv} {T T2 : List (V × Rv)} {W : WX} {D : Ends} {f : DE} {k : Rv → Ans SO} {Q1 : VK} (r : R M G Z H σ env T2) (hs : Sb T T2) (p : PostS M W G Z T D ((f env).bind k))
    (h : ∀ rv v H1, f env = .ok rv → Same H H1 → R M G Z H1 σ env ((v, rv) :: T2) → PostS M W G Z T D (k rv) → Q1 v H1) : tE M W f σ H Q1 := by
  refine tE.then r hs (fun rv v H1 e s r => h rv v H1 e s r ?_) (fun c C H1 e m s r => ?_) fun e => ?_
  · rw [e] at p; exact p
  · rw [e] at p
    obtain ⟨_, _, _, r⟩ := r
    exact p C σ H1 m r.zh
  · rw [e] at p; exact p
section
variable {X : Cx} {W : WX} {pos pos' apos tpos : Pos} {e k : Expr} {f fk fe : DE} {x : Str}
theorem put_run {M : Str → Option Value} {G Z H : Hp} {σ : Sl} {env : VEnv} {T : List (V × Rv)} {i : Nat} {D : Ends} {p : OV} (hT : AllSt T) (ei : env[i]? = some (some p)) (r : R M G Z H σ env T) (h : PostS M W G Z T D ((fe env).bind fun r => match r with
      | .st o => (fk env).bind fun kr => if p.size < BIG then match p.put kr.fv o with
          | some p' => .ok (.nx (env.set i (some p')))
          | none => .no
        else .no
      | _ => .no)) (Qf : V → V → V → Hp → Prop)
    (hQ : ∀ a w y H3, ((p.isL = true ∧ ∃ vs i j, w = .int i ∧ H3 a = some (.lst vs) ∧ ixN vs.length i = some j ∧ D.nx σ (upd H3 a (.lst (vs.set j y)))) ∨ (p.isD2 = true ∧ ∃ H4, DPut H3 a w y H4 ∧ D.nx σ H4)) → Qf (.ref a) w y H3) :
    tE M W fe σ H fun y H1 => ∃ v, σ[i]? = some (some v) ∧ tE M W fk σ H1 fun w H3 => Qf v w y H3 := by
  refine tE.bindS r h fun rv y H1 _ s1 r1 p1 => ?_
  cases rv with
  | bo o => exact p1.elim
  | st o =>
    simp only at p1
    obtain ⟨F1, D1, D2, r1⟩ := r1
    obtain ⟨v0, A0, _, h1, _⟩ := r1.ev.repl ei
    refine ⟨v0, h1, ?_⟩
    refine tE.bindS2 r1.r Sb.refl.cons p1 fun kr w H3 _ s3 r3 p3 => ?_
    split at p3
    · rename_i hs
      split at p3
      · rename_i p' ep
        obtain ⟨F3, D3, D4, r3⟩ := r3
        have dk : FDen M H3 kr.fv w := (r3.bor (List.mem_cons_self (a := (w, kr)))).fden r3.fh
        obtain ⟨F4, D5, D6, r4⟩ := r3.r.pop
        obtain ⟨v, L, B, j1, j2, j3, j4, j5⟩ := r4.write hT ei
        rw [h1] at j1
        obtain rfl := Option.some.inj (Option.some.inj j1)
        rcases own_put ep j2 j3 dk j4 hs with ⟨hp, a, vs, n, j, e1, e2, e3, e4, wr⟩ | ⟨hp, a, ho, ho', e1, e2, wr⟩
        · subst e1
          exact hQ a w y H3 (.inl ⟨hp, vs, n, j, e2, e3, e4, p3 σ _ (let ⟨_, _, z⟩ := j5 _ _ _ _ wr; z.r)⟩)
        · subst e1
          exact hQ a w y H3 (.inr ⟨hp, _, e2, p3 σ _ (let ⟨_, _, z⟩ := j5 _ _ _ _ wr; z.r)⟩)
      · exact p3.elim
    · exact p3.elim
theorem js_put (i : Nat) (hu : X.A.units + 1 < cLine) (hk : JE X W k fk) (he : JE X W e fe) (hN : X.N[i]? = some x := by rfl) (hv : Vis X.env.scope x := by first | exact Or.inl rfl | exact Or.inr (Or.inl rfl) | exact Or.inr (Or.inr rfl))
    (hd : (x == ("__debug__" : Str)) = false := by decide) (hcd : (x == ("__classdict__" : Str)) = false := by decide)
    (hs1 : swapsWith e (some (.Subscript (.Name x pos') k tpos)) pos.line X.env = pure false := by rfl)
    (hs : swapsWithSole [.Subscript (.Name x pos') k tpos] e pos.line X.env = pure false := by rfl) (hw : swappedStores [.Subscript (.Name x pos') k tpos] e X.env = pure none := by rfl)
    (h1 : (assignEach [.Subscript (.Name x pos') k tpos] X.env).map (·.2) = [assign (.Subscript (.Name x pos') k tpos) X.env] := by rfl)
    (ha : ∀ v, assign (.Subscript (.Name x pos') k tpos) X.env v = (do
      let ov ← holding [v] (eval (.Name x pos') X.env)
      let iv ← holding [v, ov] (eval k X.env)
      standAt tpos
      holding [v, ov, iv] (setItem ov iv v)
      release [v, ov, iv] []) := by intro _; rfl) :
    JS X W (.Assign [.Subscript (.Name x pos') k tpos] e pos) (dPut i fk fe) := by
  refine PS.imp (PS.or (ps_asg he (pg_sub (pe_var (pos := pos') hN hv hd hcd) hk set_list ha) hs hw h1) (ps_dput hu (pe_var (pos := pos') hN hv hd hcd) hk he hs1)) fun D σ H ⟨G, Z, env, T, hT, r, p⟩ => ?_
  unfold dPut at p
  split at p
  · rename_i q ei
    split at p
    · rename_i hq
      rw [Bool.or_eq_true] at hq
      rcases hq with hq | hq
      · refine .inl (put_run hT ei r p (fun o i y H3 => rSetL o i y H3 fun H4 => D.nx σ H4) fun a w y H3 h => ?_)
        rcases h with ⟨_, vs, n, j, e1, e2, e3, e4⟩ | ⟨hd, _⟩
        · exact ⟨a, vs, n, j, rfl, e1, e2, e3, e4⟩
        · exact (isL_D2 hq hd).elim
      · refine .inr (put_run hT ei r p (fun o i y H3 => ∃ a H4, o = .ref a ∧ DPut H3 a i y H4 ∧ D.nx σ H4) fun a w y H3 h => ?_)
        rcases h with ⟨hl, _⟩ | ⟨_, H4, e1, e2⟩
        · exact (isL_D2 hl hq).elim
        · exact ⟨a, H4, rfl, e1, e2⟩
    · exact p.elim
  · exact p.elim
end
end J
namespace J
open PySem PySem.Spec PyProof.Rows L2
/-! ### sorted -/
def FV.enc (x : FV) : PyData := x.toD.getD .none
def sortFV (xs : List FV) : List FV := xs.mergeSort (PySem.W.dataLe false FV.enc)
def tupD : PyData → Bool
  | .tuple (_ :: _) => true
  | _ => false
def othD : PyData → Bool
  | .none => false
  | .tuple _ => false
  | _ => true
def sortOk (xs : List FV) : Bool := xs.all (fun x => x.toD.isSome) && xs.all (fun x => xs.all fun y => PySem.W.alike x.enc y.enc) && (xs.all (fun x => tupD x.enc) || xs.all fun x => othD x.enc) && decide (xs.length ≤ BIG) && xs.all fun x => decide (x.enc.depth ≤ 60)
def opSorted : List OV → Option OV
  | [o] => o.lst?.bind fun xs => if sortOk xs then some (.ol (sortFV xs)) else none
  | _ => none
/-- a value that stands for the frozen x -/
def SF (M : Str → Option Value) (F : Hp) (u : Value) (x : FV) : Prop := ∃ v, RelV v u ∧ FDen M F x v
theorem sf_of {M : Str → Option Value} {F : Hp} : ∀ {xs : List FV} {vs : List V} {us : List Value}, FDenL M F xs vs → Vals vs us → PySem.W.EachIs (SF M F) us xs
  | [], _, _, d, r => by
    rw [show _ = [] from d] at r
    cases r
    exact .nil
  | x :: xs, _, _, ⟨v, ws, e, d, q⟩, r => by
    rw [e] at r
    cases r with
    | cons r1 r2 => exact .cons ⟨v, r1, d⟩ (sf_of q r2)
theorem of_sf {M : Str → Option Value} {F : Hp} : ∀ {xs : List FV} {us : List Value}, PySem.W.EachIs (SF M F) us xs → ∃ vs, FDenL M F xs vs ∧ Vals vs us
  | [], _, h => by cases h; exact ⟨[], rfl, .nil⟩
  | x :: xs, _, h => by
    cases h with
    | cons h1 h2 =>
      obtain ⟨v, r, d⟩ := h1
      obtain ⟨vs, q1, q2⟩ := of_sf h2
      exact ⟨v :: vs, ⟨v, vs, rfl, d, q1⟩, .cons r q2⟩
theorem tupD_of {d : PyData} (h : tupD d = true) : ∃ x r, d = .tuple (x :: r) := by
  unfold tupD at h
  split at h
  · exact ⟨_, _, rfl⟩
  · cases h
theorem othD_of {d : PyData} (h : othD d = true) : d ≠ .none ∧ ∀ xs, d ≠ .tuple xs := by
  constructor
  · rintro rfl; cases h
  · rintro xs rfl; cases h
section
variable {X : Cx}
theorem sf_reads {pins : List (Addr × Obj)} {σ : Sl} {H F : Hp} {s : Shared} (I : Inv X pins σ H s) (hf : Same F H) : ∀ {xs : List FV} {us : List Value}, xs.all (fun x => x.toD.isSome) = true → PySem.W.EachIs (SF X.mg F) us xs → PySem.W.EachIs (fun u x => ∃ as, Reads s.heap u x.enc as) us xs
  | [], _, _, h => by cases h; exact .nil
  | x :: xs, _, ha, h => by
    cases h with
    | cons h1 h2 =>
      rw [List.all_cons, Bool.and_eq_true] at ha
      obtain ⟨v, r, d⟩ := h1
      refine .cons ?_ (sf_reads I hf ha.2 h2)
      obtain ⟨dd, e⟩ := Option.isSome_iff_exists.mp ha.1
      have : x.enc = dd := by unfold FV.enc; rw [e]; rfl
      rw [this]
      exact Dp.reads I dd v _ ((d.mono hf).dp e) r
theorem sortable_of {xs : List FV} (h : (xs.all (fun x => tupD x.enc) || xs.all fun x => othD x.enc) = true) : PySem.W.Sortable (xs.map FV.enc) := by
  rw [Bool.or_eq_true] at h
  rcases h with h | h
  · refine .inl fun d hd => ?_
    obtain ⟨x, hx, rfl⟩ := List.mem_map.mp hd
    exact tupD_of (List.all_eq_true.mp h x hx)
  · refine .inr fun d hd => ?_
    obtain ⟨x, hx, rfl⟩ := List.mem_map.mp hd
    exact othD_of (List.all_eq_true.mp h x hx)
theorem alike_of {xs : List FV} (h : xs.all (fun x => xs.all fun y => PySem.W.alike x.enc y.enc) = true) : PySem.W.AllAlike (xs.map FV.enc) := by
  intro d hd d' hd'
  obtain ⟨x, hx, rfl⟩ := List.mem_map.mp hd
  obtain ⟨y, hy, rfl⟩ := List.mem_map.mp hd'
  exact List.all_eq_true.mp (List.all_eq_true.mp h x hx) y hy
theorem cj_sorted (hu : X.A.units + 62 < cLine) : CallR X (.builtin "sorted") (rJn X.mg opSorted) := by
  rintro pins s σ H us vs Q I rs ⟨F, os, o, hf, ps, e, k⟩
  unfold opSorted at e
  split at e
  · rename_i q
    obtain ⟨xs, e1, e2⟩ := Option.bind_eq_some_iff.mp e
    split at e2
    · rename_i hs
      cases e2
      obtain ⟨u, rfl, b⟩ := paired1 ps
      obtain ⟨a, ws, rfl, hq, d⟩ := b.lst hf e1
      rw [Vals.ref1 rs]
      obtain ⟨its, rv, hl, hz⟩ := I.list (SqL.of (K := X.K) hq)
      unfold sortOk at hs
      simp only [Bool.and_eq_true] at hs
      obtain ⟨⟨⟨⟨h1, h2⟩, h3⟩, h4⟩, h5⟩ := hs
      have es := sf_of d rv
      refine PySem.W.sorted_data (enc := FV.enc) (bs := xs) hl.isList es (sf_reads I hf h1 es) (alike_of h2) (sortable_of h3) (by rw [big_eq]; exact of_decide_eq_true h4) (fun b hb => ?_) fun out ho eo => ?_
      · have := of_decide_eq_true (List.all_eq_true.mp h5 b hb)
        omega
      · obtain ⟨ys, q1, q2⟩ := of_sf eo
        obtain ⟨ep, he'⟩ := PyProof.Rows.sortedAll_at s.heap its out.toArray
        have hlen : ys.length ≤ sizeLine := by
          rw [q1.length, List.length_mergeSort, big_eq]
          exact of_decide_eq_true h4
        exact ⟨.ref _, upd H (s.heap.objs.size + 1) (.lst ys), I.laid (t' := s.toks) (fun _ _ => PyProof.Rows.sortedAll_old) (Nat.le_succ _) ⟨hlen, out, ep, q2, he'⟩, rfl, k _ _ (New.lst hf (I.hok.fresh (Nat.le_succ _)) q1)⟩
    · cases e2
  · cases e
end
end J
namespace J
open PySem PySem.Spec PyProof.Rows L2
/-! ### the keys of a dict -/
def keyF : Key → FV
  | .inl i => .int i
  | .inr x => .str x
def tKeys (te : TE) (r : List Key → Hp → VK → Prop) : TE := fun σ H Q => te σ H fun x H1 => ∃ d kvs, x = .ref d ∧ Rd H1 d (.dK kvs) ∧ r (kvs.map (·.1)) H1 Q
def rKeysL : List Key → Hp → VK → Prop := fun ks H Q => ∀ p, H p = none → Q (.ref p) (upd H p (.lst (ks.map kV)))
def rKeysS : List Key → Hp → VK → Prop := fun ks H Q => sortOk (ks.map keyF) = true ∧ ∀ ys p, (∀ M F, FDenL M F (sortFV (ks.map keyF)) ys) → H p = none → Q (.ref p) (upd H p (.lst ys))
theorem keyF_den {M : Str → Option Value} {F : Hp} : ∀ ks : List Key, FDenL M F (ks.map keyF) (ks.map kV)
  | [] => rfl
  | .inl i :: ks => ⟨.int i, _, rfl, rfl, keyF_den ks⟩
  | .inr x :: ks => ⟨.str x, _, rfl, rfl, keyF_den ks⟩
theorem keyF_flat {M M' : Str → Option Value} {F F' : Hp} : ∀ {xs : List FV} {vs : List V}, (∀ x ∈ xs, ∃ k, x = keyF k) → FDenL M F xs vs → FDenL M' F' xs vs
  | [], _, _, h => h
  | x :: xs, _, hk, ⟨v, ws, e, d, r⟩ => by
    refine ⟨v, ws, e, ?_, keyF_flat (fun x hx => hk x (List.mem_cons_of_mem _ hx)) r⟩
    obtain ⟨k, rfl⟩ := hk x List.mem_cons_self
    cases k with
    | inl i => exact d
    | inr x => exact d
theorem keyF_reads {h : Heap} {a : Addr} : ∀ {ks : List Key} {us : List Value}, Vals (ks.map kV) us → PySem.W.EachIs (fun v b => ∃ as, Reads h v (FV.enc b) as ∧ a ∉ as) us (ks.map keyF)
  | [], _, r => by cases r; exact .nil
  | .inl i :: ks, _, r => by
    cases r with
    | cons r1 r2 =>
      obtain ⟨t, rfl⟩ := r1
      exact .cons ⟨[], .int i t, by simp⟩ (keyF_reads r2)
  | .inr x :: ks, _, r => by
    cases r with
    | cons r1 r2 =>
      obtain ⟨t, rfl⟩ := r1
      exact .cons ⟨[], .str x t, by simp⟩ (keyF_reads r2)
section
variable {X : Cx} {e : Expr} {te : TE} {p apos cpos pos : Pos}
/-- what a walk over the keys gave, as values of the model -/
theorem keys_of {kvs : List (Key × V)} {vs : List (Key × Value)} {us : Array Value} (rel : KV kvs vs) (h : ItemsOf (fun i v => ∃ k x, vs[i]? = some (k, x) ∧ (mixKind X.prog X.w).is k v = true) us vs.length) : Vals ((kvs.map (·.1)).map kV) us.toList := by
  rw [rel.keys, List.map_map]
  exact L2.keys_at (by rw [Array.length_toList]; exact h.1) fun j v e => h.2 j v (by rw [← Array.getElem?_toList]; exact e)
/-- the view that d.keys() makes -/
abbrev keysView (d : Addr) : Obj := { cls := .type "dict_keys", data := .fields #[.ref d] }
/-- d.keys() by itself: a view of d, and all else as it was -/
theorem ev_view {pins : List (Addr × Obj)} {σ : L2.St} {H : Hp} {s : Shared} {C : List (Key × V) → Hp → Prop} {Q : Value → Shared → Prop} (he : PE X e te) (hbase : attributeBase e "keys" X.env (eval e X.env) = eval e X.env) (hline : (apos.endLine == cpos.line) = true) (I : Inv X pins σ H s)
    (ht : te σ H fun x H1 => ∃ d kvs, x = .ref d ∧ Rd H1 d (.dK kvs) ∧ C kvs H1)
    (q : ∀ (t : Shared) H1 d kvs vs ep, C kvs H1 → KV kvs vs → vs.length ≤ sizeLine → t.heap.DictAt (mixKind X.prog X.w) d vs ep → Inv X pins σ H1 t → Inv X pins σ H1 { t with heap := t.heap.push (keysView d) } → Q (.ref t.heap.objs.size) { t with heap := t.heap.push (keysView d) }) :
    wpAny (model X.prog X.w) X.A (eval (.Call (.Attribute e "keys" apos) [] [] cpos) X.env) Q X.xe s := by
  refine wpAny_Call_method (T := "dict") (id := "dict.keys") hbase rfl hline F.plainAttrs_dict F.slot_dict_keys F.type_dict_keys (thn (he.run pins s σ H _ I ht) ?_)
  rintro u t ⟨_, H1, I1, ru, d, kvs, rfl, hd, c⟩
  cases ru
  have ⟨few, notSys, vs, kv, isD⟩ := dk_rd I1.hok hd
  have ⟨ep, at_d⟩ := isD.dictAt
  rw [Paired.length kv] at few
  have I2 : Inv X pins σ H1 { t with heap := t.heap.push (keysView d) } := I1.kept (t' := t.toks) fun _ _ => Heap.get?_push_of_some _
  have mk := PySem.W.kdl_meets_keys (mixKind X.prog X.w) d notSys
  exact ⟨isD.typeIs, isD.mapOf.noDict, method_meetsIn F.slot_dict_keys F.entry_dict_keys rfl (PySem.evalArgs_none ⟨rfl, isD.typeIs, F.args_dict_keys_1 _, _, mk, ⟨vs, isD⟩, q t H1 d kvs vs ep c kv few at_d I1 I2⟩)⟩
theorem view_ok {t : Shared} {d : Addr} {vs : List (Key × Value)} {ep : Nat} (h : t.heap.DictAt (mixKind X.prog X.w) d vs ep) : PySem.W.KdlKeysView (t.heap.push (keysView d)) t.heap.objs.size d ∧ (t.heap.push (keysView d)).DictAt (mixKind X.prog X.w) d vs ep := ⟨⟨_, Heap.get?_push_size _ rfl, rfl, rfl⟩, h.push _⟩
theorem pe_listKeys (hc : X.calm = true) (he : PE X e te) (hg : Gl X "list") (hm : X.mg "list" = none) (hv : bootBuiltins "list" = some (.type "list")) (hbase : attributeBase e "keys" X.env (eval e X.env) = eval e X.env := by rfl) (hline : (apos.endLine == cpos.line) = true := by rfl)
    (hs : starEach [.Call (.Attribute e "keys" apos) [] [] cpos] X.env = (false, eval (.Call (.Attribute e "keys" apos) [] [] cpos) X.env) :: starEach [] X.env := by rfl) :
    PE X (.Call (.Name "list" p) [.Call (.Attribute e "keys" apos) [] [] cpos] [] pos) (tKeys te rKeysL) := by
  constructor
  intro pins s σ H Q I hq
  refine wpAny_Call_Name_kw (ld_blt I hg hm hv (PyProof.Rows.callWith_type1 ?_ hs rfl))
  rw [hs]
  refine Calls.spliced_cons (ev_view (C := fun kvs H1 => rKeysL (kvs.map fun q : Key × V => q.1) H1 Q) (te := te) he hbase hline I hq fun t H1 d kvs vs ep c kv few at_d I1 I2 => Calls.spliced_nil ?_)
  refine PySem.W.kdl_call (PySem.W.kdl_keys (knd := mixKind X.prog X.w) (kvs := vs) (ep := ep)) (I1.ok.hd hc) (view_ok at_d) few fun h' tk acc c' old isL got => ?_
  have z := size_push' t.heap (keysView d)
  rw [z] at isL ⊢
  have free : H1 (t.heap.objs.size + 1) = none := I1.hok.fresh (Nat.le_succ _)
  refine ⟨.ref _, upd H1 (t.heap.objs.size + 1) (.lst ((kvs.map (·.1)).map kV)), I2.laid (t' := tk) old (Nat.le_of_eq z) ⟨?_, acc.toList, c', keys_of kv got, isL⟩, rfl, c _ free⟩
  rw [List.length_map, List.length_map, Paired.length kv]
  exact few
theorem pe_sortedKeys (hc : X.calm = true) (hu : X.A.units + 62 < cLine) (he : PE X e te) (hg : Gl X "sorted") (hm : X.mg "sorted" = none) (hv : bootBuiltins "sorted" = some (.builtin "sorted")) (hbase : attributeBase e "keys" X.env (eval e X.env) = eval e X.env := by rfl) (hline : (apos.endLine == cpos.line) = true := by rfl)
    (hs : starEach [.Call (.Attribute e "keys" apos) [] [] cpos] X.env = (false, eval (.Call (.Attribute e "keys" apos) [] [] cpos) X.env) :: starEach [] X.env := by rfl) :
    PE X (.Call (.Name "sorted" p) [.Call (.Attribute e "keys" apos) [] [] cpos] [] pos) (tKeys te rKeysS) := by
  constructor
  intro pins s σ H Q I hq
  refine wpAny_Call_Name_kw (ld_blt I hg hm hv (PyProof.Rows.callWith_builtin1 ?_ hs rfl))
  rw [hs]
  refine Calls.spliced_cons (ev_view (C := fun kvs H1 => rKeysS (kvs.map fun q : Key × V => q.1) H1 Q) he hbase hline I hq fun t H1 d kvs vs ep c kv few at_d I1 I2 => Calls.spliced_nil (Calls.call_function_entry kind_sorted plain_sorted entry_sorted (args_sorted1 _) ?_))
  have ⟨can, c⟩ := c
  -- the keys into a list of their own
  unfold Builtin.«sorted»
  refine wpAny_bind (m := checkCount _ _ _ _) (wpAny_pure (wpAny_bind (PySem.W.kdu_collect (A := X.A.in1) (PySem.W.kdl_keys (knd := mixKind X.prog X.w) (kvs := vs) (ep := ep)) (I1.ok.hd hc) (view_ok at_d) few fun h' tk acc old got => ?_)))
  have I3 : Inv X pins σ H1 { t with heap := h', toks := tk } := I2.kept (t' := tk) old
  have ks := keys_of kv got
  have zk : acc.toList.length = ((kvs.map (·.1)).map keyF).length := by
    have e := ks.length
    rw [List.length_map] at e
    rw [List.length_map, ← e]
  have fewF : ((kvs.map (·.1)).map keyF).length ≤ sizeLine := by
    rw [List.length_map, List.length_map, Paired.length kv]
    exact few
  refine wpAny_bind (wpAny_newList ?_ (zk ▸ fewF))
  -- and that list sorted
  have fresh : (h'.push (seqObj "list" acc.toList.toArray 0)).get? h'.objs.size = some (seqObj "list" acc.toList.toArray 0) := Heap.get?_push_size _ rfl
  have can' := can
  simp only [sortOk, Bool.and_eq_true] at can'
  have ⟨⟨⟨⟨_, alike⟩, able⟩, _⟩, units⟩ := can'
  refine wpAny_bind (wpAny_holding (PySem.W.list_sort_data (s := { t with heap := h'.push (seqObj "list" acc.toList.toArray 0), toks := tk }) (enc := FV.enc) fresh (sf_of (M := X.mg) (keyF_den (F := H1) _) ks) (keyF_reads ks) (alike_of alike) (sortable_of able) fewF (fun b hb => ?_) fun out ho eo => ?_))
  · have u := of_decide_eq_true (List.all_eq_true.mp units b hb)
    show X.A.units + 1 + 1 + _ < cLine
    omega
  · have ⟨ys, den, rel⟩ := of_sf eo
    have ⟨c', isL⟩ := sortedHeap_at (vs := acc.toList) (out := out.toArray) fresh
    have flat : ∀ M F, FDenL M F (sortFV ((kvs.map (·.1)).map keyF)) ys := fun M F => keyF_flat (fun x hx => by
      have ⟨k, _, e⟩ := List.mem_map.mp ((List.mergeSort_perm _ _).mem_iff.mp hx)
      exact ⟨k, e.symm⟩) den
    have fewY : ys.length ≤ sizeLine := by
      rw [den.length, List.length_mergeSort]
      exact fewF
    refine wpAny_pure ⟨_, rfl, .ref h'.objs.size, upd H1 h'.objs.size (.lst ys), I3.laid (t' := tk) (fun b u e => ?_) (Nat.le_refl _) ⟨fewY, out, c', rel, isL⟩, rfl, c ys _ flat (I3.hok.fresh (Nat.le_refl _))⟩
    have lt := Heap.lt_size e
    have e2 := Heap.get?_push_of_some (seqObj "list" acc.toList.toArray 0) e
    rwa [← sortedHeap_old (out := out.toArray) (Nat.ne_of_lt lt) (size_push' h' _ ▸ Nat.lt_succ_of_lt lt)] at e2
/-! as derivations -/
def dKeysL (f : DE) : DE := fun env => (f env).bind fun r => match r.ov with
  | .oK kvs => .ok (.st (.ol (kvs.map fun kv => keyF kv.1)))
  | .fz (.dK kvs) => .ok (.st (.ol (kvs.map fun kv => keyF kv.1)))
  | _ => .no
def dKeysS (f : DE) : DE := fun env => (f env).bind fun r => match r.ov with
  | .oK kvs => if sortOk (kvs.map fun kv => keyF kv.1) then .ok (.st (.ol (sortFV (kvs.map fun kv => keyF kv.1)))) else .no
  | .fz (.dK kvs) => if sortOk (kvs.map fun kv => keyF kv.1) then .ok (.st (.ol (sortFV (kvs.map fun kv => keyF kv.1)))) else .no
  | _ => .no
theorem FDenK.keys {M : Str → Option Value} {F : Hp} : ∀ {kvs : List (Key × FV)} {ws : List (Key × V)}, FDenK M F kvs ws → ws.map (·.1) = kvs.map (·.1)
  | [], _, h => by rw [show _ = [] from h]; rfl
  | (k, x) :: r, _, ⟨v, rs, e, _, q⟩ => by rw [e, List.map_cons, List.map_cons, q.keys]
theorem Bor.dK {M : Str → Option Value} {F H : Hp} {o : OV} {u : V} {kvs : List (Key × FV)} (hf : Same F H) (b : Bor M F H o u) (e : o = .oK kvs ∨ o = .fz (.dK kvs)) : ∃ d ws, u = .ref d ∧ H d = some (.dK ws) ∧ ws.map (·.1) = kvs.map (·.1) := by
  rcases e with rfl | rfl
  · obtain ⟨A, ⟨a, ws, e, d, q⟩, c⟩ := b
    exact ⟨a, ws, e, c (a, .dK ws) (by rw [q]; exact List.mem_singleton.mpr rfl), d.keys⟩
  · obtain ⟨A, ⟨⟨a, ws, e, q, d⟩, _⟩, c⟩ := b
    exact ⟨a, ws, e, hf _ _ q, d.keys⟩
theorem keysL_red {W : WX} {f : DE} {σ : Sl} {H : Hp} {Q : VK} (h : tE X.mg W (dKeysL f) σ H Q) : tKeys (tE X.mg W f) rKeysL σ H Q := by
  obtain ⟨G, Z, env, T, r, p⟩ := h
  refine tE.bind r Sb.refl p fun rv v H1 _ s1 ⟨F, C1, C2, r1⟩ p1 => ?_
  have hb : Bor X.mg F H1 rv.ov v := r1.bor List.mem_cons_self
  have fin : ∀ kvs : List (Key × FV), (rv.ov = .oK kvs ∨ rv.ov = .fz (.dK kvs)) → Post X.mg W G Z σ env T Q H1 (.ok (.st (.ol (kvs.map fun kv => keyF kv.1)))) → ∃ d kvs, v = .ref d ∧ Rd H1 d (.dK kvs) ∧ rKeysL (kvs.map (·.1)) H1 Q := fun kvs e p1 => by
    obtain ⟨d, ws, e1, e2, e3⟩ := hb.dK r1.fh e
    refine ⟨d, ws, e1, .inl e2, fun q hq => ?_⟩
    have den : FDenL X.mg F (kvs.map fun kv => keyF kv.1) ((ws.map (·.1)).map kV) := by
      rw [e3]
      have := keyF_den (M := X.mg) (F := F) (kvs.map (·.1))
      rw [List.map_map] at this
      exact this
    have n := New.lst r1.fh hq den
    exact p1 _ _ (let ⟨_, _, n⟩ := n; n.hh) ((r1.new n).sb (Sb.refl.cons.both))
  split at p1
  · rename_i kvs e
    exact fin kvs (.inl e) p1
  · rename_i kvs e
    exact fin kvs (.inr e) p1
  · exact p1.elim
theorem keysS_red {W : WX} {f : DE} {σ : Sl} {H : Hp} {Q : VK} (h : tE X.mg W (dKeysS f) σ H Q) : tKeys (tE X.mg W f) rKeysS σ H Q := by
  obtain ⟨G, Z, env, T, r, p⟩ := h
  refine tE.bind r Sb.refl p fun rv v H1 _ s1 ⟨F, C1, C2, r1⟩ p1 => ?_
  have hb : Bor X.mg F H1 rv.ov v := r1.bor List.mem_cons_self
  have fin : ∀ kvs : List (Key × FV), (rv.ov = .oK kvs ∨ rv.ov = .fz (.dK kvs)) → Post X.mg W G Z σ env T Q H1 (if sortOk (kvs.map fun kv => keyF kv.1) then .ok (.st (.ol (sortFV (kvs.map fun kv => keyF kv.1)))) else .no) → ∃ d kvs, v = .ref d ∧ Rd H1 d (.dK kvs) ∧ rKeysS (kvs.map (·.1)) H1 Q := fun kvs e p1 => by
    obtain ⟨d, ws, e1, e2, e3⟩ := hb.dK r1.fh e
    have em : (ws.map (·.1)).map keyF = kvs.map fun kv => keyF kv.1 := by rw [e3, List.map_map]; rfl
    split at p1
    · rename_i hs
      refine ⟨d, ws, e1, .inl e2, by rw [em]; exact hs, fun ys q hd hq => ?_⟩
      rw [em] at hd
      have n := New.lst r1.fh hq (hd X.mg F)
      exact p1 _ _ (let ⟨_, _, n⟩ := n; n.hh) ((r1.new n).sb (Sb.refl.cons.both))
    · exact p1.elim
  split at p1
  · rename_i kvs e
    exact fin kvs (.inl e) p1
  · rename_i kvs e
    exact fin kvs (.inr e) p1
  · exact p1.elim
theorem je_listKeys {W : WX} {f : DE} (hc : X.calm = true) (he : JE X W e f) (hm : X.mg "list" = none) (hg : Gl X "list" := by rfl) (hv : bootBuiltins "list" = some (.type "list") := by rfl) (hbase : attributeBase e "keys" X.env (eval e X.env) = eval e X.env := by rfl) (hline : (apos.endLine == cpos.line) = true := by rfl)
    (hs : starEach [.Call (.Attribute e "keys" apos) [] [] cpos] X.env = (false, eval (.Call (.Attribute e "keys" apos) [] [] cpos) X.env) :: starEach [] X.env := by rfl) :
    JE X W (.Call (.Name "list" p) [.Call (.Attribute e "keys" apos) [] [] cpos] [] pos) (dKeysL f) := PE.imp (pe_listKeys hc he hg hm hv hbase hline hs) fun σ H Q h => keysL_red h
theorem je_sortedKeys {W : WX} {f : DE} (hc : X.calm = true) (hu : X.A.units + 62 < cLine) (he : JE X W e f) (hm : X.mg "sorted" = none) (hg : Gl X "sorted" := by rfl) (hv : bootBuiltins "sorted" = some (.builtin "sorted") := by rfl) (hbase : attributeBase e "keys" X.env (eval e X.env) = eval e X.env := by rfl) (hline : (apos.endLine == cpos.line) = true := by rfl)
    (hs : starEach [.Call (.Attribute e "keys" apos) [] [] cpos] X.env = (false, eval (.Call (.Attribute e "keys" apos) [] [] cpos) X.env) :: starEach [] X.env := by rfl) :
    JE X W (.Call (.Name "sorted" p) [.Call (.Attribute e "keys" apos) [] [] cpos] [] pos) (dKeysS f) := PE.imp (pe_sortedKeys hc hu he hg hm hv hbase hline hs) fun σ H Q h => keysS_red h
end
end J
namespace J
open PySem PySem.Spec PyProof.Rows L2
/-! ### isinstance -/
def FV.ty? : FV → Option String
  | .non => some "NoneType"
  | .bl _ => some "bool"
  | .int _ => some "int"
  | .str _ => some "str"
  | .tup _ => some "tuple"
  | .tuz _ => some "tuple"
  | .lst _ => some "list"
  | .dK _ => some "dict"
  | .dT _ => some "dict"
  | .scr _ => some "list"
  | _ => none
def OV.ty? : OV → Option String
  | .fz x => x.ty?
  | .ol _ => some "list"
  | .dl _ => some "list"
  | .oK _ => some "dict"
  | .oT _ => some "dict"
  | .dd _ => some "dict"
  | .tp _ => some "tuple"
  | _ => none
def isaT (a T : String) : Bool := a == T || (a == "bool" && T == "int")
def tyNs : List String := ["NoneType", "bool", "int", "str", "tuple", "list", "dict"]
theorem kit_isa : ∀ a ∈ tyNs, ∀ T ∈ tyNs, kitB a T = some (isaT a T) := by decide +kernel
theorem ty_ns {o : OV} {a : String} (h : o.ty? = some a) : a ∈ tyNs := by
  unfold tyNs
  cases o with
  | fz x => cases x <;> simp [OV.ty?, FV.ty?] at h <;> subst h <;> simp
  | _ => simp [OV.ty?] at h <;> subst h <;> simp
theorem Bor.tyX {M : Str → Option Value} {K : PySem.W.Frag} {F H : Hp} {o : OV} {u : V} {a : String} (hf : Same F H) (b : Bor M F H o u) (h : o.ty? = some a) : TyX K H u (.type a) := by
  have d := b.fden hf
  cases o with
  | fz x =>
    cases x with
    | non => cases h; rw [show u = .non from d]; exact .base .non
    | bl c => cases h; rw [show u = .bl c from d]; exact .base (.bl c)
    | int i => cases h; rw [show u = .int i from d]; exact .base (.int i)
    | str x => cases h; rw [show u = .str x from d]; exact .base (.str x)
    | tup xs => cases h; obtain ⟨a, vs, e, q, _⟩ := d; rw [e]; exact .base (.tup q)
    | tuz xs => cases h; obtain ⟨a, vs, o, e, q, _⟩ := d; rw [e]; exact .fTuple q
    | lst xs => cases h; obtain ⟨a, vs, e, q, _⟩ := d; rw [e]; exact .base (.lst q)
    | dK xs => cases h; obtain ⟨a, vs, e, q, _⟩ := d; rw [e]; exact .base (.dK q)
    | dT xs => cases h; obtain ⟨a, vs, e, q, _⟩ := d; rw [e]; exact .base (.dT q)
    | scr xs =>
      cases h
      obtain ⟨a, e, q⟩ := d
      rw [e]
      rcases q with q | ⟨o, q⟩
      · exact .base (.lst q)
      · exact .base (.frz q)
    | ins c fs => cases h
    | exc c => cases h
    | dN ks => cases h
  | ol xs => cases h; obtain ⟨a, vs, e, q, _⟩ := d; rw [e]; exact .base (.lst q)
  | oK xs => cases h; obtain ⟨a, vs, e, q, _⟩ := d; rw [e]; exact .base (.dK q)
  | oT xs => cases h; obtain ⟨a, vs, e, q, _⟩ := d; rw [e]; exact .base (.dT q)
  | dl xs => cases h; obtain ⟨a, vs, e, q, _⟩ := d; rw [e]; exact .base (.lst q)
  | dd xs => cases h; obtain ⟨a, vs, e, q, _⟩ := d; rw [e]; exact .base (.dK q)
  | tp xs => cases h; obtain ⟨a, vs, e, q, _⟩ := d; rw [e]; exact .base (.tup q)
  | ob c fs => cases h
  | oN ks => cases h
def opIsa (Ts : List String) : OV → Option OV := fun o => o.ty?.map fun a => .fz (.bl (Ts.any fun T => isaT a T))
theorem any_kit {K : PySem.W.Frag} {a : String} (ha : a ∈ tyNs) : ∀ {Ts : List String}, (∀ T ∈ Ts, T ∈ tyNs) → PySem.W.kitAny K (.type a) (Ts.map Value.type) = some (Ts.any fun T => isaT a T)
  | [], _ => kitAny_nil
  | T :: Ts, h => kitAny_cons (kit_ty (kit_isa a ha T (h T List.mem_cons_self))) (fun e => by rw [List.any_cons, e, Bool.false_or]; exact any_kit ha fun T hT => h T (List.mem_cons_of_mem _ hT)) fun e => by rw [List.any_cons, e, Bool.true_or]
section
variable {X : Cx} {W : WX} {e : Expr} {f : DE} {p p2 p3 p4 pos : Pos} {t t2 : Str} {T T2 : String}
theorem je_isa (he : JE X W e f) (hm : X.mg "isinstance" = none) (hmt : X.mg t = none) (hT : T ∈ tyNs := by decide) (hv : bootBuiltins t = some (.type T) := by rfl) (hg : Gl X "isinstance" := by rfl) (hgt : Gl X t := by rfl) (hn : t ≠ "__name__" := by decide) (hd : (t == ("__debug__" : Str)) = false := by decide)
    (hs : starEach [e, .Name t p2] X.env = (false, eval e X.env) :: starEach [.Name t p2] X.env := by rfl) (hs2 : starEach [.Name t p2] X.env = (false, eval (.Name t p2) X.env) :: starEach [] X.env := by rfl) (hpl : (backTo pos (starEach [.Name t p2] X.env)).any (·.1) = false := by rfl) (hbi : bootBuiltins "isinstance" = some (.builtin "isinstance") := by rfl) :
    JE X W (.Call (.Name "isinstance" p) [e, .Name t p2] [] pos) (dUn (opIsa [T]) f) := by
  refine PE.imp (pe_callB (call_isi (X := X)) hg hm hbi (pa_cons he (pa_cons (pe_bltn (v := .ty T) hgt hmt hv rfl hn hd) pa_nil hs2) hs) (by decide) (by decide) hs hpl) fun σ H Q ⟨G, Z, env, T2, r, q⟩ => ?_
  refine tE.bind r Sb.refl q fun x u H1 _ s1 ⟨F, C1, C2, r1⟩ p1 => ?_
  obtain ⟨o, eo, k⟩ := r1.fin Sb.refl.cons p1
  obtain ⟨a, ea, eo⟩ := Option.map_eq_some_iff.mp eo
  subst eo
  have b : Bor X.mg F H1 x.ov u := r1.bor List.mem_cons_self
  exact ⟨u, .ty T, .type a, .type T, isaT a T, rfl, .ty T, b.tyX r1.fh ea, kit_ty (kit_isa a (ty_ns ea) T hT), by
    have e : ([T].any fun T => isaT a T) = isaT a T := by simp
    rw [e] at k
    exact k _ _ (New.bl r1.fh)⟩
theorem je_isa2 {kk : Nat} (he : JE X W e f) (hm : X.mg "isinstance" = none) (hmt : X.mg t = none) (hmt2 : X.mg t2 = none) (hT : T ∈ tyNs := by decide) (hT2 : T2 ∈ tyNs := by decide) (hv : bootBuiltins t = some (.type T) := by rfl) (hv2 : bootBuiltins t2 = some (.type T2) := by rfl) (hg : Gl X "isinstance" := by rfl) (hgt : Gl X t := by rfl) (hgt2 : Gl X t2 := by rfl)
    (hn : t ≠ "__name__" := by decide) (hd : (t == ("__debug__" : Str)) = false := by decide) (hn2 : t2 ≠ "__name__" := by decide) (hd2 : (t2 == ("__debug__" : Str)) = false := by decide)
    (hs : starEach [e, .Tuple [.Name t p2, .Name t2 p3] kk p4] X.env = (false, eval e X.env) :: starEach [.Tuple [.Name t p2, .Name t2 p3] kk p4] X.env := by rfl) (hs2 : starEach [.Tuple [.Name t p2, .Name t2 p3] kk p4] X.env = (false, eval (.Tuple [.Name t p2, .Name t2 p3] kk p4) X.env) :: starEach [] X.env := by rfl) (hpl : (backTo pos (starEach [.Tuple [.Name t p2, .Name t2 p3] kk p4] X.env)).any (·.1) = false := by rfl) (hbi : bootBuiltins "isinstance" = some (.builtin "isinstance") := by rfl)
    (ht1 : starEach [.Name t p2, .Name t2 p3] X.env = (false, eval (.Name t p2) X.env) :: starEach [.Name t2 p3] X.env := by rfl) (ht2 : starEach [.Name t2 p3] X.env = (false, eval (.Name t2 p3) X.env) :: starEach [] X.env := by rfl) :
    JE X W (.Call (.Name "isinstance" p) [e, .Tuple [.Name t p2, .Name t2 p3] kk p4] [] pos) (dUn (opIsa [T, T2]) f) := by
  refine PE.imp (pe_callB (call_isiT (X := X)) hg hm hbi (pa_cons he (pa_cons (pe_tup (pa_cons (pe_bltn (v := .ty T) hgt hmt hv rfl hn hd) (pa_cons (pe_bltn (v := .ty T2) hgt2 hmt2 hv2 rfl hn2 hd2) pa_nil ht2) ht1)) pa_nil hs2) hs) (by decide) (by decide) hs hpl) fun σ H Q ⟨G, Z, env, TT, r, q⟩ => ?_
  refine tE.bind r Sb.refl q fun x u H1 _ s1 ⟨F, C1, C2, r1⟩ p1 => ?_
  obtain ⟨o, eo, k⟩ := r1.fin Sb.refl.cons p1
  obtain ⟨a, ea, eo⟩ := Option.map_eq_some_iff.mp eo
  subst eo
  have b : Bor X.mg F H1 x.ov u := r1.bor List.mem_cons_self
  refine ⟨by show 2 ≤ sizeLine; decide, fun p hp => ?_⟩
  have r2 := r1.same (same_upd (o := .tup [.ty T, .ty T2]) hp)
  have b2 : Bor X.mg F (upd H1 p (.tup [.ty T, .ty T2])) x.ov u := r2.bor List.mem_cons_self
  obtain ⟨o, eo2, k2⟩ := r2.fin Sb.refl.cons (p1.later (same_upd hp))
  rw [eo] at eo2
  cases eo2
  exact ⟨u, p, [.ty T, .ty T2], .type a, [.type T, .type T2], [T, T2].any fun T => isaT a T, rfl, upd_same, .cons (.ty T) (.cons (.ty T2) .nil), b2.tyX r2.fh ea, any_kit (ty_ns ea) (Ts := [T, T2]) (fun t ht => by rcases List.mem_cons.mp ht with rfl | ht; exact hT; rw [List.mem_singleton.mp ht]; exact hT2), k2 _ _ (New.bl r2.fh)⟩
end
/-! ### methods of what is built in -/
def rM (M : Str → Option Value) (op : OV → List OV → Option OV) : V → List V → Hp → VK → Prop := fun u us H Q => ∃ F x os o, Same F H ∧ Bor M F H x u ∧ Paired (fun x u => Bor M F H x u) os us ∧ op x os = some o ∧ ∀ v H', New M F H H' o v → Q v H'
def dMeth (ok : OV → Bool) (op : OV → List OV → Option OV) (f : DE) (g : VEnv → Ans (List Rv)) : DE := fun env => (f env).bind fun r => if ok r.ov then (g env).bind fun rs => (Ans.of (op r.ov (rs.map Rv.ov))).map .st else .no
def okStr : OV → Bool
  | .fz (.str _) => true
  | _ => false
def okLst : OV → Bool := fun o => o.lst?.isSome
theorem okStr_ty {M : Str → Option Value} {K : PySem.W.Frag} {F H : Hp} {o : OV} {u : V} (hf : Same F H) (b : Bor M F H o u) (h : okStr o = true) : tyV K "str" u H := by
  unfold okStr at h
  split at h
  · rw [b.str]; exact rfl
  · cases h
theorem okLst_ty {M : Str → Option Value} {K : PySem.W.Frag} {F H : Hp} {o : OV} {u : V} (hf : Same F H) (b : Bor M F H o u) (h : okLst o = true) : tyV K "list" u H := by
  obtain ⟨xs, e⟩ := Option.isSome_iff_exists.mp h
  obtain ⟨a, vs, rfl, q, _⟩ := b.lst hf e
  exact .inl ⟨rfl, vs, SqL.of q⟩
section
variable {X : Cx} {W : WX} {o e : Expr} {es : List Expr} {f : DE} {g : VEnv → Ans (List Rv)} {name : Str} {apos cpos : Pos} {T id : String} {ok : OV → Bool} {op : OV → List OV → Option OV}
theorem je_meth (pa : PlainAttrs T) (slot : Slot T name id) (hty : typeOf (.builtin id) = pure (.type "method_descriptor")) (hm : MtR X id (rM X.mg op)) (ht : ∀ {F H : Hp} {o : OV} {u : V}, Same F H → Bor X.mg F H o u → ok o = true → tyV X.K T u H) (ho : JE X W o f) (ha : JA X W (e :: es) g)
    (hbase : attributeBase o name X.env (eval o X.env) = eval o X.env := by rfl)
    (hfew : ((backTo cpos (starEach (e :: es) X.env)).all (fun x => !x.1) && (backToKw cpos (keywordEach [] X.env)).all (fun x => x.1.isSome)
      && decide ((e :: es).length + ([] : List Keyword).length + (if ([] : List Keyword).isEmpty then 0 else 1) < 30)) = true := by rfl)
    (hline : (apos.endLine == cpos.line) = true := by rfl) (hs : starEach (e :: es) X.env = (false, eval e X.env) :: starEach es X.env := by rfl) (hplain : (backTo cpos (starEach es X.env)).any (·.1) = false := by rfl) :
    JE X W (.Call (.Attribute o name apos) (e :: es) [] cpos) (dMeth ok op f g) := by
  refine PE.imp (pe_bm pa slot hty hm ho ha hbase hfew hline hs hplain) fun σ H Q ⟨G, Z, env, T, r, p⟩ => ?_
  refine tE.bind r Sb.refl p fun rv v H1 _ s1 r1 p1 => ?_
  split at p1
  · rename_i hk
    obtain ⟨F, C1, C2, r1⟩ := r1
    refine ⟨ht r1.fh (r1.bor (List.mem_cons_self (a := (v, rv)))) hk, ?_⟩
    refine tA.bind r1.r Sb.refl.cons p1 fun rs vs H2 _ hl s2 ⟨F2, D1, D2, r2⟩ p2 => ?_
    obtain ⟨o, e, k⟩ := r2.fin (T := T) (Sb.trans (Sb.refl.cons) ⟨vs.zip rs, List.perm_append_comm⟩) p2
    exact ⟨F2, rv.ov, rs.map Rv.ov, o, r2.fh, r2.bor (p := (v, rv)) (List.mem_append_right _ List.mem_cons_self), zip_bor hl fun p hp => r2.bor (List.mem_append_left _ hp), e, k⟩
  · exact p1.elim
end
def opJoin : OV → List OV → Option OV
  | .fz (.str a), [o] => o.seq?.bind fun xs => (strs? xs).bind fun ys => if (ys.map (·.length)).sum + ys.length * a.length ≤ BIG then some (.fz (.str (Txt.join a ys))) else none
  | _, _ => none
theorem mj_join {X : Cx} : MtR X "str.join" (rM X.mg opJoin) := by
  rintro pins s σ H x xs v us Q I rx rs ⟨F, o, os, res, hf, bx, ps, e, k⟩
  unfold opJoin at e
  split at e
  · rename_i a q
    obtain ⟨zs, e1, e⟩ := Option.bind_eq_some_iff.mp e
    obtain ⟨ys, e2, e⟩ := Option.bind_eq_some_iff.mp e
    split at e
    · rename_i hz
      cases e
      obtain ⟨u, rfl, b⟩ := paired1 ps
      obtain ⟨p, vs, rfl, hq, d⟩ := b.seq (K := X.K) hf e1
      exact mt_join pins s σ H x _ v us Q I rx rs ⟨a, p, ys, bx.str, rfl, (by rw [← d.strs? e2]; exact hq), hz, k _ _ (New.str hf)⟩
    · cases e
  · cases e
end J
namespace J
open PySem PySem.Spec PyProof.Rows L2
/-! ### a def that is called; the law's own def -/
structure Cal (P : Program) (w : World) (K : PySem.W.Frag) (mg : Str → Option Value) (base : Heap) (k : Nat) (name : Str) (n : Nat) (m : FM) : Prop where
  ex : ∃ f fd ps, FnOk P w K mg base (L2.CX P w) k f fd ps (spF mg n m) ∧ mg name = some (.ref f) ∧ PySem.W.keepIn K (.ref f) = true ∧ Binds K fd ps []
section
variable {X : Cx} {W : WX} {pos p : Pos} {x : Str} {e : Expr} {es : List Expr} {g : VEnv → Ans (List Rv)} {m : FM} {k kk : Nat} {n : Nat}
theorem je_cal (tk : Takes X W) (C : Cal X.prog X.w X.K X.mg X.base k x n m) (hr : Room kk X.A) (ha : JA X W (e :: es) g) (hk : k ≤ kk := by decide)
    (hl : (e :: es).length = n := by rfl) (hgl : DL g (e :: es).length := by repeat (first | exact dl_nil | refine dl_cons ?_)) (hg : Gl X x := by rfl) (hdb : (x == ("__debug__" : Str)) = false := by decide)
    (he : starEach (e :: es) X.env = (false, eval e X.env) :: starEach es X.env := by rfl) (hpl : (backTo pos (starEach es X.env)).any (·.1) = false := by rfl) : JE X W (.Call (.Name x p) (e :: es) [] pos) (dCall m g) := by
  obtain ⟨f, fd, ps, F, h1, h2, h3⟩ := C.ex
  exact je_call tk F (hr.mono hk) h1 h2 h3 ha hl hgl hg hdb he hpl
end
def spLaw (K : PySem.W.Frag) : Sp := fun vs H Q _ => ∃ (a : Addr) (ns : List Int), vs = [.ref a] ∧ SqL K H a (ns.map V.int) ∧ ns.length ≤ 63 ∧ ∀ H', Q (.bl true) H'
def law0 (n : Nat) (cells : List Int) : VEnv := none :: some (.ol (cells.map .int)) :: List.replicate (n - 2) none
theorem law_r {M : Str → Option Value} {H H1 : Hp} {a p : Addr} {cells : List Int} {σ : Sl} (hs : Same H H1) (hp : H p = none) (h1 : H1 p = some (.lst (cells.map V.int))) : R M (fun _ => none) H H1 (some (.ref a) :: some (.ref p) :: List.replicate n none) (none :: some (.ol (cells.map .int)) :: List.replicate n none) [] := by
  refine ⟨fun _ => none, [(p, .lst (cells.map V.int))], [], Same.refl _, (fun _ _ e => nomatch (show (none : Option HO) = some _ from e)), (fun _ _ e => nomatch (show (none : Option HO) = some _ from e)), hs, .skip (.cons (A := [(p, .lst (cells.map V.int))]) (B := []) ⟨p, _, rfl, FDenL_ints cells, rfl⟩ ?_), .nil, ?_⟩
  · have := env_none (M := M) (F := fun _ => none) (List.replicate n none)
    rw [List.length_replicate] at this
    exact this
  · refine ⟨by simp, fun q hq => ?_, fun q hq => rfl, fun q hq => ?_⟩
    · rw [List.append_nil, List.mem_singleton] at hq; subst hq; exact h1
    · rw [List.append_nil, List.mem_singleton] at hq; subst hq; exact hp
theorem cut_take (ns : List Int) (c : Nat) : cutV (ns.map V.int) none (some (c : Int)) = (ns.take c).map V.int := by
  unfold cutV
  rw [HT.sIx_none, HT.sIx_nat, List.drop_zero, List.map_take, List.length_map, Nat.sub_zero]
  by_cases h : c ≤ ns.length
  · rw [Nat.min_eq_left h]
  · rw [Nat.min_eq_right (by omega), List.take_of_length_le (by rw [List.length_map]; exact Nat.le_refl _), List.take_of_length_le (by rw [List.length_map]; omega)]
section
variable {X : Cx} {W : WX} {c s : Str} {p1 p2 p3 p4 p5 p6 p7 p8 p9 : Pos} {j j2 : Nat} {n : Nat} {rest : List Stmt} {f : DS} {N : List Str}
theorem law_body (hN : X.N = N) (h2 : 2 ≤ N.length) (hb : JSs X W rest f) {te : TE} {e : Expr} (he : PE X e te) (hset : PS X (.Assign [.Name c p1] e p6) (tAsg te (gName 1))) {cells : List Int}
    (hrt : ∃ env, f (law0 N.length cells) = .ok (.rt (.fz (.bl true)) env)) {H : Hp} {a : Addr} {Q : VK} (hQ : ∀ H', Q (.bl true) H')
    (hte : ∀ (Q : VK), (∀ p H1, Same H H1 → H p = none → H1 p = some (.lst (cells.map V.int)) → Q (.ref p) H1) → te (L2.start N [.ref a]) H Q) :
    ∃ t, PSs X (.Assign [.Name c p1] e p6 :: rest) t ∧ t { nx := fun _ H' => Q .non H', rt := Q } (L2.start N [.ref a]) H := by
  refine ⟨_, pss_cons hset hb, ?_⟩
  refine hte _ fun p H1 hs hp h1 => ?_
  obtain ⟨env, er⟩ := hrt
  have es : (L2.start N [.ref a]).set 1 (some (V.ref p)) = some (.ref a) :: some (.ref p) :: List.replicate (N.length - 2) none := by
    unfold L2.start
    obtain ⟨m, hm⟩ : ∃ m, N.length = m + 2 := ⟨N.length - 2, by omega⟩
    rw [hm]
    rfl
  show sJ X.mg W f _ ((L2.start N [.ref a]).set 1 (some (V.ref p))) H1
  rw [es]
  refine ⟨fun _ => none, H, law0 N.length cells, [], (fun _ h => nomatch h), law_r (σ := []) hs hp h1, ?_⟩
  rw [er]
  intro v σ' H' ⟨F, C1, C2, r⟩
  have hb : Bor X.mg F H' (.fz (.bl true)) v := r.bor (p := (v, .st (.fz (.bl true)))) List.mem_cons_self
  have hv : v = .bl true := hb.fden r.fh
  rw [hv]
  exact hQ H'
theorem law_slice {a : Addr} {ns : List Int} {H : Hp} {cc : Nat} (hS : SqL X.K H a (ns.map V.int)) (Q : VK) (h : ∀ p H1, Same H H1 → H p = none → H1 p = some (.lst ((ns.take cc).map V.int)) → Q (.ref p) H1) (h2 : N ≠ []) :
    tSl (rSlL X.K) (tVar 0) tNoPart (tPart (tC (.int (cc : Int)))) (L2.start N [.ref a]) H Q := by
  refine ⟨.ref a, ?_, _, rfl, a, _, rfl, hS, fun p hp => ?_⟩
  · rfl
  · rw [cut_take]
    exact h p _ (same_upd hp) hp upd_same
end
theorem boot_len : bootBuiltins "len" = some (.builtin "len") :=
  PySem.boot_len
theorem boot_list : bootBuiltins "list" = some (.type "list") :=
  PyProof.Rows.boot_list
theorem boot_tuple : bootBuiltins "tuple" = some (.type "tuple") :=
  PyProof.Rows.boot_tuple
theorem boot_sum : bootBuiltins "sum" = some (.builtin "sum") :=
  PyProof.Rows.boot_sum
theorem boot_all : bootBuiltins "all" = some (.builtin "all") :=
  PyProof.Rows.boot_all
theorem boot_ord : bootBuiltins "ord" = some (.builtin "ord") :=
  PyProof.Rows.boot_ord
theorem boot_str : bootBuiltins "str" = some (.type "str") :=
  PyProof.Rows.boot_str
theorem boot_int : bootBuiltins "int" = some (.type "int") :=
  PyProof.Rows.boot_int
theorem boot_sorted : bootBuiltins "sorted" = some (.builtin "sorted") :=
  PyProof.Rows.boot_sorted
theorem boot_isinstance : bootBuiltins "isinstance" = some (.builtin "isinstance") :=
  PyProof.Rows.boot_isinstance
theorem boot_min : bootBuiltins "min" = some (.builtin "min") :=
  PyProof.Rows.boot_min
theorem boot_max : bootBuiltins "max" = some (.builtin "max") :=
  PyProof.Rows.boot_max
theorem boot_bool : bootBuiltins "bool" = some (.type "bool") :=
  PyProof.Rows.boot_bool
theorem boot_dict : bootBuiltins "dict" = some (.type "dict") :=
  PyProof.Rows.boot_dict
theorem boot_set : bootBuiltins "set" = some (.type "set") :=
  PyProof.Rows.boot_set
theorem boot_divmod : bootBuiltins "divmod" = some (.builtin "divmod") :=
  PyProof.Rows.boot_divmod
theorem u1 {k : Nat} {A : Around} (hr : Room k A) : A.units + 1 < cLine := by have := hr.un; omega
theorem u62 {k : Nat} {A : Around} (hr : Room k A) : A.units + 62 < cLine := by have := hr.un; omega
theorem u64 {k : Nat} {A : Around} (hr : Room k A) : A.units + 64 < cLine := by have := hr.un; omega
theorem u10 {k : Nat} {A : Around} (hr : Room k A) : A.units + 10 < cLine := by have := hr.un; omega
theorem u65 {k : Nat} {A : Around} (hr : Room k A) : A.units + 65 < cLine := by have := hr.un; omega
end J
set_option maxHeartbeats 4000000
namespace J
open PySem PySem.Spec PyProof.Rows L2
/-! ### set(a list of ints), sorted(set(..))
`fill_ints`: one walk of the list into the fresh set. `call_set_lstI`: the call of the class around it. -/
section
variable {P : Program} {w : World} {A : Around} {E : Value → Shared → Prop} {s : Shared}
/-- what set.__new__ leaves -/
abbrev E0 (w : World) : Obj := { cls := .type "set", dict := none, data := .set #[] 0 (.fresh 0 0 (!w.params.followText "set-order")) }
theorem intsAt {items : Array Value} {ns : List Int} (r : IntsAre items.toList ns) (z : items.size = ns.length) {i : Nat} {v : Value} (hv : items[i]? = some v) : ∃ k t, ns[i]? = some k ∧ v = .int k t := by
  have hi := (Array.getElem?_eq_some_iff.mp hv).1
  rw [z] at hi
  obtain ⟨t, e⟩ := IntsAre.int_at r i v (by rw [Array.getElem?_toList, hv])
  exact ⟨_, t, List.getElem?_eq_getElem hi, by rw [e, List.getD_eq_getElem?_getD, List.getElem?_eq_getElem hi, Option.getD_some]⟩
/-- the ints of the list at l go into the fresh set at S -/
theorem fill_ints {S l : Addr} {items : Array Value} {ns : List Int} {R : Result → Shared → Prop} (calm : A.handled = none) (hl : s.heap.IsList l items) (hit : IntsAre items.toList ns) (few : ns.length + 1 < scanBound) (hS : s.heap.get? S = some (E0 w)) (ne : S ≠ l)
    (k : ∀ h' tk c, SetR w h' S (fun j => decide (j ∈ ns)) c → c ≤ ns.length → (∀ b o, b ≠ S → s.heap.get? b = some o → h'.get? b = some o) → R (.ok (.ret .none)) { s with heap := h', toks := tk }) :
    wpAny (model P w) A.in1 (Builtin.«set.__init__» ⟨[.ref S, .ref l], []⟩) (fun fin s' => match fin with | .done f => R (.ok f) s' | .again c' => c'.quiet = true ∧ codeAny (model P w) A c' R s') (fun e s' => R (.error e) s') s := by
  have z : items.size = ns.length := by rw [← Array.length_toList]; exact hit.length
  have lS := Heap.lt_size hS
  have hl' := hl
  obtain ⟨ob, at_l, cl, nl, dl⟩ := hl
  have ll := Heap.lt_size at_l
  cases ob with
  | mk cls dict data slots =>
    cases cl
    cases dl
    have sub1 := F.sub_list_set
    have sub2 := F.sub_list_frozenset
    have nd : (Value.type "list" == Value.type "dict") = false := rfl
    unfold Builtin.«set.__init__» noKeywords Builtin.Frozenset.updateFrom
    generalize hPI : pyIter = PI
    wp_walk
    subst hPI
    refine wpAny_pyIter_list hl' (wpAny_bind (wpAny_runValue ?_))
    have walk := (Walks.list (A := A.in1.in1) (by simp [calm]) s.heap.objs.size l (Nat.ne_of_lt ll) items).toS (prog := P) (w := w)
    refine set_update_ints walk S (by simp [Nat.ne_of_lt lS, ne]) ns z few (fun i v => intsAt hit z) _ 0 _ rfl (Nat.zero_le _) ⟨⟨_, Heap.get?_push_size _ rfl, rfl, rfl⟩, hl'.push _⟩ ⟨0, Nat.le_refl 0, setR_new_at (Heap.get?_push_of_some _ hS)⟩ fun s' c m hc hR => ?_
    cases s' with
    | mk h' g d tk os =>
      cases m.gens
      cases m.drawn
      cases m.os
      refine wpAny_pure (wpAny_pure (k h' tk c hR (z ▸ hc) fun b o hb e => m.heap b o ?_ (Heap.get?_push_of_some _ e)))
      simp [hb, Nat.ne_of_lt (Heap.lt_size e)]
theorem call_set_lstI {l : Addr} {items : Array Value} (ns : List Int) {Q : Value → Shared → Prop} (calm : A.handled = none) (hl : s.heap.IsList l items) (hit : IntsAre items.toList ns) (few : ns.length + 1 < scanBound)
    (k : ∀ (h' : Heap) (tk c : Nat), SetR w h' s.heap.objs.size (fun j => decide (j ∈ ns)) c → c ≤ ns.length → (∀ b o, s.heap.get? b = some o → h'.get? b = some o) → Q (.ref s.heap.objs.size) { s with heap := h', toks := tk }) :
    wpAny (model P w) A (call (.type "set") [.ref l]) Q E s := by
  obtain ⟨o, e, _⟩ := id hl
  have inside := Heap.lt_size e
  -- what set.__init__ is to give, and that it gives it
  have init : codeAny (model P w) A.in1 (.call (.builtin "set.__init__") ⟨[.ref s.heap.objs.size, .ref l], []⟩) (wants (fun r t => r = .none ∧ Q (.ref s.heap.objs.size) t) E) { s with heap := s.heap.push (E0 w) } := by
    have hS : (s.heap.push (E0 w)).get? s.heap.objs.size = some (E0 w) := Heap.get?_push_size _ rfl
    refine codeAny_call_builtin F.called_set.init.plain F.entry_set_init (check_set_init_1 ⟨_, hS, rfl⟩ (fill_ints (by simp [calm]) (hl.push _) hit few hS (Nat.ne_of_gt inside) fun h' tk c hR hc old => ⟨rfl, k h' tk c hR hc fun b ob e => ?_⟩))
    exact old b ob (Nat.ne_of_lt (Heap.lt_size e)) (Heap.get?_push_of_some _ e)
  have ⟨_, _, mro⟩ := F.called_set.mro
  have ⟨made, sub, notType, can⟩ := And.intro F.called_set.made (And.intro F.called_set.sub (And.intro F.called_set.notType F.called_set.canCreate))
  have fine := F.typeCall_set_1 (.ref l)
  have ⟨look, bind⟩ := And.intro F.called_set.init.lookup (F.called_set.init.bind (.ref s.heap.objs.size))
  refine wpAny_call (codeAny_of_tree ?_)
  show wpAny _ _ (callAny (.type "set") _) _ _ _
  refine wpAny_pure ⟨Code.quiet_builtin _ (by decide +kernel), codeAny_builtin F.entry_type_call ?_⟩
  rw [Around.under_plain (weight_type_call_type "set" [.ref l] []) rfl]
  repeat any_goals first | assumption | wp_step
  have born : codeAny (model P w) A.in1 (.call (.builtin "set.__new__") ⟨[.type "set", .ref l], []⟩) (wants (fun v t => v = .ref s.heap.objs.size ∧ t = { s with heap := s.heap.push (E0 w) }) E) s := code_set_led1 _ ⟨rfl, rfl⟩
  refine codeAny_mono born fun r t ht => ?_
  match r, ht with
  | .error e, ht => exact ht
  | .ok (.ret v), ⟨ev, et⟩ =>
    subst ev et
    have ty : Shared.TypeIs { s with heap := s.heap.push (E0 w) } (.ref s.heap.objs.size) "set" := ⟨_, Heap.get?_push_size _ rfl, rfl⟩
    repeat any_goals first | assumption | wp_step
    refine codeAny_mono init fun r t ht => ?_
    match r, ht with
    | .error e, ht => exact ht
    | .ok (.ret v), ⟨ev, q⟩ =>
      subst ev
      repeat any_goals first | assumption | wp_step
end
section
variable {X : Cx}
def rSetLI (w : World) (K : PySem.W.Frag) : List V → Hp → VK → Prop := fun xs H Q => ∃ (a : Addr) (ns : List Int), xs = [.ref a] ∧ SqL K H a (ns.map V.int) ∧ ns.length + 1 < scanBound ∧
  ∀ p c, H p = none → c ≤ ns.length → Q (.ref p) (upd H p (SetO w p (fun j => decide (j ∈ ns)) c))
theorem cr_setLI (hc : X.calm = true) : CallR X (.type "set") (rSetLI X.w X.K) := by
  intro pins s σ H xs us Q I r h
  obtain ⟨a, ns, rfl, hs, hb, q⟩ := h
  obtain ⟨its, rv, hl, hz⟩ := I.list hs
  rw [Vals.ref1 r]
  refine call_set_lstI ns (I.ok.hd hc) hl.isList (by simpa using rv.ints) hb fun h' tk c R hcl k => ?_
  exact ⟨.ref _, upd H s.heap.objs.size (SetO X.w s.heap.objs.size (fun j => decide (j ∈ ns)) c), I.laid (t' := tk) k (Nat.le_refl _) (setO_new R), rfl, q _ c (I.hok.fresh (Nat.le_refl _)) hcl⟩
def dedI : List Int → List Int
  | [] => []
  | x :: xs => if x ∈ dedI xs then dedI xs else x :: dedI xs
theorem dedI_mem {x : Int} : ∀ {xs : List Int}, x ∈ dedI xs ↔ x ∈ xs
  | [] => Iff.rfl
  | y :: xs => by
    have ih := dedI_mem (x := x) (xs := xs)
    unfold dedI
    split
    · rename_i h
      rw [ih, List.mem_cons]
      exact ⟨.inr, fun q => q.elim (fun e => by rw [e]; exact dedI_mem.mp h) id⟩
    · rw [List.mem_cons, List.mem_cons, ih]
theorem dedI_nodup : ∀ xs : List Int, (dedI xs).Nodup
  | [] => List.nodup_nil
  | y :: xs => by
    unfold dedI
    split
    · exact dedI_nodup xs
    · rename_i h
      exact List.nodup_cons.mpr ⟨h, dedI_nodup xs⟩
def sortI (ns : List Int) : List Int := (dedI ns).mergeSort (fun a b => decide (a ≤ b))
theorem strictI_eq : ∀ {a b : List Int}, a.Pairwise (· < ·) → b.Pairwise (· < ·) → (∀ x, x ∈ a ↔ x ∈ b) → a = b
  | [], [], _, _, _ => rfl
  | [], y :: b, _, _, h => absurd ((h y).mpr List.mem_cons_self) (by simp)
  | x :: a, [], _, _, h => absurd ((h x).mp List.mem_cons_self) (by simp)
  | x :: a, y :: b, ha, hb, h => by
    rw [List.pairwise_cons] at ha hb
    have e : x = y := by
      rcases List.mem_cons.mp ((h x).mp List.mem_cons_self) with e | h1
      · exact e
      · rcases List.mem_cons.mp ((h y).mpr List.mem_cons_self) with e | h2
        · exact e.symm
        · have q1 := ha.1 y h2; have q2 := hb.1 x h1; omega
    subst e
    rw [strictI_eq ha.2 hb.2 fun z => ?_]
    constructor
    · intro hz
      rcases List.mem_cons.mp ((h z).mp (List.mem_cons_of_mem _ hz)) with e | h1
      · have := ha.1 z hz; omega
      · exact h1
    · intro hz
      rcases List.mem_cons.mp ((h z).mpr (List.mem_cons_of_mem _ hz)) with e | h1
      · have := hb.1 z hz; omega
      · exact h1
theorem sortI_mem {ns : List Int} {x : Int} : x ∈ sortI ns ↔ x ∈ ns := by
  unfold sortI
  rw [(List.mergeSort_perm _ _).mem_iff, dedI_mem]
theorem sortI_lt (ns : List Int) : (sortI ns).Pairwise (· < ·) := by
  have h1 : (sortI ns).Pairwise (fun a b => decide (a ≤ b) = true) := List.pairwise_mergeSort (fun a b c h1 h2 => by simp at *; omega) (fun a b => by simp; omega) _
  have h2 : (sortI ns).Nodup := (List.mergeSort_perm _ _).nodup_iff.mpr (dedI_nodup ns)
  exact (h1.and h2).imp fun {a b} h => by have := of_decide_eq_true h.1; have := h.2; omega
def dSortSet (f : DE) : DE := fun env => (f env).bind fun r => match r.ov.lst?.bind ints? with
  | some ns => if ns.length < 64 then .ok (.st (.ol ((sortI ns).map .int))) else .no
  | none => .no
variable {W : WX} {f : DE} {e : Expr} {p p2 pos pos2 : Pos}
theorem je_sortSet (hc : X.calm = true) (he : JE X W e f) (hm : X.mg "sorted" = none) (hm2 : X.mg "set" = none) (hg : Gl X "sorted" := by rfl) (hg2 : Gl X "set" := by rfl)
    (hs : starEach [.Call (.Name "set" p2) [e] [] pos2] X.env = (false, eval (.Call (.Name "set" p2) [e] [] pos2) X.env) :: starEach [] X.env := by rfl) (hs2 : starEach [e] X.env = (false, eval e X.env) :: starEach [] X.env := by rfl) :
    JE X W (.Call (.Name "sorted" p) [.Call (.Name "set" p2) [e] [] pos2] [] pos) (dSortSet f) := by
  refine PE.imp (pe_callB (cr_sortedSet hc) hg hm boot_sorted (pa_cons (pe_callTy (cr_setLI hc) hg2 hm2 boot_set (pa_cons he pa_nil hs2) (by decide) (by decide) hs2 rfl) pa_nil hs) (by decide) (by decide) hs rfl) fun σ H Q ⟨G, Z, env, T, r, q⟩ => ?_
  refine tE.bind r Sb.refl q fun x u H1 _ s1 ⟨F, C1, C2, r1⟩ p1 => ?_
  split at p1
  · rename_i ns en
    split at p1
    · rename_i hn
      obtain ⟨xs, e1, e2⟩ := Option.bind_eq_some_iff.mp en
      have b : Bor X.mg F H1 x.ov u := r1.bor List.mem_cons_self
      obtain ⟨a, vs, rfl, hq, d⟩ := b.lst r1.fh e1
      have ev := d.ints? e2
      subst ev
      refine ⟨a, ns, rfl, SqL.of hq, by unfold scanBound; omega, fun pp c hp hcl => ?_⟩
      refine ⟨pp, fun j => decide (j ∈ ns), c, rfl, upd_same, by omega, fun ms p3 h1 h2 h3 hp3 => ?_⟩
      have ms_eq : ms = sortI ns := strictI_eq h1 (sortI_lt ns) fun k => by rw [h2, sortI_mem, decide_eq_true_iff]
      subst ms_eq
      have r2 := r1.same (same_upd (o := SetO X.w pp (fun j => decide (j ∈ ns)) c) hp)
      have n := New.lst (M := X.mg) r2.fh hp3 (FDenL_ints (sortI ns))
      exact p1 _ _ ((same_upd hp).trans (let ⟨_, _, n⟩ := n; n.hh)) ((r2.new n).sb (Sb.refl.cons.both))
    · exact p1.elim
  · exact p1.elim
end
end J
set_option maxHeartbeats 4000000
namespace J
open PySem PySem.Spec PyProof.Rows L2
def rowF (r : List Int) : FV := .tup (r.map .int)
theorem rle_total (a b : List Int) : a ≤ b ∨ b ≤ a := List.le_total a b
theorem rle_trans {a b c : List Int} (h : a ≤ b) (h2 : b ≤ c) : a ≤ c := List.le_trans h h2
theorem rle_antisymm {a b : List Int} (h : a ≤ b) (h2 : b ≤ a) : a = b := List.le_antisymm h h2
theorem rlt_irrefl (a : List Int) : ¬ a < a := List.lt_irrefl a
theorem rlt_trans {a b c : List Int} (h : a < b) (h2 : b < c) : a < c := List.lt_trans h h2
theorem rlt_of_le {a b : List Int} (h : a ≤ b) (n : a ≠ b) : a < b := by
  rcases List.le_iff_lt_or_eq.mp h with h | h
  · exact h
  · exact absurd h n
theorem toDL_ints : ∀ r : List Int, FV.toDL (r.map .int) = some (r.map PyData.int)
  | [] => rfl
  | n :: r => by rw [List.map_cons, FV.toDL, toDL_ints r]; rfl
theorem enc_row (r : List Int) : (rowF r).enc = .tuple (r.map .int) := by
  show ((FV.toDL (r.map .int)).map PyData.tuple).getD .none = _
  rw [toDL_ints]
  rfl
theorem toD_row (r : List Int) : (rowF r).toD = some (.tuple (r.map .int)) := by
  show (FV.toDL (r.map .int)).map PyData.tuple = _
  rw [toDL_ints]
  rfl
theorem le_row (a b : List Int) : PySem.W.dataLe false FV.enc (rowF a) (rowF b) = decide (a ≤ b) := by
  have h := congrFun (congrFun (PySem.W.dataLe_rows (x := fun r : List Int => r)) a) b
  rw [← h]
  rw [PySem.W.dataLe_eq, PySem.W.dataLe_eq]
  show (!PySem.W.dataLt (rowF b).enc (rowF a).enc) = (!PySem.W.dataLt (.list (b.map .int)) (.list (a.map .int)))
  rw [enc_row, enc_row, PySem.W.dataLt_list, PySem.W.dataLt_tuple]
theorem alike_row (a b : List Int) : PySem.W.alike (rowF a).enc (rowF b).enc = true := by
  rw [enc_row, enc_row, PySem.W.alike]
  exact PySem.W.alike_ints a b
theorem strictR {l : List (List Int)} (h : l.Pairwise (· ≤ ·)) (n : l.Nodup) : l.Pairwise (· < ·) := (h.and n).imp fun {a b} ⟨h1, h2⟩ => rlt_of_le h1 h2
theorem strict_ext {α : Type} {lt : α → α → Prop} (irr : ∀ a, ¬ lt a a) (tr : ∀ a b c, lt a b → lt b c → lt a c) : ∀ {a b : List α}, a.Pairwise lt → b.Pairwise lt → (∀ x, x ∈ a ↔ x ∈ b) → a = b
  | [], [], _, _, _ => rfl
  | [], y :: b, _, _, h => absurd ((h y).mpr List.mem_cons_self) (by simp)
  | x :: a, [], _, _, h => absurd ((h x).mp List.mem_cons_self) (by simp)
  | x :: a, y :: b, ha, hb, h => by
    rw [List.pairwise_cons] at ha hb
    have e : x = y := by
      rcases List.mem_cons.mp ((h x).mp List.mem_cons_self) with e | h1
      · exact e
      · rcases List.mem_cons.mp ((h y).mpr List.mem_cons_self) with e | h2
        · exact e.symm
        · exact absurd (tr _ _ _ (ha.1 y h2) (hb.1 x h1)) (irr x)
    subst e
    rw [strict_ext irr tr ha.2 hb.2 fun z => ?_]
    constructor
    · intro hz
      rcases List.mem_cons.mp ((h z).mp (List.mem_cons_of_mem _ hz)) with e | h1
      · exact absurd (e ▸ ha.1 z hz) (irr _)
      · exact h1
    · intro hz
      rcases List.mem_cons.mp ((h z).mpr (List.mem_cons_of_mem _ hz)) with e | h1
      · exact absurd (e ▸ hb.1 z hz) (irr _)
      · exact h1
theorem strictR_ext {a b : List (List Int)} (ha : a.Pairwise (· < ·)) (hb : b.Pairwise (· < ·)) (h : ∀ x, x ∈ a ↔ x ∈ b) : a = b := strict_ext rlt_irrefl (fun a b c => rlt_trans) ha hb h
/-! ### sorted(set(a list of tuples of ints)) -/
def dedR : List (List Int) → List (List Int)
  | [] => []
  | x :: xs => if x ∈ dedR xs then dedR xs else x :: dedR xs
theorem dedR_spec : ∀ xs : List (List Int), (dedR xs).Nodup ∧ ∀ x, x ∈ dedR xs ↔ x ∈ xs
  | [] => ⟨List.nodup_nil, fun _ => Iff.rfl⟩
  | y :: ys => by
    have ⟨n, m⟩ := dedR_spec ys
    unfold dedR
    split
    · rename_i h
      refine ⟨n, fun x => ?_⟩
      rw [m, List.mem_cons]
      exact ⟨.inr, fun q => q.elim (fun e => e ▸ (m y).mp h) id⟩
    · rename_i h
      exact ⟨List.nodup_cons.mpr ⟨h, n⟩, fun x => by rw [List.mem_cons, List.mem_cons, m]⟩
def sortR (ks : List (List Int)) : List (List Int) := (dedR ks).mergeSort fun a b => decide (a ≤ b)
theorem sortR_mem {ks : List (List Int)} {x : List Int} : x ∈ sortR ks ↔ x ∈ ks := by
  unfold sortR
  rw [(List.mergeSort_perm _ _).mem_iff, (dedR_spec ks).2]
theorem sortR_lt (ks : List (List Int)) : (sortR ks).Pairwise (· < ·) := by
  refine strictR ?_ ((List.mergeSort_perm _ _).nodup_iff.mpr (dedR_spec ks).1)
  refine List.Pairwise.imp of_decide_eq_true (List.pairwise_mergeSort (le := fun a b : List Int => decide (a ≤ b)) (fun a b c h1 h2 => decide_eq_true (rle_trans (of_decide_eq_true h1) (of_decide_eq_true h2))) (fun a b => ?_) _)
  rw [← Bool.decide_or]
  exact decide_eq_true (rle_total a b)
/-- a list that is one of images in another order is the images of one in another order -/
theorem perm_src {α β : Type} {f : α → β} {as bs : List β} (h : as.Perm bs) : ∀ L, bs = L.map f → ∃ L1 : List α, L1.Perm L ∧ as = L1.map f := by
  induction h with
  | nil =>
    intro L e
    exact ⟨[], by rw [List.map_eq_nil_iff.mp e.symm], rfl⟩
  | cons x _ ih =>
    rintro (_ | ⟨y, L⟩) e
    · cases e
    · obtain ⟨e1, e2⟩ := List.cons.inj e
      have ⟨L1, p, q⟩ := ih L e2
      exact ⟨y :: L1, p.cons y, by rw [List.map_cons, e1, q]⟩
  | swap x y l =>
    rintro (_ | ⟨a, _ | ⟨b, L⟩⟩) e <;> try cases e
    exact ⟨b :: a :: L, .swap _ _ _, rfl⟩
  | trans _ _ ih1 ih2 =>
    intro L e
    have ⟨L2, p2, e2⟩ := ih2 L e
    have ⟨L1, p1, e1⟩ := ih1 L2 e2
    exact ⟨L1, p1.trans p2, e1⟩
theorem reads_ints {P : Program} {w : World} {h : Heap} : ∀ {k : List Int} {us : List Value}, ItemsAre (intKind P w) k us → ReadsAll h us (k.map .int) []
  | [], _, q => by
    cases q
    exact .nil
  | n :: k, _, q => by
    cases q with
    | cons q1 q2 =>
      have ⟨t, e⟩ := Value.isInt_shape q1
      subst e
      exact .cons (.int n t) (reads_ints q2)
theorem reads_tup {P : Program} {w : World} {h : Heap} {k : List Int} {b : Addr} (q : IsT P w h k b) : Reads h (.ref b) (.tuple (k.map .int)) [] :=
  let ⟨_, _, _, ho, hc, hd, hi⟩ := q
  .tuple ho hc hd (reads_ints hi)
/-- each of a list with its image, and of the image something -/
theorem each_of {α : Type} {f : α → Value} {R : Value → α → Prop} : ∀ {L : List α}, (∀ p ∈ L, R (f p) p) → PySem.W.EachIs R (L.map f) L
  | [], _ => .nil
  | p :: L, h => .cons (h p List.mem_cons_self) (each_of fun q hq => h q (List.mem_cons_of_mem _ hq))
theorem each_img {α : Type} {f : α → Value} : ∀ {L : List α} {us : List Value}, PySem.W.EachIs (fun u p => u = f p) us L → us = L.map f
  | [], _, h => by
    cases h
    rfl
  | p :: L, _, h => by
    cases h with
    | cons e r => rw [e, each_img r, List.map_cons]
abbrev encT (p : Addr × List Int) : PyData := .tuple (p.2.map .int)
section
variable {X : Cx}
/-- sorted(s), s a set of tuples of ints, each not empty -/
def rSortedR (K : PySem.W.Frag) (P : Program) (w : World) : List V → Hp → VK → Prop := fun vs H Q => ∃ (a : Addr) (L : List (Addr × List Int)), vs = [V.ref a] ∧ H a = some (SetTO P w a L) ∧ (∀ p ∈ L, SqT K H p.1 (p.2.map V.int) ∧ p.2 ≠ []) ∧
  ∀ (L' : List (Addr × List Int)) (p : Addr), L'.Perm L → (L'.map (·.2)).Pairwise (· < ·) → H p = none → Q (.ref p) (upd H p (.lst (L'.map fun q => V.ref q.1)))
theorem le_encT (p q : Addr × List Int) : PySem.W.dataLe false encT p q = decide (p.2 ≤ q.2) := by
  rw [← le_row, PySem.W.dataLe_eq, PySem.W.dataLe_eq]
  show (!PySem.W.dataLt (encT q) (encT p)) = (!PySem.W.dataLt (rowF q.2).enc (rowF p.2).enc)
  rw [enc_row, enc_row]
theorem cr_sortedR (hc : X.calm = true) (hu : X.A.units + 62 < cLine) : CallR X (.builtin "sorted") (rSortedR X.K X.prog X.w) := by
  rintro pins s σ H _ us Q I r ⟨a, L, rfl, ha, hk, q⟩
  rw [Vals.ref1 r]
  obtain ⟨es, ep, t, R⟩ := SetT0.full (I.hok a _ ha).1 fun p hp => I.isT (hk p hp).1
  have ⟨o, ho, ex, hd⟩ := R.ob
  have few := R.few
  have sz := R.size
  refine Calls.call_function_entry kind_sorted plain_sorted entry_sorted (args_sorted1 _) ?_
  unfold Builtin.«sorted»
  refine wpAny_bind (m := checkCount _ _ _ _) (wpAny_pure (wpAny_bind (collect_set (A := X.A.in1) (I.ok.hd hc) ⟨o, ho, ex.1, hd⟩ R.fits (by unfold scanBound; omega) R.tab.ris R.led fun t out old hz hg hos pm => ?_)))
  have e0 : es.toList.map (·.2) = L.map fun p => Value.ref p.1 := by
    rw [R.rows, rowsOf, List.map_map]
    rfl
  obtain ⟨L1, p1, rfl⟩ := perm_src pm L e0
  have few1 : L1.length < 64 := p1.length_eq ▸ few
  have fewL : L1.length ≤ sizeLine := by rw [sizeLine_eq]; omega
  refine wpAny_bind (wpAny_newList ?_ (by rw [List.length_map]; exact fewL))
  let vs := L1.map fun p => Value.ref p.1
  have fresh : (t.heap.push (seqObj "list" vs.toArray 0)).get? t.heap.objs.size = some (seqObj "list" vs.toArray 0) := Heap.get?_push_size _ rfl
  have isT : ∀ p ∈ L1, IsT X.prog X.w (t.heap.push (seqObj "list" vs.toArray 0)) p.2 p.1 := fun p hp => isT_keep (R.tup p (p1.mem_iff.mp hp)) fun b u e => Heap.get?_push_of_some _ (old b u e)
  refine wpAny_bind (wpAny_holding (PySem.W.list_sort_data (s := { t with heap := t.heap.push (seqObj "list" vs.toArray 0) }) (R := fun u p => u = Value.ref p.1) (enc := encT) fresh (each_of fun _ _ => rfl) (each_of fun p hp => ⟨[], reads_tup (isT p hp), List.not_mem_nil⟩) ?_ ?_ fewL ?_ fun out hl eo => ?_))
  · intro d hd d' hd'
    obtain ⟨p, _, rfl⟩ := List.mem_map.mp hd
    obtain ⟨p', _, rfl⟩ := List.mem_map.mp hd'
    have := alike_row p.2 p'.2
    rwa [enc_row, enc_row] at this
  · refine .inl fun d hd => ?_
    obtain ⟨p, hp, rfl⟩ := List.mem_map.mp hd
    have ne := (hk p (p1.mem_iff.mp hp)).2
    cases e : p.2 with
    | nil => exact absurd e ne
    | cons n k => exact ⟨.int n, k.map .int, by simp only [encT, e, List.map_cons]⟩
  · intro p hp
    rw [encT, PyData.depth, PySem.W.depth_ints]
    show X.A.units + 1 + 1 + _ < cLine
    omega
  · have eq := each_img eo
    have pL : (L1.mergeSort (PySem.W.dataLe false encT)).Perm L := (List.mergeSort_perm _ _).trans p1
    have le : (L1.mergeSort (PySem.W.dataLe false encT)).Pairwise fun p q => p.2 ≤ q.2 := by
      rw [show PySem.W.dataLe false encT = fun p q : Addr × List Int => decide (p.2 ≤ q.2) from funext fun p => funext fun q => le_encT p q]
      refine List.Pairwise.imp of_decide_eq_true (List.pairwise_mergeSort (le := fun p q : Addr × List Int => decide (p.2 ≤ q.2)) (fun a b c h1 h2 => decide_eq_true (rle_trans (of_decide_eq_true h1) (of_decide_eq_true h2))) (fun a b => ?_) _)
      rw [← Bool.decide_or]
      exact decide_eq_true (rle_total a.2 b.2)
    have lt : ((L1.mergeSort (PySem.W.dataLe false encT)).map (·.2)).Pairwise (· < ·) := strictR (List.pairwise_map.mpr le) ((pL.map _).nodup_iff.mpr R.nd)
    generalize L1.mergeSort (PySem.W.dataLe false encT) = L' at eq pL lt
    have ⟨c', isL⟩ := sortedHeap_at (vs := vs) (out := out.toArray) fresh
    have keep : ∀ b u, s.heap.get? b = some u → (sortedHeap (t.heap.push (seqObj "list" vs.toArray 0)) t.heap.objs.size vs out.toArray).get? b = some u := fun b u e => by
      have e1 := old b u e
      have lt := Heap.lt_size e1
      have e2 := Heap.get?_push_of_some (seqObj "list" vs.toArray 0) e1
      rwa [← sortedHeap_old (out := out.toArray) (vs := vs) (Nat.ne_of_lt lt) (size_push' t.heap _ ▸ Nat.lt_succ_of_lt lt)] at e2
    have free : H t.heap.objs.size = none := I.hok.fresh hz
    have fewY : (L'.map fun q => V.ref q.1).length ≤ sizeLine := by
      rw [List.length_map, pL.length_eq, sizeLine_eq]
      omega
    have rel : Vals (L'.map fun q => V.ref q.1) out := by
      rw [eq]
      exact vals_of_refs L'
    refine wpAny_pure ⟨_, rfl, .ref t.heap.objs.size, upd H t.heap.objs.size (.lst (L'.map fun q => V.ref q.1)), ?_, rfl, q L' _ pL lt free⟩
    exact I.call' (ch := []) hos (Un.laid keep hz free) (I.hok.laid keep hz ⟨fewY, out, c', rel, isL⟩) (by show AllBare t.gens; rw [hg]; exact I.bare) nofun
end
def rows? : List FV → Option (List (List Int))
  | [] => some []
  | .tup xs :: r => (ints? xs).bind fun k => (rows? r).map (k :: ·)
  | _ => none
theorem rows_den {M : Str → Option Value} {F : Hp} : ∀ {xs : List FV} {vs : List V} {ks : List (List Int)}, rows? xs = some ks → FDenL M F xs vs → ∃ L : List (Addr × List Int), vs = L.map (fun p => V.ref p.1) ∧ L.map (·.2) = ks ∧ ∀ p ∈ L, F p.1 = some (.tup (p.2.map V.int))
  | [], vs, ks, h, d => by
    cases h
    exact ⟨[], d, rfl, nofun⟩
  | .tup xs :: r, vs, ks, h, d => by
    unfold rows? at h
    obtain ⟨k, e1, h⟩ := Option.bind_eq_some_iff.mp h
    obtain ⟨ks', e2, rfl⟩ := Option.map_eq_some_iff.mp h
    obtain ⟨v, ws, rfl, ⟨a, us, rfl, e3, d1⟩, d2⟩ := d
    obtain ⟨L, rfl, rfl, m⟩ := rows_den e2 d2
    have e4 := d1.ints? e1
    subst e4
    refine ⟨(a, k) :: L, rfl, rfl, fun p hp => ?_⟩
    rcases List.mem_cons.mp hp with rfl | hp
    · exact e3
    · exact m p hp
  | .non :: _, _, _, h, _ | .bl _ :: _, _, _, h, _ | .int _ :: _, _, _, h, _ | .str _ :: _, _, _, h, _ | .tuz _ :: _, _, _, h, _ | .lst _ :: _, _, _, h, _ | .dK _ :: _, _, _, h, _ | .dT _ :: _, _, _, h, _ | .ins _ _ :: _, _, _, h, _ | .exc _ :: _, _, _, h, _ | .scr _ :: _, _, _, h, _ | .dN _ :: _, _, _, h, _ => nomatch h
theorem den_rows {M : Str → Option Value} {F : Hp} : ∀ {L : List (Addr × List Int)}, (∀ p ∈ L, F p.1 = some (.tup (p.2.map V.int))) → FDenL M F ((L.map (·.2)).map rowF) (L.map fun p => V.ref p.1)
  | [], _ => rfl
  | p :: L, h => ⟨_, _, rfl, ⟨p.1, _, rfl, h p List.mem_cons_self, FDenL_ints p.2⟩, den_rows fun q hq => h q (List.mem_cons_of_mem _ hq)⟩
section
variable {X : Cx} {W : WX} {f : DE} {e : Expr} {p p2 pos pos2 : Pos}
def dSortSetT (f : DE) : DE := fun env => (f env).bind fun r => match r.ov.lst?.bind rows? with
  | some ks => if ks.length < 64 ∧ [] ∉ ks then .ok (.st (.ol ((sortR ks).map rowF))) else .no
  | none => .no
theorem je_sortSetT (hc : X.calm = true) (hu : X.A.units + 64 < cLine) (he : JE X W e f) (hm : X.mg "sorted" = none) (hm2 : X.mg "set" = none) (hg : Gl X "sorted" := by rfl) (hg2 : Gl X "set" := by rfl)
    (hs : starEach [.Call (.Name "set" p2) [e] [] pos2] X.env = (false, eval (.Call (.Name "set" p2) [e] [] pos2) X.env) :: starEach [] X.env := by rfl) (hs2 : starEach [e] X.env = (false, eval e X.env) :: starEach [] X.env := by rfl) :
    JE X W (.Call (.Name "sorted" p) [.Call (.Name "set" p2) [e] [] pos2] [] pos) (dSortSetT f) := by
  refine PE.imp (pe_callB (cr_sortedR hc (by omega)) hg hm boot_sorted (pa_cons (pe_callTy (cr_setOfT hc hu) hg2 hm2 boot_set (pa_cons he pa_nil hs2) (by decide) (by decide) hs2 rfl) pa_nil hs) (by decide) (by decide) hs rfl) ?_
  rintro σ H Q ⟨G, Z, env, T, r, q⟩
  refine tE.bind r Sb.refl q fun x u H1 _ s1 ⟨F, C1, C2, r1⟩ p1 => ?_
  split at p1
  case h_2 => exact p1.elim
  case h_1 ks ek =>
    split at p1
    case isFalse => exact p1.elim
    case isTrue few =>
      obtain ⟨xs, e1, e2⟩ := Option.bind_eq_some_iff.mp ek
      have b : Bor X.mg F H1 x.ov u := r1.bor List.mem_cons_self
      obtain ⟨l, vs, rfl, hq, d⟩ := b.lst r1.fh e1
      obtain ⟨L0, rfl, rfl, hF⟩ := rows_den e2 d
      have hT : ∀ p ∈ L0, H1 p.1 = some (.tup (p.2.map V.int)) := fun p hp => r1.fh _ _ (hF p hp)
      refine ⟨l, L0, rfl, SqL.of hq, fun p hp => .inl (.inl (hT p hp)), by simpa using few.1, fun a L ha sub all => ?_⟩
      have same := same_upd (o := SetTO X.prog X.w a L) ha
      refine ⟨a, L, rfl, upd_same, fun p hp => ⟨.inl (.inl (same _ _ (hT p (sub p hp)))), fun e => few.2 (e ▸ List.mem_map_of_mem (sub p hp))⟩, fun L' pp pm lt hpp => ?_⟩
      have r2 := r1.same same
      have eL : L'.map (·.2) = sortR (L0.map (·.2)) := strictR_ext lt (sortR_lt _) fun k => by
        rw [sortR_mem, (pm.map _).mem_iff]
        constructor
        · intro h
          obtain ⟨p, hp, rfl⟩ := List.mem_map.mp h
          exact List.mem_map_of_mem (sub p hp)
        · intro h
          obtain ⟨p, hp, rfl⟩ := List.mem_map.mp h
          exact all p hp
      have den : FDenL X.mg F ((sortR (L0.map (·.2))).map rowF) (L'.map fun q => V.ref q.1) := by
        rw [← eL]
        exact den_rows fun p hp => hF p (sub p (pm.mem_iff.mp hp))
      have n := New.lst (M := X.mg) r2.fh hpp den
      exact p1 _ _ (same.trans (let ⟨_, _, n⟩ := n; n.hh)) ((r2.new n).sb (Sb.refl.cons.both))
end
end J
namespace J
open PySem PySem.Spec PyProof.Rows L2
/-! ### statements that rewrite nothing: what is looked at may stay looked at -/
def sQ (M : Str → Option Value) (W : WX) (f : DS) : TS := fun D σ H => ∃ G Z env T, R M G Z H σ env T ∧ PostS M W G Z T D (f env)
abbrev JQ (X : Cx) (W : WX) (st : Stmt) (f : DS) : Prop := PS X st (sQ X.mg W f)
abbrev JQs (X : Cx) (W : WX) (st : List Stmt) (f : DS) : Prop := PSs X st (sQ X.mg W f)
theorem PostS.seqQ {M : Str → Option Value} {G Z : Hp} {env : VEnv} {T : List (V × Rv)} {W : WX} {D : Ends} {f : DS} {g : DS} (p : PostS M W G Z T D (SO.bind (f env) g)) : PostS M W G Z T { D with nx := sQ M W g D } (f env) := by
  unfold SO.bind at p
  split at p
  · rename_i e e1
    rw [e1]
    exact fun σ' H' r => ⟨G, Z, e, T, r, p⟩
  · rename_i x hx
    cases e : f env with
    | ok s =>
      rw [e] at p hx
      cases s with
      | nx e2 => exact absurd rfl (hx e2)
      | rt o e2 => exact p
      | bk e2 => exact p
      | ct e2 => exact p
    | ex c => rw [e] at p; exact p
    | no => rw [e] at p; exact p
/-- the items of a list of one's own, which stands still -/
def qItems (f : DE) : VEnv → Ans (List FV) := fun env => (f env).bind fun r => Ans.of r.ov.lst?
section
variable {X : Cx} {W : WX} {pos pos' : Pos} {e tg : Expr} {st : Stmt} {rest a b body : List Stmt} {f g fb : DS} {fe : DE} {c : Expr} {fc : DT} {t : TgF} {vs : List Nat}
theorem js_quiet (h : JQ X W st f) : JS X W st f := PS.imp h fun D σ H ⟨G, Z, env, T, _, r, p⟩ => ⟨G, Z, env, T, r, p⟩
theorem jqs_nil : JQs X W [] dSkip := PSs.imp pss_nil fun D σ H ⟨G, Z, env, T, r, p⟩ => p σ H r
theorem jqs_cons (h1 : JQ X W st f) (h2 : JQs X W rest g) : JQs X W (st :: rest) (dSeq f g) := PSs.imp (pss_cons h1 h2) fun D σ H ⟨G, Z, env, T, r, p⟩ => ⟨G, Z, env, T, r, p.seqQ⟩
theorem jqs_one (h1 : JQ X W st f) : JQs X W [st] f := pss_one h1
theorem jq_break : JQ X W (.Break pos) dBrk := PS.imp ps_break fun D σ H ⟨G, Z, env, T, r, p⟩ => p σ H r
theorem jq_continue : JQ X W (.Continue pos) dCt := PS.imp ps_continue fun D σ H ⟨G, Z, env, T, r, p⟩ => p σ H r
theorem jq_ret (he : JE X W e fe) : JQ X W (.Return (some e) pos) (dRet fe) := PS.imp (ps_ret he) fun D σ H ⟨G, Z, env, T, r, p⟩ => tE.bindS r p fun rv v H1 _ s r1 p1 => by
  cases rv with
  | st o => exact p1 v σ H1 r1
  | bo o => exact p1.elim
theorem jq_set (i : Nat) {x : Str} (hN : X.N.Nodup) (he : JE X W e fe) (hi : X.N[i]? = some x := by rfl) (hx : Loc X.env.scope x := by first | exact .inl rfl | exact .inr rfl) (hs : swapsWith e (some (.Name x pos')) pos.line X.env = pure false := by rfl)
    (hf : X.fn x = true ∨ X.env.scope.names.lookup x = some .local := by first | exact .inl rfl | exact .inr rfl) : JQ X W (.Assign [.Name x pos'] e pos) (dSet i fe) :=
  PS.imp (ps_set hN hi hx he hs hf) fun D σ H ⟨G, Z, env, T, r, p⟩ => tE.bindS r p fun rv v H1 _ s r1 p1 => by
    cases rv with
    | st o => exact p1 _ _ (r1.set i)
    | bo o => exact p1.elim
theorem jq_if (hc : JT X W c fc) (ha : JQs X W a f) (hb : JQs X W b g) : JQ X W (.If c a b pos) (dIf fc f g) := by
  refine PS.imp (ps_if hc ha hb) fun D σ H ⟨G, Z, env, T, r, p⟩ => tT.bindS r p fun b H1 _ s r1 p1 => ?_
  cases b with
  | true =>
    rw [if_pos rfl] at p1 ⊢
    exact ⟨G, Z, env, T, r1, p1⟩
  | false =>
    rw [if_neg Bool.false_ne_true] at p1 ⊢
    exact ⟨G, Z, env, T, r1, p1⟩
theorem walk_listR {M : Str → Option Value} {K : PySem.W.Frag} {a : Addr} {r : Rv} {xs : List FV} (e : r.ov.lst? = some xs) : WalkJ M (Itl K a) [(.ref a, r)] xs := fun F H i hf hk => by
  obtain ⟨a', vs, ea, q, d⟩ := (hk _ (List.mem_singleton_self _)).lst hf e
  cases ea
  refine ⟨fun x hx => ?_, fun hi => ⟨vs, SqL.of q, by rw [d.length]; exact hi⟩⟩
  obtain ⟨v, h1, h2⟩ := d.get hx
  refine ⟨⟨vs, v, SqL.of q, h1⟩, fun w H' ⟨e1, e2⟩ => ?_⟩
  have e3 := e2 vs (SqL.of q)
  rw [h1] at e3
  cases e3
  rw [e1]
  exact New.old hf h2
theorem jq_for (hp : PassesOwn (model X.prog X.w) X.A X.env X.xe) (hc : X.calm = true) (he : JE X W e fe) (hg : JG X tg vs t) (hb : JQs X W body fb) (hs : ∀ x, foldedSetIterable e X.env x = pure x := by intro _; rfl) :
    JQ X W (.For tg e body [] pos) (dFor (qItems fe) t fb) := by
  refine PS.imp (ps_for hp hc (pi_list he) hg hb hs) fun D σ H ⟨G, Z, env, T, r, p⟩ => ?_
  have p : PostS X.mg W G Z T D (((fe env).bind fun r => Ans.of r.ov.lst?).bind fun xs => forL t fb xs env) := p
  rw [Ans.bind_assoc] at p
  refine tE.bindS r p fun rv v H1 _ s1 r1 p1 => ?_
  cases el : rv.ov.lst? with
  | none => rw [el] at p1; exact p1.elim
  | some items =>
    rw [el] at p1
    obtain ⟨F, C1, C2, r1⟩ := r1
    obtain ⟨a, ws, rfl, h1, d⟩ := (r1.bor (List.mem_cons_self (a := (v, rv)))).lst r1.fh el
    have wk := walk_listR (M := X.mg) (K := X.K) (a := a) el
    have hp : PostS X.mg W G Z T D (forL t fb items env) := p1
    refine ⟨a, rfl, ⟨ws, SqL.of h1⟩, fun i m σ H => i + m = items.length ∧ ∃ env, R X.mg G Z H σ env ([(.ref a, rv)] ++ T) ∧ PostS X.mg W G Z T D (forL t fb (items.drop i) env), ⟨items.length, by omega, env, r1.r, by rw [List.drop_zero]; exact hp⟩, ?_⟩
    rintro i m σ H ⟨him, env, ⟨F, C1, C2, r⟩, hpost⟩
    obtain ⟨w1, w2⟩ := wk F H i r.fh r.kept
    by_cases hlt : i < items.length
    · obtain ⟨hgo, hy⟩ := w1 items[i] (List.getElem?_eq_getElem hlt)
      rw [List.drop_eq_getElem_cons hlt] at hpost
      have hpost : PostS X.mg W G Z T D (match t items[i] env with
        | some e1 => (fb e1).bind (loopK (forL t fb (items.drop (i + 1))))
        | none => .no) := hpost
      refine .inr ⟨hgo, fun σ' H' => ∃ env', R X.mg G Z H' σ' env' ([(.ref a, rv)] ++ T) ∧ PostS X.mg W G Z T D (forL t fb (items.drop (i + 1)) env'), fun σ' H' ⟨env', r', p'⟩ => ⟨m - 1, by omega, by omega, env', r', p'⟩, fun v H' yl => ?_⟩
      refine ⟨G, Z, env, [(.ref a, rv)] ++ T, items[i], r.new (hy v H' yl), ?_⟩
      cases et : t items[i] env with
      | none => rw [et] at hpost; exact hpost.elim
      | some e1 =>
        rw [et] at hpost
        intro σ' _ r2
        have hpost : PostS X.mg W G Z T D ((fb e1).bind (loopK (forL t fb (items.drop (i + 1))))) := hpost
        refine ⟨G, Z, e1, [(.ref a, rv)] ++ T, r2, ?_⟩
        cases eb : fb e1 with
        | no => rw [eb] at hpost; exact hpost.elim
        | ex c => rw [eb] at hpost; exact hpost
        | ok s =>
          rw [eb] at hpost
          cases s with
          | nx e => exact fun σ3 H3 r3 => ⟨e, r3, hpost⟩
          | ct e => exact fun σ3 H3 r3 => ⟨e, r3, hpost⟩
          | bk e => exact fun σ3 H3 r3 => hpost σ3 H3 (r3.sb sb_app)
          | rt o e => exact fun v σ3 H3 r3 => hpost v σ3 H3 (r3.sb sb_app.both)
    · refine .inl ⟨w2 (by omega), ?_⟩
      rw [List.drop_of_length_le (by omega)] at hpost
      exact hpost σ H (r.r.sb sb_app)
end
end J
namespace J
open PySem PySem.Spec PyProof.Rows L2
/-! ### x[k].append(e), x.extend(e) -/
def OV.sub? (p : OV) (k : FV) : Option OV := match p, k with
  | .dl os, .int i => atI os i
  | .dd kvs, k => k.key?.bind fun k => lookK kvs k
  | _, _ => none
def setK {κ α : Type} [DecidableEq κ] : List (κ × α) → κ → α → List (κ × α)
  | [], _, _ => []
  | p :: r, k, v => if p.1 = k then (p.1, v) :: r else p :: setK r k v
def OV.setAt (p : OV) (k : FV) (o : OV) : OV := match p, k with
  | .dl os, .int i => match ixN os.length i with
    | some j => .dl (os.set j o)
    | none => p
  | .dd kvs, k => match k.key? with
    | some k => .dd (setK kvs k o)
    | none => p
  | _, _ => p
section
variable {M : Str → Option Value} {G Z H F : Hp} {o p p' q q' : OV} {v y : V} {i : Nat} {L B : Cells} {a : Addr} {ho ho' : HO}
theorem OwnL.focus {os : List OV} {vs : List V} (h : OwnL M F os vs L) : ∀ {j : Nat} {q : OV}, os[j]? = some q → ∃ u A Lr, vs[j]? = some u ∧ Own M F q u A ∧ L.Perm (A ++ Lr) ∧ ∀ q' A', Own M F q' u A' → ∃ L', OwnL M F (os.set j q') vs L' ∧ L'.Perm (A' ++ Lr) := by
  induction os generalizing vs L with
  | nil => intro j q h; simp at h
  | cons x os ih =>
    intro j q hj
    obtain ⟨v, ws, A, C, e, d, r, e2⟩ := h
    subst e e2
    cases j with
    | zero =>
      have hj : x = q := by simpa using hj
      subst hj
      exact ⟨v, A, C, rfl, d, .refl _, fun q' A' d' => ⟨A' ++ C, ⟨v, ws, A', C, rfl, d', r, rfl⟩, .refl _⟩⟩
    | succ j =>
      obtain ⟨u, A2, Lr, h1, h2, h3, h4⟩ := ih r (j := j) (by simpa using hj)
      refine ⟨u, A2, A ++ Lr, by simpa using h1, h2, ?_, fun q' A' d' => ?_⟩
      · refine (List.Perm.append_left A h3).trans ?_
        have e1 : A ++ (A2 ++ Lr) = (A ++ A2) ++ Lr := by simp
        have e2 : A2 ++ (A ++ Lr) = (A2 ++ A) ++ Lr := by simp
        rw [e1, e2]
        exact List.perm_append_comm.append_right Lr
      · obtain ⟨L', q1, q2⟩ := h4 q' A' d'
        refine ⟨A ++ L', ⟨v, ws, A, L', rfl, d, q1, rfl⟩, (List.Perm.append_left A q2).trans ?_⟩
        have e1 : A ++ (A' ++ Lr) = (A ++ A') ++ Lr := by simp
        have e2 : A' ++ (A ++ Lr) = (A' ++ A) ++ Lr := by simp
        rw [e1, e2]
        exact List.perm_append_comm.append_right Lr
theorem OwnK.focus {k : Key} {os : List (Key × OV)} {vs : List (Key × V)} (h : OwnK M F os vs L) : ∀ {q : OV}, lookK os k = some q → ∃ u A Lr, valV vs k = some u ∧ Own M F q u A ∧ L.Perm (A ++ Lr) ∧ ∀ q' A', Own M F q' u A' → ∃ L', OwnK M F (setK os k q') vs L' ∧ L'.Perm (A' ++ Lr) := by
  induction os generalizing vs L with
  | nil => intro q h; simp [lookK] at h
  | cons x os ih =>
    intro q hj
    obtain ⟨j, x⟩ := x
    obtain ⟨v, ws, A, C, e, d, r, e2⟩ := h
    subst e e2
    rw [lookK_cons] at hj
    by_cases hjk : j = k
    · rw [if_pos hjk] at hj
      cases hj
      exact ⟨v, A, C, valV_pos hjk, d, .refl _, fun q' A' d' => ⟨A' ++ C, by unfold setK; rw [if_pos hjk]; exact ⟨v, ws, A', C, rfl, d', r, rfl⟩, .refl _⟩⟩
    · rw [if_neg hjk] at hj
      obtain ⟨u, A2, Lr, h1, h2, h3, h4⟩ := ih r hj
      refine ⟨u, A2, A ++ Lr, by rw [valV_neg hjk]; exact h1, h2, ?_, fun q' A' d' => ?_⟩
      · refine (List.Perm.append_left A h3).trans ?_
        have e1 : A ++ (A2 ++ Lr) = (A ++ A2) ++ Lr := by simp
        have e2 : A2 ++ (A ++ Lr) = (A2 ++ A) ++ Lr := by simp
        rw [e1, e2]
        exact List.perm_append_comm.append_right Lr
      · obtain ⟨L', q1, q2⟩ := h4 q' A' d'
        refine ⟨A ++ L', by unfold setK; rw [if_neg hjk]; exact ⟨v, ws, A, L', rfl, d, q1, rfl⟩, (List.Perm.append_left A q2).trans ?_⟩
        have e1 : A ++ (A' ++ Lr) = (A ++ A') ++ Lr := by simp
        have e2 : A' ++ (A ++ Lr) = (A' ++ A) ++ Lr := by simp
        rw [e1, e2]
        exact List.perm_append_comm.append_right Lr
/-- a part rewritten is the whole rewritten -/
theorem wrote_up {b : Addr} {hb : HO} {A Lr L0 : Cells} (hL : L0.Perm (A ++ Lr)) (hw : Wrote M F A B y a ho ho' q') (hup : ∀ A', Own M F q' y A' → ∃ L', Own M F p' v ((b, hb) :: L') ∧ L'.Perm (A' ++ Lr)) : Wrote M F ((b, hb) :: L0) B v a ho ho' p' := by
  obtain ⟨A1, D, A', w1, w2, w3⟩ := hw
  obtain ⟨L', u1, u2⟩ := hup A' w2
  refine ⟨(b, hb) :: (A1 ++ Lr), D, _, ?_, u1, ?_⟩
  · have h1 : L0.Perm ((a, ho) :: (A1 ++ D) ++ Lr) := hL.trans (w1.append_right Lr)
    have h2 : ((a, ho) :: (A1 ++ D) ++ Lr).Perm ((a, ho) :: ((A1 ++ Lr) ++ D)) := by
      refine List.Perm.cons _ ?_
      show ((A1 ++ D) ++ Lr).Perm ((A1 ++ Lr) ++ D)
      rw [List.append_assoc, List.append_assoc]
      exact List.Perm.append_left A1 List.perm_append_comm
    exact ((h1.trans h2).cons _).trans (List.Perm.swap _ _ _)
  · have h1 : L'.Perm ((a, ho') :: (A1 ++ B) ++ Lr) := u2.trans (w3.append_right Lr)
    have h2 : ((a, ho') :: (A1 ++ B) ++ Lr).Perm ((a, ho') :: ((A1 ++ Lr) ++ B)) := by
      refine List.Perm.cons _ ?_
      show ((A1 ++ B) ++ Lr).Perm ((A1 ++ Lr) ++ B)
      rw [List.append_assoc, List.append_assoc]
      exact List.Perm.append_left A1 List.perm_append_comm
    exact ((h1.trans h2).cons _).trans (List.Perm.swap _ _ _)
/-- a part of a value: where it lies, and how the whole is rewritten with it -/
theorem own_sub {k : FV} {w : V} (e : p.sub? k = some q) (h : Own M F p v L) (dk : FDen M H k w) (hH : ∀ c ∈ L, H c.1 = some c.2) :
    ∃ d u A, v = .ref d ∧ Own M F q u A ∧ (∀ c ∈ A, H c.1 = some c.2) ∧ ((p.isL = true ∧ ∃ vs i, w = .int i ∧ H d = some (.lst vs) ∧ atI vs i = some u) ∨ (p.isL = false ∧ ∃ ws k, w = kV k ∧ H d = some (.dK ws) ∧ valV ws k = some u)) ∧
      ∀ q' B a ho ho', Wrote M F A B u a ho ho' q' → Wrote M F L B v a ho ho' (p.setAt k q') := by
  unfold OV.sub? at e
  split at e
  · rename_i os i
    obtain ⟨j, e1, e2⟩ := Option.bind_eq_some_iff.mp e
    obtain ⟨d, vs, L0, ev, r, eL⟩ := h
    subst ev eL
    obtain ⟨u, A, Lr, h1, h2, h3, h4⟩ := r.focus e2
    refine ⟨d, u, A, rfl, h2, fun c hc => hH c (List.mem_cons_of_mem _ (h3.mem_iff.mpr (List.mem_append_left _ hc))), .inl ⟨rfl, vs, i, dk, hH _ List.mem_cons_self, ?_⟩, fun q' B a ho ho' hw => ?_⟩
    · unfold atI
      rw [r.length, e1]
      exact h1
    · refine wrote_up h3 hw fun A' d' => ?_
      obtain ⟨L', u1, u2⟩ := h4 q' A' d'
      refine ⟨L', ?_, u2⟩
      show Own M F (OV.setAt (.dl os) (.int i) q') (.ref d) _
      unfold OV.setAt
      simp only
      rw [e1]
      exact ⟨d, vs, L', rfl, u1, rfl⟩
  · rename_i kvs
    obtain ⟨k', e1, e2⟩ := Option.bind_eq_some_iff.mp e
    obtain ⟨d, ws, L0, ev, r, eL⟩ := h
    subst ev eL
    obtain ⟨u, A, Lr, h1, h2, h3, h4⟩ := r.focus e2
    refine ⟨d, u, A, rfl, h2, fun c hc => hH c (List.mem_cons_of_mem _ (h3.mem_iff.mpr (List.mem_append_left _ hc))), .inr ⟨rfl, ws, k', dk.key e1, hH _ List.mem_cons_self, h1⟩, fun q' B a ho ho' hw => ?_⟩
    refine wrote_up h3 hw fun A' d' => ?_
    obtain ⟨L', u1, u2⟩ := h4 q' A' d'
    refine ⟨L', ?_, u2⟩
    have : OV.setAt (.dd kvs) k q' = .dd (setK kvs k' q') := by
      unfold OV.setAt
      simp only
      rw [e1]
    rw [this]
    exact ⟨d, ws, L', rfl, u1, rfl⟩
  · cases e
end
/-- x[k].append(e) -/
def dAppAt (i : Nat) (fk fe : DE) : DS := fun env => match env[i]? with
  | some (some p) => (fk env).bind fun kr => match p.sub? kr.fv with
    | some q => if q.isL then (fe env).bind fun r => match r with
        | .st o => if q.size < BIG then match q.app o with
          | some q' => .ok (.nx (env.set i (some (p.setAt kr.fv q'))))
          | none => .no
          else .no
        | _ => .no
      else .no
    | none => .no
  | _ => .no
section
variable {X : Cx} {W : WX} {pos pos' apos spos cpos : Pos} {e k : Expr} {f fk fe : DE} {x : Str}
theorem js_appAt (i : Nat) (hu : X.A.units + 1 < cLine) (hk : JE X W k fk) (he : JE X W e fe) (hN : X.N[i]? = some x := by rfl) (hv : Vis X.env.scope x := by first | exact Or.inl rfl | exact Or.inr (Or.inl rfl) | exact Or.inr (Or.inr rfl))
    (hd : (x == ("__debug__" : Str)) = false := by decide) (hcd : (x == ("__classdict__" : Str)) = false := by decide)
    (hs : swapsWith (.Call (.Attribute (.Subscript (.Name x pos') k spos) "append" apos) [e] [] cpos) none pos.line X.env = pure false := by rfl)
    (hbase : attributeBase (.Subscript (.Name x pos') k spos) "append" X.env (eval (.Subscript (.Name x pos') k spos) X.env) = eval (.Subscript (.Name x pos') k spos) X.env := by rfl)
    (hfew : ((backTo cpos (starEach [e] X.env)).all (fun x => !x.1) && (backToKw cpos (keywordEach [] X.env)).all (fun x => x.1.isSome)
      && decide ([e].length + ([] : List Keyword).length + (if ([] : List Keyword).isEmpty then 0 else 1) < 30)) = true := by rfl)
    (hline : (apos.endLine == cpos.line) = true := by rfl) (hst : starEach [e] X.env = (false, eval e X.env) :: starEach [] X.env := by rfl) (hplain : (backTo cpos (starEach [] X.env)).any (·.1) = false := by rfl)
    (hix : PlainIx k := by first | exact fun _ _ => rfl | (intro _ _; rfl)) :
    JS X W (.Expr (.Call (.Attribute (.Subscript (.Name x pos') k spos) "append" apos) [e] [] cpos) pos) (dAppAt i fk fe) := by
  have hpl := PE.or (pe_ix (ix_seq (X := X)) (pe_var (pos := pos') hN hv hd hcd) hk hix (pos := spos)) (pe_dget hu (pe_var (pos := pos') hN hv hd hcd) hk hix (pos := spos))
  refine PS.imp (ps_expr (pe_bm F.plainAttrs_list F.slot_list_append (by rfl) (fun pins s σ H x xs v us Q I r rv q => mt_append pins s σ H x xs v us Q I r rv q) hpl (pa_cons he pa_nil hst) hbase hfew hline hst hplain) hs) fun D σ H ⟨G, Z, env, T, hT, r, p⟩ => ?_
  unfold dAppAt at p
  split at p
  · rename_i q0 ei
    -- which of the two it is
    have main : ∀ Qk : VK, (∀ w H1, (∃ d u, σ[i]? = some (some (.ref d)) ∧ ((q0.isL = true ∧ ∃ vs i, w = .int i ∧ H1 d = some (.lst vs) ∧ atI vs i = some u) ∨ (q0.isL = false ∧ ∃ ws k, w = kV k ∧ H1 d = some (.dK ws) ∧ valV ws k = some u)) ∧
        tyV X.K "list" u H1 ∧ tE X.mg W fe σ H1 fun y H2 => rAppend u [y] H2 fun _ H3 => D.nx σ H3) → Qk w H1) → tE X.mg W fk σ H Qk := by
      intro Qk hQk
      refine tE.bindS r p fun kr w H1 _ s1 r1 p1 => hQk w H1 ?_
      split at p1
      · rename_i q eq
        split at p1
        · rename_i hl
          obtain ⟨F1, D1, D2, r1⟩ := r1
          have dk : FDen X.mg H1 kr.fv w := (r1.bor (List.mem_cons_self (a := (w, kr)))).fden r1.fh
          obtain ⟨F2, D3, D4, r2⟩ := r1.r.pop
          obtain ⟨v, A, Lr, j1, j2, j3, _⟩ := r2.ev.repl ei
          obtain ⟨d, u, A2, e1, o2, c2, k2, _⟩ := own_sub eq j2 dk fun c hc => r2.gd.hp c (List.mem_append_left _ (j3.mem_iff.mpr (List.mem_append_left _ hc)))
          subst e1
          obtain ⟨b, vs0, e3, m3⟩ := own_isL hl o2
          subst e3
          refine ⟨d, .ref b, j1, k2, .inl ⟨rfl, vs0, SqL.of (c2 _ m3)⟩, ?_⟩
          refine tE.bindS r2.r p1 fun rv y H2 _ s2 r3 p3 => ?_
          cases rv with
          | bo o => exact p3.elim
          | st o =>
            simp only at p3
            split at p3
            · rename_i hsz
              split at p3
              · rename_i q' eq'
                obtain ⟨F4, D5, D6, r4⟩ := r3
                obtain ⟨v4, L4, B4, w1, w2, w3, w4, w5⟩ := r4.write hT ei
                rw [j1] at w1
                obtain rfl := Option.some.inj (Option.some.inj w1)
                obtain ⟨d5, u5, A5, e5, o5, c5, k5, up5⟩ := own_sub eq w2 (dk.mono s2) w4
                cases e5
                have eu : u5 = .ref b := by
                  rcases k2 with ⟨_, vs, ii, a1, a2, a3⟩ | ⟨_, ws, kk, a1, a2, a3⟩
                  · rcases k5 with ⟨_, vs', ii', b1, b2, b3⟩ | ⟨_, ws', kk', b1, b2, b3⟩
                    · rw [a1] at b1
                      cases b1
                      rw [s2 _ _ a2] at b2
                      cases b2
                      rw [a3] at b3
                      exact (Option.some.inj b3).symm
                    · rw [s2 _ _ a2] at b2
                      cases b2
                  · rcases k5 with ⟨_, vs', ii', b1, b2, b3⟩ | ⟨_, ws', kk', b1, b2, b3⟩
                    · rw [s2 _ _ a2] at b2
                      cases b2
                    · rw [a1] at b1
                      have := kV_inj b1
                      subst this
                      rw [s2 _ _ a2] at b2
                      cases b2
                      rw [a3] at b3
                      exact (Option.some.inj b3).symm
                subst eu
                obtain ⟨a, vs, e6, m1, m2, wr⟩ := own_app eq' o5 w3
                cases e6
                exact ⟨b, vs, y, rfl, rfl, c5 _ m1, by rw [m2]; exact hsz, p3 σ _ (let ⟨_, _, z⟩ := w5 _ _ _ _ (up5 _ _ _ _ _ wr); z.r)⟩
              · exact p3.elim
            · exact p3.elim
        · exact p1.elim
      · exact p1.elim
    -- the owner's kind tells the road
    obtain ⟨F, C1, C2, r0⟩ := r
    obtain ⟨v, A, Lr, j1, j2, j3, _⟩ := r0.ev.repl ei
    have hH : ∀ c ∈ A, H c.1 = some c.2 := fun c hc => r0.gd.hp c (List.mem_append_left _ (j3.mem_iff.mpr (List.mem_append_left _ hc)))
    by_cases hq : q0.isL = true
    · refine .inl ⟨v, j1, main _ fun w H1 ⟨d, u, h1, h2, h3, h4⟩ => .inl ?_⟩
      rw [j1] at h1
      obtain rfl := Option.some.inj (Option.some.inj h1)
      rcases h2 with ⟨_, vs, ii, a1, a2, a3⟩ | ⟨hn, _⟩
      · exact ⟨d, vs, ii, u, rfl, a1, SqL.of a2, a3, h3, h4⟩
      · rw [hq] at hn; cases hn
    · refine .inr ⟨v, j1, main _ fun w H1 ⟨d, u, h1, h2, h3, h4⟩ => ?_⟩
      rw [j1] at h1
      obtain rfl := Option.some.inj (Option.some.inj h1)
      rcases h2 with ⟨hn, _⟩ | ⟨_, ws, kk, a1, a2, a3⟩
      · exact absurd hn hq
      · subst a1
        exact ⟨d, u, rfl, (by have := DGet.k (k := kk) a2; rwa [a3] at this), h3, h4⟩
  · exact p.elim
end
end J
namespace J
open PySem PySem.Spec PyProof.Rows L2
/-! ### x.extend(e) -/
def dExt (i : Nat) (f : DE) : DS := fun env => match env[i]? with
  | some (some (.ol xs)) => (f env).bind fun r => match r with
    | .st (.fz (.lst zs)) => if xs.length + zs.length ≤ BIG then .ok (.nx (env.set i (some (.ol (xs ++ zs))))) else .no
    | _ => .no
  | _ => .no
section
variable {X : Cx} {W : WX} {pos pos' apos spos cpos : Pos} {e k : Expr} {f fk fe : DE} {x : Str}
theorem js_extend (i : Nat) (he : JE X W e f) (hN : X.N[i]? = some x := by rfl) (hv : Vis X.env.scope x := by first | exact Or.inl rfl | exact Or.inr (Or.inl rfl) | exact Or.inr (Or.inr rfl))
    (hd : (x == ("__debug__" : Str)) = false := by decide) (hcd : (x == ("__classdict__" : Str)) = false := by decide)
    (hs : swapsWith (.Call (.Attribute (.Name x pos') "extend" apos) [e] [] cpos) none pos.line X.env = pure false := by rfl)
    (hbase : attributeBase (.Name x pos') "extend" X.env (eval (.Name x pos') X.env) = eval (.Name x pos') X.env := by rfl)
    (hfew : ((backTo cpos (starEach [e] X.env)).all (fun x => !x.1) && (backToKw cpos (keywordEach [] X.env)).all (fun x => x.1.isSome)
      && decide ([e].length + ([] : List Keyword).length + (if ([] : List Keyword).isEmpty then 0 else 1) < 30)) = true := by rfl)
    (hline : (apos.endLine == cpos.line) = true := by rfl) (hst : starEach [e] X.env = (false, eval e X.env) :: starEach [] X.env := by rfl) (hplain : (backTo cpos (starEach [] X.env)).any (·.1) = false := by rfl) :
    JS X W (.Expr (.Call (.Attribute (.Name x pos') "extend" apos) [e] [] cpos) pos) (dExt i f) := by
  refine PS.imp (ps_expr (pe_bm F.plainAttrs_list F.slot_list_extend (by rfl) (fun pins s σ H x xs v us Q I r rv q => mt_extend pins s σ H x xs v us Q I r rv q) (pe_var hN hv hd hcd) (pa_cons he pa_nil hst) hbase hfew hline hst hplain) hs) fun D σ H ⟨G, Z, env, T, hT, r, p⟩ => ?_
  unfold dExt at p
  split at p
  · rename_i xs ei
    obtain ⟨F, C1, C2, r⟩ := r
    obtain ⟨a0, vs0, k1, k2⟩ := r.isL (p := .ol xs) rfl ei
    refine ⟨_, k1, .inl ⟨rfl, vs0, SqL.of k2⟩, ?_⟩
    refine tE.bindS r.r p fun rv y H1 _ s1 r1 p1 => ?_
    split at p1
    · rename_i zs _
      split at p1
      · rename_i hz
        obtain ⟨F2, D1, D2, r1⟩ := r1
        obtain ⟨b, ws, rfl, hb, dz⟩ := (r1.bor (List.mem_cons_self (a := (y, Rv.st (.fz (.lst zs)))))).lst r1.fh rfl
        obtain ⟨v, L, B, j1, j2, j3, j4, j5⟩ := r1.write hT ei
        rw [k1] at j1
        obtain rfl := Option.some.inj (Option.some.inj j1)
        obtain ⟨a, vs, e1, dd, e2⟩ := j2
        cases e1
        have hB : B = [] := j3.2
        subst hB e2
        refine ⟨a0, b, vs, ws, rfl, rfl, j4 _ (List.mem_singleton.mpr rfl), hb, by rw [dd.length, dz.length, big_eq]; exact hz, p1 σ _ ?_⟩
        obtain ⟨_, _, z⟩ := j5 a0 (.lst vs) (.lst (vs ++ ws)) (.ol (xs ++ zs)) ⟨[], [], _, .refl _, ⟨a0, _, rfl, dd.append dz, rfl⟩, .refl _⟩
        exact z.r
      · exact p1.elim
    · exact p1.elim
  · exact p.elim
def brB (o : OV) (a b : Ans SO) : Ans SO := match o with
  | .fz (.bl c) => if c then a else b
  | _ => .no
theorem brB_no {o : OV} {a b : Ans SO} (h : ¬ ∃ c, o = .fz (.bl c)) : brB o a b = .no := by
  unfold brB
  split
  · exact absurd ⟨_, rfl⟩ h
  · rfl
/-! ### if d.setdefault(k, v) != e: .. -/
def dSetd (i : Nat) (fk fv fe : DE) (opd : OV → OV → Option OV) (a b : DS) : DS := fun env => match env[i]? with
  | some (some (.oK kvs)) => (fk env).bind fun kr => (fv env).bind fun vr => match kr.fv.key?, vr with
    | some k, .st (.fz x) => if kvs.length < BIG then
        (let y := (lookK kvs k).getD x
         let env2 := env.set i (some (.oK (match lookK kvs k with | some _ => kvs | none => kvs ++ [(k, x)])))
         (fe env2).bind fun er => (Ans.of (opd (.fz y) er.ov)).bind fun o => brB o (a env2) (b env2))
      else .no
    | _, _ => .no
  | _ => .no
theorem FDenK.look2 {M : Str → Option Value} {F : Hp} {kvs : List (Key × FV)} {ws : List (Key × V)} (k : Key) (d : FDenK M F kvs ws) {y : FV} {u : V} (e : lookK kvs k = some y) (e2 : valV ws k = some u) : FDen M F y u := by
  rcases d.look k with ⟨x, v, h1, h2, h3⟩ | ⟨h1, _⟩
  · rw [e] at h1
    rw [e2] at h2
    cases h1
    cases h2
    exact h3
  · rw [e] at h1; cases h1
theorem RF.sb' {M : Str → Option Value} {G Z H F : Hp} {σ : Sl} {env : VEnv} {T T' : List (V × Rv)} {C1 C2 : Cells} (r : RF M G Z H F σ env T' C1 C2) (h : Sb T T') : ∃ C4, RF M G Z H F σ env T C1 C4 := by
  obtain ⟨A, hp⟩ := h
  obtain ⟨L', t, hL⟩ := r.tm.perm hp
  obtain ⟨L2, D, t2, h2⟩ := t.sub (List.sublist_append_left T A)
  refine ⟨L2, r.gf, r.fg, r.fh, r.zh, r.ev, t2, ?_⟩
  have g := r.gd.perm (List.Perm.append_left C1 (hL.trans h2))
  rw [← List.append_assoc] at g
  exact g.left
theorem setd_fin {op : CmpOp} {opd : OV → OV → Option OV} (ho : OJ X (compareOp op) opd) {G Z H F : Hp} {σ : Sl} {env : VEnv} {T : List (V × Rv)} {C1 : Cells} {D : Ends} {fa fb : DS} {y : FV} {u : V} (hT : AllSt T) (r : ∃ C2, RF X.mg G Z H F σ env T C1 C2) (du : FDen X.mg F y u)
    (p : PostS X.mg W G Z T D ((fe env).bind fun er => (Ans.of (opd (.fz y) er.ov)).bind fun o => brB o (fa env) (fb env))) :
    tE X.mg W fe σ H fun t H3 => rJ X.mg opd u t H3 fun x H4 => ∃ k, x = .bl k ∧ if k = true then sJ X.mg W fa D σ H4 else sJ X.mg W fb D σ H4 := by
  obtain ⟨C2, r⟩ := r
  have r2 := r.new (New.old r.fh du)
  refine tE.bindS2 r2 Sb.refl.cons p fun er t H3 _ s3 ⟨F6, C6, C7, r6⟩ p3 => ?_
  cases eo : opd (.fz y) er.ov with
  | none => rw [eo] at p3; exact p3.elim
  | some o =>
    rw [eo] at p3
    have b1 : Bor X.mg F6 H3 (.fz y) u := r6.bor (p := (u, .st (.fz y))) (List.mem_cons_of_mem _ List.mem_cons_self)
    have b2 : Bor X.mg F6 H3 er.ov t := r6.bor (p := (t, er)) List.mem_cons_self
    refine ⟨F6, .fz y, er.ov, o, r6.fh, b1, b2, eo, fun v H4 n => ?_⟩
    by_cases hc : ∃ c, o = .fz (.bl c)
    · obtain ⟨c, rfl⟩ := hc
      have p3 : PostS X.mg W G Z T D (if c then fa env else fb env) := p3
      have r7 := r6.new n
      have hv : v = .bl c := by
        obtain ⟨F8, C8, C9, r8⟩ := r7
        exact (r8.bor (p := (v, .st (.fz (.bl c)))) List.mem_cons_self).bl
      have r9 : R X.mg G Z H4 σ env T := r7.sb (Sb.refl.cons.cons.cons)
      refine ⟨c, hv, ?_⟩
      cases c with
      | true => rw [if_pos rfl] at p3 ⊢; exact ⟨G, Z, env, T, hT, r9, p3⟩
      | false => rw [if_neg Bool.false_ne_true] at p3 ⊢; exact ⟨G, Z, env, T, hT, r9, p3⟩
    · exfalso
      have p4 : PostS X.mg W G Z T D (brB o (fa env) (fb env)) := p3
      rw [brB_no hc] at p4
      exact p4
theorem js_ifSetd (i : Nat) {op : CmpOp} {opd : OV → OV → Option OV} {e2 e3 : Expr} {a b : List Stmt} {fa fb : DS} {mpos ifpos : Pos} (ho : OJ X (compareOp op) opd) (hk : JE X W k fk) (hvv : JE X W e2 f) (he : JE X W e3 fe) (ha : JSs X W a fa) (hb : JSs X W b fb) (hm : M2 X (.Name x pos') "setdefault" apos k e2 cpos)
    (hN : X.N[i]? = some x := by rfl) (hv : Vis X.env.scope x := by first | exact Or.inl rfl | exact Or.inr (Or.inl rfl) | exact Or.inr (Or.inr rfl))
    (hd : (x == ("__debug__" : Str)) = false := by decide) (hcd : (x == ("__classdict__" : Str)) = false := by decide) (hmk : behindInMarks op e3 = false := by first | exact nomark _ | rfl) :
    JS X W (.If (.Compare (.Call (.Attribute (.Name x pos') "setdefault" apos) [k, e2] [] cpos) [op] [e3] mpos) a b ifpos) (dSetd i fk f fe opd fa fb) := by
  refine PS.imp (ps_if (pt_cmpR ho (pe_dsetd (pe_var hN hv hd hcd) hk hvv hm) he hmk) ha hb) fun D σ H ⟨G, Z, env, T, hT, r, p⟩ => ?_
  unfold dSetd at p
  split at p
  · rename_i kvs ei
    obtain ⟨F, C1, C2, r⟩ := r
    obtain ⟨v, A, Lr, j1, j2, j3, _⟩ := r.ev.repl ei
    obtain ⟨d, ws, e1, dd, e2⟩ := j2
    subst e1 e2
    have hHd : H d = some (.dK ws) := r.gd.hp (d, .dK ws) (List.mem_append_left _ (j3.mem_iff.mpr (List.mem_append_left _ (List.mem_singleton.mpr rfl))))
    refine ⟨.ref d, j1, d, rfl, .inl ⟨ws, .inl hHd⟩, ?_⟩
    refine tE.bindS r.r p fun kr w H1 _ s1 r1 p1 => ?_
    refine tE.bindS2 r1 Sb.refl.cons p1 fun vr z H2 _ s2 r2 p2 => ?_
    split at p2
    · rename_i kk x' ek _
      split at p2
      · rename_i hz
        obtain ⟨F2, D1, D2, r2⟩ := r2
        have dk : FDen X.mg H2 kr.fv w := (r2.bor (p := (w, kr)) (List.mem_cons_of_mem _ List.mem_cons_self)).fden r2.fh
        have ew : w = kV kk := dk.key ek
        subst ew
        have r3 : R X.mg G Z H2 σ env ((z, .st (.fz x')) :: T) := r2.r.sb (Sb.refl.cons.both)
        obtain ⟨F3, D3, D4, r3⟩ := r3
        obtain ⟨v4, L, B, w1, w2, w3, w4, w5⟩ := r3.write hT ei
        rw [j1] at w1
        obtain rfl := Option.some.inj (Option.some.inj w1)
        obtain ⟨d', ws', e1, dd', e2⟩ := w2
        cases e1
        have hB : B = [] := w3.2
        subst hB e2
        have hH2 : H2 d = some (.dK ws') := w4 _ (List.mem_singleton.mpr rfl)
        have dz : FDen X.mg F3 x' z := w3.1
        refine ⟨ws', kk, hH2, rfl, by rw [dd'.length, big_eq]; exact hz, fun u hu => ?_, fun hn => ?_⟩
        · rcases dd'.look kk with ⟨y, u', h1, h2, h3⟩ | ⟨_, h2⟩
          · rw [hu] at h2
            cases h2
            have henv : env.set i (some (.oK kvs)) = env := by
              apply List.ext_getElem?
              intro n
              by_cases hn : i = n
              · subst hn
                obtain ⟨hlt, _⟩ := List.getElem?_eq_some_iff.mp ei
                rw [List.getElem?_set_self hlt, ei]
              · rw [List.getElem?_set_ne hn]
            simp only [h1, Option.getD_some, henv] at p2
            exact setd_fin ho hT (r3.sb' Sb.refl.cons) h3 p2
          · rw [hu] at h2; cases h2
        · rcases dd'.look kk with ⟨y, u', h1, h2, h3⟩ | ⟨h1, _⟩
          · rw [hn] at h2; cases h2
          · simp only [h1, Option.getD_none] at p2
            have hput : putK ws' kk z = ws' ++ [(kk, z)] := putK_new z hn
            rw [hput]
            obtain ⟨_, _, r5⟩ := w5 d (.dK ws') (.dK (ws' ++ [(kk, z)])) (.oK (kvs ++ [(kk, x')])) ⟨[], [], _, .refl _, ⟨d, _, rfl, dd'.snoc dz, rfl⟩, .refl _⟩
            exact setd_fin ho hT ⟨_, r5⟩ dz p2
      · exact p2.elim
    · exact p2.elim
  · exact p.elim
end
end J
namespace J
open PySem PySem.Spec PyProof.Rows L2
/-! ### dict(d), list.index -/
def opDict : List OV → Option OV
  | [.oK kvs] => some (.oK kvs)
  | [.fz (.dK kvs)] => some (.oK kvs)
  | _ => none
theorem cj_dict {X : Cx} : CallR X (.type "dict") (rJn X.mg opDict) := by
  refine CallR.imp call_dictD fun us H Q ⟨F, os, o, hf, ps, e, k⟩ => ?_
  unfold opDict at e
  split at e
  · cases e
    obtain ⟨u, rfl, b⟩ := paired1 ps
    obtain ⟨A, ⟨a, ws, e, d, q⟩, c⟩ := b
    subst e q
    exact ⟨a, ws, rfl, .inl (c (a, .dK ws) (List.mem_singleton.mpr rfl)), fun p hp => k _ _ (New.dK hf hp d)⟩
  · cases e
    obtain ⟨u, rfl, b⟩ := paired1 ps
    obtain ⟨A, ⟨⟨a, ws, e, q, d⟩, _⟩, c⟩ := b
    subst e
    exact ⟨a, ws, rfl, .inl (hf _ _ q), fun p hp => k _ _ (New.dK hf hp d)⟩
  · cases e
def opIndex : OV → List OV → Option OV
  | x, [y] => match x.lst?, y.fv.toD with
    | some xs, some d => match FV.toDL xs with
      | some ds => if SeqAt.shaped (.list ds) && SeqAt.shaped d then (ds.findIdx? fun z => PyData.eqv z d).map fun j => .fz (.int (j : Nat)) else none
      | none => none
    | _, _ => none
  | _, _ => none
theorem mj_index {X : Cx} (hu : X.A.units + 65 < cLine) : MtR X "list.index" (rM X.mg opIndex) := by
  rintro pins s σ H x xs v us Q I rx rs ⟨F, o, os, res, hf, bx, ps, e, k⟩
  unfold opIndex at e
  split at e
  · rename_i y
    split at e
    · rename_i zs d e1 e2
      split at e
      · rename_i ds e3
        split at e
        · rename_i hs
          rw [Bool.and_eq_true] at hs
          obtain ⟨j, ej, e4⟩ := Option.map_eq_some_iff.mp e
          subst e4
          obtain ⟨u, rfl, b⟩ := paired1 ps
          obtain ⟨a, vs, rfl, hq, dd⟩ := bx.lst hf e1
          obtain ⟨hj, hj2, hj3⟩ := List.findIdx?_eq_some_iff_getElem.mp ej
          refine mt_indexD hu pins s σ H _ _ v us Q I rx rs ⟨a, u, d, ds, j, ds[j], rfl, rfl, .lst (SqL.of hq) (FDenL.dp (dd.mono hf) e3), FDen.dp (b.fden hf) e2, hs.1, hs.2, List.getElem?_eq_getElem hj, hj2, fun m z' hm hz => ?_, k _ _ (New.int hf)⟩
          obtain ⟨hml, rfl⟩ := List.getElem?_eq_some_iff.mp hz
          have := hj3 m hm
          simpa using this
        · cases e
      · cases e
    · cases e
  · cases e
end J
namespace J
open PySem PySem.Spec PyProof.Rows L2
/-! ### tuples that are known to have no dict of their own; their index -/
def opTupY : List OV → Option OV
  | [x] => x.lst?.map fun xs => match xs with
    | [] => .fz (.tup [])
    | y :: ys => .fz (.tuz (y :: ys))
  | _ => none
theorem cj_tupY {X : Cx} (hc : X.calm = true) : CallR X (.type "tuple") (rJn X.mg opTupY) := by
  intro pins s σ H xs us Q I r h
  obtain ⟨F, os, o, hf, ps, e, k⟩ := h
  unfold opTupY at e
  split at e
  · rename_i x
    obtain ⟨ys, e1, e2⟩ := Option.map_eq_some_iff.mp e
    cases ys with
    | nil =>
      subst e2
      refine cj_tup hc pins s σ H xs us Q I r ⟨F, _, .fz (.tup []), hf, ps, ?_, k⟩
      unfold opTup
      split
      · rename_i z hz; injection hz with hz; subst hz; cases e1
      · rename_i y hz; injection hz with hz; subst hz; rw [e1]; rfl
      · rename_i h1 h2; exact absurd rfl (h2 x)
    | cons y ys =>
      subst e2
      exact cj_tupZ pins s σ H xs us Q I r ⟨F, _, _, hf, ps, by show (x.lst?).map (fun xs => OV.fz (.tuz xs)) = _; rw [e1]; rfl, k⟩
  · cases e
def okTuz : OV → Bool
  | .fz (.tuz _) => true
  | _ => false
def opIndexZ : OV → List OV → Option OV
  | .fz (.tuz xs), [.fz (.str k)] => (strs? xs).bind fun ys => (ys.findIdx? fun z => decide (z = k)).map fun j => .fz (.int (j : Nat))
  | _, _ => none
theorem mj_indexZ {X : Cx} : MtR X "tuple.index" (rM X.mg opIndexZ) := by
  rintro pins s σ H x xs v us Q I rx rs ⟨F, o, os, res, hf, bx, ps, e, k⟩
  unfold opIndexZ at e
  split at e
  · rename_i zs kk
    obtain ⟨ys, e1, e⟩ := Option.bind_eq_some_iff.mp e
    obtain ⟨j, ej, e2⟩ := Option.map_eq_some_iff.mp e
    subst e2
    obtain ⟨u, rfl, b⟩ := paired1 ps
    obtain ⟨p, vs, ob, rfl, h1, h2, h3, d⟩ := bx.fz
    have hu := b.str
    subst hu
    have ev := d.strs? e1
    subst ev
    obtain ⟨hj, hj2, hj3⟩ := List.findIdx?_eq_some_iff_getElem.mp ej
    refine mt_tup_index pins s σ H _ _ v us Q I rx rs ⟨p, ys, kk, j, rfl, rfl, .inl (.inr ⟨ob, hf _ _ h1⟩), ?_, fun m hm hz => ?_, k _ _ (New.int hf)⟩
    · rw [List.getElem?_eq_getElem hj]
      congr 1
      exact of_decide_eq_true hj2
    · obtain ⟨hml, e5⟩ := List.getElem?_eq_some_iff.mp hz
      have := hj3 m hm
      rw [e5] at this
      simp at this
  · cases e
section
variable {X : Cx} {W : WX} {o e : Expr} {es : List Expr} {to : TE} {t : TA} {f : DE} {g : VEnv → Ans (List Rv)} {name : Str} {apos cpos : Pos} {id : String} {r : V → List V → Hp → VK → Prop}
def tBMZ (r : V → List V → Hp → VK → Prop) (to : TE) (t : TA) : TE := fun σ H Q => to σ H fun x H1 => (∃ p ob vs, x = .ref p ∧ H1 p = some (.frz ob (.tup vs)) ∧ ob.cls = .type "tuple" ∧ ob.dict = none) ∧ t σ H1 fun xs H2 => r x xs H2 Q
theorem pe_bmZ (slot : Slot "tuple" name id) (hty : typeOf (.builtin id) = pure (.type "method_descriptor")) (hm : MtR X id r) (ho : PE X o to) (ha : PA X (e :: es) t)
    (hbase : attributeBase o name X.env (eval o X.env) = eval o X.env)
    (hfew : ((backTo cpos (starEach (e :: es) X.env)).all (fun x => !x.1) && (backToKw cpos (keywordEach [] X.env)).all (fun x => x.1.isSome)
      && decide ((e :: es).length + ([] : List Keyword).length + (if ([] : List Keyword).isEmpty then 0 else 1) < 30)) = true)
    (hline : (apos.endLine == cpos.line) = true) (hs : starEach (e :: es) X.env = (false, eval e X.env) :: starEach es X.env) (hplain : (backTo cpos (starEach es X.env)).any (·.1) = false) :
    PE X (.Call (.Attribute o name apos) (e :: es) [] cpos) (tBMZ r to t) := by
  refine ⟨fun pins s σ H Q I h => ?_⟩
  refine wpAny_Call_method_late hbase hfew hline rfl (thn (ho.run pins s σ H _ I h) fun v s1 ⟨x, H1, I1, r1, ty, q1⟩ => ?_)
  obtain ⟨p, ob, vs, rfl, h1, h2, h3⟩ := ty
  cases r1
  obtain ⟨hg, _⟩ := I1.hok p _ h1
  refine ⟨"tuple", id, PySem.F.plainAttrs_tuple, slot, hty, ⟨ob, hg, h2⟩, fun a e => ?_, ?_⟩
  · cases e
    exact ⟨ob, hg, h3⟩
  have hA := ha.run cpos pins s1 σ H1 _ I1 q1
  rw [hs] at hA ⊢
  refine Calls.callWith_builtin (by show (false || (backTo cpos (starEach es X.env)).any (·.1)) = false; rw [hplain] <;> rfl) (Calls.evalArgs_plain ?_)
  exact thn hA fun us s2 ⟨vs, H2, I2, r2, q2⟩ => hm pins s2 σ H2 (V.ref p) vs _ us Q I2 rfl r2 q2
theorem je_methZ {op : OV → List OV → Option OV} (slot : Slot "tuple" name id) (hty : typeOf (.builtin id) = pure (.type "method_descriptor")) (hm : MtR X id (rM X.mg op)) (ho : JE X W o f) (ha : JA X W (e :: es) g)
    (hbase : attributeBase o name X.env (eval o X.env) = eval o X.env)
    (hfew : ((backTo cpos (starEach (e :: es) X.env)).all (fun x => !x.1) && (backToKw cpos (keywordEach [] X.env)).all (fun x => x.1.isSome)
      && decide ((e :: es).length + ([] : List Keyword).length + (if ([] : List Keyword).isEmpty then 0 else 1) < 30)) = true)
    (hline : (apos.endLine == cpos.line) = true) (hs : starEach (e :: es) X.env = (false, eval e X.env) :: starEach es X.env) (hplain : (backTo cpos (starEach es X.env)).any (·.1) = false) :
    JE X W (.Call (.Attribute o name apos) (e :: es) [] cpos) (dMeth okTuz op f g) := by
  refine PE.imp (pe_bmZ slot hty hm ho ha hbase hfew hline hs hplain) fun σ H Q ⟨G, Z, env, T, r, p⟩ => ?_
  refine tE.bind r Sb.refl p fun rv v H1 _ s1 r1 p1 => ?_
  split at p1
  · rename_i hk
    obtain ⟨F, C1, C2, r1⟩ := r1
    have b : Bor X.mg F H1 rv.ov v := r1.bor (List.mem_cons_self (a := (v, rv)))
    refine ⟨?_, ?_⟩
    · unfold okTuz at hk
      split at hk
      · rename_i zs ez
        rw [ez] at b
        obtain ⟨p, vs, ob, rfl, h1, h2, h3, d⟩ := b.fz
        exact ⟨p, ob, vs, rfl, r1.fh _ _ h1, h2, h3⟩
      · cases hk
    refine tA.bind r1.r Sb.refl.cons p1 fun rs vs H2 _ hl s2 ⟨F2, D1, D2, r2⟩ p2 => ?_
    obtain ⟨o, e, k⟩ := r2.fin (T := T) (Sb.trans (Sb.refl.cons) ⟨vs.zip rs, List.perm_append_comm⟩) p2
    exact ⟨F2, rv.ov, rs.map Rv.ov, o, r2.fh, r2.bor (p := (v, rv)) (List.mem_append_right _ List.mem_cons_self), zip_bor hl fun p hp => r2.bor (List.mem_append_left _ hp), e, k⟩
  · exact p1.elim
/-- x.index(y): x a list or such a tuple -/
def dIdx (f : DE) (g : VEnv → Ans (List Rv)) : DE := fun env => match f env with
  | .ok r => if okTuz r.ov then dMeth okTuz opIndexZ f g env else dMeth okLst opIndex f g env
  | .ex c => .ex c
  | .no => .no
theorem je_idx (hu : X.A.units + 65 < cLine) (ho : JE X W o f) (ha : JA X W (e :: es) g)
    (hbase : attributeBase o "index" X.env (eval o X.env) = eval o X.env := by rfl)
    (hfew : ((backTo cpos (starEach (e :: es) X.env)).all (fun x => !x.1) && (backToKw cpos (keywordEach [] X.env)).all (fun x => x.1.isSome)
      && decide ((e :: es).length + ([] : List Keyword).length + (if ([] : List Keyword).isEmpty then 0 else 1) < 30)) = true := by rfl)
    (hline : (apos.endLine == cpos.line) = true := by rfl) (hs : starEach (e :: es) X.env = (false, eval e X.env) :: starEach es X.env := by rfl) (hplain : (backTo cpos (starEach es X.env)).any (·.1) = false := by rfl) :
    JE X W (.Call (.Attribute o "index" apos) (e :: es) [] cpos) (dIdx f g) := by
  have A := je_meth (W := W) (f := f) (g := g) PySem.F.plainAttrs_list PySem.F.slot_list_index PySem.F.type_list_index (mj_index hu) okLst_ty ho ha hbase hfew hline hs hplain
  have B := je_methZ (W := W) (f := f) (g := g) PySem.F.slot_tuple_index PySem.F.type_tuple_index mj_indexZ ho ha hbase hfew hline hs hplain
  refine PE.imp (PE.or A B) fun σ H Q ⟨G, Z, env, T, r, p⟩ => ?_
  cases ef : f env with
  | ok rv =>
    unfold dIdx at p
    rw [ef] at p
    simp only at p
    split at p
    · exact .inr ⟨G, Z, env, T, r, p⟩
    · exact .inl ⟨G, Z, env, T, r, p⟩
  | ex c =>
    unfold dIdx at p
    rw [ef] at p
    refine .inl ⟨G, Z, env, T, r, ?_⟩
    unfold dMeth
    rw [ef]
    exact p
  | no =>
    unfold dIdx at p
    rw [ef] at p
    exact p.elim
end
/-! ### dict(a list of pairs) -/
def pairs? : List FV → Option (List (Key × FV))
  | [] => some []
  | x :: xs => match x with
    | .tup [k, v] => match k.key?, pairs? xs with
      | some k, some r => some ((k, v) :: r)
      | _, _ => none
    | _ => none
def mergeF (kvs more : List (Key × FV)) : List (Key × FV) := more.foldl (fun acc kv => putKV acc kv.1 kv.2) kvs
def opDictP : List OV → Option OV
  | [x] => (x.lst?.bind pairs?).map fun ps => .oK (mergeF [] ps)
  | _ => none
theorem FDenK.merge {M : Str → Option Value} {F : Hp} : ∀ {more : List (Key × FV)} {ws : List (Key × V)} {kvs : List (Key × FV)} {vs : List (Key × V)}, FDenK M F more ws → FDenK M F kvs vs → FDenK M F (mergeF kvs more) (mergeK vs ws)
  | [], _, _, _, e, d => by rw [show _ = [] from e]; exact d
  | (k, x) :: more, _, kvs, vs, ⟨v, rs, e, dx, dr⟩, d => by
    subst e
    show FDenK M F (mergeF (putKV kvs k x) more) (mergeK (putK vs k v) rs)
    exact FDenK.merge (more := more) dr (d.put dx)
theorem pairs_den {M : Str → Option Value} {K : PySem.W.Frag} {F H : Hp} (hf : Same F H) : ∀ {xs : List FV} {vs : List V} {ps : List (Key × FV)}, pairs? xs = some ps → FDenL M F xs vs → ∃ (as : List Addr) (ws : List (Key × V)), vs = as.map V.ref ∧ FDenK M F ps ws ∧ Paired (fun p kv => SqT K H p [kV kv.1, kv.2]) as ws
  | [], _, _, e, d => by
    cases e
    rw [show _ = [] from d]
    exact ⟨[], [], rfl, rfl, .nil⟩
  | x :: xs, _, ps, e, ⟨v, vs, ev, dx, dr⟩ => by
    subst ev
    unfold pairs? at e
    split at e
    · rename_i k y
      split at e
      · rename_i k' r e1 e2
        cases e
        obtain ⟨as, ws, rfl, h1, h2⟩ := pairs_den hf e2 dr
        obtain ⟨a, us, rfl, q, d⟩ := dx
        obtain ⟨u, us1, rfl, d1, d⟩ := d
        obtain ⟨w, us2, rfl, d2, d⟩ := d
        rw [show us2 = [] from d] at q
        have hk : u = kV k' := by
          unfold FV.key? at e1
          split at e1
          · cases e1; exact d1
          · cases e1; exact d1
          · cases e1
        subst hk
        exact ⟨a :: as, (k', w) :: ws, rfl, ⟨w, ws, rfl, d2, h1⟩, .cons (SqT.of (hf _ _ q)) h2⟩
      · cases e
    · cases e
theorem cj_dictP {X : Cx} (hc : X.calm = true) : CallR X (.type "dict") (rJn X.mg opDictP) := by
  refine CallR.imp (call_dictP hc) fun us H Q ⟨F, os, o, hf, ps, e, k⟩ => ?_
  unfold opDictP at e
  split at e
  · obtain ⟨u, rfl, b⟩ := paired1 ps
    obtain ⟨prs, e1, e2⟩ := Option.map_eq_some_iff.mp e
    obtain ⟨xs, e3, e4⟩ := Option.bind_eq_some_iff.mp e1
    subst e2
    obtain ⟨a, vs, rfl, q, d⟩ := b.lst hf e3
    obtain ⟨as, ws, rfl, h1, h2⟩ := pairs_den (K := X.K) hf e4 d
    exact ⟨a, as, ws, rfl, SqL.of q, h2, fun p hp => k _ _ (New.dK hf hp (FDenK.merge h1 rfl))⟩
  · cases e
end J
set_option maxHeartbeats 4000000
namespace J
open PySem PySem.Spec PyProof.Rows L2
/-! ### told = [x]; for .. in ..: x = e; told.append(x); return told
While the loop runs, the cells C of the list and of what it holds stand in Z; x alone owns the last one. -/
structure Hold (G Z G' Z' : Hp) (C : Cells) : Prop where
  gg : Same G G'
  gn : ∀ a o, G' a = some o → G a = some o ∨ Z a = none
  zin : ∀ q ∈ C, Z' q.1 = some q.2
  zout : ∀ a, (∀ q ∈ C, q.1 ≠ a) → Z' a = Z a
  nd : (C.map (·.1)).Nodup
  gc : ∀ q ∈ C, G' q.1 = none
  zc : ∀ q ∈ C, Z q.1 = none
section
variable {M : Str → Option Value} {G Z G' Z' H F : Hp} {C A Lr : Cells} {σ : Sl} {env : VEnv} {T : List (V × Rv)} {L1 L2 : Cells} {o : OV} {v : V} {i j : Nat}
theorem Hold.start (G Z : Hp) : Hold G Z G Z [] := ⟨Same.refl _, fun _ _ e => .inl e, nofun, fun _ _ => rfl, List.nodup_nil, nofun, nofun⟩
theorem Hold.zz (h : Hold G Z G' Z' C) : Same Z Z' := fun a o e => by
  rw [h.zout a fun q hq z => by
    have := h.zc q hq
    rw [z, e] at this
    cases this]
  exact e
theorem Hold.perm {C' : Cells} (h : Hold G Z G' Z' C) (p : C.Perm C') : Hold G Z G' Z' C' :=
  ⟨h.gg, h.gn, fun q hq => h.zin q (p.mem_iff.mpr hq), fun a ha => h.zout a fun q hq => ha q (p.mem_iff.mp hq), (p.map _).nodup_iff.mp h.nd, fun q hq => h.gc q (p.mem_iff.mpr hq), fun q hq => h.zc q (p.mem_iff.mpr hq)⟩
theorem Hold.znone (h : Hold G Z G' Z' C) {a : Addr} (e : Z' a = none) : Z a = none := by
  cases q : Z a with
  | none => rfl
  | some o =>
    rw [h.zz a o q] at e
    cases e
/-- the cells become a thing of one's own -/
theorem Hold.give (h : Hold G Z G' Z' C) (r : R M G' Z' H σ env T) (own : ∀ F, Same G' F → Own M F o v C) : R M G Z H σ env ((v, .st o) :: T) := by
  obtain ⟨F, L1, L2, r⟩ := r
  have fc : ∀ q ∈ C, F q.1 = none := fun q hq => by
    cases e : F q.1 with
    | none => rfl
    | some u =>
      rcases r.fg _ u e with e1 | e1
      · rw [h.gc q hq] at e1
        cases e1
      · rw [h.zin q hq] at e1
        cases e1
  refine ⟨F, L1, C ++ L2, h.gg.trans r.gf, fun a u e => ?_, r.fh, fun a u e => r.zh a u (h.zz a u e), r.ev, .st (own F r.gf) r.tm, ?_⟩
  · rcases r.fg a u e with e1 | e1
    · exact h.gn a u e1
    · exact .inr (h.znone e1)
  · have g1 : Good F Z H (L1 ++ L2) := ⟨r.gd.nd, r.gd.hp, r.gd.fr, fun q hq => h.znone (r.gd.zr q hq)⟩
    have g2 : Good F Z H C := ⟨h.nd, fun q hq => r.zh _ _ (h.zin q hq), fc, h.zc⟩
    have g := g2.mk' g1 fun p hp q hq e => by
      have e1 := h.zin p hp
      rw [e, r.gd.zr q hq] at e1
      cases e1
    refine g.perm ?_
    rw [← List.append_assoc, ← List.append_assoc]
    exact List.perm_append_comm.append_right _
/-- what slot i owns is held, too; the slot keeps its value -/
theorem Hold.take (h : Hold G Z G' Z' C) (r : R M G' Z' H σ env T) (e : env[i]? = some (some o)) :
    ∃ F Z2 A, Own M F o ((σ[i]?.bind id).getD .non) A ∧ (∃ w, σ[i]? = some (some w)) ∧ Same G' F ∧ Hold G Z F Z2 (A ++ C) ∧ R M F Z2 H σ (env.set i none) T := by
  obtain ⟨F, L1, L2, r⟩ := r
  obtain ⟨v, A, Lr, s1, own, pm, _, k⟩ := r.ev.repl e
  have g := r.gd.perm ((pm.append_right L2).trans (by rw [List.append_assoc]) : (L1 ++ L2).Perm (A ++ (Lr ++ L2)))
  have ga := g.left
  have nd := g.nd
  rw [List.map_append, List.nodup_append] at nd
  have fc : ∀ q ∈ C, F q.1 = none := fun q hq => by
    cases e : F q.1 with
    | none => rfl
    | some u =>
      rcases r.fg _ u e with e1 | e1
      · rw [h.gc q hq] at e1
        cases e1
      · rw [h.zin q hq] at e1
        cases e1
  have ap : ∀ p ∈ A, ∀ q ∈ C, p.1 ≠ q.1 := fun p hp q hq e => by
    have e1 := h.zin q hq
    rw [← e, ga.zr p hp] at e1
    cases e1
  have hσ : σ.set i (some v) = σ := by
    apply List.ext_getElem?
    intro k
    by_cases hk : i = k
    · subst hk
      rw [List.getElem?_set_self (List.getElem?_eq_some_iff.mp s1).1, s1]
    · rw [List.getElem?_set_ne hk]
  have ev := k (some v)
  rw [hσ] at ev
  refine ⟨F, updL Z' A, A, by rw [s1]; exact own, ⟨v, s1⟩, r.gf, ⟨h.gg.trans r.gf, fun a u e => ?_, fun q hq => ?_, fun a ha => ?_, ?_, fun q hq => ?_, fun q hq => ?_⟩, F, Lr, L2, Same.refl _, fun a u e => .inl e, r.fh, fun a u e => ?_, ev, r.tm, ⟨g.right.nd, g.right.hp, g.right.fr, fun q hq => ?_⟩⟩
  · rcases r.fg a u e with e1 | e1
    · exact h.gn a u e1
    · exact .inr (h.znone e1)
  · rcases List.mem_append.mp hq with hq | hq
    · exact updL_in ga.nd q hq
    · rw [updL_out fun p hp => ap p hp q hq]
      exact h.zin q hq
  · rw [updL_out fun p hp => ha p (List.mem_append_left _ hp)]
    exact h.zout a fun q hq => ha q (List.mem_append_right _ hq)
  · rw [List.map_append, List.nodup_append]
    refine ⟨ga.nd, h.nd, fun a ha b hb e => ?_⟩
    obtain ⟨p, hp, rfl⟩ := List.mem_map.mp ha
    obtain ⟨q, hq, rfl⟩ := List.mem_map.mp hb
    exact ap p hp q hq e
  · exact (List.mem_append.mp hq).elim (ga.fr q) (fc q)
  · exact (List.mem_append.mp hq).elim (fun hq => h.znone (ga.zr q hq)) (h.zc q)
  · rcases updL_cases e with e1 | e1
    · exact r.zh a u e1
    · exact ga.hp _ e1
  · rw [updL_out fun p hp e => nd.2.2 p.1 (List.mem_map_of_mem hp) q.1 (List.mem_map_of_mem hq) e]
    exact g.right.zr q hq
/-- a held cell is written -/
theorem Hold.write {t : Addr} {ho ho' : HO} {B : Cells} (h : Hold G Z G' Z' ((t, ho) :: B)) (r : R M G' Z' H σ env T) (hT : AllSt T) : Hold G Z G' (upd Z' t ho') ((t, ho') :: B) ∧ R M G' (upd Z' t ho') (upd H t ho') σ env T := by
  have nd := h.nd
  rw [List.map_cons, List.nodup_cons] at nd
  have nb : ∀ q ∈ B, q.1 ≠ t := fun q hq e => nd.1 (List.mem_map.mpr ⟨q, hq, e⟩)
  have zt := h.zin _ List.mem_cons_self
  have gt := h.gc _ List.mem_cons_self
  refine ⟨⟨h.gg, h.gn, fun q hq => ?_, fun a ha => ?_, h.nd, fun q hq => ?_, fun q hq => ?_⟩, ?_⟩
  · rcases List.mem_cons.mp hq with rfl | hq
    · exact upd_same
    · rw [upd_ne (nb q hq)]
      exact h.zin q (List.mem_cons_of_mem _ hq)
  · have ne : t ≠ a := ha (t, ho') List.mem_cons_self
    rw [upd_ne ne.symm]
    exact h.zout a fun q hq => (List.mem_cons.mp hq).elim (fun e => by rw [e]; exact ne) fun hq => ha q (List.mem_cons_of_mem _ hq)
  · rcases List.mem_cons.mp hq with rfl | hq
    · exact gt
    · exact h.gc q (List.mem_cons_of_mem _ hq)
  · rcases List.mem_cons.mp hq with rfl | hq
    · exact h.zc (t, ho) List.mem_cons_self
    · exact h.zc q (List.mem_cons_of_mem _ hq)
  · obtain ⟨F, L1, L2, r⟩ := r
    have ft : F t = none := by
      cases e : F t with
      | none => rfl
      | some u =>
        rcases r.fg _ u e with e1 | e1
        · rw [gt] at e1
          cases e1
        · rw [zt] at e1
          cases e1
    have nl : ∀ q ∈ L1 ++ L2, q.1 ≠ t := fun q hq e => by
      have := r.gd.zr q hq
      rw [e, zt] at this
      cases this
    refine ⟨F, L1, L2, r.gf, fun a u e => ?_, fun a u e => ?_, fun a u e => ?_, r.ev, r.tm.anyH hT, r.gd.nd, fun q hq => ?_, r.gd.fr, fun q hq => ?_⟩
    · have ne : a ≠ t := fun z => by rw [z, ft] at e; cases e
      rw [upd_ne ne]
      exact r.fg a u e
    · have ne : a ≠ t := fun z => by rw [z, ft] at e; cases e
      rw [upd_ne ne]
      exact r.fh a u e
    · by_cases z : a = t
      · subst z
        rw [upd_same] at e ⊢
        exact e
      · rw [upd_ne z] at e ⊢
        exact r.zh a u e
    · rw [upd_ne (nl q hq)]
      exact r.gd.hp q hq
    · rw [upd_ne (nl q hq)]
      exact r.gd.zr q hq
/-- a new cell is held -/
theorem Hold.lay {t : Addr} {ho : HO} (h : Hold G Z G' Z' C) (r : R M G' Z' H σ env T) (ht : H t = none) : Hold G Z G' (upd Z' t ho) ((t, ho) :: C) ∧ R M G' (upd Z' t ho) (upd H t ho) σ env T := by
  obtain ⟨F, L1, L2, r⟩ := r
  have ft : F t = none := none_of_same r.fh ht
  have zt : Z' t = none := none_of_same r.zh ht
  have nc : ∀ q ∈ C, q.1 ≠ t := fun q hq e => by
    have := h.zin q hq
    rw [e, zt] at this
    cases this
  have nl : ∀ q ∈ L1 ++ L2, q.1 ≠ t := fun q hq e => by
    have := r.gd.hp q hq
    rw [e, ht] at this
    cases this
  refine ⟨⟨h.gg, h.gn, fun q hq => ?_, fun a ha => ?_, ?_, fun q hq => ?_, fun q hq => ?_⟩, F, L1, L2, r.gf, fun a u e => ?_, r.fh.trans (same_upd ht), fun a u e => ?_, r.ev, r.tm.mono (Same.refl _) (same_upd ht), r.gd.nd, fun q hq => same_upd ht _ _ (r.gd.hp q hq), r.gd.fr, fun q hq => ?_⟩
  · rcases List.mem_cons.mp hq with rfl | hq
    · exact upd_same
    · rw [upd_ne (nc q hq)]
      exact h.zin q hq
  · rw [upd_ne (Ne.symm (ha (t, ho) List.mem_cons_self))]
    exact h.zout a fun q hq => ha q (List.mem_cons_of_mem _ hq)
  · rw [List.map_cons, List.nodup_cons]
    exact ⟨fun hm => let ⟨q, hq, e⟩ := List.mem_map.mp hm; nc q hq e, h.nd⟩
  · rcases List.mem_cons.mp hq with rfl | hq
    · exact none_of_same r.gf ft
    · exact h.gc q hq
  · rcases List.mem_cons.mp hq with rfl | hq
    · exact h.znone zt
    · exact h.zc q hq
  · have ne : a ≠ t := fun z => by rw [z, ft] at e; cases e
    rw [upd_ne ne]
    exact r.fg a u e
  · by_cases z : a = t
    · subst z
      rw [upd_same] at e ⊢
      exact e
    · rw [upd_ne z] at e
      rw [upd_ne z]
      exact r.zh a u e
  · rw [upd_ne (nl q hq)]
    exact r.gd.zr q hq
end
def carL (t : TgF) (fe : DE) (i : Nat) : List FV → List OV → VEnv → Ans SO
  | [], acc, env => match env[i]? with
    | some (some (.ol c)) => .ok (.rt (.dl (acc ++ [.ol c])) (env.set i none))
    | _ => .no
  | x :: xs, acc, env => match t x env with
    | none => .no
    | some e1 => match e1[i]? with
      | some (some (.ol c)) => if acc.length + 1 < BIG then (fe e1).bind fun r => match r with
          | .st (.ol c') => carL t fe i xs (acc ++ [.ol c]) (e1.set i (some (.ol c')))
          | _ => .no
        else .no
      | _ => .no
def dCarry (it : VEnv → Ans (List FV)) (t : TgF) (fe : DE) (i j : Nat) : DS := fun env => match env[i]? with
  | some (some (.ol _)) => if j < env.length then (it (env.set j none)).bind fun items => carL t fe i items [] (env.set j none) else .no
  | _ => .no
/-- between two turns: what is told so far, and x the last one -/
structure Car (M : Str → Option Value) (G Z H : Hp) (σ : Sl) (env : VEnv) (T : List (V × Rv)) (i j : Nat) (acc : List OV) (G' Z' : Hp) (t : Addr) (vs : List V) (p : V) (B : Cells) : Prop where
  sj : σ[j]? = some (some (.ref t))
  si : σ[i]? = some (some p)
  hold : Hold G Z G' Z' ((t, .lst (vs ++ [p])) :: B)
  own : OwnL M G' acc vs B
  r : R M G' Z' H σ env T
theorem OwnL.len {M : Str → Option Value} {F : Hp} : ∀ {xs : List OV} {vs : List V} {L : Cells}, OwnL M F xs vs L → vs.length = xs.length
  | [], _, _, ⟨e, _⟩ => by rw [e]; rfl
  | x :: xs, _, _, ⟨v, ws, A, B, e, _, r, _⟩ => by rw [e, List.length_cons, List.length_cons, OwnL.len r]
section
variable {X : Cx} {W : WX} {tg iter : Expr} {st1 st3 : Stmt} {body : List Stmt} {pos : Pos} {it : VEnv → Ans (List FV)} {t : TgF} {fe : DE} {vs : List Nat} {i j : Nat}
theorem js_carry (hp : PassesOwn (model X.prog X.w) X.A X.env X.xe) (hc : X.calm = true) (hij : i ≠ j) (hvi : i ∉ vs) (hvj : j ∉ vs)
    (h1 : PS X st1 (tAsg (tLst (tCons (tVar i) tNil)) (gName j))) (hi : JI X W tg iter it) (hg : JG X tg vs t)
    (hb : PSs X body (tSeq (tAsg (tE X.mg W fe) (gName i)) (tDrop (tBM X.K "list" rAppend (tVar j) (tCons (tVar i) tNil)))))
    (h3 : PS X st3 (tRet (tVar j))) (hs : ∀ x, foldedSetIterable iter X.env x = pure x := by intro _; rfl) :
    JSs X W [st1, .For tg iter body [] pos, st3] (dCarry it t fe i j) := by
  refine PSs.imp (pss_cons h1 (pss_cons (ps_for hp hc hi hg hb hs) (pss_one h3))) fun D σ H ⟨G, Z, env, T, hT, r, p⟩ => ?_
  unfold dCarry at p
  split at p
  case h_2 => exact p.elim
  case h_1 c ec =>
    split at p
    case isFalse => exact p.elim
    case isTrue hj =>
      have ⟨F0, D1, D2, rf⟩ := r
      obtain ⟨p0, _, _, si, _⟩ := rf.ev.repl ec
      have hj2 : j < σ.length := by rw [rf.ev.len]; exact hj
      refine ⟨p0, si, by show 1 ≤ sizeLine; rw [sizeLine_eq]; decide, fun a ha => ?_⟩
      -- the list is laid
      obtain ⟨h0, r0⟩ := (Hold.start G Z).lay (ho := .lst [p0]) r ha
      have r1 := r0.unset j (some (.ref a))
      show tI X.mg W it (σ.set j (some (.ref a))) (upd H a (.lst [p0])) _
      refine ⟨G, _, env.set j none, T, r1, ?_⟩
      cases ei : it (env.set j none) with
      | no => rw [ei] at p; exact p.elim
      | ex c =>
        rw [ei] at p
        exact fun C H' m s r' => let ⟨_, _, _, r'⟩ := r'; p C _ H' m (h0.zz.trans r'.zh)
      | ok items =>
        rw [ei] at p
        intro J H2 kept hk s2 r2 wk
        have p : PostS X.mg W G Z T D (carL t fe i items [] (env.set j none)) := p
        have sj0 : (σ.set j (some (V.ref a)))[j]? = some (some (.ref a)) := List.getElem?_set_self hj2
        have si0 : (σ.set j (some (V.ref a)))[i]? = some (some p0) := by rw [List.getElem?_set_ne hij.symm]; exact si
        refine ⟨fun n m σ H => n + m = items.length ∧ ∃ env acc G' Z' tt vs p B, Car X.mg G Z H σ env (kept ++ T) i j acc G' Z' tt vs p B ∧ PostS X.mg W G Z T D (carL t fe i (items.drop n) acc env),
          ⟨items.length, by omega, _, [], G, _, a, [], p0, [], ⟨sj0, si0, h0, ⟨rfl, rfl⟩, r2⟩, by rw [List.drop_zero]; exact p⟩, ?_⟩
        rintro n m σ H ⟨hnm, env, acc, G', Z', tt, ws, q, B, car, post⟩
        have ⟨F, C1, C2, rr⟩ := car.r
        obtain ⟨w1, w2⟩ := wk F H n rr.fh rr.kept
        by_cases hlt : n < items.length
        · obtain ⟨hgo, hy⟩ := w1 items[n] (List.getElem?_eq_getElem hlt)
          rw [List.drop_eq_getElem_cons hlt] at post
          refine .inr ⟨hgo, fun σ' H' => ∃ env acc G' Z' tt vs p B, Car X.mg G Z H' σ' env (kept ++ T) i j acc G' Z' tt vs p B ∧ PostS X.mg W G Z T D (carL t fe i (items.drop (n + 1)) acc env), fun σ' H' h => ⟨m - 1, by omega, by omega, h⟩, fun v H' yl => ?_⟩
          refine ⟨G', Z', env, kept ++ T, items[n], rr.new (hy v H' yl), ?_⟩
          unfold carL at post
          cases et : t items[n] env with
          | none => rw [et] at post; exact post.elim
          | some e1 =>
            rw [et] at post
            intro σ' only r3
            simp only at post
            split at post
            case h_2 => exact post.elim
            case h_1 c1 ec1 =>
              split at post
              case isFalse => exact post.elim
              case isTrue big =>
                refine tE.then r3 Sb.refl (fun rv v2 H3 ev s3 r4 => ?_) (fun cc C H3 ev m s r5 => ?_) fun ev => ?_
                · rw [ev] at post
                  obtain ⟨c2, rfl⟩ : ∃ c2, rv = .st (.ol c2) := by
                    cases rv with
                    | bo o => exact post.elim
                    | st o =>
                      cases o with
                      | ol c2 => exact ⟨c2, rfl⟩
                      | _ => exact post.elim
                  have post : PostS X.mg W G Z T D (carL t fe i (items.drop (n + 1)) (acc ++ [.ol c1]) (e1.set i (some (.ol c2)))) := post
                  obtain ⟨F2, Z2, A, own, ⟨w, sw⟩, gf, hold, r5⟩ := car.hold.take r4 ec1
                  have si1 : σ'[i]? = some (some q) := (only.get i hvi).trans car.si
                  have sj1 : σ'[j]? = some (some (.ref tt)) := (only.get j hvj).trans car.sj
                  rw [si1] at own
                  have r6 := r5.set i
                  rw [List.set_set] at r6
                  have hold := hold.perm (C' := (tt, .lst (ws ++ [q])) :: (B ++ A)) List.perm_append_comm
                  have at_t : H3 tt = some (.lst (ws ++ [q])) := let ⟨_, _, _, z⟩ := r6; z.zh _ _ (hold.zin _ List.mem_cons_self)
                  obtain ⟨hold2, r7⟩ := hold.write (ho' := .lst (ws ++ [q] ++ [v2])) r6 (hk.app hT)
                  have il : i < σ'.length := (List.getElem?_eq_some_iff.mp si1).1
                  have sj2 : (σ'.set i (some v2))[j]? = some (some (.ref tt)) := by rw [List.getElem?_set_ne hij]; exact sj1
                  have si2 : (σ'.set i (some v2))[i]? = some (some v2) := List.getElem?_set_self il
                  have room : (ws ++ [q]).length < sizeLine := by
                    rw [List.length_append, car.own.len, big_eq]
                    exact big
                  refine ⟨_, sj2, .inl ⟨rfl, _, SqL.of at_t⟩, v2, si2, tt, _, v2, rfl, rfl, at_t, room, ?_⟩
                  exact ⟨_, acc ++ [.ol c1], F2, _, tt, ws ++ [q], v2, B ++ A, ⟨sj2, si2, hold2, (car.own.mono gf).snoc own, r7⟩, post⟩
                · rw [ev] at post
                  obtain ⟨_, _, _, r5⟩ := r5
                  exact post C _ H3 m (car.hold.zz.trans r5.zh)
                · rw [ev] at post
                  exact post
        · refine .inl ⟨w2 (by omega), ?_⟩
          rw [List.drop_of_length_le (by omega)] at post
          unfold carL at post
          split at post
          case h_2 => exact post.elim
          case h_1 c1 ec1 =>
            obtain ⟨F2, Z2, A, own, ⟨w, sw⟩, gf, hold, r5⟩ := car.hold.take car.r ec1
            rw [car.si] at own
            have hold := hold.perm (C' := (tt, .lst (ws ++ [q])) :: (B ++ A)) List.perm_append_comm
            have r6 := hold.give (o := .dl (acc ++ [.ol c1])) (v := .ref tt) r5 fun F3 g3 => ⟨tt, ws ++ [q], B ++ A, rfl, ((car.own.mono gf).snoc own |>.mono g3), rfl⟩
            exact ⟨_, car.sj, post _ _ _ (r6.sb sb_app.both)⟩
end
section
variable {X : Cx} {W : WX} {tg iter e : Expr} {x y : Str} {pos p1 p2 p3 p4 p5 p6 p7 p8 p9 p10 p11 apos cpos : Pos} {it : VEnv → Ans (List FV)} {t : TgF} {fe : DE} {vs : List Nat}
theorem js_carryN (i j : Nat) (hp : PassesOwn (model X.prog X.w) X.A X.env X.xe) (hc : X.calm = true) (hN : X.N.Nodup) (hi : JI X W tg iter it) (hg : JG X tg vs t) (he : JE X W e fe)
    (ni : X.N[i]? = some x := by rfl) (nj : X.N[j]? = some y := by rfl) (li : Loc X.env.scope x := by first | exact .inl rfl | exact .inr rfl) (lj : Loc X.env.scope y := by first | exact .inl rfl | exact .inr rfl)
    (vi : Vis X.env.scope x := by first | exact Or.inl rfl | exact Or.inr (Or.inl rfl) | exact Or.inr (Or.inr rfl)) (vj : Vis X.env.scope y := by first | exact Or.inl rfl | exact Or.inr (Or.inl rfl) | exact Or.inr (Or.inr rfl))
    (fi : X.fn x = true ∨ X.env.scope.names.lookup x = some .local := by first | exact .inl rfl | exact .inr rfl) (fj : X.fn y = true ∨ X.env.scope.names.lookup y = some .local := by first | exact .inl rfl | exact .inr rfl)
    (dx : (x == ("__debug__" : Str)) = false := by decide) (dx2 : (x == ("__classdict__" : Str)) = false := by decide) (dy : (y == ("__debug__" : Str)) = false := by decide) (dy2 : (y == ("__classdict__" : Str)) = false := by decide)
    (s1 : swapsWith (.List [.Name x p2] p3) (some (.Name y p1)) p4.line X.env = pure false := by rfl) (s2 : swapsWith e (some (.Name x p5)) p6.line X.env = pure false := by rfl)
    (s3 : swapsWith (.Call (.Attribute (.Name y p8) "append" apos) [.Name x p9] [] cpos) none p7.line X.env = pure false := by rfl)
    (st1 : starEach [.Name x p2] X.env = (false, eval (.Name x p2) X.env) :: starEach [] X.env := by rfl)
    (b1 : attributeBase (.Name y p8) "append" X.env (eval (.Name y p8) X.env) = eval (.Name y p8) X.env := by rfl)
    (b2 : ((backTo cpos (starEach [.Name x p9] X.env)).all (fun x => !x.1) && (backToKw cpos (keywordEach [] X.env)).all (fun x => x.1.isSome) && decide ([Expr.Name x p9].length + ([] : List Keyword).length + (if ([] : List Keyword).isEmpty then 0 else 1) < 30)) = true := by rfl)
    (b3 : (apos.endLine == cpos.line) = true := by rfl) (b4 : starEach [.Name x p9] X.env = (false, eval (.Name x p9) X.env) :: starEach [] X.env := by rfl) (b5 : (backTo cpos (starEach [] X.env)).any (·.1) = false := by rfl)
    (hij : i ≠ j := by decide) (hvi : i ∉ vs := by decide) (hvj : j ∉ vs := by decide) (hs : ∀ x, foldedSetIterable iter X.env x = pure x := by intro _; rfl) :
    JSs X W [.Assign [.Name y p1] (.List [.Name x p2] p3) p4, .For tg iter [.Assign [.Name x p5] e p6, .Expr (.Call (.Attribute (.Name y p8) "append" apos) [.Name x p9] [] cpos) p7] [] pos, .Return (some (.Name y p10)) p11] (dCarry it t fe i j) :=
  js_carry hp hc hij hvi hvj (ps_set hN nj lj (pe_lst (pa_cons (pe_var ni vi dx dx2) pa_nil st1)) s1 fj) hi hg
    (pss_cons (ps_set hN ni li he s2 fi) (pss_one (ps_expr (pe_bm F.plainAttrs_list F.slot_list_append (by rfl) (fun pins s σ H x xs v us Q I r rv q => mt_append pins s σ H x xs v us Q I r rv q) (pe_var nj vj dy dy2) (pa_cons (pe_var ni vi dx dx2) pa_nil b4) b1 b2 b3 b4 b5) s3)))
    (ps_ret (pe_var nj vj dy dy2)) hs
end
/-! ### return told[e]: the element goes out, told goes with the def -/
def dRetAt (j : Nat) (f : DE) : DS := fun env => match env[j]? with
  | some (some (.dl os)) => (f env).bind fun r => match r.fv with
    | .int k => match (ixN os.length k).bind fun m => os[m]? with
      | some o => .ok (.rt o (env.set j none))
      | none => .no
    | _ => .no
  | _ => .no
section
variable {X : Cx} {W : WX} {e : Expr} {f : DE} {x : Str} {pos pos' spos : Pos}
theorem js_retAt (j : Nat) (he : JE X W e f) (hN : X.N[j]? = some x := by rfl) (hv : Vis X.env.scope x := by first | exact Or.inl rfl | exact Or.inr (Or.inl rfl) | exact Or.inr (Or.inr rfl))
    (hd : (x == ("__debug__" : Str)) = false := by decide) (hcd : (x == ("__classdict__" : Str)) = false := by decide) (hix : PlainIx e := by first | exact fun _ _ => rfl | (intro _ _; rfl)) :
    JS X W (.Return (some (.Subscript (.Name x pos') e spos)) pos) (dRetAt j f) := by
  refine PS.imp (ps_ret (pe_ix (ix_seq (X := X)) (pe_var (pos := pos') hN hv hd hcd) he hix)) fun D σ H ⟨G, Z, env, T, hT, r, p⟩ => ?_
  unfold dRetAt at p
  split at p
  case h_2 => exact p.elim
  case h_1 os ej =>
    have ⟨F0, D1, D2, r0⟩ := r
    obtain ⟨v, _, _, sv, _⟩ := r0.ev.repl ej
    refine ⟨v, sv, tE.bindS r p fun kr w H1 _ s1 r1 p1 => ?_⟩
    split at p1
    case h_2 => exact p1.elim
    case h_1 k ek =>
      split at p1
      case h_2 => exact p1.elim
      case h_1 o eo =>
        obtain ⟨F1, D3, D4, r1⟩ := r1
        have dk : FDen X.mg H1 kr.fv w := (r1.bor (List.mem_cons_self (a := (w, kr)))).fden r1.fh
        rw [ek] at dk
        have dk : w = .int k := dk
        obtain ⟨F2, L1, L2, r2⟩ := r1.r.pop
        obtain ⟨v2, A, Lr, sv2, own, pm, _, free⟩ := r2.ev.repl ej
        rw [sv] at sv2
        cases sv2
        obtain ⟨d, vs, L0, ev, rr, eL⟩ := own
        obtain ⟨m, e1, e2⟩ := Option.bind_eq_some_iff.mp eo
        obtain ⟨u, B, Lq, h1, h2, h3, _⟩ := rr.focus e2
        have at_d : H1 d = some (.lst vs) := r2.gd.hp (d, .lst vs) (List.mem_append_left _ (pm.mem_iff.mpr (List.mem_append_left _ (eL ▸ List.mem_cons_self))))
        have iu : atI vs k = some u := by
          unfold atI
          rw [rr.length, e1]
          exact h1
        have big : (L1 ++ L2).Perm ((Lr ++ (B ++ L2)) ++ ((d, .lst vs) :: Lq)) := by
          refine ((pm.trans ((show A.Perm ((d, HO.lst vs) :: (B ++ Lq)) from eL ▸ (h3.cons _)).append_right Lr)).append_right L2).trans ?_
          haveI : DecidableEq (Addr × HO) := fun a b => Classical.propDecidable _
          refine List.perm_iff_count.mpr fun z => ?_
          simp only [List.cons_append, List.append_assoc, List.count_append, List.count_cons]
          omega
        exact .inl ⟨d, vs, k, u, ev, dk, SqL.of at_d, iu, p1 u (σ.set j none) H1 ⟨F2, Lr, B ++ L2, r2.gf, r2.fg, r2.fh, r2.zh, free none, .st h2 r2.tm, (r2.gd.perm big).left⟩⟩
end
end J
namespace J
open PySem PySem.Spec PyProof.Rows L2
/-! ### a, b = e; x += e -/
def dAsgT (fe : DE) (t : TgF) : DS := fun env => (fe env).bind fun r => match r with
  | .st (.fz x) => match t x env with
    | some e1 => .ok (.nx e1)
    | none => .no
  | _ => .no
def dAugI (i : Nat) (f : Int → Int → Int) (fe : DE) : DS := fun env => match env[i]? with
  | some (some (.fz (.int a))) => (fe env).bind fun r => match r.fv with
    | .int b => .ok (.nx (env.set i (some (.fz (.int (f a b))))))
    | _ => .no
  | _ => .no
section
variable {X : Cx} {W : WX} {pos pos' : Pos} {e tg : Expr} {fe : DE} {t : TgF} {vs : List Nat} {x : Str}
theorem js_asgT (he : JE X W e fe) (hg : JG X tg vs t) (hs : swapsWithSole [tg] e pos.line X.env = pure false := by rfl) (hw : swappedStores [tg] e X.env = pure none := by rfl)
    (h1 : (assignEach [tg] X.env).map (·.2) = [assign tg X.env] := by rfl) : JS X W (.Assign [tg] e pos) (dAsgT fe t) :=
  PS.imp (ps_asg he hg hs hw h1) fun D σ H ⟨G, Z, env, T, hT, r, p⟩ => tE.bindS r p fun rv v H1 _ s r1 p1 => by
    cases rv with
    | bo o => exact p1.elim
    | st o =>
      cases o with
      | fz y =>
        refine ⟨G, Z, env, T, y, r1, ?_⟩
        have p1 : PostS X.mg W G Z T D (match t y env with
          | some e1 => .ok (.nx e1)
          | none => .no) := p1
        cases et : t y env with
        | none => rw [et] at p1; exact p1.elim
        | some e1 =>
          rw [et] at p1
          exact fun σ' _ r2 => p1 σ' _ r2
      | _ => exact p1.elim
theorem js_augI (i : Nat) {op : Operator} {f : Int → Int → Int} (ho : PIp X op (ipI f)) (hN : X.N.Nodup) (he : JE X W e fe) (hi : X.N[i]? = some x := by rfl) (hx : Loc X.env.scope x := by first | exact .inl rfl | exact .inr rfl)
    (hf : X.fn x = true ∨ X.env.scope.names.lookup x = some .local := by first | exact .inl rfl | exact .inr rfl) : JS X W (.AugAssign (.Name x pos') op e pos) (dAugI i f fe) :=
  PS.imp (ps_aug hN hi hx he ho hf) fun D σ H ⟨G, Z, env, T, hT, r, p⟩ => by
    unfold dAugI at p
    split at p
    case h_2 => exact p.elim
    case h_1 a ea =>
      have ⟨F0, C1, C2, r0⟩ := r
      obtain ⟨v, _, _, sv, own, _⟩ := r0.ev.repl ea
      have ev : v = .int a := own.1
      subst ev
      refine ⟨.int a, sv, tE.bindS r p fun kr w H1 _ s1 r1 p1 => ?_⟩
      split at p1
      case h_2 => exact p1.elim
      case h_1 b eb =>
        obtain ⟨F1, D1, D2, r1⟩ := r1
        have dk : FDen X.mg H1 kr.fv w := (r1.bor (List.mem_cons_self (a := (w, kr)))).fden r1.fh
        rw [eb] at dk
        have dk : w = .int b := dk
        subst dk
        obtain ⟨F2, D3, D4, r2⟩ := r1.r.pop
        refine ⟨a, b, rfl, rfl, p1 _ _ ?_⟩
        exact ((r2.new (New.old r2.fh (x := .int (f a b)) (v := .int (f a b)) rfl)).set i)
end
end J
set_option maxHeartbeats 4000000
namespace J
open PySem PySem.Spec PyProof.Rows L2
/-! ### a dict with keys (int, tuple of ints), each with True -/
theorem nums_hash (w w' : World) : ∀ ns : List Int, NestedKey.hashes w (ns.map .num) = NestedKey.hashes w' (ns.map .num)
  | [] => rfl
  | n :: ns => by rw [List.map_cons, NestedKey.hashes, NestedKey.hashes, nums_hash w w' ns, NestedKey.hash, NestedKey.hash]
theorem nkey_hash (w w' : World) (k : NK) : (nkey k).hash w = (nkey k).hash w' := by
  unfold nkey
  simp only [NestedKey.hash, NestedKey.hashes]
  rw [nums_hash w w']
theorem nkey_inj {a b : NK} (h : nkey a = nkey b) : a = b := by
  unfold nkey at h
  injection h with h
  injection h with h1 h2
  injection h1 with h1
  injection h2 with h2 _
  injection h2 with h2
  have : a.2 = b.2 := List.map_inj_right (fun x y e => by injection e) |>.mp h2
  exact Prod.ext h1 this
theorem nums_depth : ∀ ns : List Int, NestedKey.depthAll (ns.map .num) = 0
  | [] => rfl
  | n :: ns => by rw [List.map_cons, NestedKey.depthAll, nums_depth ns, NestedKey.depth]; rfl
theorem nkey_depth (k : NK) : (nkey k).depth ≤ 8 := by
  unfold nkey
  simp only [NestedKey.depth, NestedKey.depthAll, nums_depth]
  decide
section
variable {X : Cx} {pins : List (Addr × Obj)} {σ : L2.St} {H : Hp} {s : Shared}
theorem nums_is {h : Heap} : ∀ {ns : List Int} {us : List Value}, Vals (ns.map V.int) us → NestedAll h (ns.map .num) us
  | [], _, r => by
    cases r
    exact .nil
  | n :: ns, _, r => by
    cases r with
    | cons r1 r2 =>
      obtain ⟨t, rfl⟩ := r1
      exact .cons (.int n t) (nums_is r2)
/-- a key that is tracked -/
def KeyT (H : Hp) (k : NK) (b : Addr) : Prop := ∃ c, H b = some (.tup [.int k.1, .ref c]) ∧ H c = some (.tup (k.2.map V.int))
theorem key_is (I : Inv X pins σ H s) {k : NK} {b : Addr} (h : KeyT H k b) : (nestedKind X.prog X.w).is s.heap (nkey k) b := by
  obtain ⟨c, h1, h2⟩ := h
  obtain ⟨its, r, ⟨o, ho, hc, n, hd⟩, _⟩ := I.tuple (.inl (.inl h1) : SqT X.K H b _)
  obtain ⟨its2, r2, ⟨o2, ho2, hc2, n2, hd2⟩, _⟩ := I.tuple (.inl (.inl h2) : SqT X.K H c _)
  refine ⟨?_, nkey_depth k⟩
  unfold nkey
  refine .tup ho hc hd ?_
  obtain _ | ⟨r1, _ | ⟨r3, r4⟩⟩ := r
  cases r4
  obtain ⟨t, rfl⟩ := r1
  cases r3
  exact .cons (.int _ t) (.cons (.tup ho2 hc2 hd2 (nums_is r2)) .nil)
theorem tab_dict (I : Inv X pins σ H s) {a : Addr} {kb : List (NK × Addr)} (h : H a = some (TabN a kb)) (hk : KeyTs H kb) : (a == sysModules) = false ∧ s.heap.DictOfH (nestedKind X.prog X.w) a (kb.map fun p => (nkey p.1, p.2, .bool true)) := by
  obtain ⟨⟨h1, h2, h3⟩, _⟩ := I.hok a _ h
  obtain ⟨o, es, ep, q1, q2, q3, q4⟩ := h3 X.w
  refine ⟨h1, o, es, ep, q1, q2, q3, ?_, fun x hx => ?_, ?_⟩
  · rw [q4, List.map_map]
    rfl
  · obtain ⟨p, hp, rfl⟩ := List.mem_map.mp hx
    exact key_is I (hk p hp)
  · rw [List.map_map]
    exact List.pairwise_map.mpr ((List.pairwise_map.mp h2).imp fun h e => h (nkey_inj e))
/-- k into the table, b its tuple -/
def putNK (kb : List (NK × Addr)) (k : NK) (b : Addr) : List (NK × Addr) := if k ∈ kb.map (·.1) then kb else kb ++ [(k, b)]
theorem tab_stored {P : Program} {w : World} {kb : List (NK × Addr)} {k : NK} {b : Addr} : (storedH (kb.map fun p => (nkey p.1, p.2, Value.bool true)) (nkey k) b (.bool true)) = (putNK kb k b).map fun p => (nkey p.1, p.2, Value.bool true) := by
  unfold storedH putNK
  have e : (atKey (kb.map fun p => (nkey p.1, p.2, Value.bool true)) (nkey k)).isSome = true ↔ k ∈ kb.map (·.1) := by
    unfold atKey
    rw [Option.isSome_map, List.find?_isSome, List.mem_map]
    constructor
    · rintro ⟨x, hx, hd⟩
      obtain ⟨p, hp, rfl⟩ := List.mem_map.mp hx
      exact ⟨p, hp, nkey_inj (of_decide_eq_true hd)⟩
    · rintro ⟨p, hp, rfl⟩
      exact ⟨_, List.mem_map_of_mem hp, by simp⟩
  by_cases h : k ∈ kb.map (·.1)
  · rw [if_pos (e.mpr h), if_pos h, List.map_map]
    refine List.map_congr_left fun p _ => ?_
    show putAt (nkey k) (.bool true) (nkey p.1, p.2, .bool true) = _
    unfold putAt
    split <;> rfl
  · rw [if_neg (fun z => h (e.mp z)), if_neg h, List.map_append]
    rfl
theorem tab_new {P : Program} {w : World} {H : Hp} {h : Heap} {a : Addr} {kb : List (NK × Addr)} (hs : (a == sysModules) = false) (hn : (kb.map (·.1)).Nodup) {o : Obj} {es : Array DictEntry} {ep : Nat} (q1 : h.get? a = some o) (q2 : o.ExactDict) (q3 : o.data = .dict es ep)
    (q4 : es.toList = (kb.map fun p => (nkey p.1, p.2, Value.bool true)).map (entryOfKey (nestedKind P w))) : ObjOk P w H h a (TabN a kb) := by
  refine ⟨⟨hs, hn, fun w' => ⟨o, es, ep, q1, q2, q3, ?_⟩⟩, ⟨o, q1⟩, fun h1 h2 ⟨a1, a2, a3⟩ k => ⟨a1, a2, fun w' => ?_⟩⟩
  · rw [q4, List.map_map]
    refine List.map_congr_left fun p _ => ?_
    show (⟨(nkey p.1).hash w, .ref p.2, .bool true⟩ : DictEntry) = _
    rw [nkey_hash w w']
  · obtain ⟨o, es, ep, r1, r2⟩ := a3 w'
    exact ⟨o, es, ep, k o r1, r2⟩
theorem putNK_nodup {kb : List (NK × Addr)} {k : NK} {b : Addr} (h : (kb.map (·.1)).Nodup) : ((putNK kb k b).map (·.1)).Nodup := by
  unfold putNK
  split
  · exact h
  · rename_i hk
    rw [List.map_append, List.nodup_append]
    exact ⟨h, by simp, fun x hx y hy e => hk (by rw [List.map_singleton, List.mem_singleton] at hy; have hy : y = k := hy; rw [← hy, ← e]; exact hx)⟩
def rNPut : TSet := fun o i y H Q => ∃ a b kb k, o = .ref a ∧ i = .ref b ∧ y = .bl true ∧ H a = some (TabN a kb) ∧ KeyTs H kb ∧ KeyT H k b ∧ kb.length ≤ sizeLine ∧ Q (upd H a (TabN a (putNK kb k b)))
theorem set_nput (hu : X.A.units + 10 < cLine) : PSet X rNPut := by
  intro pins s σ H o i y ov iv yv Q I ro ri ry ⟨a, b, kb, k, e1, e2, e3, ha, hk, hb, hz, q⟩
  subst e1 e2 e3
  cases ro
  cases ri
  cases (show yv = Value.bool true from ry)
  obtain ⟨hs, dd⟩ := tab_dict I ha hk
  have nd : (kb.map (·.1)).Nodup := (I.hok a _ ha).1.2.1
  refine wpAny_setItem_heap (hsz := by rw [List.length_map]; exact hz) (by show X.A.in1.units + 8 < cLine; show X.A.units + 1 + 8 < cLine; omega) (key_is I hb) dd fun h' dd' sb => ?_
  rw [tab_stored (P := X.prog) (w := X.w)] at dd'
  obtain ⟨o', es, ep, q1, q2, q3, q4, _, _⟩ := dd'
  exact ⟨_, I.write (e := a) (by rw [ha]; trivial) (.inl rfl) (fun c u hc hu => (sb.2 c hc).trans hu) ⟨o', q1⟩ (tab_new (P := X.prog) (w := X.w) hs (putNK_nodup nd) q1 q2 q3 q4), q⟩
theorem tab_at {P : Program} {w : World} {kb : List (NK × Addr)} {k : NK} : (atKey (kb.map fun p => (nkey p.1, p.2, Value.bool true)) (nkey k)).isSome = decide (k ∈ kb.map (·.1)) := by
  rw [Bool.eq_iff_iff, decide_eq_true_iff]
  unfold atKey
  rw [Option.isSome_map, List.find?_isSome, List.mem_map]
  constructor
  · rintro ⟨x, hx, hd⟩
    obtain ⟨p, hp, rfl⟩ := List.mem_map.mp hx
    exact ⟨p, hp, nkey_inj (of_decide_eq_true hd)⟩
  · rintro ⟨p, hp, rfl⟩
    exact ⟨_, List.mem_map_of_mem hp, by simp⟩
def rNIn : V → V → Hp → VK → Prop := fun u w H Q => ∃ a b kb k, w = .ref a ∧ u = .ref b ∧ H a = some (TabN a kb) ∧ KeyTs H kb ∧ KeyT H k b ∧ Q (.bl (decide (k ∈ kb.map (·.1)))) H
theorem op_inN (hu : X.A.units + 10 < cLine) : OpR X (compareOp .In) rNIn := by
  intro pins s σ H u w v1 v2 Q I r1 r2 ⟨a, b, kb, k, e1, e2, ha, hk, hb, q⟩
  subst e1 e2
  cases r1
  cases r2
  obtain ⟨hs, dd⟩ := tab_dict I ha hk
  refine wpAny_in_heap (by show X.A.units + 1 + 8 < cLine; omega) (key_is I hb) hs dd ?_
  rw [tab_at (P := X.prog) (w := X.w)]
  generalize decide (k ∈ kb.map (·.1)) = c at q ⊢
  exact ⟨.bl c, H, I.tok _, rfl, q⟩
def rNNo : V → V → Hp → VK → Prop := fun u w H Q => ∃ a b kb k, w = .ref a ∧ u = .ref b ∧ H a = some (TabN a kb) ∧ KeyTs H kb ∧ KeyT H k b ∧ Q (.bl (!decide (k ∈ kb.map (·.1)))) H
theorem op_noN (hu : X.A.units + 10 < cLine) : OpR X (compareOp .NotIn) rNNo := by
  rintro pins s σ H u w v1 v2 Q I r1 r2 ⟨a, b, kb, k, rfl, rfl, ha, hk, hb, q⟩
  cases r1; cases r2
  have ⟨hs, dd⟩ := tab_dict I ha hk
  refine wpAny_notIn_heap (show X.A.units + 1 + 8 < cLine by omega) (key_is I hb) hs dd ?_
  rw [tab_at (P := X.prog) (w := X.w)]
  generalize decide (k ∈ kb.map (·.1)) = c at q ⊢
  exact ⟨.bl (!c), H, I.tok _, rfl, q⟩
def nk? : FV → Option NK
  | .tup [.int i, .tup xs] => (ints? xs).map fun k => (i, k)
  | _ => none
def OV.nks? : OV → Option (List NK)
  | .oN ks => some ks
  | .fz (.dN ks) => some ks
  | _ => none
def opInN (x y : OV) : Option OV := y.nks?.bind fun ks => (nk? x.fv).map fun k => .fz (.bl (decide (k ∈ ks)))
theorem nk_den {M : Str → Option Value} {F : Hp} {x : FV} {v : V} {k : NK} (h : nk? x = some k) (d : FDen M F x v) : ∃ b, v = .ref b ∧ KeyT F k b := by
  unfold nk? at h
  split at h
  · rename_i i xs
    obtain ⟨ns, e, rfl⟩ := Option.map_eq_some_iff.mp h
    obtain ⟨a, vs, rfl, q, u, ws, rfl, d1, u2, ws2, rfl, ⟨c, vs2, rfl, q2, d2⟩, d3⟩ := d
    rw [show u = V.int i from d1, show ws2 = [] from d3] at q
    have e2 := d2.ints? e
    subst e2
    exact ⟨a, rfl, c, q, q2⟩
  · cases h
theorem KeyT.mono {F H : Hp} (h : Same F H) {k : NK} {b : Addr} (t : KeyT F k b) : KeyT H k b := let ⟨c, x, y⟩ := t; ⟨c, h _ _ x, h _ _ y⟩
theorem Bor.nks {M : Str → Option Value} {F H : Hp} {o : OV} {v : V} {ks : List NK} (hf : Same F H) (b : Bor M F H o v) (h : o.nks? = some ks) : ∃ a kb, v = .ref a ∧ H a = some (TabN a kb) ∧ kb.map (·.1) = ks ∧ KeyTs H kb := by
  obtain ⟨A, ow, c⟩ := b
  unfold OV.nks? at h
  split at h
  · cases h
    obtain ⟨a, kb, e, n, k, q⟩ := ow
    exact ⟨a, kb, e, c (a, TabN a kb) (by rw [q]; exact List.mem_singleton.mpr rfl), n, k.mono hf⟩
  · cases h
    obtain ⟨⟨a, kb, e, q, n, k⟩, _⟩ := ow
    exact ⟨a, kb, e, hf _ _ q, n, k.mono hf⟩
  · cases h
end
section
variable {X : Cx} {W : WX} {a b : Expr} {f g : DE} {pos : Pos}
theorem op_inNJ (hu : X.A.units + 10 < cLine) : OpR X (compareOp .In) (rJ X.mg opInN) := by
  intro pins s σ H u w v1 v2 Q I r1 r2 ⟨F, x, y, o, hf, bx, by', e, k⟩
  unfold opInN at e
  obtain ⟨ks, e1, e⟩ := Option.bind_eq_some_iff.mp e
  obtain ⟨q, e2, rfl⟩ := Option.map_eq_some_iff.mp e
  obtain ⟨A, kb, rfl, h1, rfl, h3⟩ := by'.nks hf e1
  obtain ⟨B, rfl, h4⟩ := nk_den e2 (bx.fden hf)
  exact op_inN hu pins s σ H _ _ v1 v2 Q I r1 r2 ⟨A, B, kb, q, rfl, rfl, h1, h3, h4, k _ _ (New.bl hf)⟩
theorem pc_inNJ (hu : X.A.units + 65 < cLine) (ha : JE X W a f) (hb : JE X W b g) : PC X .In a b (tE X.mg W (dBin opInN f g)) :=
  ⟨fun pins s σ H Q I q => (pc_of (op_inNJ (by omega)) ha hb).run pins s σ H Q I (by
    obtain ⟨G, Z, env, T, r, p⟩ := q
    refine tE.bind r Sb.refl p fun x u H1 ef s1 r1 p1 => ?_
    refine tE.bind r1 Sb.refl.cons p1 fun y w H2 eg s2 ⟨F, C1, C2, r2⟩ p2 => ?_
    obtain ⟨o, e, k⟩ := r2.fin (Sb.refl.cons.cons) p2
    exact ⟨F, x.ov, y.ov, o, r2.fh, r2.bor (List.mem_cons_of_mem _ List.mem_cons_self), r2.bor List.mem_cons_self, e, k⟩)⟩
theorem je_inN (hu : X.A.units + 65 < cLine) (ha : JE X W a f) (hb : JE X W b g) (hm : behindInMarks .In b = false := by rfl) : JE X W (.Compare a [.In] [b] pos) (dBin opInN f g) := pe_cmp (pc_inNJ hu ha hb) hm
theorem jt_inN (hu : X.A.units + 65 < cLine) (ha : JE X W a f) (hb : JE X W b g) (hm : behindInMarks .In b = false := by rfl) : JT X W (.Compare a [.In] [b] pos) (dTest (dBin opInN f g)) := PT.imp (pt_cmp (pc_inNJ hu ha hb) hm) fun _ _ _ h => tB_red h
def opNoN (x y : OV) : Option OV := y.nks?.bind fun ks => (nk? x.fv).map fun k => .fz (.bl (!decide (k ∈ ks)))
theorem op_noNJ (hu : X.A.units + 10 < cLine) : OpR X (compareOp .NotIn) (rJ X.mg opNoN) := by
  rintro pins s σ H u w v1 v2 Q I r1 r2 ⟨F, x, y, o, hf, bx, by', e, k⟩
  obtain ⟨ks, e1, e⟩ := Option.bind_eq_some_iff.mp e
  obtain ⟨q, e2, rfl⟩ := Option.map_eq_some_iff.mp e
  have ⟨A, kb, ew, h1, eks, h3⟩ := by'.nks hf e1
  have ⟨B, eu, h4⟩ := nk_den e2 (bx.fden hf)
  subst ew eks eu
  exact op_noN hu pins s σ H _ _ v1 v2 Q I r1 r2 ⟨A, B, kb, q, rfl, rfl, h1, h3, h4, k _ _ (New.bl hf)⟩
theorem pc_noNJ (hu : X.A.units + 65 < cLine) (ha : JE X W a f) (hb : JE X W b g) : PC X .NotIn a b (tE X.mg W (dBin opNoN f g)) :=
  ⟨fun pins s σ H Q I q => (pc_of (op_noNJ (by omega)) ha hb).run pins s σ H Q I (by
    obtain ⟨G, Z, env, T, r, p⟩ := q
    refine tE.bind r Sb.refl p fun x u H1 ef s1 r1 p1 => ?_
    refine tE.bind r1 Sb.refl.cons p1 fun y w H2 eg s2 ⟨F, C1, C2, r2⟩ p2 => ?_
    obtain ⟨o, e, k⟩ := r2.fin (Sb.refl.cons.cons) p2
    exact ⟨F, x.ov, y.ov, o, r2.fh, r2.bor (List.mem_cons_of_mem _ List.mem_cons_self), r2.bor List.mem_cons_self, e, k⟩)⟩
theorem je_noN (hu : X.A.units + 65 < cLine) (ha : JE X W a f) (hb : JE X W b g) (hm : behindInMarks .NotIn b = false := by rfl) : JE X W (.Compare a [.NotIn] [b] pos) (dBin opNoN f g) := pe_cmp (pc_noNJ hu ha hb) hm
theorem jt_noN (hu : X.A.units + 65 < cLine) (ha : JE X W a f) (hb : JE X W b g) (hm : behindInMarks .NotIn b = false := by rfl) : JT X W (.Compare a [.NotIn] [b] pos) (dTest (dBin opNoN f g)) := PT.imp (pt_cmp (pc_noNJ hu ha hb) hm) fun _ _ _ h => tB_red h
def dNewN : DE := fun _ => .ok (.st (.oN []))
theorem je_newN : JE X W (.Dict [] [] pos) dNewN := by
  refine PE.imp (t := fun σ H Q => ∀ q, H q = none → Q (.ref q) (upd H q (TabN q []))) ⟨fun pins s σ H Q I h => wpAny_Dict_empty ?_⟩ ?_
  · have z : (s.heap.objs.size == sysModules) = false := beq_eq_false_iff_ne.mpr fun e => by
      have := I.big
      rw [e] at this
      exact absurd this (by decide)
    have new : ObjOk X.prog X.w (upd H s.heap.objs.size (TabN s.heap.objs.size [])) (s.heap.push { cls := .type "dict", data := .dict #[] }) s.heap.objs.size (TabN s.heap.objs.size []) := tab_new z List.nodup_nil (Heap.get?_push_size _ rfl) ⟨rfl, rfl, rfl⟩ rfl rfl
    exact ⟨.ref s.heap.objs.size, _, I.laid (t' := s.toks) (fun _ _ q => Heap.get?_push_of_some _ q) (Nat.le_refl _) new, rfl, h _ (I.hok.fresh (Nat.le_refl _))⟩
  · rintro σ H Q ⟨G, Z, env, T, ⟨F, C1, C2, r⟩, p⟩ q hq
    have fq : F q = none := none_of_same r.fh hq
    exact p _ _ (same_upd hq) (r.new ⟨F, [(q, TabN q [])], Same.refl _, fun a u e => .inl e, r.fh.trans (same_upd hq), same_upd hq, ⟨q, [], rfl, rfl, nofun, rfl⟩, ⟨by simp, fun p hp => by rw [List.mem_singleton.mp hp]; exact upd_same, fun p hp => by rw [List.mem_singleton.mp hp]; exact fq, fun p hp => by rw [List.mem_singleton.mp hp]; exact hq⟩⟩)
end
def dNPut (i : Nat) (fk fe : DE) : DS := fun env => match env[i]? with
  | some (some (.oN ks)) => (fe env).bind fun r => match r with
    | .st (.fz (.bl true)) => (fk env).bind fun kr => match kr with
      | .st (.fz x) => match nk? x with
        | some k => if ks.length < BIG then .ok (.nx (env.set i (some (.oN (if k ∈ ks then ks else ks ++ [k]))))) else .no
        | none => .no
      | _ => .no
    | _ => .no
  | _ => .no
section
variable {X : Cx} {W : WX} {pos pos' tpos : Pos} {e k : Expr} {fk fe : DE} {x : Str}
theorem js_nput (i : Nat) (hu : X.A.units + 10 < cLine) (hk : JE X W k fk) (he : JE X W e fe) (hN : X.N[i]? = some x := by rfl) (hv : Vis X.env.scope x := by first | exact Or.inl rfl | exact Or.inr (Or.inl rfl) | exact Or.inr (Or.inr rfl))
    (hd : (x == ("__debug__" : Str)) = false := by decide) (hcd : (x == ("__classdict__" : Str)) = false := by decide)
    (hs : swapsWithSole [.Subscript (.Name x pos') k tpos] e pos.line X.env = pure false := by rfl) (hw : swappedStores [.Subscript (.Name x pos') k tpos] e X.env = pure none := by rfl)
    (h1 : (assignEach [.Subscript (.Name x pos') k tpos] X.env).map (·.2) = [assign (.Subscript (.Name x pos') k tpos) X.env] := by rfl)
    (ha : ∀ v, assign (.Subscript (.Name x pos') k tpos) X.env v = (do
      let ov ← holding [v] (eval (.Name x pos') X.env)
      let iv ← holding [v, ov] (eval k X.env)
      standAt tpos
      holding [v, ov, iv] (setItem ov iv v)
      release [v, ov, iv] []) := by intro _; rfl) :
    JS X W (.Assign [.Subscript (.Name x pos') k tpos] e pos) (dNPut i fk fe) := by
  refine PS.imp (ps_asg he (pg_sub (pe_var (pos := pos') hN hv hd hcd) hk (set_nput hu) ha) hs hw h1) fun D σ H ⟨G, Z, env, T, hT, r, p⟩ => ?_
  unfold dNPut at p
  split at p
  case h_2 => exact p.elim
  case h_1 ks ei =>
    refine tE.bindS r p fun rv y H1 _ s1 r1 p1 => ?_
    obtain rfl : rv = .st (.fz (.bl true)) := by
      split at p1
      · rfl
      · exact p1.elim
    have ⟨F1, D1, D2, q1⟩ := r1
    obtain ⟨v0, _, _, sv, _⟩ := q1.ev.repl ei
    refine ⟨v0, sv, tE.bindS2 r1 Sb.refl.cons p1 fun kr w H3 _ s3 r3 p3 => ?_⟩
    cases kr with
    | bo o => exact p3.elim
    | st o =>
      cases o with
      | fz z =>
        have p3 : PostS X.mg W G Z T D (match nk? z with
          | some k => if ks.length < BIG then .ok (.nx (env.set i (some (.oN (if k ∈ ks then ks else ks ++ [k]))))) else .no
          | none => .no) := p3
        cases ek : nk? z with
        | none => rw [ek] at p3; exact p3.elim
        | some key =>
          rw [ek] at p3
          simp only at p3
          split at p3
          case isFalse => exact p3.elim
          case isTrue few =>
            obtain ⟨F3, L1, L2, q3⟩ := r3
            obtain ⟨A, B, eA, ⟨dz, eN⟩, tm⟩ := q3.tm.freeze
            rw [eN, List.nil_append] at eA
            rw [← eA] at tm
            have q4 : RF X.mg G Z H3 F3 σ env ((y, .st (.fz (.bl true))) :: T) L1 L2 := ⟨q3.gf, q3.fg, q3.fh, q3.zh, q3.ev, tm, q3.gd⟩
            obtain ⟨b, rfl, kt⟩ := nk_den ek dz
            obtain ⟨v, L, C, j1, j2, j3, j4, j5⟩ := q4.write hT ei
            rw [sv] at j1
            cases j1
            obtain ⟨a, kb, rfl, rfl, kts, rfl⟩ := j2
            obtain ⟨ey, rfl⟩ := j3
            have eks : (putNK kb key b).map (·.1) = if key ∈ kb.map (·.1) then kb.map (·.1) else kb.map (·.1) ++ [key] := by
              unfold putNK
              split
              · rfl
              · rw [List.map_append]; rfl
            have kts' : KeyTs F3 (putNK kb key b) := fun p hp => by
              unfold putNK at hp
              split at hp
              · exact kts p hp
              · rcases List.mem_append.mp hp with hp | hp
                · exact kts p hp
                · rw [List.mem_singleton.mp hp]; exact kt
            obtain ⟨E1, E2, q5⟩ := j5 a (TabN a kb) (TabN a (putNK kb key b)) (.oN (if key ∈ kb.map (·.1) then kb.map (·.1) else kb.map (·.1) ++ [key])) ⟨[], [], [(a, TabN a (putNK kb key b))], .refl _, ⟨a, _, rfl, eks, kts', rfl⟩, .refl _⟩
            exact ⟨a, b, kb, key, rfl, rfl, ey, j4 _ (List.mem_singleton.mpr rfl), kts.mono q4.fh, kt.mono q4.fh, by rw [big_eq]; rw [List.length_map] at few; omega, p3 σ _ q5.r⟩
      | _ => exact p3.elim
end
end J
set_option maxHeartbeats 4000000
namespace J
open PySem PySem.Spec PyProof.Rows L2
/-! ### for y in x: y.append(None), over one's own list of one's own lists -/
def OV.addN : OV → OV
  | .ol xs => .ol (xs ++ [.non])
  | o => o
def OV.slim : OV → Bool
  | .ol xs => decide (xs.length < BIG)
  | _ => false
def dEachN (i j : Nat) : DS := fun env => match env[i]? with
  | some (some (.dl os)) => if i ≠ j ∧ j < env.length ∧ os.all OV.slim = true then .ok (.nx ((env.set i (some (.dl (os.map OV.addN)))).set j none)) else .no
  | _ => .no
def addTo (n : Nat) (os : List OV) : List OV := (os.take n).map OV.addN ++ os.drop n
theorem addTo_zero (os : List OV) : addTo 0 os = os := by simp [addTo]
theorem addTo_all {n : Nat} {os : List OV} (h : os.length ≤ n) : addTo n os = os.map OV.addN := by
  unfold addTo
  rw [List.take_of_length_le h, List.drop_of_length_le h, List.append_nil]
theorem addTo_get {n : Nat} {os : List OV} {o : OV} (h : os[n]? = some o) : (addTo n os)[n]? = some o := by
  have hl := (List.getElem?_eq_some_iff.mp h).1
  unfold addTo
  rw [List.getElem?_append_right (by rw [List.length_map, List.length_take]; omega), List.length_map, List.length_take, Nat.min_eq_left (by omega), Nat.sub_self, List.getElem?_drop, Nat.add_zero]
  exact h
theorem addTo_set {n : Nat} {os : List OV} {o : OV} (h : os[n]? = some o) : (addTo n os).set n o.addN = addTo (n + 1) os := by
  obtain ⟨hl, he⟩ := List.getElem?_eq_some_iff.mp h
  unfold addTo
  rw [List.set_append_right (h := by rw [List.length_map, List.length_take]; omega), List.length_map, List.length_take, Nat.min_eq_left (by omega), Nat.sub_self, List.drop_eq_getElem_cons hl, List.set_cons_zero, List.take_succ_eq_append_getElem hl, List.map_append, he]
  simp
section
variable {X : Cx} {W : WX} {e : Expr} {x y : Str} {pos p1 p2 p3 p4 apos cpos : Pos}
theorem js_eachN (i j : Nat) (hp : PassesOwn (model X.prog X.w) X.A X.env X.xe) (hc : X.calm = true) (hN : X.N.Nodup) (he : JE X W e (dC .non))
    (ni : X.N[i]? = some x := by rfl) (nj : X.N[j]? = some y := by rfl) (lj : Loc X.env.scope y := by first | exact .inl rfl | exact .inr rfl)
    (vi : Vis X.env.scope x := by first | exact Or.inl rfl | exact Or.inr (Or.inl rfl) | exact Or.inr (Or.inr rfl)) (vj : Vis X.env.scope y := by first | exact Or.inl rfl | exact Or.inr (Or.inl rfl) | exact Or.inr (Or.inr rfl))
    (fj : X.fn y = true ∨ X.env.scope.names.lookup y = some .local := by first | exact .inl rfl | exact .inr rfl)
    (dx : (x == ("__debug__" : Str)) = false := by decide) (dx2 : (x == ("__classdict__" : Str)) = false := by decide) (dy : (y == ("__debug__" : Str)) = false := by decide) (dy2 : (y == ("__classdict__" : Str)) = false := by decide)
    (s3 : swapsWith (.Call (.Attribute (.Name y p3) "append" apos) [e] [] cpos) none p4.line X.env = pure false := by rfl)
    (b1 : attributeBase (.Name y p3) "append" X.env (eval (.Name y p3) X.env) = eval (.Name y p3) X.env := by rfl)
    (b2 : ((backTo cpos (starEach [e] X.env)).all (fun x => !x.1) && (backToKw cpos (keywordEach [] X.env)).all (fun x => x.1.isSome) && decide ([e].length + ([] : List Keyword).length + (if ([] : List Keyword).isEmpty then 0 else 1) < 30)) = true := by rfl)
    (b3 : (apos.endLine == cpos.line) = true := by rfl) (b4 : starEach [e] X.env = (false, eval e X.env) :: starEach [] X.env := by rfl) (b5 : (backTo cpos (starEach [] X.env)).any (·.1) = false := by rfl)
    (hs : ∀ z, foldedSetIterable (.Name x p2) X.env z = pure z := by intro _; rfl) :
    JS X W (.For (.Name y p1) (.Name x p2) [.Expr (.Call (.Attribute (.Name y p3) "append" apos) [e] [] cpos) p4] [] pos) (dEachN i j) := by
  refine PS.imp (ps_for hp hc (pi_list (pe_var ni vi dx dx2)) (pg_name hN nj lj fj)
    (pss_one (ps_expr (pe_bm F.plainAttrs_list F.slot_list_append (by rfl) (fun pins s σ H x xs v us Q I r rv q => mt_append pins s σ H x xs v us Q I r rv q) (pe_var nj vj dy dy2) (pa_cons he pa_nil b4) b1 b2 b3 b4 b5) s3)) hs) fun D σ H ⟨G, Z, env, T, hT, r, p⟩ => ?_
  unfold dEachN at p
  split at p
  case h_2 => exact p.elim
  case h_1 os ei =>
    split at p
    case isFalse => exact p.elim
    case isTrue hh =>
      obtain ⟨hij, hj, hall⟩ := hh
      obtain ⟨F0, C1, C2, r0⟩ := r
      obtain ⟨a, vs0, sa, ha⟩ := r0.isL (p := .dl os) rfl ei
      have hj2 : j < σ.length := by rw [r0.ev.len]; exact hj
      have hset : ∀ (ρ : Sl), j < ρ.length → ρ.set j (ρ[j]?.bind id) = ρ := by
        intro ρ hl
        apply List.ext_getElem?
        intro k
        by_cases hk : j = k
        · subst hk
          rw [List.getElem?_set_self hl, List.getElem?_eq_getElem hl]
          rfl
        · rw [List.getElem?_set_ne hk]
      have ru := r0.r.unset j (σ[j]?.bind id)
      rw [hset σ hj2] at ru
      have e0 : (env.set i (some (.dl (addTo 0 os)))).set j none = env.set j none := by
        rw [addTo_zero]
        congr 1
        apply List.ext_getElem?
        intro k
        by_cases hk : i = k
        · subst hk
          obtain ⟨hlt, _⟩ := List.getElem?_eq_some_iff.mp ei
          rw [List.getElem?_set_self hlt, ei]
        · rw [List.getElem?_set_ne hk]
      have p : D.nx = D.nx ∧ ∀ σ' H', R X.mg G Z H' σ' ((env.set i (some (.dl (addTo os.length os)))).set j none) T → D.nx σ' H' := ⟨rfl, fun σ' H' r => p σ' H' (by rw [addTo_all (Nat.le_refl _)] at r; exact r)⟩
      obtain ⟨_, p⟩ := p
      have il : i < env.length := (List.getElem?_eq_some_iff.mp ei).1
      refine ⟨.ref a, sa, a, rfl, ⟨vs0, SqL.of ha⟩, fun n m σ H => n + m = os.length ∧ j < σ.length ∧ σ[i]? = some (some (.ref a)) ∧ R X.mg G Z H σ ((env.set i (some (.dl (addTo n os)))).set j none) T, ⟨os.length, by omega, hj2, sa, by rw [e0]; exact ru⟩, ?_⟩
      rintro n m σ H ⟨hnm, hjl, sa, r⟩
      have en : ((env.set i (some (.dl (addTo n os)))).set j none)[i]? = some (some (.dl (addTo n os))) := by
        rw [List.getElem?_set_ne (Ne.symm hij), List.getElem?_set_self il]
      obtain ⟨F1, D1, D2, r1⟩ := r
      obtain ⟨v, A, Lr, sv, own, pm, _, _⟩ := r1.ev.repl en
      rw [sa] at sv
      obtain rfl := Option.some.inj (Option.some.inj sv)
      obtain ⟨a', vs, L0, ev, rr, eL⟩ := own
      cases ev
      have at_a : H a = some (.lst vs) := r1.gd.hp (a, .lst vs) (List.mem_append_left _ (pm.mem_iff.mpr (List.mem_append_left _ (eL ▸ List.mem_cons_self))))
      have lv : vs.length = os.length := by rw [rr.length]; unfold addTo; rw [List.length_append, List.length_map, List.length_take, List.length_drop]; omega
      by_cases hlt : n < os.length
      · have on : os[n]? = some os[n] := List.getElem?_eq_getElem hlt
        have sl := List.all_eq_true.mp hall _ (List.getElem_mem hlt)
        obtain ⟨xs, ex, hx⟩ : ∃ xs, os[n] = .ol xs ∧ xs.length < BIG := by
          revert sl
          generalize os[n] = o
          intro sl
          unfold OV.slim at sl
          split at sl
          · exact ⟨_, rfl, of_decide_eq_true sl⟩
          · cases sl
        rw [ex] at on
        obtain ⟨u, B, Lq, h1, h2, h3, _⟩ := rr.focus (addTo_get on)
        refine .inr ⟨⟨vs, u, SqL.of at_a, h1⟩, fun σ' H' => j < σ'.length ∧ σ'[i]? = some (some (.ref a)) ∧ R X.mg G Z H' σ' ((env.set i (some (.dl (addTo (n + 1) os)))).set j none) T, fun σ' H' h => ⟨m - 1, by omega, by omega, h⟩, fun v H' yl => ?_⟩
        obtain ⟨e1, e2⟩ := yl
        have e3 := e2 vs (SqL.of at_a)
        rw [h1] at e3
        cases e3
        subst e1
        obtain ⟨b, ws, eu, hm⟩ := own_isL (p := .ol xs) rfl h2
        subst eu
        have at_b : H' b = some (.lst ws) := r1.gd.hp _ (List.mem_append_left _ (pm.mem_iff.mpr (List.mem_append_left _ (eL ▸ List.mem_cons_of_mem _ (h3.mem_iff.mpr (List.mem_append_left _ hm))))))
        have r2 := r1.r.unset j (some (.ref b))
        rw [List.set_set] at r2
        have sj : (σ.set j (some (V.ref b)))[j]? = some (some (.ref b)) := List.getElem?_set_self hjl
        refine ⟨.ref b, sj, .inl ⟨rfl, ws, SqL.of at_b⟩, ?_⟩
        refine tE.then r2 Sb.refl (fun rv v2 H3 ev s3 r4 => ?_) (fun cc C H3 ev m s r5 => nomatch ev) fun ev => nomatch ev
        cases ev
        obtain ⟨F4, D5, D6, r4⟩ := r4
        obtain ⟨v4, L4, B4, w1, w2, w3, w4, w5⟩ := r4.write hT en
        rw [List.getElem?_set_ne (Ne.symm hij), sa] at w1
        obtain rfl := Option.some.inj (Option.some.inj w1)
        obtain ⟨a2, vs2, L2, e5, rr2, eL2⟩ := w2
        cases e5
        have at_a2 : H3 a = some (.lst vs2) := w4 _ (eL2 ▸ List.mem_cons_self)
        rw [s3 _ _ at_a] at at_a2
        cases at_a2
        obtain ⟨u2, B2, Lq2, k1, k2, k3, k4⟩ := rr2.focus (addTo_get on)
        rw [h1] at k1
        cases k1
        obtain ⟨b2, ws2, eb, hm2, hl2, wr⟩ := own_app (o := .fz .non) (p := .ol xs) (p' := .ol (xs ++ [.non])) rfl k2 w3
        cases eb
        have at_b2 : H3 b = some (.lst ws2) := w4 _ (eL2 ▸ List.mem_cons_of_mem _ (k3.mem_iff.mpr (List.mem_append_left _ hm2)))
        obtain ⟨_, _, r7⟩ := w5 b (.lst ws2) (.lst (ws2 ++ [v2])) (.dl ((addTo n os).set n (.ol (xs ++ [.non])))) (by
          rw [eL2]
          exact wrote_up k3 wr fun A' d' => let ⟨L', u1, u2⟩ := k4 _ A' d'; ⟨L', ⟨a, vs, L', rfl, u1, rfl⟩, u2⟩)
        refine ⟨b, ws2, v2, rfl, rfl, at_b2, by rw [hl2, big_eq]; exact hx, by rw [List.length_set]; exact hjl, by rw [List.getElem?_set_ne (Ne.symm hij)]; exact sa, ?_⟩
        have e9 := addTo_set on
        unfold OV.addN at e9
        have e10 : ((env.set i (some (.dl (addTo n os)))).set j none).set i (some (.dl ((addTo n os).set n (.ol (xs ++ [.non]))))) = (env.set i (some (.dl (addTo (n + 1) os)))).set j none := by
          rw [← e9, List.set_comm _ _ (Ne.symm hij), List.set_set]
        rw [← e10]
        exact r7.r
      · refine .inl ⟨⟨vs, SqL.of at_a, by rw [lv]; omega⟩, ?_⟩
        have : n = os.length := by omega
        subst this
        exact p σ H ⟨F1, D1, D2, r1⟩
end
end J
set_option maxHeartbeats 4000000
namespace J
open PySem PySem.Spec PyProof.Rows L2 RZ
/-! ### x.update(e), e a dict that stands still -/
def tDUpd (td ty : TE) : TE := fun σ H Q => td σ H fun x H1 => ∃ a, x = .ref a ∧ IsD H1 a ∧ ty σ H1 fun y H2 => ∃ b kvs more, y = .ref b ∧ a ≠ b ∧ H2 a = some (.dK kvs) ∧ H2 b = some (.dK more) ∧ kvs.length + more.length ≤ sizeLine ∧ Q .non (upd H2 a (.dK (mergeK kvs more)))
section
variable {X : Cx} {pins : List (Addr × Obj)} {σ : L2.St} {H : Hp} {s : Shared} {A : Around} {E : Value → Shared → Prop}
theorem d_merge {a b : Addr} {kvs more : List (Key × V)} {Q : Value → Shared → Prop} (I : Inv X pins σ H s) (ea : H a = some (.dK kvs)) (eb : H b = some (.dK more)) (ne : a ≠ b) (hz : kvs.length + more.length ≤ sizeLine)
    (h : ∀ s', Inv X pins σ (upd H a (.dK (mergeK kvs more))) s' → Q .none s') : wpAny (model X.prog X.w) A (call (.builtin "dict.update") [.ref a, .ref b]) Q E s := by
  have ⟨_, na, va, ra, da⟩ := dk_of I.hok ea
  have ⟨_, nb, vb, rb, db⟩ := dk_of I.hok eb
  have room : va.length + vb.length ≤ sizeLine := by rw [← ra.length, ← rb.length]; exact hz
  exact call_meetsIn PySem.F.slot_dict_update da.typeIs PySem.F.entry_dict_update (PySem.F.args_dict_update_2 _ _) (meets_dict_update (mixKind X.prog X.w) a b ne nb) ⟨va, vb, da, db, room, fun h' dd _ hs =>
    h _ (d_write I (by rw [ea]; trivial) hs (let ⟨q, _, _, hq, _⟩ := dd; ⟨q, hq⟩) (dk_new (Nat.le_trans (length_mergeK more kvs) hz) na (KV.merge rb ra) dd))⟩
theorem pe_dupd {o e : Expr} {apos cpos : Pos} {td ty : TE} (ho : PE X o td) (he : PE X e ty) (m : M1 X o "update" apos e cpos) : PE X (.Call (.Attribute o "update" apos) [e] [] cpos) (tDUpd td ty) := ⟨fun pins s σ H Q I h =>
  wpAny_Call_method m.base m.few m.line PySem.F.plainAttrs_dict PySem.F.slot_dict_update PySem.F.type_dict_update (thn (ho.run pins s σ H _ I h) fun u s1 ⟨x, H1, I1, rx, a, ex, d, q1⟩ => by
    have eu : u = Value.ref a := by subst ex; exact rx
    subst ex eu
    have ⟨t1, t2, _⟩ := isD_at I1 d
    refine ⟨t1, t2, ?_⟩
    rw [m.trees]
    exact Calls.callWith_builtin rfl (Calls.evalArgs_plain (Calls.spliced_cons (thn (he.run pins s1 σ H1 _ I1 q1) fun v s2 ⟨y, H2, I2, ry, b, kvs, more, ey, ne, ea, eb, hz, q2⟩ => Calls.spliced_nil (by
      subst ey
      cases ry
      exact d_merge I2 ea eb ne hz fun s3 I3 => ⟨.non, _, I3, rfl, q2⟩)))))⟩
end
def dUpd (i : Nat) (f : DE) : DS := fun env => match env[i]? with
  | some (some (.oK kvs)) => (f env).bind fun r => match r with
    | .st (.fz (.dK more)) => if kvs.length + more.length ≤ BIG then .ok (.nx (env.set i (some (.oK (mergeF kvs more))))) else .no
    | _ => .no
  | _ => .no
section
variable {X : Cx} {W : WX} {pos pos' apos cpos : Pos} {e : Expr} {f : DE} {x : Str}
theorem js_upd (i : Nat) (he : JE X W e f) (m : M1 X (.Name x pos') "update" apos e cpos) (hN : X.N[i]? = some x := by rfl) (hv : Vis X.env.scope x := by first | exact Or.inl rfl | exact Or.inr (Or.inl rfl) | exact Or.inr (Or.inr rfl))
    (hd : (x == ("__debug__" : Str)) = false := by decide) (hcd : (x == ("__classdict__" : Str)) = false := by decide)
    (hs : swapsWith (.Call (.Attribute (.Name x pos') "update" apos) [e] [] cpos) none pos.line X.env = pure false := by rfl) :
    JS X W (.Expr (.Call (.Attribute (.Name x pos') "update" apos) [e] [] cpos) pos) (dUpd i f) := by
  refine PS.imp (ps_expr (pe_dupd (pe_var hN hv hd hcd) he m) hs) fun D σ H ⟨G, Z, env, T, hT, r, p⟩ => ?_
  unfold dUpd at p
  split at p
  case h_2 => exact p.elim
  case h_1 kvs ei =>
    have ⟨F, C1, C2, r0⟩ := r
    obtain ⟨v, A, Lr, sv, own, pm, _, _⟩ := r0.ev.repl ei
    obtain ⟨a, ws, rfl, dd, eA⟩ := own
    have ha : H a = some (.dK ws) := r0.gd.hp (a, .dK ws) (List.mem_append_left _ (pm.mem_iff.mpr (List.mem_append_left _ (eA ▸ List.mem_cons_self))))
    refine ⟨_, sv, a, rfl, .inl ⟨ws, .inl ha⟩, tE.bindS r p fun rv y H1 _ s1 r1 p1 => ?_⟩
    split at p1
    case h_2 => exact p1.elim
    case h_1 more _ =>
      split at p1
      case isFalse => exact p1.elim
      case isTrue hz =>
        obtain ⟨F1, D1, D2, r1⟩ := r1
        obtain ⟨v2, L, B, j1, j2, j3, j4, j5⟩ := r1.write hT ei
        rw [sv] at j1
        obtain rfl := Option.some.inj (Option.some.inj j1)
        obtain ⟨a2, ws2, e2, dd2, eL⟩ := j2
        cases e2
        obtain ⟨⟨b, us, rfl, fb, db⟩, hB⟩ := j3
        have h1a : H1 a = some (.dK ws2) := j4 _ (eL ▸ List.mem_cons_self)
        have fa : F1 a = none := by
          have ⟨v3, A3, L3, k1, k2, k3, _, _⟩ := r1.ev.repl ei
          rw [sv] at k1
          obtain rfl := Option.some.inj (Option.some.inj k1)
          obtain ⟨a3, ws3, e3, _, eA3⟩ := k2
          cases e3
          exact r1.gd.fr (a, .dK ws3) (List.mem_append_left _ (k3.mem_iff.mpr (List.mem_append_left _ (eA3 ▸ List.mem_cons_self))))
        have ne : a ≠ b := fun e => by
          rw [← e, fa] at fb
          cases fb
        refine ⟨b, ws2, us, rfl, ne, h1a, r1.fh _ _ fb, by rw [dd2.length, db.length, big_eq]; exact hz, p1 σ _ ?_⟩
        obtain ⟨_, _, r5⟩ := j5 a (.dK ws2) (.dK (mergeK ws2 us)) (.oK (mergeF kvs more)) (by
          rw [eL, hB]
          exact ⟨[], [], _, .refl _, ⟨a, _, rfl, db.merge dd2, rfl⟩, .refl _⟩)
        exact r5.r
end
/-! ### dict(zip(a, b)) of two tuples -/
section
variable {prog : Program} {w : World} {A : Around} {E : Value → Shared → Prop} {s : Shared} {z TI TO i1 i2 T : Addr} {fp1 fp2 : List Addr} {n1 n2 i : Nat} {P1 P2 : Nat → Value → Prop} {St1 St2 : Nat → Heap → Prop} {f : Bool} {oT : Obj}
/-- next of a zip whose pair is out: a new pair -/
theorem zipOut_item {Q : Value → Shared → Prop} (S : ZipSep2 z TI TO i1 i2 fp1 fp2) (D1 : Draws prog w A i1 fp1 n1 P1 St1) (D2 : Draws prog w A i2 fp2 n2 P2 St2) (hz : IsZipHeld s.heap z TI TO T f) (hT : s.heap.get? T = some oT)
    (hTI : IsTupOf2 s.heap TI (.ref i1) (.ref i2)) (st1 : St1 i s.heap) (st2 : St2 i s.heap) (l1 : i < n1) (l2 : i < n2)
    (hQ : ∀ x y h' tk q, P1 i x → P2 i y → IsZipHeld h' z TI TO T true → St1 (i + 1) h' → St2 (i + 1) h' → IsTupOf2 h' q x y → (∀ c o, c ≠ z → c ≠ i1 → c ≠ i2 → s.heap.get? c = some o → h'.get? c = some o) → Q (.ref q) { s with heap := h', toks := tk }) :
    wpAny (model prog w) A (Builtin.«zip.__next__» ⟨[.ref z], []⟩) (fun fin s' => ∃ v, fin = .done (.ret v) ∧ Q v s') E s := by
  obtain ⟨hp, g, d, tk0, os⟩ := s
  show wpAny _ _ (field (.ref z) 2 >>= _) _ _ _; refine wpAny_bind (wpAny_field hz rfl (x := .bool false) rfl ?_)
  show wpAny _ _ (field (.ref z) 3 >>= _) _ _ _; refine wpAny_bind (wpAny_field hz rfl (x := .ref TI) rfl (wpAny_bind (wpAny_seqItems hTI rfl ?_)))
  show wpAny _ _ (Builtin.SmallTypes.ownedTupleIsFree (.ref z) >>= _) _ _ _; refine wpAny_bind (wpAny_tupleHeld_zip hz hT fun h₁ z₁ k₁ => ?_)
  simp only [Bool.false_eq_true, if_false]; refine wpAny_bind ?_
  rw [← Array.forIn_toList]; simp only [List.forIn_cons, List.forIn_nil]; refine wpAny_bind (wpAny_bind (wpAny_holding ?_))
  show wpAny _ _ (Builtin.SmallTypes.nextOf (.ref i1) >>= _) _ _ _
  refine wpAny_bind (D1.item i _ _ _ l1 (D1.over st1 k₁ S.zf1) fun x h₂ t₂ y₁ u₁ k₂ => wpAny_pure (wpAny_pure (wpAny_bind (wpAny_bind (wpAny_holding ?_)))))
  show wpAny _ _ (Builtin.SmallTypes.nextOf (.ref i2) >>= _) _ _ _
  refine wpAny_bind (D2.item i _ _ _ l2 (D2.over (D2.over st2 k₁ S.zf2) k₂ S.sep1_2) fun y h₃ t₃ y₂ u₂ k₃ => wpAny_pure (wpAny_pure (wpAny_pure ?_)))
  show wpAny _ _ (newTuple [x, y] >>= _) _ _ _; refine wpAny_bind (wpAny_newTuple (wpAny_pure ⟨_, rfl, ?_⟩))
  have up : ∀ c o, h₃.get? c = some o → (h₃.push { cls := .type "tuple", data := .seq #[x, y] }).get? c = some o := fun c o e => Heap.get?_push_of_some _ e
  have far : ∀ c o, c ≠ z → c ≠ i1 → c ≠ i2 → hp.get? c = some o → h₃.get? c = some o := fun c o a b c' e => k₃.extBut _ _ c' (k₂.extBut _ _ b (k₁.extBut _ _ a e))
  exact hQ x y _ _ _ y₁ y₂ (up _ _ (k₃.extBut _ _ S.zi2 (k₂.extBut _ _ S.zi1 z₁))) (D1.frame _ _ _ (D1.over u₁ k₃ S.sep2_1) fun b _ o e => up b o e) (D2.frame _ _ _ u₂ fun b _ o e => up b o e) (Heap.get?_push_size _ rfl) fun c o a b c' e => up c o (far c o a b c' e)
theorem zipOut_end {Q : Fin → Shared → Prop} (S : ZipSep2 z TI TO i1 i2 fp1 fp2) (D1 : Draws prog w A i1 fp1 n1 P1 St1) (hz : IsZipHeld s.heap z TI TO T f) (hT : s.heap.get? T = some oT)
    (hTI : IsTupOf2 s.heap TI (.ref i1) (.ref i2)) (st1 : St1 n1 s.heap)
    (hE : ∀ h' tk e, (∀ c o, c ≠ z → c ≠ i1 → s.heap.get? c = some o → h'.get? c = some o) → (∃ o, h'.get? e = some o ∧ o.cls = .type "StopIteration") → E (.ref e) { s with heap := h', toks := tk }) :
    wpAny (model prog w) A (Builtin.«zip.__next__» ⟨[.ref z], []⟩) Q E s := by
  obtain ⟨hp, g, d, tk0, os⟩ := s
  show wpAny _ _ (field (.ref z) 2 >>= _) _ _ _; refine wpAny_bind (wpAny_field hz rfl (x := .bool false) rfl ?_)
  show wpAny _ _ (field (.ref z) 3 >>= _) _ _ _; refine wpAny_bind (wpAny_field hz rfl (x := .ref TI) rfl (wpAny_bind (wpAny_seqItems hTI rfl ?_)))
  show wpAny _ _ (Builtin.SmallTypes.ownedTupleIsFree (.ref z) >>= _) _ _ _; refine wpAny_bind (wpAny_tupleHeld_zip hz hT fun h₁ z₁ k₁ => ?_)
  simp only [Bool.false_eq_true, if_false]; refine wpAny_bind ?_
  rw [← Array.forIn_toList]; simp only [List.forIn_cons, List.forIn_nil]; refine wpAny_bind (wpAny_bind (wpAny_holding ?_))
  show wpAny _ _ (Builtin.SmallTypes.nextOf (.ref i1) >>= _) _ _ _
  exact wpAny_bind (D1.done _ _ _ (D1.over st1 k₁ S.zf1) fun h₂ e k₂ he => hE h₂ _ e (fun c o a b x => k₂ _ _ b (k₁.extBut _ _ a x)) he)
theorem nextOut_item {Q : Option Value → Shared → Prop} (S : ZipSep2 z TI TO i1 i2 fp1 fp2) (D1 : Draws prog w A.in1 i1 fp1 n1 P1 St1) (D2 : Draws prog w A.in1 i2 fp2 n2 P2 St2) (hz : IsZipHeld s.heap z TI TO T f) (hT : s.heap.get? T = some oT)
    (hTI : IsTupOf2 s.heap TI (.ref i1) (.ref i2)) (st1 : St1 i s.heap) (st2 : St2 i s.heap) (l1 : i < n1) (l2 : i < n2)
    (hQ : ∀ x y h' tk q, P1 i x → P2 i y → IsZipHeld h' z TI TO T true → St1 (i + 1) h' → St2 (i + 1) h' → IsTupOf2 h' q x y → (∀ c o, c ≠ z → c ≠ i1 → c ≠ i2 → s.heap.get? c = some o → h'.get? c = some o) → Q (some (.ref q)) { s with heap := h', toks := tk }) :
    wpAny (model prog w) A (pyNext (.ref z)) Q E s := by
  have ty : s.TypeIs (.ref z) "zip" := ⟨_, hz, rfl⟩
  unfold pyNext
  exact wpAny_bind (wpAny_attempt (wpAny_callSpecial?_slot (name := Str.ofString "__next__") ty PySem.F.slot_zip_next (wpAny_call_entry PySem.F.slot_zip_next ty PySem.F.entry_zip_next (zipOut_item S D1 D2 hz hT hTI st1 st2 l1 l2 fun x y h' tk q a b c d e u v => wpAny_pure (hQ x y h' tk q a b c d e u v)) (PySem.F.args_zip_next_1 _))))
theorem nextOut_end {Q : Option Value → Shared → Prop} (S : ZipSep2 z TI TO i1 i2 fp1 fp2) (D1 : Draws prog w A.in1 i1 fp1 n1 P1 St1) (hz : IsZipHeld s.heap z TI TO T f) (hT : s.heap.get? T = some oT)
    (hTI : IsTupOf2 s.heap TI (.ref i1) (.ref i2)) (st1 : St1 n1 s.heap)
    (hQ : ∀ h' tk, (∀ c o, c ≠ z → c ≠ i1 → s.heap.get? c = some o → h'.get? c = some o) → Q none { s with heap := h', toks := tk }) : wpAny (model prog w) A (pyNext (.ref z)) Q E s := by
  have ty : s.TypeIs (.ref z) "zip" := ⟨_, hz, rfl⟩
  unfold pyNext
  refine wpAny_bind (wpAny_attempt (wpAny_callSpecial?_slot (name := Str.ofString "__next__") ty PySem.F.slot_zip_next (wpAny_call_entry PySem.F.slot_zip_next ty PySem.F.entry_zip_next (zipOut_end S D1 hz hT hTI st1 fun h' tk e hk he => ?_) (PySem.F.args_zip_next_1 _))))
  have ⟨o, ho, hc⟩ := he
  exact wpAny_bind (wpAny_isInstance (T := "StopIteration") (b := true) ⟨o, ho, hc⟩ isSubtype_stop (wpAny_pure (hQ _ _ hk)))
/-- zip over two iterators of as many turns, as what a dict is made of -/
theorem argD {n : Nat} (S : ZipSep2 z TI TO i1 i2 fp1 fp2) (D1 : ∀ A : Around, A.handled = none → Draws prog w A i1 fp1 n P1 St1) (D2 : ∀ A : Around, A.handled = none → Draws prog w A i2 fp2 n P2 St2)
    (F1 : ∀ i h h', St1 i h → (∀ b ∈ fp1, ∀ o, h.get? b = some o → h'.get? b = some o) → St1 i h') (F2 : ∀ i h h', St2 i h → (∀ b ∈ fp2, ∀ o, h.get? b = some o → h'.get? b = some o) → St2 i h')
    (L1 : ∀ h, St1 0 h → ∀ b ∈ fp1, ∃ o, h.get? b = some o) (L2 : ∀ h, St2 0 h → ∀ b ∈ fp2, ∃ o, h.get? b = some o) :
    PairArg prog w "zip" z (z :: TI :: TO :: (fp1 ++ fp2)) [z, TO, i1, i2] n (fun i k v => P1 i k ∧ P2 i v)
      (fun h => IsZip h z TI TO .none ∧ IsTupOf2 h TI (.ref i1) (.ref i2) ∧ (∃ a b, IsTupOf2 h TO a b) ∧ St1 0 h ∧ St2 0 h) where
  type := fun s ok => ⟨_, ok.1, rfl⟩
  notDict := by decide
  keep := fun h h' ⟨a, b, ⟨x, y, c⟩, d, e⟩ k => ⟨k _ _ a, k _ _ b, ⟨x, y, k _ _ c⟩, F1 _ _ _ d fun c _ o q => k c o q, F2 _ _ _ e fun c _ o q => k c o q⟩
  there := fun h ⟨a, b, ⟨x, y, c⟩, d, e⟩ q hq => by
    rcases List.mem_cons.mp hq with e1 | hq
    · exact ⟨_, e1 ▸ a⟩
    rcases List.mem_cons.mp hq with e1 | hq
    · exact ⟨_, e1 ▸ b⟩
    rcases List.mem_cons.mp hq with e1 | hq
    · exact ⟨_, e1 ▸ c⟩
    exact (List.mem_append.mp hq).elim (L1 h d q) (L2 h e q)
  sub := fun b hb => by
    have m1 := S.mem1
    have m2 := S.mem2
    simp only [List.mem_cons, List.not_mem_nil, or_false] at hb
    simp only [List.mem_cons, List.mem_append]
    rcases hb with e | e | e | e
    · exact .inl e
    · exact .inr (.inr (.inl e))
    · exact .inr (.inr (.inr (.inl (e ▸ m1))))
    · exact .inr (.inr (.inr (.inr (e ▸ m2))))
  noKeys := fun A s Q E hA ok h => getAttrOr_miss_zip ok.1 rfl rfl rfl zip_no_keys (by decide +kernel) hA h
  iter := fun A s d Q E hA ⟨hz, hTI, ⟨a, b, hTO⟩, st1, st2⟩ hd hdf h => by
    have dn : d ≠ z ∧ d ≠ TI ∧ d ≠ TO ∧ d ∉ fp1 ∧ d ∉ fp2 := by simpa [not_or] using hdf
    obtain ⟨dz, dTI, dTO, d1, d2⟩ := dn
    have di1 : d ≠ i1 := fun e => d1 (e ▸ S.mem1)
    have di2 : d ≠ i2 := fun e => d2 (e ▸ S.mem2)
    let St : Nat → Heap → Prop := fun i h => IsTupOf2 h TI (.ref i1) (.ref i2) ∧ St1 i h ∧ St2 i h ∧ ((IsZip h z TI TO .none ∧ ∃ a b, IsTupOf2 h TO a b) ∨ ∃ T f oT, IsZipHeld h z TI TO T f ∧ h.get? T = some oT ∧ T ≠ z ∧ T ≠ i1 ∧ T ≠ i2 ∧ T ≠ d)
    refine wpAny_pyIter_zip hz (h z [z, TO, i1, i2] St s.heap s.toks ⟨?_, ?_, ?_, ?_⟩ ⟨hTI, st1, st2, .inl ⟨hz, a, b, hTO⟩⟩ (fun _ _ e => e) fun b hb => .inl hb)
    · simp [dz, dTO, di1, di2]
    · rintro i h h' ⟨q1, q2, q3, q4⟩ k
      refine ⟨k _ _ dTI.symm q1, F1 _ _ _ q2 fun c hc o e => k c o (fun z => d1 (z ▸ hc)) e, F2 _ _ _ q3 fun c hc o e => k c o (fun z => d2 (z ▸ hc)) e, q4.imp (fun ⟨u, x, y, v⟩ => ⟨k _ _ dz.symm u, x, y, k _ _ dTO.symm v⟩) fun ⟨T, f, oT, u, v, n1, n2, n3, n4⟩ => ⟨T, f, oT, k _ _ dz.symm u, k _ _ n4 v, n1, n2, n3, n4⟩⟩
    · rintro i s1 Q1 E1 hi ⟨q1, q2, q3, q4⟩ hds hQ
      have calm1 : A.in1.handled = none := hA
      rcases q4 with ⟨u, x, y, v⟩ | ⟨T, f, oT, u, v, n1, n2, n3, n4⟩
      · have old : ∀ c o, s1.heap.get? c = some o → s1.heap.objs.size ≠ c := fun c o e => Nat.ne_of_gt (Heap.lt_size e)
        have ⟨o1, e1⟩ := (D1 A hA).live _ _ q2
        have ⟨o2, e2⟩ := (D2 A hA).live _ _ q3
        refine wpAny_pyNext_zipD2_item S (D1 _ calm1) (D2 _ calm1) u q1 v q2 q3 hi hi fun k0 v0 h' tk y1 y2 z1 t1 g1 g2 p1 _ k => ?_
        refine hQ s1.heap.objs.size k0 v0 h' tk ⟨y1, y2⟩ (.inl ⟨_, p1, rfl, _, rfl⟩) ⟨k _ _ S.TIz S.TITO S.TIi1 S.TIi2 q1, g1, g2, .inr ⟨_, false, _, z1, p1, old _ _ u, old _ _ e1, old _ _ e2, Nat.ne_of_gt hds⟩⟩ fun c o hc e => ?_
        have hn : c ≠ z ∧ c ≠ TO ∧ c ≠ i1 ∧ c ≠ i2 := by simpa [not_or] using hc
        exact k c o hn.1 hn.2.1 hn.2.2.1 hn.2.2.2 e
      · refine nextOut_item S (D1 _ calm1) (D2 _ calm1) u v q1 q2 q3 hi hi fun k0 v0 h' tk q y1 y2 z1 g1 g2 p1 k => ?_
        refine hQ q k0 v0 h' tk ⟨y1, y2⟩ (.inl ⟨_, p1, rfl, _, rfl⟩) ⟨k _ _ S.TIz S.TIi1 S.TIi2 q1, g1, g2, .inr ⟨T, true, oT, z1, k _ _ n1 n2 n3 v, n1, n2, n3, n4⟩⟩ fun c o hc e => ?_
        have hn : c ≠ z ∧ c ≠ TO ∧ c ≠ i1 ∧ c ≠ i2 := by simpa [not_or] using hc
        exact k c o hn.1 hn.2.2.1 hn.2.2.2 e
    · rintro s1 Q1 E1 ⟨q1, q2, q3, q4⟩ hQ
      have calm1 : A.in1.handled = none := hA
      rcases q4 with ⟨u, x, y, v⟩ | ⟨T, f, oT, u, v, n1, n2, n3, n4⟩
      · refine wpAny_pyNext_zipD2_end S (D1 _ calm1) (D2 _ calm1) u q1 v q2 q3 (Nat.le_refl _) (Nat.le_refl _) (.inl rfl) fun h' tk k => hQ h' tk fun c o hc e => ?_
        have hn : c ≠ z ∧ c ≠ TO ∧ c ≠ i1 ∧ c ≠ i2 := by simpa [not_or] using hc
        exact k c o hn.1 hn.2.1 hn.2.2.1 hn.2.2.2 e
      · refine nextOut_end S (D1 _ calm1) u v q1 q2 fun h' tk k => hQ h' tk fun c o hc e => ?_
        have hn : c ≠ z ∧ c ≠ TO ∧ c ≠ i1 ∧ c ≠ i2 := by simpa [not_or] using hc
        exact k c o hn.1 hn.2.2.1 e
end
def tDictZip (K : PySem.W.Frag) (ta : TA) : TE := fun σ H Q => ta σ H fun vs H1 => ∃ (a b : Addr) (ks : List Key) (xs : List V), vs = [.ref a, .ref b] ∧ SqT K H1 a (ks.map kV) ∧ SqT K H1 b xs ∧ ks.length = xs.length ∧ ∀ p, H1 p = none → Q (.ref p) (upd H1 p (.dK (mergeK [] (ks.zip xs))))
theorem keyVals {P : Program} {w : World} : ∀ {ks : List Key} {us : List Value}, Vals (ks.map kV) us → us.length = ks.length ∧ ∀ (i : Nat) (u : Value), us[i]? = some u → ∃ k, ks[i]? = some k ∧ (mixKind P w).is k u = true
  | [], _, .nil => ⟨rfl, fun i u h => by simp at h⟩
  | k :: ks, _, .cons r t => by
    obtain ⟨h1, h2⟩ := keyVals (P := P) (w := w) t
    refine ⟨by simp [h1], fun i u h => ?_⟩
    cases i with
    | zero =>
      cases h
      exact ⟨k, rfl, kV_is r⟩
    | succ i => exact h2 i u (by simpa using h)
theorem kv_zip : ∀ {ks : List Key} {xs : List V} {us : List Value}, Vals xs us → ks.length = xs.length → KV (ks.zip xs) (ks.zip us)
  | [], [], _, .nil, _ => .nil
  | _ :: _, [], _, _, h => by simp at h
  | [], _ :: _, _, _, h => by simp at h
  | k :: ks, x :: xs, _, .cons r t, h => .cons ⟨rfl, r⟩ (kv_zip t (by simpa using h))
section
variable {X : Cx} {e e2 : Expr} {ta : TA} {p p2 q pos : Pos}
theorem pe_dictZip (hc : X.calm = true) (hg : Gl X "dict") (hm : X.mg "dict" = none) (hg2 : Gl X "zip") (hm2 : X.mg "zip" = none) (ha : PA X [e, e2] ta)
    (na : starEach [.Call (.Name "zip" p2) [e, e2] [] q] X.env = (false, eval (.Call (.Name "zip" p2) [e, e2] [] q) X.env) :: starEach [] X.env) (hs : starEach [e, e2] X.env = (false, eval e X.env) :: starEach [e2] X.env) (hpl : (backTo q (starEach [e2] X.env)).any (·.1) = false) :
    PE X (.Call (.Name "dict" p) [.Call (.Name "zip" p2) [e, e2] [] q] [] pos) (tDictZip X.K ta) := by
  refine ⟨fun pins s σ H Q I h => Call_ (ld_blt I hg hm boot_dict (PyProof.Rows.callWith_type1 (PyProof.Rows.args_cons (Call_ (ld_blt I hg2 hm2 PyProof.Rows.boot_zip (PyProof.Rows.callWith_type1 (thn (ha.run q pins s σ H _ I h) fun us s1 ⟨vs, H1, I1, r1, q1⟩ => ?_) hs hpl))) na) na rfl))⟩
  obtain ⟨a, b, ks, xs, rfl, hk, hx, hl, q2⟩ := q1
  cases r1 with
  | cons ra rr =>
    cases rr with
    | cons rb rr =>
      cases rr
      cases ra
      cases rb
      have ⟨As, va, la, za⟩ := I1.tuple hk
      have ⟨Bs, vb, lb, zb⟩ := I1.tuple hx
      have ⟨oa, ea, _⟩ := id la
      have ⟨ob, eb, _⟩ := id lb
      refine call_zipT (show s1.heap.IsTuple a As.toArray from la) (show s1.heap.IsTuple b Bs.toArray from lb) fun h' hz hTI hTO t1 t2 h5 keep => PyProof.Rows.args_nil ?_
      have calm := I1.ok.hd hc
      have D := PySem.W.ktu_apart s1.heap.objs.size a b (Heap.lt_size ea) (Heap.lt_size eb)
      have la' : h'.IsTuple a As.toArray := (show s1.heap.IsTuple a As.toArray from la).at fun o e => keep _ o e
      have lb' : h'.IsTuple b Bs.toArray := (show s1.heap.IsTuple b Bs.toArray from lb).at fun o e => keep _ o e
      have nk : As.length = ks.length := (keyVals (P := X.prog) (w := X.w) va).1
      have nb : Bs.length = xs.length := vb.length.symm
      have ab : As.toArray.size = Bs.toArray.size := by simp [nk, nb, hl]
      have S := sepM D
      have args := argD (prog := X.prog) (w := X.w) S (fun A hA => Draws.tuple hA _ a D.l1i1 As.toArray) (fun A hA => ab ▸ Draws.tuple hA _ b D.l2i2 Bs.toArray)
        (fun i g g' st k => ⟨st.1.at fun o e => k _ (by simp) o e, st.2.at fun o e => k _ (by simp) o e⟩) (fun i g g' st k => ⟨st.1.at fun o e => k _ (by simp) o e, st.2.at fun o e => k _ (by simp) o e⟩)
        (fun g ⟨⟨o, e, _⟩, ⟨o', e', _⟩⟩ c hc => by
          rcases List.mem_cons.mp hc with h | h
          · exact ⟨o, h ▸ e⟩
          · exact ⟨o', (List.mem_singleton.mp h) ▸ e'⟩)
        (fun g ⟨⟨o, e, _⟩, ⟨o', e', _⟩⟩ c hc => by
          rcases List.mem_cons.mp hc with h | h
          · exact ⟨o, h ▸ e⟩
          · exact ⟨o', (List.mem_singleton.mp h) ▸ e'⟩)
      refine PySem.call_dict_pairs (knd := mixKind X.prog X.w) (kvs := ks.zip Bs) args calm ⟨hz, hTI, ⟨_, _, hTO⟩, ⟨t1, la'⟩, t2, lb'⟩ ⟨?_, ?_⟩ ?_ fun h'' tk dd k => ?_
      · simp [nk, nb, hl]
      · rintro i key v ⟨hi1, hi2⟩
        obtain ⟨k, e1, e2⟩ := (keyVals (P := X.prog) (w := X.w) va).2 i key (by simpa using hi1)
        exact ⟨k, List.getElem?_zip_eq_some.mpr ⟨e1, by simpa using hi2⟩, e2⟩
      · have := za
        rw [List.length_map] at this
        show As.toArray.size ≤ sizeLine
        rw [List.size_toArray, nk]
        exact this
      · have le : s1.heap.objs.size ≤ h'.objs.size := by rw [h5]; exact Nat.le_add_right _ _
        have nsys : (h'.objs.size == sysModules) = false := beq_eq_false_iff_ne.mpr (Nat.ne_of_gt (Nat.lt_of_lt_of_le I1.big le))
        have few : (mergeK [] (ks.zip xs)).length ≤ sizeLine := by
          refine Nat.le_trans (length_mergeK _ _) ?_
          rw [List.length_nil, Nat.zero_add, List.length_zip, ← hl, Nat.min_self]
          have := za
          rw [List.length_map] at this
          exact this
        refine ⟨.ref h'.objs.size, upd H1 h'.objs.size (.dK (mergeK [] (ks.zip xs))), I1.laid (t' := tk) (fun b o e => k b o (fun hb => ?_) (keep _ _ e)) le (show ObjOk X.prog X.w _ _ _ (.dK (mergeK [] (ks.zip xs))) from ⟨few, nsys, merged [] (ks.zip Bs), KV.merge (kv_zip vb hl) .nil, dd⟩), rfl, q2 _ (I1.hok.fresh le)⟩
        have := Heap.lt_size e
        simp only [List.mem_cons, List.not_mem_nil, or_false] at hb
        rcases hb with q | q | q | q <;> rw [q] at this
        · exact Nat.not_lt.mpr (Nat.le_add_right _ _) this
        · exact Nat.not_lt.mpr (Nat.le_add_right _ _) this
        · exact Nat.lt_irrefl _ this
        · exact Nat.not_lt.mpr (Nat.le_add_right _ _) this
end
def kys? : List FV → Option (List Key)
  | [] => some []
  | x :: xs => match x.key?, kys? xs with
    | some k, some ks => some (k :: ks)
    | _, _ => none
def dDictZip (g : VEnv → Ans (List Rv)) : DE := fun env => (g env).bind fun rs => match rs with
  | [.st (.fz x), .st (.fz y)] => match x.tup?, y.tup? with
    | some xs, some ys => match kys? xs with
      | some ks => if ks.length = ys.length then .ok (.st (.oK (mergeF [] (ks.zip ys)))) else .no
      | none => .no
    | _, _ => .no
  | _ => .no
theorem keys_den {M : Str → Option Value} {F : Hp} : ∀ {xs : List FV} {vs : List V} {ks : List Key}, kys? xs = some ks → FDenL M F xs vs → vs = ks.map kV
  | [], _, _, e, d => by
    cases e
    exact d
  | x :: xs, _, ks, e, ⟨v, ws, ev, dx, dr⟩ => by
    subst ev
    unfold kys? at e
    split at e
    · rename_i k r e1 e2
      cases e
      rw [keys_den e2 dr, dx.key e1]
      rfl
    · cases e
theorem fdk_zip {M : Str → Option Value} {F : Hp} : ∀ {ks : List Key} {ys : List FV} {vs : List V}, FDenL M F ys vs → ks.length = ys.length → FDenK M F (ks.zip ys) (ks.zip vs)
  | [], [], _, d, _ => by rw [show _ = [] from d]; exact rfl
  | _ :: _, [], _, _, h => by simp at h
  | [], _ :: _, _, _, h => by simp at h
  | k :: ks, y :: ys, _, ⟨v, ws, e, dy, dr⟩, h => by
    subst e
    exact ⟨v, _, rfl, dy, fdk_zip dr (by simpa using h)⟩
section
variable {X : Cx} {W : WX} {e e2 : Expr} {g : VEnv → Ans (List Rv)} {p p2 q pos : Pos}
theorem je_dictZip (hc : X.calm = true) (ha : JA X W [e, e2] g) (hm : X.mg "dict" = none) (hm2 : X.mg "zip" = none) (hg : Gl X "dict" := by rfl) (hg2 : Gl X "zip" := by rfl)
    (na : starEach [.Call (.Name "zip" p2) [e, e2] [] q] X.env = (false, eval (.Call (.Name "zip" p2) [e, e2] [] q) X.env) :: starEach [] X.env := by rfl) (hs : starEach [e, e2] X.env = (false, eval e X.env) :: starEach [e2] X.env := by rfl) (hpl : (backTo q (starEach [e2] X.env)).any (·.1) = false := by rfl) :
    JE X W (.Call (.Name "dict" p) [.Call (.Name "zip" p2) [e, e2] [] q] [] pos) (dDictZip g) := by
  refine PE.imp (pe_dictZip hc hg hm hg2 hm2 ha na hs hpl) fun σ H Q ⟨G, Z, env, T, r, q⟩ => ?_
  refine tA.bind r Sb.refl q fun rs vs H1 _ hl s1 ⟨F, C1, C2, r1⟩ p1 => ?_
  split at p1
  case h_2 => exact p1.elim
  case h_1 x y _ _ =>
    split at p1
    case h_2 => exact p1.elim
    case h_1 xs ys ex ey =>
      split at p1
      case h_2 => exact p1.elim
      case h_1 ks ek =>
        split at p1
        case isFalse => exact p1.elim
        case isTrue hn =>
          match vs, hl with
          | [v1, v2], _ =>
            obtain ⟨a, us, rfl, qa, da⟩ := FDen.tupT (K := X.K) (r1.bor (p := (v1, .st (.fz x))) (by simp)).fz ex
            obtain ⟨b, ws, rfl, qb, db⟩ := FDen.tupT (K := X.K) (r1.bor (p := (v2, .st (.fz y))) (by simp)).fz ey
            have eu := keys_den ek da
            subst eu
            refine ⟨a, b, ks, ws, rfl, SqT.sameS r1.fh qa, SqT.sameS r1.fh qb, by rw [hn, db.length], fun pp hp => ?_⟩
            exact p1 _ _ (same_upd hp) ((r1.new (New.dK r1.fh hp (FDenK.merge (kvs := []) (vs := []) (fdk_zip db hn) rfl))).sb sb_app.both)
end
end J
namespace J
open PySem PySem.Spec PyProof.Rows L2
/-! ### the plain functions: lists, loops -/
theorem lcF_map {t : TgF} {c : DT} {e : DE} {env : VEnv} {p : FV → Bool} {g : FV → FV} : ∀ {items : List FV}, (∀ x ∈ items, ∃ e1, t x env = some e1 ∧ c e1 = .ok (p x) ∧ (p x = true → e e1 = .ok (.st (.fz (g x))))) → lcF t c e env items = .ok ((items.filter p).map g)
  | [], _ => rfl
  | x :: xs, h => by
    obtain ⟨e1, h1, h2, h3⟩ := h x List.mem_cons_self
    have ih := lcF_map (items := xs) fun y hy => h y (List.mem_cons_of_mem _ hy)
    unfold lcF
    rw [h1]
    simp only [h2, Ans.nox, Ans.bind]
    cases hp : p x with
    | false => rw [if_neg Bool.false_ne_true, List.filter_cons_of_neg (by simp [hp])]; exact ih
    | true =>
      rw [if_pos rfl, List.filter_cons_of_pos hp, h3 hp]
      simp only [Rv.fz?, ih, List.map_cons]
theorem dLc_ok {it : VEnv → Ans (List FV)} {t : TgF} {c : DT} {e : DE} {vs : List Nat} {env : VEnv} {items : List FV} {p : FV → Bool} {g : FV → FV} (hi : it env = .ok items)
    (h : ∀ x ∈ items, ∃ e1, t x (frzE (wipeE env vs)) = some e1 ∧ c e1 = .ok (p x) ∧ (p x = true → e e1 = .ok (.st (.fz (g x)))))
    (hl : items.length ≤ BIG) (hc : allFzE env = true ∨ FV.pureL ((items.filter p).map g) = true) : dLc it t c e vs env = .ok (.st (.ol ((items.filter p).map g))) := by
  unfold dLc
  rw [hi]
  simp only [Ans.bind]
  rw [lcF_map h]
  simp only
  rw [if_pos]
  rw [Bool.and_eq_true, Bool.or_eq_true]
  refine ⟨decide_eq_true ?_, hc⟩
  rw [List.length_map]
  exact Nat.le_trans (List.length_filter_le _ _) hl
/-- without a test -/
theorem dLc_all {it : VEnv → Ans (List FV)} {t : TgF} {e : DE} {vs : List Nat} {env : VEnv} {items : List FV} {g : FV → FV} (hi : it env = .ok items)
    (h : ∀ x ∈ items, ∃ e1, t x (frzE (wipeE env vs)) = some e1 ∧ e e1 = .ok (.st (.fz (g x))))
    (hl : items.length ≤ BIG) (hc : allFzE env = true ∨ FV.pureL (items.map g) = true) : dLc it t dTrue e vs env = .ok (.st (.ol (items.map g))) := by
  have hf : items.filter (fun _ => true) = items := List.filter_eq_self.mpr fun _ _ => rfl
  have := dLc_ok (c := dTrue) (p := fun _ => true) (g := g) hi (fun x hx => let ⟨e1, h1, h2⟩ := h x hx; ⟨e1, h1, rfl, fun _ => h2⟩) hl (by rw [hf]; exact hc)
  rw [hf] at this
  exact this
/-- a for that runs through -/
theorem forL_inv {t : TgF} {body : DS} (I : Nat → VEnv → Prop) : ∀ {items : List FV} {n : Nat} {env : VEnv}, I n env → (∀ i x env, items[i]? = some x → I (n + i) env → ∃ e1 e2, t x env = some e1 ∧ (body e1 = .ok (.nx e2) ∨ body e1 = .ok (.ct e2)) ∧ I (n + i + 1) e2) →
    ∃ e, forL t body items env = .ok (.nx e) ∧ I (n + items.length) e
  | [], n, env, h, _ => ⟨env, rfl, h⟩
  | x :: xs, n, env, h, hs => by
    obtain ⟨e1, e2, h1, h2, h3⟩ := hs 0 x env rfl h
    obtain ⟨e, k1, k2⟩ := forL_inv (t := t) (body := body) I (items := xs) (n := n + 1) h3 fun i y env hy hi => by
      have e : n + 1 + i = n + (i + 1) := by omega
      rw [e] at hi ⊢
      exact hs (i + 1) y env (by simpa using hy) hi
    refine ⟨e, ?_, ?_⟩
    · unfold forL
      rw [h1]
      rcases h2 with h2 | h2 <;> (simp only [h2, Ans.bind, loopK]; exact k1)
    · rw [List.length_cons, show n + (xs.length + 1) = n + 1 + xs.length by omega]
      exact k2
theorem dFor_inv {it : VEnv → Ans (List FV)} {t : TgF} {body : DS} {items : List FV} {env : VEnv} (I : Nat → VEnv → Prop) (hi : it env = .ok items) (h0 : I 0 env) (hs : ∀ i x env, items[i]? = some x → I i env → ∃ e1 e2, t x env = some e1 ∧ (body e1 = .ok (.nx e2) ∨ body e1 = .ok (.ct e2)) ∧ I (i + 1) e2) :
    ∃ e, dFor it t body env = .ok (.nx e) ∧ I items.length e := by
  obtain ⟨e, k1, k2⟩ := forL_inv (t := t) (body := body) I (items := items) (n := 0) h0 fun i x env hx hi => by
    rw [Nat.zero_add] at hi ⊢
    exact hs i x env hx hi
  rw [Nat.zero_add] at k2
  exact ⟨e, by unfold dFor; rw [hi]; exact k1, k2⟩
/-- a while that runs through -/
theorem dWhile_inv {c : DT} {body : DS} (I : Nat → VEnv → Prop) (hs : ∀ n env, I n env → (c env = .ok false) ∨ (c env = .ok true ∧ ∃ e2 m, (body env = .ok (.nx e2) ∨ body env = .ok (.ct e2)) ∧ m < n ∧ I m e2)) : ∀ n {env : VEnv}, I n env → ∃ e m, dWhile c body env = .ok (.nx e) ∧ I m e ∧ c e = .ok false := by
  intro n
  induction n using Nat.strongRecOn with
  | ind n ih =>
    intro env h
    rw [dWhile_eq]
    unfold whileK
    rcases hs n env h with h1 | ⟨h1, e2, m, h2, hm, h3⟩
    · rw [h1]
      exact ⟨env, n, rfl, h, h1⟩
    · obtain ⟨e, m', k1, k2, k3⟩ := ih m hm h3
      refine ⟨e, m', ?_, k2, k3⟩
      rw [h1]
      simp only [Ans.bind, if_true]
      rcases h2 with h2 | h2 <;> (rw [h2]; simp only [loopK]; exact k1)
/-! ### texts of one sign -/
def s1 (c : Nat) : FV := .str ⟨#[c]⟩
/-! ### plain data -/
mutual
def FV.pl : FV → Bool
  | .non => true
  | .int _ => true
  | .str x => PyData.strOk x
  | .tup xs => FV.plL xs
  | .lst xs => FV.plL xs
  | _ => false
def FV.plL : List FV → Bool
  | [] => true
  | x :: xs => x.pl && FV.plL xs
def FV.dep : FV → Nat
  | .tup xs => FV.depL xs + 1
  | .lst xs => FV.depL xs + 1
  | _ => 0
def FV.depL : List FV → Nat
  | [] => 0
  | x :: xs => max x.dep (FV.depL xs)
end
mutual
theorem FV.pl_toD : ∀ {x : FV}, x.pl = true → ∃ d, x.toD = some d ∧ d.canLay0 = true ∧ d.depth = x.dep
  | .non, _ => ⟨.none, rfl, rfl, rfl⟩
  | .int i, _ => ⟨.int i, rfl, rfl, rfl⟩
  | .str x, h => ⟨.str x, rfl, by rw [PyData.canLay0]; rw [FV.pl] at h; exact h, rfl⟩
  | .tup xs, h => by
    obtain ⟨ds, e, h1, h2⟩ := FV.plL_toD (xs := xs) h
    exact ⟨.tuple ds, by rw [FV.toD, e]; rfl, by simpa [PyData.canLay0] using h1, by rw [PyData.depth, h2]; rfl⟩
  | .lst xs, h => by
    obtain ⟨ds, e, h1, h2⟩ := FV.plL_toD (xs := xs) h
    exact ⟨.list ds, by rw [FV.toD, e]; rfl, by simpa [PyData.canLay0] using h1, by rw [PyData.depth, h2]; rfl⟩
theorem FV.plL_toD : ∀ {xs : List FV}, FV.plL xs = true → ∃ ds, FV.toDL xs = some ds ∧ PyData.canLayAll0 ds = true ∧ PyData.depthAll ds = FV.depL xs
  | [], _ => ⟨[], rfl, rfl, rfl⟩
  | x :: xs, h => by
    rw [FV.plL, Bool.and_eq_true] at h
    obtain ⟨d, e, h1, h2⟩ := FV.pl_toD h.1
    obtain ⟨ds, e3, h3, h4⟩ := FV.plL_toD h.2
    exact ⟨d :: ds, by rw [FV.toDL, e, e3], by rw [PyData.canLayAll0, h1, h3]; rfl, by rw [PyData.depthAll, h2, h4]; rfl⟩
end
mutual
theorem FV.pl_eqv : ∀ {x y : FV} {d e : PyData}, x.pl = true → y.pl = true → x.toD = some d → y.toD = some e → (PyData.eqv d e = true ↔ x = y)
  | .non, y, d, e, _, hy, hd, he => by
    cases y <;> simp [FV.pl] at hy <;> simp [FV.toD] at hd he <;> (try obtain ⟨_, _, he⟩ := he) <;> subst hd <;> (try subst he) <;> simp [PyData.eqv]
  | .int i, y, d, e, _, hy, hd, he => by
    cases y <;> simp [FV.pl] at hy <;> simp [FV.toD] at hd he <;> (try obtain ⟨_, _, he⟩ := he) <;> subst hd <;> (try subst he) <;> simp [PyData.eqv]
  | .str i, y, d, e, _, hy, hd, he => by
    cases y <;> simp [FV.pl] at hy <;> simp [FV.toD] at hd he <;> (try obtain ⟨_, _, he⟩ := he) <;> subst hd <;> (try subst he) <;> simp [PyData.eqv]
  | .tup xs, y, d, e, hx, hy, hd, he => by
    obtain ⟨ds, e1, rfl⟩ := Option.map_eq_some_iff.mp (show (FV.toDL xs).map PyData.tuple = some d from hd)
    cases y with
    | tup ys =>
      obtain ⟨es, e2, rfl⟩ := Option.map_eq_some_iff.mp (show (FV.toDL ys).map PyData.tuple = some e from he)
      rw [PyData.eqv, FV.plL_eqv (xs := xs) (ys := ys) hx hy e1 e2]
      simp
    | _ => simp [FV.pl] at hy <;> simp [FV.toD] at he <;> (try obtain ⟨_, _, he⟩ := he) <;> (try subst he) <;> simp [PyData.eqv]
  | .lst xs, y, d, e, hx, hy, hd, he => by
    obtain ⟨ds, e1, rfl⟩ := Option.map_eq_some_iff.mp (show (FV.toDL xs).map PyData.list = some d from hd)
    cases y with
    | lst ys =>
      obtain ⟨es, e2, rfl⟩ := Option.map_eq_some_iff.mp (show (FV.toDL ys).map PyData.list = some e from he)
      rw [PyData.eqv, FV.plL_eqv (xs := xs) (ys := ys) hx hy e1 e2]
      simp
    | _ => simp [FV.pl] at hy <;> simp [FV.toD] at he <;> (try obtain ⟨_, _, he⟩ := he) <;> (try subst he) <;> simp [PyData.eqv]
theorem FV.plL_eqv : ∀ {xs ys : List FV} {ds es : List PyData}, FV.plL xs = true → FV.plL ys = true → FV.toDL xs = some ds → FV.toDL ys = some es → (PyData.eqvAll ds es = true ↔ xs = ys)
  | [], [], _, _, _, _, h1, h2 => by cases h1; cases h2; simp [PyData.eqvAll]
  | [], y :: ys, _, es, _, hy, h1, h2 => by
    cases h1
    rw [FV.plL, Bool.and_eq_true] at hy
    obtain ⟨d, e, _⟩ := FV.pl_toD hy.1
    obtain ⟨ds, e3, _⟩ := FV.plL_toD hy.2
    rw [FV.toDL, e, e3] at h2
    cases h2
    simp [PyData.eqvAll]
  | x :: xs, [], _, es, hy, _, h2, h1 => by
    cases h1
    rw [FV.plL, Bool.and_eq_true] at hy
    obtain ⟨d, e, _⟩ := FV.pl_toD hy.1
    obtain ⟨ds, e3, _⟩ := FV.plL_toD hy.2
    rw [FV.toDL, e, e3] at h2
    cases h2
    simp [PyData.eqvAll]
  | x :: xs, y :: ys, _, _, hx, hy, h1, h2 => by
    rw [FV.plL, Bool.and_eq_true] at hx hy
    obtain ⟨d, e, _⟩ := FV.pl_toD hx.1
    obtain ⟨ds, e3, _⟩ := FV.plL_toD hx.2
    rw [FV.toDL, e, e3] at h1
    cases h1
    obtain ⟨d', e', _⟩ := FV.pl_toD hy.1
    obtain ⟨ds', e3', _⟩ := FV.plL_toD hy.2
    rw [FV.toDL, e', e3'] at h2
    cases h2
    rw [PyData.eqvAll, Bool.and_eq_true, FV.pl_eqv hx.1 hy.1 e e', FV.plL_eqv hx.2 hy.2 e3 e3']
    simp
end
open Classical in
theorem FV.eqD_pl {x y : FV} (hx : x.pl = true) (hy : y.pl = true) (dx : x.dep ≤ 64) (dy : y.dep ≤ 64) : x.eqD y = some (decide (x = y)) := by
  obtain ⟨d, e1, c1, d1⟩ := FV.pl_toD hx
  obtain ⟨e, e2, c2, d2⟩ := FV.pl_toD hy
  unfold FV.eqD
  rw [e1, e2]
  have s1 : SeqAt.shaped d = true := by unfold SeqAt.shaped; rw [c1, d1]; simpa using dx
  have s2 : SeqAt.shaped e = true := by unfold SeqAt.shaped; rw [c2, d2]; simpa using dy
  simp only [s1, s2, Bool.and_self, if_true]
  congr 1
  have := FV.pl_eqv hx hy e1 e2
  by_cases h : x = y
  · rw [decide_eq_true h]; exact this.mpr h
  · rw [decide_eq_false h]
    cases q : PyData.eqv d e with
    | false => rfl
    | true => exact absurd (this.mp q) h
/-! ### evaluation, step by step -/
section
variable {α β : Type} {a : α} {c : Str} {f : α → Ans β} {env e : VEnv} {x y : FV} {o : OV}
theorem bind_ok : (Ans.ok a).bind f = f a := rfl
theorem bind_ex : (Ans.ex c : Ans α).bind f = .ex c := rfl
theorem bind_no : (Ans.no : Ans α).bind f = .no := rfl
theorem map_ok {g : α → β} : (Ans.ok a).map g = .ok (g a) := rfl
theorem so_nx {g : VEnv → Ans SO} : SO.bind (.ok (.nx e)) g = g e := rfl
theorem so_rt {g : VEnv → Ans SO} : SO.bind (.ok (.rt o e)) g = .ok (.rt o e) := rfl
theorem so_bk {g : VEnv → Ans SO} : SO.bind (.ok (.bk e)) g = .ok (.bk e) := rfl
theorem so_ct {g : VEnv → Ans SO} : SO.bind (.ok (.ct e)) g = .ok (.ct e) := rfl
theorem of_some : Ans.of (some a) = .ok a := rfl
theorem ov_st : (Rv.st o).ov = o := rfl
theorem ov_bo : (Rv.bo o).ov = o := rfl
theorem rfv (r : Rv) : r.fv = r.ov.fv := rfl
theorem fv_fz : (OV.fz x).fv = x := rfl
theorem fv_ol {xs : List FV} : (OV.ol xs).fv = .lst xs := rfl
theorem fv_oK {xs : List (Key × FV)} : (OV.oK xs).fv = .dK xs := rfl
theorem rbool {b : Bool} : (Rv.st (.fz (.bl b))).bool = .ok b := rfl
theorem ev_seq {f g : DS} : dSeq f g env = SO.bind (f env) g := rfl
theorem ev_skip : dSkip env = .ok (.nx env) := rfl
theorem ev_expr {f : DE} : dExpr f env = (f env).bind fun _ => .ok (.nx env) := rfl
theorem ev_set {f : DE} {i : Nat} (h : f env = .ok (.st o)) : dSet i f env = .ok (.nx (env.set i (some o))) := by unfold dSet; rw [h]; rfl
theorem ev_ret {f : DE} (h : f env = .ok (.st o)) : dRet f env = .ok (.rt o env) := by unfold dRet; rw [h]; rfl
theorem ev_retV {i : Nat} (h : env[i]? = some (some o)) : dRetV i env = .ok (.rt o (env.set i none)) := by unfold dRetV; rw [h]
theorem ev_ice {i : Nat} {f : DS} (h : env[i]? = some (some o)) : dIce i f env = f (env.set i (some (.fz o.fv))) := by unfold dIce; rw [h]
theorem ev_ifT {d : DT} {f g : DS} (h : d env = .ok true) : dIf d f g env = f env := by unfold dIf; rw [h]; rfl
theorem ev_ifF {d : DT} {f g : DS} (h : d env = .ok false) : dIf d f g env = g env := by unfold dIf; rw [h]; rfl
theorem ev_test {f : DE} {b : Bool} (h : f env = .ok (.st (.fz (.bl b)))) : dTest f env = .ok b := by unfold dTest; rw [h]; rfl
theorem ev_notT {f : DT} {b : Bool} (h : f env = .ok b) : dNotT f env = .ok !b := by unfold dNotT; rw [h]; rfl
theorem ev_andF {f g : DT} (h : f env = .ok false) : dAndT f g env = .ok false := by unfold dAndT; rw [h]; rfl
theorem ev_andT {f g : DT} (h : f env = .ok true) : dAndT f g env = g env := by unfold dAndT; rw [h]; rfl
theorem ev_orF {f g : DT} (h : f env = .ok false) : dOrT f g env = g env := by unfold dOrT; rw [h]; rfl
theorem ev_orT {f g : DT} (h : f env = .ok true) : dOrT f g env = .ok true := by unfold dOrT; rw [h]; rfl
theorem ev_andVF {f g : DE} (h : f env = .ok (.st (.fz (.bl false)))) : dAndV f g env = .ok (.st (.fz (.bl false))) := by unfold dAndV; rw [ev_test h]; rfl
theorem ev_andVT {f g : DE} (h : f env = .ok (.st (.fz (.bl true)))) : dAndV f g env = g env := by unfold dAndV; rw [ev_test h]; rfl
theorem ev_c : dC x env = .ok (.st (.fz x)) := rfl
theorem ev_varF {i : Nat} (h : env[i]? = some (some (.fz x))) : dVar i env = .ok (.st (.fz x)) := by unfold dVar; rw [h]
theorem ev_varL {i : Nat} {xs : List FV} (h : env[i]? = some (some (.ol xs))) : dVar i env = .ok (.bo (.ol xs)) := by unfold dVar; rw [h]
theorem ev_varK {i : Nat} {xs : List (Key × FV)} (h : env[i]? = some (some (.oK xs))) : dVar i env = .ok (.bo (.oK xs)) := by unfold dVar; rw [h]
theorem ev_bin {op : OV → OV → Option OV} {f g : DE} {r q : Rv} (h : f env = .ok r) (h2 : g env = .ok q) (h3 : op r.ov q.ov = some o) : dBin op f g env = .ok (.st o) := by unfold dBin; rw [h, bind_ok, h2, bind_ok, h3]; rfl
theorem ev_un {op : OV → Option OV} {f : DE} {r : Rv} (h : f env = .ok r) (h3 : op r.ov = some o) : dUn op f env = .ok (.st o) := by unfold dUn; rw [h, bind_ok, h3]; rfl
theorem ev_nil : dNil env = .ok [] := rfl
theorem ev_cons {f : DE} {g : VEnv → Ans (List Rv)} {r : Rv} {rs : List Rv} (h : f env = .ok r) (h2 : g env = .ok rs) : dCons f g env = .ok (r :: rs) := by unfold dCons; rw [h, bind_ok, h2]; rfl
theorem ev_frz {f : DE} (h : f env = .ok (.st o)) : dFrz f env = .ok (.st (.fz o.fv)) := by unfold dFrz; rw [h]; rfl
theorem ev_call {m : FM} {g : VEnv → Ans (List Rv)} {rs : List Rv} (h : g env = .ok rs) (h2 : m (rs.map Rv.fv) = .ok o) (h3 : rs.all Rv.isFz = true ∨ o.clean = true) : dCall m g env = .ok (.st o) := by
  unfold dCall
  rw [h, bind_ok, h2, bind_ok, if_pos]
  rw [Bool.or_eq_true]
  exact h3
theorem ev_callB {op : List OV → Option OV} {g : VEnv → Ans (List Rv)} {rs : List Rv} (h : g env = .ok rs) (h2 : op (rs.map Rv.ov) = some o) : dCallB op g env = .ok (.st o) := by unfold dCallB; rw [h, bind_ok, h2]; rfl
theorem ev_meth {ok : OV → Bool} {op : OV → List OV → Option OV} {f : DE} {g : VEnv → Ans (List Rv)} {r : Rv} {rs : List Rv} (h : f env = .ok r) (hk : ok r.ov = true) (h1 : g env = .ok rs) (h2 : op r.ov (rs.map Rv.ov) = some o) : dMeth ok op f g env = .ok (.st o) := by unfold dMeth; rw [h, bind_ok, if_pos hk, h1, bind_ok, h2]; rfl
theorem ev_list {g : VEnv → Ans (List Rv)} {rs : List Rv} {xs : List FV} (h : g env = .ok rs) (h1 : rs.length ≤ 1000) (h2 : allFz rs = some xs) : dList g env = .ok (.st (.ol xs)) := by unfold dList; rw [h, bind_ok, if_pos h1, h2]
theorem ev_tup {g : VEnv → Ans (List Rv)} {rs : List Rv} {xs : List FV} (h : g env = .ok rs) (h1 : rs.length ≤ 1000) (h2 : allFz rs = some xs) : dTup g env = .ok (.st (.fz (.tup xs))) := by unfold dTup; rw [h, bind_ok, if_pos h1, h2]
theorem ev_sub {f g : DE} {r q t : Rv} (h : f env = .ok r) (h2 : g env = .ok q) (h3 : FV.frozenKey q.ov = true) (h4 : opSub' r.ov q.ov = some t) : dSub f g env = .ok t := by unfold dSub; rw [h, bind_ok, h2, bind_ok, if_pos h3, h4]; rfl
theorem ev_range {f : DE} {r : Rv} {n : Nat} (h : f env = .ok r) (h2 : r.ov = .fz (.int (n : Int))) (h3 : n < 2 ^ 60) : dRange f env = .ok ((List.range n).map fun i => .int (i : Nat)) := by
  unfold dRange
  rw [h, bind_ok, h2]
  simp only
  rw [if_pos ⟨by omega, by omega⟩, Int.toNat_natCast]
theorem ev_items {f : DE} {xs : List FV} (h : f env = .ok (.st (.ol xs)) ∨ f env = .ok (.st (.fz (.lst xs))) ∨ f env = .ok (.st (.fz (.tup xs)))) : dItems f env = .ok xs := by
  unfold dItems
  rcases h with h | h | h <;> (rw [h]; rfl)
theorem ev_cItems {f : DE} {r : Rv} {xs : List FV} (h : f env = .ok r) (hs : sbR env r = true) (h2 : r.ov = .ol xs ∨ r.ov = .fz (.lst xs) ∨ r.ov = .fz (.tup xs)) : cItems f env = .ok xs := by
  unfold cItems
  rw [h, bind_ok, if_pos hs, rfv]
  rcases h2 with h | h | h <;> (rw [h]; rfl)
theorem ev_app {f : DE} {i : Nat} {p p' : OV} (h : env[i]? = some (some p)) (hl : p.isL = true) (h2 : f env = .ok (.st o)) (hs : p.size < BIG) (h3 : p.app o = some p') : dApp i f env = .ok (.nx (env.set i (some p'))) := by
  unfold dApp
  rw [h]
  simp only
  rw [if_pos hl, h2, bind_ok]
  simp only
  rw [if_pos hs, h3]
theorem ev_appPop {f : DE} {i j m : Nat} {p p' : OV} {xs : List FV} {r : Rv} (h : env[i]? = some (some p)) (hj : env[j]? = some (some (.ol xs))) (hl : p.isL = true) (hij : i ≠ j) (hz : xs.length ≤ BIG) (hs : p.size < BIG) (h2 : f env = .ok r) (h3 : r.ov = .fz (.int (m : Int))) (h4 : xs[m]? = some x) (h5 : p.app (.fz x) = some p') :
    dAppPop i j f env = .ok (.nx ((env.set j (some (.ol (xs.eraseIdx m)))).set i (some p'))) := by
  have hm : m < xs.length := (List.getElem?_eq_some_iff.mp h4).1
  have hx : ixN xs.length (m : Int) = some m := by
    unfold ixN
    rw [if_pos (by omega), if_pos (by omega), Int.toNat_natCast]
  unfold dAppPop
  rw [h, hj]
  simp only
  rw [if_pos (by simp [hl, hij, hz, hs]), h2, bind_ok, rfv, h3]
  simp only [fv_fz, hx, h4, h5]
theorem ev_put {fk fe : DE} {i : Nat} {p p' : OV} {r : Rv} (h : env[i]? = some (some p)) (hl : (p.isL || p.isD2) = true) (h2 : fe env = .ok (.st o)) (h3 : fk env = .ok r) (hs : p.size < BIG) (h4 : p.put r.fv o = some p') : dPut i fk fe env = .ok (.nx (env.set i (some p'))) := by
  unfold dPut
  rw [h]
  simp only
  rw [if_pos hl, h2, bind_ok]
  simp only
  rw [h3, bind_ok, if_pos hs, h4]
theorem ev_run {n : Nat} {f : DS} {as : List FV} (h : f (startE n as) = .ok (.rt o e)) : runF n f as = .ok o := by unfold runF; rw [h]
theorem ev_seqN {f g : DS} {r : Ans SO} (h : f env = .ok (.nx e)) (h2 : g e = r) : dSeq f g env = r := by rw [ev_seq, h, so_nx, h2]
theorem ev_seqR {f g : DS} {e2 : VEnv} (h : f env = .ok (.rt o e2)) : dSeq f g env = .ok (.rt o e2) := by rw [ev_seq, h, so_rt]
theorem ev_ifT' {d : DT} {f g : DS} {r : Ans SO} (h : d env = .ok true) (h2 : f env = r) : dIf d f g env = r := by rw [ev_ifT h, h2]
theorem ev_ifF' {d : DT} {f g : DS} {r : Ans SO} (h : d env = .ok false) (h2 : g env = r) : dIf d f g env = r := by rw [ev_ifF h, h2]
theorem ev_ice' {i : Nat} {f : DS} {r : Ans SO} (h : env[i]? = some (some o)) (h2 : f (env.set i (some (.fz o.fv))) = r) : dIce i f env = r := by rw [ev_ice h, h2]
theorem ev_andT' {f g : DT} {r : Ans Bool} (h : f env = .ok true) (h2 : g env = r) : dAndT f g env = r := by rw [ev_andT h, h2]
theorem ev_orF' {f g : DT} {r : Ans Bool} (h : f env = .ok false) (h2 : g env = r) : dOrT f g env = r := by rw [ev_orF h, h2]
theorem ev_andVT' {f g : DE} {r : Ans Rv} (h : f env = .ok (.st (.fz (.bl true)))) (h2 : g env = r) : dAndV f g env = r := by rw [ev_andVT h, h2]
end
section
variable {i j : Int} {b : Bool} {env : VEnv}
theorem e_add : opAdd (.fz (.int i)) (.fz (.int j)) = some (.fz (.int (i + j))) := rfl
theorem e_sub : opSub (.fz (.int i)) (.fz (.int j)) = some (.fz (.int (i - j))) := rfl
theorem e_mul (h : mulOk i j = true) : opMul (.fz (.int i)) (.fz (.int j)) = some (.fz (.int (i * j))) := if_pos h
theorem e_mod (h : 0 < j) : opMod (.fz (.int i)) (.fz (.int j)) = some (.fz (.int (i % j))) := if_pos h
theorem e_shr (h : 0 ≤ j) : opShr (.fz (.int i)) (.fz (.int j)) = some (.fz (.int (i / 2 ^ j.toNat))) := if_pos h
theorem e_eq : opEq (.fz (.int i)) (.fz (.int j)) = some (.fz (.bl (decide (i = j)))) := rfl
theorem e_ne : opNe (.fz (.int i)) (.fz (.int j)) = some (.fz (.bl (!decide (i = j)))) := rfl
theorem mulL {i j : Int} (h : i.natAbs < 2 ^ 62) : mulOk i j = true := by unfold mulOk; rw [Bool.or_eq_true, Bool.or_eq_true]; exact .inl (.inl (decide_eq_true h))
theorem mulR {i j : Int} (h : j.natAbs < 2 ^ 62) : mulOk i j = true := by unfold mulOk; rw [Bool.or_eq_true, Bool.or_eq_true]; exact .inl (.inr (decide_eq_true h))
/-- a test that is known -/
theorem ev_testB {f : DE} {b : Bool} (h : f env = .ok (.st (.fz (.bl b)))) {c : Bool} (e : b = c) : dTest f env = .ok c := by rw [ev_test h, e]
theorem ev_notB {f : DT} {b c : Bool} (h : f env = .ok b) (e : (!b) = c) : dNotT f env = .ok c := by rw [ev_notT h, e]
end
end J
namespace J
open PySem PySem.Spec PyProof.Rows L2
/-! ### typed values and how they stand as plain ones -/
abbrev Chr := Fin 128
def sxS (s : List Chr) : Str := ⟨(s.map Fin.val).toArray⟩
section
variable {α β γ κ : Type}
abbrev eI : Int → FV := FV.int
abbrev eB : Bool → FV := FV.bl
abbrev eC : Chr → FV := fun c => .str ⟨#[c.val]⟩
abbrev eS : List Chr → FV := fun s => .str (sxS s)
abbrev eU : Unit → FV := fun _ => .non
abbrev eL (e : α → FV) : List α → FV := fun xs => .lst (xs.map e)
abbrev eT (e : α → FV) : List α → FV := fun xs => .tup (xs.map e)
abbrev eP (e : α → FV) (d : β → FV) : α × β → FV := fun p => .tup [e p.1, d p.2]
abbrev eP3 (e : α → FV) (d : β → FV) (c : γ → FV) : α × β × γ → FV := fun p => .tup [e p.1, d p.2.1, c p.2.2]
def eO (e : α → FV) : Option α → FV
  | none => .non
  | some a => e a
abbrev kC : Chr → Key := fun c => .inr ⟨#[c.val]⟩
abbrev kS : List Chr → Key := fun s => .inr (sxS s)
abbrev kI : Int → Key := .inl
abbrev eK (k : κ → Key) (e : α → FV) : List (κ × α) → FV := fun d => .dK (d.map fun p => (k p.1, e p.2))
abbrev eD (k : κ → Key) (e : α → FV) : List (List κ × α) → FV := fun d => .dT (d.map fun p => (p.1.map k, e p.2))
abbrev oF (e : α → FV) : α → OV := fun x => .fz (e x)
abbrev oL (e : α → FV) : List α → OV := fun xs => .ol (xs.map e)
abbrev oK (k : κ → Key) (e : α → FV) : List (κ × α) → OV := fun d => .oK (d.map fun p => (k p.1, e p.2))
abbrev oD (k : κ → Key) (e : α → FV) : List (List κ × α) → OV := fun d => .oT (d.map fun p => (p.1.map k, e p.2))
abbrev oLL (o : α → OV) : List α → OV := fun xs => .dl (xs.map o)
def oO (o : α → OV) : Option α → OV
  | none => .fz .non
  | some a => o a
def eZ (e : α → FV) : List α → FV
  | [] => .tup []
  | x :: xs => .tuz ((x :: xs).map e)
/-- comparable: data, not deep; equal just where the typed values are -/
structure EnP (n : Nat) (e : α → FV) : Prop where
  d : ∀ a, ∃ p, (e a).toD = some p ∧ p.canLay0 = true ∧ p.depth ≤ n
  inj : ∀ a b p q, (e a).toD = some p → (e b).toD = some q → (PyData.eqv p q = true ↔ a = b)
/-- not None -/
structure NN (e : α → FV) : Prop where
  n : ∀ a, (e a).isNon = false
theorem sxS_inj {a b : List Chr} (h : sxS a = sxS b) : a = b := by
  unfold sxS at h
  injection h with h
  have h2 : (a.map Fin.val) = (b.map Fin.val) := by simpa using congrArg Array.toList h
  exact (List.map_inj_right (fun x y e => Fin.ext e)).mp h2
theorem sxS_ok (s : List Chr) : PyData.strOk (sxS s) = true := by
  unfold PyData.strOk sxS
  simp
  intro x _
  omega
theorem epI : EnP 0 eI := ⟨fun a => ⟨.int a, rfl, rfl, Nat.le_refl _⟩, fun a b p q h1 h2 => by cases h1; cases h2; simp [PyData.eqv]⟩
theorem epU : EnP 0 eU := ⟨fun a => ⟨.none, rfl, rfl, Nat.le_refl _⟩, fun a b p q h1 h2 => by cases h1; cases h2; simp [PyData.eqv]⟩
theorem epS : EnP 0 eS := ⟨fun a => ⟨.str (sxS a), rfl, by rw [PyData.canLay0]; exact sxS_ok a, Nat.le_refl _⟩, fun a b p q h1 h2 => by
  cases h1; cases h2
  rw [PyData.eqv]
  exact ⟨fun h => sxS_inj (by simpa using h), fun h => by rw [h]; simp⟩⟩
theorem epC : EnP 0 eC := ⟨fun a => ⟨.str (sxS [a]), rfl, by rw [PyData.canLay0]; exact sxS_ok [a], Nat.le_refl _⟩, fun a b p q h1 h2 => by
  cases h1; cases h2
  rw [PyData.eqv]
  exact ⟨fun h => by
    have h : (⟨#[a.val]⟩ : Str) = ⟨#[b.val]⟩ := by simpa using h
    injection h with h
    simp at h
    exact Fin.ext h, fun h => by rw [h]; simp⟩⟩
theorem nnI : NN eI := ⟨fun _ => rfl⟩
theorem nnB : NN eB := ⟨fun _ => rfl⟩
theorem nnC : NN eC := ⟨fun _ => rfl⟩
theorem nnS : NN eS := ⟨fun _ => rfl⟩
section
variable {e : α → FV} {d : β → FV} {c : γ → FV} {n m k : Nat}
theorem nnL : NN (eL e) := ⟨fun _ => rfl⟩
theorem nnT : NN (eT e) := ⟨fun _ => rfl⟩
theorem nnZ : NN (eZ e) := ⟨fun a => by cases a <;> rfl⟩
theorem nnP : NN (eP e d) := ⟨fun _ => rfl⟩
theorem nnP3 : NN (eP3 e d c) := ⟨fun _ => rfl⟩
theorem nnK {κ : Type} {k : κ → Key} : NN (eK k e) := ⟨fun _ => rfl⟩
theorem nnD {κ : Type} {k : κ → Key} : NN (eD k e) := ⟨fun _ => rfl⟩
theorem EnP.mono (h : EnP n e) (hm : n ≤ m) : EnP m e := ⟨fun a => let ⟨p, h1, h2, h3⟩ := h.d a; ⟨p, h1, h2, Nat.le_trans h3 hm⟩, h.inj⟩
theorem EnP.L (h : EnP n e) : ∀ xs : List α, ∃ ds, FV.toDL (xs.map e) = some ds ∧ PyData.canLayAll0 ds = true ∧ PyData.depthAll ds ≤ n
  | [] => ⟨[], rfl, rfl, Nat.zero_le _⟩
  | x :: xs => by
    obtain ⟨p, h1, h2, h3⟩ := h.d x
    obtain ⟨ds, q1, q2, q3⟩ := EnP.L h xs
    exact ⟨p :: ds, by rw [List.map_cons, FV.toDL, h1, q1], by rw [PyData.canLayAll0, h2, q2]; rfl, by rw [PyData.depthAll]; exact Nat.max_le.mpr ⟨h3, q3⟩⟩
theorem EnP.Linj (h : EnP n e) : ∀ {xs ys : List α} {ds es : List PyData}, FV.toDL (xs.map e) = some ds → FV.toDL (ys.map e) = some es → (PyData.eqvAll ds es = true ↔ xs = ys)
  | [], [], _, _, h1, h2 => by cases h1; cases h2; simp [PyData.eqvAll]
  | [], y :: ys, _, _, h1, h2 => by
    cases h1
    obtain ⟨p, e1, _⟩ := h.d y
    obtain ⟨ds, e3, _⟩ := EnP.L h ys
    rw [List.map_cons, FV.toDL, e1, e3] at h2
    cases h2
    simp [PyData.eqvAll]
  | x :: xs, [], _, _, h2, h1 => by
    cases h1
    obtain ⟨p, e1, _⟩ := h.d x
    obtain ⟨ds, e3, _⟩ := EnP.L h xs
    rw [List.map_cons, FV.toDL, e1, e3] at h2
    cases h2
    simp [PyData.eqvAll]
  | x :: xs, y :: ys, _, _, h1, h2 => by
    obtain ⟨p, e1, _⟩ := h.d x
    obtain ⟨ds, e3, _⟩ := EnP.L h xs
    rw [List.map_cons, FV.toDL, e1, e3] at h1
    cases h1
    obtain ⟨p', e1', _⟩ := h.d y
    obtain ⟨ds', e3', _⟩ := EnP.L h ys
    rw [List.map_cons, FV.toDL, e1', e3'] at h2
    cases h2
    rw [PyData.eqvAll, Bool.and_eq_true, h.inj x y _ _ e1 e1', EnP.Linj h e3 e3']
    simp
theorem map_inj_of {f : α → β} (h : ∀ a b, f a = f b → a = b) : ∀ {xs ys : List α}, xs.map f = ys.map f → xs = ys
  | [], [], _ => rfl
  | [], _ :: _, e => by simp at e
  | _ :: _, [], e => by simp at e
  | x :: xs, y :: ys, e => by
    rw [List.map_cons, List.map_cons] at e
    injection e with e1 e2
    rw [h _ _ e1, map_inj_of h e2]
theorem epL (h : EnP n e) : EnP (n + 1) (eL e) := ⟨fun a => by
    obtain ⟨ds, h1, h2, h3⟩ := h.L a
    exact ⟨.list ds, by rw [FV.toD, h1]; rfl, by rw [PyData.canLay0]; exact h2, by rw [PyData.depth]; omega⟩, fun a b p q h1 h2 => by
    obtain ⟨ds, e1, rfl⟩ := Option.map_eq_some_iff.mp (show (FV.toDL (a.map e)).map PyData.list = some p from h1)
    obtain ⟨es, e2, rfl⟩ := Option.map_eq_some_iff.mp (show (FV.toDL (b.map e)).map PyData.list = some q from h2)
    rw [PyData.eqv]
    exact h.Linj e1 e2⟩
theorem epT (h : EnP n e) : EnP (n + 1) (eT e) := ⟨fun a => by
    obtain ⟨ds, h1, h2, h3⟩ := h.L a
    exact ⟨.tuple ds, by rw [FV.toD, h1]; rfl, by rw [PyData.canLay0]; exact h2, by rw [PyData.depth]; omega⟩, fun a b p q h1 h2 => by
    obtain ⟨ds, e1, rfl⟩ := Option.map_eq_some_iff.mp (show (FV.toDL (a.map e)).map PyData.tuple = some p from h1)
    obtain ⟨es, e2, rfl⟩ := Option.map_eq_some_iff.mp (show (FV.toDL (b.map e)).map PyData.tuple = some q from h2)
    rw [PyData.eqv]
    exact h.Linj e1 e2⟩
theorem eZ_toD (a : List α) : (eZ e a).toD = (FV.toDL (a.map e)).map PyData.tuple := by cases a <;> rfl
theorem epZ (h : EnP n e) : EnP (n + 1) (eZ e) := ⟨fun a => by
    obtain ⟨ds, h1, h2, h3⟩ := h.L a
    exact ⟨.tuple ds, by rw [eZ_toD, h1]; rfl, by rw [PyData.canLay0]; exact h2, by rw [PyData.depth]; omega⟩, fun a b p q h1 h2 => by
    obtain ⟨ds, e1, rfl⟩ := Option.map_eq_some_iff.mp ((eZ_toD (e := e) a).symm.trans h1)
    obtain ⟨es, e2, rfl⟩ := Option.map_eq_some_iff.mp ((eZ_toD (e := e) b).symm.trans h2)
    rw [PyData.eqv]
    exact h.Linj e1 e2⟩
theorem epP (h : EnP n e) (g : EnP m d) : EnP (max n m + 1) (eP e d) := ⟨fun a => by
    obtain ⟨p, h1, h2, h3⟩ := h.d a.1
    obtain ⟨q, g1, g2, g3⟩ := g.d a.2
    refine ⟨.tuple [p, q], by rw [FV.toD, FV.toDL, FV.toDL, FV.toDL, h1, g1]; rfl, by rw [PyData.canLay0, PyData.canLayAll0, PyData.canLayAll0, PyData.canLayAll0, h2, g2]; rfl, ?_⟩
    rw [PyData.depth, PyData.depthAll, PyData.depthAll, PyData.depthAll]
    omega, fun a b x y q1 q2 => by
    obtain ⟨p, h1, h2, h3⟩ := h.d a.1
    obtain ⟨q, g1, g2, g3⟩ := g.d a.2
    obtain ⟨p', h1', _, _⟩ := h.d b.1
    obtain ⟨q', g1', _, _⟩ := g.d b.2
    rw [FV.toD, FV.toDL, FV.toDL, FV.toDL, h1, g1] at q1
    rw [FV.toD, FV.toDL, FV.toDL, FV.toDL, h1', g1'] at q2
    cases q1
    cases q2
    rw [PyData.eqv, PyData.eqvAll, PyData.eqvAll, PyData.eqvAll, Bool.and_eq_true, Bool.and_eq_true, h.inj _ _ _ _ h1 h1', g.inj _ _ _ _ g1 g1']
    exact ⟨fun z => Prod.ext z.1 z.2.1, fun z => ⟨by rw [z], by rw [z], rfl⟩⟩⟩
theorem epP3 (h : EnP n e) (g : EnP m d) (f : EnP k c) : EnP (max n (max m k) + 1) (eP3 e d c) := ⟨fun a => by
    obtain ⟨p, h1, h2, h3⟩ := h.d a.1
    obtain ⟨q, g1, g2, g3⟩ := g.d a.2.1
    obtain ⟨r, f1, f2, f3⟩ := f.d a.2.2
    refine ⟨.tuple [p, q, r], by rw [FV.toD, FV.toDL, FV.toDL, FV.toDL, FV.toDL, h1, g1, f1]; rfl, by rw [PyData.canLay0, PyData.canLayAll0, PyData.canLayAll0, PyData.canLayAll0, PyData.canLayAll0, h2, g2, f2]; rfl, ?_⟩
    rw [PyData.depth, PyData.depthAll, PyData.depthAll, PyData.depthAll, PyData.depthAll]
    omega, fun a b x y q1 q2 => by
    obtain ⟨p, h1, h2, h3⟩ := h.d a.1
    obtain ⟨q, g1, g2, g3⟩ := g.d a.2.1
    obtain ⟨r, f1, f2, f3⟩ := f.d a.2.2
    obtain ⟨p', h1', _, _⟩ := h.d b.1
    obtain ⟨q', g1', _, _⟩ := g.d b.2.1
    obtain ⟨r', f1', _, _⟩ := f.d b.2.2
    rw [FV.toD, FV.toDL, FV.toDL, FV.toDL, FV.toDL, h1, g1, f1] at q1
    rw [FV.toD, FV.toDL, FV.toDL, FV.toDL, FV.toDL, h1', g1', f1'] at q2
    cases q1
    cases q2
    rw [PyData.eqv, PyData.eqvAll, PyData.eqvAll, PyData.eqvAll, PyData.eqvAll, Bool.and_eq_true, Bool.and_eq_true, Bool.and_eq_true, h.inj _ _ _ _ h1 h1', g.inj _ _ _ _ g1 g1', f.inj _ _ _ _ f1 f1']
    exact ⟨fun z => Prod.ext z.1 (Prod.ext z.2.1 z.2.2.1), fun z => ⟨by rw [z], by rw [z], by rw [z], rfl⟩⟩⟩
theorem NN.toD (hn : NN e) (a : α) : (e a).toD ≠ some .none := fun h => by
  have := hn.n a
  revert h this
  cases e a <;> simp [FV.toD, FV.isNon]
theorem eqv_none : ∀ p : PyData, p ≠ .none → PyData.eqv .none p = false ∧ PyData.eqv p .none = false := fun p h => by
  cases p <;> simp [PyData.eqv] at h ⊢
theorem epO (h : EnP n e) (hn : NN e) : EnP n (eO e) := ⟨fun a => by
    cases a with
    | none => exact ⟨.none, rfl, rfl, Nat.zero_le _⟩
    | some a => exact h.d a, fun a b p q h1 h2 => by
    cases a with
    | none => cases b with
      | none => cases h1; cases h2; simp [PyData.eqv]
      | some b =>
        cases h1
        have := hn.toD b
        rw [(eqv_none q fun z => this (by rw [← z]; exact h2)).1]
        simp
    | some a => cases b with
      | none =>
        cases h2
        have := hn.toD a
        rw [(eqv_none p fun z => this (by rw [← z]; exact h1)).2]
        simp
      | some b => rw [h.inj a b p q h1 h2]; simp⟩
end
/-! ### pure (no list within) -/
section
variable {e : α → FV} {d : β → FV} {c : γ → FV} {n m k : Nat}
structure EPu (e : α → FV) : Prop where
  p : ∀ a, (e a).pure = true
theorem pureL_all : ∀ {xs : List FV}, (∀ x ∈ xs, x.pure = true) → FV.pureL xs = true
  | [], _ => rfl
  | x :: xs, h => by
    unfold FV.pureL
    rw [h x List.mem_cons_self, pureL_all fun y hy => h y (List.mem_cons_of_mem _ hy)]
    rfl
theorem EPu.L (h : EPu e) (xs : List α) : FV.pureL (xs.map e) = true := pureL_all fun x hx => by
  obtain ⟨a, _, rfl⟩ := List.mem_map.mp hx
  exact h.p a
theorem puI : EPu eI := ⟨fun _ => rfl⟩
theorem puB : EPu eB := ⟨fun _ => rfl⟩
theorem puU : EPu eU := ⟨fun _ => rfl⟩
theorem puC : EPu eC := ⟨fun _ => rfl⟩
theorem puS : EPu eS := ⟨fun _ => rfl⟩
theorem puZ (h : EPu e) : EPu (eZ e) := ⟨fun a => by
  cases a with
  | nil => rfl
  | cons x xs => show FV.pure (.tuz ((x :: xs).map e)) = true; rw [FV.pure]; exact h.L _⟩
theorem puT (h : EPu e) : EPu (eT e) := ⟨fun a => by rw [FV.pure]; exact h.L a⟩
theorem puP (h : EPu e) (g : EPu d) : EPu (eP e d) := ⟨fun a => by rw [FV.pure, FV.pureL, FV.pureL, FV.pureL, h.p, g.p]; rfl⟩
theorem puP3 (h : EPu e) (g : EPu d) (f : EPu c) : EPu (eP3 e d c) := ⟨fun a => by rw [FV.pure, FV.pureL, FV.pureL, FV.pureL, FV.pureL, h.p, g.p, f.p]; rfl⟩
theorem puO (h : EPu e) : EPu (eO e) := ⟨fun a => by cases a with | none => rfl | some a => exact h.p a⟩
end
end
/-! ### judgements: where the typed function answers, so does the plain one -/
section
variable {α β γ δ σ ρ κ : Type}
def OE (x : Ans δ) (tt : Option γ) (R : γ → δ) : Prop := ∀ v, tt = some v → x = .ok (R v)
def SG (x : Ans SO) (tt : Option γ) (P : γ → SO → Prop) : Prop := ∀ g, tt = some g → ∃ so, x = .ok so ∧ P g so
def PR (O : γ → OV) : γ → SO → Prop := fun v so => ∃ e, so = .rt (O v) e
def PN (E : γ → VEnv → Prop) : γ → SO → Prop := fun s so => ∃ e, so = .nx e ∧ E s e
inductive Ctl (σ ρ : Type) where
  | nx (s : σ)
  | bk (s : σ)
  | rt (r : ρ)
def PC (E : σ → VEnv → Prop) (B : σ → VEnv → Prop) (O : ρ → OV) : Ctl σ ρ → SO → Prop
  | .nx s, so => ∃ e, so = .nx e ∧ E s e
  | .bk s, so => ∃ e, so = .bk e ∧ B s e
  | .rt r, so => ∃ e, so = .rt (O r) e
/-- behind a loop: nx or rt -/
def PL (B : σ → VEnv → Prop) (O : ρ → OV) : Ctl σ ρ → SO → Prop
  | .nx s, so => ∃ e, so = .nx e ∧ B s e
  | .bk s, so => ∃ e, so = .nx e ∧ B s e
  | .rt r, so => ∃ e, so = .rt (O r) e
theorem oe_bind {x : Ans δ} {o : Option α} {k : α → Option γ} {R : γ → δ} (h : ∀ a, o = some a → OE x (k a) R) : OE x (o.bind k) R := fun v hv => by
  cases o with
  | none => cases hv
  | some a => exact h a rfl v hv
theorem oe_ret {x : Ans δ} {v : γ} {R : γ → δ} (h : x = .ok (R v)) : OE x (some v) R := fun w hw => by cases hw; exact h
theorem oe_if {x : Ans δ} {b : Bool} {t u : Option γ} {R : γ → δ} (h : b = true → OE x t R) (h2 : b = false → OE x u R) : OE x (if b then t else u) R := fun w hw => by
  cases b with
  | true => exact h rfl w hw
  | false => exact h2 rfl w hw
variable {P : γ → SO → Prop} {tt : Option γ} {env : VEnv} {f : DE} {D A B : DS} {o : OV}
theorem sg_bind {x : Ans SO} {o : Option α} {k : α → Option γ} (h : ∀ a, o = some a → SG x (k a) P) : SG x (o.bind k) P := fun v hv => by
  cases o with
  | none => cases hv
  | some a => exact h a rfl v hv
theorem sg_env {e2 : VEnv} (h : env = e2) (h2 : SG (D e2) tt P) : SG (D env) tt P := by rw [h]; exact h2
theorem sg_set {i : Nat} (h : f env = .ok (.st o)) (h2 : SG (D (env.set i (some o))) tt P) : SG (dSeq (dSet i f) D env) tt P := by
  rw [ev_seqN (ev_set h) rfl]; exact h2
theorem sg_expr {r : Rv} (h : f env = .ok r) (h2 : SG (D env) tt P) : SG (dSeq (dExpr f) D env) tt P := by
  rw [ev_seqN (e := env) (by unfold dExpr; rw [h]; rfl) rfl]; exact h2
theorem sg_skip (h2 : SG (D env) tt P) : SG (dSeq dSkip D env) tt P := h2
theorem so_assoc {A B C : VEnv → Ans SO} (x : Ans SO) : SO.bind (SO.bind x A) B = SO.bind x (fun e => SO.bind (A e) B) := by
  cases x with
  | ok s => cases s <;> rfl
  | ex c => rfl
  | no => rfl
theorem sg_assoc {C : DS} (h : SG (dSeq A (dSeq B C) env) tt P) : SG (dSeq (dSeq A B) C env) tt P := by
  have e : dSeq (dSeq A B) C env = dSeq A (dSeq B C) env := so_assoc (C := C) (A env)
  rw [e]; exact h
theorem sg_seq {E : α → VEnv → Prop} {t1 : Option α} {t2 : α → Option γ} (h : SG (A env) t1 (PN E)) (h2 : ∀ s e, E s e → SG (B e) (t2 s) P) : SG (dSeq A B env) (t1.bind t2) P := fun v hv => by
  cases h1 : t1 with
  | none => rw [h1] at hv; cases hv
  | some a =>
    rw [h1] at hv
    obtain ⟨so, q1, e, rfl, q2⟩ := h a h1
    rw [ev_seqN q1 rfl]
    exact h2 a e q2 v hv
/-- a loop that may return, then the rest -/
def behind (k : ρ → γ) (t2 : σ → Option γ) : Ctl σ ρ → Option γ
  | .nx s => t2 s
  | .bk s => t2 s
  | .rt r => some (k r)
theorem sg_seqL {E : σ → VEnv → Prop} {O : ρ → OV} {t1 : Option (Ctl σ ρ)} {t2 : σ → Option γ} {k : ρ → γ} (h : SG (A env) t1 (PL E O)) (h3 : ∀ r e, P (k r) (.rt (O r) e)) (h2 : ∀ s e, E s e → SG (B e) (t2 s) P) :
    SG (dSeq A B env) (t1.bind (behind k t2)) P := fun v hv => by
  cases h1 : t1 with
  | none => rw [h1] at hv; cases hv
  | some a =>
    rw [h1] at hv
    obtain ⟨so, q1, q2⟩ := h a h1
    cases a with
    | nx s =>
      obtain ⟨e, rfl, q2⟩ := q2
      rw [ev_seqN q1 rfl]
      exact h2 s e q2 v hv
    | bk s =>
      obtain ⟨e, rfl, q2⟩ := q2
      rw [ev_seqN q1 rfl]
      exact h2 s e q2 v hv
    | rt r =>
      obtain ⟨e, rfl⟩ := q2
      cases hv
      rw [ev_seqR q1]
      exact ⟨_, rfl, h3 r e⟩
theorem sg_if {c : DT} {b : Bool} {t u : Option γ} (h : c env = .ok b) (h1 : b = true → SG (A env) t P) (h2 : b = false → SG (B env) u P) : SG (dIf c A B env) (if b then t else u) P := by
  cases b with
  | true => rw [ev_ifT h]; exact h1 rfl
  | false => rw [ev_ifF h]; exact h2 rfl
/-- a test, what follows pushed into both ways -/
theorem sg_ifs {c : DT} {b : Bool} {t u : Option γ} (h : c env = .ok b) (h1 : b = true → SG (dSeq A D env) t P) (h2 : b = false → SG (dSeq B D env) u P) : SG (dSeq (dIf c A B) D env) (if b then t else u) P := by
  have e : dSeq (dIf c A B) D env = if b then dSeq A D env else dSeq B D env := by
    rw [ev_seq]
    cases b with
    | true => rw [ev_ifT h]; rfl
    | false => rw [ev_ifF h]; rfl
  rw [e]
  cases b with
  | true => exact h1 rfl
  | false => exact h2 rfl
theorem sg_ice {i : Nat} {x : FV} (h : env[i]? = some (some o)) (hx : o.fv = x) (h2 : SG (D (env.set i (some (.fz x)))) tt P) : SG (dIce i D env) tt P := by
  rw [ev_ice h, hx]; exact h2
theorem sg_iceF {i : Nat} {x : FV} (h : env[i]? = some (some (.fz x))) (h2 : SG (D env) tt P) : SG (dIce i D env) tt P := by
  rw [ev_iceQ' h]; exact h2
where
  ev_iceQ' {i : Nat} {f : DS} {env : VEnv} {x : FV} (h : env[i]? = some (some (.fz x))) : dIce i f env = f env := by
    have hset : env.set i (some (.fz (OV.fz x).fv)) = env := by
      apply List.ext_getElem?
      intro j
      by_cases hj : i = j
      · subst hj
        obtain ⟨hlt, _⟩ := List.getElem?_eq_some_iff.mp h
        rw [List.getElem?_set_self hlt, h]
        rfl
      · rw [List.getElem?_set_ne hj]
    rw [ev_ice h, hset]
def iceJ (j : Option OV) : Option OV := j.map fun o => .fz o.fv
theorem ev_iceJ {i : Nat} {j : Option OV} (h : env[i]? = some j) : dIce i D env = D (env.set i (iceJ j)) := by
  cases j with
  | some o => exact ev_ice h
  | none =>
    have hset : env.set i none = env := by
      apply List.ext_getElem?
      intro k
      by_cases hj : i = k
      · subst hj
        obtain ⟨hlt, _⟩ := List.getElem?_eq_some_iff.mp h
        rw [List.getElem?_set_self hlt, h]
      · rw [List.getElem?_set_ne hj]
    unfold dIce
    rw [h]
    show D env = D (env.set i none)
    rw [hset]
theorem sg_iceJ {i : Nat} {j : Option OV} (h : env[i]? = some j) (h2 : SG (D (env.set i (iceJ j))) tt P) : SG (dIce i D env) tt P := by
  rw [ev_iceJ h]; exact h2
/-- dIce i A; B  is  dIce i (A; B) -/
theorem sg_iceS {i : Nat} (h : SG (dIce i (dSeq A B) env) tt P) : SG (dSeq (dIce i A) B env) tt P := by
  have e : dSeq (dIce i A) B env = dIce i (dSeq A B) env := by
    rw [ev_seq]
    unfold dIce
    rcases env[i]? with _ | _ | o <;> rfl
  rw [e]; exact h
theorem sg_nx {E : γ → VEnv → Prop} {v : γ} {env : VEnv} (h : E v env) : SG (dSkip env) (some v) (PN E) := fun w hw => by cases hw; exact ⟨_, rfl, env, rfl, h⟩
theorem sg_of {P : γ → SO → Prop} {x : Ans SO} {so : SO} {v : γ} (h : x = .ok so) (hp : P v so) : SG x (some v) P := fun w hw => by cases hw; exact ⟨so, h, hp⟩
theorem sg_one {D : DS} (h : SG (dSeq D dSkip env) tt P) : SG (D env) tt P := by
  have e : dSeq D dSkip env = D env := by
    rw [ev_seq]
    cases h : D env with
    | ok s => cases s <;> rfl
    | ex c => rfl
    | no => rfl
  rw [← e]; exact h
theorem sg_ret {O : γ → OV} {v : γ} (h : f env = .ok (.st (O v))) : SG (dRet f env) (some v) (PR O) := sg_of (ev_ret h) ⟨_, rfl⟩
theorem sg_retS {v : γ} {o : OV} (h : f env = .ok (.st o)) (hp : ∀ e, P v (.rt o e)) : SG (dSeq (dRet f) D env) (some v) P := sg_of (ev_seqR (ev_ret h)) (hp _)
theorem sg_retVS {i : Nat} {v : γ} {o : OV} (h : env[i]? = some (some o)) (hp : ∀ e, P v (.rt o e)) : SG (dSeq (dRetV i) D env) (some v) P := sg_of (ev_seqR (ev_retV h)) (hp _)
theorem sg_brkS {v : γ} (hp : P v (.bk env)) : SG (dSeq dBrk D env) (some v) P := sg_of (by rw [ev_seq]; rfl) hp
theorem sg_app {i : Nat} {p p' : OV} (h : env[i]? = some (some p)) (hl : p.isL = true) (h2 : f env = .ok (.st o)) (hs : p.size < BIG) (h3 : p.app o = some p') (k : SG (D (env.set i (some p'))) tt P) : SG (dSeq (dApp i f) D env) tt P := by
  rw [ev_seqN (ev_app h hl h2 hs h3) rfl]; exact k
/-! ### loops -/
def forT (f : α → σ → Option σ) : List α → σ → Option σ
  | [], s => some s
  | x :: xs, s => (f x s).bind (forT f xs)
def forC (f : α → σ → Option (Ctl σ ρ)) : List α → σ → Option (Ctl σ ρ)
  | [], s => some (.nx s)
  | x :: xs, s => (f x s).bind fun c => match c with
    | .nx s => forC f xs s
    | .bk s => some (.bk s)
    | .rt r => some (.rt r)
theorem forL_sim {eA : α → FV} {t : TgF} {body : DS} {E : σ → VEnv → Prop} {tb : α → σ → Option σ} (hb : ∀ x s e, E s e → ∃ e1, t (eA x) e = some e1 ∧ SG (body e1) (tb x s) (PN E)) :
    ∀ (items : List α) (s : σ) (env : VEnv), E s env → SG (forL t body (items.map eA) env) (forT tb items s) (PN E)
  | [], s, env, h => fun g hg => by cases hg; exact ⟨_, rfl, env, rfl, h⟩
  | x :: xs, s, env, h => fun g hg => by
    unfold forT at hg
    obtain ⟨e1, q1, q2⟩ := hb x s env h
    cases ht : tb x s with
    | none => rw [ht] at hg; cases hg
    | some s' =>
      rw [ht] at hg
      obtain ⟨so, r1, e2, rfl, r2⟩ := q2 s' ht
      rw [List.map_cons]
      unfold forL
      rw [q1]
      simp only
      rw [r1]
      exact forL_sim hb xs s' e2 r2 g hg
theorem forC_sim {eA : α → FV} {t : TgF} {body : DS} {E B : σ → VEnv → Prop} {O : ρ → OV} {tb : α → σ → Option (Ctl σ ρ)} (hEB : ∀ s e, E s e → B s e) (hb : ∀ x s e, E s e → ∃ e1, t (eA x) e = some e1 ∧ SG (body e1) (tb x s) (PC E B O)) :
    ∀ (items : List α) (s : σ) (env : VEnv), E s env → SG (forL t body (items.map eA) env) (forC tb items s) (PL B O)
  | [], s, env, h => fun g hg => by cases hg; exact ⟨_, rfl, env, rfl, hEB _ _ h⟩
  | x :: xs, s, env, h => fun g hg => by
    unfold forC at hg
    obtain ⟨e1, q1, q2⟩ := hb x s env h
    cases ht : tb x s with
    | none => rw [ht] at hg; cases hg
    | some c =>
      rw [ht] at hg
      obtain ⟨so, r1, r2⟩ := q2 c ht
      rw [List.map_cons]
      unfold forL
      rw [q1]
      simp only
      rw [r1]
      cases c with
      | nx s' =>
        obtain ⟨e2, rfl, r2⟩ := r2
        exact forC_sim hEB hb xs s' e2 r2 g hg
      | bk s' =>
        obtain ⟨e2, rfl, r2⟩ := r2
        cases hg
        exact ⟨_, rfl, e2, rfl, r2⟩
      | rt r =>
        obtain ⟨e2, rfl⟩ := r2
        cases hg
        exact ⟨_, rfl, e2, rfl⟩
theorem sg_for {it : VEnv → Ans (List FV)} {eA : α → FV} {t : TgF} {body : DS} (E : σ → VEnv → Prop) {tb : α → σ → Option σ} {items : List α} {s : σ} (hi : it env = .ok (items.map eA)) (h : E s env) (hb : ∀ x s e, E s e → ∃ e1, t (eA x) e = some e1 ∧ SG (body e1) (tb x s) (PN E)) :
    SG (dFor it t body env) (forT tb items s) (PN E) := by
  unfold dFor
  rw [hi, bind_ok]
  exact forL_sim hb items s env h
theorem sg_forC {it : VEnv → Ans (List FV)} {eA : α → FV} {t : TgF} {body : DS} (E B : σ → VEnv → Prop) (O : ρ → OV) {tb : α → σ → Option (Ctl σ ρ)} {items : List α} {s : σ} (hi : it env = .ok (items.map eA)) (h : E s env) (hEB : ∀ s e, E s e → B s e) (hb : ∀ x s e, E s e → ∃ e1, t (eA x) e = some e1 ∧ SG (body e1) (tb x s) (PC E B O)) :
    SG (dFor it t body env) (forC tb items s) (PL B O) := by
  unfold dFor
  rw [hi, bind_ok]
  exact forC_sim hEB hb items s env h
/-- while -/
def whileTN (c : σ → Option Bool) (f : σ → Option (Ctl σ ρ)) : Nat → σ → Option (Ctl σ ρ)
  | 0, _ => none
  | n + 1, s => (c s).bind fun b => if b then (f s).bind fun r => (match r with
      | .nx s => whileTN c f n s
      | .bk s => some (.bk s)
      | .rt r => some (.rt r)) else some (.nx s)
open Classical in
noncomputable def whileT (c : σ → Option Bool) (f : σ → Option (Ctl σ ρ)) (s : σ) : Option (Ctl σ ρ) := if h : ∃ n, whileTN c f n s ≠ none then whileTN c f (Classical.choose h) s else none
theorem whileTN_mono {c : σ → Option Bool} {f : σ → Option (Ctl σ ρ)} : ∀ {n : Nat} {s : σ} {r : Ctl σ ρ}, whileTN c f n s = some r → ∀ m, n ≤ m → whileTN c f m s = some r
  | 0, _, _, h, _, _ => by cases h
  | n + 1, s, r, h, 0, hm => by omega
  | n + 1, s, r, h, m + 1, hm => by
    unfold whileTN at h ⊢
    cases hc : c s with
    | none => rw [hc] at h; cases h
    | some b =>
      rw [hc] at h
      simp only [Option.bind_some] at h ⊢
      cases b with
      | false => simpa using h
      | true =>
        simp only [if_true] at h ⊢
        cases hf : f s with
        | none => rw [hf] at h; cases h
        | some q =>
          rw [hf] at h
          simp only [Option.bind_some] at h ⊢
          cases q with
          | nx s' => exact whileTN_mono h m (by omega)
          | bk s' => exact h
          | rt s' => exact h
theorem whileT_of {c : σ → Option Bool} {f : σ → Option (Ctl σ ρ)} {n : Nat} {s : σ} {r : Ctl σ ρ} (h : whileTN c f n s = some r) : whileT c f s = some r := by
  unfold whileT
  have hx : ∃ n, whileTN c f n s ≠ none := ⟨n, by rw [h]; exact fun e => by cases e⟩
  rw [dif_pos hx]
  have h2 := Classical.choose_spec hx
  cases q : whileTN c f (Classical.choose hx) s with
  | none => exact absurd q h2
  | some r2 =>
    have a := whileTN_mono h (max n (Classical.choose hx)) (Nat.le_max_left _ _)
    have b := whileTN_mono q (max n (Classical.choose hx)) (Nat.le_max_right _ _)
    rw [← b, a]
theorem whileT_ex {c : σ → Option Bool} {f : σ → Option (Ctl σ ρ)} {s : σ} {r : Ctl σ ρ} (h : whileT c f s = some r) : ∃ n, whileTN c f n s = some r := by
  unfold whileT at h
  by_cases hx : ∃ n, whileTN c f n s ≠ none
  · rw [dif_pos hx] at h; exact ⟨_, h⟩
  · rw [dif_neg hx] at h; cases h
/-- by a measure: what holds at the start holds behind -/
theorem whileT_inv {c : σ → Option Bool} {f : σ → Option (Ctl σ ρ)} (I : Nat → σ → Prop) (Q : Ctl σ ρ → Prop) (hs : ∀ n s, I n s → (c s = some false ∧ Q (.nx s)) ∨ (c s = some true ∧ ((∃ s' m, f s = some (.nx s') ∧ m < n ∧ I m s') ∨ (∃ r, f s = some r ∧ (∀ s', r ≠ .nx s') ∧ Q r)))) : ∀ n s, I n s → ∃ r, whileT c f s = some r ∧ Q r := by
  have key : ∀ n s, I n s → ∃ k r, whileTN c f k s = some r ∧ Q r := by
    intro n
    induction n using Nat.strongRecOn with
    | ind n ih =>
      intro s h
      rcases hs n s h with ⟨h1, h2⟩ | ⟨h1, ⟨s', m, h2, h3, h4⟩ | ⟨r, h2, h3, h4⟩⟩
      · exact ⟨1, .nx s, by unfold whileTN; rw [h1]; rfl, h2⟩
      · obtain ⟨k, r, q1, q2⟩ := ih m h3 s' h4
        exact ⟨k + 1, r, by unfold whileTN; rw [h1]; simp only [Option.bind_some, if_true]; rw [h2]; exact q1, q2⟩
      · refine ⟨1, r, ?_, h4⟩
        unfold whileTN
        rw [h1]
        simp only [Option.bind_some, if_true]
        rw [h2]
        cases r with
        | nx s' => exact absurd rfl (h3 s')
        | bk s' => rfl
        | rt s' => rfl
  intro n s h
  obtain ⟨k, r, q1, q2⟩ := key n s h
  exact ⟨r, whileT_of q1, q2⟩
theorem sg_while {c : DT} {body : DS} (E B : σ → VEnv → Prop) (O : ρ → OV) {tc : σ → Option Bool} {tb : σ → Option (Ctl σ ρ)} {s : σ} (h : E s env) (hEB : ∀ s e, E s e → B s e) (hc : ∀ s e, E s e → OE (c e) (tc s) id) (hb : ∀ s e, E s e → SG (body e) (tb s) (PC E B O)) :
    SG (dWhile c body env) (whileT tc tb s) (PL B O) := fun g hg => by
  obtain ⟨n, hn⟩ := whileT_ex hg
  clear hg
  induction n generalizing s env with
  | zero => cases hn
  | succ n ih =>
    unfold whileTN at hn
    rw [dWhile_eq]
    unfold whileK
    cases hq : tc s with
    | none => rw [hq] at hn; cases hn
    | some b =>
      rw [hq] at hn
      rw [hc s env h b hq, bind_ok]
      simp only [id, Option.bind_some] at hn ⊢
      cases b with
      | false =>
        simp only [Bool.false_eq_true, if_false] at hn ⊢
        cases hn
        exact ⟨_, rfl, env, rfl, hEB _ _ h⟩
      | true =>
        simp only [if_true] at hn ⊢
        cases hf : tb s with
        | none => rw [hf] at hn; cases hn
        | some r =>
          rw [hf] at hn
          simp only [Option.bind_some] at hn
          obtain ⟨so, r1, r2⟩ := hb s env h r hf
          rw [r1, bind_ok]
          cases r with
          | nx s' =>
            obtain ⟨e2, rfl, r2⟩ := r2
            exact ih r2 hn
          | bk s' =>
            obtain ⟨e2, rfl, r2⟩ := r2
            cases hn
            exact ⟨_, rfl, e2, rfl, r2⟩
          | rt r =>
            obtain ⟨e2, rfl⟩ := r2
            cases hn
            exact ⟨_, rfl, e2, rfl⟩
end
end J
namespace J
open PySem PySem.Spec PyProof.Rows L2
section
variable {α β γ κ : Type} {e : α → FV} {d : β → FV} {env : VEnv} {x y o : OV} {n m : Nat}
def OV.nf : OV → Bool
  | .fz _ => false
  | _ => true
theorem ev_varO {i : Nat} (h : env[i]? = some (some o)) (ho : o.nf = true) : dVar i env = .ok (.bo o) := by
  unfold dVar
  rw [h]
  cases o with
  | fz x => cases ho
  | _ => rfl
theorem ev_cs {s : Str} {l : List Chr} (h : s = sxS l) : dC (.str s) env = .ok (.st (.fz (eS l))) := by rw [h]; rfl
theorem ev_cc {s : Str} {c : Chr} (h : s = ⟨#[c.val]⟩) : dC (.str s) env = .ok (.st (.fz (eC c))) := by rw [h]; rfl
theorem fvL_of {ov : α → OV} (h : ∀ a, (ov a).fv = e a) (xs : List α) : (oLL ov xs).fv = eL e xs := by
  show FV.lst (OV.fvL (xs.map ov)) = _
  rw [OV.fvL_map, List.map_map]
  exact congrArg FV.lst (List.map_congr_left fun a _ => h a)
theorem fvO_of {ov : α → OV} (h : ∀ a, (ov a).fv = e a) (v : Option α) : (oO ov v).fv = eO e v := by
  cases v with
  | none => rfl
  | some a => exact h a
theorem fvOF (v : Option α) : (OV.fz (eO e v)).fv = eO e v := rfl
/-! ### numbers -/
def mulG (i j : Int) : Option Int := if mulOk i j then some (i * j) else none
def modG (i j : Int) : Option Int := if 0 < j then some (i % j) else none
def divG (i j : Int) : Option Int := if 0 < j ∧ j.natAbs < 2 ^ 62 then some (i / j) else none
def shrG (i j : Int) : Option Int := if 0 ≤ j then some (i / 2 ^ j.toNat) else none
def powG (i j : Int) : Option Int := if 0 ≤ j ∧ j ≤ 1000 ∧ i.natAbs < 2 ^ 60 then some (i ^ j.toNat) else none
section
variable {i j v : Int}
theorem t_mulG (h : mulG i j = some v) : opMul (.fz (.int i)) (.fz (.int j)) = some (.fz (.int v)) := by
  unfold mulG at h
  show (if mulOk i j then some (OV.fz (.int (i * j))) else none) = _
  split at h
  · cases h; rename_i q; rw [if_pos q]
  · cases h
theorem t_modG (h : modG i j = some v) : opMod (.fz (.int i)) (.fz (.int j)) = some (.fz (.int v)) := by
  unfold modG at h
  show (if 0 < j then some (OV.fz (.int (i % j))) else none) = _
  split at h
  · cases h; rename_i q; rw [if_pos q]
  · cases h
theorem t_divG (h : divG i j = some v) : opDiv (.fz (.int i)) (.fz (.int j)) = some (.fz (.int v)) := by
  unfold divG at h
  show (if 0 < j ∧ j.natAbs < 2 ^ 62 then some (OV.fz (.int (i / j))) else none) = _
  split at h
  · cases h; rename_i q; rw [if_pos q]
  · cases h
theorem t_shrG (h : shrG i j = some v) : opShr (.fz (.int i)) (.fz (.int j)) = some (.fz (.int v)) := by
  unfold shrG at h
  show (if 0 ≤ j then some (OV.fz (.int (i / 2 ^ j.toNat))) else none) = _
  split at h
  · cases h; rename_i q; rw [if_pos q]
  · cases h
theorem t_powG (h : powG i j = some v) : opPow (.fz (.int i)) (.fz (.int j)) = some (.fz (.int v)) := by
  unfold powG at h
  show (if 0 ≤ j ∧ j ≤ 1000 ∧ i.natAbs < 2 ^ 60 then some (OV.fz (.int (i ^ j.toNat))) else none) = _
  split at h
  · cases h; rename_i q; rw [if_pos q]
  · cases h
theorem t_div (h : 0 < j ∧ j.natAbs < 2 ^ 62) : opDiv (.fz (.int i)) (.fz (.int j)) = some (.fz (.int (i / j))) := if_pos h
theorem t_pow (h : 0 ≤ j ∧ j ≤ 1000 ∧ i.natAbs < 2 ^ 60) : opPow (.fz (.int i)) (.fz (.int j)) = some (.fz (.int (i ^ j.toNat))) := if_pos h
theorem t_lt : opLt (.fz (.int i)) (.fz (.int j)) = some (.fz (.bl (decide (i < j)))) := rfl
theorem t_le : opLe (.fz (.int i)) (.fz (.int j)) = some (.fz (.bl (decide (i ≤ j)))) := rfl
theorem t_gt : opGt (.fz (.int i)) (.fz (.int j)) = some (.fz (.bl (decide (j < i)))) := rfl
theorem t_ge : opGe (.fz (.int i)) (.fz (.int j)) = some (.fz (.bl (decide (j ≤ i)))) := rfl
theorem t_neg : opNeg (.fz (.int i)) = some (.fz (.int (-i))) := rfl
end
/-! ### equal, in -/
theorem dec_of {p : Prop} [Decidable p] {b : Bool} (h : b = true ↔ p) : b = decide p := by
  by_cases q : p
  · rw [decide_eq_true q, h.mpr q]
  · rw [decide_eq_false q]
    cases b with
    | false => rfl
    | true => exact absurd (h.mp rfl) q
theorem eqE {a b : α} [Decidable (a = b)] (h : EnP n e) (hn : n ≤ 64) : (e a).eqD (e b) = some (decide (a = b)) := by
  obtain ⟨p, h1, h2, h3⟩ := h.d a
  obtain ⟨q, g1, g2, g3⟩ := h.d b
  unfold FV.eqD
  rw [h1, g1]
  have s1 : SeqAt.shaped p = true := by unfold SeqAt.shaped; rw [h2]; simp; omega
  have s2 : SeqAt.shaped q = true := by unfold SeqAt.shaped; rw [g2]; simp; omega
  simp only [s1, s2, Bool.and_self, if_true]
  rw [dec_of (h.inj a b p q h1 g1)]
theorem t_eq {a b : α} [Decidable (a = b)] (h : EnP n e) (hn : n ≤ 64) (hx : x.fv = e a) (hy : y.fv = e b) : opEq x y = some (.fz (.bl (decide (a = b)))) := by
  unfold opEq
  split
  · rename_i i j
    rw [dec_of (p := a = b) (b := decide (i = j)) (by
      rw [← h.inj a b (.int i) (.int j) (by rw [← hx]; rfl) (by rw [← hy]; rfl)]; simp [PyData.eqv])]
  · rename_i i j
    rw [dec_of (p := a = b) (b := decide (i = j)) (by
      rw [← h.inj a b (.str i) (.str j) (by rw [← hx]; rfl) (by rw [← hy]; rfl)]; simp [PyData.eqv])]
  · rw [hx, hy, eqE h hn, Option.map_some]
theorem t_ne {a b : α} [Decidable (a = b)] (h : EnP n e) (hn : n ≤ 64) (hx : x.fv = e a) (hy : y.fv = e b) : opNe x y = some (.fz (.bl (!decide (a = b)))) := by
  unfold opNe
  split
  · rename_i i j
    rw [dec_of (p := a = b) (b := decide (i = j)) (by
      rw [← h.inj a b (.int i) (.int j) (by rw [← hx]; rfl) (by rw [← hy]; rfl)]; simp [PyData.eqv])]
  · rename_i i j
    rw [dec_of (p := a = b) (b := decide (i = j)) (by
      rw [← h.inj a b (.str i) (.str j) (by rw [← hx]; rfl) (by rw [← hy]; rfl)]; simp [PyData.eqv])]
  · rw [hx, hy, eqE h hn, Option.map_some]
theorem any_eqv (h : EnP n e) {a : α} {p : PyData} (hp : (e a).toD = some p) : ∀ {xs : List α} {ds : List PyData}, FV.toDL (xs.map e) = some ds → ((ds.any fun z => PyData.eqv z p) = true ↔ a ∈ xs)
  | [], ds, hd => by cases hd; simp
  | x :: xs, ds, hd => by
    rw [List.map_cons] at hd
    obtain ⟨dx, ex, _⟩ := h.d x
    obtain ⟨dy, ey, _⟩ := h.L xs
    rw [FV.toDL, ex, ey] at hd
    cases hd
    rw [List.any_cons, Bool.or_eq_true, any_eqv h hp ey, h.inj _ _ _ _ ex hp, List.mem_cons]
    exact ⟨fun q => q.imp Eq.symm id, fun q => q.imp Eq.symm id⟩
theorem inSeqL {a : α} {xs : List α} [Decidable (a ∈ xs)] (h : EnP n e) (hn : n < 64) : inSeq (e a) (eL e xs) = some (decide (a ∈ xs)) := by
  obtain ⟨p, ep, c1, d1⟩ := h.d a
  obtain ⟨ds, es, c2, d2⟩ := h.L xs
  unfold inSeq
  simp only
  rw [ep, es]
  have s1 : SeqAt.shaped p = true := by unfold SeqAt.shaped; rw [c1]; simp; omega
  have s2 : SeqAt.shaped (.list ds) = true := by
    unfold SeqAt.shaped
    rw [PyData.canLay0, c2, PyData.depth]
    simp
    omega
  simp only [s1, s2, Bool.and_self, if_true]
  rw [dec_of (any_eqv h ep es)]
theorem t_inL {a : α} {xs : List α} [Decidable (a ∈ xs)] (h : EnP n e) (hn : n < 64) (hx : x.fv = e a) (hy : y.fv = eL e xs) (hd : y.isD = false) : opIn false x y = some (.fz (.bl (decide (a ∈ xs)))) := by
  unfold opIn
  rw [hd, if_neg Bool.false_ne_true, hx, hy, inSeqL h hn, Option.map_some]
  cases decide (a ∈ xs) <;> rfl
theorem t_ninL {a : α} {xs : List α} [Decidable (a ∈ xs)] (h : EnP n e) (hn : n < 64) (hx : x.fv = e a) (hy : y.fv = eL e xs) (hd : y.isD = false) : opIn true x y = some (.fz (.bl (!decide (a ∈ xs)))) := by
  unfold opIn
  rw [hd, if_neg Bool.false_ne_true, hx, hy, inSeqL h hn, Option.map_some]
  cases decide (a ∈ xs) <;> rfl
structure EAt (e : α → FV) : Prop where
  a : ∀ a, (e a).atom = true
theorem atI' : EAt eI := ⟨fun _ => rfl⟩
theorem atU : EAt eU := ⟨fun _ => rfl⟩
theorem atC : EAt eC := ⟨fun _ => rfl⟩
theorem atS : EAt eS := ⟨fun _ => rfl⟩
theorem atO (h : EAt e) : EAt (eO e) := ⟨fun a => by cases a with | none => rfl | some a => exact h.a a⟩
theorem atZ_ok {a : α} {xs : List α} [Decidable (a ∈ xs)] (h : EnP n e) (ha : EAt e) (y : FV) (hy : y = .tup (xs.map e) ∨ y = .tuz (xs.map e)) : inSeq (e a) y = some (decide (a ∈ xs)) := by
  obtain ⟨p, ep, c1, d1⟩ := h.d a
  obtain ⟨ds, es, c2, d2⟩ := h.L xs
  have : (xs.map e).all FV.atom = true := by
    rw [List.all_map]
    exact List.all_eq_true.mpr fun a _ => ha.a a
  rcases hy with rfl | rfl
  · unfold inSeq
    simp only
    rw [ep, es, ha.a a, this]
    simp only [Bool.and_self, if_true]
    rw [dec_of (any_eqv h ep es)]
  · unfold inSeq
    simp only
    rw [ep, es, ha.a a, this]
    simp only [Bool.and_self, if_true]
    rw [dec_of (any_eqv h ep es)]
theorem inSeqT {a : α} {xs : List α} [Decidable (a ∈ xs)] (h : EnP n e) (ha : EAt e) : inSeq (e a) (eT e xs) = some (decide (a ∈ xs)) := atZ_ok h ha _ (.inl rfl)
theorem eZ_or (xs : List α) : eZ e xs = .tup (xs.map e) ∨ eZ e xs = .tuz (xs.map e) := by cases xs with | nil => exact .inl rfl | cons x xs => exact .inr rfl
theorem eZ_isD (xs : List α) : (OV.fz (eZ e xs)).isD = false := by cases xs <;> rfl
theorem t_inZ {a : α} {xs : List α} [Decidable (a ∈ xs)] (h : EnP n e) (ha : EAt e) (hx : x.fv = e a) (hy : y = .fz (eZ e xs)) : opIn false x y = some (.fz (.bl (decide (a ∈ xs)))) := by
  subst hy
  unfold opIn
  rw [eZ_isD, if_neg Bool.false_ne_true, hx]
  show (inSeq (e a) (eZ e xs)).map _ = _
  rw [atZ_ok h ha _ (eZ_or xs), Option.map_some]
  cases decide (a ∈ xs) <;> rfl
theorem t_ninZ {a : α} {xs : List α} [Decidable (a ∈ xs)] (h : EnP n e) (ha : EAt e) (hx : x.fv = e a) (hy : y = .fz (eZ e xs)) : opIn true x y = some (.fz (.bl (!decide (a ∈ xs)))) := by
  subst hy
  unfold opIn
  rw [eZ_isD, if_neg Bool.false_ne_true, hx]
  show (inSeq (e a) (eZ e xs)).map _ = _
  rw [atZ_ok h ha _ (eZ_or xs), Option.map_some]
  cases decide (a ∈ xs) <;> rfl
theorem t_inT {a : α} {xs : List α} [Decidable (a ∈ xs)] (h : EnP n e) (ha : EAt e) (hx : x.fv = e a) (hy : y = .fz (eT e xs)) : opIn false x y = some (.fz (.bl (decide (a ∈ xs)))) := by
  subst hy
  unfold opIn
  rw [if_neg (show ¬ (OV.fz (eT e xs)).isD = true from Bool.false_ne_true), hx]
  show (inSeq (e a) (eT e xs)).map _ = _
  rw [inSeqT h ha, Option.map_some]
  cases decide (a ∈ xs) <;> rfl
theorem t_ninT {a : α} {xs : List α} [Decidable (a ∈ xs)] (h : EnP n e) (ha : EAt e) (hx : x.fv = e a) (hy : y = .fz (eT e xs)) : opIn true x y = some (.fz (.bl (!decide (a ∈ xs)))) := by
  subst hy
  unfold opIn
  rw [if_neg (show ¬ (OV.fz (eT e xs)).isD = true from Bool.false_ne_true), hx]
  show (inSeq (e a) (eT e xs)).map _ = _
  rw [inSeqT h ha, Option.map_some]
  cases decide (a ∈ xs) <;> rfl
theorem inSeqS {c : Chr} {s : List Chr} [Decidable (c ∈ s)] : inSeq (eC c) (eS s) = some (decide (c ∈ s)) := by
  show some (decide (c.val ∈ (sxS s).cps.toList)) = _
  congr 1
  have : c.val ∈ (sxS s).cps.toList ↔ c ∈ s := by
    unfold sxS
    simp only [List.mem_map]
    constructor
    · rintro ⟨a, h, e⟩; rw [← Fin.ext e]; exact h
    · exact fun h => ⟨c, h, rfl⟩
  by_cases q : c ∈ s
  · rw [decide_eq_true q, decide_eq_true (this.mpr q)]
  · rw [decide_eq_false q, decide_eq_false (fun z => q (this.mp z))]
theorem t_inS {c : Chr} {s : List Chr} [Decidable (c ∈ s)] (hx : x.fv = eC c) (hy : y = .fz (eS s)) : opIn false x y = some (.fz (.bl (decide (c ∈ s)))) := by
  subst hy
  unfold opIn
  rw [if_neg (show ¬ (OV.fz (eS s)).isD = true from Bool.false_ne_true), hx]
  show (inSeq (eC c) (eS s)).map _ = _
  rw [inSeqS, Option.map_some]
  cases decide (c ∈ s) <;> rfl
theorem t_ninS {c : Chr} {s : List Chr} [Decidable (c ∈ s)] (hx : x.fv = eC c) (hy : y = .fz (eS s)) : opIn true x y = some (.fz (.bl (!decide (c ∈ s)))) := by
  subst hy
  unfold opIn
  rw [if_neg (show ¬ (OV.fz (eS s)).isD = true from Bool.false_ne_true), hx]
  show (inSeq (eC c) (eS s)).map _ = _
  rw [inSeqS, Option.map_some]
  cases decide (c ∈ s) <;> rfl
/-! ### keys -/
structure EKey (k : κ → Key) (d : κ → FV) : Prop where
  inj : ∀ a b, k a = k b → a = b
  key : ∀ a, (d a).key? = some (k a)
  back : ∀ a, keyF (k a) = d a
theorem ekC : EKey kC eC := ⟨fun a b h => by injection h with h; injection h with h; simp at h; exact Fin.ext h, fun _ => rfl, fun _ => rfl⟩
theorem ekS : EKey kS eS := ⟨fun a b h => by injection h with h; exact sxS_inj h, fun _ => rfl, fun _ => rfl⟩
theorem ekI : EKey kI eI := ⟨fun a b h => by injection h, fun _ => rfl, fun _ => rfl⟩
theorem look_map {κ' α β : Type} [DecidableEq κ'] [DecidableEq κ] {k : κ' → κ} {g : α → β} (hk : ∀ a b, k a = k b → a = b) (c : κ') : ∀ l : List (κ' × α), lookK (l.map fun p => (k p.1, g p.2)) (k c) = (lookK l c).map g
  | [] => rfl
  | p :: l => by
    have ih := look_map (g := g) hk c l
    unfold lookK at ih ⊢
    rw [List.map_cons, List.find?_cons, List.find?_cons]
    by_cases h : p.1 = c
    · rw [decide_eq_true h, decide_eq_true (show (k p.1, g p.2).1 = k c by rw [← h])]
      rfl
    · rw [decide_eq_false h, decide_eq_false (show ¬ (k p.1, g p.2).1 = k c from fun q => h (hk _ _ q))]
      exact ih
theorem put_map {κ' α β : Type} [DecidableEq κ'] [DecidableEq κ] {k : κ' → κ} {g : α → β} (hk : ∀ a b, k a = k b → a = b) (c : κ') (v : α) (l : List (κ' × α)) : putKV (l.map fun p => (k p.1, g p.2)) (k c) (g v) = (putKV l c v).map fun p => (k p.1, g p.2) := by
  have he : ∀ p : κ' × α, decide ((k p.1, g p.2).1 = k c) = decide (p.1 = c) := fun p => by
    by_cases h : p.1 = c
    · rw [decide_eq_true h, decide_eq_true (show (k p.1, g p.2).1 = k c by rw [← h])]
    · rw [decide_eq_false h, decide_eq_false (show ¬ (k p.1, g p.2).1 = k c from fun q => h (hk _ _ q))]
  have ha : (l.map fun p => (k p.1, g p.2)).any (fun kv => decide (kv.1 = k c)) = l.any (fun kv => decide (kv.1 = c)) := by
    rw [List.any_map]
    congr 1
    funext p
    exact he p
  unfold putKV
  rw [ha]
  split
  · rw [List.map_map, List.map_map]
    refine List.map_congr_left fun p _ => ?_
    show (if (k p.1, g p.2).1 = k c then ((k p.1, g p.2).1, g v) else (k p.1, g p.2)) = (k (if p.1 = c then (p.1, v) else p).1, g (if p.1 = c then (p.1, v) else p).2)
    by_cases h : p.1 = c
    · rw [if_pos h, if_pos (show (k p.1, g p.2).1 = k c by rw [← h])]
    · rw [if_neg h, if_neg (show ¬ (k p.1, g p.2).1 = k c from fun q => h (hk _ _ q))]
  · rw [List.map_append]
    rfl
theorem keysE {k : κ → Key} {d : κ → FV} (hk : EKey k d) : ∀ xs : List κ, keys? (xs.map d) = some (xs.map k)
  | [] => rfl
  | x :: xs => by
    rw [List.map_cons, keys?, hk.key, keysE hk xs]
    rfl
theorem keyT_of {k : κ → Key} {d : κ → FV} (hk : EKey k d) (xs : List κ) : (eT d xs).keyT? = some (xs.map k) := keysE hk xs
section
variable [DecidableEq κ] {k : κ → Key} {c : κ → FV} {l : List (κ × α)} {a : κ} {v : α}
theorem dget_K (hk : EKey k c) (hx : x = OV.oK (l.map fun p => (k p.1, e p.2)) ∨ x = .fz (eK k e l)) : dGet x (c a) = some ((lookK l a).map fun v => .st (.fz (e v))) := by
  rcases hx with rfl | rfl
  · show (c a).key?.map (fun k' => (lookK (l.map fun p => (k p.1, e p.2)) k').map fun v => Rv.st (.fz v)) = _
    rw [hk.key, Option.map_some, look_map hk.inj, Option.map_map]; rfl
  · show (c a).key?.map (fun k' => (lookK (l.map fun p => (k p.1, e p.2)) k').map fun v => Rv.st (.fz v)) = _
    rw [hk.key, Option.map_some, look_map hk.inj, Option.map_map]; rfl
theorem t_inK (hk : EKey k c) (hy : x = .oK (l.map fun p => (k p.1, e p.2)) ∨ x = .fz (eK k e l)) : opIn false (.fz (c a)) x = some (.fz (.bl (lookK l a).isSome)) := by
  have hd : x.isD = true := by rcases hy with rfl | rfl <;> rfl
  unfold opIn
  rw [hd, if_pos rfl]
  show (dGet x (c a)).map _ = _
  rw [dget_K hk hy]
  cases lookK l a <;> rfl
theorem t_ninK (hk : EKey k c) (hy : x = .oK (l.map fun p => (k p.1, e p.2)) ∨ x = .fz (eK k e l)) : opIn true (.fz (c a)) x = some (.fz (.bl (!(lookK l a).isSome))) := by
  have hd : x.isD = true := by rcases hy with rfl | rfl <;> rfl
  unfold opIn
  rw [hd, if_pos rfl]
  show (dGet x (c a)).map _ = _
  rw [dget_K hk hy]
  cases lookK l a <;> rfl
theorem t_subK (hk : EKey k c) (hy : x = .oK (l.map fun p => (k p.1, e p.2)) ∨ x = .fz (eK k e l)) (h : lookK l a = some v) : opSub' x (.fz (c a)) = some (.st (.fz (e v))) := by
  have hd : x.isD = true := by rcases hy with rfl | rfl <;> rfl
  unfold opSub'
  rw [hd, if_pos rfl]
  show (dGet x (c a)).bind id = _
  rw [dget_K hk hy, h]
  rfl
end
section
variable [DecidableEq κ] {k : κ → Key} {c : κ → FV} {l : List (List κ × α)} {a : List κ} {v : α}
theorem dget_D (hk : EKey k c) (hx : x = .oT (l.map fun p => (p.1.map k, e p.2)) ∨ x = .fz (eD k e l)) : dGet x (eT c a) = some ((lookK l a).map fun v => .st (.fz (e v))) := by
  have hm : ∀ a b : List κ, a.map k = b.map k → a = b := fun a b h => map_inj_of hk.inj h
  rcases hx with rfl | rfl
  · show (eT c a).keyT?.map (fun k' => (lookK (l.map fun p => (p.1.map k, e p.2)) k').map fun v => Rv.st (.fz v)) = _
    rw [keyT_of hk, Option.map_some, look_map (k := fun a : List κ => a.map k) hm, Option.map_map]; rfl
  · show (eT c a).keyT?.map (fun k' => (lookK (l.map fun p => (p.1.map k, e p.2)) k').map fun v => Rv.st (.fz v)) = _
    rw [keyT_of hk, Option.map_some, look_map (k := fun a : List κ => a.map k) hm, Option.map_map]; rfl
theorem t_inD (hk : EKey k c) (hy : x = .oT (l.map fun p => (p.1.map k, e p.2)) ∨ x = .fz (eD k e l)) : opIn false (.fz (eT c a)) x = some (.fz (.bl (lookK l a).isSome)) := by
  have hd : x.isD = true := by rcases hy with rfl | rfl <;> rfl
  unfold opIn
  rw [hd, if_pos rfl]
  show (dGet x (eT c a)).map _ = _
  rw [dget_D hk hy]
  cases lookK l a <;> rfl
theorem t_ninD (hk : EKey k c) (hy : x = .oT (l.map fun p => (p.1.map k, e p.2)) ∨ x = .fz (eD k e l)) : opIn true (.fz (eT c a)) x = some (.fz (.bl (!(lookK l a).isSome))) := by
  have hd : x.isD = true := by rcases hy with rfl | rfl <;> rfl
  unfold opIn
  rw [hd, if_pos rfl]
  show (dGet x (eT c a)).map _ = _
  rw [dget_D hk hy]
  cases lookK l a <;> rfl
end
/-! ### items -/
theorem atI_map (xs : List α) (i : Int) : atI (xs.map e) i = (atI xs i).map e := by
  unfold atI
  rw [List.length_map]
  cases ixN xs.length i with
  | none => rfl
  | some j => exact List.getElem?_map
theorem atI_mapO {ov : α → OV} (xs : List α) (i : Int) : atI (xs.map ov) i = (atI xs i).map ov := by
  unfold atI
  rw [List.length_map]
  cases ixN xs.length i with
  | none => rfl
  | some j => exact List.getElem?_map
theorem t_atL {xs : List α} {i : Int} {v : α} (hx : x = .ol (xs.map e) ∨ x = .fz (eL e xs) ∨ x = .fz (eT e xs)) (h : atI xs i = some v) : opSub' x (.fz (.int i)) = some (.st (.fz (e v))) := by
  rcases hx with rfl | rfl | rfl
  · show (atI (xs.map e) i).map (fun v => Rv.st (.fz v)) = _
    rw [atI_map, h]; rfl
  · show (atI (xs.map e) i).map (fun v => Rv.st (.fz v)) = _
    rw [atI_map, h]; rfl
  · show (atI (xs.map e) i).map (fun v => Rv.st (.fz v)) = _
    rw [atI_map, h]; rfl
theorem t_atLL {ov : α → OV} {xs : List α} {i : Int} {v : α} (h : atI xs i = some v) : opSub' (oLL ov xs) (.fz (.int i)) = some (.bo (ov v)) := by
  show (atI (xs.map ov) i).map Rv.bo = _
  rw [atI_mapO, h]; rfl
theorem sx_list (s : List Chr) : (sxS s).cps.toList = s.map Fin.val := by unfold sxS; simp
theorem sx_len (s : List Chr) : (sxS s).length = s.length := by
  show (sxS s).cps.size = _
  unfold sxS
  simp
def atS' (s : List Chr) (i : Int) : Option Chr := if s.length ≤ BIG then atI s i else none
theorem t_atS {s : List Chr} {i : Int} {v : Chr} (h : atS' s i = some v) : opSub' (.fz (eS s)) (.fz (.int i)) = some (.st (.fz (eC v))) := by
  unfold atS' at h
  split at h
  · rename_i q
    show (if (sxS s).length ≤ BIG then (atI (sxS s).cps.toList i).map (fun c => Rv.st (.fz (.str ⟨#[c]⟩))) else none) = _
    rw [sx_len, if_pos q, sx_list]
    have : atI (s.map Fin.val) i = (atI s i).map Fin.val := by
      unfold atI
      rw [List.length_map]
      cases ixN s.length i with
      | none => rfl
      | some j => exact List.getElem?_map
    rw [this, h]; rfl
  · cases h
theorem t_fst {p : α × β} : opSub' (.fz (eP e d p)) (.fz (.int 0)) = some (.st (.fz (e p.1))) := rfl
theorem t_snd {p : α × β} : opSub' (.fz (eP e d p)) (.fz (.int 1)) = some (.st (.fz (d p.2))) := rfl
theorem cutF_mapT {γ δ : Type} (f : γ → δ) (xs : List γ) (lo hi : Option Int) : cutF (xs.map f) lo hi = (cutF xs lo hi).map f := by
  unfold cutF
  rw [List.length_map, List.map_take, List.map_drop]
theorem t_slL {xs : List α} {lo hi : Option Int} (hx : x = .ol (xs.map e) ∨ x = .fz (eL e xs)) : opSl x lo hi = some (.ol ((cutF xs lo hi).map e)) := by
  rcases hx with rfl | rfl
  · show some (OV.ol (cutF (xs.map e) lo hi)) = _
    rw [cutF_mapT]
  · show some (OV.ol (cutF (xs.map e) lo hi)) = _
    rw [cutF_mapT]
theorem t_slT {xs : List α} {lo hi : Option Int} : opSl (.fz (eT e xs)) lo hi = some (.fz (eT e (cutF xs lo hi))) := by
  show some (OV.fz (.tup (cutF (xs.map e) lo hi))) = _
  rw [cutF_mapT]
theorem ev_pn : dPN env = .ok none := rfl
theorem ev_ps {f : DE} {i : Int} (h : f env = .ok (.st (.fz (.int i)))) : dPS f env = .ok (some i) := by unfold dPS; rw [h]; rfl
theorem ev_sl {f : DE} {l h : VEnv → Ans (Option Int)} {r : Rv} {i j : Option Int} (h1 : f env = .ok r) (h2 : l env = .ok i) (h3 : h env = .ok j) (h4 : opSl r.ov i j = some o) : dSl f l h env = .ok (.st o) := by
  unfold dSl
  rw [h1, bind_ok, h2, bind_ok, h3, bind_ok, h4]
  rfl
theorem t_rev {xs : List α} (hx : x = .ol (xs.map e) ∨ x = .fz (eL e xs)) : opRev x = some (.ol (xs.reverse.map e)) := by
  rcases hx with rfl | rfl
  · show some (OV.ol (xs.map e).reverse) = _
    rw [List.map_reverse]
  · show some (OV.ol (xs.map e).reverse) = _
    rw [List.map_reverse]
def catG (a b : List α) : Option (List α) := if a.length + b.length ≤ BIG then some (a ++ b) else none
theorem t_catT {a b v : List α} (h : catG a b = some v) : opAdd (.fz (eT e a)) (.fz (eT e b)) = some (.fz (eT e v)) := by
  unfold catG at h
  show (if (a.map e).length + (b.map e).length ≤ BIG then some (OV.fz (.tup (a.map e ++ b.map e))) else none) = _
  rw [List.length_map, List.length_map]
  split at h
  · cases h; rename_i q; rw [if_pos q]; show _ = some (OV.fz (.tup ((a ++ b).map e))); rw [List.map_append]
  · cases h
theorem t_catL {a b v : List α} (hx : x = .ol (a.map e) ∨ x = .fz (eL e a)) (hy : y = .ol (b.map e) ∨ y = .fz (eL e b)) (h : catG a b = some v) : opAdd x y = some (.ol (v.map e)) := by
  unfold catG at h
  have hA : opAdd x y = (if (a.map e).length + (b.map e).length ≤ BIG then some (OV.ol (a.map e ++ b.map e)) else none) := by
    rcases hx with rfl | rfl <;> rcases hy with rfl | rfl <;> rfl
  rw [hA, List.length_map, List.length_map]
  split at h
  · cases h; rename_i q; rw [if_pos q, List.map_append]
  · cases h
theorem sx_app (a b : List Chr) : sxS a ++ sxS b = sxS (a ++ b) := by
  have : (sxS a ++ sxS b).cps = (sxS (a ++ b)).cps := by
    show (sxS a).cps ++ (sxS b).cps = _
    unfold sxS
    simp
  have ext : ∀ x y : Str, x.cps = y.cps → x = y := fun x y h => by cases x; cases y; simp at h; rw [h]
  exact ext _ _ this
theorem t_catS {a b v : List Chr} (h : catG a b = some v) : opAdd (.fz (eS a)) (.fz (eS b)) = some (.fz (eS v)) := by
  unfold catG at h
  show (if (sxS a).length + (sxS b).length ≤ BIG then some (OV.fz (.str (sxS a ++ sxS b))) else none) = _
  rw [sx_len, sx_len]
  split at h
  · cases h; rename_i q; rw [if_pos q, sx_app]
  · cases h
/-! ### calls of built-ins -/
theorem t_lenL {xs : List α} (hx : x = .ol (xs.map e) ∨ x = .fz (eL e xs) ∨ x = .fz (eT e xs)) : opLen [x] = some (.fz (.int (xs.length : Nat))) := by
  rcases hx with rfl | rfl | rfl
  · show some (OV.fz (.int ((xs.map e).length : Nat))) = _
    rw [List.length_map]
  · show some (OV.fz (.int ((xs.map e).length : Nat))) = _
    rw [List.length_map]
  · show some (OV.fz (.int ((xs.map e).length : Nat))) = _
    rw [List.length_map]
theorem t_lenLL {ov : α → OV} {xs : List α} : opLen [oLL ov xs] = some (.fz (.int (xs.length : Nat))) := by
  show some (OV.fz (.int ((xs.map ov).length : Nat))) = _
  rw [List.length_map]
theorem t_lenK {k : κ → Key} {l : List (κ × α)} (hx : x = .oK (l.map fun p => (k p.1, e p.2)) ∨ x = .fz (eK k e l)) : opLen [x] = some (.fz (.int (l.length : Nat))) := by
  rcases hx with rfl | rfl
  · show some (OV.fz (.int ((l.map fun p => (k p.1, e p.2)).length : Nat))) = _
    rw [List.length_map]
  · show some (OV.fz (.int ((l.map fun p => (k p.1, e p.2)).length : Nat))) = _
    rw [List.length_map]
def lenS (s : List Chr) : Option Int := if s.length ≤ BIG then some (s.length : Nat) else none
theorem t_lenS {s : List Chr} {v : Int} (h : lenS s = some v) : opLen [.fz (eS s)] = some (.fz (.int v)) := by
  unfold lenS at h
  show (if (sxS s).length ≤ BIG then some (OV.fz (.int ((sxS s).length : Nat))) else none) = _
  rw [sx_len]
  split at h
  · cases h; rename_i q; rw [if_pos q]
  · cases h
theorem t_list {xs : List α} (hx : x = .ol (xs.map e) ∨ x = .fz (eL e xs) ∨ x = .fz (eT e xs)) : opList [x] = some (.ol (xs.map e)) := by
  rcases hx with rfl | rfl | rfl <;> rfl
def listS (s : List Chr) : Option (List Chr) := if s.length ≤ BIG then some s else none
theorem t_listS {s v : List Chr} (h : listS s = some v) : opList [.fz (eS s)] = some (.ol (v.map eC)) := by
  unfold listS at h
  show (if (sxS s).length ≤ BIG then some (OV.ol ((sxS s).cps.toList.map fun c => FV.str ⟨#[c]⟩)) else none) = _
  rw [sx_len]
  split at h
  · cases h; rename_i q; rw [if_pos q, sx_list, List.map_map]; rfl
  · cases h
theorem t_tup {xs : List α} (hx : x = .ol (xs.map e) ∨ x = .fz (eL e xs)) : opTup [x] = some (.fz (eT e xs)) := by
  rcases hx with rfl | rfl <;> rfl
theorem t_tupS {s v : List Chr} (h : listS s = some v) : opTup [.fz (eS s)] = some (.fz (eT eC v)) := by
  unfold listS at h
  show (if (sxS s).length ≤ BIG then some (OV.fz (.tup ((sxS s).cps.toList.map fun c => FV.str ⟨#[c]⟩))) else none) = _
  rw [sx_len]
  split at h
  · cases h; rename_i q; rw [if_pos q, sx_list, List.map_map]; rfl
  · cases h
theorem ints_of : ∀ xs : List Int, ints? (xs.map FV.int) = some xs
  | [] => rfl
  | x :: xs => by rw [List.map_cons, ints?, ints_of xs]; rfl
theorem bools_of : ∀ xs : List Bool, bools? (xs.map FV.bl) = some xs
  | [] => rfl
  | x :: xs => by rw [List.map_cons, bools?, bools_of xs]; rfl
theorem t_sum {xs : List Int} (hx : x = .ol (xs.map eI) ∨ x = .fz (eL eI xs)) : opSum [x] = some (.fz (.int xs.sum)) := by
  have hl : x.lst? = some (xs.map FV.int) := by rcases hx with rfl | rfl <;> rfl
  show (x.lst?.bind ints?).map _ = _
  rw [hl, Option.bind_some, ints_of]; rfl
theorem t_all {xs : List Bool} (hx : x = .ol (xs.map eB) ∨ x = .fz (eL eB xs)) : opAll [x] = some (.fz (.bl (xs.all id))) := by
  have hl : x.lst? = some (xs.map FV.bl) := by rcases hx with rfl | rfl <;> rfl
  show (x.lst?.bind bools?).map _ = _
  rw [hl, Option.bind_some, bools_of]; rfl
theorem t_ord {c : Chr} : opOrd [.fz (eC c)] = some (.fz (.int (c.val : Nat))) := rfl
theorem t_intB {b : Bool} : opInt [.fz (.bl b)] = some (.fz (.int (if b then 1 else 0))) := rfl
theorem t_intI {i : Int} : opInt [.fz (.int i)] = some (.fz (.int i)) := rfl
theorem t_min2 {i j : Int} : opMin2 [.fz (.int i), .fz (.int j)] = some (.fz (.int (if j < i then j else i))) := rfl
theorem t_max2 {i j : Int} : opMax2 [.fz (.int i), .fz (.int j)] = some (.fz (.int (if j > i then j else i))) := rfl
theorem t_min3 {i j k : Int} : opMin3 [.fz (.int i), .fz (.int j), .fz (.int k)] = some (.fz (.int (min2 (min2 i j) k))) := rfl
theorem t_dict {k : κ → Key} {l : List (κ × α)} (hx : x = .oK (l.map fun p => (k p.1, e p.2)) ∨ x = .fz (eK k e l)) : opDict [x] = some (.oK (l.map fun p => (k p.1, e p.2))) := by
  rcases hx with rfl | rfl <;> rfl
/-- a sort by the interpreter's order -/
def srt (e : α → FV) (xs : List α) : Option (List α) := if sortOk (xs.map e) then some (xs.mergeSort fun a b => PySem.W.dataLe false FV.enc (e a) (e b)) else none
theorem srt_map {xs v : List α} (h : srt e xs = some v) : sortOk (xs.map e) = true ∧ sortFV (xs.map e) = v.map e := by
  unfold srt at h
  split at h
  · cases h
    refine ⟨by assumption, ?_⟩
    unfold sortFV
    exact (List.map_mergeSort (f := e) (r := fun a b => PySem.W.dataLe false FV.enc (e a) (e b)) (s := PySem.W.dataLe false FV.enc) (l := xs) fun a _ b _ => rfl).symm
  · cases h
theorem t_sort {xs v : List α} (hx : x = .ol (xs.map e) ∨ x = .fz (eL e xs)) (h : srt e xs = some v) : opSorted [x] = some (.ol (v.map e)) := by
  have hl : x.lst? = some (xs.map e) := by rcases hx with rfl | rfl <;> rfl
  obtain ⟨h1, h2⟩ := srt_map h
  show x.lst?.bind (fun xs => if sortOk xs then some (OV.ol (sortFV xs)) else none) = _
  rw [hl, Option.bind_some, if_pos h1, h2]
theorem keys_back {k : κ → Key} {c : κ → FV} (hk : EKey k c) (l : List (κ × α)) : (l.map fun p => (k p.1, e p.2)).map (fun kv => keyF kv.1) = (l.map (·.1)).map c := by
  rw [List.map_map, List.map_map]
  exact List.map_congr_left fun p _ => hk.back p.1
theorem ev_keysS {f : DE} {r : Rv} {k : κ → Key} {c : κ → FV} {l : List (κ × α)} {v : List κ} (hk : EKey k c) (h : f env = .ok r) (hx : r.ov = .oK (l.map fun p => (k p.1, e p.2)) ∨ r.ov = .fz (eK k e l)) (hs : srt c (l.map (·.1)) = some v) : dKeysS f env = .ok (.st (.ol (v.map c))) := by
  obtain ⟨h1, h2⟩ := srt_map hs
  unfold dKeysS
  rw [h, bind_ok]
  rcases hx with hx | hx <;> rw [hx] <;> simp only <;> rw [keys_back hk, if_pos h1, h2]
theorem ev_keysL {f : DE} {r : Rv} {k : κ → Key} {c : κ → FV} {l : List (κ × α)} (hk : EKey k c) (h : f env = .ok r) (hx : r.ov = .oK (l.map fun p => (k p.1, e p.2)) ∨ r.ov = .fz (eK k e l)) : dKeysL f env = .ok (.st (.ol ((l.map (·.1)).map c))) := by
  unfold dKeysL
  rw [h, bind_ok]
  rcases hx with hx | hx <;> rw [hx] <;> simp only <;> rw [keys_back hk]
def setG (xs : List Int) : Option (List Int) := if xs.length < 64 then some (sortI xs) else none
theorem ev_sortSet {f : DE} {r : Rv} {xs v : List Int} (h : f env = .ok r) (hx : r.ov = .ol (xs.map eI) ∨ r.ov = .fz (eL eI xs)) (hs : setG xs = some v) : dSortSet f env = .ok (.st (.ol (v.map eI))) := by
  have hl : r.ov.lst? = some (xs.map FV.int) := by rcases hx with hx | hx <;> rw [hx] <;> rfl
  unfold setG at hs
  unfold dSortSet
  rw [h, bind_ok, hl, Option.bind_some, ints_of]
  split at hs
  · cases hs; rename_i q; simp only; rw [if_pos q]
  · cases hs
theorem rows_of : ∀ xs : List (List Int), rows? (xs.map (eT eI)) = some xs
  | [] => rfl
  | x :: xs => by
    show (ints? (x.map FV.int)).bind (fun k => (rows? (xs.map (eT eI))).map (k :: ·)) = _
    rw [ints_of, Option.bind_some, rows_of xs]
    rfl
def setR (xs : List (List Int)) : Option (List (List Int)) := if xs.length < 64 ∧ [] ∉ xs then some (sortR xs) else none
theorem ev_sortSetT {f : DE} {r : Rv} {xs v : List (List Int)} (h : f env = .ok r) (hx : r.ov = .ol (xs.map (eT eI)) ∨ r.ov = .fz (eL (eT eI) xs)) (hs : setR xs = some v) : dSortSetT f env = .ok (.st (.ol (v.map (eT eI)))) := by
  have hl : r.ov.lst? = some (xs.map (eT eI)) := by rcases hx with hx | hx <;> rw [hx] <;> rfl
  unfold setR at hs
  unfold dSortSetT
  rw [h, bind_ok, hl, Option.bind_some, rows_of]
  split at hs
  · cases hs; rename_i q; simp only; rw [if_pos q]; rfl
  · cases hs
def idxT [DecidableEq α] (xs : List α) (a : α) : Option Int := (xs.findIdx? fun z => decide (z = a)).map fun j => ((j : Nat) : Int)
theorem findIdx_eqv [DecidableEq α] (h : EnP n e) {a : α} {p : PyData} (hp : (e a).toD = some p) : ∀ {xs : List α} {ds : List PyData}, FV.toDL (xs.map e) = some ds → (ds.findIdx? fun z => PyData.eqv z p) = xs.findIdx? fun z => decide (z = a)
  | [], ds, hd => by cases hd; rfl
  | x :: xs, ds, hd => by
    rw [List.map_cons] at hd
    obtain ⟨dx, ex, _⟩ := h.d x
    obtain ⟨dy, ey, _⟩ := h.L xs
    rw [FV.toDL, ex, ey] at hd
    cases hd
    rw [List.findIdx?_cons, List.findIdx?_cons, findIdx_eqv h hp ey, dec_of (h.inj _ _ _ _ ex hp)]
theorem t_index [DecidableEq α] {xs : List α} {a : α} {v : Int} (h : EnP n e) (hn : n < 64) (hx : x = .ol (xs.map e) ∨ x = .fz (eL e xs)) (hy : y.fv = e a) (hv : idxT xs a = some v) : opIndex x [y] = some (.fz (.int v)) := by
  have hl : x.lst? = some (xs.map e) := by rcases hx with rfl | rfl <;> rfl
  obtain ⟨p, ep, c1, d1⟩ := h.d a
  obtain ⟨ds, es, c2, d2⟩ := h.L xs
  have s1 : SeqAt.shaped p = true := by unfold SeqAt.shaped; rw [c1]; simp; omega
  have s2 : SeqAt.shaped (.list ds) = true := by
    unfold SeqAt.shaped
    rw [PyData.canLay0, c2, PyData.depth]
    simp
    omega
  unfold idxT at hv
  unfold opIndex
  simp only [hl, hy, ep, es, s1, s2, Bool.and_self, if_true]
  rw [findIdx_eqv h ep es]
  cases q : xs.findIdx? fun z => decide (z = a) with
  | none => rw [q] at hv; cases hv
  | some j => rw [q] at hv; cases hv; rfl
theorem ev_idxL [DecidableEq α] {f : DE} {g : VEnv → Ans (List Rv)} {r q : Rv} {xs : List α} {a : α} {v : Int} (h1 : f env = .ok r) (h2 : g env = .ok [q]) (h : EnP n e) (hn : n < 64) (hx : r.ov = .ol (xs.map e) ∨ r.ov = .fz (eL e xs)) (hy : q.ov.fv = e a) (hv : idxT xs a = some v) : dIdx f g env = .ok (.st (.fz (.int v))) := by
  have k : okTuz r.ov = false := by rcases hx with hx | hx <;> rw [hx] <;> rfl
  have k2 : okLst r.ov = true := by rcases hx with hx | hx <;> rw [hx] <;> rfl
  unfold dIdx
  rw [h1]
  simp only
  rw [k, if_neg Bool.false_ne_true]
  exact ev_meth h1 k2 h2 (t_index h hn hx hy hv)
theorem strs_of : ∀ xs : List Chr, strs? (xs.map eC) = some (xs.map fun c => ⟨#[c.val]⟩)
  | [] => rfl
  | x :: xs => by rw [List.map_cons, strs?, strs_of xs]; rfl
theorem ev_idxZ {f : DE} {g : VEnv → Ans (List Rv)} {xs : List Chr} {a : Chr} {v : Int} (h1 : f env = .ok (.st (.fz (eZ eC xs)))) (h2 : g env = .ok [.st (.fz (eC a))]) (hv : idxT xs a = some v) : dIdx f g env = .ok (.st (.fz (.int v))) := by
  cases xs with
  | nil => cases hv
  | cons x xs =>
    unfold dIdx
    rw [h1]
    simp only
    rw [if_pos (show okTuz (Rv.ov (.st (.fz (eZ eC (x :: xs))))) = true from rfl)]
    refine ev_meth h1 rfl h2 ?_
    show (strs? ((x :: xs).map eC)).bind _ = _
    rw [strs_of, Option.bind_some]
    unfold idxT at hv
    have : ((x :: xs).map fun c : Chr => (⟨#[c.val]⟩ : Str)).findIdx? (fun z => decide (z = ⟨#[a.val]⟩)) = (x :: xs).findIdx? fun z => decide (z = a) := by
      rw [List.findIdx?_map]
      congr 1
      funext c
      show decide ((⟨#[c.val]⟩ : Str) = ⟨#[a.val]⟩) = decide (c = a)
      by_cases q : c = a
      · rw [q]; simp
      · rw [decide_eq_false q, decide_eq_false]
        intro z
        injection z with z
        simp at z
        exact q (Fin.ext z)
    rw [this]
    cases q : (x :: xs).findIdx? fun z => decide (z = a) with
    | none => rw [q] at hv; cases hv
    | some j => rw [q] at hv; cases hv; rfl
/-! ### tuples of letters (no dict of their own) -/
theorem t_atZ {xs : List α} {i : Int} {v : α} (hx : x = .fz (eZ e xs)) (h : atI xs i = some v) : opSub' x (.fz (.int i)) = some (.st (.fz (e v))) := by
  subst hx
  have : opSub' (.fz (eZ e xs)) (.fz (.int i)) = (atI (xs.map e) i).map (fun v => Rv.st (.fz v)) := by cases xs <;> rfl
  rw [this, atI_map, h]; rfl
theorem t_lenZ {xs : List α} : opLen [.fz (eZ e xs)] = some (.fz (.int (xs.length : Nat))) := by
  have : opLen [.fz (eZ e xs)] = some (.fz (.int ((xs.map e).length : Nat))) := by cases xs <;> rfl
  rw [this, List.length_map]
theorem t_listZ {xs : List α} : opList [.fz (eZ e xs)] = some (.ol (xs.map e)) := by cases xs <;> rfl
theorem t_tupY {xs : List α} (hx : x = .ol (xs.map e) ∨ x = .fz (eL e xs)) : opTupY [x] = some (.fz (eZ e xs)) := by
  have hl : x.lst? = some (xs.map e) := by rcases hx with rfl | rfl <;> rfl
  show x.lst?.map _ = _
  rw [hl]
  cases xs <;> rfl
theorem t_isaZ {xs : List α} {Ts : List String} {b : Bool} (h : (Ts.any fun T => isaT "tuple" T) = b) : opIsa Ts (.fz (eZ e xs)) = some (.fz (.bl b)) := by
  rw [← h]
  cases xs <;> rfl
theorem it_itemsZ {f : DE} {xs : List α} (h : f env = .ok (.st (.fz (eZ e xs)))) : dItems f env = .ok (xs.map e) := by
  unfold dItems
  rw [h]
  cases xs <;> rfl
theorem eZ_tup (xs : List α) : (eZ e xs).tup? = some (xs.map e) := by cases xs <;> rfl
theorem eZ_lst (xs : List α) : (OV.fz (eZ e xs)).lst? = none := by cases xs <;> rfl
theorem it_zipY {f g : DE} {xs : List α} {ys : List β} {a b : FV} (h1 : f env = .ok (.st (.fz a))) (h2 : g env = .ok (.st (.fz b))) (ha : a = eZ e xs ∨ a = eT e xs) (hb : b = eZ d ys ∨ b = eT d ys) : dZip f g env = .ok ((xs.zip ys).map (eP e d)) := by
  have a1 : a.tup? = some (xs.map e) := by rcases ha with rfl | rfl; exact eZ_tup xs; rfl
  have a2 : (OV.fz a).lst? = none := by rcases ha with rfl | rfl; exact eZ_lst xs; rfl
  have b1 : b.tup? = some (ys.map d) := by rcases hb with rfl | rfl; exact eZ_tup ys; rfl
  unfold dZip
  rw [h1, bind_ok, h2, bind_ok]
  simp only [a2, a1, b1, OV.fv]
  rw [zipF_map']
where
  zipF_map' {α β : Type} {e : α → FV} {d : β → FV} {xs : List α} {ys : List β} : zipF (xs.map e) (ys.map d) = (xs.zip ys).map (eP e d) := by
    unfold zipF
    rw [List.zip_map, List.map_map]
    rfl
theorem ci_itemsZ {f : DE} {r : Rv} {xs : List α} (h : f env = .ok r) (hs : sbR env r = true) (hx : r.fv = eZ e xs) : cItems f env = .ok (xs.map e) := by
  unfold cItems
  rw [h, bind_ok, if_pos hs, hx]
  cases xs <;> rfl
theorem ci_zipY {f g : DE} {r q : Rv} {xs : List α} {ys : List β} (h1 : f env = .ok r) (h2 : g env = .ok q) (s1 : sbR env r = true) (s2 : sbR env q = true) (ha : r.fv = eZ e xs ∨ r.fv = eT e xs) (hb : q.fv = eZ d ys ∨ q.fv = eT d ys) : cZip f g env = .ok ((xs.zip ys).map (eP e d)) := by
  have a1 : r.fv.tup? = some (xs.map e) := by rcases ha with h | h <;> rw [h]; exact eZ_tup xs; rfl
  have a2 : r.fv.lst? = none := by rcases ha with h | h <;> rw [h]; cases xs <;> rfl; rfl
  have b1 : q.fv.tup? = some (ys.map d) := by rcases hb with h | h <;> rw [h]; exact eZ_tup ys; rfl
  unfold cZip
  rw [h1, bind_ok, h2, bind_ok, s1, s2]
  simp only [Bool.and_self, if_true, a2, a1, b1]
  rw [it_zipY.zipF_map']
/-! ### iterators -/
def rangeG (n : Int) : Option (List Int) := if n < 2 ^ 60 ∧ -2 ^ 60 < n then some ((List.range n.toNat).map fun i => ((i : Nat) : Int)) else none
theorem it_range {f : DE} {i : Int} {v : List Int} (h : f env = .ok (.st (.fz (.int i)))) (hv : rangeG i = some v) : dRange f env = .ok (v.map eI) := by
  unfold rangeG at hv
  unfold dRange
  rw [h, bind_ok]
  show (if i < 2 ^ 60 ∧ -2 ^ 60 < i then Ans.ok ((List.range i.toNat).map fun j => FV.int (j : Nat)) else .no) = _
  split at hv
  · cases hv; rename_i q; rw [if_pos q, List.map_map]; rfl
  · cases hv
theorem it_items {f : DE} {xs : List α} (h : f env = .ok (.st (.ol (xs.map e))) ∨ f env = .ok (.st (.fz (eL e xs))) ∨ f env = .ok (.st (.fz (eT e xs)))) : dItems f env = .ok (xs.map e) := ev_items h
theorem it_q {f : DE} {r : Rv} {xs : List α} (h : f env = .ok r) (hx : r.ov = .ol (xs.map e) ∨ r.ov = .fz (eL e xs)) : qItems f env = .ok (xs.map e) := by
  unfold qItems
  rw [h, bind_ok]
  rcases hx with hx | hx <;> rw [hx] <;> rfl
theorem zipF_map (xs : List α) (ys : List β) : zipF (xs.map e) (ys.map d) = (xs.zip ys).map (eP e d) := by
  unfold zipF
  rw [List.zip_map, List.map_map]
  rfl
theorem it_zipL {f g : DE} {xs : List α} {ys : List β} {x y : OV} (h1 : f env = .ok (.st x)) (h2 : g env = .ok (.st y)) (hx : x = .ol (xs.map e) ∨ x = .fz (eL e xs)) (hy : y = .ol (ys.map d) ∨ y = .fz (eL d ys)) : dZip f g env = .ok ((xs.zip ys).map (eP e d)) := by
  have l1 : x.lst? = some (xs.map e) := by rcases hx with rfl | rfl <;> rfl
  have l2 : y.lst? = some (ys.map d) := by rcases hy with rfl | rfl <;> rfl
  unfold dZip
  rw [h1, bind_ok, h2, bind_ok]
  simp only [l1, l2]
  rw [zipF_map]
theorem it_zipLT {f g : DE} {xs : List α} {ys : List β} {x : OV} {b : FV} (h1 : f env = .ok (.st x)) (h2 : g env = .ok (.st (.fz b))) (hx : x = .ol (xs.map e) ∨ x = .fz (eL e xs)) (hb : b = eT d ys ∨ b = eZ d ys) : dZip f g env = .ok ((xs.zip ys).map (eP e d)) := by
  have l1 : x.lst? = some (xs.map e) := by rcases hx with rfl | rfl <;> rfl
  have b1 : b.tup? = some (ys.map d) := by rcases hb with rfl | rfl; rfl; cases ys <;> rfl
  have b2 : (OV.fz b).lst? = none := by rcases hb with rfl | rfl; rfl; cases ys <;> rfl
  have zm : zipM x (.fz b) = .ok (zipF (xs.map e) (ys.map d)) := by
    unfold zipM
    rw [l1]
    show (match some (xs.map e), b.tup? with
      | some xs, some ys => Ans.ok (zipF xs ys)
      | _, _ => .no) = _
    rw [b1]
  unfold dZip
  rw [h1, bind_ok, h2, bind_ok]
  simp only [l1, b2]
  rcases hx with rfl | rfl
  · simp only [zm]
    rw [zipF_map]
  · simp only [show (eL e xs).tup? = none from rfl, zm]
    rw [zipF_map]
theorem it_zipT {f g : DE} {xs : List α} {ys : List β} (h1 : f env = .ok (.st (.fz (eT e xs)))) (h2 : g env = .ok (.st (.fz (eT d ys)))) : dZip f g env = .ok ((xs.zip ys).map (eP e d)) := by
  unfold dZip
  rw [h1, bind_ok, h2, bind_ok]
  show Ans.ok (zipF (xs.map e) (ys.map d)) = _
  rw [zipF_map]
def enumT (xs : List α) : List (Int × α) := xs.zipIdx.map fun p => ((p.2 : Nat), p.1)
theorem enumF_map (xs : List α) : enumF (xs.map e) = (enumT xs).map (eP eI e) := by
  unfold enumF enumT
  rw [List.zipIdx_map, List.map_map, List.map_map]
  rfl
theorem it_enum {f : DE} {xs : List α} {x : OV} (h1 : f env = .ok (.st x)) (hx : x = .ol (xs.map e) ∨ x = .fz (eL e xs)) : dEnum f env = .ok ((enumT xs).map (eP eI e)) := by
  have l1 : x.lst? = some (xs.map e) := by rcases hx with rfl | rfl <;> rfl
  unfold dEnum
  rw [h1, bind_ok]
  simp only [l1]
  rw [enumF_map]
theorem it_rev {f : DE} {xs : List α} {x : OV} (h1 : f env = .ok (.st x)) (hx : x = .ol (xs.map e) ∨ x = .fz (eL e xs)) : dRevd f env = .ok (xs.reverse.map e) := by
  have l1 : x.lst? = some (xs.map e) := by rcases hx with rfl | rfl <;> rfl
  unfold dRevd
  rw [h1, bind_ok]
  simp only [l1]
  rw [List.map_reverse]
theorem sb_st {o : OV} : sbR env (.st o) = true := rfl
theorem sb_bo {i : Nat} {o p : OV} (h : env[i]? = some (some p)) (hp : p.nf = true) : sbR env (.bo o) = true := by
  show (!allFzE env) = true
  have : allFzE env = false := by
    unfold allFzE
    refine List.all_eq_false.mpr ⟨some p, ?_, ?_⟩
    · exact List.mem_of_getElem? h
    · cases p with
      | fz x => cases hp
      | _ => exact Bool.false_ne_true
  rw [this]; rfl
theorem ci_items {f : DE} {r : Rv} {xs : List α} (h : f env = .ok r) (hs : sbR env r = true) (hx : r.fv = eL e xs ∨ r.fv = eT e xs) : cItems f env = .ok (xs.map e) := by
  unfold cItems
  rw [h, bind_ok, if_pos hs]
  rcases hx with hx | hx <;> rw [hx] <;> rfl
theorem ci_str {f : DE} {r : Rv} {s : List Chr} (h : f env = .ok r) (hs : sbR env r = true) (hx : r.fv = eS s) : cItems f env = .ok (s.map eC) := by
  unfold cItems
  rw [h, bind_ok, if_pos hs, hx]
  show Ans.ok ((sxS s).cps.toList.map fun c => FV.str ⟨#[c]⟩) = _
  rw [sx_list, List.map_map]; rfl
theorem ci_zipL {f g : DE} {r q : Rv} {xs : List α} {ys : List β} (h1 : f env = .ok r) (h2 : g env = .ok q) (s1 : sbR env r = true) (s2 : sbR env q = true) (hx : r.fv = eL e xs) (hy : q.fv = eL d ys) : cZip f g env = .ok ((xs.zip ys).map (eP e d)) := by
  unfold cZip
  rw [h1, bind_ok, h2, bind_ok, s1, s2, hx, hy]
  show Ans.ok (zipF (xs.map e) (ys.map d)) = _
  rw [zipF_map]
theorem ci_zipLT {f g : DE} {r q : Rv} {xs : List α} {ys : List β} (h1 : f env = .ok r) (h2 : g env = .ok q) (s1 : sbR env r = true) (s2 : sbR env q = true) (hx : r.fv = eL e xs) (hy : q.fv = eT d ys ∨ q.fv = eZ d ys) : cZip f g env = .ok ((xs.zip ys).map (eP e d)) := by
  have b1 : q.fv.tup? = some (ys.map d) := by rcases hy with h | h <;> rw [h]; rfl; cases ys <;> rfl
  have b2 : q.fv.lst? = none := by rcases hy with h | h <;> rw [h]; rfl; cases ys <;> rfl
  unfold cZip
  rw [h1, bind_ok, h2, bind_ok, s1, s2, hx]
  simp only [Bool.and_self, if_true, b1, b2, show (eL e xs).lst? = some (xs.map e) from rfl, show (eL e xs).tup? = none from rfl]
  rw [zipF_map]
theorem ci_zipT {f g : DE} {r q : Rv} {xs : List α} {ys : List β} (h1 : f env = .ok r) (h2 : g env = .ok q) (s1 : sbR env r = true) (s2 : sbR env q = true) (hx : r.fv = eT e xs) (hy : q.fv = eT d ys) : cZip f g env = .ok ((xs.zip ys).map (eP e d)) := by
  unfold cZip
  rw [h1, bind_ok, h2, bind_ok, s1, s2, hx, hy]
  show Ans.ok (zipF (xs.map e) (ys.map d)) = _
  rw [zipF_map]
theorem ci_enum {f : DE} {r : Rv} {xs : List α} (h : f env = .ok r) (hs : sbR env r = true) (hx : r.fv = eL e xs) : cEnum f env = .ok ((enumT xs).map (eP eI e)) := by
  unfold cEnum
  rw [h, bind_ok, if_pos hs, hx]
  show Ans.ok (enumF (xs.map e)) = _
  rw [enumF_map]
/-! ### comprehensions -/
def lcT (c : α → Option Bool) (g : α → Option β) : List α → Option (List β)
  | [] => some []
  | x :: xs => (c x).bind fun b => if b then (g x).bind fun y => (lcT c g xs).bind fun ys => some (y :: ys) else lcT c g xs
def lcG (c : α → Option Bool) (g : α → Option β) (xs : List α) : Option (List β) := (lcT c g xs).bind fun ys => if ys.length ≤ BIG then some ys else none
theorem lcF_sim {t : TgF} {c : DT} {f : DE} {env : VEnv} {tc : α → Option Bool} {te : α → Option β} (h : ∀ x, ∃ e1, t (e x) env = some e1 ∧ OE (c e1) (tc x) id ∧ OE (f e1) (te x) fun y => .st (.fz (d y))) :
    ∀ {items : List α} {ys : List β}, lcT tc te items = some ys → lcF t c f env (items.map e) = .ok (ys.map d)
  | [], ys, q => by cases q; rfl
  | x :: xs, ys, q => by
    obtain ⟨e1, h1, h2, h3⟩ := h x
    unfold lcT at q
    rw [List.map_cons]
    unfold lcF
    rw [h1]
    simp only
    cases hc : tc x with
    | none => rw [hc] at q; cases q
    | some b =>
      rw [hc] at q
      rw [h2 b hc]
      simp only [id, Ans.nox, Option.bind_some, bind_ok] at q ⊢
      cases b with
      | false =>
        simp only [Bool.false_eq_true, if_false] at q ⊢
        exact lcF_sim h q
      | true =>
        simp only [if_true] at q ⊢
        cases he : te x with
        | none => rw [he] at q; cases q
        | some y =>
          rw [he] at q
          rw [h3 y he]
          cases hr : lcT tc te xs with
          | none => rw [hr] at q; cases q
          | some zs =>
            rw [hr] at q
            simp only [Ans.nox, Option.bind_some, bind_ok, Rv.fz?] at q ⊢
            cases q
            rw [lcF_sim h hr]
            rfl
theorem lcD_sim {t : TgF} {c : DT} {f : DE} {env : VEnv} {tc : α → Option Bool} {te : α → Option β} {ov : β → OV} (h : ∀ x, ∃ e1, t (e x) env = some e1 ∧ OE (c e1) (tc x) id ∧ OE (f e1) (te x) fun y => .st (ov y)) :
    ∀ {items : List α} {ys : List β}, lcT tc te items = some ys → lcD t c f env (items.map e) = .ok (ys.map ov)
  | [], ys, q => by cases q; rfl
  | x :: xs, ys, q => by
    obtain ⟨e1, h1, h2, h3⟩ := h x
    unfold lcT at q
    rw [List.map_cons]
    unfold lcD
    rw [h1]
    simp only
    cases hc : tc x with
    | none => rw [hc] at q; cases q
    | some b =>
      rw [hc] at q
      rw [h2 b hc]
      simp only [id, Ans.nox, Option.bind_some, bind_ok] at q ⊢
      cases b with
      | false =>
        simp only [Bool.false_eq_true, if_false] at q ⊢
        exact lcD_sim h q
      | true =>
        simp only [if_true] at q ⊢
        cases he : te x with
        | none => rw [he] at q; cases q
        | some y =>
          rw [he] at q
          rw [h3 y he]
          cases hr : lcT tc te xs with
          | none => rw [hr] at q; cases q
          | some zs =>
            rw [hr] at q
            simp only [Ans.nox, Option.bind_some, bind_ok, Rv.st?] at q ⊢
            cases q
            rw [lcD_sim h hr]
            rfl
theorem lcG_some {c : α → Option Bool} {g : α → Option β} {xs : List α} {ys : List β} (h : lcG c g xs = some ys) : lcT c g xs = some ys ∧ ys.length ≤ BIG := by
  unfold lcG at h
  cases q : lcT c g xs with
  | none => rw [q] at h; cases h
  | some zs =>
    rw [q, Option.bind_some] at h
    split at h
    · cases h; exact ⟨rfl, by assumption⟩
    · cases h
theorem ev_lc {it : VEnv → Ans (List FV)} {t : TgF} {c : DT} {f : DE} {vs : List Nat} {env : VEnv} {tc : α → Option Bool} {te : α → Option β} {items : List α} {ys : List β} (hi : it env = .ok (items.map e)) (h : ∀ x, ∃ e1, t (e x) (frzE (wipeE env vs)) = some e1 ∧ OE (c e1) (tc x) id ∧ OE (f e1) (te x) fun y => .st (.fz (d y)))
    (hz : allFzE env = true ∨ EPu d) (hv : lcG tc te items = some ys) : dLc it t c f vs env = .ok (.st (.ol (ys.map d))) := by
  obtain ⟨h1, h2⟩ := lcG_some hv
  unfold dLc
  rw [hi, bind_ok, lcF_sim h h1, bind_ok, if_pos]
  rw [Bool.and_eq_true, Bool.or_eq_true, List.length_map]
  exact ⟨decide_eq_true h2, hz.imp id fun p => p.L ys⟩
theorem ev_lcD {it : VEnv → Ans (List FV)} {t : TgF} {c : DT} {f : DE} {vs : List Nat} {env : VEnv} {tc : α → Option Bool} {te : α → Option β} {ov : β → OV} {items : List α} {ys : List β} (hi : it env = .ok (items.map e)) (h : ∀ x, ∃ e1, t (e x) (frzE (wipeE env vs)) = some e1 ∧ OE (c e1) (tc x) id ∧ OE (f e1) (te x) fun y => .st (ov y))
    (hz : allFzE env = true ∨ ∀ ys : List β, OV.cleanL (ys.map ov) = true) (hv : lcG tc te items = some ys) : dLcD it t c f vs env = .ok (.st (oLL ov ys)) := by
  obtain ⟨h1, h2⟩ := lcG_some hv
  unfold dLcD
  rw [hi, bind_ok, lcD_sim h h1, bind_ok, if_pos]
  rw [Bool.and_eq_true, Bool.or_eq_true, List.length_map]
  exact ⟨decide_eq_true h2, hz.imp id fun p => p ys⟩
/-! ### tests -/
variable {f g : DT} {a b : Bool}
theorem ev_and (h : f env = .ok a) (h2 : g env = .ok b) : dAndT f g env = .ok (a && b) := by
  unfold dAndT; rw [h, bind_ok]
  cases a with
  | true => exact h2
  | false => rfl
theorem ev_or (h : f env = .ok a) (h2 : g env = .ok b) : dOrT f g env = .ok (a || b) := by
  unfold dOrT; rw [h, bind_ok]
  cases a with
  | true => rfl
  | false => exact h2
theorem ev_andO {tb : Option Bool} {v : Bool} (h : f env = .ok a) (h2 : a = true → OE (g env) tb id) (hv : (if a then tb else some false) = some v) : dAndT f g env = .ok v := by
  unfold dAndT; rw [h, bind_ok]
  cases a with
  | true => exact h2 rfl v hv
  | false => cases hv; rfl
theorem ev_orO {tb : Option Bool} {v : Bool} (h : f env = .ok a) (h2 : a = false → OE (g env) tb id) (hv : (if a then some true else tb) = some v) : dOrT f g env = .ok v := by
  unfold dOrT; rw [h, bind_ok]
  cases a with
  | false => exact h2 rfl v hv
  | true => cases hv; rfl
variable {p q : DE}
theorem ev_andV (h : p env = .ok (.st (.fz (.bl a)))) (h2 : q env = .ok (.st (.fz (.bl b)))) : dAndV p q env = .ok (.st (.fz (.bl (a && b)))) := by
  unfold dAndV; rw [ev_test h, bind_ok]
  cases a with
  | true => exact h2
  | false => rfl
theorem ev_orV (h : p env = .ok (.st (.fz (.bl a)))) (h2 : q env = .ok (.st (.fz (.bl b)))) : dOrV p q env = .ok (.st (.fz (.bl (a || b)))) := by
  unfold dOrV; rw [ev_test h, bind_ok]
  cases a with
  | true => rfl
  | false => exact h2
theorem ev_andVO {tb : Option Bool} {v : Bool} (h : p env = .ok (.st (.fz (.bl a)))) (h2 : a = true → OE (q env) tb fun b => .st (.fz (.bl b))) (hv : (if a then tb else some false) = some v) : dAndV p q env = .ok (.st (.fz (.bl v))) := by
  unfold dAndV; rw [ev_test h, bind_ok]
  cases a with
  | true => exact h2 rfl v hv
  | false => cases hv; rfl
theorem ev_orVO {tb : Option Bool} {v : Bool} (h : p env = .ok (.st (.fz (.bl a)))) (h2 : a = false → OE (q env) tb fun b => .st (.fz (.bl b))) (hv : (if a then some true else tb) = some v) : dOrV p q env = .ok (.st (.fz (.bl v))) := by
  unfold dOrV; rw [ev_test h, bind_ok]
  cases a with
  | false => exact h2 rfl v hv
  | true => cases hv; rfl
theorem ev_dB (h : f env = .ok a) : dB f env = .ok (.st (.fz (.bl a))) := by unfold dB; rw [h]; rfl
theorem t_isN {v : Option α} (hn : NN e) (hx : x.fv = eO e v) : opIsN x = some (.fz (.bl v.isNone)) := by
  unfold opIsN
  rw [hx]
  cases v with
  | none => rfl
  | some a => show some (OV.fz (.bl (e a).isNon)) = _; rw [hn.n]; rfl
theorem t_notN {v : Option α} (hn : NN e) (hx : x.fv = eO e v) : opNotN x = some (.fz (.bl v.isSome)) := by
  unfold opNotN
  rw [hx]
  cases v with
  | none => rfl
  | some a => show some (OV.fz (.bl !(e a).isNon)) = _; rw [hn.n]; rfl
theorem t_isU : opIsN (.fz (eU ())) = some (.fz (.bl true)) := rfl
theorem oe_id {x : Ans β} {v : β} (h : x = .ok v) : OE x (some v) id := fun w hw => by cases hw; exact h
end
end J
namespace J
open PySem PySem.Spec PyProof.Rows L2
section
variable {α β γ δ σ ρ κ : Type} {e : α → FV} {d : β → FV} {env : VEnv} {P : γ → SO → Prop} {tt : Option γ} {f g : DE} {D A B : DS} {o : OV}
theorem unO {x : Ans Rv} {v : Option α} {a : α} (h : x = .ok (.st (.fz (eO e v)))) (hv : v = some a) : x = .ok (.st (.fz (e a))) := by rw [h, hv]; rfl
theorem asO {x : Ans Rv} (o : Rv) (h : x = .ok o) : x = .ok o := h
theorem ev_frzX {x : FV} (h : f env = .ok (.st o)) (hx : o.fv = x) : dFrz f env = .ok (.st (.fz x)) := by rw [ev_frz h, hx]
theorem t_subD [DecidableEq κ] {kk : κ → Key} {c : κ → FV} {x : OV} {l : List (List κ × α)} {a : List κ} {v : α} (hk : EKey kk c) (hy : x = .oT (l.map fun p => (p.1.map kk, e p.2)) ∨ x = .fz (eD kk e l)) (h : lookK l a = some v) : opSub' x (.fz (eT c a)) = some (.st (.fz (e v))) := by
  have hd : x.isD = true := by rcases hy with rfl | rfl <;> rfl
  unfold opSub'
  rw [hd, if_pos rfl]
  show (dGet x (eT c a)).bind id = _
  rw [dget_D hk hy, h]
  rfl
theorem ev_callA {m : FM} {g : VEnv → Ans (List Rv)} {rs : List Rv} {as : List FV} (h : g env = .ok rs) (ha : rs.map Rv.fv = as) (h2 : m as = .ok o) (h3 : rs.all Rv.isFz = true ∨ o.clean = true) : dCall m g env = .ok (.st o) := ev_call h (by rw [ha]; exact h2) h3
def dictT [DecidableEq κ] (l : List (κ × α)) : List (κ × α) := l.foldl (fun acc kv => putKV acc kv.1 kv.2) []
theorem pairs_of' {kk : κ → Key} {c : κ → FV} (hk : EKey kk c) : ∀ l : List (κ × α), pairs? (l.map (eP c e)) = some (l.map fun p => (kk p.1, e p.2))
  | [] => rfl
  | x :: l => by
    rw [List.map_cons, pairs?]
    simp only [hk.key, pairs_of' hk l]
    rfl
theorem merge_of [DecidableEq κ] {kk : κ → Key} (hk : ∀ a b, kk a = kk b → a = b) : ∀ l acc : List (κ × α), mergeF (acc.map fun p => (kk p.1, e p.2)) (l.map fun p => (kk p.1, e p.2)) = (l.foldl (fun acc kv => putKV acc kv.1 kv.2) acc).map fun p => (kk p.1, e p.2)
  | [], _ => rfl
  | x :: l, acc => by
    show mergeF (putKV (acc.map fun p => (kk p.1, e p.2)) (kk x.1) (e x.2)) (l.map fun p => (kk p.1, e p.2)) = _
    rw [put_map hk, merge_of hk l]
    rfl
theorem t_dictP [DecidableEq κ] {k : κ → Key} {c : κ → FV} {x : OV} {l : List (κ × α)} (hk : EKey k c) (hx : x = .ol (l.map (eP c e)) ∨ x = .fz (eL (eP c e) l)) : opDictP [x] = some (.oK ((dictT l).map fun p => (k p.1, e p.2))) := by
  have hl : x.lst? = some (l.map (eP c e)) := by rcases hx with rfl | rfl <;> rfl
  show (x.lst?.bind pairs?).map _ = _
  rw [hl, Option.bind_some, pairs_of' hk]
  show some (OV.oK (mergeF [] _)) = _
  have := merge_of (e := e) hk.inj l []
  rw [show mergeF [] (l.map fun p => (k p.1, e p.2)) = _ from this]
  rfl
theorem clean_F (h : EPu e) (v : α) : (OV.fz (e v)).clean = true := h.p v
theorem clean_L (h : EPu e) (v : List α) : (OV.ol (v.map e)).clean = true := h.L v
/-! ### changes -/
def appG (xs : List α) (x : α) : Option (List α) := if xs.length < BIG then some (xs ++ [x]) else none
theorem sg_appL {i : Nat} {xs v : List α} {x : α} (h : env[i]? = some (some (.ol (xs.map e)))) (h2 : f env = .ok (.st (.fz (e x)))) (hv : appG xs x = some v) (k : SG (D (env.set i (some (.ol (v.map e))))) tt P) : SG (dSeq (dApp i f) D env) tt P := by
  unfold appG at hv
  split at hv
  · cases hv
    rename_i q
    refine sg_app h rfl h2 (by show (xs.map e).length < BIG; rw [List.length_map]; exact q) ?_ k
    show some (OV.ol (xs.map e ++ [e x])) = _
    rw [List.map_append]; rfl
  · cases hv
/-- what is laid behind a list of another kind (nothing is read of it later) -/
theorem sg_appX {i : Nat} {xs : List FV} {x : FV} (h : env[i]? = some (some (.ol xs))) (h2 : f env = .ok (.st (.fz x))) {u : Unit} (hv : (if xs.length < BIG then some () else none) = some u) (k : SG (D (env.set i (some (.ol (xs ++ [x]))))) tt P) : SG (dSeq (dApp i f) D env) tt P := by
  split at hv
  · rename_i q
    exact sg_app h rfl h2 q rfl k
  · cases hv
def putL (xs : List α) (i : Int) (x : α) : Option (List α) := if xs.length < BIG then (ixN xs.length i).map fun j => xs.set j x else none
theorem sg_putL {i : Nat} {xs v : List α} {x : α} {j : Int} (h : env[i]? = some (some (.ol (xs.map e)))) (h2 : f env = .ok (.st (.fz (e x)))) (h3 : g env = .ok (.st (.fz (.int j)))) (hv : putL xs j x = some v) (k : SG (D (env.set i (some (.ol (v.map e))))) tt P) : SG (dSeq (dPut i g f) D env) tt P := by
  unfold putL at hv
  split at hv
  · rename_i q
    obtain ⟨m, hm, e2⟩ := Option.map_eq_some_iff.mp hv
    subst e2
    rw [ev_seqN (ev_put (p := .ol (xs.map e)) (p' := .ol ((xs.set m x).map e)) h rfl h2 h3 (by show (xs.map e).length < BIG; rw [List.length_map]; exact q) ?_) rfl]
    · exact k
    · show (ixN (xs.map e).length j).map (fun j => OV.ol ((xs.map e).set j (e x))) = _
      rw [List.length_map, hm, Option.map_some, List.map_set]
  · cases hv
def putG [DecidableEq κ] (l : List (κ × α)) (c : κ) (v : α) : Option (List (κ × α)) := if l.length < BIG then some (putKV l c v) else none
theorem sg_putK [DecidableEq κ] {i : Nat} {kk : κ → Key} {c : κ → FV} {l v : List (κ × α)} {x : α} {a : κ} {r : Rv} (hk : EKey kk c) (h : env[i]? = some (some (.oK (l.map fun p => (kk p.1, e p.2))))) (h2 : f env = .ok (.st (.fz (e x)))) (h3 : g env = .ok r) (h4 : r.fv = c a) (hv : putG l a x = some v) (k : SG (D (env.set i (some (.oK (v.map fun p => (kk p.1, e p.2)))))) tt P) : SG (dSeq (dPut i g f) D env) tt P := by
  unfold putG at hv
  split at hv
  · cases hv
    rename_i q
    rw [ev_seqN (ev_put (p := .oK (l.map fun p => (kk p.1, e p.2))) (p' := .oK ((putKV l a x).map fun p => (kk p.1, e p.2))) h rfl h2 h3 (by show (l.map _).length < BIG; rw [List.length_map]; exact q) ?_) rfl]
    · exact k
    · rw [h4]
      have : OV.put (.oK (l.map fun p => (kk p.1, e p.2))) (c a) (.fz (e x)) = (c a).key?.map fun k => OV.oK (putKV (l.map fun p => (kk p.1, e p.2)) k (e x)) := by
        unfold OV.put
        cases (c a) <;> rfl
      rw [this, hk.key, Option.map_some, put_map hk.inj]
  · cases hv
theorem sg_putD [DecidableEq κ] {i : Nat} {kk : κ → Key} {c : κ → FV} {l v : List (List κ × α)} {x : α} {a : List κ} {r : Rv} (hk : EKey kk c) (h : env[i]? = some (some (.oT (l.map fun p => (p.1.map kk, e p.2))))) (h2 : f env = .ok (.st (.fz (e x)))) (h3 : g env = .ok r) (h4 : r.fv = eT c a) (hv : putG l a x = some v) (k : SG (D (env.set i (some (.oT (v.map fun p => (p.1.map kk, e p.2)))))) tt P) : SG (dSeq (dPut i g f) D env) tt P := by
  unfold putG at hv
  split at hv
  · cases hv
    rename_i q
    rw [ev_seqN (ev_put (p := .oT (l.map fun p => (p.1.map kk, e p.2))) (p' := .oT ((putKV l a x).map fun p => (p.1.map kk, e p.2))) h rfl h2 h3 (by show (l.map _).length < BIG; rw [List.length_map]; exact q) ?_) rfl]
    · exact k
    · rw [h4]
      show (eT c a).keyT?.map (fun k => OV.oT (putKV (l.map fun p => (p.1.map kk, e p.2)) k (e x))) = _
      rw [keyT_of hk, Option.map_some, put_map (k := fun a : List κ => a.map kk) fun a b h => map_inj_of hk.inj h]
  · cases hv
theorem sg_ext {i : Nat} {xs zs v : List α} (h : env[i]? = some (some (.ol (xs.map e)))) (h2 : f env = .ok (.st (.fz (eL e zs)))) (hv : catG xs zs = some v) (k : SG (D (env.set i (some (.ol (v.map e))))) tt P) : SG (dSeq (dExt i f) D env) tt P := by
  unfold catG at hv
  split at hv
  · cases hv
    rename_i q
    rw [ev_seqN (e := env.set i (some (.ol ((xs ++ zs).map e)))) ?_ rfl]
    · exact k
    · unfold dExt
      rw [h]
      simp only
      rw [h2, bind_ok]
      simp only
      rw [if_pos (by rw [List.length_map, List.length_map]; exact q), List.map_append]
  · cases hv
theorem eraseIdx_mp {α β : Type} {f : α → β} : ∀ (l : List α) (k : Nat), (l.map f).eraseIdx k = (l.eraseIdx k).map f
  | [], _ => rfl
  | _ :: _, 0 => rfl
  | x :: l, k + 1 => by rw [List.map_cons, List.eraseIdx_cons_succ, List.eraseIdx_cons_succ, List.map_cons, eraseIdx_mp l k]
def popG (xs ys : List α) (k : Int) : Option (List α × List α) := if xs.length < BIG ∧ ys.length ≤ BIG then (ixN ys.length k).bind fun m => (ys[m]?).map fun y => (xs ++ [y], ys.eraseIdx m) else none
theorem sg_appPop {i j : Nat} {xs ys : List α} {k : Int} {v : List α × List α} (h : env[i]? = some (some (.ol (xs.map e)))) (hj : env[j]? = some (some (.ol (ys.map e)))) (hij : i ≠ j) (h2 : f env = .ok (.st (.fz (.int k)))) (hv : popG xs ys k = some v) (kk : SG (D ((env.set j (some (.ol (v.2.map e)))).set i (some (.ol (v.1.map e))))) tt P) : SG (dSeq (dAppPop i j f) D env) tt P := by
  unfold popG at hv
  split at hv
  · rename_i q
    obtain ⟨m, hm, hv⟩ := Option.bind_eq_some_iff.mp hv
    obtain ⟨y, hy, hv⟩ := Option.map_eq_some_iff.mp hv
    subst hv
    rw [ev_seqN (e := (env.set j (some (.ol ((ys.eraseIdx m).map e)))).set i (some (.ol ((xs ++ [y]).map e)))) ?_ rfl]
    · exact kk
    · unfold dAppPop
      rw [h, hj]
      simp only
      rw [if_pos (by simp [OV.isL, OV.size, hij]; exact ⟨q.2, q.1⟩), h2, bind_ok]
      simp only [Rv.fv, Rv.ov, OV.fv]
      rw [List.length_map, hm]
      simp only
      rw [List.getElem?_map, hy]
      show Ans.ok (SO.nx ((env.set j (some (OV.ol ((ys.map e).eraseIdx m)))).set i (some (OV.ol (xs.map e ++ [e y]))))) = _
      rw [eraseIdx_mp, List.map_append]
      rfl
  · cases hv
def appAtG (xs : List (List α)) (k : Int) (x : α) : Option (List (List α)) := (ixN xs.length k).bind fun m => (xs[m]?).bind fun q => if q.length < BIG then some (xs.set m (q ++ [x])) else none
theorem sg_appAt {i : Nat} {xs v : List (List α)} {k : Int} {x : α} {fk fe : DE} {kr : Rv} (h : env[i]? = some (some (oLL (oL e) xs))) (h1 : fk env = .ok kr) (h1' : kr.fv = .int k) (h2 : fe env = .ok (.st (.fz (e x)))) (hv : appAtG xs k x = some v) (kk : SG (D (env.set i (some (oLL (oL e) v)))) tt P) : SG (dSeq (dAppAt i fk fe) D env) tt P := by
  unfold appAtG at hv
  obtain ⟨m, hm, hv⟩ := Option.bind_eq_some_iff.mp hv
  obtain ⟨q, hq, hv⟩ := Option.bind_eq_some_iff.mp hv
  split at hv
  · rename_i hl
    cases hv
    rw [ev_seqN (e := env.set i (some (oLL (oL e) (xs.set m (q ++ [x]))))) ?_ rfl]
    · exact kk
    · unfold dAppAt
      rw [h]
      simp only
      rw [h1, bind_ok, h1']
      have hs : OV.sub? (oLL (oL e) xs) (.int k) = some (oL e q) := by
        show atI (xs.map (oL e)) k = _
        rw [atI_mapO]
        unfold atI
        rw [hm, Option.bind_some, hq]
        rfl
      rw [hs]
      simp only
      rw [if_pos (show (oL e q).isL = true from rfl), h2, bind_ok]
      simp only
      rw [if_pos (show (oL e q).size < BIG by show (q.map e).length < BIG; rw [List.length_map]; exact hl)]
      show (Ans.ok (SO.nx (env.set i (some (OV.setAt (oLL (oL e) xs) (.int k) (.ol (q.map e ++ [e x]))))))) = _
      congr 4
      unfold OV.setAt
      simp only
      rw [List.length_map, hm]
      simp only
      show OV.dl ((List.map (oL e) xs).set m (OV.ol (List.map e q ++ [e x]))) = .dl ((xs.set m (q ++ [x])).map (oL e))
      rw [List.map_set]
      congr 2
      show OV.ol (List.map e q ++ [e x]) = .ol ((q ++ [x]).map e)
      rw [List.map_append]
      rfl
  · cases hv
def sdG [DecidableEq κ] (l : List (κ × α)) (c : κ) (v : α) : Option (α × List (κ × α)) := if l.length < BIG then some ((lookK l c).getD v, match lookK l c with | some _ => l | none => l ++ [(c, v)]) else none
/-- if d.setdefault(k, x) op y: a else: b -/
theorem sg_setd [DecidableEq κ] {i : Nat} {kk : κ → Key} {c : κ → FV} {l : List (κ × α)} {x : α} {a : κ} {fk fv fe : DE} {opd : OV → OV → Option OV} {kr er : Rv} {w : α × List (κ × α)} {b : Bool} {t u : Option γ} (hk : EKey kk c) (h : env[i]? = some (some (.oK (l.map fun p => (kk p.1, e p.2))))) (h1 : fk env = .ok kr) (h1' : kr.fv = c a) (h2 : fv env = .ok (.st (.fz (e x))))
    (hw : sdG l a x = some w) (h3 : fe (env.set i (some (.oK (w.2.map fun p => (kk p.1, e p.2))))) = .ok er) (h4 : opd (.fz (e w.1)) er.ov = some (.fz (.bl b)))
    (k1 : b = true → SG (dSeq A D (env.set i (some (.oK (w.2.map fun p => (kk p.1, e p.2)))))) t P) (k2 : b = false → SG (dSeq B D (env.set i (some (.oK (w.2.map fun p => (kk p.1, e p.2)))))) u P) :
    SG (dSeq (dSetd i fk fv fe opd A B) D env) (if b then t else u) P := by
  unfold sdG at hw
  split at hw
  · cases hw
    rename_i q
    have e1 : dSetd i fk fv fe opd A B env = if b then A (env.set i (some (.oK ((match lookK l a with | some _ => l | none => l ++ [(a, x)]).map fun p : κ × α => (kk p.1, e p.2))))) else B (env.set i (some (.oK ((match lookK l a with | some _ => l | none => l ++ [(a, x)]).map fun p : κ × α => (kk p.1, e p.2))))) := by
      have hlk : lookK (l.map fun p : κ × α => (kk p.1, e p.2)) (kk a) = (lookK l a).map e := look_map hk.inj a l
      unfold dSetd
      rw [h]
      simp only
      rw [h1, bind_ok, h2, bind_ok, h1', hk.key]
      simp only
      rw [if_pos (by rw [List.length_map]; exact q)]
      rw [hlk]
      clear k1 k2 hlk
      revert h3 h4
      cases lookK l a with
      | some v =>
        intro h3 h4
        show (fe (env.set i (some (.oK (l.map fun p : κ × α => (kk p.1, e p.2)))))).bind _ = _
        rw [show fe (env.set i (some (.oK (l.map fun p : κ × α => (kk p.1, e p.2))))) = .ok er from h3, bind_ok]
        show (Ans.of (opd (.fz (e v)) er.ov)).bind _ = _
        rw [show opd (.fz (e v)) er.ov = _ from h4]
        cases b <;> rfl
      | none =>
        intro h3 h4
        have e2 : (l.map (fun p : κ × α => (kk p.1, e p.2)) ++ [(kk a, e x)]) = (l ++ [(a, x)]).map fun p : κ × α => (kk p.1, e p.2) := by rw [List.map_append]; rfl
        show (fe (env.set i (some (.oK (l.map (fun p : κ × α => (kk p.1, e p.2)) ++ [(kk a, e x)]))))).bind _ = _
        rw [e2, show fe (env.set i (some (.oK ((l ++ [(a, x)]).map fun p : κ × α => (kk p.1, e p.2))))) = .ok er from h3, bind_ok]
        show (Ans.of (opd (.fz (e x)) er.ov)).bind _ = _
        rw [show opd (.fz (e x)) er.ov = _ from h4]
        cases b <;> rfl
    rw [ev_seq, e1]
    cases b with
    | true => exact k1 rfl
    | false => exact k2 rfl
  · cases hw
theorem afz_nil : allFzE [] = true := rfl
theorem afz_F {x : FV} {r : VEnv} (h : allFzE r = true) : allFzE (some (.fz x) :: r) = true := by unfold allFzE at h ⊢; rw [List.all_cons, h]; rfl
theorem afz_N {r : VEnv} (h : allFzE r = true) : allFzE (none :: r) = true := by unfold allFzE at h ⊢; rw [List.all_cons, h]; rfl
theorem afz_J {j : Option OV} {r : VEnv} (h : allFzE r = true) : allFzE (iceJ j :: r) = true := by
  unfold allFzE at h ⊢
  rw [List.all_cons, h]
  cases j <;> rfl
theorem run_sg {n : Nat} {D : DS} {as : List FV} {O : ρ → OV} {t : Option ρ} (h : SG (D (startE n as)) t (PR O)) {v : ρ} (hv : t = some v) : runF n D as = .ok (O v) := by
  obtain ⟨so, h1, e2, rfl⟩ := h v hv
  exact ev_run h1
end
end J
namespace J
open PySem PySem.Spec PyProof.Rows L2
/-! ### a list that is told and carried on, typed -/
section
variable {α β γ : Type} {env : VEnv} {e : β → FV} {eA : α → FV} {P : γ → SO → Prop} {D : DS} {f : DE}
def carT (f : α → List β → Option (List β)) : List α → List (List β) → List β → Option (List (List β))
  | [], acc, c => some (acc ++ [c])
  | x :: xs, acc, c => if acc.length + 1 < BIG then (f x c).bind fun c' => carT f xs (acc ++ [c]) c' else none
theorem carL_sim {t : TgF} {fe : DE} {i : Nat} {g : α → List β → Option (List β)} {E : List β → VEnv → Prop}
    (hE : ∀ c env, E c env → env[i]? = some (some (oL e c)))
    (hs : ∀ x c env, E c env → ∃ e1, t (eA x) env = some e1 ∧ e1[i]? = some (some (oL e c)) ∧ OE (fe e1) (g x c) (fun c' => .st (oL e c')) ∧ ∀ c', E c' (e1.set i (some (oL e c')))) :
    ∀ (xs : List α) (acc : List (List β)) (c : List β) (env : VEnv) (v : List (List β)), E c env → carT g xs acc c = some v → ∃ e', carL t fe i (xs.map eA) (acc.map (oL e)) env = .ok (.rt (oLL (oL e) v) e')
  | [], acc, c, env, v, h, hv => by
    cases hv
    refine ⟨env.set i none, ?_⟩
    show carL t fe i [] (acc.map (oL e)) env = _
    unfold carL
    rw [hE c env h]
    simp only [oLL, List.map_append, List.map_cons, List.map_nil]
  | x :: xs, acc, c, env, v, h, hv => by
    obtain ⟨e1, h1, h2, h3, h4⟩ := hs x c env h
    unfold carT at hv
    split at hv
    case isFalse => cases hv
    case isTrue hb =>
      obtain ⟨c', g1, g2⟩ := Option.bind_eq_some_iff.mp hv
      obtain ⟨e', q⟩ := carL_sim hE hs xs (acc ++ [c]) c' _ v (h4 c') g2
      refine ⟨e', ?_⟩
      rw [List.map_append] at q
      show carL t fe i (eA x :: xs.map eA) (acc.map (oL e)) env = _
      unfold carL
      rw [h1]
      simp only
      rw [h2]
      simp only [List.length_map]
      rw [if_pos hb, h3 c' g1]
      exact q
theorem sg_carryS {it : VEnv → Ans (List FV)} {t : TgF} {fe : DE} {i j : Nat} {g : α → List β → Option (List β)} {items : List α} {c : List β} {P : List (List β) → SO → Prop} (E : List β → VEnv → Prop)
    (he : env[i]? = some (some (oL e c))) (hj : j < env.length) (hi : it (env.set j none) = .ok (items.map eA)) (h0 : E c (env.set j none))
    (hE : ∀ c env, E c env → env[i]? = some (some (oL e c)))
    (hs : ∀ x c env, E c env → ∃ e1, t (eA x) env = some e1 ∧ e1[i]? = some (some (oL e c)) ∧ OE (fe e1) (g x c) (fun c' => .st (oL e c')) ∧ ∀ c', E c' (e1.set i (some (oL e c'))))
    (hp : ∀ v e', P v (.rt (oLL (oL e) v) e')) : SG (dSeq (dCarry it t fe i j) D env) (carT g items [] c) P := fun v hv => by
  obtain ⟨e', q⟩ := carL_sim hE hs items [] c _ v h0 hv
  refine ⟨_, ?_, hp v e'⟩
  have : dCarry it t fe i j env = .ok (.rt (oLL (oL e) v) e') := by
    unfold dCarry
    rw [he]
    simp only
    rw [if_pos hj, hi]
    exact q
  rw [ev_seqR this]
theorem sg_retAtS {j : Nat} {xs : List (List β)} {k : Int} {v : List β} {r : Rv} {P : List β → SO → Prop} (he : env[j]? = some (some (oLL (oL e) xs))) (hf : f env = .ok r) (hr : r.fv = .int k) (hv : atI xs k = some v)
    (hp : ∀ e', P v (.rt (oL e v) e')) : SG (dSeq (dRetAt j f) D env) (some v) P := by
  have : dRetAt j f env = .ok (.rt (oL e v) (env.set j none)) := by
    unfold atI at hv
    obtain ⟨m, e1, e2⟩ := Option.bind_eq_some_iff.mp hv
    unfold dRetAt
    rw [he]
    simp only
    rw [hf]
    show (match r.fv with | .int k => _ | _ => _) = _
    rw [hr]
    simp only [List.length_map]
    rw [e1]
    simp only [Option.bind_some, List.getElem?_map, e2, Option.map_some]
  exact sg_of (ev_seqR this) (hp _)
end
end J
namespace J
open PySem PySem.Spec PyProof.Rows L2
/-! ### dicts with keys (int, tuple), unpacked values, lists of lists, typed -/
section
variable {α β γ : Type} {e : α → FV} {d : β → FV} {env : VEnv} {P : γ → SO → Prop} {tt : Option γ} {f g : DE} {D : DS} {o : OV}
abbrev eN : List NK → FV := fun l => .dN l
abbrev oNk : List NK → OV := fun l => .oN l
theorem ev_newN : dNewN env = .ok (.st (.oN [])) := rfl
theorem nk_of (p : NK) : nk? (eP eI (eT eI) p) = some p := by
  show (ints? (p.2.map FV.int)).map _ = _
  rw [ints_of]
  rfl
theorem t_inN {x : OV} {l : List NK} {p : NK} (h : x = .oN l ∨ x = .fz (eN l)) : opInN (.fz (eP eI (eT eI) p)) x = some (.fz (.bl (decide (p ∈ l)))) := by
  unfold opInN
  have hn : x.nks? = some l := by rcases h with rfl | rfl <;> rfl
  rw [hn, Option.bind_some]
  show (nk? (eP eI (eT eI) p)).map _ = _
  rw [nk_of]
  rfl
def putNG (l : List NK) (p : NK) : Option (List NK) := if l.length < BIG then some (if p ∈ l then l else l ++ [p]) else none
theorem sg_putN {i : Nat} {l v : List NK} {p : NK} (h : env[i]? = some (some (.oN l))) (h2 : f env = .ok (.st (.fz (.bl true)))) (h3 : g env = .ok (.st (.fz (eP eI (eT eI) p)))) (hv : putNG l p = some v) (k : SG (D (env.set i (some (.oN v)))) tt P) : SG (dSeq (dNPut i g f) D env) tt P := by
  unfold putNG at hv
  split at hv
  · cases hv
    rename_i q
    rw [ev_seqN (e := env.set i (some (.oN (if p ∈ l then l else l ++ [p])))) ?_ rfl]
    · exact k
    · unfold dNPut
      rw [h]
      simp only
      rw [h2, bind_ok]
      simp only
      rw [h3, bind_ok]
      simp only
      rw [nk_of]
      simp only
      rw [if_pos q]
  · cases hv
theorem sg_asgT {t : TgF} {x : FV} {e1 : VEnv} (h : f env = .ok (.st (.fz x))) (ht : t x env = some e1) (k : SG (D e1) tt P) : SG (dSeq (dAsgT f t) D env) tt P := by
  rw [ev_seqN (e := e1) ?_ rfl]
  · exact k
  · unfold dAsgT
    rw [h, bind_ok]
    simp only
    rw [ht]
theorem sg_augI {i : Nat} {a b : Int} {op : Int → Int → Int} {r : Rv} (h : env[i]? = some (some (.fz (.int a)))) (h2 : f env = .ok r) (hr : r.fv = .int b) (k : SG (D (env.set i (some (.fz (.int (op a b)))))) tt P) : SG (dSeq (dAugI i op f) D env) tt P := by
  rw [ev_seqN (e := env.set i (some (.fz (.int (op a b))))) ?_ rfl]
  · exact k
  · unfold dAugI
    rw [h]
    simp only
    rw [h2, bind_ok, hr]
theorem sg_putLL {i : Nat} {xs v : List (List α)} {x : List α} {j : Int} (h : env[i]? = some (some (oLL (oL e) xs))) (h2 : f env = .ok (.st (oL e x))) (h3 : g env = .ok (.st (.fz (.int j)))) (hv : putL xs j x = some v) (k : SG (D (env.set i (some (oLL (oL e) v)))) tt P) : SG (dSeq (dPut i g f) D env) tt P := by
  unfold putL at hv
  split at hv
  · rename_i q
    obtain ⟨m, hm, e2⟩ := Option.map_eq_some_iff.mp hv
    subst e2
    rw [ev_seqN (ev_put (p := oLL (oL e) xs) (p' := oLL (oL e) (xs.set m x)) h rfl h2 h3 (by show (xs.map (oL e)).length < BIG; rw [List.length_map]; exact q) ?_) rfl]
    · exact k
    · show (ixN (xs.map (oL e)).length j).map (fun j => OV.dl ((xs.map (oL e)).set j (oL e x))) = _
      rw [List.length_map, hm, Option.map_some]
      show _ = some (OV.dl ((xs.set m x).map (oL e)))
      rw [List.map_set]
  · cases hv
theorem sg_each {i j : Nat} {xs : List (List α)} {u : Unit} (h : env[i]? = some (some (oLL (oL e) xs))) (hij : i ≠ j) (hj : j < env.length) (hv : (if xs.all (fun l => decide (l.length < BIG)) then some () else none) = some u)
    (k : SG (D ((env.set i (some (.dl (xs.map fun l => .ol (l.map e ++ [.non]))))).set j none)) tt P) : SG (dSeq (dEachN i j) D env) tt P := by
  split at hv
  · rename_i q
    rw [ev_seqN (e := (env.set i (some (.dl (xs.map fun l => .ol (l.map e ++ [.non]))))).set j none) ?_ rfl]
    · exact k
    · unfold dEachN
      rw [h]
      simp only
      have hq : (List.map (oL e) xs).all OV.slim = true := by
        rw [List.all_map]
        refine Eq.trans (congrArg (List.all xs) (funext fun l => ?_)) q
        show decide ((l.map e).length < BIG) = _
        rw [List.length_map]
      rw [if_pos ⟨hij, hj, hq⟩, List.map_map]
      rfl
  · cases hv
theorem sg_appXD {i : Nat} {os : List OV} {x : FV} {n : Nat} {u : Unit} (h : env[i]? = some (some (.dl os))) (h2 : f env = .ok (.st (.fz x))) (hn : os.length = n) (hv : (if n < BIG then some () else none) = some u) (k : SG (D (env.set i (some (.dl (os ++ [.fz x]))))) tt P) : SG (dSeq (dApp i f) D env) tt P := by
  subst hn
  split at hv
  · rename_i q
    exact sg_app h rfl h2 q rfl k
  · cases hv
theorem fvs_nil : ([] : List Rv).map Rv.fv = [] := rfl
theorem fvs_cons {r : Rv} {rs : List Rv} {a : FV} {as : List FV} (h : r.fv = a) (h2 : rs.map Rv.fv = as) : (r :: rs).map Rv.fv = a :: as := by rw [List.map_cons, h, h2]
theorem cleanLL (h : EPu e) (v : List (List α)) : (oLL (oL e) v).clean = true := by
  show OV.cleanL (v.map (oL e)) = true
  induction v with
  | nil => rfl
  | cons x xs ih =>
    rw [List.map_cons]
    unfold OV.cleanL
    rw [ih, Bool.and_true]
    exact clean_L h x
theorem t_noN {x : OV} {l : List NK} {p : NK} (h : x = .oN l ∨ x = .fz (eN l)) : opNoN (.fz (eP eI (eT eI) p)) x = some (.fz (.bl (!decide (p ∈ l)))) := by
  unfold opNoN
  have hn : x.nks? = some l := by rcases h with rfl | rfl <;> rfl
  rw [hn, Option.bind_some]
  show (nk? (eP eI (eT eI) p)).map _ = _
  rw [nk_of]
  rfl
def zipD {κ : Type} [DecidableEq κ] (as : List κ) (bs : List α) : Option (List (κ × α)) := if as.length = bs.length then some (dictT (as.zip bs)) else none
theorem kys_of {κ : Type} {kk : κ → Key} {c : κ → FV} (hk : EKey kk c) : ∀ as : List κ, kys? (as.map c) = some (as.map kk)
  | [] => rfl
  | a :: as => by
    rw [List.map_cons, kys?]
    simp only [hk.key, kys_of hk as]
    rfl
theorem ev_dictZip {κ : Type} [DecidableEq κ] {kk : κ → Key} {c : κ → FV} {g : VEnv → Ans (List Rv)} {as : List κ} {bs : List α} {x : FV} {v : List (κ × α)} (hk : EKey kk c) (hx : x = eZ c as ∨ x = eT c as) (h : g env = .ok [.st (.fz x), .st (.fz (eT e bs))]) (hv : zipD as bs = some v) :
    dDictZip g env = .ok (.st (.oK (v.map fun p => (kk p.1, e p.2)))) := by
  unfold zipD at hv
  split at hv
  case isFalse => cases hv
  case isTrue hl =>
    cases hv
    have hx : x.tup? = some (as.map c) := by
      rcases hx with rfl | rfl
      · cases as <;> rfl
      · rfl
    unfold dDictZip
    rw [h, bind_ok]
    simp only
    rw [hx, show (eT e bs).tup? = some (bs.map e) from rfl]
    simp only
    rw [kys_of hk]
    simp only
    rw [if_pos (by rw [List.length_map, List.length_map]; exact hl)]
    have : (as.map kk).zip (bs.map e) = (as.zip bs).map fun p => (kk p.1, e p.2) := by rw [List.zip_map]; rfl
    rw [this]
    have h2 := merge_of (e := e) hk.inj (as.zip bs) []
    rw [show mergeF [] ((as.zip bs).map fun p => (kk p.1, e p.2)) = _ from h2]
    rfl
def updG {κ : Type} [DecidableEq κ] (l more : List (κ × α)) : Option (List (κ × α)) := if l.length + more.length ≤ BIG then some (more.foldl (fun acc kv => putKV acc kv.1 kv.2) l) else none
theorem sg_upd {κ : Type} [DecidableEq κ] {i : Nat} {kk : κ → Key} {c : κ → FV} {l more v : List (κ × α)} (hk : EKey kk c) (h : env[i]? = some (some (.oK (l.map fun p => (kk p.1, e p.2))))) (h2 : f env = .ok (.st (.fz (eK kk e more)))) (hv : updG l more = some v)
    (k : SG (D (env.set i (some (.oK (v.map fun p => (kk p.1, e p.2)))))) tt P) : SG (dSeq (dUpd i f) D env) tt P := by
  unfold updG at hv
  split at hv
  case isFalse => cases hv
  case isTrue hl =>
    cases hv
    rw [ev_seqN (e := env.set i (some (.oK ((more.foldl (fun acc kv => putKV acc kv.1 kv.2) l).map fun p => (kk p.1, e p.2))))) ?_ rfl]
    · exact k
    · unfold dUpd
      rw [h]
      simp only
      rw [h2, bind_ok]
      simp only
      rw [if_pos (by rw [List.length_map, List.length_map]; exact hl), merge_of hk.inj]
end
end J
namespace J
open PySem PySem.Spec PyProof.Rows L2
/-! ### the typed functions' words, for proofs without a program -/
section
variable {α β γ σ ρ κ : Type}
theorem bindS {a : α} {f : α → Option β} : (some a).bind f = f a := rfl
theorem bigL {n : Nat} (h : n ≤ 100000) : n ≤ BIG := Nat.le_trans h (by decide)
theorem bigT {n : Nat} (h : n ≤ 100000) : n < BIG := Nat.lt_of_le_of_lt h (by decide)
/-! loops -/
theorem forT_inv {f : α → σ → Option σ} (I : Nat → σ → Prop) : ∀ {xs : List α} {n : Nat} {s : σ}, I n s → (∀ i x s, xs[i]? = some x → I (n + i) s → ∃ s', f x s = some s' ∧ I (n + i + 1) s') → ∃ s', forT f xs s = some s' ∧ I (n + xs.length) s'
  | [], n, s, h, _ => ⟨s, rfl, h⟩
  | x :: xs, n, s, h, hs => by
    obtain ⟨s', h1, h2⟩ := hs 0 x s rfl h
    obtain ⟨r, k1, k2⟩ := forT_inv (f := f) I (xs := xs) (n := n + 1) h2 fun i y s hy hi => by
      have e : n + 1 + i = n + (i + 1) := by omega
      rw [e] at hi ⊢
      exact hs (i + 1) y s (by simpa using hy) hi
    refine ⟨r, ?_, ?_⟩
    · unfold forT; rw [h1]; exact k1
    · rw [List.length_cons, show n + (xs.length + 1) = n + 1 + xs.length by omega]; exact k2
theorem forT_inv0 {f : α → σ → Option σ} (I : Nat → σ → Prop) {xs : List α} {s : σ} (h0 : I 0 s) (hs : ∀ i x s, xs[i]? = some x → I i s → ∃ s', f x s = some s' ∧ I (i + 1) s') : ∃ s', forT f xs s = some s' ∧ I xs.length s' := by
  have := forT_inv (f := f) I (xs := xs) (n := 0) h0 fun i x s hx hi => by
    rw [Nat.zero_add] at hi ⊢
    exact hs i x s hx hi
  rw [Nat.zero_add] at this
  exact this
theorem forT_flat {f : α → List β → Option (List β)} {g : α → List β} {N : Nat} : ∀ {xs : List α} {acc : List β}, (∀ x ∈ xs, ∀ a : List β, a.length + (g x).length ≤ N → f x a = some (a ++ g x)) → acc.length + (xs.flatMap g).length ≤ N → forT f xs acc = some (acc ++ xs.flatMap g)
  | [], acc, _, _ => by rw [List.flatMap_nil, List.append_nil]; rfl
  | x :: xs, acc, h, hn => by
    rw [List.flatMap_cons, List.length_append] at hn
    unfold forT
    rw [h x List.mem_cons_self acc (by omega)]
    show forT f xs (acc ++ g x) = _
    rw [forT_flat (fun y hy => h y (List.mem_cons_of_mem _ hy)) (by rw [List.length_append]; omega), List.flatMap_cons, List.append_assoc]
theorem forT_map {f : α → List β → Option (List β)} {g : α → β} {N : Nat} {xs : List α} {acc : List β} (h : ∀ x ∈ xs, ∀ a : List β, a.length < N → f x a = some (a ++ [g x])) (hn : acc.length + xs.length ≤ N) : forT f xs acc = some (acc ++ xs.map g) := by
  have e : xs.flatMap (fun x => [g x]) = xs.map g := by
    induction xs with
    | nil => rfl
    | cons x xs ih => rw [List.flatMap_cons, ih (fun y hy => h y (List.mem_cons_of_mem _ hy)) (by simp at hn; omega)]; rfl
  rw [← e]
  exact forT_flat (N := N) (fun x hx a ha => h x hx a (by simp at ha; omega)) (by rw [e, List.length_map]; exact hn)
theorem forT_fold {f : α → σ → Option σ} {g : α → σ → σ} : ∀ {xs : List α} {s : σ}, (∀ x ∈ xs, ∀ s, f x s = some (g x s)) → forT f xs s = some (xs.foldl (fun s x => g x s) s)
  | [], s, _ => rfl
  | x :: xs, s, h => by
    unfold forT
    rw [h x List.mem_cons_self]
    exact forT_fold fun y hy => h y (List.mem_cons_of_mem _ hy)
/-- a search: goes on where p, else the answer -/
theorem forC_all {f : α → Unit → Option (Ctl Unit ρ)} {p : α → Bool} {r : ρ} : ∀ {xs : List α}, (∀ x ∈ xs, f x () = some (if p x then .nx () else .rt r)) → forC f xs () = some (if xs.all p then .nx () else .rt r)
  | [], _ => rfl
  | x :: xs, h => by
    unfold forC
    rw [h x List.mem_cons_self, bindS, List.all_cons]
    cases p x with
    | false => rfl
    | true =>
      simp only [if_true, Bool.true_and]
      exact forC_all fun y hy => h y (List.mem_cons_of_mem _ hy)
/-- a search that ends at the first one found -/
theorem forC_first {f : α → Unit → Option (Ctl Unit ρ)} {p : α → Bool} {r : α → ρ} : ∀ {xs : List α}, (∀ x ∈ xs, f x () = some (if p x then .rt (r x) else .nx ())) → forC f xs () = some (match xs.find? p with | some x => .rt (r x) | none => .nx ())
  | [], _ => rfl
  | x :: xs, h => by
    unfold forC
    rw [h x List.mem_cons_self, bindS, List.find?_cons]
    cases p x with
    | true => rfl
    | false => exact forC_first fun y hy => h y (List.mem_cons_of_mem _ hy)
/-! comprehensions -/
theorem lcT_ok {c : α → Option Bool} {g : α → Option β} {p : α → Bool} {h : α → β} : ∀ {xs : List α}, (∀ x ∈ xs, c x = some (p x) ∧ (p x = true → g x = some (h x))) → lcT c g xs = some ((xs.filter p).map h)
  | [], _ => rfl
  | x :: xs, q => by
    obtain ⟨h1, h2⟩ := q x List.mem_cons_self
    unfold lcT
    rw [h1, bindS, lcT_ok fun y hy => q y (List.mem_cons_of_mem _ hy)]
    cases hp : p x with
    | false => rw [if_neg Bool.false_ne_true, List.filter_cons_of_neg (by rw [hp]; decide)]
    | true => rw [if_pos rfl, h2 hp, List.filter_cons_of_pos hp]; rfl
theorem lcG_ok {c : α → Option Bool} {g : α → Option β} {p : α → Bool} {h : α → β} {xs : List α} (q : ∀ x ∈ xs, c x = some (p x) ∧ (p x = true → g x = some (h x))) (hl : xs.length ≤ 100000) : lcG c g xs = some ((xs.filter p).map h) := by
  unfold lcG
  rw [lcT_ok q, bindS, if_pos]
  rw [List.length_map]
  exact bigL (Nat.le_trans (List.length_filter_le _ _) hl)
theorem lcG_map {c : α → Option Bool} {g : α → Option β} {h : α → β} {xs : List α} (q : ∀ x ∈ xs, c x = some true ∧ g x = some (h x)) (hl : xs.length ≤ 100000) : lcG c g xs = some (xs.map h) := by
  have := lcG_ok (p := fun _ => true) (fun x hx => ⟨(q x hx).1, fun _ => (q x hx).2⟩) hl
  rw [List.filter_eq_self.mpr fun _ _ => rfl] at this
  exact this
theorem lcG_bind {c : α → Option Bool} {g : α → Option β} {p : α → Bool} {h : α → β} {xs : List α} {k : List β → Option γ} {r : Option γ} (q : ∀ x ∈ xs, c x = some (p x) ∧ (p x = true → g x = some (h x))) (hl : xs.length ≤ 100000) (hk : k ((xs.filter p).map h) = r) : (lcG c g xs).bind k = r := by
  rw [lcG_ok q hl, bindS, hk]
theorem lcM_bind {c : α → Option Bool} {g : α → Option β} {h : α → β} {xs : List α} {k : List β → Option γ} {r : Option γ} (q : ∀ x ∈ xs, c x = some true ∧ g x = some (h x)) (hl : xs.length ≤ 100000) (hk : k (xs.map h) = r) : (lcG c g xs).bind k = r := by
  rw [lcG_map q hl, bindS, hk]
/-! numbers, places -/
theorem rangeN {n : Int} (m : Nat) (e : n = (m : Int)) (h : m ≤ 100000) : rangeG n = some ((List.range m).map fun i => ((i : Nat) : Int)) := by
  unfold rangeG
  rw [if_pos (by omega), e, Int.toNat_natCast]
theorem modN {a b : Int} (h : 0 < b) : modG a b = some (a % b) := if_pos h
theorem atN {xs : List α} {i : Int} {n : Nat} (e : i = (n : Int)) (h : n < xs.length) : atI xs i = some (xs[n]'h) := by
  unfold atI ixN
  rw [e, if_pos (by omega), if_pos (by omega), Option.bind_some, Int.toNat_natCast, List.getElem?_eq_getElem h]
theorem atQ {xs : List α} {i : Int} {n : Nat} {x : α} (e : i = (n : Int)) (h : xs[n]? = some x) : atI xs i = some x := by
  obtain ⟨hl, rfl⟩ := List.getElem?_eq_some_iff.mp h
  exact atN e hl
theorem atLast {xs : List α} {x : α} (h : xs ≠ []) : atI xs (-1) = some (xs.getLast h) := by
  have hl : 0 < xs.length := List.length_pos_iff.mpr h
  unfold atI ixN
  rw [if_neg (by decide), if_pos (by omega), Option.bind_some, List.getLast_eq_getElem, show ((-1 : Int) + xs.length).toNat = xs.length - 1 by omega]
  exact List.getElem?_eq_getElem (by omega)
theorem idxM [DecidableEq α] {xs : List α} {a : α} (h : a ∈ xs) : idxT xs a = some ((xs.idxOf a : Nat) : Int) := by
  unfold idxT
  have : xs.findIdx? (fun z => decide (z = a)) = some (xs.idxOf a) := by
    have hl := List.idxOf_lt_length_iff.mpr h
    refine List.findIdx?_eq_some_iff_getElem.mpr ⟨hl, by simp, fun j hj => ?_⟩
    have : xs[j] ≠ a := by
      intro e
      have := List.not_of_lt_findIdx (p := (· == a)) (xs := xs) (i := j) hj
      simp [e] at this
    simp [this]
  rw [this]; rfl
theorem appN {xs : List α} {x : α} (h : xs.length ≤ 100000) : appG xs x = some (xs ++ [x]) := if_pos (bigT h)
theorem catN {xs ys : List α} (h : xs.length + ys.length ≤ 100000) : catG xs ys = some (xs ++ ys) := if_pos (bigL h)
theorem cut_none {xs : List α} {n : Nat} {i : Int} (e : i = (n : Int)) : cutF xs none (some i) = xs.take n := by
  subst e
  have := (HT.sIx xs.length xs.length (some (n : Int)))
  unfold cutF
  show (xs.drop 0).take (HT.sIx xs.length xs.length (some (n : Int)) - 0) = _
  rw [List.drop_zero, Nat.sub_zero]
  unfold HT.sIx
  simp only
  split
  · omega
  · by_cases h : n ≤ xs.length
    · congr 1; omega
    · rw [List.take_of_length_le (by omega), List.take_of_length_le (by omega)]
/-! dicts -/
theorem lookK_mem [DecidableEq κ] {l : List (κ × α)} {k : κ} : (lookK l k).isSome = true ↔ k ∈ l.map (·.1) := by
  unfold lookK
  rw [Option.isSome_map, List.find?_isSome, List.mem_map]
  constructor
  · rintro ⟨x, h1, h2⟩; exact ⟨x, h1, of_decide_eq_true h2⟩
  · rintro ⟨x, h1, h2⟩; exact ⟨x, h1, decide_eq_true h2⟩
theorem putKV_keys [DecidableEq κ] {l : List (κ × α)} {k : κ} {v : α} : (putKV l k v).map (·.1) = if k ∈ l.map (·.1) then l.map (·.1) else l.map (·.1) ++ [k] := by
  unfold putKV
  have e : l.any (fun kv => decide (kv.1 = k)) = decide (k ∈ l.map (·.1)) := by
    by_cases h : k ∈ l.map (·.1)
    · rw [decide_eq_true h]
      obtain ⟨x, h1, h2⟩ := List.mem_map.mp h
      exact List.any_eq_true.mpr ⟨x, h1, decide_eq_true h2⟩
    · rw [decide_eq_false h]
      exact List.any_eq_false.mpr fun x hx => by simpa using fun e => h (List.mem_map.mpr ⟨x, hx, e⟩)
  rw [e]
  by_cases h : k ∈ l.map (·.1)
  · rw [decide_eq_true h, if_pos rfl, if_pos h, List.map_map]
    refine List.map_congr_left fun x _ => ?_
    show (if x.1 = k then (x.1, v) else x).1 = x.1
    split <;> rfl
  · rw [decide_eq_false h, if_neg Bool.false_ne_true, if_neg h, List.map_append]
    rfl
theorem putKV_len [DecidableEq κ] {l : List (κ × α)} {k : κ} {v : α} : (putKV l k v).length ≤ l.length + 1 := by
  unfold putKV
  split
  · rw [List.length_map]; omega
  · rw [List.length_append]; exact Nat.le_refl _
theorem putN [DecidableEq κ] {l : List (κ × α)} {k : κ} {v : α} (h : l.length ≤ 100000) : putG l k v = some (putKV l k v) := if_pos (bigT h)
theorem putKV_nodup [DecidableEq κ] {l : List (κ × α)} {k : κ} {v : α} (h : (l.map (·.1)).Nodup) : ((putKV l k v).map (·.1)).Nodup := by
  rw [putKV_keys]
  split
  · exact h
  · rename_i q
    rw [List.nodup_append]
    exact ⟨h, by simp, fun a ha b hb e => q (by rw [List.mem_singleton] at hb; rw [← hb, ← e]; exact ha)⟩
/-- a loop that puts keys: which keys there are then -/
theorem forT_keys [DecidableEq κ] {f : α → List (κ × β) → Option (List (κ × β))} {k : α → κ} {v : α → β} {N : Nat} (hN : N ≤ 100000) : ∀ {xs : List α} {l : List (κ × β)}, (∀ x ∈ xs, ∀ l : List (κ × β), l.length ≤ N → f x l = some (putKV l (k x) (v x))) → l.length + xs.length ≤ N → (l.map (·.1)).Nodup →
    ∃ l', forT f xs l = some l' ∧ (∀ c, c ∈ l'.map (·.1) ↔ c ∈ l.map (·.1) ∨ c ∈ xs.map k) ∧ (l'.map (·.1)).Nodup ∧ l'.length ≤ l.length + xs.length
  | [], l, _, _, h => ⟨l, rfl, fun c => by simp, h, Nat.le_refl _⟩
  | x :: xs, l, h, hl, hn => by
    rw [List.length_cons] at hl
    have h1 := putKV_len (l := l) (k := k x) (v := v x)
    obtain ⟨l', q1, q2, q3, q4⟩ := forT_keys hN (xs := xs) (l := putKV l (k x) (v x)) (fun y hy => h y (List.mem_cons_of_mem _ hy)) (by omega) (putKV_nodup hn)
    refine ⟨l', ?_, fun c => ?_, q3, by rw [List.length_cons]; omega⟩
    · unfold forT
      rw [h x List.mem_cons_self l (by omega)]
      exact q1
    · rw [q2, putKV_keys, List.map_cons, List.mem_cons]
      split
      · rename_i hk
        exact ⟨fun z => z.elim .inl fun z => .inr (.inr z), fun z => z.elim .inl fun z => z.elim (fun z => .inl (by rw [z]; exact hk)) .inr⟩
      · rw [List.mem_append, List.mem_singleton, or_assoc]
end
theorem le_s1 (a b : Nat) : PySem.W.dataLe false FV.enc (s1 a) (s1 b) = decide (a ≤ b) := by
  have h := congrFun (congrFun (PySem.W.dataLe_str (k := fun n : Nat => (⟨#[n]⟩ : Str))) a) b
  have e : PySem.W.dataLe false FV.enc (s1 a) (s1 b) = PySem.W.dataLe false (fun n : Nat => PyData.str ⟨#[n]⟩) a b := rfl
  rw [e, h]
  have : ([a] ≤ [b]) ↔ a ≤ b := by rw [List.cons_le_cons_iff]; simp; omega
  show decide ([a] ≤ [b]) = decide (a ≤ b)
  simp only [this]
theorem sortOk_s1 (l : List Nat) (h : l.length ≤ BIG) : sortOk (l.map s1) = true := by
  unfold sortOk
  simp only [Bool.and_eq_true, Bool.or_eq_true]
  refine ⟨⟨⟨⟨?_, ?_⟩, .inr ?_⟩, decide_eq_true (by rw [List.length_map]; exact h)⟩, ?_⟩
  · rw [List.all_map]; exact List.all_eq_true.mpr fun x _ => rfl
  · rw [List.all_map]
    refine List.all_eq_true.mpr fun x _ => ?_
    show ((l.map s1).all fun y => PySem.W.alike (s1 x).enc y.enc) = true
    rw [List.all_map]
    exact List.all_eq_true.mpr fun y _ => by
      show PySem.W.alike (.str ⟨#[x]⟩) (.str ⟨#[y]⟩) = true
      rw [PySem.W.alike]
  · rw [List.all_map]; exact List.all_eq_true.mpr fun x _ => rfl
  · rw [List.all_map]
    refine List.all_eq_true.mpr fun x _ => ?_
    show decide ((PyData.str ⟨#[x]⟩).depth ≤ 60) = true
    rw [PyData.depth]
    rfl
theorem rcons_lt {a b : Int} {l m : List Int} : (a :: l) < (b :: m) ↔ a < b ∨ a = b ∧ l < m := List.cons_lt_cons_iff
theorem rapp_lt {a b : List Int} {x y : Int} (hl : a.length = b.length) : (a ++ [x]) < (b ++ [y]) ↔ a < b ∨ a = b ∧ x < y := by
  induction a generalizing b with
  | nil =>
    cases b with
    | nil => simp [rcons_lt]
    | cons c b => simp at hl
  | cons c a ih =>
    cases b with
    | nil => simp at hl
    | cons d b =>
      rw [List.cons_append, List.cons_append, rcons_lt, rcons_lt, ih (by simpa using hl)]
      constructor
      · rintro (h | ⟨h, h2 | ⟨h2, h3⟩⟩)
        · exact .inl (.inl h)
        · exact .inl (.inr ⟨h, h2⟩)
        · exact .inr ⟨by rw [h, h2], h3⟩
      · rintro ((h | ⟨h, h2⟩) | ⟨h, h2⟩)
        · exact .inl h
        · exact .inr ⟨h, .inl h2⟩
        · injection h with h1 h3
          exact .inr ⟨h1, .inr ⟨h3, h2⟩⟩
theorem sortOk_row (l : List (List Int)) (h : l.length ≤ BIG) (hne : ∀ r ∈ l, r ≠ []) : sortOk (l.map rowF) = true := by
  unfold sortOk
  simp only [Bool.and_eq_true, Bool.or_eq_true]
  refine ⟨⟨⟨⟨?_, ?_⟩, .inl ?_⟩, decide_eq_true (by rw [List.length_map]; exact h)⟩, ?_⟩
  · rw [List.all_map]
    refine List.all_eq_true.mpr fun x _ => ?_
    show (rowF x).toD.isSome = true
    rw [toD_row]
    rfl
  · rw [List.all_map]
    refine List.all_eq_true.mpr fun x _ => ?_
    show ((l.map rowF).all fun y => PySem.W.alike (rowF x).enc y.enc) = true
    rw [List.all_map]
    exact List.all_eq_true.mpr fun y _ => alike_row x y
  · rw [List.all_map]
    refine List.all_eq_true.mpr fun x hx => ?_
    show tupD (rowF x).enc = true
    rw [enc_row]
    cases x with
    | nil => exact absurd rfl (hne _ hx)
    | cons n x => rfl
  · rw [List.all_map]
    refine List.all_eq_true.mpr fun x _ => ?_
    show decide ((rowF x).enc.depth ≤ 60) = true
    rw [enc_row, PyData.depth, PySem.W.depth_ints]
    rfl
/-! sorts -/
theorem le_C (a b : Chr) : PySem.W.dataLe false FV.enc (eC a) (eC b) = decide (a ≤ b) := by
  have := le_s1 a.val b.val
  show PySem.W.dataLe false FV.enc (s1 a.val) (s1 b.val) = _
  rw [this]
  by_cases h : a ≤ b
  · rw [decide_eq_true h, decide_eq_true (show a.val ≤ b.val from h)]
  · rw [decide_eq_false h, decide_eq_false (show ¬ a.val ≤ b.val from h)]
theorem le_I (a b : Int) : PySem.W.dataLe false FV.enc (eI a) (eI b) = decide (a ≤ b) := by
  exact congrFun (congrFun (PySem.W.dataLe_int (k := fun n : Int => n)) a) b
theorem sortOk_I (l : List Int) (h : l.length ≤ BIG) : sortOk (l.map eI) = true := by
  unfold sortOk
  simp only [Bool.and_eq_true, Bool.or_eq_true]
  refine ⟨⟨⟨⟨?_, ?_⟩, .inr ?_⟩, decide_eq_true (by rw [List.length_map]; exact h)⟩, ?_⟩
  · rw [List.all_map]; exact List.all_eq_true.mpr fun x _ => rfl
  · rw [List.all_map]
    refine List.all_eq_true.mpr fun x _ => ?_
    show ((l.map eI).all fun y => PySem.W.alike (eI x).enc y.enc) = true
    rw [List.all_map]
    exact List.all_eq_true.mpr fun y _ => by
      show PySem.W.alike (.int x) (.int y) = true
      rw [PySem.W.alike]
  · rw [List.all_map]; exact List.all_eq_true.mpr fun x _ => rfl
  · rw [List.all_map]
    refine List.all_eq_true.mpr fun x _ => ?_
    show decide ((PyData.int x).depth ≤ 60) = true
    rw [PyData.depth]
    rfl
theorem srt_gen {α : Type} {e : α → FV} {le : α → α → Prop} [DecidableRel le] (hle : ∀ a b, PySem.W.dataLe false FV.enc (e a) (e b) = decide (le a b)) (tot : ∀ a b, le a b ∨ le b a) (tr : ∀ a b c, le a b → le b c → le a c) {l : List α} (ok : sortOk (l.map e) = true) : ∃ ys, srt e l = some ys ∧ ys.Perm l ∧ ys.Pairwise le := by
  refine ⟨l.mergeSort fun a b => decide (le a b), ?_, List.mergeSort_perm l _, ?_⟩
  · unfold srt
    rw [if_pos ok]
    congr 2
    funext a b
    exact hle a b
  · have := List.pairwise_mergeSort (le := fun a b => decide (le a b)) (fun a b c h1 h2 => decide_eq_true (tr a b c (of_decide_eq_true h1) (of_decide_eq_true h2))) (fun a b => by
      rcases tot a b with h | h
      · rw [decide_eq_true h]; rfl
      · rw [decide_eq_true h, Bool.or_true]) l
    exact this.imp fun h => of_decide_eq_true h
theorem srtC_ok {l : List Chr} (h : l.length ≤ 100000) : ∃ ys, srt eC l = some ys ∧ ys.Perm l ∧ ys.Pairwise (· ≤ ·) :=
  srt_gen le_C (fun a b => Nat.le_total a.val b.val) (fun a b c h1 h2 => Nat.le_trans h1 h2) (by
    have := sortOk_s1 (l.map Fin.val) (by rw [List.length_map]; exact bigL h)
    rw [List.map_map] at this
    exact this)
theorem srtI_ok {l : List Int} (h : l.length ≤ 100000) : ∃ ys, srt eI l = some ys ∧ ys.Perm l ∧ ys.Pairwise (· ≤ ·) :=
  srt_gen le_I Int.le_total (fun a b c h1 h2 => Int.le_trans h1 h2) (sortOk_I l (bigL h))
theorem srtR_ok {l : List (List Int)} (h : l.length ≤ 100000) (hne : ∀ r ∈ l, r ≠ []) : ∃ ys, srt (eT eI) l = some ys ∧ ys.Perm l ∧ ys.Pairwise (· ≤ ·) :=
  srt_gen (e := eT eI) le_row rle_total (fun a b c => rle_trans) (sortOk_row l (bigL h) hne)
theorem strictC {l : List Chr} (h : l.Pairwise (· ≤ ·)) (n : l.Nodup) : l.Pairwise (· < ·) := (h.and n).imp fun {a b} ⟨h1, h2⟩ => Nat.lt_of_le_of_ne h1 fun e => h2 (Fin.ext e)
theorem strictI {l : List Int} (h : l.Pairwise (· ≤ ·)) (n : l.Nodup) : l.Pairwise (· < ·) := (h.and n).imp fun {a b} ⟨h1, h2⟩ => Int.lt_iff_le_and_ne.mpr ⟨h1, h2⟩
theorem strictI_ext {a b : List Int} (ha : a.Pairwise (· < ·)) (hb : b.Pairwise (· < ·)) (h : ∀ x, x ∈ a ↔ x ∈ b) : a = b := strict_ext Int.lt_irrefl (fun a b c => Int.lt_trans) ha hb h
theorem strictC_ext {a b : List Chr} (ha : a.Pairwise (· < ·)) (hb : b.Pairwise (· < ·)) (h : ∀ x, x ∈ a ↔ x ∈ b) : a = b := strict_ext (fun a => Nat.lt_irrefl a.val) (fun a b c h1 h2 => Nat.lt_trans (m := b.val) h1 h2) ha hb h
theorem setN {l : List Int} (h : l.length < 64) : setG l = some (sortI l) := if_pos h
end J
namespace J
open PySem PySem.Spec PyProof.Rows L2
abbrev top (i : Nat) : Stmt := PySem.Challenge.pw_joinwood_k22_through.main.body.getD i (.Pass ⟨0, 0, 0, 0⟩)
abbrev s__law_mix : Stmt := top 12
abbrev s__law_letters : Stmt := top 13
abbrev s__law_tree : Stmt := top 14
abbrev s__law_numbers : Stmt := top 15
abbrev s__law_rows : Stmt := top 16
abbrev s__law_names : Stmt := top 17
abbrev s_joined : Stmt := top 2
abbrev s_letters_of : Stmt := top 1
abbrev s_answers : Stmt := top 3
abbrev s__law_row_of : Stmt := top 18
abbrev s_downward : Stmt := top 5
abbrev s_key_of : Stmt := top 6
abbrev s_agreeing : Stmt := top 7
abbrev s_reduced : Stmt := top 8
abbrev s_through : Stmt := top 9
abbrev s__law_whole : Stmt := top 11
abbrev s__law_right : Stmt := top 19
abbrev s_law : Stmt := top 20
structure Tx (K : PySem.W.Frag) (mg : Str → Option Value) : Prop where
  b_sum : mg "sum" = none
  b_len : mg "len" = none
  b_range : mg "range" = none
  b_list : mg "list" = none
  b_tuple : mg "tuple" = none
  b_ord : mg "ord" = none
  b_sorted : mg "sorted" = none
  b_zip : mg "zip" = none
  b_dict : mg "dict" = none
  b_reversed : mg "reversed" = none
  b_enumerate : mg "enumerate" = none
  b_isinstance : mg "isinstance" = none
  b_int : mg "int" = none
  b_bool : mg "bool" = none
noncomputable def D__law_mix : DS :=
    (dSeq (dIf (dAndT (dTest (dBin opEq (dBin opMod (dVar 0) (dC (.int 2))) (dC (.int 1)))) (dTest (dBin opNe (dBin opShr (dVar 0) (dC (.int 27))) (dC (.int 0)))))
    (dRet (dBin opMod (dBin opShr (dVar 0) (dBin opAdd (dC (.int 1)) (dBin opMul (dC (.int 20)) (dVar 1)))) (dC (.int 1048576))))
    dSkip)
    (dSeq (dSet 2 (dBin opMod (dBin opAdd (dBin opMul (dVar 0) (dBin opAdd (dBin opMul (dC (.int 2)) (dVar 1)) (dC (.int 3)))) (dVar 1)) (dC (.int 2147483629))))
    (dSeq (dSet 2 (dBin opMod (dBin opMul (dBin opAdd (dBin opMul (dVar 2) (dVar 2)) (dC (.int 1))) (dC (.int 48271))) (dC (.int 2147483629))))
    (dRet (dBin opMod (dBin opMul (dVar 2) (dVar 2)) (dC (.int 2147483587)))))))
noncomputable def m__law_mix : FM := runF 3 D__law_mix
noncomputable def D__law_letters : DS :=
    (dSeq (dSet 1 (dC (.str (Str.ofString "ABCDEFGHIJKLMNOPQRSTUVWXYZ"))))
    (dSeq (dSet 2 (dBin opMod (dCall m__law_mix (dCons (dVar 0) (dCons (dC (.int 1)) dNil))) (dC (.int 26))))
    (dSeq (dSet 3 (dSub (dList (dCons (dC (.int 1)) (dCons (dC (.int 3)) (dCons (dC (.int 5)) (dCons (dC (.int 7)) (dCons (dC (.int 9)) (dCons (dC (.int 11)) dNil))))))) (dBin opMod (dCall m__law_mix (dCons (dVar 0) (dCons (dC (.int 2)) dNil))) (dC (.int 6)))))
    (dIce 3 (dIce 2 (dIce 1 (dRet (dLc (dRange (dC (.int 6))) (tName 4) dTrue (dFrz (dSub (dVar 1) (dBin opMod (dBin opAdd (dVar 2) (dBin opMul (dVar 3) (dVar 4))) (dC (.int 26))))) [4]))))))))
noncomputable def m__law_letters : FM := runF 5 D__law_letters
noncomputable def D__law_tree : DS :=
    (dSeq (dSet 1 (dCall m__law_letters (dCons (dVar 0) dNil)))
    (dSeq (dSet 2 (dList dNil))
    (dSeq (dSet 3 (dList dNil))
    (dSeq (dFor (dRange (dBin opAdd (dC (.int 1)) (dBin opMod (dCall m__law_mix (dCons (dVar 0) (dCons (dC (.int 3)) dNil))) (dC (.int 6))))) (tName 4)
    (dSeq (dSet 5 (dList dNil))
    (dSeq (dIf (dTest (dBin opGt (dVar 4) (dC (.int 0))))
    (dSeq (dApp 3 (dFrz (dBin opMod (dCall m__law_mix (dCons (dVar 0) (dCons (dFrz (dBin opAdd (dC (.int 4)) (dVar 4))) dNil))) (dVar 4))))
    (dSeq (dSet 6 (dSub (dVar 2) (dSub (dVar 3) (dVar 4))))
    (dSet 5 (dSl (dLc (dRange (dCallB opLen (dCons (dVar 6) dNil))) (tName 12) (dTest (dBin opEq (dBin opMod (dCall m__law_mix (dCons (dVar 0) (dCons (dFrz (dBin opAdd (dBin opAdd (dC (.int 20)) (dBin opMul (dC (.int 4)) (dVar 4))) (dVar 12))) dNil))) (dC (.int 2))) (dC (.int 1)))) (dFrz (dSub (dVar 6) (dVar 12))) [12]) dPN (dPS (dC (.int 3)))))))
    (dApp 3 (dC .non)))
    (dSeq (dWhile (dAndT (dTest (dBin opNe (dVar 1) (dList dNil))) (dTest (dBin opLt (dCallB opLen (dCons (dVar 5) dNil)) (dBin opAdd (dC (.int 1)) (dBin opMod (dCall m__law_mix (dCons (dVar 0) (dCons (dFrz (dBin opAdd (dC (.int 12)) (dVar 4))) dNil))) (dC (.int 4)))))))
    (dAppPop 5 1 (dC (.int 0))))
    (dSeq (dIf (dTest (dBin opEq (dVar 5) (dList dNil)))
    (dSet 5 (dList (dCons (dFrz (dSub (dSub (dVar 2) (dSub (dVar 3) (dVar 4))) (dC (.int 0)))) dNil)))
    dSkip)
    (dSeq (dIf (dTest (dBin opEq (dBin opMod (dCall m__law_mix (dCons (dVar 0) (dCons (dFrz (dBin opAdd (dC (.int 50)) (dVar 4))) dNil))) (dC (.int 2))) (dC (.int 1))))
    (dSet 5 (dUn opRev (dVar 5)))
    dSkip)
    (dApp 2 (dFrz (dCallB opTupY (dCons (dVar 5) dNil))))))))))
    (dSeq (dSet 7 (dCallB opLen (dCons (dVar 2) dNil)))
    (dSeq (dSet 8 (dBin opMod (dCall m__law_mix (dCons (dVar 0) (dCons (dC (.int 60)) dNil))) (dVar 7)))
    (dSeq (dSet 9 (dLc (dRange (dVar 7)) (tName 12) dTrue (dFrz (dBin opMod (dBin opAdd (dVar 12) (dVar 8)) (dVar 7))) [12]))
    (dSeq (dIce 9 (dIf (dTest (dBin opEq (dBin opMod (dCall m__law_mix (dCons (dVar 0) (dCons (dC (.int 61)) dNil))) (dC (.int 2))) (dC (.int 1))))
    (dSeq (dSet 9 (dUn opRev (dVar 9)))
    (dIce 9 dSkip))
    dSkip))
    (dSeq (dSet 10 (dLc (dRange (dVar 7)) (tName 12) dTrue (dC .non) [12]))
    (dSeq (dFor (dRange (dVar 7)) (tName 4)
    (dIf (dTest (dUn opNotN (dSub (dVar 3) (dVar 4))))
    (dPut 10 (dSub (dVar 9) (dVar 4)) (dFrz (dSub (dVar 9) (dSub (dVar 3) (dVar 4)))))
    dSkip))
    (dSeq (dSet 11 (dLc (dRange (dVar 7)) (tName 12) dTrue (dFrz (dTup dNil)) [12]))
    (dSeq (dFor (dRange (dVar 7)) (tName 4)
    (dPut 11 (dSub (dVar 9) (dVar 4)) (dFrz (dSub (dVar 2) (dVar 4)))))
    (dIce 10 (dIce 11 (dRet (dTup (dCons (dVar 11) (dCons (dVar 10) dNil))))))))))))))))))
noncomputable def m__law_tree : FM := runF 13 D__law_tree
noncomputable def D__law_numbers : DS :=
    (dSeq (dSet 1 (dBin opMod (dVar 0) (dBin opSub (dBin opPow (dC (.int 10)) (dC (.int 60))) (dC (.int 1)))))
    (dRet (dSub (dList (dCons (dFrz (dList (dCons (dVar 1) (dCons (dC (.int 0)) dNil)))) (dCons (dFrz (dList (dCons (dVar 1) (dCons (dFrz (dUn opNeg (dVar 1))) (dCons (dFrz (dBin opAdd (dVar 1) (dC (.int 1)))) dNil))))) (dCons (dFrz (dList (dCons (dC (.int 0)) (dCons (dFrz (dUn opNeg (dVar 1))) (dCons (dC (.int 1)) dNil))))) dNil)))) (dBin opMod (dCall m__law_mix (dCons (dVar 0) (dCons (dC (.int 70)) dNil))) (dC (.int 3))))))
noncomputable def m__law_numbers : FM := runF 2 D__law_numbers
noncomputable def D__law_rows : DS :=
    (dSeq (dSet 3 (dCall m__law_numbers (dCons (dVar 2) dNil)))
    (dSeq (dIce 3 (dSet 4 (dLcD (cItems (dVar 0)) (tName 8) dTrue (dList dNil) [8])))
    (dSeq (dIce 1 (dFor (dItems (dVar 1)) (tName 5)
    (dSeq (dSet 6 (dBin opMod (dCall m__law_mix (dCons (dVar 5) (dCons (dC (.int 1)) dNil))) (dCallB opLen (dCons (dVar 0) dNil))))
    (dSeq (dSet 7 (dCallB opTup (dCons (dLc (dRange (dCallB opLen (dCons (dSub (dVar 0) (dVar 6)) dNil))) (tName 10) dTrue (dFrz (dSub (dVar 3) (dBin opMod (dCall m__law_mix (dCons (dVar 5) (dCons (dFrz (dBin opAdd (dC (.int 2)) (dVar 10))) dNil))) (dCallB opLen (dCons (dVar 3) dNil))))) [10]) dNil)))
    (dIf (dTest (dBin (opIn true) (dVar 7) (dSub (dVar 4) (dVar 6))))
    (dIce 7 (dAppAt 4 (dVar 6) (dVar 7)))
    dSkip)))))
    (dSeq (dIf (dTest (dBin opGt (dBin opMod (dCall m__law_mix (dCons (dVar 2) (dCons (dC (.int 71)) dNil))) (dC (.int 4))) (dC (.int 0))))
    (dFor (dRange (dCallB opLen (dCons (dVar 0) dNil))) (tName 6)
    (dSeq (dSet 7 (dCallB opTup (dCons (dLc (cItems (dSub (dVar 0) (dVar 6))) (tName 11) dTrue (dFrz (dSub (dVar 3) (dBin opMod (dCallB opOrd (dCons (dVar 11) dNil)) (dCallB opLen (dCons (dVar 3) dNil))))) [11]) dNil)))
    (dIf (dTest (dBin (opIn true) (dVar 7) (dSub (dVar 4) (dVar 6))))
    (dIce 7 (dAppAt 4 (dVar 6) (dVar 7)))
    dSkip)))
    dSkip)
    (dIce 7 (dIce 6 (dIce 5 (dIce 4 (dIce 3 (dRet (dLc (cItems (dVar 4)) (tName 9) dTrue (dFrz (dCallB opSorted (dCons (dVar 9) dNil))) [9])))))))))))
noncomputable def m__law_rows : FM := runF 12 D__law_rows
noncomputable def D__law_names : DS :=
    (dSeq (dSet 1 (dNewK))
    (dSeq (dIce 0 (dFor (dItems (dVar 0)) (tName 2)
    (dIce 2 (dFor (dItems (dVar 2)) (tName 3)
    (dPut 1 (dVar 3) (dC (.bl true)))))))
    (dRet (dKeysS (dVar 1)))))
noncomputable def m__law_names : FM := runF 4 D__law_names
noncomputable def D_joined : DS :=
    (dSeq (dSet 3 (dCallB opDict (dCons (dVar 0) dNil)))
    (dSeq (dIce 2 (dIce 1 (dFor (dZip (dVar 1) (dVar 2)) (tTup2 4 5)
    (dSetd 3 (dVar 4) (dVar 5) (dVar 5) opNe
    (dRet (dC .non))
    dSkip))))
    (dRetV 3)))
noncomputable def m_joined : FM := runF 6 D_joined
noncomputable def D_letters_of : DS :=
    (dSeq (dSet 1 (dNewK))
    (dSeq (dIce 0 (dFor (dItems (dVar 0)) (tName 2)
    (dIce 2 (dFor (dItems (dVar 2)) (tName 3)
    (dPut 1 (dVar 3) (dC (.bl true)))))))
    (dRet (dKeysS (dVar 1)))))
noncomputable def m_letters_of : FM := runF 4 D_letters_of
noncomputable def D_answers : DS :=
    (dSeq (dSet 2 (dList (dCons (dFrz (dNewK)) dNil)))
    (dSeq (dIce 2 (dIce 1 (dIce 0 (dFor (dZip (dVar 0) (dVar 1)) (tTup2 3 4)
    (dSeq (dSet 5 (dList dNil))
    (dSeq (dIce 2 (dFor (dItems (dVar 2)) (tName 6)
    (dIce 4 (dFor (dItems (dVar 4)) (tName 7)
    (dSeq (dSet 8 (dCall m_joined (dCons (dVar 6) (dCons (dVar 3) (dCons (dVar 7) dNil)))))
    (dIce 8 (dIf (dTest (dUn opNotN (dVar 8)))
    (dIce 8 (dApp 5 (dVar 8)))
    dSkip)))))))
    (dIce 5 (dSet 2 (dVar 5)))))))))
    (dSeq (dSet 9 (dCall m_letters_of (dCons (dVar 0) dNil)))
    (dIce 9 (dIce 9 (dIce 8 (dIce 7 (dIce 6 (dIce 5 (dIce 4 (dIce 3 (dIce 2 (dRet (dCallB opSorted (dCons (dLc (cItems (dVar 2)) (tName 6) dTrue (dFrz (dCallB opTup (dCons (dLc (cItems (dVar 9)) (tName 10) dTrue (dFrz (dSub (dVar 6) (dVar 10))) [10]) dNil))) [6]) dNil)))))))))))))))
noncomputable def m_answers : FM := runF 11 D_answers
noncomputable def D__law_row_of : DS :=
    (dRet (dCallB opTup (dCons (dLc (cItems (dVar 1)) (tName 3) dTrue (dFrz (dSub (dVar 2) (dIdx (dVar 0) (dCons (dVar 3) dNil)))) [3]) dNil)))
noncomputable def m__law_row_of : FM := runF 4 D__law_row_of
noncomputable def D_downward : DS :=
    (dSeq (dSet 1 (dList (dCons (dFrz (dIdx (dVar 0) (dCons (dC .non) dNil))) dNil)))
    (dSeq (dSet 2 (dC (.int 0)))
    (dSeq (dWhile (dTest (dBin opLt (dVar 2) (dCallB opLen (dCons (dVar 1) dNil))))
    (dSeq (dExt 1 (dFrz (dLc (cEnum (dVar 0)) (tTup2 3 4) (dTest (dBin opEq (dVar 4) (dSub (dVar 1) (dVar 2)))) (dVar 3) [3, 4])))
    (dAugI 2 (fun a b => a + b) (dC (.int 1)))))
    (dRetV 1))))
noncomputable def m_downward : FM := runF 5 D_downward
noncomputable def D_key_of : DS :=
    (dRet (dCallB opTup (dCons (dLc (cItems (dVar 2)) (tName 3) dTrue (dFrz (dSub (dVar 1) (dIdx (dVar 0) (dCons (dVar 3) dNil)))) [3]) dNil)))
noncomputable def m_key_of : FM := runF 4 D_key_of
noncomputable def D_agreeing : DS :=
    (dSeq (dSet 4 (dLc (cItems (dSub (dVar 0) (dVar 2))) (tName 7) (dTest (dBin (opIn false) (dVar 7) (dSub (dVar 0) (dVar 3)))) (dVar 7) [7]))
    (dSeq (dIce 4 (dSet 5 (dNewT)))
    (dSeq (dIce 1 (dFor (dItems (dSub (dVar 1) (dVar 3))) (tName 6)
    (dPut 5 (dCall m_key_of (dCons (dFrz (dSub (dVar 0) (dVar 3))) (dCons (dVar 6) (dCons (dVar 4) dNil)))) (dC (.bl true)))))
    (dIce 6 (dIce 5 (dIce 4 (dRet (dLc (cItems (dSub (dVar 1) (dVar 2))) (tName 6) (dTest (dBin (opIn false) (dCall m_key_of (dCons (dFrz (dSub (dVar 0) (dVar 2))) (dCons (dVar 6) (dCons (dVar 4) dNil)))) (dVar 5))) (dVar 6) [6]))))))))
noncomputable def m_agreeing : FM := runF 8 D_agreeing
noncomputable def D_reduced : DS :=
    (dSeq (dSet 3 (dLc (cItems (dVar 1)) (tName 6) dTrue (dFrz (dCallB opList (dCons (dVar 6) dNil))) [6]))
    (dSeq (dSet 4 (dCall m_downward (dCons (dVar 2) dNil)))
    (dSeq (dIce 4 (dIce 4 (dFor (dRevd (dVar 4)) (tName 5)
    (dIf (dTest (dUn opNotN (dSub (dVar 2) (dVar 5))))
    (dPut 3 (dSub (dVar 2) (dVar 5)) (dFrz (dCall m_agreeing (dCons (dVar 0) (dCons (dVar 3) (dCons (dFrz (dSub (dVar 2) (dVar 5))) (dCons (dVar 5) dNil)))))))
    dSkip))))
    (dSeq (dIce 4 (dFor (dItems (dVar 4)) (tName 5)
    (dIf (dTest (dUn opNotN (dSub (dVar 2) (dVar 5))))
    (dPut 3 (dVar 5) (dFrz (dCall m_agreeing (dCons (dVar 0) (dCons (dVar 3) (dCons (dVar 5) (dCons (dFrz (dSub (dVar 2) (dVar 5))) dNil)))))))
    dSkip)))
    (dRetV 3)))))
noncomputable def m_reduced : FM := runF 7 D_reduced
noncomputable def D_through : DS :=
    (dSeq (dSet 5 (dLc (cItems (dVar 1)) (tName 10) dTrue (dFrz (dCallB opList (dCons (dVar 10) dNil))) [10]))
    (dSeq (dIce 4 (dPut 5 (dVar 3) (dFrz (dList (dCons (dVar 4) dNil)))))
    (dSeq (dIce 5 (dSet 5 (dCall m_reduced (dCons (dVar 0) (dCons (dVar 5) (dCons (dVar 2) dNil))))))
    (dSeq (dIf (dTest (dBin opEq (dSub (dVar 5) (dVar 3)) (dList dNil)))
    (dRet (dC .non))
    dSkip)
    (dSeq (dSet 6 (dNewK))
    (dSeq (dIce 5 (dFor (dItems (dCall m_downward (dCons (dVar 2) dNil))) (tName 7)
    (dSeq (dSet 8 (dLc (cItems (dSub (dVar 0) (dVar 7))) (tName 11) (dTest (dBin (opIn false) (dVar 11) (dVar 6))) (dVar 11) [11]))
    (dIce 8 (dIce 5 (dIce 5 (dFor (dItems (dSub (dVar 5) (dVar 7))) (tName 9)
    (dIf (dTest (dBin opEq (dCall m_key_of (dCons (dFrz (dSub (dVar 0) (dVar 7))) (dCons (dVar 9) (dCons (dVar 8) dNil)))) (dCallB opTup (dCons (dLc (cItems (dVar 8)) (tName 11) dTrue (dFrz (dSub (dVar 6) (dVar 11))) [11]) dNil))))
    (dSeq (dUpd 6 (dFrz (dDictZip (dCons (dSub (dVar 0) (dVar 7)) (dCons (dVar 9) dNil)))))
    dBrk)
    dSkip))))))))
    (dIce 9 (dIce 8 (dIce 7 (dIce 6 (dIce 5 (dRet (dCallB opTup (dCons (dLc (cItems (dCall m_letters_of (dCons (dVar 0) dNil))) (tName 11) dTrue (dFrz (dSub (dVar 6) (dVar 11))) [11]) dNil))))))))))))))
noncomputable def m_through : FM := runF 12 D_through
noncomputable def D__law_whole : DS :=
    (dRet (dAndV (dUn (opIsa ["int"]) (dVar 0)) (dB (dNotT (dTest (dUn (opIsa ["bool"]) (dVar 0)))))))
noncomputable def m__law_whole : FM := runF 1 D__law_whole
noncomputable def D__law_right : DS :=
    (dSeq (dIf (dOrT (dNotT (dTest (dUn (opIsa ["tuple"]) (dVar 0)))) (dOrT (dTest (dBin (opIn true) (dVar 0) (dVar 4))) (dTest (dBin opNe (dCall m__law_row_of (dCons (dVar 1) (dCons (dVar 2) (dCons (dVar 0) dNil)))) (dVar 3)))))
    (dRet (dC (.bl false)))
    dSkip)
    (dRet (dBin opEq (dLc (cItems (dVar 0)) (tName 5) (dNotT (dTest (dCall m__law_whole (dCons (dVar 5) dNil)))) (dVar 5) [5]) (dList dNil))))
noncomputable def m__law_right : FM := runF 6 D__law_right
noncomputable def D_law : DS :=
    (dSeq (dIce 1 (dSet 2 (dCallB opSum (dCons (dVar 1) dNil))))
    (dSeq (dAsgT (dFrz (dCall m__law_tree (dCons (dVar 2) dNil))) (tTup2 3 4))
    (dSeq (dSet 5 (dCall m__law_rows (dCons (dVar 3) (dCons (dVar 1) (dCons (dVar 2) dNil)))))
    (dSeq (dIce 5 (dSet 6 (dCall m__law_names (dCons (dVar 3) dNil))))
    (dSeq (dIce 6 (dSet 7 (dNewT)))
    (dSeq (dSet 8 (dNewN))
    (dSeq (dFor (dItems (dCall m_answers (dCons (dVar 3) (dCons (dVar 5) dNil)))) (tName 9)
    (dSeq (dPut 7 (dVar 9) (dC (.bl true)))
    (dFor (dRange (dCallB opLen (dCons (dVar 3) dNil))) (tName 10)
    (dNPut 8 (dTup (dCons (dVar 10) (dCons (dFrz (dCall m__law_row_of (dCons (dVar 6) (dCons (dFrz (dSub (dVar 3) (dVar 10))) (dCons (dVar 9) dNil))))) dNil))) (dC (.bl true))))))
    (dSeq (dFor (dRange (dCallB opLen (dCons (dVar 3) dNil))) (tName 10)
    (dFor (dItems (dCallB opList (dCons (dSub (dVar 5) (dVar 10)) dNil))) (tName 11)
    (dSeq (dSet 12 (dCall m_through (dCons (dVar 3) (dCons (dVar 5) (dCons (dVar 4) (dCons (dVar 10) (dCons (dVar 11) dNil)))))))
    (dIce 12 (dIf (dTest (dBin opNoN (dTup (dCons (dVar 10) (dCons (dVar 11) dNil))) (dVar 8)))
    (dIf (dTest (dUn opNotN (dVar 12)))
    (dRet (dC (.bl false)))
    dSkip)
    (dIf (dNotT (dTest (dCall m__law_right (dCons (dVar 12) (dCons (dVar 6) (dCons (dFrz (dSub (dVar 3) (dVar 10))) (dCons (dVar 11) (dCons (dVar 7) dNil))))))))
    (dRet (dC (.bl false)))
    dSkip))))))
    (dRet (dAndV (dBin opEq (dTup (dCons (dVar 3) (dCons (dVar 4) dNil))) (dCall m__law_tree (dCons (dVar 2) dNil))) (dBin opEq (dVar 5) (dCall m__law_rows (dCons (dVar 3) (dCons (dVar 1) (dCons (dVar 2) dNil)))))))))))))))
noncomputable def m_law : FM := runF 13 D_law
section
variable {P : Program} {w : World} {K : PySem.W.Frag} {mg : Str → Option Value} {base : Heap}
abbrev N__law_mix : List Str := ["_law_cell", "_law_j", "_law_number"]
theorem sc__law_mix : FnScope N__law_mix ["_law_cell", "_law_j"] (defScope s__law_mix) := ⟨rfl, rfl, rfl, by decide +kernel, rfl, by decide +kernel, by decide +kernel⟩
theorem ok__law_mix {f : Addr} {fd : FuncData} (F : Fun K "_law_mix" "_law_mix" s__law_mix f fd) (T : Tx K mg)  : FnOk P w K mg base (L2.CX P w) 1 f fd ["_law_cell", "_law_j"] (spF mg 2 m__law_mix) :=
  ok_of F sc__law_mix fun cdv A outer s H E (hr : Room 0 _) tk hp =>
    (jss_cons (js_if (jt_w (jw_and (jt_cmp (oj_eq (u64 hr)) (je_bin oj_mod (je_var 0) je_int) je_int) (jw_and1 (jt_cmp (oj_ne (u64 hr)) (je_bin oj_shr (je_var 0) je_int) je_int))))
    (jss_one (js_ret (je_bin oj_mod (je_bin oj_shr (je_var 0) (je_bin oj_add je_int (je_bin oj_mul je_int (je_var 1)))) je_int)))
    jss_nil)
    (jss_cons (js_set 2 sc__law_mix.nd (je_bin oj_mod (je_bin oj_add (je_bin oj_mul (je_var 0) (je_bin oj_add (je_bin oj_mul je_int (je_var 1)) je_int)) (je_var 1)) je_int))
    (jss_cons (js_set 2 sc__law_mix.nd (je_bin oj_mod (je_bin oj_mul (je_bin oj_add (je_bin oj_mul (je_var 2) (je_var 2)) je_int) je_int) je_int))
    (jss_one (js_ret (je_bin oj_mod (je_bin oj_mul (je_var 2) (je_var 2)) je_int))))))
abbrev N__law_letters : List Str := ["_law_cell", "_law_letters_here", "_law_start", "_law_step", "_law_k"]
theorem sc__law_letters : FnScope N__law_letters ["_law_cell"] (defScope s__law_letters) := ⟨rfl, rfl, rfl, by decide +kernel, rfl, by decide +kernel, by decide +kernel⟩
theorem ok__law_letters {f : Addr} {fd : FuncData} (F : Fun K "_law_letters" "_law_letters" s__law_letters f fd) (T : Tx K mg) (C__law_mix : Cal P w K mg base 1 "_law_mix" 2 m__law_mix) : FnOk P w K mg base (L2.CX P w) 2 f fd ["_law_cell"] (spF mg 1 m__law_letters) :=
  ok_of F sc__law_letters fun cdv A outer s H E (hr : Room 1 _) tk hp =>
    (jss_cons (js_set 1 sc__law_letters.nd je_str)
    (jss_cons (js_set 2 sc__law_letters.nd (je_bin oj_mod (je_cal tk C__law_mix hr (ja_cons (je_var 0) (ja_cons je_int ja_nil))) je_int))
    (jss_cons (js_set 3 sc__law_letters.nd (je_sub (u1 hr) (je_list (ja_cons je_int (ja_cons je_int (ja_cons je_int (ja_cons je_int (ja_cons je_int (ja_cons je_int ja_nil))))))) (je_bin oj_mod (je_cal tk C__law_mix hr (ja_cons (je_var 0) (ja_cons je_int ja_nil))) je_int)))
    (jss_one (js_ice 3 (js_ice 2 (js_ice 1 (js_ret (je_lc (own := [((Str.ofString "_law_k"), 4)]) rfl sc__law_letters.nd (jc_range je_int T.b_range) (blkOk_by (by rfl)) (fun _ _ _ _ _ => (jg_name 4 sc__law_letters.nd)) (fun _ _ _ _ _ => jts_nil) (fun _ _ _ _ _ => (je_frz (je_sub (u1 hr) (je_var 1) (je_bin oj_mod (je_bin oj_add (je_var 2) (je_bin oj_mul (je_var 3) (je_var 4))) je_int)))) tg_name)))))))))
abbrev N__law_tree : List Str := ["_law_cell", "_law_fresh", "_law_shape", "_law_parents", "_law_i", "_law_some", "_law_above", "_law_many", "_law_far", "_law_names_here", "_law_told", "_law_turned", "_law_k"]
theorem sc__law_tree : FnScope N__law_tree ["_law_cell"] (defScope s__law_tree) := ⟨rfl, rfl, rfl, by decide +kernel, rfl, by decide +kernel, by decide +kernel⟩
theorem ok__law_tree {f : Addr} {fd : FuncData} (F : Fun K "_law_tree" "_law_tree" s__law_tree f fd) (T : Tx K mg) (C__law_letters : Cal P w K mg base 2 "_law_letters" 1 m__law_letters) (C__law_mix : Cal P w K mg base 1 "_law_mix" 2 m__law_mix) : FnOk P w K mg base (L2.CX P w) 3 f fd ["_law_cell"] (spF mg 1 m__law_tree) :=
  ok_of F sc__law_tree fun cdv A outer s H E (hr : Room 2 _) tk hp =>
    (jss_cons (js_set 1 sc__law_tree.nd (je_cal tk C__law_letters hr (ja_cons (je_var 0) ja_nil)))
    (jss_cons (js_set 2 sc__law_tree.nd (je_list ja_nil))
    (jss_cons (js_set 3 sc__law_tree.nd (je_list ja_nil))
    (jss_cons (js_for hp rfl (ji_range (je_bin oj_add je_int (je_bin oj_mod (je_cal tk C__law_mix hr (ja_cons (je_var 0) (ja_cons je_int ja_nil))) je_int)) T.b_range) (jg_name 4 sc__law_tree.nd)
    (jss_cons (js_set 5 sc__law_tree.nd (je_list ja_nil))
    (jss_cons (js_if (jt_cmp oj_gt (je_var 4) je_int)
    (jss_cons (js_append 3 (je_frz (je_bin oj_mod (je_cal tk C__law_mix hr (ja_cons (je_var 0) (ja_cons (je_frz (je_bin oj_add je_int (je_var 4))) ja_nil))) (je_var 4))))
    (jss_cons (js_set 6 sc__law_tree.nd (je_sub (u1 hr) (je_var 2) (je_sub (u1 hr) (je_var 3) (je_var 4))))
    (jss_one (js_set 5 sc__law_tree.nd (je_slice (je_lc (own := [((Str.ofString "_law_k"), 12)]) rfl sc__law_tree.nd (jc_range (je_callB cj_len (ja_cons (je_var 6) ja_nil) T.b_len boot_len) T.b_range) (blkOk_by (by rfl)) (fun _ _ _ _ _ => (jg_name 12 sc__law_tree.nd)) (fun _ _ _ _ _ => (jts_one (jt_cmp (oj_eq (u64 hr)) (je_bin oj_mod (je_cal takes0 C__law_mix hr (ja_cons (je_var 0) (ja_cons (je_frz (je_bin oj_add (je_bin oj_add je_int (je_bin oj_mul je_int (je_var 4))) (je_var 12))) ja_nil))) je_int) je_int))) (fun _ _ _ _ _ => (je_frz (je_sub (u1 hr) (je_var 6) (je_var 12)))) tg_name) jo_none (jo_some je_int))))))
    (jss_one (js_append 3 je_non)))
    (jss_cons (js_while hp (jt_w (jw_and (jt_cmp (oj_ne (u64 hr)) (je_var 1) (je_list ja_nil)) (jw_and1 (jt_cmp oj_lt (je_callB cj_len (ja_cons (je_var 5) ja_nil) T.b_len boot_len) (je_bin oj_add je_int (je_bin oj_mod (je_cal tk C__law_mix hr (ja_cons (je_var 0) (ja_cons (je_frz (je_bin oj_add je_int (je_var 4))) ja_nil))) je_int))))))
    (jss_one (js_appPop 5 1 je_int)))
    (jss_cons (js_if (jt_cmp (oj_eq (u64 hr)) (je_var 5) (je_list ja_nil))
    (jss_one (js_set 5 sc__law_tree.nd (je_list (ja_cons (je_frz (je_sub (u1 hr) (je_sub (u1 hr) (je_var 2) (je_sub (u1 hr) (je_var 3) (je_var 4))) je_int)) ja_nil))))
    jss_nil)
    (jss_cons (js_if (jt_cmp (oj_eq (u64 hr)) (je_bin oj_mod (je_cal tk C__law_mix hr (ja_cons (je_var 0) (ja_cons (je_frz (je_bin oj_add je_int (je_var 4))) ja_nil))) je_int) je_int)
    (jss_one (js_set 5 sc__law_tree.nd (je_rev (je_var 5))))
    jss_nil)
    (jss_one (js_append 2 (je_frz (je_callTy (cj_tupY rfl) (ja_cons (je_var 5) ja_nil) T.b_tuple boot_tuple))))))))))
    (jss_cons (js_set 7 sc__law_tree.nd (je_callB cj_len (ja_cons (je_var 2) ja_nil) T.b_len boot_len))
    (jss_cons (js_set 8 sc__law_tree.nd (je_bin oj_mod (je_cal tk C__law_mix hr (ja_cons (je_var 0) (ja_cons je_int ja_nil))) (je_var 7)))
    (jss_cons (js_setLc 9 rfl sc__law_tree.nd (sw_true rfl rfl rfl rfl) (own := [((Str.ofString "_law_k"), 12)]) (jc_range (je_var 7) T.b_range) (blkOk_by (by rfl)) (fun _ _ _ _ _ => (jg_name 12 sc__law_tree.nd)) (fun _ _ _ _ _ => jts_nil) (fun _ _ _ _ _ => (je_frz (je_bin oj_mod (je_bin oj_add (je_var 12) (je_var 8)) (je_var 7)))) tg_name)
    (jss_cons (js_ice 9 (js_if (jt_cmp (oj_eq (u64 hr)) (je_bin oj_mod (je_cal tk C__law_mix hr (ja_cons (je_var 0) (ja_cons je_int ja_nil))) je_int) je_int)
    (jss_cons (js_set 9 sc__law_tree.nd (je_rev (je_var 9)))
    (jss_ice 9 jss_nil))
    jss_nil))
    (jss_cons (js_setLc 10 rfl sc__law_tree.nd (sw_true rfl rfl rfl rfl) (own := [((Str.ofString "_law_k"), 12)]) (jc_range (je_var 7) T.b_range) (blkOk_by (by rfl)) (fun _ _ _ _ _ => (jg_name 12 sc__law_tree.nd)) (fun _ _ _ _ _ => jts_nil) (fun _ _ _ _ _ => je_non) tg_name)
    (jss_cons (js_for hp rfl (ji_range (je_var 7) T.b_range) (jg_name 4 sc__law_tree.nd)
    (jss_one (js_if (jt_notN (je_sub (u1 hr) (je_var 3) (je_var 4)))
    (jss_one (js_put 10 (u1 hr) (je_sub (u1 hr) (je_var 9) (je_var 4)) (je_frz (je_sub (u1 hr) (je_var 9) (je_sub (u1 hr) (je_var 3) (je_var 4))))))
    jss_nil)))
    (jss_cons (js_setLc 11 rfl sc__law_tree.nd (sw_true rfl rfl rfl rfl) (own := [((Str.ofString "_law_k"), 12)]) (jc_range (je_var 7) T.b_range) (blkOk_by (by rfl)) (fun _ _ _ _ _ => (jg_name 12 sc__law_tree.nd)) (fun _ _ _ _ _ => jts_nil) (fun _ _ _ _ _ => (je_frz (je_tup ja_nil))) tg_name)
    (jss_cons (js_for hp rfl (ji_range (je_var 7) T.b_range) (jg_name 4 sc__law_tree.nd)
    (jss_one (js_put 11 (u1 hr) (je_sub (u1 hr) (je_var 9) (je_var 4)) (je_frz (je_sub (u1 hr) (je_var 2) (je_var 4))))))
    (jss_one (js_ice 10 (js_ice 11 (js_ret (je_tup (ja_cons (je_var 11) (ja_cons (je_var 10) ja_nil)))))))))))))))))))
abbrev N__law_numbers : List Str := ["_law_cell", "_law_far"]
theorem sc__law_numbers : FnScope N__law_numbers ["_law_cell"] (defScope s__law_numbers) := ⟨rfl, rfl, rfl, by decide +kernel, rfl, by decide +kernel, by decide +kernel⟩
theorem ok__law_numbers {f : Addr} {fd : FuncData} (F : Fun K "_law_numbers" "_law_numbers" s__law_numbers f fd) (T : Tx K mg) (C__law_mix : Cal P w K mg base 1 "_law_mix" 2 m__law_mix) : FnOk P w K mg base (L2.CX P w) 2 f fd ["_law_cell"] (spF mg 1 m__law_numbers) :=
  ok_of F sc__law_numbers fun cdv A outer s H E (hr : Room 1 _) tk hp =>
    (jss_cons (js_set 1 sc__law_numbers.nd (je_bin oj_mod (je_var 0) (je_bin oj_sub (je_bin oj_pow je_int je_int) je_int)))
    (jss_one (js_ret (je_sub (u1 hr) (je_list (ja_cons (je_frz (je_list (ja_cons (je_var 1) (ja_cons je_int ja_nil)))) (ja_cons (je_frz (je_list (ja_cons (je_var 1) (ja_cons (je_frz (je_neg (je_var 1))) (ja_cons (je_frz (je_bin oj_add (je_var 1) je_int)) ja_nil))))) (ja_cons (je_frz (je_list (ja_cons je_int (ja_cons (je_frz (je_neg (je_var 1))) (ja_cons je_int ja_nil))))) ja_nil)))) (je_bin oj_mod (je_cal tk C__law_mix hr (ja_cons (je_var 0) (ja_cons je_int ja_nil))) je_int)))))
abbrev N__law_rows : List Str := ["_law_shape", "_law_cells", "_law_total", "_law_numbers_here", "_law_found", "_law_cell", "_law_i", "_law_row", "_law_pattern", "_law_lines", "_law_k", "_law_letter"]
theorem sc__law_rows : FnScope N__law_rows ["_law_shape", "_law_cells", "_law_total"] (defScope s__law_rows) := ⟨rfl, rfl, rfl, by decide +kernel, rfl, by decide +kernel, by decide +kernel⟩
theorem ok__law_rows {f : Addr} {fd : FuncData} (F : Fun K "_law_rows" "_law_rows" s__law_rows f fd) (T : Tx K mg) (C__law_numbers : Cal P w K mg base 2 "_law_numbers" 1 m__law_numbers) (C__law_mix : Cal P w K mg base 1 "_law_mix" 2 m__law_mix) : FnOk P w K mg base (L2.CX P w) 3 f fd ["_law_shape", "_law_cells", "_law_total"] (spF mg 3 m__law_rows) :=
  ok_of F sc__law_rows fun cdv A outer s H E (hr : Room 2 _) tk hp =>
    (jss_cons (js_set 3 sc__law_rows.nd (je_cal tk C__law_numbers hr (ja_cons (je_var 2) ja_nil)))
    (jss_cons (js_ice 3 (js_setLcD 4 rfl sc__law_rows.nd (sw_true rfl rfl rfl rfl) (own := [((Str.ofString "_law_pattern"), 8)]) (jc_items (je_var 0)) (blkOk_by (by rfl)) (fun _ _ _ _ _ => (jg_name 8 sc__law_rows.nd)) (fun _ _ _ _ _ => jts_nil) (fun _ _ _ _ _ => (je_list ja_nil)) tg_name))
    (jss_cons (js_ice 1 (js_for hp rfl (ji_items (je_var 1)) (jg_name 5 sc__law_rows.nd)
    (jss_cons (js_set 6 sc__law_rows.nd (je_bin oj_mod (je_cal tk C__law_mix hr (ja_cons (je_var 5) (ja_cons je_int ja_nil))) (je_callB cj_len (ja_cons (je_var 0) ja_nil) T.b_len boot_len)))
    (jss_cons (js_set 7 sc__law_rows.nd (je_callTy (cj_tup rfl) (ja_cons (je_lc (own := [((Str.ofString "_law_k"), 10)]) rfl sc__law_rows.nd (jc_range (je_callB cj_len (ja_cons (je_sub (u1 hr) (je_var 0) (je_var 6)) ja_nil) T.b_len boot_len) T.b_range) (blkOk_by (by rfl)) (fun _ _ _ _ _ => (jg_name 10 sc__law_rows.nd)) (fun _ _ _ _ _ => jts_nil) (fun _ _ _ _ _ => (je_frz (je_sub (u1 hr) (je_var 3) (je_bin oj_mod (je_cal takes0 C__law_mix hr (ja_cons (je_var 5) (ja_cons (je_frz (je_bin oj_add je_int (je_var 10))) ja_nil))) (je_callB cj_len (ja_cons (je_var 3) ja_nil) T.b_len boot_len))))) tg_name) ja_nil) T.b_tuple boot_tuple))
    (jss_one (js_if (jt_notIn (u65 hr) (je_var 7) (je_sub (u1 hr) (je_var 4) (je_var 6)))
    (jss_one (js_ice 7 (js_appAt 4 (u1 hr) (je_var 6) (je_var 7))))
    jss_nil))))))
    (jss_cons (js_if (jt_cmp oj_gt (je_bin oj_mod (je_cal tk C__law_mix hr (ja_cons (je_var 2) (ja_cons je_int ja_nil))) je_int) je_int)
    (jss_one (js_for hp rfl (ji_range (je_callB cj_len (ja_cons (je_var 0) ja_nil) T.b_len boot_len) T.b_range) (jg_name 6 sc__law_rows.nd)
    (jss_cons (js_set 7 sc__law_rows.nd (je_callTy (cj_tup rfl) (ja_cons (je_lc (own := [((Str.ofString "_law_letter"), 11)]) rfl sc__law_rows.nd (jc_items (je_sub (u1 hr) (je_var 0) (je_var 6))) (blkOk_by (by rfl)) (fun _ _ _ _ _ => (jg_name 11 sc__law_rows.nd)) (fun _ _ _ _ _ => jts_nil) (fun _ _ _ _ _ => (je_frz (je_sub (u1 hr) (je_var 3) (je_bin oj_mod (je_callB cj_ord (ja_cons (je_var 11) ja_nil) T.b_ord boot_ord) (je_callB cj_len (ja_cons (je_var 3) ja_nil) T.b_len boot_len))))) tg_name) ja_nil) T.b_tuple boot_tuple))
    (jss_one (js_if (jt_notIn (u65 hr) (je_var 7) (je_sub (u1 hr) (je_var 4) (je_var 6)))
    (jss_one (js_ice 7 (js_appAt 4 (u1 hr) (je_var 6) (je_var 7))))
    jss_nil)))))
    jss_nil)
    (jss_one (js_ice 7 (js_ice 6 (js_ice 5 (js_ice 4 (js_ice 3 (js_ret (je_lc (own := [((Str.ofString "_law_lines"), 9)]) rfl sc__law_rows.nd (jc_items (je_var 4)) (blkOk_by (by rfl)) (fun _ _ _ _ _ => (jg_name 9 sc__law_rows.nd)) (fun _ _ _ _ _ => jts_nil) (fun _ _ _ _ _ => (je_frz (je_callB (cj_sorted (u62 hr)) (ja_cons (je_var 9) ja_nil) T.b_sorted boot_sorted))) tg_name))))))))))))
abbrev N__law_names : List Str := ["_law_shape", "_law_known", "_law_pattern", "_law_letter"]
theorem sc__law_names : FnScope N__law_names ["_law_shape"] (defScope s__law_names) := ⟨rfl, rfl, rfl, by decide +kernel, rfl, by decide +kernel, by decide +kernel⟩
theorem ok__law_names {f : Addr} {fd : FuncData} (F : Fun K "_law_names" "_law_names" s__law_names f fd) (T : Tx K mg)  : FnOk P w K mg base (L2.CX P w) 1 f fd ["_law_shape"] (spF mg 1 m__law_names) :=
  ok_of F sc__law_names fun cdv A outer s H E (hr : Room 0 _) tk hp =>
    (jss_cons (js_set 1 sc__law_names.nd je_newK)
    (jss_cons (js_ice 0 (js_for hp rfl (ji_items (je_var 0)) (jg_name 2 sc__law_names.nd)
    (jss_one (js_ice 2 (js_for hp rfl (ji_items (je_var 2)) (jg_name 3 sc__law_names.nd)
    (jss_one (js_put 1 (u1 hr) (je_var 3) je_bl)))))))
    (jss_one (js_ret (je_sortedKeys rfl (u62 hr) (je_var 1) T.b_sorted rfl boot_sorted)))))
abbrev N_joined : List Str := ["known", "letters", "row", "told", "letter", "cell"]
theorem sc_joined : FnScope N_joined ["known", "letters", "row"] (defScope s_joined) := ⟨rfl, rfl, rfl, by decide +kernel, rfl, by decide +kernel, by decide +kernel⟩
theorem ok_joined {f : Addr} {fd : FuncData} (F : Fun K "joined" "joined" s_joined f fd) (T : Tx K mg)  : FnOk P w K mg base (L2.CX P w) 1 f fd ["known", "letters", "row"] (spF mg 3 m_joined) :=
  ok_of F sc_joined fun cdv A outer s H E (hr : Room 0 _) tk hp =>
    (jss_cons (js_set 3 sc_joined.nd (je_callTy cj_dict (ja_cons (je_var 0) ja_nil) T.b_dict boot_dict))
    (jss_cons (js_ice 2 (js_ice 1 (js_for hp rfl (ji_zip (je_var 1) (je_var 2) T.b_zip) (jg_tup2 4 5 rfl sc_joined.nd)
    (jss_one (js_ifSetd 3 (oj_ne (u64 hr)) (je_var 4) (je_var 5) (je_var 5)
    (jss_one (js_ret je_non))
    jss_nil ⟨rfl, rfl, rfl, rfl⟩)))))
    (jss_one (js_retV 3))))
abbrev N_letters_of : List Str := ["shape", "known", "letters", "letter"]
theorem sc_letters_of : FnScope N_letters_of ["shape"] (defScope s_letters_of) := ⟨rfl, rfl, rfl, by decide +kernel, rfl, by decide +kernel, by decide +kernel⟩
theorem ok_letters_of {f : Addr} {fd : FuncData} (F : Fun K "letters_of" "letters_of" s_letters_of f fd) (T : Tx K mg)  : FnOk P w K mg base (L2.CX P w) 1 f fd ["shape"] (spF mg 1 m_letters_of) :=
  ok_of F sc_letters_of fun cdv A outer s H E (hr : Room 0 _) tk hp =>
    (jss_cons (js_set 1 sc_letters_of.nd je_newK)
    (jss_cons (js_ice 0 (js_for hp rfl (ji_items (je_var 0)) (jg_name 2 sc_letters_of.nd)
    (jss_one (js_ice 2 (js_for hp rfl (ji_items (je_var 2)) (jg_name 3 sc_letters_of.nd)
    (jss_one (js_put 1 (u1 hr) (je_var 3) je_bl)))))))
    (jss_one (js_ret (je_sortedKeys rfl (u62 hr) (je_var 1) T.b_sorted rfl boot_sorted)))))
abbrev N_answers : List Str := ["shape", "rows", "some", "letters", "lines", "more", "known", "row", "told", "names", "letter"]
theorem sc_answers : FnScope N_answers ["shape", "rows"] (defScope s_answers) := ⟨rfl, rfl, rfl, by decide +kernel, rfl, by decide +kernel, by decide +kernel⟩
theorem ok_answers {f : Addr} {fd : FuncData} (F : Fun K "answers" "answers" s_answers f fd) (T : Tx K mg) (C_joined : Cal P w K mg base 1 "joined" 3 m_joined) (C_letters_of : Cal P w K mg base 1 "letters_of" 1 m_letters_of) : FnOk P w K mg base (L2.CX P w) 2 f fd ["shape", "rows"] (spF mg 2 m_answers) :=
  ok_of F sc_answers fun cdv A outer s H E (hr : Room 1 _) tk hp =>
    (jss_cons (js_set 2 sc_answers.nd (je_list (ja_cons (je_frz je_newK) ja_nil)))
    (jss_cons (js_ice 2 (js_ice 1 (js_ice 0 (js_for hp rfl (ji_zip (je_var 0) (je_var 1) T.b_zip) (jg_tup2 3 4 rfl sc_answers.nd)
    (jss_cons (js_set 5 sc_answers.nd (je_list ja_nil))
    (jss_cons (js_ice 2 (js_for hp rfl (ji_items (je_var 2)) (jg_name 6 sc_answers.nd)
    (jss_one (js_ice 4 (js_for hp rfl (ji_items (je_var 4)) (jg_name 7 sc_answers.nd)
    (jss_cons (js_set 8 sc_answers.nd (je_cal tk C_joined hr (ja_cons (je_var 6) (ja_cons (je_var 3) (ja_cons (je_var 7) ja_nil)))))
    (jss_one (js_ice 8 (js_if (jt_notN (je_var 8))
    (jss_one (js_ice 8 (js_append 5 (je_var 8))))
    jss_nil)))))))))
    (jss_one (js_ice 5 (js_set 2 sc_answers.nd (je_var 5))))))))))
    (jss_cons (js_set 9 sc_answers.nd (je_cal tk C_letters_of hr (ja_cons (je_var 0) ja_nil)))
    (jss_one (js_ice 9 (js_ice 9 (js_ice 8 (js_ice 7 (js_ice 6 (js_ice 5 (js_ice 4 (js_ice 3 (js_ice 2 (js_ret (je_callB (cj_sorted (u62 hr)) (ja_cons (je_lc (own := [((Str.ofString "known"), 6)]) rfl sc_answers.nd (jc_items (je_var 2)) (blkOk_by (by rfl)) (fun _ _ _ _ _ => (jg_name 6 sc_answers.nd)) (fun _ _ _ _ _ => jts_nil) (fun _ _ _ _ _ => (je_frz (je_callTy (cj_tup rfl) (ja_cons (je_lc (own := [((Str.ofString "letter"), 10)]) rfl sc_answers.nd (jc_items (je_var 9)) (blkOk_by (by rfl)) (fun _ _ _ _ _ => (jg_name 10 sc_answers.nd)) (fun _ _ _ _ _ => jts_nil) (fun _ _ _ _ _ => (je_frz (je_sub (u1 hr) (je_var 6) (je_var 10)))) tg_name) ja_nil) T.b_tuple boot_tuple))) tg_name) ja_nil) T.b_sorted boot_sorted)))))))))))))))
abbrev N__law_row_of : List Str := ["_law_names_here", "_law_pattern", "_law_answer", "_law_letter"]
theorem sc__law_row_of : FnScope N__law_row_of ["_law_names_here", "_law_pattern", "_law_answer"] (defScope s__law_row_of) := ⟨rfl, rfl, rfl, by decide +kernel, rfl, by decide +kernel, by decide +kernel⟩
theorem ok__law_row_of {f : Addr} {fd : FuncData} (F : Fun K "_law_row_of" "_law_row_of" s__law_row_of f fd) (T : Tx K mg)  : FnOk P w K mg base (L2.CX P w) 1 f fd ["_law_names_here", "_law_pattern", "_law_answer"] (spF mg 3 m__law_row_of) :=
  ok_of F sc__law_row_of fun cdv A outer s H E (hr : Room 0 _) tk hp =>
    (jss_one (js_ret (je_callTy (cj_tup rfl) (ja_cons (je_lc (own := [((Str.ofString "_law_letter"), 3)]) rfl sc__law_row_of.nd (jc_items (je_var 1)) (blkOk_by (by rfl)) (fun _ _ _ _ _ => (jg_name 3 sc__law_row_of.nd)) (fun _ _ _ _ _ => jts_nil) (fun _ _ _ _ _ => (je_frz (je_sub (u1 hr) (je_var 2) (je_idx (u65 hr) (je_var 0) (ja_cons (je_var 3) ja_nil))))) tg_name) ja_nil) T.b_tuple boot_tuple)))
abbrev N_downward : List Str := ["parents", "told", "at", "i", "parent"]
theorem sc_downward : FnScope N_downward ["parents"] (defScope s_downward) := ⟨rfl, rfl, rfl, by decide +kernel, rfl, by decide +kernel, by decide +kernel⟩
theorem ok_downward {f : Addr} {fd : FuncData} (F : Fun K "downward" "downward" s_downward f fd) (T : Tx K mg)  : FnOk P w K mg base (L2.CX P w) 1 f fd ["parents"] (spF mg 1 m_downward) :=
  ok_of F sc_downward fun cdv A outer s H E (hr : Room 0 _) tk hp =>
    (jss_cons (js_set 1 sc_downward.nd (je_list (ja_cons (je_frz (je_idx (u65 hr) (je_var 0) (ja_cons je_non ja_nil))) ja_nil)))
    (jss_cons (js_set 2 sc_downward.nd je_int)
    (jss_cons (js_while hp (jt_cmp oj_lt (je_var 2) (je_callB cj_len (ja_cons (je_var 1) ja_nil) T.b_len boot_len))
    (jss_cons (js_extend 1 (je_frz (je_lc (own := [((Str.ofString "i"), 3), ((Str.ofString "parent"), 4)]) rfl sc_downward.nd (jc_enum (je_var 0) T.b_enumerate) (blkOk_by (by rfl)) (fun _ _ _ _ _ => (jg_tup2 3 4 rfl sc_downward.nd)) (fun _ _ _ _ _ => (jts_one (jt_cmp (oj_eq (u64 hr)) (je_var 4) (je_sub (u1 hr) (je_var 1) (je_var 2))))) (fun _ _ _ _ _ => (je_var 3)) tg_tup2)))
    (jss_one (js_augI 2 ip_add sc_downward.nd je_int))))
    (jss_one (js_retV 1)))))
abbrev N_key_of : List Str := ["letters", "row", "some", "letter"]
theorem sc_key_of : FnScope N_key_of ["letters", "row", "some"] (defScope s_key_of) := ⟨rfl, rfl, rfl, by decide +kernel, rfl, by decide +kernel, by decide +kernel⟩
theorem ok_key_of {f : Addr} {fd : FuncData} (F : Fun K "key_of" "key_of" s_key_of f fd) (T : Tx K mg)  : FnOk P w K mg base (L2.CX P w) 1 f fd ["letters", "row", "some"] (spF mg 3 m_key_of) :=
  ok_of F sc_key_of fun cdv A outer s H E (hr : Room 0 _) tk hp =>
    (jss_one (js_ret (je_callTy (cj_tup rfl) (ja_cons (je_lc (own := [((Str.ofString "letter"), 3)]) rfl sc_key_of.nd (jc_items (je_var 2)) (blkOk_by (by rfl)) (fun _ _ _ _ _ => (jg_name 3 sc_key_of.nd)) (fun _ _ _ _ _ => jts_nil) (fun _ _ _ _ _ => (je_frz (je_sub (u1 hr) (je_var 1) (je_idx (u65 hr) (je_var 0) (ja_cons (je_var 3) ja_nil))))) tg_name) ja_nil) T.b_tuple boot_tuple)))
abbrev N_agreeing : List Str := ["shape", "rows", "i", "j", "some", "known", "row", "letter"]
theorem sc_agreeing : FnScope N_agreeing ["shape", "rows", "i", "j"] (defScope s_agreeing) := ⟨rfl, rfl, rfl, by decide +kernel, rfl, by decide +kernel, by decide +kernel⟩
theorem ok_agreeing {f : Addr} {fd : FuncData} (F : Fun K "agreeing" "agreeing" s_agreeing f fd) (T : Tx K mg) (C_key_of : Cal P w K mg base 1 "key_of" 3 m_key_of) : FnOk P w K mg base (L2.CX P w) 2 f fd ["shape", "rows", "i", "j"] (spF mg 4 m_agreeing) :=
  ok_of F sc_agreeing fun cdv A outer s H E (hr : Room 1 _) tk hp =>
    (jss_cons (js_set 4 sc_agreeing.nd (je_lc (own := [((Str.ofString "letter"), 7)]) rfl sc_agreeing.nd (jc_items (je_sub (u1 hr) (je_var 0) (je_var 2))) (blkOk_by (by rfl)) (fun _ _ _ _ _ => (jg_name 7 sc_agreeing.nd)) (fun _ _ _ _ _ => (jts_one (jt_in (u65 hr) (je_var 7) (je_sub (u1 hr) (je_var 0) (je_var 3))))) (fun _ _ _ _ _ => (je_var 7)) tg_name))
    (jss_cons (js_ice 4 (js_set 5 sc_agreeing.nd je_newT))
    (jss_cons (js_ice 1 (js_for hp rfl (ji_items (je_sub (u1 hr) (je_var 1) (je_var 3))) (jg_name 6 sc_agreeing.nd)
    (jss_one (js_put 5 (u1 hr) (je_cal tk C_key_of hr (ja_cons (je_frz (je_sub (u1 hr) (je_var 0) (je_var 3))) (ja_cons (je_var 6) (ja_cons (je_var 4) ja_nil)))) je_bl))))
    (jss_one (js_ice 6 (js_ice 5 (js_ice 4 (js_ret (je_lc (own := [((Str.ofString "row"), 6)]) rfl sc_agreeing.nd (jc_items (je_sub (u1 hr) (je_var 1) (je_var 2))) (blkOk_by (by rfl)) (fun _ _ _ _ _ => (jg_name 6 sc_agreeing.nd)) (fun _ _ _ _ _ => (jts_one (jt_in (u65 hr) (je_cal takes0 C_key_of hr (ja_cons (je_frz (je_sub (u1 hr) (je_var 0) (je_var 2))) (ja_cons (je_var 6) (ja_cons (je_var 4) ja_nil)))) (je_var 5)))) (fun _ _ _ _ _ => (je_var 6)) tg_name)))))))))
abbrev N_reduced : List Str := ["shape", "rows", "parents", "told", "order", "i", "lines"]
theorem sc_reduced : FnScope N_reduced ["shape", "rows", "parents"] (defScope s_reduced) := ⟨rfl, rfl, rfl, by decide +kernel, rfl, by decide +kernel, by decide +kernel⟩
theorem ok_reduced {f : Addr} {fd : FuncData} (F : Fun K "reduced" "reduced" s_reduced f fd) (T : Tx K mg) (C_downward : Cal P w K mg base 1 "downward" 1 m_downward) (C_agreeing : Cal P w K mg base 2 "agreeing" 4 m_agreeing) : FnOk P w K mg base (L2.CX P w) 3 f fd ["shape", "rows", "parents"] (spF mg 3 m_reduced) :=
  ok_of F sc_reduced fun cdv A outer s H E (hr : Room 2 _) tk hp =>
    (jss_cons (js_setLc 3 rfl sc_reduced.nd (sw_true rfl rfl rfl rfl) (own := [((Str.ofString "lines"), 6)]) (jc_items (je_var 1)) (blkOk_by (by rfl)) (fun _ _ _ _ _ => (jg_name 6 sc_reduced.nd)) (fun _ _ _ _ _ => jts_nil) (fun _ _ _ _ _ => (je_frz (je_callTy (cj_list rfl) (ja_cons (je_var 6) ja_nil) T.b_list boot_list))) tg_name)
    (jss_cons (js_set 4 sc_reduced.nd (je_cal tk C_downward hr (ja_cons (je_var 2) ja_nil)))
    (jss_cons (js_ice 4 (js_ice 4 (js_for hp rfl (ji_rev (je_var 4) T.b_reversed) (jg_name 5 sc_reduced.nd)
    (jss_one (js_if (jt_notN (je_sub (u1 hr) (je_var 2) (je_var 5)))
    (jss_one (js_put 3 (u1 hr) (je_sub (u1 hr) (je_var 2) (je_var 5)) (je_frz (je_cal tk C_agreeing hr (ja_cons (je_var 0) (ja_cons (je_var 3) (ja_cons (je_frz (je_sub (u1 hr) (je_var 2) (je_var 5))) (ja_cons (je_var 5) ja_nil))))))))
    jss_nil)))))
    (jss_cons (js_ice 4 (js_for hp rfl (ji_items (je_var 4)) (jg_name 5 sc_reduced.nd)
    (jss_one (js_if (jt_notN (je_sub (u1 hr) (je_var 2) (je_var 5)))
    (jss_one (js_put 3 (u1 hr) (je_var 5) (je_frz (je_cal tk C_agreeing hr (ja_cons (je_var 0) (ja_cons (je_var 3) (ja_cons (je_var 5) (ja_cons (je_frz (je_sub (u1 hr) (je_var 2) (je_var 5))) ja_nil))))))))
    jss_nil))))
    (jss_one (js_retV 3))))))
abbrev N_through : List Str := ["shape", "rows", "parents", "i", "row", "told", "cells", "k", "some", "line", "lines", "letter"]
theorem sc_through : FnScope N_through ["shape", "rows", "parents", "i", "row"] (defScope s_through) := ⟨rfl, rfl, rfl, by decide +kernel, rfl, by decide +kernel, by decide +kernel⟩
theorem ok_through {f : Addr} {fd : FuncData} (F : Fun K "through" "through" s_through f fd) (T : Tx K mg) (C_reduced : Cal P w K mg base 3 "reduced" 3 m_reduced) (C_downward : Cal P w K mg base 1 "downward" 1 m_downward) (C_key_of : Cal P w K mg base 1 "key_of" 3 m_key_of) (C_letters_of : Cal P w K mg base 1 "letters_of" 1 m_letters_of) : FnOk P w K mg base (L2.CX P w) 4 f fd ["shape", "rows", "parents", "i", "row"] (spF mg 5 m_through) :=
  ok_of F sc_through fun cdv A outer s H E (hr : Room 3 _) tk hp =>
    (jss_cons (js_setLc 5 rfl sc_through.nd (sw_true rfl rfl rfl rfl) (own := [((Str.ofString "lines"), 10)]) (jc_items (je_var 1)) (blkOk_by (by rfl)) (fun _ _ _ _ _ => (jg_name 10 sc_through.nd)) (fun _ _ _ _ _ => jts_nil) (fun _ _ _ _ _ => (je_frz (je_callTy (cj_list rfl) (ja_cons (je_var 10) ja_nil) T.b_list boot_list))) tg_name)
    (jss_cons (js_ice 4 (js_put 5 (u1 hr) (je_var 3) (je_frz (je_list (ja_cons (je_var 4) ja_nil)))))
    (jss_cons (js_ice 5 (js_set 5 sc_through.nd (je_cal tk C_reduced hr (ja_cons (je_var 0) (ja_cons (je_var 5) (ja_cons (je_var 2) ja_nil))))))
    (jss_cons (js_if (jt_cmp (oj_eq (u64 hr)) (je_sub (u1 hr) (je_var 5) (je_var 3)) (je_list ja_nil))
    (jss_one (js_ret je_non))
    jss_nil)
    (jss_cons (js_set 6 sc_through.nd je_newK)
    (jss_cons (js_ice 5 (js_for hp rfl (ji_items (je_cal tk C_downward hr (ja_cons (je_var 2) ja_nil))) (jg_name 7 sc_through.nd)
    (jss_cons (js_setLc 8 rfl sc_through.nd (sw_true rfl rfl rfl rfl) (own := [((Str.ofString "letter"), 11)]) (jc_items (je_sub (u1 hr) (je_var 0) (je_var 7))) (blkOk_by (by rfl)) (fun _ _ _ _ _ => (jg_name 11 sc_through.nd)) (fun _ _ _ _ _ => (jts_one (jt_in (u65 hr) (je_var 11) (je_var 6)))) (fun _ _ _ _ _ => (je_var 11)) tg_name)
    (jss_one (js_ice 8 (js_ice 5 (js_ice 5 (js_for hp rfl (ji_items (je_sub (u1 hr) (je_var 5) (je_var 7))) (jg_name 9 sc_through.nd)
    (jss_one (js_if (jt_cmp (oj_eq (u64 hr)) (je_cal tk C_key_of hr (ja_cons (je_frz (je_sub (u1 hr) (je_var 0) (je_var 7))) (ja_cons (je_var 9) (ja_cons (je_var 8) ja_nil)))) (je_callTy (cj_tup rfl) (ja_cons (je_lc (own := [((Str.ofString "letter"), 11)]) rfl sc_through.nd (jc_items (je_var 8)) (blkOk_by (by rfl)) (fun _ _ _ _ _ => (jg_name 11 sc_through.nd)) (fun _ _ _ _ _ => jts_nil) (fun _ _ _ _ _ => (je_frz (je_sub (u1 hr) (je_var 6) (je_var 11)))) tg_name) ja_nil) T.b_tuple boot_tuple))
    (jss_cons (js_upd 6 (je_frz (je_dictZip rfl (ja_cons (je_sub (u1 hr) (je_var 0) (je_var 7)) (ja_cons (je_var 9) ja_nil)) T.b_dict T.b_zip)) ⟨rfl, rfl, rfl, rfl⟩)
    (jss_one js_break))
    jss_nil))))))))))
    (jss_one (js_ice 9 (js_ice 8 (js_ice 7 (js_ice 6 (js_ice 5 (js_ret (je_callTy (cj_tup rfl) (ja_cons (je_lc (own := [((Str.ofString "letter"), 11)]) rfl sc_through.nd (jc_items (je_cal tk C_letters_of hr (ja_cons (je_var 0) ja_nil))) (blkOk_by (by rfl)) (fun _ _ _ _ _ => (jg_name 11 sc_through.nd)) (fun _ _ _ _ _ => jts_nil) (fun _ _ _ _ _ => (je_frz (je_sub (u1 hr) (je_var 6) (je_var 11)))) tg_name) ja_nil) T.b_tuple boot_tuple))))))))))))))
abbrev N__law_whole : List Str := ["_law_found"]
theorem sc__law_whole : FnScope N__law_whole ["_law_found"] (defScope s__law_whole) := ⟨rfl, rfl, rfl, by decide +kernel, rfl, by decide +kernel, by decide +kernel⟩
theorem ok__law_whole {f : Addr} {fd : FuncData} (F : Fun K "_law_whole" "_law_whole" s__law_whole f fd) (T : Tx K mg)  : FnOk P w K mg base (L2.CX P w) 1 f fd ["_law_found"] (spF mg 1 m__law_whole) :=
  ok_of F sc__law_whole fun cdv A outer s H E (hr : Room 0 _) tk hp =>
    (jss_one (js_ret (je_and (je_isa (T := "int") (je_var 0) T.b_isinstance T.b_int (by decide) boot_int) (je_one (je_not (je_isa (T := "bool") (je_var 0) T.b_isinstance T.b_bool (by decide) boot_bool))))))
abbrev N__law_right : List Str := ["_law_found", "_law_names_here", "_law_pattern", "_law_row", "_law_every", "_law_cell"]
theorem sc__law_right : FnScope N__law_right ["_law_found", "_law_names_here", "_law_pattern", "_law_row", "_law_every"] (defScope s__law_right) := ⟨rfl, rfl, rfl, by decide +kernel, rfl, by decide +kernel, by decide +kernel⟩
theorem ok__law_right {f : Addr} {fd : FuncData} (F : Fun K "_law_right" "_law_right" s__law_right f fd) (T : Tx K mg) (C__law_row_of : Cal P w K mg base 1 "_law_row_of" 3 m__law_row_of) (C__law_whole : Cal P w K mg base 1 "_law_whole" 1 m__law_whole) : FnOk P w K mg base (L2.CX P w) 2 f fd ["_law_found", "_law_names_here", "_law_pattern", "_law_row", "_law_every"] (spF mg 5 m__law_right) :=
  ok_of F sc__law_right fun cdv A outer s H E (hr : Room 1 _) tk hp =>
    (jss_cons (js_if (jt_w (jw_or (jt_not (jt_val (je_isa (T := "tuple") (je_var 0) T.b_isinstance T.b_tuple (by decide) boot_tuple))) (jw_or (jt_notIn (u65 hr) (je_var 0) (je_var 4)) (jw_or1 (jt_cmp (oj_ne (u64 hr)) (je_cal tk C__law_row_of hr (ja_cons (je_var 1) (ja_cons (je_var 2) (ja_cons (je_var 0) ja_nil)))) (je_var 3))))))
    (jss_one (js_ret je_bl))
    jss_nil)
    (jss_one (js_ret (je_cmp (oj_eq (u64 hr)) (je_lc (own := [((Str.ofString "_law_cell"), 5)]) rfl sc__law_right.nd (jc_items (je_var 0)) (blkOk_by (by rfl)) (fun _ _ _ _ _ => (jg_name 5 sc__law_right.nd)) (fun _ _ _ _ _ => (jts_one (jt_not (jt_val (je_cal takes0 C__law_whole hr (ja_cons (je_var 5) ja_nil)))))) (fun _ _ _ _ _ => (je_var 5)) tg_name) (je_list ja_nil)))))
abbrev N_law : List Str := ["_law_script", "_law_cells", "_law_total", "_law_shape", "_law_parents", "_law_rows_here", "_law_names_here", "_law_every", "_law_stand", "_law_answer", "_law_i", "_law_row", "_law_found"]
theorem sc_law : FnScope N_law ["_law_script"] (defScope s_law) := ⟨rfl, rfl, rfl, by decide +kernel, rfl, by decide +kernel, by decide +kernel⟩
theorem ok_law {f : Addr} {fd : FuncData} (F : Fun K "law" "law" s_law f fd) (T : Tx K mg) (C__law_tree : Cal P w K mg base 3 "_law_tree" 1 m__law_tree) (C__law_rows : Cal P w K mg base 3 "_law_rows" 3 m__law_rows) (C__law_names : Cal P w K mg base 1 "_law_names" 1 m__law_names) (C_answers : Cal P w K mg base 2 "answers" 2 m_answers) (C__law_row_of : Cal P w K mg base 1 "_law_row_of" 3 m__law_row_of) (C_through : Cal P w K mg base 4 "through" 5 m_through) (C__law_right : Cal P w K mg base 2 "_law_right" 5 m__law_right) (hlaw : ∀ ns : List Int, ns.length ≤ 63 → ∃ env, D_law (law0 13 (ns.take 59)) = .ok (.rt (.fz (.bl true)) env)) : FnOk P w K mg base (L2.CX P w) 5 f fd ["_law_script"] (spLaw K) := by
  refine F.okX sc_law (fun vs H Q E h => ?_) (fun cdv A outer s H vs Q E (hr : Room 4 _) h => ?_)
  · obtain ⟨a, ns, rfl, _⟩ := h
    rfl
  · obtain ⟨a, ns, rfl, hS, hl, hQ⟩ := h
    have tk := takes_of (X := cxOf (L2.CX P w) P w K mg base N_law "law" (defScope s_law) f cdv A outer s H E) rfl rfl rfl rfl
    have hp := passes_of (X := cxOf (L2.CX P w) P w K mg base N_law "law" (defScope s_law) f cdv A outer s H E) rfl
    have hb : JSs (cxOf (L2.CX P w) P w K mg base N_law "law" (defScope s_law) f cdv A outer s H E) (fun cls d _ H => E cls d H) ((defBody s_law).drop 1) D_law :=
    (jss_cons (js_ice 1 (js_set 2 sc_law.nd (je_callB (cj_sum rfl) (ja_cons (je_var 1) ja_nil) T.b_sum boot_sum)))
    (jss_cons (js_asgT (je_frz (je_cal tk C__law_tree hr (ja_cons (je_var 2) ja_nil))) (jg_tup2 3 4 rfl sc_law.nd))
    (jss_cons (js_set 5 sc_law.nd (je_cal tk C__law_rows hr (ja_cons (je_var 3) (ja_cons (je_var 1) (ja_cons (je_var 2) ja_nil)))))
    (jss_cons (js_ice 5 (js_set 6 sc_law.nd (je_cal tk C__law_names hr (ja_cons (je_var 3) ja_nil))))
    (jss_cons (js_ice 6 (js_set 7 sc_law.nd je_newT))
    (jss_cons (js_set 8 sc_law.nd je_newN)
    (jss_cons (js_for hp rfl (ji_items (je_cal tk C_answers hr (ja_cons (je_var 3) (ja_cons (je_var 5) ja_nil)))) (jg_name 9 sc_law.nd)
    (jss_cons (js_put 7 (u1 hr) (je_var 9) je_bl)
    (jss_one (js_for hp rfl (ji_range (je_callB cj_len (ja_cons (je_var 3) ja_nil) T.b_len boot_len) T.b_range) (jg_name 10 sc_law.nd)
    (jss_one (js_nput 8 (u10 hr) (je_tup (ja_cons (je_var 10) (ja_cons (je_frz (je_cal tk C__law_row_of hr (ja_cons (je_var 6) (ja_cons (je_frz (je_sub (u1 hr) (je_var 3) (je_var 10))) (ja_cons (je_var 9) ja_nil))))) ja_nil))) je_bl))))))
    (jss_cons (js_for hp rfl (ji_range (je_callB cj_len (ja_cons (je_var 3) ja_nil) T.b_len boot_len) T.b_range) (jg_name 10 sc_law.nd)
    (jss_one (js_for hp rfl (ji_items (je_callTy (cj_list rfl) (ja_cons (je_sub (u1 hr) (je_var 5) (je_var 10)) ja_nil) T.b_list boot_list)) (jg_name 11 sc_law.nd)
    (jss_cons (js_set 12 sc_law.nd (je_cal tk C_through hr (ja_cons (je_var 3) (ja_cons (je_var 5) (ja_cons (je_var 4) (ja_cons (je_var 10) (ja_cons (je_var 11) ja_nil)))))))
    (jss_one (js_ice 12 (js_if (jt_noN (u65 hr) (je_tup (ja_cons (je_var 10) (ja_cons (je_var 11) ja_nil))) (je_var 8))
    (jss_one (js_if (jt_notN (je_var 12))
    (jss_one (js_ret je_bl))
    jss_nil))
    (jss_one (js_if (jt_not (jt_val (je_cal tk C__law_right hr (ja_cons (je_var 12) (ja_cons (je_var 6) (ja_cons (je_frz (je_sub (u1 hr) (je_var 3) (je_var 10))) (ja_cons (je_var 11) (ja_cons (je_var 7) ja_nil))))))))
    (jss_one (js_ret je_bl))
    jss_nil)))))))))
    (jss_one (js_ret (je_and (je_cmp (oj_eq (u64 hr)) (je_tup (ja_cons (je_var 3) (ja_cons (je_var 4) ja_nil))) (je_cal tk C__law_tree hr (ja_cons (je_var 2) ja_nil))) (je_one (je_cmp (oj_eq (u64 hr)) (je_var 5) (je_cal tk C__law_rows hr (ja_cons (je_var 3) (ja_cons (je_var 1) (ja_cons (je_var 2) ja_nil)))))))))))))))))
    exact law_body (N := N_law) rfl (by decide) hb (pe_slice sl_list (pe_var (i := 0) rfl (by first | exact Or.inl rfl | exact Or.inr (Or.inl rfl))) po_none (po_some pe_int)) (ps_set (i := 1) sc_law.nd rfl (by first | exact Or.inl rfl | exact Or.inr rfl) (pe_slice sl_list (pe_var (i := 0) rfl (by first | exact Or.inl rfl | exact Or.inr (Or.inl rfl))) po_none (po_some pe_int))) (hlaw ns hl) hQ (fun Q h => law_slice hS Q h (by decide))
end
noncomputable def lawAns (ns : List Int) : Ans SO := D_law (law0 13 (ns.take 59))
theorem all_mk {l : PySem.W.OpenLaw} {w : World} {K : PySem.W.Frag} {h : Heap} {mg : Str → Option Value} {fa : Addr} (X : K.In h) (G : h.Ns mainGlobals mg) (hfa : mg "law" = some (.ref fa)) (hlaw : ∀ ns : List Int, ns.length ≤ 63 → ∃ env, lawAns ns = .ok (.rt (.fz (.bl true)) env))
    {f1 : Addr} {od1 an1 : Option Addr} {sl1 : Array (Option Value)} {oc1 kV1 dc1 pm1 cd1 ct1 : Value} (a1 : PySem.W.nsIn K mainGlobals "_law_mix" = some (some (.ref f1))) (l1 : K.lookup f1 = some ⟨oc1, od1, .func (PySem.W.fnOf "_law_mix" "_law_mix" (defArgs s__law_mix) (defBody s__law_mix) (defScope s__law_mix) .none kV1 dc1 pm1 an1 cd1 ct1), sl1⟩) (c1 : PySem.W.codeIn K cd1 "_law_mix" = true) (k1 : PySem.W.keepIn K (.ref f1) = true)
    {f2 : Addr} {od2 an2 : Option Addr} {sl2 : Array (Option Value)} {oc2 kV2 dc2 pm2 cd2 ct2 : Value} (a2 : PySem.W.nsIn K mainGlobals "_law_letters" = some (some (.ref f2))) (l2 : K.lookup f2 = some ⟨oc2, od2, .func (PySem.W.fnOf "_law_letters" "_law_letters" (defArgs s__law_letters) (defBody s__law_letters) (defScope s__law_letters) .none kV2 dc2 pm2 an2 cd2 ct2), sl2⟩) (c2 : PySem.W.codeIn K cd2 "_law_letters" = true) (k2 : PySem.W.keepIn K (.ref f2) = true)
    {f3 : Addr} {od3 an3 : Option Addr} {sl3 : Array (Option Value)} {oc3 kV3 dc3 pm3 cd3 ct3 : Value} (a3 : PySem.W.nsIn K mainGlobals "_law_tree" = some (some (.ref f3))) (l3 : K.lookup f3 = some ⟨oc3, od3, .func (PySem.W.fnOf "_law_tree" "_law_tree" (defArgs s__law_tree) (defBody s__law_tree) (defScope s__law_tree) .none kV3 dc3 pm3 an3 cd3 ct3), sl3⟩) (c3 : PySem.W.codeIn K cd3 "_law_tree" = true) (k3 : PySem.W.keepIn K (.ref f3) = true)
    {f4 : Addr} {od4 an4 : Option Addr} {sl4 : Array (Option Value)} {oc4 kV4 dc4 pm4 cd4 ct4 : Value} (a4 : PySem.W.nsIn K mainGlobals "_law_numbers" = some (some (.ref f4))) (l4 : K.lookup f4 = some ⟨oc4, od4, .func (PySem.W.fnOf "_law_numbers" "_law_numbers" (defArgs s__law_numbers) (defBody s__law_numbers) (defScope s__law_numbers) .none kV4 dc4 pm4 an4 cd4 ct4), sl4⟩) (c4 : PySem.W.codeIn K cd4 "_law_numbers" = true) (k4 : PySem.W.keepIn K (.ref f4) = true)
    {f5 : Addr} {od5 an5 : Option Addr} {sl5 : Array (Option Value)} {oc5 kV5 dc5 pm5 cd5 ct5 : Value} (a5 : PySem.W.nsIn K mainGlobals "_law_rows" = some (some (.ref f5))) (l5 : K.lookup f5 = some ⟨oc5, od5, .func (PySem.W.fnOf "_law_rows" "_law_rows" (defArgs s__law_rows) (defBody s__law_rows) (defScope s__law_rows) .none kV5 dc5 pm5 an5 cd5 ct5), sl5⟩) (c5 : PySem.W.codeIn K cd5 "_law_rows" = true) (k5 : PySem.W.keepIn K (.ref f5) = true)
    {f6 : Addr} {od6 an6 : Option Addr} {sl6 : Array (Option Value)} {oc6 kV6 dc6 pm6 cd6 ct6 : Value} (a6 : PySem.W.nsIn K mainGlobals "_law_names" = some (some (.ref f6))) (l6 : K.lookup f6 = some ⟨oc6, od6, .func (PySem.W.fnOf "_law_names" "_law_names" (defArgs s__law_names) (defBody s__law_names) (defScope s__law_names) .none kV6 dc6 pm6 an6 cd6 ct6), sl6⟩) (c6 : PySem.W.codeIn K cd6 "_law_names" = true) (k6 : PySem.W.keepIn K (.ref f6) = true)
    {f7 : Addr} {od7 an7 : Option Addr} {sl7 : Array (Option Value)} {oc7 kV7 dc7 pm7 cd7 ct7 : Value} (a7 : PySem.W.nsIn K mainGlobals "joined" = some (some (.ref f7))) (l7 : K.lookup f7 = some ⟨oc7, od7, .func (PySem.W.fnOf "joined" "joined" (defArgs s_joined) (defBody s_joined) (defScope s_joined) .none kV7 dc7 pm7 an7 cd7 ct7), sl7⟩) (c7 : PySem.W.codeIn K cd7 "joined" = true) (k7 : PySem.W.keepIn K (.ref f7) = true)
    {f8 : Addr} {od8 an8 : Option Addr} {sl8 : Array (Option Value)} {oc8 kV8 dc8 pm8 cd8 ct8 : Value} (a8 : PySem.W.nsIn K mainGlobals "letters_of" = some (some (.ref f8))) (l8 : K.lookup f8 = some ⟨oc8, od8, .func (PySem.W.fnOf "letters_of" "letters_of" (defArgs s_letters_of) (defBody s_letters_of) (defScope s_letters_of) .none kV8 dc8 pm8 an8 cd8 ct8), sl8⟩) (c8 : PySem.W.codeIn K cd8 "letters_of" = true) (k8 : PySem.W.keepIn K (.ref f8) = true)
    {f9 : Addr} {od9 an9 : Option Addr} {sl9 : Array (Option Value)} {oc9 kV9 dc9 pm9 cd9 ct9 : Value} (a9 : PySem.W.nsIn K mainGlobals "answers" = some (some (.ref f9))) (l9 : K.lookup f9 = some ⟨oc9, od9, .func (PySem.W.fnOf "answers" "answers" (defArgs s_answers) (defBody s_answers) (defScope s_answers) .none kV9 dc9 pm9 an9 cd9 ct9), sl9⟩) (c9 : PySem.W.codeIn K cd9 "answers" = true) (k9 : PySem.W.keepIn K (.ref f9) = true)
    {f10 : Addr} {od10 an10 : Option Addr} {sl10 : Array (Option Value)} {oc10 kV10 dc10 pm10 cd10 ct10 : Value} (a10 : PySem.W.nsIn K mainGlobals "_law_row_of" = some (some (.ref f10))) (l10 : K.lookup f10 = some ⟨oc10, od10, .func (PySem.W.fnOf "_law_row_of" "_law_row_of" (defArgs s__law_row_of) (defBody s__law_row_of) (defScope s__law_row_of) .none kV10 dc10 pm10 an10 cd10 ct10), sl10⟩) (c10 : PySem.W.codeIn K cd10 "_law_row_of" = true) (k10 : PySem.W.keepIn K (.ref f10) = true)
    {f11 : Addr} {od11 an11 : Option Addr} {sl11 : Array (Option Value)} {oc11 kV11 dc11 pm11 cd11 ct11 : Value} (a11 : PySem.W.nsIn K mainGlobals "downward" = some (some (.ref f11))) (l11 : K.lookup f11 = some ⟨oc11, od11, .func (PySem.W.fnOf "downward" "downward" (defArgs s_downward) (defBody s_downward) (defScope s_downward) .none kV11 dc11 pm11 an11 cd11 ct11), sl11⟩) (c11 : PySem.W.codeIn K cd11 "downward" = true) (k11 : PySem.W.keepIn K (.ref f11) = true)
    {f12 : Addr} {od12 an12 : Option Addr} {sl12 : Array (Option Value)} {oc12 kV12 dc12 pm12 cd12 ct12 : Value} (a12 : PySem.W.nsIn K mainGlobals "key_of" = some (some (.ref f12))) (l12 : K.lookup f12 = some ⟨oc12, od12, .func (PySem.W.fnOf "key_of" "key_of" (defArgs s_key_of) (defBody s_key_of) (defScope s_key_of) .none kV12 dc12 pm12 an12 cd12 ct12), sl12⟩) (c12 : PySem.W.codeIn K cd12 "key_of" = true) (k12 : PySem.W.keepIn K (.ref f12) = true)
    {f13 : Addr} {od13 an13 : Option Addr} {sl13 : Array (Option Value)} {oc13 kV13 dc13 pm13 cd13 ct13 : Value} (a13 : PySem.W.nsIn K mainGlobals "agreeing" = some (some (.ref f13))) (l13 : K.lookup f13 = some ⟨oc13, od13, .func (PySem.W.fnOf "agreeing" "agreeing" (defArgs s_agreeing) (defBody s_agreeing) (defScope s_agreeing) .none kV13 dc13 pm13 an13 cd13 ct13), sl13⟩) (c13 : PySem.W.codeIn K cd13 "agreeing" = true) (k13 : PySem.W.keepIn K (.ref f13) = true)
    {f14 : Addr} {od14 an14 : Option Addr} {sl14 : Array (Option Value)} {oc14 kV14 dc14 pm14 cd14 ct14 : Value} (a14 : PySem.W.nsIn K mainGlobals "reduced" = some (some (.ref f14))) (l14 : K.lookup f14 = some ⟨oc14, od14, .func (PySem.W.fnOf "reduced" "reduced" (defArgs s_reduced) (defBody s_reduced) (defScope s_reduced) .none kV14 dc14 pm14 an14 cd14 ct14), sl14⟩) (c14 : PySem.W.codeIn K cd14 "reduced" = true) (k14 : PySem.W.keepIn K (.ref f14) = true)
    {f15 : Addr} {od15 an15 : Option Addr} {sl15 : Array (Option Value)} {oc15 kV15 dc15 pm15 cd15 ct15 : Value} (a15 : PySem.W.nsIn K mainGlobals "through" = some (some (.ref f15))) (l15 : K.lookup f15 = some ⟨oc15, od15, .func (PySem.W.fnOf "through" "through" (defArgs s_through) (defBody s_through) (defScope s_through) .none kV15 dc15 pm15 an15 cd15 ct15), sl15⟩) (c15 : PySem.W.codeIn K cd15 "through" = true) (k15 : PySem.W.keepIn K (.ref f15) = true)
    {f16 : Addr} {od16 an16 : Option Addr} {sl16 : Array (Option Value)} {oc16 kV16 dc16 pm16 cd16 ct16 : Value} (a16 : PySem.W.nsIn K mainGlobals "_law_whole" = some (some (.ref f16))) (l16 : K.lookup f16 = some ⟨oc16, od16, .func (PySem.W.fnOf "_law_whole" "_law_whole" (defArgs s__law_whole) (defBody s__law_whole) (defScope s__law_whole) .none kV16 dc16 pm16 an16 cd16 ct16), sl16⟩) (c16 : PySem.W.codeIn K cd16 "_law_whole" = true) (k16 : PySem.W.keepIn K (.ref f16) = true)
    {f17 : Addr} {od17 an17 : Option Addr} {sl17 : Array (Option Value)} {oc17 kV17 dc17 pm17 cd17 ct17 : Value} (a17 : PySem.W.nsIn K mainGlobals "_law_right" = some (some (.ref f17))) (l17 : K.lookup f17 = some ⟨oc17, od17, .func (PySem.W.fnOf "_law_right" "_law_right" (defArgs s__law_right) (defBody s__law_right) (defScope s__law_right) .none kV17 dc17 pm17 an17 cd17 ct17), sl17⟩) (c17 : PySem.W.codeIn K cd17 "_law_right" = true) (k17 : PySem.W.keepIn K (.ref f17) = true)
    {f18 : Addr} {od18 an18 : Option Addr} {sl18 : Array (Option Value)} {oc18 kV18 dc18 pm18 cd18 ct18 : Value} (a18 : PySem.W.nsIn K mainGlobals "law" = some (some (.ref f18))) (l18 : K.lookup f18 = some ⟨oc18, od18, .func (PySem.W.fnOf "law" "law" (defArgs s_law) (defBody s_law) (defScope s_law) .none kV18 dc18 pm18 an18 cd18 ct18), sl18⟩) (c18 : PySem.W.codeIn K cd18 "law" = true) (k18 : PySem.W.keepIn K (.ref f18) = true)
    (z_sum : PySem.W.nsIn K mainGlobals "sum" = some none)
    (z_len : PySem.W.nsIn K mainGlobals "len" = some none)
    (z_range : PySem.W.nsIn K mainGlobals "range" = some none)
    (z_list : PySem.W.nsIn K mainGlobals "list" = some none)
    (z_tuple : PySem.W.nsIn K mainGlobals "tuple" = some none)
    (z_ord : PySem.W.nsIn K mainGlobals "ord" = some none)
    (z_sorted : PySem.W.nsIn K mainGlobals "sorted" = some none)
    (z_zip : PySem.W.nsIn K mainGlobals "zip" = some none)
    (z_dict : PySem.W.nsIn K mainGlobals "dict" = some none)
    (z_reversed : PySem.W.nsIn K mainGlobals "reversed" = some none)
    (z_enumerate : PySem.W.nsIn K mainGlobals "enumerate" = some none)
    (z_isinstance : PySem.W.nsIn K mainGlobals "isinstance" = some none)
    (z_int : PySem.W.nsIn K mainGlobals "int" = some none)
    (z_bool : PySem.W.nsIn K mainGlobals "bool" = some none)
    : ∃ fd : FuncData, (∀ (s : Shared) (v : Value), BindsTo s fd ⟨[v], []⟩ [("_law_script", v)]) ∧ ∀ base : Heap, K.In base → base.Ns mainGlobals mg → FnOk l.prog w K mg base (L2.CX l.prog w) 5 fa fd ["_law_script"] (spLaw K) := by
  have e := hfa.symm.trans (PySem.W.mg_of X G a18)
  cases e
  have T : Tx K mg := ⟨PySem.W.mg_none_of X G z_sum, PySem.W.mg_none_of X G z_len, PySem.W.mg_none_of X G z_range, PySem.W.mg_none_of X G z_list, PySem.W.mg_none_of X G z_tuple, PySem.W.mg_none_of X G z_ord, PySem.W.mg_none_of X G z_sorted, PySem.W.mg_none_of X G z_zip, PySem.W.mg_none_of X G z_dict, PySem.W.mg_none_of X G z_reversed, PySem.W.mg_none_of X G z_enumerate, PySem.W.mg_none_of X G z_isinstance, PySem.W.mg_none_of X G z_int, PySem.W.mg_none_of X G z_bool⟩
  refine ⟨PySem.W.fnOf "law" "law" (defArgs s_law) (defBody s_law) (defScope s_law) .none kV18 dc18 pm18 an18 cd18 ct18, fun s v => .of_eq rfl, fun base _ _ => ?_⟩
  have F1 := fun_mk (st := s__law_mix) l1 c1 k1
  have C__law_mix : Cal l.prog w K mg base 1 "_law_mix" 2 m__law_mix := ⟨_, _, ["_law_cell", "_law_j"], ok__law_mix F1 T , PySem.W.mg_of X G a1, k1, F1.binds (ps := ["_law_cell", "_law_j"]) fun _ _ _ _ _ _ us hl => match us, hl with | [_, _], _ => rfl⟩
  have F2 := fun_mk (st := s__law_letters) l2 c2 k2
  have C__law_letters : Cal l.prog w K mg base 2 "_law_letters" 1 m__law_letters := ⟨_, _, ["_law_cell"], ok__law_letters F2 T C__law_mix, PySem.W.mg_of X G a2, k2, F2.binds (ps := ["_law_cell"]) fun _ _ _ _ _ _ us hl => match us, hl with | [_], _ => rfl⟩
  have F3 := fun_mk (st := s__law_tree) l3 c3 k3
  have C__law_tree : Cal l.prog w K mg base 3 "_law_tree" 1 m__law_tree := ⟨_, _, ["_law_cell"], ok__law_tree F3 T C__law_letters C__law_mix, PySem.W.mg_of X G a3, k3, F3.binds (ps := ["_law_cell"]) fun _ _ _ _ _ _ us hl => match us, hl with | [_], _ => rfl⟩
  have F4 := fun_mk (st := s__law_numbers) l4 c4 k4
  have C__law_numbers : Cal l.prog w K mg base 2 "_law_numbers" 1 m__law_numbers := ⟨_, _, ["_law_cell"], ok__law_numbers F4 T C__law_mix, PySem.W.mg_of X G a4, k4, F4.binds (ps := ["_law_cell"]) fun _ _ _ _ _ _ us hl => match us, hl with | [_], _ => rfl⟩
  have F5 := fun_mk (st := s__law_rows) l5 c5 k5
  have C__law_rows : Cal l.prog w K mg base 3 "_law_rows" 3 m__law_rows := ⟨_, _, ["_law_shape", "_law_cells", "_law_total"], ok__law_rows F5 T C__law_numbers C__law_mix, PySem.W.mg_of X G a5, k5, F5.binds (ps := ["_law_shape", "_law_cells", "_law_total"]) fun _ _ _ _ _ _ us hl => match us, hl with | [_, _, _], _ => rfl⟩
  have F6 := fun_mk (st := s__law_names) l6 c6 k6
  have C__law_names : Cal l.prog w K mg base 1 "_law_names" 1 m__law_names := ⟨_, _, ["_law_shape"], ok__law_names F6 T , PySem.W.mg_of X G a6, k6, F6.binds (ps := ["_law_shape"]) fun _ _ _ _ _ _ us hl => match us, hl with | [_], _ => rfl⟩
  have F7 := fun_mk (st := s_joined) l7 c7 k7
  have C_joined : Cal l.prog w K mg base 1 "joined" 3 m_joined := ⟨_, _, ["known", "letters", "row"], ok_joined F7 T , PySem.W.mg_of X G a7, k7, F7.binds (ps := ["known", "letters", "row"]) fun _ _ _ _ _ _ us hl => match us, hl with | [_, _, _], _ => rfl⟩
  have F8 := fun_mk (st := s_letters_of) l8 c8 k8
  have C_letters_of : Cal l.prog w K mg base 1 "letters_of" 1 m_letters_of := ⟨_, _, ["shape"], ok_letters_of F8 T , PySem.W.mg_of X G a8, k8, F8.binds (ps := ["shape"]) fun _ _ _ _ _ _ us hl => match us, hl with | [_], _ => rfl⟩
  have F9 := fun_mk (st := s_answers) l9 c9 k9
  have C_answers : Cal l.prog w K mg base 2 "answers" 2 m_answers := ⟨_, _, ["shape", "rows"], ok_answers F9 T C_joined C_letters_of, PySem.W.mg_of X G a9, k9, F9.binds (ps := ["shape", "rows"]) fun _ _ _ _ _ _ us hl => match us, hl with | [_, _], _ => rfl⟩
  have F10 := fun_mk (st := s__law_row_of) l10 c10 k10
  have C__law_row_of : Cal l.prog w K mg base 1 "_law_row_of" 3 m__law_row_of := ⟨_, _, ["_law_names_here", "_law_pattern", "_law_answer"], ok__law_row_of F10 T , PySem.W.mg_of X G a10, k10, F10.binds (ps := ["_law_names_here", "_law_pattern", "_law_answer"]) fun _ _ _ _ _ _ us hl => match us, hl with | [_, _, _], _ => rfl⟩
  have F11 := fun_mk (st := s_downward) l11 c11 k11
  have C_downward : Cal l.prog w K mg base 1 "downward" 1 m_downward := ⟨_, _, ["parents"], ok_downward F11 T , PySem.W.mg_of X G a11, k11, F11.binds (ps := ["parents"]) fun _ _ _ _ _ _ us hl => match us, hl with | [_], _ => rfl⟩
  have F12 := fun_mk (st := s_key_of) l12 c12 k12
  have C_key_of : Cal l.prog w K mg base 1 "key_of" 3 m_key_of := ⟨_, _, ["letters", "row", "some"], ok_key_of F12 T , PySem.W.mg_of X G a12, k12, F12.binds (ps := ["letters", "row", "some"]) fun _ _ _ _ _ _ us hl => match us, hl with | [_, _, _], _ => rfl⟩
  have F13 := fun_mk (st := s_agreeing) l13 c13 k13
  have C_agreeing : Cal l.prog w K mg base 2 "agreeing" 4 m_agreeing := ⟨_, _, ["shape", "rows", "i", "j"], ok_agreeing F13 T C_key_of, PySem.W.mg_of X G a13, k13, F13.binds (ps := ["shape", "rows", "i", "j"]) fun _ _ _ _ _ _ us hl => match us, hl with | [_, _, _, _], _ => rfl⟩
  have F14 := fun_mk (st := s_reduced) l14 c14 k14
  have C_reduced : Cal l.prog w K mg base 3 "reduced" 3 m_reduced := ⟨_, _, ["shape", "rows", "parents"], ok_reduced F14 T C_downward C_agreeing, PySem.W.mg_of X G a14, k14, F14.binds (ps := ["shape", "rows", "parents"]) fun _ _ _ _ _ _ us hl => match us, hl with | [_, _, _], _ => rfl⟩
  have F15 := fun_mk (st := s_through) l15 c15 k15
  have C_through : Cal l.prog w K mg base 4 "through" 5 m_through := ⟨_, _, ["shape", "rows", "parents", "i", "row"], ok_through F15 T C_reduced C_downward C_key_of C_letters_of, PySem.W.mg_of X G a15, k15, F15.binds (ps := ["shape", "rows", "parents", "i", "row"]) fun _ _ _ _ _ _ us hl => match us, hl with | [_, _, _, _, _], _ => rfl⟩
  have F16 := fun_mk (st := s__law_whole) l16 c16 k16
  have C__law_whole : Cal l.prog w K mg base 1 "_law_whole" 1 m__law_whole := ⟨_, _, ["_law_found"], ok__law_whole F16 T , PySem.W.mg_of X G a16, k16, F16.binds (ps := ["_law_found"]) fun _ _ _ _ _ _ us hl => match us, hl with | [_], _ => rfl⟩
  have F17 := fun_mk (st := s__law_right) l17 c17 k17
  have C__law_right : Cal l.prog w K mg base 2 "_law_right" 5 m__law_right := ⟨_, _, ["_law_found", "_law_names_here", "_law_pattern", "_law_row", "_law_every"], ok__law_right F17 T C__law_row_of C__law_whole, PySem.W.mg_of X G a17, k17, F17.binds (ps := ["_law_found", "_law_names_here", "_law_pattern", "_law_row", "_law_every"]) fun _ _ _ _ _ _ us hl => match us, hl with | [_, _, _, _, _], _ => rfl⟩
  have F18 := fun_mk (st := s_law) l18 c18 k18
  exact ok_law F18 T C__law_tree C__law_rows C__law_names C_answers C__law_row_of C_through C__law_right hlaw
theorem walk {l : PySem.W.OpenLaw} {q : Program} {loose : List Str} {XP : (Str → Option Value) → Heap → Prop} {YP : World → Heap → Prop} {d : DefRec} {K : Params → PySem.W.Frag} (hn : l.most = some 63) (hdf : d.params.defaults = [])
    (hY : ∀ (w : World) (h : Heap), YP w h → (K w.params).In h)
    (F : ∀ (w : World) (mg : Str → Option Value) (fa : Addr) (h : Heap), (K w.params).In h → h.Ns mainGlobals mg → mg d.name = some (.ref fa) →
      ∃ fd : FuncData, (∀ (s : Shared) (u : Value), BindsTo s fd ⟨[u], []⟩ [("_law_script", u)]) ∧ ∀ base : Heap, (K w.params).In base → base.Ns mainGlobals mg → FnOk l.prog w (K w.params) mg base (L2.CX l.prog w) 5 fa fd ["_law_script"] (spLaw (K w.params))) :
    PySem.W.WalkO q loose XP YP l.row.toRowW d [] (fun f vs => PySem.call f vs) :=
  L2.walk_of (n := 63) (k := 5) (x := "_law_script") (CX := fun w => L2.CX l.prog w) (sp := fun w => spLaw (K w.params)) hn (by decide) hdf ⟨rfl, by decide, by decide⟩ hY F (fun _ _ a ns hl _ hS => ⟨a, ns, rfl, hS, hl, fun _ => rfl⟩) fun _ _ _ _ _ z => let ⟨_, _, _, _, _, _, _, _, _, _, _, _, z⟩ := z; z.elim
set_option maxHeartbeats 4000000
def Tcs_1 : List Chr := [65, 66, 67, 68, 69, 70, 71, 72, 73, 74, 75, 76, 77, 78, 79, 80, 81, 82, 83, 84, 85, 86, 87, 88, 89, 90]
theorem cs_1 : Str.ofString "ABCDEFGHIJKLMNOPQRSTUVWXYZ" = sxS Tcs_1 := by decide +kernel
noncomputable def T__law_mix (p_cell : Int) (p_j : Int) : Option Int :=
  (if ((decide ((p_cell % (2 : Int)) = (1 : Int))) && (!(decide ((p_cell / 2 ^ (27 : Nat)) = (0 : Int))))) then (shrG p_cell ((1 : Int) + ((20 : Int) * p_j))).bind fun v1 => some (v1 % (1048576 : Int)) else (mulG p_cell (((2 : Int) * p_j) + (3 : Int))).bind fun v2 => (mulG ((v2 + p_j) % (2147483629 : Int)) ((v2 + p_j) % (2147483629 : Int))).bind fun v3 => (mulG (((v3 + (1 : Int)) * (48271 : Int)) % (2147483629 : Int)) (((v3 + (1 : Int)) * (48271 : Int)) % (2147483629 : Int))).bind fun v4 => some (v4 % (2147483587 : Int)))
theorem sm__law_mix {p_cell : Int} {p_j : Int} {v : Int} (hv : T__law_mix p_cell p_j = some v) : m__law_mix [eI p_cell, eI p_j] = .ok ((oF eI) v) := by
  refine run_sg (O := (oF eI)) (t := T__law_mix p_cell p_j) ?_ hv
  unfold T__law_mix D__law_mix
  refine sg_env (e2 := [some (.fz (eI p_cell)), some (.fz (eI p_j)), none]) rfl ?_
  refine sg_one ?_
  refine sg_assoc ?_
  refine sg_ifs (ev_and (ev_test (asO (.st (.fz (eB (decide ((p_cell % (2 : Int)) = (1 : Int)))))) (ev_bin (asO (.st (.fz (eI (p_cell % (2 : Int))))) (ev_bin (ev_varF (x := eI p_cell) rfl) (ev_c (x := eI 2)) (e_mod (by decide)))) (ev_c (x := eI 1)) (t_eq (e := eI) (a := (p_cell % (2 : Int))) (b := (1 : Int)) epI (by decide) rfl rfl)))) (ev_test (asO (.st (.fz (eB (!(decide ((p_cell / 2 ^ (27 : Nat)) = (0 : Int))))))) (ev_bin (asO (.st (.fz (eI (p_cell / 2 ^ (27 : Nat))))) (ev_bin (ev_varF (x := eI p_cell) rfl) (ev_c (x := eI 27)) (e_shr (by decide)))) (ev_c (x := eI 0)) (t_ne (e := eI) (a := (p_cell / 2 ^ (27 : Nat))) (b := (0 : Int)) epI (by decide) rfl rfl))))) (fun _ => ?_) (fun _ => ?_)
  · refine sg_bind fun v1 hv1 => ?_
    exact sg_retS (o := (.fz (eI (v1 % (1048576 : Int))))) (asO (.st (.fz (eI (v1 % (1048576 : Int))))) (ev_bin (asO (.st (.fz (eI v1))) (ev_bin (ev_varF (x := eI p_cell) rfl) (asO (.st (.fz (eI ((1 : Int) + ((20 : Int) * p_j))))) (ev_bin (ev_c (x := eI 1)) (asO (.st (.fz (eI ((20 : Int) * p_j)))) (ev_bin (ev_c (x := eI 20)) (ev_varF (x := eI p_j) rfl) (e_mul (mulL (by decide))))) e_add)) (t_shrG (i := p_cell) (j := ((1 : Int) + ((20 : Int) * p_j))) hv1))) (ev_c (x := eI 1048576)) (e_mod (by decide)))) (fun e => ⟨e, rfl⟩)
  · refine sg_skip ?_
    refine sg_assoc ?_
    refine sg_bind fun v2 hv2 => ?_
    refine sg_set (o := (.fz (eI ((v2 + p_j) % (2147483629 : Int))))) (asO (.st (.fz (eI ((v2 + p_j) % (2147483629 : Int))))) (ev_bin (asO (.st (.fz (eI (v2 + p_j)))) (ev_bin (asO (.st (.fz (eI v2))) (ev_bin (ev_varF (x := eI p_cell) rfl) (asO (.st (.fz (eI (((2 : Int) * p_j) + (3 : Int))))) (ev_bin (asO (.st (.fz (eI ((2 : Int) * p_j)))) (ev_bin (ev_c (x := eI 2)) (ev_varF (x := eI p_j) rfl) (e_mul (mulL (by decide))))) (ev_c (x := eI 3)) e_add)) (t_mulG (i := p_cell) (j := (((2 : Int) * p_j) + (3 : Int))) hv2))) (ev_varF (x := eI p_j) rfl) e_add)) (ev_c (x := eI 2147483629)) (e_mod (by decide)))) ?_
    refine sg_assoc ?_
    refine sg_bind fun v3 hv3 => ?_
    refine sg_set (o := (.fz (eI (((v3 + (1 : Int)) * (48271 : Int)) % (2147483629 : Int))))) (asO (.st (.fz (eI (((v3 + (1 : Int)) * (48271 : Int)) % (2147483629 : Int))))) (ev_bin (asO (.st (.fz (eI ((v3 + (1 : Int)) * (48271 : Int))))) (ev_bin (asO (.st (.fz (eI (v3 + (1 : Int))))) (ev_bin (asO (.st (.fz (eI v3))) (ev_bin (ev_varF (x := eI ((v2 + p_j) % (2147483629 : Int))) rfl) (ev_varF (x := eI ((v2 + p_j) % (2147483629 : Int))) rfl) (t_mulG (i := ((v2 + p_j) % (2147483629 : Int))) (j := ((v2 + p_j) % (2147483629 : Int))) hv3))) (ev_c (x := eI 1)) e_add)) (ev_c (x := eI 48271)) (e_mul (mulR (by decide))))) (ev_c (x := eI 2147483629)) (e_mod (by decide)))) ?_
    refine sg_bind fun v4 hv4 => ?_
    exact sg_retS (o := (.fz (eI (v4 % (2147483587 : Int))))) (asO (.st (.fz (eI (v4 % (2147483587 : Int))))) (ev_bin (asO (.st (.fz (eI v4))) (ev_bin (ev_varF (x := eI (((v3 + (1 : Int)) * (48271 : Int)) % (2147483629 : Int))) rfl) (ev_varF (x := eI (((v3 + (1 : Int)) * (48271 : Int)) % (2147483629 : Int))) rfl) (t_mulG (i := (((v3 + (1 : Int)) * (48271 : Int)) % (2147483629 : Int))) (j := (((v3 + (1 : Int)) * (48271 : Int)) % (2147483629 : Int))) hv4))) (ev_c (x := eI 2147483587)) (e_mod (by decide)))) (fun e => ⟨e, rfl⟩)
noncomputable def T__law_letters (p_cell : Int) : Option (List Chr) :=
  (T__law_mix p_cell (1 : Int)).bind fun v1 => (T__law_mix p_cell (2 : Int)).bind fun v2 => (atI ([(1 : Int), (3 : Int), (5 : Int), (7 : Int), (9 : Int), (11 : Int)] : List Int) (v2 % (6 : Int))).bind fun v3 => (rangeG (6 : Int)).bind fun v4 => (lcG (fun x1 : Int => some true) (fun x1 => (mulG v3 x1).bind fun v5 => (atS' Tcs_1 (((v1 % (26 : Int)) + v5) % (26 : Int))).bind fun v6 => some v6) v4).bind fun v7 => some v7
theorem sm__law_letters {p_cell : Int} {v : (List Chr)} (hv : T__law_letters p_cell = some v) : m__law_letters [eI p_cell] = .ok ((oL eC) v) := by
  refine run_sg (O := (oL eC)) (t := T__law_letters p_cell) ?_ hv
  unfold T__law_letters D__law_letters
  refine sg_env (e2 := [some (.fz (eI p_cell)), none, none, none, none]) rfl ?_
  refine sg_one ?_
  refine sg_assoc ?_
  refine sg_set (o := (.fz (eS Tcs_1))) (ev_cs cs_1) ?_
  refine sg_assoc ?_
  refine sg_bind fun v1 hv1 => ?_
  refine sg_set (o := (.fz (eI (v1 % (26 : Int))))) (asO (.st (.fz (eI (v1 % (26 : Int))))) (ev_bin (asO (.st (.fz (eI v1))) (ev_callA (ev_cons (ev_varF (x := eI p_cell) rfl) (ev_cons (ev_c (x := eI 1)) ev_nil)) (as := [eI p_cell, eI (1 : Int)]) rfl (sm__law_mix hv1) (.inl rfl))) (ev_c (x := eI 26)) (e_mod (by decide)))) ?_
  refine sg_assoc ?_
  refine sg_bind fun v2 hv2 => ?_
  refine sg_bind fun v3 hv3 => ?_
  refine sg_set (o := (.fz (eI v3))) (asO (.st (.fz (eI v3))) (ev_sub (asO (.st (.ol (List.map eI ([(1 : Int), (3 : Int), (5 : Int), (7 : Int), (9 : Int), (11 : Int)] : List Int)))) (ev_list (ev_cons (ev_c (x := eI 1)) (ev_cons (ev_c (x := eI 3)) (ev_cons (ev_c (x := eI 5)) (ev_cons (ev_c (x := eI 7)) (ev_cons (ev_c (x := eI 9)) (ev_cons (ev_c (x := eI 11)) ev_nil)))))) (Nat.le_of_ble_eq_true rfl) rfl)) (asO (.st (.fz (eI (v2 % (6 : Int))))) (ev_bin (asO (.st (.fz (eI v2))) (ev_callA (ev_cons (ev_varF (x := eI p_cell) rfl) (ev_cons (ev_c (x := eI 2)) ev_nil)) (as := [eI p_cell, eI (2 : Int)]) rfl (sm__law_mix hv2) (.inl rfl))) (ev_c (x := eI 6)) (e_mod (by decide)))) rfl (t_atL (e := eI) (xs := ([(1 : Int), (3 : Int), (5 : Int), (7 : Int), (9 : Int), (11 : Int)] : List Int)) (.inl rfl) hv3))) ?_
  refine sg_iceS ?_
  refine sg_iceF rfl ?_
  refine sg_iceS ?_
  refine sg_iceF rfl ?_
  refine sg_iceS ?_
  refine sg_iceF rfl ?_
  refine sg_bind fun v4 hv4 => ?_
  refine sg_bind fun v7 hv7 => ?_
  exact sg_retS (o := (.ol (List.map eC v7))) (asO (.st (.ol (List.map eC v7))) (ev_lc (e := eI) (d := eC) (tc := fun x1 => some true) (te := fun x1 => (mulG v3 x1).bind fun v5 => (atS' Tcs_1 (((v1 % (26 : Int)) + v5) % (26 : Int))).bind fun v6 => some v6) (items := v4) (it_range (ev_c (x := eI 6)) hv4) (fun x1 => ⟨_, rfl, (oe_id rfl), (oe_bind fun v5 hv5 => (oe_bind fun v6 hv6 => (oe_ret (asO (.st (.fz (eC v6))) (ev_frzX (asO (.st (.fz (eC v6))) (ev_sub (ev_varF (x := eS Tcs_1) rfl) (asO (.st (.fz (eI (((v1 % (26 : Int)) + v5) % (26 : Int))))) (ev_bin (asO (.st (.fz (eI ((v1 % (26 : Int)) + v5)))) (ev_bin (ev_varF (x := eI (v1 % (26 : Int))) rfl) (asO (.st (.fz (eI v5))) (ev_bin (ev_varF (x := eI v3) rfl) (ev_varF (x := eI x1) rfl) (t_mulG (i := v3) (j := x1) hv5))) e_add)) (ev_c (x := eI 26)) (e_mod (by decide)))) rfl (t_atS (s := Tcs_1) hv6))) rfl)))))⟩) (.inl (afz_F (afz_F (afz_F (afz_F (afz_N afz_nil)))))) hv7)) (fun e => ⟨e, rfl⟩)
noncomputable def T__law_tree_b1 (s3 : ((List Chr) × (List Chr))) : Option (Ctl ((List Chr) × (List Chr)) Empty) :=
  (popG s3.2 s3.1 (0 : Int)).bind fun v17 => some (.nx (v17.2, v17.1))
noncomputable def T__law_tree_b2 (p_cell : Int) (x1 : Int) (s1 : ((List Chr) × (List (List Chr)) × (List (Option Int)))) : Option ((List Chr) × (List (List Chr)) × (List (Option Int))) :=
  ((if (decide ((0 : Int) < x1)) then (T__law_mix p_cell ((4 : Int) + x1)).bind fun v4 => (modG v4 x1).bind fun v5 => (appG s1.2.2 (some v5)).bind fun v6 => (atI v6 x1).bind fun v7 => (v7).bind fun v8 => (atI s1.2.1 v8).bind fun v9 => (rangeG (v9.length : Int)).bind fun v10 => (lcG (fun x2 : Int => (T__law_mix p_cell (((20 : Int) + ((4 : Int) * x1)) + x2)).bind fun v11 => some (decide ((v11 % (2 : Int)) = (1 : Int)))) (fun x2 => (atI v9 x2).bind fun v12 => some v12) v10).bind fun v13 => some (v6, (cutF v13 none (some (3 : Int)))) else (appG s1.2.2 none).bind fun v14 => some (v14, ([] : List Chr))) : Option ((List (Option Int)) × (List Chr))).bind fun s2 => ((whileT (fun s3 : ((List Chr) × (List Chr)) => (if (!(decide (s3.1 = ([] : List Chr)))) then (T__law_mix p_cell ((12 : Int) + x1)).bind fun v15 => some (decide ((s3.2.length : Int) < ((1 : Int) + (v15 % (4 : Int))))) else some false).bind fun v16 => some v16) T__law_tree_b1 (s1.1, s2.2))).bind (behind (fun r : Empty => nomatch r) fun s4 => ((if (decide (s4.2 = ([] : List Chr))) then (atI s2.1 x1).bind fun v18 => (v18).bind fun v19 => (atI s1.2.1 v19).bind fun v20 => (atI v20 (0 : Int)).bind fun v21 => some ([v21] : List Chr) else some s4.2) : Option (List Chr)).bind fun s5 => (T__law_mix p_cell ((50 : Int) + x1)).bind fun v22 => ((if (decide ((v22 % (2 : Int)) = (1 : Int))) then some (List.reverse s5) else some s5) : Option (List Chr)).bind fun s6 => (appG s1.2.1 s6).bind fun v23 => some (s4.1, v23, s2.1))
noncomputable def T__law_tree_b3 (s7 : ((List Chr) × (List (List Chr)) × (List (Option Int)))) (s8 : (List Int)) (x5 : Int) (s9 : (List (Option Int))) : Option (List (Option Int)) :=
  (atI s7.2.2 x5).bind fun v33 => (if v33.isSome then (atI s7.2.2 x5).bind fun v34 => (v34).bind fun v35 => (atI s8 v35).bind fun v36 => (atI s8 x5).bind fun v37 => (putL s9 v37 (some v36)).bind fun v38 => some v38 else some s9)
noncomputable def T__law_tree_b4 (s7 : ((List Chr) × (List (List Chr)) × (List (Option Int)))) (s8 : (List Int)) (x7 : Int) (s11 : (List (List Chr))) : Option (List (List Chr)) :=
  (atI s7.2.1 x7).bind fun v42 => (atI s8 x7).bind fun v43 => (putL s11 v43 v42).bind fun v44 => some v44
noncomputable def T__law_tree (p_cell : Int) : Option ((List (List Chr)) × (List (Option Int))) :=
  (T__law_letters p_cell).bind fun v1 => (T__law_mix p_cell (3 : Int)).bind fun v2 => (rangeG ((1 : Int) + (v2 % (6 : Int)))).bind fun v3 => (forT (T__law_tree_b2 p_cell) v3 (v1, ([] : List (List Chr)), ([] : List (Option Int)))).bind fun s7 => (T__law_mix p_cell (60 : Int)).bind fun v24 => (modG v24 (s7.2.1.length : Int)).bind fun v25 => (rangeG (s7.2.1.length : Int)).bind fun v26 => (lcG (fun x3 : Int => some true) (fun x3 => (modG (x3 + v25) (s7.2.1.length : Int)).bind fun v27 => some v27) v26).bind fun v28 => (T__law_mix p_cell (61 : Int)).bind fun v29 => ((if (decide ((v29 % (2 : Int)) = (1 : Int))) then some (List.reverse v28) else some v28) : Option (List Int)).bind fun s8 => (rangeG (s7.2.1.length : Int)).bind fun v30 => (lcG (fun x4 : Int => some true) (fun x4 => some none) v30).bind fun v31 => (rangeG (s7.2.1.length : Int)).bind fun v32 => (forT (T__law_tree_b3 s7 s8) v32 v31).bind fun s10 => (rangeG (s7.2.1.length : Int)).bind fun v39 => (lcG (fun x6 : Int => some true) (fun x6 => some ([] : List Chr)) v39).bind fun v40 => (rangeG (s7.2.1.length : Int)).bind fun v41 => (forT (T__law_tree_b4 s7 s8) v41 v40).bind fun s12 => some (s12, s10)
theorem sm__law_tree {p_cell : Int} {v : ((List (List Chr)) × (List (Option Int)))} (hv : T__law_tree p_cell = some v) : m__law_tree [eI p_cell] = .ok ((oF (eP (eL (eZ eC)) (eL (eO eI)))) v) := by
  refine run_sg (O := (oF (eP (eL (eZ eC)) (eL (eO eI))))) (t := T__law_tree p_cell) ?_ hv
  unfold T__law_tree D__law_tree
  refine sg_env (e2 := [some (.fz (eI p_cell)), none, none, none, none, none, none, none, none, none, none, none, none]) rfl ?_
  refine sg_one ?_
  refine sg_assoc ?_
  refine sg_bind fun v1 hv1 => ?_
  refine sg_set (o := (.ol (List.map eC v1))) (asO (.st (.ol (List.map eC v1))) (ev_callA (ev_cons (ev_varF (x := eI p_cell) rfl) ev_nil) (as := [eI p_cell]) rfl (sm__law_letters hv1) (.inl rfl))) ?_
  refine sg_assoc ?_
  refine sg_set (o := (.ol (List.map (eZ eC) ([] : List (List Chr))))) (asO (.st (.ol (List.map (eZ eC) ([] : List (List Chr))))) (ev_list ev_nil (Nat.le_of_ble_eq_true rfl) rfl)) ?_
  refine sg_assoc ?_
  refine sg_set (o := (.ol (List.map (eO eI) ([] : List (Option Int))))) (asO (.st (.ol (List.map (eO eI) ([] : List (Option Int))))) (ev_list ev_nil (Nat.le_of_ble_eq_true rfl) rfl)) ?_
  refine sg_assoc ?_
  refine sg_bind fun v2 hv2 => ?_
  refine sg_bind fun v3 hv3 => ?_
  refine sg_seq (sg_for (eA := eI) (fun (s1 : ((List Chr) × (List (List Chr)) × (List (Option Int)))) (e : VEnv) => ∃ j1 j2 j3 : Option OV, e = [some (.fz (eI p_cell)), some (.ol (List.map eC s1.1)), some (.ol (List.map (eZ eC) s1.2.1)), some (.ol (List.map (eO eI) s1.2.2)), j1, j2, j3, none, none, none, none, none, none]) (tb := (T__law_tree_b2 p_cell)) (it_range (asO (.st (.fz (eI ((1 : Int) + (v2 % (6 : Int)))))) (ev_bin (ev_c (x := eI 1)) (asO (.st (.fz (eI (v2 % (6 : Int))))) (ev_bin (asO (.st (.fz (eI v2))) (ev_callA (ev_cons (ev_varF (x := eI p_cell) rfl) (ev_cons (ev_c (x := eI 3)) ev_nil)) (as := [eI p_cell, eI (3 : Int)]) rfl (sm__law_mix hv2) (.inl rfl))) (ev_c (x := eI 6)) (e_mod (by decide)))) e_add)) hv3) ⟨_, _, _, rfl⟩ (fun x1 s1 e hE => ?_)) (fun s7 e hE => ?_)
  · obtain ⟨j1, j2, j3, rfl⟩ := hE
    refine ⟨_, rfl, ?_⟩
    unfold T__law_tree_b2
    refine sg_one ?_
    refine sg_assoc ?_
    refine sg_set (o := (.ol (List.map eC ([] : List Chr)))) (asO (.st (.ol (List.map eC ([] : List Chr)))) (ev_list ev_nil (Nat.le_of_ble_eq_true rfl) rfl)) ?_
    refine sg_assoc ?_
    refine sg_seq (E := (fun (s2 : ((List (Option Int)) × (List Chr))) (e : VEnv) => ∃ j4 : Option OV, e = [some (.fz (eI p_cell)), some (.ol (List.map eC s1.1)), some (.ol (List.map (eZ eC) s1.2.1)), some (.ol (List.map (eO eI) s2.1)), some (.fz (eI x1)), some (.ol (List.map eC s2.2)), j4, none, none, none, none, none, none])) ?_ (fun s2 e hE => ?_)
    · refine sg_if (ev_test (asO (.st (.fz (eB (decide ((0 : Int) < x1))))) (ev_bin (ev_varF (x := eI x1) rfl) (ev_c (x := eI 0)) t_gt))) (fun _ => ?_) (fun _ => ?_)
      · refine sg_one ?_
        refine sg_assoc ?_
        refine sg_bind fun v4 hv4 => ?_
        refine sg_bind fun v5 hv5 => ?_
        refine sg_bind fun v6 hv6 => ?_
        refine sg_appL (e := (eO eI)) (xs := s1.2.2) (x := (some v5)) rfl (asO (.st (.fz (eI v5))) (ev_frzX (asO (.st (.fz (eI v5))) (ev_bin (asO (.st (.fz (eI v4))) (ev_callA (ev_cons (ev_varF (x := eI p_cell) rfl) (ev_cons (asO (.st (.fz (eI ((4 : Int) + x1)))) (ev_frzX (asO (.st (.fz (eI ((4 : Int) + x1)))) (ev_bin (ev_c (x := eI 4)) (ev_varF (x := eI x1) rfl) e_add)) rfl)) ev_nil)) (as := [eI p_cell, eI ((4 : Int) + x1)]) rfl (sm__law_mix hv4) (.inl rfl))) (ev_varF (x := eI x1) rfl) (t_modG (i := v4) (j := x1) hv5))) rfl)) hv6 ?_
        refine sg_assoc ?_
        refine sg_bind fun v7 hv7 => ?_
        refine sg_bind fun v8 hv8 => ?_
        refine sg_bind fun v9 hv9 => ?_
        refine sg_set (o := (.fz ((eZ eC) v9))) (asO (.st (.fz ((eZ eC) v9))) (ev_sub (ev_varO (o := (.ol (List.map (eZ eC) s1.2.1))) rfl rfl) (unO (e := eI) (v := v7) (asO (.st (.fz ((eO eI) v7))) (ev_sub (ev_varO (o := (.ol (List.map (eO eI) v6))) rfl rfl) (ev_varF (x := eI x1) rfl) rfl (t_atL (e := (eO eI)) (xs := v6) (.inl rfl) hv7))) hv8) rfl (t_atL (e := (eZ eC)) (xs := s1.2.1) (.inl rfl) hv9))) ?_
        refine sg_bind fun v10 hv10 => ?_
        refine sg_bind fun v13 hv13 => ?_
        refine sg_set (o := (.ol (List.map eC (cutF v13 none (some (3 : Int)))))) (asO (.st (.ol (List.map eC (cutF v13 none (some (3 : Int)))))) (ev_sl (asO (.st (.ol (List.map eC v13))) (ev_lc (e := eI) (d := eC) (tc := fun x2 => (T__law_mix p_cell (((20 : Int) + ((4 : Int) * x1)) + x2)).bind fun v11 => some (decide ((v11 % (2 : Int)) = (1 : Int)))) (te := fun x2 => (atI v9 x2).bind fun v12 => some v12) (items := v10) (it_range (asO (.st (.fz (eI (v9.length : Int)))) (ev_callB (ev_cons (ev_varF (x := (eZ eC) v9) rfl) ev_nil) (t_lenZ (e := eC) (xs := v9)))) hv10) (fun x2 => ⟨_, rfl, (oe_bind fun v11 hv11 => (oe_id (ev_test (asO (.st (.fz (eB (decide ((v11 % (2 : Int)) = (1 : Int)))))) (ev_bin (asO (.st (.fz (eI (v11 % (2 : Int))))) (ev_bin (asO (.st (.fz (eI v11))) (ev_callA (ev_cons (ev_varF (x := eI p_cell) rfl) (ev_cons (asO (.st (.fz (eI (((20 : Int) + ((4 : Int) * x1)) + x2)))) (ev_frzX (asO (.st (.fz (eI (((20 : Int) + ((4 : Int) * x1)) + x2)))) (ev_bin (asO (.st (.fz (eI ((20 : Int) + ((4 : Int) * x1))))) (ev_bin (ev_c (x := eI 20)) (asO (.st (.fz (eI ((4 : Int) * x1)))) (ev_bin (ev_c (x := eI 4)) (ev_varF (x := eI x1) rfl) (e_mul (mulL (by decide))))) e_add)) (ev_varF (x := eI x2) rfl) e_add)) rfl)) ev_nil)) (as := [eI p_cell, eI (((20 : Int) + ((4 : Int) * x1)) + x2)]) rfl (sm__law_mix hv11) (.inl rfl))) (ev_c (x := eI 2)) (e_mod (by decide)))) (ev_c (x := eI 1)) (t_eq (e := eI) (a := (v11 % (2 : Int))) (b := (1 : Int)) epI (by decide) rfl rfl)))))), (oe_bind fun v12 hv12 => (oe_ret (asO (.st (.fz (eC v12))) (ev_frzX (asO (.st (.fz (eC v12))) (ev_sub (ev_varF (x := (eZ eC) v9) rfl) (ev_varF (x := eI x2) rfl) rfl (t_atZ (e := eC) (xs := v9) rfl hv12))) rfl))))⟩) (.inr puC) hv13)) ev_pn (ev_ps (ev_c (x := eI 3))) (t_slL (e := eC) (xs := v13) (.inl rfl)))) ?_
        exact sg_nx ⟨_, rfl⟩
      · refine sg_one ?_
        refine sg_bind fun v14 hv14 => ?_
        refine sg_appL (e := (eO eI)) (xs := s1.2.2) (x := none) rfl (ev_c (x := eU ())) hv14 ?_
        exact sg_nx ⟨_, rfl⟩
    · obtain ⟨j4, rfl⟩ := hE
      refine sg_assoc ?_
      refine sg_seqL (sg_while (fun (s3 : ((List Chr) × (List Chr))) (e : VEnv) => e = [some (.fz (eI p_cell)), some (.ol (List.map eC s3.1)), some (.ol (List.map (eZ eC) s1.2.1)), some (.ol (List.map (eO eI) s2.1)), some (.fz (eI x1)), some (.ol (List.map eC s3.2)), j4, none, none, none, none, none, none]) (fun (s3 : ((List Chr) × (List Chr))) (e : VEnv) => e = [some (.fz (eI p_cell)), some (.ol (List.map eC s3.1)), some (.ol (List.map (eZ eC) s1.2.1)), some (.ol (List.map (eO eI) s2.1)), some (.fz (eI x1)), some (.ol (List.map eC s3.2)), j4, none, none, none, none, none, none]) (fun r : Empty => nomatch r) (tb := T__law_tree_b1) rfl (fun _ _ h => h) (fun s3 e hE => ?_) (fun s3 e hE => ?_)) (fun r => nomatch r) (fun s4 e hE => ?_)
      · subst hE
        exact (oe_bind fun v16 hv16 => (oe_id (ev_andO (ev_test (asO (.st (.fz (eB (!(decide (s3.1 = ([] : List Chr))))))) (ev_bin (ev_varO (o := (.ol (List.map eC s3.1))) rfl rfl) (asO (.st (.ol (List.map eC ([] : List Chr)))) (ev_list ev_nil (Nat.le_of_ble_eq_true rfl) rfl)) (t_ne (e := (eL eC)) (a := s3.1) (b := ([] : List Chr)) (epL epC) (by decide) rfl rfl)))) (fun _ => (oe_bind fun v15 hv15 => (oe_id (ev_test (asO (.st (.fz (eB (decide ((s3.2.length : Int) < ((1 : Int) + (v15 % (4 : Int)))))))) (ev_bin (asO (.st (.fz (eI (s3.2.length : Int)))) (ev_callB (ev_cons (ev_varO (o := (.ol (List.map eC s3.2))) rfl rfl) ev_nil) (t_lenL (e := eC) (xs := s3.2) (.inl rfl)))) (asO (.st (.fz (eI ((1 : Int) + (v15 % (4 : Int)))))) (ev_bin (ev_c (x := eI 1)) (asO (.st (.fz (eI (v15 % (4 : Int))))) (ev_bin (asO (.st (.fz (eI v15))) (ev_callA (ev_cons (ev_varF (x := eI p_cell) rfl) (ev_cons (asO (.st (.fz (eI ((12 : Int) + x1)))) (ev_frzX (asO (.st (.fz (eI ((12 : Int) + x1)))) (ev_bin (ev_c (x := eI 12)) (ev_varF (x := eI x1) rfl) e_add)) rfl)) ev_nil)) (as := [eI p_cell, eI ((12 : Int) + x1)]) rfl (sm__law_mix hv15) (.inl rfl))) (ev_c (x := eI 4)) (e_mod (by decide)))) e_add)) t_lt)))))) hv16)))
      · subst hE
        unfold T__law_tree_b1
        refine sg_one ?_
        refine sg_bind fun v17 hv17 => ?_
        refine sg_appPop (e := eC) (xs := s3.2) (ys := s3.1) (k := (0 : Int)) rfl rfl (by decide) (ev_c (x := eI 0)) hv17 ?_
        exact sg_of rfl ⟨_, rfl, rfl⟩
      · subst hE
        refine sg_assoc ?_
        refine sg_seq (E := (fun (s5 : (List Chr)) (e : VEnv) => e = [some (.fz (eI p_cell)), some (.ol (List.map eC s4.1)), some (.ol (List.map (eZ eC) s1.2.1)), some (.ol (List.map (eO eI) s2.1)), some (.fz (eI x1)), some (.ol (List.map eC s5)), j4, none, none, none, none, none, none])) ?_ (fun s5 e hE => ?_)
        · refine sg_if (ev_test (asO (.st (.fz (eB (decide (s4.2 = ([] : List Chr)))))) (ev_bin (ev_varO (o := (.ol (List.map eC s4.2))) rfl rfl) (asO (.st (.ol (List.map eC ([] : List Chr)))) (ev_list ev_nil (Nat.le_of_ble_eq_true rfl) rfl)) (t_eq (e := (eL eC)) (a := s4.2) (b := ([] : List Chr)) (epL epC) (by decide) rfl rfl)))) (fun _ => ?_) (fun _ => ?_)
          · refine sg_one ?_
            refine sg_bind fun v18 hv18 => ?_
            refine sg_bind fun v19 hv19 => ?_
            refine sg_bind fun v20 hv20 => ?_
            refine sg_bind fun v21 hv21 => ?_
            refine sg_set (o := (.ol (List.map eC ([v21] : List Chr)))) (asO (.st (.ol (List.map eC ([v21] : List Chr)))) (ev_list (ev_cons (asO (.st (.fz (eC v21))) (ev_frzX (asO (.st (.fz (eC v21))) (ev_sub (asO (.st (.fz ((eZ eC) v20))) (ev_sub (ev_varO (o := (.ol (List.map (eZ eC) s1.2.1))) rfl rfl) (unO (e := eI) (v := v18) (asO (.st (.fz ((eO eI) v18))) (ev_sub (ev_varO (o := (.ol (List.map (eO eI) s2.1))) rfl rfl) (ev_varF (x := eI x1) rfl) rfl (t_atL (e := (eO eI)) (xs := s2.1) (.inl rfl) hv18))) hv19) rfl (t_atL (e := (eZ eC)) (xs := s1.2.1) (.inl rfl) hv20))) (ev_c (x := eI 0)) rfl (t_atZ (e := eC) (xs := v20) rfl hv21))) rfl)) ev_nil) (Nat.le_of_ble_eq_true rfl) rfl)) ?_
            exact sg_nx rfl
          · refine sg_one ?_
            refine sg_skip ?_
            exact sg_nx rfl
        · subst hE
          refine sg_assoc ?_
          refine sg_bind fun v22 hv22 => ?_
          refine sg_seq (E := (fun (s6 : (List Chr)) (e : VEnv) => e = [some (.fz (eI p_cell)), some (.ol (List.map eC s4.1)), some (.ol (List.map (eZ eC) s1.2.1)), some (.ol (List.map (eO eI) s2.1)), some (.fz (eI x1)), some (.ol (List.map eC s6)), j4, none, none, none, none, none, none])) ?_ (fun s6 e hE => ?_)
          · refine sg_if (ev_test (asO (.st (.fz (eB (decide ((v22 % (2 : Int)) = (1 : Int)))))) (ev_bin (asO (.st (.fz (eI (v22 % (2 : Int))))) (ev_bin (asO (.st (.fz (eI v22))) (ev_callA (ev_cons (ev_varF (x := eI p_cell) rfl) (ev_cons (asO (.st (.fz (eI ((50 : Int) + x1)))) (ev_frzX (asO (.st (.fz (eI ((50 : Int) + x1)))) (ev_bin (ev_c (x := eI 50)) (ev_varF (x := eI x1) rfl) e_add)) rfl)) ev_nil)) (as := [eI p_cell, eI ((50 : Int) + x1)]) rfl (sm__law_mix hv22) (.inl rfl))) (ev_c (x := eI 2)) (e_mod (by decide)))) (ev_c (x := eI 1)) (t_eq (e := eI) (a := (v22 % (2 : Int))) (b := (1 : Int)) epI (by decide) rfl rfl)))) (fun _ => ?_) (fun _ => ?_)
            · refine sg_one ?_
              refine sg_set (o := (.ol (List.map eC (List.reverse s5)))) (asO (.st (.ol (List.map eC (List.reverse s5)))) (ev_un (ev_varO (o := (.ol (List.map eC s5))) rfl rfl) (t_rev (e := eC) (xs := s5) (.inl rfl)))) ?_
              exact sg_nx rfl
            · refine sg_one ?_
              refine sg_skip ?_
              exact sg_nx rfl
          · subst hE
            refine sg_bind fun v23 hv23 => ?_
            refine sg_appL (e := (eZ eC)) (xs := s1.2.1) (x := s6) rfl (asO (.st (.fz ((eZ eC) s6))) (ev_frzX (asO (.st (.fz ((eZ eC) s6))) (ev_callB (ev_cons (ev_varO (o := (.ol (List.map eC s6))) rfl rfl) ev_nil) (t_tupY (e := eC) (xs := s6) (.inl rfl)))) rfl)) hv23 ?_
            exact sg_nx ⟨_, _, _, rfl⟩
  · obtain ⟨j5, j6, j7, rfl⟩ := hE
    refine sg_assoc ?_
    refine sg_set (o := (.fz (eI (s7.2.1.length : Int)))) (asO (.st (.fz (eI (s7.2.1.length : Int)))) (ev_callB (ev_cons (ev_varO (o := (.ol (List.map (eZ eC) s7.2.1))) rfl rfl) ev_nil) (t_lenL (e := (eZ eC)) (xs := s7.2.1) (.inl rfl)))) ?_
    refine sg_assoc ?_
    refine sg_bind fun v24 hv24 => ?_
    refine sg_bind fun v25 hv25 => ?_
    refine sg_set (o := (.fz (eI v25))) (asO (.st (.fz (eI v25))) (ev_bin (asO (.st (.fz (eI v24))) (ev_callA (ev_cons (ev_varF (x := eI p_cell) rfl) (ev_cons (ev_c (x := eI 60)) ev_nil)) (as := [eI p_cell, eI (60 : Int)]) rfl (sm__law_mix hv24) (.inl rfl))) (ev_varF (x := eI (s7.2.1.length : Int)) rfl) (t_modG (i := v24) (j := (s7.2.1.length : Int)) hv25))) ?_
    refine sg_assoc ?_
    refine sg_bind fun v26 hv26 => ?_
    refine sg_bind fun v28 hv28 => ?_
    refine sg_set (o := (.ol (List.map eI v28))) (asO (.st (.ol (List.map eI v28))) (ev_lc (e := eI) (d := eI) (tc := fun x3 => some true) (te := fun x3 => (modG (x3 + v25) (s7.2.1.length : Int)).bind fun v27 => some v27) (items := v26) (it_range (ev_varF (x := eI (s7.2.1.length : Int)) rfl) hv26) (fun x3 => ⟨_, rfl, (oe_id rfl), (oe_bind fun v27 hv27 => (oe_ret (asO (.st (.fz (eI v27))) (ev_frzX (asO (.st (.fz (eI v27))) (ev_bin (asO (.st (.fz (eI (x3 + v25)))) (ev_bin (ev_varF (x := eI x3) rfl) (ev_varF (x := eI v25) rfl) e_add)) (ev_varF (x := eI (s7.2.1.length : Int)) rfl) (t_modG (i := (x3 + v25)) (j := (s7.2.1.length : Int)) hv27))) rfl))))⟩) (.inr puI) hv28)) ?_
    refine sg_assoc ?_
    refine sg_iceS ?_
    refine sg_ice (o := (.ol (List.map eI v28))) (x := (eL eI) v28) rfl rfl ?_
    refine sg_bind fun v29 hv29 => ?_
    refine sg_seq (E := (fun (s8 : (List Int)) (e : VEnv) => e = [some (.fz (eI p_cell)), some (.ol (List.map eC s7.1)), some (.ol (List.map (eZ eC) s7.2.1)), some (.ol (List.map (eO eI) s7.2.2)), j5, j6, j7, some (.fz (eI (s7.2.1.length : Int))), some (.fz (eI v25)), some (.fz ((eL eI) s8)), none, none, none])) ?_ (fun s8 e hE => ?_)
    · refine sg_if (ev_test (asO (.st (.fz (eB (decide ((v29 % (2 : Int)) = (1 : Int)))))) (ev_bin (asO (.st (.fz (eI (v29 % (2 : Int))))) (ev_bin (asO (.st (.fz (eI v29))) (ev_callA (ev_cons (ev_varF (x := eI p_cell) rfl) (ev_cons (ev_c (x := eI 61)) ev_nil)) (as := [eI p_cell, eI (61 : Int)]) rfl (sm__law_mix hv29) (.inl rfl))) (ev_c (x := eI 2)) (e_mod (by decide)))) (ev_c (x := eI 1)) (t_eq (e := eI) (a := (v29 % (2 : Int))) (b := (1 : Int)) epI (by decide) rfl rfl)))) (fun _ => ?_) (fun _ => ?_)
      · refine sg_one ?_
        refine sg_assoc ?_
        refine sg_set (o := (.ol (List.map eI (List.reverse v28)))) (asO (.st (.ol (List.map eI (List.reverse v28)))) (ev_un (ev_varF (x := (eL eI) v28) rfl) (t_rev (e := eI) (xs := v28) (.inr rfl)))) ?_
        refine sg_iceS ?_
        refine sg_ice (o := (.ol (List.map eI (List.reverse v28)))) (x := (eL eI) (List.reverse v28)) rfl rfl ?_
        refine sg_skip ?_
        exact sg_nx rfl
      · refine sg_one ?_
        refine sg_skip ?_
        exact sg_nx rfl
    · subst hE
      refine sg_assoc ?_
      refine sg_bind fun v30 hv30 => ?_
      refine sg_bind fun v31 hv31 => ?_
      refine sg_set (o := (.ol (List.map (eO eI) v31))) (asO (.st (.ol (List.map (eO eI) v31))) (ev_lc (e := eI) (d := (eO eI)) (tc := fun x4 => some true) (te := fun x4 => some none) (items := v30) (it_range (ev_varF (x := eI (s7.2.1.length : Int)) rfl) hv30) (fun x4 => ⟨_, rfl, (oe_id rfl), (oe_ret (ev_c (x := eU ())))⟩) (.inr (puO puI)) hv31)) ?_
      refine sg_assoc ?_
      refine sg_bind fun v32 hv32 => ?_
      refine sg_seq (sg_for (eA := eI) (fun (s9 : (List (Option Int))) (e : VEnv) => ∃ j8 : Option OV, e = [some (.fz (eI p_cell)), some (.ol (List.map eC s7.1)), some (.ol (List.map (eZ eC) s7.2.1)), some (.ol (List.map (eO eI) s7.2.2)), j8, j6, j7, some (.fz (eI (s7.2.1.length : Int))), some (.fz (eI v25)), some (.fz ((eL eI) s8)), some (.ol (List.map (eO eI) s9)), none, none]) (tb := (T__law_tree_b3 s7 s8)) (it_range (ev_varF (x := eI (s7.2.1.length : Int)) rfl) hv32) ⟨_, rfl⟩ (fun x5 s9 e hE => ?_)) (fun s10 e hE => ?_)
      · obtain ⟨j8, rfl⟩ := hE
        refine ⟨_, rfl, ?_⟩
        unfold T__law_tree_b3
        refine sg_one ?_
        refine sg_bind fun v33 hv33 => ?_
        refine sg_ifs (ev_test (asO (.st (.fz (eB v33.isSome))) (ev_un (asO (.st (.fz ((eO eI) v33))) (ev_sub (ev_varO (o := (.ol (List.map (eO eI) s7.2.2))) rfl rfl) (ev_varF (x := eI x5) rfl) rfl (t_atL (e := (eO eI)) (xs := s7.2.2) (.inl rfl) hv33))) (t_notN (e := eI) (v := v33) nnI rfl)))) (fun _ => ?_) (fun _ => ?_)
        · refine sg_bind fun v34 hv34 => ?_
          refine sg_bind fun v35 hv35 => ?_
          refine sg_bind fun v36 hv36 => ?_
          refine sg_bind fun v37 hv37 => ?_
          refine sg_bind fun v38 hv38 => ?_
          refine sg_putL (e := (eO eI)) (xs := s9) (x := (some v36)) (j := v37) rfl (asO (.st (.fz (eI v36))) (ev_frzX (asO (.st (.fz (eI v36))) (ev_sub (ev_varF (x := (eL eI) s8) rfl) (unO (e := eI) (v := v34) (asO (.st (.fz ((eO eI) v34))) (ev_sub (ev_varO (o := (.ol (List.map (eO eI) s7.2.2))) rfl rfl) (ev_varF (x := eI x5) rfl) rfl (t_atL (e := (eO eI)) (xs := s7.2.2) (.inl rfl) hv34))) hv35) rfl (t_atL (e := eI) (xs := s8) (.inr (.inl rfl)) hv36))) rfl)) (asO (.st (.fz (eI v37))) (ev_sub (ev_varF (x := (eL eI) s8) rfl) (ev_varF (x := eI x5) rfl) rfl (t_atL (e := eI) (xs := s8) (.inr (.inl rfl)) hv37))) hv38 ?_
          exact sg_nx ⟨_, rfl⟩
        · refine sg_skip ?_
          exact sg_nx ⟨_, rfl⟩
      · obtain ⟨j9, rfl⟩ := hE
        refine sg_assoc ?_
        refine sg_bind fun v39 hv39 => ?_
        refine sg_bind fun v40 hv40 => ?_
        refine sg_set (o := (.ol (List.map (eZ eC) v40))) (asO (.st (.ol (List.map (eZ eC) v40))) (ev_lc (e := eI) (d := (eZ eC)) (tc := fun x6 => some true) (te := fun x6 => some ([] : List Chr)) (items := v39) (it_range (ev_varF (x := eI (s7.2.1.length : Int)) rfl) hv39) (fun x6 => ⟨_, rfl, (oe_id rfl), (oe_ret (asO (.st (.fz ((eZ eC) ([] : List Chr)))) (ev_frzX (asO (.st (.fz ((eZ eC) ([] : List Chr)))) (ev_tup ev_nil (Nat.le_of_ble_eq_true rfl) rfl)) rfl)))⟩) (.inr (puZ puC)) hv40)) ?_
        refine sg_assoc ?_
        refine sg_bind fun v41 hv41 => ?_
        refine sg_seq (sg_for (eA := eI) (fun (s11 : (List (List Chr))) (e : VEnv) => ∃ j10 : Option OV, e = [some (.fz (eI p_cell)), some (.ol (List.map eC s7.1)), some (.ol (List.map (eZ eC) s7.2.1)), some (.ol (List.map (eO eI) s7.2.2)), j10, j6, j7, some (.fz (eI (s7.2.1.length : Int))), some (.fz (eI v25)), some (.fz ((eL eI) s8)), some (.ol (List.map (eO eI) s10)), some (.ol (List.map (eZ eC) s11)), none]) (tb := (T__law_tree_b4 s7 s8)) (it_range (ev_varF (x := eI (s7.2.1.length : Int)) rfl) hv41) ⟨_, rfl⟩ (fun x7 s11 e hE => ?_)) (fun s12 e hE => ?_)
        · obtain ⟨j10, rfl⟩ := hE
          refine ⟨_, rfl, ?_⟩
          unfold T__law_tree_b4
          refine sg_one ?_
          refine sg_bind fun v42 hv42 => ?_
          refine sg_bind fun v43 hv43 => ?_
          refine sg_bind fun v44 hv44 => ?_
          refine sg_putL (e := (eZ eC)) (xs := s11) (x := v42) (j := v43) rfl (asO (.st (.fz ((eZ eC) v42))) (ev_frzX (asO (.st (.fz ((eZ eC) v42))) (ev_sub (ev_varO (o := (.ol (List.map (eZ eC) s7.2.1))) rfl rfl) (ev_varF (x := eI x7) rfl) rfl (t_atL (e := (eZ eC)) (xs := s7.2.1) (.inl rfl) hv42))) rfl)) (asO (.st (.fz (eI v43))) (ev_sub (ev_varF (x := (eL eI) s8) rfl) (ev_varF (x := eI x7) rfl) rfl (t_atL (e := eI) (xs := s8) (.inr (.inl rfl)) hv43))) hv44 ?_
          exact sg_nx ⟨_, rfl⟩
        · obtain ⟨j11, rfl⟩ := hE
          refine sg_iceS ?_
          refine sg_ice (o := (.ol (List.map (eO eI) s10))) (x := (eL (eO eI)) s10) rfl rfl ?_
          refine sg_iceS ?_
          refine sg_ice (o := (.ol (List.map (eZ eC) s12))) (x := (eL (eZ eC)) s12) rfl rfl ?_
          exact sg_retS (o := (.fz ((eP (eL (eZ eC)) (eL (eO eI))) (s12, s10)))) (asO (.st (.fz ((eP (eL (eZ eC)) (eL (eO eI))) (s12, s10)))) (ev_tup (ev_cons (ev_varF (x := (eL (eZ eC)) s12) rfl) (ev_cons (ev_varF (x := (eL (eO eI)) s10) rfl) ev_nil)) (Nat.le_of_ble_eq_true rfl) rfl)) (fun e => ⟨e, rfl⟩)
noncomputable def T__law_numbers (p_cell : Int) : Option (List Int) :=
  (modG p_cell (((10 : Int) ^ (60 : Nat)) - (1 : Int))).bind fun v1 => (T__law_mix p_cell (70 : Int)).bind fun v2 => (atI ([([v1, (0 : Int)] : List Int), ([v1, (-v1), (v1 + (1 : Int))] : List Int), ([(0 : Int), (-v1), (1 : Int)] : List Int)] : List (List Int)) (v2 % (3 : Int))).bind fun v3 => some v3
theorem sm__law_numbers {p_cell : Int} {v : (List Int)} (hv : T__law_numbers p_cell = some v) : m__law_numbers [eI p_cell] = .ok ((oF (eL eI)) v) := by
  refine run_sg (O := (oF (eL eI))) (t := T__law_numbers p_cell) ?_ hv
  unfold T__law_numbers D__law_numbers
  refine sg_env (e2 := [some (.fz (eI p_cell)), none]) rfl ?_
  refine sg_one ?_
  refine sg_assoc ?_
  refine sg_bind fun v1 hv1 => ?_
  refine sg_set (o := (.fz (eI v1))) (asO (.st (.fz (eI v1))) (ev_bin (ev_varF (x := eI p_cell) rfl) (asO (.st (.fz (eI (((10 : Int) ^ (60 : Nat)) - (1 : Int))))) (ev_bin (asO (.st (.fz (eI ((10 : Int) ^ (60 : Nat))))) (ev_bin (ev_c (x := eI 10)) (ev_c (x := eI 60)) (t_pow (by decide)))) (ev_c (x := eI 1)) e_sub)) (t_modG (i := p_cell) (j := (((10 : Int) ^ (60 : Nat)) - (1 : Int))) hv1))) ?_
  refine sg_bind fun v2 hv2 => ?_
  refine sg_bind fun v3 hv3 => ?_
  exact sg_retS (o := (.fz ((eL eI) v3))) (asO (.st (.fz ((eL eI) v3))) (ev_sub (asO (.st (.ol (List.map (eL eI) ([([v1, (0 : Int)] : List Int), ([v1, (-v1), (v1 + (1 : Int))] : List Int), ([(0 : Int), (-v1), (1 : Int)] : List Int)] : List (List Int))))) (ev_list (ev_cons (asO (.st (.fz ((eL eI) ([v1, (0 : Int)] : List Int)))) (ev_frzX (o := (.ol (List.map eI ([v1, (0 : Int)] : List Int)))) (asO (.st (.ol (List.map eI ([v1, (0 : Int)] : List Int)))) (ev_list (ev_cons (ev_varF (x := eI v1) rfl) (ev_cons (ev_c (x := eI 0)) ev_nil)) (Nat.le_of_ble_eq_true rfl) rfl)) rfl)) (ev_cons (asO (.st (.fz ((eL eI) ([v1, (-v1), (v1 + (1 : Int))] : List Int)))) (ev_frzX (o := (.ol (List.map eI ([v1, (-v1), (v1 + (1 : Int))] : List Int)))) (asO (.st (.ol (List.map eI ([v1, (-v1), (v1 + (1 : Int))] : List Int)))) (ev_list (ev_cons (ev_varF (x := eI v1) rfl) (ev_cons (asO (.st (.fz (eI (-v1)))) (ev_frzX (asO (.st (.fz (eI (-v1)))) (ev_un (ev_varF (x := eI v1) rfl) t_neg)) rfl)) (ev_cons (asO (.st (.fz (eI (v1 + (1 : Int))))) (ev_frzX (asO (.st (.fz (eI (v1 + (1 : Int))))) (ev_bin (ev_varF (x := eI v1) rfl) (ev_c (x := eI 1)) e_add)) rfl)) ev_nil))) (Nat.le_of_ble_eq_true rfl) rfl)) rfl)) (ev_cons (asO (.st (.fz ((eL eI) ([(0 : Int), (-v1), (1 : Int)] : List Int)))) (ev_frzX (o := (.ol (List.map eI ([(0 : Int), (-v1), (1 : Int)] : List Int)))) (asO (.st (.ol (List.map eI ([(0 : Int), (-v1), (1 : Int)] : List Int)))) (ev_list (ev_cons (ev_c (x := eI 0)) (ev_cons (asO (.st (.fz (eI (-v1)))) (ev_frzX (asO (.st (.fz (eI (-v1)))) (ev_un (ev_varF (x := eI v1) rfl) t_neg)) rfl)) (ev_cons (ev_c (x := eI 1)) ev_nil))) (Nat.le_of_ble_eq_true rfl) rfl)) rfl)) ev_nil))) (Nat.le_of_ble_eq_true rfl) rfl)) (asO (.st (.fz (eI (v2 % (3 : Int))))) (ev_bin (asO (.st (.fz (eI v2))) (ev_callA (ev_cons (ev_varF (x := eI p_cell) rfl) (ev_cons (ev_c (x := eI 70)) ev_nil)) (as := [eI p_cell, eI (70 : Int)]) rfl (sm__law_mix hv2) (.inl rfl))) (ev_c (x := eI 3)) (e_mod (by decide)))) rfl (t_atL (e := (eL eI)) (xs := ([([v1, (0 : Int)] : List Int), ([v1, (-v1), (v1 + (1 : Int))] : List Int), ([(0 : Int), (-v1), (1 : Int)] : List Int)] : List (List Int))) (.inl rfl) hv3))) (fun e => ⟨e, rfl⟩)
noncomputable def T__law_rows_b1 (p_shape : (List (List Chr))) (v1 : (List Int)) (x2 : Int) (s1 : (List (List (List Int)))) : Option (List (List (List Int))) :=
  (T__law_mix x2 (1 : Int)).bind fun v3 => (modG v3 (p_shape.length : Int)).bind fun v4 => (atI p_shape v4).bind fun v5 => (rangeG (v5.length : Int)).bind fun v6 => (lcG (fun x3 : Int => some true) (fun x3 => (T__law_mix x2 ((2 : Int) + x3)).bind fun v7 => (modG v7 (v1.length : Int)).bind fun v8 => (atI v1 v8).bind fun v9 => some v9) v6).bind fun v10 => (atI s1 v4).bind fun v11 => (if (!(decide (v10 ∈ v11))) then (appAtG s1 v4 v10).bind fun v12 => some v12 else some s1)
noncomputable def T__law_rows_b2 (p_shape : (List (List Chr))) (v1 : (List Int)) (x4 : Int) (s3 : (List (List (List Int)))) : Option (List (List (List Int))) :=
  (atI p_shape x4).bind fun v15 => (lcG (fun x5 : Chr => some true) (fun x5 => (modG (x5.val : Int) (v1.length : Int)).bind fun v16 => (atI v1 v16).bind fun v17 => some v17) v15).bind fun v18 => (atI s3 x4).bind fun v19 => (if (!(decide (v18 ∈ v19))) then (appAtG s3 x4 v18).bind fun v20 => some v20 else some s3)
noncomputable def T__law_rows (p_shape : (List (List Chr))) (p_cells : (List Int)) (p_total : Int) : Option (List (List (List Int))) :=
  (T__law_numbers p_total).bind fun v1 => (lcG (fun x1 : (List Chr) => some true) (fun x1 => some ([] : List (List Int))) p_shape).bind fun v2 => (forT (T__law_rows_b1 p_shape v1) p_cells v2).bind fun s2 => (T__law_mix p_total (71 : Int)).bind fun v13 => ((if (decide ((0 : Int) < (v13 % (4 : Int)))) then (rangeG (p_shape.length : Int)).bind fun v14 => (forT (T__law_rows_b2 p_shape v1) v14 s2).bind fun s4 => some s4 else some s2) : Option (List (List (List Int)))).bind fun s5 => (lcG (fun x6 : (List (List Int)) => some true) (fun x6 => (srt (eT eI) x6).bind fun v21 => some v21) s5).bind fun v22 => some v22
theorem sm__law_rows {p_shape : (List (List Chr))} {p_cells : (List Int)} {p_total : Int} {v : (List (List (List Int)))} (hv : T__law_rows p_shape p_cells p_total = some v) : m__law_rows [(eL (eZ eC)) p_shape, (eL eI) p_cells, eI p_total] = .ok ((oL (eL (eT eI))) v) := by
  refine run_sg (O := (oL (eL (eT eI)))) (t := T__law_rows p_shape p_cells p_total) ?_ hv
  unfold T__law_rows D__law_rows
  refine sg_env (e2 := [some (.fz ((eL (eZ eC)) p_shape)), some (.fz ((eL eI) p_cells)), some (.fz (eI p_total)), none, none, none, none, none, none, none, none, none]) rfl ?_
  refine sg_one ?_
  refine sg_assoc ?_
  refine sg_bind fun v1 hv1 => ?_
  refine sg_set (o := (.fz ((eL eI) v1))) (asO (.st (.fz ((eL eI) v1))) (ev_callA (ev_cons (ev_varF (x := eI p_total) rfl) ev_nil) (as := [eI p_total]) rfl (sm__law_numbers hv1) (.inl rfl))) ?_
  refine sg_assoc ?_
  refine sg_iceS ?_
  refine sg_iceF rfl ?_
  refine sg_bind fun v2 hv2 => ?_
  refine sg_set (o := (oLL (oL (eT eI)) v2)) (asO (.st (oLL (oL (eT eI)) v2)) (ev_lcD (e := (eZ eC)) (ov := oL (eT eI)) (tc := fun x1 => some true) (te := fun x1 => some ([] : List (List Int))) (items := p_shape) (ci_items (e := (eZ eC)) (xs := p_shape) (ev_varF (x := (eL (eZ eC)) p_shape) rfl) sb_st (.inl rfl)) (fun x1 => ⟨_, rfl, (oe_id rfl), (oe_ret (asO (.st (.ol (List.map (eT eI) ([] : List (List Int))))) (ev_list ev_nil (Nat.le_of_ble_eq_true rfl) rfl)))⟩) (.inl (afz_F (afz_F (afz_F (afz_F (afz_N (afz_N (afz_N (afz_N (afz_N (afz_N (afz_N (afz_N afz_nil))))))))))))) hv2)) ?_
  refine sg_assoc ?_
  refine sg_iceS ?_
  refine sg_iceF rfl ?_
  refine sg_seq (sg_for (eA := eI) (fun (s1 : (List (List (List Int)))) (e : VEnv) => ∃ j1 j2 j3 : Option OV, e = [some (.fz ((eL (eZ eC)) p_shape)), some (.fz ((eL eI) p_cells)), some (.fz (eI p_total)), some (.fz ((eL eI) v1)), some (oLL (oL (eT eI)) s1), j1, j2, j3, none, none, none, none]) (tb := (T__law_rows_b1 p_shape v1)) (it_items (e := eI) (xs := p_cells) (.inr (.inl (ev_varF (x := (eL eI) p_cells) rfl)))) ⟨_, _, _, rfl⟩ (fun x2 s1 e hE => ?_)) (fun s2 e hE => ?_)
  · obtain ⟨j1, j2, j3, rfl⟩ := hE
    refine ⟨_, rfl, ?_⟩
    unfold T__law_rows_b1
    refine sg_one ?_
    refine sg_assoc ?_
    refine sg_bind fun v3 hv3 => ?_
    refine sg_bind fun v4 hv4 => ?_
    refine sg_set (o := (.fz (eI v4))) (asO (.st (.fz (eI v4))) (ev_bin (asO (.st (.fz (eI v3))) (ev_callA (ev_cons (ev_varF (x := eI x2) rfl) (ev_cons (ev_c (x := eI 1)) ev_nil)) (as := [eI x2, eI (1 : Int)]) rfl (sm__law_mix hv3) (.inl rfl))) (asO (.st (.fz (eI (p_shape.length : Int)))) (ev_callB (ev_cons (ev_varF (x := (eL (eZ eC)) p_shape) rfl) ev_nil) (t_lenL (e := (eZ eC)) (xs := p_shape) (.inr (.inl rfl))))) (t_modG (i := v3) (j := (p_shape.length : Int)) hv4))) ?_
    refine sg_assoc ?_
    refine sg_bind fun v5 hv5 => ?_
    refine sg_bind fun v6 hv6 => ?_
    refine sg_bind fun v10 hv10 => ?_
    refine sg_set (o := (.fz ((eT eI) v10))) (asO (.st (.fz ((eT eI) v10))) (ev_callB (ev_cons (asO (.st (.ol (List.map eI v10))) (ev_lc (e := eI) (d := eI) (tc := fun x3 => some true) (te := fun x3 => (T__law_mix x2 ((2 : Int) + x3)).bind fun v7 => (modG v7 (v1.length : Int)).bind fun v8 => (atI v1 v8).bind fun v9 => some v9) (items := v6) (it_range (asO (.st (.fz (eI (v5.length : Int)))) (ev_callB (ev_cons (asO (.st (.fz ((eZ eC) v5))) (ev_sub (ev_varF (x := (eL (eZ eC)) p_shape) rfl) (ev_varF (x := eI v4) rfl) rfl (t_atL (e := (eZ eC)) (xs := p_shape) (.inr (.inl rfl)) hv5))) ev_nil) (t_lenZ (e := eC) (xs := v5)))) hv6) (fun x3 => ⟨_, rfl, (oe_id rfl), (oe_bind fun v7 hv7 => (oe_bind fun v8 hv8 => (oe_bind fun v9 hv9 => (oe_ret (asO (.st (.fz (eI v9))) (ev_frzX (asO (.st (.fz (eI v9))) (ev_sub (ev_varF (x := (eL eI) v1) rfl) (asO (.st (.fz (eI v8))) (ev_bin (asO (.st (.fz (eI v7))) (ev_callA (ev_cons (ev_varF (x := eI x2) rfl) (ev_cons (asO (.st (.fz (eI ((2 : Int) + x3)))) (ev_frzX (asO (.st (.fz (eI ((2 : Int) + x3)))) (ev_bin (ev_c (x := eI 2)) (ev_varF (x := eI x3) rfl) e_add)) rfl)) ev_nil)) (as := [eI x2, eI ((2 : Int) + x3)]) rfl (sm__law_mix hv7) (.inl rfl))) (asO (.st (.fz (eI (v1.length : Int)))) (ev_callB (ev_cons (ev_varF (x := (eL eI) v1) rfl) ev_nil) (t_lenL (e := eI) (xs := v1) (.inr (.inl rfl))))) (t_modG (i := v7) (j := (v1.length : Int)) hv8))) rfl (t_atL (e := eI) (xs := v1) (.inr (.inl rfl)) hv9))) rfl))))))⟩) (.inr puI) hv10)) ev_nil) (t_tup (e := eI) (xs := v10) (.inl rfl)))) ?_
    refine sg_bind fun v11 hv11 => ?_
    refine sg_ifs (ev_test (asO (.st (.fz (eB (!(decide (v10 ∈ v11)))))) (ev_bin (ev_varF (x := (eT eI) v10) rfl) (asO (.bo (.ol (List.map (eT eI) v11))) (ev_sub (ev_varO (o := (oLL (oL (eT eI)) s1)) rfl rfl) (ev_varF (x := eI v4) rfl) rfl (t_atLL (ov := oL (eT eI)) (xs := s1) hv11))) (t_ninL (e := (eT eI)) (a := v10) (xs := v11) (epT epI) (by decide) rfl rfl rfl)))) (fun _ => ?_) (fun _ => ?_)
    · refine sg_iceS ?_
      refine sg_iceF rfl ?_
      refine sg_bind fun v12 hv12 => ?_
      refine sg_appAt (e := (eT eI)) (xs := s1) (k := v4) (x := v10) rfl (ev_varF (x := eI v4) rfl) rfl (ev_varF (x := (eT eI) v10) rfl) hv12 ?_
      exact sg_nx ⟨_, _, _, rfl⟩
    · refine sg_skip ?_
      exact sg_nx ⟨_, _, _, rfl⟩
  · obtain ⟨j4, j5, j6, rfl⟩ := hE
    refine sg_assoc ?_
    refine sg_bind fun v13 hv13 => ?_
    refine sg_seq (E := (fun (s5 : (List (List (List Int)))) (e : VEnv) => ∃ j11 j12 : Option OV, e = [some (.fz ((eL (eZ eC)) p_shape)), some (.fz ((eL eI) p_cells)), some (.fz (eI p_total)), some (.fz ((eL eI) v1)), some (oLL (oL (eT eI)) s5), j4, j11, j12, none, none, none, none])) ?_ (fun s5 e hE => ?_)
    · refine sg_if (ev_test (asO (.st (.fz (eB (decide ((0 : Int) < (v13 % (4 : Int))))))) (ev_bin (asO (.st (.fz (eI (v13 % (4 : Int))))) (ev_bin (asO (.st (.fz (eI v13))) (ev_callA (ev_cons (ev_varF (x := eI p_total) rfl) (ev_cons (ev_c (x := eI 71)) ev_nil)) (as := [eI p_total, eI (71 : Int)]) rfl (sm__law_mix hv13) (.inl rfl))) (ev_c (x := eI 4)) (e_mod (by decide)))) (ev_c (x := eI 0)) t_gt))) (fun _ => ?_) (fun _ => ?_)
      · refine sg_one ?_
        refine sg_bind fun v14 hv14 => ?_
        refine sg_seq (sg_for (eA := eI) (fun (s3 : (List (List (List Int)))) (e : VEnv) => ∃ j7 j8 : Option OV, e = [some (.fz ((eL (eZ eC)) p_shape)), some (.fz ((eL eI) p_cells)), some (.fz (eI p_total)), some (.fz ((eL eI) v1)), some (oLL (oL (eT eI)) s3), j4, j7, j8, none, none, none, none]) (tb := (T__law_rows_b2 p_shape v1)) (it_range (asO (.st (.fz (eI (p_shape.length : Int)))) (ev_callB (ev_cons (ev_varF (x := (eL (eZ eC)) p_shape) rfl) ev_nil) (t_lenL (e := (eZ eC)) (xs := p_shape) (.inr (.inl rfl))))) hv14) ⟨_, _, rfl⟩ (fun x4 s3 e hE => ?_)) (fun s4 e hE => ?_)
        · obtain ⟨j7, j8, rfl⟩ := hE
          refine ⟨_, rfl, ?_⟩
          unfold T__law_rows_b2
          refine sg_one ?_
          refine sg_assoc ?_
          refine sg_bind fun v15 hv15 => ?_
          refine sg_bind fun v18 hv18 => ?_
          refine sg_set (o := (.fz ((eT eI) v18))) (asO (.st (.fz ((eT eI) v18))) (ev_callB (ev_cons (asO (.st (.ol (List.map eI v18))) (ev_lc (e := eC) (d := eI) (tc := fun x5 => some true) (te := fun x5 => (modG (x5.val : Int) (v1.length : Int)).bind fun v16 => (atI v1 v16).bind fun v17 => some v17) (items := v15) (ci_itemsZ (e := eC) (xs := v15) (asO (.st (.fz ((eZ eC) v15))) (ev_sub (ev_varF (x := (eL (eZ eC)) p_shape) rfl) (ev_varF (x := eI x4) rfl) rfl (t_atL (e := (eZ eC)) (xs := p_shape) (.inr (.inl rfl)) hv15))) sb_st rfl) (fun x5 => ⟨_, rfl, (oe_id rfl), (oe_bind fun v16 hv16 => (oe_bind fun v17 hv17 => (oe_ret (asO (.st (.fz (eI v17))) (ev_frzX (asO (.st (.fz (eI v17))) (ev_sub (ev_varF (x := (eL eI) v1) rfl) (asO (.st (.fz (eI v16))) (ev_bin (asO (.st (.fz (eI (x5.val : Int)))) (ev_callB (ev_cons (ev_varF (x := eC x5) rfl) ev_nil) t_ord)) (asO (.st (.fz (eI (v1.length : Int)))) (ev_callB (ev_cons (ev_varF (x := (eL eI) v1) rfl) ev_nil) (t_lenL (e := eI) (xs := v1) (.inr (.inl rfl))))) (t_modG (i := (x5.val : Int)) (j := (v1.length : Int)) hv16))) rfl (t_atL (e := eI) (xs := v1) (.inr (.inl rfl)) hv17))) rfl)))))⟩) (.inr puI) hv18)) ev_nil) (t_tup (e := eI) (xs := v18) (.inl rfl)))) ?_
          refine sg_bind fun v19 hv19 => ?_
          refine sg_ifs (ev_test (asO (.st (.fz (eB (!(decide (v18 ∈ v19)))))) (ev_bin (ev_varF (x := (eT eI) v18) rfl) (asO (.bo (.ol (List.map (eT eI) v19))) (ev_sub (ev_varO (o := (oLL (oL (eT eI)) s3)) rfl rfl) (ev_varF (x := eI x4) rfl) rfl (t_atLL (ov := oL (eT eI)) (xs := s3) hv19))) (t_ninL (e := (eT eI)) (a := v18) (xs := v19) (epT epI) (by decide) rfl rfl rfl)))) (fun _ => ?_) (fun _ => ?_)
          · refine sg_iceS ?_
            refine sg_iceF rfl ?_
            refine sg_bind fun v20 hv20 => ?_
            refine sg_appAt (e := (eT eI)) (xs := s3) (k := x4) (x := v18) rfl (ev_varF (x := eI x4) rfl) rfl (ev_varF (x := (eT eI) v18) rfl) hv20 ?_
            exact sg_nx ⟨_, _, rfl⟩
          · refine sg_skip ?_
            exact sg_nx ⟨_, _, rfl⟩
        · obtain ⟨j9, j10, rfl⟩ := hE
          exact sg_nx ⟨_, _, rfl⟩
      · refine sg_one ?_
        refine sg_skip ?_
        exact sg_nx ⟨_, _, rfl⟩
    · obtain ⟨j11, j12, rfl⟩ := hE
      refine sg_iceS ?_
      refine sg_iceJ (j := j12) rfl ?_
      refine sg_iceS ?_
      refine sg_iceJ (j := j11) rfl ?_
      refine sg_iceS ?_
      refine sg_iceJ (j := j4) rfl ?_
      refine sg_iceS ?_
      refine sg_ice (o := (oLL (oL (eT eI)) s5)) (x := (eL (eL (eT eI))) s5) rfl (fvL_of (e := (eL (eT eI))) (ov := oL (eT eI)) (fun _ => rfl) _) ?_
      refine sg_iceS ?_
      refine sg_iceF rfl ?_
      refine sg_bind fun v22 hv22 => ?_
      exact sg_retS (o := (.ol (List.map (eL (eT eI)) v22))) (asO (.st (.ol (List.map (eL (eT eI)) v22))) (ev_lc (e := (eL (eT eI))) (d := (eL (eT eI))) (tc := fun x6 => some true) (te := fun x6 => (srt (eT eI) x6).bind fun v21 => some v21) (items := s5) (ci_items (e := (eL (eT eI))) (xs := s5) (ev_varF (x := (eL (eL (eT eI))) s5) rfl) sb_st (.inl rfl)) (fun x6 => ⟨_, rfl, (oe_id rfl), (oe_bind fun v21 hv21 => (oe_ret (asO (.st (.fz ((eL (eT eI)) v21))) (ev_frzX (o := (.ol (List.map (eT eI) v21))) (asO (.st (.ol (List.map (eT eI) v21))) (ev_callB (ev_cons (ev_varF (x := (eL (eT eI)) x6) rfl) ev_nil) (t_sort (e := (eT eI)) (xs := x6) (.inr rfl) hv21))) rfl))))⟩) (.inl (afz_F (afz_F (afz_F (afz_F (afz_F (afz_J (afz_J (afz_J (afz_N (afz_N (afz_N (afz_N afz_nil))))))))))))) hv22)) (fun e => ⟨e, rfl⟩)
noncomputable def T__law_names_b1 (x2 : Chr) (s2 : (List (Chr × Bool))) : Option (List (Chr × Bool)) :=
  (putG s2 x2 true).bind fun v1 => some v1
noncomputable def T__law_names_b2 (x1 : (List Chr)) (s1 : (List (Chr × Bool))) : Option (List (Chr × Bool)) :=
  (forT T__law_names_b1 x1 s1).bind fun s3 => some s3
noncomputable def T__law_names (p_shape : (List (List Chr))) : Option (List Chr) :=
  (forT T__law_names_b2 p_shape ([] : (List (Chr × Bool)))).bind fun s4 => (srt eC (s4.map (·.1))).bind fun v2 => some v2
theorem sm__law_names {p_shape : (List (List Chr))} {v : (List Chr)} (hv : T__law_names p_shape = some v) : m__law_names [(eL (eZ eC)) p_shape] = .ok ((oL eC) v) := by
  refine run_sg (O := (oL eC)) (t := T__law_names p_shape) ?_ hv
  unfold T__law_names D__law_names
  refine sg_env (e2 := [some (.fz ((eL (eZ eC)) p_shape)), none, none, none]) rfl ?_
  refine sg_one ?_
  refine sg_assoc ?_
  refine sg_set (o := (.oK (List.map (fun p : Chr × Bool => (kC p.1, eB p.2)) ([] : (List (Chr × Bool)))))) (asO (.st (.oK (List.map (fun p : Chr × Bool => (kC p.1, eB p.2)) ([] : (List (Chr × Bool)))))) rfl) ?_
  refine sg_assoc ?_
  refine sg_iceS ?_
  refine sg_iceF rfl ?_
  refine sg_seq (sg_for (eA := (eZ eC)) (fun (s1 : (List (Chr × Bool))) (e : VEnv) => ∃ j1 j2 : Option OV, e = [some (.fz ((eL (eZ eC)) p_shape)), some (.oK (List.map (fun p : Chr × Bool => (kC p.1, eB p.2)) s1)), j1, j2]) (tb := T__law_names_b2) (it_items (e := (eZ eC)) (xs := p_shape) (.inr (.inl (ev_varF (x := (eL (eZ eC)) p_shape) rfl)))) ⟨_, _, rfl⟩ (fun x1 s1 e hE => ?_)) (fun s4 e hE => ?_)
  · obtain ⟨j1, j2, rfl⟩ := hE
    refine ⟨_, rfl, ?_⟩
    unfold T__law_names_b2
    refine sg_one ?_
    refine sg_iceS ?_
    refine sg_iceF rfl ?_
    refine sg_seq (sg_for (eA := eC) (fun (s2 : (List (Chr × Bool))) (e : VEnv) => ∃ j3 : Option OV, e = [some (.fz ((eL (eZ eC)) p_shape)), some (.oK (List.map (fun p : Chr × Bool => (kC p.1, eB p.2)) s2)), some (.fz ((eZ eC) x1)), j3]) (tb := T__law_names_b1) (it_itemsZ (e := eC) (xs := x1) (ev_varF (x := (eZ eC) x1) rfl)) ⟨_, rfl⟩ (fun x2 s2 e hE => ?_)) (fun s3 e hE => ?_)
    · obtain ⟨j3, rfl⟩ := hE
      refine ⟨_, rfl, ?_⟩
      unfold T__law_names_b1
      refine sg_one ?_
      refine sg_bind fun v1 hv1 => ?_
      refine sg_putK (kk := kC) (e := eB) (l := s2) (x := true) (a := x2) ekC rfl (ev_c (x := eB true)) (ev_varF (x := eC x2) rfl) rfl hv1 ?_
      exact sg_nx ⟨_, rfl⟩
    · obtain ⟨j4, rfl⟩ := hE
      exact sg_nx ⟨_, _, rfl⟩
  · obtain ⟨j5, j6, rfl⟩ := hE
    refine sg_bind fun v2 hv2 => ?_
    exact sg_retS (o := (.ol (List.map eC v2))) (asO (.st (.ol (List.map eC v2))) (ev_keysS (k := kC) (e := eB) (l := s4) ekC (ev_varO (o := (.oK (List.map (fun p : Chr × Bool => (kC p.1, eB p.2)) s4))) rfl rfl) (.inl rfl) hv2)) (fun e => ⟨e, rfl⟩)
noncomputable def T_joined_b1 (x1 : (Chr × Int)) (s1 : (List (Chr × Int))) : Option (Ctl (List (Chr × Int)) (Option (List (Chr × Int)))) :=
  (sdG s1 x1.1 x1.2).bind fun v1 => (if (!(decide (v1.1 = x1.2))) then some (.rt none) else some (.nx v1.2))
noncomputable def T_joined (p_known : (List (Chr × Int))) (p_letters : (List Chr)) (p_row : (List Int)) : Option (Option (List (Chr × Int))) :=
  ((forC T_joined_b1 (List.zip p_letters p_row) p_known)).bind (behind (fun r => r) fun s2 => some (some s2))
theorem sm_joined {p_known : (List (Chr × Int))} {p_letters : (List Chr)} {p_row : (List Int)} {v : (Option (List (Chr × Int)))} (hv : T_joined p_known p_letters p_row = some v) : m_joined [(eK kC eI) p_known, (eZ eC) p_letters, (eT eI) p_row] = .ok ((oO (oK kC eI)) v) := by
  refine run_sg (O := (oO (oK kC eI))) (t := T_joined p_known p_letters p_row) ?_ hv
  unfold T_joined D_joined
  refine sg_env (e2 := [some (.fz ((eK kC eI) p_known)), some (.fz ((eZ eC) p_letters)), some (.fz ((eT eI) p_row)), none, none, none]) rfl ?_
  refine sg_one ?_
  refine sg_assoc ?_
  refine sg_set (o := (.oK (List.map (fun p : Chr × Int => (kC p.1, eI p.2)) p_known))) (asO (.st (.oK (List.map (fun p : Chr × Int => (kC p.1, eI p.2)) p_known))) (ev_callB (ev_cons (ev_varF (x := (eK kC eI) p_known) rfl) ev_nil) (t_dict (k := kC) (e := eI) (l := p_known) (.inr rfl)))) ?_
  refine sg_assoc ?_
  refine sg_iceS ?_
  refine sg_iceF rfl ?_
  refine sg_iceS ?_
  refine sg_iceF rfl ?_
  refine sg_seqL (sg_forC (eA := (eP eC eI)) (fun (s1 : (List (Chr × Int))) (e : VEnv) => ∃ j1 j2 : Option OV, e = [some (.fz ((eK kC eI) p_known)), some (.fz ((eZ eC) p_letters)), some (.fz ((eT eI) p_row)), some (.oK (List.map (fun p : Chr × Int => (kC p.1, eI p.2)) s1)), j1, j2]) (fun (s1 : (List (Chr × Int))) (e : VEnv) => ∃ j1 j2 : Option OV, e = [some (.fz ((eK kC eI) p_known)), some (.fz ((eZ eC) p_letters)), some (.fz ((eT eI) p_row)), some (.oK (List.map (fun p : Chr × Int => (kC p.1, eI p.2)) s1)), j1, j2]) ((oO (oK kC eI))) (tb := T_joined_b1) (it_zipY (e := eC) (d := eI) (xs := p_letters) (ys := p_row) (ev_varF (x := (eZ eC) p_letters) rfl) (ev_varF (x := (eT eI) p_row) rfl) (.inl rfl) (.inr rfl)) ⟨_, _, rfl⟩ (fun _ _ h => h) (fun x1 s1 e hE => ?_)) (fun r e => ⟨e, rfl⟩) (fun s2 e hE => ?_)
  · obtain ⟨j1, j2, rfl⟩ := hE
    refine ⟨_, rfl, ?_⟩
    unfold T_joined_b1
    refine sg_one ?_
    refine sg_bind fun v1 hv1 => ?_
    refine sg_setd (kk := kC) (e := eI) (l := s1) (x := x1.2) (a := x1.1) ekC rfl (ev_varF (x := eC x1.1) rfl) rfl (ev_varF (x := eI x1.2) rfl) hv1 (ev_varF (x := eI x1.2) rfl) (t_ne (e := eI) (a := v1.1) (b := x1.2) epI (by decide) rfl rfl) (fun _ => ?_) (fun _ => ?_)
    · exact sg_retS (o := (.fz ((eO (eK kC eI)) none))) (ev_c (x := eU ())) (fun e => ⟨e, rfl⟩)
    · refine sg_skip ?_
      exact sg_of rfl ⟨_, rfl, ⟨_, _, rfl⟩⟩
  · obtain ⟨j3, j4, rfl⟩ := hE
    exact sg_retVS (o := (oO (oK kC eI) (some s2))) rfl (fun e => ⟨e, rfl⟩)
noncomputable def T_letters_of_b1 (x2 : Chr) (s2 : (List (Chr × Bool))) : Option (List (Chr × Bool)) :=
  (putG s2 x2 true).bind fun v1 => some v1
noncomputable def T_letters_of_b2 (x1 : (List Chr)) (s1 : (List (Chr × Bool))) : Option (List (Chr × Bool)) :=
  (forT T_letters_of_b1 x1 s1).bind fun s3 => some s3
noncomputable def T_letters_of (p_shape : (List (List Chr))) : Option (List Chr) :=
  (forT T_letters_of_b2 p_shape ([] : (List (Chr × Bool)))).bind fun s4 => (srt eC (s4.map (·.1))).bind fun v2 => some v2
theorem sm_letters_of {p_shape : (List (List Chr))} {v : (List Chr)} (hv : T_letters_of p_shape = some v) : m_letters_of [(eL (eZ eC)) p_shape] = .ok ((oL eC) v) := by
  refine run_sg (O := (oL eC)) (t := T_letters_of p_shape) ?_ hv
  unfold T_letters_of D_letters_of
  refine sg_env (e2 := [some (.fz ((eL (eZ eC)) p_shape)), none, none, none]) rfl ?_
  refine sg_one ?_
  refine sg_assoc ?_
  refine sg_set (o := (.oK (List.map (fun p : Chr × Bool => (kC p.1, eB p.2)) ([] : (List (Chr × Bool)))))) (asO (.st (.oK (List.map (fun p : Chr × Bool => (kC p.1, eB p.2)) ([] : (List (Chr × Bool)))))) rfl) ?_
  refine sg_assoc ?_
  refine sg_iceS ?_
  refine sg_iceF rfl ?_
  refine sg_seq (sg_for (eA := (eZ eC)) (fun (s1 : (List (Chr × Bool))) (e : VEnv) => ∃ j1 j2 : Option OV, e = [some (.fz ((eL (eZ eC)) p_shape)), some (.oK (List.map (fun p : Chr × Bool => (kC p.1, eB p.2)) s1)), j1, j2]) (tb := T_letters_of_b2) (it_items (e := (eZ eC)) (xs := p_shape) (.inr (.inl (ev_varF (x := (eL (eZ eC)) p_shape) rfl)))) ⟨_, _, rfl⟩ (fun x1 s1 e hE => ?_)) (fun s4 e hE => ?_)
  · obtain ⟨j1, j2, rfl⟩ := hE
    refine ⟨_, rfl, ?_⟩
    unfold T_letters_of_b2
    refine sg_one ?_
    refine sg_iceS ?_
    refine sg_iceF rfl ?_
    refine sg_seq (sg_for (eA := eC) (fun (s2 : (List (Chr × Bool))) (e : VEnv) => ∃ j3 : Option OV, e = [some (.fz ((eL (eZ eC)) p_shape)), some (.oK (List.map (fun p : Chr × Bool => (kC p.1, eB p.2)) s2)), some (.fz ((eZ eC) x1)), j3]) (tb := T_letters_of_b1) (it_itemsZ (e := eC) (xs := x1) (ev_varF (x := (eZ eC) x1) rfl)) ⟨_, rfl⟩ (fun x2 s2 e hE => ?_)) (fun s3 e hE => ?_)
    · obtain ⟨j3, rfl⟩ := hE
      refine ⟨_, rfl, ?_⟩
      unfold T_letters_of_b1
      refine sg_one ?_
      refine sg_bind fun v1 hv1 => ?_
      refine sg_putK (kk := kC) (e := eB) (l := s2) (x := true) (a := x2) ekC rfl (ev_c (x := eB true)) (ev_varF (x := eC x2) rfl) rfl hv1 ?_
      exact sg_nx ⟨_, rfl⟩
    · obtain ⟨j4, rfl⟩ := hE
      exact sg_nx ⟨_, _, rfl⟩
  · obtain ⟨j5, j6, rfl⟩ := hE
    refine sg_bind fun v2 hv2 => ?_
    exact sg_retS (o := (.ol (List.map eC v2))) (asO (.st (.ol (List.map eC v2))) (ev_keysS (k := kC) (e := eB) (l := s4) ekC (ev_varO (o := (.oK (List.map (fun p : Chr × Bool => (kC p.1, eB p.2)) s4))) rfl rfl) (.inl rfl) hv2)) (fun e => ⟨e, rfl⟩)
noncomputable def T_answers_b1 (x1 : ((List Chr) × (List (List Int)))) (x2 : (List (Chr × Int))) (x3 : (List Int)) (s3 : (List (List (Chr × Int)))) : Option (List (List (Chr × Int))) :=
  (T_joined x2 x1.1 x3).bind fun v1 => (if v1.isSome then (v1).bind fun v2 => (appG s3 v2).bind fun v3 => some v3 else some s3)
noncomputable def T_answers_b2 (x1 : ((List Chr) × (List (List Int)))) (x2 : (List (Chr × Int))) (s2 : (List (List (Chr × Int)))) : Option (List (List (Chr × Int))) :=
  (forT (T_answers_b1 x1 x2) x1.2 s2).bind fun s4 => some s4
noncomputable def T_answers_b3 (x1 : ((List Chr) × (List (List Int)))) (s1 : (List (List (Chr × Int)))) : Option (List (List (Chr × Int))) :=
  (forT (T_answers_b2 x1) s1 ([] : List (List (Chr × Int)))).bind fun s5 => some s5
noncomputable def T_answers (p_shape : (List (List Chr))) (p_rows : (List (List (List Int)))) : Option (List (List Int)) :=
  (forT T_answers_b3 (List.zip p_shape p_rows) ([([] : (List (Chr × Int)))] : List (List (Chr × Int)))).bind fun s6 => (T_letters_of p_shape).bind fun v4 => (lcG (fun x4 : (List (Chr × Int)) => some true) (fun x4 => (lcG (fun x5 : Chr => some true) (fun x5 => (lookK x4 x5).bind fun v5 => some v5) v4).bind fun v6 => some v6) s6).bind fun v7 => (srt (eT eI) v7).bind fun v8 => some v8
theorem sm_answers {p_shape : (List (List Chr))} {p_rows : (List (List (List Int)))} {v : (List (List Int))} (hv : T_answers p_shape p_rows = some v) : m_answers [(eL (eZ eC)) p_shape, (eL (eL (eT eI))) p_rows] = .ok ((oL (eT eI)) v) := by
  refine run_sg (O := (oL (eT eI))) (t := T_answers p_shape p_rows) ?_ hv
  unfold T_answers D_answers
  refine sg_env (e2 := [some (.fz ((eL (eZ eC)) p_shape)), some (.fz ((eL (eL (eT eI))) p_rows)), none, none, none, none, none, none, none, none, none]) rfl ?_
  refine sg_one ?_
  refine sg_assoc ?_
  refine sg_set (o := (.ol (List.map (eK kC eI) ([([] : (List (Chr × Int)))] : List (List (Chr × Int)))))) (asO (.st (.ol (List.map (eK kC eI) ([([] : (List (Chr × Int)))] : List (List (Chr × Int)))))) (ev_list (ev_cons (asO (.st (.fz ((eK kC eI) ([] : (List (Chr × Int)))))) (ev_frzX (o := (.oK (List.map (fun p : Chr × Int => (kC p.1, eI p.2)) ([] : (List (Chr × Int)))))) (asO (.st (.oK (List.map (fun p : Chr × Int => (kC p.1, eI p.2)) ([] : (List (Chr × Int)))))) rfl) rfl)) ev_nil) (Nat.le_of_ble_eq_true rfl) rfl)) ?_
  refine sg_assoc ?_
  refine sg_iceS ?_
  refine sg_ice (o := (.ol (List.map (eK kC eI) ([([] : (List (Chr × Int)))] : List (List (Chr × Int)))))) (x := (eL (eK kC eI)) ([([] : (List (Chr × Int)))] : List (List (Chr × Int)))) rfl rfl ?_
  refine sg_iceS ?_
  refine sg_iceF rfl ?_
  refine sg_iceS ?_
  refine sg_iceF rfl ?_
  refine sg_seq (sg_for (eA := (eP (eZ eC) (eL (eT eI)))) (fun (s1 : (List (List (Chr × Int)))) (e : VEnv) => ∃ j1 j2 j3 j4 j5 j6 : Option OV, e = [some (.fz ((eL (eZ eC)) p_shape)), some (.fz ((eL (eL (eT eI))) p_rows)), some (.fz ((eL (eK kC eI)) s1)), j1, j2, j3, j4, j5, j6, none, none]) (tb := T_answers_b3) (it_zipL (e := (eZ eC)) (d := (eL (eT eI))) (xs := p_shape) (ys := p_rows) (ev_varF (x := (eL (eZ eC)) p_shape) rfl) (ev_varF (x := (eL (eL (eT eI))) p_rows) rfl) (.inr rfl) (.inr rfl)) ⟨_, _, _, _, _, _, rfl⟩ (fun x1 s1 e hE => ?_)) (fun s6 e hE => ?_)
  · obtain ⟨j1, j2, j3, j4, j5, j6, rfl⟩ := hE
    refine ⟨_, rfl, ?_⟩
    unfold T_answers_b3
    refine sg_one ?_
    refine sg_assoc ?_
    refine sg_set (o := (.ol (List.map (eK kC eI) ([] : List (List (Chr × Int)))))) (asO (.st (.ol (List.map (eK kC eI) ([] : List (List (Chr × Int)))))) (ev_list ev_nil (Nat.le_of_ble_eq_true rfl) rfl)) ?_
    refine sg_assoc ?_
    refine sg_iceS ?_
    refine sg_iceF rfl ?_
    refine sg_seq (sg_for (eA := (eK kC eI)) (fun (s2 : (List (List (Chr × Int)))) (e : VEnv) => ∃ j7 j8 j9 : Option OV, e = [some (.fz ((eL (eZ eC)) p_shape)), some (.fz ((eL (eL (eT eI))) p_rows)), some (.fz ((eL (eK kC eI)) s1)), some (.fz ((eZ eC) x1.1)), some (.fz ((eL (eT eI)) x1.2)), some (.ol (List.map (eK kC eI) s2)), j7, j8, j9, none, none]) (tb := (T_answers_b2 x1)) (it_items (e := (eK kC eI)) (xs := s1) (.inr (.inl (ev_varF (x := (eL (eK kC eI)) s1) rfl)))) ⟨_, _, _, rfl⟩ (fun x2 s2 e hE => ?_)) (fun s5 e hE => ?_)
    · obtain ⟨j7, j8, j9, rfl⟩ := hE
      refine ⟨_, rfl, ?_⟩
      unfold T_answers_b2
      refine sg_one ?_
      refine sg_iceS ?_
      refine sg_iceF rfl ?_
      refine sg_seq (sg_for (eA := (eT eI)) (fun (s3 : (List (List (Chr × Int)))) (e : VEnv) => ∃ j10 j11 : Option OV, e = [some (.fz ((eL (eZ eC)) p_shape)), some (.fz ((eL (eL (eT eI))) p_rows)), some (.fz ((eL (eK kC eI)) s1)), some (.fz ((eZ eC) x1.1)), some (.fz ((eL (eT eI)) x1.2)), some (.ol (List.map (eK kC eI) s3)), some (.fz ((eK kC eI) x2)), j10, j11, none, none]) (tb := (T_answers_b1 x1 x2)) (it_items (e := (eT eI)) (xs := x1.2) (.inr (.inl (ev_varF (x := (eL (eT eI)) x1.2) rfl)))) ⟨_, _, rfl⟩ (fun x3 s3 e hE => ?_)) (fun s4 e hE => ?_)
      · obtain ⟨j10, j11, rfl⟩ := hE
        refine ⟨_, rfl, ?_⟩
        unfold T_answers_b1
        refine sg_one ?_
        refine sg_assoc ?_
        refine sg_bind fun v1 hv1 => ?_
        refine sg_set (o := (oO (oK kC eI) v1)) (asO (.st (oO (oK kC eI) v1)) (ev_callA (ev_cons (ev_varF (x := (eK kC eI) x2) rfl) (ev_cons (ev_varF (x := (eZ eC) x1.1) rfl) (ev_cons (ev_varF (x := (eT eI) x3) rfl) ev_nil))) (as := [(eK kC eI) x2, (eZ eC) x1.1, (eT eI) x3]) rfl (sm_joined hv1) (.inl rfl))) ?_
        refine sg_iceS ?_
        refine sg_ice (o := (oO (oK kC eI) v1)) (x := (eO (eK kC eI)) v1) rfl (fvO_of (e := (eK kC eI)) (ov := (oK kC eI)) (fun _ => rfl) _) ?_
        refine sg_ifs (ev_test (asO (.st (.fz (eB v1.isSome))) (ev_un (ev_varF (x := (eO (eK kC eI)) v1) rfl) (t_notN (e := (eK kC eI)) (v := v1) nnK rfl)))) (fun _ => ?_) (fun _ => ?_)
        · refine sg_iceS ?_
          refine sg_iceF rfl ?_
          refine sg_bind fun v2 hv2 => ?_
          refine sg_bind fun v3 hv3 => ?_
          refine sg_appL (e := (eK kC eI)) (xs := s3) (x := v2) rfl (unO (e := (eK kC eI)) (v := v1) (ev_varF (x := (eO (eK kC eI)) v1) rfl) hv2) hv3 ?_
          exact sg_nx ⟨_, _, rfl⟩
        · refine sg_skip ?_
          exact sg_nx ⟨_, _, rfl⟩
      · obtain ⟨j12, j13, rfl⟩ := hE
        exact sg_nx ⟨_, _, _, rfl⟩
    · obtain ⟨j14, j15, j16, rfl⟩ := hE
      refine sg_iceS ?_
      refine sg_ice (o := (.ol (List.map (eK kC eI) s5))) (x := (eL (eK kC eI)) s5) rfl rfl ?_
      refine sg_set (o := (.fz ((eL (eK kC eI)) s5))) (ev_varF (x := (eL (eK kC eI)) s5) rfl) ?_
      exact sg_nx ⟨_, _, _, _, _, _, rfl⟩
  · obtain ⟨j17, j18, j19, j20, j21, j22, rfl⟩ := hE
    refine sg_assoc ?_
    refine sg_bind fun v4 hv4 => ?_
    refine sg_set (o := (.ol (List.map eC v4))) (asO (.st (.ol (List.map eC v4))) (ev_callA (ev_cons (ev_varF (x := (eL (eZ eC)) p_shape) rfl) ev_nil) (as := [(eL (eZ eC)) p_shape]) rfl (sm_letters_of hv4) (.inl rfl))) ?_
    refine sg_iceS ?_
    refine sg_ice (o := (.ol (List.map eC v4))) (x := (eL eC) v4) rfl rfl ?_
    refine sg_iceS ?_
    refine sg_iceF rfl ?_
    refine sg_iceS ?_
    refine sg_iceJ (j := j22) rfl ?_
    refine sg_iceS ?_
    refine sg_iceJ (j := j21) rfl ?_
    refine sg_iceS ?_
    refine sg_iceJ (j := j20) rfl ?_
    refine sg_iceS ?_
    refine sg_iceJ (j := j19) rfl ?_
    refine sg_iceS ?_
    refine sg_iceJ (j := j18) rfl ?_
    refine sg_iceS ?_
    refine sg_iceJ (j := j17) rfl ?_
    refine sg_iceS ?_
    refine sg_iceF rfl ?_
    refine sg_bind fun v7 hv7 => ?_
    refine sg_bind fun v8 hv8 => ?_
    exact sg_retS (o := (.ol (List.map (eT eI) v8))) (asO (.st (.ol (List.map (eT eI) v8))) (ev_callB (ev_cons (asO (.st (.ol (List.map (eT eI) v7))) (ev_lc (e := (eK kC eI)) (d := (eT eI)) (tc := fun x4 => some true) (te := fun x4 => (lcG (fun x5 : Chr => some true) (fun x5 => (lookK x4 x5).bind fun v5 => some v5) v4).bind fun v6 => some v6) (items := s6) (ci_items (e := (eK kC eI)) (xs := s6) (ev_varF (x := (eL (eK kC eI)) s6) rfl) sb_st (.inl rfl)) (fun x4 => ⟨_, rfl, (oe_id rfl), (oe_bind fun v6 hv6 => (oe_ret (asO (.st (.fz ((eT eI) v6))) (ev_frzX (asO (.st (.fz ((eT eI) v6))) (ev_callB (ev_cons (asO (.st (.ol (List.map eI v6))) (ev_lc (e := eC) (d := eI) (tc := fun x5 => some true) (te := fun x5 => (lookK x4 x5).bind fun v5 => some v5) (items := v4) (ci_items (e := eC) (xs := v4) (ev_varF (x := (eL eC) v4) rfl) sb_st (.inl rfl)) (fun x5 => ⟨_, rfl, (oe_id rfl), (oe_bind fun v5 hv5 => (oe_ret (asO (.st (.fz (eI v5))) (ev_frzX (asO (.st (.fz (eI v5))) (ev_sub (ev_varF (x := (eK kC eI) x4) rfl) (ev_varF (x := eC x5) rfl) rfl (t_subK (k := kC) (e := eI) (l := x4) (a := x5) ekC (.inr rfl) hv5))) rfl))))⟩) (.inl (afz_F (afz_F (afz_F (afz_J (afz_J (afz_J (afz_F (afz_J (afz_J (afz_F (afz_N afz_nil)))))))))))) hv6)) ev_nil) (t_tup (e := eI) (xs := v6) (.inl rfl)))) rfl))))⟩) (.inl (afz_F (afz_F (afz_F (afz_J (afz_J (afz_J (afz_J (afz_J (afz_J (afz_F (afz_N afz_nil)))))))))))) hv7)) ev_nil) (t_sort (e := (eT eI)) (xs := v7) (.inl rfl) hv8))) (fun e => ⟨e, rfl⟩)
noncomputable def T__law_row_of (p_names_here : (List Chr)) (p_pattern : (List Chr)) (p_answer : (List Int)) : Option (List Int) :=
  (lcG (fun x1 : Chr => some true) (fun x1 => (idxT p_names_here x1).bind fun v1 => (atI p_answer v1).bind fun v2 => some v2) p_pattern).bind fun v3 => some v3
theorem sm__law_row_of {p_names_here : (List Chr)} {p_pattern : (List Chr)} {p_answer : (List Int)} {v : (List Int)} (hv : T__law_row_of p_names_here p_pattern p_answer = some v) : m__law_row_of [(eL eC) p_names_here, (eZ eC) p_pattern, (eT eI) p_answer] = .ok ((oF (eT eI)) v) := by
  refine run_sg (O := (oF (eT eI))) (t := T__law_row_of p_names_here p_pattern p_answer) ?_ hv
  unfold T__law_row_of D__law_row_of
  refine sg_env (e2 := [some (.fz ((eL eC) p_names_here)), some (.fz ((eZ eC) p_pattern)), some (.fz ((eT eI) p_answer)), none]) rfl ?_
  refine sg_one ?_
  refine sg_bind fun v3 hv3 => ?_
  exact sg_retS (o := (.fz ((eT eI) v3))) (asO (.st (.fz ((eT eI) v3))) (ev_callB (ev_cons (asO (.st (.ol (List.map eI v3))) (ev_lc (e := eC) (d := eI) (tc := fun x1 => some true) (te := fun x1 => (idxT p_names_here x1).bind fun v1 => (atI p_answer v1).bind fun v2 => some v2) (items := p_pattern) (ci_itemsZ (e := eC) (xs := p_pattern) (ev_varF (x := (eZ eC) p_pattern) rfl) sb_st rfl) (fun x1 => ⟨_, rfl, (oe_id rfl), (oe_bind fun v1 hv1 => (oe_bind fun v2 hv2 => (oe_ret (asO (.st (.fz (eI v2))) (ev_frzX (asO (.st (.fz (eI v2))) (ev_sub (ev_varF (x := (eT eI) p_answer) rfl) (asO (.st (.fz (eI v1))) (ev_idxL (e := eC) (xs := p_names_here) (a := x1) (ev_varF (x := (eL eC) p_names_here) rfl) (ev_cons (ev_varF (x := eC x1) rfl) ev_nil) epC (by decide) (.inr rfl) rfl hv1)) rfl (t_atL (e := eI) (xs := p_answer) (.inr (.inr rfl)) hv2))) rfl)))))⟩) (.inl (afz_F (afz_F (afz_F (afz_N afz_nil))))) hv3)) ev_nil) (t_tup (e := eI) (xs := v3) (.inl rfl)))) (fun e => ⟨e, rfl⟩)
noncomputable def T_downward_b1 (p_parents : (List (Option Int))) (s1 : ((List Int) × Int)) : Option (Ctl ((List Int) × Int) Empty) :=
  (lcG (fun x1 : (Int × (Option Int)) => (atI s1.1 s1.2).bind fun v2 => some (decide (x1.2 = (some v2)))) (fun x1 => some x1.1) (enumT p_parents)).bind fun v3 => (catG s1.1 v3).bind fun v4 => some (.nx (v4, (s1.2 + (1 : Int))))
noncomputable def T_downward (p_parents : (List (Option Int))) : Option (List Int) :=
  (idxT p_parents none).bind fun v1 => ((whileT (fun s1 : ((List Int) × Int) => some (decide (s1.2 < (s1.1.length : Int)))) (T_downward_b1 p_parents) (([v1] : List Int), (0 : Int)))).bind (behind (fun r : Empty => nomatch r) fun s2 => some s2.1)
theorem sm_downward {p_parents : (List (Option Int))} {v : (List Int)} (hv : T_downward p_parents = some v) : m_downward [(eL (eO eI)) p_parents] = .ok ((oL eI) v) := by
  refine run_sg (O := (oL eI)) (t := T_downward p_parents) ?_ hv
  unfold T_downward D_downward
  refine sg_env (e2 := [some (.fz ((eL (eO eI)) p_parents)), none, none, none, none]) rfl ?_
  refine sg_one ?_
  refine sg_assoc ?_
  refine sg_bind fun v1 hv1 => ?_
  refine sg_set (o := (.ol (List.map eI ([v1] : List Int)))) (asO (.st (.ol (List.map eI ([v1] : List Int)))) (ev_list (ev_cons (asO (.st (.fz (eI v1))) (ev_frzX (asO (.st (.fz (eI v1))) (ev_idxL (e := (eO eI)) (xs := p_parents) (a := none) (ev_varF (x := (eL (eO eI)) p_parents) rfl) (ev_cons (ev_c (x := eU ())) ev_nil) (epO epI nnI) (by decide) (.inr rfl) rfl hv1)) rfl)) ev_nil) (Nat.le_of_ble_eq_true rfl) rfl)) ?_
  refine sg_assoc ?_
  refine sg_set (o := (.fz (eI (0 : Int)))) (ev_c (x := eI 0)) ?_
  refine sg_assoc ?_
  refine sg_seqL (sg_while (fun (s1 : ((List Int) × Int)) (e : VEnv) => e = [some (.fz ((eL (eO eI)) p_parents)), some (.ol (List.map eI s1.1)), some (.fz (eI s1.2)), none, none]) (fun (s1 : ((List Int) × Int)) (e : VEnv) => e = [some (.fz ((eL (eO eI)) p_parents)), some (.ol (List.map eI s1.1)), some (.fz (eI s1.2)), none, none]) (fun r : Empty => nomatch r) (tb := (T_downward_b1 p_parents)) rfl (fun _ _ h => h) (fun s1 e hE => ?_) (fun s1 e hE => ?_)) (fun r => nomatch r) (fun s2 e hE => ?_)
  · subst hE
    exact (oe_id (ev_test (asO (.st (.fz (eB (decide (s1.2 < (s1.1.length : Int)))))) (ev_bin (ev_varF (x := eI s1.2) rfl) (asO (.st (.fz (eI (s1.1.length : Int)))) (ev_callB (ev_cons (ev_varO (o := (.ol (List.map eI s1.1))) rfl rfl) ev_nil) (t_lenL (e := eI) (xs := s1.1) (.inl rfl)))) t_lt))))
  · subst hE
    unfold T_downward_b1
    refine sg_one ?_
    refine sg_assoc ?_
    refine sg_bind fun v3 hv3 => ?_
    refine sg_bind fun v4 hv4 => ?_
    refine sg_ext (e := eI) (xs := s1.1) (zs := v3) rfl (asO (.st (.fz ((eL eI) v3))) (ev_frzX (o := (.ol (List.map eI v3))) (asO (.st (.ol (List.map eI v3))) (ev_lc (e := (eP eI (eO eI))) (d := eI) (tc := fun x1 => (atI s1.1 s1.2).bind fun v2 => some (decide (x1.2 = (some v2)))) (te := fun x1 => some x1.1) (items := (enumT p_parents)) (ci_enum (e := (eO eI)) (xs := p_parents) (ev_varF (x := (eL (eO eI)) p_parents) rfl) sb_st rfl) (fun x1 => ⟨_, rfl, (oe_bind fun v2 hv2 => (oe_id (ev_test (asO (.st (.fz (eB (decide (x1.2 = (some v2)))))) (ev_bin (ev_varF (x := (eO eI) x1.2) rfl) (asO (.st (.fz (eI v2))) (ev_sub (ev_varF (x := (eL eI) s1.1) rfl) (ev_varF (x := eI s1.2) rfl) rfl (t_atL (e := eI) (xs := s1.1) (.inr (.inl rfl)) hv2))) (t_eq (e := (eO eI)) (a := x1.2) (b := (some v2)) (epO epI nnI) (by decide) rfl rfl)))))), (oe_ret (ev_varF (x := eI x1.1) rfl))⟩) (.inr puI) hv3)) rfl)) hv4 ?_
    refine sg_augI (a := s1.2) (b := (1 : Int)) (op := fun a b => a + b) rfl (ev_c (x := eI 1)) rfl ?_
    exact sg_of rfl ⟨_, rfl, rfl⟩
  · subst hE
    exact sg_retVS (o := (.ol (List.map eI s2.1))) rfl (fun e => ⟨e, rfl⟩)
noncomputable def T_key_of (p_letters : (List Chr)) (p_row : (List Int)) (p_some : (List Chr)) : Option (List Int) :=
  (lcG (fun x1 : Chr => some true) (fun x1 => (idxT p_letters x1).bind fun v1 => (atI p_row v1).bind fun v2 => some v2) p_some).bind fun v3 => some v3
theorem sm_key_of {p_letters : (List Chr)} {p_row : (List Int)} {p_some : (List Chr)} {v : (List Int)} (hv : T_key_of p_letters p_row p_some = some v) : m_key_of [(eZ eC) p_letters, (eT eI) p_row, (eL eC) p_some] = .ok ((oF (eT eI)) v) := by
  refine run_sg (O := (oF (eT eI))) (t := T_key_of p_letters p_row p_some) ?_ hv
  unfold T_key_of D_key_of
  refine sg_env (e2 := [some (.fz ((eZ eC) p_letters)), some (.fz ((eT eI) p_row)), some (.fz ((eL eC) p_some)), none]) rfl ?_
  refine sg_one ?_
  refine sg_bind fun v3 hv3 => ?_
  exact sg_retS (o := (.fz ((eT eI) v3))) (asO (.st (.fz ((eT eI) v3))) (ev_callB (ev_cons (asO (.st (.ol (List.map eI v3))) (ev_lc (e := eC) (d := eI) (tc := fun x1 => some true) (te := fun x1 => (idxT p_letters x1).bind fun v1 => (atI p_row v1).bind fun v2 => some v2) (items := p_some) (ci_items (e := eC) (xs := p_some) (ev_varF (x := (eL eC) p_some) rfl) sb_st (.inl rfl)) (fun x1 => ⟨_, rfl, (oe_id rfl), (oe_bind fun v1 hv1 => (oe_bind fun v2 hv2 => (oe_ret (asO (.st (.fz (eI v2))) (ev_frzX (asO (.st (.fz (eI v2))) (ev_sub (ev_varF (x := (eT eI) p_row) rfl) (asO (.st (.fz (eI v1))) (ev_idxZ (xs := p_letters) (a := x1) (ev_varF (x := (eZ eC) p_letters) rfl) (ev_cons (ev_varF (x := eC x1) rfl) ev_nil) hv1)) rfl (t_atL (e := eI) (xs := p_row) (.inr (.inr rfl)) hv2))) rfl)))))⟩) (.inl (afz_F (afz_F (afz_F (afz_N afz_nil))))) hv3)) ev_nil) (t_tup (e := eI) (xs := v3) (.inl rfl)))) (fun e => ⟨e, rfl⟩)
noncomputable def T_agreeing_b1 (p_shape : (List (List Chr))) (p_j : Int) (v3 : (List Chr)) (x2 : (List Int)) (s1 : (List (List Int × Bool))) : Option (List (List Int × Bool)) :=
  (atI p_shape p_j).bind fun v5 => (T_key_of v5 x2 v3).bind fun v6 => (putG s1 v6 true).bind fun v7 => some v7
noncomputable def T_agreeing (p_shape : (List (List Chr))) (p_rows : (List (List (List Int)))) (p_i : Int) (p_j : Int) : Option (List (List Int)) :=
  (atI p_shape p_i).bind fun v1 => (lcG (fun x1 : Chr => (atI p_shape p_j).bind fun v2 => some (decide (x1 ∈ v2))) (fun x1 => some x1) v1).bind fun v3 => (atI p_rows p_j).bind fun v4 => (forT (T_agreeing_b1 p_shape p_j v3) v4 ([] : (List (List Int × Bool)))).bind fun s2 => (atI p_rows p_i).bind fun v8 => (lcG (fun x3 : (List Int) => (atI p_shape p_i).bind fun v9 => (T_key_of v9 x3 v3).bind fun v10 => some (lookK s2 v10).isSome) (fun x3 => some x3) v8).bind fun v11 => some v11
theorem sm_agreeing {p_shape : (List (List Chr))} {p_rows : (List (List (List Int)))} {p_i : Int} {p_j : Int} {v : (List (List Int))} (hv : T_agreeing p_shape p_rows p_i p_j = some v) : m_agreeing [(eL (eZ eC)) p_shape, (eL (eL (eT eI))) p_rows, eI p_i, eI p_j] = .ok ((oL (eT eI)) v) := by
  refine run_sg (O := (oL (eT eI))) (t := T_agreeing p_shape p_rows p_i p_j) ?_ hv
  unfold T_agreeing D_agreeing
  refine sg_env (e2 := [some (.fz ((eL (eZ eC)) p_shape)), some (.fz ((eL (eL (eT eI))) p_rows)), some (.fz (eI p_i)), some (.fz (eI p_j)), none, none, none, none]) rfl ?_
  refine sg_one ?_
  refine sg_assoc ?_
  refine sg_bind fun v1 hv1 => ?_
  refine sg_bind fun v3 hv3 => ?_
  refine sg_set (o := (.ol (List.map eC v3))) (asO (.st (.ol (List.map eC v3))) (ev_lc (e := eC) (d := eC) (tc := fun x1 => (atI p_shape p_j).bind fun v2 => some (decide (x1 ∈ v2))) (te := fun x1 => some x1) (items := v1) (ci_itemsZ (e := eC) (xs := v1) (asO (.st (.fz ((eZ eC) v1))) (ev_sub (ev_varF (x := (eL (eZ eC)) p_shape) rfl) (ev_varF (x := eI p_i) rfl) rfl (t_atL (e := (eZ eC)) (xs := p_shape) (.inr (.inl rfl)) hv1))) sb_st rfl) (fun x1 => ⟨_, rfl, (oe_bind fun v2 hv2 => (oe_id (ev_test (asO (.st (.fz (eB (decide (x1 ∈ v2))))) (ev_bin (ev_varF (x := eC x1) rfl) (asO (.st (.fz ((eZ eC) v2))) (ev_sub (ev_varF (x := (eL (eZ eC)) p_shape) rfl) (ev_varF (x := eI p_j) rfl) rfl (t_atL (e := (eZ eC)) (xs := p_shape) (.inr (.inl rfl)) hv2))) (t_inZ (e := eC) (a := x1) (xs := v2) epC atC rfl rfl)))))), (oe_ret (ev_varF (x := eC x1) rfl))⟩) (.inl (afz_F (afz_F (afz_F (afz_F (afz_N (afz_N (afz_N (afz_N afz_nil))))))))) hv3)) ?_
  refine sg_assoc ?_
  refine sg_iceS ?_
  refine sg_ice (o := (.ol (List.map eC v3))) (x := (eL eC) v3) rfl rfl ?_
  refine sg_set (o := (.oT (List.map (fun p : List Int × Bool => (p.1.map kI, eB p.2)) ([] : (List (List Int × Bool)))))) (asO (.st (.oT (List.map (fun p : List Int × Bool => (p.1.map kI, eB p.2)) ([] : (List (List Int × Bool)))))) rfl) ?_
  refine sg_assoc ?_
  refine sg_iceS ?_
  refine sg_iceF rfl ?_
  refine sg_bind fun v4 hv4 => ?_
  refine sg_seq (sg_for (eA := (eT eI)) (fun (s1 : (List (List Int × Bool))) (e : VEnv) => ∃ j1 : Option OV, e = [some (.fz ((eL (eZ eC)) p_shape)), some (.fz ((eL (eL (eT eI))) p_rows)), some (.fz (eI p_i)), some (.fz (eI p_j)), some (.fz ((eL eC) v3)), some (.oT (List.map (fun p : List Int × Bool => (p.1.map kI, eB p.2)) s1)), j1, none]) (tb := (T_agreeing_b1 p_shape p_j v3)) (it_items (e := (eT eI)) (xs := v4) (.inr (.inl (asO (.st (.fz ((eL (eT eI)) v4))) (ev_sub (ev_varF (x := (eL (eL (eT eI))) p_rows) rfl) (ev_varF (x := eI p_j) rfl) rfl (t_atL (e := (eL (eT eI))) (xs := p_rows) (.inr (.inl rfl)) hv4)))))) ⟨_, rfl⟩ (fun x2 s1 e hE => ?_)) (fun s2 e hE => ?_)
  · obtain ⟨j1, rfl⟩ := hE
    refine ⟨_, rfl, ?_⟩
    unfold T_agreeing_b1
    refine sg_one ?_
    refine sg_bind fun v5 hv5 => ?_
    refine sg_bind fun v6 hv6 => ?_
    refine sg_bind fun v7 hv7 => ?_
    refine sg_putD (kk := kI) (e := eB) (l := s1) (x := true) (a := v6) ekI rfl (ev_c (x := eB true)) (asO (.st (.fz ((eT eI) v6))) (ev_callA (ev_cons (asO (.st (.fz ((eZ eC) v5))) (ev_frzX (asO (.st (.fz ((eZ eC) v5))) (ev_sub (ev_varF (x := (eL (eZ eC)) p_shape) rfl) (ev_varF (x := eI p_j) rfl) rfl (t_atL (e := (eZ eC)) (xs := p_shape) (.inr (.inl rfl)) hv5))) rfl)) (ev_cons (ev_varF (x := (eT eI) x2) rfl) (ev_cons (ev_varF (x := (eL eC) v3) rfl) ev_nil))) (as := [(eZ eC) v5, (eT eI) x2, (eL eC) v3]) rfl (sm_key_of hv6) (.inl rfl))) rfl hv7 ?_
    exact sg_nx ⟨_, rfl⟩
  · obtain ⟨j2, rfl⟩ := hE
    refine sg_iceS ?_
    refine sg_iceJ (j := j2) rfl ?_
    refine sg_iceS ?_
    refine sg_ice (o := (.oT (List.map (fun p : List Int × Bool => (p.1.map kI, eB p.2)) s2))) (x := (eD kI eB) s2) rfl rfl ?_
    refine sg_iceS ?_
    refine sg_iceF rfl ?_
    refine sg_bind fun v8 hv8 => ?_
    refine sg_bind fun v11 hv11 => ?_
    exact sg_retS (o := (.ol (List.map (eT eI) v11))) (asO (.st (.ol (List.map (eT eI) v11))) (ev_lc (e := (eT eI)) (d := (eT eI)) (tc := fun x3 => (atI p_shape p_i).bind fun v9 => (T_key_of v9 x3 v3).bind fun v10 => some (lookK s2 v10).isSome) (te := fun x3 => some x3) (items := v8) (ci_items (e := (eT eI)) (xs := v8) (asO (.st (.fz ((eL (eT eI)) v8))) (ev_sub (ev_varF (x := (eL (eL (eT eI))) p_rows) rfl) (ev_varF (x := eI p_i) rfl) rfl (t_atL (e := (eL (eT eI))) (xs := p_rows) (.inr (.inl rfl)) hv8))) sb_st (.inl rfl)) (fun x3 => ⟨_, rfl, (oe_bind fun v9 hv9 => (oe_bind fun v10 hv10 => (oe_id (ev_test (asO (.st (.fz (eB (lookK s2 v10).isSome))) (ev_bin (asO (.st (.fz ((eT eI) v10))) (ev_callA (ev_cons (asO (.st (.fz ((eZ eC) v9))) (ev_frzX (asO (.st (.fz ((eZ eC) v9))) (ev_sub (ev_varF (x := (eL (eZ eC)) p_shape) rfl) (ev_varF (x := eI p_i) rfl) rfl (t_atL (e := (eZ eC)) (xs := p_shape) (.inr (.inl rfl)) hv9))) rfl)) (ev_cons (ev_varF (x := (eT eI) x3) rfl) (ev_cons (ev_varF (x := (eL eC) v3) rfl) ev_nil))) (as := [(eZ eC) v9, (eT eI) x3, (eL eC) v3]) rfl (sm_key_of hv10) (.inl rfl))) (ev_varF (x := (eD kI eB) s2) rfl) (t_inD (k := kI) (e := eB) (l := s2) (a := v10) ekI (.inr rfl)))))))), (oe_ret (ev_varF (x := (eT eI) x3) rfl))⟩) (.inl (afz_F (afz_F (afz_F (afz_F (afz_F (afz_F (afz_J (afz_N afz_nil))))))))) hv11)) (fun e => ⟨e, rfl⟩)
noncomputable def T_reduced_b1 (p_shape : (List (List Chr))) (p_parents : (List (Option Int))) (x2 : Int) (s1 : (List (List (List Int)))) : Option (List (List (List Int))) :=
  (atI p_parents x2).bind fun v3 => (if v3.isSome then (atI p_parents x2).bind fun v4 => (v4).bind fun v5 => (T_agreeing p_shape s1 v5 x2).bind fun v6 => (atI p_parents x2).bind fun v7 => (v7).bind fun v8 => (putL s1 v8 v6).bind fun v9 => some v9 else some s1)
noncomputable def T_reduced_b2 (p_shape : (List (List Chr))) (p_parents : (List (Option Int))) (x3 : Int) (s3 : (List (List (List Int)))) : Option (List (List (List Int))) :=
  (atI p_parents x3).bind fun v10 => (if v10.isSome then (atI p_parents x3).bind fun v11 => (v11).bind fun v12 => (T_agreeing p_shape s3 x3 v12).bind fun v13 => (putL s3 x3 v13).bind fun v14 => some v14 else some s3)
noncomputable def T_reduced (p_shape : (List (List Chr))) (p_rows : (List (List (List Int)))) (p_parents : (List (Option Int))) : Option (List (List (List Int))) :=
  (lcG (fun x1 : (List (List Int)) => some true) (fun x1 => some x1) p_rows).bind fun v1 => (T_downward p_parents).bind fun v2 => (forT (T_reduced_b1 p_shape p_parents) (List.reverse v2) v1).bind fun s2 => (forT (T_reduced_b2 p_shape p_parents) v2 s2).bind fun s4 => some s4
theorem sm_reduced {p_shape : (List (List Chr))} {p_rows : (List (List (List Int)))} {p_parents : (List (Option Int))} {v : (List (List (List Int)))} (hv : T_reduced p_shape p_rows p_parents = some v) : m_reduced [(eL (eZ eC)) p_shape, (eL (eL (eT eI))) p_rows, (eL (eO eI)) p_parents] = .ok ((oL (eL (eT eI))) v) := by
  refine run_sg (O := (oL (eL (eT eI)))) (t := T_reduced p_shape p_rows p_parents) ?_ hv
  unfold T_reduced D_reduced
  refine sg_env (e2 := [some (.fz ((eL (eZ eC)) p_shape)), some (.fz ((eL (eL (eT eI))) p_rows)), some (.fz ((eL (eO eI)) p_parents)), none, none, none, none]) rfl ?_
  refine sg_one ?_
  refine sg_assoc ?_
  refine sg_bind fun v1 hv1 => ?_
  refine sg_set (o := (.ol (List.map (eL (eT eI)) v1))) (asO (.st (.ol (List.map (eL (eT eI)) v1))) (ev_lc (e := (eL (eT eI))) (d := (eL (eT eI))) (tc := fun x1 => some true) (te := fun x1 => some x1) (items := p_rows) (ci_items (e := (eL (eT eI))) (xs := p_rows) (ev_varF (x := (eL (eL (eT eI))) p_rows) rfl) sb_st (.inl rfl)) (fun x1 => ⟨_, rfl, (oe_id rfl), (oe_ret (asO (.st (.fz ((eL (eT eI)) x1))) (ev_frzX (o := (.ol (List.map (eT eI) x1))) (asO (.st (.ol (List.map (eT eI) x1))) (ev_callB (ev_cons (ev_varF (x := (eL (eT eI)) x1) rfl) ev_nil) (t_list (e := (eT eI)) (xs := x1) (.inr (.inl rfl))))) rfl)))⟩) (.inl (afz_F (afz_F (afz_F (afz_N (afz_N (afz_N (afz_N afz_nil)))))))) hv1)) ?_
  refine sg_assoc ?_
  refine sg_bind fun v2 hv2 => ?_
  refine sg_set (o := (.ol (List.map eI v2))) (asO (.st (.ol (List.map eI v2))) (ev_callA (ev_cons (ev_varF (x := (eL (eO eI)) p_parents) rfl) ev_nil) (as := [(eL (eO eI)) p_parents]) rfl (sm_downward hv2) (.inl rfl))) ?_
  refine sg_assoc ?_
  refine sg_iceS ?_
  refine sg_ice (o := (.ol (List.map eI v2))) (x := (eL eI) v2) rfl rfl ?_
  refine sg_iceS ?_
  refine sg_iceF rfl ?_
  refine sg_seq (sg_for (eA := eI) (fun (s1 : (List (List (List Int)))) (e : VEnv) => ∃ j1 : Option OV, e = [some (.fz ((eL (eZ eC)) p_shape)), some (.fz ((eL (eL (eT eI))) p_rows)), some (.fz ((eL (eO eI)) p_parents)), some (.ol (List.map (eL (eT eI)) s1)), some (.fz ((eL eI) v2)), j1, none]) (tb := (T_reduced_b1 p_shape p_parents)) (it_rev (e := eI) (xs := v2) (ev_varF (x := (eL eI) v2) rfl) (.inr rfl)) ⟨_, rfl⟩ (fun x2 s1 e hE => ?_)) (fun s2 e hE => ?_)
  · obtain ⟨j1, rfl⟩ := hE
    refine ⟨_, rfl, ?_⟩
    unfold T_reduced_b1
    refine sg_one ?_
    refine sg_bind fun v3 hv3 => ?_
    refine sg_ifs (ev_test (asO (.st (.fz (eB v3.isSome))) (ev_un (asO (.st (.fz ((eO eI) v3))) (ev_sub (ev_varF (x := (eL (eO eI)) p_parents) rfl) (ev_varF (x := eI x2) rfl) rfl (t_atL (e := (eO eI)) (xs := p_parents) (.inr (.inl rfl)) hv3))) (t_notN (e := eI) (v := v3) nnI rfl)))) (fun _ => ?_) (fun _ => ?_)
    · refine sg_bind fun v4 hv4 => ?_
      refine sg_bind fun v5 hv5 => ?_
      refine sg_bind fun v6 hv6 => ?_
      refine sg_bind fun v7 hv7 => ?_
      refine sg_bind fun v8 hv8 => ?_
      refine sg_bind fun v9 hv9 => ?_
      refine sg_putL (e := (eL (eT eI))) (xs := s1) (x := v6) (j := v8) rfl (asO (.st (.fz ((eL (eT eI)) v6))) (ev_frzX (o := (.ol (List.map (eT eI) v6))) (asO (.st (.ol (List.map (eT eI) v6))) (ev_callA (ev_cons (ev_varF (x := (eL (eZ eC)) p_shape) rfl) (ev_cons (ev_varO (o := (.ol (List.map (eL (eT eI)) s1))) rfl rfl) (ev_cons (unO (e := eI) (v := v4) (asO (.st (.fz ((eO eI) v4))) (ev_frzX (asO (.st (.fz ((eO eI) v4))) (ev_sub (ev_varF (x := (eL (eO eI)) p_parents) rfl) (ev_varF (x := eI x2) rfl) rfl (t_atL (e := (eO eI)) (xs := p_parents) (.inr (.inl rfl)) hv4))) rfl)) hv5) (ev_cons (ev_varF (x := eI x2) rfl) ev_nil)))) (as := [(eL (eZ eC)) p_shape, (eL (eL (eT eI))) s1, eI v5, eI x2]) rfl (sm_agreeing hv6) (.inr (clean_L (puT puI) _)))) rfl)) (unO (e := eI) (v := v7) (asO (.st (.fz ((eO eI) v7))) (ev_sub (ev_varF (x := (eL (eO eI)) p_parents) rfl) (ev_varF (x := eI x2) rfl) rfl (t_atL (e := (eO eI)) (xs := p_parents) (.inr (.inl rfl)) hv7))) hv8) hv9 ?_
      exact sg_nx ⟨_, rfl⟩
    · refine sg_skip ?_
      exact sg_nx ⟨_, rfl⟩
  · obtain ⟨j2, rfl⟩ := hE
    refine sg_assoc ?_
    refine sg_iceS ?_
    refine sg_iceF rfl ?_
    refine sg_seq (sg_for (eA := eI) (fun (s3 : (List (List (List Int)))) (e : VEnv) => ∃ j3 : Option OV, e = [some (.fz ((eL (eZ eC)) p_shape)), some (.fz ((eL (eL (eT eI))) p_rows)), some (.fz ((eL (eO eI)) p_parents)), some (.ol (List.map (eL (eT eI)) s3)), some (.fz ((eL eI) v2)), j3, none]) (tb := (T_reduced_b2 p_shape p_parents)) (it_items (e := eI) (xs := v2) (.inr (.inl (ev_varF (x := (eL eI) v2) rfl)))) ⟨_, rfl⟩ (fun x3 s3 e hE => ?_)) (fun s4 e hE => ?_)
    · obtain ⟨j3, rfl⟩ := hE
      refine ⟨_, rfl, ?_⟩
      unfold T_reduced_b2
      refine sg_one ?_
      refine sg_bind fun v10 hv10 => ?_
      refine sg_ifs (ev_test (asO (.st (.fz (eB v10.isSome))) (ev_un (asO (.st (.fz ((eO eI) v10))) (ev_sub (ev_varF (x := (eL (eO eI)) p_parents) rfl) (ev_varF (x := eI x3) rfl) rfl (t_atL (e := (eO eI)) (xs := p_parents) (.inr (.inl rfl)) hv10))) (t_notN (e := eI) (v := v10) nnI rfl)))) (fun _ => ?_) (fun _ => ?_)
      · refine sg_bind fun v11 hv11 => ?_
        refine sg_bind fun v12 hv12 => ?_
        refine sg_bind fun v13 hv13 => ?_
        refine sg_bind fun v14 hv14 => ?_
        refine sg_putL (e := (eL (eT eI))) (xs := s3) (x := v13) (j := x3) rfl (asO (.st (.fz ((eL (eT eI)) v13))) (ev_frzX (o := (.ol (List.map (eT eI) v13))) (asO (.st (.ol (List.map (eT eI) v13))) (ev_callA (ev_cons (ev_varF (x := (eL (eZ eC)) p_shape) rfl) (ev_cons (ev_varO (o := (.ol (List.map (eL (eT eI)) s3))) rfl rfl) (ev_cons (ev_varF (x := eI x3) rfl) (ev_cons (unO (e := eI) (v := v11) (asO (.st (.fz ((eO eI) v11))) (ev_frzX (asO (.st (.fz ((eO eI) v11))) (ev_sub (ev_varF (x := (eL (eO eI)) p_parents) rfl) (ev_varF (x := eI x3) rfl) rfl (t_atL (e := (eO eI)) (xs := p_parents) (.inr (.inl rfl)) hv11))) rfl)) hv12) ev_nil)))) (as := [(eL (eZ eC)) p_shape, (eL (eL (eT eI))) s3, eI x3, eI v12]) rfl (sm_agreeing hv13) (.inr (clean_L (puT puI) _)))) rfl)) (ev_varF (x := eI x3) rfl) hv14 ?_
        exact sg_nx ⟨_, rfl⟩
      · refine sg_skip ?_
        exact sg_nx ⟨_, rfl⟩
    · obtain ⟨j4, rfl⟩ := hE
      exact sg_retVS (o := (.ol (List.map (eL (eT eI)) s4))) rfl (fun e => ⟨e, rfl⟩)
noncomputable def T_through_b1 (p_shape : (List (List Chr))) (x2 : Int) (v7 : (List Chr)) (x4 : (List Int)) (s2 : (List (Chr × Int))) : Option (Ctl (List (Chr × Int)) Empty) :=
  (atI p_shape x2).bind fun v9 => (T_key_of v9 x4 v7).bind fun v10 => (lcG (fun x5 : Chr => some true) (fun x5 => (lookK s2 x5).bind fun v11 => some v11) v7).bind fun v12 => (if (decide (v10 = v12)) then (atI p_shape x2).bind fun v13 => (zipD v13 x4).bind fun v14 => (updG s2 v14).bind fun v15 => some (.bk v15) else some (.nx s2))
noncomputable def T_through_b2 (p_shape : (List (List Chr))) (v3 : (List (List (List Int)))) (x2 : Int) (s1 : (List (Chr × Int))) : Option (List (Chr × Int)) :=
  (atI p_shape x2).bind fun v6 => (lcG (fun x3 : Chr => some (lookK s1 x3).isSome) (fun x3 => some x3) v6).bind fun v7 => (atI v3 x2).bind fun v8 => ((forC (T_through_b1 p_shape x2 v7) v8 s1)).bind (behind (fun r : Empty => nomatch r) fun s3 => some s3)
noncomputable def T_through (p_shape : (List (List Chr))) (p_rows : (List (List (List Int)))) (p_parents : (List (Option Int))) (p_i : Int) (p_row : (List Int)) : Option (Option (List Int)) :=
  (lcG (fun x1 : (List (List Int)) => some true) (fun x1 => some x1) p_rows).bind fun v1 => (putL v1 p_i ([p_row] : List (List Int))).bind fun v2 => (T_reduced p_shape v2 p_parents).bind fun v3 => (atI v3 p_i).bind fun v4 => (if (decide (v4 = ([] : List (List Int)))) then some none else (T_downward p_parents).bind fun v5 => (forT (T_through_b2 p_shape v3) v5 ([] : (List (Chr × Int)))).bind fun s4 => (T_letters_of p_shape).bind fun v16 => (lcG (fun x6 : Chr => some true) (fun x6 => (lookK s4 x6).bind fun v17 => some v17) v16).bind fun v18 => some (some v18))
theorem sm_through {p_shape : (List (List Chr))} {p_rows : (List (List (List Int)))} {p_parents : (List (Option Int))} {p_i : Int} {p_row : (List Int)} {v : (Option (List Int))} (hv : T_through p_shape p_rows p_parents p_i p_row = some v) : m_through [(eL (eZ eC)) p_shape, (eL (eL (eT eI))) p_rows, (eL (eO eI)) p_parents, eI p_i, (eT eI) p_row] = .ok ((oF (eO (eT eI))) v) := by
  refine run_sg (O := (oF (eO (eT eI)))) (t := T_through p_shape p_rows p_parents p_i p_row) ?_ hv
  unfold T_through D_through
  refine sg_env (e2 := [some (.fz ((eL (eZ eC)) p_shape)), some (.fz ((eL (eL (eT eI))) p_rows)), some (.fz ((eL (eO eI)) p_parents)), some (.fz (eI p_i)), some (.fz ((eT eI) p_row)), none, none, none, none, none, none, none]) rfl ?_
  refine sg_one ?_
  refine sg_assoc ?_
  refine sg_bind fun v1 hv1 => ?_
  refine sg_set (o := (.ol (List.map (eL (eT eI)) v1))) (asO (.st (.ol (List.map (eL (eT eI)) v1))) (ev_lc (e := (eL (eT eI))) (d := (eL (eT eI))) (tc := fun x1 => some true) (te := fun x1 => some x1) (items := p_rows) (ci_items (e := (eL (eT eI))) (xs := p_rows) (ev_varF (x := (eL (eL (eT eI))) p_rows) rfl) sb_st (.inl rfl)) (fun x1 => ⟨_, rfl, (oe_id rfl), (oe_ret (asO (.st (.fz ((eL (eT eI)) x1))) (ev_frzX (o := (.ol (List.map (eT eI) x1))) (asO (.st (.ol (List.map (eT eI) x1))) (ev_callB (ev_cons (ev_varF (x := (eL (eT eI)) x1) rfl) ev_nil) (t_list (e := (eT eI)) (xs := x1) (.inr (.inl rfl))))) rfl)))⟩) (.inl (afz_F (afz_F (afz_F (afz_F (afz_F (afz_N (afz_N (afz_N (afz_N (afz_N (afz_N (afz_N afz_nil))))))))))))) hv1)) ?_
  refine sg_assoc ?_
  refine sg_iceS ?_
  refine sg_iceF rfl ?_
  refine sg_bind fun v2 hv2 => ?_
  refine sg_putL (e := (eL (eT eI))) (xs := v1) (x := ([p_row] : List (List Int))) (j := p_i) rfl (asO (.st (.fz ((eL (eT eI)) ([p_row] : List (List Int))))) (ev_frzX (o := (.ol (List.map (eT eI) ([p_row] : List (List Int))))) (asO (.st (.ol (List.map (eT eI) ([p_row] : List (List Int))))) (ev_list (ev_cons (ev_varF (x := (eT eI) p_row) rfl) ev_nil) (Nat.le_of_ble_eq_true rfl) rfl)) rfl)) (ev_varF (x := eI p_i) rfl) hv2 ?_
  refine sg_assoc ?_
  refine sg_iceS ?_
  refine sg_ice (o := (.ol (List.map (eL (eT eI)) v2))) (x := (eL (eL (eT eI))) v2) rfl rfl ?_
  refine sg_bind fun v3 hv3 => ?_
  refine sg_set (o := (.ol (List.map (eL (eT eI)) v3))) (asO (.st (.ol (List.map (eL (eT eI)) v3))) (ev_callA (ev_cons (ev_varF (x := (eL (eZ eC)) p_shape) rfl) (ev_cons (ev_varF (x := (eL (eL (eT eI))) v2) rfl) (ev_cons (ev_varF (x := (eL (eO eI)) p_parents) rfl) ev_nil))) (as := [(eL (eZ eC)) p_shape, (eL (eL (eT eI))) v2, (eL (eO eI)) p_parents]) rfl (sm_reduced hv3) (.inl rfl))) ?_
  refine sg_assoc ?_
  refine sg_bind fun v4 hv4 => ?_
  refine sg_ifs (ev_test (asO (.st (.fz (eB (decide (v4 = ([] : List (List Int))))))) (ev_bin (asO (.st (.fz ((eL (eT eI)) v4))) (ev_sub (ev_varO (o := (.ol (List.map (eL (eT eI)) v3))) rfl rfl) (ev_varF (x := eI p_i) rfl) rfl (t_atL (e := (eL (eT eI))) (xs := v3) (.inl rfl) hv4))) (asO (.st (.ol (List.map (eT eI) ([] : List (List Int))))) (ev_list ev_nil (Nat.le_of_ble_eq_true rfl) rfl)) (t_eq (e := (eL (eT eI))) (a := v4) (b := ([] : List (List Int))) (epL (epT epI)) (by decide) rfl rfl)))) (fun _ => ?_) (fun _ => ?_)
  · exact sg_retS (o := (.fz ((eO (eT eI)) none))) (ev_c (x := eU ())) (fun e => ⟨e, rfl⟩)
  · refine sg_skip ?_
    refine sg_assoc ?_
    refine sg_set (o := (.oK (List.map (fun p : Chr × Int => (kC p.1, eI p.2)) ([] : (List (Chr × Int)))))) (asO (.st (.oK (List.map (fun p : Chr × Int => (kC p.1, eI p.2)) ([] : (List (Chr × Int)))))) rfl) ?_
    refine sg_assoc ?_
    refine sg_iceS ?_
    refine sg_ice (o := (.ol (List.map (eL (eT eI)) v3))) (x := (eL (eL (eT eI))) v3) rfl rfl ?_
    refine sg_bind fun v5 hv5 => ?_
    refine sg_seq (sg_for (eA := eI) (fun (s1 : (List (Chr × Int))) (e : VEnv) => ∃ j1 j2 j3 : Option OV, e = [some (.fz ((eL (eZ eC)) p_shape)), some (.fz ((eL (eL (eT eI))) p_rows)), some (.fz ((eL (eO eI)) p_parents)), some (.fz (eI p_i)), some (.fz ((eT eI) p_row)), some (.fz ((eL (eL (eT eI))) v3)), some (.oK (List.map (fun p : Chr × Int => (kC p.1, eI p.2)) s1)), j1, j2, j3, none, none]) (tb := (T_through_b2 p_shape v3)) (it_items (e := eI) (xs := v5) (.inl (asO (.st (.ol (List.map eI v5))) (ev_callA (ev_cons (ev_varF (x := (eL (eO eI)) p_parents) rfl) ev_nil) (as := [(eL (eO eI)) p_parents]) rfl (sm_downward hv5) (.inl rfl))))) ⟨_, _, _, rfl⟩ (fun x2 s1 e hE => ?_)) (fun s4 e hE => ?_)
    · obtain ⟨j1, j2, j3, rfl⟩ := hE
      refine ⟨_, rfl, ?_⟩
      unfold T_through_b2
      refine sg_one ?_
      refine sg_assoc ?_
      refine sg_bind fun v6 hv6 => ?_
      refine sg_bind fun v7 hv7 => ?_
      refine sg_set (o := (.ol (List.map eC v7))) (asO (.st (.ol (List.map eC v7))) (ev_lc (e := eC) (d := eC) (tc := fun x3 => some (lookK s1 x3).isSome) (te := fun x3 => some x3) (items := v6) (ci_itemsZ (e := eC) (xs := v6) (asO (.st (.fz ((eZ eC) v6))) (ev_sub (ev_varF (x := (eL (eZ eC)) p_shape) rfl) (ev_varF (x := eI x2) rfl) rfl (t_atL (e := (eZ eC)) (xs := p_shape) (.inr (.inl rfl)) hv6))) sb_st rfl) (fun x3 => ⟨_, rfl, (oe_id (ev_test (asO (.st (.fz (eB (lookK s1 x3).isSome))) (ev_bin (ev_varF (x := eC x3) rfl) (ev_varF (x := (eK kC eI) s1) rfl) (t_inK (k := kC) (e := eI) (l := s1) (a := x3) ekC (.inr rfl)))))), (oe_ret (ev_varF (x := eC x3) rfl))⟩) (.inr puC) hv7)) ?_
      refine sg_iceS ?_
      refine sg_ice (o := (.ol (List.map eC v7))) (x := (eL eC) v7) rfl rfl ?_
      refine sg_iceS ?_
      refine sg_iceF rfl ?_
      refine sg_iceS ?_
      refine sg_iceF rfl ?_
      refine sg_bind fun v8 hv8 => ?_
      refine sg_seqL (sg_forC (eA := (eT eI)) (fun (s2 : (List (Chr × Int))) (e : VEnv) => ∃ j4 : Option OV, e = [some (.fz ((eL (eZ eC)) p_shape)), some (.fz ((eL (eL (eT eI))) p_rows)), some (.fz ((eL (eO eI)) p_parents)), some (.fz (eI p_i)), some (.fz ((eT eI) p_row)), some (.fz ((eL (eL (eT eI))) v3)), some (.oK (List.map (fun p : Chr × Int => (kC p.1, eI p.2)) s2)), some (.fz (eI x2)), some (.fz ((eL eC) v7)), j4, none, none]) (fun (s2 : (List (Chr × Int))) (e : VEnv) => ∃ j4 : Option OV, e = [some (.fz ((eL (eZ eC)) p_shape)), some (.fz ((eL (eL (eT eI))) p_rows)), some (.fz ((eL (eO eI)) p_parents)), some (.fz (eI p_i)), some (.fz ((eT eI) p_row)), some (.fz ((eL (eL (eT eI))) v3)), some (.oK (List.map (fun p : Chr × Int => (kC p.1, eI p.2)) s2)), some (.fz (eI x2)), some (.fz ((eL eC) v7)), j4, none, none]) (fun r : Empty => nomatch r) (tb := (T_through_b1 p_shape x2 v7)) (it_items (e := (eT eI)) (xs := v8) (.inr (.inl (asO (.st (.fz ((eL (eT eI)) v8))) (ev_sub (ev_varF (x := (eL (eL (eT eI))) v3) rfl) (ev_varF (x := eI x2) rfl) rfl (t_atL (e := (eL (eT eI))) (xs := v3) (.inr (.inl rfl)) hv8)))))) ⟨_, rfl⟩ (fun _ _ h => h) (fun x4 s2 e hE => ?_)) (fun r => nomatch r) (fun s3 e hE => ?_)
      · obtain ⟨j4, rfl⟩ := hE
        refine ⟨_, rfl, ?_⟩
        unfold T_through_b1
        refine sg_one ?_
        refine sg_bind fun v9 hv9 => ?_
        refine sg_bind fun v10 hv10 => ?_
        refine sg_bind fun v12 hv12 => ?_
        refine sg_ifs (ev_test (asO (.st (.fz (eB (decide (v10 = v12))))) (ev_bin (asO (.st (.fz ((eT eI) v10))) (ev_callA (ev_cons (asO (.st (.fz ((eZ eC) v9))) (ev_frzX (asO (.st (.fz ((eZ eC) v9))) (ev_sub (ev_varF (x := (eL (eZ eC)) p_shape) rfl) (ev_varF (x := eI x2) rfl) rfl (t_atL (e := (eZ eC)) (xs := p_shape) (.inr (.inl rfl)) hv9))) rfl)) (ev_cons (ev_varF (x := (eT eI) x4) rfl) (ev_cons (ev_varF (x := (eL eC) v7) rfl) ev_nil))) (as := [(eZ eC) v9, (eT eI) x4, (eL eC) v7]) rfl (sm_key_of hv10) (.inl rfl))) (asO (.st (.fz ((eT eI) v12))) (ev_callB (ev_cons (asO (.st (.ol (List.map eI v12))) (ev_lc (e := eC) (d := eI) (tc := fun x5 => some true) (te := fun x5 => (lookK s2 x5).bind fun v11 => some v11) (items := v7) (ci_items (e := eC) (xs := v7) (ev_varF (x := (eL eC) v7) rfl) sb_st (.inl rfl)) (fun x5 => ⟨_, rfl, (oe_id rfl), (oe_bind fun v11 hv11 => (oe_ret (asO (.st (.fz (eI v11))) (ev_frzX (asO (.st (.fz (eI v11))) (ev_sub (ev_varF (x := (eK kC eI) s2) rfl) (ev_varF (x := eC x5) rfl) rfl (t_subK (k := kC) (e := eI) (l := s2) (a := x5) ekC (.inr rfl) hv11))) rfl))))⟩) (.inr puI) hv12)) ev_nil) (t_tup (e := eI) (xs := v12) (.inl rfl)))) (t_eq (e := (eT eI)) (a := v10) (b := v12) (epT epI) (by decide) rfl rfl)))) (fun _ => ?_) (fun _ => ?_)
        · refine sg_assoc ?_
          refine sg_bind fun v13 hv13 => ?_
          refine sg_bind fun v14 hv14 => ?_
          refine sg_bind fun v15 hv15 => ?_
          refine sg_upd (kk := kC) (e := eI) (l := s2) (more := v14) ekC rfl (asO (.st (.fz ((eK kC eI) v14))) (ev_frzX (o := (.oK (List.map (fun p : Chr × Int => (kC p.1, eI p.2)) v14))) (asO (.st (.oK (List.map (fun p : Chr × Int => (kC p.1, eI p.2)) v14))) (ev_dictZip (kk := kC) (c := eC) (e := eI) (as := v13) (bs := x4) ekC (.inl rfl) (ev_cons (asO (.st (.fz ((eZ eC) v13))) (ev_sub (ev_varF (x := (eL (eZ eC)) p_shape) rfl) (ev_varF (x := eI x2) rfl) rfl (t_atL (e := (eZ eC)) (xs := p_shape) (.inr (.inl rfl)) hv13))) (ev_cons (ev_varF (x := (eT eI) x4) rfl) ev_nil)) hv14)) rfl)) hv15 ?_
          exact sg_brkS ⟨_, rfl, ⟨_, rfl⟩⟩
        · refine sg_skip ?_
          exact sg_of rfl ⟨_, rfl, ⟨_, rfl⟩⟩
      · obtain ⟨j5, rfl⟩ := hE
        exact sg_nx ⟨_, _, _, rfl⟩
    · obtain ⟨j6, j7, j8, rfl⟩ := hE
      refine sg_iceS ?_
      refine sg_iceJ (j := j8) rfl ?_
      refine sg_iceS ?_
      refine sg_iceJ (j := j7) rfl ?_
      refine sg_iceS ?_
      refine sg_iceJ (j := j6) rfl ?_
      refine sg_iceS ?_
      refine sg_ice (o := (.oK (List.map (fun p : Chr × Int => (kC p.1, eI p.2)) s4))) (x := (eK kC eI) s4) rfl rfl ?_
      refine sg_iceS ?_
      refine sg_iceF rfl ?_
      refine sg_bind fun v16 hv16 => ?_
      refine sg_bind fun v18 hv18 => ?_
      exact sg_retS (o := (.fz ((eO (eT eI)) (some v18)))) (asO (.st (.fz ((eT eI) v18))) (ev_callB (ev_cons (asO (.st (.ol (List.map eI v18))) (ev_lc (e := eC) (d := eI) (tc := fun x6 => some true) (te := fun x6 => (lookK s4 x6).bind fun v17 => some v17) (items := v16) (ci_items (e := eC) (xs := v16) (asO (.st (.ol (List.map eC v16))) (ev_callA (ev_cons (ev_varF (x := (eL (eZ eC)) p_shape) rfl) ev_nil) (as := [(eL (eZ eC)) p_shape]) rfl (sm_letters_of hv16) (.inl rfl))) sb_st (.inl rfl)) (fun x6 => ⟨_, rfl, (oe_id rfl), (oe_bind fun v17 hv17 => (oe_ret (asO (.st (.fz (eI v17))) (ev_frzX (asO (.st (.fz (eI v17))) (ev_sub (ev_varF (x := (eK kC eI) s4) rfl) (ev_varF (x := eC x6) rfl) rfl (t_subK (k := kC) (e := eI) (l := s4) (a := x6) ekC (.inr rfl) hv17))) rfl))))⟩) (.inl (afz_F (afz_F (afz_F (afz_F (afz_F (afz_F (afz_F (afz_J (afz_J (afz_J (afz_N (afz_N afz_nil))))))))))))) hv18)) ev_nil) (t_tup (e := eI) (xs := v18) (.inl rfl)))) (fun e => ⟨e, rfl⟩)
noncomputable def T__law_whole (p_found : Int) : Option Bool :=
  some (true && (!false))
theorem sm__law_whole {p_found : Int} {v : Bool} (hv : T__law_whole p_found = some v) : m__law_whole [eI p_found] = .ok ((oF eB) v) := by
  refine run_sg (O := (oF eB)) (t := T__law_whole p_found) ?_ hv
  unfold T__law_whole D__law_whole
  refine sg_env (e2 := [some (.fz (eI p_found))]) rfl ?_
  refine sg_one ?_
  exact sg_retS (o := (.fz (eB (true && (!false))))) (asO (.st (.fz (eB (true && (!false))))) (ev_andV (asO (.st (.fz (eB true))) (ev_un (op := opIsa ["int"]) (ev_varF (x := eI p_found) rfl) rfl)) (ev_dB (ev_notT (ev_test (asO (.st (.fz (eB false))) (ev_un (op := opIsa ["bool"]) (ev_varF (x := eI p_found) rfl) rfl))))))) (fun e => ⟨e, rfl⟩)
noncomputable def T__law_right (p_found : (List Int)) (p_names_here : (List Chr)) (p_pattern : (List Chr)) (p_row : (List Int)) (p_every : (List (List Int × Bool))) : Option Bool :=
  (if (!true) then some true else (if (!(lookK p_every p_found).isSome) then some true else (T__law_row_of p_names_here p_pattern p_found).bind fun v1 => some (!(decide (v1 = p_row)))).bind fun v2 => some v2).bind fun v3 => (if v3 then some false else (lcG (fun x1 : Int => (T__law_whole x1).bind fun v4 => some (!v4)) (fun x1 => some x1) p_found).bind fun v5 => some (decide (v5 = ([] : List Int))))
theorem sm__law_right {p_found : (List Int)} {p_names_here : (List Chr)} {p_pattern : (List Chr)} {p_row : (List Int)} {p_every : (List (List Int × Bool))} {v : Bool} (hv : T__law_right p_found p_names_here p_pattern p_row p_every = some v) : m__law_right [(eT eI) p_found, (eL eC) p_names_here, (eZ eC) p_pattern, (eT eI) p_row, (eD kI eB) p_every] = .ok ((oF eB) v) := by
  refine run_sg (O := (oF eB)) (t := T__law_right p_found p_names_here p_pattern p_row p_every) ?_ hv
  unfold T__law_right D__law_right
  refine sg_env (e2 := [some (.fz ((eT eI) p_found)), some (.fz ((eL eC) p_names_here)), some (.fz ((eZ eC) p_pattern)), some (.fz ((eT eI) p_row)), some (.fz ((eD kI eB) p_every)), none]) rfl ?_
  refine sg_one ?_
  refine sg_assoc ?_
  refine sg_bind fun v3 hv3 => ?_
  refine sg_ifs (ev_orO (ev_notT (ev_test (asO (.st (.fz (eB true))) (ev_un (op := opIsa ["tuple"]) (ev_varF (x := (eT eI) p_found) rfl) rfl)))) (fun _ => (oe_bind fun v2 hv2 => (oe_id (ev_orO (ev_test (asO (.st (.fz (eB (!(lookK p_every p_found).isSome)))) (ev_bin (ev_varF (x := (eT eI) p_found) rfl) (ev_varF (x := (eD kI eB) p_every) rfl) (t_ninD (k := kI) (e := eB) (l := p_every) (a := p_found) ekI (.inr rfl))))) (fun _ => (oe_bind fun v1 hv1 => (oe_id (ev_test (asO (.st (.fz (eB (!(decide (v1 = p_row)))))) (ev_bin (asO (.st (.fz ((eT eI) v1))) (ev_callA (ev_cons (ev_varF (x := (eL eC) p_names_here) rfl) (ev_cons (ev_varF (x := (eZ eC) p_pattern) rfl) (ev_cons (ev_varF (x := (eT eI) p_found) rfl) ev_nil))) (as := [(eL eC) p_names_here, (eZ eC) p_pattern, (eT eI) p_found]) rfl (sm__law_row_of hv1) (.inl rfl))) (ev_varF (x := (eT eI) p_row) rfl) (t_ne (e := (eT eI)) (a := v1) (b := p_row) (epT epI) (by decide) rfl rfl))))))) hv2)))) hv3) (fun _ => ?_) (fun _ => ?_)
  · exact sg_retS (o := (.fz (eB false))) (ev_c (x := eB false)) (fun e => ⟨e, rfl⟩)
  · refine sg_skip ?_
    refine sg_bind fun v5 hv5 => ?_
    exact sg_retS (o := (.fz (eB (decide (v5 = ([] : List Int)))))) (asO (.st (.fz (eB (decide (v5 = ([] : List Int)))))) (ev_bin (asO (.st (.ol (List.map eI v5))) (ev_lc (e := eI) (d := eI) (tc := fun x1 => (T__law_whole x1).bind fun v4 => some (!v4)) (te := fun x1 => some x1) (items := p_found) (ci_items (e := eI) (xs := p_found) (ev_varF (x := (eT eI) p_found) rfl) sb_st (.inr rfl)) (fun x1 => ⟨_, rfl, (oe_bind fun v4 hv4 => (oe_id (ev_notT (ev_test (asO (.st (.fz (eB v4))) (ev_callA (ev_cons (ev_varF (x := eI x1) rfl) ev_nil) (as := [eI x1]) rfl (sm__law_whole hv4) (.inl rfl))))))), (oe_ret (ev_varF (x := eI x1) rfl))⟩) (.inl (afz_F (afz_F (afz_F (afz_F (afz_F (afz_N afz_nil))))))) hv5)) (asO (.st (.ol (List.map eI ([] : List Int)))) (ev_list ev_nil (Nat.le_of_ble_eq_true rfl) rfl)) (t_eq (e := (eL eI)) (a := v5) (b := ([] : List Int)) (epL epI) (by decide) rfl rfl))) (fun e => ⟨e, rfl⟩)
noncomputable def T_law_b1 (v1 : ((List (List Chr)) × (List (Option Int)))) (v3 : (List Chr)) (x1 : (List Int)) (x2 : Int) (s2 : (List NK)) : Option (List NK) :=
  (atI v1.1 x2).bind fun v7 => (T__law_row_of v3 v7 x1).bind fun v8 => (putNG s2 (x2, v8)).bind fun v9 => some v9
noncomputable def T_law_b2 (v1 : ((List (List Chr)) × (List (Option Int)))) (v3 : (List Chr)) (x1 : (List Int)) (s1 : ((List (List Int × Bool)) × (List NK))) : Option ((List (List Int × Bool)) × (List NK)) :=
  (putG s1.1 x1 true).bind fun v5 => (rangeG (v1.1.length : Int)).bind fun v6 => (forT (T_law_b1 v1 v3 x1) v6 s1.2).bind fun s3 => some (v5, s3)
noncomputable def T_law_b3 (v1 : ((List (List Chr)) × (List (Option Int)))) (v2 : (List (List (List Int)))) (v3 : (List Chr)) (s4 : ((List (List Int × Bool)) × (List NK))) (x3 : Int) (x4 : (List Int)) (s6 : Unit) : Option (Ctl Unit Bool) :=
  (T_through v1.1 v2 v1.2 x3 x4).bind fun v12 => (if (!(decide ((x3, x4) ∈ s4.2))) then (if v12.isSome then some (.rt false) else some (.nx ())) else (v12).bind fun v13 => (atI v1.1 x3).bind fun v14 => (T__law_right v13 v3 v14 x4 s4.1).bind fun v15 => (if (!v15) then some (.rt false) else some (.nx ())))
noncomputable def T_law_b4 (v1 : ((List (List Chr)) × (List (Option Int)))) (v2 : (List (List (List Int)))) (v3 : (List Chr)) (s4 : ((List (List Int × Bool)) × (List NK))) (x3 : Int) (s5 : Unit) : Option (Ctl Unit Bool) :=
  (atI v2 x3).bind fun v11 => ((forC (T_law_b3 v1 v2 v3 s4 x3) v11 ())).bind (behind (fun r => (.rt r)) fun s7 => some (.nx ()))
noncomputable def T_law (p1 : (List Int)) : Option Bool :=
  (T__law_tree p1.sum).bind fun v1 => (T__law_rows v1.1 p1 p1.sum).bind fun v2 => (T__law_names v1.1).bind fun v3 => (T_answers v1.1 v2).bind fun v4 => (forT (T_law_b2 v1 v3) v4 (([] : (List (List Int × Bool))), ([] : List NK))).bind fun s4 => (rangeG (v1.1.length : Int)).bind fun v10 => ((forC (T_law_b4 v1 v2 v3 s4) v10 ())).bind (behind (fun r => r) fun s8 => (T__law_tree p1.sum).bind fun v16 => (if (decide ((v1.1, v1.2) = v16)) then (T__law_rows v1.1 p1 p1.sum).bind fun v17 => some (decide (v2 = v17)) else some false).bind fun v18 => some v18)
theorem sm_law {p1 : (List Int)} {v : Bool} (hv : T_law p1 = some v) : ∃ env, D_law (law0 13 p1) = .ok (.rt (.fz (.bl v)) env) := by
  have key : SG (D_law (law0 13 p1)) (T_law p1) (PR (oF eB)) := by
    unfold T_law D_law
    refine sg_env (e2 := [none, some (.ol (List.map eI p1)), none, none, none, none, none, none, none, none, none, none, none]) rfl ?_
    refine sg_one ?_
    refine sg_assoc ?_
    refine sg_iceS ?_
    refine sg_ice (o := (.ol (List.map eI p1))) (x := (eL eI) p1) rfl rfl ?_
    refine sg_set (o := (.fz (eI p1.sum))) (asO (.st (.fz (eI p1.sum))) (ev_callB (ev_cons (ev_varF (x := (eL eI) p1) rfl) ev_nil) (t_sum (xs := p1) (.inr rfl)))) ?_
    refine sg_assoc ?_
    refine sg_bind fun v1 hv1 => ?_
    refine sg_asgT (asO (.st (.fz ((eP (eL (eZ eC)) (eL (eO eI))) v1))) (ev_frzX (asO (.st (.fz ((eP (eL (eZ eC)) (eL (eO eI))) v1))) (ev_callA (ev_cons (ev_varF (x := eI p1.sum) rfl) ev_nil) (as := [eI p1.sum]) rfl (sm__law_tree hv1) (.inl rfl))) rfl)) rfl ?_
    refine sg_assoc ?_
    refine sg_bind fun v2 hv2 => ?_
    refine sg_set (o := (.ol (List.map (eL (eT eI)) v2))) (asO (.st (.ol (List.map (eL (eT eI)) v2))) (ev_callA (ev_cons (ev_varF (x := (eL (eZ eC)) v1.1) rfl) (ev_cons (ev_varF (x := (eL eI) p1) rfl) (ev_cons (ev_varF (x := eI p1.sum) rfl) ev_nil))) (as := [(eL (eZ eC)) v1.1, (eL eI) p1, eI p1.sum]) rfl (sm__law_rows hv2) (.inl rfl))) ?_
    refine sg_assoc ?_
    refine sg_iceS ?_
    refine sg_ice (o := (.ol (List.map (eL (eT eI)) v2))) (x := (eL (eL (eT eI))) v2) rfl rfl ?_
    refine sg_bind fun v3 hv3 => ?_
    refine sg_set (o := (.ol (List.map eC v3))) (asO (.st (.ol (List.map eC v3))) (ev_callA (ev_cons (ev_varF (x := (eL (eZ eC)) v1.1) rfl) ev_nil) (as := [(eL (eZ eC)) v1.1]) rfl (sm__law_names hv3) (.inl rfl))) ?_
    refine sg_assoc ?_
    refine sg_iceS ?_
    refine sg_ice (o := (.ol (List.map eC v3))) (x := (eL eC) v3) rfl rfl ?_
    refine sg_set (o := (.oT (List.map (fun p : List Int × Bool => (p.1.map kI, eB p.2)) ([] : (List (List Int × Bool)))))) (asO (.st (.oT (List.map (fun p : List Int × Bool => (p.1.map kI, eB p.2)) ([] : (List (List Int × Bool)))))) rfl) ?_
    refine sg_assoc ?_
    refine sg_set (o := (.oN ([] : List NK))) (asO (.st (.oN ([] : List NK))) ev_newN) ?_
    refine sg_assoc ?_
    refine sg_bind fun v4 hv4 => ?_
    refine sg_seq (sg_for (eA := (eT eI)) (fun (s1 : ((List (List Int × Bool)) × (List NK))) (e : VEnv) => ∃ j1 j2 : Option OV, e = [none, some (.fz ((eL eI) p1)), some (.fz (eI p1.sum)), some (.fz ((eL (eZ eC)) v1.1)), some (.fz ((eL (eO eI)) v1.2)), some (.fz ((eL (eL (eT eI))) v2)), some (.fz ((eL eC) v3)), some (.oT (List.map (fun p : List Int × Bool => (p.1.map kI, eB p.2)) s1.1)), some (.oN s1.2), j1, j2, none, none]) (tb := (T_law_b2 v1 v3)) (it_items (e := (eT eI)) (xs := v4) (.inl (asO (.st (.ol (List.map (eT eI) v4))) (ev_callA (ev_cons (ev_varF (x := (eL (eZ eC)) v1.1) rfl) (ev_cons (ev_varF (x := (eL (eL (eT eI))) v2) rfl) ev_nil)) (as := [(eL (eZ eC)) v1.1, (eL (eL (eT eI))) v2]) rfl (sm_answers hv4) (.inl rfl))))) ⟨_, _, rfl⟩ (fun x1 s1 e hE => ?_)) (fun s4 e hE => ?_)
    · obtain ⟨j1, j2, rfl⟩ := hE
      refine ⟨_, rfl, ?_⟩
      unfold T_law_b2
      refine sg_one ?_
      refine sg_assoc ?_
      refine sg_bind fun v5 hv5 => ?_
      refine sg_putD (kk := kI) (e := eB) (l := s1.1) (x := true) (a := x1) ekI rfl (ev_c (x := eB true)) (ev_varF (x := (eT eI) x1) rfl) rfl hv5 ?_
      refine sg_bind fun v6 hv6 => ?_
      refine sg_seq (sg_for (eA := eI) (fun (s2 : (List NK)) (e : VEnv) => ∃ j3 : Option OV, e = [none, some (.fz ((eL eI) p1)), some (.fz (eI p1.sum)), some (.fz ((eL (eZ eC)) v1.1)), some (.fz ((eL (eO eI)) v1.2)), some (.fz ((eL (eL (eT eI))) v2)), some (.fz ((eL eC) v3)), some (.oT (List.map (fun p : List Int × Bool => (p.1.map kI, eB p.2)) v5)), some (.oN s2), some (.fz ((eT eI) x1)), j3, none, none]) (tb := (T_law_b1 v1 v3 x1)) (it_range (asO (.st (.fz (eI (v1.1.length : Int)))) (ev_callB (ev_cons (ev_varF (x := (eL (eZ eC)) v1.1) rfl) ev_nil) (t_lenL (e := (eZ eC)) (xs := v1.1) (.inr (.inl rfl))))) hv6) ⟨_, rfl⟩ (fun x2 s2 e hE => ?_)) (fun s3 e hE => ?_)
      · obtain ⟨j3, rfl⟩ := hE
        refine ⟨_, rfl, ?_⟩
        unfold T_law_b1
        refine sg_one ?_
        refine sg_bind fun v7 hv7 => ?_
        refine sg_bind fun v8 hv8 => ?_
        refine sg_bind fun v9 hv9 => ?_
        refine sg_putN (l := s2) (p := (x2, v8)) rfl (ev_c (x := eB true)) (asO (.st (.fz ((eP eI (eT eI)) (x2, v8)))) (ev_tup (ev_cons (ev_varF (x := eI x2) rfl) (ev_cons (asO (.st (.fz ((eT eI) v8))) (ev_frzX (asO (.st (.fz ((eT eI) v8))) (ev_callA (ev_cons (ev_varF (x := (eL eC) v3) rfl) (ev_cons (asO (.st (.fz ((eZ eC) v7))) (ev_frzX (asO (.st (.fz ((eZ eC) v7))) (ev_sub (ev_varF (x := (eL (eZ eC)) v1.1) rfl) (ev_varF (x := eI x2) rfl) rfl (t_atL (e := (eZ eC)) (xs := v1.1) (.inr (.inl rfl)) hv7))) rfl)) (ev_cons (ev_varF (x := (eT eI) x1) rfl) ev_nil))) (as := [(eL eC) v3, (eZ eC) v7, (eT eI) x1]) rfl (sm__law_row_of hv8) (.inl rfl))) rfl)) ev_nil)) (Nat.le_of_ble_eq_true rfl) rfl)) hv9 ?_
        exact sg_nx ⟨_, rfl⟩
      · obtain ⟨j4, rfl⟩ := hE
        exact sg_nx ⟨_, _, rfl⟩
    · obtain ⟨j5, j6, rfl⟩ := hE
      refine sg_assoc ?_
      refine sg_bind fun v10 hv10 => ?_
      refine sg_seqL (sg_forC (eA := eI) (fun (s5 : Unit) (e : VEnv) => ∃ j7 j8 j9 : Option OV, e = [none, some (.fz ((eL eI) p1)), some (.fz (eI p1.sum)), some (.fz ((eL (eZ eC)) v1.1)), some (.fz ((eL (eO eI)) v1.2)), some (.fz ((eL (eL (eT eI))) v2)), some (.fz ((eL eC) v3)), some (.oT (List.map (fun p : List Int × Bool => (p.1.map kI, eB p.2)) s4.1)), some (.oN s4.2), j5, j7, j8, j9]) (fun (s5 : Unit) (e : VEnv) => ∃ j7 j8 j9 : Option OV, e = [none, some (.fz ((eL eI) p1)), some (.fz (eI p1.sum)), some (.fz ((eL (eZ eC)) v1.1)), some (.fz ((eL (eO eI)) v1.2)), some (.fz ((eL (eL (eT eI))) v2)), some (.fz ((eL eC) v3)), some (.oT (List.map (fun p : List Int × Bool => (p.1.map kI, eB p.2)) s4.1)), some (.oN s4.2), j5, j7, j8, j9]) ((oF eB)) (tb := (T_law_b4 v1 v2 v3 s4)) (it_range (asO (.st (.fz (eI (v1.1.length : Int)))) (ev_callB (ev_cons (ev_varF (x := (eL (eZ eC)) v1.1) rfl) ev_nil) (t_lenL (e := (eZ eC)) (xs := v1.1) (.inr (.inl rfl))))) hv10) ⟨_, _, _, rfl⟩ (fun _ _ h => h) (fun x3 s5 e hE => ?_)) (fun r e => ⟨e, rfl⟩) (fun s8 e hE => ?_)
      · obtain ⟨j7, j8, j9, rfl⟩ := hE
        refine ⟨_, rfl, ?_⟩
        unfold T_law_b4
        refine sg_one ?_
        refine sg_bind fun v11 hv11 => ?_
        refine sg_seqL (sg_forC (eA := (eT eI)) (fun (s6 : Unit) (e : VEnv) => ∃ j10 j11 : Option OV, e = [none, some (.fz ((eL eI) p1)), some (.fz (eI p1.sum)), some (.fz ((eL (eZ eC)) v1.1)), some (.fz ((eL (eO eI)) v1.2)), some (.fz ((eL (eL (eT eI))) v2)), some (.fz ((eL eC) v3)), some (.oT (List.map (fun p : List Int × Bool => (p.1.map kI, eB p.2)) s4.1)), some (.oN s4.2), j5, some (.fz (eI x3)), j10, j11]) (fun (s6 : Unit) (e : VEnv) => ∃ j10 j11 : Option OV, e = [none, some (.fz ((eL eI) p1)), some (.fz (eI p1.sum)), some (.fz ((eL (eZ eC)) v1.1)), some (.fz ((eL (eO eI)) v1.2)), some (.fz ((eL (eL (eT eI))) v2)), some (.fz ((eL eC) v3)), some (.oT (List.map (fun p : List Int × Bool => (p.1.map kI, eB p.2)) s4.1)), some (.oN s4.2), j5, some (.fz (eI x3)), j10, j11]) ((oF eB)) (tb := (T_law_b3 v1 v2 v3 s4 x3)) (it_items (e := (eT eI)) (xs := v11) (.inl (asO (.st (.ol (List.map (eT eI) v11))) (ev_callB (ev_cons (asO (.st (.fz ((eL (eT eI)) v11))) (ev_sub (ev_varF (x := (eL (eL (eT eI))) v2) rfl) (ev_varF (x := eI x3) rfl) rfl (t_atL (e := (eL (eT eI))) (xs := v2) (.inr (.inl rfl)) hv11))) ev_nil) (t_list (e := (eT eI)) (xs := v11) (.inr (.inl rfl))))))) ⟨_, _, rfl⟩ (fun _ _ h => h) (fun x4 s6 e hE => ?_)) (fun r e => ⟨e, rfl⟩) (fun s7 e hE => ?_)
        · obtain ⟨j10, j11, rfl⟩ := hE
          refine ⟨_, rfl, ?_⟩
          unfold T_law_b3
          refine sg_one ?_
          refine sg_assoc ?_
          refine sg_bind fun v12 hv12 => ?_
          refine sg_set (o := (.fz ((eO (eT eI)) v12))) (asO (.st (.fz ((eO (eT eI)) v12))) (ev_callA (ev_cons (ev_varF (x := (eL (eZ eC)) v1.1) rfl) (ev_cons (ev_varF (x := (eL (eL (eT eI))) v2) rfl) (ev_cons (ev_varF (x := (eL (eO eI)) v1.2) rfl) (ev_cons (ev_varF (x := eI x3) rfl) (ev_cons (ev_varF (x := (eT eI) x4) rfl) ev_nil))))) (as := [(eL (eZ eC)) v1.1, (eL (eL (eT eI))) v2, (eL (eO eI)) v1.2, eI x3, (eT eI) x4]) rfl (sm_through hv12) (.inl rfl))) ?_
          refine sg_iceS ?_
          refine sg_iceF rfl ?_
          refine sg_ifs (ev_test (asO (.st (.fz (eB (!(decide ((x3, x4) ∈ s4.2)))))) (ev_bin (asO (.st (.fz ((eP eI (eT eI)) (x3, x4)))) (ev_tup (ev_cons (ev_varF (x := eI x3) rfl) (ev_cons (ev_varF (x := (eT eI) x4) rfl) ev_nil)) (Nat.le_of_ble_eq_true rfl) rfl)) (ev_varO (o := (.oN s4.2)) rfl rfl) (t_noN (l := s4.2) (p := (x3, x4)) (.inl rfl))))) (fun _ => ?_) (fun _ => ?_)
          · refine sg_ifs (ev_test (asO (.st (.fz (eB v12.isSome))) (ev_un (ev_varF (x := (eO (eT eI)) v12) rfl) (t_notN (e := (eT eI)) (v := v12) nnT rfl)))) (fun _ => ?_) (fun _ => ?_)
            · exact sg_retS (o := (.fz (eB false))) (ev_c (x := eB false)) (fun e => ⟨e, rfl⟩)
            · refine sg_skip ?_
              exact sg_of rfl ⟨_, rfl, ⟨_, _, rfl⟩⟩
          · refine sg_bind fun v13 hv13 => ?_
            refine sg_bind fun v14 hv14 => ?_
            refine sg_bind fun v15 hv15 => ?_
            refine sg_ifs (ev_notT (ev_test (asO (.st (.fz (eB v15))) (ev_callA (ev_cons (unO (e := (eT eI)) (v := v12) (ev_varF (x := (eO (eT eI)) v12) rfl) hv13) (ev_cons (ev_varF (x := (eL eC) v3) rfl) (ev_cons (asO (.st (.fz ((eZ eC) v14))) (ev_frzX (asO (.st (.fz ((eZ eC) v14))) (ev_sub (ev_varF (x := (eL (eZ eC)) v1.1) rfl) (ev_varF (x := eI x3) rfl) rfl (t_atL (e := (eZ eC)) (xs := v1.1) (.inr (.inl rfl)) hv14))) rfl)) (ev_cons (ev_varF (x := (eT eI) x4) rfl) (ev_cons (ev_varO (o := (.oT (List.map (fun p : List Int × Bool => (p.1.map kI, eB p.2)) s4.1))) rfl rfl) ev_nil))))) (as := [(eT eI) v13, (eL eC) v3, (eZ eC) v14, (eT eI) x4, (eD kI eB) s4.1]) rfl (sm__law_right hv15) (.inr (clean_F puB _)))))) (fun _ => ?_) (fun _ => ?_)
            · exact sg_retS (o := (.fz (eB false))) (ev_c (x := eB false)) (fun e => ⟨e, rfl⟩)
            · refine sg_skip ?_
              exact sg_of rfl ⟨_, rfl, ⟨_, _, rfl⟩⟩
        · obtain ⟨j12, j13, rfl⟩ := hE
          exact sg_of rfl ⟨_, rfl, ⟨_, _, _, rfl⟩⟩
      · obtain ⟨j14, j15, j16, rfl⟩ := hE
        refine sg_bind fun v16 hv16 => ?_
        refine sg_bind fun v18 hv18 => ?_
        exact sg_retS (o := (.fz (eB v18))) (ev_andVO (asO (.st (.fz (eB (decide ((v1.1, v1.2) = v16))))) (ev_bin (asO (.st (.fz ((eP (eL (eZ eC)) (eL (eO eI))) (v1.1, v1.2)))) (ev_tup (ev_cons (ev_varF (x := (eL (eZ eC)) v1.1) rfl) (ev_cons (ev_varF (x := (eL (eO eI)) v1.2) rfl) ev_nil)) (Nat.le_of_ble_eq_true rfl) rfl)) (asO (.st (.fz ((eP (eL (eZ eC)) (eL (eO eI))) v16))) (ev_callA (ev_cons (ev_varF (x := eI p1.sum) rfl) ev_nil) (as := [eI p1.sum]) rfl (sm__law_tree hv16) (.inl rfl))) (t_eq (e := (eP (eL (eZ eC)) (eL (eO eI)))) (a := (v1.1, v1.2)) (b := v16) (epP (epL (epZ epC)) (epL (epO epI nnI))) (by decide) rfl rfl))) (fun _ => (oe_bind fun v17 hv17 => (oe_ret (asO (.st (.fz (eB (decide (v2 = v17))))) (ev_bin (ev_varF (x := (eL (eL (eT eI))) v2) rfl) (asO (.st (.ol (List.map (eL (eT eI)) v17))) (ev_callA (ev_cons (ev_varF (x := (eL (eZ eC)) v1.1) rfl) (ev_cons (ev_varF (x := (eL eI) p1) rfl) (ev_cons (ev_varF (x := eI p1.sum) rfl) ev_nil))) (as := [(eL (eZ eC)) v1.1, (eL eI) p1, eI p1.sum]) rfl (sm__law_rows hv17) (.inl rfl))) (t_eq (e := (eL (eL (eT eI)))) (a := v2) (b := v17) (epL (epL (epT epI))) (by decide) rfl rfl)))))) hv18) (fun e => ⟨e, rfl⟩)
  obtain ⟨so, h1, e, rfl⟩ := key v hv
  exact ⟨e, h1⟩
theorem mulGr {i j : Int} (h : j.natAbs < 2 ^ 62) : mulG i j = some (i * j) := if_pos (mulR h)
theorem mulGl {i j : Int} (h : i.natAbs < 2 ^ 62) : mulG i j = some (i * j) := if_pos (mulL h)
theorem mix_ok (c j : Int) (h0 : 0 ≤ j) (h1 : j ≤ 1000) : ∃ v, T__law_mix c j = some v ∧ 0 ≤ v := by
  unfold T__law_mix
  split
  · refine ⟨_, by rw [show shrG c (1 + 20 * j) = some _ from if_pos (by omega), bindS], by omega⟩
  · rw [mulGr (by omega), bindS, mulGr (by omega), bindS, mulGr (by omega), bindS]
    exact ⟨_, rfl, by omega⟩
theorem nat_of {z : Int} (h : 0 ≤ z) : z = ((z.toNat : Nat) : Int) := (Int.toNat_of_nonneg h).symm
theorem popN {α : Type} {xs ys : List α} {k : Int} {m : Nat} (e : k = (m : Int)) (hm : m < ys.length) (hx : xs.length ≤ 100000) (hy : ys.length ≤ 100000) : popG xs ys k = some (xs ++ [ys[m]], ys.eraseIdx m) := by
  unfold popG
  rw [if_pos ⟨bigT hx, bigL hy⟩]
  have : ixN ys.length k = some m := by
    unfold ixN
    rw [e, if_pos (by omega), if_pos (by omega), Int.toNat_natCast]
  rw [this, bindS, List.getElem?_eq_getElem hm]
  rfl
theorem erase_perm {α : Type} : ∀ {l : List α} {m : Nat} (h : m < l.length), (l[m] :: l.eraseIdx m).Perm l
  | x :: l, 0, _ => .refl _
  | x :: l, m + 1, h => by
    have hh : m < l.length := by simpa using h
    have ih := erase_perm (l := l) (m := m) hh
    show (l[m] :: x :: l.eraseIdx m).Perm (x :: l)
    exact (List.Perm.swap _ _ _).trans (ih.cons x)
theorem atSN {s : List Chr} {i : Int} {n : Nat} (e : i = (n : Int)) (h : n < s.length) (hs : s.length ≤ 100000) : atS' s i = some (s[n]'h) := by
  unfold atS'
  rw [if_pos (bigL hs)]
  exact atN e h
def abcAt (n : Nat) : Chr := (Tcs_1[n]?).getD 0
theorem abc_len : Tcs_1.length = 26 := by decide
theorem abc_some {n : Nat} (h : n < 26) : Tcs_1[n]'(by rw [abc_len]; exact h) = abcAt n := by
  unfold abcAt
  rw [List.getElem?_eq_getElem (by rw [abc_len]; exact h)]
  rfl
theorem nodup6 : ∀ s : Nat, s < 26 → ∀ t ∈ [1, 3, 5, 7, 9, 11], ((List.range 6).map fun k => abcAt ((s + t * k) % 26)).Nodup := by decide +kernel
theorem step_ok {v : Int} (h : 0 ≤ v) : ∃ t ∈ [1, 3, 5, 7, 9, 11], atI ([(1 : Int), (3 : Int), (5 : Int), (7 : Int), (9 : Int), (11 : Int)] : List Int) (v % (6 : Int)) = some ((t : Nat) : Int) := by
  have e : v % 6 = (((v % 6).toNat : Nat) : Int) := nat_of (by omega)
  have hl : (v % 6).toNat < 6 := by omega
  generalize (v % 6).toNat = n at e hl
  match n, hl with
  | 0, _ => exact ⟨1, by decide, atQ e rfl⟩
  | 1, _ => exact ⟨3, by decide, atQ e rfl⟩
  | 2, _ => exact ⟨5, by decide, atQ e rfl⟩
  | 3, _ => exact ⟨7, by decide, atQ e rfl⟩
  | 4, _ => exact ⟨9, by decide, atQ e rfl⟩
  | 5, _ => exact ⟨11, by decide, atQ e rfl⟩
theorem pick_nodup {s t m : Nat} (hs : s < 26) (ht : t ∈ [1, 3, 5, 7, 9, 11]) (hm : m ≤ 6) : (((List.range m).map fun i => ((i : Nat) : Int)).map fun x => abcAt ((((s : Nat) : Int) + ((t : Nat) : Int) * x) % 26).toNat).Nodup := by
  rw [List.map_map]
  have e : (List.range m).map ((fun x : Int => abcAt ((((s : Nat) : Int) + ((t : Nat) : Int) * x) % 26).toNat) ∘ fun i => ((i : Nat) : Int)) = (List.range m).map fun k => abcAt ((s + t * k) % 26) := by
    refine List.map_congr_left fun k _ => ?_
    show abcAt ((((s : Nat) : Int) + ((t : Nat) : Int) * ((k : Nat) : Int)) % 26).toNat = _
    congr 1
  rw [e]
  have hsub : (List.range m).Sublist (List.range 6) := by
    have : List.range 6 = List.range m ++ (List.range (6 - m)).map (m + ·) := by rw [← List.range_add, show m + (6 - m) = 6 by omega]
    rw [this]
    exact List.sublist_append_left _ _
  exact (nodup6 s hs t ht).sublist (hsub.map _)
theorem letter_at {s t : Nat} {x : Int} (ht : t ∈ [1, 3, 5, 7, 9, 11]) : (mulG ((t : Nat) : Int) x).bind (fun v6 => (atS' Tcs_1 ((((s : Nat) : Int) + v6) % (26 : Int))).bind fun v7 => some v7) = some (abcAt ((((s : Nat) : Int) + ((t : Nat) : Int) * x) % 26).toNat) := by
  have ht' : t ≤ 11 := by simp at ht; omega
  rw [mulGl (by omega), bindS]
  have e := nat_of (z := (((s : Nat) : Int) + ((t : Nat) : Int) * x) % 26) (by omega)
  have hl : ((((s : Nat) : Int) + ((t : Nat) : Int) * x) % 26).toNat < 26 := by omega
  rw [atSN e (by rw [abc_len]; exact hl) (by decide), bindS, abc_some hl]
/-! letters of a shape, an order -/
theorem keys_loop {f1 : Chr → List (Chr × Bool) → Option (List (Chr × Bool))} {f2 : List Chr → List (Chr × Bool) → Option (List (Chr × Bool))} (h1 : ∀ x l, l.length ≤ 1000 → f1 x l = some (putKV l x true)) (h2 : ∀ d l, f2 d l = forT f1 d l) :
    ∀ {ds : List (List Chr)} {l : List (Chr × Bool)}, l.length + (ds.map List.length).sum ≤ 1000 → (l.map (·.1)).Nodup → ∃ l', forT f2 ds l = some l' ∧ (∀ c, c ∈ l'.map (·.1) ↔ c ∈ l.map (·.1) ∨ ∃ d ∈ ds, c ∈ d) ∧ (l'.map (·.1)).Nodup ∧ l'.length ≤ l.length + (ds.map List.length).sum
  | [], l, _, hn => ⟨l, rfl, fun c => by simp, hn, by simp⟩
  | d :: ds, l, hl, hn => by
    rw [List.map_cons, List.sum_cons] at hl
    obtain ⟨l1, a1, a2, a3, a4⟩ := forT_keys (f := f1) (k := id) (v := fun _ => true) (N := 1000) (by decide) (xs := d) (l := l) (fun x _ l hl => h1 x l hl) (by omega) hn
    obtain ⟨l2, b1, b2, b3, b4⟩ := keys_loop h1 h2 (ds := ds) (l := l1) (by omega) a3
    refine ⟨l2, ?_, fun c => ?_, b3, by rw [List.map_cons, List.sum_cons]; omega⟩
    · unfold forT
      rw [h2, a1, bindS]
      exact b1
    · rw [b2, a2, List.map_id]
      constructor
      · rintro ((h | h) | ⟨e, he, h⟩)
        · exact .inl h
        · exact .inr ⟨d, List.mem_cons_self, h⟩
        · exact .inr ⟨e, List.mem_cons_of_mem _ he, h⟩
      · rintro (h | ⟨e, he, h⟩)
        · exact .inl (.inl h)
        · rcases List.mem_cons.mp he with rfl | he
          · exact .inl (.inr h)
          · exact .inr ⟨e, he, h⟩
theorem sum_len {ds : List (List Chr)} (h6 : ds.length ≤ 6) (hd : ∀ d ∈ ds, d.length ≤ 4) : (ds.map List.length).sum ≤ 24 := by
  have : ∀ (l : List (List Chr)), (∀ d ∈ l, d.length ≤ 4) → (l.map List.length).sum ≤ 4 * l.length := fun l => by
    induction l with
    | nil => intro _; exact Nat.le_refl _
    | cons d l ih =>
      intro h
      have a := ih fun e he => h e (List.mem_cons_of_mem _ he)
      have b := h d List.mem_cons_self
      rw [List.map_cons, List.sum_cons, List.length_cons]
      omega
  have := this ds hd
  omega
theorem nodup_le {α : Type} [DecidableEq α] : ∀ {a b : List α}, a.Nodup → (∀ x ∈ a, x ∈ b) → a.length ≤ b.length
  | [], _, _, _ => Nat.zero_le _
  | x :: a, b, hn, h => by
    rw [List.nodup_cons] at hn
    have hx : x ∈ b := h x (List.mem_cons_self)
    have := nodup_le (a := a) (b := b.erase x) hn.2 fun y hy => (List.mem_erase_of_ne (fun e => hn.1 (by rw [← e]; exact hy))).mpr (h y (List.mem_cons_of_mem _ hy))
    rw [List.length_erase_of_mem hx] at this
    have := List.length_pos_of_mem hx
    rw [List.length_cons]
    omega
/-- the letters by the alphabet -/
theorem letters_srt {l : List (Chr × Bool)} (hn : (l.map (·.1)).Nodup) (hl : l.length ≤ 1000) : ∃ ks, srt eC (l.map (·.1)) = some ks ∧ ks.Pairwise (· < ·) ∧ ∀ c, c ∈ ks ↔ c ∈ l.map (·.1) := by
  obtain ⟨ks, a, b, c⟩ := srtC_ok (l := l.map (·.1)) (by rw [List.length_map]; omega)
  exact ⟨ks, a, strictC c (b.nodup_iff.mpr hn), fun c => b.mem_iff⟩
theorem eraseIdx_len {α : Type} {l : List α} {n : Nat} (h : n < l.length) : (l.eraseIdx n).length + 1 = l.length := by
  rw [List.length_eraseIdx_of_lt h]; omega
/-! parts of answers -/
def atL (d : List Chr) (r : List Int) (l : Chr) : Int := (r[d.idxOf l]?).getD 0
/-- the cells of a row for those of some letters that it has -/
def cin (d : List Chr) (r : List Int) (some : List Chr) : List Int := (some.filter fun l => decide (l ∈ d)).map (atL d r)
theorem idxOf_lt {d : List Chr} {l : Chr} (h : l ∈ d) : d.idxOf l < d.length := List.idxOf_lt_length_iff.mpr h
theorem at_idx {d : List Chr} {r : List Int} {l : Chr} (hl : l ∈ d) (h : d.length ≤ r.length) : (idxT d l).bind (fun v1 => (atI r v1).bind fun v2 => some v2) = some (atL d r l) := by
  have h1 := idxOf_lt hl
  rw [idxM hl, bindS, atN rfl (by omega), bindS]
  unfold atL
  rw [List.getElem?_eq_getElem (by omega)]
  rfl
theorem letters_ok (c : Int) : ∃ cs, T__law_letters c = some cs ∧ cs.Nodup ∧ cs.length = 6 := by
  obtain ⟨v1, e1, g1⟩ := mix_ok c 1 (by decide) (by decide)
  obtain ⟨v2, e2, g2⟩ := mix_ok c 2 (by decide) (by decide)
  obtain ⟨t, ht, et⟩ := step_ok g2
  obtain ⟨s, es, hs⟩ : ∃ s : Nat, v1 % 26 = (s : Int) ∧ s < 26 := ⟨(v1 % 26).toNat, by omega, by omega⟩
  unfold T__law_letters
  rw [e1, bindS, e2, bindS, et, bindS, rangeN (n := 6) 6 rfl (by omega), bindS, es]
  rw [lcG_map (h := fun x => abcAt ((((s : Nat) : Int) + ((t : Nat) : Int) * x) % 26).toNat) (fun x _ => ⟨rfl, letter_at ht⟩) (by rw [List.length_map, List.length_range]; omega), bindS]
  exact ⟨_, rfl, pick_nodup hs ht (Nat.le_refl 6), by simp⟩
def dOf (ds : List (List Chr)) (j : Nat) : List Chr := (ds[j]?).getD []
theorem dOf_at {ds : List (List Chr)} {j : Nat} (h : j < ds.length) : ds[j]? = some (dOf ds j) := by
  unfold dOf
  rw [List.getElem?_eq_getElem h]
  rfl
theorem dOf_app {sh : List (List Chr)} {D : List Chr} {j : Nat} : dOf (sh ++ [D]) j = if j = sh.length then D else dOf sh j := by
  unfold dOf
  by_cases h : j < sh.length
  · rw [List.getElem?_append_left h, if_neg (by omega)]
  · by_cases e : j = sh.length
    · rw [if_pos e, e, List.getElem?_concat_length]
      rfl
    · rw [if_neg e, List.getElem?_eq_none (by rw [List.length_append, List.length_singleton]; omega), List.getElem?_eq_none (by omega)]
theorem dOf_mem {sh : List (List Chr)} {j : Nat} {l : Chr} (h : l ∈ dOf sh j) : j < sh.length ∧ dOf sh j ∈ sh := by
  by_cases hj : j < sh.length
  · exact ⟨hj, List.mem_of_getElem? (dOf_at hj)⟩
  · unfold dOf at h
    rw [List.getElem?_eq_none (by omega)] at h
    cases h
/-- patterns made one behind the other -/
structure Wk (cs : List Chr) (i : Nat) (fr : List Chr) (sh : List (List Chr)) (pa : List (Option Int)) : Prop where
  sl : sh.length = i
  pl : pa.length = i
  fn : fr.Nodup
  fc : ∀ x ∈ fr, x ∈ cs
  f0 : i = 0 → fr = cs
  hd : ∀ d ∈ sh, d.Nodup ∧ 1 ≤ d.length ∧ d.length ≤ 4 ∧ ∀ x ∈ d, x ∈ cs ∧ x ∉ fr
  p0 : ∀ j : Nat, pa[j]? = some none → j = 0
  p1 : 0 < i → pa[0]? = some none
  pp : ∀ (j : Nat) (z : Int), pa[j]? = some (some z) → ∃ p : Nat, z = p ∧ p < j
  ri : ∀ (j k : Nat) (l : Chr), k < j → j < i → l ∈ dOf sh j → l ∈ dOf sh k → ∃ p : Nat, pa[j]? = some (some (p : Int)) ∧ l ∈ dOf sh p
theorem grow_ok (c x : Int) (h0 : 0 ≤ x) (h1 : x ≤ 100) (fr S0 : List Chr) (hf : fr.length ≤ 1000) (hS : S0.length ≤ 4) : ∃ fr' tk, whileT (fun s3 : ((List Chr) × (List Chr)) => (if (!(decide (s3.1 = ([] : List Chr)))) then (T__law_mix c ((12 : Int) + x)).bind fun v15 => some (decide ((s3.2.length : Int) < ((1 : Int) + (v15 % (4 : Int))))) else some false).bind fun v16 => some v16) T__law_tree_b1 (fr, S0) = some (.nx (fr', S0 ++ tk)) ∧ fr = tk ++ fr' ∧ (S0 ++ tk).length ≤ 4 ∧ (fr' = [] ∨ S0 ++ tk ≠ []) := by
  obtain ⟨v, ev, gv⟩ := mix_ok c (12 + x) (by omega) (by omega)
  obtain ⟨r, q1, ⟨f2, s2⟩, q2, tk, q3, q4, q5, q6⟩ := whileT_inv (c := fun s3 : ((List Chr) × (List Chr)) => (if (!(decide (s3.1 = ([] : List Chr)))) then (T__law_mix c ((12 : Int) + x)).bind fun v15 => some (decide ((s3.2.length : Int) < ((1 : Int) + (v15 % (4 : Int))))) else some false).bind fun v16 => some v16) (f := T__law_tree_b1)
    (I := fun n s => n = s.1.length ∧ ∃ tk, s.2 = S0 ++ tk ∧ fr = tk ++ s.1 ∧ s.2.length ≤ 4) (Q := fun r => ∃ s : List Chr × List Chr, r = .nx s ∧ ∃ tk, s.2 = S0 ++ tk ∧ fr = tk ++ s.1 ∧ s.2.length ≤ 4 ∧ (s.1 = [] ∨ s.2 ≠ []))
    (fun n s ⟨en, tk, h1, h2, h3⟩ => by
      obtain ⟨f, so⟩ := s
      simp only at en h1 h2 h3
      cases f with
      | nil => exact .inl ⟨rfl, _, rfl, tk, h1, h2, h3, .inl rfl⟩
      | cons y f =>
        have ec : (!(decide ((y :: f) = ([] : List Chr)))) = true := by simp
        simp only [ec, if_true, ev, bindS]
        by_cases hc : (so.length : Int) < 1 + v % 4
        · refine .inr ⟨by rw [decide_eq_true hc], .inl ⟨(f, so ++ [y]), f.length, ?_, by rw [en]; simp, rfl, tk ++ [y], by rw [h1, List.append_assoc], by rw [h2, List.append_assoc]; rfl, by rw [List.length_append, List.length_singleton]; omega⟩⟩
          have hlen : (y :: f).length ≤ 1000 := by rw [h2, List.length_append] at hf; omega
          unfold T__law_tree_b1
          rw [show popG (y :: f, so).2 (y :: f, so).1 0 = some (so ++ [y], f) from popN (k := 0) (m := 0) (xs := so) (ys := y :: f) rfl (by simp) (by omega) (by omega), bindS]
        · refine .inl ⟨by rw [decide_eq_false hc], _, rfl, tk, h1, h2, h3, .inr fun e => ?_⟩
          simp only at e
          rw [e] at hc
          simp at hc
          omega) fr.length (fr, S0) ⟨rfl, [], by simp, rfl, hS⟩
  subst q2
  simp only at q3 q4 q5 q6
  subst q3
  exact ⟨f2, tk, q1, q4, q5, q6⟩
/-- some letters of a pattern -/
theorem pick_ok (c x : Int) (h0 : 0 ≤ x) (h1 : x ≤ 10) (d : List Chr) (hd : d.length ≤ 4) : ∃ e : List Chr, lcG (fun x2 : Int => (T__law_mix c (((20 : Int) + ((4 : Int) * x)) + x2)).bind fun v11 => some (decide ((v11 % (2 : Int)) = (1 : Int)))) (fun x2 => (atI d x2).bind fun v12 => some v12) ((List.range d.length).map fun i => ((i : Nat) : Int)) = some e ∧ e.Sublist d := by
  have hb : ∀ x2 : Int, ∃ b : Bool, 0 ≤ x2 → x2 ≤ 10 → (T__law_mix c (((20 : Int) + ((4 : Int) * x)) + x2)).bind (fun v11 => some (decide ((v11 % (2 : Int)) = (1 : Int)))) = some b := fun x2 => by
    by_cases hx : 0 ≤ x2 ∧ x2 ≤ 10
    · obtain ⟨v, ev, _⟩ := mix_ok c (20 + 4 * x + x2) (by omega) (by omega)
      exact ⟨_, fun _ _ => by rw [ev]; rfl⟩
    · exact ⟨true, fun a b => absurd ⟨a, b⟩ hx⟩
  let b : Int → Bool := fun x2 => Classical.choose (hb x2)
  have hbs : ∀ x2, 0 ≤ x2 → x2 ≤ 10 → _ = some (b x2) := fun x2 => Classical.choose_spec (hb x2)
  refine ⟨_, lcG_ok (p := b) (h := fun x2 => (d[x2.toNat]?).getD 0) (fun x2 hx => ?_) (by simp; omega), ?_⟩
  · obtain ⟨j, hj, rfl⟩ := List.mem_map.mp hx
    have hj := List.mem_range.mp hj
    exact ⟨hbs _ (by omega) (by omega), fun _ => by rw [atN rfl hj, bindS, Int.toNat_natCast, List.getElem?_eq_getElem hj]; rfl⟩
  · have e : ((List.range d.length).map fun i => ((i : Nat) : Int)).map (fun x2 => (d[x2.toNat]?).getD 0) = d := by
      refine List.ext_getElem (by simp) fun i h1 h2 => ?_
      simp [List.getElem?_eq_getElem h2]
    have h := (List.filter_sublist (p := b) (l := (List.range d.length).map fun i => ((i : Nat) : Int))).map fun x2 => (d[x2.toNat]?).getD 0
    rw [e] at h
    exact h
theorem tree_step (c : Int) (cs : List Chr) (hcs : cs.Nodup) (c6 : cs.length = 6) {i : Nat} (hi : i < 6) {fr : List Chr} {sh : List (List Chr)} {pa : List (Option Int)} (W : Wk cs i fr sh pa) : ∃ fr' sh' pa', T__law_tree_b2 c (i : Int) (fr, sh, pa) = some (fr', sh', pa') ∧ Wk cs (i + 1) fr' sh' pa' := by
  have fl : fr.length ≤ 6 := by
    have := nodup_le W.fn W.fc
    omega
  -- the parent and what is taken of it
  obtain ⟨q, S0, e1, q1, q2, q3, q4⟩ : ∃ (q : Option Int) (S0 : List Chr), ((if (decide ((0 : Int) < (i : Int))) then (T__law_mix c ((4 : Int) + (i : Int))).bind fun v4 => (modG v4 (i : Int)).bind fun v5 => (appG pa (some v5)).bind fun v6 => (atI v6 (i : Int)).bind fun v7 => (v7).bind fun v8 => (atI sh v8).bind fun v9 => (rangeG (v9.length : Int)).bind fun v10 => (lcG (fun x2 : Int => (T__law_mix c (((20 : Int) + ((4 : Int) * (i : Int))) + x2)).bind fun v11 => some (decide ((v11 % (2 : Int)) = (1 : Int)))) (fun x2 => (atI v9 x2).bind fun v12 => some v12) v10).bind fun v13 => some (v6, (cutF v13 none (some (3 : Int)))) else (appG pa none).bind fun v14 => some (v14, ([] : List Chr))) : Option ((List (Option Int)) × (List Chr))) = some (pa ++ [q], S0) ∧ S0.Nodup ∧ S0.length ≤ 4 ∧ (q = none ↔ i = 0) ∧ (∀ z, q = some z → ∃ p : Nat, z = p ∧ p < i ∧ ∀ x ∈ S0, x ∈ dOf sh p) ∧ (q = none → S0 = []) := by
    by_cases h0 : 0 < i
    · obtain ⟨v4, e4, g4⟩ := mix_ok c (4 + (i : Int)) (by omega) (by omega)
      obtain ⟨p, ep, hp⟩ : ∃ p : Nat, v4 % (i : Int) = (p : Int) ∧ p < i := by
        have a := Int.emod_nonneg v4 (show (i : Int) ≠ 0 by omega)
        have b := Int.emod_lt_of_pos v4 (show (0 : Int) < i by omega)
        exact ⟨(v4 % (i : Int)).toNat, by omega, by omega⟩
      have ps : p < sh.length := by rw [W.sl]; exact hp
      obtain ⟨d1, d2, d3, d4⟩ := W.hd _ (List.mem_of_getElem? (dOf_at ps))
      obtain ⟨e, ee, es⟩ := pick_ok c (i : Int) (by omega) (by omega) (dOf sh p) d3
      refine ⟨some (p : Int), e.take 3, ?_, ?_, ?_, ⟨fun h => (nomatch h), fun h => by omega⟩, fun z hz => ?_, fun h => (nomatch h)⟩
      · rw [if_pos (decide_eq_true (by omega)), e4, bindS, modN (by omega), bindS, ep, appN (by rw [W.pl]; omega), bindS, atQ (n := i) rfl (x := some (p : Int)) (by rw [← W.pl, List.getElem?_concat_length]), bindS, bindS, atQ rfl (dOf_at ps), bindS, rangeN (dOf sh p).length rfl (by omega), bindS, ee, bindS, cut_none (i := 3) (n := 3) rfl]
      · exact (List.Nodup.sublist es d1).sublist (List.take_sublist _ _)
      · rw [List.length_take]; omega
      · cases hz
        exact ⟨p, rfl, hp, fun x hx => es.subset (List.mem_of_mem_take hx)⟩
    · have i0 : i = 0 := by omega
      subst i0
      exact ⟨none, [], by rw [if_neg (by simp), appN (by rw [W.pl]; omega)]; rfl, List.nodup_nil, by simp, ⟨fun _ => rfl, fun _ => rfl⟩, fun z h => (nomatch h), fun _ => rfl⟩
  obtain ⟨q4, q5⟩ := q4
  obtain ⟨fr', tk, e2, r1, r2, r3⟩ := grow_ok c (i : Int) (by omega) (by omega) fr S0 (by omega) q2
  have at_i : (pa ++ [q])[i]? = some q := by rw [← W.pl, List.getElem?_concat_length]
  have fnd : (tk ++ fr').Nodup := by rw [← r1]; exact W.fn
  obtain ⟨n1, n2, n3⟩ := List.nodup_append.mp fnd
  -- what is taken is new, or the parent's
  have S0p : ∀ x ∈ S0, ∃ p : Nat, q = some (p : Int) ∧ p < i ∧ x ∈ dOf sh p := fun x hx => by
    cases hq : q with
    | none => rw [q5 hq] at hx; cases hx
    | some z =>
      obtain ⟨p, rfl, a, b⟩ := q4 z hq
      exact ⟨p, rfl, a, b x hx⟩
  have pfr : ∀ p x, p < i → x ∈ dOf sh p → x ∉ fr ∧ x ∈ cs := fun p x hp hx => by
    obtain ⟨_, _, _, h⟩ := W.hd _ (dOf_mem hx).2
    exact ⟨(h x hx).2, (h x hx).1⟩
  obtain ⟨D, e3, D1, D2, D3, D4⟩ : ∃ D : List Chr, ((if (decide ((S0 ++ tk) = ([] : List Chr))) then (atI (pa ++ [q]) (i : Int)).bind fun v18 => (v18).bind fun v19 => (atI sh v19).bind fun v20 => (atI v20 (0 : Int)).bind fun v21 => some ([v21] : List Chr) else some (S0 ++ tk)) : Option (List Chr)) = some D ∧ D.Nodup ∧ 1 ≤ D.length ∧ D.length ≤ 4 ∧ ∀ x ∈ D, (x ∈ fr ∧ x ∉ fr') ∨ ∃ p : Nat, q = some (p : Int) ∧ p < i ∧ x ∈ dOf sh p := by
    by_cases h : S0 ++ tk = []
    · rw [if_pos (decide_eq_true h)]
      have htk : tk = [] := (List.append_eq_nil_iff.mp h).2
      have hf : fr = [] := by
        rw [r1, htk, r3.resolve_right (fun z => z h)]
        rfl
      have i0 : i ≠ 0 := fun z => by
        have := W.f0 z
        rw [hf] at this
        rw [← this] at c6
        simp at c6
      cases hq : q with
      | none => exact absurd (q3.mp hq) i0
      | some z =>
        obtain ⟨p, rfl, a, b⟩ := q4 z hq
        have ps : p < sh.length := by rw [W.sl]; exact a
        obtain ⟨d1, d2, d3, d4⟩ := W.hd _ (List.mem_of_getElem? (dOf_at ps))
        rw [hq] at at_i
        have hl : 0 < (dOf sh p).length := by omega
        refine ⟨[(dOf sh p)[0]'hl], ?_, by simp, by simp, by simp, fun x hx => .inr ⟨p, rfl, a, ?_⟩⟩
        · rw [atQ rfl at_i, bindS, bindS, atQ rfl (dOf_at ps), bindS, atN (i := 0) (n := 0) rfl hl, bindS]
        · rw [List.mem_singleton.mp hx]
          exact List.getElem_mem _
    · rw [if_neg (by simpa using h)]
      refine ⟨S0 ++ tk, rfl, ?_, List.length_pos_iff.mpr h, r2, fun x hx => ?_⟩
      · rw [List.nodup_append]
        refine ⟨q1, n1, fun a ha b hb e => ?_⟩
        obtain ⟨p, _, hp, hx⟩ := S0p a ha
        exact (pfr p a hp hx).1 (by rw [r1, e]; exact List.mem_append_left _ hb)
      · rcases List.mem_append.mp hx with hx | hx
        · exact .inr (S0p x hx)
        · exact .inl ⟨by rw [r1]; exact List.mem_append_left _ hx, fun z => n3 x hx x z rfl⟩
  obtain ⟨v22, e22, _⟩ := mix_ok c (50 + (i : Int)) (by omega) (by omega)
  obtain ⟨E, e4, Em⟩ : ∃ E : List Chr, ((if (decide ((v22 % (2 : Int)) = (1 : Int))) then some (List.reverse D) else some D) : Option (List Chr)) = some E ∧ E.Perm D := by
    split
    · exact ⟨_, rfl, List.reverse_perm D⟩
    · exact ⟨_, rfl, .refl _⟩
  refine ⟨fr', sh ++ [E], pa ++ [q], ?_, ?_⟩
  · unfold T__law_tree_b2
    simp only
    rw [e1, bindS]
    simp only
    rw [e2, bindS]
    show (((if (decide ((S0 ++ tk) = ([] : List Chr))) then (atI (pa ++ [q]) (i : Int)).bind fun v18 => (v18).bind fun v19 => (atI sh v19).bind fun v20 => (atI v20 (0 : Int)).bind fun v21 => some ([v21] : List Chr) else some (S0 ++ tk)) : Option (List Chr)).bind fun s5 => _) = _
    rw [e3, bindS, e22, bindS, e4, bindS, appN (by rw [W.sl]; omega), bindS]
  · have frs : ∀ x ∈ fr', x ∈ fr := fun x hx => by rw [r1]; exact List.mem_append_right _ hx
    refine ⟨by rw [List.length_append, W.sl]; rfl, by rw [List.length_append, W.pl]; rfl, n2, fun x hx => W.fc x (frs x hx), fun h => by omega, fun d hd => ?_, fun j h => ?_, fun _ => ?_, fun j z h => ?_, fun j k l hk hj h1 h2 => ?_⟩
    · rcases List.mem_append.mp hd with hd | hd
      · obtain ⟨a, b, c', e⟩ := W.hd d hd
        exact ⟨a, b, c', fun x hx => ⟨(e x hx).1, fun z => (e x hx).2 (frs x z)⟩⟩
      · rw [List.mem_singleton.mp hd]
        refine ⟨Em.nodup_iff.mpr D1, by rw [Em.length_eq]; exact D2, by rw [Em.length_eq]; exact D3, fun x hx => ?_⟩
        rcases D4 x (Em.mem_iff.mp hx) with ⟨a, b⟩ | ⟨p, _, hp, hx⟩
        · exact ⟨W.fc x a, b⟩
        · exact ⟨(pfr p x hp hx).2, fun z => (pfr p x hp hx).1 (frs x z)⟩
    · by_cases hj : j < pa.length
      · rw [List.getElem?_append_left hj] at h
        exact W.p0 j h
      · have hl := (List.getElem?_eq_some_iff.mp h).1
        rw [List.length_append, List.length_singleton, W.pl] at hl
        rw [W.pl] at hj
        have : j = i := by omega
        subst this
        rw [at_i] at h
        cases h
        exact q3.mp rfl
    · by_cases h0 : 0 < i
      · rw [List.getElem?_append_left (by rw [W.pl]; exact h0)]
        exact W.p1 h0
      · have : i = 0 := by omega
        subst this
        rw [at_i, q3.mpr rfl]
    · by_cases hj : j < pa.length
      · rw [List.getElem?_append_left hj] at h
        exact W.pp j z h
      · have hl := (List.getElem?_eq_some_iff.mp h).1
        rw [List.length_append, List.length_singleton, W.pl] at hl
        rw [W.pl] at hj
        have : j = i := by omega
        subst this
        rw [at_i] at h
        obtain ⟨p, a, b, _⟩ := q4 z (Option.some.inj h)
        exact ⟨p, a, b⟩
    · rw [dOf_app, W.sl, if_neg (show k ≠ i by omega)] at h2
      by_cases hji : j = i
      · subst hji
        rw [dOf_app, W.sl, if_pos rfl] at h1
        rcases D4 l (Em.mem_iff.mp h1) with ⟨a, _⟩ | ⟨p, hq, hp, hx⟩
        · exact absurd a (pfr k l hk h2).1
        · exact ⟨p, by rw [at_i, hq], by rw [dOf_app, W.sl, if_neg (by omega)]; exact hx⟩
      · rw [dOf_app, W.sl, if_neg hji] at h1
        obtain ⟨p, a, b⟩ := W.ri j k l hk (by omega) h1 h2
        obtain ⟨p', e, hp'⟩ := W.pp j _ a
        refine ⟨p, by rw [List.getElem?_append_left (by rw [W.pl]; omega)]; exact a, by rw [dOf_app, W.sl, if_neg (by omega)]; exact b⟩
/-! cells of letters -/
theorem atL_map {so : List Chr} {f : Chr → Int} {l : Chr} (h : l ∈ so) : atL so (so.map f) l = f l := by
  unfold atL
  have := idxOf_lt h
  rw [List.getElem?_eq_getElem (by rw [List.length_map]; exact this), List.getElem_map, List.getElem_idxOf]
  rfl
theorem map_atL {so : List Chr} {t : List Int} (hn : so.Nodup) (hl : t.length = so.length) : so.map (atL so t) = t := by
  refine List.ext_getElem (by rw [List.length_map, hl]) fun i h1 h2 => ?_
  rw [List.getElem_map]
  unfold atL
  rw [hn.idxOf_getElem, List.getElem?_eq_getElem h2]
  rfl
theorem atL_ext {so : List Chr} {t u : List Int} (hn : so.Nodup) (h1 : t.length = so.length) (h2 : u.length = so.length) (h : ∀ l ∈ so, atL so t l = atL so u l) : t = u := by
  rw [← map_atL hn h1, ← map_atL hn h2]
  exact List.map_congr_left h
/-! trees of patterns: rows that agree along the tree are rows of answers -/
section tree
variable {m : Nat} {d : Nat → List Chr} {Par : Nat → Nat → Prop} {o : List Nat}
/-- o: all patterns, each behind its parent; the first alone has none; for each letter one pattern at the top -/
structure Tr (m : Nat) (d : Nat → List Chr) (Par : Nat → Nat → Prop) (o : List Nat) : Prop where
  op : o.Perm (List.range m)
  bh : ∀ k j p : Nat, o[k]? = some j → Par j p → ∃ k' : Nat, k' < k ∧ o[k']? = some p
  fn : ∀ j p q, Par j p → Par j q → p = q
  rt : ∀ k j : Nat, o[k]? = some j → k = 0 ∨ ∃ p, Par j p
  tp : ∀ j k l, j < m → k < m → l ∈ d j → l ∈ d k → (∀ p, Par j p → l ∉ d p) → (∀ p, Par k p → l ∉ d p) → j = k
def Agr (d : Nat → List Chr) (p i : Nat) (r r' : List Int) : Prop := ∀ l, l ∈ d p → l ∈ d i → atL (d p) r l = atL (d i) r' l
theorem Agr.symm {p i : Nat} {r r' : List Int} (h : Agr d p i r r') : Agr d i p r' r := fun l h1 h2 => (h l h2 h1).symm
theorem Tr.nd (T : Tr m d Par o) : o.Nodup := T.op.nodup_iff.mpr List.nodup_range
theorem Tr.pos (T : Tr m d Par o) {j : Nat} (h : j < m) : ∃ k : Nat, o[k]? = some j := List.mem_iff_getElem?.mp (T.op.mem_iff.mpr (List.mem_range.mpr h))
theorem Tr.lt (T : Tr m d Par o) {k j : Nat} (h : o[k]? = some j) : j < m := List.mem_range.mp (T.op.mem_iff.mp (List.mem_of_getElem? h))
theorem Tr.uniq (T : Tr m d Par o) {k k' j : Nat} (h : o[k]? = some j) (h' : o[k']? = some j) : k = k' := by
  obtain ⟨a, b⟩ := List.getElem?_eq_some_iff.mp h
  obtain ⟨a', b'⟩ := List.getElem?_eq_some_iff.mp h'
  have h1 : o.idxOf j = k := by rw [← b, T.nd.idxOf_getElem]
  have h2 : o.idxOf j = k' := by rw [← b', T.nd.idxOf_getElem]
  exact h1.symm.trans h2
/-- chosen rows on a set of patterns that has the parents, too -/
structure Cho (d : Nat → List Chr) (Par : Nat → Nat → Prop) (S : Nat → List (List Int)) (D : Nat → Prop) (g : Nat → List Int) : Prop where
  pa : ∀ j p, D j → Par j p → D p ∧ Agr d p j (g p) (g j)
  mem : ∀ j, D j → g j ∈ S j
theorem Cho.add {S : Nat → List (List Int)} {D : Nat → Prop} {g : Nat → List Int} (C : Cho d Par S D g) {i p : Nat} {r : List Int} (hfn : ∀ j p q, Par j p → Par j q → p = q) (hi : ¬ D i) (hp : Par i p) (dp : D p) (hr : r ∈ S i) (ha : Agr d p i (g p) r) :
    Cho d Par S (fun j => D j ∨ j = i) (fun j => if j = i then r else g j) := by
  have ne : ∀ j, D j → j ≠ i := fun j h e => hi (e ▸ h)
  refine ⟨fun j q h hq => ?_, fun j h => ?_⟩
  · rcases h with h | rfl
    · obtain ⟨h1, h2⟩ := C.pa j q h hq
      refine ⟨.inl h1, ?_⟩
      simp only [if_neg (ne _ h), if_neg (ne _ h1)]
      exact h2
    · cases hfn _ _ _ hp hq
      refine ⟨.inl dp, ?_⟩
      simp only [if_pos rfl, if_neg (ne _ dp), if_true]
      exact ha
  · rcases h with h | rfl
    · simp only [if_neg (ne _ h)]
      exact C.mem j h
    · simp only [if_true]
      exact hr
theorem Tr.chain (T : Tr m d Par o) {S : Nat → List (List Int)} (up : ∀ i p, i < m → Par i p → ∀ r ∈ S i, ∃ r' ∈ S p, Agr d p i r' r) :
    ∀ k i : Nat, o[k]? = some i → ∀ r ∈ S i, ∃ D g, Cho d Par S D g ∧ (∀ j, D j → ∃ k' : Nat, k' ≤ k ∧ o[k']? = some j) ∧ D i ∧ g i = r ∧ ∃ j0, o[0]? = some j0 ∧ D j0 := by
  intro k
  induction k using Nat.strongRecOn with
  | ind k ih =>
    intro i hk r hr
    by_cases h : ∃ p, Par i p
    · obtain ⟨p, hp⟩ := h
      obtain ⟨k', hlt, hk'⟩ := T.bh k i p hk hp
      obtain ⟨rp, h1, h2⟩ := up i p (T.lt hk) hp r hr
      obtain ⟨D, g, C, c1, c2, c3, j0, c4, c5⟩ := ih k' hlt p hk' rp h1
      have hi : ¬ D i := fun hD => by
        obtain ⟨k2, a, b⟩ := c1 i hD
        have := T.uniq b hk
        omega
      refine ⟨_, _, C.add T.fn hi hp c2 hr (by rw [c3]; exact h2), fun j hj => ?_, .inr rfl, by simp, j0, c4, .inl c5⟩
      rcases hj with hj | rfl
      · obtain ⟨k2, a, b⟩ := c1 j hj
        exact ⟨k2, by omega, b⟩
      · exact ⟨k, Nat.le_refl _, hk⟩
    · have k0 : k = 0 := (T.rt k i hk).resolve_right h
      subst k0
      exact ⟨fun j => j = i, fun _ => r, ⟨fun j p hj hp => absurd ⟨p, hj ▸ hp⟩ h, fun j hj => by rw [show j = i from hj]; exact hr⟩, fun j hj => ⟨0, Nat.le_refl _, by rw [show j = i from hj]; exact hk⟩, rfl, rfl, i, hk, rfl⟩
theorem Tr.fill (T : Tr m d Par o) {S : Nat → List (List Int)} (dn : ∀ i p, i < m → Par i p → ∀ r ∈ S p, ∃ r' ∈ S i, Agr d p i r r') {D : Nat → Prop} {g : Nat → List Int} (C : Cho d Par S D g) (hr : ∃ j0, o[0]? = some j0 ∧ D j0) :
    ∀ n : Nat, ∃ D' g', Cho d Par S D' g' ∧ (∀ j, D j → D' j ∧ g' j = g j) ∧ ∀ k j : Nat, k < n → o[k]? = some j → D' j := by
  intro n
  induction n with
  | zero => exact ⟨D, g, C, fun j h => ⟨h, rfl⟩, fun k j h => absurd h (by omega)⟩
  | succ n ih =>
    obtain ⟨D', g', C', e1, e2⟩ := ih
    have keep : (∀ j, o[n]? = some j → D' j) → ∃ D' g', Cho d Par S D' g' ∧ (∀ j, D j → D' j ∧ g' j = g j) ∧ ∀ k j : Nat, k < n + 1 → o[k]? = some j → D' j := fun h => ⟨D', g', C', e1, fun k j hk hj => by
      rcases Nat.lt_succ_iff_lt_or_eq.mp hk with hk | rfl
      · exact e2 k j hk hj
      · exact h j hj⟩
    cases hn : o[n]? with
    | none => exact keep fun j h => by rw [hn] at h; cases h
    | some i =>
      by_cases hi : D' i
      · exact keep fun j h => by rw [hn] at h; cases h; exact hi
      · rcases T.rt n i hn with rfl | ⟨p, hp⟩
        · obtain ⟨j0, a, b⟩ := hr
          rw [hn] at a
          cases a
          exact absurd (e1 i b).1 hi
        · obtain ⟨k', hlt, hk'⟩ := T.bh n i p hn hp
          have dp := e2 k' p hlt hk'
          obtain ⟨r', h1, h2⟩ := dn i p (T.lt hn) hp (g' p) (C'.mem p dp)
          refine ⟨_, _, C'.add T.fn hi hp dp h1 h2, fun j hj => ?_, fun k j hk hj => ?_⟩
          · obtain ⟨a, b⟩ := e1 j hj
            refine ⟨.inl a, ?_⟩
            have : j ≠ i := fun e => hi (e ▸ a)
            simp only [if_neg this]
            exact b
          · rcases Nat.lt_succ_iff_lt_or_eq.mp hk with hk | rfl
            · exact .inl (e2 k j hk hj)
            · rw [hn] at hj
              cases hj
              exact .inr rfl
/-- rows that agree along the tree come of a cell for each letter -/
theorem Tr.glue (T : Tr m d Par o) {g : Nat → List Int} (ag : ∀ j p, j < m → Par j p → Agr d p j (g p) (g j)) : ∃ f : Chr → Int, ∀ j, j < m → ∀ l ∈ d j, f l = atL (d j) (g j) l := by
  have top : ∀ k j : Nat, o[k]? = some j → ∀ l ∈ d j, ∃ t, t < m ∧ l ∈ d t ∧ (∀ p, Par t p → l ∉ d p) ∧ atL (d j) (g j) l = atL (d t) (g t) l := by
    intro k
    induction k using Nat.strongRecOn with
    | ind k ih =>
      intro j hk l hl
      by_cases h : ∃ p, Par j p ∧ l ∈ d p
      · obtain ⟨p, hp, hlp⟩ := h
        obtain ⟨k', hlt, hk'⟩ := T.bh k j p hk hp
        obtain ⟨t, a, b, c, e⟩ := ih k' hlt p hk' l hlp
        exact ⟨t, a, b, c, by rw [← e]; exact (ag j p (T.lt hk) hp l hlp hl).symm⟩
      · exact ⟨j, T.lt hk, hl, fun p hp hlp => h ⟨p, hp, hlp⟩, rfl⟩
  have same : ∀ j j' l, j < m → j' < m → l ∈ d j → l ∈ d j' → atL (d j) (g j) l = atL (d j') (g j') l := fun j j' l hj hj' hl hl' => by
    obtain ⟨k, hk⟩ := T.pos hj
    obtain ⟨k', hk'⟩ := T.pos hj'
    obtain ⟨t, a, b, c, e⟩ := top k j hk l hl
    obtain ⟨t', a', b', c', e'⟩ := top k' j' hk' l hl'
    cases T.tp t t' l a a' b b' c c'
    rw [e, e']
  refine ⟨fun l => open Classical in if h : ∃ j, j < m ∧ l ∈ d j then atL (d (Classical.choose h)) (g (Classical.choose h)) l else 0, fun j hj l hl => ?_⟩
  have hx : ∃ j, j < m ∧ l ∈ d j := ⟨j, hj, hl⟩
  show (if h : ∃ j, j < m ∧ l ∈ d j then atL (d (Classical.choose h)) (g (Classical.choose h)) l else 0) = _
  rw [dif_pos hx]
  obtain ⟨a, b⟩ := Classical.choose_spec hx
  exact same _ _ l a hj b hl
/-- f is an answer -/
def IsA (m : Nat) (d : Nat → List Chr) (S : Nat → List (List Int)) (f : Chr → Int) : Prop := ∀ j, j < m → (d j).map f ∈ S j
theorem Tr.ans (T : Tr m d Par o) {S : Nat → List (List Int)} (hd : ∀ j, j < m → (d j).Nodup ∧ ∀ r ∈ S j, r.length = (d j).length)
    (dn : ∀ i p, i < m → Par i p → ∀ r ∈ S p, ∃ r' ∈ S i, Agr d p i r r') (up : ∀ i p, i < m → Par i p → ∀ r ∈ S i, ∃ r' ∈ S p, Agr d p i r' r) {i : Nat} (hi : i < m) {r : List Int} (hr : r ∈ S i) : ∃ f, IsA m d S f ∧ (d i).map f = r := by
  obtain ⟨k, hk⟩ := T.pos hi
  obtain ⟨D, g, C, c1, c2, c3, c4⟩ := T.chain up k i hk r hr
  obtain ⟨D', g', C', e1, e2⟩ := T.fill dn C c4 o.length
  have all : ∀ j, j < m → D' j := fun j hj => by
    obtain ⟨k, hk⟩ := T.pos hj
    exact e2 k j (List.getElem?_eq_some_iff.mp hk).1 hk
  obtain ⟨f, hf⟩ := T.glue (g := g') fun j p hj hp => (C'.pa j p (all j hj) hp).2
  have key : ∀ j, j < m → (d j).map f = g' j := fun j hj => by
    obtain ⟨n, h⟩ := hd j hj
    rw [← map_atL n (h _ (C'.mem j (all j hj)))]
    exact List.map_congr_left fun l hl => hf j hj l hl
  exact ⟨f, fun j hj => by rw [key j hj]; exact C'.mem j (all j hj), by rw [key i hi, (e1 i c2).2, c3]⟩
/-! the two passes -/
variable {R : List (List (List Int))}
def gt (S : List (List (List Int))) (i : Nat) : List (List Int) := (S[i]?).getD []
theorem gt_set {S : List (List (List Int))} {p i : Nat} {v : List (List Int)} (h : p < S.length) : gt (S.set p v) i = if i = p then v else gt S i := by
  unfold gt
  by_cases e : i = p
  · subst e
    rw [List.getElem?_set_self h, if_pos rfl]
    rfl
  · rw [List.getElem?_set_ne (Ne.symm e), if_neg e]
theorem gt_at {S : List (List (List Int))} {i : Nat} (h : i < S.length) : S[i]? = some (gt S i) := by
  unfold gt
  rw [List.getElem?_eq_getElem h]
  rfl
def itr (d : Nat → List Chr) (p i : Nat) : List Chr := (d p).filter fun l => decide (l ∈ d i)
def semi (d : Nat → List Chr) (S : List (List (List Int))) (p i : Nat) : List (List Int) := (gt S p).filter fun r => (gt S i).any fun r' => decide ((itr d p i).map (atL (d i) r') = (itr d p i).map (atL (d p) r))
theorem semi_mem {S : List (List (List Int))} {p i : Nat} {r : List Int} : r ∈ semi d S p i ↔ r ∈ gt S p ∧ ∃ r' ∈ gt S i, Agr d p i r r' := by
  unfold semi
  rw [List.mem_filter, List.any_eq_true]
  refine and_congr_right fun _ => exists_congr fun r' => and_congr_right fun _ => ?_
  rw [decide_eq_true_iff, List.map_inj_left]
  constructor
  · intro h l h1 h2
    exact (h l (List.mem_filter.mpr ⟨h1, decide_eq_true h2⟩)).symm
  · intro h l hl
    obtain ⟨h1, h2⟩ := List.mem_filter.mp hl
    exact (h l h1 (of_decide_eq_true h2)).symm
/-- what both passes keep -/
structure Kp (m : Nat) (d : Nat → List Chr) (R S : List (List (List Int))) : Prop where
  len : S.length = m
  sub : ∀ i, ∃ P : List Int → Bool, gt S i = (gt R i).filter P
  ans : ∀ f, IsA m d (gt R) f → IsA m d (gt S) f
theorem Kp.start (h : R.length = m) : Kp m d R R := ⟨h, fun i => ⟨fun _ => true, (List.filter_eq_self.mpr fun _ _ => rfl).symm⟩, fun _ h => h⟩
theorem Kp.mem {S : List (List (List Int))} (K : Kp m d R S) {i : Nat} {r : List Int} (h : r ∈ gt S i) : r ∈ gt R i := by
  obtain ⟨P, e⟩ := K.sub i
  rw [e] at h
  exact (List.mem_filter.mp h).1
theorem Kp.semi {S : List (List (List Int))} (K : Kp m d R S) (hd : ∀ j, j < m → (d j).Nodup) {p i : Nat} (hp : p < m) (hi : i < m) : Kp m d R (S.set p (semi d S p i)) := by
  have hl : p < S.length := by rw [K.len]; exact hp
  refine ⟨by rw [List.length_set]; exact K.len, fun j => ?_, fun f hf j hj => ?_⟩
  · rw [gt_set hl]
    split
    · rename_i e
      subst e
      obtain ⟨P, e⟩ := K.sub j
      unfold J.semi
      rw [e, List.filter_filter]
      exact ⟨_, rfl⟩
    · exact K.sub j
  · rw [gt_set hl]
    split
    · rename_i e
      subst e
      refine semi_mem.mpr ⟨K.ans f hf j hj, _, K.ans f hf i hi, fun l h1 h2 => ?_⟩
      rw [atL_map h1, atL_map h2]
    · exact K.ans f hf j hj
structure P1 (m : Nat) (d : Nat → List Chr) (Par : Nat → Nat → Prop) (o : List Nat) (R : List (List (List Int))) (n : Nat) (S : List (List (List Int))) : Prop where
  k : Kp m d R S
  dn : ∀ t j p : Nat, o[t]? = some j → m ≤ t + n → Par j p → ∀ r ∈ gt S p, ∃ r' ∈ gt S j, Agr d p j r r'
theorem P1.step (T : Tr m d Par o) (hd : ∀ j, j < m → (d j).Nodup) {S : List (List (List Int))} {n t i p : Nat} (I : P1 m d Par o R n S) (ht : o[t]? = some i) (hn : t + n + 1 = m) (hp : Par i p) : P1 m d Par o R (n + 1) (S.set p (semi d S p i)) := by
  obtain ⟨k', hlt, hk'⟩ := T.bh t i p ht hp
  have pm := T.lt hk'
  have hl : p < S.length := by rw [I.k.len]; exact pm
  refine ⟨I.k.semi hd pm (T.lt ht), fun t' j q hj hm hq r hr => ?_⟩
  have ne : j ≠ p := fun e => by
    subst e
    have := T.uniq hj hk'
    omega
  rw [gt_set hl, if_neg ne]
  rw [gt_set hl] at hr
  by_cases e : t' = t
  · subst e
    rw [ht] at hj
    cases hj
    cases T.fn _ _ _ hp hq
    rw [if_pos rfl] at hr
    exact (semi_mem.mp hr).2
  · have hr' : r ∈ gt S q := by
      split at hr
      · rename_i e2
        subst e2
        exact (semi_mem.mp hr).1
      · exact hr
    exact I.dn t' j q hj (by omega) hq r hr'
theorem P1.skip (T : Tr m d Par o) {S : List (List (List Int))} {n t i : Nat} (I : P1 m d Par o R n S) (ht : o[t]? = some i) (hn : t + n + 1 = m) (hp : ∀ p, ¬ Par i p) : P1 m d Par o R (n + 1) S := by
  refine ⟨I.k, fun t' j q hj hm hq r hr => ?_⟩
  by_cases e : t' = t
  · subst e
    rw [ht] at hj
    cases hj
    exact absurd hq (hp q)
  · exact I.dn t' j q hj (by omega) hq r hr
structure P2 (m : Nat) (d : Nat → List Chr) (Par : Nat → Nat → Prop) (o : List Nat) (R S1 : List (List (List Int))) (n : Nat) (S : List (List (List Int))) : Prop where
  k : Kp m d R S
  sm : ∀ t j : Nat, o[t]? = some j → n ≤ t → gt S j = gt S1 j
  sb : ∀ j r, r ∈ gt S j → r ∈ gt S1 j
  dn : ∀ t j p : Nat, o[t]? = some j → t < n → Par j p → ∀ r ∈ gt S p, ∃ r' ∈ gt S j, Agr d p j r r'
  up : ∀ t j p : Nat, o[t]? = some j → t < n → Par j p → ∀ r ∈ gt S j, ∃ r' ∈ gt S p, Agr d p j r' r
theorem P2.step (T : Tr m d Par o) (hd : ∀ j, j < m → (d j).Nodup) {S1 S : List (List (List Int))} (D1 : ∀ j p, j < m → Par j p → ∀ r ∈ gt S1 p, ∃ r' ∈ gt S1 j, Agr d p j r r') {n i p : Nat} (I : P2 m d Par o R S1 n S) (ht : o[n]? = some i) (hp : Par i p) : P2 m d Par o R S1 (n + 1) (S.set i (semi d S i p)) := by
  obtain ⟨k', hlt, hk'⟩ := T.bh n i p ht hp
  have pm := T.lt hk'
  have im := T.lt ht
  have hl : i < S.length := by rw [I.k.len]; exact im
  have other : ∀ t j : Nat, o[t]? = some j → t ≠ n → gt (S.set i (J.semi d S i p)) j = gt S j := fun t j hj hne => by
    rw [gt_set hl, if_neg fun e => ?_]
    subst e
    exact hne (T.uniq hj ht)
  have self : gt (S.set i (J.semi d S i p)) i = semi d S i p := by rw [gt_set hl, if_pos rfl]
  refine ⟨I.k.semi hd im pm, fun t j hj hm => ?_, fun j r hr => ?_, fun t j q hj hm hq r hr => ?_, fun t j q hj hm hq r hr => ?_⟩
  · rw [other t j hj (by omega)]
    exact I.sm t j hj (by omega)
  · rw [gt_set hl] at hr
    split at hr
    · rename_i e
      subst e
      exact I.sb j r (semi_mem.mp hr).1
    · exact I.sb j r hr
  · obtain ⟨k2, hlt2, hk2⟩ := T.bh t j q hj hq
    rw [other k2 q hk2 (by omega)] at hr
    rcases Nat.lt_succ_iff_lt_or_eq.mp hm with hm | rfl
    · rw [other t j hj (by omega)]
      exact I.dn t j q hj hm hq r hr
    · rw [ht] at hj
      cases hj
      cases T.fn _ _ _ hp hq
      obtain ⟨r', h1, h2⟩ := D1 i p im hp r (I.sb p r hr)
      rw [← I.sm t i ht (Nat.le_refl _)] at h1
      exact ⟨r', by rw [self]; exact semi_mem.mpr ⟨h1, r, hr, h2.symm⟩, h2⟩
  · obtain ⟨k2, hlt2, hk2⟩ := T.bh t j q hj hq
    rw [other k2 q hk2 (by omega)]
    rcases Nat.lt_succ_iff_lt_or_eq.mp hm with hm | rfl
    · rw [other t j hj (by omega)] at hr
      exact I.up t j q hj hm hq r hr
    · rw [ht] at hj
      cases hj
      cases T.fn _ _ _ hp hq
      rw [self] at hr
      obtain ⟨_, r', h1, h2⟩ := semi_mem.mp hr
      exact ⟨r', h1, h2.symm⟩
theorem P2.skip (T : Tr m d Par o) {S1 S : List (List (List Int))} {n i : Nat} (I : P2 m d Par o R S1 n S) (ht : o[n]? = some i) (hp : ∀ p, ¬ Par i p) : P2 m d Par o R S1 (n + 1) S := by
  refine ⟨I.k, fun t j hj hm => I.sm t j hj (by omega), I.sb, fun t j q hj hm hq r hr => ?_, fun t j q hj hm hq r hr => ?_⟩
  · rcases Nat.lt_succ_iff_lt_or_eq.mp hm with hm | rfl
    · exact I.dn t j q hj hm hq r hr
    · rw [ht] at hj
      cases hj
      exact absurd hq (hp q)
  · rcases Nat.lt_succ_iff_lt_or_eq.mp hm with hm | rfl
    · exact I.up t j q hj hm hq r hr
    · rw [ht] at hj
      cases hj
      exact absurd hq (hp q)
theorem P2.start {S1 : List (List (List Int))} (K : Kp m d R S1) : P2 m d Par o R S1 0 S1 := ⟨K, fun _ _ _ _ => rfl, fun _ _ h => h, fun t _ _ _ h => absurd h (by omega), fun t _ _ _ h => absurd h (by omega)⟩
open Classical in
/-- the rows of a pattern that stand in an answer -/
noncomputable def inA (m : Nat) (d : Nat → List Chr) (R : List (List (List Int))) (i : Nat) : List (List Int) := (gt R i).filter fun r => decide (∃ f, IsA m d (gt R) f ∧ (d i).map f = r)
open Classical in
theorem inA_mem {i : Nat} {r : List Int} : r ∈ inA m d R i ↔ r ∈ gt R i ∧ ∃ f, IsA m d (gt R) f ∧ (d i).map f = r := by
  unfold inA
  rw [List.mem_filter, decide_eq_true_iff]
open Classical in
theorem P2.done (T : Tr m d Par o) (hd : ∀ j, j < m → (d j).Nodup ∧ ∀ r ∈ gt R j, r.length = (d j).length) {S1 S : List (List (List Int))} (I : P2 m d Par o R S1 m S) : S = (List.range m).map (inA m d R) := by
  have lt : ∀ t j : Nat, o[t]? = some j → t < m := fun t j h => by
    have := (List.getElem?_eq_some_iff.mp h).1
    rw [T.op.length_eq, List.length_range] at this
    exact this
  have key : ∀ i, i < m → gt S i = inA m d R i := fun i hi => by
    obtain ⟨P, e⟩ := I.k.sub i
    rw [e]
    unfold inA
    refine List.filter_congr fun r hr => ?_
    rw [Bool.eq_iff_iff, decide_eq_true_iff]
    have mm : P r = true ↔ r ∈ gt S i := by rw [e, List.mem_filter]; exact ⟨fun h => ⟨hr, h⟩, fun h => h.2⟩
    rw [mm]
    constructor
    · intro h
      obtain ⟨f, h1, h2⟩ := T.ans (S := gt S) (fun j hj => ⟨(hd j hj).1, fun r hr => (hd j hj).2 r (I.k.mem hr)⟩)
        (fun i p hi hp => let ⟨k, hk⟩ := T.pos hi; I.dn k i p hk (lt k i hk) hp) (fun i p hi hp => let ⟨k, hk⟩ := T.pos hi; I.up k i p hk (lt k i hk) hp) hi h
      exact ⟨f, fun j hj => I.k.mem (h1 j hj), h2⟩
    · rintro ⟨f, h1, rfl⟩
      exact I.k.ans f h1 i hi
  refine List.ext_getElem? fun i => ?_
  by_cases hi : i < m
  · rw [gt_at (by rw [I.k.len]; exact hi), key i hi, List.getElem?_map, List.getElem?_range hi]
    rfl
  · rw [List.getElem?_eq_none (by rw [I.k.len]; omega), List.getElem?_eq_none (by simp; omega)]
end tree
/-! downward: each pattern behind its parent -/
def PrO (ps : List (Option Int)) (j p : Nat) : Prop := ps[j]? = some (some (p : Int))
structure Wd (m : Nat) (ps : List (Option Int)) : Prop where
  len : ps.length = m
  par : ∀ (j : Nat) (z : Int), ps[j]? = some (some z) → ∃ p : Nat, z = p ∧ p < m
  rk : ∃ ρ : Nat → Nat, ∀ j p : Nat, PrO ps j p → ρ p < ρ j
  rt : ∃ r : Nat, ps[r]? = some none ∧ ∀ j : Nat, ps[j]? = some none → j = r
theorem enum_eq (ps : List (Option Int)) : enumT ps = (List.range ps.length).map fun j => (((j : Nat) : Int), (ps[j]?).getD none) := by
  unfold enumT
  refine List.ext_getElem (by simp) fun i h1 h2 => ?_
  simp at h1
  simp [List.getElem?_eq_getElem h1]
def kids (ps : List (Option Int)) (p : Nat) : List Nat := (List.range ps.length).filter fun j => decide ((ps[j]?).getD none = some (p : Int))
theorem kids_mem {ps : List (Option Int)} {p j : Nat} : j ∈ kids ps p ↔ PrO ps j p := by
  unfold kids PrO
  rw [List.mem_filter, List.mem_range, decide_eq_true_iff]
  constructor
  · rintro ⟨h1, h2⟩
    rw [List.getElem?_eq_getElem h1] at h2 ⊢
    exact congrArg some h2
  · intro h
    exact ⟨(List.getElem?_eq_some_iff.mp h).1, by rw [h]; rfl⟩
theorem kids_nd {ps : List (Option Int)} {p : Nat} : (kids ps p).Nodup := List.nodup_range.filter _
theorem perm_range {o : List Nat} {m : Nat} (hn : o.Nodup) (h : ∀ j, j ∈ o ↔ j < m) : o.Perm (List.range m) := by
  refine List.perm_iff_count.mpr fun a => ?_
  rw [hn.count, List.nodup_range.count]
  by_cases ha : a < m
  · rw [if_pos ((h a).mpr ha), if_pos (List.mem_range.mpr ha)]
  · rw [if_neg fun z => ha ((h a).mp z), if_neg fun z => ha (List.mem_range.mp z)]
theorem castN {o : List Nat} {k : Nat} {j : Nat} (h : o[k]? = some j) : (o.map fun i => ((i : Nat) : Int))[k]? = some (j : Int) := by rw [List.getElem?_map, h]; rfl
structure DI (m : Nat) (ps : List (Option Int)) (r : Nat) (o : List Nat) (a : Nat) : Prop where
  al : a ≤ o.length
  nd : o.Nodup
  lt : ∀ j ∈ o, j < m
  z : o[0]? = some r
  bh : ∀ k j p : Nat, o[k]? = some j → PrO ps j p → ∃ k' : Nat, k' < k ∧ k' < a ∧ o[k']? = some p
  rt : ∀ k j : Nat, o[k]? = some j → k = 0 ∨ ∃ p, PrO ps j p
  cl : ∀ k p j : Nat, k < a → o[k]? = some p → PrO ps j p → j ∈ o
theorem PrO.fn {ps : List (Option Int)} {j p q : Nat} (h : PrO ps j p) (h' : PrO ps j q) : p = q := by
  unfold PrO at h h'
  rw [h] at h'
  have := Option.some.inj (Option.some.inj h')
  omega
theorem DI.step {m : Nat} {ps : List (Option Int)} {r a : Nat} {o : List Nat} (W : Wd m ps) (hr : ps[r]? = some none) (I : DI m ps r o a) {p : Nat} (hp : o[a]? = some p) : DI m ps r (o ++ kids ps p) (a + 1) := by
  have al := (List.getElem?_eq_some_iff.mp hp).1
  have sep : ∀ j ∈ o, j ∉ kids ps p := fun j hj hk => by
    have hk := kids_mem.mp hk
    obtain ⟨k, hk2⟩ := List.mem_iff_getElem?.mp hj
    obtain ⟨k', h1, h2, h3⟩ := I.bh k j p hk2 hk
    obtain ⟨b1, b2⟩ := List.getElem?_eq_some_iff.mp h3
    obtain ⟨b3, b4⟩ := List.getElem?_eq_some_iff.mp hp
    have e1 : o.idxOf p = k' := by rw [← b2, I.nd.idxOf_getElem]
    have e2 : o.idxOf p = a := by rw [← b4, I.nd.idxOf_getElem]
    omega
  have cases' : ∀ k j : Nat, (o ++ kids ps p)[k]? = some j → (o[k]? = some j) ∨ (o.length ≤ k ∧ PrO ps j p) := fun k j h => by
    by_cases hk : k < o.length
    · rw [List.getElem?_append_left hk] at h
      exact .inl h
    · rw [List.getElem?_append_right (by omega)] at h
      exact .inr ⟨by omega, kids_mem.mp (List.mem_of_getElem? h)⟩
  have left : ∀ k j : Nat, o[k]? = some j → (o ++ kids ps p)[k]? = some j := fun k j h => by
    rw [List.getElem?_append_left (List.getElem?_eq_some_iff.mp h).1]
    exact h
  refine ⟨by rw [List.length_append]; omega, ?_, fun j hj => ?_, left _ _ I.z, fun k j q h hq => ?_, fun k j h => ?_, fun k q j hk h hq => ?_⟩
  · rw [List.nodup_append]
    exact ⟨I.nd, kids_nd, fun x hx y hy e => sep x hx (e ▸ hy)⟩
  · rcases List.mem_append.mp hj with hj | hj
    · exact I.lt j hj
    · rw [← W.len]
      exact (List.getElem?_eq_some_iff.mp (kids_mem.mp hj)).1
  · rcases cases' k j h with h | ⟨h1, h2⟩
    · obtain ⟨k', a1, a2, a3⟩ := I.bh k j q h hq
      exact ⟨k', a1, by omega, left _ _ a3⟩
    · cases h2.fn hq
      exact ⟨a, by omega, by omega, left _ _ hp⟩
  · rcases cases' k j h with h | ⟨h1, h2⟩
    · exact I.rt k j h
    · exact .inr ⟨p, h2⟩
  · rcases cases' k q h with h | ⟨h1, h2⟩
    · by_cases e : k = a
      · subst e
        rw [hp] at h
        cases h
        exact List.mem_append_right _ (kids_mem.mpr hq)
      · exact List.mem_append_left _ (I.cl k q j (by omega) h hq)
    · omega
theorem idxO {α : Type} [DecidableEq α] {xs : List α} {a : α} (h : a ∈ xs) : ∃ k : Nat, idxT xs a = some (k : Int) ∧ xs[k]? = some a := by
  refine ⟨_, idxM h, ?_⟩
  rw [List.getElem?_eq_getElem (List.idxOf_lt_length_iff.mpr h), List.getElem_idxOf]
theorem downward_ok {m : Nat} {ps : List (Option Int)} (W : Wd m ps) (hm : m ≤ 100) : ∃ o : List Nat, T_downward ps = some (o.map fun i => ((i : Nat) : Int)) ∧ o.Perm (List.range m) ∧ (∀ k j p : Nat, o[k]? = some j → PrO ps j p → ∃ k' : Nat, k' < k ∧ o[k']? = some p) ∧ ∀ k j : Nat, o[k]? = some j → k = 0 ∨ ∃ p, PrO ps j p := by
  obtain ⟨r, hr, hu⟩ := W.rt
  have hrm : r < m := by rw [← W.len]; exact (List.getElem?_eq_some_iff.mp hr).1
  have hmem : (none : Option Int) ∈ ps := List.mem_of_getElem? hr
  have hidx : idxT ps none = some (r : Int) := by
    obtain ⟨k, e1, e2⟩ := idxO hmem
    rw [e1, hu k e2]
  obtain ⟨q, q1, o, a, q2, q3, q4⟩ := whileT_inv (c := fun s1 : ((List Int) × Int) => some (decide (s1.2 < (s1.1.length : Int)))) (f := T_downward_b1 ps)
    (I := fun n s => ∃ (o : List Nat) (a : Nat), s = (o.map fun i => ((i : Nat) : Int), (a : Int)) ∧ n = m - a ∧ DI m ps r o a)
    (Q := fun q => ∃ (o : List Nat) (a : Nat), q = .nx (o.map fun i => ((i : Nat) : Int), (a : Int)) ∧ o.length ≤ a ∧ DI m ps r o a)
    (fun n s ⟨o, a, es, en, I⟩ => by
      subst es
      have lo : o.length ≤ m := by
        have := nodup_le I.nd fun x hx => List.mem_range.mpr (I.lt x hx)
        rw [List.length_range] at this
        exact this
      by_cases h : a < o.length
      · refine .inr ⟨by simp; exact h, .inl ?_⟩
        obtain ⟨p, hp⟩ : ∃ p, o[a]? = some p := ⟨_, List.getElem?_eq_getElem h⟩
        have I2 := I.step W hr hp
        have lo2 : (o ++ kids ps p).length ≤ m := by
          have := nodup_le I2.nd fun x hx => List.mem_range.mpr (I2.lt x hx)
          rw [List.length_range] at this
          exact this
        rw [List.length_append] at lo2
        refine ⟨((o ++ kids ps p).map fun i => ((i : Nat) : Int), ((a + 1 : Nat) : Int)), m - (a + 1), ?_, by omega, o ++ kids ps p, a + 1, rfl, rfl, I2⟩
        unfold T_downward_b1
        simp only
        rw [lcG_ok (p := fun x : Int × Option Int => decide (x.2 = some (p : Int))) (h := fun x : Int × Option Int => x.1) (fun x _ => ⟨by rw [atQ rfl (castN hp)]; rfl, fun _ => rfl⟩) (by rw [enum_eq, List.length_map, List.length_range, W.len]; omega), bindS]
        have e : ((enumT ps).filter fun x => decide (x.2 = some (p : Int))).map (fun x => x.1) = (kids ps p).map fun i => ((i : Nat) : Int) := by
          rw [enum_eq, List.filter_map, List.map_map]
          rfl
        rw [e, catN (by rw [List.length_map, List.length_map]; omega), bindS, List.map_append]
        rfl
      · exact .inl ⟨by simp; omega, o, a, rfl, by omega, I⟩) (m - 0) ([(r : Int)], (0 : Int))
    ⟨[r], 0, rfl, rfl, Nat.zero_le _, by simp, fun j hj => by rw [List.mem_singleton.mp hj]; exact hrm, rfl, fun k j p h hp => by
      have hk := (List.getElem?_eq_some_iff.mp h).1
      rw [List.length_singleton] at hk
      have : k = 0 := by omega
      subst this
      cases h
      unfold PrO at hp
      rw [hr] at hp
      exact (nomatch hp), fun k j h => by
      have hk := (List.getElem?_eq_some_iff.mp h).1
      rw [List.length_singleton] at hk
      exact .inl (by omega), fun k p j h => absurd h (by omega)⟩
  subst q2
  obtain ⟨ρ, hρ⟩ := W.rk
  have all : ∀ n j : Nat, ρ j = n → j < m → j ∈ o := by
    intro n
    induction n using Nat.strongRecOn with
    | ind n ih =>
      intro j e hj
      have hj2 : j < ps.length := by rw [W.len]; exact hj
      cases hv : ps[j] with
      | none =>
        have := hu j (by rw [List.getElem?_eq_getElem hj2, hv])
        rw [this]
        exact List.mem_of_getElem? q4.z
      | some z =>
        have hjz : ps[j]? = some (some z) := by rw [List.getElem?_eq_getElem hj2, hv]
        obtain ⟨p, rfl, hp⟩ := W.par j z hjz
        have := ih (ρ p) (by rw [← e]; exact hρ j p hjz) p rfl hp
        obtain ⟨k, hk⟩ := List.mem_iff_getElem?.mp this
        have hkl := (List.getElem?_eq_some_iff.mp hk).1
        exact q4.cl k p j (by omega) hk hjz
  refine ⟨o, ?_, perm_range q4.nd fun j => ⟨q4.lt j, all _ j rfl⟩, fun k j p h hp => let ⟨k', a, _, b⟩ := q4.bh k j p h hp; ⟨k', a, b⟩, q4.rt⟩
  unfold T_downward
  rw [hidx, bindS, q1]
  rfl
/-! semijoins, both passes -/
theorem key_of_ok {d : List Chr} {r : List Int} {so : List Chr} (hs : ∀ l ∈ so, l ∈ d) (h : d.length ≤ r.length) (hl : so.length ≤ 1000) : T_key_of d r so = some (so.map (atL d r)) := by
  unfold T_key_of
  rw [lcG_map (h := atL d r) (fun x hx => ⟨rfl, at_idx (hs x hx) h⟩) (by omega)]
  rfl
structure Rw (ds : List (List Chr)) (R : List (List (List Int))) : Prop where
  len : R.length = ds.length
  hd : ∀ j, j < ds.length → (dOf ds j).Nodup ∧ (dOf ds j).length ≤ 4
  row : ∀ j, j < ds.length → (gt R j).length ≤ 200 ∧ ∀ r ∈ gt R j, r.length = (dOf ds j).length
theorem Rw.kp {ds : List (List Chr)} {R S : List (List (List Int))} (A : Rw ds R) (K : Kp ds.length (dOf ds) R S) : Rw ds S := ⟨K.len, A.hd, fun j hj => by
  obtain ⟨P, e⟩ := K.sub j
  refine ⟨?_, fun r hr => (A.row j hj).2 r (K.mem hr)⟩
  rw [e]
  exact Nat.le_trans (List.length_filter_le _ _) (A.row j hj).1⟩
theorem agreeing_ok {ds : List (List Chr)} {S : List (List (List Int))} (A : Rw ds S) {p i : Nat} (hp : p < ds.length) (hi : i < ds.length) : T_agreeing ds S (p : Int) (i : Int) = some (semi (dOf ds) S p i) := by
  have p1 := A.hd p hp
  have i1 := A.hd i hi
  have p2 := A.row p hp
  have i2 := A.row i hi
  have at_p : atI ds (p : Int) = some (dOf ds p) := atQ rfl (dOf_at hp)
  have at_i : atI ds (i : Int) = some (dOf ds i) := atQ rfl (dOf_at hi)
  have lit : (itr (dOf ds) p i).length ≤ 4 := Nat.le_trans (List.length_filter_le _ _) p1.2
  unfold T_agreeing
  rw [at_p, bindS]
  refine lcG_bind (p := fun l => decide (l ∈ dOf ds i)) (h := fun l => l) (fun y _ => ⟨by rw [at_i]; rfl, fun _ => rfl⟩) (by omega) ?_
  rw [List.map_id', atQ (n := i) rfl (gt_at (by rw [A.len]; exact hi)), bindS]
  obtain ⟨K, a1, a2, a3, a4⟩ := forT_keys (f := T_agreeing_b1 ds (i : Int) (itr (dOf ds) p i)) (k := fun r => (itr (dOf ds) p i).map (atL (dOf ds i) r)) (v := fun _ => true) (N := 1000) (by decide) (xs := gt S i) (l := []) (fun r hr l hl => by
    unfold T_agreeing_b1
    rw [at_i, bindS, key_of_ok (so := itr (dOf ds) p i) (fun l hl => of_decide_eq_true (List.mem_filter.mp hl).2) (by rw [i2.2 r hr]; exact Nat.le_refl _) (by omega), bindS, putN (by omega)]
    rfl) (by simp; omega) List.nodup_nil
  have a1 : forT (T_agreeing_b1 ds (i : Int) ((dOf ds p).filter fun l => decide (l ∈ dOf ds i))) (gt S i) [] = some K := a1
  rw [a1, bindS, atQ (n := p) rfl (gt_at (by rw [A.len]; exact hp)), bindS]
  have e : ∀ x ∈ gt S p, (T_key_of (dOf ds p) x ((dOf ds p).filter fun l => decide (l ∈ dOf ds i))) = some ((itr (dOf ds) p i).map (atL (dOf ds p) x)) := fun x hx => key_of_ok (so := itr (dOf ds) p i) (fun l hl => (List.mem_filter.mp hl).1) (by rw [p2.2 x hx]; exact Nat.le_refl _) (by omega)
  refine lcG_bind (p := fun r => (lookK K ((itr (dOf ds) p i).map (atL (dOf ds p) r))).isSome) (h := fun r => r) (fun y hy => ⟨by rw [bindS, e y hy]; rfl, fun _ => rfl⟩) (by omega) ?_
  rw [List.map_id']
  unfold semi
  congr 1
  refine List.filter_congr fun r hr => ?_
  rw [Bool.eq_iff_iff, lookK_mem, a2, List.any_eq_true]
  constructor
  · rintro (h | h)
    · exact absurd h (by simp)
    · obtain ⟨r', h1, h2⟩ := List.mem_map.mp h
      exact ⟨r', h1, decide_eq_true h2⟩
  · rintro ⟨r', h1, h2⟩
    exact .inr (List.mem_map.mpr ⟨r', h1, of_decide_eq_true h2⟩)
theorem putLN {S : List (List (List Int))} {p : Nat} {v : List (List Int)} (h : p < S.length) (hl : S.length ≤ 1000) : putL S (p : Int) v = some (S.set p v) := by
  unfold putL
  rw [if_pos (bigT (by omega))]
  have : ixN S.length (p : Int) = some p := by
    unfold ixN
    rw [if_pos (by omega), if_pos (by omega), Int.toNat_natCast]
  rw [this]
  rfl
theorem PrO.get {ps : List (Option Int)} {j : Nat} {m : Nat} (W : Wd m ps) (h : j < m) : (∃ p : Nat, p < m ∧ PrO ps j p) ∨ (ps[j]? = some none ∧ ∀ p, ¬ PrO ps j p) := by
  have hj : j < ps.length := by rw [W.len]; exact h
  cases hv : ps[j] with
  | none =>
    have e : ps[j]? = some none := by rw [List.getElem?_eq_getElem hj, hv]
    exact .inr ⟨e, fun p hp => by unfold PrO at hp; rw [e] at hp; cases hp⟩
  | some z =>
    have e : ps[j]? = some (some z) := by rw [List.getElem?_eq_getElem hj, hv]
    obtain ⟨p, rfl, hp⟩ := W.par j z e
    exact .inl ⟨p, hp, e⟩
/-- a tree of a shape -/
structure TreeOf (ds : List (List Chr)) (ps : List (Option Int)) : Prop where
  w : Wd ds.length ps
  tp : ∀ j k l, j < ds.length → k < ds.length → l ∈ dOf ds j → l ∈ dOf ds k → (∀ p, PrO ps j p → l ∉ dOf ds p) → (∀ p, PrO ps k p → l ∉ dOf ds p) → j = k
theorem reduced_ok {ds : List (List Chr)} {ps : List (Option Int)} {R : List (List (List Int))} (T : TreeOf ds ps) (A : Rw ds R) (hm : ds.length ≤ 100) : T_reduced ds R ps = some ((List.range ds.length).map (inA ds.length (dOf ds) R)) := by
  obtain ⟨o, eo, op, bh, rt⟩ := downward_ok T.w hm
  have Tr0 : Tr ds.length (dOf ds) (PrO ps) o := ⟨op, bh, fun _ _ _ h h' => h.fn h', rt, T.tp⟩
  have ol : o.length = ds.length := by rw [op.length_eq, List.length_range]
  have hd : ∀ j, j < ds.length → (dOf ds j).Nodup := fun j hj => (A.hd j hj).1
  obtain ⟨S1, k1, I1⟩ := forT_inv0 (f := T_reduced_b1 ds ps) (xs := (o.map fun i => ((i : Nat) : Int)).reverse) (s := R) (I := fun n S => P1 ds.length (dOf ds) (PrO ps) o R n S) ⟨Kp.start A.len, fun t j p h hm' => by
      have := (List.getElem?_eq_some_iff.mp h).1
      omega⟩ fun n x S hx I => by
    have hn := (List.getElem?_eq_some_iff.mp hx).1
    rw [List.length_reverse, List.length_map] at hn
    rw [List.getElem?_reverse (by rw [List.length_map]; exact hn), List.length_map, List.getElem?_map] at hx
    obtain ⟨i, hi, rfl⟩ := Option.map_eq_some_iff.mp hx
    have im := Tr0.lt hi
    have B := A.kp I.k
    unfold T_reduced_b1
    rcases PrO.get T.w im with ⟨p, hp, hpi⟩ | ⟨hnone, hno⟩
    · rw [atQ rfl hpi, bindS]
      simp only [Option.isSome_some, if_true]
      rw [bindS, bindS, agreeing_ok B hp im, bindS, bindS, bindS, putLN (by rw [I.k.len]; exact hp) (by rw [I.k.len]; omega)]
      exact ⟨_, rfl, I.step Tr0 hd hi (by omega) hpi⟩
    · rw [atQ rfl hnone, bindS]
      exact ⟨S, rfl, I.skip Tr0 hi (by omega) hno⟩
  rw [List.length_reverse, List.length_map, ol] at I1
  have D1 : ∀ j p, j < ds.length → PrO ps j p → ∀ r ∈ gt S1 p, ∃ r' ∈ gt S1 j, Agr (dOf ds) p j r r' := fun j p hj hp => by
    obtain ⟨k, hk⟩ := Tr0.pos hj
    exact I1.dn k j p hk (by omega) hp
  obtain ⟨S2, k2, I2⟩ := forT_inv0 (f := T_reduced_b2 ds ps) (xs := o.map fun i => ((i : Nat) : Int)) (s := S1) (I := fun n S => P2 ds.length (dOf ds) (PrO ps) o R S1 n S) (P2.start I1.k) fun n x S hx I => by
    rw [List.getElem?_map] at hx
    obtain ⟨i, hi, rfl⟩ := Option.map_eq_some_iff.mp hx
    have im := Tr0.lt hi
    have B := A.kp I.k
    unfold T_reduced_b2
    rcases PrO.get T.w im with ⟨p, hp, hpi⟩ | ⟨hnone, hno⟩
    · rw [atQ rfl hpi, bindS]
      simp only [Option.isSome_some, if_true]
      rw [bindS, bindS, agreeing_ok B im hp, bindS, putLN (by rw [I.k.len]; exact im) (by rw [I.k.len]; omega)]
      exact ⟨_, rfl, I.step Tr0 hd D1 hi hpi⟩
    · rw [atQ rfl hnone, bindS]
      exact ⟨S, rfl, I.skip Tr0 hi hno⟩
  rw [List.length_map, ol] at I2
  have fin := I2.done Tr0 fun j hj => ⟨hd j hj, (A.row j hj).2⟩
  unfold T_reduced
  rw [lcG_map (h := fun x => x) (fun x _ => ⟨rfl, rfl⟩) (by rw [A.len]; omega), bindS, List.map_id', eo, bindS, k1, bindS, k2, bindS, fin]
/-! the rows of a shape -/
/-- of pattern i's length, cells of ns, each once, few -/
def FInv (ds : List (List Chr)) (ns : List Int) (n : Nat) (f : List (List (List Int))) : Prop := f.length = ds.length ∧ ∀ (i : Nat) (rs : List (List Int)) (d : List Chr), f[i]? = some rs → ds[i]? = some d → rs.Nodup ∧ rs.length ≤ n ∧ ∀ r ∈ rs, r.length = d.length ∧ ∀ x ∈ r, x ∈ ns
def insR (f : List (List (List Int))) (i : Nat) (r : List Int) : List (List (List Int)) := match f[i]? with
  | some rs => if r ∈ rs then f else f.set i (rs ++ [r])
  | none => f
theorem insR_inv {ds : List (List Chr)} {ns : List Int} {n : Nat} {f : List (List (List Int))} {i : Nat} {r : List Int} {d : List Chr} (h : FInv ds ns n f) (hd : ds[i]? = some d) (hr : r.length = d.length) (hx : ∀ x ∈ r, x ∈ ns) : FInv ds ns (n + 1) (insR f i r) := by
  have weak : FInv ds ns (n + 1) f := ⟨h.1, fun j rs d' h1 h2 => let ⟨a, b, c⟩ := h.2 j rs d' h1 h2; ⟨a, by omega, c⟩⟩
  unfold insR
  cases e : f[i]? with
  | none => exact weak
  | some rs =>
    simp only
    split
    · exact weak
    · rename_i hn
      obtain ⟨k1, k2, k3⟩ := h.2 i rs d e hd
      refine ⟨by rw [List.length_set]; exact h.1, fun j rs' d' h1 h2 => ?_⟩
      by_cases hij : i = j
      · subst hij
        have hlt : i < f.length := (List.getElem?_eq_some_iff.mp e).1
        rw [List.getElem?_set_self hlt] at h1
        cases h1
        rw [hd] at h2
        cases h2
        refine ⟨?_, by rw [List.length_append]; show rs.length + 1 ≤ n + 1; omega, fun q hq => ?_⟩
        · rw [List.nodup_append]
          exact ⟨k1, by simp, fun a ha b hb e => hn (by rw [List.mem_singleton] at hb; rw [← hb, ← e]; exact ha)⟩
        · rcases List.mem_append.mp hq with hq | hq
          · exact k3 q hq
          · rw [List.mem_singleton.mp hq]; exact ⟨hr, hx⟩
      · rw [List.getElem?_set_ne hij] at h1
        exact weak.2 j rs' d' h1 h2
theorem appAtN {xs : List (List (List Int))} {k : Int} {m : Nat} {x : List Int} {q : List (List Int)} (e : k = (m : Int)) (h : xs[m]? = some q) (hl : q.length ≤ 100000) : appAtG xs k x = some (xs.set m (q ++ [x])) := by
  have hm := (List.getElem?_eq_some_iff.mp h).1
  unfold appAtG
  have : ixN xs.length k = some m := by
    unfold ixN
    rw [e, if_pos (by omega), if_pos (by omega), Int.toNat_natCast]
  rw [this, bindS, h, bindS, if_pos (bigT hl)]
theorem insR_step {f : List (List (List Int))} {k : Int} {m : Nat} {r : List Int} {q : List (List Int)} (e : k = (m : Int)) (h : f[m]? = some q) (hl : q.length ≤ 100000) : ((if (!(decide (r ∈ q))) then (appAtG f k r).bind fun v => some v else some f) : Option (List (List (List Int)))) = some (insR f m r) := by
  unfold insR
  rw [h]
  by_cases hr : r ∈ q
  · rw [decide_eq_true hr, if_neg (by decide)]; simp [hr]
  · rw [decide_eq_false hr, if_pos (by decide), appAtN e h hl, bindS]; simp [hr]
theorem lt_of_at {n : Nat} {i : Nat} {x : Int} (h : ((List.range n).map fun i => ((i : Nat) : Int))[i]? = some x) : i < n ∧ x = (i : Int) := by
  obtain ⟨hi, hy⟩ := List.getElem?_eq_some_iff.mp h
  rw [List.length_map, List.length_range] at hi
  rw [List.getElem_map, List.getElem_range] at hy
  exact ⟨hi, hy.symm⟩
/-- a cell that is drawn from the numbers -/
theorem cell_of {ns : List Int} {z : Int} (hn : 1 ≤ ns.length) (hz : 0 ≤ z) : ∃ x ∈ ns, (modG z (ns.length : Int)).bind (fun v8 => (atI ns v8).bind fun v9 => some v9) = some x := by
  rw [modN (by omega), bindS]
  have a := Int.emod_nonneg z (show (ns.length : Int) ≠ 0 by omega)
  have b := Int.emod_lt_of_pos z (show (0 : Int) < ns.length by omega)
  rw [atN (n := (z % (ns.length : Int)).toNat) (by omega) (by omega)]
  exact ⟨_, List.getElem_mem _, rfl⟩
/-! the patterns numbered in another order -/
theorem perm_far : ∀ m : Nat, m ≤ 6 → ∀ f : Nat, f < m → ((List.range m).map fun k => (k + f) % m).Perm (List.range m) := by decide +kernel
/-- told at all names: what each has -/
theorem name_loop {α : Type} {f : Int → List α → Option (List α)} {m : Nat} {nm : List Nat} {v : Nat → α} {b : α} (hp : nm.Perm (List.range m)) (hf : ∀ i p : Nat, nm[i]? = some p → ∀ s : List α, s.length = m → s[p]? = some b → f (i : Int) s = some (s.set p (v i))) :
    ∃ s, forT f ((List.range m).map fun i => ((i : Nat) : Int)) ((List.range m).map fun _ => b) = some s ∧ s.length = m ∧ ∀ i p : Nat, nm[i]? = some p → s[p]? = some (v i) := by
  have hl : nm.length = m := by rw [hp.length_eq, List.length_range]
  have nd : nm.Nodup := hp.nodup_iff.mpr List.nodup_range
  have inj : ∀ i j p : Nat, nm[i]? = some p → nm[j]? = some p → i = j := fun i j p h1 h2 => by
    obtain ⟨a, b⟩ := List.getElem?_eq_some_iff.mp h1
    obtain ⟨a', b'⟩ := List.getElem?_eq_some_iff.mp h2
    have h1 : nm.idxOf p = i := by rw [← b, nd.idxOf_getElem]
    have h2 : nm.idxOf p = j := by rw [← b', nd.idxOf_getElem]
    exact h1.symm.trans h2
  have lt : ∀ i p : Nat, nm[i]? = some p → p < m := fun i p h => List.mem_range.mp (hp.mem_iff.mp (List.mem_of_getElem? h))
  obtain ⟨s, k1, k2, k3, k4⟩ := forT_inv0 (f := f) (xs := (List.range m).map fun i => ((i : Nat) : Int)) (s := (List.range m).map fun _ => b) (I := fun n s => s.length = m ∧ (∀ i p : Nat, nm[i]? = some p → i < n → s[p]? = some (v i)) ∧ ∀ i p : Nat, nm[i]? = some p → n ≤ i → s[p]? = some b)
    ⟨by simp, fun i p _ h => absurd h (by omega), fun i p h _ => by
      rw [List.getElem?_map, List.getElem?_range (lt i p h)]
      rfl⟩ fun n x s hx ⟨h1, h2, h3⟩ => by
    obtain ⟨hn, hx⟩ := List.getElem?_eq_some_iff.mp hx
    rw [List.length_map, List.length_range] at hn
    rw [List.getElem_map, List.getElem_range] at hx
    subst hx
    have hnm : nm[n]? = some nm[n] := List.getElem?_eq_getElem (by omega)
    refine ⟨_, hf n nm[n] hnm s h1 (h3 n _ hnm (Nat.le_refl _)), by rw [List.length_set]; exact h1, fun i p h hi => ?_, fun i p h hi => ?_⟩
    · by_cases e : i = n
      · subst e
        rw [hnm] at h
        cases h
        exact List.getElem?_set_self (by rw [h1]; exact lt _ _ hnm)
      · rw [List.getElem?_set_ne fun z => e (inj i n p h (by rw [hnm, z]))]
        exact h2 i p h (by omega)
    · rw [List.getElem?_set_ne fun z => by
        have := inj i n p h (by rw [hnm, z])
        omega]
      exact h3 i p h (by omega)
  rw [List.length_map, List.length_range] at k3
  exact ⟨s, k1, k2, fun i p h => k3 i p h (by have := (List.getElem?_eq_some_iff.mp h).1; omega)⟩
theorem TreeOf.of {cs : List Chr} {m : Nat} {fr : List Chr} {sh ds : List (List Chr)} {pa ps : List (Option Int)} {nm : List Nat} (W : Wk cs m fr sh pa) (m1 : 1 ≤ m) (hp : nm.Perm (List.range m)) (dl : ds.length = m) (pl : ps.length = m)
    (hd : ∀ i p : Nat, nm[i]? = some p → ds[p]? = some (dOf sh i)) (ht : ∀ i p : Nat, nm[i]? = some p → ps[p]? = some ((pa[i]?).bind fun q => q.bind fun z => (nm[z.toNat]?).map fun n => ((n : Nat) : Int))) : TreeOf ds ps := by
  have hl : nm.length = m := by rw [hp.length_eq, List.length_range]
  have nd : nm.Nodup := hp.nodup_iff.mpr List.nodup_range
  have lt : ∀ i p : Nat, nm[i]? = some p → p < m := fun i p h => List.mem_range.mp (hp.mem_iff.mp (List.mem_of_getElem? h))
  have idx : ∀ i p : Nat, nm[i]? = some p → nm.idxOf p = i := fun i p h => by
    obtain ⟨a, b⟩ := List.getElem?_eq_some_iff.mp h
    rw [← b, nd.idxOf_getElem]
  have sur : ∀ j, j < m → ∃ i : Nat, nm[i]? = some j ∧ i < m := fun j hj => by
    obtain ⟨i, h⟩ := List.mem_iff_getElem?.mp (hp.mem_iff.mpr (List.mem_range.mpr hj))
    exact ⟨i, h, by rw [← hl]; exact (List.getElem?_eq_some_iff.mp h).1⟩
  -- the parent of a name
  have par : ∀ (i j : Nat), nm[i]? = some j → ∀ z, ps[j]? = some (some z) → ∃ q p : Nat, pa[i]? = some (some (q : Int)) ∧ q < i ∧ nm[q]? = some p ∧ z = p := fun i j h z hz => by
    rw [ht i j h] at hz
    have hz := Option.some.inj hz
    obtain ⟨q, h1, h2⟩ := Option.bind_eq_some_iff.mp hz
    obtain ⟨y, h3, h4⟩ := Option.bind_eq_some_iff.mp h2
    subst h3
    obtain ⟨n, h5, h6⟩ := Option.map_eq_some_iff.mp h4
    obtain ⟨p, rfl, hp⟩ := W.pp i y h1
    rw [Int.toNat_natCast] at h5
    exact ⟨p, n, h1, hp, h5, h6.symm⟩
  have paro : ∀ (i j q p : Nat), nm[i]? = some j → pa[i]? = some (some (q : Int)) → nm[q]? = some p → PrO ps j p := fun i j q p h h1 h2 => by
    unfold PrO
    rw [ht i j h, h1]
    show some ((nm[((q : Nat) : Int).toNat]?).map fun n => ((n : Nat) : Int)) = _
    rw [Int.toNat_natCast, h2]
    rfl
  have dd : ∀ i j : Nat, nm[i]? = some j → dOf ds j = dOf sh i := fun i j h => by
    show (ds[j]?).getD [] = _
    rw [hd i j h]
    rfl
  have wd : Wd ds.length ps := by
    refine ⟨by rw [pl, dl], fun j z h => ?_, ⟨nm.idxOf, fun j p h => ?_⟩, ?_⟩
    · have hj : j < m := by rw [← pl]; exact (List.getElem?_eq_some_iff.mp h).1
      obtain ⟨i, hi, _⟩ := sur j hj
      obtain ⟨q, p, h1, h2, h3, h4⟩ := par i j hi z h
      exact ⟨p, h4, by rw [dl]; exact lt q p h3⟩
    · have hj : j < m := by rw [← pl]; exact (List.getElem?_eq_some_iff.mp h).1
      obtain ⟨i, hi, _⟩ := sur j hj
      obtain ⟨q, p', h1, h2, h3, h4⟩ := par i j hi _ h
      have e : p = p' := by omega
      subst e
      show nm.idxOf p < nm.idxOf j
      rw [idx i j hi, idx q p h3]
      exact h2
    · have h0 : nm[0]? = some nm[0] := List.getElem?_eq_getElem (by omega)
      refine ⟨nm[0], ?_, fun j h => ?_⟩
      · rw [ht 0 _ h0, W.p1 m1]
        rfl
      · have hj : j < m := by rw [← pl]; exact (List.getElem?_eq_some_iff.mp h).1
        obtain ⟨i, hi, him⟩ := sur j hj
        cases hpa : pa[i]? with
        | none =>
          have := List.getElem?_eq_none_iff.mp hpa
          rw [W.pl] at this
          omega
        | some q =>
          cases q with
          | none =>
            have := W.p0 i hpa
            subst this
            rw [h0] at hi
            exact (Option.some.inj hi).symm
          | some z =>
            obtain ⟨q, rfl, hq⟩ := W.pp i z hpa
            have hq2 : nm[q]? = some nm[q] := List.getElem?_eq_getElem (by omega)
            have := paro i j q _ hi hpa hq2
            unfold PrO at this
            rw [h] at this
            cases this
  have key : ∀ i i' j k l, i' < i → i < m → nm[i]? = some j → nm[i']? = some k → l ∈ dOf ds j → l ∈ dOf ds k → (∀ p, PrO ps j p → l ∉ dOf ds p) → False := fun i i' j k l h him hj hk h1 h2 h3 => by
    rw [dd i j hj] at h1
    rw [dd i' k hk] at h2
    obtain ⟨q, a, b⟩ := W.ri i i' l h him h1 h2
    obtain ⟨q', e, hq⟩ := W.pp i _ a
    have e : q = q' := by omega
    subst e
    have hq2 : nm[q]? = some nm[q] := List.getElem?_eq_getElem (by omega)
    exact h3 _ (paro i j q _ hj a hq2) (by rw [dd q _ hq2]; exact b)
  refine ⟨wd, fun j k l hj hk h1 h2 t1 t2 => ?_⟩
  rw [dl] at hj hk
  obtain ⟨i, hi, him⟩ := sur j hj
  obtain ⟨i', hi', him'⟩ := sur k hk
  rcases Nat.lt_trichotomy i i' with h | h | h
  · exact (key i' i k j l h him' hi' hi h2 h1 t2).elim
  · subst h
    rw [hi] at hi'
    exact Option.some.inj hi'
  · exact (key i i' j k l h him hi hi' h1 h2 t1).elim
theorem tree_ok (c : Int) : ∃ (cs : List Chr) (ds : List (List Chr)) (ps : List (Option Int)), T__law_tree c = some (ds, ps) ∧ TreeOf ds ps ∧ 1 ≤ ds.length ∧ ds.length ≤ 6 ∧ cs.length ≤ 6 ∧ ∀ d ∈ ds, d.Nodup ∧ 1 ≤ d.length ∧ d.length ≤ 4 ∧ ∀ x ∈ d, x ∈ cs := by
  obtain ⟨cs, e1, hcs, c6⟩ := letters_ok c
  obtain ⟨v2, e2, g2⟩ := mix_ok c 3 (by decide) (by decide)
  obtain ⟨m, em, m1, m6⟩ : ∃ m : Nat, 1 + v2 % 6 = (m : Int) ∧ 1 ≤ m ∧ m ≤ 6 := ⟨(1 + v2 % 6).toNat, by omega, by omega, by omega⟩
  obtain ⟨⟨fr, sh, pa⟩, k1, k2⟩ := forT_inv0 (f := T__law_tree_b2 c) (xs := (List.range m).map fun i => ((i : Nat) : Int)) (s := (cs, ([] : List (List Chr)), ([] : List (Option Int)))) (I := fun i s => Wk cs i s.1 s.2.1 s.2.2)
    ⟨rfl, rfl, hcs, fun _ h => h, fun _ => rfl, fun _ h => (nomatch h), fun j h => by simp at h, fun h => absurd h (by omega), fun j z h => by simp at h, fun j k l _ h => absurd h (by omega)⟩ fun i x s hx W => by
    obtain ⟨hi, rfl⟩ := lt_of_at hx
    obtain ⟨fr, sh, pa⟩ := s
    obtain ⟨a, b, d, h1, h2⟩ := tree_step c cs hcs c6 (by omega) W
    exact ⟨(a, b, d), h1, h2⟩
  rw [List.length_map, List.length_range] at k2
  simp only at k2
  obtain ⟨v24, e24, g24⟩ := mix_ok c 60 (by decide) (by decide)
  obtain ⟨v29, e29, g29⟩ := mix_ok c 61 (by decide) (by decide)
  obtain ⟨f, ef, hf⟩ : ∃ f : Nat, v24 % (m : Int) = (f : Int) ∧ f < m := by
    have a := Int.emod_nonneg v24 (show (m : Int) ≠ 0 by omega)
    have b := Int.emod_lt_of_pos v24 (show (0 : Int) < m by omega)
    exact ⟨(v24 % (m : Int)).toNat, by omega, by omega⟩
  have pf := perm_far m m6 f hf
  obtain ⟨nm, en, pn⟩ : ∃ nm : List Nat, ((if (decide ((v29 % (2 : Int)) = (1 : Int))) then some (List.reverse (((List.range m).map fun k => (k + f) % m).map fun i => ((i : Nat) : Int))) else some (((List.range m).map fun k => (k + f) % m).map fun i => ((i : Nat) : Int))) : Option (List Int)) = some (nm.map fun i => ((i : Nat) : Int)) ∧ nm.Perm (List.range m) := by
    split
    · exact ⟨_, by rw [← List.map_reverse], (List.reverse_perm _).trans pf⟩
    · exact ⟨_, rfl, pf⟩
  have nl : nm.length = m := by rw [pn.length_eq, List.length_range]
  have castN : ∀ k j : Nat, nm[k]? = some j → (nm.map fun i => ((i : Nat) : Int))[k]? = some (j : Int) := fun k j h => by rw [List.getElem?_map, h]; rfl
  have lt : ∀ i p : Nat, nm[i]? = some p → p < m ∧ i < m := fun i p h => ⟨List.mem_range.mp (pn.mem_iff.mp (List.mem_of_getElem? h)), by rw [← nl]; exact (List.getElem?_eq_some_iff.mp h).1⟩
  obtain ⟨ps, p1, p2, p3⟩ := name_loop (f := T__law_tree_b3 (fr, sh, pa) (nm.map fun i => ((i : Nat) : Int))) (m := m) (nm := nm) (b := (none : Option Int)) (v := fun i => (pa[i]?).bind fun q => q.bind fun z => (nm[z.toNat]?).map fun n => ((n : Nat) : Int)) pn fun i p hi s hs hb => by
    obtain ⟨hpm, him⟩ := lt i p hi
    have hpa : pa[i]? = some (pa[i]'(by rw [k2.pl]; exact him)) := List.getElem?_eq_getElem _
    unfold T__law_tree_b3
    simp only
    rw [atQ (n := i) rfl hpa, bindS, hpa]
    cases hq : pa[i]'(by rw [k2.pl]; exact him) with
    | none =>
      simp only [Option.isSome_none, Bool.false_eq_true, if_false]
      congr 1
      refine (List.ext_getElem? fun k => ?_)
      by_cases e : p = k
      · subst e
        rw [List.getElem?_set_self (by omega), hb]
        rfl
      · rw [List.getElem?_set_ne e]
    | some z =>
      rw [hq] at hpa
      obtain ⟨q, rfl, hqi⟩ := k2.pp i z hpa
      have hnq : nm[q]? = some nm[q] := List.getElem?_eq_getElem (by omega)
      simp only [Option.isSome_some, if_true]
      rw [bindS, bindS, atQ rfl (castN q _ hnq), bindS, atQ rfl (castN i p hi), bindS]
      have : putL s (p : Int) (some ((nm[q] : Nat) : Int)) = some (s.set p (some ((nm[q] : Nat) : Int))) := by
        unfold putL
        rw [if_pos (bigT (by omega))]
        have : ixN s.length (p : Int) = some p := by
          unfold ixN
          rw [if_pos (by omega), if_pos (by omega), Int.toNat_natCast]
        rw [this]
        rfl
      rw [this, bindS]
      show _ = some (s.set p ((nm[((q : Nat) : Int).toNat]?).map fun n => ((n : Nat) : Int)))
      rw [Int.toNat_natCast, hnq]
      rfl
  obtain ⟨ds, d1, d2, d3⟩ := name_loop (f := T__law_tree_b4 (fr, sh, pa) (nm.map fun i => ((i : Nat) : Int))) (m := m) (nm := nm) (b := ([] : List Chr)) (v := fun i => dOf sh i) pn fun i p hi s hs hb => by
    obtain ⟨hpm, him⟩ := lt i p hi
    unfold T__law_tree_b4
    simp only
    rw [atQ (n := i) rfl (dOf_at (by rw [k2.sl]; exact him)), bindS, atQ rfl (castN i p hi), bindS]
    have : putL s (p : Int) (dOf sh i) = some (s.set p (dOf sh i)) := by
      unfold putL
      rw [if_pos (bigT (by omega))]
      have : ixN s.length (p : Int) = some p := by
        unfold ixN
        rw [if_pos (by omega), if_pos (by omega), Int.toNat_natCast]
      rw [this]
      rfl
    rw [this, bindS]
  refine ⟨cs, ds, ps, ?_, TreeOf.of k2 m1 pn d2 p2 d3 p3, by omega, by omega, by omega, fun d hd => ?_⟩
  · unfold T__law_tree
    rw [e1, bindS, e2, bindS, rangeN m em (by omega), bindS, k1, bindS, e24, bindS]
    simp only
    rw [k2.sl, modN (by omega), bindS, rangeN m rfl (by omega), bindS, ef]
    rw [lcG_map (h := fun x => (x + (f : Int)) % (m : Int)) (fun x _ => ⟨rfl, by rw [modN (by omega)]; rfl⟩) (by simp; omega), bindS, e29, bindS]
    have e : (((List.range m).map fun i => ((i : Nat) : Int)).map fun x => (x + (f : Int)) % (m : Int)) = ((List.range m).map fun k => (k + f) % m).map fun i => ((i : Nat) : Int) := by
      rw [List.map_map, List.map_map]
      refine List.map_congr_left fun k _ => ?_
      show (((k : Nat) : Int) + (f : Int)) % (m : Int) = (((k + f) % m : Nat) : Int)
      rw [Int.natCast_emod, Int.natCast_add]
    rw [e, en, bindS, bindS]
    have e2 : (((List.range m).map fun i => ((i : Nat) : Int)).map fun _ => (none : Option Int)) = (List.range m).map fun _ => (none : Option Int) := by rw [List.map_map]; rfl
    have e3 : (((List.range m).map fun i => ((i : Nat) : Int)).map fun _ => ([] : List Chr)) = (List.range m).map fun _ => ([] : List Chr) := by rw [List.map_map]; rfl
    rw [lcG_map (h := fun _ => (none : Option Int)) (fun x _ => ⟨rfl, rfl⟩) (by simp; omega), bindS, e2, bindS, p1, bindS, bindS]
    rw [lcG_map (h := fun _ => ([] : List Chr)) (fun x _ => ⟨rfl, rfl⟩) (by simp; omega), bindS, e3, bindS, d1, bindS]
  · obtain ⟨j, hj, rfl⟩ := List.getElem_of_mem hd
    obtain ⟨i, hi⟩ := List.mem_iff_getElem?.mp (pn.mem_iff.mpr (List.mem_range.mpr (show j < m by omega)))
    have := d3 i j hi
    rw [List.getElem?_eq_getElem hj] at this
    rw [Option.some.inj this]
    have him := (lt i j hi).2
    obtain ⟨a, b, c', e⟩ := k2.hd _ (List.mem_of_getElem? (dOf_at (by rw [k2.sl]; exact him)))
    exact ⟨a, b, c', fun x hx => (e x hx).1⟩
theorem numbers_ok (c : Int) : ∃ ns, T__law_numbers c = some ns ∧ 2 ≤ ns.length ∧ ns.length ≤ 3 := by
  obtain ⟨v2, e2, g2⟩ := mix_ok c 70 (by decide) (by decide)
  unfold T__law_numbers
  rw [modN (by decide), bindS, e2, bindS]
  obtain ⟨n, en, hn⟩ : ∃ n : Nat, v2 % 3 = (n : Int) ∧ n < 3 := ⟨(v2 % 3).toNat, by omega, by omega⟩
  rw [atN en (by simpa using hn), bindS]
  match n, hn with
  | 0, _ => exact ⟨_, rfl, by simp, by simp⟩
  | 1, _ => exact ⟨_, rfl, by simp, by simp⟩
  | 2, _ => exact ⟨_, rfl, by simp, by simp⟩
theorem insR_len {f : List (List (List Int))} {i j : Nat} {r : List Int} {rs : List (List Int)} (h : (insR f i r)[j]? = some rs) : ∃ rs0, f[j]? = some rs0 ∧ rs.length ≤ rs0.length + if j = i then 1 else 0 := by
  unfold insR at h
  cases e : f[i]? with
  | none =>
    rw [e] at h
    exact ⟨rs, h, Nat.le_add_right _ _⟩
  | some q =>
    rw [e] at h
    simp only at h
    split at h
    · exact ⟨rs, h, Nat.le_add_right _ _⟩
    · by_cases hji : j = i
      · subst hji
        rw [List.getElem?_set_self (List.getElem?_eq_some_iff.mp e).1] at h
        cases h
        exact ⟨q, e, by simp⟩
      · rw [List.getElem?_set_ne (Ne.symm hji)] at h
        exact ⟨rs, h, Nat.le_add_right _ _⟩
theorem rows_ok (ds : List (List Chr)) (cells : List Int) (total : Int) (h1 : 1 ≤ ds.length) (h6 : ds.length ≤ 6) (hc : cells.length ≤ 100) (hd : ∀ d ∈ ds, 1 ≤ d.length ∧ d.length ≤ 4) :
    ∃ (ns : List Int) (R : List (List (List Int))), T__law_numbers total = some ns ∧ 2 ≤ ns.length ∧ ns.length ≤ 3 ∧ T__law_rows ds cells total = some R ∧ FInv ds ns 200 R ∧ (∀ rs ∈ R, rs.Pairwise (· < ·)) ∧ ∀ rs ∈ R, rs.length ≤ cells.length + 1 := by
  obtain ⟨ns, e1, n2, n3⟩ := numbers_ok total
  obtain ⟨v13, e13, g13⟩ := mix_ok total 71 (by decide) (by decide)
  have f0 : FInv ds ns 0 (ds.map fun _ => []) := ⟨by simp, fun i rs d q1 q2 => by
    rw [List.getElem?_map, q2] at q1
    cases q1
    exact ⟨List.nodup_nil, Nat.le_refl _, fun _ h => nomatch h⟩⟩
  obtain ⟨F1, k1, k2⟩ := forT_inv0 (f := T__law_rows_b1 ds ns) (xs := cells) (s := ds.map fun _ => []) (I := fun i f => FInv ds ns i f) f0 fun i c f hi hf => by
    have hi' := (List.getElem?_eq_some_iff.mp hi).1
    obtain ⟨v3, e3, g3⟩ := mix_ok c 1 (by decide) (by decide)
    obtain ⟨n, en, hn⟩ : ∃ n : Nat, v3 % (ds.length : Int) = (n : Int) ∧ n < ds.length := by
      have a := Int.emod_nonneg v3 (show (ds.length : Int) ≠ 0 by omega)
      have b := Int.emod_lt_of_pos v3 (show (0 : Int) < ds.length by omega)
      exact ⟨(v3 % (ds.length : Int)).toNat, by omega, by omega⟩
    have hdn := hd ds[n] (List.getElem_mem hn)
    have hcell : ∀ x : Int, ∃ y ∈ ns, 0 ≤ x → x ≤ 100 → (T__law_mix c ((2 : Int) + x)).bind (fun v7 => (modG v7 (ns.length : Int)).bind fun v8 => (atI ns v8).bind fun v9 => some v9) = some y := fun x => by
      by_cases hx : 0 ≤ x ∧ x ≤ 100
      · obtain ⟨v7, e7, g7⟩ := mix_ok c (2 + x) (by omega) (by omega)
        obtain ⟨y, hy, ey⟩ := cell_of (ns := ns) (z := v7) (by omega) g7
        exact ⟨y, hy, fun _ _ => by rw [e7, bindS]; exact ey⟩
      · exact ⟨ns[0], List.getElem_mem (by omega), fun a b => absurd ⟨a, b⟩ hx⟩
    let g : Int → Int := fun x => Classical.choose (hcell x)
    have hg : ∀ x, g x ∈ ns ∧ (0 ≤ x → x ≤ 100 → _) := fun x => Classical.choose_spec (hcell x)
    have hlf : n < f.length := by rw [hf.1]; exact hn
    obtain ⟨q1, q2, q3⟩ := hf.2 n f[n] ds[n] (List.getElem?_eq_getElem hlf) (List.getElem?_eq_getElem hn)
    unfold T__law_rows_b1
    rw [e3, bindS, modN (by omega), bindS, en, atN rfl hn, bindS, rangeN ds[n].length rfl (by omega), bindS]
    rw [lcG_map (h := g) (fun x hx => ⟨rfl, by
      obtain ⟨i, hi, rfl⟩ := List.mem_map.mp hx
      have := List.mem_range.mp hi
      exact (hg _).2 (by omega) (by omega)⟩) (by simp; omega), bindS, atN rfl hlf, bindS]
    refine ⟨_, insR_step rfl (List.getElem?_eq_getElem hlf) (by omega), insR_inv hf (List.getElem?_eq_getElem hn) (by simp) fun x hx => ?_⟩
    obtain ⟨z, _, rfl⟩ := List.mem_map.mp hx
    exact (hg z).1
  obtain ⟨F2, k3, k4, k5⟩ : ∃ F2, ((if (decide ((0 : Int) < (v13 % (4 : Int)))) then (rangeG (ds.length : Int)).bind fun v14 => (forT (T__law_rows_b2 ds ns) v14 F1).bind fun s4 => some s4 else some F1) : Option (List (List (List Int)))) = some F2 ∧ FInv ds ns 200 F2 ∧ ∀ rs ∈ F2, rs.length ≤ cells.length + 1 := by
    have weak : ∀ n f, n ≤ 200 → FInv ds ns n f → FInv ds ns 200 f := fun n f h hf => ⟨hf.1, fun j rs d' h1 h2 => let ⟨a, b, c⟩ := hf.2 j rs d' h1 h2; ⟨a, by omega, c⟩⟩
    split
    · obtain ⟨F2, q1, q2⟩ := forT_inv0 (f := T__law_rows_b2 ds ns) (xs := (List.range ds.length).map fun i => ((i : Nat) : Int)) (s := F1) (I := fun i f => FInv ds ns (cells.length + i) f ∧ ∀ (j : Nat) rs, f[j]? = some rs → rs.length ≤ cells.length + if j < i then 1 else 0) ⟨k2, fun j rs e => by
        have hj := (List.getElem?_eq_some_iff.mp e).1
        rw [k2.1] at hj
        exact (k2.2 j rs ds[j] e (List.getElem?_eq_getElem hj)).2.1⟩ fun i x f hx ⟨hf, hlen⟩ => by
        obtain ⟨hi, rfl⟩ := lt_of_at hx
        have hlf : i < f.length := by rw [hf.1]; exact hi
        obtain ⟨q1, q2, q3⟩ := hf.2 i f[i] ds[i] (List.getElem?_eq_getElem hlf) (List.getElem?_eq_getElem hi)
        have hcell : ∀ x : Chr, ∃ y ∈ ns, (modG (x.val : Int) (ns.length : Int)).bind (fun v8 => (atI ns v8).bind fun v9 => some v9) = some y := fun x => cell_of (by omega) (by omega)
        let g : Chr → Int := fun x => Classical.choose (hcell x)
        have hg : ∀ x, g x ∈ ns ∧ _ := fun x => Classical.choose_spec (hcell x)
        have hdn := hd ds[i] (List.getElem_mem hi)
        unfold T__law_rows_b2
        rw [atN rfl hi, bindS, lcG_map (h := g) (fun x hx => ⟨rfl, (hg x).2⟩) (by omega), bindS, atN rfl hlf, bindS]
        refine ⟨_, insR_step rfl (List.getElem?_eq_getElem hlf) (by omega), insR_inv hf (List.getElem?_eq_getElem hi) (by simp) (fun x hx => ?_), fun j rs e => ?_⟩
        · obtain ⟨z, _, rfl⟩ := List.mem_map.mp hx
          exact (hg z).1
        · obtain ⟨rs0, e0, h0⟩ := insR_len e
          have := hlen j rs0 e0
          by_cases hji : j = i
          · subst hji
            simp at this h0 ⊢
            omega
          · rw [if_neg hji] at h0
            by_cases hlt : j < i
            · rw [if_pos hlt] at this; rw [if_pos (by omega)]; omega
            · rw [if_neg hlt] at this; rw [if_neg (by omega)]; omega
      rw [rangeN ds.length rfl (by omega), bindS, q1, bindS]
      refine ⟨F2, rfl, weak _ _ (by simp; omega) q2.1, fun rs hrs => ?_⟩
      obtain ⟨j, hj, rfl⟩ := List.getElem_of_mem hrs
      have := q2.2 j _ (List.getElem?_eq_getElem hj)
      split at this <;> omega
    · refine ⟨F1, rfl, weak _ _ (by omega) k2, fun rs hrs => ?_⟩
      obtain ⟨j, hj, rfl⟩ := List.getElem_of_mem hrs
      have hj2 : j < ds.length := by rw [← k2.1]; exact hj
      have := (k2.2 j _ ds[j] (List.getElem?_eq_getElem hj) (List.getElem?_eq_getElem hj2)).2.1
      omega
  -- each sorted
  have hsrt : ∀ rs : List (List Int), ∃ ys, rs ∈ F2 → srt (eT eI) rs = some ys ∧ ys.Perm rs ∧ ys.Pairwise (· ≤ ·) := fun rs => by
    by_cases h : rs ∈ F2
    · obtain ⟨i, hi, rfl⟩ := List.getElem_of_mem h
      have hi2 : i < ds.length := by rw [← k4.1]; exact hi
      obtain ⟨q1, q2, q3⟩ := k4.2 i F2[i] ds[i] (List.getElem?_eq_getElem hi) (List.getElem?_eq_getElem hi2)
      obtain ⟨ys, a, b, c⟩ := srtR_ok (l := F2[i]) (by omega) fun r hr e => by
        have := (q3 r hr).1
        have := (hd ds[i] (List.getElem_mem hi2)).1
        rw [e] at *
        simp at *
        omega
      exact ⟨ys, fun _ => ⟨a, b, c⟩⟩
    · exact ⟨[], fun h2 => absurd h2 h⟩
  let g : List (List Int) → List (List Int) := fun rs => Classical.choose (hsrt rs)
  have hg : ∀ rs, rs ∈ F2 → srt (eT eI) rs = some (g rs) ∧ (g rs).Perm rs ∧ (g rs).Pairwise (· ≤ ·) := fun rs => Classical.choose_spec (hsrt rs)
  refine ⟨ns, F2.map g, e1, n2, n3, ?_, ⟨by rw [List.length_map]; exact k4.1, fun i rs d q1 q2 => ?_⟩, fun rs h => ?_, fun rs h => ?_⟩
  · unfold T__law_rows
    rw [e1, bindS, lcG_map (h := fun _ => []) (fun x _ => ⟨rfl, rfl⟩) (by omega), bindS, k1, bindS, e13, bindS, k3, bindS]
    rw [lcG_map (h := g) (fun x hx => ⟨rfl, by rw [(hg x hx).1]; rfl⟩) (by rw [k4.1]; omega)]
    rfl
  · rw [List.getElem?_map] at q1
    cases e : F2[i]? with
    | none => rw [e] at q1; cases q1
    | some rs0 =>
      rw [e] at q1
      cases q1
      obtain ⟨a, b, c⟩ := k4.2 i rs0 d e q2
      obtain ⟨_, p, _⟩ := hg rs0 (List.mem_of_getElem? e)
      exact ⟨p.nodup_iff.mpr a, by rw [p.length_eq]; exact b, fun r hr => c r (p.mem_iff.mp hr)⟩
  · obtain ⟨rs0, h0, rfl⟩ := List.mem_map.mp h
    obtain ⟨_, p, s⟩ := hg rs0 h0
    obtain ⟨i, hi, rfl⟩ := List.getElem_of_mem h0
    have hi2 : i < ds.length := by rw [← k4.1]; exact hi
    exact strictR s (p.nodup_iff.mpr (k4.2 i F2[i] ds[i] (List.getElem?_eq_getElem hi) (List.getElem?_eq_getElem hi2)).1)
  · obtain ⟨rs0, h0, rfl⟩ := List.mem_map.mp h
    obtain ⟨_, p, _⟩ := hg rs0 h0
    rw [p.length_eq]
    exact k5 rs0 h0
/-! joins -/
theorem lookK_app {m xs : List (Chr × Int)} {l : Chr} : lookK (m ++ xs) l = (lookK m l).or (lookK xs l) := by
  unfold lookK
  rw [List.find?_append]
  cases m.find? (fun p => decide (p.1 = l)) <;> rfl
theorem lookK_fil {xs : List (Chr × Int)} {P : Chr → Bool} {l : Chr} : lookK (xs.filter fun q => P q.1) l = if P l then lookK xs l else none := by
  induction xs with
  | nil => unfold lookK; cases P l <;> rfl
  | cons x xs ih =>
    unfold lookK at ih ⊢
    by_cases h : x.1 = l
    · cases hp : P l with
      | true =>
        rw [List.filter_cons_of_pos (by rw [h]; exact hp), List.find?_cons_of_pos (by simpa using h), List.find?_cons_of_pos (by simpa using h)]
        rfl
      | false =>
        rw [List.filter_cons_of_neg (by rw [h, hp]; decide), ih, hp]
        rfl
    · rw [List.find?_cons_of_neg (by simpa using h)]
      cases hq : P x.1 with
      | true => rw [List.filter_cons_of_pos (by exact hq), List.find?_cons_of_neg (by simpa using h)]; exact ih
      | false => rw [List.filter_cons_of_neg (by rw [hq]; decide)]; exact ih
theorem lookK_zip : ∀ {d : List Chr} {r : List Int} {l : Chr}, r.length = d.length → lookK (d.zip r) l = if l ∈ d then some (atL d r l) else none
  | [], _, l, _ => by simp [lookK]
  | c :: d, [], l, h => by simp at h
  | c :: d, x :: r, l, h => by
    have ih := lookK_zip (d := d) (r := r) (l := l) (by simpa using h)
    rw [List.zip_cons_cons]
    by_cases e : c = l
    · subst e
      rw [if_pos List.mem_cons_self]
      unfold lookK atL
      rw [List.find?_cons_of_pos (by simp)]
      simp
    · have hb : (c == l) = false := by simpa using e
      have e1 : lookK ((c, x) :: d.zip r) l = lookK (d.zip r) l := by
        unfold lookK
        rw [List.find?_cons_of_neg (by simpa using e)]
      have e2 : atL (c :: d) (x :: r) l = atL d r l := by
        unfold atL
        rw [List.idxOf_cons, hb]
        simp
      rw [e1, ih, e2]
      by_cases hl : l ∈ d
      · rw [if_pos hl, if_pos (List.mem_cons_of_mem _ hl)]
      · rw [if_neg hl, if_neg (fun q => (List.mem_cons.mp q).elim (fun q => e q.symm) hl)]
open Classical in
noncomputable def Joi (m : List (Chr × Int)) (d : List Chr) (r : List Int) : Option (List (Chr × Int)) :=
  if ∀ l ∈ d, ∀ w, lookK m l = some w → w = atL d r l then some (m ++ (d.zip r).filter fun q => (lookK m q.1).isNone) else none
theorem Joi_some {m m' : List (Chr × Int)} {d : List Chr} {r : List Int} (h : Joi m d r = some m') : (∀ l ∈ d, ∀ w, lookK m l = some w → w = atL d r l) ∧ m' = m ++ (d.zip r).filter fun q => (lookK m q.1).isNone := by
  unfold Joi at h
  split at h
  · rename_i q
    exact ⟨q, (Option.some.inj h).symm⟩
  · cases h
theorem Joi_look {m m' : List (Chr × Int)} {d : List Chr} {r : List Int} (h : Joi m d r = some m') (hr : r.length = d.length) (l : Chr) : lookK m' l = (lookK m l).or (if l ∈ d then some (atL d r l) else none) := by
  obtain ⟨_, rfl⟩ := Joi_some h
  rw [lookK_app, lookK_fil (P := fun c => (lookK m c).isNone), lookK_zip hr]
  cases lookK m l <;> rfl
def SatF (zs : List (List Chr × List (List Int))) (f : Chr → Int) : Prop := ∀ p ∈ zs, ∃ r ∈ p.2, ∀ l ∈ p.1, atL p.1 r l = f l
structure JInv (zs : List (List Chr × List (List Int))) (S : List (List (Chr × Int))) : Prop where
  k : ∀ m ∈ S, ∀ l, (lookK m l).isSome = true ↔ ∃ p ∈ zs, l ∈ p.1
  s : ∀ m ∈ S, ∀ p ∈ zs, ∃ r ∈ p.2, ∀ l ∈ p.1, lookK m l = some (atL p.1 r l)
  c : ∀ f, SatF zs f → ∃ m ∈ S, ∀ l v, lookK m l = some v → f l = v
  n : S.Pairwise fun m m' => ∃ l, (lookK m l).isSome = true ∧ lookK m l ≠ lookK m' l
theorem JInv.nil : JInv [] [[]] := ⟨fun m hm l => by rw [List.mem_singleton.mp hm]; simp [lookK], fun _ _ p hp => (nomatch hp), fun f _ => ⟨[], by simp, fun l v h => by simp [lookK] at h⟩, List.pairwise_singleton _ _⟩
noncomputable def joins (S : List (List (Chr × Int))) (p : List Chr × List (List Int)) : List (List (Chr × Int)) := S.flatMap fun m => p.2.filterMap fun r => Joi m p.1 r
theorem JInv.step {zs : List (List Chr × List (List Int))} {S : List (List (Chr × Int))} {p : List Chr × List (List Int)} (I : JInv zs S) (hd : p.1.Nodup) (hr : ∀ r ∈ p.2, r.length = p.1.length) (hn : p.2.Nodup) : JInv (zs ++ [p]) (joins S p) := by
  have out : ∀ m', m' ∈ joins S p → ∃ m ∈ S, ∃ r ∈ p.2, Joi m p.1 r = some m' := fun m' h => by
    obtain ⟨m, hm, h⟩ := List.mem_flatMap.mp h
    obtain ⟨r, hr, h⟩ := List.mem_filterMap.mp h
    exact ⟨m, hm, r, hr, h⟩
  refine ⟨fun m' h l => ?_, fun m' h q hq => ?_, fun f hf => ?_, ?_⟩
  · obtain ⟨m, hm, r, hr', e⟩ := out m' h
    rw [Joi_look e (hr r hr') l, Option.isSome_or, Bool.or_eq_true, I.k m hm l]
    constructor
    · rintro (⟨q, hq, hl⟩ | h2)
      · exact ⟨q, List.mem_append_left _ hq, hl⟩
      · refine ⟨p, by simp, ?_⟩
        by_cases hl : l ∈ p.1
        · exact hl
        · rw [if_neg hl] at h2; cases h2
    · rintro ⟨q, hq, hl⟩
      rcases List.mem_append.mp hq with hq | hq
      · exact .inl ⟨q, hq, hl⟩
      · rw [List.mem_singleton.mp hq] at hl
        exact .inr (by rw [if_pos hl]; rfl)
  · obtain ⟨m, hm, r, hr', e⟩ := out m' h
    rcases List.mem_append.mp hq with hq | hq
    · obtain ⟨r2, h2, h3⟩ := I.s m hm q hq
      exact ⟨r2, h2, fun l hl => by rw [Joi_look e (hr r hr') l, h3 l hl]; rfl⟩
    · rw [List.mem_singleton.mp hq]
      refine ⟨r, hr', fun l hl => ?_⟩
      rw [Joi_look e (hr r hr') l, if_pos hl]
      cases hm' : lookK m l with
      | none => rfl
      | some w => rw [(Joi_some e).1 l hl w hm']; rfl
  · obtain ⟨m, hm, h1⟩ := I.c f fun q hq => hf q (List.mem_append_left _ hq)
    obtain ⟨r, hr', h2⟩ := hf p (by simp)
    have e : Joi m p.1 r = some (m ++ (p.1.zip r).filter fun q => (lookK m q.1).isNone) := by
      have ok : ∀ l ∈ p.1, ∀ w, lookK m l = some w → w = atL p.1 r l := fun l hl w hw => by rw [h2 l hl, h1 l w hw]
      exact if_pos ok
    refine ⟨_, List.mem_flatMap.mpr ⟨m, hm, List.mem_filterMap.mpr ⟨r, hr', e⟩⟩, fun l v hv => ?_⟩
    rw [Joi_look e (hr r hr') l] at hv
    cases hm' : lookK m l with
    | some w => rw [hm'] at hv; exact h1 l v (hm'.trans hv)
    | none =>
      rw [hm'] at hv
      by_cases hl : l ∈ p.1
      · rw [if_pos hl] at hv
        cases hv
        exact (h2 l hl).symm
      · rw [if_neg hl] at hv; cases hv
  · unfold joins
    rw [List.pairwise_flatMap]
    refine ⟨fun m hm => ?_, ?_⟩
    · rw [List.pairwise_filterMap]
      refine List.Pairwise.imp_of_mem (fun {r r'} h1 h2 hne m1 e1 m2 e2 => ?_) hn
      obtain ⟨l, hl, hx⟩ : ∃ l ∈ p.1, atL p.1 r l ≠ atL p.1 r' l := Classical.byContradiction fun hno => hne (atL_ext hd (hr r h1) (hr r' h2) fun l hl => Classical.byContradiction fun hh => hno ⟨l, hl, hh⟩)
      have val : ∀ r m1, r ∈ p.2 → Joi m p.1 r = some m1 → lookK m1 l = some (atL p.1 r l) := fun r m1 h e => by
        rw [Joi_look e (hr r h) l, if_pos hl]
        cases hm' : lookK m l with
        | none => rfl
        | some w => rw [(Joi_some e).1 l hl w hm']; rfl
      refine ⟨l, by rw [val r m1 h1 e1]; rfl, ?_⟩
      rw [val r m1 h1 e1, val r' m2 h2 e2]
      exact fun h => hx (Option.some.inj h)
    · refine List.Pairwise.imp_of_mem (fun {m m'} h1 h2 ⟨l, hs, hx⟩ x hx1 y hy1 => ?_) I.n
      obtain ⟨r, hr1, e1⟩ := List.mem_filterMap.mp hx1
      obtain ⟨r', hr2, e2⟩ := List.mem_filterMap.mp hy1
      have hs' : (lookK m' l).isSome = true := (I.k m' h2 l).mpr ((I.k m h1 l).mp hs)
      have a1 : lookK x l = lookK m l := by
        rw [Joi_look e1 (hr r hr1) l]
        cases hm : lookK m l with
        | none => rw [hm] at hs; cases hs
        | some w => rfl
      have a2 : lookK y l = lookK m' l := by
        rw [Joi_look e2 (hr r' hr2) l]
        cases hm : lookK m' l with
        | none => rw [hm] at hs'; cases hs'
        | some w => rfl
      exact ⟨l, by rw [a1]; exact hs, by rw [a1, a2]; exact hx⟩
/-- all tuples of n cells of ns -/
def pro (ns : List Int) : Nat → List (List Int)
  | 0 => [[]]
  | n + 1 => (pro ns n).flatMap fun t => ns.map fun x => x :: t
theorem pro_mem {ns : List Int} : ∀ {n : Nat} {t : List Int}, t.length = n → (∀ x ∈ t, x ∈ ns) → t ∈ pro ns n
  | 0, t, h, _ => by rw [List.eq_nil_of_length_eq_zero h]; exact List.mem_singleton.mpr rfl
  | n + 1, [], h, _ => by simp at h
  | n + 1, x :: t, h, hx => List.mem_flatMap.mpr ⟨t, pro_mem (by simpa using h) fun y hy => hx y (List.mem_cons_of_mem _ hy), List.mem_map.mpr ⟨x, hx x List.mem_cons_self, rfl⟩⟩
theorem pro_len {ns : List Int} : ∀ n, (pro ns n).length = ns.length ^ n
  | 0 => rfl
  | n + 1 => by
    unfold pro
    rw [List.length_flatMap, Nat.pow_succ, ← pro_len n]
    induction pro ns n with
    | nil => simp
    | cons t P ih => rw [List.map_cons, List.sum_cons, ih, List.length_map, List.length_cons]; rw [Nat.add_mul, Nat.one_mul, Nat.add_comm]
/-- what the joins hold is few -/
theorem JInv.few {zs : List (List Chr × List (List Int))} {S : List (List (Chr × Int))} (I : JInv zs S) {cs : List Chr} {ns : List Int} (hc : ∀ p ∈ zs, ∀ l ∈ p.1, l ∈ cs) (hr : ∀ p ∈ zs, ∀ r ∈ p.2, r.length = p.1.length ∧ ∀ x ∈ r, x ∈ ns) (h6 : cs.length ≤ 6) (h1 : 1 ≤ ns.length) (h3 : ns.length ≤ 3) : S.length ≤ 729 := by
  let g : List (Chr × Int) → List Int := fun m => cs.map fun l => (lookK m l).getD ns[0]
  have nd : (S.map g).Nodup := by
    refine List.pairwise_map.mpr (List.Pairwise.imp_of_mem (fun {m m'} hm hm' ⟨l, hs, hx⟩ e => hx ?_) I.n)
    obtain ⟨p, hp, hl⟩ := (I.k m hm l).mp hs
    have hs' := (I.k m' hm' l).mpr ⟨p, hp, hl⟩
    have := List.map_inj_left.mp e l (hc p hp l hl)
    obtain ⟨a, ea⟩ := Option.isSome_iff_exists.mp hs
    obtain ⟨b, eb⟩ := Option.isSome_iff_exists.mp hs'
    rw [ea, eb] at this ⊢
    exact congrArg some this
  have mem : ∀ t ∈ S.map g, t ∈ pro ns cs.length := fun t ht => by
    obtain ⟨m, hm, rfl⟩ := List.mem_map.mp ht
    refine pro_mem (by simp [g]) fun x hx => ?_
    obtain ⟨l, _, rfl⟩ := List.mem_map.mp hx
    cases e : lookK m l with
    | none => exact List.getElem_mem _
    | some v =>
      obtain ⟨p, hp, hl⟩ := (I.k m hm l).mp (by rw [e]; rfl)
      obtain ⟨r, hr', h⟩ := I.s m hm p hp
      have hv := h l hl
      rw [e] at hv
      obtain ⟨z1, z2⟩ := hr p hp r hr'
      have hlt := idxOf_lt hl
      show v ∈ ns
      rw [Option.some.inj hv]
      unfold atL
      rw [List.getElem?_eq_getElem (by omega)]
      exact z2 _ (List.getElem_mem _)
  have := nodup_le nd mem
  rw [List.length_map, pro_len] at this
  refine Nat.le_trans this (Nat.le_trans (Nat.pow_le_pow_left h3 _) (Nat.le_trans (Nat.pow_le_pow_right (n := 3) (by decide) h6) (by decide)))
/-! answers -/
structure Ans' (ds : List (List Chr)) (R : List (List (List Int))) (ns : List Int) (cs : List Chr) : Prop where
  h1 : 1 ≤ ds.length
  h6 : ds.length ≤ 6
  hd : ∀ d ∈ ds, d.Nodup ∧ 1 ≤ d.length ∧ d.length ≤ 4 ∧ ∀ l ∈ d, l ∈ cs
  c6 : cs.length ≤ 6
  n1 : 1 ≤ ns.length
  n3 : ns.length ≤ 3
  F : FInv ds ns 200 R
theorem zip_pair {d : List Chr} {r : List Int} (hd : d.Nodup) (hr : r.length = d.length) {q : Chr × Int} (h : q ∈ d.zip r) : q.1 ∈ d ∧ q.2 = atL d r q.1 := by
  obtain ⟨i, hi⟩ := List.mem_iff_getElem?.mp h
  obtain ⟨h1, h2⟩ := List.getElem?_zip_eq_some.mp hi
  obtain ⟨hi, e⟩ := List.getElem?_eq_some_iff.mp h1
  refine ⟨e ▸ List.getElem_mem hi, ?_⟩
  unfold atL
  rw [← e, hd.idxOf_getElem, h2]
  rfl
theorem pair_zip {d : List Chr} {r : List Int} (hr : r.length = d.length) {l : Chr} (h : l ∈ d) : (l, atL d r l) ∈ d.zip r := by
  have hl := idxOf_lt h
  refine List.mem_iff_getElem?.mpr ⟨d.idxOf l, List.getElem?_zip_eq_some.mpr ⟨by rw [List.getElem?_eq_getElem hl, List.getElem_idxOf], ?_⟩⟩
  unfold atL
  rw [List.getElem?_eq_getElem (by omega)]
  rfl
open Classical in
theorem joined_loop : ∀ (ps m : List (Chr × Int)), (ps.map (·.1)).Nodup → m.length + ps.length ≤ 1000 → forC T_joined_b1 ps m = some (if ∀ p ∈ ps, ∀ w, lookK m p.1 = some w → w = p.2 then .nx (m ++ ps.filter fun q => (lookK m q.1).isNone) else .rt none)
  | [], m, _, _ => by
    rw [if_pos (fun p hp => nomatch hp)]
    simp [forC]
  | p :: ps, m, hn, hl => by
    rw [List.map_cons, List.nodup_cons] at hn
    rw [List.length_cons] at hl
    show (T_joined_b1 p m).bind _ = _
    cases e : lookK m p.1 with
    | none =>
      have st : T_joined_b1 p m = some (.nx (m ++ [(p.1, p.2)])) := by
        unfold T_joined_b1 sdG
        rw [if_pos (bigT (by omega)), bindS, e]
        simp
      have look : ∀ q ∈ ps, lookK (m ++ [(p.1, p.2)]) q.1 = lookK m q.1 := fun q hq => by
        rw [lookK_app]
        have : lookK [(p.1, p.2)] q.1 = none := by
          unfold lookK
          have : p.1 ≠ q.1 := fun z => hn.1 (by rw [z]; exact List.mem_map_of_mem hq)
          simp [this]
        rw [this, Option.or_none]
      rw [st, bindS]
      simp only
      rw [joined_loop ps (m ++ [(p.1, p.2)]) hn.2 (by rw [List.length_append, List.length_singleton]; omega)]
      have c1 : (∀ q ∈ ps, ∀ w, lookK (m ++ [(p.1, p.2)]) q.1 = some w → w = q.2) ↔ ∀ q ∈ p :: ps, ∀ w, lookK m q.1 = some w → w = q.2 := by
        constructor
        · intro h q hq w hw
          rcases List.mem_cons.mp hq with rfl | hq
          · rw [e] at hw; cases hw
          · exact h q hq w (by rw [look q hq]; exact hw)
        · intro h q hq w hw
          exact h q (List.mem_cons_of_mem _ hq) w (by rw [← look q hq]; exact hw)
      have c2 : ps.filter (fun q => (lookK (m ++ [(p.1, p.2)]) q.1).isNone) = ps.filter fun q => (lookK m q.1).isNone := List.filter_congr fun q hq => by rw [look q hq]
      rw [c2, List.filter_cons_of_pos (by rw [e]; rfl)]
      by_cases h : ∀ q ∈ p :: ps, ∀ w, lookK m q.1 = some w → w = q.2
      · rw [if_pos (c1.mpr h), if_pos h, List.append_assoc]
        rfl
      · rw [if_neg (fun z => h (c1.mp z)), if_neg h]
    | some w =>
      by_cases hw : w = p.2
      · have st : T_joined_b1 p m = some (.nx m) := by
          unfold T_joined_b1 sdG
          rw [if_pos (bigT (by omega)), bindS, e]
          simp [hw]
        rw [st, bindS]
        simp only
        rw [joined_loop ps m hn.2 (by omega), List.filter_cons_of_neg (by rw [e]; simp)]
        have c1 : (∀ q ∈ ps, ∀ w, lookK m q.1 = some w → w = q.2) ↔ ∀ q ∈ p :: ps, ∀ w, lookK m q.1 = some w → w = q.2 := by
          constructor
          · intro h q hq v hv
            rcases List.mem_cons.mp hq with rfl | hq
            · rw [e] at hv; cases hv; exact hw
            · exact h q hq v hv
          · intro h q hq v hv
            exact h q (List.mem_cons_of_mem _ hq) v hv
        by_cases h : ∀ q ∈ p :: ps, ∀ w, lookK m q.1 = some w → w = q.2
        · rw [if_pos (c1.mpr h), if_pos h]
        · rw [if_neg (fun z => h (c1.mp z)), if_neg h]
      · have st : T_joined_b1 p m = some (.rt none) := by
          unfold T_joined_b1 sdG
          rw [if_pos (bigT (by omega)), bindS, e]
          simp [hw]
        rw [st, bindS]
        rw [if_neg fun h => hw (h p List.mem_cons_self w e)]
theorem joined_ok {m : List (Chr × Int)} {d : List Chr} {r : List Int} (hd : d.Nodup) (hr : r.length = d.length) (hl : m.length + d.length ≤ 1000) : T_joined m d r = some (Joi m d r) := by
  have hz : (d.zip r).map (·.1) = d := by rw [List.map_fst_zip]; omega
  unfold T_joined
  rw [joined_loop (d.zip r) m (by rw [hz]; exact hd) (by rw [List.length_zip]; omega), bindS]
  have c1 : (∀ p ∈ d.zip r, ∀ w, lookK m p.1 = some w → w = p.2) ↔ ∀ l ∈ d, ∀ w, lookK m l = some w → w = atL d r l := by
    constructor
    · intro h l hl w hw
      exact h _ (pair_zip hr hl) w hw
    · intro h p hp w hw
      obtain ⟨a, b⟩ := zip_pair hd hr hp
      rw [b]
      exact h _ a w hw
  unfold Joi
  by_cases h : ∀ l ∈ d, ∀ w, lookK m l = some w → w = atL d r l
  · rw [if_pos (c1.mpr h), if_pos h]
    rfl
  · rw [if_neg (fun z => h (c1.mp z)), if_neg h]
    rfl
theorem Joi_len {m m' : List (Chr × Int)} {d : List Chr} {r : List Int} (h : Joi m d r = some m') : m'.length ≤ m.length + d.length := by
  obtain ⟨_, rfl⟩ := Joi_some h
  rw [List.length_append]
  have := List.length_filter_le (fun q => (lookK m q.1).isNone) (d.zip r)
  rw [List.length_zip] at this
  omega
theorem flat_opt {α β : Type} {f : α → Option β} : ∀ {xs : List α}, xs.flatMap (fun x => (f x).toList) = xs.filterMap f
  | [] => rfl
  | x :: xs => by
    rw [List.flatMap_cons, flat_opt, List.filterMap_cons]
    cases f x <;> rfl
/-- the answers: a cell for each letter such that each pattern has its row -/
def Sat (ds : List (List Chr)) (R : List (List (List Int))) (so : List Chr) (t : List Int) : Prop := ∀ p ∈ ds.zip R, ∃ r ∈ p.2, ∀ l ∈ p.1, l ∈ so → atL p.1 r l = atL so t l
section
variable {ds : List (List Chr)} {R : List (List (List Int))} {ns : List Int} {cs : List Chr}
theorem Ans'.zip (A : Ans' ds R ns cs) {p : List Chr × List (List Int)} (h : p ∈ ds.zip R) : p.1 ∈ ds ∧ p.1.Nodup ∧ 1 ≤ p.1.length ∧ p.1.length ≤ 4 ∧ (∀ l ∈ p.1, l ∈ cs) ∧ p.2.Nodup ∧ p.2.length ≤ 200 ∧ ∀ r ∈ p.2, r.length = p.1.length ∧ ∀ x ∈ r, x ∈ ns := by
  obtain ⟨i, hi⟩ := List.mem_iff_getElem?.mp h
  obtain ⟨h1, h2⟩ := List.getElem?_zip_eq_some.mp hi
  have hm := List.mem_of_getElem? h1
  obtain ⟨a, b, c, d⟩ := A.hd _ hm
  obtain ⟨e, f, g⟩ := A.F.2 i _ _ h2 h1
  exact ⟨hm, a, b, c, d, e, f, g⟩
theorem Ans'.len (A : Ans' ds R ns cs) : (ds.zip R).length = ds.length := by rw [List.length_zip, A.F.1, Nat.min_self]
theorem Ans'.of (A : Ans' ds R ns cs) {d : List Chr} (h : d ∈ ds) : ∃ rs, (d, rs) ∈ ds.zip R := by
  obtain ⟨i, hi, rfl⟩ := List.getElem_of_mem h
  have hR : i < R.length := by rw [A.F.1]; exact hi
  exact ⟨R[i], List.mem_iff_getElem?.mpr ⟨i, List.getElem?_zip_eq_some.mpr ⟨List.getElem?_eq_getElem hi, List.getElem?_eq_getElem hR⟩⟩⟩
theorem letters_of_ok (h6 : ds.length ≤ 6) (hd : ∀ d ∈ ds, d.length ≤ 4) : ∃ ks, T_letters_of ds = some ks ∧ ks.Pairwise (· < ·) ∧ (∀ x, x ∈ ks ↔ ∃ d ∈ ds, x ∈ d) := by
  have hs := sum_len h6 hd
  obtain ⟨l, a1, a2, a3, a4⟩ := keys_loop (f1 := T_letters_of_b1) (f2 := T_letters_of_b2) (fun x l hl => by unfold T_letters_of_b1; rw [putN (by omega)]; rfl) (fun d l => by unfold T_letters_of_b2; cases forT T_letters_of_b1 d l <;> rfl) (ds := ds) (l := []) (by simp; omega) List.nodup_nil
  obtain ⟨ks, b1, b2, b3⟩ := letters_srt a3 (by simp at a4; omega)
  refine ⟨ks, ?_, b2, fun x => by rw [b3, a2]; simp⟩
  unfold T_letters_of
  rw [a1, bindS, b1]
  rfl
theorem answers_ok (A : Ans' ds R ns cs) {names : List Chr} (hk : T_letters_of ds = some names) (hp : names.Pairwise (· < ·)) (hm : ∀ x, x ∈ names ↔ ∃ d ∈ ds, x ∈ d) :
    ∃ a, T_answers ds R = some a ∧ a.Pairwise (· < ·) ∧ a.length ≤ 729 ∧ ∀ t, t ∈ a ↔ t.length = names.length ∧ Sat ds R names t := by
  have hz := A.len
  have hnn : names.Nodup := hp.imp fun {a b} (h : a < b) e => by rw [e] at h; exact Nat.lt_irrefl _ h
  have few : ∀ i S, JInv ((ds.zip R).take i) S → S.length ≤ 729 := fun i S I => I.few (cs := cs) (ns := ns) (fun p hp => (A.zip (List.mem_of_mem_take hp)).2.2.2.2.1) (fun p hp => (A.zip (List.mem_of_mem_take hp)).2.2.2.2.2.2.2) A.c6 A.n1 A.n3
  obtain ⟨S, k1, k2, k3⟩ := forT_inv0 (f := T_answers_b3) (xs := ds.zip R) (s := [[]]) (I := fun i S => JInv ((ds.zip R).take i) S ∧ ∀ m ∈ S, m.length ≤ 4 * i) ⟨JInv.nil, fun m hm => by rw [List.mem_singleton.mp hm]; exact Nat.le_refl _⟩ fun i p S hi ⟨I, hl⟩ => by
    have hpm := List.mem_of_getElem? hi
    obtain ⟨_, z1, z2, z3, z4, z5, z6, z7⟩ := A.zip hpm
    have hi2 : i < 6 := by have := (List.getElem?_eq_some_iff.mp hi).1; have := A.h6; omega
    have I2 : JInv ((ds.zip R).take (i + 1)) (joins S p) := by
      have := I.step z1 (fun r hr => (z7 r hr).1) z5
      rw [List.take_succ, hi]
      exact this
    have bound := few _ _ I2
    have one : ∀ m ∈ S, ∀ a : List (List (Chr × Int)), a.length + (p.2.filterMap fun r => Joi m p.1 r).length ≤ 729 → T_answers_b2 p m a = some (a ++ p.2.filterMap fun r => Joi m p.1 r) := fun m hm a ha => by
      have hml := hl m hm
      have e := flat_opt (f := fun r => Joi m p.1 r) (xs := p.2)
      unfold T_answers_b2
      rw [forT_flat (f := T_answers_b1 p m) (g := fun r => (Joi m p.1 r).toList) (N := 729) (fun r hr b hb => by
        unfold T_answers_b1
        rw [joined_ok z1 (z7 r hr).1 (by omega), bindS]
        cases ej : Joi m p.1 r with
        | none => simp
        | some m' =>
          rw [ej] at hb
          simp only [Option.isSome_some, if_true]
          rw [bindS, appN (by omega)]
          rfl) (by rw [e]; exact ha), e]
      rfl
    unfold T_answers_b3
    have run := forT_flat (f := T_answers_b2 p) (g := fun m => p.2.filterMap fun r => Joi m p.1 r) (N := 729) (xs := S) (acc := []) one (by rw [List.length_nil, Nat.zero_add]; exact bound)
    rw [run, List.nil_append]
    refine ⟨joins S p, rfl, I2, fun m' h => ?_⟩
    obtain ⟨m, hm, h⟩ := List.mem_flatMap.mp h
    obtain ⟨r, hr, h⟩ := List.mem_filterMap.mp h
    have := Joi_len h
    have := hl m hm
    omega
  rw [List.take_length] at k2
  have fewS := few (ds.zip R).length S (by rw [List.take_length]; exact k2)
  have keys : ∀ m ∈ S, ∀ l, l ∈ names ↔ (lookK m l).isSome = true := fun m hmS l => by
    rw [hm, k2.k m hmS]
    constructor
    · rintro ⟨d, hd, hl⟩
      obtain ⟨rs, h⟩ := A.of hd
      exact ⟨_, h, hl⟩
    · rintro ⟨p, hp, hl⟩
      exact ⟨p.1, (A.zip hp).1, hl⟩
  let g : List (Chr × Int) → List Int := fun m => names.map fun l => (lookK m l).getD 0
  have n24 : names.length ≤ 6 := by
    have := nodup_le hnn fun x hx => by
      obtain ⟨d, hd, h⟩ := (hm x).mp hx
      exact (A.hd d hd).2.2.2 x h
    exact Nat.le_trans this A.c6
  have ne : names ≠ [] := fun e => by
    have h1 := A.h1
    obtain ⟨a, b, _⟩ := A.hd ds[0] (List.getElem_mem (by omega))
    have : (ds[0])[0] ∈ names := (hm _).mpr ⟨ds[0], List.getElem_mem _, List.getElem_mem (by omega)⟩
    rw [e] at this
    cases this
  obtain ⟨a, s1, s2, s3⟩ := srtR_ok (l := S.map g) (by rw [List.length_map]; omega) fun r hr e => by
    obtain ⟨m, _, rfl⟩ := List.mem_map.mp hr
    exact ne (List.map_eq_nil_iff.mp e)
  have nd : (S.map g).Nodup := by
    refine List.pairwise_map.mpr (List.Pairwise.imp_of_mem (fun {m m'} hm1 hm2 ⟨l, hs, hx⟩ e => hx ?_) k2.n)
    have hl := (keys m hm1 l).mpr hs
    have hs' := (keys m' hm2 l).mp hl
    have := List.map_inj_left.mp e l hl
    obtain ⟨a, ea⟩ := Option.isSome_iff_exists.mp hs
    obtain ⟨b, eb⟩ := Option.isSome_iff_exists.mp hs'
    rw [ea, eb] at this ⊢
    exact congrArg some this
  refine ⟨a, ?_, strictR s3 (s2.nodup_iff.mpr nd), by rw [s2.length_eq, List.length_map]; exact fewS, fun t => ?_⟩
  · unfold T_answers
    rw [k1, bindS, hk, bindS]
    refine lcM_bind (h := g) (fun m hmS => ⟨rfl, ?_⟩) (by omega) ?_
    · rw [lcG_map (h := fun l => (lookK m l).getD 0) (fun l hl => ⟨rfl, by
        obtain ⟨v, ev⟩ := Option.isSome_iff_exists.mp ((keys m hmS l).mp hl)
        rw [ev]
        rfl⟩) (by omega)]
      rfl
    · rw [s1]
      rfl
  · rw [s2.mem_iff]
    constructor
    · intro h
      obtain ⟨m, hmS, rfl⟩ := List.mem_map.mp h
      refine ⟨by simp [g], fun p hp => ?_⟩
      obtain ⟨r, hr, h⟩ := k2.s m hmS p hp
      refine ⟨r, hr, fun l hl hn => ?_⟩
      rw [atL_map hn, h l hl]
      rfl
    · rintro ⟨h1, h2⟩
      obtain ⟨m, hmS, h⟩ := k2.c (atL names t) fun p hp => by
        obtain ⟨r, hr, h⟩ := h2 p hp
        exact ⟨r, hr, fun l hl => h l hl ((hm l).mpr ⟨p.1, (A.zip hp).1, hl⟩)⟩
      refine List.mem_map.mpr ⟨m, hmS, ?_⟩
      rw [← map_atL hnn h1]
      refine List.map_congr_left fun l hl => ?_
      obtain ⟨v, ev⟩ := Option.isSome_iff_exists.mp ((keys m hmS l).mp hl)
      rw [ev]
      exact (h l v ev).symm
end
/-! the plain answers' rows -/
theorem putN_ok {l : List NK} {p : NK} (h : l.length ≤ 100000) : putNG l p = some (if p ∈ l then l else l ++ [p]) := if_pos (bigT h)
theorem gt_zip {ds : List (List Chr)} {R : List (List (List Int))} (h : R.length = ds.length) {p : List Chr × List (List Int)} : p ∈ ds.zip R ↔ ∃ j, j < ds.length ∧ p = (dOf ds j, gt R j) := by
  constructor
  · intro hp
    obtain ⟨j, hj⟩ := List.mem_iff_getElem?.mp hp
    obtain ⟨h1, h2⟩ := List.getElem?_zip_eq_some.mp hj
    have hl := (List.getElem?_eq_some_iff.mp h1).1
    rw [dOf_at hl] at h1
    rw [gt_at (by omega)] at h2
    exact ⟨j, hl, by rw [Option.some.inj h1, Option.some.inj h2]⟩
  · rintro ⟨j, hj, rfl⟩
    exact List.mem_iff_getElem?.mpr ⟨j, List.getElem?_zip_eq_some.mpr ⟨dOf_at hj, gt_at (by omega)⟩⟩
theorem Sat_isA {ds : List (List Chr)} {R : List (List (List Int))} (A : Rw ds R) {names : List Chr} (hm : ∀ x, x ∈ names ↔ ∃ d ∈ ds, x ∈ d) {t : List Int} : Sat ds R names t ↔ IsA ds.length (dOf ds) (gt R) (atL names t) := by
  have nm : ∀ j, j < ds.length → ∀ l ∈ dOf ds j, l ∈ names := fun j hj l hl => (hm l).mpr ⟨dOf ds j, List.mem_of_getElem? (dOf_at hj), hl⟩
  constructor
  · intro h j hj
    obtain ⟨r, hr, h2⟩ := h _ ((gt_zip A.len).mpr ⟨j, hj, rfl⟩)
    have : (dOf ds j).map (atL names t) = r := by
      rw [← map_atL (A.hd j hj).1 ((A.row j hj).2 r hr)]
      exact List.map_congr_left fun l hl => (h2 l hl (nm j hj l hl)).symm
    rw [this]
    exact hr
  · intro h p hp
    obtain ⟨j, hj, rfl⟩ := (gt_zip A.len).mp hp
    exact ⟨_, h j hj, fun l hl _ => atL_map hl⟩
theorem IsA.cong {m : Nat} {d : Nat → List Chr} {S : Nat → List (List Int)} {f g : Chr → Int} (h : IsA m d S f) (e : ∀ j, j < m → ∀ l ∈ d j, f l = g l) : IsA m d S g := fun j hj => by
  rw [← List.map_congr_left (e j hj)]
  exact h j hj
theorem dictT_keys {κ α : Type} [DecidableEq κ] (l : List (κ × α)) : ((dictT l).map (·.1)).Nodup ∧ (∀ c, c ∈ (dictT l).map (·.1) ↔ c ∈ l.map (·.1)) ∧ (dictT l).length ≤ l.length := by
  have key : ∀ (l acc : List (κ × α)), (acc.map (·.1)).Nodup → ((l.foldl (fun acc kv => putKV acc kv.1 kv.2) acc).map (·.1)).Nodup ∧ (∀ c, c ∈ (l.foldl (fun acc kv => putKV acc kv.1 kv.2) acc).map (·.1) ↔ c ∈ acc.map (·.1) ∨ c ∈ l.map (·.1)) ∧ (l.foldl (fun acc kv => putKV acc kv.1 kv.2) acc).length ≤ acc.length + l.length := by
    intro l
    induction l with
    | nil => intro acc h; exact ⟨h, fun c => by simp, Nat.le_refl _⟩
    | cons x l ih =>
      intro acc h
      obtain ⟨a, b, c⟩ := ih (putKV acc x.1 x.2) (putKV_nodup h)
      have h1 := putKV_len (l := acc) (k := x.1) (v := x.2)
      refine ⟨a, fun k => ?_, by rw [List.length_cons]; show List.length (List.foldl _ (putKV acc x.1 x.2) l) ≤ _; omega⟩
      show k ∈ (List.foldl _ (putKV acc x.1 x.2) l).map (·.1) ↔ _
      rw [b, putKV_keys, List.map_cons, List.mem_cons]
      split
      · rename_i hk
        exact ⟨fun z => z.elim .inl fun z => .inr (.inr z), fun z => z.elim .inl fun z => z.elim (fun z => .inl (by rw [z]; exact hk)) .inr⟩
      · rw [List.mem_append, List.mem_singleton, or_assoc]
  obtain ⟨a, b, c⟩ := key l [] List.nodup_nil
  exact ⟨a, fun k => by rw [show k ∈ (dictT l).map (·.1) ↔ _ from b k]; simp, by rw [List.length_nil, Nat.zero_add] at c; exact c⟩
section
variable {ds : List (List Chr)}
theorem names_ok (h6 : ds.length ≤ 6) (hd : ∀ d ∈ ds, d.length ≤ 4) : ∃ ks, T__law_names ds = some ks ∧ ks.Pairwise (· < ·) ∧ (∀ x, x ∈ ks ↔ ∃ d ∈ ds, x ∈ d) ∧ ks.length ≤ 24 := by
  have hs := sum_len h6 hd
  obtain ⟨l, a1, a2, a3, a4⟩ := keys_loop (f1 := T__law_names_b1) (f2 := T__law_names_b2) (fun x l hl => by unfold T__law_names_b1; rw [putN (by omega)]; rfl) (fun d l => by unfold T__law_names_b2; cases forT T__law_names_b1 d l <;> rfl) (ds := ds) (l := []) (by simp; omega) List.nodup_nil
  obtain ⟨ks, b1, b2, b3⟩ := letters_srt a3 (by simp at a4; omega)
  refine ⟨ks, ?_, b2, fun x => by rw [b3, a2]; simp, ?_⟩
  · unfold T__law_names
    rw [a1, bindS, b1]
    rfl
  · have := nodup_le (b2.imp fun {a b} (h : a < b) e => by rw [e] at h; exact Nat.lt_irrefl _ h) (fun x hx => (b3 x).mp hx)
    rw [List.length_map] at this
    simp at a4
    omega
end
/-! an answer through a row -/
theorem tree_ord {ds : List (List Chr)} {ps : List (Option Int)} (T : TreeOf ds ps) (hm : ds.length ≤ 100) : ∃ o : List Nat, T_downward ps = some (o.map fun i => ((i : Nat) : Int)) ∧ Tr ds.length (dOf ds) (PrO ps) o := by
  obtain ⟨o, eo, op, bh, rt⟩ := downward_ok T.w hm
  exact ⟨o, eo, op, bh, fun _ _ _ h h' => h.fn h', rt, T.tp⟩
section tree
variable {m : Nat} {d : Nat → List Chr} {Par : Nat → Nat → Prop} {o : List Nat}
theorem Tr.topOf (T : Tr m d Par o) {l : Chr} : ∀ t j : Nat, o[t]? = some j → l ∈ d j → ∃ t' j' : Nat, t' ≤ t ∧ o[t']? = some j' ∧ l ∈ d j' ∧ ∀ p, Par j' p → l ∉ d p := by
  intro t
  induction t using Nat.strongRecOn with
  | ind t ih =>
    intro j ht hl
    by_cases h : ∃ p, Par j p ∧ l ∈ d p
    · obtain ⟨p, hp, hlp⟩ := h
      obtain ⟨k', hlt, hk'⟩ := T.bh t j p ht hp
      obtain ⟨t', j', a, b⟩ := ih k' hlt p hk' hlp
      exact ⟨t', j', by omega, b⟩
    · exact ⟨t, j, Nat.le_refl _, ht, hl, fun p hp hlp => h ⟨p, hp, hlp⟩⟩
theorem Tr.rip (T : Tr m d Par o) {l : Chr} {n t k j : Nat} (hk : o[n]? = some k) (hj : o[t]? = some j) (h : t < n) (h1 : l ∈ d k) (h2 : l ∈ d j) : ∃ p, Par k p ∧ l ∈ d p := by
  refine Classical.byContradiction fun hno => ?_
  obtain ⟨t', j', a, b, c, e⟩ := T.topOf t j hj h2
  have := T.tp j' k l (T.lt b) (T.lt hk) c h1 e fun p hp hlp => hno ⟨p, hp, hlp⟩
  subst this
  have := T.uniq b hk
  omega
end tree
theorem lookK_put {κ α : Type} [DecidableEq κ] {l : List (κ × α)} {k c : κ} {v : α} : lookK (putKV l k v) c = if k = c then some v else lookK l c := by
  unfold putKV lookK
  split
  · rename_i h
    induction l with
    | nil => simp at h
    | cons x l ih =>
      rw [List.map_cons]
      by_cases hx : x.1 = k
      · by_cases hc : k = c
        · rw [if_pos hx, List.find?_cons_of_pos (by simpa [hx] using hc), if_pos hc]
          rfl
        · rw [if_pos hx, List.find?_cons_of_neg (by simpa [hx] using hc), if_neg hc, List.find?_cons_of_neg (by simpa [hx] using hc)]
          by_cases h2 : l.any (fun kv => decide (kv.1 = k)) = true
          · have := ih h2
            rw [if_neg hc] at this
            exact this
          · congr 1
            have : l.map (fun kv => if kv.1 = k then (kv.1, v) else kv) = l := by
              refine (List.map_congr_left fun y hy => ?_).trans (List.map_id l)
              rw [if_neg fun e => h2 (List.any_eq_true.mpr ⟨y, hy, decide_eq_true e⟩)]
              rfl
            rw [this]
      · rw [if_neg hx]
        have h2 : l.any (fun kv => decide (kv.1 = k)) = true := by
          rw [List.any_cons, decide_eq_false hx, Bool.false_or] at h
          exact h
        by_cases hc : x.1 = c
        · rw [List.find?_cons_of_pos (by simpa using hc), List.find?_cons_of_pos (by simpa using hc), if_neg fun e => hx (hc.trans e.symm)]
        · rw [List.find?_cons_of_neg (by simpa using hc), List.find?_cons_of_neg (by simpa using hc)]
          exact ih h2
  · rename_i h
    rw [List.find?_append]
    by_cases hc : k = c
    · rw [if_pos hc]
      have : l.find? (fun kv => decide (kv.1 = c)) = none := by
        rw [List.find?_eq_none]
        intro y hy e
        exact h (List.any_eq_true.mpr ⟨y, hy, by simpa [hc] using e⟩)
      rw [this]
      simp [hc]
    · rw [if_neg hc]
      simp [hc]
theorem look_fold {κ α : Type} [DecidableEq κ] : ∀ {more l : List (κ × α)} {c : κ}, (more.map (·.1)).Nodup → lookK (more.foldl (fun acc kv => putKV acc kv.1 kv.2) l) c = (lookK more c).or (lookK l c)
  | [], l, c, _ => rfl
  | x :: more, l, c, hn => by
    rw [List.map_cons, List.nodup_cons] at hn
    rw [List.foldl_cons, look_fold hn.2, lookK_put]
    by_cases h : x.1 = c
    · have e1 : lookK more c = none := by
        cases e : lookK more c with
        | none => rfl
        | some v => exact absurd (h ▸ lookK_mem.mp (by rw [e]; rfl)) hn.1
      have e2 : lookK (x :: more) c = some x.2 := by
        unfold lookK
        rw [List.find?_cons_of_pos (by simpa using h)]
        rfl
      rw [e1, e2, if_pos h]
      rfl
    · have e2 : lookK (x :: more) c = lookK more c := by
        unfold lookK
        rw [List.find?_cons_of_neg (by simpa using h)]
      rw [e2, if_neg h]
theorem fold_len {κ α : Type} [DecidableEq κ] : ∀ {more l : List (κ × α)}, (more.foldl (fun acc kv => putKV acc kv.1 kv.2) l).length ≤ l.length + more.length
  | [], _ => Nat.le_refl _
  | x :: more, l => by
    have a := fold_len (more := more) (l := putKV l x.1 x.2)
    have b := putKV_len (l := l) (k := x.1) (v := x.2)
    rw [List.foldl_cons, List.length_cons]
    omega
/-- the cells with those of a row -/
theorem upd_row {d : List Chr} {r : List Int} {s : List (Chr × Int)} (hd : d.Nodup) (hr : r.length = d.length) (h4 : d.length ≤ 4) (hs : s.length ≤ 1000) : ∃ more s', zipD d r = some more ∧ updG s more = some s' ∧ s'.length ≤ s.length + 4 ∧ ∀ l, lookK s' l = if l ∈ d then some (atL d r l) else lookK s l := by
  obtain ⟨k1, k2, k3⟩ := dictT_keys (d.zip r)
  have hz : ((d.zip r).map (·.1)).Nodup := by
    rw [List.map_fst_zip (by omega)]
    exact hd
  rw [List.length_zip] at k3
  refine ⟨_, _, if_pos hr.symm, if_pos (bigL (by omega)), ?_, fun l => ?_⟩
  · have := fold_len (more := dictT (d.zip r)) (l := s)
    omega
  · have e : lookK (dictT (d.zip r)) l = lookK (d.zip r) l := by
      have := look_fold (more := d.zip r) (l := []) (c := l) hz
      rw [show lookK (dictT (d.zip r)) l = _ from this]
      cases lookK (d.zip r) l <;> rfl
    rw [look_fold k1, e, lookK_zip hr]
    split <;> rfl
theorem brk_first {α σ : Type} {f : α → σ → Option (Ctl σ Empty)} {M : α → Bool} {u : α → σ} {s : σ} : ∀ {xs : List α}, (∃ x ∈ xs, M x = true) → (∀ x ∈ xs, f x s = some (if M x then .bk (u x) else .nx s)) → ∃ x ∈ xs, M x = true ∧ forC f xs s = some (.bk (u x))
  | [], ⟨_, h, _⟩, _ => nomatch h
  | x :: xs, ⟨y, hy, hM⟩, hf => by
    have h1 := hf x List.mem_cons_self
    unfold forC
    rw [h1, bindS]
    cases hx : M x with
    | true => exact ⟨x, List.mem_cons_self, hx, rfl⟩
    | false =>
      have hy2 : y ∈ xs := (List.mem_cons.mp hy).resolve_left fun e => by rw [e, hx] at hM; cases hM
      obtain ⟨z, a, b, c⟩ := brk_first (xs := xs) ⟨y, hy2, hM⟩ fun w hw => hf w (List.mem_cons_of_mem _ hw)
      exact ⟨z, List.mem_cons_of_mem _ a, b, c⟩
def fv (s : List (Chr × Int)) (l : Chr) : Int := (lookK s l).getD 0
structure Th (d : Nat → List Chr) (o : List Nat) (S : List (List (List Int))) (n : Nat) (s : List (Chr × Int)) : Prop where
  keys : ∀ l, (lookK s l).isSome = true ↔ ∃ t j : Nat, t < n ∧ o[t]? = some j ∧ l ∈ d j
  rows : ∀ t j : Nat, t < n → o[t]? = some j → (d j).map (fv s) ∈ gt S j
  len : s.length ≤ 4 * n
theorem Th.step {ds : List (List Chr)} {ps : List (Option Int)} {o : List Nat} {S : List (List (List Int))} (T : Tr ds.length (dOf ds) (PrO ps) o) (A : Rw ds S) (hm : ds.length ≤ 6) (dn : ∀ j p, j < ds.length → PrO ps j p → ∀ r ∈ gt S p, ∃ r' ∈ gt S j, Agr (dOf ds) p j r r') (ne : ∀ j, j < ds.length → gt S j ≠ [])
    {n k : Nat} {s : List (Chr × Int)} (I : Th (dOf ds) o S n s) (hk : o[n]? = some k) : ∃ s', T_through_b2 ds S (k : Int) s = some s' ∧ Th (dOf ds) o S (n + 1) s' := by
  have km := T.lt hk
  have hn : n < o.length := (List.getElem?_eq_some_iff.mp hk).1
  have ol : o.length = ds.length := by rw [T.op.length_eq, List.length_range]
  obtain ⟨hd, h4⟩ := A.hd k km
  obtain ⟨h200, hrow⟩ := A.row k km
  have at_k : atI ds (k : Int) = some (dOf ds k) := atQ rfl (dOf_at km)
  have hsl := I.len
  let so := (dOf ds k).filter fun l => (lookK s l).isSome
  have sl : so.length ≤ 4 := Nat.le_trans (List.length_filter_le _ _) h4
  have hkey : ∀ l ∈ so, l ∈ dOf ds k ∧ (lookK s l).isSome = true := fun l hl => List.mem_filter.mp hl
  let M : List Int → Bool := fun r => decide (so.map (atL (dOf ds k) r) = so.map (fv s))
  have hM : ∀ r, M r = true ↔ ∀ l ∈ so, atL (dOf ds k) r l = fv s l := fun r => by
    show decide _ = true ↔ _
    rw [decide_eq_true_iff, List.map_inj_left]
  -- a row that goes with the cells
  have some1 : ∃ r ∈ gt S k, M r = true := by
    rcases T.rt n k hk with rfl | ⟨p, hp⟩
    · obtain ⟨r, hr⟩ := List.exists_mem_of_ne_nil _ (ne k km)
      refine ⟨r, hr, (hM r).mpr fun l hl => ?_⟩
      obtain ⟨t, j, h, _⟩ := (I.keys l).mp (hkey l hl).2
      omega
    · obtain ⟨k', hlt, hk'⟩ := T.bh n k p hk hp
      obtain ⟨r', h1, h2⟩ := dn k p km hp _ (I.rows k' p hlt hk')
      refine ⟨r', h1, (hM r').mpr fun l hl => ?_⟩
      obtain ⟨t, j, h, hj, hlj⟩ := (I.keys l).mp (hkey l hl).2
      obtain ⟨p', hp', hlp⟩ := T.rip hk hj h (hkey l hl).1 hlj
      cases T.fn _ _ _ hp hp'
      have := h2 l hlp (hkey l hl).1
      rw [atL_map hlp] at this
      exact this.symm
  have upd : ∀ r, ∃ s', r ∈ gt S k → (zipD (dOf ds k) r).bind (fun v14 => (updG s v14).bind fun v15 => (some (.bk v15) : Option (Ctl (List (Chr × Int)) Empty))) = some (.bk s') ∧ s'.length ≤ s.length + 4 ∧ ∀ l, lookK s' l = if l ∈ dOf ds k then some (atL (dOf ds k) r l) else lookK s l := fun r => by
    by_cases hr : r ∈ gt S k
    · obtain ⟨more, s', e1, e2, e3, e4⟩ := upd_row (s := s) hd (hrow r hr) h4 (by omega)
      exact ⟨s', fun _ => ⟨by rw [e1, bindS, e2, bindS], e3, e4⟩⟩
    · exact ⟨s, fun h => absurd h hr⟩
  let u : List Int → List (Chr × Int) := fun r => Classical.choose (upd r)
  have hu : ∀ r ∈ gt S k, _ := fun r hr => Classical.choose_spec (upd r) hr
  obtain ⟨r, hr, hMr, run⟩ := brk_first (f := T_through_b1 ds (k : Int) so) (M := M) (u := u) (s := s) some1 fun r hr => by
    unfold T_through_b1
    rw [at_k, bindS, key_of_ok (so := so) (fun l hl => (hkey l hl).1) (by rw [hrow r hr]; exact Nat.le_refl _) (by omega), bindS]
    rw [lcG_map (h := fv s) (fun l hl => ⟨rfl, by
      obtain ⟨v, hv⟩ := Option.isSome_iff_exists.mp (hkey l hl).2
      unfold fv
      rw [hv]
      rfl⟩) (by omega), bindS]
    show (if M r = true then _ else _) = _
    by_cases h : M r = true
    · rw [if_pos h, if_pos h, bindS]
      exact (hu r hr).1
    · rw [if_neg h, if_neg h]
  obtain ⟨_, hlen, hlook⟩ := hu r hr
  have hlook : ∀ l, lookK (u r) l = if l ∈ dOf ds k then some (atL (dOf ds k) r l) else lookK s l := hlook
  have hlen : (u r).length ≤ s.length + 4 := hlen
  have same : ∀ l, (∃ t j : Nat, t < n ∧ o[t]? = some j ∧ l ∈ dOf ds j) → fv (u r) l = fv s l := fun l hl => by
    unfold fv
    rw [hlook]
    split
    · rename_i h
      exact (hM r).mp hMr l (List.mem_filter.mpr ⟨h, (I.keys l).mpr hl⟩)
    · rfl
  refine ⟨u r, ?_, fun l => ?_, fun t j ht hj => ?_, by omega⟩
  · unfold T_through_b2
    rw [at_k, bindS, lcG_ok (p := fun l => (lookK s l).isSome) (h := fun l => l) (fun l _ => ⟨rfl, fun _ => rfl⟩) (by omega), bindS, List.map_id', atQ (n := k) rfl (gt_at (by rw [A.len]; exact km)), bindS]
    rw [show (dOf ds k).filter (fun l => (lookK s l).isSome) = so from rfl, run, bindS]
    rfl
  · rw [hlook]
    constructor
    · intro h
      split at h
      · rename_i hl
        exact ⟨n, k, by omega, hk, hl⟩
      · obtain ⟨t, j, a, b⟩ := (I.keys l).mp h
        exact ⟨t, j, by omega, b⟩
    · rintro ⟨t, j, a, b, c⟩
      split
      · rfl
      · rename_i hl
        refine (I.keys l).mpr ⟨t, j, ?_, b, c⟩
        rcases Nat.lt_succ_iff_lt_or_eq.mp a with a | rfl
        · exact a
        · rw [hk] at b
          cases b
          exact absurd c hl
  · rcases Nat.lt_succ_iff_lt_or_eq.mp ht with ht | rfl
    · rw [List.map_congr_left fun l hl => same l ⟨t, j, ht, hj, hl⟩]
      exact I.rows t j ht hj
    · rw [hk] at hj
      cases hj
      have : (dOf ds k).map (fv (u r)) = r := by
        refine (List.map_congr_left fun l hl => ?_).trans (map_atL hd (hrow r hr))
        unfold fv
        rw [hlook, if_pos hl]
        rfl
      rw [this]
      exact hr
theorem through_ok {ds : List (List Chr)} {ps : List (Option Int)} {R : List (List (List Int))} {names : List Chr} (T : TreeOf ds ps) (A : Rw ds R) (hm : ds.length ≤ 6) (hk : T_letters_of ds = some names) (hn : ∀ x, x ∈ names ↔ ∃ d ∈ ds, x ∈ d) (hl : names.length ≤ 100) {i : Nat} (hi : i < ds.length) {row : List Int} (hr : row ∈ gt R i) :
    (T_through ds R ps (i : Int) row = some none ∧ ¬ ∃ f, IsA ds.length (dOf ds) (gt R) f ∧ (dOf ds i).map f = row) ∨ ∃ f, IsA ds.length (dOf ds) (gt R) f ∧ (dOf ds i).map f = row ∧ T_through ds R ps (i : Int) row = some (some (names.map f)) := by
  have rl : R.length = ds.length := A.len
  have gs : ∀ j, gt (R.set i [row]) j = if j = i then [row] else gt R j := fun j => gt_set (by rw [rl]; exact hi)
  have B : Rw ds (R.set i [row]) := ⟨by rw [List.length_set]; exact rl, A.hd, fun j hj => by
    rw [gs]
    split
    · rename_i e
      subst e
      exact ⟨by simp, fun r h => by rw [List.mem_singleton.mp h]; exact (A.row j hj).2 row hr⟩
    · exact A.row j hj⟩
  have ansB : ∀ f, IsA ds.length (dOf ds) (gt (R.set i [row])) f ↔ IsA ds.length (dOf ds) (gt R) f ∧ (dOf ds i).map f = row := fun f => by
    constructor
    · intro h
      have hi' := h i hi
      rw [gs, if_pos rfl] at hi'
      have e := List.mem_singleton.mp hi'
      refine ⟨fun j hj => ?_, e⟩
      have := h j hj
      rw [gs] at this
      split at this
      · rename_i e2
        subst e2
        rw [e]
        exact hr
      · exact this
    · rintro ⟨h, e⟩ j hj
      rw [gs]
      split
      · rename_i e2
        subst e2
        rw [e]
        exact List.mem_singleton.mpr rfl
      · exact h j hj
  have red := reduced_ok T B (by omega)
  let S := (List.range ds.length).map (inA ds.length (dOf ds) (R.set i [row]))
  have gS : ∀ j, j < ds.length → gt S j = inA ds.length (dOf ds) (R.set i [row]) j := fun j hj => by
    show ((((List.range ds.length).map (inA ds.length (dOf ds) (R.set i [row])))[j]?).getD []) = _
    rw [List.getElem?_map, List.getElem?_range hj]
    rfl
  have SL : S.length = ds.length := by simp [S]
  have pre : ∀ k, T_through ds R ps (i : Int) row = k ↔ (if (decide (inA ds.length (dOf ds) (R.set i [row]) i = ([] : List (List Int)))) then some none else (T_downward ps).bind fun v5 => (forT (T_through_b2 ds S) v5 ([] : (List (Chr × Int)))).bind fun s4 => (T_letters_of ds).bind fun v16 => (lcG (fun x6 : Chr => some true) (fun x6 => (lookK s4 x6).bind fun v17 => some v17) v16).bind fun v18 => some (some v18)) = k := fun k => by
    unfold T_through
    rw [lcG_map (h := fun x => x) (fun x _ => ⟨rfl, rfl⟩) (by rw [rl]; omega), bindS, List.map_id', putLN (by rw [rl]; exact hi) (by rw [rl]; omega), bindS, red, bindS]
    rw [show (List.range ds.length).map (inA ds.length (dOf ds) (R.set i [row])) = S from rfl, atQ (n := i) rfl (gt_at (by rw [SL]; exact hi)), bindS, gS i hi]
  by_cases hx : ∃ f, IsA ds.length (dOf ds) (gt R) f ∧ (dOf ds i).map f = row
  · right
    obtain ⟨f0, hf0⟩ := hx
    have F0 := (ansB f0).mpr hf0
    have inS : ∀ f, IsA ds.length (dOf ds) (gt (R.set i [row])) f → ∀ j, j < ds.length → (dOf ds j).map f ∈ gt S j := fun f hf j hj => by
      rw [gS j hj]
      exact inA_mem.mpr ⟨hf j hj, f, hf, rfl⟩
    have ne : ∀ j, j < ds.length → gt S j ≠ [] := fun j hj e => by
      have := inS f0 F0 j hj
      rw [e] at this
      cases this
    have C : Rw ds S := ⟨SL, A.hd, fun j hj => by
      rw [gS j hj]
      refine ⟨?_, fun r h => (B.row j hj).2 r (inA_mem.mp h).1⟩
      unfold inA
      exact Nat.le_trans (List.length_filter_le _ _) (B.row j hj).1⟩
    obtain ⟨o, eo, Tr0⟩ := tree_ord T (by omega)
    have ol : o.length = ds.length := by rw [Tr0.op.length_eq, List.length_range]
    have dn : ∀ j p, j < ds.length → PrO ps j p → ∀ r ∈ gt S p, ∃ r' ∈ gt S j, Agr (dOf ds) p j r r' := fun j p hj hp r hrp => by
      obtain ⟨k, hk⟩ := Tr0.pos hj
      obtain ⟨k', _, hk'⟩ := Tr0.bh k j p hk hp
      rw [gS p (Tr0.lt hk')] at hrp
      obtain ⟨_, f, hf, rfl⟩ := inA_mem.mp hrp
      refine ⟨_, inS f hf j hj, fun l h1 h2 => ?_⟩
      rw [atL_map h1, atL_map h2]
    obtain ⟨s, k1, I⟩ := forT_inv0 (f := T_through_b2 ds S) (xs := o.map fun i => ((i : Nat) : Int)) (s := ([] : List (Chr × Int))) (I := fun n s => Th (dOf ds) o S n s) ⟨fun l => ⟨fun h => by simp [lookK] at h, fun ⟨t, j, h, _⟩ => absurd h (by omega)⟩, fun t j h => absurd h (by omega), Nat.zero_le _⟩ fun n x s hx I => by
      rw [List.getElem?_map] at hx
      obtain ⟨k, hk, rfl⟩ := Option.map_eq_some_iff.mp hx
      exact I.step Tr0 C hm dn ne hk
    rw [List.length_map, ol] at I
    have fin : IsA ds.length (dOf ds) (gt (R.set i [row])) (fv s) := fun j hj => by
      obtain ⟨t, ht⟩ := Tr0.pos hj
      have := I.rows t j (by rw [← ol]; exact (List.getElem?_eq_some_iff.mp ht).1) ht
      rw [gS j hj] at this
      exact (inA_mem.mp this).1
    refine ⟨fv s, ((ansB _).mp fin).1, ((ansB _).mp fin).2, (pre _).mpr ?_⟩
    have n1 := ne i hi
    rw [gS i hi] at n1
    rw [if_neg (by simpa using n1), eo, bindS, k1, bindS, hk, bindS]
    rw [lcG_map (h := fv s) (fun l hl => ⟨rfl, by
      obtain ⟨d0, hd0, hl0⟩ := (hn l).mp hl
      obtain ⟨j, hj, rfl⟩ := List.getElem_of_mem hd0
      obtain ⟨t, ht⟩ := Tr0.pos hj
      obtain ⟨v, hv⟩ := Option.isSome_iff_exists.mp ((I.keys l).mpr ⟨t, j, by rw [← ol]; exact (List.getElem?_eq_some_iff.mp ht).1, ht, by unfold dOf; rw [List.getElem?_eq_getElem hj]; exact hl0⟩)
      unfold fv
      rw [hv]
      rfl⟩) (by omega), bindS]
  · left
    refine ⟨(pre _).mpr ?_, hx⟩
    rw [if_pos]
    refine decide_eq_true (List.eq_nil_iff_forall_not_mem.mpr fun r h => hx ?_)
    obtain ⟨_, f, hf, _⟩ := inA_mem.mp h
    exact ⟨f, (ansB f).mp hf⟩
theorem row_of_ok {names d : List Chr} {t : List Int} (h : ∀ l ∈ d, l ∈ names) (ht : names.length ≤ t.length) (hd : d.length ≤ 1000) : T__law_row_of names d t = some (d.map (atL names t)) := by
  unfold T__law_row_of
  rw [lcG_map (h := atL names t) (fun l hl => ⟨rfl, at_idx (h l hl) ht⟩) (by omega)]
  rfl
theorem right_ok {names d : List Chr} {t row : List Int} {every : List (List Int × Bool)} (h : ∀ l ∈ d, l ∈ names) (ht : t.length = names.length) (hd : d.length ≤ 1000) (hn : names.length ≤ 1000) (he : t ∈ every.map (·.1)) (hr : d.map (atL names t) = row) : T__law_right t names d row every = some true := by
  unfold T__law_right
  rw [row_of_ok h (by omega) hd, lookK_mem.mpr he]
  simp only [Bool.not_true, Bool.false_eq_true, if_false, bindS, hr, decide_true]
  refine lcG_bind (p := fun _ => false) (h := fun r => r) (fun r _ => ⟨rfl, fun _ => rfl⟩) (by omega) ?_
  simp
theorem law_T (ns : List Int) (h : ns.length ≤ 63) : T_law (ns.take 59) = some true := by
  obtain ⟨cs, ds, ps, e1, T, h1, h6, c6, hd⟩ := tree_ok (ns.take 59).sum
  obtain ⟨nums, R, _, n2, n3, e2, F, hp, hl⟩ := rows_ok ds (ns.take 59) (ns.take 59).sum h1 h6 (by rw [List.length_take]; omega) fun d h => ⟨(hd d h).2.1, (hd d h).2.2.1⟩
  have A : Ans' ds R nums cs := ⟨h1, h6, hd, c6, by omega, n3, F⟩
  have B : Rw ds R := ⟨F.1, fun j hj => by
    obtain ⟨a, b, c, _⟩ := hd _ (List.mem_of_getElem? (dOf_at hj))
    exact ⟨a, c⟩, fun j hj => by
    obtain ⟨_, b, c⟩ := F.2 j _ _ (gt_at (by rw [F.1]; exact hj)) (dOf_at hj)
    exact ⟨b, fun r hr => (c r hr).1⟩⟩
  obtain ⟨ks, b1, b2, hm, bl⟩ := names_ok h6 fun d h => (hd d h).2.2.1
  obtain ⟨ks2, c1, c2, c3⟩ := letters_of_ok h6 fun d h => (hd d h).2.2.1
  have ek : ks2 = ks := strictC_ext c2 b2 fun x => by rw [c3, hm]
  subst ek
  obtain ⟨a, e3, _, a729, e4⟩ := answers_ok A c1 c2 c3
  have nm : ∀ j, j < ds.length → ∀ l ∈ dOf ds j, l ∈ ks2 := fun j hj l hl => (hm l).mpr ⟨dOf ds j, List.mem_of_getElem? (dOf_at hj), hl⟩
  have d4 : ∀ j, j < ds.length → (dOf ds j).length ≤ 4 := fun j hj => (B.hd j hj).2
  obtain ⟨⟨ev, N⟩, n1, v1, v2, w1, w2⟩ := forT_inv0 (f := T_law_b2 (ds, ps) ks2) (xs := a) (s := (([] : List (List Int × Bool)), ([] : List NK)))
    (I := fun n s => s.1.length ≤ n ∧ (∀ c, c ∈ s.1.map (·.1) ↔ c ∈ a.take n) ∧ s.2.length ≤ 10 * n ∧ ∀ k, k ∈ s.2 ↔ ∃ t ∈ a.take n, ∃ j, j < ds.length ∧ k = ((j : Int), (dOf ds j).map (atL ks2 t))) ⟨Nat.zero_le _, fun c => by simp, Nat.zero_le _, fun k => by simp⟩ fun n t s ht ⟨i1, i2, i3, i4⟩ => by
    obtain ⟨ev, s⟩ := s
    simp only at i1 i2 i3 i4
    have hn := (List.getElem?_eq_some_iff.mp ht).1
    have htl := ((e4 t).mp (List.mem_of_getElem? ht)).1
    obtain ⟨s', k1, k2, k3⟩ := forT_inv0 (f := T_law_b1 (ds, ps) ks2 t) (xs := (List.range ds.length).map fun i => ((i : Nat) : Int)) (s := s) (I := fun i s' => s'.length ≤ s.length + i ∧ ∀ k, k ∈ s' ↔ k ∈ s ∨ ∃ j, j < i ∧ k = ((j : Int), (dOf ds j).map (atL ks2 t))) ⟨Nat.le_refl _, fun k => by simp⟩ fun i x s' hx ⟨q1, q2⟩ => by
      obtain ⟨hi, rfl⟩ := lt_of_at hx
      unfold T_law_b1
      simp only
      rw [atQ rfl (dOf_at hi), bindS, row_of_ok (nm i hi) (by omega) (by have := d4 i hi; omega), bindS, putN_ok (by omega), bindS]
      refine ⟨_, rfl, ?_, fun k => ?_⟩
      · split
        · omega
        · rw [List.length_append, List.length_singleton]; omega
      · have e : k ∈ s' ++ [((i : Int), (dOf ds i).map (atL ks2 t))] ↔ k ∈ s ∨ ∃ j, j < i + 1 ∧ k = ((j : Int), (dOf ds j).map (atL ks2 t)) := by
          rw [List.mem_append, List.mem_singleton, q2]
          constructor
          · rintro ((h | ⟨j, hj, h⟩) | h)
            · exact .inl h
            · exact .inr ⟨j, by omega, h⟩
            · exact .inr ⟨i, by omega, h⟩
          · rintro (h | ⟨j, hj, h⟩)
            · exact .inl (.inl h)
            · rcases Nat.lt_succ_iff_lt_or_eq.mp hj with hj | rfl
              · exact .inl (.inr ⟨j, hj, h⟩)
              · exact .inr h
        rw [← e]
        split
        · rename_i hm'
          rw [List.mem_append, List.mem_singleton]
          exact ⟨.inl, fun z => z.elim id fun z => z ▸ hm'⟩
        · exact Iff.rfl
    rw [List.length_map, List.length_range] at k2 k3
    unfold T_law_b2
    simp only
    rw [putN (by omega), bindS, rangeN ds.length rfl (by omega), bindS, k1, bindS]
    have pl := putKV_len (l := ev) (k := t) (v := true)
    refine ⟨_, rfl, by simp only; omega, fun c => ?_, by simp only; omega, fun k => ?_⟩
    · simp only
      rw [putKV_keys, List.take_succ, ht]
      split
      · rename_i hc
        rw [i2]
        rw [i2] at hc
        simp only [Option.toList_some, List.mem_append, List.mem_singleton]
        exact ⟨.inl, fun z => z.elim id fun z => z ▸ hc⟩
      · rw [List.mem_append, i2]
        simp
    · simp only
      rw [k3, i4, List.take_succ, ht]
      constructor
      · rintro (⟨t', h, z⟩ | ⟨j, hj, h⟩)
        · exact ⟨t', List.mem_append_left _ h, z⟩
        · exact ⟨t, by simp, j, hj, h⟩
      · rintro ⟨t', h, z⟩
        rcases List.mem_append.mp h with h | h
        · exact .inl ⟨t', h, z⟩
        · have : t' = t := by simpa using h
          subst this
          exact .inr z
  rw [List.take_length] at v2 w2
  simp only at v2 w2
  have ee : ∀ f j, j < ds.length → ∀ l ∈ dOf ds j, f l = atL ks2 (ks2.map f) l := fun f j hj l hl => (atL_map (nm j hj l hl)).symm
  have inN : ∀ (i : Nat) (row : List Int), i < ds.length → (((i : Int), row) ∈ N ↔ ∃ f, IsA ds.length (dOf ds) (gt R) f ∧ (dOf ds i).map f = row) := fun i row hi => by
    rw [w2]
    constructor
    · rintro ⟨t, ht, j, hj, e⟩
      have q1 : (i : Int) = (j : Int) := congrArg Prod.fst e
      have q2 : row = _ := congrArg Prod.snd e
      have : i = j := by omega
      subst this
      obtain ⟨_, h⟩ := (e4 t).mp ht
      exact ⟨atL ks2 t, (Sat_isA B hm).mp h, q2.symm⟩
    · rintro ⟨f, hf, rfl⟩
      refine ⟨ks2.map f, (e4 _).mpr ⟨by simp, (Sat_isA B hm).mpr (hf.cong (ee f))⟩, i, hi, ?_⟩
      rw [List.map_congr_left (ee f i hi)]
  have run : forC (T_law_b4 (ds, ps) R ks2 (ev, N)) ((List.range ds.length).map fun i => ((i : Nat) : Int)) () = some (.nx ()) := by
    have := forC_all (f := T_law_b4 (ds, ps) R ks2 (ev, N)) (p := fun _ => true) (r := false) (xs := (List.range ds.length).map fun i => ((i : Nat) : Int)) fun x hx => by
      obtain ⟨i, hi, rfl⟩ := List.mem_map.mp hx
      have hi := List.mem_range.mp hi
      unfold T_law_b4
      rw [atQ (n := i) rfl (gt_at (by rw [B.len]; exact hi)), bindS]
      have inner := forC_all (f := T_law_b3 (ds, ps) R ks2 (ev, N) (i : Int)) (p := fun _ => true) (r := false) (xs := gt R i) fun row hrow => by
        unfold T_law_b3
        simp only
        rcases through_ok T B h6 c1 c3 (by omega) hi hrow with ⟨q1, q2⟩ | ⟨f, hf, hfr, q1⟩
        · rw [q1, bindS, decide_eq_false (fun z => q2 ((inN i row hi).mp z))]
          rfl
        · have eq1 : (dOf ds i).map (atL ks2 (ks2.map f)) = row := by
            rw [← hfr]
            exact (List.map_congr_left (ee f i hi)).symm
          rw [q1, bindS, decide_eq_true ((inN i row hi).mpr ⟨f, hf, hfr⟩)]
          simp only [Bool.not_true, Bool.false_eq_true, if_false]
          rw [bindS, atQ rfl (dOf_at hi), bindS, right_ok (nm i hi) (by simp) (by have := d4 i hi; omega) (by omega) ((v2 _).mpr ((e4 _).mpr ⟨by simp, (Sat_isA B hm).mpr (hf.cong (ee f))⟩)) eq1, bindS]
          rfl
      rw [inner]
      simp [behind]
    rw [this]
    simp
  unfold T_law
  rw [e1, bindS, e2, bindS, b1, bindS, e3, bindS, n1, bindS, rangeN ds.length rfl (by omega), bindS, run, bindS]
  simp [behind]
theorem law_true (ns : List Int) (h : ns.length ≤ 63) : ∃ env, lawAns ns = .ok (.rt (.fz (.bl true)) env) := sm_law (law_T ns h)
end J
open PySem PySem.W PyProof.Rows in
set_option maxRecDepth 100000 in
set_option maxHeartbeats 0 in
theorem PySem.Challenge.cw_joinwood_k22_through_holds : PySem.Challenge.rw_joinwood_k22_through.Holds := by
  w_on; o_law; k_head; (case hw => w_witness2)
  k_fill
  refine J.walk (l := PySem.Challenge.rw_joinwood_k22_through) rfl rfl (fun w h Y => PySem.W.kIn_of Y) ?F
  case F =>
    intro w mg fa h KX G hmg
    refine' J.all_mk KX G hmg J.law_true ?a1 ?l1 ?c1 ?k1 ?a2 ?l2 ?c2 ?k2 ?a3 ?l3 ?c3 ?k3 ?a4 ?l4 ?c4 ?k4 ?a5 ?l5 ?c5 ?k5 ?a6 ?l6 ?c6 ?k6 ?a7 ?l7 ?c7 ?k7 ?a8 ?l8 ?c8 ?k8 ?a9 ?l9 ?c9 ?k9 ?a10 ?l10 ?c10 ?k10 ?a11 ?l11 ?c11 ?k11 ?a12 ?l12 ?c12 ?k12 ?a13 ?l13 ?c13 ?k13 ?a14 ?l14 ?c14 ?k14 ?a15 ?l15 ?c15 ?k15 ?a16 ?l16 ?c16 ?k16 ?a17 ?l17 ?c17 ?k17 ?a18 ?l18 ?c18 ?k18 ?z_sum ?z_len ?z_range ?z_list ?z_tuple ?z_ord ?z_sorted ?z_zip ?z_dict ?z_reversed ?z_enumerate ?z_isinstance ?z_int ?z_bool
    (case a1 => k_is)
    (case l1 => k_is)
    (case c1 => k_is)
    (case k1 => k_is)
    (case a2 => k_is)
    (case l2 => k_is)
    (case c2 => k_is)
    (case k2 => k_is)
    (case a3 => k_is)
    (case l3 => k_is)
    (case c3 => k_is)
    (case k3 => k_is)
    (case a4 => k_is)
    (case l4 => k_is)
    (case c4 => k_is)
    (case k4 => k_is)
    (case a5 => k_is)
    (case l5 => k_is)
    (case c5 => k_is)
    (case k5 => k_is)
    (case a6 => k_is)
    (case l6 => k_is)
    (case c6 => k_is)
    (case k6 => k_is)
    (case a7 => k_is)
    (case l7 => k_is)
    (case c7 => k_is)
    (case k7 => k_is)
    (case a8 => k_is)
    (case l8 => k_is)
    (case c8 => k_is)
    (case k8 => k_is)
    (case a9 => k_is)
    (case l9 => k_is)
    (case c9 => k_is)
    (case k9 => k_is)
    (case a10 => k_is)
    (case l10 => k_is)
    (case c10 => k_is)
    (case k10 => k_is)
    (case a11 => k_is)
    (case l11 => k_is)
    (case c11 => k_is)
    (case k11 => k_is)
    (case a12 => k_is)
    (case l12 => k_is)
    (case c12 => k_is)
    (case k12 => k_is)
    (case a13 => k_is)
    (case l13 => k_is)
    (case c13 => k_is)
    (case k13 => k_is)
    (case a14 => k_is)
    (case l14 => k_is)
    (case c14 => k_is)
    (case k14 => k_is)
    (case a15 => k_is)
    (case l15 => k_is)
    (case c15 => k_is)
    (case k15 => k_is)
    (case a16 => k_is)
    (case l16 => k_is)
    (case c16 => k_is)
    (case k16 => k_is)
    (case a17 => k_is)
    (case l17 => k_is)
    (case c17 => k_is)
    (case k17 => k_is)
    (case a18 => k_is)
    (case l18 => k_is)
    (case c18 => k_is)
    (case k18 => k_is)
    (case z_sum => k_is)
    (case z_len => k_is)
    (case z_range => k_is)
    (case z_list => k_is)
    (case z_tuple => k_is)
    (case z_ord => k_is)
    (case z_sorted => k_is)
    (case z_zip => k_is)
    (case z_dict => k_is)
    (case z_reversed => k_is)
    (case z_enumerate => k_is)
    (case z_isinstance => k_is)
    (case z_int => k_is)
    (case z_bool => k_is)

