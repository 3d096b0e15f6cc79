import PyProof.Rows.All
import Wide.All
import OpenK.AllK
import Wide.FinOn
import HandS.ForMost
import HandS.ForExc
import HandS.Deep
import HandS.TupAny
import HandS.SortInts
import HandS.SortOrd
import HandS.Wide
import HandS.Style
import HandS.IsInst
import KE.SortData
import HandS.Flt
import PyProof.ListStr
import PyProof.TupleOfStr
import KE.KIndexOf
import HandS.Zip
import HandS.Rev
import HandS.ListItems
import HandS.Text
import HandS.SetFor
import HandS.Strs
import HandS.SetKeys
import HandS.More
import PySem.Challenge.RW_joinwood_k03_answers
set_option Elab.async false
set_option linter.all false
set_option maxRecDepth 100000
namespace J
open PySem PySem.Spec PyProof.Rows L2
abbrev Sl := List (Option V)
/-! ### values -/
inductive FV where
  | non
  | bl (b : Bool)
  | int (i : Int)
  | str (x : Str)
  | tup (xs : List FV)
  | tuz (xs : List FV)
  | lst (xs : List FV)
  | dK (kvs : List (Key × FV))
  | dT (kvs : List (List Key × FV))
  | ins (c : Str) (fs : List (Str × FV))
  | exc (c : Str)
  | scr (xs : List Int)
inductive OV where
  | fz (x : FV)
  | ol (xs : List FV)
  | oK (kvs : List (Key × FV))
  | oT (kvs : List (List Key × FV))
  | dl (xs : List OV)
  | dd (kvs : List (Key × OV))
  | tp (xs : List OV)
  | ob (c : Str) (fs : List (Str × OV))
section
variable (M : Str → Option Value) (F : Hp)
mutual
def FDen : FV → V → Prop
  | .non, v => v = .non
  | .bl b, v => v = .bl b
  | .int i, v => v = .int i
  | .str x, v => v = .str x
  | .tup xs, v => ∃ a vs, v = .ref a ∧ F a = some (.tup vs) ∧ FDenL xs vs
  | .tuz xs, v => ∃ a vs o, v = .ref a ∧ F a = some (.frz o (.tup vs)) ∧ o.cls = .type "tuple" ∧ o.dict = none ∧ FDenL xs vs
  | .lst xs, v => ∃ a vs, v = .ref a ∧ F a = some (.lst vs) ∧ FDenL xs vs
  | .dK kvs, v => ∃ a ws, v = .ref a ∧ F a = some (.dK ws) ∧ FDenK kvs ws
  | .dT kvs, v => ∃ a ws, v = .ref a ∧ F a = some (.dT ws) ∧ FDenT kvs ws
  | .ins c fs, v => ∃ a C dx ws, v = .ref a ∧ M c = some (.ref C) ∧ F a = some (.ins C dx ws) ∧ F dx = some (.own a) ∧ FDenA fs ws
  | .exc c, v => ∃ a C, v = .ref a ∧ M c = some (.ref C) ∧ F a = some (.ext fun h => ∃ oe vs, h.get? a = some oe ∧ Zc (.ref C) none oe ∧ oe.data = .fields vs)
  | .scr xs, v => ∃ a, v = .ref a ∧ Rd F a (.lst (xs.map V.int))
def FDenL : List FV → List V → Prop
  | [], vs => vs = []
  | x :: xs, vs => ∃ v ws, vs = v :: ws ∧ FDen x v ∧ FDenL xs ws
def FDenK : List (Key × FV) → List (Key × V) → Prop
  | [], ws => ws = []
  | (k, x) :: r, ws => ∃ v rs, ws = (k, v) :: rs ∧ FDen x v ∧ FDenK r rs
def FDenT : List (List Key × FV) → List (List Key × V) → Prop
  | [], ws => ws = []
  | (k, x) :: r, ws => ∃ v rs, ws = (k, v) :: rs ∧ FDen x v ∧ FDenT r rs
def FDenA : List (Str × FV) → List (Str × V) → Prop
  | [], ws => ws = []
  | (k, x) :: r, ws => ∃ v rs, ws = (k, v) :: rs ∧ FDen x v ∧ FDenA r rs
end
abbrev Cells := List (Addr × HO)
mutual
def Own : OV → V → Cells → Prop
  | .fz x, v, L => FDen M F x v ∧ L = []
  | .ol xs, v, L => ∃ a vs, v = .ref a ∧ FDenL M F xs vs ∧ L = [(a, .lst vs)]
  | .oK kvs, v, L => ∃ a ws, v = .ref a ∧ FDenK M F kvs ws ∧ L = [(a, .dK ws)]
  | .oT kvs, v, L => ∃ a ws, v = .ref a ∧ FDenT M F kvs ws ∧ L = [(a, .dT ws)]
  | .dl xs, v, L => ∃ a vs L', v = .ref a ∧ OwnL xs vs L' ∧ L = (a, .lst vs) :: L'
  | .dd kvs, v, L => ∃ a ws L', v = .ref a ∧ OwnK kvs ws L' ∧ L = (a, .dK ws) :: L'
  | .tp xs, v, L => ∃ a vs, v = .ref a ∧ F a = some (.tup vs) ∧ OwnL xs vs L
  | .ob c fs, v, L => ∃ a C dx ws L', v = .ref a ∧ M c = some (.ref C) ∧ F dx = some (.own a) ∧ OwnA fs ws L' ∧ L = (a, .ins C dx ws) :: L'
def OwnL : List OV → List V → Cells → Prop
  | [], vs, L => vs = [] ∧ L = []
  | x :: xs, vs, L => ∃ v ws A B, vs = v :: ws ∧ Own x v A ∧ OwnL xs ws B ∧ L = A ++ B
def OwnK : List (Key × OV) → List (Key × V) → Cells → Prop
  | [], ws, L => ws = [] ∧ L = []
  | (k, x) :: r, ws, L => ∃ v rs A B, ws = (k, v) :: rs ∧ Own x v A ∧ OwnK r rs B ∧ L = A ++ B
def OwnA : List (Str × OV) → List (Str × V) → Cells → Prop
  | [], ws, L => ws = [] ∧ L = []
  | (k, x) :: r, ws, L => ∃ v rs A B, ws = (k, v) :: rs ∧ Own x v A ∧ OwnA r rs B ∧ L = A ++ B
end
end
/-! ### a larger frozen heap -/
section
variable {M : Str → Option Value} {F F' : Hp}
mutual
theorem FDen.mono (h : Same F F') : ∀ {x : FV} {v : V}, FDen M F x v → FDen M F' x v
  | .non, _, d => d
  | .bl _, _, d => d
  | .int _, _, d => d
  | .str _, _, d => d
  | .tup xs, _, ⟨a, vs, e, q, r⟩ => ⟨a, vs, e, h _ _ q, FDenL.mono h r⟩
  | .tuz xs, _, ⟨a, vs, o, e, q, q1, q2, r⟩ => ⟨a, vs, o, e, h _ _ q, q1, q2, FDenL.mono h r⟩
  | .lst xs, _, ⟨a, vs, e, q, r⟩ => ⟨a, vs, e, h _ _ q, FDenL.mono h r⟩
  | .dK kvs, _, ⟨a, vs, e, q, r⟩ => ⟨a, vs, e, h _ _ q, FDenK.mono h r⟩
  | .dT kvs, _, ⟨a, vs, e, q, r⟩ => ⟨a, vs, e, h _ _ q, FDenT.mono h r⟩
  | .ins c fs, _, ⟨a, C, dx, ws, e, m, q, q2, r⟩ => ⟨a, C, dx, ws, e, m, h _ _ q, h _ _ q2, FDenA.mono h r⟩
  | .exc c, _, ⟨a, C, e, m, q⟩ => ⟨a, C, e, m, h _ _ q⟩
  | .scr xs, _, ⟨a, e, q⟩ => ⟨a, e, q.elim (fun q => .inl (h _ _ q)) fun ⟨o, q⟩ => .inr ⟨o, h _ _ q⟩⟩
theorem FDenL.mono (h : Same F F') : ∀ {xs : List FV} {vs : List V}, FDenL M F xs vs → FDenL M F' xs vs
  | [], _, d => d
  | _ :: _, _, ⟨v, ws, e, d, r⟩ => ⟨v, ws, e, FDen.mono h d, FDenL.mono h r⟩
theorem FDenK.mono (h : Same F F') : ∀ {xs : List (Key × FV)} {vs : List (Key × V)}, FDenK M F xs vs → FDenK M F' xs vs
  | [], _, d => d
  | (_, _) :: _, _, ⟨v, ws, e, d, r⟩ => ⟨v, ws, e, FDen.mono h d, FDenK.mono h r⟩
theorem FDenT.mono (h : Same F F') : ∀ {xs : List (List Key × FV)} {vs : List (List Key × V)}, FDenT M F xs vs → FDenT M F' xs vs
  | [], _, d => d
  | (_, _) :: _, _, ⟨v, ws, e, d, r⟩ => ⟨v, ws, e, FDen.mono h d, FDenT.mono h r⟩
theorem FDenA.mono (h : Same F F') : ∀ {xs : List (Str × FV)} {vs : List (Str × V)}, FDenA M F xs vs → FDenA M F' xs vs
  | [], _, d => d
  | (_, _) :: _, _, ⟨v, ws, e, d, r⟩ => ⟨v, ws, e, FDen.mono h d, FDenA.mono h r⟩
end
mutual
theorem Own.mono (h : Same F F') : ∀ {x : OV} {v : V} {L : Cells}, Own M F x v L → Own M F' x v L
  | .fz _, _, _, ⟨d, e⟩ => ⟨d.mono h, e⟩
  | .ol _, _, _, ⟨a, vs, e, r, q⟩ => ⟨a, vs, e, r.mono h, q⟩
  | .oK _, _, _, ⟨a, vs, e, r, q⟩ => ⟨a, vs, e, r.mono h, q⟩
  | .oT _, _, _, ⟨a, vs, e, r, q⟩ => ⟨a, vs, e, r.mono h, q⟩
  | .dl _, _, _, ⟨a, vs, L', e, r, q⟩ => ⟨a, vs, L', e, OwnL.mono h r, q⟩
  | .dd _, _, _, ⟨a, vs, L', e, r, q⟩ => ⟨a, vs, L', e, OwnK.mono h r, q⟩
  | .tp _, _, _, ⟨a, vs, e, q, r⟩ => ⟨a, vs, e, h _ _ q, OwnL.mono h r⟩
  | .ob _ _, _, _, ⟨a, C, dx, ws, L', e, m, q, r, q2⟩ => ⟨a, C, dx, ws, L', e, m, h _ _ q, OwnA.mono h r, q2⟩
theorem OwnL.mono (h : Same F F') : ∀ {xs : List OV} {vs : List V} {L : Cells}, OwnL M F xs vs L → OwnL M F' xs vs L
  | [], _, _, d => d
  | _ :: _, _, _, ⟨v, ws, A, B, e, d, r, q⟩ => ⟨v, ws, A, B, e, Own.mono h d, OwnL.mono h r, q⟩
theorem OwnK.mono (h : Same F F') : ∀ {xs : List (Key × OV)} {vs : List (Key × V)} {L : Cells}, OwnK M F xs vs L → OwnK M F' xs vs L
  | [], _, _, d => d
  | (_, _) :: _, _, _, ⟨v, ws, A, B, e, d, r, q⟩ => ⟨v, ws, A, B, e, Own.mono h d, OwnK.mono h r, q⟩
theorem OwnA.mono (h : Same F F') : ∀ {xs : List (Str × OV)} {vs : List (Str × V)} {L : Cells}, OwnA M F xs vs L → OwnA M F' xs vs L
  | [], _, _, d => d
  | (_, _) :: _, _, _, ⟨v, ws, A, B, e, d, r, q⟩ => ⟨v, ws, A, B, e, Own.mono h d, OwnA.mono h r, q⟩
end
end
/-! ### the frozen look of an owned value -/
mutual
def OV.fv : OV → FV
  | .fz x => x
  | .ol xs => .lst xs
  | .oK kvs => .dK kvs
  | .oT kvs => .dT kvs
  | .dl xs => .lst (OV.fvL xs)
  | .dd kvs => .dK (OV.fvK kvs)
  | .tp xs => .tup (OV.fvL xs)
  | .ob c fs => .ins c (OV.fvA fs)
def OV.fvL : List OV → List FV
  | [] => []
  | x :: xs => x.fv :: OV.fvL xs
def OV.fvK : List (Key × OV) → List (Key × FV)
  | [] => []
  | (k, x) :: xs => (k, x.fv) :: OV.fvK xs
def OV.fvA : List (Str × OV) → List (Str × FV)
  | [] => []
  | (k, x) :: xs => (k, x.fv) :: OV.fvA xs
end
theorem OV.fvL_map : ∀ xs : List OV, OV.fvL xs = xs.map OV.fv
  | [] => rfl
  | x :: xs => by simp only [OV.fvL, List.map_cons, OV.fvL_map xs]
section
variable {M : Str → Option Value} {F H : Hp}
mutual
theorem Own.fden (h : Same F H) : ∀ {x : OV} {v : V} {L : Cells}, Own M F x v L → (∀ p ∈ L, H p.1 = some p.2) → FDen M H x.fv v
  | .fz _, _, _, ⟨d, e⟩, _ => d.mono h
  | .ol _, _, _, ⟨a, vs, e, r, q⟩, c => ⟨a, vs, e, by subst q; exact c _ List.mem_cons_self, r.mono h⟩
  | .oK _, _, _, ⟨a, vs, e, r, q⟩, c => ⟨a, vs, e, by subst q; exact c _ List.mem_cons_self, r.mono h⟩
  | .oT _, _, _, ⟨a, vs, e, r, q⟩, c => ⟨a, vs, e, by subst q; exact c _ List.mem_cons_self, r.mono h⟩
  | .dl _, _, _, ⟨a, vs, L', e, r, q⟩, c => by
    subst q
    exact ⟨a, vs, e, c _ List.mem_cons_self, OwnL.fden h r fun p hp => c p (List.mem_cons_of_mem _ hp)⟩
  | .dd _, _, _, ⟨a, vs, L', e, r, q⟩, c => by
    subst q
    exact ⟨a, vs, e, c _ List.mem_cons_self, OwnK.fden h r fun p hp => c p (List.mem_cons_of_mem _ hp)⟩
  | .tp _, _, _, ⟨a, vs, e, q, r⟩, c => ⟨a, vs, e, h _ _ q, OwnL.fden h r c⟩
  | .ob _ _, _, _, ⟨a, C, dx, ws, L', e, m, q, r, q2⟩, c => by
    subst q2
    exact ⟨a, C, dx, ws, e, m, c _ List.mem_cons_self, h _ _ q, OwnA.fden h r fun p hp => c p (List.mem_cons_of_mem _ hp)⟩
theorem OwnL.fden (h : Same F H) : ∀ {xs : List OV} {vs : List V} {L : Cells}, OwnL M F xs vs L → (∀ p ∈ L, H p.1 = some p.2) → FDenL M H (OV.fvL xs) vs
  | [], _, _, d, _ => d.1
  | _ :: _, _, _, ⟨v, ws, A, B, e, d, r, q⟩, c => by
    subst q
    exact ⟨v, ws, e, Own.fden h d fun p hp => c p (List.mem_append_left _ hp), OwnL.fden h r fun p hp => c p (List.mem_append_right _ hp)⟩
theorem OwnK.fden (h : Same F H) : ∀ {xs : List (Key × OV)} {vs : List (Key × V)} {L : Cells}, OwnK M F xs vs L → (∀ p ∈ L, H p.1 = some p.2) → FDenK M H (OV.fvK xs) vs
  | [], _, _, d, _ => d.1
  | (_, _) :: _, _, _, ⟨v, ws, A, B, e, d, r, q⟩, c => by
    subst q
    exact ⟨v, ws, e, Own.fden h d fun p hp => c p (List.mem_append_left _ hp), OwnK.fden h r fun p hp => c p (List.mem_append_right _ hp)⟩
theorem OwnA.fden (h : Same F H) : ∀ {xs : List (Str × OV)} {vs : List (Str × V)} {L : Cells}, OwnA M F xs vs L → (∀ p ∈ L, H p.1 = some p.2) → FDenA M H (OV.fvA xs) vs
  | [], _, _, d, _ => d.1
  | (_, _) :: _, _, _, ⟨v, ws, A, B, e, d, r, q⟩, c => by
    subst q
    exact ⟨v, ws, e, Own.fden h d fun p hp => c p (List.mem_append_left _ hp), OwnA.fden h r fun p hp => c p (List.mem_append_right _ hp)⟩
end
end
/-! ### results, environments -/
/-- a result: one's own (or frozen), or only looked at -/
inductive Rv where
  | st (o : OV)
  | bo (o : OV)
def Rv.ov : Rv → OV
  | .st o => o
  | .bo o => o
def Rv.fv (r : Rv) : FV := r.ov.fv
inductive Ans (α : Type) where
  | ok (a : α)
  | ex (c : Str)
  | no
def Ans.bind {α β : Type} (x : Ans α) (f : α → Ans β) : Ans β := match x with
  | .ok a => f a
  | .ex c => .ex c
  | .no => .no
def Ans.map {α β : Type} (f : α → β) (x : Ans α) : Ans β := match x with
  | .ok a => .ok (f a)
  | .ex c => .ex c
  | .no => .no
abbrev VEnv := List (Option OV)
abbrev DE := VEnv → Ans Rv
abbrev DT := VEnv → Ans Bool
inductive SO where
  | nx (e : VEnv)
  | rt (o : OV) (e : VEnv)
  | bk (e : VEnv)
  | ct (e : VEnv)
abbrev DS := VEnv → Ans SO
/-! ### cells -/
def updL (F : Hp) : Cells → Hp
  | [] => F
  | p :: L => upd (updL F L) p.1 p.2
theorem updL_out {F : Hp} {a : Addr} : ∀ {L : Cells}, (∀ p ∈ L, p.1 ≠ a) → updL F L a = F a
  | [], _ => rfl
  | p :: L, h => by
    unfold updL
    rw [upd_ne (fun e => h p List.mem_cons_self e.symm)]
    exact updL_out fun q hq => h q (List.mem_cons_of_mem _ hq)
theorem updL_in {F : Hp} : ∀ {L : Cells}, (L.map (·.1)).Nodup → ∀ p ∈ L, updL F L p.1 = some p.2
  | [], _, _, h => nomatch h
  | q :: L, nd, p, h => by
    rw [List.map_cons, List.nodup_cons] at nd
    unfold updL
    rcases List.mem_cons.mp h with rfl | h
    · exact upd_same
    · rw [upd_ne (fun e => nd.1 (by rw [← e]; exact List.mem_map.mpr ⟨p, h, rfl⟩))]
      exact updL_in nd.2 p h
theorem updL_cases {F : Hp} {a : Addr} {o : HO} : ∀ {L : Cells}, updL F L a = some o → F a = some o ∨ (a, o) ∈ L
  | [], h => .inl h
  | q :: L, h => by
    unfold updL at h
    by_cases e : a = q.1
    · rw [e, upd_same] at h
      cases h
      exact .inr (by rw [e]; exact List.mem_cons_self)
    · rw [upd_ne e] at h
      exact (updL_cases h).imp id (List.mem_cons_of_mem _)
/-- L: one's own cells: they stand in H, apart, not among the frozen F, nor among what is kept (Z) -/
structure Good (F Z H : Hp) (L : Cells) : Prop where
  nd : (L.map (·.1)).Nodup
  hp : ∀ p ∈ L, H p.1 = some p.2
  fr : ∀ p ∈ L, F p.1 = none
  zr : ∀ p ∈ L, Z p.1 = none
section
variable {F F' Z H H' : Hp} {L L' D : Cells}
theorem Good.nil : Good F Z H [] := ⟨List.nodup_nil, (fun _ h => nomatch h), (fun _ h => nomatch h), (fun _ h => nomatch h)⟩
theorem Good.perm (g : Good F Z H L) (p : L.Perm L') : Good F Z H L' :=
  ⟨(p.map _).nodup_iff.mp g.nd, fun q hq => g.hp q (p.mem_iff.mpr hq), fun q hq => g.fr q (p.mem_iff.mpr hq), fun q hq => g.zr q (p.mem_iff.mpr hq)⟩
theorem Good.left (g : Good F Z H (L ++ L')) : Good F Z H L := by
  have n := g.nd
  rw [List.map_append, List.nodup_append] at n
  exact ⟨n.1, fun q hq => g.hp q (List.mem_append_left _ hq), fun q hq => g.fr q (List.mem_append_left _ hq), fun q hq => g.zr q (List.mem_append_left _ hq)⟩
theorem Good.right (g : Good F Z H (L ++ L')) : Good F Z H L' := (g.perm List.perm_append_comm).left
theorem Good.apart (g : Good F Z H (L ++ L')) : ∀ p ∈ L, ∀ q ∈ L', p.1 ≠ q.1 := fun p hp q hq e => by
  have n := g.nd
  rw [List.map_append, List.nodup_append] at n
  exact n.2.2 p.1 (List.mem_map.mpr ⟨p, hp, rfl⟩) q.1 (List.mem_map.mpr ⟨q, hq, rfl⟩) e
theorem Good.same (g : Good F Z H L) (h : Same H H') : Good F Z H' L := ⟨g.nd, fun p hp => h _ _ (g.hp p hp), g.fr, g.zr⟩
theorem Good.mk' (g : Good F Z H L) (g' : Good F Z H L') (h : ∀ p ∈ L, ∀ q ∈ L', p.1 ≠ q.1) : Good F Z H (L ++ L') := by
  refine ⟨?_, fun p hp => (List.mem_append.mp hp).elim (g.hp p) (g'.hp p), fun p hp => (List.mem_append.mp hp).elim (g.fr p) (g'.fr p), fun p hp => (List.mem_append.mp hp).elim (g.zr p) (g'.zr p)⟩
  rw [List.map_append, List.nodup_append]
  refine ⟨g.nd, g'.nd, fun a ha b hb e => ?_⟩
  obtain ⟨p, hp, e1⟩ := List.mem_map.mp ha
  obtain ⟨q, hq, e2⟩ := List.mem_map.mp hb
  exact h p hp q hq (by rw [e1, e2, e])
end
/-! ### environments over cells -/
section
variable (M : Str → Option Value) (F H : Hp)
inductive EnvOwn : Sl → VEnv → Cells → Prop
  | nil : EnvOwn [] [] []
  | skip {s : Option V} {σ : Sl} {env : VEnv} {L : Cells} : EnvOwn σ env L → EnvOwn (s :: σ) (none :: env) L
  | cons {v : V} {o : OV} {σ : Sl} {env : VEnv} {A B : Cells} : Own M F o v A → EnvOwn σ env B → EnvOwn (some v :: σ) (some o :: env) (A ++ B)
/-- looked at: it stands in the heap -/
def Bor (o : OV) (v : V) : Prop := ∃ A, Own M F o v A ∧ ∀ p ∈ A, H p.1 = some p.2
inductive TmpOwn : List (V × Rv) → Cells → Prop
  | nil : TmpOwn [] []
  | st {v : V} {o : OV} {T : List (V × Rv)} {A B : Cells} : Own M F o v A → TmpOwn T B → TmpOwn ((v, .st o) :: T) (A ++ B)
  | bo {v : V} {o : OV} {T : List (V × Rv)} {B : Cells} : Bor M F H o v → TmpOwn T B → TmpOwn ((v, .bo o) :: T) B
end
section
variable {M : Str → Option Value} {F F' H H' : Hp} {σ : Sl} {env : VEnv} {L : Cells} {T : List (V × Rv)} {o : OV} {v : V}
theorem EnvOwn.mono (h : Same F F') (e : EnvOwn M F σ env L) : EnvOwn M F' σ env L := by
  induction e with
  | nil => exact .nil
  | skip _ ih => exact .skip ih
  | cons d _ ih => exact .cons (d.mono h) ih
theorem Bor.mono (h : Same F F') (h' : Same H H') (b : Bor M F H o v) : Bor M F' H' o v :=
  let ⟨A, d, c⟩ := b
  ⟨A, d.mono h, fun p hp => h' _ _ (c p hp)⟩
theorem Bor.fden (h : Same F H) (b : Bor M F H o v) : FDen M H o.fv v :=
  let ⟨_, d, c⟩ := b
  d.fden h c
theorem TmpOwn.mono (h : Same F F') (h' : Same H H') (e : TmpOwn M F H T L) : TmpOwn M F' H' T L := by
  induction e with
  | nil => exact .nil
  | st d _ ih => exact .st (d.mono h) ih
  | bo d _ ih => exact .bo (d.mono h h') ih
theorem EnvOwn.len (e : EnvOwn M F σ env L) : σ.length = env.length := by
  induction e with
  | nil => rfl
  | skip _ ih => simp [ih]
  | cons _ _ ih => simp [ih]
/-- the value in a slot, and what may be put in its stead -/
theorem EnvOwn.repl (e : EnvOwn M F σ env L) : ∀ {i : Nat}, env[i]? = some (some o) → ∃ v A Lr, σ[i]? = some (some v) ∧ Own M F o v A ∧ L.Perm (A ++ Lr) ∧
    (∀ o' v' A', Own M F o' v' A' → ∃ L', EnvOwn M F (σ.set i (some v')) (env.set i (some o')) L' ∧ L'.Perm (A' ++ Lr)) ∧ ∀ s, EnvOwn M F (σ.set i s) (env.set i none) Lr := by
  induction e with
  | nil => intro i h; simp at h
  | @skip s σ env L e ih =>
    intro i h
    cases i with
    | zero => simp at h
    | succ i =>
      obtain ⟨v, A, Lr, h1, h2, h3, h4, h5⟩ := ih (i := i) (by simpa using h)
      refine ⟨v, A, Lr, by simpa using h1, h2, h3, fun o' v' A' d => ?_, fun s => .skip (h5 s)⟩
      obtain ⟨L', q1, q2⟩ := h4 o' v' A' d
      exact ⟨L', .skip q1, q2⟩
  | @cons v o2 σ env A B d e ih =>
    intro i h
    cases i with
    | zero =>
      have h' : o2 = o := by simpa using h
      subst h'
      exact ⟨v, A, B, rfl, d, .refl _, fun o' v' A' d' => ⟨A' ++ B, .cons d' e, .refl _⟩, fun s => .skip e⟩
    | succ i =>
      obtain ⟨w, A2, Lr, h1, h2, h3, h4, h5⟩ := ih (i := i) (by simpa using h)
      refine ⟨w, A2, A ++ Lr, by simpa using h1, h2, ?_, fun o' v' A' d' => ?_, fun s => .cons d (h5 s)⟩
      · exact (List.Perm.append_left A h3).trans (by
          rw [← List.append_assoc, ← List.append_assoc]
          exact List.perm_append_comm.append_right _)
      · obtain ⟨L', q1, q2⟩ := h4 o' v' A' d'
        refine ⟨A ++ L', .cons d q1, (List.Perm.append_left A q2).trans ?_⟩
        rw [← List.append_assoc, ← List.append_assoc]
        exact List.perm_append_comm.append_right _
/-- storing a value into a slot -/
theorem EnvOwn.set (e : EnvOwn M F σ env L) : ∀ (i : Nat) {A : Cells}, Own M F o v A → ∃ L' D, EnvOwn M F (σ.set i (some v)) (env.set i (some o)) L' ∧ (A ++ L).Perm (L' ++ D) := by
  induction e with
  | nil => intro i A d; exact ⟨[], A, .nil, by simp⟩
  | @skip s σ env L e ih =>
    intro i A d
    cases i with
    | zero => exact ⟨A ++ L, [], .cons d e, by simp⟩
    | succ i =>
      obtain ⟨L', D, q1, q2⟩ := ih i d
      exact ⟨L', D, .skip q1, q2⟩
  | @cons v2 o2 σ env A2 B d2 e ih =>
    intro i A d
    cases i with
    | zero =>
      refine ⟨A ++ B, A2, .cons d e, ?_⟩
      rw [List.append_assoc]
      exact List.Perm.append_left A List.perm_append_comm
    | succ i =>
      obtain ⟨L', D, q1, q2⟩ := ih i d
      refine ⟨A2 ++ L', D, .cons d2 q1, ?_⟩
      rw [List.append_assoc]
      refine List.Perm.trans ?_ (List.Perm.append_left A2 q2)
      rw [← List.append_assoc, ← List.append_assoc]
      exact List.perm_append_comm.append_right _
theorem EnvOwn.unset (e : EnvOwn M F σ env L) (i : Nat) (s : Option V) : ∃ L' D, EnvOwn M F (σ.set i s) (env.set i none) L' ∧ L.Perm (L' ++ D) := by
  induction e generalizing i with
  | nil => exact ⟨[], [], .nil, by simp⟩
  | @skip s2 σ env L e ih =>
    cases i with
    | zero => exact ⟨L, [], .skip e, by simp⟩
    | succ i =>
      obtain ⟨L', D, q1, q2⟩ := ih i
      exact ⟨L', D, .skip q1, q2⟩
  | @cons v2 o2 σ env A2 B d2 e ih =>
    cases i with
    | zero => exact ⟨B, A2, .skip e, List.perm_append_comm⟩
    | succ i =>
      obtain ⟨L', D, q1, q2⟩ := ih i
      refine ⟨A2 ++ L', D, .cons d2 q1, ?_⟩
      rw [List.append_assoc]
      exact List.Perm.append_left A2 q2
theorem TmpOwn.sub {T' : List (V × Rv)} (e : TmpOwn M F H T L) (h : T'.Sublist T) : ∃ L' D, TmpOwn M F H T' L' ∧ L.Perm (L' ++ D) := by
  induction h generalizing L with
  | slnil => exact ⟨L, [], e, by simp⟩
  | cons a _ ih =>
    cases e with
    | st d e =>
      obtain ⟨L', D, q1, q2⟩ := ih e
      rename_i A B
      refine ⟨L', A ++ D, q1, ?_⟩
      refine (List.Perm.append_left A q2).trans ?_
      rw [← List.append_assoc, ← List.append_assoc]
      exact List.perm_append_comm.append_right _
    | bo d e => exact ih e
  | cons_cons a _ ih =>
    cases e with
    | st d e =>
      obtain ⟨L', D, q1, q2⟩ := ih e
      rename_i A B
      refine ⟨A ++ L', D, .st d q1, ?_⟩
      rw [List.append_assoc]
      exact List.Perm.append_left A q2
    | bo d e =>
      obtain ⟨L', D, q1, q2⟩ := ih e
      exact ⟨L', D, .bo d q1, q2⟩
end
/-! ### the relation -/
/-- G: what is given; Z: what must stand; F: what is frozen -/
structure RF (M : Str → Option Value) (G Z H F : Hp) (σ : Sl) (env : VEnv) (T : List (V × Rv)) (L1 L2 : Cells) : Prop where
  gf : Same G F
  fg : ∀ a o, F a = some o → G a = some o ∨ Z a = none
  fh : Same F H
  zh : Same Z H
  ev : EnvOwn M F σ env L1
  tm : TmpOwn M F H T L2
  gd : Good F Z H (L1 ++ L2)
def R (M : Str → Option Value) (G Z H : Hp) (σ : Sl) (env : VEnv) (T : List (V × Rv)) : Prop := ∃ F L1 L2, RF M G Z H F σ env T L1 L2
/-- v is a new value o (its frozen parts stood before, or are new) -/
structure NewF (M : Str → Option Value) (F H H' F' : Hp) (o : OV) (v : V) (L : Cells) : Prop where
  ff : Same F F'
  fn : ∀ a u, F' a = some u → F a = some u ∨ H a = none
  fh : Same F' H'
  hh : Same H H'
  ow : Own M F' o v L
  gd : Good F' H H' L
def New (M : Str → Option Value) (F H H' : Hp) (o : OV) (v : V) : Prop := ∃ F' L, NewF M F H H' F' o v L
section
variable {M : Str → Option Value} {G Z H H' F F' : Hp} {σ : Sl} {env : VEnv} {T T' : List (V × Rv)} {L1 L2 : Cells} {o : OV} {v : V} {i : Nat}
theorem RF.r (r : RF M G Z H F σ env T L1 L2) : R M G Z H σ env T := ⟨F, L1, L2, r⟩
theorem RF.same (r : RF M G Z H F σ env T L1 L2) (h : Same H H') : RF M G Z H' F σ env T L1 L2 :=
  ⟨r.gf, r.fg, r.fh.trans h, r.zh.trans h, r.ev, r.tm.mono (Same.refl _) h, r.gd.same h⟩
theorem R.same (r : R M G Z H σ env T) (h : Same H H') : R M G Z H' σ env T := let ⟨_, _, _, r⟩ := r; (r.same h).r
theorem RF.sub (r : RF M G Z H F σ env T L1 L2) (h : T'.Sublist T) : R M G Z H σ env T' := by
  obtain ⟨L', D, q1, q2⟩ := r.tm.sub h
  refine ⟨F, L1, L', r.gf, r.fg, r.fh, r.zh, r.ev, q1, ?_⟩
  have g := r.gd.perm (List.Perm.append_left L1 q2)
  rw [← List.append_assoc] at g
  exact g.left
theorem R.sub (r : R M G Z H σ env T) (h : T'.Sublist T) : R M G Z H σ env T' := let ⟨_, _, _, r⟩ := r; r.sub h
theorem R.pop {p : V × Rv} (r : R M G Z H σ env (p :: T)) : R M G Z H σ env T := r.sub (List.sublist_cons_self _ _)
theorem R.pop2 {p q : V × Rv} (r : R M G Z H σ env (p :: q :: T)) : R M G Z H σ env (p :: T) := r.sub ((List.sublist_cons_self _ _).cons_cons _)
theorem R.pop3 {p q q2 : V × Rv} (r : R M G Z H σ env (p :: q :: q2 :: T)) : R M G Z H σ env (p :: T) := r.sub (((List.sublist_cons_self _ _).cons _).cons_cons _)
theorem RF.new (r : RF M G Z H F σ env T L1 L2) (n : New M F H H' o v) : R M G Z H' σ env ((v, .st o) :: T) := by
  obtain ⟨F', L, n⟩ := n
  refine ⟨F', L1, L ++ L2, r.gf.trans n.ff, fun a u e => ?_, n.fh, r.zh.trans n.hh, r.ev.mono n.ff, .st n.ow (r.tm.mono n.ff n.hh), ?_⟩
  · rcases n.fn a u e with e | e
    · exact r.fg a u e
    · refine .inr ?_
      cases q : Z a with
      | none => rfl
      | some z => rw [r.zh a z q] at e; cases e
  · have g : Good F' Z H' (L1 ++ L2) := ⟨r.gd.nd, fun p hp => n.hh _ _ (r.gd.hp p hp), (fun p hp => by
      cases q : F' p.1 with
      | none => rfl
      | some u =>
        rcases n.fn _ _ q with e | e
        · rw [r.gd.fr p hp] at e; cases e
        · rw [r.gd.hp p hp] at e; cases e), r.gd.zr⟩
    have g2 : Good F' Z H' L := ⟨n.gd.nd, n.gd.hp, n.gd.fr, fun p hp => by
      cases q : Z p.1 with
      | none => rfl
      | some z =>
        have e := n.gd.zr p hp
        rw [r.zh _ z q] at e
        cases e⟩
    have g3 := g2.mk' g fun p hp q hq e => by
      have e1 := n.gd.zr p hp
      rw [e, r.gd.hp q hq] at e1
      cases e1
    refine g3.perm ?_
    rw [← List.append_assoc, ← List.append_assoc]
    exact List.perm_append_comm.append_right _
theorem RF.look (r : RF M G Z H F σ env T L1 L2) (h : env[i]? = some (some o)) : ∃ v, σ[i]? = some (some v) ∧ RF M G Z H F σ env ((v, .bo o) :: T) L1 L2 := by
  obtain ⟨v, A, Lr, h1, h2, h3, _⟩ := r.ev.repl h
  refine ⟨v, h1, r.gf, r.fg, r.fh, r.zh, r.ev, .bo ⟨A, h2, fun p hp => r.gd.hp p (List.mem_append_left _ (h3.mem_iff.mpr (List.mem_append_left _ hp)))⟩ r.tm, r.gd⟩
theorem RF.lookF {x : FV} (r : RF M G Z H F σ env T L1 L2) (h : env[i]? = some (some (.fz x))) : ∃ v, σ[i]? = some (some v) ∧ RF M G Z H F σ env ((v, .st (.fz x)) :: T) L1 L2 := by
  obtain ⟨v, A, Lr, h1, h2, h3, _⟩ := r.ev.repl h
  have hA : A = [] := h2.2
  subst hA
  exact ⟨v, h1, r.gf, r.fg, r.fh, r.zh, r.ev, .st (A := []) h2 r.tm, r.gd⟩
theorem R.set (r : R M G Z H σ env ((v, .st o) :: T)) (i : Nat) : R M G Z H (σ.set i (some v)) (env.set i (some o)) T := by
  obtain ⟨F, L1, L2, r⟩ := r
  cases r.tm with
  | @st _ _ _ A B d t =>
    obtain ⟨L', D, q1, q2⟩ := r.ev.set i d
    refine ⟨F, L', B, r.gf, r.fg, r.fh, r.zh, q1, t, ?_⟩
    have g := r.gd
    have p1 : (L1 ++ (A ++ B)).Perm ((L' ++ B) ++ D) := by
      refine List.Perm.trans ?_ (List.Perm.trans (q2.append_right B) ?_)
      · rw [← List.append_assoc]
        exact (List.perm_append_comm).append_right B
      · rw [List.append_assoc, List.append_assoc]
        exact List.Perm.append_left L' List.perm_append_comm
    exact (g.perm p1).left
theorem R.unset (r : R M G Z H σ env T) (i : Nat) (s : Option V) : R M G Z H (σ.set i s) (env.set i none) T := by
  obtain ⟨F, L1, L2, r⟩ := r
  obtain ⟨L', D, q1, q2⟩ := r.ev.unset i s
  refine ⟨F, L', L2, r.gf, r.fg, r.fh, r.zh, q1, r.tm, ?_⟩
  have p1 : (L1 ++ L2).Perm ((L' ++ L2) ++ D) := by
    refine (q2.append_right L2).trans ?_
    rw [List.append_assoc, List.append_assoc]
    exact List.Perm.append_left L' List.perm_append_comm
  exact (r.gd.perm p1).left
/-- cells L frozen -/
theorem RF.ice (r : RF M G Z H F σ env T L1 L2) {A Lr : Cells} (p : (L1 ++ L2).Perm (A ++ Lr)) :
    Same G (updL F A) ∧ (∀ a o, updL F A a = some o → G a = some o ∨ Z a = none) ∧ Same F (updL F A) ∧ Same (updL F A) H ∧ Good (updL F A) Z H Lr ∧ ∀ p ∈ A, updL F A p.1 = some p.2 := by
  have g := r.gd.perm p
  have ff : Same F (updL F A) := fun a o e => by
    rw [updL_out fun q hq z => by
      have := g.fr q (List.mem_append_left _ hq)
      rw [z, e] at this
      cases this]
    exact e
  refine ⟨r.gf.trans ff, fun a o e => ?_, ff, fun a o e => ?_, ⟨g.right.nd, g.right.hp, fun q hq => ?_, g.right.zr⟩, fun q hq => updL_in g.left.nd q hq⟩
  · rcases updL_cases e with e | e
    · exact r.fg a o e
    · exact .inr (g.zr _ (List.mem_append_left _ e))
  · rcases updL_cases e with e | e
    · exact r.fh a o e
    · exact g.hp _ (List.mem_append_left _ e)
  · rw [updL_out fun q2 hq2 z => g.apart q2 hq2 q hq z]
    exact g.right.fr q hq
theorem R.freeze (r : R M G Z H σ env T) (h : env[i]? = some (some o)) : R M G Z H σ (env.set i (some (.fz o.fv))) T := by
  obtain ⟨F, L1, L2, r⟩ := r
  obtain ⟨v, A, Lr, h1, h2, h3, h4, _⟩ := r.ev.repl h
  obtain ⟨i1, i2, i3, i4, i5, i6⟩ := r.ice (A := A) (Lr := Lr ++ L2) (by rw [← List.append_assoc]; exact h3.append_right L2)
  obtain ⟨v2, A2, Lr2, k1, k2, k3, k4, _⟩ := (r.ev.mono i3).repl h
  rw [h1] at k1
  obtain rfl := Option.some.inj (Option.some.inj k1)
  have e2 := h4 (.fz .non) .non [] ⟨rfl, rfl⟩
  obtain ⟨L', q1, q2⟩ := e2
  have hset : env.set i (some (OV.fz o.fv)) = (env.set i (some (OV.fz .non))).set i (some (OV.fz o.fv)) := by rw [List.set_set]
  have hσ : σ = (σ.set i (some V.non)).set i (some v) := by
    rw [List.set_set]
    apply List.ext_getElem?
    intro j
    by_cases hj : i = j
    · subst hj
      obtain ⟨hlt, _⟩ := List.getElem?_eq_some_iff.mp h1
      rw [List.getElem?_set_self hlt, h1]
    · rw [List.getElem?_set_ne hj]
  have hi : (env.set i (some (OV.fz .non)))[i]? = some (some (OV.fz .non)) := by
    obtain ⟨hlt, _⟩ := List.getElem?_eq_some_iff.mp h
    exact List.getElem?_set_self hlt
  obtain ⟨v3, A3, Lr3, j1, j2, j3, j4, _⟩ := (q1.mono i3).repl hi
  have hA3 : A3 = [] := j2.2
  subst hA3
  obtain ⟨L4, u1, u2⟩ := j4 (.fz o.fv) v [] ⟨h2.fden i3 i6, rfl⟩
  rw [← hσ, ← hset] at u1
  refine ⟨updL F A, L4, L2, i1, i2, i4, r.zh, u1, r.tm.mono i3 (Same.refl _), i5.perm (List.Perm.append_right L2 ?_)⟩
  exact (q2.symm.trans j3).trans u2.symm
end
end J
namespace J
open PySem PySem.Spec PyProof.Rows L2
/-! ### judgements -/
section
variable {M : Str → Option Value} {G Z H H1 H2 F : Hp} {σ : Sl} {env : VEnv} {T T' T2 : List (V × Rv)} {W : WX} {Q : VK} {v : V} {o : OV} {L L1 L2 : Cells}
theorem TmpOwn.perm {H : Hp} (h : T.Perm T') : ∀ {L : Cells}, TmpOwn M F H T L → ∃ L', TmpOwn M F H T' L' ∧ L.Perm L' := by
  induction h with
  | nil => intro L e; exact ⟨L, e, .refl _⟩
  | cons x _ ih =>
    intro L e
    cases e with
    | st d e =>
      obtain ⟨L', q1, q2⟩ := ih e
      exact ⟨_, .st d q1, List.Perm.append_left _ q2⟩
    | bo d e =>
      obtain ⟨L', q1, q2⟩ := ih e
      exact ⟨_, .bo d q1, q2⟩
  | swap x y l =>
    intro L e
    cases e with
    | st d e =>
      cases e with
      | st d2 e =>
        refine ⟨_, .st d2 (.st d e), ?_⟩
        rw [← List.append_assoc, ← List.append_assoc]
        exact List.perm_append_comm.append_right _
      | bo d2 e => exact ⟨_, .bo d2 (.st d e), .refl _⟩
    | bo d e =>
      cases e with
      | st d2 e => exact ⟨_, .st d2 (.bo d e), .refl _⟩
      | bo d2 e => exact ⟨_, .bo d2 (.bo d e), .refl _⟩
  | trans _ _ ih1 ih2 =>
    intro L e
    obtain ⟨L1, q1, q2⟩ := ih1 e
    obtain ⟨L2, q3, q4⟩ := ih2 q1
    exact ⟨L2, q3, q2.trans q4⟩
theorem R.perm (r : R M G Z H σ env T) (h : T.Perm T') : R M G Z H σ env T' := by
  obtain ⟨F, L1, L2, r⟩ := r
  obtain ⟨L', q1, q2⟩ := r.tm.perm h
  exact ⟨F, L1, L', r.gf, r.fg, r.fh, r.zh, r.ev, q1, r.gd.perm (List.Perm.append_left _ q2)⟩
/-- T' is part of T -/
def Sb (T' T : List (V × Rv)) : Prop := ∃ D, T.Perm (T' ++ D)
theorem Sb.refl : Sb T T := ⟨[], by simp⟩
theorem Sb.cons {p : V × Rv} (h : Sb T' T) : Sb T' (p :: T) := by
  obtain ⟨D, h⟩ := h
  refine ⟨p :: D, (h.cons p).trans ?_⟩
  exact List.perm_middle.symm
theorem Sb.both {p : V × Rv} (h : Sb T' T) : Sb (p :: T') (p :: T) := by
  obtain ⟨D, h⟩ := h
  exact ⟨D, h.cons p⟩
theorem Sb.trans (a : Sb T T') (b : Sb T' T2) : Sb T T2 := by
  obtain ⟨D, a⟩ := a
  obtain ⟨E, b⟩ := b
  refine ⟨D ++ E, b.trans ?_⟩
  rw [← List.append_assoc]
  exact a.append_right E
theorem R.sb (r : R M G Z H σ env T) (h : Sb T' T) : R M G Z H σ env T' := by
  obtain ⟨D, h⟩ := h
  exact (r.perm h).sub (List.sublist_append_left _ _)
theorem RF.bor {p : V × Rv} (r : RF M G Z H F σ env T L1 L2) (h : p ∈ T) : Bor M F H p.2.ov p.1 := by
  obtain ⟨gf, fg, fh, zh, ev, tm, gd⟩ := r
  have key : ∀ {T : List (V × Rv)} {L : Cells}, TmpOwn M F H T L → (∀ q ∈ L, H q.1 = some q.2) → p ∈ T → Bor M F H p.2.ov p.1 := by
    intro T L e
    induction e with
    | nil => intro _ h; exact nomatch h
    | st d _ ih =>
      intro hc h
      rcases List.mem_cons.mp h with rfl | h
      · exact ⟨_, d, fun q hq => hc q (List.mem_append_left _ hq)⟩
      · exact ih (fun q hq => hc q (List.mem_append_right _ hq)) h
    | bo d _ ih =>
      intro hc h
      rcases List.mem_cons.mp h with rfl | h
      · exact d
      · exact ih hc h
  exact key tm (fun q hq => gd.hp q (List.mem_append_right _ hq)) h
/-- what is wanted of an answer -/
def Post (M : Str → Option Value) (W : WX) (G Z : Hp) (σ : Sl) (env : VEnv) (T : List (V × Rv)) (Q : VK) (H : Hp) : Ans Rv → Prop
  | .ok r => ∀ v H', Same H H' → R M G Z H' σ env ((v, r) :: T) → Q v H'
  | .ex c => ∀ C H', M c = some (.ref C) → Same H H' → R M G Z H' σ env T → W (.ref C) none σ H'
  | .no => False
def tE (M : Str → Option Value) (W : WX) (f : DE) : TE := fun σ H Q => ∃ G Z env T, R M G Z H σ env T ∧ Post M W G Z σ env T Q H (f env)
def PostT (M : Str → Option Value) (W : WX) (G Z : Hp) (σ : Sl) (env : VEnv) (T : List (V × Rv)) (Q : Bool → Hp → Prop) (H : Hp) : Ans Bool → Prop
  | .ok b => ∀ H', Same H H' → R M G Z H' σ env T → Q b H'
  | .ex c => ∀ C H', M c = some (.ref C) → Same H H' → R M G Z H' σ env T → W (.ref C) none σ H'
  | .no => False
def tT (M : Str → Option Value) (W : WX) (f : DT) : TT := fun σ H Q => ∃ G Z env T, R M G Z H σ env T ∧ PostT M W G Z σ env T Q H (f env)
/-- the answers of an argument list -/
def PostA (M : Str → Option Value) (W : WX) (G Z : Hp) (σ : Sl) (env : VEnv) (T : List (V × Rv)) (Q : List V → Hp → Prop) (H : Hp) : Ans (List Rv) → Prop
  | .ok rs => ∀ vs H', vs.length = rs.length → Same H H' → R M G Z H' σ env (vs.zip rs ++ T) → Q vs H'
  | .ex c => ∀ C H', M c = some (.ref C) → Same H H' → R M G Z H' σ env T → W (.ref C) none σ H'
  | .no => False
def tA (M : Str → Option Value) (W : WX) (f : VEnv → Ans (List Rv)) : TA := fun σ H Q => ∃ G Z env T, R M G Z H σ env T ∧ PostA M W G Z σ env T Q H (f env)
theorem Post.later {x : Ans Rv} (p : Post M W G Z σ env T Q H x) (h : Same H H1) : Post M W G Z σ env T Q H1 x := by
  cases x with
  | ok r => exact fun v H' s r => p v H' (h.trans s) r
  | ex c => exact fun C H' m s r => p C H' m (h.trans s) r
  | no => exact p
theorem PostT.later {x : Ans Bool} {Q : Bool → Hp → Prop} (p : PostT M W G Z σ env T Q H x) (h : Same H H1) : PostT M W G Z σ env T Q H1 x := by
  cases x with
  | ok r => exact fun H' s r => p H' (h.trans s) r
  | ex c => exact fun C H' m s r => p C H' m (h.trans s) r
  | no => exact p
theorem PostA.later {x : Ans (List Rv)} {Q : List V → Hp → Prop} (p : PostA M W G Z σ env T Q H x) (h : Same H H1) : PostA M W G Z σ env T Q H1 x := by
  cases x with
  | ok r => exact fun v H' hl s r => p v H' hl (h.trans s) r
  | ex c => exact fun C H' m s r => p C H' m (h.trans s) r
  | no => exact p
/-- one expression first: what follows is about the rest -/
theorem tE.then {f : DE} {Q1 : VK} (r : R M G Z H σ env T2) (hs : Sb T T2)
    (hok : ∀ rv v H1, f env = .ok rv → Same H H1 → R M G Z H1 σ env ((v, rv) :: T2) → Q1 v H1)
    (hex : ∀ c C H1, f env = .ex c → M c = some (.ref C) → Same H H1 → R M G Z H1 σ env T → W (.ref C) none σ H1) (hno : f env ≠ .no) : tE M W f σ H Q1 := by
  refine ⟨G, Z, env, T2, r, ?_⟩
  cases e : f env with
  | ok rv => exact fun v H1 s r => hok rv v H1 e s r
  | ex c => exact fun C H1 m s r => hex c C H1 e m s (r.sb hs)
  | no => exact absurd e hno
theorem tE.bind {f : DE} {k : Rv → Ans Rv} {Q1 : VK} (r : R M G Z H σ env T2) (hs : Sb T T2) (p : Post M W G Z σ env T Q H ((f env).bind k))
    (h : ∀ rv v H1, f env = .ok rv → Same H H1 → R M G Z H1 σ env ((v, rv) :: T2) → Post M W G Z σ env T Q H1 (k rv) → Q1 v H1) : tE M W f σ H Q1 := by
  refine tE.then r hs (fun rv v H1 e s r => h rv v H1 e s r ?_) (fun c C H1 e m s r => ?_) fun e => ?_
  · rw [e] at p; exact p.later s
  · rw [e] at p; exact p C H1 m s r
  · rw [e] at p; exact p
theorem tE.bindT {f : DE} {k : Rv → Ans Bool} {Q1 : VK} {Q : Bool → Hp → Prop} (r : R M G Z H σ env T2) (hs : Sb T T2) (p : PostT M W G Z σ env T Q H ((f env).bind k))
    (h : ∀ rv v H1, f env = .ok rv → Same H H1 → R M G Z H1 σ env ((v, rv) :: T2) → PostT M W G Z σ env T Q H1 (k rv) → Q1 v H1) : tE M W f σ H Q1 := by
  refine tE.then r hs (fun rv v H1 e s r => h rv v H1 e s r ?_) (fun c C H1 e m s r => ?_) fun e => ?_
  · rw [e] at p; exact p.later s
  · rw [e] at p; exact p C H1 m s r
  · rw [e] at p; exact p
theorem tE.bindA {f : DE} {k : Rv → Ans (List Rv)} {Q1 : VK} {Q : List V → Hp → Prop} (r : R M G Z H σ env T2) (hs : Sb T T2) (p : PostA M W G Z σ env T Q H ((f env).bind k))
    (h : ∀ rv v H1, f env = .ok rv → Same H H1 → R M G Z H1 σ env ((v, rv) :: T2) → PostA M W G Z σ env T Q H1 (k rv) → Q1 v H1) : tE M W f σ H Q1 := by
  refine tE.then r hs (fun rv v H1 e s r => h rv v H1 e s r ?_) (fun c C H1 e m s r => ?_) fun e => ?_
  · rw [e] at p; exact p.later s
  · rw [e] at p; exact p C H1 m s r
  · rw [e] at p; exact p
theorem tT.bind {f : DT} {k : Bool → Ans Rv} {Q1 : Bool → Hp → Prop} (r : R M G Z H σ env T2) (hs : Sb T T2) (p : Post M W G Z σ env T Q H ((f env).bind k))
    (h : ∀ b H1, f env = .ok b → Same H H1 → R M G Z H1 σ env T2 → Post M W G Z σ env T Q H1 (k b) → Q1 b H1) : tT M W f σ H Q1 := by
  refine ⟨G, Z, env, T2, r, ?_⟩
  cases e : f env with
  | ok b =>
    rw [e] at p
    exact fun H1 s r => h b H1 e s r (p.later s)
  | ex c =>
    rw [e] at p
    exact fun C H1 m s r => p C H1 m s (r.sb hs)
  | no => rw [e] at p; exact p
theorem tT.bindT {f : DT} {k : Bool → Ans Bool} {Q1 : Bool → Hp → Prop} {Q : Bool → Hp → Prop} (r : R M G Z H σ env T2) (hs : Sb T T2) (p : PostT M W G Z σ env T Q H ((f env).bind k))
    (h : ∀ b H1, f env = .ok b → Same H H1 → R M G Z H1 σ env T2 → PostT M W G Z σ env T Q H1 (k b) → Q1 b H1) : tT M W f σ H Q1 := by
  refine ⟨G, Z, env, T2, r, ?_⟩
  cases e : f env with
  | ok b =>
    rw [e] at p
    exact fun H1 s r => h b H1 e s r (p.later s)
  | ex c =>
    rw [e] at p
    exact fun C H1 m s r => p C H1 m s (r.sb hs)
  | no => rw [e] at p; exact p
theorem tA.bind {f : VEnv → Ans (List Rv)} {k : List Rv → Ans Rv} {Q1 : List V → Hp → Prop} (r : R M G Z H σ env T2) (hs : Sb T T2) (p : Post M W G Z σ env T Q H ((f env).bind k))
    (h : ∀ rs vs H1, f env = .ok rs → vs.length = rs.length → Same H H1 → R M G Z H1 σ env (vs.zip rs ++ T2) → Post M W G Z σ env T Q H1 (k rs) → Q1 vs H1) : tA M W f σ H Q1 := by
  refine ⟨G, Z, env, T2, r, ?_⟩
  cases e : f env with
  | ok rs =>
    rw [e] at p
    exact fun vs H1 hl s r => h rs vs H1 e hl s r (p.later s)
  | ex c =>
    rw [e] at p
    exact fun C H1 m s r => p C H1 m s (r.sb hs)
  | no => rw [e] at p; exact p
end
abbrev JE (X : Cx) (W : WX) (e : Expr) (f : DE) : Prop := PE X e (tE X.mg W f)
abbrev JT (X : Cx) (W : WX) (e : Expr) (f : DT) : Prop := PT X e (tT X.mg W f)
abbrev JW (X : Cx) (W : WX) (e : Expr) (f : DT) : Prop := PW X e (tT X.mg W f)
abbrev JA (X : Cx) (W : WX) (es : List Expr) (f : VEnv → Ans (List Rv)) : Prop := PA X es (tA X.mg W f)
theorem PE.imp {X : Cx} {e : Expr} {t t' : TE} (p : PE X e t) (h : ∀ σ H Q, t' σ H Q → t σ H Q) : PE X e t' := ⟨fun pins s σ H Q I q => p.run pins s σ H Q I (h σ H Q q)⟩
theorem PT.imp {X : Cx} {e : Expr} {t t' : TT} (p : PT X e t) (h : ∀ σ H Q, t' σ H Q → t σ H Q) : PT X e t' := ⟨fun pins s σ H Q I q => p.run pins s σ H Q I (h σ H Q q)⟩
theorem PW.imp {X : Cx} {e : Expr} {t t' : TT} (p : PW X e t) (h : ∀ σ H Q, t' σ H Q → t σ H Q) : PW X e t' := ⟨fun w pins s σ H Q I q => p.run w pins s σ H Q I (h σ H Q q)⟩
theorem PA.imp {X : Cx} {e : List Expr} {t t' : TA} (p : PA X e t) (h : ∀ σ H Q, t' σ H Q → t σ H Q) : PA X e t' := ⟨fun pos pins s σ H Q I q => p.run pos pins s σ H Q I (h σ H Q q)⟩
theorem PE.or {X : Cx} {e : Expr} {t t' : TE} (p : PE X e t) (p' : PE X e t') : PE X e (fun σ H Q => t σ H Q ∨ t' σ H Q) := ⟨fun pins s σ H Q I q => q.elim (p.run pins s σ H Q I) (p'.run pins s σ H Q I)⟩
theorem PT.or {X : Cx} {e : Expr} {t t' : TT} (p : PT X e t) (p' : PT X e t') : PT X e (fun σ H Q => t σ H Q ∨ t' σ H Q) := ⟨fun pins s σ H Q I q => q.elim (p.run pins s σ H Q I) (p'.run pins s σ H Q I)⟩
/-! ### new values -/
section
variable {M : Str → Option Value} {F H H' : Hp} {o : OV} {v : V} {x : FV} {xs : List FV} {vs : List V} {p : Addr}
theorem New.old (hf : Same F H) (d : FDen M F x v) : New M F H H (.fz x) v := ⟨F, [], Same.refl _, fun _ _ e => .inl e, hf, Same.refl _, ⟨d, rfl⟩, Good.nil⟩
theorem New.int {i : Int} (hf : Same F H) : New M F H H (.fz (.int i)) (.int i) := New.old hf rfl
theorem New.bl {i : Bool} (hf : Same F H) : New M F H H (.fz (.bl i)) (.bl i) := New.old hf rfl
theorem New.str {i : Str} (hf : Same F H) : New M F H H (.fz (.str i)) (.str i) := New.old hf rfl
theorem New.non (hf : Same F H) : New M F H H (.fz .non) .non := New.old hf rfl
theorem same_upd {H : Hp} {p : Addr} {o : HO} (h : H p = none) : Same H (upd H p o) := fun b x e => by
  rw [upd_ne (ne_of_none e h)]; exact e
theorem none_of_same (hf : Same F H) (h : H p = none) : F p = none := by
  cases q : F p with
  | none => rfl
  | some z => rw [hf _ _ q] at h; cases h
/-- a new cell of one's own -/
theorem New.cell {u : HO} (hf : Same F H) (h : H p = none) (ow : Own M F o v [(p, u)]) : New M F H (upd H p u) o v := by
  refine ⟨F, [(p, u)], Same.refl _, fun _ _ e => .inl e, hf.trans (same_upd h), same_upd h, ow, ⟨by simp, fun q hq => ?_, fun q hq => ?_, fun q hq => ?_⟩⟩
  · rw [List.mem_singleton] at hq; subst hq; exact upd_same
  · rw [List.mem_singleton] at hq; subst hq; exact none_of_same hf h
  · rw [List.mem_singleton] at hq; subst hq; exact h
theorem New.lst (hf : Same F H) (h : H p = none) (d : FDenL M F xs vs) : New M F H (upd H p (.lst vs)) (.ol xs) (.ref p) := New.cell hf h ⟨p, vs, rfl, d, rfl⟩
theorem New.dK {ks : List (Key × FV)} {ws : List (Key × V)} (hf : Same F H) (h : H p = none) (d : FDenK M F ks ws) : New M F H (upd H p (.dK ws)) (.oK ks) (.ref p) := New.cell hf h ⟨p, ws, rfl, d, rfl⟩
theorem New.dT {ks : List (List Key × FV)} {ws : List (List Key × V)} (hf : Same F H) (h : H p = none) (d : FDenT M F ks ws) : New M F H (upd H p (.dT ws)) (.oT ks) (.ref p) := New.cell hf h ⟨p, ws, rfl, d, rfl⟩
/-- a new frozen object -/
theorem New.ice {u : HO} (hf : Same F H) (h : H p = none) (d : FDen M (upd F p u) x v) : New M F H (upd H p u) (.fz x) v := by
  have hF := none_of_same hf h
  refine ⟨upd F p u, [], same_upd hF, fun a z e => ?_, fun a z e => ?_, same_upd h, ⟨d, rfl⟩, Good.nil⟩
  · by_cases q : a = p
    · subst q; exact .inr h
    · rw [upd_ne q] at e; exact .inl e
  · by_cases q : a = p
    · subst q; rw [upd_same] at e ⊢; exact e
    · rw [upd_ne q] at e ⊢; exact hf _ _ e
theorem New.tup (hf : Same F H) (h : H p = none) (d : FDenL M F xs vs) : New M F H (upd H p (.tup vs)) (.fz (.tup xs)) (.ref p) :=
  New.ice hf h ⟨p, vs, rfl, upd_same, d.mono (same_upd (none_of_same hf h))⟩
theorem FDenL.length : ∀ {xs : List FV} {vs : List V}, FDenL M F xs vs → vs.length = xs.length
  | [], _, e => by rw [show _ = [] from e]; rfl
  | _ :: xs, _, ⟨v, ws, e, _, r⟩ => by rw [e, List.length_cons, List.length_cons, FDenL.length r]
theorem FDenL.get : ∀ {xs : List FV} {vs : List V} {i : Nat} {x : FV}, FDenL M F xs vs → xs[i]? = some x → ∃ v, vs[i]? = some v ∧ FDen M F x v
  | [], _, _, _, _, h => by simp at h
  | _ :: _, _, 0, _, ⟨v, ws, e, d, _⟩, h => by
    rw [List.getElem?_cons_zero] at h
    cases h
    exact ⟨v, by rw [e]; rfl, d⟩
  | _ :: _, _, i + 1, _, ⟨v, ws, e, _, r⟩, h => by
    rw [List.getElem?_cons_succ] at h
    obtain ⟨w, q, d⟩ := FDenL.get r h
    exact ⟨w, by rw [e, List.getElem?_cons_succ]; exact q, d⟩
theorem FDenL.append : ∀ {xs ys : List FV} {vs ws : List V}, FDenL M F xs vs → FDenL M F ys ws → FDenL M F (xs ++ ys) (vs ++ ws)
  | [], _, _, _, e, h => by rw [show _ = [] from e]; exact h
  | _ :: _, _, _, _, ⟨v, us, e, d, r⟩, h => by
    rw [e]
    exact ⟨v, us ++ _, rfl, d, FDenL.append r h⟩
theorem FDenL.take : ∀ {xs : List FV} {vs : List V} (n : Nat), FDenL M F xs vs → FDenL M F (xs.take n) (vs.take n)
  | _, _, 0, _ => by simp [FDenL]
  | [], _, _ + 1, e => by rw [show _ = [] from e]; simp [FDenL]
  | _ :: _, _, n + 1, ⟨v, us, e, d, r⟩ => by
    rw [e]
    exact ⟨v, us.take n, rfl, d, FDenL.take n r⟩
theorem FDenL.drop : ∀ {xs : List FV} {vs : List V} (n : Nat), FDenL M F xs vs → FDenL M F (xs.drop n) (vs.drop n)
  | _, _, 0, h => h
  | [], _, _ + 1, e => by rw [show _ = [] from e]; simp [FDenL]
  | _ :: _, _, n + 1, ⟨v, us, e, d, r⟩ => by
    rw [e]
    exact FDenL.drop n r
theorem FDenL.reverse {xs : List FV} {vs : List V} (h : FDenL M F xs vs) : FDenL M F xs.reverse vs.reverse := by
  induction xs generalizing vs with
  | nil => rw [show _ = [] from h]; simp [FDenL]
  | cons x xs ih =>
    obtain ⟨v, us, e, d, r⟩ := h
    rw [e, List.reverse_cons, List.reverse_cons]
    exact (ih r).append ⟨v, [], rfl, d, rfl⟩
theorem FDenL.ints : ∀ {ns : List Int} {vs : List V}, FDenL M F (ns.map .int) vs → vs = ns.map V.int
  | [], _, e => e
  | n :: ns, _, ⟨v, us, e, d, r⟩ => by rw [e, show v = .int n from d, FDenL.ints r]; rfl
theorem FDenL.strs : ∀ {ns : List Str} {vs : List V}, FDenL M F (ns.map .str) vs → vs = ns.map V.str
  | [], _, e => e
  | n :: ns, _, ⟨v, us, e, d, r⟩ => by rw [e, show v = .str n from d, FDenL.strs r]; rfl
end
end J
namespace J
open PySem PySem.Spec PyProof.Rows L2
/-! ### data -/
mutual
def FV.toD : FV → Option PyData
  | .non => some .none
  | .bl b => some (.bool b)
  | .int i => some (.int i)
  | .str x => some (.str x)
  | .tup xs => (FV.toDL xs).map .tuple
  | .tuz xs => (FV.toDL xs).map .tuple
  | .lst xs => (FV.toDL xs).map .list
  | _ => none
def FV.toDL : List FV → Option (List PyData)
  | [] => some []
  | x :: xs => match x.toD, FV.toDL xs with
    | some d, some ds => some (d :: ds)
    | _, _ => none
end
section
variable {M : Str → Option Value} {K : PySem.W.Frag} {F H H' : Hp} {x : FV} {v : V} {d : PyData}
mutual
theorem FDen.dp : ∀ {x : FV} {v : V} {d : PyData}, FDen M H x v → x.toD = some d → Dp K H v d
  | .non, _, _, h, e => by cases e; rw [show _ = V.non from h]; exact .non
  | .bl b, _, _, h, e => by cases e; rw [show _ = V.bl b from h]; exact .bl b
  | .int i, _, _, h, e => by cases e; rw [show _ = V.int i from h]; exact .int i
  | .str x, _, _, h, e => by cases e; rw [show _ = V.str x from h]; exact .str x
  | .tup xs, _, d, ⟨a, vs, ev, q, r⟩, e => by
    obtain ⟨ds, e1, e2⟩ := Option.map_eq_some_iff.mp (show (FV.toDL xs).map PyData.tuple = some d from e)
    subst e2
    rw [ev]
    exact .tup (SqT.of q) (FDenL.dp r e1)
  | .tuz xs, _, d, ⟨a, vs, o, ev, q, _, _, r⟩, e => by
    obtain ⟨ds, e1, e2⟩ := Option.map_eq_some_iff.mp (show (FV.toDL xs).map PyData.tuple = some d from e)
    subst e2
    rw [ev]
    exact .tup (.inl (.inr ⟨o, q⟩)) (FDenL.dp r e1)
  | .lst xs, _, d, ⟨a, vs, ev, q, r⟩, e => by
    obtain ⟨ds, e1, e2⟩ := Option.map_eq_some_iff.mp (show (FV.toDL xs).map PyData.list = some d from e)
    subst e2
    rw [ev]
    exact .lst (SqL.of q) (FDenL.dp r e1)
  | .dK _, _, _, _, e => nomatch e
  | .dT _, _, _, _, e => nomatch e
  | .ins _ _, _, _, _, e => nomatch e
  | .exc _, _, _, _, e => nomatch e
  | .scr _, _, _, _, e => nomatch e
theorem FDenL.dp : ∀ {xs : List FV} {vs : List V} {ds : List PyData}, FDenL M H xs vs → FV.toDL xs = some ds → DpAll K H vs ds
  | [], _, _, h, e => by cases e; rw [show _ = [] from h]; exact .nil
  | x :: xs, _, _, ⟨v, ws, ev, d, r⟩, e => by
    unfold FV.toDL at e
    split at e
    · rename_i d1 ds1 e1 e2
      cases e
      rw [ev]
      exact .cons (FDen.dp d e1) (FDenL.dp r e2)
    · cases e
end
end
/-! ### names, constants -/
def dVar (i : Nat) : DE := fun env => match env[i]? with
  | some (some (.fz x)) => .ok (.st (.fz x))
  | some (some o) => .ok (.bo o)
  | _ => .no
def dC (x : FV) : DE := fun _ => .ok (.st (.fz x))
section
variable {X : Cx} {W : WX} {pos p : Pos} {x : Str}
theorem je_var (i : Nat) (hN : X.N[i]? = some x := by rfl) (hv : Vis X.env.scope x := by first | exact Or.inl rfl | exact Or.inr (Or.inl rfl) | exact Or.inr (Or.inr rfl)) (hd : (x == ("__debug__" : Str)) = false := by decide)
    (hcd : (x == ("__classdict__" : Str)) = false := by decide) : JE X W (.Name x pos) (dVar i) := by
  refine PE.imp (pe_var hN hv hd hcd) fun σ H Q ⟨G, Z, env, T, ⟨F, C1, C2, r⟩, p⟩ => ?_
  have hp : Post X.mg W G Z σ env T Q H (dVar i env) := p
  unfold dVar at hp
  split at hp
  · rename_i x e
    obtain ⟨v, e1, r1⟩ := r.lookF e
    exact ⟨v, e1, hp v H (Same.refl _) r1.r⟩
  · rename_i o _ e
    obtain ⟨v, e1, r1⟩ := r.look e
    exact ⟨v, e1, hp v H (Same.refl _) r1.r⟩
  · exact hp.elim
theorem je_c {e : Expr} {v : V} {y : FV} (h : PE X e (tC v)) (d : ∀ M F, FDen M F y v) : JE X W e (dC y) := by
  refine PE.imp h fun σ H Q ⟨G, Z, env, T, ⟨F, C1, C2, r⟩, p⟩ => ?_
  exact p v H (Same.refl _) (r.new (New.old r.fh (d _ _)))
theorem je_int {i : Int} {j} : JE X W (.Constant (.int i) j pos) (dC (.int i)) := je_c pe_int fun _ _ => rfl
theorem je_bl {i : Bool} {j} : JE X W (.Constant (.bool i) j pos) (dC (.bl i)) := je_c pe_bl fun _ _ => rfl
theorem je_str {i : Str} {j} : JE X W (.Constant (.str i) j pos) (dC (.str i)) := je_c pe_str fun _ _ => rfl
theorem je_non {j} : JE X W (.Constant .none j pos) (dC .non) := je_c pe_non fun _ _ => rfl
/-- a constant of the module -/
theorem je_gint {i : Int} {t : Tok} (hm : X.mg x = some (.int i t)) (hg : Gl X x := by rfl) (hd : (x == ("__debug__" : Str)) = false := by decide) : JE X W (.Name x pos) (dC (.int i)) := je_c (pe_glob hg hm (v := .int i) ⟨t, rfl⟩ hd) fun _ _ => rfl
theorem je_gstr {i : Str} {t : Tok} (hm : X.mg x = some (.str i t)) (hg : Gl X x := by rfl) (hd : (x == ("__debug__" : Str)) = false := by decide) : JE X W (.Name x pos) (dC (.str i)) := je_c (pe_glob hg hm (v := .str i) ⟨t, rfl⟩ hd) fun _ _ => rfl
end
/-! ### operators -/
def Ans.of {α : Type} : Option α → Ans α
  | some a => .ok a
  | none => .no
def dBin (op : OV → OV → Option OV) (f g : DE) : DE := fun env => (f env).bind fun x => (g env).bind fun y => (Ans.of (op x.ov y.ov)).map .st
def dUn (op : OV → Option OV) (f : DE) : DE := fun env => (f env).bind fun x => (Ans.of (op x.ov)).map .st
def rJ (M : Str → Option Value) (op : OV → OV → Option OV) : R2 := fun u w H Q => ∃ F x y o, Same F H ∧ Bor M F H x u ∧ Bor M F H y w ∧ op x y = some o ∧ ∀ v H', New M F H H' o v → Q v H'
def rJ1 (M : Str → Option Value) (op : OV → Option OV) : V → Hp → VK → Prop := fun u H Q => ∃ F x o, Same F H ∧ Bor M F H x u ∧ op x = some o ∧ ∀ v H', New M F H H' o v → Q v H'
abbrev OJ (X : Cx) (f : Value → Value → Sem Value) (op : OV → OV → Option OV) : Prop := OpR X f (rJ X.mg op)
section
variable {M : Str → Option Value} {G Z H F : Hp} {σ : Sl} {env : VEnv} {T T2 : List (V × Rv)} {W : WX} {Q : VK} {C1 C2 : Cells}
/-- an answer from a new value -/
theorem RF.fin (r : RF M G Z H F σ env T2 C1 C2) (hs : Sb T T2) {oo : Option OV} (p : Post M W G Z σ env T Q H ((Ans.of oo).map .st)) : ∃ o, oo = some o ∧ ∀ v H', New M F H H' o v → Q v H' := by
  cases oo with
  | none => exact p.elim
  | some o => exact ⟨o, rfl, fun v H' n => p v H' (let ⟨_, _, n⟩ := n; n.hh) ((r.new n).sb hs.both)⟩
theorem RF.rj1 {op : OV → Option OV} {u : V} {x : Rv} (r : RF M G Z H F σ env ((u, x) :: T2) C1 C2) (hs : Sb T T2) (p : Post M W G Z σ env T Q H ((Ans.of (op x.ov)).map .st)) : rJ1 M op u H Q := by
  obtain ⟨o, e, k⟩ := r.fin (hs.cons) p
  exact ⟨F, x.ov, o, r.fh, r.bor List.mem_cons_self, e, k⟩
theorem RF.rj {op : OV → OV → Option OV} {u w : V} {x y : Rv} (r : RF M G Z H F σ env ((w, y) :: (u, x) :: T2) C1 C2) (hs : Sb T T2) (p : Post M W G Z σ env T Q H ((Ans.of (op x.ov y.ov)).map .st)) : rJ M op u w H Q := by
  obtain ⟨o, e, k⟩ := r.fin (hs.cons.cons) p
  exact ⟨F, x.ov, y.ov, o, r.fh, r.bor (List.mem_cons_of_mem _ List.mem_cons_self), r.bor List.mem_cons_self, e, k⟩
end
section
variable {X : Cx} {W : WX} {pos : Pos} {a b : Expr} {f g : DE}
theorem bin_red {op : OV → OV → Option OV} {σ : Sl} {H : Hp} {Q : VK} (h : tE X.mg W (dBin op f g) σ H Q) : tE X.mg W f σ H fun u H1 => tE X.mg W g σ H1 fun w H2 => rJ X.mg op u w H2 Q := by
  obtain ⟨G, Z, env, T, r, p⟩ := h
  refine tE.bind r Sb.refl p fun x u H1 _ s1 r1 p1 => ?_
  refine tE.bind r1 Sb.refl.cons p1 fun y w H2 _ s2 r2 p2 => ?_
  obtain ⟨F, C1, C2, r2⟩ := r2
  exact r2.rj Sb.refl p2
theorem je_bin {op : Operator} {opd : OV → OV → Option OV} (ho : OJ X (binaryOp op) opd) (ha : JE X W a f) (hb : JE X W b g) : JE X W (.BinOp a op b pos) (dBin opd f g) :=
  PE.imp (pe_op ho ha hb) fun σ H Q h => bin_red h
theorem je_cmp {op : CmpOp} {opd : OV → OV → Option OV} (ho : OJ X (compareOp op) opd) (ha : JE X W a f) (hb : JE X W b g) (hm : behindInMarks op b = false := by first | exact nomark _ | rfl) : JE X W (.Compare a [op] [b] pos) (dBin opd f g) :=
  PE.imp (pe_cmpR ho ha hb hm) fun σ H Q h => bin_red h
theorem je_un {op : UnaryOp} {opd : OV → Option OV} (ho : UnR X (unaryOp op) (rJ1 X.mg opd)) (ha : JE X W a f) : JE X W (.UnaryOp op a pos) (dUn opd f) :=
  PE.imp (pe_un ho ha) fun σ H Q ⟨G, Z, env, T, r, p⟩ => tE.bind r Sb.refl p fun x u H1 _ s1 r1 p1 => let ⟨F, C1, C2, r1⟩ := r1; r1.rj1 Sb.refl p1
end
/-! ### the operators' answers -/
abbrev BIG : Nat := 16777216
theorem big_eq : sizeLine = BIG := by rw [sizeLine_eq]
def OV.lst? : OV → Option (List FV)
  | .ol xs => some xs
  | .fz (.lst xs) => some xs
  | _ => none
def FV.tup? : FV → Option (List FV)
  | .tup xs => some xs
  | .tuz xs => some xs
  | _ => none
def opAdd : OV → OV → Option OV
  | .fz (.int i), .fz (.int j) => some (.fz (.int (i + j)))
  | .fz (.str x), .fz (.str y) => if x.length + y.length ≤ BIG then some (.fz (.str (x ++ y))) else none
  | .fz (.tup x), .fz (.tup y) => if x.length + y.length ≤ BIG then some (.fz (.tup (x ++ y))) else none
  | x, y => match x.lst?, y.lst? with
    | some a, some b => if a.length + b.length ≤ BIG then some (.ol (a ++ b)) else none
    | _, _ => none
def opSub : OV → OV → Option OV
  | .fz (.int i), .fz (.int j) => some (.fz (.int (i - j)))
  | _, _ => none
def mulOk (i j : Int) : Bool := decide (i.natAbs < 2 ^ 62) || decide (j.natAbs < 2 ^ 62) || decide (i.natAbs.log2 + j.natAbs.log2 < 1000000)
def opMul : OV → OV → Option OV
  | .fz (.int i), .fz (.int j) => if mulOk i j then some (.fz (.int (i * j))) else none
  | _, _ => none
def opDiv : OV → OV → Option OV
  | .fz (.int i), .fz (.int j) => if 0 < j ∧ j.natAbs < 2 ^ 62 then some (.fz (.int (i / j))) else none
  | _, _ => none
def opMod : OV → OV → Option OV
  | .fz (.int i), .fz (.int j) => if 0 < j then some (.fz (.int (i % j))) else none
  | _, _ => none
def opPow : OV → OV → Option OV
  | .fz (.int i), .fz (.int j) => if 0 ≤ j ∧ j ≤ 1000 ∧ i.natAbs < 2 ^ 60 then some (.fz (.int (i ^ j.toNat))) else none
  | _, _ => none
def opShr : OV → OV → Option OV
  | .fz (.int i), .fz (.int j) => if 0 ≤ j then some (.fz (.int (i / 2 ^ j.toNat))) else none
  | _, _ => none
def opCmp (p : Int → Int → Bool) : OV → OV → Option OV
  | .fz (.int i), .fz (.int j) => some (.fz (.bl (p i j)))
  | _, _ => none
abbrev opLt := opCmp fun i j => decide (i < j)
abbrev opLe := opCmp fun i j => decide (i ≤ j)
abbrev opGt := opCmp fun i j => decide (j < i)
abbrev opGe := opCmp fun i j => decide (j ≤ i)
def FV.atom : FV → Bool
  | .non => true
  | .bl _ => true
  | .int _ => true
  | .str _ => true
  | _ => false
def FV.eqD (x y : FV) : Option Bool :=
  match x.toD, y.toD with
    | some d, some e => if SeqAt.shaped d && SeqAt.shaped e then some (PyData.eqv d e) else none
    | _, _ => none
def opEq (x y : OV) : Option OV := match x, y with
  | .fz (.int i), .fz (.int j) => some (.fz (.bl (decide (i = j))))
  | .fz (.str i), .fz (.str j) => some (.fz (.bl (decide (i = j))))
  | _, _ => (x.fv.eqD y.fv).map fun b => .fz (.bl b)
def opNe (x y : OV) : Option OV := match x, y with
  | .fz (.int i), .fz (.int j) => some (.fz (.bl (!decide (i = j))))
  | .fz (.str i), .fz (.str j) => some (.fz (.bl (!decide (i = j))))
  | _, _ => (x.fv.eqD y.fv).map fun b => .fz (.bl !b)
section
variable {M : Str → Option Value} {F H : Hp} {x y : OV} {u w : V}
theorem Bor.int {i : Int} (b : Bor M F H (.fz (.int i)) u) : u = .int i := let ⟨_, d, _⟩ := b; d.1
theorem Bor.bl {i : Bool} (b : Bor M F H (.fz (.bl i)) u) : u = .bl i := let ⟨_, d, _⟩ := b; d.1
theorem Bor.str {i : Str} (b : Bor M F H (.fz (.str i)) u) : u = .str i := let ⟨_, d, _⟩ := b; d.1
theorem Bor.fz {i : FV} (b : Bor M F H (.fz i) u) : FDen M F i u := let ⟨_, d, _⟩ := b; d.1
theorem Bor.lst {xs : List FV} (hf : Same F H) (b : Bor M F H x u) (e : x.lst? = some xs) : ∃ a vs, u = .ref a ∧ H a = some (.lst vs) ∧ FDenL M F xs vs := by
  unfold OV.lst? at e
  split at e
  · cases e
    obtain ⟨A, ⟨a, vs, e, d, q⟩, c⟩ := b
    subst q
    exact ⟨a, vs, e, c _ List.mem_cons_self, d⟩
  · cases e
    obtain ⟨a, vs, e, q, d⟩ := b.fz
    exact ⟨a, vs, e, hf _ _ q, d⟩
  · cases e
theorem FDen.tupT {K : PySem.W.Frag} {xs : List FV} {z : FV} (d : FDen M F z u) (e : z.tup? = some xs) : ∃ a vs, u = .ref a ∧ SqT K F a vs ∧ FDenL M F xs vs := by
  unfold FV.tup? at e
  split at e
  · cases e
    obtain ⟨a, vs, e, q, d⟩ := d
    exact ⟨a, vs, e, SqT.of q, d⟩
  · cases e
    obtain ⟨a, vs, o, e, q, _, _, d⟩ := d
    exact ⟨a, vs, e, .inl (.inr ⟨o, q⟩), d⟩
  · cases e
end
theorem SqT.sameS {K : PySem.W.Frag} {F H : Hp} {a : Addr} {xs : List V} (h : Same F H) (q : SqT K F a xs) : SqT K H a xs := by
  rcases q with (q | ⟨o, q⟩) | q
  · exact .inl (.inl (h _ _ q))
  · exact .inl (.inr ⟨o, h _ _ q⟩)
  · exact .inr q
section
variable {X : Cx}
theorem oj_of {f : Value → Value → Sem Value} {op : OV → OV → Option OV} {r : R2} (ho : OpR X f r) (h : ∀ F H x y u w o Q, Same F H → Bor X.mg F H x u → Bor X.mg F H y w → op x y = some o → (∀ v H', New X.mg F H H' o v → Q v H') → r u w H Q) : OJ X f op :=
  fun pins s σ H u w v1 v2 Q I r1 r2 ⟨F, x, y, o, hf, bx, by', e, k⟩ => ho pins s σ H u w v1 v2 Q I r1 r2 (h F H x y u w o Q hf bx by' e k)
theorem oj_add : OJ X (binaryOp .Add) opAdd := by
  refine oj_of ((op_add.or op_add_str).or (op_catA.or op_cat)) fun F H x y u w o Q hf bx by' e k => ?_
  unfold opAdd at e
  split at e
  · cases e
    exact .inl (.inl ⟨_, _, bx.int, by'.int, k _ _ (New.int hf)⟩)
  · split at e
    · cases e
      exact .inl (.inr ⟨_, _, bx.str, by'.str, by rw [big_eq]; assumption, k _ _ (New.str hf)⟩)
    · cases e
  · split at e
    · rename_i xs ys hz
      cases e
      obtain ⟨a, vs, rfl, q, d⟩ := FDen.tupT (K := X.K) bx.fz (xs := _) rfl
      obtain ⟨b, ws, rfl, q2, d2⟩ := FDen.tupT (K := X.K) by'.fz (xs := _) rfl
      refine .inr (.inl ⟨a, b, vs, ws, rfl, rfl, SqT.sameS hf q, SqT.sameS hf q2, by rw [d.length, d2.length, big_eq]; exact hz, fun e => ?_, fun _ e => ?_, fun _ _ p hp => ?_⟩)
      · subst e
        have ex := d.length
        obtain rfl : xs = [] := List.eq_nil_of_length_eq_zero (by simpa using ex.symm)
        exact k _ _ (New.old hf by'.fz)
      · subst e
        have ex := d2.length
        obtain rfl : ys = [] := List.eq_nil_of_length_eq_zero (by simpa using ex.symm)
        rw [List.append_nil] at k
        exact k _ _ (New.old hf bx.fz)
      · exact k _ _ (New.tup hf hp (d.append d2))
    · cases e
  · split at e
    · rename_i a b e1 e2
      split at e
      · rename_i hz
        cases e
        obtain ⟨p, vs, rfl, q, d⟩ := bx.lst hf e1
        obtain ⟨p2, ws, rfl, q2, d2⟩ := by'.lst hf e2
        exact .inr (.inr ⟨p, p2, vs, ws, rfl, rfl, q, q2, by rw [d.length, d2.length, big_eq]; exact hz, fun p hp => k _ _ (New.lst hf hp (d.append d2))⟩)
      · cases e
    · cases e
theorem oj_sub : OJ X (binaryOp .Sub) opSub := by
  refine oj_of op_sub fun F H x y u w o Q hf bx by' e k => ?_
  unfold opSub at e
  split at e
  · cases e
    exact ⟨_, _, bx.int, by'.int, k _ _ (New.int hf)⟩
  · cases e
theorem mul_le {i : Int} (h : i.natAbs < 2 ^ 62) : -(2 ^ 64) < i ∧ i < 2 ^ 64 := by omega
theorem oj_mul : OJ X (binaryOp .Mult) opMul := by
  refine oj_of (op_mul.or op_mulW) fun F H x y u w o Q hf bx by' e k => ?_
  unfold opMul at e
  split at e
  · split at e
    · rename_i i j hm
      cases e
      unfold mulOk at hm
      rw [Bool.or_eq_true, Bool.or_eq_true] at hm
      rcases hm with (hm | hm) | hm
      · exact .inl ⟨_, _, bx.int, by'.int, .inl (mul_le (of_decide_eq_true hm)), k _ _ (New.int hf)⟩
      · exact .inl ⟨_, _, bx.int, by'.int, .inr (mul_le (of_decide_eq_true hm)), k _ _ (New.int hf)⟩
      · exact .inr ⟨_, _, bx.int, by'.int, show _ from (of_decide_eq_true hm : i.natAbs.log2 + j.natAbs.log2 < 1000000), k _ _ (New.int hf)⟩
    · cases e
  · cases e
theorem oj_div : OJ X (binaryOp .FloorDiv) opDiv := by
  refine oj_of op_fdivW fun F H x y u w o Q hf bx by' e k => ?_
  unfold opDiv at e
  split at e
  · split at e
    · rename_i i j hm
      cases e
      exact ⟨_, _, bx.int, by'.int, wide_div hm.1 (b := 62) hm.2 (by decide) (by decide), k _ _ (New.int hf)⟩
    · cases e
  · cases e
theorem oj_mod : OJ X (binaryOp .Mod) opMod := by
  refine oj_of op_mod fun F H x y u w o Q hf bx by' e k => ?_
  unfold opMod at e
  split at e
  · split at e
    · rename_i i j hm
      cases e
      exact ⟨_, _, bx.int, by'.int, hm, k _ _ (New.int hf)⟩
    · cases e
  · cases e
theorem oj_pow : OJ X (binaryOp .Pow) opPow := by
  refine oj_of op_pow fun F H x y u w o Q hf bx by' e k => ?_
  unfold opPow at e
  split at e
  · split at e
    · rename_i i j hm
      cases e
      exact ⟨_, _, bx.int, by'.int, ⟨hm.1, by omega, Nat.lt_of_lt_of_le hm.2.2 (by decide)⟩, k _ _ (New.int hf)⟩
    · cases e
  · cases e
theorem oj_shr : OJ X (binaryOp .RShift) opShr := by
  refine oj_of op_shr fun F H x y u w o Q hf bx by' e k => ?_
  unfold opShr at e
  split at e
  · split at e
    · rename_i i j hm
      cases e
      exact ⟨_, _, bx.int, by'.int, hm, k _ _ (New.int hf)⟩
    · cases e
  · cases e
theorem oj_cmp {op : CmpOp} {p : Int → Int → Bool} (ho : OpR X (compareOp op) (rI0 fun i j => .bl (p i j))) : OJ X (compareOp op) (opCmp p) := by
  refine oj_of ho fun F H x y u w o Q hf bx by' e k => ?_
  unfold opCmp at e
  split at e
  · cases e
    exact ⟨_, _, bx.int, by'.int, k _ _ (New.bl hf)⟩
  · cases e
theorem oj_lt : OJ X (compareOp .Lt) opLt := oj_cmp op_lt
theorem oj_le : OJ X (compareOp .LtE) opLe := oj_cmp op_le
theorem oj_gt : OJ X (compareOp .Gt) opGt := oj_cmp op_gt
theorem oj_ge : OJ X (compareOp .GtE) opGe := oj_cmp op_ge
theorem eqD_of {M : Str → Option Value} {K : PySem.W.Frag} {F H : Hp} {x y : OV} {u w : V} {b : Bool} (hf : Same F H) (bx : Bor M F H x u) (by' : Bor M F H y w) (e : x.fv.eqD y.fv = some b) :
    ∃ d e, Dp K H u d ∧ Dp K H w e ∧ SeqAt.shaped d = true ∧ SeqAt.shaped e = true ∧ b = PyData.eqv d e := by
  unfold FV.eqD at e
  split at e
  · rename_i d1 d2 e1 e2
    split at e
    · rename_i hs
      cases e
      rw [Bool.and_eq_true] at hs
      exact ⟨d1, d2, (bx.fden hf).dp e1, (by'.fden hf).dp e2, hs.1, hs.2, rfl⟩
    · cases e
  · cases e
theorem oj_eq (hu : X.A.units + 64 < cLine) : OJ X (compareOp .Eq) opEq := by
  refine oj_of (op_eq.or (op_eqD hu)) fun F H x y u w o Q hf bx by' e k => ?_
  unfold opEq at e
  split at e
  · cases e
    rename_i i j
    exact .inl ⟨by rw [bx.int, by'.int]; rfl, by rw [bx.int, by'.int, dec_int, Bool.beq_eq_decide_eq]; exact k _ _ (New.bl hf)⟩
  · cases e
    rename_i i j
    exact .inl ⟨by rw [bx.str, by'.str]; rfl, by rw [bx.str, by'.str, dec_str, Bool.beq_eq_decide_eq]; exact k _ _ (New.bl hf)⟩
  · obtain ⟨b, e1, e2⟩ := Option.map_eq_some_iff.mp e
    subst e2
    obtain ⟨d, d', h1, h2, h3, h4, rfl⟩ := eqD_of (K := X.K) hf bx by' e1
    exact .inr ⟨d, d', h1, h2, h3, h4, k _ _ (New.bl hf)⟩
theorem oj_ne (hu : X.A.units + 64 < cLine) : OJ X (compareOp .NotEq) opNe := by
  refine oj_of (op_ne.or (op_neD hu)) fun F H x y u w o Q hf bx by' e k => ?_
  unfold opNe at e
  split at e
  · cases e
    rename_i i j
    exact .inl ⟨by rw [bx.int, by'.int]; rfl, by rw [bx.int, by'.int, dec_int, Bool.beq_eq_decide_eq]; exact k _ _ (New.bl hf)⟩
  · cases e
    rename_i i j
    exact .inl ⟨by rw [bx.str, by'.str]; rfl, by rw [bx.str, by'.str, dec_str, Bool.beq_eq_decide_eq]; exact k _ _ (New.bl hf)⟩
  · obtain ⟨b, e1, e2⟩ := Option.map_eq_some_iff.mp e
    subst e2
    obtain ⟨d, d', h1, h2, h3, h4, rfl⟩ := eqD_of (K := X.K) hf bx by' e1
    exact .inr ⟨d, d', h1, h2, h3, h4, k _ _ (New.bl hf)⟩
end
end J
namespace J
open PySem PySem.Spec PyProof.Rows L2
/-! ### tests -/
theorem Ans.bind_assoc {α β γ : Type} (x : Ans α) (f : α → Ans β) (g : β → Ans γ) : (x.bind f).bind g = x.bind fun a => (f a).bind g := by cases x <;> rfl
def Rv.bool (r : Rv) : Ans Bool := match r.ov with
  | .fz (.bl b) => .ok b
  | _ => .no
theorem Rv.bool_or (r : Rv) : (∃ b, r.ov = .fz (.bl b) ∧ r.bool = .ok b) ∨ r.bool = .no := by
  unfold Rv.bool
  split
  · rename_i b e
    exact .inl ⟨b, e, rfl⟩
  · exact .inr rfl
def dTest (f : DE) : DT := fun env => (f env).bind Rv.bool
def dB (f : DT) : DE := fun env => (f env).bind fun b => .ok (.st (.fz (.bl b)))
def dNotT (f : DT) : DT := fun env => (f env).bind fun b => .ok !b
def dAndT (f g : DT) : DT := fun env => (f env).bind fun b => if b then g env else .ok false
def dOrT (f g : DT) : DT := fun env => (f env).bind fun b => if b then .ok true else g env
section
variable {M : Str → Option Value} {G Z H F : Hp} {σ : Sl} {env : VEnv} {T T2 : List (V × Rv)} {C1 C2 : Cells} {u : V} {x : Rv}
theorem RF.boolT {W : WX} {Q : Bool → Hp → Prop} {k : Bool → Ans Bool} (r : RF M G Z H F σ env T2 C1 C2) (h : (u, x) ∈ T2) (p : PostT M W G Z σ env T Q H (x.bool.bind k)) : ∃ b, u = .bl b ∧ PostT M W G Z σ env T Q H (k b) := by
  rcases x.bool_or with ⟨b, e, e2⟩ | e
  · have hb := r.bor h
    rw [show (u, x).2.ov = x.ov from rfl, e] at hb
    rw [e2] at p
    exact ⟨b, hb.bl, p⟩
  · rw [e] at p; exact p.elim
theorem RF.bool {W : WX} {Q : VK} {k : Bool → Ans Rv} (r : RF M G Z H F σ env T2 C1 C2) (h : (u, x) ∈ T2) (p : Post M W G Z σ env T Q H (x.bool.bind k)) : ∃ b, u = .bl b ∧ Post M W G Z σ env T Q H (k b) := by
  rcases x.bool_or with ⟨b, e, e2⟩ | e
  · have hb := r.bor h
    rw [show (u, x).2.ov = x.ov from rfl, e] at hb
    rw [e2] at p
    exact ⟨b, hb.bl, p⟩
  · rw [e] at p; exact p.elim
end
section
variable {X : Cx} {W : WX} {pos : Pos} {a b e : Expr} {rest : List Expr} {f g : DE} {ft gt : DT}
theorem Ans.bind_ok {α : Type} (x : Ans α) : x.bind .ok = x := by cases x <;> rfl
theorem tB_red {Q : Bool → Hp → Prop} {σ : Sl} {H : Hp} (h : tT X.mg W (dTest f) σ H Q) : tE X.mg W f σ H fun x H1 => ∃ c, x = .bl c ∧ Q c H1 := by
  obtain ⟨G, Z, env, T, r, p⟩ := h
  refine tE.bindT r Sb.refl p fun x u H1 _ s1 ⟨F, C1, C2, r1⟩ p1 => ?_
  rw [← Ans.bind_ok x.bool] at p1
  obtain ⟨b, e, p1⟩ := r1.boolT List.mem_cons_self p1
  exact ⟨b, e, p1 H1 (Same.refl _) r1.r.pop⟩
/-- an expression that gives True or False, as a test -/
theorem jt_val (h : JE X W e f) (he : ∀ whole, isTrue e X.env whole = (do let v ← whole; standAt e.pos; holding [v] (truthy v)) := by intro _; rfl) : JT X W e (dTest f) :=
  PT.imp (pt_val h he) fun σ H Q h => tB_red h
theorem jt_cmp {op : CmpOp} {opd : OV → OV → Option OV} (ho : OJ X (compareOp op) opd) (ha : JE X W a f) (hb : JE X W b g) (hm : behindInMarks op b = false := by first | exact nomark _ | rfl) : JT X W (.Compare a [op] [b] pos) (dTest (dBin opd f g)) := by
  refine PT.imp (pt_cmpR ho ha hb hm) fun σ H Q ⟨G, Z, env, T, r, p⟩ => ?_
  show tE X.mg W f σ H fun u H1 => tE X.mg W g σ H1 fun w H2 => rJ X.mg opd u w H2 fun x H' => ∃ k, x = .bl k ∧ Q k H'
  have p' : PostT X.mg W G Z σ env T Q H ((f env).bind fun x => (g env).bind fun y => ((Ans.of (opd x.ov y.ov)).map .st).bind Rv.bool) := by
    have p2 := p
    unfold dTest dBin at p2
    rw [Ans.bind_assoc] at p2
    simp only [Ans.bind_assoc] at p2
    exact p2
  refine tE.bindT r Sb.refl p' fun x u H1 _ s1 r1 p1 => ?_
  refine tE.bindT r1 Sb.refl.cons p1 fun y w H2 _ s2 ⟨F, C1, C2, r2⟩ p2 => ?_
  cases e : opd x.ov y.ov with
  | none => rw [e] at p2; exact p2.elim
  | some o =>
    rw [e] at p2
    refine ⟨F, x.ov, y.ov, o, r2.fh, r2.bor (List.mem_cons_of_mem _ List.mem_cons_self), r2.bor List.mem_cons_self, e, fun v H' n => ?_⟩
    obtain ⟨F3, C3, C4, r3⟩ := r2.new n
    have p3 : PostT X.mg W G Z σ env T Q H2 (Rv.bool (.st o)) := p2
    rw [← Ans.bind_ok (Rv.bool _)] at p3
    obtain ⟨b, e, p3⟩ := r3.boolT List.mem_cons_self (p3.later (let ⟨_, _, n⟩ := n; n.hh))
    exact ⟨b, e, p3 H' (Same.refl _) (r3.r.sb (Sb.refl.cons.cons.cons))⟩
theorem jt_not (h : JT X W a ft) : JT X W (.UnaryOp .Not a pos) (dNotT ft) := by
  refine PT.imp (pt_not h) fun σ H Q ⟨G, Z, env, T, r, p⟩ => ⟨G, Z, env, T, r, ?_⟩
  unfold dNotT at p
  cases e : ft env with
  | ok b => rw [e] at p; exact p
  | ex c => rw [e] at p; exact p
  | no => rw [e] at p; exact p
theorem jw_and1 (h : JT X W a ft) : JW X W (.BoolOp .And [a] pos) ft := pw_and1 h
theorem jw_or1 (h : JT X W a ft) : JW X W (.BoolOp .Or [a] pos) ft := pw_or1 h
theorem jw_and (ha : JT X W a ft) (hb : JW X W (.BoolOp .And (b :: rest) pos) gt) : JW X W (.BoolOp .And (a :: b :: rest) pos) (dAndT ft gt) := by
  refine PW.imp (pw_and ha hb) fun σ H Q ⟨G, Z, env, T, r, p⟩ => ?_
  refine tT.bindT r Sb.refl p fun c H1 _ s1 r1 p1 => ?_
  cases c with
  | true =>
    rw [if_pos rfl] at p1 ⊢
    exact ⟨G, Z, env, T, r1, p1⟩
  | false =>
    rw [if_neg Bool.false_ne_true] at p1 ⊢
    exact p1 H1 (Same.refl _) r1
theorem jw_or (ha : JT X W a ft) (hb : JW X W (.BoolOp .Or (b :: rest) pos) gt) : JW X W (.BoolOp .Or (a :: b :: rest) pos) (dOrT ft gt) := by
  refine PW.imp (pw_or ha hb) fun σ H Q ⟨G, Z, env, T, r, p⟩ => ?_
  refine tT.bindT r Sb.refl p fun c H1 _ s1 r1 p1 => ?_
  cases c with
  | true =>
    rw [if_pos rfl] at p1 ⊢
    exact p1 H1 (Same.refl _) r1
  | false =>
    rw [if_neg Bool.false_ne_true] at p1 ⊢
    exact ⟨G, Z, env, T, r1, p1⟩
theorem jt_w (h : JW X W a ft) : JT X W a ft := PW.pt h
/-- not, and, or as values -/
theorem b_red {σ : Sl} {H : Hp} {Q : VK} {G Z : Hp} {env : VEnv} {T : List (V × Rv)} {b : Bool} (r : R X.mg G Z H σ env T) (p : Post X.mg W G Z σ env T Q H (.ok (.st (.fz (.bl b))))) : Q (.bl b) H :=
  let ⟨F, C1, C2, r⟩ := r
  p _ H (Same.refl _) (r.new (New.bl r.fh))
theorem test_bind {σ : Sl} {H : Hp} {Q : VK} {G Z : Hp} {env : VEnv} {T : List (V × Rv)} {k : Bool → Ans Rv} {Q1 : Bool → Hp → Prop} (r : R X.mg G Z H σ env T) (p : Post X.mg W G Z σ env T Q H ((dTest f env).bind k))
    (h : ∀ b H1, Same H H1 → R X.mg G Z H1 σ env T → Post X.mg W G Z σ env T Q H1 (k b) → Q1 b H1) : tE X.mg W f σ H fun x H1 => ∃ c, x = .bl c ∧ Q1 c H1 := by
  unfold dTest at p
  rw [Ans.bind_assoc] at p
  refine tE.bind r Sb.refl p fun x u H1 _ s1 ⟨F, C1, C2, r1⟩ p1 => ?_
  obtain ⟨b, e, p1⟩ := r1.bool List.mem_cons_self p1
  exact ⟨b, e, h b H1 s1 r1.r.pop p1⟩
theorem je_not (h : JE X W a f) : JE X W (.UnaryOp .Not a pos) (dB (dNotT (dTest f))) := by
  refine PE.imp (pe_not h) fun σ H Q ⟨G, Z, env, T, r, p⟩ => ?_
  have p' : Post X.mg W G Z σ env T Q H ((dTest f env).bind fun b => .ok (.st (.fz (.bl !b)))) := by
    have p2 := p
    unfold dB dNotT at p2
    rw [Ans.bind_assoc] at p2
    exact p2
  exact test_bind r p' fun b H1 s1 r1 p1 => b_red r1 p1
def dAndV (f g : DE) : DE := fun env => (dTest f env).bind fun b => if b then g env else .ok (.st (.fz (.bl false)))
def dOrV (f g : DE) : DE := fun env => (dTest f env).bind fun b => if b then .ok (.st (.fz (.bl true))) else g env
theorem je_one {op} (h : JE X W a f) : JE X W (.BoolOp op [a] pos) f := pe_one h
theorem je_and (ha : JE X W a f) (hb : JE X W (.BoolOp .And (b :: rest) pos) g) : JE X W (.BoolOp .And (a :: b :: rest) pos) (dAndV f g) := by
  refine PE.imp (pe_and ha hb) fun σ H Q ⟨G, Z, env, T, r, p⟩ => test_bind r p fun c H1 s1 r1 p1 => ?_
  cases c with
  | true =>
    rw [if_pos rfl] at p1 ⊢
    exact ⟨G, Z, env, T, r1, p1⟩
  | false =>
    rw [if_neg Bool.false_ne_true] at p1 ⊢
    exact b_red r1 p1
theorem je_or (ha : JE X W a f) (hb : JE X W (.BoolOp .Or (b :: rest) pos) g) : JE X W (.BoolOp .Or (a :: b :: rest) pos) (dOrV f g) := by
  refine PE.imp (pe_or ha hb) fun σ H Q ⟨G, Z, env, T, r, p⟩ => test_bind r p fun c H1 s1 r1 p1 => ?_
  cases c with
  | true =>
    rw [if_pos rfl] at p1 ⊢
    exact b_red r1 p1
  | false =>
    rw [if_neg Bool.false_ne_true] at p1 ⊢
    exact ⟨G, Z, env, T, r1, p1⟩
end
/-! ### None, -n, chains -/
def FV.isNon : FV → Bool
  | .non => true
  | _ => false
def opNeg : OV → Option OV
  | .fz (.int i) => some (.fz (.int (-i)))
  | _ => none
/-- is None; of what may be None or anything -/
def opIsN (x : OV) : Option OV := some (.fz (.bl x.fv.isNon))
def opNotN (x : OV) : Option OV := some (.fz (.bl !x.fv.isNon))
theorem FDen.isNon {M : Str → Option Value} {F : Hp} {x : FV} {v : V} (d : FDen M F x v) : decide (v = .non) = x.isNon := by
  cases x with
  | non => rw [show v = .non from d]; rfl
  | bl b => rw [show v = .bl b from d]; rfl
  | int b => rw [show v = .int b from d]; rfl
  | str b => rw [show v = .str b from d]; rfl
  | tup b => obtain ⟨a, vs, e, _⟩ := d; rw [e]; rfl
  | tuz b => obtain ⟨a, vs, o, e, _⟩ := d; rw [e]; rfl
  | lst b => obtain ⟨a, vs, e, _⟩ := d; rw [e]; rfl
  | dK b => obtain ⟨a, vs, e, _⟩ := d; rw [e]; rfl
  | dT b => obtain ⟨a, vs, e, _⟩ := d; rw [e]; rfl
  | ins c b => obtain ⟨a, C, dx, vs, e, _⟩ := d; rw [e]; rfl
  | exc b => obtain ⟨a, C, e, _⟩ := d; rw [e]; rfl
  | scr b => obtain ⟨a, e, _⟩ := d; rw [e]; rfl
section
variable {X : Cx} {W : WX} {pos pos' : Pos} {a b c : Expr} {f g h : DE}
theorem je_neg (ha : JE X W a f) : JE X W (.UnaryOp .USub a pos) (dUn opNeg f) := by
  refine je_un (fun pins s σ H u v Q I r1 ⟨F, x, o, hf, bx, e, k⟩ => ?_) ha
  unfold opNeg at e
  split at e
  · cases e
    exact un_neg pins s σ H u v Q I r1 ⟨_, bx.int, k _ _ (New.int hf)⟩
  · cases e
theorem isN_red {opd : OV → Option OV} {p : Bool → Bool} (hp : ∀ x, opd x = some (.fz (.bl (p x.fv.isNon)))) {σ : Sl} {H : Hp} {Q : VK} (h : tE X.mg W (dUn opd f) σ H Q) : tE X.mg W f σ H fun x H1 => Q (.bl (p (decide (x = .non)))) H1 := by
  obtain ⟨G, Z, env, T, r, q⟩ := h
  refine tE.bind r Sb.refl q fun x u H1 _ s1 r1 p1 => ?_
  obtain ⟨F, C1, C2, r1⟩ := r1
  have hb := r1.bor List.mem_cons_self
  rw [hp] at p1
  have e : decide (u = .non) = x.ov.fv.isNon := (hb.fden r1.fh).isNon
  show Q (.bl (p (decide (u = .non)))) H1
  rw [e]
  exact b_red r1.r.pop p1
theorem je_isN {j} (ha : JE X W a f) : JE X W (.Compare a [.Is] [.Constant .none j pos'] pos) (dUn opIsN f) :=
  PE.imp (pe_cmp (pc_isN ha)) fun σ H Q h => isN_red (p := fun b => b) (fun _ => rfl) h
theorem je_notN {j} (ha : JE X W a f) : JE X W (.Compare a [.IsNot] [.Constant .none j pos'] pos) (dUn opNotN f) :=
  PE.imp (pe_cmp (pc_notN ha)) fun σ H Q h => isN_red (p := fun b => !b) (fun _ => rfl) h
theorem tt_red {opd : OV → Option OV} {p : Bool → Bool} (hp : ∀ x, opd x = some (.fz (.bl (p x.fv.isNon)))) {σ : Sl} {H : Hp} {Q : Bool → Hp → Prop} (h : tT X.mg W (dTest (dUn opd f)) σ H Q) : tE X.mg W f σ H fun x H1 => ∃ c, V.bl (p (decide (x = .non))) = .bl c ∧ Q c H1 := by
  obtain ⟨G, Z, env, T, r, q⟩ := h
  have q' : PostT X.mg W G Z σ env T Q H ((f env).bind fun x => .ok (p x.ov.fv.isNon)) := by
    have q2 := q
    unfold dTest dUn at q2
    simp only [Ans.bind_assoc, hp] at q2
    exact q2
  refine tE.bindT r Sb.refl q' fun x u H1 _ s1 r1 p1 => ?_
  obtain ⟨F, C1, C2, r1⟩ := r1
  have hb := r1.bor List.mem_cons_self
  have e : decide (u = .non) = x.ov.fv.isNon := (hb.fden r1.fh).isNon
  refine ⟨_, rfl, ?_⟩
  rw [e]
  exact p1 H1 (Same.refl _) r1.r.pop
theorem jt_isN {j} (ha : JE X W a f) : JT X W (.Compare a [.Is] [.Constant .none j pos'] pos) (dTest (dUn opIsN f)) :=
  PT.imp (pt_cmp (pc_isN ha)) fun σ H Q h => tt_red (p := fun b => b) (fun _ => rfl) h
theorem jt_notN {j} (ha : JE X W a f) : JT X W (.Compare a [.IsNot] [.Constant .none j pos'] pos) (dTest (dUn opNotN f)) :=
  PT.imp (pt_cmp (pc_notN ha)) fun σ H Q h => tt_red (p := fun b => !b) (fun _ => rfl) h
end
/-! ### argument lists, displays -/
def dNil : VEnv → Ans (List Rv) := fun _ => .ok []
def dCons (f : DE) (g : VEnv → Ans (List Rv)) : VEnv → Ans (List Rv) := fun env => (f env).bind fun r => (g env).bind fun rs => .ok (r :: rs)
section
variable {X : Cx} {W : WX} {pos : Pos} {e : Expr} {es : List Expr} {f : DE} {g : VEnv → Ans (List Rv)}
theorem ja_nil : JA X W [] dNil := PA.imp pa_nil fun σ H Q ⟨G, Z, env, T, r, p⟩ => p [] H rfl (Same.refl _) r
theorem ja_cons (he : JE X W e f) (hr : JA X W es g) (hs : starEach (e :: es) X.env = (false, eval e X.env) :: starEach es X.env := by rfl) : JA X W (e :: es) (dCons f g) := by
  refine PA.imp (pa_cons he hr hs) fun σ H Q ⟨G, Z, env, T, r, p⟩ => ?_
  refine tE.bindA r Sb.refl p fun x u H1 _ s1 r1 p1 => ?_
  refine ⟨G, Z, env, (u, x) :: T, r1, ?_⟩
  cases e2 : g env with
  | ok rs =>
    rw [e2] at p1
    intro vs H2 hl s2 r2
    refine p1 (u :: vs) H2 (by simp [hl]) s2 (r2.perm ?_)
    rw [List.zip_cons_cons]
    exact List.perm_middle
  | ex c =>
    rw [e2] at p1
    exact fun C H2 m s2 r2 => p1 C H2 m s2 r2.pop
  | no => rw [e2] at p1; exact p1
end
def Rv.fz? : Rv → Option FV
  | .st (.fz x) => some x
  | _ => none
def Rv.st? : Rv → Option OV
  | .st o => some o
  | _ => none
def allFz : List Rv → Option (List FV)
  | [] => some []
  | r :: rs => match r.fz?, allFz rs with
    | some x, some xs => some (x :: xs)
    | _, _ => none
def allSt : List Rv → Option (List OV)
  | [] => some []
  | r :: rs => match r.st?, allSt rs with
    | some x, some xs => some (x :: xs)
    | _, _ => none
/-- [a, b] of frozen things; of any of one's own -/
def dList (g : VEnv → Ans (List Rv)) : DE := fun env => (g env).bind fun rs => if rs.length ≤ 1000 then (match allFz rs with | some xs => .ok (.st (.ol xs)) | none => .no) else .no
def dListD (g : VEnv → Ans (List Rv)) : DE := fun env => (g env).bind fun rs => if rs.length ≤ 1000 then (match allSt rs with | some xs => .ok (.st (.dl xs)) | none => .no) else .no
def dTup (g : VEnv → Ans (List Rv)) : DE := fun env => (g env).bind fun rs => if rs.length ≤ 1000 then (match allFz rs with | some xs => .ok (.st (.fz (.tup xs))) | none => .no) else .no
def dTupD (g : VEnv → Ans (List Rv)) : DE := fun env => (g env).bind fun rs => if rs.length ≤ 1000 then (match allSt rs with | some xs => .ok (.st (.tp xs)) | none => .no) else .no
theorem le1000 {n : Nat} (h : n ≤ 1000) : n ≤ sizeLine := Nat.le_trans h (by rw [sizeLine_eq]; decide)
section
variable {M : Str → Option Value} {G Z H F : Hp} {σ : Sl} {env : VEnv} {T T2 : List (V × Rv)} {C1 C2 : Cells}
theorem fz_den : ∀ {rs : List Rv} {vs : List V} {xs : List FV}, vs.length = rs.length → allFz rs = some xs → (∀ p ∈ vs.zip rs, Bor M F H p.2.ov p.1) → FDenL M F xs vs
  | [], vs, xs, hl, e, _ => by
    cases e
    exact List.eq_nil_of_length_eq_zero hl
  | r :: rs, [], xs, hl, e, _ => by simp at hl
  | r :: rs, v :: vs, xs, hl, e, hb => by
    unfold allFz at e
    split at e
    · rename_i x ys e1 e2
      cases e
      have hr : r = .st (.fz x) := by
        unfold Rv.fz? at e1
        split at e1
        · cases e1; rfl
        · cases e1
      subst hr
      exact ⟨v, vs, rfl, (hb (v, .st (.fz x)) (by simp)).fz, fz_den (by simpa using hl) e2 fun p hp => hb p (by rw [List.zip_cons_cons]; exact List.mem_cons_of_mem _ hp)⟩
    · cases e
/-- one's own temporaries packed -/
theorem st_own : ∀ {rs : List Rv} {vs : List V} {xs : List OV} {L : Cells}, vs.length = rs.length → allSt rs = some xs → TmpOwn M F H (vs.zip rs ++ T) L → ∃ A B, OwnL M F xs vs A ∧ TmpOwn M F H T B ∧ L = A ++ B
  | [], vs, xs, L, hl, e, t => by
    cases e
    obtain rfl : vs = [] := List.eq_nil_of_length_eq_zero hl
    exact ⟨[], L, ⟨rfl, rfl⟩, t, rfl⟩
  | r :: rs, [], xs, L, hl, e, t => by simp at hl
  | r :: rs, v :: vs, xs, L, hl, e, t => by
    unfold allSt at e
    split at e
    · rename_i x ys e1 e2
      cases e
      have hr : r = .st x := by
        unfold Rv.st? at e1
        split at e1
        · cases e1; rfl
        · cases e1
      subst hr
      rw [List.zip_cons_cons, List.cons_append] at t
      cases t with
      | st d t =>
        obtain ⟨A, B, h1, h2, h3⟩ := st_own (by simpa using hl) e2 t
        subst h3
        exact ⟨_ ++ A, B, ⟨v, vs, _, A, rfl, d, h1, rfl⟩, h2, by rw [List.append_assoc]⟩
    · cases e
/-- a new cell that holds one's own things -/
theorem RF.pack {p : Addr} {u : HO} {o : OV} {A B : Cells} (r : RF M G Z H F σ env T2 C1 C2) (hp : H p = none) (e : C2 = A ++ B) (t : TmpOwn M F H T B) (ow : Own M F o (.ref p) ((p, u) :: A)) : R M G Z (upd H p u) σ env ((.ref p, .st o) :: T) := by
  subst e
  have s := same_upd (o := u) hp
  have hF := none_of_same r.fh hp
  have hZ := none_of_same r.zh hp
  refine ⟨F, C1, ((p, u) :: A) ++ B, r.gf, r.fg, r.fh.trans s, r.zh.trans s, r.ev, .st ow (t.mono (Same.refl _) s), ?_⟩
  have g := r.gd.same s
  have g2 : Good F Z (upd H p u) [(p, u)] := ⟨by simp, fun q hq => by rw [List.mem_singleton] at hq; subst hq; exact upd_same, fun q hq => by rw [List.mem_singleton] at hq; subst hq; exact hF, fun q hq => by rw [List.mem_singleton] at hq; subst hq; exact hZ⟩
  have g3 := g2.mk' g fun q hq q2 hq2 e => by
    rw [List.mem_singleton] at hq
    subst hq
    have := r.gd.hp q2 hq2
    rw [← e, hp] at this
    cases this
  refine g3.perm ?_
  show ((p, u) :: (C1 ++ (A ++ B))).Perm (C1 ++ ((p, u) :: (A ++ B)))
  exact List.perm_middle.symm
theorem RF.packT {p : Addr} {vs : List V} {xs : List OV} {A B : Cells} (r : RF M G Z H F σ env T2 C1 C2) (hp : H p = none) (e : C2 = A ++ B) (t : TmpOwn M F H T B) (ow : OwnL M F xs vs A) : R M G Z (upd H p (.tup vs)) σ env ((.ref p, .st (.tp xs)) :: T) := by
  subst e
  have s := same_upd (o := HO.tup vs) hp
  have hF := none_of_same r.fh hp
  have hZ := none_of_same r.zh hp
  have sF := same_upd (o := HO.tup vs) hF
  have lt : ∀ q ∈ C1 ++ (A ++ B), q.1 ≠ p := fun q hq e => by
    have := r.gd.hp q hq
    rw [e, hp] at this
    cases this
  refine ⟨upd F p (.tup vs), C1, A ++ B, r.gf.trans sF, fun a o e => ?_, fun a o e => ?_, r.zh.trans s, r.ev.mono sF, .st ⟨p, vs, rfl, upd_same, ow.mono sF⟩ (t.mono sF s), ⟨r.gd.nd, fun q hq => s _ _ (r.gd.hp q hq), fun q hq => by rw [upd_ne (lt q hq)]; exact r.gd.fr q hq, r.gd.zr⟩⟩
  · by_cases q : a = p
    · subst q; exact .inr hZ
    · rw [upd_ne q] at e; exact r.fg a o e
  · by_cases q : a = p
    · subst q; rw [upd_same] at e ⊢; exact e
    · rw [upd_ne q] at e ⊢; exact r.fh _ _ e
end
section
variable {X : Cx} {W : WX} {pos : Pos} {es : List Expr} {g : VEnv → Ans (List Rv)}
theorem je_list (h : JA X W es g) : JE X W (.List es pos) (dList g) := by
  refine PE.imp (pe_lst h) fun σ H Q ⟨G, Z, env, T, r, p⟩ => ?_
  refine tA.bind r Sb.refl p fun rs vs H1 _ hl s1 ⟨F, C1, C2, r1⟩ p1 => ?_
  split at p1
  · rename_i hz
    split at p1
    · rename_i xs e
      refine ⟨by rw [hl]; exact le1000 hz, fun q hq => p1 _ _ (same_upd hq) ?_⟩
      exact (r1.new (New.lst r1.fh hq (fz_den hl e fun p hp => r1.bor (List.mem_append_left _ hp)))).sb (Sb.both ⟨vs.zip rs, List.perm_append_comm⟩)
    · exact p1.elim
  · exact p1.elim
theorem je_listD (h : JA X W es g) : JE X W (.List es pos) (dListD g) := by
  refine PE.imp (pe_lst h) fun σ H Q ⟨G, Z, env, T, r, p⟩ => ?_
  refine tA.bind r Sb.refl p fun rs vs H1 _ hl s1 ⟨F, C1, C2, r1⟩ p1 => ?_
  split at p1
  · rename_i hz
    split at p1
    · rename_i xs e
      obtain ⟨A, B, h1, h2, h3⟩ := st_own hl e r1.tm
      exact ⟨by rw [hl]; exact le1000 hz, fun q hq => p1 _ _ (same_upd hq) (r1.pack hq h3 h2 ⟨q, vs, A, rfl, h1, rfl⟩)⟩
    · exact p1.elim
  · exact p1.elim
theorem je_tup {k} (h : JA X W es g) : JE X W (.Tuple es k pos) (dTup g) := by
  refine PE.imp (pe_tup h) fun σ H Q ⟨G, Z, env, T, r, p⟩ => ?_
  refine tA.bind r Sb.refl p fun rs vs H1 _ hl s1 ⟨F, C1, C2, r1⟩ p1 => ?_
  split at p1
  · rename_i hz
    split at p1
    · rename_i xs e
      refine ⟨by rw [hl]; exact le1000 hz, fun q hq => p1 _ _ (same_upd hq) ?_⟩
      exact (r1.new (New.tup r1.fh hq (fz_den hl e fun p hp => r1.bor (List.mem_append_left _ hp)))).sb (Sb.both ⟨vs.zip rs, List.perm_append_comm⟩)
    · exact p1.elim
  · exact p1.elim
theorem je_tupD {k} (h : JA X W es g) : JE X W (.Tuple es k pos) (dTupD g) := by
  refine PE.imp (pe_tup h) fun σ H Q ⟨G, Z, env, T, r, p⟩ => ?_
  refine tA.bind r Sb.refl p fun rs vs H1 _ hl s1 ⟨F, C1, C2, r1⟩ p1 => ?_
  split at p1
  · rename_i hz
    split at p1
    · rename_i xs e
      obtain ⟨A, B, h1, h2, h3⟩ := st_own hl e r1.tm
      exact ⟨by rw [hl]; exact le1000 hz, fun q hq => p1 _ _ (same_upd hq) (r1.packT hq h3 h2 h1)⟩
    · exact p1.elim
  · exact p1.elim
def dNewK : DE := fun _ => .ok (.st (.oK []))
def dNewT : DE := fun _ => .ok (.st (.oT []))
theorem je_newK : JE X W (.Dict [] [] pos) dNewK := PE.imp pe_dnewK fun σ H Q ⟨G, Z, env, T, ⟨F, C1, C2, r⟩, p⟩ => fun q hq => p _ _ (same_upd hq) (r.new (New.dK r.fh hq rfl))
theorem je_newT : JE X W (.Dict [] [] pos) dNewT := PE.imp pe_dnewT fun σ H Q ⟨G, Z, env, T, ⟨F, C1, C2, r⟩, p⟩ => fun q hq => p _ _ (same_upd hq) (r.new (New.dT r.fh hq rfl))
end
end J
namespace J
open PySem PySem.Spec PyProof.Rows L2
/-! ### items -/
theorem atI_den {M : Str → Option Value} {F : Hp} {xs : List FV} {vs : List V} {i : Int} {x : FV} (d : FDenL M F xs vs) (e : atI xs i = some x) : ∃ v, atI vs i = some v ∧ FDen M F x v := by
  unfold atI at e ⊢
  obtain ⟨j, e1, e2⟩ := Option.bind_eq_some_iff.mp e
  obtain ⟨v, e3, e4⟩ := d.get e2
  exact ⟨v, by rw [d.length, e1]; exact e3, e4⟩
theorem OwnL.length {M : Str → Option Value} {F : Hp} : ∀ {xs : List OV} {vs : List V} {L : Cells}, OwnL M F xs vs L → vs.length = xs.length
  | [], _, _, h => by rw [h.1]; rfl
  | _ :: _, _, _, ⟨v, ws, A, B, e, d, r, q⟩ => by rw [e, List.length_cons, List.length_cons, OwnL.length r]
theorem OwnL.get {M : Str → Option Value} {F : Hp} : ∀ {xs : List OV} {vs : List V} {L : Cells} {i : Nat} {x : OV}, OwnL M F xs vs L → xs[i]? = some x → ∃ v A, vs[i]? = some v ∧ Own M F x v A ∧ ∀ p ∈ A, p ∈ L
  | [], _, _, _, _, _, h => by simp at h
  | _ :: _, _, _, 0, _, ⟨v, ws, A, B, e, d, r, q⟩, h => by
    rw [List.getElem?_cons_zero] at h
    cases h
    exact ⟨v, A, by rw [e]; rfl, d, fun p hp => by rw [q]; exact List.mem_append_left _ hp⟩
  | _ :: _, _, _, i + 1, _, ⟨v, ws, A, B, e, d, r, q⟩, h => by
    rw [List.getElem?_cons_succ] at h
    obtain ⟨w, A2, h1, h2, h3⟩ := OwnL.get r h
    exact ⟨w, A2, by rw [e, List.getElem?_cons_succ]; exact h1, h2, fun p hp => by rw [q]; exact List.mem_append_right _ (h3 p hp)⟩
theorem atI_own {M : Str → Option Value} {F H : Hp} {xs : List OV} {vs : List V} {L : Cells} {i : Int} {x : OV} (d : OwnL M F xs vs L) (c : ∀ p ∈ L, H p.1 = some p.2) (e : atI xs i = some x) : ∃ v, atI vs i = some v ∧ Bor M F H x v := by
  unfold atI at e ⊢
  obtain ⟨j, e1, e2⟩ := Option.bind_eq_some_iff.mp e
  obtain ⟨v, A, e3, e4, e5⟩ := d.get e2
  exact ⟨v, by rw [d.length, e1]; exact e3, A, e4, fun p hp => c p (e5 p hp)⟩
/-- the value at a key -/
def lookK {κ α : Type} [DecidableEq κ] (kvs : List (κ × α)) (k : κ) : Option α := (kvs.find? fun kv => decide (kv.1 = k)).map (·.2)
theorem lookK_cons {κ α : Type} [DecidableEq κ] (p : κ × α) (kvs : List (κ × α)) (k : κ) : lookK (p :: kvs) k = if p.1 = k then some p.2 else lookK kvs k := by
  unfold lookK
  rw [List.find?_cons]
  by_cases h : p.1 = k
  · simp [h]
  · simp [h]
section
variable {M : Str → Option Value} {F H : Hp}
theorem FDenK.look : ∀ {kvs : List (Key × FV)} {ws : List (Key × V)} (k : Key), FDenK M F kvs ws → (∃ x v, lookK kvs k = some x ∧ valV ws k = some v ∧ FDen M F x v) ∨ (lookK kvs k = none ∧ valV ws k = none)
  | [], _, k, e => by rw [show _ = [] from e]; exact .inr ⟨rfl, rfl⟩
  | (j, x) :: r, _, k, ⟨v, rs, e, d, q⟩ => by
    rw [e, lookK_cons]
    by_cases h : j = k
    · rw [if_pos h]
      exact .inl ⟨x, v, rfl, valV_pos h, d⟩
    · rw [if_neg h, valV_neg (p := (j, v)) h]
      exact FDenK.look k q
theorem FDenT.look : ∀ {kvs : List (List Key × FV)} {ws : List (List Key × V)} (k : List Key), FDenT M F kvs ws → (∃ x v, lookK kvs k = some x ∧ valV ws k = some v ∧ FDen M F x v) ∨ (lookK kvs k = none ∧ valV ws k = none)
  | [], _, k, e => by rw [show _ = [] from e]; exact .inr ⟨rfl, rfl⟩
  | (j, x) :: r, _, k, ⟨v, rs, e, d, q⟩ => by
    rw [e, lookK_cons]
    by_cases h : j = k
    · rw [if_pos h]
      exact .inl ⟨x, v, rfl, valV_pos h, d⟩
    · rw [if_neg h, valV_neg (p := (j, v)) h]
      exact FDenT.look k q
theorem OwnK.look : ∀ {kvs : List (Key × OV)} {ws : List (Key × V)} {L : Cells} (k : Key), OwnK M F kvs ws L → (∃ x v A, lookK kvs k = some x ∧ valV ws k = some v ∧ Own M F x v A ∧ ∀ p ∈ A, p ∈ L) ∨ (lookK kvs k = none ∧ valV ws k = none)
  | [], _, _, k, e => by rw [e.1]; exact .inr ⟨rfl, rfl⟩
  | (j, x) :: r, _, _, k, ⟨v, rs, A, B, e, d, q, z⟩ => by
    rw [e, lookK_cons]
    by_cases h : j = k
    · rw [if_pos h]
      exact .inl ⟨x, v, A, rfl, valV_pos h, d, fun p hp => by rw [z]; exact List.mem_append_left _ hp⟩
    · rw [if_neg h, valV_neg (p := (j, v)) h]
      rcases OwnK.look k q with ⟨y, w, A2, h1, h2, h3, h4⟩ | h
      · exact .inl ⟨y, w, A2, h1, h2, h3, fun p hp => by rw [z]; exact List.mem_append_right _ (h4 p hp)⟩
      · exact .inr h
end
def FV.key? : FV → Option Key
  | .int i => some (.inl i)
  | .str x => some (.inr x)
  | _ => none
def keys? : List FV → Option (List Key)
  | [] => some []
  | x :: xs => match x.key?, keys? xs with
    | some k, some ks => some (k :: ks)
    | _, _ => none
def FV.keyT? : FV → Option (List Key)
  | .tup xs => keys? xs
  | _ => none
theorem FDen.key {M : Str → Option Value} {F : Hp} {x : FV} {v : V} {k : Key} (d : FDen M F x v) (e : x.key? = some k) : v = kV k := by
  unfold FV.key? at e
  split at e
  · cases e; exact d
  · cases e; exact d
  · cases e
theorem FDenL.keys {M : Str → Option Value} {F : Hp} : ∀ {xs : List FV} {vs : List V} {ks : List Key}, FDenL M F xs vs → keys? xs = some ks → vs = ks.map kV
  | [], _, _, d, e => by cases e; exact d
  | x :: xs, _, ks, ⟨v, ws, ev, d, r⟩, e => by
    unfold keys? at e
    split at e
    · rename_i k ks' e1 e2
      cases e
      rw [ev, d.key e1, FDenL.keys r e2]
      rfl
    · cases e
theorem FDen.keyT {M : Str → Option Value} {F : Hp} {x : FV} {v : V} {k : List Key} (d : FDen M F x v) (e : x.keyT? = some k) : ∃ b, v = .ref b ∧ F b = some (.tup (k.map kV)) := by
  unfold FV.keyT? at e
  split at e
  · obtain ⟨a, vs, ev, q, r⟩ := d
    rw [r.keys e] at q
    exact ⟨a, ev, q⟩
  · cases e
def OV.isD : OV → Bool
  | .oK _ => true
  | .oT _ => true
  | .dd _ => true
  | .fz (.dK _) => true
  | .fz (.dT _) => true
  | _ => false
/-- what a dict holds at a key: some r, nothing, or the key is not one of its kind -/
def dGet (x : OV) (k : FV) : Option (Option Rv) := match x with
  | .oK kvs => k.key?.map fun k => (lookK kvs k).map fun v => .st (.fz v)
  | .fz (.dK kvs) => k.key?.map fun k => (lookK kvs k).map fun v => .st (.fz v)
  | .dd kvs => k.key?.map fun k => (lookK kvs k).map .bo
  | .oT kvs => k.keyT?.map fun k => (lookK kvs k).map fun v => .st (.fz v)
  | .fz (.dT kvs) => k.keyT?.map fun k => (lookK kvs k).map fun v => .st (.fz v)
  | _ => none
/-- what is known of an item's value -/
def ResIs (M : Str → Option Value) (F H : Hp) (r : Rv) (v : V) : Prop := match r with
  | .st (.fz x) => FDen M F x v
  | .bo o => Bor M F H o v
  | _ => False
theorem RF.res {M : Str → Option Value} {G Z H F : Hp} {σ : Sl} {env : VEnv} {T : List (V × Rv)} {C1 C2 : Cells} {r : Rv} {v : V} (q : RF M G Z H F σ env T C1 C2) (h : ResIs M F H r v) : R M G Z H σ env ((v, r) :: T) := by
  unfold ResIs at h
  split at h
  · exact q.new (New.old q.fh h)
  · exact ⟨F, C1, C2, q.gf, q.fg, q.fh, q.zh, q.ev, .bo h q.tm, q.gd⟩
  · exact h.elim
theorem dGet_den {M : Str → Option Value} {F H : Hp} {x : OV} {k : FV} {u w : V} {o : Option Rv} (hf : Same F H) (bx : Bor M F H x u) (dk : FDen M F k w) (e : dGet x k = some o) :
    ∃ a ov, u = .ref a ∧ DGet H a w ov ∧ ov.isSome = o.isSome ∧ ∀ r, o = some r → ∃ v, ov = some v ∧ ResIs M F H r v := by
  have caseK : ∀ {kvs : List (Key × FV)} {ws : List (Key × V)} {a : Addr}, H a = some (.dK ws) → FDenK M F kvs ws → (k.key?.map fun k => (lookK kvs k).map fun v => Rv.st (.fz v)) = some o → ∃ ov, DGet H a w ov ∧ ov.isSome = o.isSome ∧ ∀ r, o = some r → ∃ v, ov = some v ∧ ResIs M F H r v := by
    intro kvs ws a hH d e
    obtain ⟨j, e1, e2⟩ := Option.map_eq_some_iff.mp e
    subst e2
    rw [dk.key e1]
    refine ⟨_, DGet.k hH, ?_⟩
    rcases d.look j with ⟨x, v, h1, h2, h3⟩ | ⟨h1, h2⟩
    · rw [h1, h2]
      exact ⟨rfl, fun r e => by cases e; exact ⟨v, rfl, h3⟩⟩
    · rw [h1, h2]
      exact ⟨rfl, fun r e => nomatch e⟩
  have caseT : ∀ {kvs : List (List Key × FV)} {ws : List (List Key × V)} {a : Addr}, H a = some (.dT ws) → FDenT M F kvs ws → (k.keyT?.map fun k => (lookK kvs k).map fun v => Rv.st (.fz v)) = some o → ∃ ov, DGet H a w ov ∧ ov.isSome = o.isSome ∧ ∀ r, o = some r → ∃ v, ov = some v ∧ ResIs M F H r v := by
    intro kvs ws a hH d e
    obtain ⟨j, e1, e2⟩ := Option.map_eq_some_iff.mp e
    subst e2
    obtain ⟨b, rfl, hb⟩ := dk.keyT e1
    refine ⟨_, DGet.t hH (hf _ _ hb), ?_⟩
    rcases d.look j with ⟨x, v, h1, h2, h3⟩ | ⟨h1, h2⟩
    · rw [h1, h2]
      exact ⟨rfl, fun r e => by cases e; exact ⟨v, rfl, h3⟩⟩
    · rw [h1, h2]
      exact ⟨rfl, fun r e => nomatch e⟩
  obtain ⟨A, ow, c⟩ := bx
  unfold dGet at e
  split at e
  · obtain ⟨a, ws, rfl, d, q⟩ := ow
    subst q
    obtain ⟨ov, h⟩ := caseK (c _ List.mem_cons_self) d e
    exact ⟨a, ov, rfl, h⟩
  · obtain ⟨⟨a, ws, rfl, q, d⟩, _⟩ := ow
    obtain ⟨ov, h⟩ := caseK (hf _ _ q) d e
    exact ⟨a, ov, rfl, h⟩
  · obtain ⟨a, ws, L', rfl, d, q⟩ := ow
    subst q
    obtain ⟨j, e1, e2⟩ := Option.map_eq_some_iff.mp e
    subst e2
    rw [dk.key e1]
    refine ⟨a, _, rfl, DGet.k (c _ List.mem_cons_self), ?_⟩
    rcases d.look j with ⟨x, v, B, h1, h2, h3, h4⟩ | ⟨h1, h2⟩
    · rw [h1, h2]
      exact ⟨rfl, fun r e => by cases e; exact ⟨v, rfl, B, h3, fun p hp => c p (List.mem_cons_of_mem _ (h4 p hp))⟩⟩
    · rw [h1, h2]
      exact ⟨rfl, fun r e => nomatch e⟩
  · obtain ⟨a, ws, rfl, d, q⟩ := ow
    subst q
    obtain ⟨ov, h⟩ := caseT (c _ List.mem_cons_self) d e
    exact ⟨a, ov, rfl, h⟩
  · obtain ⟨⟨a, ws, rfl, q, d⟩, _⟩ := ow
    obtain ⟨ov, h⟩ := caseT (hf _ _ q) d e
    exact ⟨a, ov, rfl, h⟩
  · cases e
/-- x[i] of a list, a tuple, a text -/
def opIx (x : OV) (i : Int) : Option Rv := match x with
  | .ol xs => (atI xs i).map fun v => .st (.fz v)
  | .fz (.lst xs) => (atI xs i).map fun v => .st (.fz v)
  | .fz (.tup xs) => (atI xs i).map fun v => .st (.fz v)
  | .fz (.tuz xs) => (atI xs i).map fun v => .st (.fz v)
  | .fz (.str z) => if z.length ≤ BIG then (atI z.cps.toList i).map fun c => .st (.fz (.str ⟨#[c]⟩)) else none
  | .dl os => (atI os i).map .bo
  | .tp os => (atI os i).map .bo
  | _ => none
def opSub' (x y : OV) : Option Rv := if x.isD then (dGet x y.fv).bind id else match y with
  | .fz (.int i) => opIx x i
  | _ => none
def FV.frozenKey : OV → Bool
  | .fz _ => true
  | _ => false
def dSub (f g : DE) : DE := fun env => (f env).bind fun x => (g env).bind fun y => if FV.frozenKey y.ov then Ans.of (opSub' x.ov y.ov) else .no
section
variable {M : Str → Option Value} {K : PySem.W.Frag} {F H : Hp} {x : OV} {u : V}
theorem opIx_den {i : Int} {r : Rv} (hf : Same F H) (bx : Bor M F H x u) (e : opIx x i = some r) (Q : VK) (k : ∀ v, ResIs M F H r v → Q v H) : rIx K u (.int i) H Q := by
  obtain ⟨A, ow, c⟩ := bx
  unfold opIx at e
  split at e
  · obtain ⟨a, vs, rfl, d, q⟩ := ow
    subst q
    obtain ⟨y, e1, e2⟩ := Option.map_eq_some_iff.mp e
    subst e2
    obtain ⟨v, h1, h2⟩ := atI_den d e1
    exact .inl ⟨a, vs, i, v, rfl, rfl, SqL.of (c _ List.mem_cons_self), h1, k v h2⟩
  · obtain ⟨⟨a, vs, rfl, q, d⟩, _⟩ := ow
    obtain ⟨y, e1, e2⟩ := Option.map_eq_some_iff.mp e
    subst e2
    obtain ⟨v, h1, h2⟩ := atI_den d e1
    exact .inl ⟨a, vs, i, v, rfl, rfl, SqL.of (hf _ _ q), h1, k v h2⟩
  · obtain ⟨⟨a, vs, rfl, q, d⟩, _⟩ := ow
    obtain ⟨y, e1, e2⟩ := Option.map_eq_some_iff.mp e
    subst e2
    obtain ⟨v, h1, h2⟩ := atI_den d e1
    exact .inr (.inl ⟨a, vs, i, v, rfl, rfl, SqT.of (hf _ _ q), h1, k v h2⟩)
  · obtain ⟨⟨a, vs, o, rfl, q, _, _, d⟩, _⟩ := ow
    obtain ⟨y, e1, e2⟩ := Option.map_eq_some_iff.mp e
    subst e2
    obtain ⟨v, h1, h2⟩ := atI_den d e1
    exact .inr (.inl ⟨a, vs, i, v, rfl, rfl, .inl (.inr ⟨o, hf _ _ q⟩), h1, k v h2⟩)
  · split at e
    · rename_i hz
      obtain ⟨h, _⟩ := ow
      obtain ⟨y, e1, e2⟩ := Option.map_eq_some_iff.mp e
      subst e2
      exact .inr (.inr ⟨_, i, y, h, rfl, by rw [big_eq]; exact hz, e1, k _ rfl⟩)
    · cases e
  · obtain ⟨a, vs, L', rfl, d, q⟩ := ow
    subst q
    obtain ⟨y, e1, e2⟩ := Option.map_eq_some_iff.mp e
    subst e2
    obtain ⟨v, h1, h2⟩ := atI_own d (fun p hp => c p (List.mem_cons_of_mem _ hp)) e1
    exact .inl ⟨a, vs, i, v, rfl, rfl, SqL.of (c _ List.mem_cons_self), h1, k v h2⟩
  · obtain ⟨a, vs, rfl, q, d⟩ := ow
    obtain ⟨y, e1, e2⟩ := Option.map_eq_some_iff.mp e
    subst e2
    obtain ⟨v, h1, h2⟩ := atI_own d c e1
    exact .inr (.inl ⟨a, vs, i, v, rfl, rfl, SqT.of (hf _ _ q), h1, k v h2⟩)
  · cases e
end
section
variable {X : Cx} {W : WX} {pos p2 : Pos} {a b : Expr} {f g : DE}
theorem je_sub (hu : X.A.units + 1 < cLine) (ha : JE X W a f) (hb : JE X W b g) (hs : PlainIx b := by first | exact fun _ _ => rfl | (intro _ _; rfl)) : JE X W (.Subscript a b pos) (dSub f g) := by
  refine PE.imp (PE.or (pe_ix (ix_seq (X := X)) ha hb hs) (pe_dget hu ha hb hs)) fun σ H Q ⟨G, Z, env, T, r, p⟩ => ?_
  have fin : ∀ (x : Rv), f env = .ok x → (x.ov.isD = false ∧ ∀ y, (g env = .ok y → FV.frozenKey y.ov = true → ∀ r, opSub' x.ov y.ov = some r → ∃ i, y.ov = .fz (.int i) ∧ opIx x.ov i = some r)) ∨ x.ov.isD = true := by
    intro x _
    cases hd : x.ov.isD with
    | true => exact .inr rfl
    | false =>
      refine .inl ⟨rfl, fun y _ _ r e => ?_⟩
      unfold opSub' at e
      rw [hd, if_neg Bool.false_ne_true] at e
      split at e
      · rename_i i e2
        exact ⟨i, e2, e⟩
      · cases e
  have left : (∀ x, f env = .ok x → x.ov.isD = false) → tOp (rIx X.K) (tE X.mg W f) (tE X.mg W g) σ H Q := by
    intro hd
    refine tE.bind r Sb.refl p fun x u H1 ef s1 r1 p1 => ?_
    refine tE.bind r1 Sb.refl.cons p1 fun y w H2 eg s2 ⟨F, C1, C2, r2⟩ p2 => ?_
    split at p2
    · rename_i hk
      cases e : opSub' x.ov y.ov with
      | none => rw [e] at p2; exact p2.elim
      | some rv =>
        rw [e] at p2
        rcases fin x ef with ⟨_, h⟩ | h
        · obtain ⟨i, e1, e2⟩ := h y eg hk rv e
          have hw := r2.bor (List.mem_cons_self (a := (w, y)))
          rw [show (w, y).2.ov = y.ov from rfl, e1] at hw
          rw [show w = .int i from hw.int]
          exact opIx_den r2.fh (r2.bor (List.mem_cons_of_mem _ List.mem_cons_self)) e2 Q fun v h => p2 v H2 (Same.refl _) ((r2.res h).sb (Sb.refl.cons.cons.both))
        · rw [hd x ef] at h; cases h
    · exact p2.elim
  cases ef : f env with
  | ex c => exact .inl (left fun x e => by rw [ef] at e; cases e)
  | no => exact .inl (left fun x e => by rw [ef] at e; cases e)
  | ok x =>
    cases hd : x.ov.isD with
    | false => exact .inl (left fun x' e => by rw [ef] at e; cases e; exact hd)
    | true =>
      refine .inr ?_
      refine tE.bind r Sb.refl p fun x' u H1 ef' s1 r1 p1 => ?_
      rw [ef] at ef'
      cases ef'
      refine tE.bind r1 Sb.refl.cons p1 fun y w H2 eg s2 ⟨F, C1, C2, r2⟩ p2 => ?_
      split at p2
      · rename_i hk
        unfold opSub' at p2
        rw [hd, if_pos rfl] at p2
        cases e : dGet x.ov y.ov.fv with
        | none => rw [e] at p2; exact p2.elim
        | some oo =>
          rw [e] at p2
          cases oo with
          | none => exact p2.elim
          | some rv =>
            have hy := r2.bor (List.mem_cons_self (a := (w, y)))
            have hy' : FDen X.mg F y.ov.fv w := by
              unfold FV.frozenKey at hk
              split at hk
              · rename_i z ez
                rw [show (w, y).2.ov = y.ov from rfl, ez] at hy
                rw [ez]
                exact hy.fz
              · cases hk
            obtain ⟨a, ov, h1, h2, h3, h4⟩ := dGet_den r2.fh (r2.bor (List.mem_cons_of_mem _ List.mem_cons_self)) hy' e
            obtain ⟨v, e3, h5⟩ := h4 rv rfl
            subst e3
            exact ⟨a, v, h1, h2, p2 v H2 (Same.refl _) ((r2.res h5).sb (Sb.refl.cons.cons.both))⟩
      · exact p2.elim
end
end J
namespace J
open PySem PySem.Spec PyProof.Rows L2
/-! ### slices -/
def cutF {α : Type} (xs : List α) (lo hi : Option Int) : List α := (xs.drop (HT.sIx xs.length 0 lo)).take (HT.sIx xs.length xs.length hi - HT.sIx xs.length 0 lo)
theorem FDenL.cut {M : Str → Option Value} {F : Hp} {xs : List FV} {vs : List V} (d : FDenL M F xs vs) (lo hi : Option Int) : FDenL M F (cutF xs lo hi) (cutV vs lo hi) := by
  unfold cutF cutV
  rw [d.length]
  exact (d.drop _).take _
theorem FDenL_ints {M : Str → Option Value} {F : Hp} : ∀ ns : List Int, FDenL M F (ns.map .int) (ns.map V.int)
  | [] => rfl
  | n :: ns => ⟨.int n, _, rfl, rfl, FDenL_ints ns⟩
theorem FDenL_strs {M : Str → Option Value} {F : Hp} : ∀ ns : List Str, FDenL M F (ns.map .str) (ns.map V.str)
  | [] => rfl
  | n :: ns => ⟨.str n, _, rfl, rfl, FDenL_strs ns⟩
theorem cutF_map {α β : Type} (f : α → β) (xs : List α) (lo hi : Option Int) : cutF (xs.map f) lo hi = (cutF xs lo hi).map f := by
  unfold cutF
  rw [List.length_map, List.map_take, List.map_drop]
theorem cutF_all {α : Type} {xs : List α} {lo hi : Option Int} (h : HT.sIx xs.length 0 lo = 0 ∧ HT.sIx xs.length xs.length hi = xs.length) : cutF xs lo hi = xs := by
  unfold cutF
  rw [h.1, h.2]
  simp
def opSl (x : OV) (lo hi : Option Int) : Option OV := match x with
  | .ol xs => some (.ol (cutF xs lo hi))
  | .fz (.lst xs) => some (.ol (cutF xs lo hi))
  | .fz (.scr xs) => some (.ol ((cutF xs lo hi).map .int))
  | .fz (.tup xs) => some (.fz (.tup (cutF xs lo hi)))
  | .fz (.str z) => if z.length ≤ BIG then some (.fz (.str (cutS z lo hi))) else none
  | _ => none
def rSlJ (M : Str → Option Value) : V → Option Int → Option Int → Hp → VK → Prop := fun u lo hi H Q => ∃ F x o, Same F H ∧ Bor M F H x u ∧ opSl x lo hi = some o ∧ ∀ v H', New M F H H' o v → Q v H'
theorem rSlJ_red {M : Str → Option Value} {K : PySem.W.Frag} {u : V} {lo hi : Option Int} {H : Hp} {Q : VK} (h : rSlJ M u lo hi H Q) : rSlL K u lo hi H Q ∨ rSlA K u lo hi H Q ∨ rSlS u lo hi H Q := by
  obtain ⟨F, x, o, hf, bx, e, k⟩ := h
  unfold opSl at e
  split at e
  · cases e
    obtain ⟨a, vs, rfl, q, d⟩ := bx.lst hf rfl
    exact .inl ⟨a, vs, rfl, SqL.of q, fun p hp => k _ _ (New.lst hf hp (d.cut lo hi))⟩
  · cases e
    obtain ⟨a, vs, rfl, q, d⟩ := bx.lst hf rfl
    exact .inl ⟨a, vs, rfl, SqL.of q, fun p hp => k _ _ (New.lst hf hp (d.cut lo hi))⟩
  · cases e
    rename_i xs
    obtain ⟨a, rfl, q⟩ := bx.fz
    refine .inl ⟨a, xs.map V.int, rfl, .inl (q.elim (fun q => .inl (hf _ _ q)) fun ⟨o, q⟩ => .inr ⟨o, hf _ _ q⟩), fun p hp => k _ _ (New.lst hf hp ?_)⟩
    rw [show cutV (xs.map V.int) lo hi = cutF (xs.map V.int) lo hi from rfl, cutF_map]
    exact FDenL_ints _
  · cases e
    obtain ⟨a, vs, rfl, q, d⟩ := bx.fz
    refine .inr (.inl ⟨a, vs, rfl, SqT.of (hf _ _ q), fun h => ?_, fun _ p hp => k _ _ (New.tup hf hp (d.cut lo hi))⟩)
    rw [d.length] at h
    rw [cutF_all h] at k
    exact k _ _ (New.old hf bx.fz)
  · split at e
    · rename_i hz
      cases e
      exact .inr (.inr ⟨_, bx.str, by rw [big_eq]; exact hz, k _ _ (New.str hf)⟩)
    · cases e
  · cases e
theorem sl_j {X : Cx} : SlR X (rSlJ X.mg) := by
  intro pins s σ H u v vl vu lo hi sl Q I r hs h1 h2 q
  exact (SlR.or sl_list (SlR.or sl_tupA sl_str)) pins s σ H u v vl vu lo hi sl Q I r hs h1 h2 (rSlJ_red q)
def dPN : VEnv → Ans (Option Int) := fun _ => .ok none
def dPS (f : DE) : VEnv → Ans (Option Int) := fun env => (f env).bind fun x => match x.ov with
  | .fz (.int i) => .ok (some i)
  | _ => .no
def PostO (M : Str → Option Value) (W : WX) (G Z : Hp) (σ : Sl) (env : VEnv) (T : List (V × Rv)) (Q : Option Int → Hp → Prop) (H : Hp) : Ans (Option Int) → Prop
  | .ok b => ∀ H', Same H H' → R M G Z H' σ env T → Q b H'
  | .ex c => ∀ C H', M c = some (.ref C) → Same H H' → R M G Z H' σ env T → W (.ref C) none σ H'
  | .no => False
def tO (M : Str → Option Value) (W : WX) (f : VEnv → Ans (Option Int)) : TO := fun σ H Q => ∃ G Z env T, R M G Z H σ env T ∧ PostO M W G Z σ env T Q H (f env)
abbrev JO (X : Cx) (W : WX) (e : Option Expr) (f : VEnv → Ans (Option Int)) : Prop := PO X e (tO X.mg W f)
theorem PO.imp {X : Cx} {e : Option Expr} {t t' : TO} (p : PO X e t) (h : ∀ σ H Q, t' σ H Q → t σ H Q) : PO X e t' := ⟨fun pins s σ H Q I q => p.run pins s σ H Q I (h σ H Q q)⟩
section
variable {M : Str → Option Value} {G Z H F : Hp} {σ : Sl} {env : VEnv} {T T2 : List (V × Rv)} {W : WX} {Q : VK} {C1 C2 : Cells}
theorem tO.bind {f : VEnv → Ans (Option Int)} {k : Option Int → Ans Rv} {Q1 : Option Int → Hp → Prop} (r : R M G Z H σ env T2) (hs : Sb T T2) (p : Post M W G Z σ env T Q H ((f env).bind k))
    (h : ∀ b H1, f env = .ok b → Same H H1 → R M G Z H1 σ env T2 → Post M W G Z σ env T Q H1 (k b) → Q1 b H1) : tO M W f σ H Q1 := by
  refine ⟨G, Z, env, T2, r, ?_⟩
  cases e : f env with
  | ok b =>
    rw [e] at p
    exact fun H1 s r => h b H1 e s r (p.later s)
  | ex c =>
    rw [e] at p
    exact fun C H1 m s r => p C H1 m s (r.sb hs)
  | no => rw [e] at p; exact p
theorem tE.bindO {f : DE} {k : Rv → Ans (Option Int)} {Q1 : VK} {Q : Option Int → Hp → Prop} (r : R M G Z H σ env T2) (hs : Sb T T2) (p : PostO M W G Z σ env T Q H ((f env).bind k))
    (h : ∀ rv v H1, f env = .ok rv → Same H H1 → R M G Z H1 σ env ((v, rv) :: T2) → PostO M W G Z σ env T Q H1 (k rv) → Q1 v H1) : tE M W f σ H Q1 := by
  refine tE.then r hs (fun rv v H1 e s r => h rv v H1 e s r ?_) (fun c C H1 e m s r => ?_) fun e => ?_
  · rw [e] at p
    cases e2 : k rv with
    | ok b => rw [show (Ans.ok rv).bind k = k rv from rfl, e2] at p; exact fun H' s' r' => p H' (s.trans s') r'
    | ex c => rw [show (Ans.ok rv).bind k = k rv from rfl, e2] at p; exact fun C H' m s' r' => p C H' m (s.trans s') r'
    | no => rw [show (Ans.ok rv).bind k = k rv from rfl, e2] at p; exact p
  · rw [e] at p; exact p C H1 m s r
  · rw [e] at p; exact p
end
def dSl (f : DE) (l h : VEnv → Ans (Option Int)) : DE := fun env => (f env).bind fun x => (l env).bind fun i => (h env).bind fun j => (Ans.of (opSl x.ov i j)).map .st
def opRev (x : OV) : Option OV := x.lst?.map fun xs => .ol xs.reverse
section
variable {X : Cx} {W : WX} {pos p2 : Pos} {a e : Expr} {lo hi : Option Expr} {f : DE} {l h : VEnv → Ans (Option Int)}
theorem jo_none : JO X W none dPN := PO.imp po_none fun σ H Q ⟨G, Z, env, T, r, p⟩ => p H (Same.refl _) r
theorem jo_some (he : JE X W e f) : JO X W (some e) (dPS f) := by
  refine PO.imp (po_some he) fun σ H Q ⟨G, Z, env, T, r, p⟩ => ?_
  refine tE.bindO r Sb.refl p fun x u H1 _ s1 ⟨F, C1, C2, r1⟩ p1 => ?_
  have hb := r1.bor List.mem_cons_self
  split at p1
  · rename_i i e
    rw [show (u, x).2.ov = x.ov from rfl, e] at hb
    exact ⟨i, hb.int, p1 H1 (Same.refl _) r1.r.pop⟩
  · exact p1.elim
theorem je_slice (he : JE X W e f) (hl : JO X W lo l) (hh : JO X W hi h) : JE X W (.Subscript e (.Slice lo hi none p2) pos) (dSl f l h) := by
  refine PE.imp (pe_slice sl_j he hl hh) fun σ H Q ⟨G, Z, env, T, r, p⟩ => ?_
  refine tE.bind r Sb.refl p fun x u H1 _ s1 r1 p1 => ?_
  refine tO.bind r1 Sb.refl.cons p1 fun i H2 _ s2 r2 p2 => ?_
  refine tO.bind r2 Sb.refl.cons p2 fun j H3 _ s3 ⟨F, C1, C2, r3⟩ p3 => ?_
  obtain ⟨o, e, k⟩ := r3.fin Sb.refl.cons p3
  exact ⟨F, x.ov, o, r3.fh, r3.bor List.mem_cons_self, e, k⟩
theorem je_rev {k : Nat} {p1 p3 : Pos} (he : JE X W e f) : JE X W (.Subscript e (.Slice none none (some (.UnaryOp .USub (.Constant (.int 1) k p1) p2)) p3) pos) (dUn opRev f) := by
  refine PE.imp (pe_revL he) fun σ H Q ⟨G, Z, env, T, r, p⟩ => ?_
  refine tE.bind r Sb.refl p fun x u H1 _ s1 ⟨F, C1, C2, r1⟩ p1 => ?_
  obtain ⟨o, e, k⟩ := r1.fin Sb.refl.cons p1
  obtain ⟨xs, e1, e2⟩ := Option.map_eq_some_iff.mp e
  subst e2
  obtain ⟨a, vs, e3, q, d⟩ := (r1.bor List.mem_cons_self).lst r1.fh e1
  exact ⟨a, vs, e3, SqL.of q, fun p hp => k _ _ (New.lst r1.fh hp d.reverse)⟩
end
/-! ### in -/
theorem PC.or {X : Cx} {op : CmpOp} {a b : Expr} {t t' : TE} (p : PC X op a b t) (p' : PC X op a b t') : PC X op a b (fun σ H Q => t σ H Q ∨ t' σ H Q) := ⟨fun pins s σ H Q I q => q.elim (p.run pins s σ H Q I) (p'.run pins s σ H Q I)⟩
theorem pc_of {X : Cx} {op : CmpOp} {a b : Expr} {r : R2} {ta tb : TE} (ho : OpR X (compareOp op) r) (ha : PE X a ta) (hb : PE X b tb) : PC X op a b (tOp r ta tb) :=
  ⟨fun pins s σ H Q I h => binT ha hb I h fun v u s2 x y H2 I2 rx ry q => ho pins s2 σ H2 x y v u Q I2 rx ry q⟩
def FV.lst? : FV → Option (List FV)
  | .lst xs => some xs
  | _ => none
def inSeq (x y : FV) : Option Bool := match y with
  | .lst ys => match x.toD, FV.toDL ys with
    | some d, some ds => if SeqAt.shaped d && SeqAt.shaped (.list ds) then some (ds.any fun z => PyData.eqv z d) else none
    | _, _ => none
  | .tup ys => if x.atom && ys.all FV.atom then (match x.toD, FV.toDL ys with
    | some d, some ds => some (ds.any fun z => PyData.eqv z d)
    | _, _ => none) else none
  | .tuz ys => if x.atom && ys.all FV.atom then (match x.toD, FV.toDL ys with
    | some d, some ds => some (ds.any fun z => PyData.eqv z d)
    | _, _ => none) else none
  | .str z => match x with
    | .str s => match s.cps.toList with
      | [c] => some (decide (c ∈ z.cps.toList))
      | _ => none
    | _ => none
  | _ => none
def opIn (neg : Bool) (x y : OV) : Option OV := if y.isD then (if FV.frozenKey x then (dGet y x.fv).map fun o => .fz (.bl (neg != o.isSome)) else none)
  else (inSeq x.fv y.fv).map fun b => .fz (.bl (neg != b))
section
variable {M : Str → Option Value} {K : PySem.W.Frag} {F H : Hp} {x y : FV} {u w : V}
theorem atom_eq {d e : PyData} (dx : FDen M F x u) (dy : FDen M F y w) (hx : x.atom = true) (hy : y.atom = true) (ex : x.toD = some d) (ey : y.toD = some e) : eqV w u = PyData.eqv e d := by
  cases x <;> first | (refine absurd hx ?_; simp [FV.atom]; done) | skip
  all_goals
    cases y <;> first | (refine absurd hy ?_; simp [FV.atom]; done) | skip
  all_goals
    (cases ex; cases ey; rw [show u = _ from dx, show w = _ from dy]; first | rfl | simp [eqV, PyData.eqv])
theorem atom_flat (dx : FDen M F x u) (hx : x.atom = true) : flatV u = true := by
  cases x <;> first | (refine absurd hx ?_; simp [FV.atom]; done) | skip
  all_goals (rw [show u = _ from dx]; rfl)
theorem atoms_any {d : PyData} (dx : FDen M F x u) (hx : x.atom = true) (ex : x.toD = some d) : ∀ {ys : List FV} {vs : List V} {ds : List PyData}, FDenL M F ys vs → ys.all FV.atom = true → FV.toDL ys = some ds → vs.all flatV = true ∧ inV u vs = ds.any fun z => PyData.eqv z d
  | [], _, _, h, _, e => by cases e; rw [show _ = [] from h]; exact ⟨rfl, rfl⟩
  | y :: ys, _, ds, ⟨v, ws, ev, dy, r⟩, ha, e => by
    rw [List.all_cons, Bool.and_eq_true] at ha
    unfold FV.toDL at e
    split at e
    · rename_i d1 ds1 e1 e2
      cases e
      obtain ⟨h1, h2⟩ := atoms_any dx hx ex r ha.2 e2
      rw [ev]
      refine ⟨by rw [List.all_cons, atom_flat dy ha.1, h1]; rfl, ?_⟩
      unfold inV at h2 ⊢
      rw [List.any_cons, List.any_cons, h2, atom_eq dx dy hx ha.1 ex e1]
    · cases e
end
section
variable {X : Cx} {W : WX} {pos : Pos} {a b : Expr} {f g : DE}
def rInJ (M : Str → Option Value) (neg : Bool) : R2 := fun u w H Q => ∃ F x y c, Same F H ∧ Bor M F H x u ∧ Bor M F H y w ∧ inSeq x.fv y.fv = some c ∧ Q (.bl (neg != c)) H
theorem rInJ_red {neg : Bool} {u w : V} {H : Hp} {Q : VK} (h : rInJ X.mg neg u w H Q) : (∃ d ds, Dp X.K H u d ∧ Dp X.K H w (.list ds) ∧ SeqAt.shaped d = true ∧ SeqAt.shaped (.list ds) = true ∧ Q (.bl (neg != ds.any fun z => PyData.eqv z d)) H) ∨
    (∃ p xs, w = .ref p ∧ (SqL X.K H p xs ∨ SqT X.K H p xs) ∧ flatV u = true ∧ xs.all flatV = true ∧ Q (.bl (neg != inV u xs)) H) ∨ ∃ (c : Nat) (z : Str), u = .str ⟨#[c]⟩ ∧ w = .str z ∧ Q (.bl (neg != decide (c ∈ z.cps.toList))) H := by
  obtain ⟨F, x, y, c, hf, bx, by', e, q⟩ := h
  have dx := bx.fden hf
  have dy := by'.fden hf
  revert e dy
  generalize y.fv = yf
  intro e dy
  unfold inSeq at e
  split at e
  · split at e
    · rename_i d ds e1 e2
      split at e
      · rename_i hs
        cases e
        rw [Bool.and_eq_true] at hs
        obtain ⟨p, vs, rfl, qq, dd⟩ := dy
        exact .inl ⟨d, ds, dx.dp e1, .lst (SqL.of qq) (dd.dp e2), hs.1, hs.2, q⟩
      · cases e
    · cases e
  · split at e
    · rename_i ha
      rw [Bool.and_eq_true] at ha
      split at e
      · rename_i d ds e1 e2
        cases e
        obtain ⟨p, vs, rfl, qq, dd⟩ := dy
        obtain ⟨h1, h2⟩ := atoms_any dx ha.1 e1 dd ha.2 e2
        exact .inr (.inl ⟨p, vs, rfl, .inr (SqT.of qq), atom_flat dx ha.1, h1, by rw [h2]; exact q⟩)
      · cases e
    · cases e
  · split at e
    · rename_i ha
      rw [Bool.and_eq_true] at ha
      split at e
      · rename_i d ds e1 e2
        cases e
        obtain ⟨p, vs, o, rfl, qq, _, _, dd⟩ := dy
        obtain ⟨h1, h2⟩ := atoms_any dx ha.1 e1 dd ha.2 e2
        exact .inr (.inl ⟨p, vs, rfl, .inr (.inl (.inr ⟨o, qq⟩)), atom_flat dx ha.1, h1, by rw [h2]; exact q⟩)
      · cases e
    · cases e
  · split at e
    · rename_i s ex
      split at e
      · rename_i c ec
        cases e
        rw [ex] at dx
        refine .inr (.inr ⟨c, _, ?_, dy, q⟩)
        rw [show u = .str s from dx]
        congr 1
        cases s with
        | mk cps =>
          have : cps = #[c] := by
            apply Array.toList_inj.mp
            exact ec
          rw [this]
      · cases e
    · cases e
  · cases e
theorem neg_ite (neg b : Bool) : (if neg = true then !b else b) = (neg != b) := by cases neg <;> cases b <;> rfl
theorem op_inJ (hu : X.A.units + 65 < cLine) : OpR X (compareOp .In) (rInJ X.mg false) := by
  intro pins s σ H u w v1 v2 Q I r1 r2 h
  rcases rInJ_red h with ⟨d, ds, h1, h2, h3, h4, q⟩ | ⟨p, xs, rfl, h1, h2, h3, q⟩ | ⟨c, z, h1, h2, q⟩
  · exact op_inD hu pins s σ H u w v1 v2 Q I r1 r2 ⟨d, ds, h1, h2, h3, h4, by simpa using q⟩
  · exact op_in_seq pins s σ H u _ v1 v2 Q I r1 r2 ⟨p, xs, rfl, h1, h2, h3, by rw [neg_ite]; exact q⟩
  · exact op_in_sign pins s σ H u w v1 v2 Q I r1 r2 ⟨c, z, h1, h2, by simpa using q⟩
theorem op_notInJ (hu : X.A.units + 65 < cLine) : OpR X (compareOp .NotIn) (rInJ X.mg true) := by
  intro pins s σ H u w v1 v2 Q I r1 r2 h
  rcases rInJ_red h with ⟨d, ds, h1, h2, h3, h4, q⟩ | ⟨p, xs, rfl, h1, h2, h3, q⟩ | ⟨c, z, h1, h2, q⟩
  · exact op_notInD hu pins s σ H u w v1 v2 Q I r1 r2 ⟨d, ds, h1, h2, h3, h4, by simpa using q⟩
  · exact op_notIn_seq pins s σ H u _ v1 v2 Q I r1 r2 ⟨p, xs, rfl, h1, h2, h3, by rw [neg_ite]; exact q⟩
  · exact op_notIn_sign pins s σ H u w v1 v2 Q I r1 r2 ⟨c, z, h1, h2, by simpa using q⟩
theorem frozenKey_fz {o : OV} (h : FV.frozenKey o = true) : o = .fz o.fv := by
  unfold FV.frozenKey at h
  split at h
  · rfl
  · cases h
def tInD (neg : Bool) (ty td : TE) : TE := fun σ H Q => ty σ H fun y H1 => td σ H1 fun x H2 => ∃ a o, x = .ref a ∧ DGet H2 a y o ∧ Q (.bl (neg != o.isSome)) H2
theorem in_red {neg : Bool} {σ : Sl} {H : Hp} {Q : VK} (h : tE X.mg W (dBin (opIn neg) f g) σ H Q) : tOp (rInJ X.mg neg) (tE X.mg W f) (tE X.mg W g) σ H Q ∨ tInD neg (tE X.mg W f) (tE X.mg W g) σ H Q := by
  obtain ⟨G, Z, env, T, r, p⟩ := h
  have left : (∀ y, g env = .ok y → y.ov.isD = false) → tOp (rInJ X.mg neg) (tE X.mg W f) (tE X.mg W g) σ H Q := by
    intro hd
    refine tE.bind r Sb.refl p fun x u H1 ef s1 r1 p1 => ?_
    refine tE.bind r1 Sb.refl.cons p1 fun y w H2 eg s2 ⟨F, C1, C2, r2⟩ p2 => ?_
    obtain ⟨o, e, k⟩ := r2.fin (Sb.refl.cons.cons) p2
    unfold opIn at e
    rw [hd y eg, if_neg Bool.false_ne_true] at e
    obtain ⟨c, e1, e2⟩ := Option.map_eq_some_iff.mp e
    subst e2
    exact ⟨F, x.ov, y.ov, c, r2.fh, r2.bor (List.mem_cons_of_mem _ List.mem_cons_self), r2.bor List.mem_cons_self, e1, k _ _ (New.bl r2.fh)⟩
  cases eg : g env with
  | ex c => exact .inl (left fun x e => by rw [eg] at e; cases e)
  | no => exact .inl (left fun x e => by rw [eg] at e; cases e)
  | ok y =>
    cases hd : y.ov.isD with
    | false => exact .inl (left fun x' e => by rw [eg] at e; cases e; exact hd)
    | true =>
      refine .inr ?_
      refine tE.bind r Sb.refl p fun x u H1 ef s1 r1 p1 => ?_
      refine tE.bind r1 Sb.refl.cons p1 fun y' w H2 eg' s2 ⟨F, C1, C2, r2⟩ p2 => ?_
      rw [eg] at eg'
      cases eg'
      obtain ⟨o, e, k⟩ := r2.fin (Sb.refl.cons.cons) p2
      unfold opIn at e
      rw [hd, if_pos rfl] at e
      split at e
      · rename_i hk
        obtain ⟨oo, e1, e2⟩ := Option.map_eq_some_iff.mp e
        subst e2
        have hx := r2.bor (List.mem_cons_of_mem _ (List.mem_cons_self (a := (u, x))))
        rw [show (u, x).2.ov = x.ov from rfl, frozenKey_fz hk] at hx
        obtain ⟨a, ov, h1, h2, h3, h4⟩ := dGet_den r2.fh (r2.bor List.mem_cons_self) hx.fz e1
        exact ⟨a, ov, h1, h2, by rw [h3]; exact k _ _ (New.bl r2.fh)⟩
      · cases e
theorem pc_inJ (hu : X.A.units + 65 < cLine) (ha : JE X W a f) (hb : JE X W b g) : PC X .In a b (tE X.mg W (dBin (opIn false) f g)) :=
  ⟨fun pins s σ H Q I q => (PC.or (pc_of (op_inJ hu) ha hb) (pc_din (Nat.lt_of_le_of_lt (by omega) hu) ha hb)).run pins s σ H Q I ((in_red q).imp id fun q => by simpa [tInD, tDIn] using q)⟩
theorem pc_notInJ (hu : X.A.units + 65 < cLine) (ha : JE X W a f) (hb : JE X W b g) : PC X .NotIn a b (tE X.mg W (dBin (opIn true) f g)) :=
  ⟨fun pins s σ H Q I q => (PC.or (pc_of (op_notInJ hu) ha hb) (pc_dnotin (Nat.lt_of_le_of_lt (by omega) hu) ha hb)).run pins s σ H Q I ((in_red q).imp id fun q => by simpa [tInD, tDNotIn] using q)⟩
theorem je_in (hu : X.A.units + 65 < cLine) (ha : JE X W a f) (hb : JE X W b g) (hm : behindInMarks .In b = false := by rfl) : JE X W (.Compare a [.In] [b] pos) (dBin (opIn false) f g) := pe_cmp (pc_inJ hu ha hb) hm
theorem je_notIn (hu : X.A.units + 65 < cLine) (ha : JE X W a f) (hb : JE X W b g) (hm : behindInMarks .NotIn b = false := by rfl) : JE X W (.Compare a [.NotIn] [b] pos) (dBin (opIn true) f g) := pe_cmp (pc_notInJ hu ha hb) hm
theorem jt_in (hu : X.A.units + 65 < cLine) (ha : JE X W a f) (hb : JE X W b g) (hm : behindInMarks .In b = false := by rfl) : JT X W (.Compare a [.In] [b] pos) (dTest (dBin (opIn false) f g)) := PT.imp (pt_cmp (pc_inJ hu ha hb) hm) fun _ _ _ h => tB_red h
theorem jt_notIn (hu : X.A.units + 65 < cLine) (ha : JE X W a f) (hb : JE X W b g) (hm : behindInMarks .NotIn b = false := by rfl) : JT X W (.Compare a [.NotIn] [b] pos) (dTest (dBin (opIn true) f g)) := PT.imp (pt_cmp (pc_notInJ hu ha hb) hm) fun _ _ _ h => tB_red h
end
end J
namespace J
open PySem PySem.Spec PyProof.Rows L2
/-! ### calls of what is built in -/
def rJn (M : Str → Option Value) (op : List OV → Option OV) : List V → Hp → VK → Prop := fun us H Q => ∃ F os o, Same F H ∧ Paired (fun x u => Bor M F H x u) os us ∧ op os = some o ∧ ∀ v H', New M F H H' o v → Q v H'
def dCallB (op : List OV → Option OV) (g : VEnv → Ans (List Rv)) : DE := fun env => (g env).bind fun rs => (Ans.of (op (rs.map Rv.ov))).map .st
theorem zip_bor {M : Str → Option Value} {F H : Hp} : ∀ {rs : List Rv} {vs : List V}, vs.length = rs.length → (∀ p ∈ vs.zip rs, Bor M F H p.2.ov p.1) → Paired (fun x u => Bor M F H x u) (rs.map Rv.ov) vs
  | [], vs, hl, _ => by
    obtain rfl : vs = [] := List.eq_nil_of_length_eq_zero hl
    exact .nil
  | r :: rs, [], hl, _ => by simp at hl
  | r :: rs, v :: vs, hl, h => .cons (h (v, r) (by simp)) (zip_bor (by simpa using hl) fun p hp => h p (by rw [List.zip_cons_cons]; exact List.mem_cons_of_mem _ hp))
section
variable {M : Str → Option Value} {G Z H F : Hp} {σ : Sl} {env : VEnv} {T T2 : List (V × Rv)} {W : WX} {Q : VK} {C1 C2 : Cells}
theorem RF.rjn {op : List OV → Option OV} {us : List V} {rs : List Rv} (r : RF M G Z H F σ env (us.zip rs ++ T2) C1 C2) (hl : us.length = rs.length) (hs : Sb T T2) (p : Post M W G Z σ env T Q H ((Ans.of (op (rs.map Rv.ov))).map .st)) : rJn M op us H Q := by
  obtain ⟨o, e, k⟩ := r.fin (T := T) (hs.trans ⟨us.zip rs, List.perm_append_comm⟩) p
  exact ⟨F, rs.map Rv.ov, o, r.fh, zip_bor hl fun p hp => r.bor (List.mem_append_left _ hp), e, k⟩
end
section
variable {X : Cx} {W : WX} {pos p : Pos} {x : Str} {e : Expr} {es : List Expr} {g : VEnv → Ans (List Rv)} {op : List OV → Option OV}
theorem callb_red {σ : Sl} {H : Hp} {Q : VK} (h : tE X.mg W (dCallB op g) σ H Q) : tA X.mg W g σ H fun vs H1 => rJn X.mg op vs H1 Q := by
  obtain ⟨G, Z, env, T, r, p⟩ := h
  exact tA.bind r Sb.refl p fun rs vs H1 _ hl s1 ⟨F, C1, C2, r1⟩ p1 => r1.rjn hl Sb.refl p1
theorem je_callB {id : String} (hc : CallR X (.builtin id) (rJn X.mg op)) (ha : JA X W (e :: es) g) (hm : X.mg x = none) (hv : bootBuiltins x = some (.builtin id)) (hg : Gl X x := by rfl) (hn : x ≠ "__name__" := by decide) (hdb : (x == ("__debug__" : Str)) = false := by decide)
    (he : starEach (e :: es) X.env = (false, eval e X.env) :: starEach es X.env := by rfl) (hpl : (backTo pos (starEach es X.env)).any (·.1) = false := by rfl) : JE X W (.Call (.Name x p) (e :: es) [] pos) (dCallB op g) :=
  PE.imp (pe_callB hc hg hm hv ha hn hdb he hpl) fun σ H Q h => callb_red h
theorem je_callTy {T : String} (hc : CallR X (.type T) (rJn X.mg op)) (ha : JA X W (e :: es) g) (hm : X.mg x = none) (hv : bootBuiltins x = some (.type T)) (hg : Gl X x := by rfl) (hn : x ≠ "__name__" := by decide) (hdb : (x == ("__debug__" : Str)) = false := by decide)
    (he : starEach (e :: es) X.env = (false, eval e X.env) :: starEach es X.env := by rfl) (hpl : (backTo pos (starEach es X.env)).any (·.1) = false := by rfl) : JE X W (.Call (.Name x p) (e :: es) [] pos) (dCallB op g) :=
  PE.imp (pe_callTy hc hg hm hv ha hn hdb he hpl) fun σ H Q h => callb_red h
end
theorem CallR.imp {X : Cx} {f : Value} {r r' : List V → Hp → VK → Prop} (h : CallR X f r) (k : ∀ us H Q, r' us H Q → r us H Q) : CallR X f r' := fun pins s σ H us vs Q I rs q => h pins s σ H us vs Q I rs (k us H Q q)
/-! ### what these answer -/
def opLen : List OV → Option OV
  | [.ol xs] => some (.fz (.int xs.length))
  | [.fz (.lst xs)] => some (.fz (.int xs.length))
  | [.fz (.tup xs)] => some (.fz (.int xs.length))
  | [.fz (.tuz xs)] => some (.fz (.int xs.length))
  | [.fz (.str z)] => if z.length ≤ BIG then some (.fz (.int z.length)) else none
  | [.dl xs] => some (.fz (.int xs.length))
  | [.tp xs] => some (.fz (.int xs.length))
  | [.oK xs] => some (.fz (.int xs.length))
  | [.fz (.dK xs)] => some (.fz (.int xs.length))
  | [.fz (.scr xs)] => some (.fz (.int xs.length))
  | _ => none
theorem FDenK.length {M : Str → Option Value} {F : Hp} : ∀ {xs : List (Key × FV)} {vs : List (Key × V)}, FDenK M F xs vs → vs.length = xs.length
  | [], _, e => by rw [show _ = [] from e]; rfl
  | (k, x) :: xs, _, ⟨v, ws, e, _, r⟩ => by rw [e, List.length_cons, List.length_cons, FDenK.length r]
theorem paired1 {α β : Type} {P : α → β → Prop} {x : α} {us : List β} (h : Paired P [x] us) : ∃ u, us = [u] ∧ P x u := by
  cases h with
  | cons a b => cases b; exact ⟨_, rfl, a⟩
theorem paired2 {α β : Type} {P : α → β → Prop} {x y : α} {us : List β} (h : Paired P [x, y] us) : ∃ u w, us = [u, w] ∧ P x u ∧ P y w := by
  cases h with
  | cons a b =>
    cases b with
    | cons b c => cases c; exact ⟨_, _, rfl, a, b⟩
theorem paired3 {α β : Type} {P : α → β → Prop} {x y z : α} {us : List β} (h : Paired P [x, y, z] us) : ∃ u w t, us = [u, w, t] ∧ P x u ∧ P y w ∧ P z t := by
  cases h with
  | cons a b =>
    cases b with
    | cons b c =>
      cases c with
      | cons c d => cases d; exact ⟨_, _, _, rfl, a, b, c⟩
section
variable {X : Cx}
theorem cj_len : CallR X (.builtin "len") (rJn X.mg opLen) := by
  refine CallR.imp (call_len_seq.or (call_len_str.or call_lenD)) fun us H Q ⟨F, os, o, hf, ps, e, k⟩ => ?_
  unfold opLen at e
  split at e <;> first | (cases e; done) | skip
  · cases e
    obtain ⟨u, rfl, b⟩ := paired1 ps
    obtain ⟨a, vs, rfl, q, d⟩ := b.lst hf rfl
    exact .inl ⟨a, vs, rfl, .inl (SqL.of q), by rw [d.length]; exact k _ _ (New.int hf)⟩
  · cases e
    obtain ⟨u, rfl, b⟩ := paired1 ps
    obtain ⟨a, vs, rfl, q, d⟩ := b.lst hf rfl
    exact .inl ⟨a, vs, rfl, .inl (SqL.of q), by rw [d.length]; exact k _ _ (New.int hf)⟩
  · cases e
    obtain ⟨u, rfl, b⟩ := paired1 ps
    obtain ⟨a, vs, rfl, q, d⟩ := FDen.tupT (K := X.K) b.fz (xs := _) rfl
    exact .inl ⟨a, vs, rfl, .inr (SqT.sameS hf q), by rw [d.length]; exact k _ _ (New.int hf)⟩
  · cases e
    obtain ⟨u, rfl, b⟩ := paired1 ps
    obtain ⟨a, vs, rfl, q, d⟩ := FDen.tupT (K := X.K) b.fz (xs := _) rfl
    exact .inl ⟨a, vs, rfl, .inr (SqT.sameS hf q), by rw [d.length]; exact k _ _ (New.int hf)⟩
  · split at e
    · rename_i hz
      cases e
      obtain ⟨u, rfl, b⟩ := paired1 ps
      exact .inr (.inl ⟨_, by rw [b.str], by rw [big_eq]; exact hz, k _ _ (New.int hf)⟩)
    · cases e
  · cases e
    obtain ⟨u, rfl, A, ⟨a, vs, L', rfl, d, q⟩, c⟩ := paired1 ps
    subst q
    exact .inl ⟨a, vs, rfl, .inl (SqL.of (c _ List.mem_cons_self)), by rw [d.length]; exact k _ _ (New.int hf)⟩
  · cases e
    obtain ⟨u, rfl, A, ⟨a, vs, rfl, q, d⟩, c⟩ := paired1 ps
    exact .inl ⟨a, vs, rfl, .inr (SqT.of (hf _ _ q)), by rw [d.length]; exact k _ _ (New.int hf)⟩
  · cases e
    obtain ⟨u, rfl, A, ⟨a, vs, rfl, d, q⟩, c⟩ := paired1 ps
    subst q
    exact .inr (.inr ⟨a, vs, rfl, c _ List.mem_cons_self, by rw [d.length]; exact k _ _ (New.int hf)⟩)
  · cases e
    obtain ⟨u, rfl, b⟩ := paired1 ps
    obtain ⟨a, vs, rfl, q, d⟩ := b.fz
    exact .inr (.inr ⟨a, vs, rfl, hf _ _ q, by rw [d.length]; exact k _ _ (New.int hf)⟩)
  · cases e
    rename_i xs
    obtain ⟨u, rfl, b⟩ := paired1 ps
    obtain ⟨a, rfl, q⟩ := b.fz
    refine .inl ⟨a, xs.map V.int, rfl, .inl (.inl (q.elim (fun q => .inl (hf _ _ q)) fun ⟨o, q⟩ => .inr ⟨o, hf _ _ q⟩)), ?_⟩
    rw [List.length_map]
    exact k _ _ (New.int hf)
end
/-- list(x) of a list, a tuple, a text -/
def FV.seq? : FV → Option (List FV)
  | .lst xs => some xs
  | .tup xs => some xs
  | .tuz xs => some xs
  | _ => none
def OV.seq? : OV → Option (List FV)
  | .ol xs => some xs
  | .fz x => x.seq?
  | _ => none
def opList : List OV → Option OV
  | [.fz (.str z)] => if z.length ≤ BIG then some (.ol (z.cps.toList.map fun c => .str ⟨#[c]⟩)) else none
  | [x] => x.seq?.map .ol
  | _ => none
def opTup : List OV → Option OV
  | [.fz (.str z)] => if z.length ≤ BIG then some (.fz (.tup (z.cps.toList.map fun c => .str ⟨#[c]⟩))) else none
  | [x] => x.lst?.map fun xs => .fz (.tup xs)
  | _ => none
/-- the same, the new tuple known to the object -/
def opTupZ : List OV → Option OV
  | [x] => x.lst?.map fun xs => .fz (.tuz xs)
  | _ => none
theorem Bor.seq {M : Str → Option Value} {K : PySem.W.Frag} {F H : Hp} {x : OV} {u : V} {xs : List FV} (hf : Same F H) (b : Bor M F H x u) (e : x.seq? = some xs) : ∃ a vs, u = .ref a ∧ (SqL K H a vs ∨ SqT K H a vs) ∧ FDenL M F xs vs := by
  unfold OV.seq? at e
  split at e
  · cases e
    obtain ⟨a, vs, rfl, q, d⟩ := b.lst hf rfl
    exact ⟨a, vs, rfl, .inl (SqL.of q), d⟩
  · rename_i x
    unfold FV.seq? at e
    split at e
    · cases e
      obtain ⟨a, vs, rfl, q, d⟩ := b.lst hf rfl
      exact ⟨a, vs, rfl, .inl (SqL.of q), d⟩
    · cases e
      obtain ⟨a, vs, rfl, q, d⟩ := FDen.tupT (K := K) b.fz (xs := _) rfl
      exact ⟨a, vs, rfl, .inr (SqT.sameS hf q), d⟩
    · cases e
      obtain ⟨a, vs, rfl, q, d⟩ := FDen.tupT (K := K) b.fz (xs := _) rfl
      exact ⟨a, vs, rfl, .inr (SqT.sameS hf q), d⟩
    · cases e
  · cases e
theorem signs_vals {z : Str} {acc : Array Value} (h : ItemsOf (SignAt z) acc z.cps.size) : Vals (z.cps.toList.map fun c => V.str ⟨#[c]⟩) acc.toList := by
  obtain ⟨h1, h2⟩ := h
  have key : ∀ (cs : List Nat) (us : List Value), us.length = cs.length → (∀ (i : Nat) (u : Value), us[i]? = some u → ∃ c t, cs[i]? = some c ∧ u = Value.str ⟨#[c]⟩ t) → Vals (cs.map fun c => V.str ⟨#[c]⟩) us := by
    intro cs
    induction cs with
    | nil =>
      intro us hl _
      obtain rfl : us = [] := List.eq_nil_of_length_eq_zero (by simpa using hl)
      exact .nil
    | cons c cs ih =>
      intro us hl h
      cases us with
      | nil => simp at hl
      | cons u us =>
        obtain ⟨c', t, e1, e2⟩ := h 0 u rfl
        have e1' : c = c' := by simpa using e1
        subst e1'
        exact .cons ⟨t, e2⟩ (ih us (by simpa using hl) fun i u e => h (i + 1) u (by simpa using e))
  refine key _ _ (by simpa using h1) fun i u e => ?_
  obtain ⟨c, t, e1, e2⟩ := h2 i u (by rw [← Array.getElem?_toList]; exact e)
  exact ⟨c, t, by rw [Array.getElem?_toList]; exact e1, e2⟩
section
variable {X : Cx}
theorem call_list_txt (hc : X.calm = true) : CallR X (.type "list") (fun xs H Q => ∃ z, xs = [.str z] ∧ z.length ≤ sizeLine ∧ ∀ l, H l = none → Q (.ref l) (upd H l (.lst (z.cps.toList.map fun c => V.str ⟨#[c]⟩)))) := by
  intro pins s σ H xs us Q I r h
  obtain ⟨z, rfl, hz, q⟩ := h
  obtain ⟨u, rfl, t, rfl⟩ := vals1 r
  refine call_list_str (I.ok.hd hc) z t (fun h' tk acc c' kp e hi => ?_) hz
  refine ⟨.ref s.heap.objs.size, _, I.laid (t' := tk) kp (Nat.le_refl _) (show ObjOk X.prog X.w _ h' _ (.lst _) from ⟨?_, acc.toList, c', signs_vals hi, by rw [Array.toArray_toList]; exact e⟩), rfl, q _ (I.hok.fresh (Nat.le_refl _))⟩
  rw [List.length_map, Array.length_toList]
  exact hz
theorem call_tuple_txt (hc : X.calm = true) : CallR X (.type "tuple") (fun xs H Q => ∃ z, xs = [.str z] ∧ z.length ≤ sizeLine ∧ ∀ l, H l = none → Q (.ref l) (upd H l (.tup (z.cps.toList.map fun c => V.str ⟨#[c]⟩)))) := by
  intro pins s σ H xs us Q I r h
  obtain ⟨z, rfl, hz, q⟩ := h
  obtain ⟨u, rfl, t, rfl⟩ := vals1 r
  refine call_tuple_str (I.ok.hd hc) z t (fun h' tk acc kp hi => ?_) hz
  have I1 : Inv X pins σ H { s with heap := h', toks := tk } := I.kept kp
  refine ⟨.ref h'.objs.size, _, I1.laid (t' := tk) (fun b o e => Heap.get?_push_of_some _ e) (Nat.le_refl _) (show ObjOk X.prog X.w _ _ _ (.tup _) from ⟨?_, acc.toList, signs_vals hi, by rw [Array.toArray_toList]; exact IsTup.new _ _⟩), rfl, q _ (I1.hok.fresh (Nat.le_refl _))⟩
  rw [List.length_map, Array.length_toList]
  exact hz
theorem call_tuple_z : CallR X (.type "tuple") (fun xs H Q => ∃ p ys, xs = [.ref p] ∧ SqL X.K H p ys ∧ ∀ l o, H l = none → o.cls = .type "tuple" → o.dict = none → Q (.ref l) (upd H l (.frz o (.tup ys)))) := by
  intro pins s σ H xs us Q I r h
  obtain ⟨p, ys, rfl, hq, q⟩ := h
  obtain ⟨u, rfl, rx⟩ := vals1 r
  cases rx
  obtain ⟨its, r', pl, hz⟩ := I.list hq
  have hlen := r'.length
  refine call_tuple_list pl.isList (fun h' kp => ?_) (by simp only [List.size_toArray] <;> omega)
  have I1 : Inv X pins σ H { s with heap := h' } := I.kept (t' := s.toks) kp
  have I2 : Inv X pins σ (upd H h'.objs.size (.frz { cls := .type "tuple", data := .seq its.toArray } (.tup ys))) { s with heap := h'.push { cls := .type "tuple", data := .seq its.toArray } } :=
    I1.laid (t' := s.toks) (fun b o e => Heap.get?_push_of_some _ e) (Nat.le_refl _) (show ObjOk X.prog X.w _ _ _ (.frz _ (.tup ys)) from ⟨Heap.get?_push_size _ rfl, hz, its, r', IsTup.new _ _⟩)
  exact ⟨.ref h'.objs.size, _, I2, rfl, q _ _ (I1.hok.fresh (Nat.le_refl _)) rfl rfl⟩
theorem FDenL_signs {M : Str → Option Value} {F : Hp} (cs : List Nat) : FDenL M F (cs.map fun c => FV.str ⟨#[c]⟩) (cs.map fun c => V.str ⟨#[c]⟩) := by
  have := FDenL_strs (M := M) (F := F) (cs.map fun c => (⟨#[c]⟩ : Str))
  rw [List.map_map, List.map_map] at this
  exact this
theorem cj_list (hc : X.calm = true) : CallR X (.type "list") (rJn X.mg opList) := by
  refine CallR.imp ((call_list_txt hc).or call_list_of) fun us H Q ⟨F, os, o, hf, ps, e, k⟩ => ?_
  unfold opList at e
  split at e
  · split at e
    · rename_i hz
      cases e
      obtain ⟨u, rfl, b⟩ := paired1 ps
      exact .inl ⟨_, by rw [b.str], by rw [big_eq]; exact hz, fun p hp => k _ _ (New.lst hf hp (FDenL_signs _))⟩
    · cases e
  · obtain ⟨u, rfl, b⟩ := paired1 ps
    obtain ⟨xs, e1, e2⟩ := Option.map_eq_some_iff.mp e
    subst e2
    obtain ⟨a, vs, rfl, q, d⟩ := b.seq (K := X.K) hf e1
    exact .inr ⟨a, vs, rfl, q, fun p hp => k _ _ (New.lst hf hp d)⟩
  · cases e
theorem cj_tup (hc : X.calm = true) : CallR X (.type "tuple") (rJn X.mg opTup) := by
  refine CallR.imp ((call_tuple_txt hc).or call_tuple_of) fun us H Q ⟨F, os, o, hf, ps, e, k⟩ => ?_
  unfold opTup at e
  split at e
  · split at e
    · rename_i hz
      cases e
      obtain ⟨u, rfl, b⟩ := paired1 ps
      exact .inl ⟨_, by rw [b.str], by rw [big_eq]; exact hz, fun p hp => k _ _ (New.tup hf hp (FDenL_signs _))⟩
    · cases e
  · obtain ⟨u, rfl, b⟩ := paired1 ps
    obtain ⟨xs, e1, e2⟩ := Option.map_eq_some_iff.mp e
    subst e2
    obtain ⟨a, vs, rfl, q, d⟩ := b.lst hf e1
    exact .inr ⟨a, vs, rfl, .inl ⟨SqL.of q, fun p hp => k _ _ (New.tup hf hp d)⟩⟩
  · cases e
theorem cj_tupZ : CallR X (.type "tuple") (rJn X.mg opTupZ) := by
  refine CallR.imp call_tuple_z fun us H Q ⟨F, os, o, hf, ps, e, k⟩ => ?_
  unfold opTupZ at e
  split at e
  · obtain ⟨u, rfl, b⟩ := paired1 ps
    obtain ⟨xs, e1, e2⟩ := Option.map_eq_some_iff.mp e
    subst e2
    obtain ⟨a, vs, rfl, q, d⟩ := b.lst hf e1
    exact ⟨a, vs, rfl, SqL.of q, fun p o hp h1 h2 => k _ _ (New.ice hf hp ⟨p, vs, o, rfl, upd_same, h1, h2, d.mono (same_upd (none_of_same hf hp))⟩)⟩
  · cases e
end
def ints? : List FV → Option (List Int)
  | [] => some []
  | .int i :: xs => (ints? xs).map (i :: ·)
  | _ => none
def bools? : List FV → Option (List Bool)
  | [] => some []
  | .bl i :: xs => (bools? xs).map (i :: ·)
  | _ => none
def strs? : List FV → Option (List Str)
  | [] => some []
  | .str i :: xs => (strs? xs).map (i :: ·)
  | _ => none
section
variable {M : Str → Option Value} {F : Hp}
theorem FDenL.ints? : ∀ {xs : List FV} {vs : List V} {ns : List Int}, FDenL M F xs vs → J.ints? xs = some ns → vs = ns.map V.int
  | [], _, _, d, e => by cases e; exact d
  | x :: xs, _, _, ⟨v, ws, ev, d, r⟩, e => by
    cases x <;> first | (cases e; done) | skip
    obtain ⟨ms, e1, e2⟩ := Option.map_eq_some_iff.mp e
    subst e2
    rw [ev, show v = _ from d, FDenL.ints? r e1]
    rfl
theorem FDenL.bools? : ∀ {xs : List FV} {vs : List V} {ns : List Bool}, FDenL M F xs vs → J.bools? xs = some ns → vs = ns.map V.bl
  | [], _, _, d, e => by cases e; exact d
  | x :: xs, _, _, ⟨v, ws, ev, d, r⟩, e => by
    cases x <;> first | (cases e; done) | skip
    obtain ⟨ms, e1, e2⟩ := Option.map_eq_some_iff.mp e
    subst e2
    rw [ev, show v = _ from d, FDenL.bools? r e1]
    rfl
theorem FDenL.strs? : ∀ {xs : List FV} {vs : List V} {ns : List Str}, FDenL M F xs vs → J.strs? xs = some ns → vs = ns.map V.str
  | [], _, _, d, e => by cases e; exact d
  | x :: xs, _, _, ⟨v, ws, ev, d, r⟩, e => by
    cases x <;> first | (cases e; done) | skip
    obtain ⟨ms, e1, e2⟩ := Option.map_eq_some_iff.mp e
    subst e2
    rw [ev, show v = _ from d, FDenL.strs? r e1]
    rfl
end
def opSum : List OV → Option OV
  | [x] => (x.lst?.bind ints?).map fun ns => .fz (.int ns.sum)
  | _ => none
def opAll : List OV → Option OV
  | [x] => (x.lst?.bind bools?).map fun ns => .fz (.bl (ns.all id))
  | _ => none
def opMinL : List OV → Option OV
  | [x] => (x.lst?.bind ints?).bind fun ns => ns.min?.map fun m => .fz (.int m)
  | _ => none
def opMin2 : List OV → Option OV
  | [.fz (.int i), .fz (.int j)] => some (.fz (.int (if j < i then j else i)))
  | _ => none
def opMax2 : List OV → Option OV
  | [.fz (.int i), .fz (.int j)] => some (.fz (.int (if j > i then j else i)))
  | _ => none
def min2 (i j : Int) : Int := if j < i then j else i
def opMin3 : List OV → Option OV
  | [.fz (.int i), .fz (.int j), .fz (.int k)] => some (.fz (.int (min2 (min2 i j) k)))
  | _ => none
def opOrd : List OV → Option OV
  | [.fz (.str z)] => match z.cps.toList with
    | [c] => some (.fz (.int (c : Nat)))
    | _ => none
  | _ => none
def opStr : List OV → Option OV
  | [.fz (.int i)] => if i.natAbs.log2 < 1920 then some (.fz (.str (toString i))) else none
  | _ => none
def opInt : List OV → Option OV
  | [.fz (.int i)] => some (.fz (.int i))
  | [.fz (.bl b)] => some (.fz (.int (if b then 1 else 0)))
  | [.fz (.str z)] => if z.length ≤ 640 then (PySem.intText? z).map fun n => .fz (.int n) else none
  | _ => none
section
variable {X : Cx}
theorem cj_sum (hc : X.calm = true) : CallR X (.builtin "sum") (rJn X.mg opSum) := by
  refine CallR.imp (cr_sum hc) fun us H Q ⟨F, os, o, hf, ps, e, k⟩ => ?_
  unfold opSum at e
  split at e
  · obtain ⟨u, rfl, b⟩ := paired1 ps
    obtain ⟨ns, e1, e2⟩ := Option.map_eq_some_iff.mp e
    subst e2
    obtain ⟨xs, e3, e4⟩ := Option.bind_eq_some_iff.mp e1
    obtain ⟨a, vs, rfl, q, d⟩ := b.lst hf e3
    rw [d.ints? e4] at q
    exact ⟨a, ns, rfl, SqL.of q, k _ _ (New.int hf)⟩
  · cases e
theorem cj_all (hc : X.calm = true) : CallR X (.builtin "all") (rJn X.mg opAll) := by
  refine CallR.imp (cr_all hc) fun us H Q ⟨F, os, o, hf, ps, e, k⟩ => ?_
  unfold opAll at e
  split at e
  · obtain ⟨u, rfl, b⟩ := paired1 ps
    obtain ⟨ns, e1, e2⟩ := Option.map_eq_some_iff.mp e
    subst e2
    obtain ⟨xs, e3, e4⟩ := Option.bind_eq_some_iff.mp e1
    obtain ⟨a, vs, rfl, q, d⟩ := b.lst hf e3
    rw [d.bools? e4] at q
    exact ⟨a, ns, rfl, SqL.of q, k _ _ (New.bl hf)⟩
  · cases e
theorem min_is {ns : List Int} {m n : Int} (e : ns.min? = some m) (h1 : n ∈ ns) (h2 : ∀ y, y ∈ ns → n ≤ y) : n = m := by
  have h := List.min?_eq_some_iff.mp e
  have := h2 m h.1
  have := h.2 n h1
  omega
theorem cj_minL (hc : X.calm = true) : CallR X (.builtin "min") (rJn X.mg opMinL) := by
  refine CallR.imp (cr_min hc) fun us H Q ⟨F, os, o, hf, ps, e, k⟩ => ?_
  unfold opMinL at e
  split at e
  · obtain ⟨u, rfl, b⟩ := paired1 ps
    obtain ⟨ns, e1, e2⟩ := Option.bind_eq_some_iff.mp e
    obtain ⟨m, e5, e6⟩ := Option.map_eq_some_iff.mp e2
    subst e6
    obtain ⟨xs, e3, e4⟩ := Option.bind_eq_some_iff.mp e1
    obtain ⟨a, vs, rfl, q, d⟩ := b.lst hf e3
    rw [d.ints? e4] at q
    refine ⟨a, ns, rfl, SqL.of q, ?_, fun n h1 h2 => by rw [min_is e5 h1 h2]; exact k _ _ (New.int hf)⟩
    cases ns with
    | nil => simp at e5
    | cons _ _ => simp
  · cases e
theorem cj_min2 (hc : X.calm = true) : CallR X (.builtin "min") (rJn X.mg opMin2) := by
  refine CallR.imp (call_min2 hc) fun us H Q ⟨F, os, o, hf, ps, e, k⟩ => ?_
  unfold opMin2 at e
  split at e
  · cases e
    obtain ⟨u, w, rfl, b, b2⟩ := paired2 ps
    exact ⟨_, _, by rw [b.int, b2.int], k _ _ (New.int hf)⟩
  · cases e
theorem cj_max2 (hc : X.calm = true) : CallR X (.builtin "max") (rJn X.mg opMax2) := by
  refine CallR.imp (call_max2 hc) fun us H Q ⟨F, os, o, hf, ps, e, k⟩ => ?_
  unfold opMax2 at e
  split at e
  · cases e
    obtain ⟨u, w, rfl, b, b2⟩ := paired2 ps
    exact ⟨_, _, by rw [b.int, b2.int], k _ _ (New.int hf)⟩
  · cases e
theorem cj_min3 (hc : X.calm = true) : CallR X (.builtin "min") (rJn X.mg opMin3) := by
  refine CallR.imp (call_min3Nu hc) fun us H Q ⟨F, os, o, hf, ps, e, k⟩ => ?_
  unfold opMin3 at e
  split at e
  · cases e
    rename_i i j l
    obtain ⟨u, w, t, rfl, b, b2, b3⟩ := paired3 ps
    refine ⟨_, _, _, _, by rw [b.int, b2.int, b3.int], ?_, k _ _ (New.int hf)⟩
    have h2 : ∀ i j : Int, nuMin2 (.int i) (.int j) = some (.int (min2 i j)) := fun i j => by
      show some (if decide (j < i) = true then V.int j else V.int i) = _
      unfold min2
      by_cases h : j < i
      · simp [h]
      · simp [h]
    unfold nuMin3
    rw [h2, Option.bind_some, h2]
  · cases e
theorem cj_ord : CallR X (.builtin "ord") (rJn X.mg opOrd) := by
  refine CallR.imp call_ord fun us H Q ⟨F, os, o, hf, ps, e, k⟩ => ?_
  unfold opOrd at e
  split at e
  · rename_i z
    split at e
    · rename_i c ec
      cases e
      obtain ⟨u, rfl, b⟩ := paired1 ps
      have hz : z.cps = #[c] := Array.toList_inj.mp ec
      refine ⟨z, by rw [b.str], by show z.cps.size = 1; rw [hz]; rfl, ?_⟩
      have hg : z.cps.getD 0 0 = c := by rw [hz]; rfl
      rw [hg]
      exact k _ _ (New.int hf)
    · cases e
  · cases e
theorem cj_str : CallR X (.type "str") (rJn X.mg opStr) := by
  refine CallR.imp call_str_int fun us H Q ⟨F, os, o, hf, ps, e, k⟩ => ?_
  unfold opStr at e
  split at e
  · split at e
    · rename_i hz
      cases e
      obtain ⟨u, rfl, b⟩ := paired1 ps
      exact ⟨_, by rw [b.int], hz, k _ _ (New.str hf)⟩
    · cases e
  · cases e
theorem cj_int : CallR X (.type "int") (rJn X.mg opInt) := by
  refine CallR.imp (call_int1.or call_int_str) fun us H Q ⟨F, os, o, hf, ps, e, k⟩ => ?_
  unfold opInt at e
  split at e
  · cases e
    obtain ⟨u, rfl, b⟩ := paired1 ps
    exact .inl (.inl ⟨_, by rw [b.int], k _ _ (New.int hf)⟩)
  · cases e
    obtain ⟨u, rfl, b⟩ := paired1 ps
    exact .inl (.inr ⟨_, by rw [b.bl], k _ _ (New.int hf)⟩)
  · split at e
    · rename_i hz
      obtain ⟨u, rfl, b⟩ := paired1 ps
      obtain ⟨n, e1, e2⟩ := Option.map_eq_some_iff.mp e
      subst e2
      exact .inr ⟨_, n, by rw [b.str], e1, hz, k _ _ (New.int hf)⟩
    · cases e
  · cases e
end
end J
namespace J
open PySem PySem.Spec PyProof.Rows L2
/-! ### values without changeable frozen parts -/
mutual
def FV.pure : FV → Bool
  | .non => true
  | .bl _ => true
  | .int _ => true
  | .str _ => true
  | .tup xs => FV.pureL xs
  | .tuz xs => FV.pureL xs
  | _ => false
def FV.pureL : List FV → Bool
  | [] => true
  | x :: xs => x.pure && FV.pureL xs
end
def FV.pureK {κ : Type} : List (κ × FV) → Bool
  | [] => true
  | (_, x) :: xs => x.pure && FV.pureK xs
mutual
def OV.clean : OV → Bool
  | .fz x => x.pure
  | .ol xs => FV.pureL xs
  | .oK kvs => FV.pureK kvs
  | .oT kvs => FV.pureK kvs
  | .dl xs => OV.cleanL xs
  | .dd kvs => OV.cleanK kvs
  | .tp xs => OV.cleanL xs
  | .ob _ fs => OV.cleanA fs
def OV.cleanL : List OV → Bool
  | [] => true
  | x :: xs => x.clean && OV.cleanL xs
def OV.cleanK : List (Key × OV) → Bool
  | [] => true
  | (_, x) :: xs => x.clean && OV.cleanK xs
def OV.cleanA : List (Str × OV) → Bool
  | [] => true
  | (_, x) :: xs => x.clean && OV.cleanA xs
end
def HO.mutable : HO → Bool
  | .lst _ => true
  | .dK _ => true
  | .dT _ => true
  | .ins _ _ _ => true
  | _ => false
/-- F and all that may change of H -/
def mutG (F H : Hp) : Hp := fun a => match F a with
  | some o => some o
  | none => match H a with
    | some o => if HO.mutable o then some o else none
    | none => none
/-- F' where it is new, else F -/
def backF (F H F' : Hp) : Hp := fun a => match H a with
  | some _ => F a
  | none => F' a
section
variable {M : Str → Option Value} {F H H' F' : Hp}
theorem mutG_F (F H : Hp) : Same F (mutG F H) := fun a o e => by unfold mutG; rw [e]
theorem mutG_H (hf : Same F H) : Same (mutG F H) H := fun a o e => by
  unfold mutG at e
  split at e
  · rename_i o' e'
    cases e
    exact hf _ _ e'
  · split at e
    · split at e
      · cases e; assumption
      · cases e
    · cases e
theorem mutG_in {a : Addr} {o : HO} (e : H a = some o) (m : HO.mutable o = true) (hf : Same F H) : mutG F H a = some o := by
  unfold mutG
  split
  · rename_i o' e'
    rw [hf _ _ e'] at e
    exact e
  · rw [e]
    simp [m]
theorem mutG_of {a : Addr} {o : HO} (e : mutG F H a = some o) (m : HO.mutable o = false) : F a = some o := by
  unfold mutG at e
  split at e
  · rename_i o' e'
    cases e
    exact e'
  · split at e
    · split at e
      · rename_i h
        cases e
        rw [m] at h
        cases h
      · cases e
    · cases e
theorem backF_in {a : Addr} {o : HO} (fn : ∀ a u, F' a = some u → mutG F H a = some u ∨ H a = none) (e : F' a = some o) (m : HO.mutable o = false) : backF F H F' a = some o := by
  unfold backF
  cases h : H a with
  | none => exact e
  | some z =>
    rcases fn a o e with q | q
    · exact mutG_of q m
    · rw [h] at q; cases q
mutual
theorem FDen.pure (k : ∀ a o, F' a = some o → HO.mutable o = false → F a = some o) : ∀ {x : FV} {v : V}, x.pure = true → FDen M F' x v → FDen M F x v
  | .non, _, _, d => d
  | .bl _, _, _, d => d
  | .int _, _, _, d => d
  | .str _, _, _, d => d
  | .tup xs, _, p, ⟨a, vs, e, q, r⟩ => ⟨a, vs, e, k _ _ q rfl, FDenL.pure k (by simpa [FV.pure] using p) r⟩
  | .tuz xs, _, p, ⟨a, vs, o, e, q, q1, q2, r⟩ => ⟨a, vs, o, e, k _ _ q rfl, q1, q2, FDenL.pure k (by simpa [FV.pure] using p) r⟩
  | .lst _, _, p, _ => by simp [FV.pure] at p
  | .dK _, _, p, _ => by simp [FV.pure] at p
  | .dT _, _, p, _ => by simp [FV.pure] at p
  | .ins _ _, _, p, _ => by simp [FV.pure] at p
  | .exc _, _, p, _ => by simp [FV.pure] at p
  | .scr _, _, p, _ => by simp [FV.pure] at p
theorem FDenL.pure (k : ∀ a o, F' a = some o → HO.mutable o = false → F a = some o) : ∀ {xs : List FV} {vs : List V}, FV.pureL xs = true → FDenL M F' xs vs → FDenL M F xs vs
  | [], _, _, d => d
  | x :: xs, _, p, ⟨v, ws, e, d, r⟩ => by
    simp only [FV.pureL, Bool.and_eq_true] at p
    exact ⟨v, ws, e, FDen.pure k p.1 d, FDenL.pure k p.2 r⟩
end
theorem FDenK.pure (k : ∀ a o, F' a = some o → HO.mutable o = false → F a = some o) : ∀ {xs : List (Key × FV)} {vs : List (Key × V)}, FV.pureK xs = true → FDenK M F' xs vs → FDenK M F xs vs
  | [], _, _, d => d
  | (_, x) :: xs, _, p, ⟨v, ws, e, d, r⟩ => by
    simp only [FV.pureK, Bool.and_eq_true] at p
    exact ⟨v, ws, e, FDen.pure k p.1 d, FDenK.pure k p.2 r⟩
theorem FDenT.pure (k : ∀ a o, F' a = some o → HO.mutable o = false → F a = some o) : ∀ {xs : List (List Key × FV)} {vs : List (List Key × V)}, FV.pureK xs = true → FDenT M F' xs vs → FDenT M F xs vs
  | [], _, _, d => d
  | (_, x) :: xs, _, p, ⟨v, ws, e, d, r⟩ => by
    simp only [FV.pureK, Bool.and_eq_true] at p
    exact ⟨v, ws, e, FDen.pure k p.1 d, FDenT.pure k p.2 r⟩
mutual
theorem Own.clean (k : ∀ a o, F' a = some o → HO.mutable o = false → F a = some o) : ∀ {x : OV} {v : V} {L : Cells}, x.clean = true → Own M F' x v L → Own M F x v L
  | .fz _, _, _, p, ⟨d, e⟩ => ⟨d.pure k (by simpa [OV.clean] using p), e⟩
  | .ol _, _, _, p, ⟨a, vs, e, r, q⟩ => ⟨a, vs, e, r.pure k (by simpa [OV.clean] using p), q⟩
  | .oK _, _, _, p, ⟨a, vs, e, r, q⟩ => ⟨a, vs, e, r.pure k (by simpa [OV.clean] using p), q⟩
  | .oT _, _, _, p, ⟨a, vs, e, r, q⟩ => ⟨a, vs, e, r.pure k (by simpa [OV.clean] using p), q⟩
  | .dl _, _, _, p, ⟨a, vs, L', e, r, q⟩ => ⟨a, vs, L', e, OwnL.clean k (by simpa [OV.clean] using p) r, q⟩
  | .dd _, _, _, p, ⟨a, vs, L', e, r, q⟩ => ⟨a, vs, L', e, OwnK.clean k (by simpa [OV.clean] using p) r, q⟩
  | .tp _, _, _, p, ⟨a, vs, e, q, r⟩ => ⟨a, vs, e, k _ _ q rfl, OwnL.clean k (by simpa [OV.clean] using p) r⟩
  | .ob _ _, _, _, p, ⟨a, C, dx, ws, L', e, m, q, r, q2⟩ => ⟨a, C, dx, ws, L', e, m, k _ _ q rfl, OwnA.clean k (by simpa [OV.clean] using p) r, q2⟩
theorem OwnL.clean (k : ∀ a o, F' a = some o → HO.mutable o = false → F a = some o) : ∀ {xs : List OV} {vs : List V} {L : Cells}, OV.cleanL xs = true → OwnL M F' xs vs L → OwnL M F xs vs L
  | [], _, _, _, d => d
  | _ :: _, _, _, p, ⟨v, ws, A, B, e, d, r, q⟩ => by
    simp only [OV.cleanL, Bool.and_eq_true] at p
    exact ⟨v, ws, A, B, e, Own.clean k p.1 d, OwnL.clean k p.2 r, q⟩
theorem OwnK.clean (k : ∀ a o, F' a = some o → HO.mutable o = false → F a = some o) : ∀ {xs : List (Key × OV)} {vs : List (Key × V)} {L : Cells}, OV.cleanK xs = true → OwnK M F' xs vs L → OwnK M F xs vs L
  | [], _, _, _, d => d
  | (_, _) :: _, _, _, p, ⟨v, ws, A, B, e, d, r, q⟩ => by
    simp only [OV.cleanK, Bool.and_eq_true] at p
    exact ⟨v, ws, A, B, e, Own.clean k p.1 d, OwnK.clean k p.2 r, q⟩
theorem OwnA.clean (k : ∀ a o, F' a = some o → HO.mutable o = false → F a = some o) : ∀ {xs : List (Str × OV)} {vs : List (Str × V)} {L : Cells}, OV.cleanA xs = true → OwnA M F' xs vs L → OwnA M F xs vs L
  | [], _, _, _, d => d
  | (_, _) :: _, _, _, p, ⟨v, ws, A, B, e, d, r, q⟩ => by
    simp only [OV.cleanA, Bool.and_eq_true] at p
    exact ⟨v, ws, A, B, e, Own.clean k p.1 d, OwnA.clean k p.2 r, q⟩
end
theorem New.clean {o : OV} {v : V} (hf : Same F H) (n : New M (mutG F H) H H' o v) (p : o.clean = true) : New M F H H' o v := by
  obtain ⟨F', L, ff, fn, fh, hh, ow, gd⟩ := n
  refine ⟨backF F H F', L, fun a u e => ?_, fun a u e => ?_, fun a u e => ?_, hh, ow.clean (fun a o e m => backF_in fn e m) p, ⟨gd.nd, gd.hp, fun q hq => ?_, gd.zr⟩⟩
  · unfold backF
    rw [hf _ _ e]
    exact e
  · unfold backF at e
    cases h : H a with
    | none => exact .inr rfl
    | some z => rw [h] at e; exact .inl e
  · unfold backF at e
    cases h : H a with
    | none => rw [h] at e; exact fh _ _ e
    | some z => rw [h] at e; exact hh _ _ (hf _ _ e)
  · unfold backF
    rw [gd.zr q hq]
    exact gd.fr q hq
mutual
theorem Own.mut (hf : Same F H) : ∀ {x : OV} {v : V} {L : Cells}, Own M F x v L → (∀ p ∈ L, H p.1 = some p.2) → FDen M (mutG F H) x.fv v
  | .fz _, _, _, ⟨d, e⟩, _ => d.mono (mutG_F F H)
  | .ol _, _, _, ⟨a, vs, e, r, q⟩, c => ⟨a, vs, e, mutG_in (by subst q; exact c _ List.mem_cons_self) rfl hf, r.mono (mutG_F F H)⟩
  | .oK _, _, _, ⟨a, vs, e, r, q⟩, c => ⟨a, vs, e, mutG_in (by subst q; exact c _ List.mem_cons_self) rfl hf, r.mono (mutG_F F H)⟩
  | .oT _, _, _, ⟨a, vs, e, r, q⟩, c => ⟨a, vs, e, mutG_in (by subst q; exact c _ List.mem_cons_self) rfl hf, r.mono (mutG_F F H)⟩
  | .dl _, _, _, ⟨a, vs, L', e, r, q⟩, c => by
    subst q
    exact ⟨a, vs, e, mutG_in (c _ List.mem_cons_self) rfl hf, OwnL.mut hf r fun p hp => c p (List.mem_cons_of_mem _ hp)⟩
  | .dd _, _, _, ⟨a, vs, L', e, r, q⟩, c => by
    subst q
    exact ⟨a, vs, e, mutG_in (c _ List.mem_cons_self) rfl hf, OwnK.mut hf r fun p hp => c p (List.mem_cons_of_mem _ hp)⟩
  | .tp _, _, _, ⟨a, vs, e, q, r⟩, c => ⟨a, vs, e, mutG_F F H _ _ q, OwnL.mut hf r c⟩
  | .ob _ _, _, _, ⟨a, C, dx, ws, L', e, m, q, r, q2⟩, c => by
    subst q2
    exact ⟨a, C, dx, ws, e, m, mutG_in (c _ List.mem_cons_self) rfl hf, mutG_F F H _ _ q, OwnA.mut hf r fun p hp => c p (List.mem_cons_of_mem _ hp)⟩
theorem OwnL.mut (hf : Same F H) : ∀ {xs : List OV} {vs : List V} {L : Cells}, OwnL M F xs vs L → (∀ p ∈ L, H p.1 = some p.2) → FDenL M (mutG F H) (OV.fvL xs) vs
  | [], _, _, d, _ => d.1
  | _ :: _, _, _, ⟨v, ws, A, B, e, d, r, q⟩, c => by
    subst q
    exact ⟨v, ws, e, Own.mut hf d fun p hp => c p (List.mem_append_left _ hp), OwnL.mut hf r fun p hp => c p (List.mem_append_right _ hp)⟩
theorem OwnK.mut (hf : Same F H) : ∀ {xs : List (Key × OV)} {vs : List (Key × V)} {L : Cells}, OwnK M F xs vs L → (∀ p ∈ L, H p.1 = some p.2) → FDenK M (mutG F H) (OV.fvK xs) vs
  | [], _, _, d, _ => d.1
  | (_, _) :: _, _, _, ⟨v, ws, A, B, e, d, r, q⟩, c => by
    subst q
    exact ⟨v, ws, e, Own.mut hf d fun p hp => c p (List.mem_append_left _ hp), OwnK.mut hf r fun p hp => c p (List.mem_append_right _ hp)⟩
theorem OwnA.mut (hf : Same F H) : ∀ {xs : List (Str × OV)} {vs : List (Str × V)} {L : Cells}, OwnA M F xs vs L → (∀ p ∈ L, H p.1 = some p.2) → FDenA M (mutG F H) (OV.fvA xs) vs
  | [], _, _, d, _ => d.1
  | (_, _) :: _, _, _, ⟨v, ws, A, B, e, d, r, q⟩, c => by
    subst q
    exact ⟨v, ws, e, Own.mut hf d fun p hp => c p (List.mem_append_left _ hp), OwnA.mut hf r fun p hp => c p (List.mem_append_right _ hp)⟩
end
end
/-! ### one's own functions -/
abbrev FM := List FV → Ans OV
def spF (M : Str → Option Value) (n : Nat) (m : FM) : Sp := fun vs H Q E => ∃ G as, Same G H ∧ vs.length = n ∧ FDenL M G as vs ∧ match m as with
  | .ok o => ∀ v H', New M G H H' o v → Q v H'
  | .ex c => ∀ C H', M c = some (.ref C) → Same H H' → E (.ref C) none H'
  | .no => False
def Rv.isFz (r : Rv) : Bool := match r.ov with
  | .fz _ => true
  | _ => false
def dCall (m : FM) (g : VEnv → Ans (List Rv)) : DE := fun env => (g env).bind fun rs => (m (rs.map Rv.fv)).bind fun o => if rs.all Rv.isFz || o.clean then .ok (.st o) else .no
/-- a temporary frozen -/
def dFrz (f : DE) : DE := fun env => (f env).bind fun r => match r with
  | .st o => .ok (.st (.fz o.fv))
  | .bo o => .ok (.bo o)
theorem zip_den {M : Str → Option Value} {F H : Hp} (hf : Same F H) : ∀ {rs : List Rv} {vs : List V}, vs.length = rs.length → (∀ p ∈ vs.zip rs, Bor M F H p.2.ov p.1) → FDenL M (mutG F H) (rs.map Rv.fv) vs
  | [], vs, hl, _ => List.eq_nil_of_length_eq_zero hl
  | r :: rs, [], hl, _ => by simp at hl
  | r :: rs, v :: vs, hl, h => ⟨v, vs, rfl, (let ⟨A, d, c⟩ := h (v, r) (by simp); d.mut hf c), zip_den hf (by simpa using hl) fun p hp => h p (by rw [List.zip_cons_cons]; exact List.mem_cons_of_mem _ hp)⟩
theorem zip_denF {M : Str → Option Value} {F H : Hp} : ∀ {rs : List Rv} {vs : List V}, rs.all Rv.isFz = true → vs.length = rs.length → (∀ p ∈ vs.zip rs, Bor M F H p.2.ov p.1) → FDenL M F (rs.map Rv.fv) vs
  | [], vs, _, hl, _ => List.eq_nil_of_length_eq_zero hl
  | r :: rs, [], _, hl, _ => by simp at hl
  | r :: rs, v :: vs, ha, hl, h => by
    rw [List.all_cons, Bool.and_eq_true] at ha
    refine ⟨v, vs, rfl, ?_, zip_denF ha.2 (by simpa using hl) fun p hp => h p (by rw [List.zip_cons_cons]; exact List.mem_cons_of_mem _ hp)⟩
    have hb := h (v, r) (by simp)
    have h1 := ha.1
    unfold Rv.isFz at h1
    split at h1
    · rename_i x e
      rw [show (v, r).2.ov = r.ov from rfl, e] at hb
      show FDen M F r.ov.fv v
      rw [e]
      exact hb.fz
    · cases h1
def DL (g : VEnv → Ans (List Rv)) (n : Nat) : Prop := ∀ env rs, g env = .ok rs → rs.length = n
theorem dl_nil : DL dNil 0 := fun env rs h => by cases h; rfl
theorem dl_cons {f : DE} {g : VEnv → Ans (List Rv)} {n : Nat} (h : DL g n) : DL (dCons f g) (n + 1) := fun env rs e => by
  unfold dCons at e
  cases e1 : f env with
  | ok r =>
    rw [e1] at e
    cases e2 : g env with
    | ok rs' =>
      simp only [Ans.bind, e2] at e
      cases e
      rw [List.length_cons, h env rs' e2]
    | ex c => simp only [Ans.bind, e2] at e; cases e
    | no => simp only [Ans.bind, e2] at e; cases e
  | ex c => rw [e1] at e; cases e
  | no => rw [e1] at e; cases e
section
variable {M : Str → Option Value} {G Z H F : Hp} {σ : Sl} {env : VEnv} {T T2 : List (V × Rv)} {W : WX} {Q : VK} {C1 C2 : Cells}
theorem TmpOwn.freeze {v : V} {o : OV} {L : Cells} (t : TmpOwn M F H ((v, .st o) :: T) L) : ∃ A B, L = A ++ B ∧ Own M F o v A ∧ TmpOwn M F H T B := by
  cases t with
  | st d t => exact ⟨_, _, rfl, d, t⟩
theorem R.frz {v : V} {o : OV} (r : R M G Z H σ env ((v, .st o) :: T)) : R M G Z H σ env ((v, .st (.fz o.fv)) :: T) := by
  obtain ⟨F, C1, C2, r⟩ := r
  obtain ⟨A, B, e, d, t⟩ := r.tm.freeze
  subst e
  obtain ⟨i1, i2, i3, i4, i5, i6⟩ := r.ice (A := A) (Lr := C1 ++ B) (by rw [← List.append_assoc, ← List.append_assoc]; exact List.perm_append_comm.append_right _)
  exact ⟨updL F A, C1, B, i1, i2, i4, r.zh, r.ev.mono i3, .st (A := []) ⟨d.fden i3 i6, rfl⟩ (t.mono i3 (Same.refl _)), i5⟩
end
section
variable {X : Cx} {W : WX} {pos p : Pos} {x : Str} {e : Expr} {es : List Expr} {f : DE} {g : VEnv → Ans (List Rv)} {m : FM} {k : Nat} {fa : Addr} {fd : FuncData} {ps : List Str} {n : Nat}
theorem je_frz (h : JE X W e f) : JE X W e (dFrz f) := by
  refine PE.imp h fun σ H Q ⟨G, Z, env, T, r, p⟩ => ?_
  refine tE.bind r Sb.refl p fun x u H1 _ s1 r1 p1 => ?_
  cases x with
  | st o => exact p1 u H1 (Same.refl _) r1.frz
  | bo o => exact p1 u H1 (Same.refl _) r1
theorem call_red {vs : List V} {rs : List Rv} {G Z H : Hp} {σ : Sl} {env : VEnv} {T : List (V × Rv)} {Q : VK} (hl : vs.length = rs.length) (hn : rs.length = n) (r : R X.mg G Z H σ env (vs.zip rs ++ T))
    (p : Post X.mg W G Z σ env T Q H ((m (rs.map Rv.fv)).bind fun o => if rs.all Rv.isFz || o.clean then .ok (.st o) else .no)) : spF X.mg n m vs H Q fun cls d H => W cls d σ H := by
  obtain ⟨F, C1, C2, r⟩ := r
  have hb : ∀ p ∈ vs.zip rs, Bor X.mg F H p.2.ov p.1 := fun p hp => r.bor (List.mem_append_left _ hp)
  have hs : Sb T (vs.zip rs ++ T) := ⟨vs.zip rs, List.perm_append_comm⟩
  cases ha : rs.all Rv.isFz with
  | true =>
    refine ⟨F, rs.map Rv.fv, r.fh, by rw [hl, hn], zip_denF ha hl hb, ?_⟩
    cases em : m (rs.map Rv.fv) with
    | ok o =>
      rw [em] at p
      simp only [Ans.bind, ha, Bool.true_or, if_true] at p
      exact fun v H' nw => p v H' (let ⟨_, _, n⟩ := nw; n.hh) ((r.new nw).sb hs.both)
    | ex c =>
      rw [em] at p
      exact fun C H' mc s => p C H' mc s ((r.same s).r.sb hs)
    | no => rw [em] at p; exact p
  | false =>
    refine ⟨mutG F H, rs.map Rv.fv, mutG_H r.fh, by rw [hl, hn], zip_den r.fh hl hb, ?_⟩
    cases em : m (rs.map Rv.fv) with
    | ok o =>
      rw [em] at p
      simp only [Ans.bind, ha, Bool.false_or] at p
      split at p
      · rename_i hc
        exact fun v H' nw => p v H' (let ⟨_, _, n⟩ := nw; n.hh) ((r.new (nw.clean r.fh hc)).sb hs.both)
      · exact p.elim
    | ex c =>
      rw [em] at p
      exact fun C H' mc s => p C H' mc s ((r.same s).r.sb hs)
    | no => rw [em] at p; exact p
theorem je_call (tk : Takes X W) (F : FnOk X.prog X.w X.K X.mg X.base (L2.CX X.prog X.w) k fa fd ps (spF X.mg n m)) (hr : Room k X.A) (hm : X.mg x = some (.ref fa)) (hk : PySem.W.keepIn X.K (.ref fa) = true) (hb : Binds X.K fd ps []) (ha : JA X W (e :: es) g)
    (hl : (e :: es).length = n := by rfl) (hgl : DL g (e :: es).length := by repeat (first | exact dl_nil | refine dl_cons ?_)) (hg : Gl X x := by rfl) (hdb : (x == ("__debug__" : Str)) = false := by decide)
    (he : starEach (e :: es) X.env = (false, eval e X.env) :: starEach es X.env := by rfl) (hpl : (backTo pos (starEach es X.env)).any (·.1) = false := by rfl) : JE X W (.Call (.Name x p) (e :: es) [] pos) (dCall m g) := by
  refine PE.imp (pe_callS F hr hg hm hk hb (E := WE W) (passAt tk) ha hdb he hpl) fun σ H Q ⟨G, Z, env, T, r, p⟩ => ?_
  exact tA.bind r Sb.refl p fun rs vs H1 eg hlv s1 r1 p1 => call_red hlv (by rw [hgl env rs eg, hl]) r1 p1
end
end J
namespace J
open PySem PySem.Spec PyProof.Rows L2
/-! ### statements -/
def AllSt (T : List (V × Rv)) : Prop := ∀ p ∈ T, ∃ o, p.2 = .st o
def PostS (M : Str → Option Value) (W : WX) (G Z : Hp) (T : List (V × Rv)) (D : Ends) : Ans SO → Prop
  | .ok (.nx e) => ∀ σ' H', R M G Z H' σ' e T → D.nx σ' H'
  | .ok (.rt o e) => ∀ v σ' H', R M G Z H' σ' e ((v, .st o) :: T) → D.rt v H'
  | .ok (.bk e) => ∀ σ' H', R M G Z H' σ' e T → D.bk σ' H'
  | .ok (.ct e) => ∀ σ' H', R M G Z H' σ' e T → D.ct σ' H'
  | .ex c => ∀ C σ' H', M c = some (.ref C) → Same Z H' → W (.ref C) none σ' H'
  | .no => False
def sJ (M : Str → Option Value) (W : WX) (f : DS) : TS := fun D σ H => ∃ G Z env T, AllSt T ∧ R M G Z H σ env T ∧ PostS M W G Z T D (f env)
abbrev JS (X : Cx) (W : WX) (st : Stmt) (f : DS) : Prop := PS X st (sJ X.mg W f)
abbrev JSs (X : Cx) (W : WX) (st : List Stmt) (f : DS) : Prop := PSs X st (sJ X.mg W f)
theorem PS.imp {X : Cx} {st : Stmt} {t t' : TS} (p : PS X st t) (h : ∀ D σ H, t' D σ H → t D σ H) : PS X st t' := ⟨fun pins s σ H D I q => p.run pins s σ H D I (h D σ H q)⟩
theorem PSs.imp {X : Cx} {st : List Stmt} {t t' : TS} (p : PSs X st t) (h : ∀ D σ H, t' D σ H → t D σ H) : PSs X st t' := ⟨fun pins s σ H D I q => p.run pins s σ H D I (h D σ H q)⟩
def SO.bind (x : Ans SO) (f : VEnv → Ans SO) : Ans SO := match x with
  | .ok (.nx e) => f e
  | x => x
def dSkip : DS := fun env => .ok (.nx env)
def dSeq (f g : DS) : DS := fun env => SO.bind (f env) g
def dExpr (f : DE) : DS := fun env => (f env).bind fun _ => .ok (.nx env)
def dSet (i : Nat) (f : DE) : DS := fun env => (f env).bind fun r => match r with
  | .st o => .ok (.nx (env.set i (some o)))
  | .bo _ => .no
def dRet (f : DE) : DS := fun env => (f env).bind fun r => match r with
  | .st o => .ok (.rt o env)
  | .bo _ => .no
/-- return x: it is given away -/
def dRetV (i : Nat) : DS := fun env => match env[i]? with
  | some (some o) => .ok (.rt o (env.set i none))
  | _ => .no
def dRetN : DS := fun env => .ok (.rt (.fz .non) env)
def dIf (c : DT) (f g : DS) : DS := fun env => (c env).bind fun b => if b then f env else g env
def dBrk : DS := fun env => .ok (.bk env)
def dCt : DS := fun env => .ok (.ct env)
/-- ahead of a statement a slot is frozen -/
def dIce (i : Nat) (f : DS) : DS := fun env => match env[i]? with
  | some (some o) => f (env.set i (some (.fz o.fv)))
  | _ => f env
section
variable {M : Str → Option Value} {G Z H F : Hp} {σ : Sl} {env : VEnv} {T T2 : List (V × Rv)} {W : WX} {C1 C2 : Cells} {D : Ends}
theorem tE.bindS {f : DE} {k : Rv → Ans SO} {Q1 : VK} (r : R M G Z H σ env T) (p : PostS M W G Z T D ((f env).bind k))
    (h : ∀ rv v H1, f env = .ok rv → Same H H1 → R M G Z H1 σ env ((v, rv) :: T) → PostS M W G Z T D (k rv) → Q1 v H1) : tE M W f σ H Q1 := by
  refine tE.then r Sb.refl (fun rv v H1 e s r => h rv v H1 e s r ?_) (fun c C H1 e m s r => ?_) fun e => ?_
  · rw [e] at p; exact p
  · rw [e] at p
    obtain ⟨_, _, _, r⟩ := r
    exact p C σ H1 m r.zh
  · rw [e] at p; exact p
theorem tT.bindS {f : DT} {k : Bool → Ans SO} {Q1 : Bool → Hp → Prop} (r : R M G Z H σ env T) (p : PostS M W G Z T D ((f env).bind k))
    (h : ∀ b H1, f env = .ok b → Same H H1 → R M G Z H1 σ env T → PostS M W G Z T D (k b) → Q1 b H1) : tT M W f σ H Q1 := by
  refine ⟨G, Z, env, T, r, ?_⟩
  cases e : f env with
  | ok b =>
    rw [e] at p
    exact fun H1 s r => h b H1 e s r p
  | ex c =>
    rw [e] at p
    exact fun C H1 m s r => let ⟨_, _, _, r⟩ := r; p C σ H1 m r.zh
  | no => rw [e] at p; exact p
theorem PostS.seq {f : DS} {g : DS} (p : PostS M W G Z T D (SO.bind (f env) g)) (hT : AllSt T) : PostS M W G Z T { D with nx := sJ M W g D } (f env) := by
  unfold SO.bind at p
  split at p
  · rename_i e e1
    rw [e1]
    exact fun σ' H' r => ⟨G, Z, e, T, hT, r, p⟩
  · rename_i x hx
    cases e : f env with
    | ok s =>
      rw [e] at p hx
      cases s with
      | nx e2 => exact absurd rfl (hx e2)
      | rt o e2 => exact p
      | bk e2 => exact p
      | ct e2 => exact p
    | ex c => rw [e] at p; exact p
    | no => rw [e] at p; exact p
end
section
variable {X : Cx} {W : WX} {pos pos' : Pos} {e : Expr} {st : Stmt} {rest a b : List Stmt} {f g : DS} {fe : DE} {c : Expr} {fc : DT}
theorem jss_nil : JSs X W [] dSkip := PSs.imp pss_nil fun D σ H ⟨G, Z, env, T, hT, r, p⟩ => p σ H r
theorem jss_cons (h1 : JS X W st f) (h2 : JSs X W rest g) : JSs X W (st :: rest) (dSeq f g) :=
  PSs.imp (pss_cons h1 h2) fun D σ H ⟨G, Z, env, T, hT, r, p⟩ => ⟨G, Z, env, T, hT, r, p.seq hT⟩
theorem jss_one (h1 : JS X W st f) : JSs X W [st] f := pss_one h1
theorem js_pass : JS X W (.Pass pos) dSkip := PS.imp ps_pass fun D σ H ⟨G, Z, env, T, hT, r, p⟩ => p σ H r
theorem js_break : JS X W (.Break pos) dBrk := PS.imp ps_break fun D σ H ⟨G, Z, env, T, hT, r, p⟩ => p σ H r
theorem js_continue : JS X W (.Continue pos) dCt := PS.imp ps_continue fun D σ H ⟨G, Z, env, T, hT, r, p⟩ => p σ H r
theorem js_doc {x j} : JS X W (.Expr (.Constant (.str x) j pos) pos') dSkip := PS.imp ps_doc fun D σ H ⟨G, Z, env, T, hT, r, p⟩ => p σ H r
theorem js_expr (he : JE X W e fe) (hs : swapsWith e none pos.line X.env = pure false := by rfl) : JS X W (.Expr e pos) (dExpr fe) :=
  PS.imp (ps_expr he hs) fun D σ H ⟨G, Z, env, T, hT, r, p⟩ => tE.bindS r p fun rv v H1 _ s r1 p1 => p1 σ H1 r1.pop
theorem js_set (i : Nat) {x : Str} (hN : X.N.Nodup) (he : JE X W e fe) (hi : X.N[i]? = some x := by rfl) (hx : Loc X.env.scope x := by first | exact .inl rfl | exact .inr rfl) (hs : swapsWith e (some (.Name x pos')) pos.line X.env = pure false := by rfl)
    (hf : X.fn x = true ∨ X.env.scope.names.lookup x = some .local := by first | exact .inl rfl | exact .inr rfl) : JS X W (.Assign [.Name x pos'] e pos) (dSet i fe) :=
  PS.imp (ps_set hN hi hx he hs hf) fun D σ H ⟨G, Z, env, T, hT, r, p⟩ => tE.bindS r p fun rv v H1 _ s r1 p1 => by
    cases rv with
    | st o => exact p1 _ _ (r1.set i)
    | bo o => exact p1.elim
theorem js_ret (he : JE X W e fe) : JS X W (.Return (some e) pos) (dRet fe) :=
  PS.imp (ps_ret he) fun D σ H ⟨G, Z, env, T, hT, r, p⟩ => tE.bindS r p fun rv v H1 _ s r1 p1 => by
    cases rv with
    | st o => exact p1 v σ H1 r1
    | bo o => exact p1.elim
theorem js_retN : JS X W (.Return none pos) dRetN := PS.imp ps_retN fun D σ H ⟨G, Z, env, T, hT, ⟨F, C1, C2, r⟩, p⟩ => p .non σ H (r.new (New.non r.fh))
/-- a value taken out of its slot -/
theorem R.take {M : Str → Option Value} {G Z H : Hp} {σ : Sl} {env : VEnv} {T : List (V × Rv)} {o : OV} {i : Nat} (r : R M G Z H σ env T) (h : env[i]? = some (some o)) : ∃ v, σ[i]? = some (some v) ∧ R M G Z H σ (env.set i none) ((v, .st o) :: T) := by
  obtain ⟨F, C1, C2, r⟩ := r
  obtain ⟨v, A, Lr, h1, h2, h3, h4, h5⟩ := r.ev.repl h
  refine ⟨v, h1, F, Lr, A ++ C2, r.gf, r.fg, r.fh, r.zh, ?_, .st h2 r.tm, r.gd.perm ?_⟩
  · have h6 := h5 (some v)
    have e : σ.set i (some v) = σ := by
      apply List.ext_getElem?
      intro j
      by_cases hj : i = j
      · subst hj
        obtain ⟨hlt, _⟩ := List.getElem?_eq_some_iff.mp h1
        rw [List.getElem?_set_self hlt, h1]
      · rw [List.getElem?_set_ne hj]
    rw [e] at h6
    exact h6
  · refine (h3.append_right C2).trans ?_
    rw [← List.append_assoc]
    exact List.perm_append_comm.append_right _
theorem js_retV (i : Nat) {x : Str} (hN : X.N[i]? = some x := by rfl) (hv : Vis X.env.scope x := by first | exact Or.inl rfl | exact Or.inr (Or.inl rfl) | exact Or.inr (Or.inr rfl)) (hd : (x == ("__debug__" : Str)) = false := by decide)
    (hcd : (x == ("__classdict__" : Str)) = false := by decide) : JS X W (.Return (some (.Name x pos')) pos) (dRetV i) := by
  refine PS.imp (ps_ret (pe_var hN hv hd hcd)) fun D σ H ⟨G, Z, env, T, hT, r, p⟩ => ?_
  have hp : PostS X.mg W G Z T D (dRetV i env) := p
  unfold dRetV at hp
  split at hp
  · rename_i o e
    obtain ⟨v, h1, r1⟩ := r.take e
    exact ⟨v, h1, hp v σ H r1⟩
  · exact hp.elim
theorem js_if (hc : JT X W c fc) (ha : JSs X W a f) (hb : JSs X W b g) : JS X W (.If c a b pos) (dIf fc f g) := by
  refine PS.imp (ps_if hc ha hb) fun D σ H ⟨G, Z, env, T, hT, r, p⟩ => tT.bindS r p fun b H1 _ s r1 p1 => ?_
  cases b with
  | true =>
    rw [if_pos rfl] at p1 ⊢
    exact ⟨G, Z, env, T, hT, r1, p1⟩
  | false =>
    rw [if_neg Bool.false_ne_true] at p1 ⊢
    exact ⟨G, Z, env, T, hT, r1, p1⟩
theorem js_ice (i : Nat) (h : JS X W st f) : JS X W st (dIce i f) := by
  refine PS.imp h fun D σ H ⟨G, Z, env, T, hT, r, p⟩ => ?_
  have hp : PostS X.mg W G Z T D (dIce i f env) := p
  unfold dIce at hp
  split at hp
  · rename_i o e
    exact ⟨G, Z, _, T, hT, r.freeze e, hp⟩
  · exact ⟨G, Z, env, T, hT, r, hp⟩
end
/-! ### a function's body -/
def startE (n : Nat) (as : List FV) : VEnv := as.map (fun x => some (.fz x)) ++ List.replicate (n - as.length) none
def runF (n : Nat) (f : DS) : FM := fun as => match f (startE n as) with
  | .ok (.nx _) => .ok (.fz .non)
  | .ok (.rt o _) => .ok o
  | .ex c => .ex c
  | _ => .no
theorem env_none {M : Str → Option Value} {F : Hp} : ∀ (σ : Sl) , EnvOwn M F σ (List.replicate σ.length none) []
  | [] => .nil
  | s :: σ => .skip (env_none σ)
theorem env_start {M : Str → Option Value} {F : Hp} (σ2 : Sl) : ∀ {as : List FV} {vs : List V}, FDenL M F as vs → EnvOwn M F (vs.map some ++ σ2) (as.map (fun x => some (.fz x)) ++ List.replicate σ2.length none) []
  | [], vs, d => by rw [show vs = [] from d]; exact env_none σ2
  | a :: as, _, ⟨v, ws, e, d, r⟩ => by
    rw [e]
    exact .cons (A := []) (B := []) ⟨d, rfl⟩ (env_start σ2 r)
theorem r_start {M : Str → Option Value} {G H : Hp} {as : List FV} {vs : List V} {N : List Str} (hg : Same G H) (d : FDenL M G as vs) : R M G H H (L2.start N vs) (startE N.length as) [] := by
  refine ⟨G, [], [], Same.refl _, fun a o e => .inl e, hg, Same.refl _, ?_, .nil, Good.nil⟩
  unfold L2.start startE
  rw [d.length]
  have := env_start (M := M) (F := G) (List.replicate (N.length - as.length) none) d
  rw [List.length_replicate] at this
  exact this
section
variable {P : Program} {w : World} {K : PySem.W.Frag} {mg : Str → Option Value} {base : Heap}
theorem run_post {M : Str → Option Value} {G H : Hp} {as : List FV} {n : Nat} {f : DS} {Q : VK} {E : XK}
    (p : match runF n f as with | .ok o => ∀ v H', New M G H H' o v → Q v H' | .ex c => ∀ C H', M c = some (.ref C) → Same H H' → E (.ref C) none H' | .no => False) :
    PostS M (fun cls d _ H => E cls d H) G H [] { nx := fun _ H' => Q .non H', rt := Q } (f (startE n as)) := by
  have key : ∀ {o : OV} {v : V} {σ' : Sl} {e : VEnv} {H' : Hp}, R M G H H' σ' e [(v, .st o)] → New M G H H' o v := by
    intro o v σ' e H' ⟨F, C1, C2, r⟩
    obtain ⟨A, B, e1, d, t⟩ := r.tm.freeze
    cases t
    rw [List.append_nil] at e1
    subst e1
    have g := r.gd.right
    exact ⟨F, C2, r.gf, r.fg, r.fh, r.zh, d, ⟨g.nd, g.hp, g.fr, g.zr⟩⟩
  unfold runF at p
  cases e : f (startE n as) with
  | ok s =>
    rw [e] at p
    cases s with
    | nx e2 =>
      intro σ' H' ⟨F, C1, C2, r⟩
      exact p .non H' (key (r.new (New.non r.fh)))
    | rt o e2 => exact fun v σ' H' r => p v H' (key r)
    | bk e2 => exact p.elim
    | ct e2 => exact p.elim
  | ex c =>
    rw [e] at p
    exact fun C σ' H' m s => p C H' m s
  | no => rw [e] at p; exact p
theorem ok_of {x qual : Str} {st : Stmt} {f : Addr} {fd : FuncData} {N ps : List Str} {k : Nat} {fD : DS} (F : Fun K x qual st f fd) (S : FnScope N ps (defScope st))
    (hb : ∀ (cdv : Value) (A : Around) (outer : List PySem.Env) (s : Shared) (H : Hp) (E : XK), Room k (A.deeper (envOfC qual (defScope st) s.heap.objs.size f cdv)) →
      Takes (cxOf (L2.CX P w) P w K mg base N qual (defScope st) f cdv A outer s H E) (fun cls d _ H => E cls d H) →
      PassesOwn (model P w) (A.deeper (envOfC qual (defScope st) s.heap.objs.size f cdv)) (envOfC qual (defScope st) s.heap.objs.size f cdv) (cxOf (L2.CX P w) P w K mg base N qual (defScope st) f cdv A outer s H E).xe →
      JSs (cxOf (L2.CX P w) P w K mg base N qual (defScope st) f cdv A outer s H E) (fun cls d _ H => E cls d H) (defBody st) fD) :
    FnOk P w K mg base (L2.CX P w) (k + 1) f fd ps (spF mg ps.length (runF N.length fD)) := by
  refine F.okX S (fun vs H Q E ⟨G, as, h1, h2, _⟩ => h2) fun cdv A outer s H vs Q E hr ⟨G, as, h1, h2, h3, p⟩ => ?_
  exact ⟨_, hb cdv A outer s H E hr (takes_of rfl rfl rfl rfl) (passes_of rfl), G, H, _, [], (fun _ h => nomatch h), r_start h1 h3, run_post p⟩
end
end J
namespace J
open PySem PySem.Spec PyProof.Rows L2 RZ
/-! ### what is walked -/
def WalkJ (M : Str → Option Value) (J : It) (kept : List (V × Rv)) (items : List FV) : Prop :=
  ∀ F H i, Same F H → (∀ p ∈ kept, Bor M F H p.2.ov p.1) → (∀ x, items[i]? = some x → J.go i H ∧ ∀ v H', J.yld i H v H' → New M F H H' (.fz x) v) ∧ (items.length ≤ i → J.stop i H)
def PostI (M : Str → Option Value) (W : WX) (G Z : Hp) (σ : Sl) (env : VEnv) (T : List (V × Rv)) (Q : It → Hp → Prop) (H : Hp) : Ans (List FV) → Prop
  | .ok items => ∀ J H' kept, AllSt kept → Same H H' → R M G Z H' σ env (kept ++ T) → WalkJ M J kept items → Q J H'
  | .ex c => ∀ C H', M c = some (.ref C) → Same H H' → R M G Z H' σ env T → W (.ref C) none σ H'
  | .no => False
def tI (M : Str → Option Value) (W : WX) (f : VEnv → Ans (List FV)) : TI := fun σ H Q => ∃ G Z env T, R M G Z H σ env T ∧ PostI M W G Z σ env T Q H (f env)
abbrev JI (X : Cx) (W : WX) (tg e : Expr) (f : VEnv → Ans (List FV)) : Prop := PI X tg e (tI X.mg W f)
theorem PI.imp {X : Cx} {tg e : Expr} {t t' : TI} (p : PI X tg e t) (h : ∀ σ H Q, t' σ H Q → t σ H Q) : PI X tg e t' := ⟨fun pins s σ H Q I q => p.run pins s σ H Q I (h σ H Q q)⟩
theorem PI.or {X : Cx} {tg e : Expr} {t t' : TI} (p : PI X tg e t) (p' : PI X tg e t') : PI X tg e (fun σ H Q => t σ H Q ∨ t' σ H Q) := ⟨fun pins s σ H Q I q => q.elim (p.run pins s σ H Q I) (p'.run pins s σ H Q I)⟩
section
variable {M : Str → Option Value} {G Z H F : Hp} {σ : Sl} {env : VEnv} {T T2 : List (V × Rv)} {W : WX} {C1 C2 : Cells}
theorem PostI.later {x : Ans (List FV)} {Q : It → Hp → Prop} {H1 : Hp} (p : PostI M W G Z σ env T Q H x) (h : Same H H1) : PostI M W G Z σ env T Q H1 x := by
  cases x with
  | ok r => exact fun J H' kp hk s r w => p J H' kp hk (h.trans s) r w
  | ex c => exact fun C H' m s r => p C H' m (h.trans s) r
  | no => exact p
theorem tE.bindI {f : DE} {k : Rv → Ans (List FV)} {Q1 : VK} {Q : It → Hp → Prop} (r : R M G Z H σ env T2) (hs : Sb T T2) (p : PostI M W G Z σ env T Q H ((f env).bind k))
    (h : ∀ rv v H1, f env = .ok rv → Same H H1 → R M G Z H1 σ env ((v, rv) :: T2) → PostI M W G Z σ env T Q H1 (k rv) → Q1 v H1) : tE M W f σ H Q1 := by
  refine tE.then r hs (fun rv v H1 e s r => h rv v H1 e s r ?_) (fun c C H1 e m s r => ?_) fun e => ?_
  · rw [e] at p; exact p.later s
  · rw [e] at p; exact p C H1 m s r
  · rw [e] at p; exact p
theorem tA.bindI {f : VEnv → Ans (List Rv)} {k : List Rv → Ans (List FV)} {Q1 : List V → Hp → Prop} {Q : It → Hp → Prop} (r : R M G Z H σ env T2) (hs : Sb T T2) (p : PostI M W G Z σ env T Q H ((f env).bind k))
    (h : ∀ rs vs H1, f env = .ok rs → vs.length = rs.length → Same H H1 → R M G Z H1 σ env (vs.zip rs ++ T2) → PostI M W G Z σ env T Q H1 (k rs) → Q1 vs H1) : tA M W f σ H Q1 := by
  refine ⟨G, Z, env, T2, r, ?_⟩
  cases e : f env with
  | ok rs =>
    rw [e] at p
    exact fun vs H1 hl s r => h rs vs H1 e hl s r (p.later s)
  | ex c =>
    rw [e] at p
    exact fun C H1 m s r => p C H1 m s (r.sb hs)
  | no => rw [e] at p; exact p
end
theorem walk_list {M : Str → Option Value} {K : PySem.W.Frag} {a : Addr} {o : OV} {xs : List FV} (e : o.lst? = some xs) : WalkJ M (Itl K a) [(.ref a, .st o)] xs := fun F H i hf hk => by
  obtain ⟨a', vs, ea, q, d⟩ := (hk _ (List.mem_singleton_self _)).lst hf e
  cases ea
  refine ⟨fun x hx => ?_, fun hi => ⟨vs, SqL.of q, by rw [d.length]; exact hi⟩⟩
  obtain ⟨v, h1, h2⟩ := d.get hx
  refine ⟨⟨vs, v, SqL.of q, h1⟩, fun w H' ⟨e1, e2⟩ => ?_⟩
  have e3 := e2 vs (SqL.of q)
  rw [h1] at e3
  cases e3
  rw [e1]
  exact New.old hf h2
theorem walk_tup {M : Str → Option Value} {K : PySem.W.Frag} {a : Addr} {y : FV} {xs : List FV} (e : y.tup? = some xs) : WalkJ M (Itt K a) [(.ref a, .st (.fz y))] xs := fun F H i hf hk => by
  obtain ⟨a', vs, ea, q, d⟩ := FDen.tupT (K := K) (hk _ (List.mem_singleton_self _)).fz e
  cases ea
  have q := SqT.sameS hf q
  refine ⟨fun x hx => ?_, fun hi => ⟨vs, q, by rw [d.length]; exact hi⟩⟩
  obtain ⟨v, h1, h2⟩ := d.get hx
  refine ⟨⟨vs, v, q, h1⟩, fun w H' ⟨e1, e2⟩ => ?_⟩
  have e3 := e2 vs q
  rw [h1] at e3
  cases e3
  rw [e1]
  exact New.old hf h2
theorem walk_str {M : Str → Option Value} {z : Str} {kept : List (V × Rv)} : WalkJ M (Its z) kept (z.cps.toList.map fun c => .str ⟨#[c]⟩) := fun F H i hf _ => by
  refine ⟨fun x hx => ?_, fun hi => ?_⟩
  · rw [List.getElem?_map] at hx
    obtain ⟨c, h1, h2⟩ := Option.map_eq_some_iff.mp hx
    subst h2
    rw [Array.getElem?_toList] at h1
    refine ⟨?_, fun v H' ⟨e1, c', h3, h4⟩ => ?_⟩
    · show i < z.cps.size
      exact (Array.getElem?_eq_some_iff.mp h1).1
    · rw [h1] at h3
      cases h3
      rw [e1, h4]
      exact New.str hf
  · show z.cps.size ≤ i
    rw [List.length_map, Array.length_toList] at hi
    exact hi
theorem walk_range {M : Str → Option Value} {n : Nat} {kept : List (V × Rv)} : WalkJ M (Itr 0 n) kept ((List.range n).map fun i => .int (i : Nat)) := fun F H i hf _ => by
  refine ⟨fun x hx => ?_, fun hi => ?_⟩
  · rw [List.getElem?_map] at hx
    obtain ⟨c, h1, h2⟩ := Option.map_eq_some_iff.mp hx
    subst h2
    obtain ⟨h3, h4⟩ := List.getElem?_eq_some_iff.mp h1
    rw [List.length_range] at h3
    rw [List.getElem_range] at h4
    subst h4
    refine ⟨h3, fun v H' ⟨e1, e2⟩ => ?_⟩
    rw [e1, e2, Int.zero_add]
    exact New.int hf
  · show n ≤ i
    rw [List.length_map, List.length_range] at hi
    exact hi
/-- the items of a list, a tuple, a text that stands still -/
def dItems (f : DE) : VEnv → Ans (List FV) := fun env => (f env).bind fun r => match r with
  | .st (.ol xs) => .ok xs
  | .st (.fz (.lst xs)) => .ok xs
  | .st (.fz (.tup xs)) => .ok xs
  | .st (.fz (.tuz xs)) => .ok xs
  | .st (.fz (.str z)) => .ok (z.cps.toList.map fun c => .str ⟨#[c]⟩)
  | _ => .no
def dRange (f : DE) : VEnv → Ans (List FV) := fun env => (f env).bind fun r => match r.ov with
  | .fz (.int n) => if n < 2 ^ 60 ∧ -(2 ^ 60) < n then .ok ((List.range n.toNat).map fun i => .int (i : Nat)) else .no
  | _ => .no
/-- two lists or two tuples -/
def zipF (xs ys : List FV) : List FV := (xs.zip ys).map fun p => .tup [p.1, p.2]
def dZip (f g : DE) : VEnv → Ans (List FV) := fun env => (f env).bind fun r => (g env).bind fun q => match r, q with
  | .st x, .st y => match x.lst?, y.lst? with
    | some xs, some ys => .ok (zipF xs ys)
    | _, _ => match x, y with
      | .fz a, .fz b => match a.tup?, b.tup? with
        | some xs, some ys => .ok (zipF xs ys)
        | _, _ => .no
      | _, _ => .no
  | _, _ => .no
def enumF (xs : List FV) : List FV := (xs.zipIdx).map fun p => .tup [.int (p.2 : Nat), p.1]
def dEnum (f : DE) : VEnv → Ans (List FV) := fun env => (f env).bind fun r => match r with
  | .st x => match x.lst? with
    | some xs => .ok (enumF xs)
    | _ => .no
  | _ => .no
def dRevd (f : DE) : VEnv → Ans (List FV) := fun env => (f env).bind fun r => match r with
  | .st x => match x.lst? with
    | some xs => .ok xs.reverse
    | _ => .no
  | _ => .no
theorem allst1 {v : V} {o : OV} : AllSt [(v, .st o)] := fun p hp => by rw [List.mem_singleton] at hp; subst hp; exact ⟨o, rfl⟩
theorem allst0 : AllSt [] := fun _ h => nomatch h
theorem walk_zip {M : Str → Option Value} {K : PySem.W.Frag} {a b : Addr} {x y : OV} {xs ys : List FV} (e : x.lst? = some xs) (e2 : y.lst? = some ys) : WalkJ M (Itz K a b) [(.ref b, .st y), (.ref a, .st x)] (zipF xs ys) := fun F H i hf hk => by
  obtain ⟨a', vs, ea, q, d⟩ := (hk (.ref a, .st x) (by simp)).lst hf e
  cases ea
  obtain ⟨b', ws, eb, q2, d2⟩ := (hk (.ref b, .st y) (by simp)).lst hf e2
  cases eb
  refine ⟨fun z hz => ?_, fun hi => ⟨vs, ws, SqL.of q, SqL.of q2, ?_⟩⟩
  · unfold zipF at hz
    rw [List.getElem?_map] at hz
    obtain ⟨p, h1, h2⟩ := Option.map_eq_some_iff.mp hz
    subst h2
    obtain ⟨h3, h4⟩ := List.getElem?_zip_eq_some.mp h1
    obtain ⟨v, h5, h6⟩ := d.get h3
    obtain ⟨w, h7, h8⟩ := d2.get h4
    refine ⟨⟨vs, ws, v, w, SqL.of q, SqL.of q2, h5, h7⟩, fun u H' ⟨T, v', w', e1, hT, e2, k1, k2⟩ => ?_⟩
    have k3 := k1 vs (SqL.of q)
    rw [h5] at k3
    cases k3
    have k4 := k2 ws (SqL.of q2)
    rw [h7] at k4
    cases k4
    rw [e1, e2]
    exact New.tup hf hT ⟨v, [w], rfl, h6, w, [], rfl, h8, rfl⟩
  · unfold zipF at hi
    rw [List.length_map, List.length_zip] at hi
    rw [d.length, d2.length]
    omega
theorem walk_zipT {M : Str → Option Value} {K : PySem.W.Frag} {a b : Addr} {x y : FV} {xs ys : List FV} (e : x.tup? = some xs) (e2 : y.tup? = some ys) : WalkJ M (ItzT K a b) [(.ref b, .st (.fz y)), (.ref a, .st (.fz x))] (zipF xs ys) := fun F H i hf hk => by
  obtain ⟨a', vs, ea, q, d⟩ := FDen.tupT (K := K) (hk (.ref a, .st (.fz x)) (by simp)).fz e
  cases ea
  obtain ⟨b', ws, eb, q2, d2⟩ := FDen.tupT (K := K) (hk (.ref b, .st (.fz y)) (by simp)).fz e2
  cases eb
  have q := SqT.sameS hf q
  have q2 := SqT.sameS hf q2
  refine ⟨fun z hz => ?_, fun hi => ⟨vs, ws, q, q2, ?_⟩⟩
  · unfold zipF at hz
    rw [List.getElem?_map] at hz
    obtain ⟨p, h1, h2⟩ := Option.map_eq_some_iff.mp hz
    subst h2
    obtain ⟨h3, h4⟩ := List.getElem?_zip_eq_some.mp h1
    obtain ⟨v, h5, h6⟩ := d.get h3
    obtain ⟨w, h7, h8⟩ := d2.get h4
    refine ⟨⟨vs, ws, v, w, q, q2, h5, h7⟩, fun u H' ⟨T, v', w', e1, hT, e2, k1, k2⟩ => ?_⟩
    have k3 := k1 vs q
    rw [h5] at k3
    cases k3
    have k4 := k2 ws q2
    rw [h7] at k4
    cases k4
    rw [e1, e2]
    exact New.tup hf hT ⟨v, [w], rfl, h6, w, [], rfl, h8, rfl⟩
  · unfold zipF at hi
    rw [List.length_map, List.length_zip] at hi
    rw [d.length, d2.length]
    omega
theorem walk_enum {M : Str → Option Value} {K : PySem.W.Frag} {a : Addr} {o : OV} {xs : List FV} (e : o.lst? = some xs) : WalkJ M (Ite K a) [(.ref a, .st o)] (enumF xs) := fun F H i hf hk => by
  obtain ⟨a', vs, ea, q, d⟩ := (hk _ (List.mem_singleton_self _)).lst hf e
  cases ea
  refine ⟨fun z hz => ?_, fun hi => ⟨vs, SqL.of q, ?_⟩⟩
  · unfold enumF at hz
    rw [List.getElem?_map] at hz
    obtain ⟨p, h1, h2⟩ := Option.map_eq_some_iff.mp hz
    subst h2
    rw [List.getElem?_zipIdx, Nat.zero_add] at h1
    obtain ⟨x, h3, h4⟩ := Option.map_eq_some_iff.mp h1
    subst h4
    obtain ⟨v, h5, h6⟩ := d.get h3
    refine ⟨⟨vs, v, SqL.of q, h5⟩, fun u H' ⟨T, v', e1, hT, e2, k1⟩ => ?_⟩
    have k3 := k1 vs (SqL.of q)
    rw [h5] at k3
    cases k3
    rw [e1, e2]
    exact New.tup hf hT ⟨.int _, [v], rfl, rfl, v, [], rfl, h6, rfl⟩
  · unfold enumF at hi
    rw [List.length_map, List.length_zipIdx] at hi
    rw [d.length]
    exact hi
theorem walk_rev {M : Str → Option Value} {K : PySem.W.Frag} {a : Addr} {o : OV} {xs : List FV} (e : o.lst? = some xs) : WalkJ M (Itv K a xs.length) [(.ref a, .st o)] xs.reverse := fun F H i hf hk => by
  obtain ⟨a', vs, ea, q, d⟩ := (hk _ (List.mem_singleton_self _)).lst hf e
  cases ea
  refine ⟨fun z hz => ?_, fun hi => by rw [List.length_reverse] at hi; exact hi⟩
  have hlt := (List.getElem?_eq_some_iff.mp hz).1
  rw [List.length_reverse] at hlt
  rw [List.getElem?_reverse hlt] at hz
  obtain ⟨v, h5, h6⟩ := d.get hz
  refine ⟨⟨hlt, vs, v, SqL.of q, h5⟩, fun u H' ⟨e1, k1⟩ => ?_⟩
  have k3 := k1 vs (SqL.of q)
  rw [h5] at k3
  cases k3
  rw [e1]
  exact New.old hf h6
section
variable {X : Cx} {W : WX} {pos p : Pos} {tg e e2 : Expr} {f g : DE}
theorem ji_items (he : JE X W e f) : JI X W tg e (dItems f) := by
  refine PI.imp (PI.or (pi_list he) (PI.or (pi_tup he) (pi_str he))) fun σ H Q ⟨G, Z, env, T, r, q⟩ => ?_
  have qq := q
  unfold dItems at qq
  cases ef : f env with
  | ex c =>
    refine .inl (tE.bindI r Sb.refl q fun x u H1 e1 s1 r1 p1 => ?_)
    rw [ef] at e1; cases e1
  | no => rw [ef] at qq; exact qq.elim
  | ok rv =>
    rw [ef] at qq
    simp only [Ans.bind] at qq
    split at qq
    · refine .inl (tE.bindI r Sb.refl q fun x u H1 e1 s1 r1 p1 => ?_)
      rw [ef] at e1; cases e1
      obtain ⟨F, C1, C2, r1⟩ := r1
      obtain ⟨a, vs, rfl, h1, d⟩ := (r1.bor List.mem_cons_self).lst r1.fh rfl
      exact ⟨a, rfl, ⟨vs, SqL.of h1⟩, p1 _ _ [_] allst1 (Same.refl _) r1.r (walk_list rfl)⟩
    · refine .inl (tE.bindI r Sb.refl q fun x u H1 e1 s1 r1 p1 => ?_)
      rw [ef] at e1; cases e1
      obtain ⟨F, C1, C2, r1⟩ := r1
      obtain ⟨a, vs, rfl, h1, d⟩ := (r1.bor List.mem_cons_self).lst r1.fh rfl
      exact ⟨a, rfl, ⟨vs, SqL.of h1⟩, p1 _ _ [_] allst1 (Same.refl _) r1.r (walk_list rfl)⟩
    · refine .inr (.inl (tE.bindI r Sb.refl q fun x u H1 e1 s1 r1 p1 => ?_))
      rw [ef] at e1; cases e1
      obtain ⟨F, C1, C2, r1⟩ := r1
      obtain ⟨a, vs, rfl, h1, d⟩ := FDen.tupT (K := X.K) (r1.bor List.mem_cons_self).fz rfl
      exact ⟨a, rfl, ⟨vs, SqT.sameS r1.fh h1⟩, p1 _ _ [_] allst1 (Same.refl _) r1.r (walk_tup rfl)⟩
    · refine .inr (.inl (tE.bindI r Sb.refl q fun x u H1 e1 s1 r1 p1 => ?_))
      rw [ef] at e1; cases e1
      obtain ⟨F, C1, C2, r1⟩ := r1
      obtain ⟨a, vs, rfl, h1, d⟩ := FDen.tupT (K := X.K) (r1.bor List.mem_cons_self).fz rfl
      exact ⟨a, rfl, ⟨vs, SqT.sameS r1.fh h1⟩, p1 _ _ [_] allst1 (Same.refl _) r1.r (walk_tup rfl)⟩
    · refine .inr (.inr (tE.bindI r Sb.refl q fun x u H1 e1 s1 r1 p1 => ?_))
      rw [ef] at e1; cases e1
      obtain ⟨F, C1, C2, r1⟩ := r1
      exact ⟨_, (r1.bor List.mem_cons_self).str, p1 _ _ [] allst0 (Same.refl _) r1.r.pop walk_str⟩
    · exact qq.elim
theorem ji_range (he : JE X W e f) (hm : X.mg "range" = none) (hg : Gl X "range" := by rfl) (hs : starEach [e] X.env = [(false, eval e X.env)] := by rfl) (hs2 : starEach [e] X.env = (false, eval e X.env) :: starEach [] X.env := by rfl) : JI X W tg (.Call (.Name "range" p) [e] [] pos) (dRange f) := by
  refine PI.imp (pi_range1 hg hm (pa_cons he pa_nil hs2) hs) fun σ H Q ⟨G, Z, env, T, r, q⟩ => ?_
  refine tE.bindI r Sb.refl q fun x u H1 e1 s1 ⟨F, C1, C2, r1⟩ p1 => ?_
  split at p1
  · rename_i n en
    split at p1
    · rename_i hn
      have hb : Bor X.mg F H1 x.ov u := r1.bor List.mem_cons_self
      rw [en] at hb
      exact ⟨n, by rw [hb.int], by omega, by omega, p1 _ _ [] allst0 (Same.refl _) r1.r.pop walk_range⟩
    · exact p1.elim
  · exact p1.elim
theorem ji_zip {tp : Pos} {elts : List Expr} {kk : Nat} (he : JE X W e f) (he2 : JE X W e2 g) (hm : X.mg "zip" = none) (hg : Gl X "zip" := by rfl)
    (hs : starEach [e, e2] X.env = (false, eval e X.env) :: starEach [e2] X.env := by rfl) (hs2 : starEach [e2] X.env = (false, eval e2 X.env) :: starEach [] X.env := by rfl) (hpl : (backTo pos (starEach [e2] X.env)).any (·.1) = false := by rfl) :
    JI X W (.Tuple elts kk tp) (.Call (.Name "zip" p) [e, e2] [] pos) (dZip f g) := by
  refine PI.imp (pi_zipA hg hm (pa_cons he (pa_cons he2 pa_nil hs2) hs) hs hpl) fun σ H Q ⟨G, Z, env, T, r, q⟩ => ?_
  refine tE.bindI r Sb.refl q fun x u H1 e1 s1 r1 p1 => ?_
  refine tE.bindI r1 Sb.refl.cons p1 fun y w H2 e3 s2 ⟨F, C1, C2, r2⟩ p2 => ?_
  have bx := r2.bor (List.mem_cons_of_mem _ (List.mem_cons_self (a := (u, x))))
  have by' := r2.bor (List.mem_cons_self (a := (w, y)))
  split at p2
  · rename_i x y
    split at p2
    · rename_i xs ys ex ey
      obtain ⟨a, vs, rfl, h1, d⟩ := bx.lst r2.fh ex
      obtain ⟨b, ws, rfl, h2, d2⟩ := by'.lst r2.fh ey
      refine ⟨a, b, vs, ws, rfl, .inl ⟨SqL.of h1, SqL.of h2, p2 _ _ [_, _] (fun p hp => ?_) (Same.refl _) r2.r (walk_zip ex ey)⟩⟩
      simp only [List.mem_cons, List.not_mem_nil, or_false] at hp
      rcases hp with rfl | rfl <;> exact ⟨_, rfl⟩
    · split at p2
      · split at p2
        · rename_i xs ys ex ey
          obtain ⟨a, vs, rfl, h1, d⟩ := FDen.tupT (K := X.K) bx.fz ex
          obtain ⟨b, ws, rfl, h2, d2⟩ := FDen.tupT (K := X.K) by'.fz ey
          refine ⟨a, b, vs, ws, rfl, .inr ⟨SqT.sameS r2.fh h1, SqT.sameS r2.fh h2, p2 _ _ [_, _] (fun p hp => ?_) (Same.refl _) r2.r (walk_zipT ex ey)⟩⟩
          simp only [List.mem_cons, List.not_mem_nil, or_false] at hp
          rcases hp with rfl | rfl <;> exact ⟨_, rfl⟩
        · exact p2.elim
      · exact p2.elim
  · exact p2.elim
theorem ji_enum {tp : Pos} {elts : List Expr} {kk : Nat} (he : JE X W e f) (hm : X.mg "enumerate" = none) (hg : Gl X "enumerate" := by rfl) (hs : starEach [e] X.env = [(false, eval e X.env)] := by rfl) (hs2 : starEach [e] X.env = (false, eval e X.env) :: starEach [] X.env := by rfl) :
    JI X W (.Tuple elts kk tp) (.Call (.Name "enumerate" p) [e] [] pos) (dEnum f) := by
  refine PI.imp (pi_enum hg hm (pa_cons he pa_nil hs2) hs) fun σ H Q ⟨G, Z, env, T, r, q⟩ => ?_
  refine tE.bindI r Sb.refl q fun x u H1 e1 s1 ⟨F, C1, C2, r1⟩ p1 => ?_
  have bx := r1.bor (List.mem_cons_self (a := (u, x)))
  split at p1
  · split at p1
    · rename_i xs ex
      obtain ⟨a, vs, rfl, h1, d⟩ := bx.lst r1.fh ex
      exact ⟨a, vs, rfl, SqL.of h1, p1 _ _ [_] allst1 (Same.refl _) r1.r (walk_enum ex)⟩
    · exact p1.elim
  · exact p1.elim
theorem ji_rev (he : JE X W e f) (hm : X.mg "reversed" = none) (hg : Gl X "reversed" := by rfl) (hs : starEach [e] X.env = [(false, eval e X.env)] := by rfl) (hs2 : starEach [e] X.env = (false, eval e X.env) :: starEach [] X.env := by rfl) :
    JI X W tg (.Call (.Name "reversed" p) [e] [] pos) (dRevd f) := by
  refine PI.imp (pi_reversed hg hm (pa_cons he pa_nil hs2) hs) fun σ H Q ⟨G, Z, env, T, r, q⟩ => ?_
  refine tE.bindI r Sb.refl q fun x u H1 e1 s1 ⟨F, C1, C2, r1⟩ p1 => ?_
  have bx := r1.bor (List.mem_cons_self (a := (u, x)))
  split at p1
  · split at p1
    · rename_i xs ex
      obtain ⟨a, vs, rfl, h1, d⟩ := bx.lst r1.fh ex
      refine ⟨a, vs, rfl, SqL.of h1, ?_⟩
      rw [d.length]
      exact p1 _ _ [_] allst1 (Same.refl _) r1.r (walk_rev ex)
    · exact p1.elim
  · exact p1.elim
end
end J
namespace J
open PySem PySem.Spec PyProof.Rows L2
/-! ### targets -/
/-- only the slots vs differ -/
structure Only (vs : List Nat) (σ σ' : Sl) : Prop where
  len : σ'.length = σ.length
  get : ∀ j, j ∉ vs → σ'[j]? = σ[j]?
theorem Only.refl {vs : List Nat} {σ : Sl} : Only vs σ σ := ⟨rfl, fun _ _ => rfl⟩
theorem Only.set {vs : List Nat} {σ : Sl} {i : Nat} {x : Option V} (h : i ∈ vs) : Only vs σ (σ.set i x) := ⟨by simp, fun j hj => List.getElem?_set_ne fun e => hj (by rw [← e]; exact h)⟩
theorem Only.trans {vs : List Nat} {σ σ1 σ2 : Sl} (a : Only vs σ σ1) (b : Only vs σ1 σ2) : Only vs σ σ2 := ⟨b.len.trans a.len, fun j hj => (b.get j hj).trans (a.get j hj)⟩
theorem Only.mono {vs ws : List Nat} {σ σ' : Sl} (a : Only vs σ σ') (h : ∀ i ∈ vs, i ∈ ws) : Only ws σ σ' := ⟨a.len, fun j hj => a.get j fun z => hj (h j z)⟩
theorem wipe_get {σ : Sl} {j : Nat} : ∀ {vs : List Nat}, (wipe σ vs)[j]? = if j ∈ vs ∧ j < σ.length then some none else σ[j]?
  | [] => by simp [wipe]
  | v :: vs => by
    unfold wipe
    by_cases h : v = j
    · subst h
      by_cases hl : v < σ.length
      · rw [List.getElem?_set_self (by rw [wipe_length]; exact hl), if_pos ⟨List.mem_cons_self, hl⟩]
      · rw [if_neg (fun z => hl z.2), List.getElem?_eq_none (by rw [List.length_set, wipe_length]; omega), List.getElem?_eq_none (by omega)]
    · rw [List.getElem?_set_ne h, wipe_get]
      by_cases h2 : j ∈ vs
      · simp [h2, h]
      · simp [h2, Ne.symm h]
theorem Only.wipe {vs : List Nat} {σ σ' : Sl} (a : Only vs σ σ') : wipe σ' vs = wipe σ vs := by
  apply List.ext_getElem?
  intro j
  rw [wipe_get, wipe_get, a.len]
  by_cases h : j ∈ vs
  · by_cases h2 : j < σ.length
    · simp [h, h2]
    · rw [if_neg (fun z => h2 z.2), if_neg (fun z => h2 z.2), List.getElem?_eq_none (by rw [a.len]; omega), List.getElem?_eq_none (by omega)]
  · rw [if_neg (fun z => h z.1), if_neg (fun z => h z.1), a.get j h]
abbrev TgF := FV → VEnv → Option VEnv
def gJ (M : Str → Option Value) (vs : List Nat) (t : TgF) : TG := fun v σ H Q => ∃ G Z env T x, R M G Z H σ env ((v, .st (.fz x)) :: T) ∧ match t x env with
  | some e => ∀ σ', Only vs σ σ' → R M G Z H σ' e T → Q σ' H
  | none => False
abbrev JG (X : Cx) (tg : Expr) (vs : List Nat) (t : TgF) : Prop := PG X tg (gJ X.mg vs t)
theorem PG.imp {X : Cx} {tg : Expr} {t t' : TG} (p : PG X tg t) (h : ∀ v σ H Q, t' v σ H Q → t v σ H Q) : PG X tg t' := ⟨fun pins s σ H v u Q I r q => p.run pins s σ H v u Q I r (h v σ H Q q)⟩
def tName (i : Nat) : TgF := fun x env => some (env.set i (some (.fz x)))
def tTup2 (i j : Nat) : TgF := fun x env => match x with
  | .tup [a, b] => some ((env.set i (some (.fz a))).set j (some (.fz b)))
  | _ => none
theorem tTup2_some {i j : Nat} {x : FV} {env e : VEnv} (h : tTup2 i j x env = some e) : ∃ a b, x = .tup [a, b] ∧ e = (env.set i (some (.fz a))).set j (some (.fz b)) := by
  unfold tTup2 at h
  split at h
  · cases h; exact ⟨_, _, rfl, rfl⟩
  · cases h
section
variable {X : Cx} {pos p1 p2 : Pos} {x y : Str}
theorem jg_name (i : Nat) (hN : X.N.Nodup) (hi : X.N[i]? = some x := by rfl) (hx : Loc X.env.scope x := by first | exact .inl rfl | exact .inr rfl) (hf : X.fn x = true ∨ X.env.scope.names.lookup x = some .local := by first | exact .inl rfl | exact .inr rfl) : JG X (.Name x pos) [i] (tName i) :=
  PG.imp (pg_name hN hi hx hf) fun v σ H Q ⟨G, Z, env, T, y, r, q⟩ => q _ (Only.set (by simp)) (r.set i)
theorem jg_tup2 (i j : Nat) {k : Nat} (hc : X.calm = true) (hN : X.N.Nodup) (hi : X.N[i]? = some x := by rfl) (hx : Loc X.env.scope x := by first | exact .inl rfl | exact .inr rfl) (hf : X.fn x = true ∨ X.env.scope.names.lookup x = some .local := by first | exact .inl rfl | exact .inr rfl)
    (hj : X.N[j]? = some y := by rfl) (hy : Loc X.env.scope y := by first | exact .inl rfl | exact .inr rfl) (hf2 : X.fn y = true ∨ X.env.scope.names.lookup y = some .local := by first | exact .inl rfl | exact .inr rfl)
    (hn : (assignEach [.Name x p1, .Name y p2] X.env).length = 2 := by rfl) (hst : (assignEach [.Name x p1, .Name y p2] X.env).findIdx? (·.1) = none := by rfl)
    (hs : (assignEach [.Name x p1, .Name y p2] X.env).map (·.2) = assign (.Name x p1) X.env :: (assignEach [.Name y p2] X.env).map (·.2) := by rfl)
    (hs2 : (assignEach [.Name y p2] X.env).map (·.2) = assign (.Name y p2) X.env :: (assignEach [] X.env).map (·.2) := by rfl) : JG X (.Tuple [.Name x p1, .Name y p2] k pos) [i, j] (tTup2 i j) := by
  refine PG.imp (pg_tup hc (pgs_cons (pg_name hN hi hx hf) (pgs_cons (pg_name hN hj hy hf2) pgs_nil hs2) hs) hn hst) fun v σ H Q ⟨G, Z, env, T, z, ⟨F, C1, C2, r⟩, q⟩ => ?_
  cases et : tTup2 i j z env with
  | none => rw [et] at q; exact q.elim
  | some e =>
    rw [et] at q
    obtain ⟨a, b, e1, e2⟩ := tTup2_some et
    subst e1 e2
    have hb : Bor X.mg F H (.fz (.tup [a, b])) v := r.bor List.mem_cons_self
    obtain ⟨p, vs, e, h1, u, ws, e1, d1, w, ws2, e2, d2, e3⟩ := hb.fz
    rw [show _ = [] from e3] at e2
    rw [e2] at e1
    subst e1
    refine ⟨p, _, e, SqT.of (r.fh _ _ h1), rfl, u, [w], rfl, w, [], rfl, rfl, ?_⟩
    refine q _ ((Only.set (by simp)).trans (Only.set (by simp))) ?_
    have r1 : R X.mg G Z H σ env ((w, .st (.fz b)) :: (v, .st (.fz (.tup [a, b]))) :: T) := r.new (New.old r.fh d2)
    obtain ⟨F6, D5, D6, r6⟩ := r1.pop2
    have r0 : R X.mg G Z H σ env ((u, .st (.fz a)) :: (w, .st (.fz b)) :: T) := by
      obtain ⟨F7, D7, D8, r7⟩ := r1
      have hb2 : Bor X.mg F7 H (.fz (.tup [a, b])) v := r7.bor (List.mem_cons_of_mem _ List.mem_cons_self)
      obtain ⟨p', vs', e', h1', u', ws', e1', d1', _⟩ := hb2.fz
      cases e.symm.trans e'
      have hh := r7.fh _ _ h1'
      rw [r.fh _ _ h1] at hh
      cases hh
      cases e1'
      exact (r7.new (New.old r7.fh d1')).sb (Sb.both (Sb.both Sb.refl.cons))
    exact (r0.set i).set j
end
/-! ### for -/
def loopK (k : VEnv → Ans SO) : SO → Ans SO
  | .nx e => k e
  | .ct e => k e
  | .bk e => .ok (.nx e)
  | .rt o e => .ok (.rt o e)
def forL (t : TgF) (body : DS) : List FV → VEnv → Ans SO
  | [], env => .ok (.nx env)
  | x :: xs, env => match t x env with
    | some e1 => (body e1).bind (loopK (forL t body xs))
    | none => .no
def dFor (it : VEnv → Ans (List FV)) (t : TgF) (body : DS) : DS := fun env => (it env).bind fun xs => forL t body xs env
theorem RF.kept {M : Str → Option Value} {G Z H F : Hp} {σ : Sl} {env : VEnv} {T kept : List (V × Rv)} {C1 C2 : Cells} (r : RF M G Z H F σ env (kept ++ T) C1 C2) : ∀ p ∈ kept, Bor M F H p.2.ov p.1 := fun p hp => r.bor (List.mem_append_left _ hp)
theorem AllSt.app {A B : List (V × Rv)} (a : AllSt A) (b : AllSt B) : AllSt (A ++ B) := fun p hp => (List.mem_append.mp hp).elim (a p) (b p)
theorem sb_app {A T : List (V × Rv)} : Sb T (A ++ T) := ⟨A, List.perm_append_comm⟩
section
variable {X : Cx} {W : WX} {pos : Pos} {tg iter : Expr} {body : List Stmt} {it : VEnv → Ans (List FV)} {t : TgF} {fb : DS} {vs : List Nat}
theorem js_for (hp : PassesOwn (model X.prog X.w) X.A X.env X.xe) (hc : X.calm = true) (hi : JI X W tg iter it) (hg : JG X tg vs t) (hb : JSs X W body fb) (hs : ∀ x, foldedSetIterable iter X.env x = pure x := by intro _; rfl) :
    JS X W (.For tg iter body [] pos) (dFor it t fb) := by
  refine PS.imp (ps_for hp hc hi hg hb hs) fun D σ H ⟨G, Z, env, T, hT, r, p⟩ => ?_
  refine ⟨G, Z, env, T, r, ?_⟩
  have hp := p
  unfold dFor at hp
  cases ei : it env with
  | no => rw [ei] at hp; exact hp.elim
  | ex c =>
    rw [ei] at hp
    exact fun C H' m s r' => let ⟨_, _, _, r'⟩ := r'; hp C σ H' m r'.zh
  | ok items =>
    rw [ei] at hp
    intro J H1 kept hk s1 r1 wk
    have hp : PostS X.mg W G Z T D (forL t fb items env) := hp
    refine ⟨fun i m σ H => i + m = items.length ∧ ∃ env, R X.mg G Z H σ env (kept ++ T) ∧ PostS X.mg W G Z T D (forL t fb (items.drop i) env), ⟨items.length, by omega, env, r1, by rw [List.drop_zero]; exact hp⟩, ?_⟩
    rintro i m σ H ⟨him, env, ⟨F, C1, C2, r⟩, hpost⟩
    obtain ⟨w1, w2⟩ := wk F H i r.fh r.kept
    by_cases hlt : i < items.length
    · obtain ⟨hgo, hy⟩ := w1 items[i] (List.getElem?_eq_getElem hlt)
      rw [List.drop_eq_getElem_cons hlt] at hpost
      have hpost : PostS X.mg W G Z T D (match t items[i] env with
        | some e1 => (fb e1).bind (loopK (forL t fb (items.drop (i + 1))))
        | none => .no) := hpost
      refine .inr ⟨hgo, fun σ' H' => ∃ env', R X.mg G Z H' σ' env' (kept ++ T) ∧ PostS X.mg W G Z T D (forL t fb (items.drop (i + 1)) env'), fun σ' H' ⟨env', r', p'⟩ => ⟨m - 1, by omega, by omega, env', r', p'⟩, fun v H' yl => ?_⟩
      refine ⟨G, Z, env, kept ++ T, items[i], r.new (hy v H' yl), ?_⟩
      cases et : t items[i] env with
      | none => rw [et] at hpost; exact hpost.elim
      | some e1 =>
        rw [et] at hpost
        intro σ' _ r2
        have hpost : PostS X.mg W G Z T D ((fb e1).bind (loopK (forL t fb (items.drop (i + 1))))) := hpost
        refine ⟨G, Z, e1, kept ++ T, hk.app hT, r2, ?_⟩
        cases eb : fb e1 with
        | no => rw [eb] at hpost; exact hpost.elim
        | ex c => rw [eb] at hpost; exact hpost
        | ok s =>
          rw [eb] at hpost
          cases s with
          | nx e => exact fun σ3 H3 r3 => ⟨e, r3, hpost⟩
          | ct e => exact fun σ3 H3 r3 => ⟨e, r3, hpost⟩
          | bk e => exact fun σ3 H3 r3 => hpost σ3 H3 (r3.sb sb_app)
          | rt o e => exact fun v σ3 H3 r3 => hpost v σ3 H3 (r3.sb sb_app.both)
    · refine .inl ⟨w2 (by omega), ?_⟩
      rw [List.drop_of_length_le (by omega)] at hpost
      exact hpost σ H (r.r.sb sb_app)
end
/-! ### while -/
def whileK (c : DT) (body : DS) (k : VEnv → Ans SO) : DS := fun env => (c env).bind fun b => if b then (body env).bind (loopK k) else .ok (.nx env)
def whileN (c : DT) (body : DS) : Nat → VEnv → Ans SO
  | 0, _ => .no
  | n + 1, env => whileK c body (whileN c body n) env
open Classical in
noncomputable def dWhile (c : DT) (body : DS) : DS := fun env => if h : ∃ n, whileN c body n env ≠ .no then whileN c body (Classical.choose h) env else .no
theorem whileK_mono {c : DT} {body : DS} {k k' : VEnv → Ans SO} (hk : ∀ e, k e ≠ .no → k' e = k e) {env : VEnv} (h : whileK c body k env ≠ .no) : whileK c body k' env = whileK c body k env := by
  unfold whileK at h ⊢
  cases ec : c env with
  | no => rfl
  | ex x => rfl
  | ok b =>
    rw [ec] at h
    cases b with
    | false => rfl
    | true =>
      simp only [Ans.bind, if_true] at h ⊢
      cases eb : body env with
      | no => rfl
      | ex x => rfl
      | ok s =>
        rw [eb] at h
        cases s with
        | nx e => exact hk e h
        | ct e => exact hk e h
        | bk e => rfl
        | rt o e => rfl
theorem whileN_more {c : DT} {body : DS} : ∀ {n m : Nat} {env : VEnv}, n ≤ m → whileN c body n env ≠ .no → whileN c body m env = whileN c body n env
  | 0, _, _, _, h => absurd rfl h
  | n + 1, 0, _, hl, _ => by omega
  | n + 1, m + 1, env, hl, h => whileK_mono (fun e he => whileN_more (by omega) he) h
theorem dWhile_of {c : DT} {body : DS} {n : Nat} {env : VEnv} (h : whileN c body n env ≠ .no) : dWhile c body env = whileN c body n env := by
  have hx : ∃ n, whileN c body n env ≠ .no := ⟨n, h⟩
  unfold dWhile
  rw [dif_pos hx]
  rcases Nat.le_total n (Classical.choose hx) with hl | hl
  · exact whileN_more hl h
  · exact (whileN_more hl (Classical.choose_spec hx)).symm
theorem dWhile_ex {c : DT} {body : DS} {env : VEnv} (h : dWhile c body env ≠ .no) : ∃ n, dWhile c body env = whileN c body n env := by
  unfold dWhile at h ⊢
  by_cases hx : ∃ n, whileN c body n env ≠ .no
  · rw [dif_pos hx]
    exact ⟨_, rfl⟩
  · rw [dif_neg hx] at h
    exact absurd rfl h
/-- one turn -/
theorem dWhile_eq (c : DT) (body : DS) (env : VEnv) : dWhile c body env = whileK c body (dWhile c body) env := by
  by_cases h : whileK c body (dWhile c body) env = .no
  · by_cases h2 : dWhile c body env = .no
    · rw [h, h2]
    · obtain ⟨n, hn⟩ := dWhile_ex h2
      cases n with
      | zero => exact absurd hn h2
      | succ n =>
        rw [hn] at h2
        rw [hn]
        exact (whileK_mono (k := whileN c body n) (k' := dWhile c body) (fun e he => dWhile_of he) h2).symm
  · have hn : ∃ n, whileK c body (whileN c body n) env = whileK c body (dWhile c body) env := by
      unfold whileK at h ⊢
      cases ec : c env with
      | no => exact ⟨0, rfl⟩
      | ex x => exact ⟨0, rfl⟩
      | ok b =>
        rw [ec] at h
        cases b with
        | false => exact ⟨0, rfl⟩
        | true =>
          simp only [Ans.bind, if_true] at h ⊢
          cases eb : body env with
          | no => exact ⟨0, rfl⟩
          | ex x => exact ⟨0, rfl⟩
          | ok s =>
            rw [eb] at h
            cases s with
            | nx e =>
              obtain ⟨n, hn⟩ := dWhile_ex (show dWhile c body e ≠ .no from h)
              exact ⟨n, hn.symm⟩
            | ct e =>
              obtain ⟨n, hn⟩ := dWhile_ex (show dWhile c body e ≠ .no from h)
              exact ⟨n, hn.symm⟩
            | bk e => exact ⟨0, rfl⟩
            | rt o e => exact ⟨0, rfl⟩
    obtain ⟨n, hn⟩ := hn
    rw [← hn]
    exact dWhile_of (n := n + 1) (by rw [← hn] at h; exact h)
section
variable {X : Cx} {W : WX} {pos : Pos} {c : Expr} {body : List Stmt} {fc : DT} {fb : DS}
theorem js_while (hp : PassesOwn (model X.prog X.w) X.A X.env X.xe) (hc : JT X W c fc) (hb : JSs X W body fb) : JS X W (.While c body [] pos) (dWhile fc fb) := by
  refine PS.imp (ps_while hp hc hb) fun D σ H ⟨G, Z, env, T, hT, r, p⟩ => ?_
  have hx : dWhile fc fb env ≠ .no := fun e => by rw [e] at p; exact p
  obtain ⟨n, hn⟩ := dWhile_ex hx
  rw [hn] at p
  refine ⟨fun m σ H => ∃ env, R X.mg G Z H σ env T ∧ PostS X.mg W G Z T D (whileN fc fb m env), ⟨n, env, r, p⟩, ?_⟩
  rintro m σ H ⟨env, r, p⟩
  cases m with
  | zero => exact p.elim
  | succ m =>
    have p : PostS X.mg W G Z T D ((fc env).bind fun b => if b then (fb env).bind (loopK (whileN fc fb m)) else .ok (.nx env)) := p
    refine tT.bindS r p fun b H1 _ s1 r1 p1 => ?_
    cases b with
    | false =>
      rw [if_neg Bool.false_ne_true] at p1 ⊢
      exact p1 σ H1 r1
    | true =>
      rw [if_pos rfl] at p1 ⊢
      refine ⟨fun σ' H' => ∃ env', R X.mg G Z H' σ' env' T ∧ PostS X.mg W G Z T D (whileN fc fb m env'), fun σ' H' q => ⟨m, by omega, q⟩, G, Z, env, T, hT, r1, ?_⟩
      cases eb : fb env with
      | no => rw [eb] at p1; exact p1.elim
      | ex x => rw [eb] at p1; exact p1
      | ok s =>
        rw [eb] at p1
        cases s with
        | nx e => exact fun σ3 H3 r3 => ⟨e, r3, p1⟩
        | ct e => exact fun σ3 H3 r3 => ⟨e, r3, p1⟩
        | bk e => exact fun σ3 H3 r3 => p1 σ3 H3 r3
        | rt o e => exact fun v σ3 H3 r3 => p1 v σ3 H3 r3
end
end J
namespace J
open PySem PySem.Spec PyProof.Rows L2 RZ
/-! ### what a comprehension walks: all is looked at as frozen -/
def kfz (p : V × Rv) : V × Rv := (p.1, .st (.fz p.2.fv))
def allFzE (env : VEnv) : Bool := env.all fun o => match o with
  | some (.fz _) => true
  | none => true
  | _ => false
/-- held, or looked at where some slot is one's own -/
def sbR (env : VEnv) : Rv → Bool
  | .st _ => true
  | .bo _ => !allFzE env
def PostC (M : Str → Option Value) (W : WX) (G Z : Hp) (σ : Sl) (env : VEnv) (T : List (V × Rv)) (Q : It → Hp → Prop) (H : Hp) : Ans (List FV) → Prop
  | .ok items => ∀ J H' kept, Same H H' → R M G Z H' σ env (kept ++ T) → WalkJ M J (kept.map kfz) items → (∀ p ∈ kept, sbR env p.2 = true) → Q J H'
  | .ex c => ∀ C H', M c = some (.ref C) → Same H H' → R M G Z H' σ env T → W (.ref C) none σ H'
  | .no => False
def tIC (M : Str → Option Value) (W : WX) (f : VEnv → Ans (List FV)) : TI := fun σ H Q => ∃ G Z env T, R M G Z H σ env T ∧ PostC M W G Z σ env T Q H (f env)
abbrev JC (X : Cx) (W : WX) (tg e : Expr) (f : VEnv → Ans (List FV)) : Prop := PI X tg e (tIC X.mg W f)
section
variable {M : Str → Option Value} {G Z H F : Hp} {σ : Sl} {env : VEnv} {T T2 : List (V × Rv)} {W : WX} {C1 C2 : Cells}
theorem PostC.later {x : Ans (List FV)} {Q : It → Hp → Prop} {H1 : Hp} (p : PostC M W G Z σ env T Q H x) (h : Same H H1) : PostC M W G Z σ env T Q H1 x := by
  cases x with
  | ok r => exact fun J H' kp s r w k => p J H' kp (h.trans s) r w k
  | ex c => exact fun C H' m s r => p C H' m (h.trans s) r
  | no => exact p
theorem tE.bindC {f : DE} {k : Rv → Ans (List FV)} {Q1 : VK} {Q : It → Hp → Prop} (r : R M G Z H σ env T2) (hs : Sb T T2) (p : PostC M W G Z σ env T Q H ((f env).bind k))
    (h : ∀ rv v H1, f env = .ok rv → Same H H1 → R M G Z H1 σ env ((v, rv) :: T2) → PostC M W G Z σ env T Q H1 (k rv) → Q1 v H1) : tE M W f σ H Q1 := by
  refine tE.then r hs (fun rv v H1 e s r => h rv v H1 e s r ?_) (fun c C H1 e m s r => ?_) fun e => ?_
  · rw [e] at p; exact p.later s
  · rw [e] at p; exact p C H1 m s r
  · rw [e] at p; exact p
end
def FV.items? : FV → Option (List FV)
  | .lst xs => some xs
  | .tup xs => some xs
  | .tuz xs => some xs
  | .str z => some (z.cps.toList.map fun c => .str ⟨#[c]⟩)
  | _ => none
def cItems (f : DE) : VEnv → Ans (List FV) := fun env => (f env).bind fun r => if sbR env r then Ans.of r.fv.items? else .no
def cZip (f g : DE) : VEnv → Ans (List FV) := fun env => (f env).bind fun r => (g env).bind fun q => if sbR env r && sbR env q then match r.fv.lst?, q.fv.lst? with
  | some xs, some ys => .ok (zipF xs ys)
  | _, _ => match r.fv.tup?, q.fv.tup? with
    | some xs, some ys => .ok (zipF xs ys)
    | _, _ => .no
  else .no
def cEnum (f : DE) : VEnv → Ans (List FV) := fun env => (f env).bind fun r => if sbR env r then (match r.fv.lst? with
    | some xs => .ok (enumF xs)
    | _ => .no) else .no
theorem FV.lst?_fz {x : FV} {xs : List FV} (e : x.lst? = some xs) : OV.lst? (.fz x) = some xs := by
  unfold FV.lst? at e
  split at e
  · cases e; rfl
  · cases e
section
variable {X : Cx} {W : WX} {pos p : Pos} {tg e e2 : Expr} {f g : DE}
theorem FDen.lstL {M : Str → Option Value} {F : Hp} {x : FV} {v : V} {xs : List FV} (d : FDen M F x v) (e : x.lst? = some xs) : ∃ a vs, v = .ref a ∧ F a = some (.lst vs) ∧ FDenL M F xs vs := by
  unfold FV.lst? at e
  split at e
  · cases e; exact d
  · cases e
theorem jc_items (he : JE X W e f) : JC X W tg e (cItems f) := by
  refine PI.imp (PI.or (pi_list he) (PI.or (pi_tup he) (pi_str he))) fun σ H Q ⟨G, Z, env, T, r, q⟩ => ?_
  have qq := q
  unfold cItems at qq
  cases ef : f env with
  | ex c =>
    refine .inl (tE.bindC r Sb.refl q fun x u H1 e1 s1 r1 p1 => ?_)
    rw [ef] at e1; cases e1
  | no => rw [ef] at qq; exact qq.elim
  | ok rv =>
    rw [ef] at qq
    simp only [Ans.bind] at qq
    by_cases hsb : sbR env rv = true
    rotate_left
    · rw [if_neg hsb] at qq; exact qq.elim
    rw [if_pos hsb] at qq
    have one : ∀ u : V, ∀ p ∈ [(u, rv)], sbR env p.2 = true := fun u p hp => by rw [List.mem_singleton.mp hp]; exact hsb
    cases ei : rv.fv.items? with
    | none => rw [ei] at qq; exact qq.elim
    | some items =>
      have ei' := ei
      unfold FV.items? at ei'
      split at ei'
      · rename_i xs ex
        cases ei'
        refine .inl (tE.bindC r Sb.refl q fun x u H1 e1 s1 r1 p1 => ?_)
        rw [ef] at e1; cases e1
        rw [if_pos hsb, ei] at p1
        obtain ⟨F, C1, C2, r1⟩ := r1
        have d : FDen X.mg H1 rv.fv u := (r1.bor (List.mem_cons_self (a := (u, rv)))).fden r1.fh
        rw [ex] at d
        obtain ⟨a, vs, rfl, h1, d⟩ := d
        refine ⟨a, rfl, ⟨vs, SqL.of h1⟩, p1 _ _ [(V.ref a, rv)] (Same.refl _) r1.r ?_ (one _)⟩
        show WalkJ X.mg _ [(V.ref a, .st (.fz rv.fv))] _
        rw [ex]
        exact walk_list rfl
      · rename_i xs ex
        cases ei'
        refine .inr (.inl (tE.bindC r Sb.refl q fun x u H1 e1 s1 r1 p1 => ?_))
        rw [ef] at e1; cases e1
        rw [if_pos hsb, ei] at p1
        obtain ⟨F, C1, C2, r1⟩ := r1
        have d : FDen X.mg H1 rv.fv u := (r1.bor (List.mem_cons_self (a := (u, rv)))).fden r1.fh
        rw [ex] at d
        obtain ⟨a, vs, rfl, h1, _⟩ := FDen.tupT (K := X.K) d rfl
        refine ⟨a, rfl, ⟨vs, h1⟩, p1 _ _ [(V.ref a, rv)] (Same.refl _) r1.r ?_ (one _)⟩
        show WalkJ X.mg _ [(V.ref a, .st (.fz rv.fv))] _
        rw [ex]
        exact walk_tup rfl
      · rename_i xs ex
        cases ei'
        refine .inr (.inl (tE.bindC r Sb.refl q fun x u H1 e1 s1 r1 p1 => ?_))
        rw [ef] at e1; cases e1
        rw [if_pos hsb, ei] at p1
        obtain ⟨F, C1, C2, r1⟩ := r1
        have d : FDen X.mg H1 rv.fv u := (r1.bor (List.mem_cons_self (a := (u, rv)))).fden r1.fh
        rw [ex] at d
        obtain ⟨a, vs, rfl, h1, _⟩ := FDen.tupT (K := X.K) d rfl
        refine ⟨a, rfl, ⟨vs, h1⟩, p1 _ _ [(V.ref a, rv)] (Same.refl _) r1.r ?_ (one _)⟩
        show WalkJ X.mg _ [(V.ref a, .st (.fz rv.fv))] _
        rw [ex]
        exact walk_tup rfl
      · rename_i z ex
        cases ei'
        refine .inr (.inr (tE.bindC r Sb.refl q fun x u H1 e1 s1 r1 p1 => ?_))
        rw [ef] at e1; cases e1
        rw [if_pos hsb, ei] at p1
        obtain ⟨F, C1, C2, r1⟩ := r1
        have d : FDen X.mg H1 rv.fv u := (r1.bor (List.mem_cons_self (a := (u, rv)))).fden r1.fh
        rw [ex] at d
        exact ⟨_, d, p1 _ _ [] (Same.refl _) r1.r.pop walk_str (fun _ h => nomatch h)⟩
      · cases ei'
theorem jc_range (he : JE X W e f) (hm : X.mg "range" = none) (hg : Gl X "range" := by rfl) (hs : starEach [e] X.env = [(false, eval e X.env)] := by rfl) (hs2 : starEach [e] X.env = (false, eval e X.env) :: starEach [] X.env := by rfl) : JC X W tg (.Call (.Name "range" p) [e] [] pos) (dRange f) := by
  refine PI.imp (pi_range1 hg hm (pa_cons he pa_nil hs2) hs) fun σ H Q ⟨G, Z, env, T, r, q⟩ => ?_
  refine tE.bindC r Sb.refl q fun x u H1 e1 s1 ⟨F, C1, C2, r1⟩ p1 => ?_
  split at p1
  · rename_i n en
    split at p1
    · rename_i hn
      have hb : Bor X.mg F H1 x.ov u := r1.bor List.mem_cons_self
      rw [en] at hb
      exact ⟨n, by rw [hb.int], by omega, by omega, p1 _ _ [] (Same.refl _) r1.r.pop walk_range (fun _ h => nomatch h)⟩
    · exact p1.elim
  · exact p1.elim
theorem jc_zip {tp : Pos} {elts : List Expr} {kk : Nat} (he : JE X W e f) (he2 : JE X W e2 g) (hm : X.mg "zip" = none) (hg : Gl X "zip" := by rfl)
    (hs : starEach [e, e2] X.env = (false, eval e X.env) :: starEach [e2] X.env := by rfl) (hs2 : starEach [e2] X.env = (false, eval e2 X.env) :: starEach [] X.env := by rfl) (hpl : (backTo pos (starEach [e2] X.env)).any (·.1) = false := by rfl) :
    JC X W (.Tuple elts kk tp) (.Call (.Name "zip" p) [e, e2] [] pos) (cZip f g) := by
  refine PI.imp (pi_zipA hg hm (pa_cons he (pa_cons he2 pa_nil hs2) hs) hs hpl) fun σ H Q ⟨G, Z, env, T, r, q⟩ => ?_
  refine tE.bindC r Sb.refl q fun x u H1 e1 s1 r1 p1 => ?_
  refine tE.bindC r1 Sb.refl.cons p1 fun y w H2 e3 s2 ⟨F, C1, C2, r2⟩ p2 => ?_
  have dx : FDen X.mg H2 x.fv u := (r2.bor (List.mem_cons_of_mem _ (List.mem_cons_self (a := (u, x))))).fden r2.fh
  have dy : FDen X.mg H2 y.fv w := (r2.bor (List.mem_cons_self (a := (w, y)))).fden r2.fh
  by_cases hsb : (sbR env x && sbR env y) = true
  rotate_left
  · rw [if_neg hsb] at p2; exact p2.elim
  rw [if_pos hsb] at p2
  rw [Bool.and_eq_true] at hsb
  have two : ∀ p ∈ [(w, y), (u, x)], sbR env p.2 = true := fun p hp => by
    rcases List.mem_cons.mp hp with rfl | hp
    · exact hsb.2
    · rw [List.mem_singleton.mp hp]; exact hsb.1
  split at p2
  · rename_i xs ys ex ey
    obtain ⟨a, vs, rfl, h1, d⟩ := dx.lstL ex
    obtain ⟨b, ws, rfl, h2, d2⟩ := dy.lstL ey
    exact ⟨a, b, vs, ws, rfl, .inl ⟨SqL.of h1, SqL.of h2, p2 _ _ [(.ref b, y), (.ref a, x)] (Same.refl _) r2.r (walk_zip (FV.lst?_fz ex) (FV.lst?_fz ey)) two⟩⟩
  · split at p2
    · rename_i xs ys ex ey
      obtain ⟨a, vs, rfl, h1, d⟩ := FDen.tupT (K := X.K) dx ex
      obtain ⟨b, ws, rfl, h2, d2⟩ := FDen.tupT (K := X.K) dy ey
      exact ⟨a, b, vs, ws, rfl, .inr ⟨h1, h2, p2 _ _ [(.ref b, y), (.ref a, x)] (Same.refl _) r2.r (walk_zipT ex ey) two⟩⟩
    · exact p2.elim
theorem jc_enum {tp : Pos} {elts : List Expr} {kk : Nat} (he : JE X W e f) (hm : X.mg "enumerate" = none) (hg : Gl X "enumerate" := by rfl) (hs : starEach [e] X.env = [(false, eval e X.env)] := by rfl) (hs2 : starEach [e] X.env = (false, eval e X.env) :: starEach [] X.env := by rfl) :
    JC X W (.Tuple elts kk tp) (.Call (.Name "enumerate" p) [e] [] pos) (cEnum f) := by
  refine PI.imp (pi_enum hg hm (pa_cons he pa_nil hs2) hs) fun σ H Q ⟨G, Z, env, T, r, q⟩ => ?_
  refine tE.bindC r Sb.refl q fun x u H1 e1 s1 ⟨F, C1, C2, r1⟩ p1 => ?_
  have dx : FDen X.mg H1 x.fv u := (r1.bor (List.mem_cons_self (a := (u, x)))).fden r1.fh
  by_cases hsb : sbR env x = true
  rotate_left
  · rw [if_neg hsb] at p1; exact p1.elim
  rw [if_pos hsb] at p1
  split at p1
  · rename_i xs ex
    obtain ⟨a, vs, rfl, h1, d⟩ := dx.lstL ex
    exact ⟨a, vs, rfl, SqL.of h1, p1 _ _ [(.ref a, x)] (Same.refl _) r1.r (walk_enum (FV.lst?_fz ex)) (fun p hp => by rw [List.mem_singleton.mp hp]; exact hsb)⟩
  · exact p1.elim
end
/-! ### list comprehensions -/
def wipeE (env : VEnv) : List Nat → VEnv
  | [] => env
  | v :: vs => (wipeE env vs).set v none
def frzE (env : VEnv) : VEnv := env.map fun o => o.map fun o => .fz o.fv
def Ans.nox {α : Type} : Ans α → Ans α
  | .ok a => .ok a
  | _ => .no
def dTrue : DT := fun _ => .ok true
def lcF (t : TgF) (c : DT) (e : DE) (env : VEnv) : List FV → Ans (List FV)
  | [] => .ok []
  | x :: xs => match t x env with
    | some e1 => (c e1).nox.bind fun b => if b then (e e1).nox.bind fun r => match r.fz? with
        | some y => (lcF t c e env xs).bind fun ys => .ok (y :: ys)
        | none => .no
      else lcF t c e env xs
    | none => .no
def lcD (t : TgF) (c : DT) (e : DE) (env : VEnv) : List FV → Ans (List OV)
  | [] => .ok []
  | x :: xs => match t x env with
    | some e1 => (c e1).nox.bind fun b => if b then (e e1).nox.bind fun r => match r.st? with
        | some y => (lcD t c e env xs).bind fun ys => .ok (y :: ys)
        | none => .no
      else lcD t c e env xs
    | none => .no
def dLc (it : VEnv → Ans (List FV)) (t : TgF) (c : DT) (e : DE) (vs : List Nat) : DE := fun env => (it env).bind fun items => (lcF t c e (frzE (wipeE env vs)) items).bind fun ys =>
  if decide (ys.length ≤ BIG) && (allFzE env || FV.pureL ys) then .ok (.st (.ol ys)) else .no
def dLcD (it : VEnv → Ans (List FV)) (t : TgF) (c : DT) (e : DE) (vs : List Nat) : DE := fun env => (it env).bind fun items => (lcD t c e (frzE (wipeE env vs)) items).bind fun ys =>
  if decide (ys.length ≤ BIG) && (allFzE env || OV.cleanL ys) then .ok (.st (.dl ys)) else .no
theorem fz_ol {M : Str → Option Value} {F : Hp} : ∀ {xs : List FV} {vs : List V} {L : Cells}, OwnL M F (xs.map .fz) vs L → FDenL M F xs vs ∧ L = []
  | [], _, _, h => h
  | x :: xs, _, _, ⟨v, ws, A, B, e, d, r, q⟩ => by
    obtain ⟨h1, h2⟩ := fz_ol r
    rw [q, d.2, h2]
    exact ⟨⟨v, ws, e, d.1, h1⟩, rfl⟩
theorem own_dl_ol {M : Str → Option Value} {F : Hp} {xs : List FV} {v : V} {L : Cells} (h : Own M F (.dl (xs.map .fz)) v L) : Own M F (.ol xs) v L := by
  obtain ⟨a, vs, L', e, r, q⟩ := h
  obtain ⟨h1, h2⟩ := fz_ol r
  rw [q, h2]
  exact ⟨a, vs, e, h1, rfl⟩
theorem own_ol_dl {M : Str → Option Value} {F : Hp} {xs : List FV} {v : V} {L : Cells} (h : Own M F (.ol xs) v L) : Own M F (.dl (xs.map .fz)) v L := by
  obtain ⟨a, vs, e, r, q⟩ := h
  have key : ∀ {xs : List FV} {vs : List V}, FDenL M F xs vs → OwnL M F (xs.map .fz) vs [] := by
    intro xs
    induction xs with
    | nil => intro vs h; exact ⟨h, rfl⟩
    | cons x xs ih => intro vs ⟨v, ws, e, d, r⟩; exact ⟨v, ws, [], [], e, ⟨d, rfl⟩, ih r, rfl⟩
  exact ⟨a, vs, [], e, key r, q⟩
theorem lcF_D {t : TgF} {c : DT} {e : DE} {env : VEnv} : ∀ {items ys : List FV}, lcF t c e env items = .ok ys → lcD t c e env items = .ok (ys.map .fz)
  | [], ys, h => by cases h; rfl
  | x :: xs, ys, h => by
    unfold lcF at h
    unfold lcD
    cases et : t x env with
    | none => rw [et] at h; cases h
    | some e1 =>
      rw [et] at h
      simp only at h ⊢
      cases ec : (c e1).nox with
      | no => rw [ec] at h; cases h
      | ex z => rw [ec] at h; cases h
      | ok b =>
        rw [ec] at h
        cases b with
        | false =>
          simp only [Ans.bind, Bool.false_eq_true, if_false] at h ⊢
          exact lcF_D h
        | true =>
          simp only [Ans.bind, if_true] at h ⊢
          cases ee : (e e1).nox with
          | no => rw [ee] at h; cases h
          | ex z => rw [ee] at h; cases h
          | ok r =>
            rw [ee] at h
            simp only at h ⊢
            cases ef : r.fz? with
            | none => rw [ef] at h; cases h
            | some y =>
              rw [ef] at h
              have hs : r.st? = some (.fz y) := by
                unfold Rv.fz? at ef
                split at ef
                · cases ef; rfl
                · cases ef
              rw [hs]
              simp only at h ⊢
              cases el : lcF t c e env xs with
              | no => rw [el] at h; cases h
              | ex z => rw [el] at h; cases h
              | ok zs =>
                rw [el] at h
                cases h
                rw [lcF_D el]
                rfl
/-- what a target leaves -/
def TgOk (vs : List Nat) (t : TgF) : Prop := ∀ x env e, t x env = some e → e.length = env.length ∧ ∀ j, j ∉ vs → e[j]? = env[j]?
theorem tg_name {i : Nat} : TgOk [i] (tName i) := fun x env e h => by
  cases h
  exact ⟨by simp, fun j hj => List.getElem?_set_ne fun z => hj (by simp [z])⟩
theorem tg_tup2 {i j : Nat} : TgOk [i, j] (tTup2 i j) := fun x env e h => by
  obtain ⟨a, b, _, e2⟩ := tTup2_some h
  subst e2
  refine ⟨by simp, fun k hk => ?_⟩
  rw [List.getElem?_set_ne fun z => hk (by simp [z]), List.getElem?_set_ne fun z => hk (by simp [z])]
theorem wipeE_length (env : VEnv) : ∀ vs, (wipeE env vs).length = env.length
  | [] => rfl
  | v :: vs => by unfold wipeE; rw [List.length_set, wipeE_length env vs]
theorem wipeE_get {env : VEnv} {j : Nat} : ∀ {vs : List Nat}, (wipeE env vs)[j]? = if j ∈ vs ∧ j < env.length then some none else env[j]?
  | [] => by simp [wipeE]
  | v :: vs => by
    unfold wipeE
    by_cases h : v = j
    · subst h
      by_cases hl : v < env.length
      · rw [List.getElem?_set_self (by rw [wipeE_length]; exact hl), if_pos ⟨List.mem_cons_self, hl⟩]
      · rw [if_neg (fun z => hl z.2), List.getElem?_eq_none (by rw [List.length_set, wipeE_length]; omega), List.getElem?_eq_none (by omega)]
    · rw [List.getElem?_set_ne h, wipeE_get]
      by_cases h2 : j ∈ vs
      · simp [h2, h]
      · simp [h2, Ne.symm h]
theorem frz_wipe (env : VEnv) : ∀ vs, frzE (wipeE env vs) = wipeE (frzE env) vs
  | [] => rfl
  | v :: vs => by
    unfold wipeE
    unfold frzE
    rw [List.map_set]
    have := frz_wipe env vs
    unfold frzE at this
    rw [this]
    rfl
theorem wipeE_of {env e : VEnv} {vs : List Nat} (hl : e.length = env.length) (h : ∀ j, j ∉ vs → e[j]? = env[j]?) : wipeE e vs = wipeE env vs := by
  apply List.ext_getElem?
  intro j
  rw [wipeE_get, wipeE_get, hl]
  by_cases hv : j ∈ vs
  · by_cases h2 : j < env.length
    · simp [hv, h2]
    · rw [if_neg (fun z => h2 z.2), if_neg (fun z => h2 z.2), List.getElem?_eq_none (by rw [hl]; omega), List.getElem?_eq_none (by omega)]
  · rw [if_neg (fun z => hv z.1), if_neg (fun z => hv z.1), h j hv]
theorem wipeE_idem (env : VEnv) (vs : List Nat) : wipeE (wipeE env vs) vs = wipeE env vs := wipeE_of (wipeE_length _ _) fun j hj => by rw [wipeE_get, if_neg (fun z => hj z.1)]
theorem wipe_idem (σ : Sl) (vs : List Nat) : wipe (wipe σ vs) vs = wipe σ vs := (Only.wipe ⟨wipe_length _ _, fun j hj => by rw [wipe_get, if_neg (fun z => hj z.1)]⟩)
section
variable {M : Str → Option Value} {G Z H F : Hp} {σ : Sl} {env : VEnv} {T T2 : List (V × Rv)} {C1 C2 : Cells}
theorem R.wipeD (r : R M G Z H σ env T) : ∀ vs, R M G Z H (wipe σ vs) (wipeE env vs) T
  | [] => r
  | v :: vs => (R.wipeD r vs).unset v none
theorem EnvOwn.fz {L : Cells} (h : Same F H) (e : EnvOwn M F σ env L) : (∀ p ∈ L, H p.1 = some p.2) → EnvOwn M (mutG F H) σ (frzE env) [] := by
  induction e with
  | nil => intro _; exact .nil
  | skip _ ih => intro c; exact .skip (ih c)
  | cons d _ ih => intro c; exact .cons (A := []) (B := []) ⟨d.mut h fun p hp => c p (List.mem_append_left _ hp), rfl⟩ (ih fun p hp => c p (List.mem_append_right _ hp))
theorem EnvOwn.allFz {L : Cells} (e : EnvOwn M F σ env L) : allFzE env = true → EnvOwn M F σ (frzE env) [] := by
  induction e with
  | nil => intro _; exact .nil
  | skip _ ih => intro h; exact .skip (ih (by simpa [allFzE] using h))
  | @cons v o σ env A B d _ ih =>
    intro h
    have h1 : (match some o with | some (.fz _) => true | none => true | _ => false) = true ∧ allFzE env = true := by
      unfold allFzE at h ⊢
      rw [List.all_cons, Bool.and_eq_true] at h
      exact h
    have h0 := h1.1
    cases o with
    | fz x => exact .cons (A := []) (B := []) ⟨d.1, rfl⟩ (ih h1.2)
    | ol x => cases h0
    | oK x => cases h0
    | oT x => cases h0
    | dl x => cases h0
    | dd x => cases h0
    | tp x => cases h0
    | ob c x => cases h0
theorem EnvOwn.wipe {L : Cells} (e : EnvOwn M F σ env L) : ∀ vs, ∃ L', EnvOwn M F (wipe σ vs) (wipeE env vs) L' ∧ ∀ p ∈ L', p ∈ L
  | [] => ⟨L, e, fun _ h => h⟩
  | v :: vs => by
    obtain ⟨L', e', h⟩ := EnvOwn.wipe e vs
    obtain ⟨L2, D, h1, h2⟩ := e'.unset v none
    exact ⟨L2, h1, fun p hp => h p (h2.mem_iff.mpr (List.mem_append_left _ hp))⟩
/-- the block of a comprehension starts: all is frozen -/
theorem RF.block (r : RF M G Z H F σ env T C1 C2) (vs : List Nat) : R M (mutG F H) H H (wipe σ vs) (frzE (wipeE env vs)) [] := by
  have e := r.ev.fz r.fh fun p hp => r.gd.hp p (List.mem_append_left _ hp)
  obtain ⟨L', e', h⟩ := e.wipe vs
  have hL : L' = [] := List.eq_nil_iff_forall_not_mem.mpr fun p hp => nomatch h p hp
  subst hL
  rw [frz_wipe]
  exact ⟨mutG F H, [], [], Same.refl _, fun a o e => .inl e, mutG_H r.fh, Same.refl _, e', .nil, Good.nil⟩
theorem RF.blockF (r : RF M G Z H F σ env T C1 C2) (vs : List Nat) (h : allFzE env = true) : R M F H H (wipe σ vs) (frzE (wipeE env vs)) [] := by
  have e := r.ev.allFz h
  obtain ⟨L', e', h⟩ := e.wipe vs
  have hL : L' = [] := List.eq_nil_iff_forall_not_mem.mpr fun p hp => nomatch h p hp
  subst hL
  rw [frz_wipe]
  exact ⟨F, [], [], Same.refl _, fun a o e => .inl e, r.fh, Same.refl _, e', .nil, Good.nil⟩
theorem TmpOwn.split {H : Hp} : ∀ {kept T : List (V × Rv)} {L : Cells}, TmpOwn M F H (kept ++ T) L → (∀ p ∈ kept, ∃ o, p.2 = .st o) → ∃ A B, L = A ++ B ∧ TmpOwn M F H T B ∧ ∀ p ∈ kept, ∃ Lp, Own M F p.2.ov p.1 Lp ∧ ∀ q ∈ Lp, q ∈ A
  | [], T, L, t, _ => ⟨[], L, rfl, t, fun _ h => nomatch h⟩
  | (v, r) :: kept, T, L, t, h => by
    obtain ⟨o, ho⟩ := h _ List.mem_cons_self
    simp only at ho
    subst ho
    cases t with
    | @st _ _ _ A1 B1 d t =>
      obtain ⟨A, B, e, t2, k⟩ := TmpOwn.split t fun p hp => h p (List.mem_cons_of_mem _ hp)
      subst e
      refine ⟨A1 ++ A, B, by rw [List.append_assoc], t2, fun p hp => ?_⟩
      rcases List.mem_cons.mp hp with rfl | hp
      · exact ⟨A1, d, fun q hq => List.mem_append_left _ hq⟩
      · obtain ⟨Lp, q1, q2⟩ := k p hp
        exact ⟨Lp, q1, fun q hq => List.mem_append_right _ (q2 q hq)⟩
theorem RF.iceK {kept : List (V × Rv)} (r : RF M G Z H F σ env (kept ++ T) C1 C2) (h : ∀ p ∈ kept, ∃ o, p.2 = .st o) :
    ∃ F2 C3 C4, RF M G Z H F2 σ env T C3 C4 ∧ ∀ p ∈ kept, FDen M F2 p.2.fv p.1 := by
  obtain ⟨A, B, e, t, k⟩ := r.tm.split h
  subst e
  obtain ⟨i1, i2, i3, i4, i5, i6⟩ := r.ice (A := A) (Lr := C1 ++ B) (by
    rw [← List.append_assoc, ← List.append_assoc]
    exact List.perm_append_comm.append_right _)
  refine ⟨updL F A, C1, B, ⟨i1, i2, i4, r.zh, r.ev.mono i3, t.mono i3 (Same.refl _), i5⟩, fun p hp => ?_⟩
  obtain ⟨Lp, d, c⟩ := k p hp
  exact d.fden i3 fun q hq => i6 q (c q hq)
/-- its list grows -/
theorem R.grow {D : Addr} {os : List OV} {o : OV} {y : V} (r : R M G Z H σ env [(y, .st o), (.ref D, .st (.dl os))]) : ∃ acc, H D = some (.lst acc) ∧ acc.length = os.length ∧ R M G Z (upd H D (.lst (acc ++ [y]))) σ env [(.ref D, .st (.dl (os ++ [o])))] := by
  obtain ⟨F, C1, C2, r⟩ := r
  obtain ⟨A, B, e1, dy, t⟩ := r.tm.freeze
  obtain ⟨A2, B2, e2, dD, t2⟩ := t.freeze
  cases t2
  rw [List.append_nil] at e2
  subst e2
  subst e1
  obtain ⟨a, vs, L', ea, ow, q⟩ := dD
  cases ea
  subst q
  have gd := r.gd
  have hD : H D = some (.lst vs) := gd.hp (D, .lst vs) (by simp)
  have fD : F D = none := gd.fr (D, .lst vs) (by simp)
  have zD : Z D = none := gd.zr (D, .lst vs) (by simp)
  have ne : ∀ p ∈ C1 ++ (A ++ L'), p.1 ≠ D := by
    have g2 := gd.perm (L' := (C1 ++ (A ++ L')) ++ [(D, .lst vs)]) (by
      rw [List.append_assoc, List.append_assoc]
      refine List.Perm.append_left C1 (List.Perm.append_left A ?_)
      exact (List.perm_append_comm (l₁ := [(D, HO.lst vs)]) (l₂ := L')))
    exact fun p hp e => g2.apart p hp (D, .lst vs) (by simp) e
  refine ⟨vs, hD, ow.length, F, C1, (D, .lst (vs ++ [y])) :: (L' ++ A), r.gf, r.fg, fun b u e => ?_, fun b u e => ?_, r.ev, ?_, ?_⟩
  · rw [upd_ne (fun z => by rw [z, fD] at e; cases e)]
    exact r.fh _ _ e
  · rw [upd_ne (fun z => by rw [z, zD] at e; cases e)]
    exact r.zh _ _ e
  · have key : ∀ {os : List OV} {vs : List V} {L : Cells}, OwnL M F os vs L → OwnL M F (os ++ [o]) (vs ++ [y]) (L ++ A) := by
      intro os
      induction os with
      | nil => intro vs L h; rw [h.1, h.2]; exact ⟨y, [], A, [], rfl, dy, ⟨rfl, rfl⟩, by simp⟩
      | cons x xs ih =>
        intro vs L ⟨v, ws, A', B', e, d, r, q⟩
        rw [e, q]
        exact ⟨v, ws ++ [y], A', B' ++ A, rfl, d, ih r, by rw [List.append_assoc]⟩
    have t := TmpOwn.st (H := upd H D (.lst (vs ++ [y]))) (T := []) (B := []) (show Own M F (.dl (os ++ [o])) (.ref D) ((D, .lst (vs ++ [y])) :: (L' ++ A)) from ⟨D, _, _, rfl, key ow, rfl⟩) .nil
    rw [List.append_nil] at t
    exact t
  · have g1 : Good F Z (upd H D (.lst (vs ++ [y]))) (C1 ++ (A ++ L')) := by
      have g2 := gd.perm (L' := (C1 ++ (A ++ L')) ++ [(D, .lst vs)]) (by
        rw [List.append_assoc, List.append_assoc]
        refine List.Perm.append_left C1 (List.Perm.append_left A ?_)
        exact (List.perm_append_comm (l₁ := [(D, HO.lst vs)]) (l₂ := L')))
      have g3 := g2.left
      exact ⟨g3.nd, fun p hp => by rw [upd_ne (ne p hp)]; exact g3.hp p hp, g3.fr, g3.zr⟩
    have g4 : Good F Z (upd H D (.lst (vs ++ [y]))) [(D, .lst (vs ++ [y]))] := ⟨by simp, fun p hp => by rw [List.mem_singleton] at hp; subst hp; exact upd_same, fun p hp => by rw [List.mem_singleton] at hp; subst hp; exact fD, fun p hp => by rw [List.mem_singleton] at hp; subst hp; exact zD⟩
    refine (g1.mk' g4 fun p hp q hq => by rw [List.mem_singleton] at hq; subst hq; exact ne p hp).perm ?_
    rw [List.append_assoc]
    refine List.Perm.append_left C1 ?_
    refine (List.perm_append_comm (l₁ := A ++ L')).trans ?_
    show ((D, HO.lst (vs ++ [y])) :: (A ++ L')).Perm _
    exact (List.perm_append_comm).cons _
end
abbrev W0 : WX := fun _ _ _ _ => False
abbrev JTs (X : Cx) (W : WX) (ifs : List Expr) (f : DT) : Prop := PTs X ifs (tT X.mg W f)
theorem jts_nil {X : Cx} {W : WX} : JTs X W [] dTrue := ⟨fun pins s σ H Q I ⟨G, Z, env, T, r, p⟩ => pts_nil.run pins s σ H Q I (p H (Same.refl _) r)⟩
theorem jts_one {X : Cx} {W : WX} {c : Expr} {f : DT} (h : JT X W c f) : JTs X W [c] f := pts_one h
theorem WalkJ.at {M : Str → Option Value} {J : It} {kept : List (V × Rv)} {items : List FV} (w : WalkJ M J (kept.map kfz) items) {F H : Hp} (hf : Same F H) (hk : ∀ p ∈ kept, FDen M F p.2.fv p.1) (i : Nat) :
    (∀ x, items[i]? = some x → J.go i H ∧ ∀ v H', J.yld i H v H' → New M F H H' (.fz x) v) ∧ (items.length ≤ i → J.stop i H) :=
  w F H i hf fun p hp => by
    obtain ⟨q, hq, e⟩ := List.mem_map.mp hp
    subst e
    exact ⟨[], ⟨hk q hq, rfl⟩, fun _ h => nomatch h⟩
/-- the loop of the block, from its relation -/
theorem lc_run {M : Str → Option Value} {G Z H1 : Hp} {σw : Sl} {envw : VEnv} {vs ws : List Nat} {t : TgF} {c : DT} {e : DE} {J : It} {kept : List (V × Rv)} {items : List FV} {ys : List OV} {D : Addr} {Qd : Hp → Prop}
    (hw : σw = wipe σw vs) (hwe : envw = wipeE envw vs) (hws : ∀ i ∈ ws, i ∈ vs) (hto : TgOk ws t) (wk : WalkJ M J (kept.map kfz) items) (hk : ∀ p ∈ kept, FDen M G p.2.fv p.1) (hlen : ys.length ≤ BIG)
    (hl : lcD t c e envw items = .ok ys) (r : R M G Z (upd H1 D (.lst [])) σw envw [(.ref D, .st (.dl []))]) (hd : ∀ H, R M G Z H σw envw [(.ref D, .st (.dl ys))] → Qd H) :
    ∃ W : Nat → Nat → Hp → Prop, (∃ m, W 0 m (upd H1 D (.lst []))) ∧ ∀ i m H, W i m H →
      (J.stop i H ∧ Qd H) ∨ (J.go i H ∧ ∃ Nx : Hp → Prop, (∀ H', Nx H' → ∃ m', m' < m ∧ W (i + 1) m' H') ∧ ∀ x H', J.yld i H x H' → gJ M ws t x σw H' fun σ2 H2 => wipe σ2 vs = σw ∧ tT M W0 c σ2 H2 fun b H3 =>
        if b = true then tE M W0 e σ2 H3 fun y H4 => ∃ acc, H4 D = some (.lst acc) ∧ acc.length < sizeLine ∧ Nx (upd H4 D (.lst (acc ++ [y]))) else Nx H3) := by
  refine ⟨fun i m H => i + m = items.length ∧ ∃ done rest, lcD t c e envw (items.drop i) = .ok rest ∧ done ++ rest = ys ∧ R M G Z H σw envw [(.ref D, .st (.dl done))], ⟨items.length, by omega, [], ys, by rw [List.drop_zero]; exact hl, rfl, r⟩, ?_⟩
  rintro i m H ⟨him, done, rest, h1, h2, ⟨F, C1, C2, r⟩⟩
  obtain ⟨w1, w2⟩ := wk.at r.fh (fun p hp => (hk p hp).mono r.gf) i
  by_cases hlt : i < items.length
  · obtain ⟨hgo, hy⟩ := w1 items[i] (List.getElem?_eq_getElem hlt)
    rw [List.drop_eq_getElem_cons hlt] at h1
    have h1' : (match t items[i] envw with
      | some e1 => (c e1).nox.bind fun b => if b then (e e1).nox.bind fun r => match r.st? with
          | some y => (lcD t c e envw (items.drop (i + 1))).bind fun ys => .ok (y :: ys)
          | none => .no
        else lcD t c e envw (items.drop (i + 1))
      | none => .no) = Ans.ok rest := h1
    refine .inr ⟨hgo, fun H' => ∃ done rest, lcD t c e envw (items.drop (i + 1)) = .ok rest ∧ done ++ rest = ys ∧ R M G Z H' σw envw [(.ref D, .st (.dl done))], fun H' q => ⟨m - 1, by omega, by omega, q⟩, fun x H' yl => ?_⟩
    refine ⟨G, Z, envw, _, items[i], r.new (hy x H' yl), ?_⟩
    cases et : t items[i] envw with
    | none => rw [et] at h1'; cases h1'
    | some e1 =>
      rw [et] at h1'
      intro σ2 hon r2
      have hσ : wipe σ2 vs = σw := by rw [(hon.mono hws).wipe, ← hw]
      have hE : wipeE e1 vs = envw := by
        obtain ⟨hl1, hl2⟩ := hto _ _ _ et
        rw [wipeE_of hl1 fun j hj => hl2 j fun z => hj (hws j z), ← hwe]
      have back : ∀ {H : Hp} {T : List (V × Rv)}, R M G Z H σ2 e1 T → R M G Z H σw envw T := fun {H T} r => by
        have := r.wipeD vs
        rw [hσ, hE] at this
        exact this
      refine ⟨hσ, G, Z, e1, _, r2, ?_⟩
      cases ec : c e1 with
      | no => simp [ec, Ans.nox, Ans.bind] at h1'
      | ex z => simp [ec, Ans.nox, Ans.bind] at h1'
      | ok b =>
        simp only [ec, Ans.nox, Ans.bind] at h1'
        intro H3 s3 r3
        cases b with
        | false =>
          rw [if_neg Bool.false_ne_true] at h1' ⊢
          exact ⟨done, rest, h1', h2, back r3⟩
        | true =>
          rw [if_pos rfl] at h1' ⊢
          refine ⟨G, Z, e1, _, r3, ?_⟩
          cases ee : e e1 with
          | no => simp [ee] at h1'
          | ex z => simp [ee] at h1'
          | ok rv =>
            rw [ee] at h1'
            simp only at h1'
            intro y H4 s4 r4
            cases es : rv.st? with
            | none => rw [es] at h1'; cases h1'
            | some o =>
              rw [es] at h1'
              have hrv : rv = .st o := by
                unfold Rv.st? at es
                split at es
                · cases es; rfl
                · cases es
              subst hrv
              simp only at h1'
              cases el : lcD t c e envw (items.drop (i + 1)) with
              | no => rw [el] at h1'; cases h1'
              | ex z => rw [el] at h1'; cases h1'
              | ok zs =>
                rw [el] at h1'
                have h1' : Ans.ok (o :: zs) = Ans.ok rest := h1'
                injection h1' with h1'
                subst h1'
                obtain ⟨acc, hD, hla, r5⟩ := r4.grow
                refine ⟨acc, hD, ?_, done ++ [o], zs, (by first | exact el | rfl), by rw [List.append_assoc]; exact h2, back r5⟩
                rw [hla, big_eq]
                have := congrArg List.length h2
                rw [List.length_append, List.length_cons] at this
                omega
  · refine .inl ⟨w2 (by omega), ?_⟩
    rw [List.drop_of_length_le (by omega)] at h1
    cases h1
    rw [List.append_nil] at h2
    subst h2
    exact hd H r.r
section
variable {X : Cx} {W : WX} {pos spos py : Pos} {tg iter elt : Expr} {ifs : List Expr} {scope : Scope} {own : List (Str × Nat)} {it : VEnv → Ans (List FV)} {t : TgF} {fc : DT} {fe : DE} {ws : List Nat}
theorem R.newOf {M : Str → Option Value} {G H H' : Hp} {σ : Sl} {env : VEnv} {v : V} {o : OV} (r : R M G H H' σ env [(v, .st o)]) : New M G H H' o v := by
  obtain ⟨F, C1, C2, r⟩ := r
  obtain ⟨A, B, e1, d, t⟩ := r.tm.freeze
  cases t
  rw [List.append_nil] at e1
  subst e1
  have g := r.gd.right
  exact ⟨F, C2, r.gf, r.fg, r.fh, r.zh, d, ⟨g.nd, g.hp, g.fr, g.zr⟩⟩
theorem lc_post (hws : ∀ i ∈ ws, i ∈ own.map (·.2)) (hto : TgOk ws t) {σ : Sl} {H : Hp} {Q : VK} {G Z : Hp} {env : VEnv} {T : List (V × Rv)} (r : R X.mg G Z H σ env T)
    (p : Post X.mg W G Z σ env T Q H (dLcD it t fc fe (own.map (·.2)) env)) : tLc (tIC X.mg W it) (gJ X.mg ws t) (tT X.mg W0 fc) (tE X.mg W0 fe) (own.map (·.2)) σ H Q := by
  refine ⟨G, Z, env, T, r, ?_⟩
  unfold dLcD at p
  cases ei : it env with
  | no => rw [ei] at p; exact p.elim
  | ex c => rw [ei] at p; exact fun C H' m s r' => p C H' m s r'
  | ok items =>
    rw [ei] at p
    intro J H1 kept s1 ⟨F, C1, C2, r1⟩ wk hsbk D hD
    have p : Post X.mg W G Z σ env T Q H ((lcD t fc fe (frzE (wipeE env (own.map (·.2)))) items).bind fun ys => if decide (ys.length ≤ BIG) && (allFzE env || OV.cleanL ys) then .ok (.st (.dl ys)) else .no) := p
    cases el : lcD t fc fe (frzE (wipeE env (own.map (·.2)))) items with
    | no => rw [el] at p; exact p.elim
    | ex c =>
      -- no exception comes out of lcD
      exfalso
      have key : ∀ items c, lcD t fc fe (frzE (wipeE env (own.map (·.2)))) items ≠ .ex c := by
        intro items
        induction items with
        | nil => intro c h; cases h
        | cons x xs ih =>
          intro c h
          unfold lcD at h
          split at h
          · rename_i e1 _
            cases ec : fc e1 with
            | no => simp [ec, Ans.nox, Ans.bind] at h
            | ex z => simp [ec, Ans.nox, Ans.bind] at h
            | ok b =>
              simp only [ec, Ans.nox, Ans.bind] at h
              cases b with
              | false => exact ih c (by simpa using h)
              | true =>
                rw [if_pos rfl] at h
                cases ee : fe e1 with
                | no => simp [ee] at h
                | ex z => simp [ee] at h
                | ok rv =>
                  rw [ee] at h
                  simp only at h
                  split at h
                  · cases el2 : lcD t fc fe (frzE (wipeE env (own.map (·.2)))) xs with
                    | no => rw [el2] at h; cases h
                    | ex z => exact ih z el2
                    | ok zs => rw [el2] at h; cases h
                  · cases h
          · cases h
      exact key items c el
    | ok ys =>
      rw [el] at p
      simp only [Ans.bind] at p
      split at p
      · rename_i hc
        rw [Bool.and_eq_true] at hc
        have hlen : ys.length ≤ BIG := of_decide_eq_true hc.1
        have hwe : frzE (wipeE env (own.map (·.2))) = wipeE (frzE (wipeE env (own.map (·.2)))) (own.map (·.2)) := by
          rw [frz_wipe, wipeE_idem]
        have fin : ∀ H', New X.mg F H1 H' (.dl ys) (.ref D) → Q (.ref D) H' := fun H' n => p _ H' (s1.trans (let ⟨_, _, n⟩ := n; n.hh)) ((r1.new n).sb sb_app.both)
        have start : ∀ {K0 : Hp} (r0 : R X.mg K0 H1 H1 (wipe σ (own.map (·.2))) (frzE (wipeE env (own.map (·.2)))) []), R X.mg K0 H1 (upd H1 D (.lst [])) (wipe σ (own.map (·.2))) (frzE (wipeE env (own.map (·.2)))) [(.ref D, .st (.dl []))] := fun {K0} r0 => by
          obtain ⟨F0, D1, D2, r0⟩ := r0
          exact r0.new (New.cell r0.fh hD ⟨D, [], [], rfl, ⟨rfl, rfl⟩, rfl⟩)
        cases ha : allFzE env with
        | true =>
          -- all frozen: what is walked is frozen first
          obtain ⟨F2, C3, C4, r2, hkA⟩ := r1.iceK (fun p hp => by
            have := hsbk p hp
            revert this
            cases p.2 with
            | st o => exact fun _ => ⟨o, rfl⟩
            | bo o => intro h; rw [show sbR env (.bo o) = !allFzE env from rfl, ha] at h; cases h)
          refine lc_run (hw := (wipe_idem _ _).symm) (hwe := hwe) hws hto wk (G := F2) (Z := H1) hkA hlen el (start (r2.blockF _ ha)) fun H' r' => ?_
          have n := r'.newOf
          exact p _ H' (s1.trans (let ⟨_, _, n⟩ := n; n.hh)) (r2.new n)
        | false =>
          rw [ha, Bool.false_or] at hc
          refine lc_run (hw := (wipe_idem _ _).symm) (hwe := hwe) hws hto wk (G := mutG F H1) (Z := H1) (fun p hp => ?_) hlen el (start (r1.block _)) fun H' r' => fin H' (r'.newOf.clean r1.fh (by simpa [OV.clean] using hc.2))
          obtain ⟨A, d, c⟩ := r1.bor (List.mem_append_left T hp)
          exact d.mut r1.fh c
      · exact p.elim
theorem R.dl_ol {M : Str → Option Value} {G Z H : Hp} {σ : Sl} {env : VEnv} {T : List (V × Rv)} {v : V} {ys : List FV} (r : R M G Z H σ env ((v, .st (.dl (ys.map .fz))) :: T)) : R M G Z H σ env ((v, .st (.ol ys)) :: T) := by
  obtain ⟨F, C1, C2, r⟩ := r
  obtain ⟨A, B, e, d, t⟩ := r.tm.freeze
  subst e
  exact ⟨F, C1, A ++ B, r.gf, r.fg, r.fh, r.zh, r.ev, .st (own_dl_ol d) t, r.gd⟩
theorem cleanL_fz : ∀ ys : List FV, OV.cleanL (ys.map .fz) = FV.pureL ys
  | [] => rfl
  | y :: ys => by
    show ((OV.fz y).clean && OV.cleanL (ys.map .fz)) = (FV.pure y && FV.pureL ys)
    rw [cleanL_fz ys]
    rfl
theorem lcF_ex {c : DT} {e : DE} {t : TgF} {env : VEnv} : ∀ (items : List FV) (z : Str), lcF t c e env items ≠ .ex z := by
  intro items
  induction items with
  | nil => intro c h; cases h
  | cons x xs ih =>
    intro z h
    unfold lcF at h
    split at h
    · rename_i e1 _
      cases ec : c e1 with
      | no => simp [ec, Ans.nox, Ans.bind] at h
      | ex z => simp [ec, Ans.nox, Ans.bind] at h
      | ok b =>
        simp only [ec, Ans.nox, Ans.bind] at h
        cases b with
        | false => exact ih z (by simpa using h)
        | true =>
          rw [if_pos rfl] at h
          cases ee : e e1 with
          | no => simp [ee] at h
          | ex z => simp [ee] at h
          | ok rv =>
            rw [ee] at h
            simp only at h
            split at h
            · cases el2 : lcF t c e env xs with
              | no => rw [el2] at h; cases h
              | ex z => exact ih z el2
              | ok zs => rw [el2] at h; cases h
            · cases h
    · cases h
theorem lc_postF {σ : Sl} {H : Hp} {Q : VK} {G Z : Hp} {env : VEnv} {T : List (V × Rv)} {vs : List Nat}
    (p : Post X.mg W G Z σ env T Q H (dLc it t fc fe vs env)) : Post X.mg W G Z σ env T Q H (dLcD it t fc fe vs env) := by
  unfold dLc at p
  unfold dLcD
  cases ei : it env with
  | no => rw [ei] at p; exact p.elim
  | ex c => rw [ei] at p; exact p
  | ok items =>
    rw [ei] at p
    simp only [Ans.bind] at p ⊢
    cases el : lcF t fc fe (frzE (wipeE env vs)) items with
    | no => rw [el] at p; exact p.elim
    | ex c => exact absurd el (lcF_ex _ _)
    | ok ys =>
      rw [el] at p
      rw [lcF_D el]
      simp only at p ⊢
      rw [cleanL_fz, List.length_map]
      split at p
      · rename_i hc
        rw [if_pos hc]
        exact fun v H' s r => p v H' s r.dl_ol
      · exact p.elim
theorem je_lcD (hc : X.calm = true) (hN : X.N.Nodup) (hi : JC X W tg iter it) (ok : BlkOk X.N X.env.scope scope own)
    (hg : ∀ (s : Shared) (H : Hp) (C : Addr) (cl : List (Str × Addr)) (fp : List Addr), JG (X.blk s H scope (compEnvC scope cl C X.env) fp) tg ws t)
    (ht : ∀ (s : Shared) (H : Hp) (C : Addr) (cl : List (Str × Addr)) (fp : List Addr), JTs (X.blk s H scope (compEnvC scope cl C X.env) fp) W0 ifs fc)
    (he : ∀ (s : Shared) (H : Hp) (C : Addr) (cl : List (Str × Addr)) (fp : List Addr), JE (X.blk s H scope (compEnvC scope cl C X.env) fp) W0 elt fe)
    (hto : TgOk ws t) (hws : ∀ i ∈ ws, i ∈ own.map (·.2) := by decide) (hs : ∀ x, foldedSetIterable iter X.env x = pure x := by intro _; rfl) :
    JE X W (.ListComp elt [⟨tg, iter, ifs, 0⟩] scope pos) (dLcD it t fc fe (own.map (·.2))) :=
  PE.imp (pe_lc hc hN hi ok hg ht he hs) fun σ H Q ⟨G, Z, env, T, r, p⟩ => lc_post hws hto r p
theorem je_lc (hc : X.calm = true) (hN : X.N.Nodup) (hi : JC X W tg iter it) (ok : BlkOk X.N X.env.scope scope own)
    (hg : ∀ (s : Shared) (H : Hp) (C : Addr) (cl : List (Str × Addr)) (fp : List Addr), JG (X.blk s H scope (compEnvC scope cl C X.env) fp) tg ws t)
    (ht : ∀ (s : Shared) (H : Hp) (C : Addr) (cl : List (Str × Addr)) (fp : List Addr), JTs (X.blk s H scope (compEnvC scope cl C X.env) fp) W0 ifs fc)
    (he : ∀ (s : Shared) (H : Hp) (C : Addr) (cl : List (Str × Addr)) (fp : List Addr), JE (X.blk s H scope (compEnvC scope cl C X.env) fp) W0 elt fe)
    (hto : TgOk ws t) (hws : ∀ i ∈ ws, i ∈ own.map (·.2) := by decide) (hs : ∀ x, foldedSetIterable iter X.env x = pure x := by intro _; rfl) :
    JE X W (.ListComp elt [⟨tg, iter, ifs, 0⟩] scope pos) (dLc it t fc fe (own.map (·.2))) :=
  PE.imp (je_lcD hc hN hi ok hg ht he hto hws hs) fun σ H Q ⟨G, Z, env, T, r, p⟩ => ⟨G, Z, env, T, r, lc_postF p⟩
theorem js_setLcD (i : Nat) {y : Str} (hc : X.calm = true) (hN : X.N.Nodup) (hsw : swapsWith (.ListComp elt [⟨tg, iter, ifs, 0⟩] scope pos) (some (.Name y py)) spos.line X.env = pure true) (hi : JC X W tg iter it) (ok : BlkOk X.N X.env.scope scope own)
    (hg : ∀ (s : Shared) (H : Hp) (C : Addr) (cl : List (Str × Addr)) (fp : List Addr), JG (X.blk s H scope (compEnvC scope cl C X.env) fp) tg ws t)
    (ht : ∀ (s : Shared) (H : Hp) (C : Addr) (cl : List (Str × Addr)) (fp : List Addr), JTs (X.blk s H scope (compEnvC scope cl C X.env) fp) W0 ifs fc)
    (he : ∀ (s : Shared) (H : Hp) (C : Addr) (cl : List (Str × Addr)) (fp : List Addr), JE (X.blk s H scope (compEnvC scope cl C X.env) fp) W0 elt fe)
    (hto : TgOk ws t) (hws : ∀ i ∈ ws, i ∈ own.map (·.2) := by decide) (hy : X.N[i]? = some y := by rfl) (hyl : X.env.scope.names.lookup y = some .local := by rfl) (hs : ∀ x, foldedSetIterable iter X.env x = pure x := by intro _; rfl) :
    JS X W (.Assign [.Name y py] (.ListComp elt [⟨tg, iter, ifs, 0⟩] scope pos) spos) (dSet i (dLcD it t fc fe (own.map (·.2)))) := by
  refine PS.imp (ps_setLc (wi := tIC X.mg W it) (g := gJ X.mg ws t) (tt := tT X.mg W0 fc) (te := tE X.mg W0 fe) hc hN hy hyl hsw hi ok hg ht he hs) fun D σ H ⟨G, Z, env, T, hT, r, p⟩ => ?_
  have q : tE X.mg W (dLcD it t fc fe (own.map (·.2))) σ H fun x H1 => gName i x σ H1 D.nx := by
    refine tE.bindS r p fun rv v H1 _ s r1 p1 => ?_
    cases rv with
    | st o => exact p1 _ _ (r1.set i)
    | bo o => exact p1.elim
  obtain ⟨G, Z, env, T, r, p⟩ := q
  exact lc_post hws hto r p
theorem js_setLc (i : Nat) {y : Str} (hc : X.calm = true) (hN : X.N.Nodup) (hsw : swapsWith (.ListComp elt [⟨tg, iter, ifs, 0⟩] scope pos) (some (.Name y py)) spos.line X.env = pure true) (hi : JC X W tg iter it) (ok : BlkOk X.N X.env.scope scope own)
    (hg : ∀ (s : Shared) (H : Hp) (C : Addr) (cl : List (Str × Addr)) (fp : List Addr), JG (X.blk s H scope (compEnvC scope cl C X.env) fp) tg ws t)
    (ht : ∀ (s : Shared) (H : Hp) (C : Addr) (cl : List (Str × Addr)) (fp : List Addr), JTs (X.blk s H scope (compEnvC scope cl C X.env) fp) W0 ifs fc)
    (he : ∀ (s : Shared) (H : Hp) (C : Addr) (cl : List (Str × Addr)) (fp : List Addr), JE (X.blk s H scope (compEnvC scope cl C X.env) fp) W0 elt fe)
    (hto : TgOk ws t) (hws : ∀ i ∈ ws, i ∈ own.map (·.2) := by decide) (hy : X.N[i]? = some y := by rfl) (hyl : X.env.scope.names.lookup y = some .local := by rfl) (hs : ∀ x, foldedSetIterable iter X.env x = pure x := by intro _; rfl) :
    JS X W (.Assign [.Name y py] (.ListComp elt [⟨tg, iter, ifs, 0⟩] scope pos) spos) (dSet i (dLc it t fc fe (own.map (·.2)))) := by
  refine PS.imp (ps_setLc (wi := tIC X.mg W it) (g := gJ X.mg ws t) (tt := tT X.mg W0 fc) (te := tE X.mg W0 fe) hc hN hy hyl hsw hi ok hg ht he hs) fun D σ H ⟨G, Z, env, T, hT, r, p⟩ => ?_
  have q : tE X.mg W (dLc it t fc fe (own.map (·.2))) σ H fun x H1 => gName i x σ H1 D.nx := by
    refine tE.bindS r p fun rv v H1 _ s r1 p1 => ?_
    cases rv with
    | st o => exact p1 _ _ (r1.set i)
    | bo o => exact p1.elim
  obtain ⟨G, Z, env, T, r, p⟩ := q
  exact lc_post hws hto r (lc_postF p)
end
end J
namespace J
open PySem PySem.Spec PyProof.Rows L2
/-! ### one's own cells rewritten -/
/-- the value o at v (cells L) becomes o' by rewriting the cell a; the cells B go in -/
def Wrote (M : Str → Option Value) (F : Hp) (L B : Cells) (v : V) (a : Addr) (ho ho' : HO) (o' : OV) : Prop := ∃ A D L', L.Perm ((a, ho) :: (A ++ D)) ∧ Own M F o' v L' ∧ L'.Perm ((a, ho') :: (A ++ B))
section
variable {M : Str → Option Value} {G Z H F : Hp} {σ : Sl} {env : VEnv} {T : List (V × Rv)} {o p p' : OV} {v y : V} {i : Nat} {L B : Cells} {L1 L2 : Cells} {a : Addr} {ho ho' : HO}
theorem TmpOwn.anyH {H' : Hp} (t : TmpOwn M F H T L) (h : AllSt T) : TmpOwn M F H' T L := by
  induction t with
  | nil => exact .nil
  | st d _ ih => exact .st d (ih fun p hp => h p (List.mem_cons_of_mem _ hp))
  | bo d _ ih =>
    obtain ⟨o, e⟩ := h _ List.mem_cons_self
    cases e
theorem RF.write (r : RF M G Z H F σ env ((y, .st o) :: T) L1 L2) (hT : AllSt T) (he : env[i]? = some (some p)) :
    ∃ v L B, σ[i]? = some (some v) ∧ Own M F p v L ∧ Own M F o y B ∧ (∀ q ∈ L, H q.1 = some q.2) ∧ ∀ a ho ho' p', Wrote M F L B v a ho ho' p' → ∃ E1 E2, RF M G Z (upd H a ho') F σ (env.set i (some p')) T E1 E2 := by
  obtain ⟨v, L, Lr, h1, h2, h3, h4, _⟩ := r.ev.repl he
  obtain ⟨B, C, e, d, t⟩ := r.tm.freeze
  subst e
  refine ⟨v, L, B, h1, h2, d, fun q hq => r.gd.hp q (List.mem_append_left _ (h3.mem_iff.mpr (List.mem_append_left _ hq))), fun a ho ho' p' ⟨A, D, L', q1, q2, q3⟩ => ?_⟩
  obtain ⟨L3, k1, k2⟩ := h4 p' v L' q2
  have hσ : σ.set i (some v) = σ := by
    apply List.ext_getElem?
    intro j
    by_cases hj : i = j
    · subst hj
      obtain ⟨hlt, _⟩ := List.getElem?_eq_some_iff.mp h1
      rw [List.getElem?_set_self hlt, h1]
    · rw [List.getElem?_set_ne hj]
  rw [hσ] at k1
  -- all cells of before
  have pm : (L1 ++ (B ++ C)).Perm ((a, ho) :: ((A ++ B) ++ Lr ++ C) ++ D) := by
    refine (h3.append_right _).trans ?_
    refine ((q1.append_right Lr).append_right (B ++ C)).trans ?_
    have e1 : ((a, ho) :: (A ++ D) ++ Lr ++ (B ++ C)) = (a, ho) :: (A ++ (D ++ (Lr ++ (B ++ C)))) := by simp
    have e2 : ((a, ho) :: ((A ++ B) ++ Lr ++ C) ++ D) = (a, ho) :: (A ++ (B ++ (Lr ++ (C ++ D)))) := by simp
    rw [e1, e2]
    refine List.Perm.cons _ (List.Perm.append_left A ?_)
    -- D ++ (Lr ++ (B ++ C)) ~ B ++ (Lr ++ (C ++ D))
    refine List.perm_append_comm.trans ?_
    have e3 : Lr ++ (B ++ C) ++ D = (Lr ++ B) ++ (C ++ D) := by simp
    have e4 : B ++ (Lr ++ (C ++ D)) = (B ++ Lr) ++ (C ++ D) := by simp
    rw [e3, e4]
    exact List.perm_append_comm.append_right _
  have g := (r.gd.perm pm).left
  have nd := g.nd
  rw [List.map_cons, List.nodup_cons] at nd
  have ne : ∀ q ∈ (A ++ B) ++ Lr ++ C, q.1 ≠ a := fun q hq z => nd.1 (by rw [← z]; exact List.mem_map.mpr ⟨q, hq, rfl⟩)
  have fa : F a = none := g.fr (a, ho) List.mem_cons_self
  have za : Z a = none := g.zr (a, ho) List.mem_cons_self
  have g2 : Good F Z (upd H a ho') ((a, ho') :: ((A ++ B) ++ Lr ++ C)) := by
    refine ⟨by rw [List.map_cons, List.nodup_cons]; exact nd, fun q hq => ?_, fun q hq => ?_, fun q hq => ?_⟩
    · rcases List.mem_cons.mp hq with rfl | hq
      · exact upd_same
      · rw [upd_ne (ne q hq)]; exact g.hp q (List.mem_cons_of_mem _ hq)
    · rcases List.mem_cons.mp hq with rfl | hq
      · exact fa
      · exact g.fr q (List.mem_cons_of_mem _ hq)
    · rcases List.mem_cons.mp hq with rfl | hq
      · exact za
      · exact g.zr q (List.mem_cons_of_mem _ hq)
  refine ⟨L3, C, r.gf, r.fg, fun b u e => ?_, fun b u e => ?_, k1, t.anyH hT, g2.perm ?_⟩
  · rw [upd_ne (fun z => by rw [z, fa] at e; cases e)]; exact r.fh b u e
  · rw [upd_ne (fun z => by rw [z, za] at e; cases e)]; exact r.zh b u e
  · refine List.Perm.symm ((k2.append_right C).trans ?_)
    exact (q3.append_right Lr).append_right C
theorem OwnL.snoc {os : List OV} {vs : List V} {y : V} (h : OwnL M F os vs L) (d : Own M F o y B) : OwnL M F (os ++ [o]) (vs ++ [y]) (L ++ B) := by
  induction os generalizing vs L with
  | nil =>
    obtain ⟨e1, e2⟩ := h
    subst e1 e2
    exact ⟨y, [], B, [], rfl, d, ⟨rfl, rfl⟩, by simp⟩
  | cons x os ih =>
    obtain ⟨v, ws, A, C, e, q, r, e2⟩ := h
    subst e e2
    exact ⟨v, ws ++ [y], A, C ++ B, rfl, q, ih r, by rw [List.append_assoc]⟩
end
/-! ### append -/
def OV.app : OV → OV → Option OV
  | .ol xs, .fz x => some (.ol (xs ++ [x]))
  | .ol [], o => some (.dl [o])
  | .dl os, o => some (.dl (os ++ [o]))
  | _, _ => none
def OV.size : OV → Nat
  | .ol xs => xs.length
  | .dl os => os.length
  | .oK k => k.length
  | .oT k => k.length
  | .dd k => k.length
  | _ => 0
section
variable {M : Str → Option Value} {G Z H F : Hp} {σ : Sl} {env : VEnv} {T : List (V × Rv)} {o p p' : OV} {v y : V} {i : Nat} {L B : Cells} {L1 L2 : Cells} {a : Addr} {ho ho' : HO}
theorem own_app (e : p.app o = some p') (h : Own M F p v L) (d : Own M F o y B) : ∃ a vs, v = .ref a ∧ (a, HO.lst vs) ∈ L ∧ vs.length = p.size ∧ Wrote M F L B v a (.lst vs) (.lst (vs ++ [y])) p' := by
  unfold OV.app at e
  split at e
  · rename_i xs x
    cases e
    obtain ⟨a, vs, e1, r, e2⟩ := h
    obtain ⟨d, hB⟩ := d
    subst hB e1 e2
    exact ⟨a, vs, rfl, List.mem_singleton.mpr rfl, r.length, [], [], _, .refl _, ⟨a, _, rfl, r.append ⟨y, [], rfl, d, rfl⟩, rfl⟩, .refl _⟩
  · rename_i o' _
    cases e
    obtain ⟨a, vs, e1, r, e2⟩ := h
    cases (show vs = [] from r)
    subst e1 e2
    exact ⟨a, [], rfl, List.mem_singleton.mpr rfl, rfl, [], [], _, .refl _, ⟨a, [y], B, rfl, ⟨y, [], B, [], rfl, d, ⟨rfl, rfl⟩, by simp⟩, rfl⟩, .refl _⟩
  · rename_i os o'
    cases e
    obtain ⟨a, vs, L', e1, r, e2⟩ := h
    subst e1 e2
    exact ⟨a, vs, rfl, List.mem_cons_self, r.length, L', [], _, by simp, ⟨a, _, _, rfl, r.snoc d, rfl⟩, .refl _⟩
  · cases e
end
def OV.isL : OV → Bool
  | .ol _ => true
  | .dl _ => true
  | _ => false
theorem own_isL {M : Str → Option Value} {F : Hp} {p : OV} {v : V} {L : Cells} (h : p.isL = true) (d : Own M F p v L) : ∃ a vs, v = .ref a ∧ (a, HO.lst vs) ∈ L := by
  unfold OV.isL at h
  split at h
  · obtain ⟨a, vs, e1, r, e2⟩ := d
    exact ⟨a, vs, e1, by rw [e2]; exact List.mem_singleton.mpr rfl⟩
  · obtain ⟨a, vs, L', e1, r, e2⟩ := d
    exact ⟨a, vs, e1, by rw [e2]; exact List.mem_cons_self⟩
  · cases h
theorem RF.isL {M : Str → Option Value} {G Z H F : Hp} {σ : Sl} {env : VEnv} {T : List (V × Rv)} {C1 C2 : Cells} {p : OV} {i : Nat} (r : RF M G Z H F σ env T C1 C2) (h : p.isL = true) (e : env[i]? = some (some p)) : ∃ a vs, σ[i]? = some (some (.ref a)) ∧ H a = some (.lst vs) := by
  obtain ⟨v, A, Lr, h1, h2, h3, _⟩ := r.ev.repl e
  obtain ⟨a, vs, e1, hm⟩ := own_isL h h2
  subst e1
  exact ⟨a, vs, h1, r.gd.hp (a, .lst vs) (List.mem_append_left _ (h3.mem_iff.mpr (List.mem_append_left _ hm)))⟩
def dApp (i : Nat) (f : DE) : DS := fun env => match env[i]? with
  | some (some p) => if p.isL then (f env).bind fun r => match r with
    | .st o => if p.size < BIG then match p.app o with
      | some p' => .ok (.nx (env.set i (some p')))
      | none => .no
      else .no
    | _ => .no
    else .no
  | _ => .no
section
variable {X : Cx} {W : WX} {pos pos' apos : Pos} {e : Expr} {f g : DE} {x : Str}
theorem PS.or {st : Stmt} {t t' : TS} (p : PS X st t) (p' : PS X st t') : PS X st (fun D σ H => t D σ H ∨ t' D σ H) := ⟨fun pins s σ H D I h => h.elim (p.run pins s σ H D I) (p'.run pins s σ H D I)⟩
theorem js_append (i : Nat) (he : JE X W e f) (hN : X.N[i]? = some x := by rfl) (hv : Vis X.env.scope x := by first | exact Or.inl rfl | exact Or.inr (Or.inl rfl) | exact Or.inr (Or.inr rfl))
    (hd : (x == ("__debug__" : Str)) = false := by decide) (hcd : (x == ("__classdict__" : Str)) = false := by decide)
    (hs : swapsWith (.Call (.Attribute (.Name x pos') "append" apos) [e] [] cpos) none pos.line X.env = pure false := by rfl)
    (hbase : attributeBase (.Name x pos') "append" X.env (eval (.Name x pos') X.env) = eval (.Name x pos') X.env := by rfl)
    (hfew : ((backTo cpos (starEach [e] X.env)).all (fun x => !x.1) && (backToKw cpos (keywordEach [] X.env)).all (fun x => x.1.isSome)
      && decide ([e].length + ([] : List Keyword).length + (if ([] : List Keyword).isEmpty then 0 else 1) < 30)) = true := by rfl)
    (hline : (apos.endLine == cpos.line) = true := by rfl) (hst : starEach [e] X.env = (false, eval e X.env) :: starEach [] X.env := by rfl) (hplain : (backTo cpos (starEach [] X.env)).any (·.1) = false := by rfl) :
    JS X W (.Expr (.Call (.Attribute (.Name x pos') "append" apos) [e] [] cpos) pos) (dApp i f) := by
  refine PS.imp (ps_expr (pe_bm F.plainAttrs_list F.slot_list_append (by rfl) (fun pins s σ H x xs v us Q I r rv q => mt_append pins s σ H x xs v us Q I r rv q) (pe_var hN hv hd hcd) (pa_cons he pa_nil hst) hbase hfew hline hst hplain) hs) fun D σ H ⟨G, Z, env, T, hT, r, p⟩ => ?_
  unfold dApp at p
  cases ei : env[i]? with
  | none => rw [ei] at p; exact p.elim
  | some ov =>
    cases ov with
    | none => rw [ei] at p; exact p.elim
    | some q =>
      rw [ei] at p
      simp only at p
      by_cases hl : q.isL = true
      · rw [if_pos hl] at p
        obtain ⟨F, C1, C2, r⟩ := r
        obtain ⟨a0, vs0, k1, k2⟩ := r.isL hl ei
        refine ⟨_, k1, .inl ⟨rfl, vs0, SqL.of k2⟩, ?_⟩
        refine tE.bindS r.r p fun rv y H1 _ s1 r1 p1 => ?_
        cases rv with
        | bo o => exact p1.elim
        | st o =>
          simp only at p1
          split at p1
          · rename_i hb
            split at p1
            · rename_i p' ep
              obtain ⟨F2, D1, D2, r1⟩ := r1
              obtain ⟨v, L, B, j1, j2, j3, j4, j5⟩ := r1.write hT ei
              rw [k1] at j1
              obtain rfl := Option.some.inj (Option.some.inj j1)
              obtain ⟨a, vs, e1, m1, m2, wr⟩ := own_app ep j2 j3
              cases e1
              exact ⟨a0, vs, y, rfl, rfl, j4 _ m1, by rw [m2, big_eq] at *; exact hb, p1 σ _ (let ⟨_, _, z⟩ := j5 _ _ _ _ wr; z.r)⟩
            · exact p1.elim
          · exact p1.elim
      · rw [if_neg hl] at p; exact p.elim
/-- x.append(y.pop(k)) -/
def dAppPop (i j : Nat) (f : DE) : DS := fun env => match env[i]?, env[j]? with
  | some (some p), some (some (.ol xs)) => if p.isL && decide (i ≠ j) && decide (xs.length ≤ BIG) && decide (p.size < BIG) then (f env).bind fun r => match r.fv with
      | .int k => match ixN xs.length k with
        | some m => match xs[m]? with
          | some x => match p.app (.fz x) with
            | some p' => .ok (.nx ((env.set j (some (.ol (xs.eraseIdx m)))).set i (some p')))
            | none => .no
          | none => .no
        | none => .no
      | _ => .no
    else .no
  | _, _ => .no
theorem FDenL.erase {M : Str → Option Value} {F : Hp} : ∀ {xs : List FV} {vs : List V} (m : Nat), FDenL M F xs vs → FDenL M F (xs.eraseIdx m) (vs.eraseIdx m)
  | [], _, m, d => by rw [show _ = [] from d]; rfl
  | x :: xs, _, 0, ⟨v, ws, e, d, r⟩ => by rw [e]; exact r
  | x :: xs, _, m + 1, ⟨v, ws, e, d, r⟩ => by rw [e]; exact ⟨v, _, rfl, d, r.erase m⟩
theorem js_appPop (i j : Nat) {y : Str} {cpos cpos2 apos2 pos2 : Pos} (he : JE X W e f) (hN : X.N[i]? = some x := by rfl) (hv : Vis X.env.scope x := by first | exact Or.inl rfl | exact Or.inr (Or.inl rfl) | exact Or.inr (Or.inr rfl))
    (hd : (x == ("__debug__" : Str)) = false := by decide) (hcd : (x == ("__classdict__" : Str)) = false := by decide)
    (hN2 : X.N[j]? = some y := by rfl) (hv2 : Vis X.env.scope y := by first | exact Or.inl rfl | exact Or.inr (Or.inl rfl) | exact Or.inr (Or.inr rfl))
    (hd2 : (y == ("__debug__" : Str)) = false := by decide) (hcd2 : (y == ("__classdict__" : Str)) = false := by decide)
    (hs : swapsWith (.Call (.Attribute (.Name x pos') "append" apos) [.Call (.Attribute (.Name y pos2) "pop" apos2) [e] [] cpos2] [] cpos) none pos.line X.env = pure false := by rfl)
    (hbase : attributeBase (.Name x pos') "append" X.env (eval (.Name x pos') X.env) = eval (.Name x pos') X.env := by rfl)
    (hfew : ((backTo cpos (starEach [.Call (.Attribute (.Name y pos2) "pop" apos2) [e] [] cpos2] X.env)).all (fun x => !x.1) && (backToKw cpos (keywordEach [] X.env)).all (fun x => x.1.isSome)
      && decide ([Expr.Call (.Attribute (.Name y pos2) "pop" apos2) [e] [] cpos2].length + ([] : List Keyword).length + (if ([] : List Keyword).isEmpty then 0 else 1) < 30)) = true := by rfl)
    (hline : (apos.endLine == cpos.line) = true := by rfl) (hst : starEach [.Call (.Attribute (.Name y pos2) "pop" apos2) [e] [] cpos2] X.env = (false, eval (.Call (.Attribute (.Name y pos2) "pop" apos2) [e] [] cpos2) X.env) :: starEach [] X.env := by rfl) (hplain : (backTo cpos (starEach [] X.env)).any (·.1) = false := by rfl)
    (hbase2 : attributeBase (.Name y pos2) "pop" X.env (eval (.Name y pos2) X.env) = eval (.Name y pos2) X.env := by rfl)
    (hfew2 : ((backTo cpos2 (starEach [e] X.env)).all (fun x => !x.1) && (backToKw cpos2 (keywordEach [] X.env)).all (fun x => x.1.isSome)
      && decide ([e].length + ([] : List Keyword).length + (if ([] : List Keyword).isEmpty then 0 else 1) < 30)) = true := by rfl)
    (hline2 : (apos2.endLine == cpos2.line) = true := by rfl) (hst2 : starEach [e] X.env = (false, eval e X.env) :: starEach [] X.env := by rfl) (hplain2 : (backTo cpos2 (starEach [] X.env)).any (·.1) = false := by rfl) :
    JS X W (.Expr (.Call (.Attribute (.Name x pos') "append" apos) [.Call (.Attribute (.Name y pos2) "pop" apos2) [e] [] cpos2] [] cpos) pos) (dAppPop i j f) := by
  have hpop := pe_bm F.plainAttrs_list F.slot_list_pop (by rfl) (fun pins s σ H x xs v us Q I r rv q => mt_popAt pins s σ H x xs v us Q I r rv q) (pe_var (pos := pos2) hN2 hv2 hd2 hcd2) (pa_cons he pa_nil hst2) hbase2 hfew2 hline2 hst2 hplain2
  refine PS.imp (ps_expr (pe_bm F.plainAttrs_list F.slot_list_append (by rfl) (fun pins s σ H x xs v us Q I r rv q => mt_append pins s σ H x xs v us Q I r rv q) (pe_var hN hv hd hcd) (pa_cons hpop pa_nil hst) hbase hfew hline hst hplain) hs) fun D σ H ⟨G, Z, env, T, hT, r, p⟩ => ?_
  unfold dAppPop at p
  split at p
  · rename_i p0 xs ei ej
    split at p
    · rename_i hc
      simp only [Bool.and_eq_true, decide_eq_true_eq] at hc
      obtain ⟨⟨⟨hl, hij⟩, hx⟩, hsz⟩ := hc
      obtain ⟨F, C1, C2, r⟩ := r
      obtain ⟨a0, vs0, k1, k2⟩ := r.isL hl ei
      obtain ⟨a1, vs1, k3, k4⟩ := r.isL (p := .ol xs) rfl ej
      refine ⟨_, k1, .inl ⟨rfl, vs0, SqL.of k2⟩, ⟨_, k3, .inl ⟨rfl, vs1, SqL.of k4⟩, ?_⟩⟩
      refine tE.bindS r.r p fun rv y H1 _ s1 r1 p1 => ?_
      split at p1
      · rename_i k ek
        split at p1
        · rename_i m em
          split at p1
          · rename_i z ez
            split at p1
            · rename_i p' ep
              obtain ⟨F2, D1, D2, r1⟩ := r1
              have hb : FDen X.mg H1 rv.fv y := (r1.bor (List.mem_cons_self (a := (y, rv)))).fden r1.fh
              rw [ek] at hb
              have hy : y = .int k := hb
              obtain ⟨F3, E1, E2, r2⟩ := r1.r.pop
              obtain ⟨F4, E3, E4, r2⟩ := r2.new (New.non r2.fh)
              obtain ⟨v, L, B, j1, j2, j3, j4, j5⟩ := r2.write hT ej
              rw [k3] at j1
              obtain rfl := Option.some.inj (Option.some.inj j1)
              obtain ⟨a, vs, e1, dd, e2⟩ := j2
              cases e1
              have hB : B = [] := j3.2
              subst hB e2
              have hlen : vs.length = xs.length := dd.length
              have hH1 : H1 a1 = some (.lst vs) := j4 (a1, .lst vs) (List.mem_singleton.mpr rfl)
              obtain ⟨q1, q2, q3, q4⟩ := ixN_seq em
              obtain ⟨w, hw, dw⟩ := dd.get ez
              have hx2 : xs.length ≤ 16777216 := hx
              refine ⟨a1, vs, k, m, w, rfl, by rw [hy], hH1, by omega, by omega, by rw [hlen]; exact q1, hw, ?_⟩
              have r3 := j5 a1 (.lst vs) (.lst (vs.eraseIdx m)) (.ol (xs.eraseIdx m)) ⟨[], [], _, .refl _, ⟨a1, _, rfl, dd.erase m, rfl⟩, .refl _⟩
              obtain ⟨E5, E6, r3⟩ := r3
              have ei' : (env.set j (some (.ol (xs.eraseIdx m))))[i]? = some (some p0) := by rw [List.getElem?_set_ne (Ne.symm hij)]; exact ei
              have r4 : RF X.mg G Z (upd H1 a1 (.lst (vs.eraseIdx m))) F4 σ (env.set j (some (.ol (xs.eraseIdx m)))) ((w, .st (.fz z)) :: T) E5 ([] ++ E6) := ⟨r3.gf, r3.fg, r3.fh, r3.zh, r3.ev, .st ⟨dw, rfl⟩ r3.tm, r3.gd⟩
              obtain ⟨v2, L2, B2, j1, j2, j3, j4, j5⟩ := r4.write hT ei'
              rw [k1] at j1
              obtain rfl := Option.some.inj (Option.some.inj j1)
              obtain ⟨a2, vs2, e1, m1, m2, wr⟩ := own_app ep j2 j3
              cases e1
              exact ⟨a0, vs2, w, rfl, rfl, j4 _ m1, by rw [m2]; exact hsz, p1 σ _ (let ⟨_, _, z⟩ := j5 _ _ _ _ wr; z.r)⟩
            · exact p1.elim
          · exact p1.elim
        · exact p1.elim
      · exact p1.elim
    · exact p.elim
  · exact p.elim
end
end J
namespace J
open PySem PySem.Spec PyProof.Rows L2
/-! ### x[k] = e -/
def putKV {κ α : Type} [DecidableEq κ] (kvs : List (κ × α)) (k : κ) (v : α) : List (κ × α) := if kvs.any (fun kv => decide (kv.1 = k)) then kvs.map (fun kv => if kv.1 = k then (kv.1, v) else kv) else kvs ++ [(k, v)]
def OV.isD2 : OV → Bool
  | .oK _ => true
  | .oT _ => true
  | .dd _ => true
  | _ => false
def OV.put (p : OV) (k : FV) (o : OV) : Option OV := match p, k, o with
  | .ol xs, .int i, .fz x => (ixN xs.length i).map fun j => .ol (xs.set j x)
  | .dl os, .int i, o => (ixN os.length i).map fun j => .dl (os.set j o)
  | .oK kvs, k, .fz x => k.key?.map fun k => .oK (putKV kvs k x)
  | .oK [], k, o => k.key?.map fun k => .dd [(k, o)]
  | .dd kvs, k, o => k.key?.bind fun k => if kvs.any (fun kv => decide (kv.1 = k)) then none else some (.dd (kvs ++ [(k, o)]))
  | .oT kvs, k, .fz x => k.keyT?.map fun k => .oT (putKV kvs k x)
  | _, _, _ => none
section
variable {M : Str → Option Value} {G Z H F : Hp} {σ : Sl} {env : VEnv} {T : List (V × Rv)} {o p p' : OV} {v y : V} {i : Nat} {L B : Cells} {L1 L2 : Cells} {a : Addr} {ho ho' : HO}
theorem OwnL.put {os : List OV} {vs : List V} (h : OwnL M F os vs L) (d : Own M F o y B) : ∀ {j : Nat}, j < os.length → ∃ D A L', L.Perm (A ++ D) ∧ OwnL M F (os.set j o) (vs.set j y) L' ∧ L'.Perm (A ++ B) := by
  induction os generalizing vs L with
  | nil => intro j hj; simp at hj
  | cons x os ih =>
    intro j hj
    obtain ⟨v, ws, A, C, e, q, r, e2⟩ := h
    subst e e2
    cases j with
    | zero => exact ⟨A, C, _, List.perm_append_comm, ⟨y, ws, B, C, rfl, d, r, rfl⟩, List.perm_append_comm⟩
    | succ j =>
      obtain ⟨D, A2, L', q1, q2, q3⟩ := ih r (j := j) (by simpa using hj)
      refine ⟨D, A ++ A2, _, ?_, ⟨v, _, A, L', rfl, q, q2, rfl⟩, ?_⟩
      · rw [List.append_assoc]; exact List.Perm.append_left A q1
      · rw [List.append_assoc]; exact List.Perm.append_left A q3
theorem FDenL.put {x : FV} {xs : List FV} {vs : List V} (h : FDenL M F xs vs) (d : FDen M F x y) : ∀ (j : Nat), FDenL M F (xs.set j x) (vs.set j y) := by
  induction xs generalizing vs with
  | nil => intro j; rw [show vs = [] from h]; exact rfl
  | cons z xs ih =>
    intro j
    obtain ⟨v, ws, e, q, r⟩ := h
    subst e
    cases j with
    | zero => exact ⟨y, ws, rfl, d, r⟩
    | succ j => exact ⟨v, _, rfl, q, ih r j⟩
theorem FDenK.any {kvs : List (Key × FV)} {ws : List (Key × V)} (h : FDenK M F kvs ws) (k : Key) : kvs.any (fun kv => decide (kv.1 = k)) = ws.any (fun kv => decide (kv.1 = k)) := by
  induction kvs generalizing ws with
  | nil => rw [show ws = [] from h]; rfl
  | cons p kvs ih =>
    obtain ⟨j, x⟩ := p
    obtain ⟨v, rs, e, q, r⟩ := h
    subst e
    rw [List.any_cons, List.any_cons, ih r]
theorem FDenT.any {kvs : List (List Key × FV)} {ws : List (List Key × V)} (h : FDenT M F kvs ws) (k : List Key) : kvs.any (fun kv => decide (kv.1 = k)) = ws.any (fun kv => decide (kv.1 = k)) := by
  induction kvs generalizing ws with
  | nil => rw [show ws = [] from h]; rfl
  | cons p kvs ih =>
    obtain ⟨j, x⟩ := p
    obtain ⟨v, rs, e, q, r⟩ := h
    subst e
    rw [List.any_cons, List.any_cons, ih r]
theorem OwnK.any {kvs : List (Key × OV)} {ws : List (Key × V)} (h : OwnK M F kvs ws L) (k : Key) : kvs.any (fun kv => decide (kv.1 = k)) = ws.any (fun kv => decide (kv.1 = k)) := by
  induction kvs generalizing ws L with
  | nil => rw [h.1]; rfl
  | cons p kvs ih =>
    obtain ⟨j, x⟩ := p
    obtain ⟨v, rs, A, C, e, q, r, _⟩ := h
    subst e
    rw [List.any_cons, List.any_cons, ih r]
theorem FDenK.snoc {x : FV} {k : Key} {kvs : List (Key × FV)} {ws : List (Key × V)} (h : FDenK M F kvs ws) (d : FDen M F x y) : FDenK M F (kvs ++ [(k, x)]) (ws ++ [(k, y)]) := by
  induction kvs generalizing ws with
  | nil => rw [show ws = [] from h]; exact ⟨y, [], rfl, d, rfl⟩
  | cons p kvs ih =>
    obtain ⟨j, z⟩ := p
    obtain ⟨v, rs, e, q, r⟩ := h
    subst e
    exact ⟨v, _, rfl, q, ih r⟩
theorem FDenT.snoc {x : FV} {k : List Key} {kvs : List (List Key × FV)} {ws : List (List Key × V)} (h : FDenT M F kvs ws) (d : FDen M F x y) : FDenT M F (kvs ++ [(k, x)]) (ws ++ [(k, y)]) := by
  induction kvs generalizing ws with
  | nil => rw [show ws = [] from h]; exact ⟨y, [], rfl, d, rfl⟩
  | cons p kvs ih =>
    obtain ⟨j, z⟩ := p
    obtain ⟨v, rs, e, q, r⟩ := h
    subst e
    exact ⟨v, _, rfl, q, ih r⟩
theorem OwnK.snoc {k : Key} {kvs : List (Key × OV)} {ws : List (Key × V)} (h : OwnK M F kvs ws L) (d : Own M F o y B) : OwnK M F (kvs ++ [(k, o)]) (ws ++ [(k, y)]) (L ++ B) := by
  induction kvs generalizing ws L with
  | nil =>
    obtain ⟨e1, e2⟩ := h
    subst e1 e2
    exact ⟨y, [], B, [], rfl, d, ⟨rfl, rfl⟩, by simp⟩
  | cons p kvs ih =>
    obtain ⟨j, z⟩ := p
    obtain ⟨v, rs, A, C, e, q, r, e2⟩ := h
    subst e e2
    exact ⟨v, _, A, _, rfl, q, ih r, by rw [List.append_assoc]⟩
theorem FDenK.repl {x : FV} {k : Key} {kvs : List (Key × FV)} {ws : List (Key × V)} (h : FDenK M F kvs ws) (d : FDen M F x y) : FDenK M F (kvs.map fun kv => if kv.1 = k then (kv.1, x) else kv) (ws.map fun kv => if kv.1 = k then (kv.1, y) else kv) := by
  induction kvs generalizing ws with
  | nil => rw [show ws = [] from h]; exact rfl
  | cons p kvs ih =>
    obtain ⟨j, z⟩ := p
    obtain ⟨v, rs, e, q, r⟩ := h
    subst e
    rw [List.map_cons, List.map_cons]
    by_cases hj : j = k
    · simp only [hj, if_true]; exact ⟨y, _, rfl, d, ih r⟩
    · simp only [hj, if_false]; exact ⟨v, _, rfl, q, ih r⟩
theorem FDenT.repl {x : FV} {k : List Key} {kvs : List (List Key × FV)} {ws : List (List Key × V)} (h : FDenT M F kvs ws) (d : FDen M F x y) : FDenT M F (kvs.map fun kv => if kv.1 = k then (kv.1, x) else kv) (ws.map fun kv => if kv.1 = k then (kv.1, y) else kv) := by
  induction kvs generalizing ws with
  | nil => rw [show ws = [] from h]; exact rfl
  | cons p kvs ih =>
    obtain ⟨j, z⟩ := p
    obtain ⟨v, rs, e, q, r⟩ := h
    subst e
    rw [List.map_cons, List.map_cons]
    by_cases hj : j = k
    · simp only [hj, if_true]; exact ⟨y, _, rfl, d, ih r⟩
    · simp only [hj, if_false]; exact ⟨v, _, rfl, q, ih r⟩
theorem FDenK.put {x : FV} {k : Key} {kvs : List (Key × FV)} {ws : List (Key × V)} (h : FDenK M F kvs ws) (d : FDen M F x y) : FDenK M F (putKV kvs k x) (putK ws k y) := by
  unfold putKV putK
  rw [h.any]
  split
  · exact h.repl d
  · exact h.snoc d
theorem FDenT.put {x : FV} {k : List Key} {kvs : List (List Key × FV)} {ws : List (List Key × V)} (h : FDenT M F kvs ws) (d : FDen M F x y) : FDenT M F (putKV kvs k x) (putK ws k y) := by
  unfold putKV putK
  rw [h.any]
  split
  · exact h.repl d
  · exact h.snoc d
theorem FDenT.length {kvs : List (List Key × FV)} {ws : List (List Key × V)} (h : FDenT M F kvs ws) : ws.length = kvs.length := by
  induction kvs generalizing ws with
  | nil => rw [show ws = [] from h]; rfl
  | cons p kvs ih => obtain ⟨j, z⟩ := p; obtain ⟨v, rs, e, q, r⟩ := h; subst e; rw [List.length_cons, List.length_cons, ih r]
theorem OwnK.length {kvs : List (Key × OV)} {ws : List (Key × V)} (h : OwnK M F kvs ws L) : ws.length = kvs.length := by
  induction kvs generalizing ws L with
  | nil => rw [h.1]; rfl
  | cons p kvs ih => obtain ⟨j, z⟩ := p; obtain ⟨v, rs, A, C, e, q, r, _⟩ := h; subst e; rw [List.length_cons, List.length_cons, ih r]
/-- what x[k] = e does -/
theorem own_put {k : FV} {w : V} (e : p.put k o = some p') (h : Own M F p v L) (d : Own M F o y B) (dk : FDen M H k w) (hH : ∀ q ∈ L, H q.1 = some q.2) (hs : p.size < BIG) :
    (p.isL = true ∧ ∃ a vs i j, v = .ref a ∧ w = .int i ∧ H a = some (.lst vs) ∧ ixN vs.length i = some j ∧ Wrote M F L B v a (.lst vs) (.lst (vs.set j y)) p') ∨
    (p.isD2 = true ∧ ∃ a ho ho', v = .ref a ∧ DPut H a w y (upd H a ho') ∧ Wrote M F L B v a ho ho' p') := by
  unfold OV.put at e
  split at e
  · rename_i xs i x
    obtain ⟨j, ej, e⟩ := Option.map_eq_some_iff.mp e
    subst e
    obtain ⟨a, vs, e1, r, e2⟩ := h
    obtain ⟨d, hB⟩ := d
    subst hB e1 e2
    exact .inl ⟨rfl, a, vs, i, j, rfl, dk, hH _ (List.mem_singleton.mpr rfl), by rw [r.length]; exact ej, [], [], _, .refl _, ⟨a, _, rfl, r.put d j, rfl⟩, .refl _⟩
  · rename_i os i
    obtain ⟨j, ej, e⟩ := Option.map_eq_some_iff.mp e
    subst e
    obtain ⟨a, vs, L', e1, r, e2⟩ := h
    subst e1 e2
    obtain ⟨D, A, L2, q1, q2, q3⟩ := r.put d (ixN_seq ej).2.1
    exact .inl ⟨rfl, a, vs, i, j, rfl, dk, hH _ List.mem_cons_self, by rw [r.length]; exact ej, A, D, _, q1.cons _, ⟨a, _, _, rfl, q2, rfl⟩, q3.cons _⟩
  · rename_i kvs k x
    obtain ⟨k', ek, e⟩ := Option.map_eq_some_iff.mp e
    subst e
    obtain ⟨a, ws, e1, r, e2⟩ := h
    obtain ⟨d, hB⟩ := d
    subst hB e1 e2
    refine .inr ⟨rfl, a, .dK ws, .dK (putK ws k' y), rfl, ?_, [], [], _, .refl _, ⟨a, _, rfl, r.put d, rfl⟩, .refl _⟩
    rw [dk.key ek]
    exact DPut.k (hH (a, .dK ws) (List.mem_singleton.mpr rfl)) (by rw [r.length, big_eq]; exact hs)
  · rename_i k o _
    obtain ⟨k', ek, e⟩ := Option.map_eq_some_iff.mp e
    subst e
    obtain ⟨a, ws, e1, r, e2⟩ := h
    cases (show ws = [] from r)
    subst e1 e2
    refine .inr ⟨rfl, a, .dK [], .dK [(k', y)], rfl, ?_, [], [], _, .refl _, ⟨a, _, _, rfl, ⟨y, [], B, [], rfl, d, ⟨rfl, rfl⟩, rfl⟩, rfl⟩, by simp⟩
    rw [dk.key ek]
    exact DPut.k (kvs := []) (k := k') (hH (a, .dK []) (List.mem_singleton.mpr rfl)) (by rw [big_eq]; decide)
  · rename_i kvs k o
    obtain ⟨k', ek, e⟩ := Option.bind_eq_some_iff.mp e
    split at e
    · cases e
    · rename_i hn
      cases e
      obtain ⟨a, ws, L', e1, r, e2⟩ := h
      subst e1 e2
      have hp : putK ws k' y = ws ++ [(k', y)] := by
        unfold putK
        rw [← r.any, if_neg hn]
      refine .inr ⟨rfl, a, .dK ws, .dK (putK ws k' y), rfl, ?_, L', [], _, by simp, ⟨a, _, _, rfl, by rw [hp]; exact r.snoc d, rfl⟩, .refl _⟩
      rw [dk.key ek]
      exact DPut.k (hH (a, .dK ws) List.mem_cons_self) (by rw [r.length, big_eq]; exact hs)
  · rename_i kvs k x
    obtain ⟨k', ek, e⟩ := Option.map_eq_some_iff.mp e
    subst e
    obtain ⟨a, ws, e1, r, e2⟩ := h
    obtain ⟨d, hB⟩ := d
    subst hB e1 e2
    obtain ⟨b, eb, hb⟩ := dk.keyT ek
    subst eb
    exact .inr ⟨rfl, a, .dT ws, .dT (putK ws k' y), rfl, DPut.t (hH (a, .dT ws) (List.mem_singleton.mpr rfl)) hb (by rw [r.length, big_eq]; exact hs), [], [], _, .refl _, ⟨a, _, rfl, r.put d, rfl⟩, .refl _⟩
  · cases e
end
theorem isL_D2 {p : OV} (h : p.isL = true) (h2 : p.isD2 = true) : False := by
  cases p <;> simp [OV.isL, OV.isD2] at h h2
def dPut (i : Nat) (fk fe : DE) : DS := fun env => match env[i]? with
  | some (some p) => if p.isL || p.isD2 then (fe env).bind fun r => match r with
      | .st o => (fk env).bind fun kr => if p.size < BIG then match p.put kr.fv o with
          | some p' => .ok (.nx (env.set i (some p')))
          | none => .no
        else .no
      | _ => .no
    else .no
  | _ => .no
theorem tE.bindS2 {M : Str → Option Value} {G Z H : Hp} {σ : Sl} {env : VEnv} {T T2 : List (V × Rv)} {W : WX} {D : Ends} {f : DE} {k : Rv → Ans SO} {Q1 : VK} (r : R M G Z H σ env T2) (hs : Sb T T2) (p : PostS M W G Z T D ((f env).bind k))
    (h : ∀ rv v H1, f env = .ok rv → Same H H1 → R M G Z H1 σ env ((v, rv) :: T2) → PostS M W G Z T D (k rv) → Q1 v H1) : tE M W f σ H Q1 := by
  refine tE.then r hs (fun rv v H1 e s r => h rv v H1 e s r ?_) (fun c C H1 e m s r => ?_) fun e => ?_
  · rw [e] at p; exact p
  · rw [e] at p
    obtain ⟨_, _, _, r⟩ := r
    exact p C σ H1 m r.zh
  · rw [e] at p; exact p
section
variable {X : Cx} {W : WX} {pos pos' apos tpos : Pos} {e k : Expr} {f fk fe : DE} {x : Str}
theorem put_run {M : Str → Option Value} {G Z H : Hp} {σ : Sl} {env : VEnv} {T : List (V × Rv)} {i : Nat} {D : Ends} {p : OV} (hT : AllSt T) (ei : env[i]? = some (some p)) (r : R M G Z H σ env T) (h : PostS M W G Z T D ((fe env).bind fun r => match r with
      | .st o => (fk env).bind fun kr => if p.size < BIG then match p.put kr.fv o with
          | some p' => .ok (.nx (env.set i (some p')))
          | none => .no
        else .no
      | _ => .no)) (Qf : V → V → V → Hp → Prop)
    (hQ : ∀ a w y H3, ((p.isL = true ∧ ∃ vs i j, w = .int i ∧ H3 a = some (.lst vs) ∧ ixN vs.length i = some j ∧ D.nx σ (upd H3 a (.lst (vs.set j y)))) ∨ (p.isD2 = true ∧ ∃ H4, DPut H3 a w y H4 ∧ D.nx σ H4)) → Qf (.ref a) w y H3) :
    tE M W fe σ H fun y H1 => ∃ v, σ[i]? = some (some v) ∧ tE M W fk σ H1 fun w H3 => Qf v w y H3 := by
  refine tE.bindS r h fun rv y H1 _ s1 r1 p1 => ?_
  cases rv with
  | bo o => exact p1.elim
  | st o =>
    simp only at p1
    obtain ⟨F1, D1, D2, r1⟩ := r1
    obtain ⟨v0, A0, _, h1, _⟩ := r1.ev.repl ei
    refine ⟨v0, h1, ?_⟩
    refine tE.bindS2 r1.r Sb.refl.cons p1 fun kr w H3 _ s3 r3 p3 => ?_
    split at p3
    · rename_i hs
      split at p3
      · rename_i p' ep
        obtain ⟨F3, D3, D4, r3⟩ := r3
        have dk : FDen M H3 kr.fv w := (r3.bor (List.mem_cons_self (a := (w, kr)))).fden r3.fh
        obtain ⟨F4, D5, D6, r4⟩ := r3.r.pop
        obtain ⟨v, L, B, j1, j2, j3, j4, j5⟩ := r4.write hT ei
        rw [h1] at j1
        obtain rfl := Option.some.inj (Option.some.inj j1)
        rcases own_put ep j2 j3 dk j4 hs with ⟨hp, a, vs, n, j, e1, e2, e3, e4, wr⟩ | ⟨hp, a, ho, ho', e1, e2, wr⟩
        · subst e1
          exact hQ a w y H3 (.inl ⟨hp, vs, n, j, e2, e3, e4, p3 σ _ (let ⟨_, _, z⟩ := j5 _ _ _ _ wr; z.r)⟩)
        · subst e1
          exact hQ a w y H3 (.inr ⟨hp, _, e2, p3 σ _ (let ⟨_, _, z⟩ := j5 _ _ _ _ wr; z.r)⟩)
      · exact p3.elim
    · exact p3.elim
theorem js_put (i : Nat) (hu : X.A.units + 1 < cLine) (hk : JE X W k fk) (he : JE X W e fe) (hN : X.N[i]? = some x := by rfl) (hv : Vis X.env.scope x := by first | exact Or.inl rfl | exact Or.inr (Or.inl rfl) | exact Or.inr (Or.inr rfl))
    (hd : (x == ("__debug__" : Str)) = false := by decide) (hcd : (x == ("__classdict__" : Str)) = false := by decide)
    (hs1 : swapsWith e (some (.Subscript (.Name x pos') k tpos)) pos.line X.env = pure false := by rfl)
    (hs : swapsWithSole [.Subscript (.Name x pos') k tpos] e pos.line X.env = pure false := by rfl) (hw : swappedStores [.Subscript (.Name x pos') k tpos] e X.env = pure none := by rfl)
    (h1 : (assignEach [.Subscript (.Name x pos') k tpos] X.env).map (·.2) = [assign (.Subscript (.Name x pos') k tpos) X.env] := by rfl)
    (ha : ∀ v, assign (.Subscript (.Name x pos') k tpos) X.env v = (do
      let ov ← holding [v] (eval (.Name x pos') X.env)
      let iv ← holding [v, ov] (eval k X.env)
      standAt tpos
      holding [v, ov, iv] (setItem ov iv v)
      release [v, ov, iv] []) := by intro _; rfl) :
    JS X W (.Assign [.Subscript (.Name x pos') k tpos] e pos) (dPut i fk fe) := by
  refine PS.imp (PS.or (ps_asg he (pg_sub (pe_var (pos := pos') hN hv hd hcd) hk set_list ha) hs hw h1) (ps_dput hu (pe_var (pos := pos') hN hv hd hcd) hk he hs1)) fun D σ H ⟨G, Z, env, T, hT, r, p⟩ => ?_
  unfold dPut at p
  split at p
  · rename_i q ei
    split at p
    · rename_i hq
      rw [Bool.or_eq_true] at hq
      rcases hq with hq | hq
      · refine .inl (put_run hT ei r p (fun o i y H3 => rSetL o i y H3 fun H4 => D.nx σ H4) fun a w y H3 h => ?_)
        rcases h with ⟨_, vs, n, j, e1, e2, e3, e4⟩ | ⟨hd, _⟩
        · exact ⟨a, vs, n, j, rfl, e1, e2, e3, e4⟩
        · exact (isL_D2 hq hd).elim
      · refine .inr (put_run hT ei r p (fun o i y H3 => ∃ a H4, o = .ref a ∧ DPut H3 a i y H4 ∧ D.nx σ H4) fun a w y H3 h => ?_)
        rcases h with ⟨hl, _⟩ | ⟨_, H4, e1, e2⟩
        · exact (isL_D2 hl hq).elim
        · exact ⟨a, H4, rfl, e1, e2⟩
    · exact p.elim
  · exact p.elim
end
end J
namespace J
open PySem PySem.Spec PyProof.Rows L2
/-! ### sorted -/
def FV.enc (x : FV) : PyData := x.toD.getD .none
def sortFV (xs : List FV) : List FV := xs.mergeSort (PySem.W.dataLe false FV.enc)
def tupD : PyData → Bool
  | .tuple (_ :: _) => true
  | _ => false
def othD : PyData → Bool
  | .none => false
  | .tuple _ => false
  | _ => true
def sortOk (xs : List FV) : Bool := xs.all (fun x => x.toD.isSome) && xs.all (fun x => xs.all fun y => PySem.W.alike x.enc y.enc) && (xs.all (fun x => tupD x.enc) || xs.all fun x => othD x.enc) && decide (xs.length ≤ BIG) && xs.all fun x => decide (x.enc.depth ≤ 60)
def opSorted : List OV → Option OV
  | [o] => o.lst?.bind fun xs => if sortOk xs then some (.ol (sortFV xs)) else none
  | _ => none
/-- a value that stands for the frozen x -/
def SF (M : Str → Option Value) (F : Hp) (u : Value) (x : FV) : Prop := ∃ v, RelV v u ∧ FDen M F x v
theorem sf_of {M : Str → Option Value} {F : Hp} : ∀ {xs : List FV} {vs : List V} {us : List Value}, FDenL M F xs vs → Vals vs us → PySem.W.EachIs (SF M F) us xs
  | [], _, _, d, r => by
    rw [show _ = [] from d] at r
    cases r
    exact .nil
  | x :: xs, _, _, ⟨v, ws, e, d, q⟩, r => by
    rw [e] at r
    cases r with
    | cons r1 r2 => exact .cons ⟨v, r1, d⟩ (sf_of q r2)
theorem of_sf {M : Str → Option Value} {F : Hp} : ∀ {xs : List FV} {us : List Value}, PySem.W.EachIs (SF M F) us xs → ∃ vs, FDenL M F xs vs ∧ Vals vs us
  | [], _, h => by cases h; exact ⟨[], rfl, .nil⟩
  | x :: xs, _, h => by
    cases h with
    | cons h1 h2 =>
      obtain ⟨v, r, d⟩ := h1
      obtain ⟨vs, q1, q2⟩ := of_sf h2
      exact ⟨v :: vs, ⟨v, vs, rfl, d, q1⟩, .cons r q2⟩
theorem tupD_of {d : PyData} (h : tupD d = true) : ∃ x r, d = .tuple (x :: r) := by
  unfold tupD at h
  split at h
  · exact ⟨_, _, rfl⟩
  · cases h
theorem othD_of {d : PyData} (h : othD d = true) : d ≠ .none ∧ ∀ xs, d ≠ .tuple xs := by
  constructor
  · rintro rfl; cases h
  · rintro xs rfl; cases h
section
variable {X : Cx}
theorem sf_reads {pins : List (Addr × Obj)} {σ : Sl} {H F : Hp} {s : Shared} (I : Inv X pins σ H s) (hf : Same F H) : ∀ {xs : List FV} {us : List Value}, xs.all (fun x => x.toD.isSome) = true → PySem.W.EachIs (SF X.mg F) us xs → PySem.W.EachIs (fun u x => ∃ as, Reads s.heap u x.enc as) us xs
  | [], _, _, h => by cases h; exact .nil
  | x :: xs, _, ha, h => by
    cases h with
    | cons h1 h2 =>
      rw [List.all_cons, Bool.and_eq_true] at ha
      obtain ⟨v, r, d⟩ := h1
      refine .cons ?_ (sf_reads I hf ha.2 h2)
      obtain ⟨dd, e⟩ := Option.isSome_iff_exists.mp ha.1
      have : x.enc = dd := by unfold FV.enc; rw [e]; rfl
      rw [this]
      exact Dp.reads I dd v _ ((d.mono hf).dp e) r
theorem sortable_of {xs : List FV} (h : (xs.all (fun x => tupD x.enc) || xs.all fun x => othD x.enc) = true) : PySem.W.Sortable (xs.map FV.enc) := by
  rw [Bool.or_eq_true] at h
  rcases h with h | h
  · refine .inl fun d hd => ?_
    obtain ⟨x, hx, rfl⟩ := List.mem_map.mp hd
    exact tupD_of (List.all_eq_true.mp h x hx)
  · refine .inr fun d hd => ?_
    obtain ⟨x, hx, rfl⟩ := List.mem_map.mp hd
    exact othD_of (List.all_eq_true.mp h x hx)
theorem alike_of {xs : List FV} (h : xs.all (fun x => xs.all fun y => PySem.W.alike x.enc y.enc) = true) : PySem.W.AllAlike (xs.map FV.enc) := by
  intro d hd d' hd'
  obtain ⟨x, hx, rfl⟩ := List.mem_map.mp hd
  obtain ⟨y, hy, rfl⟩ := List.mem_map.mp hd'
  exact List.all_eq_true.mp (List.all_eq_true.mp h x hx) y hy
theorem cj_sorted (hu : X.A.units + 62 < cLine) : CallR X (.builtin "sorted") (rJn X.mg opSorted) := by
  rintro pins s σ H us vs Q I rs ⟨F, os, o, hf, ps, e, k⟩
  unfold opSorted at e
  split at e
  · rename_i q
    obtain ⟨xs, e1, e2⟩ := Option.bind_eq_some_iff.mp e
    split at e2
    · rename_i hs
      cases e2
      obtain ⟨u, rfl, b⟩ := paired1 ps
      obtain ⟨a, ws, rfl, hq, d⟩ := b.lst hf e1
      rw [Vals.ref1 rs]
      obtain ⟨its, rv, hl, hz⟩ := I.list (SqL.of (K := X.K) hq)
      unfold sortOk at hs
      simp only [Bool.and_eq_true] at hs
      obtain ⟨⟨⟨⟨h1, h2⟩, h3⟩, h4⟩, h5⟩ := hs
      have es := sf_of d rv
      refine PySem.W.sorted_data (enc := FV.enc) (bs := xs) hl.isList es (sf_reads I hf h1 es) (alike_of h2) (sortable_of h3) (by rw [big_eq]; exact of_decide_eq_true h4) (fun b hb => ?_) fun out ho eo => ?_
      · have := of_decide_eq_true (List.all_eq_true.mp h5 b hb)
        omega
      · obtain ⟨ys, q1, q2⟩ := of_sf eo
        obtain ⟨ep, he'⟩ := PyProof.Rows.sortedAll_at s.heap its out.toArray
        have hlen : ys.length ≤ sizeLine := by
          rw [q1.length, List.length_mergeSort, big_eq]
          exact of_decide_eq_true h4
        exact ⟨.ref _, upd H (s.heap.objs.size + 1) (.lst ys), I.laid (t' := s.toks) (fun _ _ => PyProof.Rows.sortedAll_old) (Nat.le_succ _) ⟨hlen, out, ep, q2, he'⟩, rfl, k _ _ (New.lst hf (I.hok.fresh (Nat.le_succ _)) q1)⟩
    · cases e2
  · cases e
end
end J
namespace J
open PySem PySem.Spec PyProof.Rows L2
/-! ### the keys of a dict -/
def keyF : Key → FV
  | .inl i => .int i
  | .inr x => .str x
def tKeys (te : TE) (r : List Key → Hp → VK → Prop) : TE := fun σ H Q => te σ H fun x H1 => ∃ d kvs, x = .ref d ∧ Rd H1 d (.dK kvs) ∧ r (kvs.map (·.1)) H1 Q
def rKeysL : List Key → Hp → VK → Prop := fun ks H Q => ∀ p, H p = none → Q (.ref p) (upd H p (.lst (ks.map kV)))
def rKeysS : List Key → Hp → VK → Prop := fun ks H Q => sortOk (ks.map keyF) = true ∧ ∀ ys p, (∀ M F, FDenL M F (sortFV (ks.map keyF)) ys) → H p = none → Q (.ref p) (upd H p (.lst ys))
theorem keyF_den {M : Str → Option Value} {F : Hp} : ∀ ks : List Key, FDenL M F (ks.map keyF) (ks.map kV)
  | [] => rfl
  | .inl i :: ks => ⟨.int i, _, rfl, rfl, keyF_den ks⟩
  | .inr x :: ks => ⟨.str x, _, rfl, rfl, keyF_den ks⟩
theorem keyF_flat {M M' : Str → Option Value} {F F' : Hp} : ∀ {xs : List FV} {vs : List V}, (∀ x ∈ xs, ∃ k, x = keyF k) → FDenL M F xs vs → FDenL M' F' xs vs
  | [], _, _, h => h
  | x :: xs, _, hk, ⟨v, ws, e, d, r⟩ => by
    refine ⟨v, ws, e, ?_, keyF_flat (fun x hx => hk x (List.mem_cons_of_mem _ hx)) r⟩
    obtain ⟨k, rfl⟩ := hk x List.mem_cons_self
    cases k with
    | inl i => exact d
    | inr x => exact d
theorem keyF_reads {h : Heap} {a : Addr} : ∀ {ks : List Key} {us : List Value}, Vals (ks.map kV) us → PySem.W.EachIs (fun v b => ∃ as, Reads h v (FV.enc b) as ∧ a ∉ as) us (ks.map keyF)
  | [], _, r => by cases r; exact .nil
  | .inl i :: ks, _, r => by
    cases r with
    | cons r1 r2 =>
      obtain ⟨t, rfl⟩ := r1
      exact .cons ⟨[], .int i t, by simp⟩ (keyF_reads r2)
  | .inr x :: ks, _, r => by
    cases r with
    | cons r1 r2 =>
      obtain ⟨t, rfl⟩ := r1
      exact .cons ⟨[], .str x t, by simp⟩ (keyF_reads r2)
section
variable {X : Cx} {e : Expr} {te : TE} {p apos cpos pos : Pos}
/-- what a walk over the keys gave, as values of the model -/
theorem keys_of {kvs : List (Key × V)} {vs : List (Key × Value)} {us : Array Value} (rel : KV kvs vs) (h : ItemsOf (fun i v => ∃ k x, vs[i]? = some (k, x) ∧ (mixKind X.prog X.w).is k v = true) us vs.length) : Vals ((kvs.map (·.1)).map kV) us.toList := by
  rw [rel.keys, List.map_map]
  exact L2.keys_at (by rw [Array.length_toList]; exact h.1) fun j v e => h.2 j v (by rw [← Array.getElem?_toList]; exact e)
/-- the view that d.keys() makes -/
abbrev keysView (d : Addr) : Obj := { cls := .type "dict_keys", data := .fields #[.ref d] }
/-- d.keys() by itself: a view of d, and all else as it was -/
theorem ev_view {pins : List (Addr × Obj)} {σ : L2.St} {H : Hp} {s : Shared} {C : List (Key × V) → Hp → Prop} {Q : Value → Shared → Prop} (he : PE X e te) (hbase : attributeBase e "keys" X.env (eval e X.env) = eval e X.env) (hline : (apos.endLine == cpos.line) = true) (I : Inv X pins σ H s)
    (ht : te σ H fun x H1 => ∃ d kvs, x = .ref d ∧ Rd H1 d (.dK kvs) ∧ C kvs H1)
    (q : ∀ (t : Shared) H1 d kvs vs ep, C kvs H1 → KV kvs vs → vs.length ≤ sizeLine → t.heap.DictAt (mixKind X.prog X.w) d vs ep → Inv X pins σ H1 t → Inv X pins σ H1 { t with heap := t.heap.push (keysView d) } → Q (.ref t.heap.objs.size) { t with heap := t.heap.push (keysView d) }) :
    wpAny (model X.prog X.w) X.A (eval (.Call (.Attribute e "keys" apos) [] [] cpos) X.env) Q X.xe s := by
  refine wpAny_Call_method (T := "dict") (id := "dict.keys") hbase rfl hline F.plainAttrs_dict F.slot_dict_keys F.type_dict_keys (thn (he.run pins s σ H _ I ht) ?_)
  rintro u t ⟨_, H1, I1, ru, d, kvs, rfl, hd, c⟩
  cases ru
  have ⟨few, notSys, vs, kv, isD⟩ := dk_rd I1.hok hd
  have ⟨ep, at_d⟩ := isD.dictAt
  rw [Paired.length kv] at few
  have I2 : Inv X pins σ H1 { t with heap := t.heap.push (keysView d) } := I1.kept (t' := t.toks) fun _ _ => Heap.get?_push_of_some _
  have mk := PySem.W.kdl_meets_keys (mixKind X.prog X.w) d notSys
  exact ⟨isD.typeIs, isD.mapOf.noDict, method_meetsIn F.slot_dict_keys F.entry_dict_keys rfl (PySem.evalArgs_none ⟨rfl, isD.typeIs, F.args_dict_keys_1 _, _, mk, ⟨vs, isD⟩, q t H1 d kvs vs ep c kv few at_d I1 I2⟩)⟩
theorem view_ok {t : Shared} {d : Addr} {vs : List (Key × Value)} {ep : Nat} (h : t.heap.DictAt (mixKind X.prog X.w) d vs ep) : PySem.W.KdlKeysView (t.heap.push (keysView d)) t.heap.objs.size d ∧ (t.heap.push (keysView d)).DictAt (mixKind X.prog X.w) d vs ep := ⟨⟨_, Heap.get?_push_size _ rfl, rfl, rfl⟩, h.push _⟩
theorem pe_listKeys (hc : X.calm = true) (he : PE X e te) (hg : Gl X "list") (hm : X.mg "list" = none) (hv : bootBuiltins "list" = some (.type "list")) (hbase : attributeBase e "keys" X.env (eval e X.env) = eval e X.env := by rfl) (hline : (apos.endLine == cpos.line) = true := by rfl)
    (hs : starEach [.Call (.Attribute e "keys" apos) [] [] cpos] X.env = (false, eval (.Call (.Attribute e "keys" apos) [] [] cpos) X.env) :: starEach [] X.env := by rfl) :
    PE X (.Call (.Name "list" p) [.Call (.Attribute e "keys" apos) [] [] cpos] [] pos) (tKeys te rKeysL) := by
  constructor
  intro pins s σ H Q I hq
  refine wpAny_Call_Name_kw (ld_blt I hg hm hv (PyProof.Rows.callWith_type1 ?_ hs rfl))
  rw [hs]
  refine Calls.spliced_cons (ev_view (C := fun kvs H1 => rKeysL (kvs.map fun q : Key × V => q.1) H1 Q) (te := te) he hbase hline I hq fun t H1 d kvs vs ep c kv few at_d I1 I2 => Calls.spliced_nil ?_)
  refine PySem.W.kdl_call (PySem.W.kdl_keys (knd := mixKind X.prog X.w) (kvs := vs) (ep := ep)) (I1.ok.hd hc) (view_ok at_d) few fun h' tk acc c' old isL got => ?_
  have z := size_push' t.heap (keysView d)
  rw [z] at isL ⊢
  have free : H1 (t.heap.objs.size + 1) = none := I1.hok.fresh (Nat.le_succ _)
  refine ⟨.ref _, upd H1 (t.heap.objs.size + 1) (.lst ((kvs.map (·.1)).map kV)), I2.laid (t' := tk) old (Nat.le_of_eq z) ⟨?_, acc.toList, c', keys_of kv got, isL⟩, rfl, c _ free⟩
  rw [List.length_map, List.length_map, Paired.length kv]
  exact few
theorem pe_sortedKeys (hc : X.calm = true) (hu : X.A.units + 62 < cLine) (he : PE X e te) (hg : Gl X "sorted") (hm : X.mg "sorted" = none) (hv : bootBuiltins "sorted" = some (.builtin "sorted")) (hbase : attributeBase e "keys" X.env (eval e X.env) = eval e X.env := by rfl) (hline : (apos.endLine == cpos.line) = true := by rfl)
    (hs : starEach [.Call (.Attribute e "keys" apos) [] [] cpos] X.env = (false, eval (.Call (.Attribute e "keys" apos) [] [] cpos) X.env) :: starEach [] X.env := by rfl) :
    PE X (.Call (.Name "sorted" p) [.Call (.Attribute e "keys" apos) [] [] cpos] [] pos) (tKeys te rKeysS) := by
  constructor
  intro pins s σ H Q I hq
  refine wpAny_Call_Name_kw (ld_blt I hg hm hv (PyProof.Rows.callWith_builtin1 ?_ hs rfl))
  rw [hs]
  refine Calls.spliced_cons (ev_view (C := fun kvs H1 => rKeysS (kvs.map fun q : Key × V => q.1) H1 Q) he hbase hline I hq fun t H1 d kvs vs ep c kv few at_d I1 I2 => Calls.spliced_nil (Calls.call_function_entry kind_sorted plain_sorted entry_sorted (args_sorted1 _) ?_))
  have ⟨can, c⟩ := c
  -- the keys into a list of their own
  unfold Builtin.«sorted»
  refine wpAny_bind (m := checkCount _ _ _ _) (wpAny_pure (wpAny_bind (PySem.W.kdu_collect (A := X.A.in1) (PySem.W.kdl_keys (knd := mixKind X.prog X.w) (kvs := vs) (ep := ep)) (I1.ok.hd hc) (view_ok at_d) few fun h' tk acc old got => ?_)))
  have I3 : Inv X pins σ H1 { t with heap := h', toks := tk } := I2.kept (t' := tk) old
  have ks := keys_of kv got
  have zk : acc.toList.length = ((kvs.map (·.1)).map keyF).length := by
    have e := ks.length
    rw [List.length_map] at e
    rw [List.length_map, ← e]
  have fewF : ((kvs.map (·.1)).map keyF).length ≤ sizeLine := by
    rw [List.length_map, List.length_map, Paired.length kv]
    exact few
  refine wpAny_bind (wpAny_newList ?_ (zk ▸ fewF))
  -- and that list sorted
  have fresh : (h'.push (seqObj "list" acc.toList.toArray 0)).get? h'.objs.size = some (seqObj "list" acc.toList.toArray 0) := Heap.get?_push_size _ rfl
  have can' := can
  simp only [sortOk, Bool.and_eq_true] at can'
  have ⟨⟨⟨⟨_, alike⟩, able⟩, _⟩, units⟩ := can'
  refine wpAny_bind (wpAny_holding (PySem.W.list_sort_data (s := { t with heap := h'.push (seqObj "list" acc.toList.toArray 0), toks := tk }) (enc := FV.enc) fresh (sf_of (M := X.mg) (keyF_den (F := H1) _) ks) (keyF_reads ks) (alike_of alike) (sortable_of able) fewF (fun b hb => ?_) fun out ho eo => ?_))
  · have u := of_decide_eq_true (List.all_eq_true.mp units b hb)
    show X.A.units + 1 + 1 + _ < cLine
    omega
  · have ⟨ys, den, rel⟩ := of_sf eo
    have ⟨c', isL⟩ := sortedHeap_at (vs := acc.toList) (out := out.toArray) fresh
    have flat : ∀ M F, FDenL M F (sortFV ((kvs.map (·.1)).map keyF)) ys := fun M F => keyF_flat (fun x hx => by
      have ⟨k, _, e⟩ := List.mem_map.mp ((List.mergeSort_perm _ _).mem_iff.mp hx)
      exact ⟨k, e.symm⟩) den
    have fewY : ys.length ≤ sizeLine := by
      rw [den.length, List.length_mergeSort]
      exact fewF
    refine wpAny_pure ⟨_, rfl, .ref h'.objs.size, upd H1 h'.objs.size (.lst ys), I3.laid (t' := tk) (fun b u e => ?_) (Nat.le_refl _) ⟨fewY, out, c', rel, isL⟩, rfl, c ys _ flat (I3.hok.fresh (Nat.le_refl _))⟩
    have lt := Heap.lt_size e
    have e2 := Heap.get?_push_of_some (seqObj "list" acc.toList.toArray 0) e
    rwa [← sortedHeap_old (out := out.toArray) (Nat.ne_of_lt lt) (size_push' h' _ ▸ Nat.lt_succ_of_lt lt)] at e2
/-! as derivations -/
def dKeysL (f : DE) : DE := fun env => (f env).bind fun r => match r.ov with
  | .oK kvs => .ok (.st (.ol (kvs.map fun kv => keyF kv.1)))
  | .fz (.dK kvs) => .ok (.st (.ol (kvs.map fun kv => keyF kv.1)))
  | _ => .no
def dKeysS (f : DE) : DE := fun env => (f env).bind fun r => match r.ov with
  | .oK kvs => if sortOk (kvs.map fun kv => keyF kv.1) then .ok (.st (.ol (sortFV (kvs.map fun kv => keyF kv.1)))) else .no
  | .fz (.dK kvs) => if sortOk (kvs.map fun kv => keyF kv.1) then .ok (.st (.ol (sortFV (kvs.map fun kv => keyF kv.1)))) else .no
  | _ => .no
theorem FDenK.keys {M : Str → Option Value} {F : Hp} : ∀ {kvs : List (Key × FV)} {ws : List (Key × V)}, FDenK M F kvs ws → ws.map (·.1) = kvs.map (·.1)
  | [], _, h => by rw [show _ = [] from h]; rfl
  | (k, x) :: r, _, ⟨v, rs, e, _, q⟩ => by rw [e, List.map_cons, List.map_cons, q.keys]
theorem Bor.dK {M : Str → Option Value} {F H : Hp} {o : OV} {u : V} {kvs : List (Key × FV)} (hf : Same F H) (b : Bor M F H o u) (e : o = .oK kvs ∨ o = .fz (.dK kvs)) : ∃ d ws, u = .ref d ∧ H d = some (.dK ws) ∧ ws.map (·.1) = kvs.map (·.1) := by
  rcases e with rfl | rfl
  · obtain ⟨A, ⟨a, ws, e, d, q⟩, c⟩ := b
    exact ⟨a, ws, e, c (a, .dK ws) (by rw [q]; exact List.mem_singleton.mpr rfl), d.keys⟩
  · obtain ⟨A, ⟨⟨a, ws, e, q, d⟩, _⟩, c⟩ := b
    exact ⟨a, ws, e, hf _ _ q, d.keys⟩
theorem keysL_red {W : WX} {f : DE} {σ : Sl} {H : Hp} {Q : VK} (h : tE X.mg W (dKeysL f) σ H Q) : tKeys (tE X.mg W f) rKeysL σ H Q := by
  obtain ⟨G, Z, env, T, r, p⟩ := h
  refine tE.bind r Sb.refl p fun rv v H1 _ s1 ⟨F, C1, C2, r1⟩ p1 => ?_
  have hb : Bor X.mg F H1 rv.ov v := r1.bor List.mem_cons_self
  have fin : ∀ kvs : List (Key × FV), (rv.ov = .oK kvs ∨ rv.ov = .fz (.dK kvs)) → Post X.mg W G Z σ env T Q H1 (.ok (.st (.ol (kvs.map fun kv => keyF kv.1)))) → ∃ d kvs, v = .ref d ∧ Rd H1 d (.dK kvs) ∧ rKeysL (kvs.map (·.1)) H1 Q := fun kvs e p1 => by
    obtain ⟨d, ws, e1, e2, e3⟩ := hb.dK r1.fh e
    refine ⟨d, ws, e1, .inl e2, fun q hq => ?_⟩
    have den : FDenL X.mg F (kvs.map fun kv => keyF kv.1) ((ws.map (·.1)).map kV) := by
      rw [e3]
      have := keyF_den (M := X.mg) (F := F) (kvs.map (·.1))
      rw [List.map_map] at this
      exact this
    have n := New.lst r1.fh hq den
    exact p1 _ _ (let ⟨_, _, n⟩ := n; n.hh) ((r1.new n).sb (Sb.refl.cons.both))
  split at p1
  · rename_i kvs e
    exact fin kvs (.inl e) p1
  · rename_i kvs e
    exact fin kvs (.inr e) p1
  · exact p1.elim
theorem keysS_red {W : WX} {f : DE} {σ : Sl} {H : Hp} {Q : VK} (h : tE X.mg W (dKeysS f) σ H Q) : tKeys (tE X.mg W f) rKeysS σ H Q := by
  obtain ⟨G, Z, env, T, r, p⟩ := h
  refine tE.bind r Sb.refl p fun rv v H1 _ s1 ⟨F, C1, C2, r1⟩ p1 => ?_
  have hb : Bor X.mg F H1 rv.ov v := r1.bor List.mem_cons_self
  have fin : ∀ kvs : List (Key × FV), (rv.ov = .oK kvs ∨ rv.ov = .fz (.dK kvs)) → Post X.mg W G Z σ env T Q H1 (if sortOk (kvs.map fun kv => keyF kv.1) then .ok (.st (.ol (sortFV (kvs.map fun kv => keyF kv.1)))) else .no) → ∃ d kvs, v = .ref d ∧ Rd H1 d (.dK kvs) ∧ rKeysS (kvs.map (·.1)) H1 Q := fun kvs e p1 => by
    obtain ⟨d, ws, e1, e2, e3⟩ := hb.dK r1.fh e
    have em : (ws.map (·.1)).map keyF = kvs.map fun kv => keyF kv.1 := by rw [e3, List.map_map]; rfl
    split at p1
    · rename_i hs
      refine ⟨d, ws, e1, .inl e2, by rw [em]; exact hs, fun ys q hd hq => ?_⟩
      rw [em] at hd
      have n := New.lst r1.fh hq (hd X.mg F)
      exact p1 _ _ (let ⟨_, _, n⟩ := n; n.hh) ((r1.new n).sb (Sb.refl.cons.both))
    · exact p1.elim
  split at p1
  · rename_i kvs e
    exact fin kvs (.inl e) p1
  · rename_i kvs e
    exact fin kvs (.inr e) p1
  · exact p1.elim
theorem je_listKeys {W : WX} {f : DE} (hc : X.calm = true) (he : JE X W e f) (hm : X.mg "list" = none) (hg : Gl X "list" := by rfl) (hv : bootBuiltins "list" = some (.type "list") := by rfl) (hbase : attributeBase e "keys" X.env (eval e X.env) = eval e X.env := by rfl) (hline : (apos.endLine == cpos.line) = true := by rfl)
    (hs : starEach [.Call (.Attribute e "keys" apos) [] [] cpos] X.env = (false, eval (.Call (.Attribute e "keys" apos) [] [] cpos) X.env) :: starEach [] X.env := by rfl) :
    JE X W (.Call (.Name "list" p) [.Call (.Attribute e "keys" apos) [] [] cpos] [] pos) (dKeysL f) := PE.imp (pe_listKeys hc he hg hm hv hbase hline hs) fun σ H Q h => keysL_red h
theorem je_sortedKeys {W : WX} {f : DE} (hc : X.calm = true) (hu : X.A.units + 62 < cLine) (he : JE X W e f) (hm : X.mg "sorted" = none) (hg : Gl X "sorted" := by rfl) (hv : bootBuiltins "sorted" = some (.builtin "sorted") := by rfl) (hbase : attributeBase e "keys" X.env (eval e X.env) = eval e X.env := by rfl) (hline : (apos.endLine == cpos.line) = true := by rfl)
    (hs : starEach [.Call (.Attribute e "keys" apos) [] [] cpos] X.env = (false, eval (.Call (.Attribute e "keys" apos) [] [] cpos) X.env) :: starEach [] X.env := by rfl) :
    JE X W (.Call (.Name "sorted" p) [.Call (.Attribute e "keys" apos) [] [] cpos] [] pos) (dKeysS f) := PE.imp (pe_sortedKeys hc hu he hg hm hv hbase hline hs) fun σ H Q h => keysS_red h
end
end J
namespace J
open PySem PySem.Spec PyProof.Rows L2
/-! ### isinstance -/
def FV.ty? : FV → Option String
  | .non => some "NoneType"
  | .bl _ => some "bool"
  | .int _ => some "int"
  | .str _ => some "str"
  | .tup _ => some "tuple"
  | .tuz _ => some "tuple"
  | .lst _ => some "list"
  | .dK _ => some "dict"
  | .dT _ => some "dict"
  | .scr _ => some "list"
  | _ => none
def OV.ty? : OV → Option String
  | .fz x => x.ty?
  | .ol _ => some "list"
  | .dl _ => some "list"
  | .oK _ => some "dict"
  | .oT _ => some "dict"
  | .dd _ => some "dict"
  | .tp _ => some "tuple"
  | _ => none
def isaT (a T : String) : Bool := a == T || (a == "bool" && T == "int")
def tyNs : List String := ["NoneType", "bool", "int", "str", "tuple", "list", "dict"]
theorem kit_isa : ∀ a ∈ tyNs, ∀ T ∈ tyNs, kitB a T = some (isaT a T) := by decide +kernel
theorem ty_ns {o : OV} {a : String} (h : o.ty? = some a) : a ∈ tyNs := by
  unfold tyNs
  cases o with
  | fz x => cases x <;> simp [OV.ty?, FV.ty?] at h <;> subst h <;> simp
  | _ => simp [OV.ty?] at h <;> subst h <;> simp
theorem Bor.tyX {M : Str → Option Value} {K : PySem.W.Frag} {F H : Hp} {o : OV} {u : V} {a : String} (hf : Same F H) (b : Bor M F H o u) (h : o.ty? = some a) : TyX K H u (.type a) := by
  have d := b.fden hf
  cases o with
  | fz x =>
    cases x with
    | non => cases h; rw [show u = .non from d]; exact .base .non
    | bl c => cases h; rw [show u = .bl c from d]; exact .base (.bl c)
    | int i => cases h; rw [show u = .int i from d]; exact .base (.int i)
    | str x => cases h; rw [show u = .str x from d]; exact .base (.str x)
    | tup xs => cases h; obtain ⟨a, vs, e, q, _⟩ := d; rw [e]; exact .base (.tup q)
    | tuz xs => cases h; obtain ⟨a, vs, o, e, q, _⟩ := d; rw [e]; exact .fTuple q
    | lst xs => cases h; obtain ⟨a, vs, e, q, _⟩ := d; rw [e]; exact .base (.lst q)
    | dK xs => cases h; obtain ⟨a, vs, e, q, _⟩ := d; rw [e]; exact .base (.dK q)
    | dT xs => cases h; obtain ⟨a, vs, e, q, _⟩ := d; rw [e]; exact .base (.dT q)
    | scr xs =>
      cases h
      obtain ⟨a, e, q⟩ := d
      rw [e]
      rcases q with q | ⟨o, q⟩
      · exact .base (.lst q)
      · exact .base (.frz q)
    | ins c fs => cases h
    | exc c => cases h
  | ol xs => cases h; obtain ⟨a, vs, e, q, _⟩ := d; rw [e]; exact .base (.lst q)
  | oK xs => cases h; obtain ⟨a, vs, e, q, _⟩ := d; rw [e]; exact .base (.dK q)
  | oT xs => cases h; obtain ⟨a, vs, e, q, _⟩ := d; rw [e]; exact .base (.dT q)
  | dl xs => cases h; obtain ⟨a, vs, e, q, _⟩ := d; rw [e]; exact .base (.lst q)
  | dd xs => cases h; obtain ⟨a, vs, e, q, _⟩ := d; rw [e]; exact .base (.dK q)
  | tp xs => cases h; obtain ⟨a, vs, e, q, _⟩ := d; rw [e]; exact .base (.tup q)
  | ob c fs => cases h
def opIsa (Ts : List String) : OV → Option OV := fun o => o.ty?.map fun a => .fz (.bl (Ts.any fun T => isaT a T))
theorem any_kit {K : PySem.W.Frag} {a : String} (ha : a ∈ tyNs) : ∀ {Ts : List String}, (∀ T ∈ Ts, T ∈ tyNs) → PySem.W.kitAny K (.type a) (Ts.map Value.type) = some (Ts.any fun T => isaT a T)
  | [], _ => kitAny_nil
  | T :: Ts, h => kitAny_cons (kit_ty (kit_isa a ha T (h T List.mem_cons_self))) (fun e => by rw [List.any_cons, e, Bool.false_or]; exact any_kit ha fun T hT => h T (List.mem_cons_of_mem _ hT)) fun e => by rw [List.any_cons, e, Bool.true_or]
section
variable {X : Cx} {W : WX} {e : Expr} {f : DE} {p p2 p3 p4 pos : Pos} {t t2 : Str} {T T2 : String}
theorem je_isa (he : JE X W e f) (hm : X.mg "isinstance" = none) (hmt : X.mg t = none) (hT : T ∈ tyNs := by decide) (hv : bootBuiltins t = some (.type T) := by rfl) (hg : Gl X "isinstance" := by rfl) (hgt : Gl X t := by rfl) (hn : t ≠ "__name__" := by decide) (hd : (t == ("__debug__" : Str)) = false := by decide)
    (hs : starEach [e, .Name t p2] X.env = (false, eval e X.env) :: starEach [.Name t p2] X.env := by rfl) (hs2 : starEach [.Name t p2] X.env = (false, eval (.Name t p2) X.env) :: starEach [] X.env := by rfl) (hpl : (backTo pos (starEach [.Name t p2] X.env)).any (·.1) = false := by rfl) (hbi : bootBuiltins "isinstance" = some (.builtin "isinstance") := by rfl) :
    JE X W (.Call (.Name "isinstance" p) [e, .Name t p2] [] pos) (dUn (opIsa [T]) f) := by
  refine PE.imp (pe_callB (call_isi (X := X)) hg hm hbi (pa_cons he (pa_cons (pe_bltn (v := .ty T) hgt hmt hv rfl hn hd) pa_nil hs2) hs) (by decide) (by decide) hs hpl) fun σ H Q ⟨G, Z, env, T2, r, q⟩ => ?_
  refine tE.bind r Sb.refl q fun x u H1 _ s1 ⟨F, C1, C2, r1⟩ p1 => ?_
  obtain ⟨o, eo, k⟩ := r1.fin Sb.refl.cons p1
  obtain ⟨a, ea, eo⟩ := Option.map_eq_some_iff.mp eo
  subst eo
  have b : Bor X.mg F H1 x.ov u := r1.bor List.mem_cons_self
  exact ⟨u, .ty T, .type a, .type T, isaT a T, rfl, .ty T, b.tyX r1.fh ea, kit_ty (kit_isa a (ty_ns ea) T hT), by
    have e : ([T].any fun T => isaT a T) = isaT a T := by simp
    rw [e] at k
    exact k _ _ (New.bl r1.fh)⟩
theorem je_isa2 {kk : Nat} (he : JE X W e f) (hm : X.mg "isinstance" = none) (hmt : X.mg t = none) (hmt2 : X.mg t2 = none) (hT : T ∈ tyNs := by decide) (hT2 : T2 ∈ tyNs := by decide) (hv : bootBuiltins t = some (.type T) := by rfl) (hv2 : bootBuiltins t2 = some (.type T2) := by rfl) (hg : Gl X "isinstance" := by rfl) (hgt : Gl X t := by rfl) (hgt2 : Gl X t2 := by rfl)
    (hn : t ≠ "__name__" := by decide) (hd : (t == ("__debug__" : Str)) = false := by decide) (hn2 : t2 ≠ "__name__" := by decide) (hd2 : (t2 == ("__debug__" : Str)) = false := by decide)
    (hs : starEach [e, .Tuple [.Name t p2, .Name t2 p3] kk p4] X.env = (false, eval e X.env) :: starEach [.Tuple [.Name t p2, .Name t2 p3] kk p4] X.env := by rfl) (hs2 : starEach [.Tuple [.Name t p2, .Name t2 p3] kk p4] X.env = (false, eval (.Tuple [.Name t p2, .Name t2 p3] kk p4) X.env) :: starEach [] X.env := by rfl) (hpl : (backTo pos (starEach [.Tuple [.Name t p2, .Name t2 p3] kk p4] X.env)).any (·.1) = false := by rfl) (hbi : bootBuiltins "isinstance" = some (.builtin "isinstance") := by rfl)
    (ht1 : starEach [.Name t p2, .Name t2 p3] X.env = (false, eval (.Name t p2) X.env) :: starEach [.Name t2 p3] X.env := by rfl) (ht2 : starEach [.Name t2 p3] X.env = (false, eval (.Name t2 p3) X.env) :: starEach [] X.env := by rfl) :
    JE X W (.Call (.Name "isinstance" p) [e, .Tuple [.Name t p2, .Name t2 p3] kk p4] [] pos) (dUn (opIsa [T, T2]) f) := by
  refine PE.imp (pe_callB (call_isiT (X := X)) hg hm hbi (pa_cons he (pa_cons (pe_tup (pa_cons (pe_bltn (v := .ty T) hgt hmt hv rfl hn hd) (pa_cons (pe_bltn (v := .ty T2) hgt2 hmt2 hv2 rfl hn2 hd2) pa_nil ht2) ht1)) pa_nil hs2) hs) (by decide) (by decide) hs hpl) fun σ H Q ⟨G, Z, env, TT, r, q⟩ => ?_
  refine tE.bind r Sb.refl q fun x u H1 _ s1 ⟨F, C1, C2, r1⟩ p1 => ?_
  obtain ⟨o, eo, k⟩ := r1.fin Sb.refl.cons p1
  obtain ⟨a, ea, eo⟩ := Option.map_eq_some_iff.mp eo
  subst eo
  have b : Bor X.mg F H1 x.ov u := r1.bor List.mem_cons_self
  refine ⟨by show 2 ≤ sizeLine; decide, fun p hp => ?_⟩
  have r2 := r1.same (same_upd (o := .tup [.ty T, .ty T2]) hp)
  have b2 : Bor X.mg F (upd H1 p (.tup [.ty T, .ty T2])) x.ov u := r2.bor List.mem_cons_self
  obtain ⟨o, eo2, k2⟩ := r2.fin Sb.refl.cons (p1.later (same_upd hp))
  rw [eo] at eo2
  cases eo2
  exact ⟨u, p, [.ty T, .ty T2], .type a, [.type T, .type T2], [T, T2].any fun T => isaT a T, rfl, upd_same, .cons (.ty T) (.cons (.ty T2) .nil), b2.tyX r2.fh ea, any_kit (ty_ns ea) (Ts := [T, T2]) (fun t ht => by rcases List.mem_cons.mp ht with rfl | ht; exact hT; rw [List.mem_singleton.mp ht]; exact hT2), k2 _ _ (New.bl r2.fh)⟩
end
/-! ### methods of what is built in -/
def rM (M : Str → Option Value) (op : OV → List OV → Option OV) : V → List V → Hp → VK → Prop := fun u us H Q => ∃ F x os o, Same F H ∧ Bor M F H x u ∧ Paired (fun x u => Bor M F H x u) os us ∧ op x os = some o ∧ ∀ v H', New M F H H' o v → Q v H'
def dMeth (ok : OV → Bool) (op : OV → List OV → Option OV) (f : DE) (g : VEnv → Ans (List Rv)) : DE := fun env => (f env).bind fun r => if ok r.ov then (g env).bind fun rs => (Ans.of (op r.ov (rs.map Rv.ov))).map .st else .no
def okStr : OV → Bool
  | .fz (.str _) => true
  | _ => false
def okLst : OV → Bool := fun o => o.lst?.isSome
theorem okStr_ty {M : Str → Option Value} {K : PySem.W.Frag} {F H : Hp} {o : OV} {u : V} (hf : Same F H) (b : Bor M F H o u) (h : okStr o = true) : tyV K "str" u H := by
  unfold okStr at h
  split at h
  · rw [b.str]; exact rfl
  · cases h
theorem okLst_ty {M : Str → Option Value} {K : PySem.W.Frag} {F H : Hp} {o : OV} {u : V} (hf : Same F H) (b : Bor M F H o u) (h : okLst o = true) : tyV K "list" u H := by
  obtain ⟨xs, e⟩ := Option.isSome_iff_exists.mp h
  obtain ⟨a, vs, rfl, q, _⟩ := b.lst hf e
  exact .inl ⟨rfl, vs, SqL.of q⟩
section
variable {X : Cx} {W : WX} {o e : Expr} {es : List Expr} {f : DE} {g : VEnv → Ans (List Rv)} {name : Str} {apos cpos : Pos} {T id : String} {ok : OV → Bool} {op : OV → List OV → Option OV}
theorem je_meth (pa : PlainAttrs T) (slot : Slot T name id) (hty : typeOf (.builtin id) = pure (.type "method_descriptor")) (hm : MtR X id (rM X.mg op)) (ht : ∀ {F H : Hp} {o : OV} {u : V}, Same F H → Bor X.mg F H o u → ok o = true → tyV X.K T u H) (ho : JE X W o f) (ha : JA X W (e :: es) g)
    (hbase : attributeBase o name X.env (eval o X.env) = eval o X.env := by rfl)
    (hfew : ((backTo cpos (starEach (e :: es) X.env)).all (fun x => !x.1) && (backToKw cpos (keywordEach [] X.env)).all (fun x => x.1.isSome)
      && decide ((e :: es).length + ([] : List Keyword).length + (if ([] : List Keyword).isEmpty then 0 else 1) < 30)) = true := by rfl)
    (hline : (apos.endLine == cpos.line) = true := by rfl) (hs : starEach (e :: es) X.env = (false, eval e X.env) :: starEach es X.env := by rfl) (hplain : (backTo cpos (starEach es X.env)).any (·.1) = false := by rfl) :
    JE X W (.Call (.Attribute o name apos) (e :: es) [] cpos) (dMeth ok op f g) := by
  refine PE.imp (pe_bm pa slot hty hm ho ha hbase hfew hline hs hplain) fun σ H Q ⟨G, Z, env, T, r, p⟩ => ?_
  refine tE.bind r Sb.refl p fun rv v H1 _ s1 r1 p1 => ?_
  split at p1
  · rename_i hk
    obtain ⟨F, C1, C2, r1⟩ := r1
    refine ⟨ht r1.fh (r1.bor (List.mem_cons_self (a := (v, rv)))) hk, ?_⟩
    refine tA.bind r1.r Sb.refl.cons p1 fun rs vs H2 _ hl s2 ⟨F2, D1, D2, r2⟩ p2 => ?_
    obtain ⟨o, e, k⟩ := r2.fin (T := T) (Sb.trans (Sb.refl.cons) ⟨vs.zip rs, List.perm_append_comm⟩) p2
    exact ⟨F2, rv.ov, rs.map Rv.ov, o, r2.fh, r2.bor (p := (v, rv)) (List.mem_append_right _ List.mem_cons_self), zip_bor hl fun p hp => r2.bor (List.mem_append_left _ hp), e, k⟩
  · exact p1.elim
end
def opJoin : OV → List OV → Option OV
  | .fz (.str a), [o] => o.seq?.bind fun xs => (strs? xs).bind fun ys => if (ys.map (·.length)).sum + ys.length * a.length ≤ BIG then some (.fz (.str (Txt.join a ys))) else none
  | _, _ => none
theorem mj_join {X : Cx} : MtR X "str.join" (rM X.mg opJoin) := by
  rintro pins s σ H x xs v us Q I rx rs ⟨F, o, os, res, hf, bx, ps, e, k⟩
  unfold opJoin at e
  split at e
  · rename_i a q
    obtain ⟨zs, e1, e⟩ := Option.bind_eq_some_iff.mp e
    obtain ⟨ys, e2, e⟩ := Option.bind_eq_some_iff.mp e
    split at e
    · rename_i hz
      cases e
      obtain ⟨u, rfl, b⟩ := paired1 ps
      obtain ⟨p, vs, rfl, hq, d⟩ := b.seq (K := X.K) hf e1
      exact mt_join pins s σ H x _ v us Q I rx rs ⟨a, p, ys, bx.str, rfl, (by rw [← d.strs? e2]; exact hq), hz, k _ _ (New.str hf)⟩
    · cases e
  · cases e
end J
namespace J
open PySem PySem.Spec PyProof.Rows L2
/-! ### a def that is called; the law's own def -/
structure Cal (P : Program) (w : World) (K : PySem.W.Frag) (mg : Str → Option Value) (base : Heap) (k : Nat) (name : Str) (n : Nat) (m : FM) : Prop where
  ex : ∃ f fd ps, FnOk P w K mg base (L2.CX P w) k f fd ps (spF mg n m) ∧ mg name = some (.ref f) ∧ PySem.W.keepIn K (.ref f) = true ∧ Binds K fd ps []
section
variable {X : Cx} {W : WX} {pos p : Pos} {x : Str} {e : Expr} {es : List Expr} {g : VEnv → Ans (List Rv)} {m : FM} {k kk : Nat} {n : Nat}
theorem je_cal (tk : Takes X W) (C : Cal X.prog X.w X.K X.mg X.base k x n m) (hr : Room kk X.A) (ha : JA X W (e :: es) g) (hk : k ≤ kk := by decide)
    (hl : (e :: es).length = n := by rfl) (hgl : DL g (e :: es).length := by repeat (first | exact dl_nil | refine dl_cons ?_)) (hg : Gl X x := by rfl) (hdb : (x == ("__debug__" : Str)) = false := by decide)
    (he : starEach (e :: es) X.env = (false, eval e X.env) :: starEach es X.env := by rfl) (hpl : (backTo pos (starEach es X.env)).any (·.1) = false := by rfl) : JE X W (.Call (.Name x p) (e :: es) [] pos) (dCall m g) := by
  obtain ⟨f, fd, ps, F, h1, h2, h3⟩ := C.ex
  exact je_call tk F (hr.mono hk) h1 h2 h3 ha hl hgl hg hdb he hpl
end
def spLaw (K : PySem.W.Frag) : Sp := fun vs H Q _ => ∃ (a : Addr) (ns : List Int), vs = [.ref a] ∧ SqL K H a (ns.map V.int) ∧ ns.length ≤ 63 ∧ ∀ H', Q (.bl true) H'
def law0 (n : Nat) (cells : List Int) : VEnv := none :: some (.ol (cells.map .int)) :: List.replicate (n - 2) none
theorem law_r {M : Str → Option Value} {H H1 : Hp} {a p : Addr} {cells : List Int} {σ : Sl} (hs : Same H H1) (hp : H p = none) (h1 : H1 p = some (.lst (cells.map V.int))) : R M (fun _ => none) H H1 (some (.ref a) :: some (.ref p) :: List.replicate n none) (none :: some (.ol (cells.map .int)) :: List.replicate n none) [] := by
  refine ⟨fun _ => none, [(p, .lst (cells.map V.int))], [], Same.refl _, (fun _ _ e => nomatch (show (none : Option HO) = some _ from e)), (fun _ _ e => nomatch (show (none : Option HO) = some _ from e)), hs, .skip (.cons (A := [(p, .lst (cells.map V.int))]) (B := []) ⟨p, _, rfl, FDenL_ints cells, rfl⟩ ?_), .nil, ?_⟩
  · have := env_none (M := M) (F := fun _ => none) (List.replicate n none)
    rw [List.length_replicate] at this
    exact this
  · refine ⟨by simp, fun q hq => ?_, fun q hq => rfl, fun q hq => ?_⟩
    · rw [List.append_nil, List.mem_singleton] at hq; subst hq; exact h1
    · rw [List.append_nil, List.mem_singleton] at hq; subst hq; exact hp
theorem cut_take (ns : List Int) (c : Nat) : cutV (ns.map V.int) none (some (c : Int)) = (ns.take c).map V.int := by
  unfold cutV
  rw [HT.sIx_none, HT.sIx_nat, List.drop_zero, List.map_take, List.length_map, Nat.sub_zero]
  by_cases h : c ≤ ns.length
  · rw [Nat.min_eq_left h]
  · rw [Nat.min_eq_right (by omega), List.take_of_length_le (by rw [List.length_map]; exact Nat.le_refl _), List.take_of_length_le (by rw [List.length_map]; omega)]
section
variable {X : Cx} {W : WX} {c s : Str} {p1 p2 p3 p4 p5 p6 p7 p8 p9 : Pos} {j j2 : Nat} {n : Nat} {rest : List Stmt} {f : DS} {N : List Str}
theorem law_body (hN : X.N = N) (h2 : 2 ≤ N.length) (hb : JSs X W rest f) {te : TE} {e : Expr} (he : PE X e te) (hset : PS X (.Assign [.Name c p1] e p6) (tAsg te (gName 1))) {cells : List Int}
    (hrt : ∃ env, f (law0 N.length cells) = .ok (.rt (.fz (.bl true)) env)) {H : Hp} {a : Addr} {Q : VK} (hQ : ∀ H', Q (.bl true) H')
    (hte : ∀ (Q : VK), (∀ p H1, Same H H1 → H p = none → H1 p = some (.lst (cells.map V.int)) → Q (.ref p) H1) → te (L2.start N [.ref a]) H Q) :
    ∃ t, PSs X (.Assign [.Name c p1] e p6 :: rest) t ∧ t { nx := fun _ H' => Q .non H', rt := Q } (L2.start N [.ref a]) H := by
  refine ⟨_, pss_cons hset hb, ?_⟩
  refine hte _ fun p H1 hs hp h1 => ?_
  obtain ⟨env, er⟩ := hrt
  have es : (L2.start N [.ref a]).set 1 (some (V.ref p)) = some (.ref a) :: some (.ref p) :: List.replicate (N.length - 2) none := by
    unfold L2.start
    obtain ⟨m, hm⟩ : ∃ m, N.length = m + 2 := ⟨N.length - 2, by omega⟩
    rw [hm]
    rfl
  show sJ X.mg W f _ ((L2.start N [.ref a]).set 1 (some (V.ref p))) H1
  rw [es]
  refine ⟨fun _ => none, H, law0 N.length cells, [], (fun _ h => nomatch h), law_r (σ := []) hs hp h1, ?_⟩
  rw [er]
  intro v σ' H' ⟨F, C1, C2, r⟩
  have hb : Bor X.mg F H' (.fz (.bl true)) v := r.bor (p := (v, .st (.fz (.bl true)))) List.mem_cons_self
  have hv : v = .bl true := hb.fden r.fh
  rw [hv]
  exact hQ H'
theorem law_slice {a : Addr} {ns : List Int} {H : Hp} {cc : Nat} (hS : SqL X.K H a (ns.map V.int)) (Q : VK) (h : ∀ p H1, Same H H1 → H p = none → H1 p = some (.lst ((ns.take cc).map V.int)) → Q (.ref p) H1) (h2 : N ≠ []) :
    tSl (rSlL X.K) (tVar 0) tNoPart (tPart (tC (.int (cc : Int)))) (L2.start N [.ref a]) H Q := by
  refine ⟨.ref a, ?_, _, rfl, a, _, rfl, hS, fun p hp => ?_⟩
  · rfl
  · rw [cut_take]
    exact h p _ (same_upd hp) hp upd_same
theorem law_sliceP {a : Addr} {ns : List Int} {H : Hp} {cc : Nat} (hS : SqL X.K H a (ns.map V.int)) (Q : VK) (h : ∀ p H1, Same H H1 → H p = none → H1 p = some (.lst ((ns.take cc ++ [0]).map V.int)) → Q (.ref p) H1) (hz : ns.length ≤ 63) :
    tOp rCat (tSl (rSlL X.K) (tVar 0) tNoPart (tPart (tC (.int (cc : Int))))) (tLst (tCons (tC (.int 0)) tNil)) (L2.start N [.ref a]) H Q := by
  refine ⟨.ref a, rfl, _, rfl, a, _, rfl, hS, fun p hp => ?_⟩
  rw [cut_take]
  have s1 : Same H (upd H p (.lst ((ns.take cc).map V.int))) := same_upd hp
  refine ⟨Nat.le_trans (Nat.le_refl 1) (by rw [sizeLine_eq]; decide), fun q hq => ?_⟩
  have s2 : Same (upd H p (.lst ((ns.take cc).map V.int))) (upd (upd H p (.lst ((ns.take cc).map V.int))) q (.lst [.int 0])) := same_upd hq
  refine ⟨p, q, _, _, rfl, rfl, s2 _ _ upd_same, upd_same, ?_, fun t ht => ?_⟩
  · rw [List.length_map, List.length_take, sizeLine_eq]
    show min cc ns.length + 1 ≤ _
    omega
  · have s3 := same_upd (o := HO.lst ((ns.take cc).map V.int ++ [.int 0])) ht
    refine h t _ ((s1.trans s2).trans s3) (s1.free (s2.free ht)) ?_
    rw [upd_same, List.map_append]
    rfl
end
theorem boot_len : bootBuiltins "len" = some (.builtin "len") :=
  PySem.boot_len
theorem boot_list : bootBuiltins "list" = some (.type "list") :=
  PyProof.Rows.boot_list
theorem boot_tuple : bootBuiltins "tuple" = some (.type "tuple") :=
  PyProof.Rows.boot_tuple
theorem boot_sum : bootBuiltins "sum" = some (.builtin "sum") :=
  PyProof.Rows.boot_sum
theorem boot_all : bootBuiltins "all" = some (.builtin "all") :=
  PyProof.Rows.boot_all
theorem boot_ord : bootBuiltins "ord" = some (.builtin "ord") :=
  PyProof.Rows.boot_ord
theorem boot_str : bootBuiltins "str" = some (.type "str") :=
  PyProof.Rows.boot_str
theorem boot_int : bootBuiltins "int" = some (.type "int") :=
  PyProof.Rows.boot_int
theorem boot_sorted : bootBuiltins "sorted" = some (.builtin "sorted") :=
  PyProof.Rows.boot_sorted
theorem boot_isinstance : bootBuiltins "isinstance" = some (.builtin "isinstance") :=
  PyProof.Rows.boot_isinstance
theorem boot_min : bootBuiltins "min" = some (.builtin "min") :=
  PyProof.Rows.boot_min
theorem boot_max : bootBuiltins "max" = some (.builtin "max") :=
  PyProof.Rows.boot_max
theorem boot_bool : bootBuiltins "bool" = some (.type "bool") :=
  PyProof.Rows.boot_bool
theorem boot_dict : bootBuiltins "dict" = some (.type "dict") :=
  PyProof.Rows.boot_dict
theorem boot_set : bootBuiltins "set" = some (.type "set") :=
  PyProof.Rows.boot_set
theorem boot_divmod : bootBuiltins "divmod" = some (.builtin "divmod") :=
  PyProof.Rows.boot_divmod
theorem u1 {k : Nat} {A : Around} (hr : Room k A) : A.units + 1 < cLine := by have := hr.un; omega
theorem u62 {k : Nat} {A : Around} (hr : Room k A) : A.units + 62 < cLine := by have := hr.un; omega
theorem u64 {k : Nat} {A : Around} (hr : Room k A) : A.units + 64 < cLine := by have := hr.un; omega
theorem u65 {k : Nat} {A : Around} (hr : Room k A) : A.units + 65 < cLine := by have := hr.un; omega
end J
set_option maxHeartbeats 4000000
namespace J
open PySem PySem.Spec PyProof.Rows L2
/-! ### set(a list of ints), sorted(set(..))
`fill_ints`: one walk of the list into the fresh set. `call_set_lstI`: the call of the class around it. -/
section
variable {P : Program} {w : World} {A : Around} {E : Value → Shared → Prop} {s : Shared}
/-- what set.__new__ leaves -/
abbrev E0 (w : World) : Obj := { cls := .type "set", dict := none, data := .set #[] 0 (.fresh 0 0 (!w.params.followText "set-order")) }
theorem intsAt {items : Array Value} {ns : List Int} (r : IntsAre items.toList ns) (z : items.size = ns.length) {i : Nat} {v : Value} (hv : items[i]? = some v) : ∃ k t, ns[i]? = some k ∧ v = .int k t := by
  have hi := (Array.getElem?_eq_some_iff.mp hv).1
  rw [z] at hi
  obtain ⟨t, e⟩ := IntsAre.int_at r i v (by rw [Array.getElem?_toList, hv])
  exact ⟨_, t, List.getElem?_eq_getElem hi, by rw [e, List.getD_eq_getElem?_getD, List.getElem?_eq_getElem hi, Option.getD_some]⟩
/-- the ints of the list at l go into the fresh set at S -/
theorem fill_ints {S l : Addr} {items : Array Value} {ns : List Int} {R : Result → Shared → Prop} (calm : A.handled = none) (hl : s.heap.IsList l items) (hit : IntsAre items.toList ns) (few : ns.length + 1 < scanBound) (hS : s.heap.get? S = some (E0 w)) (ne : S ≠ l)
    (k : ∀ h' tk c, SetR w h' S (fun j => decide (j ∈ ns)) c → c ≤ ns.length → (∀ b o, b ≠ S → s.heap.get? b = some o → h'.get? b = some o) → R (.ok (.ret .none)) { s with heap := h', toks := tk }) :
    wpAny (model P w) A.in1 (Builtin.«set.__init__» ⟨[.ref S, .ref l], []⟩) (fun fin s' => match fin with | .done f => R (.ok f) s' | .again c' => c'.quiet = true ∧ codeAny (model P w) A c' R s') (fun e s' => R (.error e) s') s := by
  have z : items.size = ns.length := by rw [← Array.length_toList]; exact hit.length
  have lS := Heap.lt_size hS
  have hl' := hl
  obtain ⟨ob, at_l, cl, nl, dl⟩ := hl
  have ll := Heap.lt_size at_l
  cases ob with
  | mk cls dict data slots =>
    cases cl
    cases dl
    have sub1 := F.sub_list_set
    have sub2 := F.sub_list_frozenset
    have nd : (Value.type "list" == Value.type "dict") = false := rfl
    unfold Builtin.«set.__init__» noKeywords Builtin.Frozenset.updateFrom
    generalize hPI : pyIter = PI
    wp_walk
    subst hPI
    refine wpAny_pyIter_list hl' (wpAny_bind (wpAny_runValue ?_))
    have walk := (Walks.list (A := A.in1.in1) (by simp [calm]) s.heap.objs.size l (Nat.ne_of_lt ll) items).toS (prog := P) (w := w)
    refine set_update_ints walk S (by simp [Nat.ne_of_lt lS, ne]) ns z few (fun i v => intsAt hit z) _ 0 _ rfl (Nat.zero_le _) ⟨⟨_, Heap.get?_push_size _ rfl, rfl, rfl⟩, hl'.push _⟩ ⟨0, Nat.le_refl 0, setR_new_at (Heap.get?_push_of_some _ hS)⟩ fun s' c m hc hR => ?_
    cases s' with
    | mk h' g d tk os =>
      cases m.gens
      cases m.drawn
      cases m.os
      refine wpAny_pure (wpAny_pure (k h' tk c hR (z ▸ hc) fun b o hb e => m.heap b o ?_ (Heap.get?_push_of_some _ e)))
      simp [hb, Nat.ne_of_lt (Heap.lt_size e)]
theorem call_set_lstI {l : Addr} {items : Array Value} (ns : List Int) {Q : Value → Shared → Prop} (calm : A.handled = none) (hl : s.heap.IsList l items) (hit : IntsAre items.toList ns) (few : ns.length + 1 < scanBound)
    (k : ∀ (h' : Heap) (tk c : Nat), SetR w h' s.heap.objs.size (fun j => decide (j ∈ ns)) c → c ≤ ns.length → (∀ b o, s.heap.get? b = some o → h'.get? b = some o) → Q (.ref s.heap.objs.size) { s with heap := h', toks := tk }) :
    wpAny (model P w) A (call (.type "set") [.ref l]) Q E s := by
  obtain ⟨o, e, _⟩ := id hl
  have inside := Heap.lt_size e
  -- what set.__init__ is to give, and that it gives it
  have init : codeAny (model P w) A.in1 (.call (.builtin "set.__init__") ⟨[.ref s.heap.objs.size, .ref l], []⟩) (wants (fun r t => r = .none ∧ Q (.ref s.heap.objs.size) t) E) { s with heap := s.heap.push (E0 w) } := by
    have hS : (s.heap.push (E0 w)).get? s.heap.objs.size = some (E0 w) := Heap.get?_push_size _ rfl
    refine codeAny_call_builtin F.called_set.init.plain F.entry_set_init (check_set_init_1 ⟨_, hS, rfl⟩ (fill_ints (by simp [calm]) (hl.push _) hit few hS (Nat.ne_of_gt inside) fun h' tk c hR hc old => ⟨rfl, k h' tk c hR hc fun b ob e => ?_⟩))
    exact old b ob (Nat.ne_of_lt (Heap.lt_size e)) (Heap.get?_push_of_some _ e)
  have ⟨_, _, mro⟩ := F.called_set.mro
  have ⟨made, sub, notType, can⟩ := And.intro F.called_set.made (And.intro F.called_set.sub (And.intro F.called_set.notType F.called_set.canCreate))
  have fine := F.typeCall_set_1 (.ref l)
  have ⟨look, bind⟩ := And.intro F.called_set.init.lookup (F.called_set.init.bind (.ref s.heap.objs.size))
  refine wpAny_call (codeAny_of_tree ?_)
  show wpAny _ _ (callAny (.type "set") _) _ _ _
  refine wpAny_pure ⟨Code.quiet_builtin _ (by decide +kernel), codeAny_builtin F.entry_type_call ?_⟩
  rw [Around.under_plain (weight_type_call_type "set" [.ref l] []) rfl]
  repeat any_goals first | assumption | wp_step
  have born : codeAny (model P w) A.in1 (.call (.builtin "set.__new__") ⟨[.type "set", .ref l], []⟩) (wants (fun v t => v = .ref s.heap.objs.size ∧ t = { s with heap := s.heap.push (E0 w) }) E) s := code_set_led1 _ ⟨rfl, rfl⟩
  refine codeAny_mono born fun r t ht => ?_
  match r, ht with
  | .error e, ht => exact ht
  | .ok (.ret v), ⟨ev, et⟩ =>
    subst ev et
    have ty : Shared.TypeIs { s with heap := s.heap.push (E0 w) } (.ref s.heap.objs.size) "set" := ⟨_, Heap.get?_push_size _ rfl, rfl⟩
    repeat any_goals first | assumption | wp_step
    refine codeAny_mono init fun r t ht => ?_
    match r, ht with
    | .error e, ht => exact ht
    | .ok (.ret v), ⟨ev, q⟩ =>
      subst ev
      repeat any_goals first | assumption | wp_step
end
section
variable {X : Cx}
def rSetLI (w : World) (K : PySem.W.Frag) : List V → Hp → VK → Prop := fun xs H Q => ∃ (a : Addr) (ns : List Int), xs = [.ref a] ∧ SqL K H a (ns.map V.int) ∧ ns.length + 1 < scanBound ∧
  ∀ p c, H p = none → c ≤ ns.length → Q (.ref p) (upd H p (SetO w p (fun j => decide (j ∈ ns)) c))
theorem cr_setLI (hc : X.calm = true) : CallR X (.type "set") (rSetLI X.w X.K) := by
  intro pins s σ H xs us Q I r h
  obtain ⟨a, ns, rfl, hs, hb, q⟩ := h
  obtain ⟨its, rv, hl, hz⟩ := I.list hs
  rw [Vals.ref1 r]
  refine call_set_lstI ns (I.ok.hd hc) hl.isList (by simpa using rv.ints) hb fun h' tk c R hcl k => ?_
  exact ⟨.ref _, upd H s.heap.objs.size (SetO X.w s.heap.objs.size (fun j => decide (j ∈ ns)) c), I.laid (t' := tk) k (Nat.le_refl _) (setO_new R), rfl, q _ c (I.hok.fresh (Nat.le_refl _)) hcl⟩
def dedI : List Int → List Int
  | [] => []
  | x :: xs => if x ∈ dedI xs then dedI xs else x :: dedI xs
theorem dedI_mem {x : Int} : ∀ {xs : List Int}, x ∈ dedI xs ↔ x ∈ xs
  | [] => Iff.rfl
  | y :: xs => by
    have ih := dedI_mem (x := x) (xs := xs)
    unfold dedI
    split
    · rename_i h
      rw [ih, List.mem_cons]
      exact ⟨.inr, fun q => q.elim (fun e => by rw [e]; exact dedI_mem.mp h) id⟩
    · rw [List.mem_cons, List.mem_cons, ih]
theorem dedI_nodup : ∀ xs : List Int, (dedI xs).Nodup
  | [] => List.nodup_nil
  | y :: xs => by
    unfold dedI
    split
    · exact dedI_nodup xs
    · rename_i h
      exact List.nodup_cons.mpr ⟨h, dedI_nodup xs⟩
def sortI (ns : List Int) : List Int := (dedI ns).mergeSort (fun a b => decide (a ≤ b))
theorem strictI_eq : ∀ {a b : List Int}, a.Pairwise (· < ·) → b.Pairwise (· < ·) → (∀ x, x ∈ a ↔ x ∈ b) → a = b
  | [], [], _, _, _ => rfl
  | [], y :: b, _, _, h => absurd ((h y).mpr List.mem_cons_self) (by simp)
  | x :: a, [], _, _, h => absurd ((h x).mp List.mem_cons_self) (by simp)
  | x :: a, y :: b, ha, hb, h => by
    rw [List.pairwise_cons] at ha hb
    have e : x = y := by
      rcases List.mem_cons.mp ((h x).mp List.mem_cons_self) with e | h1
      · exact e
      · rcases List.mem_cons.mp ((h y).mpr List.mem_cons_self) with e | h2
        · exact e.symm
        · have q1 := ha.1 y h2; have q2 := hb.1 x h1; omega
    subst e
    rw [strictI_eq ha.2 hb.2 fun z => ?_]
    constructor
    · intro hz
      rcases List.mem_cons.mp ((h z).mp (List.mem_cons_of_mem _ hz)) with e | h1
      · have := ha.1 z hz; omega
      · exact h1
    · intro hz
      rcases List.mem_cons.mp ((h z).mpr (List.mem_cons_of_mem _ hz)) with e | h1
      · have := hb.1 z hz; omega
      · exact h1
theorem sortI_mem {ns : List Int} {x : Int} : x ∈ sortI ns ↔ x ∈ ns := by
  unfold sortI
  rw [(List.mergeSort_perm _ _).mem_iff, dedI_mem]
theorem sortI_lt (ns : List Int) : (sortI ns).Pairwise (· < ·) := by
  have h1 : (sortI ns).Pairwise (fun a b => decide (a ≤ b) = true) := List.pairwise_mergeSort (fun a b c h1 h2 => by simp at *; omega) (fun a b => by simp; omega) _
  have h2 : (sortI ns).Nodup := (List.mergeSort_perm _ _).nodup_iff.mpr (dedI_nodup ns)
  exact (h1.and h2).imp fun {a b} h => by have := of_decide_eq_true h.1; have := h.2; omega
def dSortSet (f : DE) : DE := fun env => (f env).bind fun r => match r.ov.lst?.bind ints? with
  | some ns => if ns.length < 64 then .ok (.st (.ol ((sortI ns).map .int))) else .no
  | none => .no
variable {W : WX} {f : DE} {e : Expr} {p p2 pos pos2 : Pos}
theorem je_sortSet (hc : X.calm = true) (he : JE X W e f) (hm : X.mg "sorted" = none) (hm2 : X.mg "set" = none) (hg : Gl X "sorted" := by rfl) (hg2 : Gl X "set" := by rfl)
    (hs : starEach [.Call (.Name "set" p2) [e] [] pos2] X.env = (false, eval (.Call (.Name "set" p2) [e] [] pos2) X.env) :: starEach [] X.env := by rfl) (hs2 : starEach [e] X.env = (false, eval e X.env) :: starEach [] X.env := by rfl) :
    JE X W (.Call (.Name "sorted" p) [.Call (.Name "set" p2) [e] [] pos2] [] pos) (dSortSet f) := by
  refine PE.imp (pe_callB (cr_sortedSet hc) hg hm boot_sorted (pa_cons (pe_callTy (cr_setLI hc) hg2 hm2 boot_set (pa_cons he pa_nil hs2) (by decide) (by decide) hs2 rfl) pa_nil hs) (by decide) (by decide) hs rfl) fun σ H Q ⟨G, Z, env, T, r, q⟩ => ?_
  refine tE.bind r Sb.refl q fun x u H1 _ s1 ⟨F, C1, C2, r1⟩ p1 => ?_
  split at p1
  · rename_i ns en
    split at p1
    · rename_i hn
      obtain ⟨xs, e1, e2⟩ := Option.bind_eq_some_iff.mp en
      have b : Bor X.mg F H1 x.ov u := r1.bor List.mem_cons_self
      obtain ⟨a, vs, rfl, hq, d⟩ := b.lst r1.fh e1
      have ev := d.ints? e2
      subst ev
      refine ⟨a, ns, rfl, SqL.of hq, by unfold scanBound; omega, fun pp c hp hcl => ?_⟩
      refine ⟨pp, fun j => decide (j ∈ ns), c, rfl, upd_same, by omega, fun ms p3 h1 h2 h3 hp3 => ?_⟩
      have ms_eq : ms = sortI ns := strictI_eq h1 (sortI_lt ns) fun k => by rw [h2, sortI_mem, decide_eq_true_iff]
      subst ms_eq
      have r2 := r1.same (same_upd (o := SetO X.w pp (fun j => decide (j ∈ ns)) c) hp)
      have n := New.lst (M := X.mg) r2.fh hp3 (FDenL_ints (sortI ns))
      exact p1 _ _ ((same_upd hp).trans (let ⟨_, _, n⟩ := n; n.hh)) ((r2.new n).sb (Sb.refl.cons.both))
    · exact p1.elim
  · exact p1.elim
end
end J
namespace J
open PySem PySem.Spec PyProof.Rows L2
/-! ### statements that rewrite nothing: what is looked at may stay looked at -/
def sQ (M : Str → Option Value) (W : WX) (f : DS) : TS := fun D σ H => ∃ G Z env T, R M G Z H σ env T ∧ PostS M W G Z T D (f env)
abbrev JQ (X : Cx) (W : WX) (st : Stmt) (f : DS) : Prop := PS X st (sQ X.mg W f)
abbrev JQs (X : Cx) (W : WX) (st : List Stmt) (f : DS) : Prop := PSs X st (sQ X.mg W f)
theorem PostS.seqQ {M : Str → Option Value} {G Z : Hp} {env : VEnv} {T : List (V × Rv)} {W : WX} {D : Ends} {f : DS} {g : DS} (p : PostS M W G Z T D (SO.bind (f env) g)) : PostS M W G Z T { D with nx := sQ M W g D } (f env) := by
  unfold SO.bind at p
  split at p
  · rename_i e e1
    rw [e1]
    exact fun σ' H' r => ⟨G, Z, e, T, r, p⟩
  · rename_i x hx
    cases e : f env with
    | ok s =>
      rw [e] at p hx
      cases s with
      | nx e2 => exact absurd rfl (hx e2)
      | rt o e2 => exact p
      | bk e2 => exact p
      | ct e2 => exact p
    | ex c => rw [e] at p; exact p
    | no => rw [e] at p; exact p
/-- the items of a list of one's own, which stands still -/
def qItems (f : DE) : VEnv → Ans (List FV) := fun env => (f env).bind fun r => Ans.of r.ov.lst?
section
variable {X : Cx} {W : WX} {pos pos' : Pos} {e tg : Expr} {st : Stmt} {rest a b body : List Stmt} {f g fb : DS} {fe : DE} {c : Expr} {fc : DT} {t : TgF} {vs : List Nat}
theorem js_quiet (h : JQ X W st f) : JS X W st f := PS.imp h fun D σ H ⟨G, Z, env, T, _, r, p⟩ => ⟨G, Z, env, T, r, p⟩
theorem jqs_nil : JQs X W [] dSkip := PSs.imp pss_nil fun D σ H ⟨G, Z, env, T, r, p⟩ => p σ H r
theorem jqs_cons (h1 : JQ X W st f) (h2 : JQs X W rest g) : JQs X W (st :: rest) (dSeq f g) := PSs.imp (pss_cons h1 h2) fun D σ H ⟨G, Z, env, T, r, p⟩ => ⟨G, Z, env, T, r, p.seqQ⟩
theorem jqs_one (h1 : JQ X W st f) : JQs X W [st] f := pss_one h1
theorem jq_break : JQ X W (.Break pos) dBrk := PS.imp ps_break fun D σ H ⟨G, Z, env, T, r, p⟩ => p σ H r
theorem jq_continue : JQ X W (.Continue pos) dCt := PS.imp ps_continue fun D σ H ⟨G, Z, env, T, r, p⟩ => p σ H r
theorem jq_ret (he : JE X W e fe) : JQ X W (.Return (some e) pos) (dRet fe) := PS.imp (ps_ret he) fun D σ H ⟨G, Z, env, T, r, p⟩ => tE.bindS r p fun rv v H1 _ s r1 p1 => by
  cases rv with
  | st o => exact p1 v σ H1 r1
  | bo o => exact p1.elim
theorem jq_set (i : Nat) {x : Str} (hN : X.N.Nodup) (he : JE X W e fe) (hi : X.N[i]? = some x := by rfl) (hx : Loc X.env.scope x := by first | exact .inl rfl | exact .inr rfl) (hs : swapsWith e (some (.Name x pos')) pos.line X.env = pure false := by rfl)
    (hf : X.fn x = true ∨ X.env.scope.names.lookup x = some .local := by first | exact .inl rfl | exact .inr rfl) : JQ X W (.Assign [.Name x pos'] e pos) (dSet i fe) :=
  PS.imp (ps_set hN hi hx he hs hf) fun D σ H ⟨G, Z, env, T, r, p⟩ => tE.bindS r p fun rv v H1 _ s r1 p1 => by
    cases rv with
    | st o => exact p1 _ _ (r1.set i)
    | bo o => exact p1.elim
theorem jq_if (hc : JT X W c fc) (ha : JQs X W a f) (hb : JQs X W b g) : JQ X W (.If c a b pos) (dIf fc f g) := by
  refine PS.imp (ps_if hc ha hb) fun D σ H ⟨G, Z, env, T, r, p⟩ => tT.bindS r p fun b H1 _ s r1 p1 => ?_
  cases b with
  | true =>
    rw [if_pos rfl] at p1 ⊢
    exact ⟨G, Z, env, T, r1, p1⟩
  | false =>
    rw [if_neg Bool.false_ne_true] at p1 ⊢
    exact ⟨G, Z, env, T, r1, p1⟩
theorem walk_listR {M : Str → Option Value} {K : PySem.W.Frag} {a : Addr} {r : Rv} {xs : List FV} (e : r.ov.lst? = some xs) : WalkJ M (Itl K a) [(.ref a, r)] xs := fun F H i hf hk => by
  obtain ⟨a', vs, ea, q, d⟩ := (hk _ (List.mem_singleton_self _)).lst hf e
  cases ea
  refine ⟨fun x hx => ?_, fun hi => ⟨vs, SqL.of q, by rw [d.length]; exact hi⟩⟩
  obtain ⟨v, h1, h2⟩ := d.get hx
  refine ⟨⟨vs, v, SqL.of q, h1⟩, fun w H' ⟨e1, e2⟩ => ?_⟩
  have e3 := e2 vs (SqL.of q)
  rw [h1] at e3
  cases e3
  rw [e1]
  exact New.old hf h2
theorem jq_for (hp : PassesOwn (model X.prog X.w) X.A X.env X.xe) (hc : X.calm = true) (he : JE X W e fe) (hg : JG X tg vs t) (hb : JQs X W body fb) (hs : ∀ x, foldedSetIterable e X.env x = pure x := by intro _; rfl) :
    JQ X W (.For tg e body [] pos) (dFor (qItems fe) t fb) := by
  refine PS.imp (ps_for hp hc (pi_list he) hg hb hs) fun D σ H ⟨G, Z, env, T, r, p⟩ => ?_
  have p : PostS X.mg W G Z T D (((fe env).bind fun r => Ans.of r.ov.lst?).bind fun xs => forL t fb xs env) := p
  rw [Ans.bind_assoc] at p
  refine tE.bindS r p fun rv v H1 _ s1 r1 p1 => ?_
  cases el : rv.ov.lst? with
  | none => rw [el] at p1; exact p1.elim
  | some items =>
    rw [el] at p1
    obtain ⟨F, C1, C2, r1⟩ := r1
    obtain ⟨a, ws, rfl, h1, d⟩ := (r1.bor (List.mem_cons_self (a := (v, rv)))).lst r1.fh el
    have wk := walk_listR (M := X.mg) (K := X.K) (a := a) el
    have hp : PostS X.mg W G Z T D (forL t fb items env) := p1
    refine ⟨a, rfl, ⟨ws, SqL.of h1⟩, fun i m σ H => i + m = items.length ∧ ∃ env, R X.mg G Z H σ env ([(.ref a, rv)] ++ T) ∧ PostS X.mg W G Z T D (forL t fb (items.drop i) env), ⟨items.length, by omega, env, r1.r, by rw [List.drop_zero]; exact hp⟩, ?_⟩
    rintro i m σ H ⟨him, env, ⟨F, C1, C2, r⟩, hpost⟩
    obtain ⟨w1, w2⟩ := wk F H i r.fh r.kept
    by_cases hlt : i < items.length
    · obtain ⟨hgo, hy⟩ := w1 items[i] (List.getElem?_eq_getElem hlt)
      rw [List.drop_eq_getElem_cons hlt] at hpost
      have hpost : PostS X.mg W G Z T D (match t items[i] env with
        | some e1 => (fb e1).bind (loopK (forL t fb (items.drop (i + 1))))
        | none => .no) := hpost
      refine .inr ⟨hgo, fun σ' H' => ∃ env', R X.mg G Z H' σ' env' ([(.ref a, rv)] ++ T) ∧ PostS X.mg W G Z T D (forL t fb (items.drop (i + 1)) env'), fun σ' H' ⟨env', r', p'⟩ => ⟨m - 1, by omega, by omega, env', r', p'⟩, fun v H' yl => ?_⟩
      refine ⟨G, Z, env, [(.ref a, rv)] ++ T, items[i], r.new (hy v H' yl), ?_⟩
      cases et : t items[i] env with
      | none => rw [et] at hpost; exact hpost.elim
      | some e1 =>
        rw [et] at hpost
        intro σ' _ r2
        have hpost : PostS X.mg W G Z T D ((fb e1).bind (loopK (forL t fb (items.drop (i + 1))))) := hpost
        refine ⟨G, Z, e1, [(.ref a, rv)] ++ T, r2, ?_⟩
        cases eb : fb e1 with
        | no => rw [eb] at hpost; exact hpost.elim
        | ex c => rw [eb] at hpost; exact hpost
        | ok s =>
          rw [eb] at hpost
          cases s with
          | nx e => exact fun σ3 H3 r3 => ⟨e, r3, hpost⟩
          | ct e => exact fun σ3 H3 r3 => ⟨e, r3, hpost⟩
          | bk e => exact fun σ3 H3 r3 => hpost σ3 H3 (r3.sb sb_app)
          | rt o e => exact fun v σ3 H3 r3 => hpost v σ3 H3 (r3.sb sb_app.both)
    · refine .inl ⟨w2 (by omega), ?_⟩
      rw [List.drop_of_length_le (by omega)] at hpost
      exact hpost σ H (r.r.sb sb_app)
end
end J
namespace J
open PySem PySem.Spec PyProof.Rows L2
/-! ### x[k].append(e), x.extend(e) -/
def OV.sub? (p : OV) (k : FV) : Option OV := match p, k with
  | .dl os, .int i => atI os i
  | .dd kvs, k => k.key?.bind fun k => lookK kvs k
  | _, _ => none
def setK {κ α : Type} [DecidableEq κ] : List (κ × α) → κ → α → List (κ × α)
  | [], _, _ => []
  | p :: r, k, v => if p.1 = k then (p.1, v) :: r else p :: setK r k v
def OV.setAt (p : OV) (k : FV) (o : OV) : OV := match p, k with
  | .dl os, .int i => match ixN os.length i with
    | some j => .dl (os.set j o)
    | none => p
  | .dd kvs, k => match k.key? with
    | some k => .dd (setK kvs k o)
    | none => p
  | _, _ => p
section
variable {M : Str → Option Value} {G Z H F : Hp} {o p p' q q' : OV} {v y : V} {i : Nat} {L B : Cells} {a : Addr} {ho ho' : HO}
theorem OwnL.focus {os : List OV} {vs : List V} (h : OwnL M F os vs L) : ∀ {j : Nat} {q : OV}, os[j]? = some q → ∃ u A Lr, vs[j]? = some u ∧ Own M F q u A ∧ L.Perm (A ++ Lr) ∧ ∀ q' A', Own M F q' u A' → ∃ L', OwnL M F (os.set j q') vs L' ∧ L'.Perm (A' ++ Lr) := by
  induction os generalizing vs L with
  | nil => intro j q h; simp at h
  | cons x os ih =>
    intro j q hj
    obtain ⟨v, ws, A, C, e, d, r, e2⟩ := h
    subst e e2
    cases j with
    | zero =>
      have hj : x = q := by simpa using hj
      subst hj
      exact ⟨v, A, C, rfl, d, .refl _, fun q' A' d' => ⟨A' ++ C, ⟨v, ws, A', C, rfl, d', r, rfl⟩, .refl _⟩⟩
    | succ j =>
      obtain ⟨u, A2, Lr, h1, h2, h3, h4⟩ := ih r (j := j) (by simpa using hj)
      refine ⟨u, A2, A ++ Lr, by simpa using h1, h2, ?_, fun q' A' d' => ?_⟩
      · refine (List.Perm.append_left A h3).trans ?_
        have e1 : A ++ (A2 ++ Lr) = (A ++ A2) ++ Lr := by simp
        have e2 : A2 ++ (A ++ Lr) = (A2 ++ A) ++ Lr := by simp
        rw [e1, e2]
        exact List.perm_append_comm.append_right Lr
      · obtain ⟨L', q1, q2⟩ := h4 q' A' d'
        refine ⟨A ++ L', ⟨v, ws, A, L', rfl, d, q1, rfl⟩, (List.Perm.append_left A q2).trans ?_⟩
        have e1 : A ++ (A' ++ Lr) = (A ++ A') ++ Lr := by simp
        have e2 : A' ++ (A ++ Lr) = (A' ++ A) ++ Lr := by simp
        rw [e1, e2]
        exact List.perm_append_comm.append_right Lr
theorem OwnK.focus {k : Key} {os : List (Key × OV)} {vs : List (Key × V)} (h : OwnK M F os vs L) : ∀ {q : OV}, lookK os k = some q → ∃ u A Lr, valV vs k = some u ∧ Own M F q u A ∧ L.Perm (A ++ Lr) ∧ ∀ q' A', Own M F q' u A' → ∃ L', OwnK M F (setK os k q') vs L' ∧ L'.Perm (A' ++ Lr) := by
  induction os generalizing vs L with
  | nil => intro q h; simp [lookK] at h
  | cons x os ih =>
    intro q hj
    obtain ⟨j, x⟩ := x
    obtain ⟨v, ws, A, C, e, d, r, e2⟩ := h
    subst e e2
    rw [lookK_cons] at hj
    by_cases hjk : j = k
    · rw [if_pos hjk] at hj
      cases hj
      exact ⟨v, A, C, valV_pos hjk, d, .refl _, fun q' A' d' => ⟨A' ++ C, by unfold setK; rw [if_pos hjk]; exact ⟨v, ws, A', C, rfl, d', r, rfl⟩, .refl _⟩⟩
    · rw [if_neg hjk] at hj
      obtain ⟨u, A2, Lr, h1, h2, h3, h4⟩ := ih r hj
      refine ⟨u, A2, A ++ Lr, by rw [valV_neg hjk]; exact h1, h2, ?_, fun q' A' d' => ?_⟩
      · refine (List.Perm.append_left A h3).trans ?_
        have e1 : A ++ (A2 ++ Lr) = (A ++ A2) ++ Lr := by simp
        have e2 : A2 ++ (A ++ Lr) = (A2 ++ A) ++ Lr := by simp
        rw [e1, e2]
        exact List.perm_append_comm.append_right Lr
      · obtain ⟨L', q1, q2⟩ := h4 q' A' d'
        refine ⟨A ++ L', by unfold setK; rw [if_neg hjk]; exact ⟨v, ws, A, L', rfl, d, q1, rfl⟩, (List.Perm.append_left A q2).trans ?_⟩
        have e1 : A ++ (A' ++ Lr) = (A ++ A') ++ Lr := by simp
        have e2 : A' ++ (A ++ Lr) = (A' ++ A) ++ Lr := by simp
        rw [e1, e2]
        exact List.perm_append_comm.append_right Lr
/-- a part rewritten is the whole rewritten -/
theorem wrote_up {b : Addr} {hb : HO} {A Lr L0 : Cells} (hL : L0.Perm (A ++ Lr)) (hw : Wrote M F A B y a ho ho' q') (hup : ∀ A', Own M F q' y A' → ∃ L', Own M F p' v ((b, hb) :: L') ∧ L'.Perm (A' ++ Lr)) : Wrote M F ((b, hb) :: L0) B v a ho ho' p' := by
  obtain ⟨A1, D, A', w1, w2, w3⟩ := hw
  obtain ⟨L', u1, u2⟩ := hup A' w2
  refine ⟨(b, hb) :: (A1 ++ Lr), D, _, ?_, u1, ?_⟩
  · have h1 : L0.Perm ((a, ho) :: (A1 ++ D) ++ Lr) := hL.trans (w1.append_right Lr)
    have h2 : ((a, ho) :: (A1 ++ D) ++ Lr).Perm ((a, ho) :: ((A1 ++ Lr) ++ D)) := by
      refine List.Perm.cons _ ?_
      show ((A1 ++ D) ++ Lr).Perm ((A1 ++ Lr) ++ D)
      rw [List.append_assoc, List.append_assoc]
      exact List.Perm.append_left A1 List.perm_append_comm
    exact ((h1.trans h2).cons _).trans (List.Perm.swap _ _ _)
  · have h1 : L'.Perm ((a, ho') :: (A1 ++ B) ++ Lr) := u2.trans (w3.append_right Lr)
    have h2 : ((a, ho') :: (A1 ++ B) ++ Lr).Perm ((a, ho') :: ((A1 ++ Lr) ++ B)) := by
      refine List.Perm.cons _ ?_
      show ((A1 ++ B) ++ Lr).Perm ((A1 ++ Lr) ++ B)
      rw [List.append_assoc, List.append_assoc]
      exact List.Perm.append_left A1 List.perm_append_comm
    exact ((h1.trans h2).cons _).trans (List.Perm.swap _ _ _)
/-- a part of a value: where it lies, and how the whole is rewritten with it -/
theorem own_sub {k : FV} {w : V} (e : p.sub? k = some q) (h : Own M F p v L) (dk : FDen M H k w) (hH : ∀ c ∈ L, H c.1 = some c.2) :
    ∃ d u A, v = .ref d ∧ Own M F q u A ∧ (∀ c ∈ A, H c.1 = some c.2) ∧ ((p.isL = true ∧ ∃ vs i, w = .int i ∧ H d = some (.lst vs) ∧ atI vs i = some u) ∨ (p.isL = false ∧ ∃ ws k, w = kV k ∧ H d = some (.dK ws) ∧ valV ws k = some u)) ∧
      ∀ q' B a ho ho', Wrote M F A B u a ho ho' q' → Wrote M F L B v a ho ho' (p.setAt k q') := by
  unfold OV.sub? at e
  split at e
  · rename_i os i
    obtain ⟨j, e1, e2⟩ := Option.bind_eq_some_iff.mp e
    obtain ⟨d, vs, L0, ev, r, eL⟩ := h
    subst ev eL
    obtain ⟨u, A, Lr, h1, h2, h3, h4⟩ := r.focus e2
    refine ⟨d, u, A, rfl, h2, fun c hc => hH c (List.mem_cons_of_mem _ (h3.mem_iff.mpr (List.mem_append_left _ hc))), .inl ⟨rfl, vs, i, dk, hH _ List.mem_cons_self, ?_⟩, fun q' B a ho ho' hw => ?_⟩
    · unfold atI
      rw [r.length, e1]
      exact h1
    · refine wrote_up h3 hw fun A' d' => ?_
      obtain ⟨L', u1, u2⟩ := h4 q' A' d'
      refine ⟨L', ?_, u2⟩
      show Own M F (OV.setAt (.dl os) (.int i) q') (.ref d) _
      unfold OV.setAt
      simp only
      rw [e1]
      exact ⟨d, vs, L', rfl, u1, rfl⟩
  · rename_i kvs
    obtain ⟨k', e1, e2⟩ := Option.bind_eq_some_iff.mp e
    obtain ⟨d, ws, L0, ev, r, eL⟩ := h
    subst ev eL
    obtain ⟨u, A, Lr, h1, h2, h3, h4⟩ := r.focus e2
    refine ⟨d, u, A, rfl, h2, fun c hc => hH c (List.mem_cons_of_mem _ (h3.mem_iff.mpr (List.mem_append_left _ hc))), .inr ⟨rfl, ws, k', dk.key e1, hH _ List.mem_cons_self, h1⟩, fun q' B a ho ho' hw => ?_⟩
    refine wrote_up h3 hw fun A' d' => ?_
    obtain ⟨L', u1, u2⟩ := h4 q' A' d'
    refine ⟨L', ?_, u2⟩
    have : OV.setAt (.dd kvs) k q' = .dd (setK kvs k' q') := by
      unfold OV.setAt
      simp only
      rw [e1]
    rw [this]
    exact ⟨d, ws, L', rfl, u1, rfl⟩
  · cases e
end
/-- x[k].append(e) -/
def dAppAt (i : Nat) (fk fe : DE) : DS := fun env => match env[i]? with
  | some (some p) => (fk env).bind fun kr => match p.sub? kr.fv with
    | some q => if q.isL then (fe env).bind fun r => match r with
        | .st o => if q.size < BIG then match q.app o with
          | some q' => .ok (.nx (env.set i (some (p.setAt kr.fv q'))))
          | none => .no
          else .no
        | _ => .no
      else .no
    | none => .no
  | _ => .no
section
variable {X : Cx} {W : WX} {pos pos' apos spos cpos : Pos} {e k : Expr} {f fk fe : DE} {x : Str}
theorem js_appAt (i : Nat) (hu : X.A.units + 1 < cLine) (hk : JE X W k fk) (he : JE X W e fe) (hN : X.N[i]? = some x := by rfl) (hv : Vis X.env.scope x := by first | exact Or.inl rfl | exact Or.inr (Or.inl rfl) | exact Or.inr (Or.inr rfl))
    (hd : (x == ("__debug__" : Str)) = false := by decide) (hcd : (x == ("__classdict__" : Str)) = false := by decide)
    (hs : swapsWith (.Call (.Attribute (.Subscript (.Name x pos') k spos) "append" apos) [e] [] cpos) none pos.line X.env = pure false := by rfl)
    (hbase : attributeBase (.Subscript (.Name x pos') k spos) "append" X.env (eval (.Subscript (.Name x pos') k spos) X.env) = eval (.Subscript (.Name x pos') k spos) X.env := by rfl)
    (hfew : ((backTo cpos (starEach [e] X.env)).all (fun x => !x.1) && (backToKw cpos (keywordEach [] X.env)).all (fun x => x.1.isSome)
      && decide ([e].length + ([] : List Keyword).length + (if ([] : List Keyword).isEmpty then 0 else 1) < 30)) = true := by rfl)
    (hline : (apos.endLine == cpos.line) = true := by rfl) (hst : starEach [e] X.env = (false, eval e X.env) :: starEach [] X.env := by rfl) (hplain : (backTo cpos (starEach [] X.env)).any (·.1) = false := by rfl)
    (hix : PlainIx k := by first | exact fun _ _ => rfl | (intro _ _; rfl)) :
    JS X W (.Expr (.Call (.Attribute (.Subscript (.Name x pos') k spos) "append" apos) [e] [] cpos) pos) (dAppAt i fk fe) := by
  have hpl := PE.or (pe_ix (ix_seq (X := X)) (pe_var (pos := pos') hN hv hd hcd) hk hix (pos := spos)) (pe_dget hu (pe_var (pos := pos') hN hv hd hcd) hk hix (pos := spos))
  refine PS.imp (ps_expr (pe_bm F.plainAttrs_list F.slot_list_append (by rfl) (fun pins s σ H x xs v us Q I r rv q => mt_append pins s σ H x xs v us Q I r rv q) hpl (pa_cons he pa_nil hst) hbase hfew hline hst hplain) hs) fun D σ H ⟨G, Z, env, T, hT, r, p⟩ => ?_
  unfold dAppAt at p
  split at p
  · rename_i q0 ei
    -- which of the two it is
    have main : ∀ Qk : VK, (∀ w H1, (∃ d u, σ[i]? = some (some (.ref d)) ∧ ((q0.isL = true ∧ ∃ vs i, w = .int i ∧ H1 d = some (.lst vs) ∧ atI vs i = some u) ∨ (q0.isL = false ∧ ∃ ws k, w = kV k ∧ H1 d = some (.dK ws) ∧ valV ws k = some u)) ∧
        tyV X.K "list" u H1 ∧ tE X.mg W fe σ H1 fun y H2 => rAppend u [y] H2 fun _ H3 => D.nx σ H3) → Qk w H1) → tE X.mg W fk σ H Qk := by
      intro Qk hQk
      refine tE.bindS r p fun kr w H1 _ s1 r1 p1 => hQk w H1 ?_
      split at p1
      · rename_i q eq
        split at p1
        · rename_i hl
          obtain ⟨F1, D1, D2, r1⟩ := r1
          have dk : FDen X.mg H1 kr.fv w := (r1.bor (List.mem_cons_self (a := (w, kr)))).fden r1.fh
          obtain ⟨F2, D3, D4, r2⟩ := r1.r.pop
          obtain ⟨v, A, Lr, j1, j2, j3, _⟩ := r2.ev.repl ei
          obtain ⟨d, u, A2, e1, o2, c2, k2, _⟩ := own_sub eq j2 dk fun c hc => r2.gd.hp c (List.mem_append_left _ (j3.mem_iff.mpr (List.mem_append_left _ hc)))
          subst e1
          obtain ⟨b, vs0, e3, m3⟩ := own_isL hl o2
          subst e3
          refine ⟨d, .ref b, j1, k2, .inl ⟨rfl, vs0, SqL.of (c2 _ m3)⟩, ?_⟩
          refine tE.bindS r2.r p1 fun rv y H2 _ s2 r3 p3 => ?_
          cases rv with
          | bo o => exact p3.elim
          | st o =>
            simp only at p3
            split at p3
            · rename_i hsz
              split at p3
              · rename_i q' eq'
                obtain ⟨F4, D5, D6, r4⟩ := r3
                obtain ⟨v4, L4, B4, w1, w2, w3, w4, w5⟩ := r4.write hT ei
                rw [j1] at w1
                obtain rfl := Option.some.inj (Option.some.inj w1)
                obtain ⟨d5, u5, A5, e5, o5, c5, k5, up5⟩ := own_sub eq w2 (dk.mono s2) w4
                cases e5
                have eu : u5 = .ref b := by
                  rcases k2 with ⟨_, vs, ii, a1, a2, a3⟩ | ⟨_, ws, kk, a1, a2, a3⟩
                  · rcases k5 with ⟨_, vs', ii', b1, b2, b3⟩ | ⟨_, ws', kk', b1, b2, b3⟩
                    · rw [a1] at b1
                      cases b1
                      rw [s2 _ _ a2] at b2
                      cases b2
                      rw [a3] at b3
                      exact (Option.some.inj b3).symm
                    · rw [s2 _ _ a2] at b2
                      cases b2
                  · rcases k5 with ⟨_, vs', ii', b1, b2, b3⟩ | ⟨_, ws', kk', b1, b2, b3⟩
                    · rw [s2 _ _ a2] at b2
                      cases b2
                    · rw [a1] at b1
                      have := kV_inj b1
                      subst this
                      rw [s2 _ _ a2] at b2
                      cases b2
                      rw [a3] at b3
                      exact (Option.some.inj b3).symm
                subst eu
                obtain ⟨a, vs, e6, m1, m2, wr⟩ := own_app eq' o5 w3
                cases e6
                exact ⟨b, vs, y, rfl, rfl, c5 _ m1, by rw [m2]; exact hsz, p3 σ _ (let ⟨_, _, z⟩ := w5 _ _ _ _ (up5 _ _ _ _ _ wr); z.r)⟩
              · exact p3.elim
            · exact p3.elim
        · exact p1.elim
      · exact p1.elim
    -- the owner's kind tells the road
    obtain ⟨F, C1, C2, r0⟩ := r
    obtain ⟨v, A, Lr, j1, j2, j3, _⟩ := r0.ev.repl ei
    have hH : ∀ c ∈ A, H c.1 = some c.2 := fun c hc => r0.gd.hp c (List.mem_append_left _ (j3.mem_iff.mpr (List.mem_append_left _ hc)))
    by_cases hq : q0.isL = true
    · refine .inl ⟨v, j1, main _ fun w H1 ⟨d, u, h1, h2, h3, h4⟩ => .inl ?_⟩
      rw [j1] at h1
      obtain rfl := Option.some.inj (Option.some.inj h1)
      rcases h2 with ⟨_, vs, ii, a1, a2, a3⟩ | ⟨hn, _⟩
      · exact ⟨d, vs, ii, u, rfl, a1, SqL.of a2, a3, h3, h4⟩
      · rw [hq] at hn; cases hn
    · refine .inr ⟨v, j1, main _ fun w H1 ⟨d, u, h1, h2, h3, h4⟩ => ?_⟩
      rw [j1] at h1
      obtain rfl := Option.some.inj (Option.some.inj h1)
      rcases h2 with ⟨hn, _⟩ | ⟨_, ws, kk, a1, a2, a3⟩
      · exact absurd hn hq
      · subst a1
        exact ⟨d, u, rfl, (by have := DGet.k (k := kk) a2; rwa [a3] at this), h3, h4⟩
  · exact p.elim
end
end J
namespace J
open PySem PySem.Spec PyProof.Rows L2
/-! ### x.extend(e) -/
def dExt (i : Nat) (f : DE) : DS := fun env => match env[i]? with
  | some (some (.ol xs)) => (f env).bind fun r => match r with
    | .st (.fz (.lst zs)) => if xs.length + zs.length ≤ BIG then .ok (.nx (env.set i (some (.ol (xs ++ zs))))) else .no
    | _ => .no
  | _ => .no
section
variable {X : Cx} {W : WX} {pos pos' apos spos cpos : Pos} {e k : Expr} {f fk fe : DE} {x : Str}
theorem js_extend (i : Nat) (he : JE X W e f) (hN : X.N[i]? = some x := by rfl) (hv : Vis X.env.scope x := by first | exact Or.inl rfl | exact Or.inr (Or.inl rfl) | exact Or.inr (Or.inr rfl))
    (hd : (x == ("__debug__" : Str)) = false := by decide) (hcd : (x == ("__classdict__" : Str)) = false := by decide)
    (hs : swapsWith (.Call (.Attribute (.Name x pos') "extend" apos) [e] [] cpos) none pos.line X.env = pure false := by rfl)
    (hbase : attributeBase (.Name x pos') "extend" X.env (eval (.Name x pos') X.env) = eval (.Name x pos') X.env := by rfl)
    (hfew : ((backTo cpos (starEach [e] X.env)).all (fun x => !x.1) && (backToKw cpos (keywordEach [] X.env)).all (fun x => x.1.isSome)
      && decide ([e].length + ([] : List Keyword).length + (if ([] : List Keyword).isEmpty then 0 else 1) < 30)) = true := by rfl)
    (hline : (apos.endLine == cpos.line) = true := by rfl) (hst : starEach [e] X.env = (false, eval e X.env) :: starEach [] X.env := by rfl) (hplain : (backTo cpos (starEach [] X.env)).any (·.1) = false := by rfl) :
    JS X W (.Expr (.Call (.Attribute (.Name x pos') "extend" apos) [e] [] cpos) pos) (dExt i f) := by
  refine PS.imp (ps_expr (pe_bm F.plainAttrs_list F.slot_list_extend (by rfl) (fun pins s σ H x xs v us Q I r rv q => mt_extend pins s σ H x xs v us Q I r rv q) (pe_var hN hv hd hcd) (pa_cons he pa_nil hst) hbase hfew hline hst hplain) hs) fun D σ H ⟨G, Z, env, T, hT, r, p⟩ => ?_
  unfold dExt at p
  split at p
  · rename_i xs ei
    obtain ⟨F, C1, C2, r⟩ := r
    obtain ⟨a0, vs0, k1, k2⟩ := r.isL (p := .ol xs) rfl ei
    refine ⟨_, k1, .inl ⟨rfl, vs0, SqL.of k2⟩, ?_⟩
    refine tE.bindS r.r p fun rv y H1 _ s1 r1 p1 => ?_
    split at p1
    · rename_i zs _
      split at p1
      · rename_i hz
        obtain ⟨F2, D1, D2, r1⟩ := r1
        obtain ⟨b, ws, rfl, hb, dz⟩ := (r1.bor (List.mem_cons_self (a := (y, Rv.st (.fz (.lst zs)))))).lst r1.fh rfl
        obtain ⟨v, L, B, j1, j2, j3, j4, j5⟩ := r1.write hT ei
        rw [k1] at j1
        obtain rfl := Option.some.inj (Option.some.inj j1)
        obtain ⟨a, vs, e1, dd, e2⟩ := j2
        cases e1
        have hB : B = [] := j3.2
        subst hB e2
        refine ⟨a0, b, vs, ws, rfl, rfl, j4 _ (List.mem_singleton.mpr rfl), hb, by rw [dd.length, dz.length, big_eq]; exact hz, p1 σ _ ?_⟩
        obtain ⟨_, _, z⟩ := j5 a0 (.lst vs) (.lst (vs ++ ws)) (.ol (xs ++ zs)) ⟨[], [], _, .refl _, ⟨a0, _, rfl, dd.append dz, rfl⟩, .refl _⟩
        exact z.r
      · exact p1.elim
    · exact p1.elim
  · exact p.elim
def brB (o : OV) (a b : Ans SO) : Ans SO := match o with
  | .fz (.bl c) => if c then a else b
  | _ => .no
theorem brB_no {o : OV} {a b : Ans SO} (h : ¬ ∃ c, o = .fz (.bl c)) : brB o a b = .no := by
  unfold brB
  split
  · exact absurd ⟨_, rfl⟩ h
  · rfl
/-! ### if d.setdefault(k, v) != e: .. -/
def dSetd (i : Nat) (fk fv fe : DE) (opd : OV → OV → Option OV) (a b : DS) : DS := fun env => match env[i]? with
  | some (some (.oK kvs)) => (fk env).bind fun kr => (fv env).bind fun vr => match kr.fv.key?, vr with
    | some k, .st (.fz x) => if kvs.length < BIG then
        (let y := (lookK kvs k).getD x
         let env2 := env.set i (some (.oK (match lookK kvs k with | some _ => kvs | none => kvs ++ [(k, x)])))
         (fe env2).bind fun er => (Ans.of (opd (.fz y) er.ov)).bind fun o => brB o (a env2) (b env2))
      else .no
    | _, _ => .no
  | _ => .no
theorem FDenK.look2 {M : Str → Option Value} {F : Hp} {kvs : List (Key × FV)} {ws : List (Key × V)} (k : Key) (d : FDenK M F kvs ws) {y : FV} {u : V} (e : lookK kvs k = some y) (e2 : valV ws k = some u) : FDen M F y u := by
  rcases d.look k with ⟨x, v, h1, h2, h3⟩ | ⟨h1, _⟩
  · rw [e] at h1
    rw [e2] at h2
    cases h1
    cases h2
    exact h3
  · rw [e] at h1; cases h1
theorem RF.sb' {M : Str → Option Value} {G Z H F : Hp} {σ : Sl} {env : VEnv} {T T' : List (V × Rv)} {C1 C2 : Cells} (r : RF M G Z H F σ env T' C1 C2) (h : Sb T T') : ∃ C4, RF M G Z H F σ env T C1 C4 := by
  obtain ⟨A, hp⟩ := h
  obtain ⟨L', t, hL⟩ := r.tm.perm hp
  obtain ⟨L2, D, t2, h2⟩ := t.sub (List.sublist_append_left T A)
  refine ⟨L2, r.gf, r.fg, r.fh, r.zh, r.ev, t2, ?_⟩
  have g := r.gd.perm (List.Perm.append_left C1 (hL.trans h2))
  rw [← List.append_assoc] at g
  exact g.left
theorem setd_fin {op : CmpOp} {opd : OV → OV → Option OV} (ho : OJ X (compareOp op) opd) {G Z H F : Hp} {σ : Sl} {env : VEnv} {T : List (V × Rv)} {C1 : Cells} {D : Ends} {fa fb : DS} {y : FV} {u : V} (hT : AllSt T) (r : ∃ C2, RF X.mg G Z H F σ env T C1 C2) (du : FDen X.mg F y u)
    (p : PostS X.mg W G Z T D ((fe env).bind fun er => (Ans.of (opd (.fz y) er.ov)).bind fun o => brB o (fa env) (fb env))) :
    tE X.mg W fe σ H fun t H3 => rJ X.mg opd u t H3 fun x H4 => ∃ k, x = .bl k ∧ if k = true then sJ X.mg W fa D σ H4 else sJ X.mg W fb D σ H4 := by
  obtain ⟨C2, r⟩ := r
  have r2 := r.new (New.old r.fh du)
  refine tE.bindS2 r2 Sb.refl.cons p fun er t H3 _ s3 ⟨F6, C6, C7, r6⟩ p3 => ?_
  cases eo : opd (.fz y) er.ov with
  | none => rw [eo] at p3; exact p3.elim
  | some o =>
    rw [eo] at p3
    have b1 : Bor X.mg F6 H3 (.fz y) u := r6.bor (p := (u, .st (.fz y))) (List.mem_cons_of_mem _ List.mem_cons_self)
    have b2 : Bor X.mg F6 H3 er.ov t := r6.bor (p := (t, er)) List.mem_cons_self
    refine ⟨F6, .fz y, er.ov, o, r6.fh, b1, b2, eo, fun v H4 n => ?_⟩
    by_cases hc : ∃ c, o = .fz (.bl c)
    · obtain ⟨c, rfl⟩ := hc
      have p3 : PostS X.mg W G Z T D (if c then fa env else fb env) := p3
      have r7 := r6.new n
      have hv : v = .bl c := by
        obtain ⟨F8, C8, C9, r8⟩ := r7
        exact (r8.bor (p := (v, .st (.fz (.bl c)))) List.mem_cons_self).bl
      have r9 : R X.mg G Z H4 σ env T := r7.sb (Sb.refl.cons.cons.cons)
      refine ⟨c, hv, ?_⟩
      cases c with
      | true => rw [if_pos rfl] at p3 ⊢; exact ⟨G, Z, env, T, hT, r9, p3⟩
      | false => rw [if_neg Bool.false_ne_true] at p3 ⊢; exact ⟨G, Z, env, T, hT, r9, p3⟩
    · exfalso
      have p4 : PostS X.mg W G Z T D (brB o (fa env) (fb env)) := p3
      rw [brB_no hc] at p4
      exact p4
theorem js_ifSetd (i : Nat) {op : CmpOp} {opd : OV → OV → Option OV} {e2 e3 : Expr} {a b : List Stmt} {fa fb : DS} {mpos ifpos : Pos} (ho : OJ X (compareOp op) opd) (hk : JE X W k fk) (hvv : JE X W e2 f) (he : JE X W e3 fe) (ha : JSs X W a fa) (hb : JSs X W b fb) (hm : M2 X (.Name x pos') "setdefault" apos k e2 cpos)
    (hN : X.N[i]? = some x := by rfl) (hv : Vis X.env.scope x := by first | exact Or.inl rfl | exact Or.inr (Or.inl rfl) | exact Or.inr (Or.inr rfl))
    (hd : (x == ("__debug__" : Str)) = false := by decide) (hcd : (x == ("__classdict__" : Str)) = false := by decide) (hmk : behindInMarks op e3 = false := by first | exact nomark _ | rfl) :
    JS X W (.If (.Compare (.Call (.Attribute (.Name x pos') "setdefault" apos) [k, e2] [] cpos) [op] [e3] mpos) a b ifpos) (dSetd i fk f fe opd fa fb) := by
  refine PS.imp (ps_if (pt_cmpR ho (pe_dsetd (pe_var hN hv hd hcd) hk hvv hm) he hmk) ha hb) fun D σ H ⟨G, Z, env, T, hT, r, p⟩ => ?_
  unfold dSetd at p
  split at p
  · rename_i kvs ei
    obtain ⟨F, C1, C2, r⟩ := r
    obtain ⟨v, A, Lr, j1, j2, j3, _⟩ := r.ev.repl ei
    obtain ⟨d, ws, e1, dd, e2⟩ := j2
    subst e1 e2
    have hHd : H d = some (.dK ws) := r.gd.hp (d, .dK ws) (List.mem_append_left _ (j3.mem_iff.mpr (List.mem_append_left _ (List.mem_singleton.mpr rfl))))
    refine ⟨.ref d, j1, d, rfl, .inl ⟨ws, .inl hHd⟩, ?_⟩
    refine tE.bindS r.r p fun kr w H1 _ s1 r1 p1 => ?_
    refine tE.bindS2 r1 Sb.refl.cons p1 fun vr z H2 _ s2 r2 p2 => ?_
    split at p2
    · rename_i kk x' ek _
      split at p2
      · rename_i hz
        obtain ⟨F2, D1, D2, r2⟩ := r2
        have dk : FDen X.mg H2 kr.fv w := (r2.bor (p := (w, kr)) (List.mem_cons_of_mem _ List.mem_cons_self)).fden r2.fh
        have ew : w = kV kk := dk.key ek
        subst ew
        have r3 : R X.mg G Z H2 σ env ((z, .st (.fz x')) :: T) := r2.r.sb (Sb.refl.cons.both)
        obtain ⟨F3, D3, D4, r3⟩ := r3
        obtain ⟨v4, L, B, w1, w2, w3, w4, w5⟩ := r3.write hT ei
        rw [j1] at w1
        obtain rfl := Option.some.inj (Option.some.inj w1)
        obtain ⟨d', ws', e1, dd', e2⟩ := w2
        cases e1
        have hB : B = [] := w3.2
        subst hB e2
        have hH2 : H2 d = some (.dK ws') := w4 _ (List.mem_singleton.mpr rfl)
        have dz : FDen X.mg F3 x' z := w3.1
        refine ⟨ws', kk, hH2, rfl, by rw [dd'.length, big_eq]; exact hz, fun u hu => ?_, fun hn => ?_⟩
        · rcases dd'.look kk with ⟨y, u', h1, h2, h3⟩ | ⟨_, h2⟩
          · rw [hu] at h2
            cases h2
            have henv : env.set i (some (.oK kvs)) = env := by
              apply List.ext_getElem?
              intro n
              by_cases hn : i = n
              · subst hn
                obtain ⟨hlt, _⟩ := List.getElem?_eq_some_iff.mp ei
                rw [List.getElem?_set_self hlt, ei]
              · rw [List.getElem?_set_ne hn]
            simp only [h1, Option.getD_some, henv] at p2
            exact setd_fin ho hT (r3.sb' Sb.refl.cons) h3 p2
          · rw [hu] at h2; cases h2
        · rcases dd'.look kk with ⟨y, u', h1, h2, h3⟩ | ⟨h1, _⟩
          · rw [hn] at h2; cases h2
          · simp only [h1, Option.getD_none] at p2
            have hput : putK ws' kk z = ws' ++ [(kk, z)] := putK_new z hn
            rw [hput]
            obtain ⟨_, _, r5⟩ := w5 d (.dK ws') (.dK (ws' ++ [(kk, z)])) (.oK (kvs ++ [(kk, x')])) ⟨[], [], _, .refl _, ⟨d, _, rfl, dd'.snoc dz, rfl⟩, .refl _⟩
            exact setd_fin ho hT ⟨_, r5⟩ dz p2
      · exact p2.elim
    · exact p2.elim
  · exact p.elim
end
end J
namespace J
open PySem PySem.Spec PyProof.Rows L2
/-! ### dict(d), list.index -/
def opDict : List OV → Option OV
  | [.oK kvs] => some (.oK kvs)
  | [.fz (.dK kvs)] => some (.oK kvs)
  | _ => none
theorem cj_dict {X : Cx} : CallR X (.type "dict") (rJn X.mg opDict) := by
  refine CallR.imp call_dictD fun us H Q ⟨F, os, o, hf, ps, e, k⟩ => ?_
  unfold opDict at e
  split at e
  · cases e
    obtain ⟨u, rfl, b⟩ := paired1 ps
    obtain ⟨A, ⟨a, ws, e, d, q⟩, c⟩ := b
    subst e q
    exact ⟨a, ws, rfl, .inl (c (a, .dK ws) (List.mem_singleton.mpr rfl)), fun p hp => k _ _ (New.dK hf hp d)⟩
  · cases e
    obtain ⟨u, rfl, b⟩ := paired1 ps
    obtain ⟨A, ⟨⟨a, ws, e, q, d⟩, _⟩, c⟩ := b
    subst e
    exact ⟨a, ws, rfl, .inl (hf _ _ q), fun p hp => k _ _ (New.dK hf hp d)⟩
  · cases e
def opIndex : OV → List OV → Option OV
  | x, [y] => match x.lst?, y.fv.toD with
    | some xs, some d => match FV.toDL xs with
      | some ds => if SeqAt.shaped (.list ds) && SeqAt.shaped d then (ds.findIdx? fun z => PyData.eqv z d).map fun j => .fz (.int (j : Nat)) else none
      | none => none
    | _, _ => none
  | _, _ => none
theorem mj_index {X : Cx} (hu : X.A.units + 65 < cLine) : MtR X "list.index" (rM X.mg opIndex) := by
  rintro pins s σ H x xs v us Q I rx rs ⟨F, o, os, res, hf, bx, ps, e, k⟩
  unfold opIndex at e
  split at e
  · rename_i y
    split at e
    · rename_i zs d e1 e2
      split at e
      · rename_i ds e3
        split at e
        · rename_i hs
          rw [Bool.and_eq_true] at hs
          obtain ⟨j, ej, e4⟩ := Option.map_eq_some_iff.mp e
          subst e4
          obtain ⟨u, rfl, b⟩ := paired1 ps
          obtain ⟨a, vs, rfl, hq, dd⟩ := bx.lst hf e1
          obtain ⟨hj, hj2, hj3⟩ := List.findIdx?_eq_some_iff_getElem.mp ej
          refine mt_indexD hu pins s σ H _ _ v us Q I rx rs ⟨a, u, d, ds, j, ds[j], rfl, rfl, .lst (SqL.of hq) (FDenL.dp (dd.mono hf) e3), FDen.dp (b.fden hf) e2, hs.1, hs.2, List.getElem?_eq_getElem hj, hj2, fun m z' hm hz => ?_, k _ _ (New.int hf)⟩
          obtain ⟨hml, rfl⟩ := List.getElem?_eq_some_iff.mp hz
          have := hj3 m hm
          simpa using this
        · cases e
      · cases e
    · cases e
  · cases e
end J
namespace J
open PySem PySem.Spec PyProof.Rows L2
/-! ### the plain functions: lists, loops -/
theorem lcF_map {t : TgF} {c : DT} {e : DE} {env : VEnv} {p : FV → Bool} {g : FV → FV} : ∀ {items : List FV}, (∀ x ∈ items, ∃ e1, t x env = some e1 ∧ c e1 = .ok (p x) ∧ (p x = true → e e1 = .ok (.st (.fz (g x))))) → lcF t c e env items = .ok ((items.filter p).map g)
  | [], _ => rfl
  | x :: xs, h => by
    obtain ⟨e1, h1, h2, h3⟩ := h x List.mem_cons_self
    have ih := lcF_map (items := xs) fun y hy => h y (List.mem_cons_of_mem _ hy)
    unfold lcF
    rw [h1]
    simp only [h2, Ans.nox, Ans.bind]
    cases hp : p x with
    | false => rw [if_neg Bool.false_ne_true, List.filter_cons_of_neg (by simp [hp])]; exact ih
    | true =>
      rw [if_pos rfl, List.filter_cons_of_pos hp, h3 hp]
      simp only [Rv.fz?, ih, List.map_cons]
theorem dLc_ok {it : VEnv → Ans (List FV)} {t : TgF} {c : DT} {e : DE} {vs : List Nat} {env : VEnv} {items : List FV} {p : FV → Bool} {g : FV → FV} (hi : it env = .ok items)
    (h : ∀ x ∈ items, ∃ e1, t x (frzE (wipeE env vs)) = some e1 ∧ c e1 = .ok (p x) ∧ (p x = true → e e1 = .ok (.st (.fz (g x)))))
    (hl : items.length ≤ BIG) (hc : allFzE env = true ∨ FV.pureL ((items.filter p).map g) = true) : dLc it t c e vs env = .ok (.st (.ol ((items.filter p).map g))) := by
  unfold dLc
  rw [hi]
  simp only [Ans.bind]
  rw [lcF_map h]
  simp only
  rw [if_pos]
  rw [Bool.and_eq_true, Bool.or_eq_true]
  refine ⟨decide_eq_true ?_, hc⟩
  rw [List.length_map]
  exact Nat.le_trans (List.length_filter_le _ _) hl
/-- without a test -/
theorem dLc_all {it : VEnv → Ans (List FV)} {t : TgF} {e : DE} {vs : List Nat} {env : VEnv} {items : List FV} {g : FV → FV} (hi : it env = .ok items)
    (h : ∀ x ∈ items, ∃ e1, t x (frzE (wipeE env vs)) = some e1 ∧ e e1 = .ok (.st (.fz (g x))))
    (hl : items.length ≤ BIG) (hc : allFzE env = true ∨ FV.pureL (items.map g) = true) : dLc it t dTrue e vs env = .ok (.st (.ol (items.map g))) := by
  have hf : items.filter (fun _ => true) = items := List.filter_eq_self.mpr fun _ _ => rfl
  have := dLc_ok (c := dTrue) (p := fun _ => true) (g := g) hi (fun x hx => let ⟨e1, h1, h2⟩ := h x hx; ⟨e1, h1, rfl, fun _ => h2⟩) hl (by rw [hf]; exact hc)
  rw [hf] at this
  exact this
/-- a for that runs through -/
theorem forL_inv {t : TgF} {body : DS} (I : Nat → VEnv → Prop) : ∀ {items : List FV} {n : Nat} {env : VEnv}, I n env → (∀ i x env, items[i]? = some x → I (n + i) env → ∃ e1 e2, t x env = some e1 ∧ (body e1 = .ok (.nx e2) ∨ body e1 = .ok (.ct e2)) ∧ I (n + i + 1) e2) →
    ∃ e, forL t body items env = .ok (.nx e) ∧ I (n + items.length) e
  | [], n, env, h, _ => ⟨env, rfl, h⟩
  | x :: xs, n, env, h, hs => by
    obtain ⟨e1, e2, h1, h2, h3⟩ := hs 0 x env rfl h
    obtain ⟨e, k1, k2⟩ := forL_inv (t := t) (body := body) I (items := xs) (n := n + 1) h3 fun i y env hy hi => by
      have e : n + 1 + i = n + (i + 1) := by omega
      rw [e] at hi ⊢
      exact hs (i + 1) y env (by simpa using hy) hi
    refine ⟨e, ?_, ?_⟩
    · unfold forL
      rw [h1]
      rcases h2 with h2 | h2 <;> (simp only [h2, Ans.bind, loopK]; exact k1)
    · rw [List.length_cons, show n + (xs.length + 1) = n + 1 + xs.length by omega]
      exact k2
theorem dFor_inv {it : VEnv → Ans (List FV)} {t : TgF} {body : DS} {items : List FV} {env : VEnv} (I : Nat → VEnv → Prop) (hi : it env = .ok items) (h0 : I 0 env) (hs : ∀ i x env, items[i]? = some x → I i env → ∃ e1 e2, t x env = some e1 ∧ (body e1 = .ok (.nx e2) ∨ body e1 = .ok (.ct e2)) ∧ I (i + 1) e2) :
    ∃ e, dFor it t body env = .ok (.nx e) ∧ I items.length e := by
  obtain ⟨e, k1, k2⟩ := forL_inv (t := t) (body := body) I (items := items) (n := 0) h0 fun i x env hx hi => by
    rw [Nat.zero_add] at hi ⊢
    exact hs i x env hx hi
  rw [Nat.zero_add] at k2
  exact ⟨e, by unfold dFor; rw [hi]; exact k1, k2⟩
/-- a while that runs through -/
theorem dWhile_inv {c : DT} {body : DS} (I : Nat → VEnv → Prop) (hs : ∀ n env, I n env → (c env = .ok false) ∨ (c env = .ok true ∧ ∃ e2 m, (body env = .ok (.nx e2) ∨ body env = .ok (.ct e2)) ∧ m < n ∧ I m e2)) : ∀ n {env : VEnv}, I n env → ∃ e m, dWhile c body env = .ok (.nx e) ∧ I m e ∧ c e = .ok false := by
  intro n
  induction n using Nat.strongRecOn with
  | ind n ih =>
    intro env h
    rw [dWhile_eq]
    unfold whileK
    rcases hs n env h with h1 | ⟨h1, e2, m, h2, hm, h3⟩
    · rw [h1]
      exact ⟨env, n, rfl, h, h1⟩
    · obtain ⟨e, m', k1, k2, k3⟩ := ih m hm h3
      refine ⟨e, m', ?_, k2, k3⟩
      rw [h1]
      simp only [Ans.bind, if_true]
      rcases h2 with h2 | h2 <;> (rw [h2]; simp only [loopK]; exact k1)
/-! ### texts of one sign -/
def s1 (c : Nat) : FV := .str ⟨#[c]⟩
/-! ### plain data -/
mutual
def FV.pl : FV → Bool
  | .non => true
  | .int _ => true
  | .str x => PyData.strOk x
  | .tup xs => FV.plL xs
  | .lst xs => FV.plL xs
  | _ => false
def FV.plL : List FV → Bool
  | [] => true
  | x :: xs => x.pl && FV.plL xs
def FV.dep : FV → Nat
  | .tup xs => FV.depL xs + 1
  | .lst xs => FV.depL xs + 1
  | _ => 0
def FV.depL : List FV → Nat
  | [] => 0
  | x :: xs => max x.dep (FV.depL xs)
end
mutual
theorem FV.pl_toD : ∀ {x : FV}, x.pl = true → ∃ d, x.toD = some d ∧ d.canLay0 = true ∧ d.depth = x.dep
  | .non, _ => ⟨.none, rfl, rfl, rfl⟩
  | .int i, _ => ⟨.int i, rfl, rfl, rfl⟩
  | .str x, h => ⟨.str x, rfl, by rw [PyData.canLay0]; rw [FV.pl] at h; exact h, rfl⟩
  | .tup xs, h => by
    obtain ⟨ds, e, h1, h2⟩ := FV.plL_toD (xs := xs) h
    exact ⟨.tuple ds, by rw [FV.toD, e]; rfl, by simpa [PyData.canLay0] using h1, by rw [PyData.depth, h2]; rfl⟩
  | .lst xs, h => by
    obtain ⟨ds, e, h1, h2⟩ := FV.plL_toD (xs := xs) h
    exact ⟨.list ds, by rw [FV.toD, e]; rfl, by simpa [PyData.canLay0] using h1, by rw [PyData.depth, h2]; rfl⟩
theorem FV.plL_toD : ∀ {xs : List FV}, FV.plL xs = true → ∃ ds, FV.toDL xs = some ds ∧ PyData.canLayAll0 ds = true ∧ PyData.depthAll ds = FV.depL xs
  | [], _ => ⟨[], rfl, rfl, rfl⟩
  | x :: xs, h => by
    rw [FV.plL, Bool.and_eq_true] at h
    obtain ⟨d, e, h1, h2⟩ := FV.pl_toD h.1
    obtain ⟨ds, e3, h3, h4⟩ := FV.plL_toD h.2
    exact ⟨d :: ds, by rw [FV.toDL, e, e3], by rw [PyData.canLayAll0, h1, h3]; rfl, by rw [PyData.depthAll, h2, h4]; rfl⟩
end
mutual
theorem FV.pl_eqv : ∀ {x y : FV} {d e : PyData}, x.pl = true → y.pl = true → x.toD = some d → y.toD = some e → (PyData.eqv d e = true ↔ x = y)
  | .non, y, d, e, _, hy, hd, he => by
    cases y <;> simp [FV.pl] at hy <;> simp [FV.toD] at hd he <;> (try obtain ⟨_, _, he⟩ := he) <;> subst hd <;> (try subst he) <;> simp [PyData.eqv]
  | .int i, y, d, e, _, hy, hd, he => by
    cases y <;> simp [FV.pl] at hy <;> simp [FV.toD] at hd he <;> (try obtain ⟨_, _, he⟩ := he) <;> subst hd <;> (try subst he) <;> simp [PyData.eqv]
  | .str i, y, d, e, _, hy, hd, he => by
    cases y <;> simp [FV.pl] at hy <;> simp [FV.toD] at hd he <;> (try obtain ⟨_, _, he⟩ := he) <;> subst hd <;> (try subst he) <;> simp [PyData.eqv]
  | .tup xs, y, d, e, hx, hy, hd, he => by
    obtain ⟨ds, e1, rfl⟩ := Option.map_eq_some_iff.mp (show (FV.toDL xs).map PyData.tuple = some d from hd)
    cases y with
    | tup ys =>
      obtain ⟨es, e2, rfl⟩ := Option.map_eq_some_iff.mp (show (FV.toDL ys).map PyData.tuple = some e from he)
      rw [PyData.eqv, FV.plL_eqv (xs := xs) (ys := ys) hx hy e1 e2]
      simp
    | _ => simp [FV.pl] at hy <;> simp [FV.toD] at he <;> (try obtain ⟨_, _, he⟩ := he) <;> (try subst he) <;> simp [PyData.eqv]
  | .lst xs, y, d, e, hx, hy, hd, he => by
    obtain ⟨ds, e1, rfl⟩ := Option.map_eq_some_iff.mp (show (FV.toDL xs).map PyData.list = some d from hd)
    cases y with
    | lst ys =>
      obtain ⟨es, e2, rfl⟩ := Option.map_eq_some_iff.mp (show (FV.toDL ys).map PyData.list = some e from he)
      rw [PyData.eqv, FV.plL_eqv (xs := xs) (ys := ys) hx hy e1 e2]
      simp
    | _ => simp [FV.pl] at hy <;> simp [FV.toD] at he <;> (try obtain ⟨_, _, he⟩ := he) <;> (try subst he) <;> simp [PyData.eqv]
theorem FV.plL_eqv : ∀ {xs ys : List FV} {ds es : List PyData}, FV.plL xs = true → FV.plL ys = true → FV.toDL xs = some ds → FV.toDL ys = some es → (PyData.eqvAll ds es = true ↔ xs = ys)
  | [], [], _, _, _, _, h1, h2 => by cases h1; cases h2; simp [PyData.eqvAll]
  | [], y :: ys, _, es, _, hy, h1, h2 => by
    cases h1
    rw [FV.plL, Bool.and_eq_true] at hy
    obtain ⟨d, e, _⟩ := FV.pl_toD hy.1
    obtain ⟨ds, e3, _⟩ := FV.plL_toD hy.2
    rw [FV.toDL, e, e3] at h2
    cases h2
    simp [PyData.eqvAll]
  | x :: xs, [], _, es, hy, _, h2, h1 => by
    cases h1
    rw [FV.plL, Bool.and_eq_true] at hy
    obtain ⟨d, e, _⟩ := FV.pl_toD hy.1
    obtain ⟨ds, e3, _⟩ := FV.plL_toD hy.2
    rw [FV.toDL, e, e3] at h2
    cases h2
    simp [PyData.eqvAll]
  | x :: xs, y :: ys, _, _, hx, hy, h1, h2 => by
    rw [FV.plL, Bool.and_eq_true] at hx hy
    obtain ⟨d, e, _⟩ := FV.pl_toD hx.1
    obtain ⟨ds, e3, _⟩ := FV.plL_toD hx.2
    rw [FV.toDL, e, e3] at h1
    cases h1
    obtain ⟨d', e', _⟩ := FV.pl_toD hy.1
    obtain ⟨ds', e3', _⟩ := FV.plL_toD hy.2
    rw [FV.toDL, e', e3'] at h2
    cases h2
    rw [PyData.eqvAll, Bool.and_eq_true, FV.pl_eqv hx.1 hy.1 e e', FV.plL_eqv hx.2 hy.2 e3 e3']
    simp
end
open Classical in
theorem FV.eqD_pl {x y : FV} (hx : x.pl = true) (hy : y.pl = true) (dx : x.dep ≤ 64) (dy : y.dep ≤ 64) : x.eqD y = some (decide (x = y)) := by
  obtain ⟨d, e1, c1, d1⟩ := FV.pl_toD hx
  obtain ⟨e, e2, c2, d2⟩ := FV.pl_toD hy
  unfold FV.eqD
  rw [e1, e2]
  have s1 : SeqAt.shaped d = true := by unfold SeqAt.shaped; rw [c1, d1]; simpa using dx
  have s2 : SeqAt.shaped e = true := by unfold SeqAt.shaped; rw [c2, d2]; simpa using dy
  simp only [s1, s2, Bool.and_self, if_true]
  congr 1
  have := FV.pl_eqv hx hy e1 e2
  by_cases h : x = y
  · rw [decide_eq_true h]; exact this.mpr h
  · rw [decide_eq_false h]
    cases q : PyData.eqv d e with
    | false => rfl
    | true => exact absurd (this.mp q) h
/-! ### evaluation, step by step -/
section
variable {α β : Type} {a : α} {c : Str} {f : α → Ans β} {env e : VEnv} {x y : FV} {o : OV}
theorem bind_ok : (Ans.ok a).bind f = f a := rfl
theorem bind_ex : (Ans.ex c : Ans α).bind f = .ex c := rfl
theorem bind_no : (Ans.no : Ans α).bind f = .no := rfl
theorem map_ok {g : α → β} : (Ans.ok a).map g = .ok (g a) := rfl
theorem so_nx {g : VEnv → Ans SO} : SO.bind (.ok (.nx e)) g = g e := rfl
theorem so_rt {g : VEnv → Ans SO} : SO.bind (.ok (.rt o e)) g = .ok (.rt o e) := rfl
theorem so_bk {g : VEnv → Ans SO} : SO.bind (.ok (.bk e)) g = .ok (.bk e) := rfl
theorem so_ct {g : VEnv → Ans SO} : SO.bind (.ok (.ct e)) g = .ok (.ct e) := rfl
theorem of_some : Ans.of (some a) = .ok a := rfl
theorem ov_st : (Rv.st o).ov = o := rfl
theorem ov_bo : (Rv.bo o).ov = o := rfl
theorem rfv (r : Rv) : r.fv = r.ov.fv := rfl
theorem fv_fz : (OV.fz x).fv = x := rfl
theorem fv_ol {xs : List FV} : (OV.ol xs).fv = .lst xs := rfl
theorem fv_oK {xs : List (Key × FV)} : (OV.oK xs).fv = .dK xs := rfl
theorem rbool {b : Bool} : (Rv.st (.fz (.bl b))).bool = .ok b := rfl
theorem ev_seq {f g : DS} : dSeq f g env = SO.bind (f env) g := rfl
theorem ev_skip : dSkip env = .ok (.nx env) := rfl
theorem ev_expr {f : DE} : dExpr f env = (f env).bind fun _ => .ok (.nx env) := rfl
theorem ev_set {f : DE} {i : Nat} (h : f env = .ok (.st o)) : dSet i f env = .ok (.nx (env.set i (some o))) := by unfold dSet; rw [h]; rfl
theorem ev_ret {f : DE} (h : f env = .ok (.st o)) : dRet f env = .ok (.rt o env) := by unfold dRet; rw [h]; rfl
theorem ev_retV {i : Nat} (h : env[i]? = some (some o)) : dRetV i env = .ok (.rt o (env.set i none)) := by unfold dRetV; rw [h]
theorem ev_ice {i : Nat} {f : DS} (h : env[i]? = some (some o)) : dIce i f env = f (env.set i (some (.fz o.fv))) := by unfold dIce; rw [h]
theorem ev_ifT {d : DT} {f g : DS} (h : d env = .ok true) : dIf d f g env = f env := by unfold dIf; rw [h]; rfl
theorem ev_ifF {d : DT} {f g : DS} (h : d env = .ok false) : dIf d f g env = g env := by unfold dIf; rw [h]; rfl
theorem ev_test {f : DE} {b : Bool} (h : f env = .ok (.st (.fz (.bl b)))) : dTest f env = .ok b := by unfold dTest; rw [h]; rfl
theorem ev_notT {f : DT} {b : Bool} (h : f env = .ok b) : dNotT f env = .ok !b := by unfold dNotT; rw [h]; rfl
theorem ev_andF {f g : DT} (h : f env = .ok false) : dAndT f g env = .ok false := by unfold dAndT; rw [h]; rfl
theorem ev_andT {f g : DT} (h : f env = .ok true) : dAndT f g env = g env := by unfold dAndT; rw [h]; rfl
theorem ev_orF {f g : DT} (h : f env = .ok false) : dOrT f g env = g env := by unfold dOrT; rw [h]; rfl
theorem ev_orT {f g : DT} (h : f env = .ok true) : dOrT f g env = .ok true := by unfold dOrT; rw [h]; rfl
theorem ev_andVF {f g : DE} (h : f env = .ok (.st (.fz (.bl false)))) : dAndV f g env = .ok (.st (.fz (.bl false))) := by unfold dAndV; rw [ev_test h]; rfl
theorem ev_andVT {f g : DE} (h : f env = .ok (.st (.fz (.bl true)))) : dAndV f g env = g env := by unfold dAndV; rw [ev_test h]; rfl
theorem ev_c : dC x env = .ok (.st (.fz x)) := rfl
theorem ev_varF {i : Nat} (h : env[i]? = some (some (.fz x))) : dVar i env = .ok (.st (.fz x)) := by unfold dVar; rw [h]
theorem ev_varL {i : Nat} {xs : List FV} (h : env[i]? = some (some (.ol xs))) : dVar i env = .ok (.bo (.ol xs)) := by unfold dVar; rw [h]
theorem ev_varK {i : Nat} {xs : List (Key × FV)} (h : env[i]? = some (some (.oK xs))) : dVar i env = .ok (.bo (.oK xs)) := by unfold dVar; rw [h]
theorem ev_bin {op : OV → OV → Option OV} {f g : DE} {r q : Rv} (h : f env = .ok r) (h2 : g env = .ok q) (h3 : op r.ov q.ov = some o) : dBin op f g env = .ok (.st o) := by unfold dBin; rw [h, bind_ok, h2, bind_ok, h3]; rfl
theorem ev_un {op : OV → Option OV} {f : DE} {r : Rv} (h : f env = .ok r) (h3 : op r.ov = some o) : dUn op f env = .ok (.st o) := by unfold dUn; rw [h, bind_ok, h3]; rfl
theorem ev_nil : dNil env = .ok [] := rfl
theorem ev_cons {f : DE} {g : VEnv → Ans (List Rv)} {r : Rv} {rs : List Rv} (h : f env = .ok r) (h2 : g env = .ok rs) : dCons f g env = .ok (r :: rs) := by unfold dCons; rw [h, bind_ok, h2]; rfl
theorem ev_frz {f : DE} (h : f env = .ok (.st o)) : dFrz f env = .ok (.st (.fz o.fv)) := by unfold dFrz; rw [h]; rfl
theorem ev_call {m : FM} {g : VEnv → Ans (List Rv)} {rs : List Rv} (h : g env = .ok rs) (h2 : m (rs.map Rv.fv) = .ok o) (h3 : rs.all Rv.isFz = true ∨ o.clean = true) : dCall m g env = .ok (.st o) := by
  unfold dCall
  rw [h, bind_ok, h2, bind_ok, if_pos]
  rw [Bool.or_eq_true]
  exact h3
theorem ev_callB {op : List OV → Option OV} {g : VEnv → Ans (List Rv)} {rs : List Rv} (h : g env = .ok rs) (h2 : op (rs.map Rv.ov) = some o) : dCallB op g env = .ok (.st o) := by unfold dCallB; rw [h, bind_ok, h2]; rfl
theorem ev_meth {ok : OV → Bool} {op : OV → List OV → Option OV} {f : DE} {g : VEnv → Ans (List Rv)} {r : Rv} {rs : List Rv} (h : f env = .ok r) (hk : ok r.ov = true) (h1 : g env = .ok rs) (h2 : op r.ov (rs.map Rv.ov) = some o) : dMeth ok op f g env = .ok (.st o) := by unfold dMeth; rw [h, bind_ok, if_pos hk, h1, bind_ok, h2]; rfl
theorem ev_list {g : VEnv → Ans (List Rv)} {rs : List Rv} {xs : List FV} (h : g env = .ok rs) (h1 : rs.length ≤ 1000) (h2 : allFz rs = some xs) : dList g env = .ok (.st (.ol xs)) := by unfold dList; rw [h, bind_ok, if_pos h1, h2]
theorem ev_tup {g : VEnv → Ans (List Rv)} {rs : List Rv} {xs : List FV} (h : g env = .ok rs) (h1 : rs.length ≤ 1000) (h2 : allFz rs = some xs) : dTup g env = .ok (.st (.fz (.tup xs))) := by unfold dTup; rw [h, bind_ok, if_pos h1, h2]
theorem ev_sub {f g : DE} {r q t : Rv} (h : f env = .ok r) (h2 : g env = .ok q) (h3 : FV.frozenKey q.ov = true) (h4 : opSub' r.ov q.ov = some t) : dSub f g env = .ok t := by unfold dSub; rw [h, bind_ok, h2, bind_ok, if_pos h3, h4]; rfl
theorem ev_range {f : DE} {r : Rv} {n : Nat} (h : f env = .ok r) (h2 : r.ov = .fz (.int (n : Int))) (h3 : n < 2 ^ 60) : dRange f env = .ok ((List.range n).map fun i => .int (i : Nat)) := by
  unfold dRange
  rw [h, bind_ok, h2]
  simp only
  rw [if_pos ⟨by omega, by omega⟩, Int.toNat_natCast]
theorem ev_items {f : DE} {xs : List FV} (h : f env = .ok (.st (.ol xs)) ∨ f env = .ok (.st (.fz (.lst xs))) ∨ f env = .ok (.st (.fz (.tup xs)))) : dItems f env = .ok xs := by
  unfold dItems
  rcases h with h | h | h <;> (rw [h]; rfl)
theorem ev_cItems {f : DE} {r : Rv} {xs : List FV} (h : f env = .ok r) (hs : sbR env r = true) (h2 : r.ov = .ol xs ∨ r.ov = .fz (.lst xs) ∨ r.ov = .fz (.tup xs)) : cItems f env = .ok xs := by
  unfold cItems
  rw [h, bind_ok, if_pos hs, rfv]
  rcases h2 with h | h | h <;> (rw [h]; rfl)
theorem ev_app {f : DE} {i : Nat} {p p' : OV} (h : env[i]? = some (some p)) (hl : p.isL = true) (h2 : f env = .ok (.st o)) (hs : p.size < BIG) (h3 : p.app o = some p') : dApp i f env = .ok (.nx (env.set i (some p'))) := by
  unfold dApp
  rw [h]
  simp only
  rw [if_pos hl, h2, bind_ok]
  simp only
  rw [if_pos hs, h3]
theorem ev_appPop {f : DE} {i j m : Nat} {p p' : OV} {xs : List FV} {r : Rv} (h : env[i]? = some (some p)) (hj : env[j]? = some (some (.ol xs))) (hl : p.isL = true) (hij : i ≠ j) (hz : xs.length ≤ BIG) (hs : p.size < BIG) (h2 : f env = .ok r) (h3 : r.ov = .fz (.int (m : Int))) (h4 : xs[m]? = some x) (h5 : p.app (.fz x) = some p') :
    dAppPop i j f env = .ok (.nx ((env.set j (some (.ol (xs.eraseIdx m)))).set i (some p'))) := by
  have hm : m < xs.length := (List.getElem?_eq_some_iff.mp h4).1
  have hx : ixN xs.length (m : Int) = some m := by
    unfold ixN
    rw [if_pos (by omega), if_pos (by omega), Int.toNat_natCast]
  unfold dAppPop
  rw [h, hj]
  simp only
  rw [if_pos (by simp [hl, hij, hz, hs]), h2, bind_ok, rfv, h3]
  simp only [fv_fz, hx, h4, h5]
theorem ev_put {fk fe : DE} {i : Nat} {p p' : OV} {r : Rv} (h : env[i]? = some (some p)) (hl : (p.isL || p.isD2) = true) (h2 : fe env = .ok (.st o)) (h3 : fk env = .ok r) (hs : p.size < BIG) (h4 : p.put r.fv o = some p') : dPut i fk fe env = .ok (.nx (env.set i (some p'))) := by
  unfold dPut
  rw [h]
  simp only
  rw [if_pos hl, h2, bind_ok]
  simp only
  rw [h3, bind_ok, if_pos hs, h4]
theorem ev_run {n : Nat} {f : DS} {as : List FV} (h : f (startE n as) = .ok (.rt o e)) : runF n f as = .ok o := by unfold runF; rw [h]
theorem ev_seqN {f g : DS} {r : Ans SO} (h : f env = .ok (.nx e)) (h2 : g e = r) : dSeq f g env = r := by rw [ev_seq, h, so_nx, h2]
theorem ev_seqR {f g : DS} {e2 : VEnv} (h : f env = .ok (.rt o e2)) : dSeq f g env = .ok (.rt o e2) := by rw [ev_seq, h, so_rt]
theorem ev_ifT' {d : DT} {f g : DS} {r : Ans SO} (h : d env = .ok true) (h2 : f env = r) : dIf d f g env = r := by rw [ev_ifT h, h2]
theorem ev_ifF' {d : DT} {f g : DS} {r : Ans SO} (h : d env = .ok false) (h2 : g env = r) : dIf d f g env = r := by rw [ev_ifF h, h2]
theorem ev_ice' {i : Nat} {f : DS} {r : Ans SO} (h : env[i]? = some (some o)) (h2 : f (env.set i (some (.fz o.fv))) = r) : dIce i f env = r := by rw [ev_ice h, h2]
theorem ev_andT' {f g : DT} {r : Ans Bool} (h : f env = .ok true) (h2 : g env = r) : dAndT f g env = r := by rw [ev_andT h, h2]
theorem ev_orF' {f g : DT} {r : Ans Bool} (h : f env = .ok false) (h2 : g env = r) : dOrT f g env = r := by rw [ev_orF h, h2]
theorem ev_andVT' {f g : DE} {r : Ans Rv} (h : f env = .ok (.st (.fz (.bl true)))) (h2 : g env = r) : dAndV f g env = r := by rw [ev_andVT h, h2]
end
section
variable {i j : Int} {b : Bool} {env : VEnv}
theorem e_add : opAdd (.fz (.int i)) (.fz (.int j)) = some (.fz (.int (i + j))) := rfl
theorem e_sub : opSub (.fz (.int i)) (.fz (.int j)) = some (.fz (.int (i - j))) := rfl
theorem e_mul (h : mulOk i j = true) : opMul (.fz (.int i)) (.fz (.int j)) = some (.fz (.int (i * j))) := if_pos h
theorem e_mod (h : 0 < j) : opMod (.fz (.int i)) (.fz (.int j)) = some (.fz (.int (i % j))) := if_pos h
theorem e_shr (h : 0 ≤ j) : opShr (.fz (.int i)) (.fz (.int j)) = some (.fz (.int (i / 2 ^ j.toNat))) := if_pos h
theorem e_eq : opEq (.fz (.int i)) (.fz (.int j)) = some (.fz (.bl (decide (i = j)))) := rfl
theorem e_ne : opNe (.fz (.int i)) (.fz (.int j)) = some (.fz (.bl (!decide (i = j)))) := rfl
theorem mulL {i j : Int} (h : i.natAbs < 2 ^ 62) : mulOk i j = true := by unfold mulOk; rw [Bool.or_eq_true, Bool.or_eq_true]; exact .inl (.inl (decide_eq_true h))
theorem mulR {i j : Int} (h : j.natAbs < 2 ^ 62) : mulOk i j = true := by unfold mulOk; rw [Bool.or_eq_true, Bool.or_eq_true]; exact .inl (.inr (decide_eq_true h))
/-- a test that is known -/
theorem ev_testB {f : DE} {b : Bool} (h : f env = .ok (.st (.fz (.bl b)))) {c : Bool} (e : b = c) : dTest f env = .ok c := by rw [ev_test h, e]
theorem ev_notB {f : DT} {b c : Bool} (h : f env = .ok b) (e : (!b) = c) : dNotT f env = .ok c := by rw [ev_notT h, e]
end
end J
namespace J
open PySem PySem.Spec PyProof.Rows L2
abbrev top (i : Nat) : Stmt := PySem.Challenge.pw_joinwood_k03_answers.main.body.getD i (.Pass ⟨0, 0, 0, 0⟩)
abbrev s__law_mix : Stmt := top 6
abbrev s__law_letters : Stmt := top 7
abbrev s__law_shape : Stmt := top 8
abbrev s__law_numbers : Stmt := top 9
abbrev s__law_rows : Stmt := top 10
abbrev s__law_due : Stmt := top 11
abbrev s_joined : Stmt := top 2
abbrev s_letters_of : Stmt := top 1
abbrev s_answers : Stmt := top 3
abbrev s__law_whole : Stmt := top 5
abbrev s_law : Stmt := top 12
structure Tx (K : PySem.W.Frag) (mg : Str → Option Value) : Prop where
  b_sum : mg "sum" = none
  b_isinstance : mg "isinstance" = none
  b_list : mg "list" = none
  b_tuple : mg "tuple" = none
  b_range : mg "range" = none
  b_len : mg "len" = none
  b_min : mg "min" = none
  b_ord : mg "ord" = none
  b_sorted : mg "sorted" = none
  b_set : mg "set" = none
  b_zip : mg "zip" = none
  b_dict : mg "dict" = none
  b_int : mg "int" = none
  b_bool : mg "bool" = none
noncomputable def D__law_mix : DS :=
    (dSeq (dIf (dAndT (dTest (dBin opEq (dBin opMod (dVar 0) (dC (.int 2))) (dC (.int 1)))) (dTest (dBin opNe (dBin opShr (dVar 0) (dC (.int 27))) (dC (.int 0)))))
    (dRet (dBin opMod (dBin opShr (dVar 0) (dBin opAdd (dC (.int 1)) (dBin opMul (dC (.int 20)) (dVar 1)))) (dC (.int 1048576))))
    dSkip)
    (dSeq (dSet 2 (dBin opMod (dBin opAdd (dBin opMul (dVar 0) (dBin opAdd (dBin opMul (dC (.int 2)) (dVar 1)) (dC (.int 3)))) (dVar 1)) (dC (.int 2147483629))))
    (dSeq (dSet 2 (dBin opMod (dBin opMul (dBin opAdd (dBin opMul (dVar 2) (dVar 2)) (dC (.int 1))) (dC (.int 48271))) (dC (.int 2147483629))))
    (dRet (dBin opMod (dBin opMul (dVar 2) (dVar 2)) (dC (.int 2147483587)))))))
noncomputable def m__law_mix : FM := runF 3 D__law_mix
noncomputable def D__law_letters : DS :=
    (dSeq (dSet 1 (dC (.str (Str.ofString "ABCDEFGHIJKLMNOPQRSTUVWXYZ"))))
    (dSeq (dSet 2 (dBin opMod (dCall m__law_mix (dCons (dVar 0) (dCons (dC (.int 1)) dNil))) (dC (.int 26))))
    (dSeq (dSet 3 (dSub (dList (dCons (dC (.int 1)) (dCons (dC (.int 3)) (dCons (dC (.int 5)) (dCons (dC (.int 7)) (dCons (dC (.int 9)) (dCons (dC (.int 11)) dNil))))))) (dBin opMod (dCall m__law_mix (dCons (dVar 0) (dCons (dC (.int 2)) dNil))) (dC (.int 6)))))
    (dIce 3 (dIce 2 (dIce 1 (dRet (dLc (dRange (dBin opAdd (dC (.int 2)) (dBin opMod (dCall m__law_mix (dCons (dVar 0) (dCons (dC (.int 3)) dNil))) (dC (.int 5))))) (tName 4) dTrue (dFrz (dSub (dVar 1) (dBin opMod (dBin opAdd (dVar 2) (dBin opMul (dVar 3) (dVar 4))) (dC (.int 26))))) [4]))))))))
noncomputable def m__law_letters : FM := runF 5 D__law_letters
noncomputable def D__law_shape : DS :=
    (dSeq (dSet 1 (dCall m__law_letters (dCons (dVar 0) dNil)))
    (dSeq (dIce 1 (dSet 2 (dList dNil)))
    (dSeq (dFor (dRange (dBin opAdd (dC (.int 1)) (dBin opMod (dCall m__law_mix (dCons (dVar 0) (dCons (dC (.int 4)) dNil))) (dC (.int 6))))) (tName 3)
    (dSeq (dSet 4 (dCallB opList (dCons (dVar 1) dNil)))
    (dSeq (dSet 5 (dList dNil))
    (dSeq (dFor (dRange (dBin opAdd (dC (.int 1)) (dBin opMod (dCall m__law_mix (dCons (dVar 0) (dCons (dFrz (dBin opAdd (dC (.int 5)) (dVar 3))) dNil))) (dCallB opMin2 (dCons (dC (.int 4)) (dCons (dCallB opLen (dCons (dVar 1) dNil)) dNil)))))) (tName 6)
    (dAppPop 5 4 (dBin opMod (dCall m__law_mix (dCons (dVar 0) (dCons (dFrz (dBin opAdd (dBin opAdd (dC (.int 11)) (dBin opMul (dC (.int 4)) (dVar 3))) (dVar 6))) dNil))) (dCallB opLen (dCons (dVar 4) dNil)))))
    (dApp 2 (dFrz (dCallB opTup (dCons (dVar 5) dNil))))))))
    (dRetV 2))))
noncomputable def m__law_shape : FM := runF 7 D__law_shape
noncomputable def D__law_numbers : DS :=
    (dSeq (dSet 1 (dBin opMod (dVar 0) (dBin opSub (dBin opPow (dC (.int 10)) (dC (.int 60))) (dC (.int 1)))))
    (dRet (dSub (dList (dCons (dFrz (dList (dCons (dVar 1) (dCons (dC (.int 0)) dNil)))) (dCons (dFrz (dList (dCons (dVar 1) (dCons (dFrz (dUn opNeg (dVar 1))) (dCons (dFrz (dBin opAdd (dVar 1) (dC (.int 1)))) dNil))))) (dCons (dFrz (dList (dCons (dC (.int 0)) (dCons (dFrz (dUn opNeg (dVar 1))) (dCons (dC (.int 1)) dNil))))) dNil)))) (dBin opMod (dCall m__law_mix (dCons (dVar 0) (dCons (dC (.int 40)) dNil))) (dC (.int 3))))))
noncomputable def m__law_numbers : FM := runF 2 D__law_numbers
noncomputable def D__law_rows : DS :=
    (dSeq (dSet 3 (dCall m__law_numbers (dCons (dVar 2) dNil)))
    (dSeq (dIce 3 (dSet 4 (dLcD (cItems (dVar 0)) (tName 8) dTrue (dList dNil) [8])))
    (dSeq (dIce 1 (dFor (dItems (dVar 1)) (tName 5)
    (dSeq (dSet 6 (dBin opMod (dCall m__law_mix (dCons (dVar 5) (dCons (dC (.int 1)) dNil))) (dCallB opLen (dCons (dVar 0) dNil))))
    (dSeq (dSet 7 (dCallB opTup (dCons (dLc (dRange (dCallB opLen (dCons (dSub (dVar 0) (dVar 6)) dNil))) (tName 10) dTrue (dFrz (dSub (dVar 3) (dBin opMod (dCall m__law_mix (dCons (dVar 5) (dCons (dFrz (dBin opAdd (dC (.int 2)) (dVar 10))) dNil))) (dCallB opLen (dCons (dVar 3) dNil))))) [10]) dNil)))
    (dIf (dTest (dBin (opIn true) (dVar 7) (dSub (dVar 4) (dVar 6))))
    (dIce 7 (dAppAt 4 (dVar 6) (dVar 7)))
    dSkip)))))
    (dSeq (dIf (dTest (dBin opEq (dBin opMod (dCall m__law_mix (dCons (dVar 2) (dCons (dC (.int 41)) dNil))) (dC (.int 2))) (dC (.int 1))))
    (dFor (dRange (dCallB opLen (dCons (dVar 0) dNil))) (tName 6)
    (dSeq (dSet 7 (dCallB opTup (dCons (dLc (cItems (dSub (dVar 0) (dVar 6))) (tName 11) dTrue (dFrz (dSub (dVar 3) (dBin opMod (dCallB opOrd (dCons (dVar 11) dNil)) (dCallB opLen (dCons (dVar 3) dNil))))) [11]) dNil)))
    (dIf (dTest (dBin (opIn true) (dVar 7) (dSub (dVar 4) (dVar 6))))
    (dIce 7 (dAppAt 4 (dVar 6) (dVar 7)))
    dSkip)))
    dSkip)
    (dIce 7 (dIce 6 (dIce 5 (dIce 4 (dIce 3 (dRet (dLc (cItems (dVar 4)) (tName 9) dTrue (dFrz (dCallB opSorted (dCons (dVar 9) dNil))) [9])))))))))))
noncomputable def m__law_rows : FM := runF 12 D__law_rows
noncomputable def D__law_due : DS :=
    (dSeq (dSet 3 (dNewK))
    (dSeq (dIce 0 (dFor (dItems (dVar 0)) (tName 4)
    (dIce 4 (dFor (dItems (dVar 4)) (tName 5)
    (dPut 3 (dVar 5) (dC (.bl true)))))))
    (dSeq (dSet 6 (dKeysS (dVar 3)))
    (dSeq (dIce 6 (dSet 7 (dList (dCons (dFrz (dTup dNil)) dNil))))
    (dSeq (dIce 7 (dIce 6 (dFor (dItems (dVar 6)) (tName 5)
    (dSeq (dSet 8 (dList dNil))
    (dSeq (dIce 7 (dFor (dItems (dVar 7)) (tName 9)
    (dExt 8 (dFrz (dLc (cItems (dSortSet (dCall m__law_numbers (dCons (dVar 2) dNil)))) (tName 13) dTrue (dFrz (dBin opAdd (dVar 9) (dTup (dCons (dVar 13) dNil)))) [13])))))
    (dIce 8 (dSet 7 (dVar 8))))))))
    (dSeq (dSet 10 (dList dNil))
    (dSeq (dIce 7 (dFor (dItems (dVar 7)) (tName 9)
    (dSeq (dSet 11 (dC (.bl false)))
    (dSeq (dFor (dRange (dCallB opLen (dCons (dVar 0) dNil))) (tName 12)
    (dIf (dTest (dBin (opIn true) (dCallB opTup (dCons (dLc (cItems (dSub (dVar 0) (dVar 12))) (tName 5) dTrue (dFrz (dSub (dVar 9) (dMeth okLst opIndex (dVar 6) (dCons (dVar 5) dNil)))) [5]) dNil)) (dSub (dVar 1) (dVar 12))))
    (dSeq (dSet 11 (dC (.bl true)))
    dBrk)
    dSkip))
    (dIf (dNotT (dTest (dVar 11)))
    (dIce 9 (dApp 10 (dVar 9)))
    dSkip)))))
    (dRetV 10))))))))
noncomputable def m__law_due : FM := runF 14 D__law_due
noncomputable def D_joined : DS :=
    (dSeq (dSet 3 (dCallB opDict (dCons (dVar 0) dNil)))
    (dSeq (dIce 2 (dIce 1 (dFor (dZip (dVar 1) (dVar 2)) (tTup2 4 5)
    (dSetd 3 (dVar 4) (dVar 5) (dVar 5) opNe
    (dRet (dC .non))
    dSkip))))
    (dRetV 3)))
noncomputable def m_joined : FM := runF 6 D_joined
noncomputable def D_letters_of : DS :=
    (dSeq (dSet 1 (dNewK))
    (dSeq (dIce 0 (dFor (dItems (dVar 0)) (tName 2)
    (dIce 2 (dFor (dItems (dVar 2)) (tName 3)
    (dPut 1 (dVar 3) (dC (.bl true)))))))
    (dRet (dKeysS (dVar 1)))))
noncomputable def m_letters_of : FM := runF 4 D_letters_of
noncomputable def D_answers : DS :=
    (dSeq (dSet 2 (dList (dCons (dFrz (dNewK)) dNil)))
    (dSeq (dIce 2 (dIce 1 (dIce 0 (dFor (dZip (dVar 0) (dVar 1)) (tTup2 3 4)
    (dSeq (dSet 5 (dList dNil))
    (dSeq (dIce 2 (dFor (dItems (dVar 2)) (tName 6)
    (dIce 4 (dFor (dItems (dVar 4)) (tName 7)
    (dSeq (dSet 8 (dCall m_joined (dCons (dVar 6) (dCons (dVar 3) (dCons (dVar 7) dNil)))))
    (dIce 8 (dIf (dTest (dUn opNotN (dVar 8)))
    (dIce 8 (dApp 5 (dVar 8)))
    dSkip)))))))
    (dIce 5 (dSet 2 (dVar 5)))))))))
    (dSeq (dSet 9 (dCall m_letters_of (dCons (dVar 0) dNil)))
    (dIce 9 (dIce 9 (dIce 8 (dIce 7 (dIce 6 (dIce 5 (dIce 4 (dIce 3 (dIce 2 (dRet (dCallB opSorted (dCons (dLc (cItems (dVar 2)) (tName 6) dTrue (dFrz (dCallB opTup (dCons (dLc (cItems (dVar 9)) (tName 10) dTrue (dFrz (dSub (dVar 6) (dVar 10))) [10]) dNil))) [6]) dNil)))))))))))))))
noncomputable def m_answers : FM := runF 11 D_answers
noncomputable def D__law_whole : DS :=
    (dRet (dAndV (dUn (opIsa ["int"]) (dVar 0)) (dB (dNotT (dTest (dUn (opIsa ["bool"]) (dVar 0)))))))
noncomputable def m__law_whole : FM := runF 1 D__law_whole
noncomputable def D_law : DS :=
    (dSeq (dIce 1 (dSet 2 (dCallB opSum (dCons (dVar 1) dNil))))
    (dSeq (dSet 3 (dCall m__law_shape (dCons (dVar 2) dNil)))
    (dSeq (dIce 3 (dSet 4 (dCall m__law_rows (dCons (dVar 3) (dCons (dVar 1) (dCons (dVar 2) dNil))))))
    (dSeq (dIce 4 (dSet 5 (dCall m__law_due (dCons (dVar 3) (dCons (dVar 4) (dCons (dVar 2) dNil))))))
    (dSeq (dIce 5 (dSet 6 (dCall m_answers (dCons (dVar 3) (dCons (dVar 4) dNil)))))
    (dSeq (dIf (dOrT (dNotT (dTest (dUn (opIsa ["list"]) (dVar 6)))) (dTest (dBin opNe (dVar 6) (dVar 5))))
    (dRet (dC (.bl false)))
    dSkip)
    (dSeq (dFor (qItems (dVar 6)) (tName 7)
    (dIf (dOrT (dNotT (dTest (dUn (opIsa ["tuple"]) (dVar 7)))) (dTest (dBin opNe (dLc (cItems (dVar 7)) (tName 8) (dNotT (dTest (dCall m__law_whole (dCons (dVar 8) dNil)))) (dVar 8) [8]) (dList dNil))))
    (dRet (dC (.bl false)))
    dSkip))
    (dSeq (dApp 6 (dC .non))
    (dSeq (dIf (dOrT (dTest (dBin opNe (dVar 3) (dCall m__law_shape (dCons (dVar 2) dNil)))) (dTest (dBin opNe (dVar 4) (dCall m__law_rows (dCons (dVar 3) (dCons (dVar 1) (dCons (dVar 2) dNil)))))))
    (dRet (dC (.bl false)))
    dSkip)
    (dRet (dBin opEq (dCall m_answers (dCons (dVar 3) (dCons (dVar 4) dNil))) (dVar 5))))))))))))
noncomputable def m_law : FM := runF 9 D_law
section
variable {P : Program} {w : World} {K : PySem.W.Frag} {mg : Str → Option Value} {base : Heap}
abbrev N__law_mix : List Str := ["_law_cell", "_law_j", "_law_number"]
theorem sc__law_mix : FnScope N__law_mix ["_law_cell", "_law_j"] (defScope s__law_mix) := ⟨rfl, rfl, rfl, by decide +kernel, rfl, by decide +kernel, by decide +kernel⟩
theorem ok__law_mix {f : Addr} {fd : FuncData} (F : Fun K "_law_mix" "_law_mix" s__law_mix f fd) (T : Tx K mg)  : FnOk P w K mg base (L2.CX P w) 1 f fd ["_law_cell", "_law_j"] (spF mg 2 m__law_mix) :=
  ok_of F sc__law_mix fun cdv A outer s H E (hr : Room 0 _) tk hp =>
    (jss_cons (js_if (jt_w (jw_and (jt_cmp (oj_eq (u64 hr)) (je_bin oj_mod (je_var 0) je_int) je_int) (jw_and1 (jt_cmp (oj_ne (u64 hr)) (je_bin oj_shr (je_var 0) je_int) je_int))))
    (jss_one (js_ret (je_bin oj_mod (je_bin oj_shr (je_var 0) (je_bin oj_add je_int (je_bin oj_mul je_int (je_var 1)))) je_int)))
    jss_nil)
    (jss_cons (js_set 2 sc__law_mix.nd (je_bin oj_mod (je_bin oj_add (je_bin oj_mul (je_var 0) (je_bin oj_add (je_bin oj_mul je_int (je_var 1)) je_int)) (je_var 1)) je_int))
    (jss_cons (js_set 2 sc__law_mix.nd (je_bin oj_mod (je_bin oj_mul (je_bin oj_add (je_bin oj_mul (je_var 2) (je_var 2)) je_int) je_int) je_int))
    (jss_one (js_ret (je_bin oj_mod (je_bin oj_mul (je_var 2) (je_var 2)) je_int))))))
abbrev N__law_letters : List Str := ["_law_cell", "_law_letters_here", "_law_start", "_law_step", "_law_k"]
theorem sc__law_letters : FnScope N__law_letters ["_law_cell"] (defScope s__law_letters) := ⟨rfl, rfl, rfl, by decide +kernel, rfl, by decide +kernel, by decide +kernel⟩
theorem ok__law_letters {f : Addr} {fd : FuncData} (F : Fun K "_law_letters" "_law_letters" s__law_letters f fd) (T : Tx K mg) (C__law_mix : Cal P w K mg base 1 "_law_mix" 2 m__law_mix) : FnOk P w K mg base (L2.CX P w) 2 f fd ["_law_cell"] (spF mg 1 m__law_letters) :=
  ok_of F sc__law_letters fun cdv A outer s H E (hr : Room 1 _) tk hp =>
    (jss_cons (js_set 1 sc__law_letters.nd je_str)
    (jss_cons (js_set 2 sc__law_letters.nd (je_bin oj_mod (je_cal tk C__law_mix hr (ja_cons (je_var 0) (ja_cons je_int ja_nil))) je_int))
    (jss_cons (js_set 3 sc__law_letters.nd (je_sub (u1 hr) (je_list (ja_cons je_int (ja_cons je_int (ja_cons je_int (ja_cons je_int (ja_cons je_int (ja_cons je_int ja_nil))))))) (je_bin oj_mod (je_cal tk C__law_mix hr (ja_cons (je_var 0) (ja_cons je_int ja_nil))) je_int)))
    (jss_one (js_ice 3 (js_ice 2 (js_ice 1 (js_ret (je_lc (own := [((Str.ofString "_law_k"), 4)]) rfl sc__law_letters.nd (jc_range (je_bin oj_add je_int (je_bin oj_mod (je_cal tk C__law_mix hr (ja_cons (je_var 0) (ja_cons je_int ja_nil))) je_int)) T.b_range) (blkOk_by (by rfl)) (fun _ _ _ _ _ => (jg_name 4 sc__law_letters.nd)) (fun _ _ _ _ _ => jts_nil) (fun _ _ _ _ _ => (je_frz (je_sub (u1 hr) (je_var 1) (je_bin oj_mod (je_bin oj_add (je_var 2) (je_bin oj_mul (je_var 3) (je_var 4))) je_int)))) tg_name)))))))))
abbrev N__law_shape : List Str := ["_law_cell", "_law_letters_here", "_law_found", "_law_i", "_law_some", "_law_pattern", "_law_k"]
theorem sc__law_shape : FnScope N__law_shape ["_law_cell"] (defScope s__law_shape) := ⟨rfl, rfl, rfl, by decide +kernel, rfl, by decide +kernel, by decide +kernel⟩
theorem ok__law_shape {f : Addr} {fd : FuncData} (F : Fun K "_law_shape" "_law_shape" s__law_shape f fd) (T : Tx K mg) (C__law_letters : Cal P w K mg base 2 "_law_letters" 1 m__law_letters) (C__law_mix : Cal P w K mg base 1 "_law_mix" 2 m__law_mix) : FnOk P w K mg base (L2.CX P w) 3 f fd ["_law_cell"] (spF mg 1 m__law_shape) :=
  ok_of F sc__law_shape fun cdv A outer s H E (hr : Room 2 _) tk hp =>
    (jss_cons (js_set 1 sc__law_shape.nd (je_cal tk C__law_letters hr (ja_cons (je_var 0) ja_nil)))
    (jss_cons (js_ice 1 (js_set 2 sc__law_shape.nd (je_list ja_nil)))
    (jss_cons (js_for hp rfl (ji_range (je_bin oj_add je_int (je_bin oj_mod (je_cal tk C__law_mix hr (ja_cons (je_var 0) (ja_cons je_int ja_nil))) je_int)) T.b_range) (jg_name 3 sc__law_shape.nd)
    (jss_cons (js_set 4 sc__law_shape.nd (je_callTy (cj_list rfl) (ja_cons (je_var 1) ja_nil) T.b_list boot_list))
    (jss_cons (js_set 5 sc__law_shape.nd (je_list ja_nil))
    (jss_cons (js_for hp rfl (ji_range (je_bin oj_add je_int (je_bin oj_mod (je_cal tk C__law_mix hr (ja_cons (je_var 0) (ja_cons (je_frz (je_bin oj_add je_int (je_var 3))) ja_nil))) (je_callB (cj_min2 rfl) (ja_cons je_int (ja_cons (je_callB cj_len (ja_cons (je_var 1) ja_nil) T.b_len boot_len) ja_nil)) T.b_min boot_min))) T.b_range) (jg_name 6 sc__law_shape.nd)
    (jss_one (js_appPop 5 4 (je_bin oj_mod (je_cal tk C__law_mix hr (ja_cons (je_var 0) (ja_cons (je_frz (je_bin oj_add (je_bin oj_add je_int (je_bin oj_mul je_int (je_var 3))) (je_var 6))) ja_nil))) (je_callB cj_len (ja_cons (je_var 4) ja_nil) T.b_len boot_len)))))
    (jss_one (js_append 2 (je_frz (je_callTy (cj_tup rfl) (ja_cons (je_var 5) ja_nil) T.b_tuple boot_tuple))))))))
    (jss_one (js_retV 2)))))
abbrev N__law_numbers : List Str := ["_law_cell", "_law_far"]
theorem sc__law_numbers : FnScope N__law_numbers ["_law_cell"] (defScope s__law_numbers) := ⟨rfl, rfl, rfl, by decide +kernel, rfl, by decide +kernel, by decide +kernel⟩
theorem ok__law_numbers {f : Addr} {fd : FuncData} (F : Fun K "_law_numbers" "_law_numbers" s__law_numbers f fd) (T : Tx K mg) (C__law_mix : Cal P w K mg base 1 "_law_mix" 2 m__law_mix) : FnOk P w K mg base (L2.CX P w) 2 f fd ["_law_cell"] (spF mg 1 m__law_numbers) :=
  ok_of F sc__law_numbers fun cdv A outer s H E (hr : Room 1 _) tk hp =>
    (jss_cons (js_set 1 sc__law_numbers.nd (je_bin oj_mod (je_var 0) (je_bin oj_sub (je_bin oj_pow je_int je_int) je_int)))
    (jss_one (js_ret (je_sub (u1 hr) (je_list (ja_cons (je_frz (je_list (ja_cons (je_var 1) (ja_cons je_int ja_nil)))) (ja_cons (je_frz (je_list (ja_cons (je_var 1) (ja_cons (je_frz (je_neg (je_var 1))) (ja_cons (je_frz (je_bin oj_add (je_var 1) je_int)) ja_nil))))) (ja_cons (je_frz (je_list (ja_cons je_int (ja_cons (je_frz (je_neg (je_var 1))) (ja_cons je_int ja_nil))))) ja_nil)))) (je_bin oj_mod (je_cal tk C__law_mix hr (ja_cons (je_var 0) (ja_cons je_int ja_nil))) je_int)))))
abbrev N__law_rows : List Str := ["_law_shape_here", "_law_cells", "_law_total", "_law_numbers_here", "_law_found", "_law_cell", "_law_i", "_law_row", "_law_pattern", "_law_lines", "_law_k", "_law_letter"]
theorem sc__law_rows : FnScope N__law_rows ["_law_shape_here", "_law_cells", "_law_total"] (defScope s__law_rows) := ⟨rfl, rfl, rfl, by decide +kernel, rfl, by decide +kernel, by decide +kernel⟩
theorem ok__law_rows {f : Addr} {fd : FuncData} (F : Fun K "_law_rows" "_law_rows" s__law_rows f fd) (T : Tx K mg) (C__law_numbers : Cal P w K mg base 2 "_law_numbers" 1 m__law_numbers) (C__law_mix : Cal P w K mg base 1 "_law_mix" 2 m__law_mix) : FnOk P w K mg base (L2.CX P w) 3 f fd ["_law_shape_here", "_law_cells", "_law_total"] (spF mg 3 m__law_rows) :=
  ok_of F sc__law_rows fun cdv A outer s H E (hr : Room 2 _) tk hp =>
    (jss_cons (js_set 3 sc__law_rows.nd (je_cal tk C__law_numbers hr (ja_cons (je_var 2) ja_nil)))
    (jss_cons (js_ice 3 (js_setLcD 4 rfl sc__law_rows.nd (sw_true rfl rfl rfl rfl) (own := [((Str.ofString "_law_pattern"), 8)]) (jc_items (je_var 0)) (blkOk_by (by rfl)) (fun _ _ _ _ _ => (jg_name 8 sc__law_rows.nd)) (fun _ _ _ _ _ => jts_nil) (fun _ _ _ _ _ => (je_list ja_nil)) tg_name))
    (jss_cons (js_ice 1 (js_for hp rfl (ji_items (je_var 1)) (jg_name 5 sc__law_rows.nd)
    (jss_cons (js_set 6 sc__law_rows.nd (je_bin oj_mod (je_cal tk C__law_mix hr (ja_cons (je_var 5) (ja_cons je_int ja_nil))) (je_callB cj_len (ja_cons (je_var 0) ja_nil) T.b_len boot_len)))
    (jss_cons (js_set 7 sc__law_rows.nd (je_callTy (cj_tup rfl) (ja_cons (je_lc (own := [((Str.ofString "_law_k"), 10)]) rfl sc__law_rows.nd (jc_range (je_callB cj_len (ja_cons (je_sub (u1 hr) (je_var 0) (je_var 6)) ja_nil) T.b_len boot_len) T.b_range) (blkOk_by (by rfl)) (fun _ _ _ _ _ => (jg_name 10 sc__law_rows.nd)) (fun _ _ _ _ _ => jts_nil) (fun _ _ _ _ _ => (je_frz (je_sub (u1 hr) (je_var 3) (je_bin oj_mod (je_cal takes0 C__law_mix hr (ja_cons (je_var 5) (ja_cons (je_frz (je_bin oj_add je_int (je_var 10))) ja_nil))) (je_callB cj_len (ja_cons (je_var 3) ja_nil) T.b_len boot_len))))) tg_name) ja_nil) T.b_tuple boot_tuple))
    (jss_one (js_if (jt_notIn (u65 hr) (je_var 7) (je_sub (u1 hr) (je_var 4) (je_var 6)))
    (jss_one (js_ice 7 (js_appAt 4 (u1 hr) (je_var 6) (je_var 7))))
    jss_nil))))))
    (jss_cons (js_if (jt_cmp (oj_eq (u64 hr)) (je_bin oj_mod (je_cal tk C__law_mix hr (ja_cons (je_var 2) (ja_cons je_int ja_nil))) je_int) je_int)
    (jss_one (js_for hp rfl (ji_range (je_callB cj_len (ja_cons (je_var 0) ja_nil) T.b_len boot_len) T.b_range) (jg_name 6 sc__law_rows.nd)
    (jss_cons (js_set 7 sc__law_rows.nd (je_callTy (cj_tup rfl) (ja_cons (je_lc (own := [((Str.ofString "_law_letter"), 11)]) rfl sc__law_rows.nd (jc_items (je_sub (u1 hr) (je_var 0) (je_var 6))) (blkOk_by (by rfl)) (fun _ _ _ _ _ => (jg_name 11 sc__law_rows.nd)) (fun _ _ _ _ _ => jts_nil) (fun _ _ _ _ _ => (je_frz (je_sub (u1 hr) (je_var 3) (je_bin oj_mod (je_callB cj_ord (ja_cons (je_var 11) ja_nil) T.b_ord boot_ord) (je_callB cj_len (ja_cons (je_var 3) ja_nil) T.b_len boot_len))))) tg_name) ja_nil) T.b_tuple boot_tuple))
    (jss_one (js_if (jt_notIn (u65 hr) (je_var 7) (je_sub (u1 hr) (je_var 4) (je_var 6)))
    (jss_one (js_ice 7 (js_appAt 4 (u1 hr) (je_var 6) (je_var 7))))
    jss_nil)))))
    jss_nil)
    (jss_one (js_ice 7 (js_ice 6 (js_ice 5 (js_ice 4 (js_ice 3 (js_ret (je_lc (own := [((Str.ofString "_law_lines"), 9)]) rfl sc__law_rows.nd (jc_items (je_var 4)) (blkOk_by (by rfl)) (fun _ _ _ _ _ => (jg_name 9 sc__law_rows.nd)) (fun _ _ _ _ _ => jts_nil) (fun _ _ _ _ _ => (je_frz (je_callB (cj_sorted (u62 hr)) (ja_cons (je_var 9) ja_nil) T.b_sorted boot_sorted))) tg_name))))))))))))
abbrev N__law_due : List Str := ["_law_shape_here", "_law_rows_here", "_law_total", "_law_known", "_law_pattern", "_law_letter", "_law_names", "_law_some", "_law_more", "_law_part", "_law_due_here", "_law_lacking", "_law_i", "_law_cell"]
theorem sc__law_due : FnScope N__law_due ["_law_shape_here", "_law_rows_here", "_law_total"] (defScope s__law_due) := ⟨rfl, rfl, rfl, by decide +kernel, rfl, by decide +kernel, by decide +kernel⟩
theorem ok__law_due {f : Addr} {fd : FuncData} (F : Fun K "_law_due" "_law_due" s__law_due f fd) (T : Tx K mg) (C__law_numbers : Cal P w K mg base 2 "_law_numbers" 1 m__law_numbers) : FnOk P w K mg base (L2.CX P w) 3 f fd ["_law_shape_here", "_law_rows_here", "_law_total"] (spF mg 3 m__law_due) :=
  ok_of F sc__law_due fun cdv A outer s H E (hr : Room 2 _) tk hp =>
    (jss_cons (js_set 3 sc__law_due.nd je_newK)
    (jss_cons (js_ice 0 (js_for hp rfl (ji_items (je_var 0)) (jg_name 4 sc__law_due.nd)
    (jss_one (js_ice 4 (js_for hp rfl (ji_items (je_var 4)) (jg_name 5 sc__law_due.nd)
    (jss_one (js_put 3 (u1 hr) (je_var 5) je_bl)))))))
    (jss_cons (js_set 6 sc__law_due.nd (je_sortedKeys rfl (u62 hr) (je_var 3) T.b_sorted rfl boot_sorted))
    (jss_cons (js_ice 6 (js_set 7 sc__law_due.nd (je_list (ja_cons (je_frz (je_tup ja_nil)) ja_nil))))
    (jss_cons (js_ice 7 (js_ice 6 (js_for hp rfl (ji_items (je_var 6)) (jg_name 5 sc__law_due.nd)
    (jss_cons (js_set 8 sc__law_due.nd (je_list ja_nil))
    (jss_cons (js_ice 7 (js_for hp rfl (ji_items (je_var 7)) (jg_name 9 sc__law_due.nd)
    (jss_one (js_extend 8 (je_frz (je_lc (own := [((Str.ofString "_law_cell"), 13)]) rfl sc__law_due.nd (jc_items (je_sortSet rfl (je_cal tk C__law_numbers hr (ja_cons (je_var 2) ja_nil)) T.b_sorted T.b_set)) (blkOk_by (by rfl)) (fun _ _ _ _ _ => (jg_name 13 sc__law_due.nd)) (fun _ _ _ _ _ => jts_nil) (fun _ _ _ _ _ => (je_frz (je_bin oj_add (je_var 9) (je_tup (ja_cons (je_var 13) ja_nil))))) tg_name))))))
    (jss_one (js_ice 8 (js_set 7 sc__law_due.nd (je_var 8)))))))))
    (jss_cons (js_set 10 sc__law_due.nd (je_list ja_nil))
    (jss_cons (js_ice 7 (js_for hp rfl (ji_items (je_var 7)) (jg_name 9 sc__law_due.nd)
    (jss_cons (js_set 11 sc__law_due.nd je_bl)
    (jss_cons (js_for hp rfl (ji_range (je_callB cj_len (ja_cons (je_var 0) ja_nil) T.b_len boot_len) T.b_range) (jg_name 12 sc__law_due.nd)
    (jss_one (js_if (jt_notIn (u65 hr) (je_callTy (cj_tup rfl) (ja_cons (je_lc (own := [((Str.ofString "_law_letter"), 5)]) rfl sc__law_due.nd (jc_items (je_sub (u1 hr) (je_var 0) (je_var 12))) (blkOk_by (by rfl)) (fun _ _ _ _ _ => (jg_name 5 sc__law_due.nd)) (fun _ _ _ _ _ => jts_nil) (fun _ _ _ _ _ => (je_frz (je_sub (u1 hr) (je_var 9) (je_meth PySem.F.plainAttrs_list PySem.F.slot_list_index PySem.F.type_list_index (mj_index (u65 hr)) okLst_ty (je_var 6) (ja_cons (je_var 5) ja_nil))))) tg_name) ja_nil) T.b_tuple boot_tuple) (je_sub (u1 hr) (je_var 1) (je_var 12)))
    (jss_cons (js_set 11 sc__law_due.nd je_bl)
    (jss_one js_break))
    jss_nil)))
    (jss_one (js_if (jt_not (jt_val (je_var 11)))
    (jss_one (js_ice 9 (js_append 10 (je_var 9))))
    jss_nil))))))
    (jss_one (js_retV 10)))))))))
abbrev N_joined : List Str := ["known", "letters", "row", "told", "letter", "cell"]
theorem sc_joined : FnScope N_joined ["known", "letters", "row"] (defScope s_joined) := ⟨rfl, rfl, rfl, by decide +kernel, rfl, by decide +kernel, by decide +kernel⟩
theorem ok_joined {f : Addr} {fd : FuncData} (F : Fun K "joined" "joined" s_joined f fd) (T : Tx K mg)  : FnOk P w K mg base (L2.CX P w) 1 f fd ["known", "letters", "row"] (spF mg 3 m_joined) :=
  ok_of F sc_joined fun cdv A outer s H E (hr : Room 0 _) tk hp =>
    (jss_cons (js_set 3 sc_joined.nd (je_callTy cj_dict (ja_cons (je_var 0) ja_nil) T.b_dict boot_dict))
    (jss_cons (js_ice 2 (js_ice 1 (js_for hp rfl (ji_zip (je_var 1) (je_var 2) T.b_zip) (jg_tup2 4 5 rfl sc_joined.nd)
    (jss_one (js_ifSetd 3 (oj_ne (u64 hr)) (je_var 4) (je_var 5) (je_var 5)
    (jss_one (js_ret je_non))
    jss_nil ⟨rfl, rfl, rfl, rfl⟩)))))
    (jss_one (js_retV 3))))
abbrev N_letters_of : List Str := ["shape", "known", "letters", "letter"]
theorem sc_letters_of : FnScope N_letters_of ["shape"] (defScope s_letters_of) := ⟨rfl, rfl, rfl, by decide +kernel, rfl, by decide +kernel, by decide +kernel⟩
theorem ok_letters_of {f : Addr} {fd : FuncData} (F : Fun K "letters_of" "letters_of" s_letters_of f fd) (T : Tx K mg)  : FnOk P w K mg base (L2.CX P w) 1 f fd ["shape"] (spF mg 1 m_letters_of) :=
  ok_of F sc_letters_of fun cdv A outer s H E (hr : Room 0 _) tk hp =>
    (jss_cons (js_set 1 sc_letters_of.nd je_newK)
    (jss_cons (js_ice 0 (js_for hp rfl (ji_items (je_var 0)) (jg_name 2 sc_letters_of.nd)
    (jss_one (js_ice 2 (js_for hp rfl (ji_items (je_var 2)) (jg_name 3 sc_letters_of.nd)
    (jss_one (js_put 1 (u1 hr) (je_var 3) je_bl)))))))
    (jss_one (js_ret (je_sortedKeys rfl (u62 hr) (je_var 1) T.b_sorted rfl boot_sorted)))))
abbrev N_answers : List Str := ["shape", "rows", "some", "letters", "lines", "more", "known", "row", "told", "names", "letter"]
theorem sc_answers : FnScope N_answers ["shape", "rows"] (defScope s_answers) := ⟨rfl, rfl, rfl, by decide +kernel, rfl, by decide +kernel, by decide +kernel⟩
theorem ok_answers {f : Addr} {fd : FuncData} (F : Fun K "answers" "answers" s_answers f fd) (T : Tx K mg) (C_joined : Cal P w K mg base 1 "joined" 3 m_joined) (C_letters_of : Cal P w K mg base 1 "letters_of" 1 m_letters_of) : FnOk P w K mg base (L2.CX P w) 2 f fd ["shape", "rows"] (spF mg 2 m_answers) :=
  ok_of F sc_answers fun cdv A outer s H E (hr : Room 1 _) tk hp =>
    (jss_cons (js_set 2 sc_answers.nd (je_list (ja_cons (je_frz je_newK) ja_nil)))
    (jss_cons (js_ice 2 (js_ice 1 (js_ice 0 (js_for hp rfl (ji_zip (je_var 0) (je_var 1) T.b_zip) (jg_tup2 3 4 rfl sc_answers.nd)
    (jss_cons (js_set 5 sc_answers.nd (je_list ja_nil))
    (jss_cons (js_ice 2 (js_for hp rfl (ji_items (je_var 2)) (jg_name 6 sc_answers.nd)
    (jss_one (js_ice 4 (js_for hp rfl (ji_items (je_var 4)) (jg_name 7 sc_answers.nd)
    (jss_cons (js_set 8 sc_answers.nd (je_cal tk C_joined hr (ja_cons (je_var 6) (ja_cons (je_var 3) (ja_cons (je_var 7) ja_nil)))))
    (jss_one (js_ice 8 (js_if (jt_notN (je_var 8))
    (jss_one (js_ice 8 (js_append 5 (je_var 8))))
    jss_nil)))))))))
    (jss_one (js_ice 5 (js_set 2 sc_answers.nd (je_var 5))))))))))
    (jss_cons (js_set 9 sc_answers.nd (je_cal tk C_letters_of hr (ja_cons (je_var 0) ja_nil)))
    (jss_one (js_ice 9 (js_ice 9 (js_ice 8 (js_ice 7 (js_ice 6 (js_ice 5 (js_ice 4 (js_ice 3 (js_ice 2 (js_ret (je_callB (cj_sorted (u62 hr)) (ja_cons (je_lc (own := [((Str.ofString "known"), 6)]) rfl sc_answers.nd (jc_items (je_var 2)) (blkOk_by (by rfl)) (fun _ _ _ _ _ => (jg_name 6 sc_answers.nd)) (fun _ _ _ _ _ => jts_nil) (fun _ _ _ _ _ => (je_frz (je_callTy (cj_tup rfl) (ja_cons (je_lc (own := [((Str.ofString "letter"), 10)]) rfl sc_answers.nd (jc_items (je_var 9)) (blkOk_by (by rfl)) (fun _ _ _ _ _ => (jg_name 10 sc_answers.nd)) (fun _ _ _ _ _ => jts_nil) (fun _ _ _ _ _ => (je_frz (je_sub (u1 hr) (je_var 6) (je_var 10)))) tg_name) ja_nil) T.b_tuple boot_tuple))) tg_name) ja_nil) T.b_sorted boot_sorted)))))))))))))))
abbrev N__law_whole : List Str := ["_law_found"]
theorem sc__law_whole : FnScope N__law_whole ["_law_found"] (defScope s__law_whole) := ⟨rfl, rfl, rfl, by decide +kernel, rfl, by decide +kernel, by decide +kernel⟩
theorem ok__law_whole {f : Addr} {fd : FuncData} (F : Fun K "_law_whole" "_law_whole" s__law_whole f fd) (T : Tx K mg)  : FnOk P w K mg base (L2.CX P w) 1 f fd ["_law_found"] (spF mg 1 m__law_whole) :=
  ok_of F sc__law_whole fun cdv A outer s H E (hr : Room 0 _) tk hp =>
    (jss_one (js_ret (je_and (je_isa (T := "int") (je_var 0) T.b_isinstance T.b_int (by decide) boot_int) (je_one (je_not (je_isa (T := "bool") (je_var 0) T.b_isinstance T.b_bool (by decide) boot_bool))))))
abbrev N_law : List Str := ["_law_script", "_law_cells", "_law_total", "_law_shape_here", "_law_rows_here", "_law_due_here", "_law_found", "_law_answer", "_law_cell"]
theorem sc_law : FnScope N_law ["_law_script"] (defScope s_law) := ⟨rfl, rfl, rfl, by decide +kernel, rfl, by decide +kernel, by decide +kernel⟩
theorem ok_law {f : Addr} {fd : FuncData} (F : Fun K "law" "law" s_law f fd) (T : Tx K mg) (C__law_shape : Cal P w K mg base 3 "_law_shape" 1 m__law_shape) (C__law_rows : Cal P w K mg base 3 "_law_rows" 3 m__law_rows) (C__law_due : Cal P w K mg base 3 "_law_due" 3 m__law_due) (C_answers : Cal P w K mg base 2 "answers" 2 m_answers) (C__law_whole : Cal P w K mg base 1 "_law_whole" 1 m__law_whole) (hlaw : ∀ ns : List Int, ns.length ≤ 63 → ∃ env, D_law (law0 9 (ns.take 59)) = .ok (.rt (.fz (.bl true)) env)) : FnOk P w K mg base (L2.CX P w) 4 f fd ["_law_script"] (spLaw K) := by
  refine F.okX sc_law (fun vs H Q E h => ?_) (fun cdv A outer s H vs Q E (hr : Room 3 _) h => ?_)
  · obtain ⟨a, ns, rfl, _⟩ := h
    rfl
  · obtain ⟨a, ns, rfl, hS, hl, hQ⟩ := h
    have tk := takes_of (X := cxOf (L2.CX P w) P w K mg base N_law "law" (defScope s_law) f cdv A outer s H E) rfl rfl rfl rfl
    have hp := passes_of (X := cxOf (L2.CX P w) P w K mg base N_law "law" (defScope s_law) f cdv A outer s H E) rfl
    have hb : JSs (cxOf (L2.CX P w) P w K mg base N_law "law" (defScope s_law) f cdv A outer s H E) (fun cls d _ H => E cls d H) ((defBody s_law).drop 1) D_law :=
    (jss_cons (js_ice 1 (js_set 2 sc_law.nd (je_callB (cj_sum rfl) (ja_cons (je_var 1) ja_nil) T.b_sum boot_sum)))
    (jss_cons (js_set 3 sc_law.nd (je_cal tk C__law_shape hr (ja_cons (je_var 2) ja_nil)))
    (jss_cons (js_ice 3 (js_set 4 sc_law.nd (je_cal tk C__law_rows hr (ja_cons (je_var 3) (ja_cons (je_var 1) (ja_cons (je_var 2) ja_nil))))))
    (jss_cons (js_ice 4 (js_set 5 sc_law.nd (je_cal tk C__law_due hr (ja_cons (je_var 3) (ja_cons (je_var 4) (ja_cons (je_var 2) ja_nil))))))
    (jss_cons (js_ice 5 (js_set 6 sc_law.nd (je_cal tk C_answers hr (ja_cons (je_var 3) (ja_cons (je_var 4) ja_nil)))))
    (jss_cons (js_if (jt_w (jw_or (jt_not (jt_val (je_isa (T := "list") (je_var 6) T.b_isinstance T.b_list (by decide) boot_list))) (jw_or1 (jt_cmp (oj_ne (u64 hr)) (je_var 6) (je_var 5)))))
    (jss_one (js_ret je_bl))
    jss_nil)
    (jss_cons (js_quiet (jq_for hp rfl (je_var 6) (jg_name 7 sc_law.nd)
    (jqs_one (jq_if (jt_w (jw_or (jt_not (jt_val (je_isa (T := "tuple") (je_var 7) T.b_isinstance T.b_tuple (by decide) boot_tuple))) (jw_or1 (jt_cmp (oj_ne (u64 hr)) (je_lc (own := [((Str.ofString "_law_cell"), 8)]) rfl sc_law.nd (jc_items (je_var 7)) (blkOk_by (by rfl)) (fun _ _ _ _ _ => (jg_name 8 sc_law.nd)) (fun _ _ _ _ _ => (jts_one (jt_not (jt_val (je_cal takes0 C__law_whole hr (ja_cons (je_var 8) ja_nil)))))) (fun _ _ _ _ _ => (je_var 8)) tg_name) (je_list ja_nil)))))
    (jqs_one (jq_ret je_bl))
    jqs_nil))))
    (jss_cons (js_append 6 je_non)
    (jss_cons (js_if (jt_w (jw_or (jt_cmp (oj_ne (u64 hr)) (je_var 3) (je_cal tk C__law_shape hr (ja_cons (je_var 2) ja_nil))) (jw_or1 (jt_cmp (oj_ne (u64 hr)) (je_var 4) (je_cal tk C__law_rows hr (ja_cons (je_var 3) (ja_cons (je_var 1) (ja_cons (je_var 2) ja_nil))))))))
    (jss_one (js_ret je_bl))
    jss_nil)
    (jss_one (js_ret (je_cmp (oj_eq (u64 hr)) (je_cal tk C_answers hr (ja_cons (je_var 3) (ja_cons (je_var 4) ja_nil))) (je_var 5)))))))))))))
    exact law_body (N := N_law) rfl (by decide) hb (pe_slice sl_list (pe_var (i := 0) rfl (by first | exact Or.inl rfl | exact Or.inr (Or.inl rfl))) po_none (po_some pe_int)) (ps_set (i := 1) sc_law.nd rfl (by first | exact Or.inl rfl | exact Or.inr rfl) (pe_slice sl_list (pe_var (i := 0) rfl (by first | exact Or.inl rfl | exact Or.inr (Or.inl rfl))) po_none (po_some pe_int))) (hlaw ns hl) hQ (fun Q h => law_slice hS Q h (by decide))
end
noncomputable def lawAns (ns : List Int) : Ans SO := D_law (law0 9 (ns.take 59))
theorem all_mk {l : PySem.W.OpenLaw} {w : World} {K : PySem.W.Frag} {h : Heap} {mg : Str → Option Value} {fa : Addr} (X : K.In h) (G : h.Ns mainGlobals mg) (hfa : mg "law" = some (.ref fa)) (hlaw : ∀ ns : List Int, ns.length ≤ 63 → ∃ env, lawAns ns = .ok (.rt (.fz (.bl true)) env))
    {f1 : Addr} {od1 an1 : Option Addr} {sl1 : Array (Option Value)} {oc1 kV1 dc1 pm1 cd1 ct1 : Value} (a1 : PySem.W.nsIn K mainGlobals "_law_mix" = some (some (.ref f1))) (l1 : K.lookup f1 = some ⟨oc1, od1, .func (PySem.W.fnOf "_law_mix" "_law_mix" (defArgs s__law_mix) (defBody s__law_mix) (defScope s__law_mix) .none kV1 dc1 pm1 an1 cd1 ct1), sl1⟩) (c1 : PySem.W.codeIn K cd1 "_law_mix" = true) (k1 : PySem.W.keepIn K (.ref f1) = true)
    {f2 : Addr} {od2 an2 : Option Addr} {sl2 : Array (Option Value)} {oc2 kV2 dc2 pm2 cd2 ct2 : Value} (a2 : PySem.W.nsIn K mainGlobals "_law_letters" = some (some (.ref f2))) (l2 : K.lookup f2 = some ⟨oc2, od2, .func (PySem.W.fnOf "_law_letters" "_law_letters" (defArgs s__law_letters) (defBody s__law_letters) (defScope s__law_letters) .none kV2 dc2 pm2 an2 cd2 ct2), sl2⟩) (c2 : PySem.W.codeIn K cd2 "_law_letters" = true) (k2 : PySem.W.keepIn K (.ref f2) = true)
    {f3 : Addr} {od3 an3 : Option Addr} {sl3 : Array (Option Value)} {oc3 kV3 dc3 pm3 cd3 ct3 : Value} (a3 : PySem.W.nsIn K mainGlobals "_law_shape" = some (some (.ref f3))) (l3 : K.lookup f3 = some ⟨oc3, od3, .func (PySem.W.fnOf "_law_shape" "_law_shape" (defArgs s__law_shape) (defBody s__law_shape) (defScope s__law_shape) .none kV3 dc3 pm3 an3 cd3 ct3), sl3⟩) (c3 : PySem.W.codeIn K cd3 "_law_shape" = true) (k3 : PySem.W.keepIn K (.ref f3) = true)
    {f4 : Addr} {od4 an4 : Option Addr} {sl4 : Array (Option Value)} {oc4 kV4 dc4 pm4 cd4 ct4 : Value} (a4 : PySem.W.nsIn K mainGlobals "_law_numbers" = some (some (.ref f4))) (l4 : K.lookup f4 = some ⟨oc4, od4, .func (PySem.W.fnOf "_law_numbers" "_law_numbers" (defArgs s__law_numbers) (defBody s__law_numbers) (defScope s__law_numbers) .none kV4 dc4 pm4 an4 cd4 ct4), sl4⟩) (c4 : PySem.W.codeIn K cd4 "_law_numbers" = true) (k4 : PySem.W.keepIn K (.ref f4) = true)
    {f5 : Addr} {od5 an5 : Option Addr} {sl5 : Array (Option Value)} {oc5 kV5 dc5 pm5 cd5 ct5 : Value} (a5 : PySem.W.nsIn K mainGlobals "_law_rows" = some (some (.ref f5))) (l5 : K.lookup f5 = some ⟨oc5, od5, .func (PySem.W.fnOf "_law_rows" "_law_rows" (defArgs s__law_rows) (defBody s__law_rows) (defScope s__law_rows) .none kV5 dc5 pm5 an5 cd5 ct5), sl5⟩) (c5 : PySem.W.codeIn K cd5 "_law_rows" = true) (k5 : PySem.W.keepIn K (.ref f5) = true)
    {f6 : Addr} {od6 an6 : Option Addr} {sl6 : Array (Option Value)} {oc6 kV6 dc6 pm6 cd6 ct6 : Value} (a6 : PySem.W.nsIn K mainGlobals "_law_due" = some (some (.ref f6))) (l6 : K.lookup f6 = some ⟨oc6, od6, .func (PySem.W.fnOf "_law_due" "_law_due" (defArgs s__law_due) (defBody s__law_due) (defScope s__law_due) .none kV6 dc6 pm6 an6 cd6 ct6), sl6⟩) (c6 : PySem.W.codeIn K cd6 "_law_due" = true) (k6 : PySem.W.keepIn K (.ref f6) = true)
    {f7 : Addr} {od7 an7 : Option Addr} {sl7 : Array (Option Value)} {oc7 kV7 dc7 pm7 cd7 ct7 : Value} (a7 : PySem.W.nsIn K mainGlobals "joined" = some (some (.ref f7))) (l7 : K.lookup f7 = some ⟨oc7, od7, .func (PySem.W.fnOf "joined" "joined" (defArgs s_joined) (defBody s_joined) (defScope s_joined) .none kV7 dc7 pm7 an7 cd7 ct7), sl7⟩) (c7 : PySem.W.codeIn K cd7 "joined" = true) (k7 : PySem.W.keepIn K (.ref f7) = true)
    {f8 : Addr} {od8 an8 : Option Addr} {sl8 : Array (Option Value)} {oc8 kV8 dc8 pm8 cd8 ct8 : Value} (a8 : PySem.W.nsIn K mainGlobals "letters_of" = some (some (.ref f8))) (l8 : K.lookup f8 = some ⟨oc8, od8, .func (PySem.W.fnOf "letters_of" "letters_of" (defArgs s_letters_of) (defBody s_letters_of) (defScope s_letters_of) .none kV8 dc8 pm8 an8 cd8 ct8), sl8⟩) (c8 : PySem.W.codeIn K cd8 "letters_of" = true) (k8 : PySem.W.keepIn K (.ref f8) = true)
    {f9 : Addr} {od9 an9 : Option Addr} {sl9 : Array (Option Value)} {oc9 kV9 dc9 pm9 cd9 ct9 : Value} (a9 : PySem.W.nsIn K mainGlobals "answers" = some (some (.ref f9))) (l9 : K.lookup f9 = some ⟨oc9, od9, .func (PySem.W.fnOf "answers" "answers" (defArgs s_answers) (defBody s_answers) (defScope s_answers) .none kV9 dc9 pm9 an9 cd9 ct9), sl9⟩) (c9 : PySem.W.codeIn K cd9 "answers" = true) (k9 : PySem.W.keepIn K (.ref f9) = true)
    {f10 : Addr} {od10 an10 : Option Addr} {sl10 : Array (Option Value)} {oc10 kV10 dc10 pm10 cd10 ct10 : Value} (a10 : PySem.W.nsIn K mainGlobals "_law_whole" = some (some (.ref f10))) (l10 : K.lookup f10 = some ⟨oc10, od10, .func (PySem.W.fnOf "_law_whole" "_law_whole" (defArgs s__law_whole) (defBody s__law_whole) (defScope s__law_whole) .none kV10 dc10 pm10 an10 cd10 ct10), sl10⟩) (c10 : PySem.W.codeIn K cd10 "_law_whole" = true) (k10 : PySem.W.keepIn K (.ref f10) = true)
    {f11 : Addr} {od11 an11 : Option Addr} {sl11 : Array (Option Value)} {oc11 kV11 dc11 pm11 cd11 ct11 : Value} (a11 : PySem.W.nsIn K mainGlobals "law" = some (some (.ref f11))) (l11 : K.lookup f11 = some ⟨oc11, od11, .func (PySem.W.fnOf "law" "law" (defArgs s_law) (defBody s_law) (defScope s_law) .none kV11 dc11 pm11 an11 cd11 ct11), sl11⟩) (c11 : PySem.W.codeIn K cd11 "law" = true) (k11 : PySem.W.keepIn K (.ref f11) = true)
    (z_sum : PySem.W.nsIn K mainGlobals "sum" = some none)
    (z_isinstance : PySem.W.nsIn K mainGlobals "isinstance" = some none)
    (z_list : PySem.W.nsIn K mainGlobals "list" = some none)
    (z_tuple : PySem.W.nsIn K mainGlobals "tuple" = some none)
    (z_range : PySem.W.nsIn K mainGlobals "range" = some none)
    (z_len : PySem.W.nsIn K mainGlobals "len" = some none)
    (z_min : PySem.W.nsIn K mainGlobals "min" = some none)
    (z_ord : PySem.W.nsIn K mainGlobals "ord" = some none)
    (z_sorted : PySem.W.nsIn K mainGlobals "sorted" = some none)
    (z_set : PySem.W.nsIn K mainGlobals "set" = some none)
    (z_zip : PySem.W.nsIn K mainGlobals "zip" = some none)
    (z_dict : PySem.W.nsIn K mainGlobals "dict" = some none)
    (z_int : PySem.W.nsIn K mainGlobals "int" = some none)
    (z_bool : PySem.W.nsIn K mainGlobals "bool" = some none)
    : ∃ fd : FuncData, (∀ (s : Shared) (v : Value), BindsTo s fd ⟨[v], []⟩ [("_law_script", v)]) ∧ ∀ base : Heap, K.In base → base.Ns mainGlobals mg → FnOk l.prog w K mg base (L2.CX l.prog w) 4 fa fd ["_law_script"] (spLaw K) := by
  have e := hfa.symm.trans (PySem.W.mg_of X G a11)
  cases e
  have T : Tx K mg := ⟨PySem.W.mg_none_of X G z_sum, PySem.W.mg_none_of X G z_isinstance, PySem.W.mg_none_of X G z_list, PySem.W.mg_none_of X G z_tuple, PySem.W.mg_none_of X G z_range, PySem.W.mg_none_of X G z_len, PySem.W.mg_none_of X G z_min, PySem.W.mg_none_of X G z_ord, PySem.W.mg_none_of X G z_sorted, PySem.W.mg_none_of X G z_set, PySem.W.mg_none_of X G z_zip, PySem.W.mg_none_of X G z_dict, PySem.W.mg_none_of X G z_int, PySem.W.mg_none_of X G z_bool⟩
  refine ⟨PySem.W.fnOf "law" "law" (defArgs s_law) (defBody s_law) (defScope s_law) .none kV11 dc11 pm11 an11 cd11 ct11, fun s v => .of_eq rfl, fun base _ _ => ?_⟩
  have F1 := fun_mk (st := s__law_mix) l1 c1 k1
  have C__law_mix : Cal l.prog w K mg base 1 "_law_mix" 2 m__law_mix := ⟨_, _, ["_law_cell", "_law_j"], ok__law_mix F1 T , PySem.W.mg_of X G a1, k1, F1.binds (ps := ["_law_cell", "_law_j"]) fun _ _ _ _ _ _ us hl => match us, hl with | [_, _], _ => rfl⟩
  have F2 := fun_mk (st := s__law_letters) l2 c2 k2
  have C__law_letters : Cal l.prog w K mg base 2 "_law_letters" 1 m__law_letters := ⟨_, _, ["_law_cell"], ok__law_letters F2 T C__law_mix, PySem.W.mg_of X G a2, k2, F2.binds (ps := ["_law_cell"]) fun _ _ _ _ _ _ us hl => match us, hl with | [_], _ => rfl⟩
  have F3 := fun_mk (st := s__law_shape) l3 c3 k3
  have C__law_shape : Cal l.prog w K mg base 3 "_law_shape" 1 m__law_shape := ⟨_, _, ["_law_cell"], ok__law_shape F3 T C__law_letters C__law_mix, PySem.W.mg_of X G a3, k3, F3.binds (ps := ["_law_cell"]) fun _ _ _ _ _ _ us hl => match us, hl with | [_], _ => rfl⟩
  have F4 := fun_mk (st := s__law_numbers) l4 c4 k4
  have C__law_numbers : Cal l.prog w K mg base 2 "_law_numbers" 1 m__law_numbers := ⟨_, _, ["_law_cell"], ok__law_numbers F4 T C__law_mix, PySem.W.mg_of X G a4, k4, F4.binds (ps := ["_law_cell"]) fun _ _ _ _ _ _ us hl => match us, hl with | [_], _ => rfl⟩
  have F5 := fun_mk (st := s__law_rows) l5 c5 k5
  have C__law_rows : Cal l.prog w K mg base 3 "_law_rows" 3 m__law_rows := ⟨_, _, ["_law_shape_here", "_law_cells", "_law_total"], ok__law_rows F5 T C__law_numbers C__law_mix, PySem.W.mg_of X G a5, k5, F5.binds (ps := ["_law_shape_here", "_law_cells", "_law_total"]) fun _ _ _ _ _ _ us hl => match us, hl with | [_, _, _], _ => rfl⟩
  have F6 := fun_mk (st := s__law_due) l6 c6 k6
  have C__law_due : Cal l.prog w K mg base 3 "_law_due" 3 m__law_due := ⟨_, _, ["_law_shape_here", "_law_rows_here", "_law_total"], ok__law_due F6 T C__law_numbers, PySem.W.mg_of X G a6, k6, F6.binds (ps := ["_law_shape_here", "_law_rows_here", "_law_total"]) fun _ _ _ _ _ _ us hl => match us, hl with | [_, _, _], _ => rfl⟩
  have F7 := fun_mk (st := s_joined) l7 c7 k7
  have C_joined : Cal l.prog w K mg base 1 "joined" 3 m_joined := ⟨_, _, ["known", "letters", "row"], ok_joined F7 T , PySem.W.mg_of X G a7, k7, F7.binds (ps := ["known", "letters", "row"]) fun _ _ _ _ _ _ us hl => match us, hl with | [_, _, _], _ => rfl⟩
  have F8 := fun_mk (st := s_letters_of) l8 c8 k8
  have C_letters_of : Cal l.prog w K mg base 1 "letters_of" 1 m_letters_of := ⟨_, _, ["shape"], ok_letters_of F8 T , PySem.W.mg_of X G a8, k8, F8.binds (ps := ["shape"]) fun _ _ _ _ _ _ us hl => match us, hl with | [_], _ => rfl⟩
  have F9 := fun_mk (st := s_answers) l9 c9 k9
  have C_answers : Cal l.prog w K mg base 2 "answers" 2 m_answers := ⟨_, _, ["shape", "rows"], ok_answers F9 T C_joined C_letters_of, PySem.W.mg_of X G a9, k9, F9.binds (ps := ["shape", "rows"]) fun _ _ _ _ _ _ us hl => match us, hl with | [_, _], _ => rfl⟩
  have F10 := fun_mk (st := s__law_whole) l10 c10 k10
  have C__law_whole : Cal l.prog w K mg base 1 "_law_whole" 1 m__law_whole := ⟨_, _, ["_law_found"], ok__law_whole F10 T , PySem.W.mg_of X G a10, k10, F10.binds (ps := ["_law_found"]) fun _ _ _ _ _ _ us hl => match us, hl with | [_], _ => rfl⟩
  have F11 := fun_mk (st := s_law) l11 c11 k11
  exact ok_law F11 T C__law_shape C__law_rows C__law_due C_answers C__law_whole hlaw
theorem walk {l : PySem.W.OpenLaw} {q : Program} {loose : List Str} {XP : (Str → Option Value) → Heap → Prop} {YP : World → Heap → Prop} {d : DefRec} {K : Params → PySem.W.Frag} (hn : l.most = some 63) (hdf : d.params.defaults = [])
    (hY : ∀ (w : World) (h : Heap), YP w h → (K w.params).In h)
    (F : ∀ (w : World) (mg : Str → Option Value) (fa : Addr) (h : Heap), (K w.params).In h → h.Ns mainGlobals mg → mg d.name = some (.ref fa) →
      ∃ fd : FuncData, (∀ (s : Shared) (u : Value), BindsTo s fd ⟨[u], []⟩ [("_law_script", u)]) ∧ ∀ base : Heap, (K w.params).In base → base.Ns mainGlobals mg → FnOk l.prog w (K w.params) mg base (L2.CX l.prog w) 4 fa fd ["_law_script"] (spLaw (K w.params))) :
    PySem.W.WalkO q loose XP YP l.row.toRowW d [] (fun f vs => PySem.call f vs) :=
  L2.walk_of (n := 63) (k := 4) (x := "_law_script") (CX := fun w => L2.CX l.prog w) (sp := fun w => spLaw (K w.params)) hn (by decide) hdf ⟨rfl, by decide, by decide⟩ hY F (fun _ _ a ns hl _ hS => ⟨a, ns, rfl, hS, hl, fun _ => rfl⟩) fun _ _ _ _ _ z => let ⟨_, _, _, _, _, _, _, _, _, _, _, _, z⟩ := z; z.elim
set_option maxHeartbeats 4000000
def n1 (c j : Int) : Int := (c * (2 * j + 3) + j) % 2147483629
def n2 (n : Int) : Int := ((n * n + 1) * 48271) % 2147483629
theorem n1_lt (c j : Int) : 0 ≤ n1 c j ∧ n1 c j < 2147483629 := ⟨Int.emod_nonneg _ (by decide), Int.emod_lt_of_pos _ (by decide)⟩
theorem n2_lt (n : Int) : 0 ≤ n2 n ∧ n2 n < 2147483629 := ⟨Int.emod_nonneg _ (by decide), Int.emod_lt_of_pos _ (by decide)⟩
theorem sq_n1 (c j : Int) : mulOk (n1 c j) (n1 c j) = true := mulL (by have := n1_lt c j; omega)
theorem sq_n2 (n : Int) : mulOk (n2 n) (n2 n) = true := mulL (by have := n2_lt n; omega)
theorem mix_tail (c j : Int) (h0 : 0 ≤ j) (h1 : j < 1000000) : ∃ e, (dSeq (dSet 2 (dBin opMod (dBin opAdd (dBin opMul (dVar 0) (dBin opAdd (dBin opMul (dC (.int 2)) (dVar 1)) (dC (.int 3)))) (dVar 1)) (dC (.int 2147483629))))
    (dSeq (dSet 2 (dBin opMod (dBin opMul (dBin opAdd (dBin opMul (dVar 2) (dVar 2)) (dC (.int 1))) (dC (.int 48271))) (dC (.int 2147483629))))
    (dRet (dBin opMod (dBin opMul (dVar 2) (dVar 2)) (dC (.int 2147483587)))))) [some (.fz (.int c)), some (.fz (.int j)), none] = .ok (.rt (.fz (.int ((n2 (n1 c j) * n2 (n1 c j)) % 2147483587))) e) := by
  apply Exists.intro
  apply ev_seqN
  · apply ev_set (o := .fz (.int (n1 c j)))
    repeat' (first | exact ev_c | exact ev_skip | exact ev_varF rfl | exact ev_varL rfl | exact ev_varK rfl | exact ev_nil | exact e_add | exact e_sub | exact e_eq | exact e_ne | exact e_mod (by first | decide | omega) | exact e_mul (mulL (by first | decide | omega)) | exact e_mul (mulR (by first | decide | omega)) | apply ev_bin | apply ev_set | apply ev_ret | apply ev_seqN | apply ev_cons | apply ev_frz)
  · apply ev_seqN
    · apply ev_set (o := .fz (.int (n2 (n1 c j))))
      apply ev_bin
      · apply ev_bin
        · apply ev_bin
          · apply ev_bin
            · exact ev_varF rfl
            · exact ev_varF rfl
            · exact e_mul (sq_n1 c j)
          · exact ev_c
          · exact e_add
        · exact ev_c
        · exact e_mul (mulR (by decide))
      · exact ev_c
      · exact e_mod (by decide)
    · apply ev_ret
      apply ev_bin
      · apply ev_bin
        · exact ev_varF rfl
        · exact ev_varF rfl
        · exact e_mul (sq_n2 _)
      · exact ev_c
      · exact e_mod (by decide)
theorem mix_ok (c j : Int) (h0 : 0 ≤ j) (h1 : j < 1000000) : ∃ m, 0 ≤ m ∧ m__law_mix [.int c, .int j] = .ok (.fz (.int m)) := by
  unfold m__law_mix D__law_mix
  have t1 : dTest (dBin opEq (dBin opMod (dVar 0) (dC (.int 2))) (dC (.int 1))) (startE 3 [.int c, .int j]) = .ok (decide (c % 2 = 1)) := by
    apply ev_test
    repeat' (first | exact ev_c | exact ev_skip | exact ev_varF rfl | exact ev_varL rfl | exact ev_varK rfl | exact ev_nil | exact e_add | exact e_sub | exact e_eq | exact e_ne | exact e_mod (by first | decide | omega) | exact e_mul (mulL (by first | decide | omega)) | exact e_mul (mulR (by first | decide | omega)) | apply ev_bin | apply ev_set | apply ev_ret | apply ev_seqN | apply ev_cons | apply ev_frz)
  have t2 : dTest (dBin opNe (dBin opShr (dVar 0) (dC (.int 27))) (dC (.int 0))) (startE 3 [.int c, .int j]) = .ok (!decide (c / 2 ^ (27 : Int).toNat = 0)) := by
    apply ev_test
    apply ev_bin
    · apply ev_bin
      · exact ev_varF rfl
      · exact ev_c
      · exact e_shr (by decide)
    · exact ev_c
    · exact e_ne
  by_cases a : c % 2 = 1 ∧ c / 2 ^ (27 : Int).toNat ≠ 0
  · rw [decide_eq_true a.1] at t1
    rw [decide_eq_false a.2] at t2
    refine ⟨(c / 2 ^ (1 + 20 * j).toNat) % 1048576, Int.emod_nonneg _ (by decide), ?_⟩
    apply ev_run
    apply ev_seqR
    apply ev_ifT'
    · exact ev_andT' t1 t2
    · apply ev_ret
      apply ev_bin
      · apply ev_bin
        · exact ev_varF rfl
        · repeat' (first | exact ev_c | exact ev_skip | exact ev_varF rfl | exact ev_varL rfl | exact ev_varK rfl | exact ev_nil | exact e_add | exact e_sub | exact e_eq | exact e_ne | exact e_mod (by first | decide | omega) | exact e_mul (mulL (by first | decide | omega)) | exact e_mul (mulR (by first | decide | omega)) | apply ev_bin | apply ev_set | apply ev_ret | apply ev_seqN | apply ev_cons | apply ev_frz)
        · exact e_shr (by omega)
      · exact ev_c
      · exact e_mod (by decide)
  · obtain ⟨e, w⟩ := mix_tail c j h0 h1
    refine ⟨_, Int.emod_nonneg _ (by decide), ev_run (ev_seqN (ev_ifF' ?_ ev_skip) w)⟩
    by_cases b : c % 2 = 1
    · have b2 : c / 2 ^ (27 : Int).toNat = 0 := by
        by_cases q : c / 2 ^ (27 : Int).toNat = 0
        · exact q
        · exact absurd ⟨b, q⟩ a
      rw [decide_eq_true b] at t1
      rw [decide_eq_true b2] at t2
      exact ev_andT' t1 t2
    · rw [decide_eq_false b] at t1
      exact ev_andF t1
noncomputable def mx (c j : Int) : Int := match m__law_mix [.int c, .int j] with
  | .ok (.fz (.int m)) => m
  | _ => 0
theorem mix_eq (c j : Int) (h0 : 0 ≤ j) (h1 : j < 1000000) : m__law_mix [.int c, .int j] = .ok (.fz (.int (mx c j))) ∧ 0 ≤ mx c j := by
  obtain ⟨m, h, e⟩ := mix_ok c j h0 h1
  have : mx c j = m := by unfold mx; rw [e]
  rw [this]
  exact ⟨e, h⟩
def abcU : Str := Str.ofString "ABCDEFGHIJKLMNOPQRSTUVWXYZ"
theorem atU : ∀ n : Nat, n < 26 → atI abcU.cps.toList (n : Int) = some (65 + n) := by decide +kernel
theorem lenU : abcU.length ≤ BIG := by decide +kernel
theorem nodup_codes : ∀ s : Nat, s < 26 → ∀ t ∈ [1, 3, 5, 7, 9, 11], ((List.range 6).map fun k => 65 + (s + t * k) % 26).Nodup := by decide +kernel
theorem atI_nat' {α : Type} {xs : List α} {j : Nat} {v : α} {i : Int} (h : xs[j]? = some v) (e : i = (j : Int)) : atI xs i = some v := by rw [e]; exact atI_nat h
theorem e_neD {x y : OV} {a b : FV} (hx : x.fv = a) (hy : y.fv = b) (ha : a.pl = true) (hb : b.pl = true) (da : a.dep ≤ 64) (db : b.dep ≤ 64) (hn : ∀ i, x ≠ .fz (.int i)) (hs : ∀ i, x ≠ .fz (.str i)) {c : Bool} (hc : c = true ↔ a ≠ b) : opNe x y = some (.fz (.bl c)) := by
  have e : opNe x y = (x.fv.eqD y.fv).map fun b => .fz (.bl !b) := by
    unfold opNe
    split
    · exact absurd rfl (hn _)
    · exact absurd rfl (hs _)
    · rfl
  rw [e, hx, hy, FV.eqD_pl ha hb da db, Option.map_some]
  congr 3
  by_cases h : a = b
  · rw [@decide_eq_true _ (Classical.propDecidable _) h]
    cases c with
    | false => rfl
    | true => exact absurd h (hc.mp rfl)
  · rw [@decide_eq_false _ (Classical.propDecidable _) h]
    rw [hc.mpr h]
    rfl
theorem e_eqD {x y : OV} {a b : FV} (hx : x.fv = a) (hy : y.fv = b) (ha : a.pl = true) (hb : b.pl = true) (da : a.dep ≤ 64) (db : b.dep ≤ 64) (hn : ∀ i, x ≠ .fz (.int i)) (hs : ∀ i, x ≠ .fz (.str i)) {c : Bool} (hc : c = true ↔ a = b) : opEq x y = some (.fz (.bl c)) := by
  have e : opEq x y = (x.fv.eqD y.fv).map fun b => .fz (.bl b) := by
    unfold opEq
    split
    · exact absurd rfl (hn _)
    · exact absurd rfl (hs _)
    · rfl
  rw [e, hx, hy, FV.eqD_pl ha hb da db, Option.map_some]
  congr 3
  by_cases h : a = b
  · rw [@decide_eq_true _ (Classical.propDecidable _) h, hc.mpr h]
  · rw [@decide_eq_false _ (Classical.propDecidable _) h]
    cases c with
    | false => rfl
    | true => exact absurd (hc.mp rfl) h
theorem mem_erase {α : Type} {x : α} : ∀ {l : List α} {i : Nat}, x ∈ l.eraseIdx i → x ∈ l := fun {l i} h => (List.eraseIdx_sublist l i).mem h
theorem erase_map {α β : Type} (f : α → β) : ∀ (l : List α) (i : Nat), (l.map f).eraseIdx i = (l.eraseIdx i).map f
  | [], _ => rfl
  | _ :: _, 0 => rfl
  | a :: l, i + 1 => by
    show f a :: (l.map f).eraseIdx i = f a :: (l.eraseIdx i).map f
    rw [erase_map f l i]
def letF (d : List Nat) : FV := .tup (d.map s1)
theorem pure_s1 : ∀ d : List Nat, FV.pureL (d.map s1) = true
  | [] => rfl
  | x :: d => by rw [List.map_cons, FV.pureL, pure_s1 d]; rfl
theorem pure_letF : ∀ ds : List (List Nat), FV.pureL (ds.map letF) = true
  | [] => rfl
  | d :: ds => by
    rw [List.map_cons, FV.pureL, pure_letF ds, Bool.and_true]
    show FV.pureL (d.map s1) = true
    exact pure_s1 d
theorem le_s1 (a b : Nat) : PySem.W.dataLe false FV.enc (s1 a) (s1 b) = decide (a ≤ b) := by
  have h := congrFun (congrFun (PySem.W.dataLe_str (k := fun n : Nat => (⟨#[n]⟩ : Str))) a) b
  have e : PySem.W.dataLe false FV.enc (s1 a) (s1 b) = PySem.W.dataLe false (fun n : Nat => PyData.str ⟨#[n]⟩) a b := rfl
  rw [e, h]
  have : ([a] ≤ [b]) ↔ a ≤ b := by rw [List.cons_le_cons_iff]; simp; omega
  show decide ([a] ≤ [b]) = decide (a ≤ b)
  simp only [this]
def sortN (l : List Nat) : List Nat := l.mergeSort (fun a b => decide (a ≤ b))
theorem sort_s1 (l : List Nat) : sortFV (l.map s1) = (sortN l).map s1 := by
  unfold sortFV sortN
  exact (List.map_mergeSort fun a _ b _ => (le_s1 a b).symm).symm
theorem sortN_mem {l : List Nat} {x : Nat} : x ∈ sortN l ↔ x ∈ l := (List.mergeSort_perm l _).mem_iff
theorem sortN_len (l : List Nat) : (sortN l).length = l.length := List.length_mergeSort _
theorem sortN_lt {l : List Nat} (h : l.Nodup) : (sortN l).Pairwise (· < ·) := by
  have h1 : (sortN l).Pairwise (fun a b => decide (a ≤ b) = true) := List.pairwise_mergeSort (fun a b c h1 h2 => by simp at *; omega) (fun a b => by simp; omega) l
  have h2 : (sortN l).Nodup := (List.mergeSort_perm l _).nodup_iff.mpr h
  exact (h1.and h2).imp fun {a b} h => by have := of_decide_eq_true h.1; have := h.2; omega
theorem strict_eq : ∀ {a b : List Nat}, a.Pairwise (· < ·) → b.Pairwise (· < ·) → (∀ x, x ∈ a ↔ x ∈ b) → a = b
  | [], [], _, _, _ => rfl
  | [], y :: b, _, _, h => absurd ((h y).mpr List.mem_cons_self) (by simp)
  | x :: a, [], _, _, h => absurd ((h x).mp List.mem_cons_self) (by simp)
  | x :: a, y :: b, ha, hb, h => by
    rw [List.pairwise_cons] at ha hb
    have e : x = y := by
      rcases List.mem_cons.mp ((h x).mp List.mem_cons_self) with e | h1
      · exact e
      · rcases List.mem_cons.mp ((h y).mpr List.mem_cons_self) with e | h2
        · exact e.symm
        · have := ha.1 y h2
          have := hb.1 x h1
          omega
    subst e
    rw [strict_eq ha.2 hb.2 fun z => ?_]
    constructor
    · intro hz
      rcases List.mem_cons.mp ((h z).mp (List.mem_cons_of_mem _ hz)) with e | h1
      · have := ha.1 z hz; omega
      · exact h1
    · intro hz
      rcases List.mem_cons.mp ((h z).mpr (List.mem_cons_of_mem _ hz)) with e | h1
      · have := hb.1 z hz; omega
      · exact h1
theorem sortOk_s1 (l : List Nat) (h : l.length ≤ BIG) : sortOk (l.map s1) = true := by
  unfold sortOk
  simp only [Bool.and_eq_true, Bool.or_eq_true]
  refine ⟨⟨⟨⟨?_, ?_⟩, .inr ?_⟩, decide_eq_true (by rw [List.length_map]; exact h)⟩, ?_⟩
  · rw [List.all_map]; exact List.all_eq_true.mpr fun x _ => rfl
  · rw [List.all_map]
    refine List.all_eq_true.mpr fun x _ => ?_
    show ((l.map s1).all fun y => PySem.W.alike (s1 x).enc y.enc) = true
    rw [List.all_map]
    exact List.all_eq_true.mpr fun y _ => by
      show PySem.W.alike (.str ⟨#[x]⟩) (.str ⟨#[y]⟩) = true
      rw [PySem.W.alike]
  · rw [List.all_map]; exact List.all_eq_true.mpr fun x _ => rfl
  · rw [List.all_map]
    refine List.all_eq_true.mpr fun x _ => ?_
    show decide ((PyData.str ⟨#[x]⟩).depth ≤ 60) = true
    rw [PyData.depth]
    rfl
def kk (c : Nat) : Key × FV := (.inr ⟨#[c]⟩, .bl true)
theorem put_kk (ks : List Nat) (c : Nat) : putKV (ks.map kk) (.inr ⟨#[c]⟩) (.bl true) = (if c ∈ ks then ks else ks ++ [c]).map kk := by
  have inj : ∀ a : Nat, ((kk a).1 = (.inr ⟨#[c]⟩ : Key)) ↔ a = c := fun a => by
    unfold kk
    simp
  have ha : (ks.map kk).any (fun kv => decide (kv.1 = (.inr ⟨#[c]⟩ : Key))) = decide (c ∈ ks) := by
    rw [List.any_map]
    by_cases h : c ∈ ks
    · rw [decide_eq_true h]
      exact List.any_eq_true.mpr ⟨c, h, decide_eq_true ((inj c).mpr rfl)⟩
    · rw [decide_eq_false h]
      refine List.any_eq_false.mpr fun x hx => ?_
      have : ¬ (kk x).1 = (.inr ⟨#[c]⟩ : Key) := fun e => h ((inj x).mp e ▸ hx)
      show ¬ decide ((kk x).1 = (.inr ⟨#[c]⟩ : Key)) = true
      simp [this]
  unfold putKV
  rw [ha]
  by_cases h : c ∈ ks
  · rw [decide_eq_true h, if_pos rfl, if_pos h, List.map_map]
    refine List.map_congr_left fun x _ => ?_
    show (if (kk x).1 = (.inr ⟨#[c]⟩ : Key) then ((kk x).1, FV.bl true) else kk x) = kk x
    split
    · rfl
    · rfl
  · rw [decide_eq_false h, if_neg Bool.false_ne_true, if_neg h, List.map_append]
    rfl
theorem letters_of_ok (ds : List (List Nat)) (hz : ds.length ≤ 1000) (hd : ∀ d ∈ ds, d.length ≤ 1000) : ∃ ks : List Nat, ks.Pairwise (· < ·) ∧ (∀ x, x ∈ ks ↔ ∃ d ∈ ds, x ∈ d) ∧ m_letters_of [.lst (ds.map letF)] = .ok (.ol (ks.map s1)) := by
  let E : List Nat → Option OV → Option OV → VEnv := fun ks p q => [some (.fz (.lst (ds.map letF))), some (.oK (ks.map kk)), p, q]
  obtain ⟨e, w1, ks, p, q, rfl, w2, w3, w4⟩ := dFor_inv (it := dItems (dVar 0)) (t := tName 2) (body := dIce 2 (dFor (dItems (dVar 2)) (tName 3) (dPut 1 (dVar 3) (dC (.bl true))))) (env := E [] none none) (items := ds.map letF)
    (I := fun i env => ∃ ks p q, env = E ks p q ∧ ks.Nodup ∧ ks.length ≤ 1000 * i ∧ ∀ x, x ∈ ks ↔ ∃ d ∈ ds.take i, x ∈ d) (ev_items (.inr (.inl (ev_varF rfl)))) ⟨[], none, none, rfl, List.nodup_nil, Nat.zero_le _, by simp⟩ (fun i y env hy ⟨ks, p, q, he, h1, h2, h3⟩ => by
      subst he
      have hi : i < ds.length := by have := (List.getElem?_eq_some_iff.mp hy).1; rwa [List.length_map] at this
      have ey : y = letF ds[i] := by
        rw [List.getElem?_map, List.getElem?_eq_getElem hi] at hy
        exact (Option.some.inj hy).symm
      subst ey
      have hdi : ds[i].length ≤ 1000 := hd _ (List.getElem_mem hi)
      obtain ⟨e, u1, ls, q2, rfl, u2, u3, u4⟩ := dFor_inv (it := dItems (dVar 2)) (t := tName 3) (body := dPut 1 (dVar 3) (dC (.bl true))) (env := E ks (some (.fz (letF ds[i]))) q) (items := ds[i].map s1)
        (I := fun j env => ∃ ls q, env = E ls (some (.fz (letF ds[i]))) q ∧ ls.Nodup ∧ ls.length ≤ 1000 * i + j ∧ ∀ x, x ∈ ls ↔ x ∈ ks ∨ x ∈ ds[i].take j) (ev_items (.inr (.inr (ev_varF rfl)))) ⟨ks, q, rfl, h1, h2, by simp⟩ (fun j y env hy ⟨ls, q, he, k1, k2, k3⟩ => by
          subst he
          have hj : j < ds[i].length := by have := (List.getElem?_eq_some_iff.mp hy).1; rwa [List.length_map] at this
          have ey : y = s1 ds[i][j] := by
            rw [List.getElem?_map, List.getElem?_eq_getElem hj] at hy
            exact (Option.some.inj hy).symm
          subst ey
          refine ⟨E ls (some (.fz (letF ds[i]))) (some (.fz (s1 ds[i][j]))), E (if ds[i][j] ∈ ls then ls else ls ++ [ds[i][j]]) (some (.fz (letF ds[i]))) (some (.fz (s1 ds[i][j]))), rfl, .inl ?_, _, _, rfl, ?_, ?_, ?_⟩
          · have := ev_put (env := E ls (some (.fz (letF ds[i]))) (some (.fz (s1 ds[i][j])))) (i := 1) (fk := dVar 3) (fe := dC (.bl true)) (p := .oK (ls.map kk)) (o := .fz (.bl true)) (p' := .oK ((if ds[i][j] ∈ ls then ls else ls ++ [ds[i][j]]).map kk)) (r := .st (.fz (s1 ds[i][j]))) rfl rfl ev_c (ev_varF rfl)
              (by show (ls.map kk).length < 16777216; rw [List.length_map]; omega) (by
                show some (OV.oK (putKV (ls.map kk) (.inr ⟨#[ds[i][j]]⟩) (.bl true))) = _
                rw [put_kk])
            rw [this]
            rfl
          · split
            · exact k1
            · rename_i hn
              rw [List.nodup_append]
              exact ⟨k1, by simp, fun a ha b hb e => hn (by rw [List.mem_singleton] at hb; rw [← hb, ← e]; exact ha)⟩
          · split
            · omega
            · rw [List.length_append, List.length_singleton]; omega
          · intro x
            rw [List.take_add_one, List.getElem?_eq_getElem hj, Option.toList_some, List.mem_append, List.mem_singleton]
            split
            · rename_i hm
              rw [k3 x]
              constructor
              · rintro (h | h)
                · exact .inl h
                · exact .inr (.inl h)
              · rintro (h | h | h)
                · exact .inl h
                · exact .inr h
                · rw [h]; exact (k3 _).mp hm
            · rw [List.mem_append, List.mem_singleton, k3 x]
              constructor
              · rintro ((h | h) | h)
                · exact .inl h
                · exact .inr (.inl h)
                · exact .inr (.inr h)
              · rintro (h | h | h)
                · exact .inl (.inl h)
                · exact .inl (.inr h)
                · exact .inr h)
      rw [List.length_map] at u3 u4
      refine ⟨E ks (some (.fz (letF ds[i]))) q, _, rfl, .inl (ev_ice' rfl u1), ls, _, q2, rfl, u2, by omega, fun x => ?_⟩
      rw [u4 x, h3 x, List.take_add_one, List.getElem?_eq_getElem hi, Option.toList_some, List.take_of_length_le (Nat.le_refl _)]
      constructor
      · rintro (⟨d, h, h'⟩ | h)
        · exact ⟨d, List.mem_append_left _ h, h'⟩
        · exact ⟨ds[i], List.mem_append_right _ (List.mem_singleton.mpr rfl), h⟩
      · rintro ⟨d, h, h'⟩
        rcases List.mem_append.mp h with h | h
        · exact .inl ⟨d, h, h'⟩
        · rw [List.mem_singleton.mp h] at h'
          exact .inr h')
  rw [List.length_map] at w3 w4
  refine ⟨sortN ks, sortN_lt w2, fun x => by rw [sortN_mem, w4 x, List.take_of_length_le (Nat.le_refl _)], ?_⟩
  unfold m_letters_of D_letters_of
  apply ev_run
  apply ev_seqN
  · exact ev_set (o := .oK []) rfl
  apply ev_seqN
  · exact ev_ice' rfl w1
  apply ev_ret
  have hs := sortOk_s1 ks (by show ks.length ≤ 16777216; omega)
  have ek : (ks.map kk).map (fun kv => keyF kv.1) = ks.map s1 := by rw [List.map_map]; rfl
  show (if sortOk ((ks.map kk).map fun kv => keyF kv.1) then Ans.ok (Rv.st (.ol (sortFV ((ks.map kk).map fun kv => keyF kv.1)))) else .no) = _
  rw [ek, if_pos hs, sort_s1]
theorem pl_s1 {x : Nat} (h : x < 1000) : (s1 x).pl = true := by
  show PyData.strOk ⟨#[x]⟩ = true
  unfold PyData.strOk
  simp
  omega
theorem plL_s1 : ∀ {d : List Nat}, (∀ x ∈ d, x < 1000) → FV.plL (d.map s1) = true
  | [], _ => rfl
  | x :: d, h => by
    rw [List.map_cons, FV.plL, pl_s1 (h x List.mem_cons_self), plL_s1 fun y hy => h y (List.mem_cons_of_mem _ hy)]
    rfl
theorem depL_s1 : ∀ d : List Nat, FV.depL (d.map s1) = 0
  | [] => rfl
  | x :: d => by rw [List.map_cons, FV.depL, depL_s1 d]; rfl
theorem pl_letF {d : List Nat} (h : ∀ x ∈ d, x < 1000) : (letF d).pl = true := by
  show FV.plL (d.map s1) = true
  exact plL_s1 h
theorem dep_letF (d : List Nat) : (letF d).dep = 1 := by
  show FV.depL (d.map s1) + 1 = 1
  rw [depL_s1]
theorem plL_of {α : Type} {f : α → FV} : ∀ {l : List α}, (∀ x ∈ l, (f x).pl = true) → FV.plL (l.map f) = true
  | [], _ => rfl
  | x :: l, h => by
    rw [List.map_cons, FV.plL, h x List.mem_cons_self, plL_of fun y hy => h y (List.mem_cons_of_mem _ hy)]
    rfl
theorem depL_of {α : Type} {f : α → FV} {n : Nat} : ∀ {l : List α}, (∀ x ∈ l, (f x).dep ≤ n) → FV.depL (l.map f) ≤ n
  | [], _ => Nat.zero_le _
  | x :: l, h => by
    rw [List.map_cons, FV.depL]
    exact Nat.max_le.mpr ⟨h x List.mem_cons_self, depL_of fun y hy => h y (List.mem_cons_of_mem _ hy)⟩
theorem plL_all {xs : List FV} (h : ∀ x ∈ xs, x.pl = true) : FV.plL xs = true := by
  have := plL_of (f := id) (l := xs) h
  rwa [List.map_id] at this
theorem depL_all {xs : List FV} {n : Nat} (h : ∀ x ∈ xs, x.dep ≤ n) : FV.depL xs ≤ n := by
  have := depL_of (f := id) (l := xs) h
  rwa [List.map_id] at this
theorem in_s1 (x : Nat) (d : List Nat) : opIn false (.fz (s1 x)) (.fz (letF d)) = some (.fz (.bl (decide (x ∈ d)))) := by
  have e : ∀ d : List Nat, FV.toDL (d.map s1) = some (d.map fun n => PyData.str ⟨#[n]⟩) := by
    intro d
    induction d with
    | nil => rfl
    | cons n d ih => rw [List.map_cons, FV.toDL, ih]; rfl
  have ha : (d.map s1).all FV.atom = true := by rw [List.all_map]; exact List.all_eq_true.mpr fun _ _ => rfl
  show (if ((s1 x).atom && (d.map s1).all FV.atom) = true then (match (s1 x).toD, FV.toDL (d.map s1) with
    | some d, some ds => some (ds.any fun z => PyData.eqv z d)
    | _, _ => none) else none).map (fun b => OV.fz (.bl (false != b))) = _
  rw [ha, e]
  show some (OV.fz (.bl (false != ((d.map fun n => PyData.str ⟨#[n]⟩).any fun z => PyData.eqv z (.str ⟨#[x]⟩))))) = _
  congr 3
  rw [List.any_map]
  by_cases h : x ∈ d
  · rw [decide_eq_true h]
    have : (d.any ((fun z => PyData.eqv z (.str ⟨#[x]⟩)) ∘ fun n => PyData.str ⟨#[n]⟩)) = true := List.any_eq_true.mpr ⟨x, h, by show PyData.eqv (.str ⟨#[x]⟩) (.str ⟨#[x]⟩) = true; rw [PyData.eqv]; simp⟩
    rw [this]
    rfl
  · rw [decide_eq_false h]
    have : (d.any ((fun z => PyData.eqv z (.str ⟨#[x]⟩)) ∘ fun n => PyData.str ⟨#[n]⟩)) = false := List.any_eq_false.mpr fun n hn => by
      show ¬ PyData.eqv (.str ⟨#[n]⟩) (.str ⟨#[x]⟩) = true
      rw [PyData.eqv]
      simp
      rintro rfl
      exact h hn
    rw [this]
    rfl
theorem s1_inj {a b : Nat} (h : s1 a = s1 b) : a = b := by
  unfold s1 at h
  simpa using h
theorem letF_inj {a b : List Nat} (h : letF a = letF b) : a = b := by
  unfold letF at h
  injection h with h
  exact (List.map_inj_right (fun _ _ => s1_inj)).mp h
theorem rle_total (a b : List Int) : a ≤ b ∨ b ≤ a := List.le_total a b
theorem rle_trans {a b c : List Int} (h : a ≤ b) (h2 : b ≤ c) : a ≤ c := List.le_trans h h2
theorem rle_antisymm {a b : List Int} (h : a ≤ b) (h2 : b ≤ a) : a = b := List.le_antisymm h h2
theorem rlt_irrefl (a : List Int) : ¬ a < a := List.lt_irrefl a
theorem rlt_trans {a b c : List Int} (h : a < b) (h2 : b < c) : a < c := List.lt_trans h h2
theorem rlt_of_le {a b : List Int} (h : a ≤ b) (n : a ≠ b) : a < b := by
  rcases List.le_iff_lt_or_eq.mp h with h | h
  · exact h
  · exact absurd h n
theorem rcons_lt {a b : Int} {l m : List Int} : (a :: l) < (b :: m) ↔ a < b ∨ a = b ∧ l < m := List.cons_lt_cons_iff
theorem rapp_lt {a b : List Int} {x y : Int} (hl : a.length = b.length) : (a ++ [x]) < (b ++ [y]) ↔ a < b ∨ a = b ∧ x < y := by
  induction a generalizing b with
  | nil =>
    cases b with
    | nil => simp [rcons_lt]
    | cons c b => simp at hl
  | cons c a ih =>
    cases b with
    | nil => simp at hl
    | cons d b =>
      rw [List.cons_append, List.cons_append, rcons_lt, rcons_lt, ih (by simpa using hl)]
      constructor
      · rintro (h | ⟨h, h2 | ⟨h2, h3⟩⟩)
        · exact .inl (.inl h)
        · exact .inl (.inr ⟨h, h2⟩)
        · exact .inr ⟨by rw [h, h2], h3⟩
      · rintro ((h | ⟨h, h2⟩) | ⟨h, h2⟩)
        · exact .inl h
        · exact .inr ⟨h, .inl h2⟩
        · injection h with h1 h3
          exact .inr ⟨h1, .inr ⟨h3, h2⟩⟩
theorem e_pow {i j : Int} (h : 0 ≤ j ∧ j ≤ 1000 ∧ i.natAbs < 2 ^ 60) : opPow (.fz (.int i)) (.fz (.int j)) = some (.fz (.int (i ^ j.toNat))) := if_pos h
theorem atI_abcU (i : Int) (h0 : 0 ≤ i) (h1 : i < 26) : atI abcU.cps.toList i = some (65 + i.toNat) := by
  have e : i = (i.toNat : Int) := by omega
  rw [e, atU _ (by omega), Int.toNat_natCast]
theorem letters2_ok (c : Int) : ∃ cs : List Nat, 2 ≤ cs.length ∧ cs.length ≤ 6 ∧ cs.Nodup ∧ (∀ x ∈ cs, 65 ≤ x ∧ x < 91) ∧ m__law_letters [.int c] = .ok (.ol (cs.map s1)) := by
  obtain ⟨e1, g1⟩ := mix_eq c 1 (by decide) (by decide)
  obtain ⟨e2, g2⟩ := mix_eq c 2 (by decide) (by decide)
  obtain ⟨e3, g3⟩ := mix_eq c 3 (by decide) (by decide)
  generalize mx c 1 = a at e1 g1
  generalize mx c 2 = b at e2 g2
  obtain ⟨n, hn2, hn6, en⟩ : ∃ n : Nat, 2 ≤ n ∧ n ≤ 6 ∧ 2 + mx c 3 % 5 = (n : Int) := ⟨(2 + mx c 3 % 5).toNat, by omega, by omega, by omega⟩
  obtain ⟨s, hs, es⟩ : ∃ s : Nat, s < 26 ∧ a % 26 = (s : Int) := ⟨(a % 26).toNat, by omega, by omega⟩
  obtain ⟨u, hu, eu⟩ : ∃ u : Nat, u < 6 ∧ b % 6 = (u : Int) := ⟨(b % 6).toNat, by omega, by omega⟩
  obtain ⟨t, ht, hu2⟩ : ∃ t : Nat, t ∈ [1, 3, 5, 7, 9, 11] ∧ atI [FV.int 1, .int 3, .int 5, .int 7, .int 9, .int 11] (u : Int) = some (.int (t : Nat)) := by
    have : u = 0 ∨ u = 1 ∨ u = 2 ∨ u = 3 ∨ u = 4 ∨ u = 5 := by omega
    rcases this with rfl | rfl | rfl | rfl | rfl | rfl
    · exact ⟨1, by decide, rfl⟩
    · exact ⟨3, by decide, rfl⟩
    · exact ⟨5, by decide, rfl⟩
    · exact ⟨7, by decide, rfl⟩
    · exact ⟨9, by decide, rfl⟩
    · exact ⟨11, by decide, rfl⟩
  have hnd : ((List.range n).map fun k => 65 + (s + t * k) % 26).Nodup := by
    refine List.Nodup.sublist ?_ (nodup_codes s hs t ht)
    refine List.Sublist.map _ ?_
    have : List.range n = (List.range 6).take n := by rw [List.take_range, Nat.min_eq_left hn6]
    rw [this]
    exact List.take_sublist _ _
  refine ⟨(List.range n).map fun k => 65 + (s + t * k) % 26, by simpa using hn2, by simpa using hn6, hnd, fun x hx => ?_, ?_⟩
  · obtain ⟨k, _, rfl⟩ := List.mem_map.mp hx
    omega
  · have hr : dRange (dBin opAdd (dC (.int 2)) (dBin opMod (dCall m__law_mix (dCons (dVar 0) (dCons (dC (.int 3)) dNil))) (dC (.int 5)))) [some (.fz (.int c)), some (.fz (.str abcU)), some (.fz (.int (s : Nat))), some (.fz (.int (t : Nat))), none] = .ok ((List.range n).map fun i => .int (i : Nat)) := by
      apply ev_range (n := n)
      · apply ev_bin (o := .fz (.int (n : Nat)))
        · exact ev_c
        · apply ev_bin
          · apply ev_call
            · repeat' (first | exact ev_c | exact ev_skip | exact ev_varF rfl | exact ev_varL rfl | exact ev_varK rfl | exact ev_nil | exact e_add | exact e_sub | exact e_eq | exact e_ne | exact e_mod (by first | decide | omega) | exact e_mul (mulL (by first | decide | omega)) | exact e_mul (mulR (by first | decide | omega)) | apply ev_bin | apply ev_set | apply ev_ret | apply ev_seqN | apply ev_cons | apply ev_frz)
            · exact e3
            · exact .inl rfl
          · exact ev_c
          · exact e_mod (by decide)
        · rw [← en]; rfl
      · rfl
      · omega
    have hLc := dLc_all (t := tName 4) (e := dFrz (dSub (dVar 1) (dBin opMod (dBin opAdd (dVar 2) (dBin opMul (dVar 3) (dVar 4))) (dC (.int 26))))) (vs := [4])
      (g := fun x => match x with | .int k => s1 (65 + (s + t * k.toNat) % 26) | _ => .non) hr (fun x hx => ?_) (by rw [List.length_map, List.length_range]; exact Nat.le_trans hn6 (by decide)) (.inl rfl)
    · have hg : ((List.range n).map fun i : Nat => FV.int (i : Nat)).map (fun x => match x with | .int k => s1 (65 + (s + t * k.toNat) % 26) | _ => .non) = ((List.range n).map fun k => 65 + (s + t * k) % 26).map s1 := by
        rw [List.map_map, List.map_map]
        exact List.map_congr_left fun k _ => by simp
      rw [hg] at hLc
      unfold m__law_letters D__law_letters
      apply ev_run
      apply ev_seqN
      · exact ev_set ev_c
      apply ev_seqN
      · apply ev_set (o := .fz (.int (s : Nat)))
        apply ev_bin
        · apply ev_call
          · repeat' (first | exact ev_c | exact ev_skip | exact ev_varF rfl | exact ev_varL rfl | exact ev_varK rfl | exact ev_nil | exact e_add | exact e_sub | exact e_eq | exact e_ne | exact e_mod (by first | decide | omega) | exact e_mul (mulL (by first | decide | omega)) | exact e_mul (mulR (by first | decide | omega)) | apply ev_bin | apply ev_set | apply ev_ret | apply ev_seqN | apply ev_cons | apply ev_frz)
          · exact e1
          · exact .inl rfl
        · exact ev_c
        · rw [← es]; exact e_mod (by decide)
      apply ev_seqN
      · apply ev_set (o := .fz (.int (t : Nat)))
        apply ev_sub
        · apply ev_list
          · repeat' (first | exact ev_c | exact ev_skip | exact ev_varF rfl | exact ev_varL rfl | exact ev_varK rfl | exact ev_nil | exact e_add | exact e_sub | exact e_eq | exact e_ne | exact e_mod (by first | decide | omega) | exact e_mul (mulL (by first | decide | omega)) | exact e_mul (mulR (by first | decide | omega)) | apply ev_bin | apply ev_set | apply ev_ret | apply ev_seqN | apply ev_cons | apply ev_frz)
          · decide
          · rfl
        · apply ev_bin (o := .fz (.int (u : Nat)))
          · apply ev_call
            · repeat' (first | exact ev_c | exact ev_skip | exact ev_varF rfl | exact ev_varL rfl | exact ev_varK rfl | exact ev_nil | exact e_add | exact e_sub | exact e_eq | exact e_ne | exact e_mod (by first | decide | omega) | exact e_mul (mulL (by first | decide | omega)) | exact e_mul (mulR (by first | decide | omega)) | apply ev_bin | apply ev_set | apply ev_ret | apply ev_seqN | apply ev_cons | apply ev_frz)
            · exact e2
            · exact .inl rfl
          · exact ev_c
          · rw [← eu]; exact e_mod (by decide)
        · rfl
        · show (atI [FV.int 1, .int 3, .int 5, .int 7, .int 9, .int 11] (u : Int)).map (fun v => Rv.st (.fz v)) = some (.st (.fz (.int (t : Nat))))
          rw [hu2]
          rfl
      apply ev_ice'
      · rfl
      apply ev_ice'
      · rfl
      apply ev_ice'
      · rfl
      exact ev_ret hLc
    · obtain ⟨k, hk, rfl⟩ := List.mem_map.mp hx
      refine ⟨_, rfl, ?_⟩
      apply ev_frz (o := .fz (s1 (65 + (s + t * k) % 26)))
      apply ev_sub
      · exact ev_varF rfl
      · apply ev_bin
        · apply ev_bin
          · exact ev_varF rfl
          · apply ev_bin
            · exact ev_varF rfl
            · exact ev_varF rfl
            · exact e_mul (mulL (by have : t ≤ 11 := by { simp at ht; omega }; omega))
          · exact e_add
        · exact ev_c
        · exact e_mod (by decide)
      · rfl
      · show (if abcU.length ≤ BIG then (atI abcU.cps.toList (((s : Int) + (t : Int) * (k : Nat)) % 26)).map fun c => Rv.st (.fz (.str ⟨#[c]⟩)) else none) = some (.st (.fz (s1 (65 + (s + t * k) % 26))))
        rw [if_pos lenU]
        have e : ((s : Int) + (t : Int) * (k : Nat)) % 26 = (((s + t * k) % 26 : Nat) : Int) := by simp
        rw [e, atU _ (Nat.mod_lt _ (by decide))]
        rfl
theorem numbers_ok (c : Int) : ∃ ns : List Int, 2 ≤ ns.length ∧ ns.length ≤ 3 ∧ m__law_numbers [.int c] = .ok (.fz (.lst (ns.map .int))) := by
  obtain ⟨e40, g40⟩ := mix_eq c 40 (by decide) (by decide)
  obtain ⟨u, hu, eu⟩ : ∃ u : Nat, u < 3 ∧ mx c 40 % 3 = (u : Int) := ⟨(mx c 40 % 3).toNat, by omega, by omega⟩
  generalize hf : c % (10 ^ (60 : Int).toNat - 1) = f
  obtain ⟨ns, h2, h3, hat⟩ : ∃ ns : List Int, 2 ≤ ns.length ∧ ns.length ≤ 3 ∧ atI [FV.lst [.int f, .int 0], .lst [.int f, .int (-f), .int (f + 1)], .lst [.int 0, .int (-f), .int 1]] (u : Int) = some (.lst (ns.map .int)) := by
    have : u = 0 ∨ u = 1 ∨ u = 2 := by omega
    rcases this with rfl | rfl | rfl
    · exact ⟨[f, 0], Nat.le_of_ble_eq_true rfl, Nat.le_of_ble_eq_true rfl, rfl⟩
    · exact ⟨[f, -f, f + 1], Nat.le_of_ble_eq_true rfl, Nat.le_of_ble_eq_true rfl, rfl⟩
    · exact ⟨[0, -f, 1], Nat.le_of_ble_eq_true rfl, Nat.le_of_ble_eq_true rfl, rfl⟩
  refine ⟨ns, h2, h3, ?_⟩
  have hneg : ∀ env : VEnv, env[1]? = some (some (.fz (.int f))) → dUn opNeg (dVar 1) env = .ok (.st (.fz (.int (-f)))) := fun env h => ev_un (ev_varF h) rfl
  unfold m__law_numbers D__law_numbers
  apply ev_run
  apply ev_seqN
  · apply ev_set (o := .fz (.int f))
    apply ev_bin
    · exact ev_varF rfl
    · apply ev_bin
      · apply ev_bin
        · exact ev_c
        · exact ev_c
        · exact e_pow (by decide)
      · exact ev_c
      · exact e_sub
    · rw [← hf]; exact e_mod (by decide)
  · apply ev_ret
    apply ev_sub
    · apply ev_list (xs := [FV.lst [.int f, .int 0], .lst [.int f, .int (-f), .int (f + 1)], .lst [.int 0, .int (-f), .int 1]])
      · apply ev_cons
        · apply ev_frz
          apply ev_list
          · repeat' (first | exact ev_c | exact ev_skip | exact ev_varF rfl | exact ev_varL rfl | exact ev_varK rfl | exact ev_nil | exact e_add | exact e_sub | exact e_eq | exact e_ne | exact e_mod (by first | decide | omega) | exact e_mul (mulL (by first | decide | omega)) | exact e_mul (mulR (by first | decide | omega)) | apply ev_bin | apply ev_set | apply ev_ret | apply ev_seqN | apply ev_cons | apply ev_frz)
          · exact Nat.le_of_ble_eq_true rfl
          · rfl
        · apply ev_cons
          · apply ev_frz
            apply ev_list
            · apply ev_cons
              · exact ev_varF rfl
              · apply ev_cons
                · exact ev_frz (hneg _ rfl)
                · repeat' (first | exact ev_c | exact ev_skip | exact ev_varF rfl | exact ev_varL rfl | exact ev_varK rfl | exact ev_nil | exact e_add | exact e_sub | exact e_eq | exact e_ne | exact e_mod (by first | decide | omega) | exact e_mul (mulL (by first | decide | omega)) | exact e_mul (mulR (by first | decide | omega)) | apply ev_bin | apply ev_set | apply ev_ret | apply ev_seqN | apply ev_cons | apply ev_frz)
            · exact Nat.le_of_ble_eq_true rfl
            · rfl
          · apply ev_cons
            · apply ev_frz
              apply ev_list
              · apply ev_cons
                · exact ev_c
                · apply ev_cons
                  · exact ev_frz (hneg _ rfl)
                  · repeat' (first | exact ev_c | exact ev_skip | exact ev_varF rfl | exact ev_varL rfl | exact ev_varK rfl | exact ev_nil | exact e_add | exact e_sub | exact e_eq | exact e_ne | exact e_mod (by first | decide | omega) | exact e_mul (mulL (by first | decide | omega)) | exact e_mul (mulR (by first | decide | omega)) | apply ev_bin | apply ev_set | apply ev_ret | apply ev_seqN | apply ev_cons | apply ev_frz)
              · exact Nat.le_of_ble_eq_true rfl
              · rfl
            · exact ev_nil
      · exact Nat.le_of_ble_eq_true rfl
      · rfl
    · apply ev_bin (o := .fz (.int (u : Nat)))
      · apply ev_call
        · repeat' (first | exact ev_c | exact ev_skip | exact ev_varF rfl | exact ev_varL rfl | exact ev_varK rfl | exact ev_nil | exact e_add | exact e_sub | exact e_eq | exact e_ne | exact e_mod (by first | decide | omega) | exact e_mul (mulL (by first | decide | omega)) | exact e_mul (mulR (by first | decide | omega)) | apply ev_bin | apply ev_set | apply ev_ret | apply ev_seqN | apply ev_cons | apply ev_frz)
        · exact e40
        · exact .inl rfl
      · exact ev_c
      · rw [← eu]; exact e_mod (by decide)
    · rfl
    · show (atI [FV.lst [.int f, .int 0], .lst [.int f, .int (-f), .int (f + 1)], .lst [.int 0, .int (-f), .int 1]] (u : Int)).map (fun v => Rv.st (.fz v)) = _
      rw [hat]
      rfl
theorem erase_perm {α : Type} : ∀ {l : List α} {m : Nat} (h : m < l.length), (l[m] :: l.eraseIdx m).Perm l
  | a :: l, 0, _ => List.Perm.refl _
  | a :: l, m + 1, h => by
    have hm : m < l.length := by simpa using h
    have ih := erase_perm (l := l) (m := m) hm
    show (l[m] :: a :: l.eraseIdx m).Perm (a :: l)
    exact (List.Perm.swap _ _ _).trans (ih.cons a)
/-! rows -/
def rowF (r : List Int) : FV := .tup (r.map .int)
theorem toDL_ints : ∀ r : List Int, FV.toDL (r.map .int) = some (r.map PyData.int)
  | [] => rfl
  | n :: r => by rw [List.map_cons, FV.toDL, toDL_ints r]; rfl
theorem enc_row (r : List Int) : (rowF r).enc = .tuple (r.map .int) := by
  show ((FV.toDL (r.map .int)).map PyData.tuple).getD .none = _
  rw [toDL_ints]
  rfl
theorem toD_row (r : List Int) : (rowF r).toD = some (.tuple (r.map .int)) := by
  show (FV.toDL (r.map .int)).map PyData.tuple = _
  rw [toDL_ints]
  rfl
theorem le_row (a b : List Int) : PySem.W.dataLe false FV.enc (rowF a) (rowF b) = decide (a ≤ b) := by
  have h := congrFun (congrFun (PySem.W.dataLe_rows (x := fun r : List Int => r)) a) b
  rw [← h]
  rw [PySem.W.dataLe_eq, PySem.W.dataLe_eq]
  show (!PySem.W.dataLt (rowF b).enc (rowF a).enc) = (!PySem.W.dataLt (.list (b.map .int)) (.list (a.map .int)))
  rw [enc_row, enc_row, PySem.W.dataLt_list, PySem.W.dataLt_tuple]
def sortR (l : List (List Int)) : List (List Int) := l.mergeSort (fun a b => decide (a ≤ b))
theorem sort_row (l : List (List Int)) : sortFV (l.map rowF) = (sortR l).map rowF := by
  unfold sortFV sortR
  exact (List.map_mergeSort fun a _ b _ => (le_row a b).symm).symm
theorem sortR_mem {l : List (List Int)} {x : List Int} : x ∈ sortR l ↔ x ∈ l := (List.mergeSort_perm l _).mem_iff
theorem sortR_len (l : List (List Int)) : (sortR l).length = l.length := List.length_mergeSort _
theorem sortR_lt {l : List (List Int)} (h : l.Nodup) : (sortR l).Pairwise (· < ·) := by
  have h1 : (sortR l).Pairwise (fun a b => decide (a ≤ b) = true) := List.pairwise_mergeSort (le := fun a b : List Int => decide (a ≤ b)) (fun a b c h1 h2 => decide_eq_true (rle_trans (of_decide_eq_true h1) (of_decide_eq_true h2))) (fun a b => by
    rcases rle_total a b with h | h
    · rw [decide_eq_true h]; rfl
    · rw [decide_eq_true h, Bool.or_true]) l
  have h2 : (sortR l).Nodup := (List.mergeSort_perm l _).nodup_iff.mpr h
  exact (h1.and h2).imp fun {a b} h => rlt_of_le (of_decide_eq_true h.1) h.2
theorem strictR_eq : ∀ {a b : List (List Int)}, a.Pairwise (· < ·) → b.Pairwise (· < ·) → (∀ x, x ∈ a ↔ x ∈ b) → a = b
  | [], [], _, _, _ => rfl
  | [], y :: b, _, _, h => absurd ((h y).mpr List.mem_cons_self) (by simp)
  | x :: a, [], _, _, h => absurd ((h x).mp List.mem_cons_self) (by simp)
  | x :: a, y :: b, ha, hb, h => by
    rw [List.pairwise_cons] at ha hb
    have e : x = y := by
      rcases List.mem_cons.mp ((h x).mp List.mem_cons_self) with e | h1
      · exact e
      · rcases List.mem_cons.mp ((h y).mpr List.mem_cons_self) with e | h2
        · exact e.symm
        · exact absurd (rlt_trans (ha.1 y h2) (hb.1 x h1)) (rlt_irrefl x)
    subst e
    rw [strictR_eq ha.2 hb.2 fun z => ?_]
    constructor
    · intro hz
      rcases List.mem_cons.mp ((h z).mp (List.mem_cons_of_mem _ hz)) with e | h1
      · exact absurd (e ▸ ha.1 z hz) (rlt_irrefl _)
      · exact h1
    · intro hz
      rcases List.mem_cons.mp ((h z).mpr (List.mem_cons_of_mem _ hz)) with e | h1
      · exact absurd (e ▸ hb.1 z hz) (rlt_irrefl _)
      · exact h1
theorem alike_row (a b : List Int) : PySem.W.alike (rowF a).enc (rowF b).enc = true := by
  rw [enc_row, enc_row, PySem.W.alike]
  exact PySem.W.alike_ints a b
theorem sortOk_row (l : List (List Int)) (h : l.length ≤ BIG) (hne : ∀ r ∈ l, r ≠ []) : sortOk (l.map rowF) = true := by
  unfold sortOk
  simp only [Bool.and_eq_true, Bool.or_eq_true]
  refine ⟨⟨⟨⟨?_, ?_⟩, .inl ?_⟩, decide_eq_true (by rw [List.length_map]; exact h)⟩, ?_⟩
  · rw [List.all_map]
    refine List.all_eq_true.mpr fun x _ => ?_
    show (rowF x).toD.isSome = true
    rw [toD_row]
    rfl
  · rw [List.all_map]
    refine List.all_eq_true.mpr fun x _ => ?_
    show ((l.map rowF).all fun y => PySem.W.alike (rowF x).enc y.enc) = true
    rw [List.all_map]
    exact List.all_eq_true.mpr fun y _ => alike_row x y
  · rw [List.all_map]
    refine List.all_eq_true.mpr fun x hx => ?_
    show tupD (rowF x).enc = true
    rw [enc_row]
    cases x with
    | nil => exact absurd rfl (hne _ hx)
    | cons n x => rfl
  · rw [List.all_map]
    refine List.all_eq_true.mpr fun x _ => ?_
    show decide ((rowF x).enc.depth ≤ 60) = true
    rw [enc_row, PyData.depth, PySem.W.depth_ints]
    rfl
theorem plL_ints (r : List Int) : FV.plL (r.map .int) = true := plL_of fun _ _ => rfl
theorem depL_ints : ∀ r : List Int, FV.depL (r.map .int) = 0
  | [] => rfl
  | n :: r => by rw [List.map_cons, FV.depL, depL_ints r]; rfl
theorem pl_row (r : List Int) : (rowF r).pl = true := plL_ints r
theorem dep_row (r : List Int) : (rowF r).dep = 1 := by
  show FV.depL (r.map .int) + 1 = 1
  rw [depL_ints]
theorem row_inj {a b : List Int} (h : rowF a = rowF b) : a = b := by
  unfold rowF at h
  injection h with h
  exact (List.map_inj_right (fun _ _ h => by injection h)).mp h
theorem toDL_rows : ∀ rs : List (List Int), FV.toDL (rs.map rowF) = some (rs.map fun r => PyData.tuple (r.map .int))
  | [] => rfl
  | a :: rs => by rw [List.map_cons, FV.toDL, toD_row, toDL_rows rs]; rfl
/-- a row in, not in a list of rows -/
theorem in_rows {x : OV} (r : List Int) (rs : List (List Int)) (hx : x.fv = .lst (rs.map rowF)) (hd : x.isD = false) (neg : Bool) : opIn neg (.fz (rowF r)) x = some (.fz (.bl (neg != decide (r ∈ rs)))) := by
  unfold opIn
  rw [hd, hx]
  show (inSeq (rowF r) (.lst (rs.map rowF))).map (fun b => OV.fz (.bl (neg != b))) = _
  have hp : FV.pl (.lst (rs.map rowF)) = true := by rw [FV.pl]; exact plL_of fun r _ => pl_row r
  have hdd : FV.dep (.lst (rs.map rowF)) ≤ 2 := by
    rw [FV.dep]
    have : FV.depL (rs.map rowF) ≤ 1 := depL_of fun r _ => by rw [dep_row]; exact Nat.le_refl _
    omega
  obtain ⟨d, e1, c1, d1⟩ := FV.pl_toD (pl_row r)
  obtain ⟨dl, e2, c2, d2⟩ := FV.pl_toD hp
  have e3 : dl = .list (rs.map fun r => PyData.tuple (r.map .int)) := by
    have : (FV.toDL (rs.map rowF)).map PyData.list = some dl := e2
    rw [toDL_rows] at this
    exact (Option.some.inj this).symm
  have s1 : SeqAt.shaped d = true := by unfold SeqAt.shaped; rw [c1, d1, dep_row]; rfl
  have s2 : SeqAt.shaped dl = true := by unfold SeqAt.shaped; rw [c2, d2]; exact decide_eq_true (by omega)
  have e4 : d = .tuple (r.map .int) := Option.some.inj (e1.symm.trans (toD_row r))
  subst e4
  have : inSeq (rowF r) (.lst (rs.map rowF)) = some (decide (r ∈ rs)) := by
    show (match (rowF r).toD, FV.toDL (rs.map rowF) with
      | some d, some ds => if SeqAt.shaped d && SeqAt.shaped (.list ds) then some (ds.any fun z => PyData.eqv z d) else none
      | _, _ => none) = _
    rw [toD_row, toDL_rows]
    simp only
    rw [← e3, s1, s2, Bool.and_self, if_pos rfl]
    congr 1
    rw [List.any_map]
    by_cases h : r ∈ rs
    · rw [decide_eq_true h]
      refine List.any_eq_true.mpr ⟨r, h, ?_⟩
      exact (FV.pl_eqv (pl_row r) (pl_row r) (toD_row r) (toD_row r)).mpr rfl
    · rw [decide_eq_false h]
      refine List.any_eq_false.mpr fun a ha e => ?_
      have := (FV.pl_eqv (pl_row a) (pl_row r) (toD_row a) (toD_row r)).mp e
      exact h (row_inj this ▸ ha)
  rw [this]
  rfl
theorem shape_spec (c : Int) : ∃ (cs : List Nat) (ds : List (List Nat)), cs.length ≤ 6 ∧ cs.Nodup ∧ (∀ x ∈ cs, x < 91) ∧ 1 ≤ ds.length ∧ ds.length ≤ 6 ∧ (∀ d ∈ ds, d.Nodup ∧ 1 ≤ d.length ∧ d.length ≤ 4 ∧ ∀ x ∈ d, x ∈ cs) ∧ m__law_shape [.int c] = .ok (.ol (ds.map letF)) := by
  obtain ⟨e4, g4⟩ := mix_eq c 4 (by decide) (by decide)
  obtain ⟨cs, q1, q2, q3, q4, q5⟩ := letters2_ok c
  obtain ⟨n, hn1, hn6, en⟩ : ∃ n : Nat, 1 ≤ n ∧ n ≤ 6 ∧ 1 + mx c 4 % 6 = (n : Int) := ⟨(1 + mx c 4 % 6).toNat, by omega, by omega, by omega⟩
  let E : List (List Nat) → Option OV → Option OV → Option OV → Option OV → VEnv := fun ds x3 x4 x5 x6 => [some (.fz (.int c)), some (.fz (.lst (cs.map s1))), some (.ol (ds.map letF)), x3, x4, x5, x6]
  have hr : dRange (dBin opAdd (dC (.int 1)) (dBin opMod (dCall m__law_mix (dCons (dVar 0) (dCons (dC (.int 4)) dNil))) (dC (.int 6)))) (E [] none none none none) = .ok ((List.range n).map fun i => .int (i : Nat)) := by
    apply ev_range (n := n)
    · apply ev_bin (o := .fz (.int (n : Nat)))
      · exact ev_c
      · apply ev_bin
        · apply ev_call
          · repeat' (first | exact ev_c | exact ev_skip | exact ev_varF rfl | exact ev_varL rfl | exact ev_varK rfl | exact ev_nil | exact e_add | exact e_sub | exact e_eq | exact e_ne | exact e_mod (by first | decide | omega) | exact e_mul (mulL (by first | decide | omega)) | exact e_mul (mulR (by first | decide | omega)) | apply ev_bin | apply ev_set | apply ev_ret | apply ev_seqN | apply ev_cons | apply ev_frz)
          · exact e4
          · exact .inl rfl
        · exact ev_c
        · exact e_mod (by decide)
      · rw [← en]; rfl
    · rfl
    · omega
  obtain ⟨e, w1, ds, x3, x4, x5, x6, rfl, w2, w3⟩ := dFor_inv (t := tName 3) (body := (dSeq (dSet 4 (dCallB opList (dCons (dVar 1) dNil)))
    (dSeq (dSet 5 (dList dNil))
    (dSeq (dFor (dRange (dBin opAdd (dC (.int 1)) (dBin opMod (dCall m__law_mix (dCons (dVar 0) (dCons (dFrz (dBin opAdd (dC (.int 5)) (dVar 3))) dNil))) (dCallB opMin2 (dCons (dC (.int 4)) (dCons (dCallB opLen (dCons (dVar 1) dNil)) dNil)))))) (tName 6)
    (dAppPop 5 4 (dBin opMod (dCall m__law_mix (dCons (dVar 0) (dCons (dFrz (dBin opAdd (dBin opAdd (dC (.int 11)) (dBin opMul (dC (.int 4)) (dVar 3))) (dVar 6))) dNil))) (dCallB opLen (dCons (dVar 4) dNil)))))
    (dApp 2 (dFrz (dCallB opTup (dCons (dVar 5) dNil))))))))
    (I := fun i env => ∃ ds x3 x4 x5 x6, env = E ds x3 x4 x5 x6 ∧ ds.length = i ∧ ∀ d ∈ ds, d.Nodup ∧ 1 ≤ d.length ∧ d.length ≤ 4 ∧ ∀ x ∈ d, x ∈ cs) hr ⟨[], none, none, none, none, rfl, rfl, fun _ h => nomatch h⟩ (fun i y env hy ⟨ds, x3, x4, x5, x6, he, h1, h2⟩ => by
      subst he
      have hi : i < n := by have := (List.getElem?_eq_some_iff.mp hy).1; rwa [List.length_map, List.length_range] at this
      have ey : y = .int (i : Nat) := by
        rw [List.getElem?_map, List.getElem?_range hi] at hy
        exact (Option.some.inj hy).symm
      subst ey
      obtain ⟨e5, g5⟩ := mix_eq c (5 + (i : Int)) (by omega) (by omega)
      -- min(4, len)
      obtain ⟨mm, hm1, hm2, hmn⟩ : ∃ mm : Nat, 1 ≤ mm ∧ (mm ≤ 4 ∧ mm ≤ cs.length) ∧ opMin2 [.fz (.int 4), .fz (.int (cs.length : Nat))] = some (.fz (.int (mm : Nat))) := by
        by_cases h : 4 ≤ cs.length
        · exact ⟨4, by decide, ⟨Nat.le_refl _, h⟩, by
          show some (OV.fz (.int (if ((cs.length : Nat) : Int) < 4 then _ else _))) = _
          rw [if_neg (by omega)]; rfl⟩
        · exact ⟨cs.length, by omega, ⟨by omega, Nat.le_refl _⟩, by
          show some (OV.fz (.int (if ((cs.length : Nat) : Int) < 4 then _ else _))) = _
          rw [if_pos (by omega)]⟩
      obtain ⟨kn, hk1, hk2, ek⟩ : ∃ kn : Nat, 1 ≤ kn ∧ kn ≤ mm ∧ 1 + mx c (5 + (i : Int)) % (mm : Int) = (kn : Int) := ⟨(1 + mx c (5 + (i : Int)) % (mm : Int)).toNat, by
        have := Int.emod_nonneg (mx c (5 + (i : Int))) (show (mm : Int) ≠ 0 by omega)
        omega, by
        have := Int.emod_lt_of_pos (mx c (5 + (i : Int))) (show (0 : Int) < mm by omega)
        omega, by
        have := Int.emod_nonneg (mx c (5 + (i : Int))) (show (mm : Int) ≠ 0 by omega)
        omega⟩
      have hr2 : dRange (dBin opAdd (dC (.int 1)) (dBin opMod (dCall m__law_mix (dCons (dVar 0) (dCons (dFrz (dBin opAdd (dC (.int 5)) (dVar 3))) dNil))) (dCallB opMin2 (dCons (dC (.int 4)) (dCons (dCallB opLen (dCons (dVar 1) dNil)) dNil))))) (E ds (some (.fz (.int (i : Nat)))) (some (.ol (cs.map s1))) (some (.ol [])) x6) = .ok ((List.range kn).map fun i => .int (i : Nat)) := by
        apply ev_range (n := kn)
        · apply ev_bin (o := .fz (.int (kn : Nat)))
          · exact ev_c
          · apply ev_bin
            · apply ev_call
              · repeat' (first | exact ev_c | exact ev_skip | exact ev_varF rfl | exact ev_varL rfl | exact ev_varK rfl | exact ev_nil | exact e_add | exact e_sub | exact e_eq | exact e_ne | exact e_mod (by first | decide | omega) | exact e_mul (mulL (by first | decide | omega)) | exact e_mul (mulR (by first | decide | omega)) | apply ev_bin | apply ev_set | apply ev_ret | apply ev_seqN | apply ev_cons | apply ev_frz)
              · exact e5
              · exact .inl rfl
            · apply ev_callB (o := .fz (.int (mm : Nat)))
              · apply ev_cons
                · exact ev_c
                · apply ev_cons
                  · apply ev_callB (o := .fz (.int (cs.length : Nat)))
                    · repeat' (first | exact ev_c | exact ev_skip | exact ev_varF rfl | exact ev_varL rfl | exact ev_varK rfl | exact ev_nil | exact e_add | exact e_sub | exact e_eq | exact e_ne | exact e_mod (by first | decide | omega) | exact e_mul (mulL (by first | decide | omega)) | exact e_mul (mulR (by first | decide | omega)) | apply ev_bin | apply ev_set | apply ev_ret | apply ev_seqN | apply ev_cons | apply ev_frz)
                    · show some (OV.fz (.int ((cs.map s1).length : Nat))) = _
                      rw [List.length_map]
                  · exact ev_nil
              · exact hmn
            · exact e_mod (by omega)
          · rw [← ek]; rfl
        · rfl
        · omega
      obtain ⟨e, u1, so, d, y6, rfl, u2, u3⟩ := dFor_inv (t := tName 6) (body := dAppPop 5 4 (dBin opMod (dCall m__law_mix (dCons (dVar 0) (dCons (dFrz (dBin opAdd (dBin opAdd (dC (.int 11)) (dBin opMul (dC (.int 4)) (dVar 3))) (dVar 6))) dNil))) (dCallB opLen (dCons (dVar 4) dNil))))
        (I := fun j env => ∃ so d y6, env = E ds (some (.fz (.int (i : Nat)))) (some (.ol (so.map s1))) (some (.ol (d.map s1))) y6 ∧ (so ++ d).Perm cs ∧ d.length = j) hr2 ⟨cs, [], x6, rfl, by simp, rfl⟩ (fun j y env hy ⟨so, d, y6, he, k1, k2⟩ => by
          subst he
          have hj : j < kn := by have := (List.getElem?_eq_some_iff.mp hy).1; rwa [List.length_map, List.length_range] at this
          have ey : y = .int (j : Nat) := by
            rw [List.getElem?_map, List.getElem?_range hj] at hy
            exact (Option.some.inj hy).symm
          subst ey
          have hlen : so.length + d.length = cs.length := by rw [← List.length_append]; exact k1.length_eq
          obtain ⟨ek2, gk2⟩ := mix_eq c (11 + 4 * (i : Int) + (j : Int)) (by omega) (by omega)
          obtain ⟨m, hm, em⟩ : ∃ m : Nat, m < so.length ∧ mx c (11 + 4 * (i : Int) + (j : Int)) % (so.length : Int) = (m : Int) := ⟨(mx c (11 + 4 * (i : Int) + (j : Int)) % (so.length : Int)).toNat, by
            have := Int.emod_lt_of_pos (mx c (11 + 4 * (i : Int) + (j : Int))) (show (0 : Int) < so.length by omega)
            omega, by
            have := Int.emod_nonneg (mx c (11 + 4 * (i : Int) + (j : Int))) (show (so.length : Int) ≠ 0 by omega)
            omega⟩
          refine ⟨E ds (some (.fz (.int (i : Nat)))) (some (.ol (so.map s1))) (some (.ol (d.map s1))) (some (.fz (.int (j : Nat)))), E ds (some (.fz (.int (i : Nat)))) (some (.ol ((so.eraseIdx m).map s1))) (some (.ol ((d ++ [so[m]]).map s1))) (some (.fz (.int (j : Nat)))), rfl, .inl ?_, _, _, _, rfl, ?_, ?_⟩
          · have := ev_appPop (env := E ds (some (.fz (.int (i : Nat)))) (some (.ol (so.map s1))) (some (.ol (d.map s1))) (some (.fz (.int (j : Nat))))) (i := 5) (j := 4) (m := m) (p := .ol (d.map s1)) (p' := .ol ((d ++ [so[m]]).map s1)) (xs := so.map s1) (x := s1 so[m]) (r := .st (.fz (.int (m : Nat))))
              (f := dBin opMod (dCall m__law_mix (dCons (dVar 0) (dCons (dFrz (dBin opAdd (dBin opAdd (dC (.int 11)) (dBin opMul (dC (.int 4)) (dVar 3))) (dVar 6))) dNil))) (dCallB opLen (dCons (dVar 4) dNil))) rfl rfl rfl (by decide)
              (by rw [List.length_map]; show so.length ≤ 16777216; omega) (by show (d.map s1).length < 16777216; rw [List.length_map]; omega) (by
                apply ev_bin
                · apply ev_call
                  · repeat' (first | exact ev_c | exact ev_skip | exact ev_varF rfl | exact ev_varL rfl | exact ev_varK rfl | exact ev_nil | exact e_add | exact e_sub | exact e_eq | exact e_ne | exact e_mod (by first | decide | omega) | exact e_mul (mulL (by first | decide | omega)) | exact e_mul (mulR (by first | decide | omega)) | apply ev_bin | apply ev_set | apply ev_ret | apply ev_seqN | apply ev_cons | apply ev_frz)
                  · exact ek2
                  · exact .inl rfl
                · apply ev_callB
                  · repeat' (first | exact ev_c | exact ev_skip | exact ev_varF rfl | exact ev_varL rfl | exact ev_varK rfl | exact ev_nil | exact e_add | exact e_sub | exact e_eq | exact e_ne | exact e_mod (by first | decide | omega) | exact e_mul (mulL (by first | decide | omega)) | exact e_mul (mulR (by first | decide | omega)) | apply ev_bin | apply ev_set | apply ev_ret | apply ev_seqN | apply ev_cons | apply ev_frz)
                  · rfl
                · rw [← em]
                  show opMod (.fz (.int _)) (.fz (.int ((so.map s1).length : Nat))) = _
                  rw [List.length_map]
                  exact e_mod (by omega)) rfl (by rw [List.getElem?_map, List.getElem?_eq_getElem hm]; rfl) (by
                  show some (OV.ol (d.map s1 ++ [s1 so[m]])) = _
                  rw [List.map_append]; rfl)
            rw [this, erase_map]
            rfl
          · refine List.Perm.trans ?_ k1
            have p1 : (so[m] :: so.eraseIdx m).Perm so := erase_perm hm
            refine List.Perm.trans ?_ (p1.append_right d)
            show (so.eraseIdx m ++ (d ++ [so[m]])).Perm ([so[m]] ++ (so.eraseIdx m ++ d))
            rw [← List.append_assoc]
            exact List.perm_append_comm
          · rw [List.length_append, k2]; rfl)
      rw [List.length_map, List.length_range] at u3
      have hnd : (so ++ d).Nodup := u2.nodup_iff.mpr q3
      refine ⟨_, E (ds ++ [d]) (some (.fz (.int (i : Nat)))) (some (.ol (so.map s1))) (some (.ol (d.map s1))) y6, rfl, .inl ?_, _, _, _, _, _, rfl, by rw [List.length_append, h1]; rfl, ?_⟩
      · apply ev_seqN
        · apply ev_set
          apply ev_callB
          · repeat' (first | exact ev_c | exact ev_skip | exact ev_varF rfl | exact ev_varL rfl | exact ev_varK rfl | exact ev_nil | exact e_add | exact e_sub | exact e_eq | exact e_ne | exact e_mod (by first | decide | omega) | exact e_mul (mulL (by first | decide | omega)) | exact e_mul (mulR (by first | decide | omega)) | apply ev_bin | apply ev_set | apply ev_ret | apply ev_seqN | apply ev_cons | apply ev_frz)
          · rfl
        apply ev_seqN
        · apply ev_set
          apply ev_list
          · exact ev_nil
          · decide
          · rfl
        apply ev_seqN
        · exact u1
        · have := ev_app (env := E ds (some (.fz (.int (i : Nat)))) (some (.ol (so.map s1))) (some (.ol (d.map s1))) y6) (i := 2) (p := .ol (ds.map letF)) (o := .fz (letF d)) (p' := .ol ((ds ++ [d]).map letF)) (f := dFrz (dCallB opTup (dCons (dVar 5) dNil))) rfl rfl (by
            apply ev_frz (o := .fz (letF d))
            apply ev_callB
            · repeat' (first | exact ev_c | exact ev_skip | exact ev_varF rfl | exact ev_varL rfl | exact ev_varK rfl | exact ev_nil | exact e_add | exact e_sub | exact e_eq | exact e_ne | exact e_mod (by first | decide | omega) | exact e_mul (mulL (by first | decide | omega)) | exact e_mul (mulR (by first | decide | omega)) | apply ev_bin | apply ev_set | apply ev_ret | apply ev_seqN | apply ev_cons | apply ev_frz)
            · rfl) (by show (ds.map letF).length < 16777216; rw [List.length_map]; omega) (by
            show some (OV.ol (ds.map letF ++ [letF d])) = _
            rw [List.map_append]; rfl)
          exact this
      · intro x hx
        rcases List.mem_append.mp hx with hx | hx
        · exact h2 x hx
        · rw [List.mem_singleton.mp hx]
          exact ⟨(List.nodup_append.mp hnd).2.1, by omega, by omega, fun y hy => u2.mem_iff.mp (List.mem_append_right _ hy)⟩)
  refine ⟨cs, ds, q2, q3, fun x hx => (q4 x hx).2, by rw [w2, List.length_map, List.length_range]; exact hn1, by rw [w2, List.length_map, List.length_range]; exact hn6, w3, ?_⟩
  unfold m__law_shape D__law_shape
  apply ev_run
  apply ev_seqN
  · apply ev_set
    apply ev_call
    · repeat' (first | exact ev_c | exact ev_skip | exact ev_varF rfl | exact ev_varL rfl | exact ev_varK rfl | exact ev_nil | exact e_add | exact e_sub | exact e_eq | exact e_ne | exact e_mod (by first | decide | omega) | exact e_mul (mulL (by first | decide | omega)) | exact e_mul (mulR (by first | decide | omega)) | apply ev_bin | apply ev_set | apply ev_ret | apply ev_seqN | apply ev_cons | apply ev_frz)
    · exact q5
    · exact .inl rfl
  apply ev_seqN
  · apply ev_ice'
    · rfl
    apply ev_set
    apply ev_list
    · exact ev_nil
    · decide
    · rfl
  apply ev_seqN
  · exact w1
  exact ev_retV rfl
theorem lcD_map {t : TgF} {e : DE} {env : VEnv} {g : FV → OV} : ∀ {items : List FV}, (∀ x ∈ items, ∃ e1, t x env = some e1 ∧ e e1 = .ok (.st (g x))) → lcD t dTrue e env items = .ok (items.map g)
  | [], _ => rfl
  | x :: xs, h => by
    obtain ⟨e1, h1, h2⟩ := h x List.mem_cons_self
    have ih := lcD_map (items := xs) fun y hy => h y (List.mem_cons_of_mem _ hy)
    unfold lcD
    rw [h1]
    simp only [dTrue, Ans.nox, Ans.bind, h2, if_true, Rv.st?]
    rw [ih]
    rfl
theorem dLcD_all {it : VEnv → Ans (List FV)} {t : TgF} {e : DE} {vs : List Nat} {env : VEnv} {items : List FV} {g : FV → OV} (hi : it env = .ok items)
    (h : ∀ x ∈ items, ∃ e1, t x (frzE (wipeE env vs)) = some e1 ∧ e e1 = .ok (.st (g x)))
    (hl : items.length ≤ BIG) (hc : allFzE env = true ∨ OV.cleanL (items.map g) = true) : dLcD it t dTrue e vs env = .ok (.st (.dl (items.map g))) := by
  unfold dLcD
  rw [hi, bind_ok, lcD_map h, bind_ok, if_pos]
  rw [Bool.and_eq_true, Bool.or_eq_true]
  exact ⟨decide_eq_true (by rw [List.length_map]; exact hl), hc⟩
theorem ev_appAt {fk fe : DE} {i : Nat} {env : VEnv} {p q q' o : OV} {kr : Rv} (h : env[i]? = some (some p)) (h1 : fk env = .ok kr) (h2 : p.sub? kr.fv = some q) (hl : q.isL = true) (h3 : fe env = .ok (.st o)) (hs : q.size < BIG) (h4 : q.app o = some q') :
    dAppAt i fk fe env = .ok (.nx (env.set i (some (p.setAt kr.fv q')))) := by
  unfold dAppAt
  rw [h]
  simp only
  rw [h1, bind_ok, h2]
  simp only
  rw [if_pos hl, h3, bind_ok]
  simp only
  rw [if_pos hs, h4]
def olR (rs : List (List Int)) : OV := .ol (rs.map rowF)
def fnd (f : List (List (List Int))) : OV := .dl (f.map olR)
/-- what is kept of the rows that are found: of pattern i's length, cells of ns, each once, few -/
def FInv (ds : List (List Nat)) (ns : List Int) (n : Nat) (f : List (List (List Int))) : Prop := f.length = ds.length ∧ ∀ (i : Nat) (rs : List (List Int)) (d : List Nat), f[i]? = some rs → ds[i]? = some d → rs.Nodup ∧ rs.length ≤ n ∧ ∀ r ∈ rs, r.length = d.length ∧ ∀ x ∈ r, x ∈ ns
def ins (f : List (List (List Int))) (i : Nat) (r : List Int) : List (List (List Int)) := match f[i]? with
  | some rs => if r ∈ rs then f else f.set i (rs ++ [r])
  | none => f
theorem ins_inv {ds : List (List Nat)} {ns : List Int} {n : Nat} {f : List (List (List Int))} {i : Nat} {r : List Int} {d : List Nat} (h : FInv ds ns n f) (hd : ds[i]? = some d) (hr : r.length = d.length) (hx : ∀ x ∈ r, x ∈ ns) : FInv ds ns (n + 1) (ins f i r) := by
  have weak : FInv ds ns (n + 1) f := ⟨h.1, fun j rs d' h1 h2 => let ⟨a, b, c⟩ := h.2 j rs d' h1 h2; ⟨a, by omega, c⟩⟩
  unfold ins
  cases e : f[i]? with
  | none => exact weak
  | some rs =>
    simp only
    split
    · exact weak
    · rename_i hn
      obtain ⟨k1, k2, k3⟩ := h.2 i rs d e hd
      refine ⟨by rw [List.length_set]; exact h.1, fun j rs' d' h1 h2 => ?_⟩
      by_cases hij : i = j
      · subst hij
        have hlt : i < f.length := (List.getElem?_eq_some_iff.mp e).1
        rw [List.getElem?_set_self hlt] at h1
        cases h1
        rw [hd] at h2
        cases h2
        refine ⟨?_, by rw [List.length_append]; show rs.length + 1 ≤ n + 1; omega, fun q hq => ?_⟩
        · rw [List.nodup_append]
          exact ⟨k1, by simp, fun a ha b hb e => hn (by rw [List.mem_singleton] at hb; rw [← hb, ← e]; exact ha)⟩
        · rcases List.mem_append.mp hq with hq | hq
          · exact k3 q hq
          · rw [List.mem_singleton.mp hq]; exact ⟨hr, hx⟩
      · rw [List.getElem?_set_ne hij] at h1
        exact weak.2 j rs' d' h1 h2
/-- one row laid down -/
theorem ev_ins {env : VEnv} {f : List (List (List Int))} {i : Nat} {r : List Int} {rs : List (List Int)} (h4 : env[4]? = some (some (fnd f))) (h6 : env[6]? = some (some (.fz (.int (i : Nat))))) (h7 : env[7]? = some (some (.fz (rowF r)))) (hf : f[i]? = some rs) (hl : rs.length < 1000) :
    dIf (dTest (dBin (opIn true) (dVar 7) (dSub (dVar 4) (dVar 6)))) (dIce 7 (dAppAt 4 (dVar 6) (dVar 7))) dSkip env = .ok (.nx (env.set 4 (some (fnd (ins f i r))))) := by
  have hi : i < f.length := (List.getElem?_eq_some_iff.mp hf).1
  have hat : atI (f.map olR) (i : Int) = some (olR rs) := atI_nat (by rw [List.getElem?_map, hf]; rfl)
  have hv4 : dVar 4 env = .ok (.bo (fnd f)) := by unfold dVar; rw [h4]; rfl
  have t : dTest (dBin (opIn true) (dVar 7) (dSub (dVar 4) (dVar 6))) env = .ok (decide (r ∉ rs)) := by
    apply ev_testB (b := (true != decide (r ∈ rs)))
    · apply ev_bin
      · exact ev_varF h7
      · apply ev_sub (t := .bo (olR rs))
        · exact hv4
        · exact ev_varF h6
        · rfl
        · show (atI (f.map olR) (i : Int)).map Rv.bo = _
          rw [hat]; rfl
      · exact in_rows r rs rfl rfl true
    · by_cases h : r ∈ rs
      · rw [decide_eq_true h, decide_eq_false (fun hn => hn h)]; rfl
      · rw [decide_eq_false h, decide_eq_true h]; rfl
  have hset4 : env.set 4 (some (fnd f)) = env := by
    apply List.ext_getElem?
    intro j
    by_cases hj : 4 = j
    · subst hj
      obtain ⟨hlt, _⟩ := List.getElem?_eq_some_iff.mp h4
      rw [List.getElem?_set_self hlt, h4]
    · rw [List.getElem?_set_ne hj]
  by_cases h : r ∈ rs
  · rw [decide_eq_false (fun hn => hn h)] at t
    rw [ev_ifF t, ev_skip]
    have : ins f i r = f := by unfold ins; rw [hf]; exact if_pos h
    rw [this, hset4]
  · rw [decide_eq_true h] at t
    rw [ev_ifT t]
    have hset7 : env.set 7 (some (.fz (OV.fz (rowF r)).fv)) = env := by
      apply List.ext_getElem?
      intro j
      by_cases hj : 7 = j
      · subst hj
        obtain ⟨hlt, _⟩ := List.getElem?_eq_some_iff.mp h7
        rw [List.getElem?_set_self hlt, h7]
        rfl
      · rw [List.getElem?_set_ne hj]
    rw [ev_ice h7, hset7]
    have hix : ixN (f.map olR).length (i : Int) = some i := by
      unfold ixN
      rw [List.length_map, if_pos (by omega), if_pos (by omega), Int.toNat_natCast]
    have := ev_appAt (env := env) (i := 4) (fk := dVar 6) (fe := dVar 7) (p := fnd f) (q := olR rs) (q' := olR (rs ++ [r])) (o := .fz (rowF r)) h4 (ev_varF h6) (by show atI (f.map olR) (i : Int) = _; exact hat) rfl (ev_varF h7)
      (by show (rs.map rowF).length < 16777216; rw [List.length_map]; omega) (by show some (OV.ol (rs.map rowF ++ [rowF r])) = some (OV.ol ((rs ++ [r]).map rowF)); rw [List.map_append]; rfl)
    rw [this]
    have e1 : OV.setAt (fnd f) (.int (i : Nat)) (olR (rs ++ [r])) = fnd (ins f i r) := by
      have e2 : ins f i r = f.set i (rs ++ [r]) := by unfold ins; rw [hf]; exact if_neg h
      rw [e2]
      unfold OV.setAt fnd
      simp only
      rw [hix]
      simp only
      rw [List.map_set]
    show Ans.ok (SO.nx (env.set 4 (some (OV.setAt (fnd f) (.int (i : Nat)) (olR (rs ++ [r])))))) = _
    rw [e1]
theorem ev_iceQ {i : Nat} {f : DS} {env : VEnv} {r : Ans SO} (h : env[i]? = some none ∨ ∃ y, env[i]? = some (some (.fz y))) (h2 : f env = r) : dIce i f env = r := by
  rcases h with h | ⟨y, h⟩
  · unfold dIce
    rw [h]
    exact h2
  · have hset : env.set i (some (.fz (OV.fz y).fv)) = env := by
      apply List.ext_getElem?
      intro j
      by_cases hj : i = j
      · subst hj
        obtain ⟨hlt, _⟩ := List.getElem?_eq_some_iff.mp h
        rw [List.getElem?_set_self hlt, h]
        rfl
      · rw [List.getElem?_set_ne hj]
    rw [ev_ice h, hset, h2]
def fq (x : Option OV) : Prop := x = none ∨ ∃ y, x = some (.fz y)
theorem fq_at {x : Option OV} {env : VEnv} {i : Nat} (h : fq x) (e : env[i]? = some x) : env[i]? = some none ∨ ∃ y, env[i]? = some (some (.fz y)) := by
  rcases h with rfl | ⟨y, rfl⟩
  · exact .inl e
  · exact .inr ⟨y, e⟩
theorem rows_spec (ds : List (List Nat)) (cells : List Int) (total : Int) (hd1 : 1 ≤ ds.length) (hd6 : ds.length ≤ 6) (hcl : cells.length ≤ 100) (hd : ∀ d ∈ ds, 1 ≤ d.length ∧ d.length ≤ 4) :
    ∃ (ns : List Int) (R : List (List (List Int))), 2 ≤ ns.length ∧ ns.length ≤ 3 ∧ m__law_numbers [.int total] = .ok (.fz (.lst (ns.map .int))) ∧ FInv ds ns 200 R ∧ (∀ rs ∈ R, rs.Pairwise (· < ·)) ∧
      m__law_rows [.lst (ds.map letF), .lst (cells.map .int), .int total] = .ok (.ol (R.map fun rs => .lst (rs.map rowF))) := by
  obtain ⟨ns, n1, n2, n3⟩ := numbers_ok total
  obtain ⟨e41, g41⟩ := mix_eq total 41 (by decide) (by decide)
  let E : List (List (List Int)) → Option OV → Option OV → Option OV → VEnv := fun f x5 x6 x7 => [some (.fz (.lst (ds.map letF))), some (.fz (.lst (cells.map .int))), some (.fz (.int total)), some (.fz (.lst (ns.map .int))), some (fnd f), x5, x6, x7, none, none, none, none]
  have hsub : ∀ f x5 x7 (i : Nat) (d : List Nat), ds[i]? = some d → dSub (dVar 0) (dVar 6) (E f x5 (some (.fz (.int (i : Nat)))) x7) = .ok (.st (.fz (letF d))) := fun f x5 x7 i d h => by
    apply ev_sub
    · exact ev_varF rfl
    · exact ev_varF rfl
    · rfl
    · show (atI (ds.map letF) (i : Int)).map (fun v => Rv.st (.fz v)) = _
      rw [atI_nat (v := letF d) (by rw [List.getElem?_map, h]; rfl)]
      rfl
  -- a cell of the numbers
  have hnum : ∀ (g : DE) (env : VEnv) (z : Int), env[3]? = some (some (.fz (.lst (ns.map .int)))) → 0 ≤ z → g env = .ok (.st (.fz (.int z))) → ∃ x ∈ ns, dFrz (dSub (dVar 3) (dBin opMod g (dCallB opLen (dCons (dVar 3) dNil)))) env = .ok (.st (.fz (.int x))) := fun g env z h3 hz hg => by
    obtain ⟨m, hm, em⟩ : ∃ m : Nat, m < ns.length ∧ z % (ns.length : Int) = (m : Int) := ⟨(z % (ns.length : Int)).toNat, by
      have := Int.emod_lt_of_pos z (show (0 : Int) < ns.length by omega)
      omega, by
      have := Int.emod_nonneg z (show (ns.length : Int) ≠ 0 by omega)
      omega⟩
    refine ⟨ns[m], List.getElem_mem hm, ?_⟩
    apply ev_frz (o := .fz (.int ns[m]))
    apply ev_sub
    · exact ev_varF h3
    · apply ev_bin (o := .fz (.int (m : Nat)))
      · exact hg
      · apply ev_callB
        · exact ev_cons (ev_varF h3) ev_nil
        · rfl
      · rw [← em]
        show opMod (.fz (.int z)) (.fz (.int ((ns.map FV.int).length : Nat))) = _
        rw [List.length_map]
        exact e_mod (by omega)
    · rfl
    · show (atI (ns.map FV.int) (m : Int)).map (fun v => Rv.st (.fz v)) = _
      rw [atI_nat (v := FV.int ns[m]) (by rw [List.getElem?_map, List.getElem?_eq_getElem hm]; rfl)]
      rfl
  -- a comprehension of numbers
  have hrow : ∀ (it : VEnv → Ans (List FV)) (t : TgF) (e : DE) (vs : List Nat) (env : VEnv) (items : List FV), it env = .ok items → items.length ≤ 4 → (∀ x ∈ items, ∃ e1, ∃ z ∈ ns, t x (frzE (wipeE env vs)) = some e1 ∧ e e1 = .ok (.st (.fz (.int z)))) →
      ∃ r : List Int, r.length = items.length ∧ (∀ x ∈ r, x ∈ ns) ∧ dCallB opTup (dCons (dLc it t dTrue e vs) dNil) env = .ok (.st (.fz (rowF r))) := fun it t e vs env items hi hl h => by
    classical
    let g : FV → Int := fun x => if q : ∃ z ∈ ns, ∃ e1, t x (frzE (wipeE env vs)) = some e1 ∧ e e1 = .ok (.st (.fz (.int z))) then q.choose else 0
    have hg : ∀ x ∈ items, g x ∈ ns ∧ ∃ e1, t x (frzE (wipeE env vs)) = some e1 ∧ e e1 = .ok (.st (.fz (.int (g x)))) := fun x hx => by
      obtain ⟨e1, z, hz, h1, h2⟩ := h x hx
      have q : ∃ z ∈ ns, ∃ e1, t x (frzE (wipeE env vs)) = some e1 ∧ e e1 = .ok (.st (.fz (.int z))) := ⟨z, hz, e1, h1, h2⟩
      have eg : g x = q.choose := dif_pos q
      rw [eg]
      exact q.choose_spec
    have hLc := dLc_all (g := fun x => .int (g x)) hi (fun x hx => let ⟨_, e1, h1, h2⟩ := hg x hx; ⟨e1, h1, h2⟩) (Nat.le_trans hl (by decide)) (.inr (by
      clear hg h hl hi
      induction items with
      | nil => rfl
      | cons a l ih => rw [List.map_cons, FV.pureL, ih]; rfl))
    refine ⟨items.map g, List.length_map _, fun x hx => ?_, ?_⟩
    · obtain ⟨y, hy, rfl⟩ := List.mem_map.mp hx
      exact (hg y hy).1
    · apply ev_callB
      · exact ev_cons hLc ev_nil
      · show some (OV.fz (.tup (items.map fun x => FV.int (g x)))) = some (OV.fz (.tup ((items.map g).map .int)))
        rw [List.map_map]
        rfl
  have fzq : ∀ y : FV, fq (some (.fz y)) := fun y => .inr ⟨y, rfl⟩
  obtain ⟨e, w1, f1, x5, x6, x7, rfl, p5, p6, p7, w2⟩ := dFor_inv (it := dItems (dVar 1)) (t := tName 5) (body := (dSeq (dSet 6 (dBin opMod (dCall m__law_mix (dCons (dVar 5) (dCons (dC (.int 1)) dNil))) (dCallB opLen (dCons (dVar 0) dNil))))
    (dSeq (dSet 7 (dCallB opTup (dCons (dLc (dRange (dCallB opLen (dCons (dSub (dVar 0) (dVar 6)) dNil))) (tName 10) dTrue (dFrz (dSub (dVar 3) (dBin opMod (dCall m__law_mix (dCons (dVar 5) (dCons (dFrz (dBin opAdd (dC (.int 2)) (dVar 10))) dNil))) (dCallB opLen (dCons (dVar 3) dNil))))) [10]) dNil)))
    (dIf (dTest (dBin (opIn true) (dVar 7) (dSub (dVar 4) (dVar 6))))
    (dIce 7 (dAppAt 4 (dVar 6) (dVar 7)))
    dSkip)))) (env := E (ds.map fun _ => []) none none none) (items := cells.map .int)
    (I := fun n env => ∃ f x5 x6 x7, env = E f x5 x6 x7 ∧ fq x5 ∧ fq x6 ∧ fq x7 ∧ FInv ds ns n f) (ev_items (.inr (.inl (ev_varF rfl)))) ⟨_, none, none, none, rfl, .inl rfl, .inl rfl, .inl rfl, by rw [List.length_map], fun i rs d h1 h2 => by
      rw [List.getElem?_map, h2] at h1
      cases h1
      exact ⟨List.nodup_nil, Nat.zero_le _, fun _ h => nomatch h⟩⟩ (fun n y env hy ⟨f, x5, x6, x7, he, p5, p6, p7, hf⟩ => by
      subst he
      have hn : n < cells.length := by have := (List.getElem?_eq_some_iff.mp hy).1; rwa [List.length_map] at this
      obtain ⟨c, _, rfl⟩ := List.mem_map.mp (List.mem_of_getElem? hy)
      obtain ⟨e1, g1⟩ := mix_eq c 1 (by decide) (by decide)
      obtain ⟨i, hi, ei⟩ : ∃ i : Nat, i < ds.length ∧ mx c 1 % (ds.length : Int) = (i : Int) := ⟨(mx c 1 % (ds.length : Int)).toNat, by
        have := Int.emod_lt_of_pos (mx c 1) (show (0 : Int) < ds.length by omega)
        omega, by
        have := Int.emod_nonneg (mx c 1) (show (ds.length : Int) ≠ 0 by omega)
        omega⟩
      have hdi : ds[i]? = some ds[i] := List.getElem?_eq_getElem hi
      have hfi : i < f.length := by rw [hf.1]; exact hi
      have hdl := hd ds[i] (List.getElem_mem hi)
      let E2 : Option OV → VEnv := fun x7 => E f (some (.fz (.int c))) (some (.fz (.int (i : Nat)))) x7
      obtain ⟨r, hr1, hr2, hr3⟩ := hrow (dRange (dCallB opLen (dCons (dSub (dVar 0) (dVar 6)) dNil))) (tName 10) (dFrz (dSub (dVar 3) (dBin opMod (dCall m__law_mix (dCons (dVar 5) (dCons (dFrz (dBin opAdd (dC (.int 2)) (dVar 10))) dNil))) (dCallB opLen (dCons (dVar 3) dNil))))) [10] (E2 x7)
        ((List.range ds[i].length).map fun i => .int (i : Nat)) (by
          apply ev_range (n := ds[i].length)
          · apply ev_callB
            · exact ev_cons (hsub _ _ _ i ds[i] hdi) ev_nil
            · rfl
          · show OV.fz (.int ((ds[i].map s1).length : Nat)) = _
            rw [List.length_map]
          · omega) (by rw [List.length_map, List.length_range]; exact hdl.2) (fun x hx => by
          obtain ⟨k, hk, rfl⟩ := List.mem_map.mp hx
          have hk4 : k < 4 := by have := List.mem_range.mp hk; omega
          obtain ⟨ek, gk⟩ := mix_eq c (2 + (k : Int)) (by omega) (by omega)
          obtain ⟨z, hz, ez⟩ := hnum (dCall m__law_mix (dCons (dVar 5) (dCons (dFrz (dBin opAdd (dC (.int 2)) (dVar 10))) dNil))) ((frzE (wipeE (E2 x7) [10])).set 10 (some (.fz (.int (k : Nat))))) (mx c (2 + (k : Int))) rfl gk (by
            apply ev_call
            · repeat' (first | exact ev_c | exact ev_skip | exact ev_varF rfl | exact ev_varL rfl | exact ev_varK rfl | exact ev_nil | exact e_add | exact e_sub | exact e_eq | exact e_ne | exact e_mod (by first | decide | omega) | exact e_mul (mulL (by first | decide | omega)) | exact e_mul (mulR (by first | decide | omega)) | apply ev_bin | apply ev_set | apply ev_ret | apply ev_seqN | apply ev_cons | apply ev_frz)
            · exact ek
            · exact .inl rfl)
          exact ⟨_, z, hz, rfl, ez⟩)
      rw [List.length_map, List.length_range] at hr1
      obtain ⟨k1, k2, k3⟩ := hf.2 i f[i] ds[i] (List.getElem?_eq_getElem hfi) hdi
      refine ⟨_, E (ins f i r) (some (.fz (.int c))) (some (.fz (.int (i : Nat)))) (some (.fz (rowF r))), rfl, .inl ?_, _, _, _, _, rfl, fzq _, fzq _, fzq _, ins_inv hf hdi hr1 hr2⟩
      apply ev_seqN
      · apply ev_set (o := .fz (.int (i : Nat)))
        apply ev_bin
        · apply ev_call
          · repeat' (first | exact ev_c | exact ev_skip | exact ev_varF rfl | exact ev_varL rfl | exact ev_varK rfl | exact ev_nil | exact e_add | exact e_sub | exact e_eq | exact e_ne | exact e_mod (by first | decide | omega) | exact e_mul (mulL (by first | decide | omega)) | exact e_mul (mulR (by first | decide | omega)) | apply ev_bin | apply ev_set | apply ev_ret | apply ev_seqN | apply ev_cons | apply ev_frz)
          · exact e1
          · exact .inl rfl
        · apply ev_callB
          · repeat' (first | exact ev_c | exact ev_skip | exact ev_varF rfl | exact ev_varL rfl | exact ev_varK rfl | exact ev_nil | exact e_add | exact e_sub | exact e_eq | exact e_ne | exact e_mod (by first | decide | omega) | exact e_mul (mulL (by first | decide | omega)) | exact e_mul (mulR (by first | decide | omega)) | apply ev_bin | apply ev_set | apply ev_ret | apply ev_seqN | apply ev_cons | apply ev_frz)
          · rfl
        · rw [← ei]
          show opMod (.fz (.int _)) (.fz (.int ((ds.map letF).length : Nat))) = _
          rw [List.length_map]
          exact e_mod (by omega)
      apply ev_seqN
      · exact ev_set hr3
      exact ev_ins (f := f) (i := i) (r := r) (rs := f[i]) rfl rfl rfl (List.getElem?_eq_getElem hfi) (by omega))
  rw [List.length_map] at w2
  have w2' : FInv ds ns 100 f1 := ⟨w2.1, fun j rs d' h1 h2 => let ⟨a, b, c⟩ := w2.2 j rs d' h1 h2; ⟨a, by omega, c⟩⟩
  -- the second part
  have hodd : ∃ f2 y6 y7, fq y6 ∧ fq y7 ∧ FInv ds ns 200 f2 ∧ dIf (dTest (dBin opEq (dBin opMod (dCall m__law_mix (dCons (dVar 2) (dCons (dC (.int 41)) dNil))) (dC (.int 2))) (dC (.int 1))))
    (dFor (dRange (dCallB opLen (dCons (dVar 0) dNil))) (tName 6)
    (dSeq (dSet 7 (dCallB opTup (dCons (dLc (cItems (dSub (dVar 0) (dVar 6))) (tName 11) dTrue (dFrz (dSub (dVar 3) (dBin opMod (dCallB opOrd (dCons (dVar 11) dNil)) (dCallB opLen (dCons (dVar 3) dNil))))) [11]) dNil)))
    (dIf (dTest (dBin (opIn true) (dVar 7) (dSub (dVar 4) (dVar 6))))
    (dIce 7 (dAppAt 4 (dVar 6) (dVar 7)))
    dSkip)))
    dSkip (E f1 x5 x6 x7) = .ok (.nx (E f2 x5 y6 y7)) := by
    have t : dTest (dBin opEq (dBin opMod (dCall m__law_mix (dCons (dVar 2) (dCons (dC (.int 41)) dNil))) (dC (.int 2))) (dC (.int 1))) (E f1 x5 x6 x7) = .ok (decide (mx total 41 % 2 = 1)) := by
      apply ev_test
      apply ev_bin
      · apply ev_bin
        · apply ev_call
          · repeat' (first | exact ev_c | exact ev_skip | exact ev_varF rfl | exact ev_varL rfl | exact ev_varK rfl | exact ev_nil | exact e_add | exact e_sub | exact e_eq | exact e_ne | exact e_mod (by first | decide | omega) | exact e_mul (mulL (by first | decide | omega)) | exact e_mul (mulR (by first | decide | omega)) | apply ev_bin | apply ev_set | apply ev_ret | apply ev_seqN | apply ev_cons | apply ev_frz)
          · exact e41
          · exact .inl rfl
        · exact ev_c
        · exact e_mod (by decide)
      · exact ev_c
      · exact e_eq
    by_cases h : mx total 41 % 2 = 1
    rotate_left
    · rw [decide_eq_false h] at t
      exact ⟨f1, x6, x7, p6, p7, ⟨w2'.1, fun j rs d' h1 h2 => let ⟨a, b, c⟩ := w2'.2 j rs d' h1 h2; ⟨a, by omega, c⟩⟩, by rw [ev_ifF t, ev_skip]⟩
    · rw [decide_eq_true h] at t
      obtain ⟨e, u1, f2, y6, y7, rfl, q6, q7, u2⟩ := dFor_inv (it := dRange (dCallB opLen (dCons (dVar 0) dNil))) (t := tName 6) (body := (dSeq (dSet 7 (dCallB opTup (dCons (dLc (cItems (dSub (dVar 0) (dVar 6))) (tName 11) dTrue (dFrz (dSub (dVar 3) (dBin opMod (dCallB opOrd (dCons (dVar 11) dNil)) (dCallB opLen (dCons (dVar 3) dNil))))) [11]) dNil)))
    (dIf (dTest (dBin (opIn true) (dVar 7) (dSub (dVar 4) (dVar 6))))
    (dIce 7 (dAppAt 4 (dVar 6) (dVar 7)))
    dSkip))) (env := E f1 x5 x6 x7) (items := (List.range ds.length).map fun i => .int (i : Nat))
        (I := fun n env => ∃ f x6 x7, env = E f x5 x6 x7 ∧ fq x6 ∧ fq x7 ∧ FInv ds ns (100 + n) f) (by
          apply ev_range (n := ds.length)
          · apply ev_callB
            · repeat' (first | exact ev_c | exact ev_skip | exact ev_varF rfl | exact ev_varL rfl | exact ev_varK rfl | exact ev_nil | exact e_add | exact e_sub | exact e_eq | exact e_ne | exact e_mod (by first | decide | omega) | exact e_mul (mulL (by first | decide | omega)) | exact e_mul (mulR (by first | decide | omega)) | apply ev_bin | apply ev_set | apply ev_ret | apply ev_seqN | apply ev_cons | apply ev_frz)
            · rfl
          · show OV.fz (.int ((ds.map letF).length : Nat)) = _
            rw [List.length_map]
          · omega) ⟨f1, x6, x7, rfl, p6, p7, w2'⟩ (fun i y env hy ⟨f, x6, x7, he, p6, p7, hf⟩ => by
          subst he
          have hi : i < ds.length := by have := (List.getElem?_eq_some_iff.mp hy).1; rwa [List.length_map, List.length_range] at this
          have ey : y = .int (i : Nat) := by
            rw [List.getElem?_map, List.getElem?_range hi] at hy
            exact (Option.some.inj hy).symm
          subst ey
          have hdi : ds[i]? = some ds[i] := List.getElem?_eq_getElem hi
          have hfi : i < f.length := by rw [hf.1]; exact hi
          have hdl := hd ds[i] (List.getElem_mem hi)
          obtain ⟨r, hr1, hr2, hr3⟩ := hrow (cItems (dSub (dVar 0) (dVar 6))) (tName 11) (dFrz (dSub (dVar 3) (dBin opMod (dCallB opOrd (dCons (dVar 11) dNil)) (dCallB opLen (dCons (dVar 3) dNil))))) [11] (E f x5 (some (.fz (.int (i : Nat)))) x7)
            (ds[i].map s1) (ev_cItems (hsub _ _ _ i ds[i] hdi) rfl (.inr (.inr rfl))) (by rw [List.length_map]; exact hdl.2) (fun x hx => by
              obtain ⟨k, hk, rfl⟩ := List.mem_map.mp hx
              obtain ⟨z, hz, ez⟩ := hnum (dCallB opOrd (dCons (dVar 11) dNil)) ((frzE (wipeE (E f x5 (some (.fz (.int (i : Nat)))) x7) [11])).set 11 (some (.fz (s1 k)))) (k : Nat) rfl (by omega) (by
                apply ev_callB
                · exact ev_cons (ev_varF rfl) ev_nil
                · rfl)
              exact ⟨_, z, hz, rfl, ez⟩)
          rw [List.length_map] at hr1
          obtain ⟨k1, k2, k3⟩ := hf.2 i f[i] ds[i] (List.getElem?_eq_getElem hfi) hdi
          refine ⟨_, E (ins f i r) x5 (some (.fz (.int (i : Nat)))) (some (.fz (rowF r))), rfl, .inl ?_, _, _, _, rfl, fzq _, fzq _, ins_inv hf hdi hr1 hr2⟩
          apply ev_seqN
          · exact ev_set hr3
          exact ev_ins (f := f) (i := i) (r := r) (rs := f[i]) rfl rfl rfl (List.getElem?_eq_getElem hfi) (by omega))
      rw [List.length_map, List.length_range] at u2
      exact ⟨f2, y6, y7, q6, q7, ⟨u2.1, fun j rs d' h1 h2 => let ⟨a, b, c⟩ := u2.2 j rs d' h1 h2; ⟨a, by omega, c⟩⟩, by rw [ev_ifT t, u1]⟩
  obtain ⟨f2, y6, y7, q6, q7, u2, u1⟩ := hodd
  have hin : ∀ rs ∈ f2, ∃ d, rs.Nodup ∧ rs.length ≤ 200 ∧ 1 ≤ d ∧ ∀ r ∈ rs, r.length = d := fun rs hrs => by
    obtain ⟨i, hi⟩ := List.mem_iff_getElem?.mp hrs
    have hlt : i < ds.length := by rw [← u2.1]; exact (List.getElem?_eq_some_iff.mp hi).1
    obtain ⟨k1, k2, k3⟩ := u2.2 i rs ds[i] hi (List.getElem?_eq_getElem hlt)
    exact ⟨ds[i].length, k1, k2, (hd ds[i] (List.getElem_mem hlt)).1, fun r hr => (k3 r hr).1⟩
  refine ⟨ns, f2.map sortR, n1, n2, n3, ⟨by rw [List.length_map]; exact u2.1, fun i rs d h1 h2 => ?_⟩, fun rs hrs => ?_, ?_⟩
  · rw [List.getElem?_map] at h1
    obtain ⟨rs', h3, rfl⟩ := Option.map_eq_some_iff.mp h1
    obtain ⟨k1, k2, k3⟩ := u2.2 i rs' d h3 h2
    exact ⟨(List.mergeSort_perm _ _).nodup_iff.mpr k1, by rw [sortR_len]; exact k2, fun r hr => k3 r (sortR_mem.mp hr)⟩
  · obtain ⟨rs', h3, rfl⟩ := List.mem_map.mp hrs
    exact sortR_lt (hin rs' h3).choose_spec.1
  · have eL : (fnd f2).fv = .lst (f2.map fun rs => .lst (rs.map rowF)) := by
      show FV.lst (OV.fvL (f2.map olR)) = _
      rw [OV.fvL_map, List.map_map]
      rfl
    let E3 : VEnv := [some (.fz (.lst (ds.map letF))), some (.fz (.lst (cells.map .int))), some (.fz (.int total)), some (.fz (.lst (ns.map .int))), some (.fz (fnd f2).fv), x5, y6, y7, none, none, none, none]
    have hall : allFzE E3 = true := by
      rcases p5 with rfl | ⟨_, rfl⟩ <;> rcases q6 with rfl | ⟨_, rfl⟩ <;> rcases q7 with rfl | ⟨_, rfl⟩ <;> rfl
    have hLc := dLc_all (it := cItems (dVar 4)) (t := tName 9) (e := dFrz (dCallB opSorted (dCons (dVar 9) dNil))) (vs := [9]) (env := E3) (items := f2.map fun rs => .lst (rs.map rowF)) (g := fun x : FV => match x with | .lst xs => FV.lst (sortFV xs) | _ => FV.non)
      (ev_cItems (r := .st (.fz (fnd f2).fv)) (ev_varF rfl) rfl (.inr (.inl (by rw [ov_st, eL])))) (fun x hx => by
        obtain ⟨rs, hrs, rfl⟩ := List.mem_map.mp hx
        obtain ⟨d, k1, k2, k3, k4⟩ := hin rs hrs
        refine ⟨_, rfl, ?_⟩
        apply ev_frz (o := .ol (sortFV (rs.map rowF)))
        apply ev_callB
        · exact ev_cons (ev_varF rfl) ev_nil
        · show (if sortOk (rs.map rowF) then some (OV.ol (sortFV (rs.map rowF))) else none) = _
          rw [if_pos (sortOk_row rs (by show rs.length ≤ 16777216; omega) fun r hr e => by
            have := k4 r hr
            rw [e] at this
            simp at this
            omega)]) (by rw [List.length_map, u2.1]; show ds.length ≤ 16777216; omega) (.inl hall)
    have eg : (f2.map fun rs => FV.lst (rs.map rowF)).map (fun x : FV => match x with | .lst xs => FV.lst (sortFV xs) | _ => FV.non) = (f2.map sortR).map fun rs => FV.lst (rs.map rowF) := by
      rw [List.map_map, List.map_map]
      exact List.map_congr_left fun rs _ => by
        show FV.lst (sortFV (rs.map rowF)) = FV.lst ((sortR rs).map rowF)
        rw [sort_row]
    rw [eg] at hLc
    unfold m__law_rows D__law_rows
    apply ev_run
    apply ev_seqN
    · apply ev_set (o := .fz (.lst (ns.map .int)))
      apply ev_call
      · repeat' (first | exact ev_c | exact ev_skip | exact ev_varF rfl | exact ev_varL rfl | exact ev_varK rfl | exact ev_nil | exact e_add | exact e_sub | exact e_eq | exact e_ne | exact e_mod (by first | decide | omega) | exact e_mul (mulL (by first | decide | omega)) | exact e_mul (mulR (by first | decide | omega)) | apply ev_bin | apply ev_set | apply ev_ret | apply ev_seqN | apply ev_cons | apply ev_frz)
      · exact n3
      · exact .inl rfl
    apply ev_seqN (e := E (ds.map fun _ => []) none none none)
    · apply ev_ice'
      · rfl
      have := dLcD_all (it := cItems (dVar 0)) (t := tName 8) (e := dList dNil) (vs := [8]) (env := [some (.fz (.lst (ds.map letF))), some (.fz (.lst (cells.map .int))), some (.fz (.int total)), some (.fz (.lst (ns.map .int))), none, none, none, none, none, none, none, none]) (items := ds.map letF) (g := fun _ => .ol [])
        (ev_cItems (ev_varF rfl) rfl (.inr (.inl rfl))) (fun x hx => ⟨_, rfl, ev_list ev_nil (by decide) rfl⟩) (by rw [List.length_map]; show ds.length ≤ 16777216; omega) (.inl rfl)
      rw [List.map_map] at this
      have h2 : (ds.map fun _ => ([] : List (List Int))).map olR = ds.map ((fun _ => OV.ol []) ∘ letF) := by
        rw [List.map_map]
        rfl
      rw [← h2] at this
      exact ev_set this
    apply ev_seqN
    · exact ev_ice' rfl w1
    apply ev_seqN
    · exact u1
    apply ev_iceQ (fq_at q7 rfl)
    apply ev_iceQ (fq_at q6 rfl)
    apply ev_iceQ (fq_at p5 rfl)
    apply ev_ice'
    · rfl
    apply ev_ice'
    · rfl
    exact ev_ret hLc
/-! ### dicts as lists of pairs -/
abbrev Dc := List (Nat × Int)
def lk (D : Dc) (c : Nat) : Option Int := (D.find? fun p => decide (p.1 = c)).map (·.2)
def kvF (p : Nat × Int) : Key × FV := (.inr ⟨#[p.1]⟩, .int p.2)
theorem lk_nil (c : Nat) : lk [] c = none := rfl
theorem lk_cons (p : Nat × Int) (D : Dc) (c : Nat) : lk (p :: D) c = if p.1 = c then some p.2 else lk D c := by
  unfold lk
  rw [List.find?_cons]
  by_cases h : p.1 = c
  · simp [h]
  · simp [h]
theorem lk_app (D E : Dc) (c : Nat) : lk (D ++ E) c = (lk D c).or (lk E c) := by
  induction D with
  | nil => rfl
  | cons p D ih =>
    rw [List.cons_append, lk_cons, lk_cons, ih]
    split
    · rfl
    · rfl
theorem lk_none {D : Dc} {c : Nat} : lk D c = none ↔ c ∉ D.map (·.1) := by
  induction D with
  | nil => simp [lk_nil]
  | cons p D ih =>
    rw [lk_cons, List.map_cons, List.mem_cons]
    by_cases h : p.1 = c
    · simp [h]
    · rw [if_neg h, ih]
      constructor
      · rintro h1 (h2 | h2)
        · exact h h2.symm
        · exact h1 h2
      · exact fun h1 h2 => h1 (.inr h2)
theorem lk_mem {D : Dc} {c : Nat} {v : Int} (hn : (D.map (·.1)).Nodup) (h : (c, v) ∈ D) : lk D c = some v := by
  induction D with
  | nil => cases h
  | cons p D ih =>
    rw [List.map_cons, List.nodup_cons] at hn
    rw [lk_cons]
    rcases List.mem_cons.mp h with rfl | h
    · rw [if_pos rfl]
    · rw [if_neg (fun e => hn.1 (by rw [e]; exact List.mem_map.mpr ⟨_, h, rfl⟩))]
      exact ih hn.2 h
theorem lookK_kv (D : Dc) (c : Nat) : lookK (D.map kvF) (.inr ⟨#[c]⟩ : Key) = (lk D c).map .int := by
  induction D with
  | nil => rfl
  | cons p D ih =>
    rw [List.map_cons, lookK_cons, lk_cons, ih]
    have : ((kvF p).1 = (.inr ⟨#[c]⟩ : Key)) ↔ p.1 = c := by
      unfold kvF
      simp
    by_cases h : p.1 = c
    · rw [if_pos h, if_pos (this.mpr h)]; rfl
    · rw [if_neg h, if_neg (fun e => h (this.mp e))]
def joinL (D : Dc) : List (Nat × Int) → Option Dc
  | [] => some D
  | (l, c) :: zs => match lk D l with
    | some v => if v = c then joinL D zs else none
    | none => joinL (D ++ [(l, c)]) zs
theorem joinL_eq : ∀ (zs : List (Nat × Int)) (D : Dc), (zs.map (·.1)).Nodup → joinL D zs = if (∀ p ∈ zs, lk D p.1 = some p.2 ∨ lk D p.1 = none) then some (D ++ zs.filter fun p => decide (lk D p.1 = none)) else none
  | [], D, _ => by simp [joinL]
  | (l, c) :: zs, D, hn => by
    rw [List.map_cons, List.nodup_cons] at hn
    unfold joinL
    cases e : lk D l with
    | some v =>
      simp only
      by_cases h : v = c
      · subst h
        rw [if_pos rfl, joinL_eq zs D hn.2]
        have h1 : (∀ p ∈ (l, v) :: zs, lk D p.1 = some p.2 ∨ lk D p.1 = none) ↔ ∀ p ∈ zs, lk D p.1 = some p.2 ∨ lk D p.1 = none := by
          constructor
          · exact fun h p hp => h p (List.mem_cons_of_mem _ hp)
          · intro h p hp
            rcases List.mem_cons.mp hp with rfl | hp
            · exact .inl e
            · exact h p hp
        have h2 : ((l, v) :: zs).filter (fun p => decide (lk D p.1 = none)) = zs.filter fun p => decide (lk D p.1 = none) := List.filter_cons_of_neg (by simp [e])
        simp only [h1, h2]
      · rw [if_neg h, if_neg]
        intro hp
        rcases hp (l, c) List.mem_cons_self with h1 | h1
        · rw [e] at h1; exact h (Option.some.inj h1)
        · rw [e] at h1; cases h1
    | none =>
      simp only
      rw [joinL_eq zs _ hn.2]
      have hlk : ∀ p ∈ zs, lk (D ++ [(l, c)]) p.1 = lk D p.1 := fun p hp => by
        rw [lk_app, lk_cons, lk_nil]
        have : l ≠ p.1 := fun e => hn.1 (by rw [e]; exact List.mem_map.mpr ⟨p, hp, rfl⟩)
        rw [if_neg this]
        cases lk D p.1 <;> rfl
      have h1 : (∀ p ∈ (l, c) :: zs, lk D p.1 = some p.2 ∨ lk D p.1 = none) ↔ ∀ p ∈ zs, lk (D ++ [(l, c)]) p.1 = some p.2 ∨ lk (D ++ [(l, c)]) p.1 = none := by
        constructor
        · intro h p hp
          rw [hlk p hp]
          exact h p (List.mem_cons_of_mem _ hp)
        · intro h p hp
          rcases List.mem_cons.mp hp with rfl | hp
          · exact .inr e
          · have := h p hp
            rwa [hlk p hp] at this
      have h2 : D ++ ((l, c) :: zs).filter (fun p => decide (lk D p.1 = none)) = D ++ [(l, c)] ++ zs.filter fun p => decide (lk (D ++ [(l, c)]) p.1 = none) := by
        rw [List.filter_cons_of_pos (by simp [e]), List.append_assoc]
        congr 2
        exact List.filter_congr fun p hp => by rw [hlk p hp]
      simp only [h1, h2]
theorem ev_setd {i : Nat} {fk fv fe : DE} {opd : OV → OV → Option OV} {a b : DS} {env : VEnv} {D : Dc} {l : Nat} {x : Int} {c : Bool} {er : Rv} (h : env[i]? = some (some (.oK (D.map kvF)))) (h1 : fk env = .ok (.st (.fz (s1 l)))) (h2 : fv env = .ok (.st (.fz (.int x)))) (hs : D.length < 1000000)
    (h3 : fe (env.set i (some (.oK ((match lk D l with | some _ => D | none => D ++ [(l, x)]).map kvF)))) = .ok er) (h4 : opd (.fz (.int ((lk D l).getD x))) er.ov = some (.fz (.bl c))) :
    dSetd i fk fv fe opd a b env = if c then a (env.set i (some (.oK ((match lk D l with | some _ => D | none => D ++ [(l, x)]).map kvF)))) else b (env.set i (some (.oK ((match lk D l with | some _ => D | none => D ++ [(l, x)]).map kvF)))) := by
  unfold dSetd
  rw [h]
  simp only
  rw [h1, bind_ok, h2, bind_ok, rfv, ov_st, fv_fz]
  have hk : (s1 l).key? = some (.inr ⟨#[l]⟩ : Key) := rfl
  rw [hk]
  simp only
  rw [if_pos (by rw [List.length_map]; show D.length < 16777216; omega), lookK_kv]
  cases e : lk D l with
  | some v =>
    rw [e] at h3 h4
    simp only [Option.map_some, Option.getD_some] at h3 h4 ⊢
    rw [h3, bind_ok, h4, of_some, bind_ok]
    rfl
  | none =>
    rw [e] at h3 h4
    simp only [Option.map_none, Option.getD_none, List.map_append, List.map_cons, List.map_nil] at h3 h4 ⊢
    have e2 : kvF (l, x) = ((.inr ⟨#[l]⟩ : Key), FV.int x) := rfl
    rw [e2] at h3
    rw [h3, bind_ok, h4, of_some, bind_ok]
    rfl
theorem join_run (k0 l0 r0 : FV) : ∀ (zs : List (Nat × Int)) (D : Dc) (x4 x5 : Option OV), D.length + zs.length < 1000 →
    match joinL D zs with
    | some D' => ∃ y4 y5, forL (tTup2 4 5) (dSetd 3 (dVar 4) (dVar 5) (dVar 5) opNe (dRet (dC .non)) dSkip) (zs.map fun p => .tup [s1 p.1, .int p.2]) [some (.fz k0), some (.fz l0), some (.fz r0), some (.oK (D.map kvF)), x4, x5] = .ok (.nx [some (.fz k0), some (.fz l0), some (.fz r0), some (.oK (D'.map kvF)), y4, y5])
    | none => ∃ e, forL (tTup2 4 5) (dSetd 3 (dVar 4) (dVar 5) (dVar 5) opNe (dRet (dC .non)) dSkip) (zs.map fun p => .tup [s1 p.1, .int p.2]) [some (.fz k0), some (.fz l0), some (.fz r0), some (.oK (D.map kvF)), x4, x5] = .ok (.rt (.fz .non) e)
  | [], D, x4, x5, _ => ⟨x4, x5, rfl⟩
  | (l, c) :: zs, D, x4, x5, hz => by
    rw [List.length_cons] at hz
    let env : VEnv := [some (.fz k0), some (.fz l0), some (.fz r0), some (.oK (D.map kvF)), some (.fz (s1 l)), some (.fz (.int c))]
    have hstep : forL (tTup2 4 5) (dSetd 3 (dVar 4) (dVar 5) (dVar 5) opNe (dRet (dC .non)) dSkip) (((l, c) :: zs).map fun p => .tup [s1 p.1, .int p.2]) [some (.fz k0), some (.fz l0), some (.fz r0), some (.oK (D.map kvF)), x4, x5] =
        (dSetd 3 (dVar 4) (dVar 5) (dVar 5) opNe (dRet (dC .non)) dSkip env).bind (loopK (forL (tTup2 4 5) (dSetd 3 (dVar 4) (dVar 5) (dVar 5) opNe (dRet (dC .non)) dSkip) (zs.map fun p => .tup [s1 p.1, .int p.2]))) := rfl
    rw [hstep]
    have hev := ev_setd (i := 3) (fk := dVar 4) (fv := dVar 5) (fe := dVar 5) (opd := opNe) (a := dRet (dC .non)) (b := dSkip) (env := env) (D := D) (l := l) (x := c) (c := !decide ((lk D l).getD c = c)) (er := .st (.fz (.int c))) rfl (ev_varF rfl) (ev_varF rfl) (by omega) (ev_varF rfl) e_ne
    rw [hev]
    unfold joinL
    cases e : lk D l with
    | some v =>
      simp only [Option.getD_some]
      by_cases h : v = c
      · rw [decide_eq_true h, Bool.not_true, if_neg Bool.false_ne_true, ev_skip, bind_ok, if_pos h]
        exact join_run k0 l0 r0 zs D (some (.fz (s1 l))) (some (.fz (.int c))) (by omega)
      · rw [decide_eq_false h, Bool.not_false, if_pos rfl, if_neg h]
        exact ⟨_, rfl⟩
    | none =>
      simp only [Option.getD_none]
      rw [if_neg (show ¬ (!decide True) = true by simp), ev_skip, bind_ok]
      exact join_run k0 l0 r0 zs (D ++ [(l, c)]) (some (.fz (s1 l))) (some (.fz (.int c))) (by rw [List.length_append, List.length_singleton]; omega)
theorem zip_items (d : List Nat) (r : List Int) : zipF (d.map s1) (r.map .int) = (d.zip r).map fun p => .tup [s1 p.1, .int p.2] := by
  unfold zipF
  rw [List.zip_map, List.map_map]
  rfl
theorem joined_ok (D : Dc) (d : List Nat) (r : List Int) (hz : D.length + d.length < 1000) : m_joined [.dK (D.map kvF), letF d, rowF r] = match joinL D (d.zip r) with
    | some D' => .ok (.oK (D'.map kvF))
    | none => .ok (.fz .non) := by
  have hrun := join_run (.dK (D.map kvF)) (letF d) (rowF r) (d.zip r) D none none (by rw [List.length_zip]; omega)
  have hit : dZip (dVar 1) (dVar 2) [some (.fz (.dK (D.map kvF))), some (.fz (letF d)), some (.fz (rowF r)), some (.oK (D.map kvF)), none, none] = .ok ((d.zip r).map fun p => .tup [s1 p.1, .int p.2]) := by
    rw [← zip_items]
    rfl
  have h3 : dSet 3 (dCallB opDict (dCons (dVar 0) dNil)) (startE 6 [.dK (D.map kvF), letF d, rowF r]) = .ok (.nx [some (.fz (.dK (D.map kvF))), some (.fz (letF d)), some (.fz (rowF r)), some (.oK (D.map kvF)), none, none]) := rfl
  unfold m_joined D_joined
  cases e : joinL D (d.zip r) with
  | some D' =>
    rw [e] at hrun
    obtain ⟨y4, y5, hr⟩ := hrun
    simp only
    apply ev_run
    apply ev_seqN h3
    apply ev_seqN (e := [some (.fz (.dK (D.map kvF))), some (.fz (letF d)), some (.fz (rowF r)), some (.oK (D'.map kvF)), y4, y5])
    · apply ev_ice'
      · rfl
      apply ev_ice'
      · rfl
      show ((dZip (dVar 1) (dVar 2) [some (.fz (.dK (D.map kvF))), some (.fz (letF d)), some (.fz (rowF r)), some (.oK (D.map kvF)), none, none]).bind fun xs => forL (tTup2 4 5) _ xs _) = _
      rw [hit, bind_ok]
      exact hr
    · exact ev_retV rfl
  | none =>
    rw [e] at hrun
    obtain ⟨e2, hr⟩ := hrun
    simp only
    apply ev_run (e := e2)
    apply ev_seqN h3
    apply ev_seqR
    apply ev_ice'
    · rfl
    apply ev_ice'
    · rfl
    show ((dZip (dVar 1) (dVar 2) [some (.fz (.dK (D.map kvF))), some (.fz (letF d)), some (.fz (rowF r)), some (.oK (D.map kvF)), none, none]).bind fun xs => forL (tTup2 4 5) _ xs _) = _
    rw [hit, bind_ok]
    exact hr
/-! ### all joins -/
def allJ : List (List Nat × List (List Int)) → List Dc → List Dc
  | [], P => P
  | (d, lines) :: q, P => allJ q (P.flatMap fun D => lines.filterMap fun r => joinL D (d.zip r))
def val (D : Dc) (c : Nat) : Int := (lk D c).getD 0
/-- what stands behind some patterns: the dicts are just the choices by which each pattern has its row -/
structure JInv (pr : List (List Nat × List (List Int))) (K : List Nat) (P : List Dc) : Prop where
  nd : K.Nodup
  mem : ∀ c, c ∈ K ↔ ∃ q ∈ pr, c ∈ q.1
  keys : ∀ D ∈ P, D.map (·.1) = K
  rows : ∀ D ∈ P, ∀ q ∈ pr, q.1.map (val D) ∈ q.2
  full : ∀ f : Nat → Int, (∀ q ∈ pr, q.1.map f ∈ q.2) → (K.map fun c => (c, f c)) ∈ P
  uniq : P.Nodup
theorem zip_self {f : Nat → Int} : ∀ d : List Nat, d.zip (d.map f) = d.map fun c => (c, f c)
  | [] => rfl
  | a :: d => by rw [List.map_cons, List.zip_cons_cons, zip_self d, List.map_cons]
theorem lk_map {K : List Nat} (f : Nat → Int) {c : Nat} (h : c ∈ K) : lk (K.map fun c => (c, f c)) c = some (f c) := by
  induction K with
  | nil => cases h
  | cons a K ih =>
    rw [List.map_cons, lk_cons]
    by_cases e : a = c
    · rw [if_pos e, e]
    · rw [if_neg e]
      exact ih ((List.mem_cons.mp h).resolve_left fun z => e z.symm)
theorem val_map {K : List Nat} (f : Nat → Int) {c : Nat} (h : c ∈ K) : val (K.map fun c => (c, f c)) c = f c := by
  have : lk (K.map fun c => (c, f c)) c = some (f c) := by
    induction K with
    | nil => cases h
    | cons a K ih =>
      rw [List.map_cons, lk_cons]
      by_cases e : a = c
      · rw [if_pos e, e]
      · rw [if_neg e]
        exact ih ((List.mem_cons.mp h).resolve_left fun z => e z.symm)
  unfold val
  rw [this]
  rfl
theorem dc_ext {D : Dc} (hn : (D.map (·.1)).Nodup) : D = (D.map (·.1)).map fun c => (c, val D c) := by
  rw [List.map_map]
  have : ∀ p ∈ D, p = ((fun c => (c, val D c)) ∘ (·.1)) p := fun p hp => by
    have := lk_mem (D := D) (c := p.1) (v := p.2) hn hp
    show p = (p.1, val D p.1)
    unfold val
    rw [this]
    rfl
  exact (List.map_id D).symm.trans (List.map_congr_left this)
theorem join_facts {K : List Nat} {D D' : Dc} {d : List Nat} {r : List Int} (hk : D.map (·.1) = K) (hnd : K.Nodup) (hd : d.Nodup) (hr : r.length = d.length) (h : joinL D (d.zip r) = some D') :
    D'.map (·.1) = K ++ d.filter (fun c => decide (c ∉ K)) ∧ d.map (val D') = r ∧ (∀ c ∈ K, val D' c = val D c) ∧ D'.take D.length = D := by
  have hz : (d.zip r).map (·.1) = d := List.map_fst_zip (by omega)
  have hz2 : (d.zip r).map (·.2) = r := List.map_snd_zip (by omega)
  rw [joinL_eq _ _ (by rw [hz]; exact hd)] at h
  split at h
  · rename_i hc
    injection h with h
    subst h
    have hnone : ∀ c, lk D c = none ↔ c ∉ K := fun c => by rw [lk_none, hk]
    refine ⟨?_, ?_, ?_, ?_⟩
    · rw [List.map_append, hk]
      congr 1
      have : ((d.zip r).filter fun p => decide (lk D p.1 = none)).map (·.1) = ((d.zip r).map (·.1)).filter fun c => decide (lk D c = none) := by
        rw [List.filter_map]
        rfl
      rw [this, hz]
      exact List.filter_congr fun c _ => by simp only [hnone]
    · have : ∀ p ∈ d.zip r, val (D ++ (d.zip r).filter fun p => decide (lk D p.1 = none)) p.1 = p.2 := fun p hp => by
        unfold val
        rw [lk_app]
        rcases hc p hp with e | e
        · rw [e]; rfl
        · rw [e]
          have hm : p ∈ (d.zip r).filter fun p => decide (lk D p.1 = none) := List.mem_filter.mpr ⟨hp, decide_eq_true e⟩
          have hn : (((d.zip r).filter fun p => decide (lk D p.1 = none)).map (·.1)).Nodup := by
            refine List.Nodup.sublist (List.Sublist.map _ (List.filter_sublist)) ?_
            rw [hz]
            exact hd
          have := lk_mem (c := p.1) (v := p.2) hn hm
          rw [this]
          rfl
      have e1 : ∀ φ : Nat → Int, d.map φ = (d.zip r).map fun p => φ p.1 := fun φ => by
        have : d.map φ = ((d.zip r).map (·.1)).map φ := by rw [hz]
        rw [this, List.map_map]
        rfl
      rw [e1, List.map_congr_left this, hz2]
    · intro c hc2
      unfold val
      rw [lk_app]
      cases e : lk D c with
      | none => exact absurd hc2 ((hnone c).mp e)
      | some v => rfl
    · exact List.take_left
  · cases h
theorem jinv_step {pr : List (List Nat × List (List Int))} {K : List Nat} {P : List Dc} {d : List Nat} {lines : List (List Int)} (J : JInv pr K P) (hd : d.Nodup) (hl : ∀ r ∈ lines, r.length = d.length) (hu : lines.Nodup) :
    JInv (pr ++ [(d, lines)]) (K ++ d.filter (fun c => decide (c ∉ K))) (P.flatMap fun D => lines.filterMap fun r => joinL D (d.zip r)) := by
  have hmem : ∀ D', (D' ∈ P.flatMap fun D => lines.filterMap fun r => joinL D (d.zip r)) ↔ ∃ D ∈ P, ∃ r ∈ lines, joinL D (d.zip r) = some D' := fun D' => by
    rw [List.mem_flatMap]
    simp only [List.mem_filterMap]
  refine ⟨?_, fun c => ?_, fun D' h => ?_, fun D' h q hq => ?_, fun f hf => ?_, ?_⟩
  · rw [List.nodup_append]
    refine ⟨J.nd, hd.filter _, fun a ha b hb e => ?_⟩
    have := (List.mem_filter.mp hb).2
    rw [← e] at this
    exact of_decide_eq_true this ha
  · rw [List.mem_append, List.mem_filter]
    constructor
    · rintro (h | ⟨h1, _⟩)
      · obtain ⟨q, h1, h2⟩ := (J.mem c).mp h
        exact ⟨q, List.mem_append_left _ h1, h2⟩
      · exact ⟨(d, lines), List.mem_append_right _ (List.mem_singleton.mpr rfl), h1⟩
    · rintro ⟨q, h1, h2⟩
      rcases List.mem_append.mp h1 with h1 | h1
      · exact .inl ((J.mem c).mpr ⟨q, h1, h2⟩)
      · rw [List.mem_singleton.mp h1] at h2
        by_cases hk : c ∈ K
        · exact .inl hk
        · exact .inr ⟨h2, decide_eq_true hk⟩
  · obtain ⟨D, hD, r, hr, e⟩ := (hmem D').mp h
    exact (join_facts (J.keys D hD) J.nd hd (hl r hr) e).1
  · obtain ⟨D, hD, r, hr, e⟩ := (hmem D').mp h
    obtain ⟨_, f2, f3, _⟩ := join_facts (J.keys D hD) J.nd hd (hl r hr) e
    rcases List.mem_append.mp hq with hq | hq
    · have := J.rows D hD q hq
      have e2 : q.1.map (val D') = q.1.map (val D) := List.map_congr_left fun c hc => f3 c ((J.mem c).mpr ⟨q, hq, hc⟩)
      rw [e2]
      exact this
    · rw [List.mem_singleton.mp hq]
      show d.map (val D') ∈ lines
      rw [f2]
      exact hr
  · have h1 := J.full f fun q hq => hf q (List.mem_append_left _ hq)
    have h2 : d.map f ∈ lines := hf (d, lines) (List.mem_append_right _ (List.mem_singleton.mpr rfl))
    refine (hmem _).mpr ⟨_, h1, _, h2, ?_⟩
    rw [zip_self, joinL_eq _ _ (by rw [List.map_map]; show (d.map fun c => c).Nodup; rw [List.map_id']; exact hd), if_pos]
    · congr 1
      rw [List.map_append, List.filter_map]
      congr 2
      refine List.filter_congr fun c _ => ?_
      show decide (lk (K.map fun c => (c, f c)) c = none) = decide (c ∉ K)
      have : lk (K.map fun c => (c, f c)) c = none ↔ c ∉ K := by
        rw [lk_none, List.map_map]
        show c ∉ K.map (fun c => c) ↔ _
        rw [List.map_id']
      simp only [this]
    · intro p hp
      obtain ⟨c, _, rfl⟩ := List.mem_map.mp hp
      by_cases hk : c ∈ K
      · exact .inl (lk_map f hk)
      · right
        rw [lk_none, List.map_map]
        show c ∉ K.map (fun c => c)
        rw [List.map_id']
        exact hk
  · rw [List.Nodup, List.pairwise_flatMap]
    refine ⟨fun D hD => ?_, ?_⟩
    · rw [List.pairwise_filterMap]
      refine hu.imp_of_mem fun {a b} ha hb hne x hx y hy e => ?_
      obtain ⟨_, f2, _⟩ := join_facts (J.keys D hD) J.nd hd (hl a ha) hx
      obtain ⟨_, g2, _⟩ := join_facts (J.keys D hD) J.nd hd (hl b hb) hy
      rw [e, g2] at f2
      exact hne f2.symm
    · refine J.uniq.imp_of_mem fun {D E} hD hE hne x hx y hy e => ?_
      rw [List.mem_filterMap] at hx hy
      obtain ⟨a, ha, hx⟩ := hx
      obtain ⟨b, hb, hy⟩ := hy
      obtain ⟨_, _, _, f4⟩ := join_facts (J.keys D hD) J.nd hd (hl a ha) hx
      obtain ⟨_, _, _, g4⟩ := join_facts (J.keys E hE) J.nd hd (hl b hb) hy
      have hlen : D.length = E.length := by
        have h1 := congrArg List.length (J.keys D hD)
        have h2 := congrArg List.length (J.keys E hE)
        rw [List.length_map] at h1 h2
        omega
      rw [e, hlen, g4] at f4
      exact hne f4.symm
/-! ### how many -/
theorem nodup_le {α : Type} [DecidableEq α] : ∀ {a b : List α}, a.Nodup → (∀ x ∈ a, x ∈ b) → a.length ≤ b.length
  | [], _, _, _ => Nat.zero_le _
  | x :: a, b, hn, h => by
    rw [List.nodup_cons] at hn
    have hx : x ∈ b := h x (List.mem_cons_self)
    have := nodup_le (a := a) (b := b.erase x) hn.2 fun y hy => (List.mem_erase_of_ne (fun e => hn.1 (by rw [← e]; exact hy))).mpr (h y (List.mem_cons_of_mem _ hy))
    rw [List.length_erase_of_mem hx] at this
    have := List.length_pos_of_mem hx
    rw [List.length_cons]
    omega
def choices (ns : List Int) : List Nat → List Dc
  | [] => [[]]
  | c :: K => (choices ns K).flatMap fun D => ns.map fun x => (c, x) :: D
theorem choices_len {ns : List Int} (h : ns.length ≤ 3) : ∀ K : List Nat, (choices ns K).length ≤ 3 ^ K.length
  | [] => Nat.le_refl _
  | c :: K => by
    have ih := choices_len h K
    unfold choices
    rw [List.length_flatMap]
    have : ∀ P : List Dc, (P.map fun D => (ns.map fun x => (c, x) :: D).length).sum = P.length * ns.length := fun P => by
      induction P with
      | nil => simp
      | cons D P ih => rw [List.map_cons, List.sum_cons, ih, List.length_map, List.length_cons, Nat.succ_mul]; omega
    rw [this, List.length_cons, Nat.pow_succ]
    exact Nat.mul_le_mul ih h
theorem choices_mem {ns : List Int} (f : Nat → Int) : ∀ {K : List Nat}, (∀ c ∈ K, f c ∈ ns) → (K.map fun c => (c, f c)) ∈ choices ns K
  | [], _ => List.mem_singleton.mpr rfl
  | c :: K, h => by
    unfold choices
    rw [List.mem_flatMap]
    refine ⟨K.map fun c => (c, f c), choices_mem f fun c hc => h c (List.mem_cons_of_mem _ hc), List.mem_map.mpr ⟨f c, h c List.mem_cons_self, rfl⟩⟩
theorem jinv_val {pr : List (List Nat × List (List Int))} {K : List Nat} {P : List Dc} {ns : List Int} (J : JInv pr K P) (hns : ∀ q ∈ pr, ∀ r ∈ q.2, ∀ x ∈ r, x ∈ ns) {D : Dc} (hD : D ∈ P) {c : Nat} (hc : c ∈ K) : val D c ∈ ns := by
  obtain ⟨q, hq, h⟩ := (J.mem c).mp hc
  exact hns q hq _ (J.rows D hD q hq) _ (List.mem_map.mpr ⟨c, h, rfl⟩)
theorem jinv_len {pr : List (List Nat × List (List Int))} {K : List Nat} {P : List Dc} {ns : List Int} {cs : List Nat} (J : JInv pr K P) (hns : ∀ q ∈ pr, ∀ r ∈ q.2, ∀ x ∈ r, x ∈ ns) (h3 : ns.length ≤ 3) (hcs : ∀ q ∈ pr, ∀ c ∈ q.1, c ∈ cs) (h6 : cs.length ≤ 6) : P.length ≤ 729 ∧ K.length ≤ 6 := by
  have hK : K.length ≤ 6 := Nat.le_trans (nodup_le J.nd fun c hc => by
    obtain ⟨q, hq, h⟩ := (J.mem c).mp hc
    exact hcs q hq c h) h6
  refine ⟨?_, hK⟩
  refine Nat.le_trans (nodup_le (b := choices ns K) J.uniq fun D hD => ?_) (Nat.le_trans (choices_len h3 K) (Nat.pow_le_pow_right (n := 3) (by decide) hK))
  have e := dc_ext (D := D) (by rw [J.keys D hD]; exact J.nd)
  rw [J.keys D hD] at e
  rw [e]
  exact choices_mem (val D) fun c hc => jinv_val J hns hD hc
theorem jinv_0 : JInv [] [] [[]] := ⟨List.nodup_nil, fun c => by simp, fun D h => by rw [List.mem_singleton.mp h]; rfl, fun _ _ q hq => absurd hq (List.not_mem_nil), fun f _ => List.mem_singleton.mpr rfl, by simp⟩
/-! ### answers -/
def dF (D : Dc) : FV := .dK (D.map kvF)
def rsF (rs : List (List Int)) : FV := .lst (rs.map rowF)
noncomputable def B2 : DS := (dSeq (dSet 8 (dCall m_joined (dCons (dVar 6) (dCons (dVar 3) (dCons (dVar 7) dNil)))))
    (dIce 8 (dIf (dTest (dUn opNotN (dVar 8)))
    (dIce 8 (dApp 5 (dVar 8)))
    dSkip)))
theorem B2_ok {x0 x1 x2 x4 x8 x9 x10 : Option OV} {d : List Nat} {D : Dc} {r : List Int} {B : List Dc} (hz : D.length + d.length < 1000) (hb : (B ++ (joinL D (d.zip r)).toList).length < BIG) :
    ∃ y8, B2 [x0, x1, x2, some (.fz (letF d)), x4, some (.ol (B.map dF)), some (.fz (dF D)), some (.fz (rowF r)), x8, x9, x10] = .ok (.nx [x0, x1, x2, some (.fz (letF d)), x4, some (.ol ((B ++ (joinL D (d.zip r)).toList).map dF)), some (.fz (dF D)), some (.fz (rowF r)), y8, x9, x10]) := by
  have hj := joined_ok D d r hz
  cases e : joinL D (d.zip r) with
  | none =>
    rw [e] at hj
    refine ⟨some (.fz .non), ?_⟩
    unfold B2
    apply ev_seqN
    · apply ev_set
      apply ev_call
      · repeat' (first | exact ev_c | exact ev_skip | exact ev_varF rfl | exact ev_varL rfl | exact ev_varK rfl | exact ev_nil | exact e_add | exact e_sub | exact e_eq | exact e_ne | exact e_mod (by first | decide | omega) | exact e_mul (mulL (by first | decide | omega)) | exact e_mul (mulR (by first | decide | omega)) | apply ev_bin | apply ev_set | apply ev_ret | apply ev_seqN | apply ev_cons | apply ev_frz)
      · exact hj
      · exact .inl rfl
    · apply ev_ice'
      · rfl
      apply ev_ifF'
      · exact ev_test (ev_un (ev_varF rfl) rfl)
      · rw [ev_skip, Option.toList_none, List.append_nil]
        rfl
  | some D' =>
    rw [e] at hj
    refine ⟨some (.fz (dF D')), ?_⟩
    unfold B2
    apply ev_seqN
    · apply ev_set
      apply ev_call
      · repeat' (first | exact ev_c | exact ev_skip | exact ev_varF rfl | exact ev_varL rfl | exact ev_varK rfl | exact ev_nil | exact e_add | exact e_sub | exact e_eq | exact e_ne | exact e_mod (by first | decide | omega) | exact e_mul (mulL (by first | decide | omega)) | exact e_mul (mulR (by first | decide | omega)) | apply ev_bin | apply ev_set | apply ev_ret | apply ev_seqN | apply ev_cons | apply ev_frz)
      · exact hj
      · exact .inl rfl
    · apply ev_ice'
      · rfl
      apply ev_ifT'
      · exact ev_test (ev_un (ev_varF rfl) rfl)
      · apply ev_ice'
        · rfl
        have := ev_app (f := dVar 8) (i := 5) (p := .ol (B.map dF)) (p' := .ol ((B ++ [D']).map dF)) (env := [x0, x1, x2, some (.fz (letF d)), x4, some (.ol (B.map dF)), some (.fz (dF D)), some (.fz (rowF r)), some (.fz (dF D')), x9, x10]) (o := .fz (dF D')) rfl rfl (ev_varF rfl) (by
          rw [e, Option.toList_some, List.length_append, List.length_singleton] at hb
          show (B.map dF).length < BIG
          rw [List.length_map]
          omega) (by rw [List.map_append]; rfl)
        exact this
theorem rows_run {x0 x1 x2 x4 x9 x10 : Option OV} {d : List Nat} {D : Dc} (hz : D.length + d.length < 1000) : ∀ (rs : List (List Int)) (B : List Dc) (x7 x8 : Option OV), (B ++ rs.filterMap fun r => joinL D (d.zip r)).length < BIG →
    ∃ y7 y8, forL (tName 7) B2 (rs.map rowF) [x0, x1, x2, some (.fz (letF d)), x4, some (.ol (B.map dF)), some (.fz (dF D)), x7, x8, x9, x10] = .ok (.nx [x0, x1, x2, some (.fz (letF d)), x4, some (.ol ((B ++ rs.filterMap fun r => joinL D (d.zip r)).map dF)), some (.fz (dF D)), y7, y8, x9, x10])
  | [], B, x7, x8, _ => ⟨x7, x8, by rw [List.filterMap_nil, List.append_nil]; rfl⟩
  | r :: rs, B, x7, x8, hb => by
    have e : B ++ (r :: rs).filterMap (fun r => joinL D (d.zip r)) = (B ++ (joinL D (d.zip r)).toList) ++ rs.filterMap fun r => joinL D (d.zip r) := by
      rw [List.append_assoc]
      congr 1
      rw [List.filterMap_cons]
      cases joinL D (d.zip r) <;> rfl
    rw [e] at hb ⊢
    obtain ⟨y8, h1⟩ := B2_ok (x0 := x0) (x1 := x1) (x2 := x2) (x4 := x4) (x8 := x8) (x9 := x9) (x10 := x10) (d := d) (D := D) (r := r) (B := B) hz (by rw [List.length_append] at hb; omega)
    obtain ⟨z7, z8, h2⟩ := rows_run hz rs (B ++ (joinL D (d.zip r)).toList) (some (.fz (rowF r))) y8 hb
    refine ⟨z7, z8, ?_⟩
    rw [← h2]
    have hstep : forL (tName 7) B2 ((r :: rs).map rowF) [x0, x1, x2, some (.fz (letF d)), x4, some (.ol (B.map dF)), some (.fz (dF D)), x7, x8, x9, x10] =
        (B2 [x0, x1, x2, some (.fz (letF d)), x4, some (.ol (B.map dF)), some (.fz (dF D)), some (.fz (rowF r)), x8, x9, x10]).bind (loopK (forL (tName 7) B2 (rs.map rowF))) := rfl
    rw [hstep, h1]
    rfl
noncomputable def B1 : DS := (dIce 4 (dFor (dItems (dVar 4)) (tName 7) B2))
theorem parts_run {x0 x1 x2 x9 x10 : Option OV} {d : List Nat} {lines : List (List Int)} : ∀ (Ps : List Dc) (B : List Dc) (x6 x7 x8 : Option OV), (∀ D ∈ Ps, D.length + d.length < 1000) → (B ++ Ps.flatMap fun D => lines.filterMap fun r => joinL D (d.zip r)).length < BIG →
    ∃ y6 y7 y8, forL (tName 6) B1 (Ps.map dF) [x0, x1, x2, some (.fz (letF d)), some (.fz (rsF lines)), some (.ol (B.map dF)), x6, x7, x8, x9, x10] = .ok (.nx [x0, x1, x2, some (.fz (letF d)), some (.fz (rsF lines)), some (.ol ((B ++ Ps.flatMap fun D => lines.filterMap fun r => joinL D (d.zip r)).map dF)), y6, y7, y8, x9, x10])
  | [], B, x6, x7, x8, _, _ => ⟨x6, x7, x8, by rw [List.flatMap_nil, List.append_nil]; rfl⟩
  | D :: Ps, B, x6, x7, x8, hz, hb => by
    rw [List.flatMap_cons, ← List.append_assoc] at hb ⊢
    obtain ⟨y7, y8, h1⟩ := rows_run (x0 := x0) (x1 := x1) (x2 := x2) (x4 := some (.fz (rsF lines))) (x9 := x9) (x10 := x10) (d := d) (D := D) (hz D List.mem_cons_self) lines B x7 x8 (by rw [List.length_append] at hb; omega)
    obtain ⟨z6, z7, z8, h2⟩ := parts_run Ps (B ++ lines.filterMap fun r => joinL D (d.zip r)) (some (.fz (dF D))) y7 y8 (fun D h => hz D (List.mem_cons_of_mem _ h)) hb
    refine ⟨z6, z7, z8, ?_⟩
    rw [← h2]
    have hstep : forL (tName 6) B1 ((D :: Ps).map dF) [x0, x1, x2, some (.fz (letF d)), some (.fz (rsF lines)), some (.ol (B.map dF)), x6, x7, x8, x9, x10] =
        (B1 [x0, x1, x2, some (.fz (letF d)), some (.fz (rsF lines)), some (.ol (B.map dF)), some (.fz (dF D)), x7, x8, x9, x10]).bind (loopK (forL (tName 6) B1 (Ps.map dF))) := rfl
    have hb1 : B1 [x0, x1, x2, some (.fz (letF d)), some (.fz (rsF lines)), some (.ol (B.map dF)), some (.fz (dF D)), x7, x8, x9, x10] = .ok (.nx [x0, x1, x2, some (.fz (letF d)), some (.fz (rsF lines)), some (.ol ((B ++ lines.filterMap fun r => joinL D (d.zip r)).map dF)), some (.fz (dF D)), y7, y8, x9, x10]) := by
      unfold B1
      apply ev_ice'
      · rfl
      exact h1
    rw [hstep, hb1]
    rfl
def ice (x : Option OV) : Option OV := x.map fun o => .fz o.fv
theorem ev_iceA {i : Nat} {f : DS} {x : Option OV} {env : VEnv} {r : Ans SO} (h : env[i]? = some x) (h2 : f (env.set i (ice x)) = r) : dIce i f env = r := by
  cases x with
  | some o => rw [ev_ice h]; exact h2
  | none => exact ev_iceQ (.inl h) (by
      have hset : env.set i (ice none) = env := by
        apply List.ext_getElem?
        intro j
        by_cases hj : i = j
        · subst hj
          obtain ⟨hlt, _⟩ := List.getElem?_eq_some_iff.mp h
          rw [List.getElem?_set_self hlt, h]
          rfl
        · rw [List.getElem?_set_ne hj]
      rw [hset] at h2
      exact h2)
theorem lcF_mapA {α : Type} {t : TgF} {e : DE} {env : VEnv} {φ ψ : α → FV} : ∀ {l : List α}, (∀ a ∈ l, ∃ e1, t (φ a) env = some e1 ∧ e e1 = .ok (.st (.fz (ψ a)))) → lcF t dTrue e env (l.map φ) = .ok (l.map ψ)
  | [], _ => rfl
  | x :: xs, h => by
    obtain ⟨e1, h1, h3⟩ := h x List.mem_cons_self
    have ih := lcF_mapA (l := xs) fun y hy => h y (List.mem_cons_of_mem _ hy)
    rw [List.map_cons]
    unfold lcF
    rw [h1]
    show ((Ans.ok true : Ans Bool).nox.bind fun b => if b then (e e1).nox.bind fun r => match r.fz? with
        | some y => (lcF t dTrue e env (xs.map φ)).bind fun ys => .ok (y :: ys)
        | none => .no
      else lcF t dTrue e env (xs.map φ)) = _
    simp only [Ans.nox, Ans.bind]
    rw [if_pos trivial, h3]
    simp only [Rv.fz?, ih, List.map_cons]
theorem dLc_mapA {α : Type} {it : VEnv → Ans (List FV)} {t : TgF} {e : DE} {vs : List Nat} {env : VEnv} {φ ψ : α → FV} {l : List α} (hi : it env = .ok (l.map φ))
    (h : ∀ a ∈ l, ∃ e1, t (φ a) (frzE (wipeE env vs)) = some e1 ∧ e e1 = .ok (.st (.fz (ψ a)))) (hl : l.length ≤ BIG) (hc : FV.pureL (l.map ψ) = true) : dLc it t dTrue e vs env = .ok (.st (.ol (l.map ψ))) := by
  unfold dLc
  rw [hi]
  simp only [Ans.bind]
  rw [lcF_mapA h]
  simp only
  rw [if_pos]
  rw [Bool.and_eq_true, Bool.or_eq_true]
  exact ⟨decide_eq_true (by rw [List.length_map]; exact hl), .inr hc⟩
theorem pureL_ints : ∀ r : List Int, FV.pureL (r.map .int) = true
  | [] => rfl
  | x :: r => by rw [List.map_cons, FV.pureL, pureL_ints r]; rfl
theorem pureL_rows : ∀ rs : List (List Int), FV.pureL (rs.map rowF) = true
  | [] => rfl
  | x :: r => by
    rw [List.map_cons, FV.pureL, pureL_rows r, Bool.and_true]
    exact pureL_ints x
theorem get_dF {D : Dc} {c : Nat} (h : c ∈ D.map (·.1)) : opSub' (.fz (dF D)) (.fz (s1 c)) = some (.st (.fz (.int (val D c)))) := by
  have hl : lookK (D.map kvF) (.inr ⟨#[c]⟩ : Key) = some (.int (val D c)) := by
    rw [lookK_kv]
    cases e : lk D c with
    | none => exact absurd h (lk_none.mp e)
    | some v => unfold val; rw [e]; rfl
  have : dGet (.fz (dF D)) (s1 c) = some (some (.st (.fz (.int (val D c))))) := by
    show (some ((lookK (D.map kvF) (.inr ⟨#[c]⟩ : Key)).map fun v => Rv.st (.fz v))) = _
    rw [hl]
    rfl
  show (dGet (.fz (dF D)) (s1 c)).bind id = _
  rw [this]
  rfl
theorem answers_ok (ds : List (List Nat)) (R : List (List (List Int))) (cs : List Nat) (ns : List Int) (h6 : cs.length ≤ 6) (hd1 : 1 ≤ ds.length) (hd6 : ds.length ≤ 6) (hd : ∀ d ∈ ds, d.Nodup ∧ 1 ≤ d.length ∧ d.length ≤ 4 ∧ ∀ x ∈ d, x ∈ cs)
    (hn : ns.length ≤ 3) (F : FInv ds ns 200 R) :
    ∃ (ks : List Nat) (out : List (List Int)), ks.Pairwise (· < ·) ∧ (∀ x, x ∈ ks ↔ ∃ d ∈ ds, x ∈ d) ∧ out.Pairwise (· < ·) ∧ out.length ≤ 729 ∧ (∀ r, r ∈ out ↔ ∃ f : Nat → Int, r = ks.map f ∧ ∀ q ∈ ds.zip R, q.1.map f ∈ q.2) ∧
      m_answers [.lst (ds.map letF), .lst (R.map rsF)] = .ok (.ol (out.map rowF)) := by
  obtain ⟨ks, k1, k2, k3⟩ := letters_of_ok ds (by omega) fun d h => by have := (hd d h).2.2.1; omega
  have hlen : ds.length = R.length := F.1.symm
  have hzl : (ds.zip R).length = ds.length := by rw [List.length_zip]; omega
  -- what is known of a pair
  have hq : ∀ q ∈ ds.zip R, q.1 ∈ ds ∧ q.2.Nodup ∧ ∀ r ∈ q.2, r.length = q.1.length ∧ ∀ x ∈ r, x ∈ ns := fun q h => by
    obtain ⟨i, hi, e⟩ := List.mem_iff_getElem.mp h
    rw [List.getElem_zip] at e
    rw [hzl] at hi
    have := F.2 i (R[i]'(by omega)) (ds[i]'hi) (List.getElem?_eq_getElem _) (List.getElem?_eq_getElem _)
    subst e
    exact ⟨List.getElem_mem _, this.1, this.2.2⟩
  have hbound : ∀ {pr K P}, (∀ q ∈ pr, q ∈ ds.zip R) → JInv pr K P → P.length ≤ 729 ∧ K.length ≤ 6 := fun {pr K P} hp J => jinv_len (ns := ns) (cs := cs) J (fun q h r hr => ((hq q (hp q h)).2.2 r hr).2) hn (fun q h c hc => (hd q.1 (hq q (hp q h)).1).2.2.2 c hc) h6
  let E : List Dc → Option OV → Option OV → Option OV → Option OV → Option OV → Option OV → VEnv := fun P x3 x4 x5 x6 x7 x8 => [some (.fz (.lst (ds.map letF))), some (.fz (.lst (R.map rsF))), some (.fz (.lst (P.map dF))), x3, x4, x5, x6, x7, x8, none, none]
  have hit : dZip (dVar 0) (dVar 1) (E [[]] none none none none none none) = .ok ((ds.zip R).map fun q => .tup [letF q.1, rsF q.2]) := by
    show Ans.ok (zipF (ds.map letF) (R.map rsF)) = _
    congr 1
    unfold zipF
    rw [List.zip_map, List.map_map]
    rfl
  obtain ⟨e, w1, K, P, x3, x4, x5, x6, x7, x8, rfl, J⟩ := dFor_inv (t := tTup2 3 4) (body := (dSeq (dSet 5 (dList dNil))
    (dSeq (dIce 2 (dFor (dItems (dVar 2)) (tName 6) B1))
    (dIce 5 (dSet 2 (dVar 5))))))
    (I := fun i env => ∃ K P x3 x4 x5 x6 x7 x8, env = E P x3 x4 x5 x6 x7 x8 ∧ JInv ((ds.zip R).take i) K P) hit ⟨[], [[]], none, none, none, none, none, none, rfl, jinv_0⟩ (fun i y env hy ⟨K, P, x3, x4, x5, x6, x7, x8, he, J⟩ => by
      subst he
      have hi : i < (ds.zip R).length := by have := (List.getElem?_eq_some_iff.mp hy).1; rwa [List.length_map] at this
      have ey : y = .tup [letF (ds.zip R)[i].1, rsF (ds.zip R)[i].2] := by
        rw [List.getElem?_map, List.getElem?_eq_getElem hi] at hy
        exact (Option.some.inj hy).symm
      have hm := List.getElem_mem hi
      generalize hqi : (ds.zip R)[i] = q at hm ey
      obtain ⟨d, lines⟩ := q
      subst ey
      have hq1 := hq _ hm
      have htk : (ds.zip R).take (i + 1) = (ds.zip R).take i ++ [(d, lines)] := by rw [List.take_succ_eq_append_getElem hi, hqi]
      have J2 := jinv_step (lines := lines) (d := d) J (hd d hq1.1).1 (fun r h => (hq1.2.2 r h).1) hq1.2.1
      rw [← htk] at J2
      have hb2 := hbound (fun q h => List.mem_of_mem_take h) J2
      have hb1 := hbound (fun q h => List.mem_of_mem_take h) J
      obtain ⟨y6, y7, y8, hrun⟩ := parts_run (x0 := some (.fz (.lst (ds.map letF)))) (x1 := some (.fz (.lst (R.map rsF)))) (x2 := some (.fz (.lst (P.map dF)))) (x9 := none) (x10 := none) (d := d) (lines := lines) P [] x6 x7 x8 (fun D h => by
        have h1 := congrArg List.length (J.keys D h)
        rw [List.length_map] at h1
        have := (hd d hq1.1).2.2.1
        omega) (by
        rw [List.nil_append]
        exact Nat.lt_of_le_of_lt hb2.1 (by decide))
      rw [List.nil_append] at hrun
      refine ⟨_, _, rfl, .inl ?_, ⟨_, _, some (.fz (letF d)), some (.fz (rsF lines)), some (.fz (.lst ((P.flatMap fun D => lines.filterMap fun r => joinL D (d.zip r)).map dF))), y6, y7, y8, rfl, J2⟩⟩
      · apply ev_seqN (e := E P (some (.fz (letF d))) (some (.fz (rsF lines))) (some (.ol [])) x6 x7 x8)
        · rfl
        apply ev_seqN
        · apply ev_ice'
          · rfl
          exact hrun
        · apply ev_ice'
          · rfl
          apply ev_set
          exact ev_varF rfl)
  have hfull : (ds.zip R).take ((ds.zip R).map fun q => FV.tup [letF q.1, rsF q.2]).length = ds.zip R := by
    rw [List.length_map, List.take_length]
  rw [hfull] at J
  have hbP := hbound (fun q h => h) J
  have hKk : ∀ c, c ∈ K ↔ c ∈ ks := fun c => by
    rw [J.mem, k2]
    constructor
    · rintro ⟨q, h1, h2⟩
      exact ⟨q.1, (hq q h1).1, h2⟩
    · rintro ⟨d, h1, h2⟩
      obtain ⟨i, hi, e⟩ := List.mem_iff_getElem.mp h1
      refine ⟨(ds.zip R)[i]'(by omega), List.getElem_mem _, ?_⟩
      rw [List.getElem_zip]
      show c ∈ ds[i]
      rw [e]
      exact h2
  have hkne : ks ≠ [] := fun e => by
    obtain ⟨d, h1⟩ := List.exists_mem_of_length_pos (show 0 < ds.length by omega)
    obtain ⟨c, h2⟩ := List.exists_mem_of_length_pos (show 0 < d.length by have := (hd d h1).2.1; omega)
    have := (k2 c).mpr ⟨d, h1, h2⟩
    rw [e] at this
    cases this
  have hklen : ks.length ≤ 6 := Nat.le_trans (nodup_le (k1.imp fun h => Nat.ne_of_lt h) fun c hc => by
    obtain ⟨d, h1, h2⟩ := (k2 c).mp hc
    exact (hd d h1).2.2.2 c h2) h6
  let out := sortR (P.map fun D => ks.map (val D))
  have hnd : (P.map fun D => ks.map (val D)).Nodup := by
    rw [List.Nodup, List.pairwise_map]
    refine J.uniq.imp_of_mem fun {D D'} hD hD' hne e => hne ?_
    have e1 := dc_ext (D := D) (by rw [J.keys D hD]; exact J.nd)
    have e2 := dc_ext (D := D') (by rw [J.keys D' hD']; exact J.nd)
    rw [J.keys D hD] at e1
    rw [J.keys D' hD'] at e2
    rw [e1, e2]
    refine List.map_congr_left fun c hc => ?_
    have := List.map_inj_left.mp e c ((hKk c).mp hc)
    rw [this]
  refine ⟨ks, out, k1, k2, sortR_lt hnd, ?_, fun r => ?_, ?_⟩
  · show (sortR _).length ≤ _
    rw [sortR_len, List.length_map]
    exact hbP.1
  · show r ∈ sortR _ ↔ _
    rw [sortR_mem, List.mem_map]
    constructor
    · rintro ⟨D, h1, h2⟩
      exact ⟨val D, h2.symm, fun q h => J.rows D h1 q h⟩
    · rintro ⟨f, h1, h2⟩
      refine ⟨_, J.full f h2, ?_⟩
      rw [h1]
      exact List.map_congr_left fun c hc => val_map f ((hKk c).mpr hc)
  · have hlast : dLc (cItems (dVar 2)) (tName 6) dTrue (dFrz (dCallB opTup (dCons (dLc (cItems (dVar 9)) (tName 10) dTrue (dFrz (dSub (dVar 6) (dVar 10))) [10]) dNil))) [6]
        [some (.fz (.lst (ds.map letF))), some (.fz (.lst (R.map rsF))), some (.fz (.lst (P.map dF))), ice x3, ice x4, ice x5, ice x6, ice x7, ice x8, some (.fz (.lst (ks.map s1))), none] = .ok (.st (.ol (P.map fun D => rowF (ks.map (val D))))) := by
      apply dLc_mapA (φ := dF) (ψ := fun D => rowF (ks.map (val D))) (l := P)
      · exact ev_cItems (ev_varF rfl) rfl (.inr (.inl rfl))
      · intro D hD
        refine ⟨_, rfl, ?_⟩
        apply ev_frz (o := .fz (rowF (ks.map (val D))))
        apply ev_callB (rs := [.st (.ol (ks.map fun c => .int (val D c)))])
        · apply ev_cons
          · apply dLc_mapA (φ := s1) (ψ := fun c => .int (val D c)) (l := ks)
            · exact ev_cItems (ev_varF rfl) rfl (.inr (.inl rfl))
            · intro c hc
              refine ⟨_, rfl, ?_⟩
              apply ev_frz (o := .fz (.int (val D c)))
              exact ev_sub (ev_varF rfl) (ev_varF rfl) rfl (get_dF (by rw [J.keys D hD]; exact (hKk c).mpr hc))
            · exact Nat.le_trans hklen (by decide)
            · have := pureL_ints (ks.map (val D))
              rw [List.map_map] at this
              exact this
          · exact ev_nil
        · show some (OV.fz (.tup _)) = some (OV.fz (.tup _))
          rw [List.map_map]
          rfl
      · exact Nat.le_trans hbP.1 (by decide)
      · have := pureL_rows (P.map fun D => ks.map (val D))
        rw [List.map_map] at this
        exact this
    unfold m_answers D_answers
    apply ev_run (e := [some (.fz (.lst (ds.map letF))), some (.fz (.lst (R.map rsF))), some (.fz (.lst (P.map dF))), ice x3, ice x4, ice x5, ice x6, ice x7, ice x8, some (.fz (.lst (ks.map s1))), none])
    apply ev_seqN (e := [some (.fz (.lst (ds.map letF))), some (.fz (.lst (R.map rsF))), some (.ol [dF []]), none, none, none, none, none, none, none, none])
    · rfl
    apply ev_seqN (e := E P x3 x4 x5 x6 x7 x8)
    · apply ev_ice'
      · rfl
      apply ev_ice'
      · rfl
      apply ev_ice'
      · rfl
      exact w1
    apply ev_seqN
    · apply ev_set
      apply ev_call (o := .ol (ks.map s1))
      · repeat' (first | exact ev_c | exact ev_skip | exact ev_varF rfl | exact ev_varL rfl | exact ev_varK rfl | exact ev_nil | exact e_add | exact e_sub | exact e_eq | exact e_ne | exact e_mod (by first | decide | omega) | exact e_mul (mulL (by first | decide | omega)) | exact e_mul (mulR (by first | decide | omega)) | apply ev_bin | apply ev_set | apply ev_ret | apply ev_seqN | apply ev_cons | apply ev_frz)
      · exact k3
      · exact .inl rfl
    · apply ev_iceA rfl
      apply ev_iceA rfl
      apply ev_iceA rfl
      apply ev_iceA rfl
      apply ev_iceA rfl
      apply ev_iceA rfl
      apply ev_iceA rfl
      apply ev_iceA rfl
      apply ev_iceA rfl
      apply ev_ret
      apply ev_callB
      · apply ev_cons
        · exact hlast
        · exact ev_nil
      · show (if sortOk (P.map fun D => rowF (ks.map (val D))) then some (OV.ol (sortFV (P.map fun D => rowF (ks.map (val D))))) else none) = _
        have em : (P.map fun D => rowF (ks.map (val D))) = (P.map fun D => ks.map (val D)).map rowF := by rw [List.map_map]; rfl
        rw [em, if_pos (sortOk_row _ (by rw [List.length_map]; exact Nat.le_trans hbP.1 (by decide)) fun r hr e => by
          obtain ⟨D, _, rfl⟩ := List.mem_map.mp hr
          exact hkne (List.map_eq_nil_iff.mp e)), sort_row]
/-! ### the brute force of the law -/
theorem due_letters (x1 x2 : Option OV) (ds : List (List Nat)) (hz : ds.length ≤ 1000) (hd : ∀ d ∈ ds, d.length ≤ 1000) : ∃ (ks : List Nat) (p q : Option OV), ks.Nodup ∧ ks.length ≤ 1000 * ds.length ∧ (∀ x, x ∈ ks ↔ ∃ d ∈ ds, x ∈ d) ∧
    dFor (dItems (dVar 0)) (tName 4) (dIce 4 (dFor (dItems (dVar 4)) (tName 5) (dPut 3 (dVar 5) (dC (.bl true))))) [some (.fz (.lst (ds.map letF))), x1, x2, some (.oK []), none, none, none, none, none, none, none, none, none, none] = .ok (.nx [some (.fz (.lst (ds.map letF))), x1, x2, some (.oK (ks.map kk)), p, q, none, none, none, none, none, none, none, none]) := by
  let E : List Nat → Option OV → Option OV → VEnv := fun ks p q => [some (.fz (.lst (ds.map letF))), x1, x2, some (.oK (ks.map kk)), p, q, none, none, none, none, none, none, none, none]
  obtain ⟨e, w1, ks, p, q, rfl, w2, w3, w4⟩ := dFor_inv (it := dItems (dVar 0)) (t := tName 4) (body := dIce 4 (dFor (dItems (dVar 4)) (tName 5) (dPut 3 (dVar 5) (dC (.bl true))))) (env := E [] none none) (items := ds.map letF)
    (I := fun i env => ∃ ks p q, env = E ks p q ∧ ks.Nodup ∧ ks.length ≤ 1000 * i ∧ ∀ x, x ∈ ks ↔ ∃ d ∈ ds.take i, x ∈ d) (ev_items (.inr (.inl (ev_varF rfl)))) ⟨[], none, none, rfl, List.nodup_nil, Nat.zero_le _, by simp⟩ (fun i y env hy ⟨ks, p, q, he, h1, h2, h3⟩ => by
      subst he
      have hi : i < ds.length := by have := (List.getElem?_eq_some_iff.mp hy).1; rwa [List.length_map] at this
      have ey : y = letF ds[i] := by
        rw [List.getElem?_map, List.getElem?_eq_getElem hi] at hy
        exact (Option.some.inj hy).symm
      subst ey
      have hdi : ds[i].length ≤ 1000 := hd _ (List.getElem_mem hi)
      obtain ⟨e, u1, ls, q2, rfl, u2, u3, u4⟩ := dFor_inv (it := dItems (dVar 4)) (t := tName 5) (body := dPut 3 (dVar 5) (dC (.bl true))) (env := E ks (some (.fz (letF ds[i]))) q) (items := ds[i].map s1)
        (I := fun j env => ∃ ls q, env = E ls (some (.fz (letF ds[i]))) q ∧ ls.Nodup ∧ ls.length ≤ 1000 * i + j ∧ ∀ x, x ∈ ls ↔ x ∈ ks ∨ x ∈ ds[i].take j) (ev_items (.inr (.inr (ev_varF rfl)))) ⟨ks, q, rfl, h1, h2, by simp⟩ (fun j y env hy ⟨ls, q, he, k1, k2, k3⟩ => by
          subst he
          have hj : j < ds[i].length := by have := (List.getElem?_eq_some_iff.mp hy).1; rwa [List.length_map] at this
          have ey : y = s1 ds[i][j] := by
            rw [List.getElem?_map, List.getElem?_eq_getElem hj] at hy
            exact (Option.some.inj hy).symm
          subst ey
          refine ⟨E ls (some (.fz (letF ds[i]))) (some (.fz (s1 ds[i][j]))), E (if ds[i][j] ∈ ls then ls else ls ++ [ds[i][j]]) (some (.fz (letF ds[i]))) (some (.fz (s1 ds[i][j]))), rfl, .inl ?_, _, _, rfl, ?_, ?_, ?_⟩
          · have := ev_put (env := E ls (some (.fz (letF ds[i]))) (some (.fz (s1 ds[i][j])))) (i := 3) (fk := dVar 5) (fe := dC (.bl true)) (p := .oK (ls.map kk)) (o := .fz (.bl true)) (p' := .oK ((if ds[i][j] ∈ ls then ls else ls ++ [ds[i][j]]).map kk)) (r := .st (.fz (s1 ds[i][j]))) rfl rfl ev_c (ev_varF rfl)
              (by show (ls.map kk).length < 16777216; rw [List.length_map]; omega) (by
                show some (OV.oK (putKV (ls.map kk) (.inr ⟨#[ds[i][j]]⟩) (.bl true))) = _
                rw [put_kk])
            rw [this]
            rfl
          · split
            · exact k1
            · rename_i hn
              rw [List.nodup_append]
              exact ⟨k1, by simp, fun a ha b hb e => hn (by rw [List.mem_singleton] at hb; rw [← hb, ← e]; exact ha)⟩
          · split
            · omega
            · rw [List.length_append, List.length_singleton]; omega
          · intro x
            rw [List.take_add_one, List.getElem?_eq_getElem hj, Option.toList_some, List.mem_append, List.mem_singleton]
            split
            · rename_i hm
              rw [k3 x]
              constructor
              · rintro (h | h)
                · exact .inl h
                · exact .inr (.inl h)
              · rintro (h | h | h)
                · exact .inl h
                · exact .inr h
                · rw [h]; exact (k3 _).mp hm
            · rw [List.mem_append, List.mem_singleton, k3 x]
              constructor
              · rintro ((h | h) | h)
                · exact .inl h
                · exact .inr (.inl h)
                · exact .inr (.inr h)
              · rintro (h | h | h)
                · exact .inl (.inl h)
                · exact .inl (.inr h)
                · exact .inr h)
      rw [List.length_map] at u3 u4
      refine ⟨E ks (some (.fz (letF ds[i]))) q, _, rfl, .inl (ev_ice' rfl u1), ls, _, q2, rfl, u2, by omega, fun x => ?_⟩
      rw [u4 x, h3 x, List.take_add_one, List.getElem?_eq_getElem hi, Option.toList_some, List.take_of_length_le (Nat.le_refl _)]
      constructor
      · rintro (⟨d, h, h'⟩ | h)
        · exact ⟨d, List.mem_append_left _ h, h'⟩
        · exact ⟨ds[i], List.mem_append_right _ (List.mem_singleton.mpr rfl), h⟩
      · rintro ⟨d, h, h'⟩
        rcases List.mem_append.mp h with h | h
        · exact .inl ⟨d, h, h'⟩
        · rw [List.mem_singleton.mp h] at h'
          exact .inr h')
  rw [List.length_map] at w3 w4
  exact ⟨ks, p, q, w2, w3, fun x => by rw [w4 x, List.take_of_length_le (Nat.le_refl _)], w1⟩
noncomputable def C2 : DS := (dExt 8 (dFrz (dLc (cItems (dSortSet (dCall m__law_numbers (dCons (dVar 2) dNil)))) (tName 13) dTrue (dFrz (dBin opAdd (dVar 9) (dTup (dCons (dVar 13) dNil)))) [13])))
theorem ints_map : ∀ ns : List Int, ints? (ns.map .int) = some ns
  | [] => rfl
  | x :: ns => by rw [List.map_cons]; unfold ints?; rw [ints_map ns]; rfl
theorem C2_ok {c : Int} {ns : List Int} (hn : m__law_numbers [.int c] = .ok (.fz (.lst (ns.map .int)))) (h3 : ns.length ≤ 3) {x0 x1 x3 x4 x5 x6 x7 x10 x11 x12 : Option OV} {t : List Int} {B : List (List Int)} (ht : t.length < 100) (hb : (B ++ (sortI ns).map fun x => t ++ [x]).length < 1000) :
    C2 [x0, x1, some (.fz (.int c)), x3, x4, x5, x6, x7, some (.ol (B.map rowF)), some (.fz (rowF t)), x10, x11, x12, none] = .ok (.nx [x0, x1, some (.fz (.int c)), x3, x4, x5, x6, x7, some (.ol ((B ++ (sortI ns).map fun x => t ++ [x]).map rowF)), some (.fz (rowF t)), x10, x11, x12, none]) := by
  have hl : (dLc (cItems (dSortSet (dCall m__law_numbers (dCons (dVar 2) dNil)))) (tName 13) dTrue (dFrz (dBin opAdd (dVar 9) (dTup (dCons (dVar 13) dNil)))) [13]) [x0, x1, some (.fz (.int c)), x3, x4, x5, x6, x7, some (.ol (B.map rowF)), some (.fz (rowF t)), x10, x11, x12, none] = .ok (.st (.ol ((sortI ns).map fun x => rowF (t ++ [x])))) := by
    apply dLc_mapA (φ := FV.int) (ψ := fun x => rowF (t ++ [x])) (l := sortI ns)
    · apply ev_cItems (r := .st (.ol ((sortI ns).map .int)))
      · unfold dSortSet
        rw [ev_call (rs := [.st (.fz (.int c))]) (o := .fz (.lst (ns.map .int))) (by repeat' (first | exact ev_c | exact ev_skip | exact ev_varF rfl | exact ev_varL rfl | exact ev_varK rfl | exact ev_nil | exact e_add | exact e_sub | exact e_eq | exact e_ne | exact e_mod (by first | decide | omega) | exact e_mul (mulL (by first | decide | omega)) | exact e_mul (mulR (by first | decide | omega)) | apply ev_bin | apply ev_set | apply ev_ret | apply ev_seqN | apply ev_cons | apply ev_frz)) hn (.inl rfl), bind_ok]
        show (match (some (ns.map FV.int)).bind ints? with
          | some ns => if ns.length < 64 then Ans.ok (Rv.st (.ol ((sortI ns).map .int))) else .no
          | none => .no) = _
        rw [Option.bind_some, ints_map]
        show (if ns.length < 64 then Ans.ok (Rv.st (.ol ((sortI ns).map .int))) else .no) = _
        rw [if_pos (by omega)]
      · rfl
      · exact .inl rfl
    · intro x hx
      refine ⟨_, rfl, ?_⟩
      apply ev_frz (o := .fz (rowF (t ++ [x])))
      apply ev_bin
      · exact ev_varF rfl
      · apply ev_tup (rs := [.st (.fz (.int x))]) (xs := [.int x])
        · exact ev_cons (ev_varF rfl) ev_nil
        · show 1 ≤ 1000
          decide
        · rfl
      · show (if (t.map FV.int).length + [FV.int x].length ≤ BIG then some (OV.fz (.tup (t.map FV.int ++ [FV.int x]))) else none) = _
        rw [if_pos (by rw [List.length_map]; show t.length + 1 ≤ 16777216; omega)]
        unfold rowF
        rw [List.map_append]
        rfl
    · rw [List.length_append, List.length_map] at hb
      show (sortI ns).length ≤ 16777216
      omega
    · have := pureL_rows ((sortI ns).map fun x => t ++ [x])
      rw [List.map_map] at this
      exact this
  unfold C2 dExt
  show ((dFrz _ _).bind fun r => match r with
    | .st (.fz (.lst zs)) => if (B.map rowF).length + zs.length ≤ BIG then Ans.ok (SO.nx (List.set _ 8 (some (.ol (B.map rowF ++ zs))))) else .no
    | _ => .no) = _
  rw [ev_frz hl, bind_ok]
  show (if (B.map rowF).length + ((sortI ns).map fun x => rowF (t ++ [x])).length ≤ BIG then Ans.ok (SO.nx (List.set _ 8 (some (.ol (B.map rowF ++ (sortI ns).map fun x => rowF (t ++ [x])))))) else .no) = _
  rw [List.length_append, List.length_map] at hb
  rw [if_pos (by rw [List.length_map, List.length_map]; show _ ≤ 16777216; omega), List.map_append, List.map_map]
  rfl
theorem prod_run {c : Int} {ns : List Int} (hn : m__law_numbers [.int c] = .ok (.fz (.lst (ns.map .int)))) (h3 : ns.length ≤ 3) {x0 x1 x3 x4 x5 x6 x7 x10 x11 x12 : Option OV} : ∀ (ts B : List (List Int)) (x9 : Option OV), (∀ t ∈ ts, t.length < 100) → (B ++ ts.flatMap fun t => (sortI ns).map fun x => t ++ [x]).length < 1000 →
    ∃ y9, forL (tName 9) C2 (ts.map rowF) [x0, x1, some (.fz (.int c)), x3, x4, x5, x6, x7, some (.ol (B.map rowF)), x9, x10, x11, x12, none] = .ok (.nx [x0, x1, some (.fz (.int c)), x3, x4, x5, x6, x7, some (.ol ((B ++ ts.flatMap fun t => (sortI ns).map fun x => t ++ [x]).map rowF)), y9, x10, x11, x12, none])
  | [], B, x9, _, _ => ⟨x9, by rw [List.flatMap_nil, List.append_nil]; rfl⟩
  | t :: ts, B, x9, ht, hb => by
    rw [List.flatMap_cons, ← List.append_assoc] at hb ⊢
    obtain ⟨y9, h2⟩ := prod_run hn h3 (x0 := x0) (x1 := x1) (x3 := x3) (x4 := x4) (x5 := x5) (x6 := x6) (x7 := x7) (x10 := x10) (x11 := x11) (x12 := x12) ts (B ++ (sortI ns).map fun x => t ++ [x]) (some (.fz (rowF t))) (fun t h => ht t (List.mem_cons_of_mem _ h)) hb
    refine ⟨y9, ?_⟩
    rw [← h2]
    have hstep : forL (tName 9) C2 ((t :: ts).map rowF) [x0, x1, some (.fz (.int c)), x3, x4, x5, x6, x7, some (.ol (B.map rowF)), x9, x10, x11, x12, none] =
        (C2 [x0, x1, some (.fz (.int c)), x3, x4, x5, x6, x7, some (.ol (B.map rowF)), some (.fz (rowF t)), x10, x11, x12, none]).bind (loopK (forL (tName 9) C2 (ts.map rowF))) := rfl
    rw [hstep, C2_ok hn h3 (ht t List.mem_cons_self) (by rw [List.length_append] at hb; omega)]
    rfl
/-- all tuples of n cells, in order -/
def pro (ms : List Int) : Nat → List (List Int)
  | 0 => [[]]
  | n + 1 => (pro ms n).flatMap fun t => ms.map fun x => t ++ [x]
theorem pro_mem {ms : List Int} : ∀ {n : Nat} {t : List Int}, t ∈ pro ms n ↔ t.length = n ∧ ∀ x ∈ t, x ∈ ms
  | 0, t => by
    unfold pro
    rw [List.mem_singleton]
    constructor
    · rintro rfl
      exact ⟨rfl, fun _ h => absurd h List.not_mem_nil⟩
    · rintro ⟨h, _⟩
      exact List.length_eq_zero_iff.mp h
  | n + 1, t => by
    unfold pro
    simp only [List.mem_flatMap, List.mem_map]
    constructor
    · rintro ⟨a, h1, x, h2, rfl⟩
      obtain ⟨h3, h4⟩ := pro_mem.mp h1
      refine ⟨by rw [List.length_append, List.length_singleton, h3], fun y hy => ?_⟩
      rcases List.mem_append.mp hy with h | h
      · exact h4 y h
      · rw [List.mem_singleton.mp h]; exact h2
    · rintro ⟨h1, h2⟩
      have hne : t ≠ [] := fun e => by rw [e] at h1; cases h1
      refine ⟨t.dropLast, pro_mem.mpr ⟨by rw [List.length_dropLast, h1]; rfl, fun y hy => h2 y ((List.dropLast_sublist t).subset hy)⟩, t.getLast hne, h2 _ (List.getLast_mem hne), List.dropLast_concat_getLast hne⟩
theorem pro_lt {ms : List Int} (h : ms.Pairwise (· < ·)) : ∀ n : Nat, (pro ms n).Pairwise (· < ·)
  | 0 => List.pairwise_singleton _ _
  | n + 1 => by
    unfold pro
    rw [List.pairwise_flatMap]
    refine ⟨fun t _ => ?_, ?_⟩
    · rw [List.pairwise_map]
      exact h.imp fun hxy => (rapp_lt rfl).mpr (.inr ⟨rfl, hxy⟩)
    · refine (pro_lt h n).imp_of_mem fun {a b} ha hb hab x hx y hy => ?_
      obtain ⟨u, _, rfl⟩ := List.mem_map.mp hx
      obtain ⟨v, _, rfl⟩ := List.mem_map.mp hy
      exact (rapp_lt ((pro_mem.mp ha).1.trans (pro_mem.mp hb).1.symm)).mpr (.inl hab)
theorem pro_len {ms : List Int} (h : ms.length ≤ 3) : ∀ n : Nat, (pro ms n).length ≤ 3 ^ n
  | 0 => Nat.le_refl _
  | n + 1 => by
    unfold pro
    rw [List.length_flatMap]
    have : ∀ P : List (List Int), (P.map fun t => (ms.map fun x => t ++ [x]).length).sum = P.length * ms.length := fun P => by
      induction P with
      | nil => simp
      | cons D P ih => rw [List.map_cons, List.sum_cons, ih, List.length_map, List.length_cons, Nat.succ_mul]; omega
    rw [this, Nat.pow_succ]
    exact Nat.mul_le_mul (pro_len h n) h
noncomputable def C1 : DS := (dSeq (dSet 8 (dList dNil))
  (dSeq (dIce 7 (dFor (dItems (dVar 7)) (tName 9) C2))
  (dIce 8 (dSet 7 (dVar 8)))))
theorem prods {c : Int} {ns : List Int} (hn : m__law_numbers [.int c] = .ok (.fz (.lst (ns.map .int)))) (h3 : ns.length ≤ 3) (hm : (sortI ns).length ≤ 3) {x0 x1 x3 x4 x6 x10 x11 x12 : Option OV} {ks : List Nat} (hk : ks.length ≤ 6) (h6 : x6 = some (.fz (.lst (ks.map s1)))) (x5 : Option OV) :
    ∃ y5 y8 y9, dFor (dItems (dVar 6)) (tName 5) C1 [x0, x1, some (.fz (.int c)), x3, x4, x5, x6, some (.fz (.lst [rowF []])), none, none, x10, x11, x12, none] = .ok (.nx [x0, x1, some (.fz (.int c)), x3, x4, y5, x6, some (.fz (.lst ((pro (sortI ns) ks.length).map rowF))), y8, y9, x10, x11, x12, none]) := by
  subst h6
  obtain ⟨e, w1, y5, y8, y9, rfl⟩ := dFor_inv (it := dItems (dVar 6)) (t := tName 5) (body := C1) (env := [x0, x1, some (.fz (.int c)), x3, x4, x5, some (.fz (.lst (ks.map s1))), some (.fz (.lst [rowF []])), none, none, x10, x11, x12, none]) (items := ks.map s1)
    (I := fun i env => ∃ y5 y8 y9, env = [x0, x1, some (.fz (.int c)), x3, x4, y5, some (.fz (.lst (ks.map s1))), some (.fz (.lst ((pro (sortI ns) i).map rowF))), y8, y9, x10, x11, x12, none]) (ev_items (.inr (.inl (ev_varF rfl)))) ⟨x5, none, none, rfl⟩ (fun i y env hy ⟨y5, y8, y9, he⟩ => by
      subst he
      have hi : i < ks.length := by have := (List.getElem?_eq_some_iff.mp hy).1; rwa [List.length_map] at this
      have hl := pro_len hm (i + 1)
      have hl2 : 3 ^ (i + 1) ≤ 3 ^ 6 := Nat.pow_le_pow_right (n := 3) (by decide) (by omega)
      obtain ⟨z9, hrun⟩ := prod_run hn h3 (x0 := x0) (x1 := x1) (x3 := x3) (x4 := x4) (x5 := some (.fz y)) (x6 := some (.fz (.lst (ks.map s1)))) (x7 := some (.fz (.lst ((pro (sortI ns) i).map rowF)))) (x10 := x10) (x11 := x11) (x12 := x12) (pro (sortI ns) i) [] y9 (fun t h => by have := (pro_mem.mp h).1; omega) (by
        rw [List.nil_append]
        show (pro (sortI ns) (i + 1)).length < 1000
        have : (3 : Nat) ^ 6 = 729 := by decide
        omega)
      rw [List.nil_append] at hrun
      refine ⟨_, [x0, x1, some (.fz (.int c)), x3, x4, some (.fz y), some (.fz (.lst (ks.map s1))), some (.fz (.lst ((pro (sortI ns) (i + 1)).map rowF))), some (.fz (.lst ((pro (sortI ns) (i + 1)).map rowF))), z9, x10, x11, x12, none], rfl, .inl ?_, ⟨_, _, _, rfl⟩⟩
      unfold C1
      apply ev_seqN (e := [x0, x1, some (.fz (.int c)), x3, x4, some (.fz y), some (.fz (.lst (ks.map s1))), some (.fz (.lst ((pro (sortI ns) i).map rowF))), some (.ol []), y9, x10, x11, x12, none])
      · rfl
      apply ev_seqN
      · apply ev_ice'
        · rfl
        exact hrun
      · apply ev_ice'
        · rfl
        apply ev_set
        exact ev_varF rfl)
  rw [List.length_map] at w1
  exact ⟨y5, y8, y9, w1⟩
theorem toDL_s1 : ∀ ks : List Nat, FV.toDL (ks.map s1) = some (ks.map fun c => PyData.str ⟨#[c]⟩)
  | [] => rfl
  | a :: rs => by rw [List.map_cons, FV.toDL, toDL_s1 rs]; rfl
theorem idx_s1 {ks : List Nat} {c : Nat} (h : c ∈ ks) (hk : ∀ x ∈ ks, x < 1000) : ∃ j, ks[j]? = some c ∧ opIndex (.fz (.lst (ks.map s1))) [.fz (s1 c)] = some (.fz (.int (j : Nat))) := by
  have hp : FV.pl (.lst (ks.map s1)) = true := by rw [FV.pl]; exact plL_of fun r hr => pl_s1 (hk r hr)
  have hdd : FV.dep (.lst (ks.map s1)) ≤ 2 := by
    rw [FV.dep, depL_s1]
    decide
  obtain ⟨d, e1, c1, d1⟩ := FV.pl_toD (pl_s1 (hk c h))
  obtain ⟨dl, e2, c2, d2⟩ := FV.pl_toD hp
  have e3 : dl = .list (ks.map fun c => PyData.str ⟨#[c]⟩) := by
    have : (FV.toDL (ks.map s1)).map PyData.list = some dl := e2
    rw [toDL_s1] at this
    exact (Option.some.inj this).symm
  have hd1 : (s1 c).dep = 0 := rfl
  have q1 : SeqAt.shaped d = true := by unfold SeqAt.shaped; rw [c1, d1, hd1]; rfl
  have q2 : SeqAt.shaped dl = true := by unfold SeqAt.shaped; rw [c2, d2]; exact decide_eq_true (by omega)
  rw [e3] at q2
  have hfind : ∀ {l : List Nat}, c ∈ l → (∀ x ∈ l, x < 1000) → ∃ j, l[j]? = some c ∧ (l.map fun c => PyData.str ⟨#[c]⟩).findIdx? (fun z => PyData.eqv z d) = some j := fun {l} => by
    induction l with
    | nil => exact fun h => absurd h List.not_mem_nil
    | cons a l ih =>
      intro hm hl
      have heq : PyData.eqv (PyData.str ⟨#[a]⟩) d = true ↔ s1 a = s1 c := FV.pl_eqv (pl_s1 (hl a List.mem_cons_self)) (pl_s1 (hk c h)) rfl e1
      rw [List.map_cons, List.findIdx?_cons]
      by_cases e : a = c
      · subst e
        exact ⟨0, rfl, by rw [if_pos (heq.mpr rfl)]⟩
      · obtain ⟨j, j1, j2⟩ := ih ((List.mem_cons.mp hm).resolve_left fun z => e z.symm) fun x hx => hl x (List.mem_cons_of_mem _ hx)
        refine ⟨j + 1, j1, ?_⟩
        rw [if_neg (fun z => e (s1_inj (heq.mp z))), j2]
        rfl
  obtain ⟨j, j1, j2⟩ := hfind h hk
  refine ⟨j, j1, ?_⟩
  show (match (s1 c).toD with
    | some d => match FV.toDL (ks.map s1) with
      | some ds => if SeqAt.shaped (.list ds) && SeqAt.shaped d then (ds.findIdx? fun z => PyData.eqv z d).map fun j => OV.fz (.int (j : Nat)) else none
      | none => none
    | _ => none) = _
  rw [e1, toDL_s1]
  show (if SeqAt.shaped (.list _) && SeqAt.shaped d then _ else none) = _
  rw [q1, q2, if_pos (show (true && true) = true from rfl), j2]
  rfl
theorem tup_map {ks : List Nat} {t : List Int} (hn : ks.Nodup) (hl : t.length = ks.length) : t = ks.map (val (ks.zip t)) := by
  have h1 : (ks.zip t).map (·.1) = ks := List.map_fst_zip (by omega)
  have h2 : (ks.zip t).map (·.2) = t := List.map_snd_zip (by omega)
  have := congrArg (List.map (·.2)) (dc_ext (D := ks.zip t) (by rw [h1]; exact hn))
  rw [h2, h1, List.map_map] at this
  exact this
noncomputable def T2e : DE := (dBin (opIn true) (dCallB opTup (dCons (dLc (cItems (dSub (dVar 0) (dVar 12))) (tName 5) dTrue (dFrz (dSub (dVar 9) (dMeth okLst opIndex (dVar 6) (dCons (dVar 5) dNil)))) [5]) dNil)) (dSub (dVar 1) (dVar 12)))
noncomputable def D2 : DS := (dIf (dTest T2e)
        (dSeq (dSet 11 (dC (.bl true)))
        dBrk)
        dSkip)
section
variable {ds : List (List Nat)} {R : List (List (List Int))} {ks : List Nat} {x2 x3 x4 x5 x7 x8 x10 x13 : Option OV}
theorem T2_ok {f : Nat → Int} {d : List Nat} {rs : List (List Int)} {i : Nat} (hd : ds[i]? = some d) (hr : R[i]? = some rs) (hk : ∀ c ∈ d, c ∈ ks) (hk2 : ∀ x ∈ ks, x < 1000) (hl : d.length < 100) (b : Bool) :
    T2e [some (.fz (.lst (ds.map letF))), some (.fz (.lst (R.map rsF))), x2, x3, x4, x5, some (.fz (.lst (ks.map s1))), x7, x8, some (.fz (rowF (ks.map f))), x10, some (.fz (.bl b)), some (.fz (.int (i : Nat))), x13] = .ok (.st (.fz (.bl (!decide (d.map f ∈ rs))))) := by
  unfold T2e
  apply ev_bin (r := .st (.fz (rowF (d.map f)))) (q := .st (.fz (rsF rs)))
  · apply ev_callB (rs := [.st (.ol (d.map fun c => .int (f c)))])
    · apply ev_cons
      · apply dLc_mapA (φ := s1) (ψ := fun c => .int (f c)) (l := d)
        · apply ev_cItems (r := .st (.fz (letF d)))
          · apply ev_sub
            · exact ev_varF rfl
            · exact ev_varF rfl
            · rfl
            · show (atI (ds.map letF) (i : Int)).map (fun v => Rv.st (.fz v)) = _
              rw [atI_nat (v := letF d) (by rw [List.getElem?_map, hd]; rfl)]
              rfl
          · rfl
          · exact .inr (.inr rfl)
        · intro c hc
          refine ⟨_, rfl, ?_⟩
          obtain ⟨j, j1, j2⟩ := idx_s1 (hk c hc) hk2
          apply ev_frz (o := .fz (.int (f c)))
          apply ev_sub (q := .st (.fz (.int (j : Nat))))
          · exact ev_varF rfl
          · exact ev_meth (ev_varF rfl) rfl (ev_cons (ev_varF rfl) ev_nil) j2
          · rfl
          · show (atI ((ks.map f).map FV.int) (j : Int)).map (fun v => Rv.st (.fz v)) = _
            rw [atI_nat (v := FV.int (f c)) (by rw [List.getElem?_map, List.getElem?_map, j1]; rfl)]
            rfl
        · show d.length ≤ 16777216
          omega
        · have := pureL_ints (d.map f)
          rw [List.map_map] at this
          exact this
      · exact ev_nil
    · show some (OV.fz (.tup _)) = some (OV.fz (.tup _))
      rw [List.map_map]
      rfl
  · apply ev_sub
    · exact ev_varF rfl
    · exact ev_varF rfl
    · rfl
    · show (atI (R.map rsF) (i : Int)).map (fun v => Rv.st (.fz v)) = _
      rw [atI_nat (v := rsF rs) (by rw [List.getElem?_map, hr]; rfl)]
      rfl
  · show opIn true (.fz (rowF (d.map f))) (.fz (rsF rs)) = _
    rw [in_rows (d.map f) rs rfl rfl true]
    cases decide (d.map f ∈ rs) <;> rfl
theorem chk_run {f : Nat → Int} (hz : R.length = ds.length) (hk : ∀ d ∈ ds, ∀ c ∈ d, c ∈ ks) (hk2 : ∀ x ∈ ks, x < 1000) (hl : ∀ d ∈ ds, d.length < 100) : ∀ (L : List Nat) (x12 : Option OV), (∀ i ∈ L, i < ds.length) →
    ∃ y12, forL (tName 12) D2 (L.map fun i => .int (i : Nat)) [some (.fz (.lst (ds.map letF))), some (.fz (.lst (R.map rsF))), x2, x3, x4, x5, some (.fz (.lst (ks.map s1))), x7, x8, some (.fz (rowF (ks.map f))), x10, some (.fz (.bl false)), x12, x13] =
      .ok (.nx [some (.fz (.lst (ds.map letF))), some (.fz (.lst (R.map rsF))), x2, x3, x4, x5, some (.fz (.lst (ks.map s1))), x7, x8, some (.fz (rowF (ks.map f))), x10, some (.fz (.bl (!decide (∀ i ∈ L, ∀ q, (ds.zip R)[i]? = some q → q.1.map f ∈ q.2)))), y12, x13])
  | [], x12, _ => ⟨x12, by simp; rfl⟩
  | i :: L, x12, hL => by
    have hi := hL i List.mem_cons_self
    have hzi : (ds.zip R)[i]? = some (ds[i], R[i]) := by
      rw [List.getElem?_eq_getElem (by rw [List.length_zip]; omega), List.getElem_zip]
    have hT := T2_ok (ds := ds) (R := R) (ks := ks) (x2 := x2) (x3 := x3) (x4 := x4) (x5 := x5) (x7 := x7) (x8 := x8) (x10 := x10) (x13 := x13) (f := f) (d := ds[i]) (rs := R[i]) (i := i) (List.getElem?_eq_getElem _) (List.getElem?_eq_getElem _) (hk _ (List.getElem_mem _)) hk2 (hl _ (List.getElem_mem _)) false
    let env : VEnv := [some (.fz (.lst (ds.map letF))), some (.fz (.lst (R.map rsF))), x2, x3, x4, x5, some (.fz (.lst (ks.map s1))), x7, x8, some (.fz (rowF (ks.map f))), x10, some (.fz (.bl false)), some (.fz (.int (i : Nat))), x13]
    have hstep : forL (tName 12) D2 ((i :: L).map fun i => .int (i : Nat)) [some (.fz (.lst (ds.map letF))), some (.fz (.lst (R.map rsF))), x2, x3, x4, x5, some (.fz (.lst (ks.map s1))), x7, x8, some (.fz (rowF (ks.map f))), x10, some (.fz (.bl false)), x12, x13] =
        (D2 env).bind (loopK (forL (tName 12) D2 (L.map fun i => .int (i : Nat)))) := rfl
    rw [hstep]
    unfold D2
    by_cases hin : ds[i].map f ∈ R[i]
    · rw [decide_eq_true hin] at hT
      rw [ev_ifF (ev_test hT), ev_skip, bind_ok]
      obtain ⟨y12, h2⟩ := chk_run hz hk hk2 hl L (some (.fz (.int (i : Nat)))) fun j h => hL j (List.mem_cons_of_mem _ h)
      refine ⟨y12, ?_⟩
      have hiff : (∀ j ∈ i :: L, ∀ q, (ds.zip R)[j]? = some q → q.1.map f ∈ q.2) ↔ ∀ j ∈ L, ∀ q, (ds.zip R)[j]? = some q → q.1.map f ∈ q.2 := by
        constructor
        · exact fun h j hj => h j (List.mem_cons_of_mem _ hj)
        · intro h j hj q hq
          rcases List.mem_cons.mp hj with rfl | hj
          · rw [hzi] at hq
            cases hq
            exact hin
          · exact h j hj q hq
      simp only [hiff]
      exact h2
    · rw [decide_eq_false hin] at hT
      rw [ev_ifT (ev_test hT)]
      refine ⟨some (.fz (.int (i : Nat))), ?_⟩
      have hno : ¬ ∀ j ∈ i :: L, ∀ q, (ds.zip R)[j]? = some q → q.1.map f ∈ q.2 := fun h => hin (h i List.mem_cons_self _ hzi)
      rw [decide_eq_false hno]
      rfl
end
noncomputable def B3 : DS := (dSeq (dSet 11 (dC (.bl false)))
  (dSeq (dFor (dRange (dCallB opLen (dCons (dVar 0) dNil))) (tName 12) D2)
  (dIf (dNotT (dTest (dVar 11)))
    (dIce 9 (dApp 10 (dVar 9)))
    dSkip)))
def good (ds : List (List Nat)) (R : List (List (List Int))) (ks : List Nat) (t : List Int) : Bool := decide (∀ i ∈ List.range ds.length, ∀ q, (ds.zip R)[i]? = some q → q.1.map (val (ks.zip t)) ∈ q.2)
section
variable {ds : List (List Nat)} {R : List (List (List Int))} {ks : List Nat} {x2 x3 x4 x5 x7 x8 x13 : Option OV}
theorem filt_run (hn : ks.Nodup) (hz : R.length = ds.length) (hk : ∀ d ∈ ds, ∀ c ∈ d, c ∈ ks) (hk2 : ∀ x ∈ ks, x < 1000) (hl : ∀ d ∈ ds, d.length < 100) (hds : ds.length < 100) : ∀ (ts B : List (List Int)) (x9 x11 x12 : Option OV), (∀ t ∈ ts, t.length = ks.length) → B.length + ts.length < 100000 →
    ∃ y9 y11 y12, forL (tName 9) B3 (ts.map rowF) [some (.fz (.lst (ds.map letF))), some (.fz (.lst (R.map rsF))), x2, x3, x4, x5, some (.fz (.lst (ks.map s1))), x7, x8, x9, some (.ol (B.map rowF)), x11, x12, x13] =
      .ok (.nx [some (.fz (.lst (ds.map letF))), some (.fz (.lst (R.map rsF))), x2, x3, x4, x5, some (.fz (.lst (ks.map s1))), x7, x8, y9, some (.ol ((B ++ ts.filter (good ds R ks)).map rowF)), y11, y12, x13])
  | [], B, x9, x11, x12, _, _ => ⟨x9, x11, x12, by rw [List.filter_nil, List.append_nil]; rfl⟩
  | t :: ts, B, x9, x11, x12, ht, hb => by
    rw [List.length_cons] at hb
    have hbl : (B ++ (if good ds R ks t then [t] else [])).length + ts.length < 100000 := by
      have h1 : (if good ds R ks t then [t] else []).length ≤ 1 := by
        cases good ds R ks t
        · exact Nat.zero_le _
        · exact Nat.le_refl _
      rw [List.length_append]
      omega
    obtain ⟨y12, hc⟩ := chk_run (ds := ds) (R := R) (ks := ks) (x2 := x2) (x3 := x3) (x4 := x4) (x5 := x5) (x7 := x7) (x8 := x8) (x10 := some (.ol (B.map rowF))) (x13 := x13) (f := val (ks.zip t)) hz hk hk2 hl (List.range ds.length) x12 (fun i h => List.mem_range.mp h)
    rw [← tup_map hn (ht t List.mem_cons_self)] at hc
    let env : VEnv := [some (.fz (.lst (ds.map letF))), some (.fz (.lst (R.map rsF))), x2, x3, x4, x5, some (.fz (.lst (ks.map s1))), x7, x8, some (.fz (rowF t)), some (.ol (B.map rowF)), x11, x12, x13]
    have hstep : forL (tName 9) B3 ((t :: ts).map rowF) [some (.fz (.lst (ds.map letF))), some (.fz (.lst (R.map rsF))), x2, x3, x4, x5, some (.fz (.lst (ks.map s1))), x7, x8, x9, some (.ol (B.map rowF)), x11, x12, x13] =
        (B3 env).bind (loopK (forL (tName 9) B3 (ts.map rowF))) := rfl
    have hB : B3 env = .ok (.nx [some (.fz (.lst (ds.map letF))), some (.fz (.lst (R.map rsF))), x2, x3, x4, x5, some (.fz (.lst (ks.map s1))), x7, x8, some (.fz (rowF t)), some (.ol ((B ++ (if good ds R ks t then [t] else [])).map rowF)), some (.fz (.bl (!good ds R ks t))), y12, x13]) := by
      unfold B3
      apply ev_seqN
      · exact ev_set ev_c
      apply ev_seqN (e := [some (.fz (.lst (ds.map letF))), some (.fz (.lst (R.map rsF))), x2, x3, x4, x5, some (.fz (.lst (ks.map s1))), x7, x8, some (.fz (rowF t)), some (.ol (B.map rowF)), some (.fz (.bl (!good ds R ks t))), y12, x13])
      · have hr : dRange (dCallB opLen (dCons (dVar 0) dNil)) (env.set 11 (some (.fz (.bl false)))) = .ok ((List.range ds.length).map fun i => .int (i : Nat)) := by
          apply ev_range (n := ds.length) (r := .st (.fz (.int (ds.length : Nat))))
          · apply ev_callB (rs := [.st (.fz (.lst (ds.map letF)))])
            · exact ev_cons (ev_varF rfl) ev_nil
            · show some (OV.fz (.int ((ds.map letF).length : Nat))) = _
              rw [List.length_map]
          · rfl
          · omega
        show ((dRange (dCallB opLen (dCons (dVar 0) dNil)) (env.set 11 (some (.fz (.bl false))))).bind fun xs => forL (tName 12) D2 xs (env.set 11 (some (.fz (.bl false))))) = _
        rw [hr, bind_ok]
        exact hc
      · cases hg : good ds R ks t with
        | true =>
          apply ev_ifT'
          · exact ev_notB (ev_test (ev_varF rfl)) rfl
          · apply ev_ice'
            · rfl
            rw [ev_app (p := .ol (B.map rowF)) (o := .fz (rowF t)) (p' := .ol ((B ++ [t]).map rowF)) rfl rfl (ev_varF rfl) (by show (B.map rowF).length < 16777216; rw [List.length_map]; omega) (by rw [List.map_append]; rfl)]
            rfl
        | false =>
          apply ev_ifF'
          · exact ev_notB (ev_test (ev_varF rfl)) rfl
          · rw [ev_skip]
            simp
    obtain ⟨z9, z11, z12, h2⟩ := filt_run hn hz hk hk2 hl hds ts (B ++ (if good ds R ks t then [t] else [])) (some (.fz (rowF t))) (some (.fz (.bl (!good ds R ks t)))) y12 (fun t h => ht t (List.mem_cons_of_mem _ h)) hbl
    refine ⟨z9, z11, z12, ?_⟩
    rw [hstep, hB, bind_ok]
    have e : B ++ (t :: ts).filter (good ds R ks) = B ++ (if good ds R ks t then [t] else []) ++ ts.filter (good ds R ks) := by
      rw [List.append_assoc]
      refine congrArg (fun z => B ++ z) ?_
      cases hg : good ds R ks t with
      | true => rw [List.filter_cons_of_pos hg]; rfl
      | false => rw [List.filter_cons_of_neg (by rw [hg]; decide)]; rfl
    rw [e]
    exact h2
end
theorem due_ok {ds : List (List Nat)} {R : List (List (List Int))} {cs : List Nat} {ns : List Int} {total : Int} (h6 : cs.length ≤ 6) (hcs : ∀ x ∈ cs, x < 91) (hd1 : 1 ≤ ds.length) (hd6 : ds.length ≤ 6) (hd : ∀ d ∈ ds, d.Nodup ∧ 1 ≤ d.length ∧ d.length ≤ 4 ∧ ∀ x ∈ d, x ∈ cs)
    (hn3 : ns.length ≤ 3) (hnum : m__law_numbers [.int total] = .ok (.fz (.lst (ns.map .int)))) (F : FInv ds ns 200 R) {ks : List Nat} {out : List (List Int)} (k1 : ks.Pairwise (· < ·)) (k2 : ∀ x, x ∈ ks ↔ ∃ d ∈ ds, x ∈ d) (o1 : out.Pairwise (· < ·)) (o2 : ∀ r, r ∈ out ↔ ∃ f : Nat → Int, r = ks.map f ∧ ∀ q ∈ ds.zip R, q.1.map f ∈ q.2) :
    m__law_due [.lst (ds.map letF), .lst (R.map rsF), .int total] = .ok (.ol (out.map rowF)) := by
  have hlen : R.length = ds.length := F.1
  have hknd : ks.Nodup := k1.imp fun h => Nat.ne_of_lt h
  have hkcs : ∀ c ∈ ks, c ∈ cs := fun c hc => by
    obtain ⟨d, h1, h2⟩ := (k2 c).mp hc
    exact (hd d h1).2.2.2 c h2
  have hklen : ks.length ≤ 6 := Nat.le_trans (nodup_le hknd hkcs) h6
  have hk2 : ∀ x ∈ ks, x < 1000 := fun x hx => by have := hcs x (hkcs x hx); omega
  have hmlen : (sortI ns).length ≤ 3 := Nat.le_trans (nodup_le ((sortI_lt ns).imp fun h => by omega) fun x hx => sortI_mem.mp hx) hn3
  have hmem : ∀ q, q ∈ ds.zip R ↔ ∃ i ∈ List.range ds.length, (ds.zip R)[i]? = some q := fun q => by
    constructor
    · intro h
      obtain ⟨i, hi, e⟩ := List.mem_iff_getElem.mp h
      refine ⟨i, List.mem_range.mpr (by rw [List.length_zip] at hi; omega), ?_⟩
      rw [List.getElem?_eq_getElem hi, e]
    · rintro ⟨i, _, h⟩
      exact List.mem_of_getElem? h
  have hgood : ∀ t, good ds R ks t = true ↔ ∀ q ∈ ds.zip R, q.1.map (val (ks.zip t)) ∈ q.2 := fun t => by
    unfold good
    rw [decide_eq_true_iff]
    constructor
    · intro h q hq
      obtain ⟨i, h1, h2⟩ := (hmem q).mp hq
      exact h i h1 q h2
    · intro h i hi q hq
      exact h q ((hmem q).mpr ⟨i, hi, hq⟩)
  have hfin : (pro (sortI ns) ks.length).filter (good ds R ks) = out := by
    refine strictR_eq ((pro_lt (sortI_lt ns) _).filter _) o1 fun t => ?_
    rw [List.mem_filter, pro_mem, hgood, o2]
    constructor
    · rintro ⟨⟨h1, _⟩, h3⟩
      exact ⟨val (ks.zip t), tup_map hknd h1, h3⟩
    · rintro ⟨f, rfl, h⟩
      have hv : ∀ c ∈ ks, val (ks.zip (ks.map f)) c = f c := fun c hc => by rw [zip_self, val_map f hc]
      refine ⟨⟨List.length_map _, fun x hx => ?_⟩, fun q hq => ?_⟩
      · obtain ⟨c, hc, rfl⟩ := List.mem_map.mp hx
        obtain ⟨d, h1, h2⟩ := (k2 c).mp hc
        obtain ⟨i, hi, e⟩ := List.mem_iff_getElem.mp h1
        have hzi : (ds.zip R)[i]? = some (ds[i], R[i]'(by omega)) := by
          rw [List.getElem?_eq_getElem (by rw [List.length_zip]; omega), List.getElem_zip]
        have := h _ (List.mem_of_getElem? hzi)
        have h3 := F.2 i (R[i]'(by omega)) (ds[i]'hi) (List.getElem?_eq_getElem _) (List.getElem?_eq_getElem _)
        exact sortI_mem.mpr ((h3.2.2 _ this).2 _ (List.mem_map.mpr ⟨c, by rw [e]; exact h2, rfl⟩))
      · have e : q.1.map (val (ks.zip (ks.map f))) = q.1.map f := List.map_congr_left fun c hc => hv c ((k2 c).mpr ⟨q.1, (List.of_mem_zip hq).1, hc⟩)
        rw [e]
        exact h q hq
  obtain ⟨ls, p, q, l1, l2, l3, w1⟩ := due_letters (some (.fz (.lst (R.map rsF)))) (some (.fz (.int total))) ds (by omega) fun d h => by have := (hd d h).2.2.1; omega
  have hls : sortN ls = ks := strict_eq (sortN_lt l1) k1 fun x => by rw [sortN_mem, l3 x, k2 x]
  obtain ⟨y5, y8, y9, w2⟩ := prods hnum hn3 hmlen (x0 := some (.fz (.lst (ds.map letF)))) (x1 := some (.fz (.lst (R.map rsF)))) (x3 := some (.oK (ls.map kk))) (x4 := p) (x6 := some (.fz (.lst (ks.map s1)))) (x10 := none) (x11 := none) (x12 := none) (ks := ks) hklen rfl q
  obtain ⟨z9, z11, z12, w3⟩ := filt_run (ds := ds) (R := R) (ks := ks) (x2 := some (.fz (.int total))) (x3 := some (.oK (ls.map kk))) (x4 := p) (x5 := y5) (x7 := some (.fz (.lst ((pro (sortI ns) ks.length).map rowF)))) (x8 := y8) (x13 := none) hknd hlen (fun d h c hc => (k2 c).mpr ⟨d, h, hc⟩) hk2 (fun d h => by have := (hd d h).2.2.1; omega) (by omega) (pro (sortI ns) ks.length) [] y9 none none (fun t h => (pro_mem.mp h).1) (by
    have a := pro_len hmlen ks.length
    have b : 3 ^ ks.length ≤ 3 ^ 6 := Nat.pow_le_pow_right (n := 3) (by decide) hklen
    have c : (3 : Nat) ^ 6 = 729 := by decide
    show 0 + _ < _
    omega)
  rw [List.nil_append, hfin] at w3
  unfold m__law_due D__law_due
  apply ev_run
  apply ev_seqN
  · exact ev_set (o := .oK []) rfl
  apply ev_seqN
  · exact ev_ice' rfl w1
  apply ev_seqN (e := [some (.fz (.lst (ds.map letF))), some (.fz (.lst (R.map rsF))), some (.fz (.int total)), some (.oK (ls.map kk)), p, q, some (.ol (ks.map s1)), none, none, none, none, none, none, none])
  · apply ev_set
    have hs := sortOk_s1 ls (by show ls.length ≤ 16777216; omega)
    have ek : (ls.map kk).map (fun kv => keyF kv.1) = ls.map s1 := by rw [List.map_map]; rfl
    show (if sortOk ((ls.map kk).map fun kv => keyF kv.1) then Ans.ok (Rv.st (.ol (sortFV ((ls.map kk).map fun kv => keyF kv.1)))) else .no) = _
    rw [ek, if_pos hs, sort_s1, hls]
  apply ev_seqN (e := [some (.fz (.lst (ds.map letF))), some (.fz (.lst (R.map rsF))), some (.fz (.int total)), some (.oK (ls.map kk)), p, q, some (.fz (.lst (ks.map s1))), some (.ol [rowF []]), none, none, none, none, none, none])
  · exact ev_ice' rfl rfl
  apply ev_seqN
  · exact ev_ice' rfl (ev_ice' rfl w2)
  apply ev_seqN
  · exact ev_set (o := .ol []) rfl
  apply ev_seqN
  · exact ev_ice' rfl w3
  exact ev_retV rfl
theorem whole_ok (x : Int) : m__law_whole [.int x] = .ok (.fz (.bl true)) := rfl
theorem law_true (ns : List Int) (h : ns.length ≤ 63) : ∃ env, lawAns ns = .ok (.rt (.fz (.bl true)) env) := by
  generalize hcells : ns.take 59 = cells
  have hcl : cells.length ≤ 59 := by rw [← hcells, List.length_take]; omega
  unfold lawAns
  rw [hcells]
  obtain ⟨cs, ds, a1, _, a3, a4, a5, a6, hsh⟩ := shape_spec cells.sum
  obtain ⟨ns, R, _, b2, b3, F, _, hro⟩ := rows_spec ds cells cells.sum a4 a5 (by omega) fun d h => ⟨(a6 d h).2.1, (a6 d h).2.2.1⟩
  obtain ⟨ks, out, k1, k2, o1, o3, o2, han⟩ := answers_ok ds R cs ns a1 a4 a5 a6 b2 F
  have hdue := due_ok (total := cells.sum) a1 a3 a4 a5 a6 b2 b3 F k1 k2 o1 o2
  have hkl : ks.length ≤ 6 := Nat.le_trans (nodup_le (k1.imp fun h => Nat.ne_of_lt h) fun c hc => by
    obtain ⟨d, h1, h2⟩ := (k2 c).mp hc
    exact (a6 d h1).2.2.2 c h2) a1
  have hol : ∀ r ∈ out, r.length ≤ 6 := fun r hr => by
    obtain ⟨f, e, _⟩ := (o2 r).mp hr
    rw [e, List.length_map]
    exact hkl
  have hro' : m__law_rows [.lst (ds.map letF), .lst (cells.map .int), .int cells.sum] = .ok (.ol (R.map rsF)) := hro
  have pS : FV.pl (.lst (ds.map letF)) = true := by
    rw [FV.pl]
    exact plL_of fun d hd => pl_letF fun x hx => by have := a3 x ((a6 d hd).2.2.2 x hx); omega
  have dS : FV.dep (.lst (ds.map letF)) ≤ 64 := by
    rw [FV.dep]
    have : FV.depL (ds.map letF) ≤ 1 := depL_of fun d _ => by rw [dep_letF]; exact Nat.le_refl _
    omega
  have plRows : ∀ rs : List (List Int), FV.pl (.lst (rs.map rowF)) = true := fun rs => by rw [FV.pl]; exact plL_of fun r _ => pl_row r
  have dRows : ∀ rs : List (List Int), FV.dep (.lst (rs.map rowF)) ≤ 2 := fun rs => by
    rw [FV.dep]
    have : FV.depL (rs.map rowF) ≤ 1 := depL_of fun r _ => by rw [dep_row]; exact Nat.le_refl _
    omega
  have pR : FV.pl (.lst (R.map rsF)) = true := by rw [FV.pl]; exact plL_of fun rs _ => plRows rs
  have dR : FV.dep (.lst (R.map rsF)) ≤ 64 := by
    rw [FV.dep]
    have : FV.depL (R.map rsF) ≤ 2 := depL_of fun rs _ => dRows rs
    omega
  let e0 : VEnv := [none, some (.fz (.lst (cells.map .int))), some (.fz (.int cells.sum)), some (.fz (.lst (ds.map letF))), some (.fz (.lst (R.map rsF))), some (.fz (.lst (out.map rowF))), some (.ol (out.map rowF)), none, none]
  -- the look at each answer
  obtain ⟨e, w1, x7, rfl⟩ := dFor_inv (t := tName 7) (it := qItems (dVar 6)) (body := (dIf (dOrT (dNotT (dTest (dUn (opIsa ["tuple"]) (dVar 7)))) (dTest (dBin opNe (dLc (cItems (dVar 7)) (tName 8) (dNotT (dTest (dCall m__law_whole (dCons (dVar 8) dNil)))) (dVar 8) [8]) (dList dNil))))
    (dRet (dC (.bl false)))
    dSkip)) (env := e0) (items := out.map rowF) (I := fun _ env => ∃ x7, env = [none, some (.fz (.lst (cells.map .int))), some (.fz (.int cells.sum)), some (.fz (.lst (ds.map letF))), some (.fz (.lst (R.map rsF))), some (.fz (.lst (out.map rowF))), some (.ol (out.map rowF)), x7, none]) rfl ⟨none, rfl⟩ (fun i y env hy ⟨x7, he⟩ => by
      subst he
      have hm := List.mem_of_getElem? hy
      obtain ⟨r, hr, rfl⟩ := List.mem_map.mp hm
      have hff : (r.map FV.int).filter (fun _ => false) = [] := List.filter_eq_nil_iff.mpr fun _ _ h => Bool.false_ne_true h
      refine ⟨_, _, rfl, .inl ?_, some (.fz (rowF r)), rfl⟩
      apply ev_ifF'
      · rw [ev_orF (ev_notB (b := true) (c := false) (ev_test (ev_un (op := opIsa ["tuple"]) (o := .fz (.bl true)) (ev_varF rfl) rfl)) rfl)]
        apply ev_test
        apply ev_bin (r := .st (.ol [])) (q := .st (.ol []))
        · have := dLc_ok (it := cItems (dVar 7)) (t := tName 8) (c := dNotT (dTest (dCall m__law_whole (dCons (dVar 8) dNil)))) (e := dVar 8) (vs := [8]) (env := [none, some (.fz (.lst (cells.map .int))), some (.fz (.int cells.sum)), some (.fz (.lst (ds.map letF))), some (.fz (.lst (R.map rsF))), some (.fz (.lst (out.map rowF))), some (.ol (out.map rowF)), some (.fz (rowF r)), none]) (items := r.map .int) (p := fun _ => false) (g := id) (ev_cItems (ev_varF rfl) rfl (.inr (.inr rfl))) (fun x hx => by
              obtain ⟨z, _, rfl⟩ := List.mem_map.mp hx
              refine ⟨_, rfl, ?_, fun h => by cases h⟩
              apply ev_notB (b := true)
              · apply ev_test
                apply ev_call
                · repeat' (first | exact ev_c | exact ev_skip | exact ev_varF rfl | exact ev_varL rfl | exact ev_varK rfl | exact ev_nil | exact e_add | exact e_sub | exact e_eq | exact e_ne | exact e_mod (by first | decide | omega) | exact e_mul (mulL (by first | decide | omega)) | exact e_mul (mulR (by first | decide | omega)) | apply ev_bin | apply ev_set | apply ev_ret | apply ev_seqN | apply ev_cons | apply ev_frz)
                · exact whole_ok z
                · exact .inl rfl
              · rfl) (by have := hol r hr; rw [List.length_map]; show r.length ≤ 16777216; omega) (.inr (by rw [hff]; rfl))
          rw [hff] at this
          exact this
        · exact ev_list ev_nil (by decide) rfl
        · rfl
      · rfl)
  have hOut : FV.pl (.lst (out.map rowF)) = true := plRows out
  have dOut : FV.dep (.lst (out.map rowF)) ≤ 64 := by have := dRows out; omega
  unfold D_law
  apply Exists.intro
  apply ev_seqN (e := [none, some (.fz (.lst (cells.map .int))), some (.fz (.int cells.sum)), none, none, none, none, none, none])
  · apply ev_ice'
    · rfl
    apply ev_set (o := .fz (.int cells.sum))
    apply ev_callB (rs := [.st (.fz (.lst (cells.map .int)))])
    · exact ev_cons (ev_varF rfl) ev_nil
    · show ((some (cells.map FV.int)).bind ints?).map (fun ns => OV.fz (.int ns.sum)) = _
      rw [Option.bind_some, ints_map]
      rfl
  apply ev_seqN (e := [none, some (.fz (.lst (cells.map .int))), some (.fz (.int cells.sum)), some (.ol (ds.map letF)), none, none, none, none, none])
  · apply ev_set (o := .ol (ds.map letF))
    apply ev_call
    · repeat' (first | exact ev_c | exact ev_skip | exact ev_varF rfl | exact ev_varL rfl | exact ev_varK rfl | exact ev_nil | exact e_add | exact e_sub | exact e_eq | exact e_ne | exact e_mod (by first | decide | omega) | exact e_mul (mulL (by first | decide | omega)) | exact e_mul (mulR (by first | decide | omega)) | apply ev_bin | apply ev_set | apply ev_ret | apply ev_seqN | apply ev_cons | apply ev_frz)
    · exact hsh
    · exact .inl rfl
  apply ev_seqN (e := [none, some (.fz (.lst (cells.map .int))), some (.fz (.int cells.sum)), some (.fz (.lst (ds.map letF))), some (.ol (R.map rsF)), none, none, none, none])
  · apply ev_ice'
    · rfl
    apply ev_set (o := .ol (R.map rsF))
    apply ev_call
    · repeat' (first | exact ev_c | exact ev_skip | exact ev_varF rfl | exact ev_varL rfl | exact ev_varK rfl | exact ev_nil | exact e_add | exact e_sub | exact e_eq | exact e_ne | exact e_mod (by first | decide | omega) | exact e_mul (mulL (by first | decide | omega)) | exact e_mul (mulR (by first | decide | omega)) | apply ev_bin | apply ev_set | apply ev_ret | apply ev_seqN | apply ev_cons | apply ev_frz)
    · exact hro'
    · exact .inl rfl
  apply ev_seqN (e := [none, some (.fz (.lst (cells.map .int))), some (.fz (.int cells.sum)), some (.fz (.lst (ds.map letF))), some (.fz (.lst (R.map rsF))), some (.ol (out.map rowF)), none, none, none])
  · apply ev_ice'
    · rfl
    apply ev_set (o := .ol (out.map rowF))
    apply ev_call
    · repeat' (first | exact ev_c | exact ev_skip | exact ev_varF rfl | exact ev_varL rfl | exact ev_varK rfl | exact ev_nil | exact e_add | exact e_sub | exact e_eq | exact e_ne | exact e_mod (by first | decide | omega) | exact e_mul (mulL (by first | decide | omega)) | exact e_mul (mulR (by first | decide | omega)) | apply ev_bin | apply ev_set | apply ev_ret | apply ev_seqN | apply ev_cons | apply ev_frz)
    · exact hdue
    · exact .inl rfl
  apply ev_seqN (e := e0)
  · apply ev_ice'
    · rfl
    apply ev_set (o := .ol (out.map rowF))
    apply ev_call
    · repeat' (first | exact ev_c | exact ev_skip | exact ev_varF rfl | exact ev_varL rfl | exact ev_varK rfl | exact ev_nil | exact e_add | exact e_sub | exact e_eq | exact e_ne | exact e_mod (by first | decide | omega) | exact e_mul (mulL (by first | decide | omega)) | exact e_mul (mulR (by first | decide | omega)) | apply ev_bin | apply ev_set | apply ev_ret | apply ev_seqN | apply ev_cons | apply ev_frz)
    · exact han
    · exact .inl rfl
  apply ev_seqN (e := e0)
  · apply ev_ifF'
    · rw [ev_orF (ev_notB (b := true) (c := false) (ev_test (ev_un (op := opIsa ["list"]) (o := .fz (.bl true)) (ev_varL rfl) rfl)) rfl)]
      apply ev_test
      apply ev_bin (r := .bo (.ol (out.map rowF))) (q := .st (.fz (.lst (out.map rowF))))
      · exact ev_varL rfl
      · exact ev_varF rfl
      · exact e_neD (a := .lst (out.map rowF)) (b := .lst (out.map rowF)) rfl rfl hOut hOut dOut dOut (fun i e => by cases e) (fun i e => by cases e) (by simp)
    · rfl
  apply ev_seqN
  · exact w1
  apply ev_seqN
  · exact ev_app (p := .ol (out.map rowF)) (o := .fz .non) (p' := .ol (out.map rowF ++ [.non])) rfl rfl ev_c (by show (out.map rowF).length < 16777216; rw [List.length_map]; omega) rfl
  apply ev_seqN
  · apply ev_ifF'
    · rw [ev_orF]
      · apply ev_test
        apply ev_bin (r := .st (.fz (.lst (R.map rsF)))) (q := .st (.ol (R.map rsF)))
        · exact ev_varF rfl
        · apply ev_call
          · repeat' (first | exact ev_c | exact ev_skip | exact ev_varF rfl | exact ev_varL rfl | exact ev_varK rfl | exact ev_nil | exact e_add | exact e_sub | exact e_eq | exact e_ne | exact e_mod (by first | decide | omega) | exact e_mul (mulL (by first | decide | omega)) | exact e_mul (mulR (by first | decide | omega)) | apply ev_bin | apply ev_set | apply ev_ret | apply ev_seqN | apply ev_cons | apply ev_frz)
          · exact hro'
          · exact .inl rfl
        · exact e_neD (a := .lst (R.map rsF)) (b := .lst (R.map rsF)) rfl rfl pR pR dR dR (fun i e => by cases e) (fun i e => by cases e) (by simp)
      · apply ev_test
        apply ev_bin (r := .st (.fz (.lst (ds.map letF)))) (q := .st (.ol (ds.map letF)))
        · exact ev_varF rfl
        · apply ev_call
          · repeat' (first | exact ev_c | exact ev_skip | exact ev_varF rfl | exact ev_varL rfl | exact ev_varK rfl | exact ev_nil | exact e_add | exact e_sub | exact e_eq | exact e_ne | exact e_mod (by first | decide | omega) | exact e_mul (mulL (by first | decide | omega)) | exact e_mul (mulR (by first | decide | omega)) | apply ev_bin | apply ev_set | apply ev_ret | apply ev_seqN | apply ev_cons | apply ev_frz)
          · exact hsh
          · exact .inl rfl
        · exact e_neD (a := .lst (ds.map letF)) (b := .lst (ds.map letF)) rfl rfl pS pS dS dS (fun i e => by cases e) (fun i e => by cases e) (by simp)
    · rfl
  apply ev_ret
  apply ev_bin (r := .st (.ol (out.map rowF))) (q := .st (.fz (.lst (out.map rowF))))
  · apply ev_call
    · repeat' (first | exact ev_c | exact ev_skip | exact ev_varF rfl | exact ev_varL rfl | exact ev_varK rfl | exact ev_nil | exact e_add | exact e_sub | exact e_eq | exact e_ne | exact e_mod (by first | decide | omega) | exact e_mul (mulL (by first | decide | omega)) | exact e_mul (mulR (by first | decide | omega)) | apply ev_bin | apply ev_set | apply ev_ret | apply ev_seqN | apply ev_cons | apply ev_frz)
    · exact han
    · exact .inl rfl
  · exact ev_varF rfl
  · exact e_eqD (a := .lst (out.map rowF)) (b := .lst (out.map rowF)) rfl rfl hOut hOut dOut dOut (fun i e => by cases e) (fun i e => by cases e) (by simp)
end J
open PySem PySem.W PyProof.Rows in
set_option maxRecDepth 100000 in
set_option maxHeartbeats 0 in
theorem PySem.Challenge.cw_joinwood_k03_answers_holds : PySem.Challenge.rw_joinwood_k03_answers.Holds := by
  w_on; o_law; k_head; (case hw => w_witness2)
  k_fill
  refine J.walk (l := PySem.Challenge.rw_joinwood_k03_answers) rfl rfl (fun w h Y => PySem.W.kIn_of Y) ?F
  case F =>
    intro w mg fa h KX G hmg
    refine' J.all_mk KX G hmg J.law_true ?a1 ?l1 ?c1 ?k1 ?a2 ?l2 ?c2 ?k2 ?a3 ?l3 ?c3 ?k3 ?a4 ?l4 ?c4 ?k4 ?a5 ?l5 ?c5 ?k5 ?a6 ?l6 ?c6 ?k6 ?a7 ?l7 ?c7 ?k7 ?a8 ?l8 ?c8 ?k8 ?a9 ?l9 ?c9 ?k9 ?a10 ?l10 ?c10 ?k10 ?a11 ?l11 ?c11 ?k11 ?z_sum ?z_isinstance ?z_list ?z_tuple ?z_range ?z_len ?z_min ?z_ord ?z_sorted ?z_set ?z_zip ?z_dict ?z_int ?z_bool
    (case a1 => k_is)
    (case l1 => k_is)
    (case c1 => k_is)
    (case k1 => k_is)
    (case a2 => k_is)
    (case l2 => k_is)
    (case c2 => k_is)
    (case k2 => k_is)
    (case a3 => k_is)
    (case l3 => k_is)
    (case c3 => k_is)
    (case k3 => k_is)
    (case a4 => k_is)
    (case l4 => k_is)
    (case c4 => k_is)
    (case k4 => k_is)
    (case a5 => k_is)
    (case l5 => k_is)
    (case c5 => k_is)
    (case k5 => k_is)
    (case a6 => k_is)
    (case l6 => k_is)
    (case c6 => k_is)
    (case k6 => k_is)
    (case a7 => k_is)
    (case l7 => k_is)
    (case c7 => k_is)
    (case k7 => k_is)
    (case a8 => k_is)
    (case l8 => k_is)
    (case c8 => k_is)
    (case k8 => k_is)
    (case a9 => k_is)
    (case l9 => k_is)
    (case c9 => k_is)
    (case k9 => k_is)
    (case a10 => k_is)
    (case l10 => k_is)
    (case c10 => k_is)
    (case k10 => k_is)
    (case a11 => k_is)
    (case l11 => k_is)
    (case c11 => k_is)
    (case k11 => k_is)
    (case z_sum => k_is)
    (case z_isinstance => k_is)
    (case z_list => k_is)
    (case z_tuple => k_is)
    (case z_range => k_is)
    (case z_len => k_is)
    (case z_min => k_is)
    (case z_ord => k_is)
    (case z_sorted => k_is)
    (case z_set => k_is)
    (case z_zip => k_is)
    (case z_dict => k_is)
    (case z_int => k_is)
    (case z_bool => k_is)
