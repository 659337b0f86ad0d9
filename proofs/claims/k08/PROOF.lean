import PyProof.Rows.All
import Wide.All
import OpenK.AllK
import Wide.FinOn
import HandS.ForMost
import HandS.WordsExc
import HandS.CallSlots
import HandS.Conv
import HandS.Codes
import HandS.Strs
import HandS.SortInts
import HandS.IsInst
import HandS.Deep
import HandS.DeepEq
import HandS.Wide
import HandS.WideMore
import HandS.WideBits
import HandS.TupAny
import HandS.TupLe
import HandS.TupLen
import HandS.Rev
import HandS.Style
import HandS.Remove
import HandS.Small
import HandS.SetFor
import HandS.EndBits
import PyProof.Rows.TupDisplay
import HandS.Iter
import HandS.DictTup
import HandS.TupSets
import HandS.More
import PyProof.DictTruth
import HandS.ExcIs
import KE.KIsAll
import KE.KTryMore
import KE.RegKIsAll
import KE.DataCmp
import PyProof.StrOps2
import HandS.Text
import HandS.Flow
import HandS.NoneIn
import PyProof.ReprRoads
import PyProof.CallFns
import HandS.Ends
import PyProof.P3In
import PyProof.EqKinds
import PyProof.FactsAll.dict_1
import HandS.TupMul
import PyProof.FitsInt
import KE.KDictZip
import KE.KDictKeyed
import PySem.Challenge.RW_nearplace_k08_ways_between
set_option Elab.async false
set_option linter.all false
set_option maxRecDepth 100000
/-! DLa: data as trees with marks (own, frozen), what stands for them in the abstract heap, slots. -/
namespace DL
open PySem PySem.Spec PyProof.Rows L2

inductive Dk where
  | k | t
  deriving DecidableEq, Inhabited
/-- data; the mark m says: the cell is owned by the place where the datum stands -/
inductive D where
  | non | bl (b : Bool) | int (i : Int) | str (x : Str) | ty (n : String) | gl (x : Str) | exc (x : Str)
  | tup (l : List D) | kt (l : List D) | lst (m : Bool) (l : List D) | dct (m : Bool) (t : Dk) (l : List (D × D))
  deriving Inhabited

mutual
/-- no own cell within -/
def D.cl : D → Bool
  | .tup l => clL l
  | .lst m l => !m && clL l
  | .dct m _ l => !m && clK l
  | _ => true
def clL : List D → Bool
  | [] => true
  | d :: r => d.cl && clL r
def clK : List (D × D) → Bool
  | [] => true
  | p :: r => p.2.cl && clK r
end
mutual
/-- frozen -/
def D.fz : D → D
  | .tup l => .tup (fzL l)
  | .kt l => .kt l
  | .lst _ l => .lst false (fzL l)
  | .dct _ t l => .dct false t (fzK l)
  | .non => .non
  | .bl b => .bl b
  | .int i => .int i
  | .str x => .str x
  | .ty n => .ty n
  | .gl x => .gl x
  | .exc x => .exc x
def fzL : List D → List D
  | [] => []
  | d :: r => d.fz :: fzL r
def fzK : List (D × D) → List (D × D)
  | [] => []
  | p :: r => (p.1, p.2.fz) :: fzK r
end
mutual
theorem D.fz_cl : ∀ d : D, d.cl = true → d.fz = d
  | .tup l, h => by rw [D.fz, fzL_cl l (by rw [D.cl] at h; exact h)]
  | .lst m l, h => by
    rw [D.cl, Bool.and_eq_true, Bool.not_eq_true'] at h
    obtain ⟨rfl, h2⟩ := h
    rw [D.fz, fzL_cl l h2]
  | .dct m t l, h => by
    rw [D.cl, Bool.and_eq_true, Bool.not_eq_true'] at h
    obtain ⟨rfl, h2⟩ := h
    rw [D.fz, fzK_cl l h2]
  | .kt _, _ => rfl
  | .non, _ => rfl
  | .bl _, _ => rfl
  | .int _, _ => rfl
  | .str _, _ => rfl
  | .ty _, _ => rfl
  | .gl _, _ => rfl
  | .exc _, _ => rfl
theorem fzL_cl : ∀ l : List D, clL l = true → fzL l = l
  | [], _ => rfl
  | d :: r, h => by
    rw [clL, Bool.and_eq_true] at h
    rw [fzL, d.fz_cl h.1, fzL_cl r h.2]
theorem fzK_cl : ∀ l : List (D × D), clK l = true → fzK l = l
  | [], _ => rfl
  | (a, b) :: r, h => by
    rw [clK, Bool.and_eq_true] at h
    rw [fzK, b.fz_cl h.1, fzK_cl r h.2]
end
mutual
theorem D.cl_fz : ∀ d : D, d.fz.cl = true
  | .tup l => by rw [D.fz, D.cl]; exact clL_fz l
  | .lst m l => by rw [D.fz, D.cl, clL_fz l]; rfl
  | .dct m t l => by rw [D.fz, D.cl, clK_fz l]; rfl
  | .kt _ => rfl
  | .non => rfl
  | .bl _ => rfl
  | .int _ => rfl
  | .str _ => rfl
  | .ty _ => rfl
  | .gl _ => rfl
  | .exc _ => rfl
theorem clL_fz : ∀ l : List D, clL (fzL l) = true
  | [] => rfl
  | d :: r => by rw [fzL, clL, d.cl_fz, clL_fz r]; rfl
theorem clK_fz : ∀ l : List (D × D), clK (fzK l) = true
  | [] => rfl
  | (a, b) :: r => by rw [fzK, clK, b.cl_fz, clK_fz r]; rfl
end
theorem clL_all : ∀ l : List D, clL l = l.all D.cl
  | [] => rfl
  | d :: r => by rw [clL, clL_all r]; rfl
theorem clK_all : ∀ l : List (D × D), clK l = clL (l.map (·.2))
  | [] => rfl
  | (a, b) :: r => by rw [clK, clK_all r]; rfl
theorem fzL_map : ∀ l : List D, fzL l = l.map D.fz
  | [] => rfl
  | d :: r => by rw [fzL, fzL_map r]; rfl
theorem fzK_map : ∀ l : List (D × D), fzK l = l.map fun p => (p.1, p.2.fz)
  | [] => rfl
  | (a, b) :: r => by rw [fzK, fzK_map r]; rfl

/-! ### what stands in the heap -/
def kD : L2.Key → D
  | .inl i => .int i
  | .inr x => .str x
def tD (k : List L2.Key) : D := .tup (k.map kD)
abbrev Mg := Str → Option Value

/-- a list of the written part -/
def KL (K : PySem.W.Frag) (a : Addr) (vs : List V) : Prop := ∃ its n, K.lookup a = some { cls := .type "list", data := .seq its n } ∧ its.size ≤ sizeLine ∧ Vals vs its.toList
def RdL (K : PySem.W.Frag) (H : Hp) (a : Addr) (vs : List V) : Prop := Rd H a (.lst vs) ∨ KL K a vs
theorem RdL.sq {K : PySem.W.Frag} {H : Hp} {a : Addr} {vs : List V} (h : RdL K H a vs) : SqL K H a vs := h.imp id fun ⟨its, n, e, z, r⟩ => ⟨_, its, n, e, rfl, rfl, rfl, z, r⟩
def FzL (K : PySem.W.Frag) (F : Hp) (a : Addr) (vs : List V) : Prop := F a = some (.lst vs) ∨ KL K a vs
def FzT (_ : PySem.W.Frag) (F : Hp) (a : Addr) (vs : List V) : Prop := F a = some (.tup vs)
/-- an exception object that is held -/
def ExH (c : Value) (a : Addr) : HO := .ext fun h => ∃ (oe : Obj) (vs : Array Value), h.get? a = some oe ∧ Zc c none oe ∧ oe.data = .fields vs
abbrev At (H : Hp) : Addr → HO → Prop := fun a o => H a = some o
abbrev Rt (H : Hp) : Addr → HO → Prop := fun a o => Rd H a o

mutual
inductive Rp (K : PySem.W.Frag) (mg : Mg) (F : Hp) (A : Addr → HO → Prop) : D → V → List Addr → Prop
  | non : Rp K mg F A .non .non []
  | bl (b : Bool) : Rp K mg F A (.bl b) (.bl b) []
  | int (i : Int) : Rp K mg F A (.int i) (.int i) []
  | str (x : Str) : Rp K mg F A (.str x) (.str x) []
  | ty (n : String) : Rp K mg F A (.ty n) (.ty n) []
  | gl {x : Str} {a : Addr} : mg x = some (.ref a) → Rp K mg F A (.gl x) (.ref a) []
  | exc {x : Str} {a : Addr} {c : Value} : mg x = some c → F a = some (ExH c a) → Rp K mg F A (.exc x) (.ref a) []
  | tup {a : Addr} {vs : List V} {ds : List D} {S : List Addr} : FzT K F a vs → Rps K mg F A ds vs S → Rp K mg F A (.tup ds) (.ref a) S
  | kt {a : Addr} {vs : List V} {ds : List D} : SqT K (fun _ => none) a vs → Rps K mg F A ds vs [] → Rp K mg F A (.kt ds) (.ref a) []
  | fl {a : Addr} {vs : List V} {ds : List D} : FzL K F a vs → Rps K mg F A ds vs [] → Rp K mg F A (.lst false ds) (.ref a) []
  | ol {a : Addr} {vs : List V} {ds : List D} {S : List Addr} : A a (.lst vs) → Rps K mg F A ds vs S → Rp K mg F A (.lst true ds) (.ref a) (a :: S)
  | fK {a : Addr} {kvs : List (L2.Key × V)} {ks ds : List D} {l : List (D × D)} : F a = some (.dK kvs) → ks = kvs.map (fun p => kD p.1) → l = ks.zip ds → Rps K mg F A ds (kvs.map (·.2)) [] → Rp K mg F A (.dct false .k l) (.ref a) []
  | oK {a : Addr} {kvs : List (L2.Key × V)} {ks ds : List D} {l : List (D × D)} {S : List Addr} : A a (.dK kvs) → ks = kvs.map (fun p => kD p.1) → l = ks.zip ds → Rps K mg F A ds (kvs.map (·.2)) S → Rp K mg F A (.dct true .k l) (.ref a) (a :: S)
  | fT {a : Addr} {kvs : List (List L2.Key × V)} {ks ds : List D} {l : List (D × D)} : F a = some (.dT kvs) → ks = kvs.map (fun p => tD p.1) → l = ks.zip ds → Rps K mg F A ds (kvs.map (·.2)) [] → Rp K mg F A (.dct false .t l) (.ref a) []
  | oT {a : Addr} {kvs : List (List L2.Key × V)} {ks ds : List D} {l : List (D × D)} {S : List Addr} : A a (.dT kvs) → ks = kvs.map (fun p => tD p.1) → l = ks.zip ds → Rps K mg F A ds (kvs.map (·.2)) S → Rp K mg F A (.dct true .t l) (.ref a) (a :: S)
inductive Rps (K : PySem.W.Frag) (mg : Mg) (F : Hp) (A : Addr → HO → Prop) : List D → List V → List Addr → Prop
  | nil : Rps K mg F A [] [] []
  | cons {d : D} {ds : List D} {v : V} {vs : List V} {S T : List Addr} : Rp K mg F A d v S → Rps K mg F A ds vs T → Rps K mg F A (d :: ds) (v :: vs) (S ++ T)
end
section
variable {K : PySem.W.Frag} {mg : Mg} {F F' H H' : Hp} {A A' : Addr → HO → Prop}
/-- more is frozen -/
def Sub (F F' : Hp) : Prop := ∀ a o, F a = some o → F' a = some o
theorem Sub.refl (F : Hp) : Sub F F := fun _ _ h => h
theorem Sub.trans {F F1 F2 : Hp} (h : Sub F F1) (h' : Sub F1 F2) : Sub F F2 := fun a o e => h' a o (h a o e)
theorem FzL.mono {a : Addr} {vs : List V} (s : Sub F F') (h : FzL K F a vs) : FzL K F' a vs := h.imp (s a _) id
theorem FzT.mono {a : Addr} {vs : List V} (s : Sub F F') (h : FzT K F a vs) : FzT K F' a vs := s a _ h
theorem Rps.length : ∀ {ds : List D} {vs : List V} {S : List Addr}, Rps K mg F A ds vs S → ds.length = vs.length
  | [], _, _, h => by cases h; rfl
  | d :: ds, _, _, h => by
    cases h with
    | cons h1 h2 => rw [List.length_cons, List.length_cons, h2.length]
theorem zip_snd {α β : Type} : ∀ {ks : List α} {ds : List β}, ks.length = ds.length → (ks.zip ds).map (·.2) = ds
  | [], [], _ => rfl
  | [], _ :: _, h => by simp at h
  | _ :: _, [], h => by simp at h
  | k :: ks, d :: ds, h => by
    rw [List.zip_cons_cons, List.map_cons, zip_snd (by simpa using h)]
theorem zip_fst {α β : Type} : ∀ {ks : List α} {ds : List β}, ks.length = ds.length → (ks.zip ds).map (·.1) = ks
  | [], [], _ => rfl
  | [], _ :: _, h => by simp at h
  | _ :: _, [], h => by simp at h
  | k :: ks, d :: ds, h => by
    rw [List.zip_cons_cons, List.map_cons, zip_fst (by simpa using h)]
theorem fzK_zip {ks ds : List D} : fzK (ks.zip ds) = ks.zip (fzL ds) := by
  rw [fzK_map, fzL_map]
  induction ks generalizing ds with
  | nil => rfl
  | cons k ks ih =>
    cases ds with
    | nil => rfl
    | cons d ds => simp [ih]
mutual
theorem Rp.mono (s : Sub F F') : ∀ {d : D} {v : V} {S : List Addr}, Rp K mg F A d v S → (∀ a ∈ S, ∀ o, A a o → A' a o) → Rp K mg F' A' d v S
  | _, _, _, .non, _ => .non
  | _, _, _, .bl b, _ => .bl b
  | _, _, _, .int i, _ => .int i
  | _, _, _, .str x, _ => .str x
  | _, _, _, .ty x, _ => .ty x
  | _, _, _, .gl h, _ => .gl h
  | _, _, _, .exc h h', _ => .exc h (s _ _ h')
  | _, _, _, .tup h hs, k => .tup (h.mono s) (Rps.mono s hs k)
  | _, _, _, .kt h hs, k => .kt h (Rps.mono s hs k)
  | _, _, _, .fl h hs, k => .fl (h.mono s) (Rps.mono s hs k)
  | _, _, _, .ol h hs, k => .ol (k _ List.mem_cons_self _ h) (Rps.mono s hs fun a ha => k a (List.mem_cons_of_mem _ ha))
  | _, _, _, .fK h e e' hs, k => .fK (s _ _ h) e e' (Rps.mono s hs k)
  | _, _, _, .oK h e e' hs, k => .oK (k _ List.mem_cons_self _ h) e e' (Rps.mono s hs fun a ha => k a (List.mem_cons_of_mem _ ha))
  | _, _, _, .fT h e e' hs, k => .fT (s _ _ h) e e' (Rps.mono s hs k)
  | _, _, _, .oT h e e' hs, k => .oT (k _ List.mem_cons_self _ h) e e' (Rps.mono s hs fun a ha => k a (List.mem_cons_of_mem _ ha))
theorem Rps.mono (s : Sub F F') : ∀ {ds : List D} {vs : List V} {S : List Addr}, Rps K mg F A ds vs S → (∀ a ∈ S, ∀ o, A a o → A' a o) → Rps K mg F' A' ds vs S
  | _, _, _, .nil, _ => .nil
  | _, _, _, .cons h hs, k => .cons (Rp.mono s h fun a ha => k a (List.mem_append_left _ ha)) (Rps.mono s hs fun a ha => k a (List.mem_append_right _ ha))
end
mutual
/-- all own cells are frozen -/
theorem Rp.freeze (s : Sub F F') : ∀ {d : D} {v : V} {S : List Addr}, Rp K mg F (At H) d v S → (∀ a ∈ S, F' a = H a) → Rp K mg F' A' d.fz v []
  | _, _, _, .non, _ => .non
  | _, _, _, .bl b, _ => .bl b
  | _, _, _, .int i, _ => .int i
  | _, _, _, .str x, _ => .str x
  | _, _, _, .ty x, _ => .ty x
  | _, _, _, .gl h, _ => .gl h
  | _, _, _, .exc h h', _ => .exc h (s _ _ h')
  | _, _, _, .tup h hs, k => by rw [D.fz]; exact .tup (h.mono s) (Rps.freeze s hs k)
  | _, _, _, .kt h hs, k => by rw [D.fz]; exact .kt h (Rps.mono s hs fun _ z => absurd z (by simp))
  | _, _, _, .fl h hs, k => by rw [D.fz]; exact .fl (h.mono s) (Rps.freeze s hs k)
  | _, _, _, .ol h hs, k => by rw [D.fz]; exact .fl (.inl ((k _ List.mem_cons_self).trans h)) (Rps.freeze s hs fun a ha => k a (List.mem_cons_of_mem _ ha))
  | _, _, _, .fK h e e' hs, k => by rw [D.fz, e', fzK_zip]; exact .fK (s _ _ h) e rfl (Rps.freeze s hs k)
  | _, _, _, .oK h e e' hs, k => by rw [D.fz, e', fzK_zip]; exact .fK ((k _ List.mem_cons_self).trans h) e rfl (Rps.freeze s hs fun a ha => k a (List.mem_cons_of_mem _ ha))
  | _, _, _, .fT h e e' hs, k => by rw [D.fz, e', fzK_zip]; exact .fT (s _ _ h) e rfl (Rps.freeze s hs k)
  | _, _, _, .oT h e e' hs, k => by rw [D.fz, e', fzK_zip]; exact .fT ((k _ List.mem_cons_self).trans h) e rfl (Rps.freeze s hs fun a ha => k a (List.mem_cons_of_mem _ ha))
theorem Rps.freeze (s : Sub F F') : ∀ {ds : List D} {vs : List V} {S : List Addr}, Rps K mg F (At H) ds vs S → (∀ a ∈ S, F' a = H a) → Rps K mg F' A' (fzL ds) vs []
  | _, _, _, .nil, _ => .nil
  | _, _, _, .cons h hs, k => by
    rw [fzL]
    exact .cons (S := []) (T := []) (Rp.freeze s h fun a ha => k a (List.mem_append_left _ ha)) (Rps.freeze s hs fun a ha => k a (List.mem_append_right _ ha))
end
mutual
theorem Rp.clean : ∀ {d : D} {v : V} {S : List Addr}, Rp K mg F A d v S → d.cl = true → S = []
  | _, _, _, .non, _ => rfl
  | _, _, _, .bl b, _ => rfl
  | _, _, _, .int i, _ => rfl
  | _, _, _, .str x, _ => rfl
  | _, _, _, .ty x, _ => rfl
  | _, _, _, .gl h, _ => rfl
  | _, _, _, .exc h h', _ => rfl
  | _, _, _, .tup h hs, k => Rps.clean hs (by rw [D.cl] at k; exact k)
  | _, _, _, .kt h hs, k => rfl
  | _, _, _, .fl h hs, k => rfl
  | _, _, _, .ol h hs, k => by rw [D.cl] at k; cases k
  | _, _, _, .fK h e e' hs, k => rfl
  | _, _, _, .oK h e e' hs, k => by rw [D.cl] at k; cases k
  | _, _, _, .fT h e e' hs, k => rfl
  | _, _, _, .oT h e e' hs, k => by rw [D.cl] at k; cases k
theorem Rps.clean : ∀ {ds : List D} {vs : List V} {S : List Addr}, Rps K mg F A ds vs S → clL ds = true → S = []
  | _, _, _, .nil, _ => rfl
  | _, _, _, .cons h hs, k => by
    rw [clL, Bool.and_eq_true] at k
    rw [Rp.clean h k.1, Rps.clean hs k.2]
    rfl
end
mutual
theorem Rp.cl_of : ∀ {d : D} {v : V} {S : List Addr}, Rp K mg F A d v S → S = [] → d.cl = true
  | _, _, _, .non, _ => rfl
  | _, _, _, .bl b, _ => rfl
  | _, _, _, .int i, _ => rfl
  | _, _, _, .str x, _ => rfl
  | _, _, _, .ty x, _ => rfl
  | _, _, _, .gl h, _ => rfl
  | _, _, _, .exc h h', _ => rfl
  | _, _, _, .tup h hs, k => by rw [D.cl]; exact Rps.cl_of hs k
  | _, _, _, .kt h hs, k => rfl
  | _, _, _, .fl h hs, k => by rw [D.cl, Rps.cl_of hs rfl]; rfl
  | _, _, _, .ol h hs, k => by cases k
  | _, _, _, .fK h e e' hs, k => by
    have z := hs.length
    rw [D.cl, e', clK_all, zip_snd (by rw [e, List.length_map, z, List.length_map]), Rps.cl_of hs rfl]; rfl
  | _, _, _, .oK h e e' hs, k => by cases k
  | _, _, _, .fT h e e' hs, k => by
    have z := hs.length
    rw [D.cl, e', clK_all, zip_snd (by rw [e, List.length_map, z, List.length_map]), Rps.cl_of hs rfl]; rfl
  | _, _, _, .oT h e e' hs, k => by cases k
theorem Rps.cl_of : ∀ {ds : List D} {vs : List V} {S : List Addr}, Rps K mg F A ds vs S → S = [] → clL ds = true
  | _, _, _, .nil, _ => rfl
  | _, _, _, .cons h hs, k => by
    rw [clL, Rp.cl_of h (List.append_eq_nil_iff.mp k).1, Rps.cl_of hs (List.append_eq_nil_iff.mp k).2]
    rfl
end
/-- frozen data lean on nothing else -/
theorem Rp.any {d : D} {v : V} (h : Rp K mg F A d v []) : Rp K mg F A' d v [] := h.mono (Sub.refl F) fun _ z => absurd z (by simp)
theorem Rps.any {ds : List D} {vs : List V} (h : Rps K mg F A ds vs []) : Rps K mg F A' ds vs [] := h.mono (Sub.refl F) fun _ z => absurd z (by simp)
theorem Rps.get : ∀ {ds : List D} {vs : List V} {S : List Addr} {i : Nat} {d : D}, Rps K mg F A ds vs S → ds[i]? = some d → ∃ v S', vs[i]? = some v ∧ Rp K mg F A d v S' ∧ ∀ a ∈ S', a ∈ S
  | _, _, _, _, _, .nil, e => by simp at e
  | _, _, _, 0, d, .cons h hs, e => by
    simp at e
    subst e
    exact ⟨_, _, rfl, h, fun a ha => List.mem_append_left _ ha⟩
  | _, _, _, i + 1, d, .cons h hs, e => by
    obtain ⟨v, S', e1, e2, e3⟩ := Rps.get (i := i) (d := d) hs (by simpa using e)
    exact ⟨v, S', by simpa using e1, e2, fun a ha => List.mem_append_right _ (e3 a ha)⟩
theorem Rps.getV : ∀ {ds : List D} {vs : List V} {S : List Addr} {i : Nat} {v : V}, Rps K mg F A ds vs S → vs[i]? = some v → ∃ d S', ds[i]? = some d ∧ Rp K mg F A d v S' ∧ ∀ a ∈ S', a ∈ S
  | _, _, _, _, _, .nil, e => by simp at e
  | _, _, _, 0, v, .cons h hs, e => by
    simp at e
    subst e
    exact ⟨_, _, rfl, h, fun a ha => List.mem_append_left _ ha⟩
  | _, _, _, i + 1, v, .cons h hs, e => by
    obtain ⟨d, S', e1, e2, e3⟩ := Rps.getV (i := i) (v := v) hs (by simpa using e)
    exact ⟨d, S', by simpa using e1, e2, fun a ha => List.mem_append_right _ (e3 a ha)⟩
theorem Rps.append : ∀ {ds es : List D} {vs us : List V} {S T : List Addr}, Rps K mg F A ds vs S → Rps K mg F A es us T → Rps K mg F A (ds ++ es) (vs ++ us) (S ++ T)
  | _, _, _, _, _, _, .nil, h => h
  | _, _, _, _, _, _, .cons h hs, h' => by
    rw [List.cons_append, List.cons_append, List.append_assoc]
    exact .cons h (Rps.append hs h')
theorem Rps.nil_of {ds : List D} {vs : List V} (h : ∀ (i : Nat) (v : V) (d : D), vs[i]? = some v → ds[i]? = some d → Rp K mg F A d v []) (hl : ds.length = vs.length) : Rps K mg F A ds vs [] := by
  induction ds generalizing vs with
  | nil =>
    cases vs with
    | nil => exact .nil
    | cons v vs => simp at hl
  | cons d ds ih =>
    cases vs with
    | nil => simp at hl
    | cons v vs =>
      exact .cons (S := []) (T := []) (h 0 v d rfl rfl) (ih (fun i v d e1 e2 => h (i + 1) v d (by simpa using e1) (by simpa using e2)) (by simpa using hl))
/-- frozen data stay frozen, item by item -/
theorem Rps.at0 {ds : List D} {vs : List V} (h : Rps K mg F A ds vs []) {i : Nat} {v : V} {d : D} (e1 : vs[i]? = some v) (e2 : ds[i]? = some d) : Rp K mg F A d v [] := by
  obtain ⟨v', S', e3, e4, e5⟩ := h.get e2
  rw [e1] at e3
  cases e3
  cases S' with
  | nil => exact e4
  | cons a S' => exact absurd (e5 a List.mem_cons_self) (by simp)
theorem Rps.pick {ds : List D} {vs : List V} (h : Rps K mg F A ds vs []) (f : List Nat) {ds' : List D} {vs' : List V} (hd : ds' = f.filterMap fun i => ds[i]?) (hv : vs' = f.filterMap fun i => vs[i]?) : Rps K mg F A ds' vs' [] := by
  subst hd hv
  induction f with
  | nil => exact .nil
  | cons i f ih =>
    rw [List.filterMap_cons, List.filterMap_cons]
    cases e : vs[i]? with
    | none =>
      have : ds[i]? = none := List.getElem?_eq_none_iff.mpr (by rw [h.length]; exact List.getElem?_eq_none_iff.mp e)
      rw [this]
      exact ih
    | some v =>
      obtain ⟨d, S', e1, e2, e3⟩ := h.getV e
      rw [e1]
      exact .cons (S := []) (T := []) (h.at0 e e1) ih
end

/-! ### slots -/
inductive Kd where
  | O | M | R
  deriving DecidableEq, Inhabited
inductive Sl where
  | un | sl (k : Kd) (d : D)
  deriving Inhabited
abbrev Env := List Sl
inductive RE (K : PySem.W.Frag) (mg : Mg) (F H : Hp) : Env → L2.St → List Addr → Prop
  | nil : RE K mg F H [] [] []
  | un {o : Option V} {env : Env} {σ : L2.St} {S : List Addr} : RE K mg F H env σ S → RE K mg F H (.un :: env) (o :: σ) S
  | ow {k : Kd} {d : D} {v : V} {env : Env} {σ : L2.St} {S1 S : List Addr} : k ≠ .R → Rp K mg F (At H) d v S1 → RE K mg F H env σ S → RE K mg F H (.sl k d :: env) (some v :: σ) (S1 ++ S)
  | rd {d : D} {o : Option V} {env : Env} {σ : L2.St} {S : List Addr} : RE K mg F H env σ S → RE K mg F H (.sl .R d :: env) (o :: σ) S
section
variable {K : PySem.W.Frag} {mg : Mg} {F F' H H' : Hp}
theorem RE.length : ∀ {env : Env} {σ : L2.St} {S : List Addr}, RE K mg F H env σ S → env.length = σ.length
  | _, _, _, .nil => rfl
  | _, _, _, .un h => by rw [List.length_cons, List.length_cons, h.length]
  | _, _, _, .ow _ _ h => by rw [List.length_cons, List.length_cons, h.length]
  | _, _, _, .rd h => by rw [List.length_cons, List.length_cons, h.length]
/-- kept where its own cells are kept -/
theorem RE.mono (s : Sub F F') : ∀ {env : Env} {σ : L2.St} {S : List Addr}, RE K mg F H env σ S → (∀ a ∈ S, ∀ o, H a = some o → H' a = some o) → RE K mg F' H' env σ S
  | _, _, _, .nil, _ => .nil
  | _, _, _, .un h, k => .un (h.mono s k)
  | _, _, _, .ow hk h hr, k => .ow hk (h.mono s fun a ha o e => k a (List.mem_append_left _ ha) o e) (hr.mono s fun a ha o e => k a (List.mem_append_right _ ha) o e)
  | _, _, _, .rd hr, k => .rd (hr.mono s k)
/-- the slot i is emptied -/
theorem RE.take : ∀ {env : Env} {σ : L2.St} {S : List Addr} {i : Nat} {k : Kd} {d : D}, RE K mg F H env σ S → env[i]? = some (.sl k d) → k ≠ .R → ∃ v S1 S2, σ[i]? = some (some v) ∧ Rp K mg F (At H) d v S1 ∧ S.Perm (S1 ++ S2) ∧ RE K mg F H (env.set i .un) σ S2
  | _, _, _, i, _, _, .nil, e, _ => by simp at e
  | _, _, _, 0, _, _, .un h, e, _ => by simp at e
  | _, _, _, i + 1, k, d, .un (o := o) h, e, hk => by
    obtain ⟨v, S1, S2, e1, q1, q2, q3⟩ := h.take (i := i) (by simpa using e) hk
    exact ⟨v, S1, S2, by simpa using e1, q1, q2, .un q3⟩
  | _, _, _, 0, k, d, .ow (k := k0) (d := d0) (v := v0) (S1 := S1) (S := S) hk0 h hr, e, hk => by
    simp at e
    obtain ⟨rfl, rfl⟩ := e
    exact ⟨v0, S1, S, rfl, h, List.Perm.refl _, .un hr⟩
  | _, _, _, i + 1, k, d, .ow (k := k0) (d := d0) (v := v0) (S1 := S0) (S := S) hk0 h hr, e, hk => by
    obtain ⟨v, S1, S2, e1, q1, q2, q3⟩ := hr.take (i := i) (by simpa using e) hk
    refine ⟨v, S1, S0 ++ S2, by simpa using e1, q1, (List.Perm.append_left S0 q2).trans ?_, .ow hk0 h q3⟩
    rw [← List.append_assoc, ← List.append_assoc]
    exact List.Perm.append_right _ List.perm_append_comm
  | _, _, _, 0, k, d, .rd hr, e, hk => by
    simp at e
    exact absurd e.1.symm hk
  | _, _, _, i + 1, k, d, .rd (d := d0) hr, e, hk => by
    obtain ⟨v, S1, S2, e1, q1, q2, q3⟩ := hr.take (i := i) (by simpa using e) hk
    exact ⟨v, S1, S2, by simpa using e1, q1, q2, .rd q3⟩
/-- an empty slot is filled -/
theorem RE.put : ∀ {env : Env} {σ : L2.St} {S : List Addr} {i : Nat}, RE K mg F H env σ S → env[i]? = some .un → ∀ (k : Kd) (d : D) (v : V) (T : List Addr), k ≠ .R → Rp K mg F (At H) d v T → ∃ S', S'.Perm (T ++ S) ∧ RE K mg F H (env.set i (.sl k d)) (σ.set i (some v)) S'
  | _, _, _, i, .nil, e, _, _, _, _, _, _ => by simp at e
  | _, _, _, 0, .un (o := o) h, e, k, d, v, T, hk, hr => ⟨T ++ _, List.Perm.refl _, .ow hk hr h⟩
  | _, _, _, i + 1, .un (o := o) h, e, k, d, v, T, hk, hr => by
    obtain ⟨S', p, q⟩ := h.put (i := i) (by simpa using e) k d v T hk hr
    exact ⟨S', p, .un q⟩
  | _, _, _, 0, .ow hk0 h hr0, e, k, d, v, T, hk, hr => by simp at e
  | _, _, _, i + 1, .ow (S1 := S1) hk0 h hr0, e, k, d, v, T, hk, hr => by
    obtain ⟨S', p, q⟩ := hr0.put (i := i) (by simpa using e) k d v T hk hr
    refine ⟨S1 ++ S', (List.Perm.append_left S1 p).trans ?_, .ow hk0 h q⟩
    rw [← List.append_assoc, ← List.append_assoc]
    exact List.Perm.append_right _ List.perm_append_comm
  | _, _, _, 0, .rd hr0, e, k, d, v, T, hk, hr => by simp at e
  | _, _, _, i + 1, .rd hr0, e, k, d, v, T, hk, hr => by
    obtain ⟨S', p, q⟩ := hr0.put (i := i) (by simpa using e) k d v T hk hr
    exact ⟨S', p, .rd q⟩
/-- an empty slot may be called locked -/
theorem RE.lock : ∀ {env : Env} {σ : L2.St} {S : List Addr} {i : Nat} (d : D), RE K mg F H env σ S → env[i]? = some .un → RE K mg F H (env.set i (.sl .R d)) σ S
  | _, _, _, i, _, .nil, e => by simp at e
  | _, _, _, 0, d, .un h, e => .rd h
  | _, _, _, i + 1, d, .un h, e => .un (h.lock d (by simpa using e))
  | _, _, _, 0, d, .ow hk0 h hr0, e => by simp at e
  | _, _, _, i + 1, d, .ow hk0 h hr0, e => .ow hk0 h (hr0.lock d (by simpa using e))
  | _, _, _, 0, d, .rd hr0, e => by simp at e
  | _, _, _, i + 1, d, .rd hr0, e => .rd (hr0.lock d (by simpa using e))
theorem RE.unlock : ∀ {env : Env} {σ : L2.St} {S : List Addr} {i : Nat} {d : D}, RE K mg F H env σ S → env[i]? = some (.sl .R d) → RE K mg F H (env.set i .un) σ S
  | _, _, _, i, _, .nil, e => by simp at e
  | _, _, _, 0, d, .un h, e => by simp at e
  | _, _, _, i + 1, d, .un h, e => .un (h.unlock (by simpa using e))
  | _, _, _, 0, d, .ow hk0 h hr0, e => by
    simp at e
    exact absurd e.1 hk0
  | _, _, _, i + 1, d, .ow hk0 h hr0, e => .ow hk0 h (hr0.unlock (by simpa using e))
  | _, _, _, 0, d, .rd hr0, e => .un hr0
  | _, _, _, i + 1, d, .rd hr0, e => .rd (hr0.unlock (by simpa using e))
theorem RE.pad {n : Nat} : ∀ {env : Env} {σ : L2.St} {S : List Addr}, RE K mg F H env σ S → RE K mg F H (env ++ List.replicate n .un) (σ ++ List.replicate n none) S
  | _, _, _, .nil => by
    induction n with
    | zero => exact .nil
    | succ n ih => rw [List.replicate_succ, List.replicate_succ]; exact .un ih
  | _, _, _, .un h => .un h.pad
  | _, _, _, .ow a b h => .ow a b h.pad
  | _, _, _, .rd h => .rd h.pad
end
end DL
/-! DLb: states, runs over data, the judgement of an expression. -/
namespace DL
open PySem PySem.Spec PyProof.Rows L2

inductive Tm where
  | vl (d : D) | loc (i : Nat)
  deriving Inhabited
inductive Res (α : Type) where
  | ok (a : α) (env : Env) | ex (c : Str) (env : Env) | no
def Res.bind {α β : Type} (r : Res α) (f : α → Env → Res β) : Res β := match r with
  | .ok a env => f a env
  | .ex c env => .ex c env
  | .no => .no
abbrev Ex := Env → Res Tm
/-- what is read -/
def rd (env : Env) : Tm → Option D
  | .vl d => some d
  | .loc i => match env[i]? with
    | some (.sl _ d) => some d
    | _ => none
theorem rd_loc {env : Env} {i : Nat} {d : D} (e : rd env (.loc i) = some d) : ∃ k, env[i]? = some (.sl k d) := by
  have e0 : rd env (.loc i) = (match env[i]? with
    | some (.sl _ d) => some d
    | _ => none) := rfl
  rw [e0] at e
  split at e
  · rename_i k d' h
    cases e
    exact ⟨k, h⟩
  · cases e
/-- what is handed on: a name's own cells are frozen -/
def mv (env : Env) : Tm → Option (D × Env)
  | .vl d => some (d, env)
  | .loc i => match env[i]? with
    | some (.sl k d) => if d.cl then some (d, env) else if k = .R then none else some (d.fz, env.set i (.sl k d.fz))
    | _ => none

/-- as read; a tuple as it is -/
def Rz (H : Hp) (a : Addr) (o : HO) : Prop := H a = some o ∨ ((∀ vs, o ≠ .tup vs) ∧ ∃ ob, H a = some (.frz ob o))
theorem Rz.rd {H : Hp} {a : Addr} {o : HO} (h : Rz H a o) : Rd H a o := h.imp id And.right
structure FzOk (F H : Hp) : Prop where
  ok : ∀ a o, F a = some o → Rz H a o
  tp : ∀ a vs, H a = some (.tup vs) → F a = some (.tup vs)
/-- what is lent or locked: the cells that are read alone, which slots hold what, and a locked slot's data and cells -/
structure Lk where
  R : List Addr
  B : Nat → Option V
  Q : Nat → Option (D × List Addr)
structure Sm0 (K : PySem.W.Frag) (mg : Mg) (F H : Hp) (env : Env) (σ : L2.St) (S : List Addr) (R : Lk) (T : List Addr) : Prop where
  re : RE K mg F H env σ S
  nd : (S ++ T).Nodup
  rd : ∀ a ∈ R.R, a ∉ S ++ T
  fz : FzOk F H
  nf : ∀ a ∈ S ++ (R.R ++ T), F a = none
  th : ∀ a ∈ S ++ (R.R ++ T), H a ≠ none
def lentS : Sl → Bool
  | .un => false
  | .sl .O _ => false
  | _ => true
/-- what is known of the lent and locked slots -/
structure Lok (K : PySem.W.Frag) (mg : Mg) (F H : Hp) (env : Env) (σ : L2.St) (R : Lk) : Prop where
  bd : ∀ (i : Nat) (v : V), R.B i = some v → σ[i]? = some (some v)
  bl : ∀ (i : Nat) (s : Sl), env[i]? = some s → lentS s = (R.B i).isSome
  rq : ∀ (i : Nat) (d : D), env[i]? = some (.sl .R d) → ∃ v Ri, R.Q i = some (d, Ri) ∧ R.B i = some v ∧ Rp K mg F (Rt H) d v Ri ∧ ∀ a ∈ Ri, a ∈ R.R
  qr : ∀ (i : Nat) (d : D) (Ri : List Addr), R.Q i = some (d, Ri) → ∀ a ∈ Ri, a ∈ R.R
structure Sm (K : PySem.W.Frag) (mg : Mg) (F H : Hp) (env : Env) (σ : L2.St) (S : List Addr) (R : Lk) (T : List Addr) : Prop extends Sm0 K mg F H env σ S R T where
  lk : Lok K mg F H env σ R
theorem Rp.rt {K : PySem.W.Frag} {mg : Mg} {F F' H H' : Hp} {d : D} {v : V} {S : List Addr} (h : Rp K mg F (Rt H) d v S) (s : Sub F F') (k : ∀ a ∈ S, ∀ o, H a = some o → H' a = some o) : Rp K mg F' (Rt H') d v S :=
  h.mono s fun a ha o e => e.imp (k a ha o) fun ⟨ob, e⟩ => ⟨ob, k a ha _ e⟩
theorem Lok.mono {K : PySem.W.Frag} {mg : Mg} {F F' H H' : Hp} {env : Env} {σ : L2.St} {R : Lk} (h : Lok K mg F H env σ R) (s : Sub F F') (k : ∀ a ∈ R.R, ∀ o, H a = some o → H' a = some o) : Lok K mg F' H' env σ R :=
  ⟨h.bd, h.bl, fun i d e => let ⟨v, Ri, q1, q2, q3, q4⟩ := h.rq i d e; ⟨v, Ri, q1, q2, q3.rt s fun a ha => k a (q4 a ha), q4⟩, h.qr⟩
/-- from here to there: L are the own cells there -/
structure Go (F H : Hp) (S : List Addr) (F' H' : Hp) (L : List Addr) : Prop where
  sub : Sub F F'
  fr : ∀ a o, H a = some o → a ∉ S → H' a = some o
  gr : ∀ a, H a ≠ none → H' a ≠ none
  nw : ∀ a ∈ L, a ∈ S ∨ H a = none
  nz : ∀ a, F' a ≠ none → F a ≠ none ∨ a ∈ S ∨ H a = none
def RT (K : PySem.W.Frag) (mg : Mg) (σ : L2.St) (F H : Hp) : Tm → V → List Addr → Prop
  | .vl d, v, U => Rp K mg F (At H) d v U
  | .loc i, v, U => U = [] ∧ σ[i]? = some (some v)
def RTs (K : PySem.W.Frag) (mg : Mg) (σ : L2.St) (F H : Hp) : List Tm → List V → List Addr → Prop
  | [], vs, U => vs = [] ∧ U = []
  | t :: ts, vs, U => ∃ v vr U1 U2, vs = v :: vr ∧ U = U2 ++ U1 ∧ RT K mg σ F H t v U1 ∧ RTs K mg σ F H ts vr U2
/-- what a run's end must give: Rl tells how its result stands in the heap -/
def Cont {α β : Type} (Rl : Hp → Hp → α → β → List Addr → Prop) (K : PySem.W.Frag) (mg : Mg) (W : WX) (σ : L2.St) (F H : Hp) (S : List Addr) (R : Lk) (T : List Addr) (r : Res α) (Q : β → Hp → Prop) : Prop := match r with
  | .ok t env' => ∀ v F' H' S' U, Sm K mg F' H' env' σ S' R (U ++ T) → Go F H S F' H' (S' ++ U) → Rl F' H' t v U → Q v H'
  | .ex c env' => ∀ cv F' H' S', Sm K mg F' H' env' σ S' R T → Go F H S F' H' S' → mg c = some cv → W cv none σ H'
  | .no => False
def tE (K : PySem.W.Frag) (mg : Mg) (W : WX) (m : Ex) : TE := fun σ H Q => ∃ env F S R T, Sm K mg F H env σ S R T ∧ Cont (RT K mg σ) K mg W σ F H S R T (m env) Q
abbrev JE (X : Cx) (W : WX) (e : Expr) (m : Ex) : Prop := PE X e (tE X.K X.mg W m)

section
variable {α β γ δ : Type} {Rl : Hp → Hp → α → β → List Addr → Prop} {Rm : Hp → Hp → γ → δ → List Addr → Prop}
variable {K : PySem.W.Frag} {mg : Mg} {W : WX} {F F' F1 F2 H H' H1 H2 : Hp} {env env' env1 env2 : Env} {σ : L2.St} {S S' S1 S2 T U U1 U2 L L' : List Addr} {R : Lk} {Q : β → Hp → Prop} {Qm : δ → Hp → Prop}
theorem Go.refl : Go F H S F H S := ⟨Sub.refl F, fun _ _ h _ => h, fun _ h => h, fun _ h => .inl h, fun _ h => .inl h⟩
theorem Go.refl' : Go F H S F H (S ++ []) := ⟨Sub.refl F, fun _ _ h _ => h, fun _ h => h, fun _ h => .inl (by simpa using h), fun _ h => .inl h⟩
theorem Go.weak (g : Go F H S F' H' L) (h : ∀ a ∈ L', a ∈ L) : Go F H S F' H' L' := ⟨g.sub, g.fr, g.gr, fun a ha => g.nw a (h a ha), g.nz⟩
theorem Go.old (g : Go F H S F' H' L) {a : Addr} (h : H' a = none) : H a = none := by
  cases e : H a with
  | none => rfl
  | some o => exact absurd h (g.gr a (by rw [e]; simp))
theorem Go.trans (g : Go F H S F1 H1 (S1 ++ U1)) (g' : Go F1 H1 S1 F2 H2 L) : Go F H S F2 H2 (L ++ U1) where
  sub := g.sub.trans g'.sub
  fr := fun a o e n => g'.fr a o (g.fr a o e n) fun z => by
    rcases g.nw a (List.mem_append_left _ z) with q | q
    · exact n q
    · rw [e] at q; cases q
  gr := fun a h => g'.gr a (g.gr a h)
  nw := fun a ha => by
    rcases List.mem_append.mp ha with z | z
    · rcases g'.nw a z with q | q
      · exact g.nw a (List.mem_append_left _ q)
      · exact .inr (g.old q)
    · exact g.nw a (List.mem_append_right _ z)
  nz := fun a h => by
    rcases g'.nz a h with q | q | q
    · exact g.nz a q
    · exact .inr (g.nw a (List.mem_append_left _ q))
    · exact .inr (.inr (g.old q))
theorem Sm0.temps (s : Sm0 K mg F H env σ S R T) (h : List.Sublist L T) : Sm0 K mg F H env σ S R L where
  re := s.re
  nd := s.nd.sublist (List.Sublist.append_left h _)
  rd := fun a ha z => s.rd a ha ((List.Sublist.append_left h _).subset z)
  fz := s.fz
  nf := fun a ha => s.nf a ((List.Sublist.append_left (List.Sublist.append_left h _) _).subset ha)
  th := fun a ha => s.th a ((List.Sublist.append_left (List.Sublist.append_left h _) _).subset ha)
theorem Sm0.perm (s : Sm0 K mg F H env σ S R T) (h : List.Perm T L) : Sm0 K mg F H env σ S R L where
  re := s.re
  nd := (List.Perm.nodup_iff (List.Perm.append_left _ h)).mp s.nd
  rd := fun a ha z => s.rd a ha ((List.Perm.append_left _ h).mem_iff.mpr z)
  fz := s.fz
  nf := fun a ha => s.nf a ((List.Perm.append_left _ (List.Perm.append_left _ h)).mem_iff.mpr ha)
  th := fun a ha => s.th a ((List.Perm.append_left _ (List.Perm.append_left _ h)).mem_iff.mpr ha)
theorem Sm.temps (s : Sm K mg F H env σ S R T) (h : List.Sublist L T) : Sm K mg F H env σ S R L := ⟨s.toSm0.temps h, s.lk⟩
theorem Sm.perm (s : Sm K mg F H env σ S R T) (h : List.Perm T L) : Sm K mg F H env σ S R L := ⟨s.toSm0.perm h, s.lk⟩
theorem Sm.drop (s : Sm K mg F H env σ S R (U ++ T)) : Sm K mg F H env σ S R T := s.temps (List.sublist_append_right _ _)
theorem Cont.imp {r : Res α} {Q' : β → Hp → Prop} (h : Cont Rl K mg W σ F H S R T r Q) (k : ∀ v H', Q v H' → Q' v H') : Cont Rl K mg W σ F H S R T r Q' := by
  cases r with
  | ok t e => exact fun v F' H' S' U a b c => k _ _ (h v F' H' S' U a b c)
  | ex c e => exact h
  | no => exact h
/-- one run behind another -/
theorem Cont.bind {r : Res α} {f : α → Env → Res γ} (h : Cont Rm K mg W σ F H S R T (r.bind f) Qm) :
    Cont Rl K mg W σ F H S R T r fun v1 H1 => ∃ t1 env1 F1 S1 U1, Sm K mg F1 H1 env1 σ S1 R (U1 ++ T) ∧ Go F H S F1 H1 (S1 ++ U1) ∧ Rl F1 H1 t1 v1 U1 ∧ Cont Rm K mg W σ F H S R T (f t1 env1) Qm := by
  cases r with
  | ok t e => exact fun v F' H' S' U a b c => ⟨t, e, F', S', U, a, b, c, h⟩
  | ex c e => exact h
  | no => exact h
/-- the same, from a later state -/
theorem Cont.then {r : Res α} {f : α → Env → Res γ} (h : Cont Rm K mg W σ F H S R T (r.bind f) Qm) (g : Go F H S F1 H1 (S1 ++ U1)) :
    Cont Rl K mg W σ F1 H1 S1 R (U1 ++ T) r fun v H2 => ∃ t env2 F2 S2 U2, Sm K mg F2 H2 env2 σ S2 R ((U2 ++ U1) ++ T) ∧ Go F H S F2 H2 (S2 ++ (U2 ++ U1)) ∧ Go F1 H1 S1 F2 H2 (S2 ++ U2) ∧ Rl F2 H2 t v U2 ∧ Cont Rm K mg W σ F H S R T (f t env2) Qm := by
  cases r with
  | ok t e =>
    exact fun v F' H' S' U a b c => ⟨t, e, F', S', U, by rw [List.append_assoc]; exact a, by rw [← List.append_assoc]; exact g.trans b, b, c, h⟩
  | ex c e => exact fun cv F' H' S' a b e' => h cv F' H' S' a.drop ((g.trans (U1 := U1) b).weak fun a ha => List.mem_append_left _ ha) e'
  | no => exact h
/-- what was read stays, over a later run -/
theorem RT.later {t : Tm} {v : V} (h : RT K mg σ F1 H1 t v U1) (s : Sm K mg F1 H1 env1 σ S1 R (U1 ++ T)) (g : Go F1 H1 S1 F2 H2 L) : RT K mg σ F2 H2 t v U1 := by
  cases t with
  | vl d =>
    refine Rp.mono g.sub h fun a ha o e => g.fr a o e fun z => ?_
    have q := List.nodup_append.mp s.nd
    exact q.2.2 a z a (List.mem_append_left _ ha) rfl
  | loc i => exact h
end
/-- a value's reading: its cells may be a name's, a temporary's or frozen -/
def Rb (K : PySem.W.Frag) (mg : Mg) (F H : Hp) (d : D) (v : V) : Prop := ∃ S, Rp K mg F (Rt H) d v S
section
variable {K : PySem.W.Frag} {mg : Mg} {W : WX} {F F' H H' : Hp} {env : Env} {σ : L2.St} {S T U : List Addr} {R : Lk}
theorem Rp.rb {d : D} {v : V} (h : Rp K mg F (At H) d v S) : Rb K mg F H d v := ⟨S, h.mono (Sub.refl F) fun _ _ _ e => .inl e⟩
theorem RT.rb {t : Tm} {v : V} {d : D} (h : RT K mg σ F H t v U) (s : Sm K mg F H env σ S R T) (e : rd env t = some d) : Rb K mg F H d v := by
  cases t with
  | vl d' =>
    cases e
    exact Rp.rb h
  | loc i =>
    obtain ⟨_, e1⟩ := h
    obtain ⟨k, e2⟩ := rd_loc e
    by_cases hk : k = .R
    · subst hk
      obtain ⟨v', Ri, _, q2, q3, _⟩ := s.lk.rq i d e2
      have e4 := s.lk.bd i v' q2
      rw [e1] at e4
      cases e4
      exact ⟨Ri, q3⟩
    · obtain ⟨v', S1, S2, e4, q, _⟩ := s.re.take e2 hk
      rw [e1] at e4
      cases e4
      exact q.rb
end

/-! ### an operation over what is read -/
/-- behind an operation: only new cells, U are the new own ones -/
structure Step (F H F' H' : Hp) (U : List Addr) : Prop where
  sub : Sub F F'
  fr : ∀ a o, H a = some o → H' a = some o
  nz : ∀ a, F' a ≠ none → F a ≠ none ∨ H a = none
  fz : FzOk F' H'
  nw : ∀ a ∈ U, H a = none ∧ F' a = none ∧ H' a ≠ none
  nd : U.Nodup
section
variable {K : PySem.W.Frag} {mg : Mg} {W : WX} {F F' F1 H H' H1 : Hp} {env env1 : Env} {σ : L2.St} {S S1 T U L L' : List Addr} {R : Lk} {d : D} {v : V} {Q : VK}
/-- nothing new -/
theorem Step.pure (fz : FzOk F H) : Step F H F H [] :=
  ⟨Sub.refl F, fun _ _ e => e, fun _ e => .inl e, fz, fun _ z => absurd z (by simp), List.nodup_nil⟩
theorem FzOk.gone (fz : FzOk F H) {a : Addr} (h : H a = none) : F a = none := by
  cases e : F a with
  | none => rfl
  | some o =>
    rcases fz.ok a o e with q | ⟨nt, ob, q⟩ <;> rw [h] at q <;> cases q
theorem Sub.upd {p : Addr} {o : HO} (h : F p = none) : Sub F (upd F p o) := fun a o e => by rw [upd_ne (ne_of_none e h)]; exact e
/-- a cell that is not frozen changes -/
theorem FzOk.updN (fz : FzOk F H) {p : Addr} {o : HO} (nf : F p = none) (ho : ∀ vs, o ≠ .tup vs) : FzOk F (upd H p o) := ⟨fun a u e => by
  have ne : a ≠ p := fun z => by
    subst z
    rw [nf] at e
    cases e
  rcases fz.ok a u e with q | ⟨nt, ob, q⟩
  · exact .inl (by rw [upd_ne ne]; exact q)
  · exact .inr ⟨nt, ob, by rw [upd_ne ne]; exact q⟩, fun a vs e => by
  by_cases q : a = p
  · subst q
    rw [upd_same] at e
    exact absurd (Option.some.inj e) (ho vs)
  · rw [upd_ne q] at e
    exact fz.tp a vs e⟩
theorem FzOk.newF (fz : FzOk F H) {p : Addr} {o : HO} (h : H p = none) : FzOk (upd F p o) (upd H p o) := ⟨fun a u e => by
  by_cases q : a = p
  · subst q
    rw [upd_same] at e
    exact .inl (by rw [upd_same]; exact e)
  · rw [upd_ne q] at e
    rcases fz.ok a u e with z | ⟨nt, ob, z⟩
    · exact .inl (by rw [upd_ne q]; exact z)
    · exact .inr ⟨nt, ob, by rw [upd_ne q]; exact z⟩, fun a vs e => by
  by_cases q : a = p
  · subst q
    rw [upd_same] at e ⊢
    exact e
  · rw [upd_ne q] at e ⊢
    exact fz.tp a vs e⟩
/-- a new own cell -/
theorem Step.own {p : Addr} {o : HO} (fz : FzOk F H) (h : H p = none) (ho : ∀ vs, o ≠ .tup vs := by intro _ z; cases z) : Step F H F (upd H p o) [p] :=
  ⟨Sub.refl F, fun a u e => by rw [upd_ne (ne_of_none e h)]; exact e, fun _ e => .inl e, fz.updN (fz.gone h) ho, fun a ha => by
    rw [List.mem_singleton] at ha
    subst ha
    exact ⟨h, fz.gone h, by rw [upd_same]; simp⟩, by simp⟩
/-- a new frozen cell -/
theorem Step.fro {p : Addr} {o : HO} (fz : FzOk F H) (h : H p = none) : Step F H (upd F p o) (upd H p o) [] :=
  ⟨Sub.upd (fz.gone h), fun a u e => by rw [upd_ne (ne_of_none e h)]; exact e, fun a e => by
    by_cases z : a = p
    · subst z; exact .inr h
    · rw [upd_ne z] at e; exact .inl e, fz.newF h, fun _ z => absurd z (by simp), List.nodup_nil⟩
theorem Step.sm0 (st : Step F H F' H' U) (s : Sm0 K mg F H env σ S R T) : Sm0 K mg F' H' env σ S R (U ++ T) where
  re := s.re.mono st.sub fun a _ o e => st.fr a o e
  nd := by
    have q : (U ++ (S ++ T)).Nodup := List.nodup_append.mpr ⟨st.nd, s.nd, fun a ha b hb e => by
      subst e
      refine s.th a ?_ (st.nw a ha).1
      rcases List.mem_append.mp hb with z | z
      · exact List.mem_append_left _ z
      · exact List.mem_append_right _ (List.mem_append_right _ z)⟩
    refine (List.Perm.nodup_iff ?_).mp q
    rw [← List.append_assoc, ← List.append_assoc]
    exact List.Perm.append_right _ List.perm_append_comm
  rd := fun a ha z => by
    have q := s.rd a ha
    simp only [List.mem_append] at z q
    rcases z with z | z | z
    · exact q (.inl z)
    · exact s.th a (List.mem_append_right _ (List.mem_append_left _ ha)) (st.nw a z).1
    · exact q (.inr z)
  fz := st.fz
  nf := fun a ha => by
    have z : a ∈ U ∨ a ∈ S ++ (R.R ++ T) := by
      simp only [List.mem_append] at ha ⊢
      rcases ha with h | h | h | h
      · exact .inr (.inl h)
      · exact .inr (.inr (.inl h))
      · exact .inl h
      · exact .inr (.inr (.inr h))
    rcases z with z | z
    · exact (st.nw a z).2.1
    · cases e : F' a with
      | none => rfl
      | some o =>
        rcases st.nz a (by rw [e]; simp) with q | q
        · exact absurd (s.nf a z) q
        · exact absurd q (s.th a z)
  th := fun a ha => by
    have z : a ∈ U ∨ a ∈ S ++ (R.R ++ T) := by
      simp only [List.mem_append] at ha ⊢
      rcases ha with h | h | h | h
      · exact .inr (.inl h)
      · exact .inr (.inr (.inl h))
      · exact .inl h
      · exact .inr (.inr (.inr h))
    rcases z with z | z
    · exact (st.nw a z).2.2
    · cases e : H a with
      | none => exact absurd e (s.th a z)
      | some o => rw [st.fr a o e]; simp
theorem Step.sm (st : Step F H F' H' U) (s : Sm K mg F H env σ S R T) : Sm K mg F' H' env σ S R (U ++ T) := ⟨st.sm0 s.toSm0, s.lk.mono st.sub fun a _ o e => st.fr a o e⟩
theorem Step.go (st : Step F H F' H' U) : Go F H S F' H' (S ++ U) where
  sub := st.sub
  fr := fun a o e _ => st.fr a o e
  gr := fun a e => by
    cases q : H a with
    | none => exact absurd q e
    | some o => rw [st.fr a o q]; simp
  nw := fun a ha => by
    rcases List.mem_append.mp ha with z | z
    · exact .inl z
    · exact .inr (st.nw a z).1
  nz := fun a e => (st.nz a e).imp id .inr
/-- behind an operation the run is at its end: U is new, L' was a temporary's -/
theorem Cont.done (h : Cont (RT K mg σ) K mg W σ F H S R T (.ok (.vl d) env1) Q) (s : Sm K mg F1 H1 env1 σ S1 R (L ++ T)) (g : Go F H S F1 H1 (S1 ++ L)) (st : Step F1 H1 F' H' U) (hl : List.Sublist L' L) (rp : Rp K mg F' (At H') d v (U ++ L')) : Q v H' := by
  refine h v F' H' S1 (U ++ L') ((st.sm s).temps ?_) ?_ rp
  · rw [List.append_assoc]
    exact List.Sublist.append_left (List.Sublist.append_right hl _) _
  · refine (g.trans (U1 := L) (st.go (S := S1))).weak fun a ha => ?_
    simp only [List.mem_append] at ha ⊢
    rcases ha with z | z | z
    · exact .inl (.inl z)
    · exact .inl (.inr z)
    · exact .inr (hl.subset z)
theorem Cont.done0 (h : Cont (RT K mg σ) K mg W σ F H S R T (.ok (.vl d) env1) Q) (s : Sm K mg F1 H1 env1 σ S1 R (L ++ T)) (g : Go F H S F1 H1 (S1 ++ L)) (st : Step F1 H1 F' H' U) (rp : Rp K mg F' (At H') d v U) : Q v H' :=
  h.done s g st (List.nil_sublist _) (by rw [List.append_nil]; exact rp)
end
end DL
/-! DLc: names, constants, operations over what is read, displays, tests. -/
namespace DL
open PySem PySem.Spec PyProof.Rows L2

section
variable {K : PySem.W.Frag} {mg : Mg} {W : WX} {F F' F1 F2 H H' H1 H2 : Hp} {env env' env1 : Env} {σ : L2.St} {S S' S1 T U U1 L : List Addr} {R : Lk}
theorem rd_env {i : Nat} {k : Kd} {d : D} (e : env[i]? = some (.sl k d)) : rd env (.loc i) = some d := by
  show (match env[i]? with
    | some (.sl _ d) => some d
    | _ => none) = some d
  rw [e]
theorem Sm.slot {i : Nat} {k : Kd} {d : D} (s : Sm K mg F H env σ S R T) (e : env[i]? = some (.sl k d)) : ∃ v, σ[i]? = some (some v) := by
  by_cases hk : k = .R
  · subst hk
    obtain ⟨v', Ri, _, q2, _, _⟩ := s.lk.rq i d e
    exact ⟨v', s.lk.bd i v' q2⟩
  · obtain ⟨v', S1, S2, e4, _⟩ := s.re.take e hk
    exact ⟨v', e4⟩
/-- F and the cells of S1 -/
def frz (F H : Hp) (S1 : List Addr) : Hp := fun a => if a ∈ S1 then H a else F a
theorem frz_in {a : Addr} (h : a ∈ S1) : frz F H S1 a = H a := by unfold frz; rw [if_pos h]
theorem frz_out {a : Addr} (h : a ∉ S1) : frz F H S1 a = F a := by unfold frz; rw [if_neg h]
theorem frz_sub (h : ∀ a ∈ S1, F a = none) : Sub F (frz F H S1) := fun a o e => by
  rw [frz_out fun z => by rw [h a z] at e; cases e]
  exact e
theorem frz_ok (fz : FzOk F H) : FzOk (frz F H S1) H := ⟨fun a o e => by
  by_cases z : a ∈ S1
  · rw [frz_in z] at e; exact .inl e
  · rw [frz_out z] at e; exact fz.ok a o e, fun a vs e => by
  by_cases z : a ∈ S1
  · rw [frz_in z]; exact e
  · rw [frz_out z]; exact fz.tp a vs e⟩
/-- some own cells of the slots or temporaries are frozen -/
theorem Go.frz (h : ∀ a ∈ S1, a ∈ S ∨ F a ≠ none ∨ H a = none) (nf : ∀ a ∈ S1, F a = none) (h' : ∀ a ∈ L, a ∈ S) : Go F H S (frz F H S1) H L where
  sub := frz_sub nf
  fr := fun _ _ e _ => e
  gr := fun _ e => e
  nw := fun a ha => .inl (h' a ha)
  nz := fun a e => by
    by_cases z : a ∈ S1
    · rcases h a z with q | q | q
      · exact .inr (.inl q)
      · exact .inl q
      · exact .inr (.inr q)
    · rw [frz_out z] at e; exact .inl e
theorem set_self {α : Type} : ∀ {l : List α} {i : Nat} {a : α}, l[i]? = some a → l.set i a = l
  | [], _, _, e => by simp at e
  | x :: l, 0, a, e => by simp at e; subst e; rfl
  | x :: l, i + 1, a, e => by
    show x :: l.set i a = x :: l
    rw [set_self (by simpa using e)]
/-- what is handed on -/
theorem mv_ok {t : Tm} {v : V} {d : D} (s : Sm K mg F H env σ S R (U ++ T)) (rt : RT K mg σ F H t v U) (e : mv env t = some (d, env')) :
    ∃ F' S', Sm K mg F' H env' σ S' R (U ++ T) ∧ Go F H S F' H S' ∧ Rp K mg F' (At H) d v U := by
  cases t with
  | vl d' =>
    cases e
    exact ⟨F, S, s, Go.refl, rt⟩
  | loc i =>
    obtain ⟨rfl, ev⟩ := rt
    have e0 : mv env (.loc i) = (match env[i]? with
      | some (.sl k d) => if d.cl then some (d, env) else if k = .R then none else some (d.fz, env.set i (.sl k d.fz))
      | _ => none) := rfl
    rw [e0] at e
    split at e
    · rename_i k d0 hi
      by_cases hc : d0.cl = true
      · rw [if_pos hc] at e
        cases e
        refine ⟨F, S, s, Go.refl, ?_⟩
        obtain ⟨S1, q⟩ := RT.rb (t := .loc i) (U := []) ⟨rfl, ev⟩ s (rd_env hi)
        rw [q.clean hc] at q
        exact q.any
      · rw [if_neg hc] at e
        split at e
        · cases e
        · rename_i hk
          cases e
          obtain ⟨v', S1, S2, e1, q, p, z⟩ := s.re.take hi hk
          rw [ev] at e1
          cases e1
          have hi2 : (env.set i Sl.un)[i]? = some .un := by rw [List.getElem?_set_self (List.getElem?_eq_some_iff.mp hi).1]
          have in1 : ∀ a ∈ S1, a ∈ S := fun a ha => p.mem_iff.mpr (List.mem_append_left _ ha)
          have in2 : ∀ a ∈ S2, a ∈ S := fun a ha => p.mem_iff.mpr (List.mem_append_right _ ha)
          have nf1 : ∀ a ∈ S1, F a = none := fun a ha => s.nf a (List.mem_append_left _ (in1 a ha))
          have fr : Rp K mg (frz F H S1) (At H) d0.fz v [] := q.freeze (frz_sub nf1) fun a ha => frz_in ha
          obtain ⟨S', p', re'⟩ := (z.mono (H' := H) (frz_sub nf1) fun _ _ _ e => e).put hi2 k d0.fz v [] hk fr
          rw [set_self ev, List.set_set] at re'
          have inS : ∀ a ∈ S', a ∈ S2 := fun a ha => by simpa using p'.mem_iff.mp ha
          have nd1 : ((S1 ++ S2) ++ ([] ++ T)).Nodup := (List.Perm.nodup_iff (List.Perm.append_right _ p)).mp s.nd
          rw [List.append_assoc] at nd1
          have nd2 : (S2 ++ ([] ++ T)).Nodup := (List.nodup_append.mp nd1).2.1
          have inn : ∀ a ∈ S' ++ (R.R ++ ([] ++ T)), a ∈ S ++ (R.R ++ ([] ++ T)) := fun a ha => by
            rcases List.mem_append.mp ha with z | z
            · exact List.mem_append_left _ (in2 a (inS a z))
            · exact List.mem_append_right _ z
          have dis : ∀ a ∈ S' ++ (R.R ++ ([] ++ T)), a ∉ S1 := fun a ha hb => by
            rcases List.mem_append.mp ha with z | z
            · exact (List.nodup_append.mp nd1).2.2 a hb a (List.mem_append_left _ (inS a z)) rfl
            · rcases List.mem_append.mp z with z | z
              · exact s.rd a z (List.mem_append_left _ (in1 a hb))
              · exact (List.nodup_append.mp nd1).2.2 a hb a (List.mem_append_right _ z) rfl
          have lk' : Lok K mg (frz F H S1) H (env.set i (.sl k d0.fz)) σ R := by
            have l0 := s.lk.mono (F' := frz F H S1) (H' := H) (frz_sub nf1) fun _ _ _ e => e
            refine ⟨l0.bd, fun j s0 ej => ?_, fun j d ej => ?_, l0.qr⟩
            · by_cases hj : j = i
              · subst hj
                rw [List.getElem?_set_self (List.getElem?_eq_some_iff.mp hi).1] at ej
                cases ej
                have q := s.lk.bl _ _ hi
                cases k <;> exact q
              · rw [List.getElem?_set_ne (Ne.symm hj)] at ej
                exact s.lk.bl _ _ ej
            · by_cases hj : j = i
              · subst hj
                rw [List.getElem?_set_self (List.getElem?_eq_some_iff.mp hi).1] at ej
                cases ej
                exact absurd rfl hk
              · rw [List.getElem?_set_ne (Ne.symm hj)] at ej
                exact l0.rq _ _ ej
          refine ⟨frz F H S1, S', ⟨⟨re', ?_, fun a ha z => ?_, frz_ok s.fz, fun a ha => ?_, fun a ha => ?_⟩, lk'⟩, Go.frz (fun a ha => .inl (in1 a ha)) nf1 (fun a ha => in2 a (inS a ha)), fr⟩
          · exact (List.Perm.nodup_iff (List.Perm.append_right _ (by simpa using p'))).mpr nd2
          · refine s.rd a ha ?_
            rcases List.mem_append.mp z with z | z
            · exact List.mem_append_left _ (in2 a (inS a z))
            · exact List.mem_append_right _ z
          · rw [frz_out (dis a ha)]
            exact s.nf a (inn a ha)
          · exact s.th a (inn a ha)
    · cases e
end

/-! ### names, constants -/
def eV (i : Nat) : Ex := fun env => match env[i]? with
  | some (.sl _ _) => .ok (.loc i) env
  | _ => .no
def eC (d : D) : Ex := fun env => .ok (.vl d) env
def opt (e : Env) : Option D → Res Tm
  | some d => .ok (.vl d) e
  | none => .no
section
variable {X : Cx} {W : WX} {e : Expr} {m : Ex}
theorem je_of {t : TE} (h : PE X e t) (i : ∀ σ H Q, tE X.K X.mg W m σ H Q → t σ H Q) : JE X W e m := ⟨fun pins s σ H Q I hq => h.run pins s σ H Q I (i σ H Q hq)⟩
theorem je_var (i : Nat) {x : Str} {pos : Pos} (hN : X.N[i]? = some x := by rfl) (hv : Vis X.env.scope x := by first | exact Or.inl rfl | exact Or.inr (Or.inl rfl) | exact Or.inr (Or.inr rfl)) (hd : (x == ("__debug__" : Str)) = false := by decide)
    (hcd : (x == ("__classdict__" : Str)) = false := by decide) : JE X W (.Name x pos) (eV i) := by
  refine je_of (pe_var hN hv hd hcd) fun σ H Q ⟨env, F, S, R, T, sm, h⟩ => ?_
  unfold eV at h
  cases q : env[i]? with
  | none => rw [q] at h; exact h.elim
  | some sl =>
    cases sl with
    | un => rw [q] at h; exact h.elim
    | sl k d =>
      rw [q] at h
      obtain ⟨v, e1⟩ := sm.slot q
      exact ⟨v, e1, h v F H S [] sm Go.refl' ⟨rfl, e1⟩⟩
theorem t_C {K : PySem.W.Frag} {mg : Mg} {d : D} {v : V} (hr : ∀ F H, Rp K mg F (At H) d v []) {σ : L2.St} {H : Hp} {Q : VK} (h : tE K mg W (eC d) σ H Q) : tC v σ H Q := by
  obtain ⟨env, F, S, R, T, sm, h⟩ := h
  exact h v F H S [] sm Go.refl' (hr F H)
theorem je_int {i j pos} : JE X W (.Constant (.int i) j pos) (eC (.int i)) := je_of pe_int fun _ _ _ h => t_C (fun _ _ => .int i) h
theorem je_bl {b j pos} : JE X W (.Constant (.bool b) j pos) (eC (.bl b)) := je_of pe_bl fun _ _ _ h => t_C (fun _ _ => .bl b) h
theorem je_non {j pos} : JE X W (.Constant .none j pos) (eC .non) := je_of pe_non fun _ _ _ h => t_C (fun _ _ => .non) h
theorem je_str {x j pos} : JE X W (.Constant (.str x) j pos) (eC (.str x)) := je_of pe_str fun _ _ _ h => t_C (fun _ _ => .str x) h
/-- a module's constant -/
theorem je_glob {x : Str} {d : D} {v : V} {u : Value} {pos : Pos} (hg : Gl X x) (hm : X.mg x = some u) (r : RelV v u) (hr : ∀ F H, Rp X.K X.mg F (At H) d v []) (hd : (x == ("__debug__" : Str)) = false := by decide) : JE X W (.Name x pos) (eC d) :=
  je_of (pe_glob hg hm r hd) fun _ _ _ h => t_C hr h
/-- a def, a class of the module -/
theorem je_gl {x : Str} {a : Addr} {pos : Pos} (hg : Gl X x) (hm : X.mg x = some (.ref a)) (hd : (x == ("__debug__" : Str)) = false := by decide) : JE X W (.Name x pos) (eC (.gl x)) :=
  je_glob (v := .ref a) hg hm rfl (fun _ _ => .gl hm) hd
theorem je_bltn {x : Str} {n : String} {pos : Pos} (hg : Gl X x) (hm : X.mg x = none) (hv : bootBuiltins x = some (.type n)) (hn : x ≠ "__name__" := by decide) (hd : (x == ("__debug__" : Str)) = false := by decide) : JE X W (.Name x pos) (eC (.ty n)) :=
  je_of (pe_bltn (v := .ty n) hg hm hv rfl hn hd) fun _ _ _ h => t_C (fun _ _ => .ty n) h
end

/-! ### operations over what is read -/
def e1 (g : D → Option D) (m : Ex) : Ex := fun env => (m env).bind fun t en => opt en ((rd en t).bind g)
def e2 (g : D → D → Option D) (ma mb : Ex) : Ex := fun env => (ma env).bind fun t1 en1 => (mb en1).bind fun t2 en2 => opt en2 ((rd en2 t1).bind fun d1 => (rd en2 t2).bind fun d2 => g d1 d2)
/-- what an operation's rule asks is what the plain function tells -/
def Snd1 (K : PySem.W.Frag) (mg : Mg) (r : V → Hp → VK → Prop) (g : D → Option D) : Prop :=
  ∀ (F H : Hp) (d : D) (v : V) (d' : D) (Q : VK), FzOk F H → Rb K mg F H d v → g d = some d' → (∀ v' F' H' U, Step F H F' H' U → Rp K mg F' (At H') d' v' U → Q v' H') → r v H Q
def Snd2 (K : PySem.W.Frag) (mg : Mg) (r : R2) (g : D → D → Option D) : Prop :=
  ∀ (F H : Hp) (d1 d2 : D) (v1 v2 : V) (d' : D) (Q : VK), FzOk F H → Rb K mg F H d1 v1 → Rb K mg F H d2 v2 → g d1 d2 = some d' → (∀ v' F' H' U, Step F H F' H' U → Rp K mg F' (At H') d' v' U → Q v' H') → r v1 v2 H Q
section
variable {K : PySem.W.Frag} {mg : Mg} {W : WX} {m ma mb : Ex} {σ : L2.St} {H : Hp} {Q : VK}
theorem t_e1 {r : V → Hp → VK → Prop} {g : D → Option D} (snd : Snd1 K mg r g) (h : tE K mg W (e1 g m) σ H Q) : tUn r (tE K mg W m) σ H Q := by
  obtain ⟨env, F, S, R, T, sm, h⟩ := h
  refine ⟨env, F, S, R, T, sm, (Cont.bind h).imp fun v H1 ⟨t1, env1, F1, S1, U1, sm1, go1, rt1, h1⟩ => ?_⟩
  cases e : rd env1 t1 with
  | none => rw [e] at h1; exact h1.elim
  | some d =>
    rw [e] at h1
    cases eg : g d with
    | none => rw [Option.bind_some, eg] at h1; exact h1.elim
    | some d' =>
      rw [Option.bind_some, eg] at h1
      exact snd F1 H1 d v d' Q sm1.fz (rt1.rb sm1 e) eg fun v' F' H' U st rp => h1.done0 sm1 go1 st rp
theorem t_e2 {r : R2} {g : D → D → Option D} (snd : Snd2 K mg r g) (h : tE K mg W (e2 g ma mb) σ H Q) : tOp r (tE K mg W ma) (tE K mg W mb) σ H Q := by
  obtain ⟨env, F, S, R, T, sm, h⟩ := h
  refine ⟨env, F, S, R, T, sm, (Cont.bind h).imp fun v1 H1 ⟨t1, env1, F1, S1, U1, sm1, go1, rt1, h1⟩ => ?_⟩
  refine ⟨env1, F1, S1, R, U1 ++ T, sm1, (h1.then go1).imp fun v2 H2 ⟨t2, env2, F2, S2, U2, sm2, go2, go12, rt2, h2⟩ => ?_⟩
  have rt1' := rt1.later sm1 go12
  cases ea : rd env2 t1 with
  | none => rw [ea] at h2; exact h2.elim
  | some d1 =>
    cases eb : rd env2 t2 with
    | none => rw [ea, eb] at h2; exact h2.elim
    | some d2 =>
      rw [ea, eb, Option.bind_some, Option.bind_some] at h2
      cases eg : g d1 d2 with
      | none => rw [eg] at h2; exact h2.elim
      | some d' =>
        rw [eg] at h2
        exact snd F2 H2 d1 d2 v1 v2 d' Q sm2.fz (rt1'.rb sm2 ea) (rt2.rb sm2 eb) eg fun v' F' H' U st rp => h2.done0 sm2 go2 st rp
end
section
variable {X : Cx} {W : WX} {a b e : Expr} {pos : Pos} {ma mb m : Ex}
theorem je_bin {op : Operator} {r : R2} {g : D → D → Option D} (ho : OpR X (binaryOp op) r) (snd : Snd2 X.K X.mg r g) (ha : JE X W a ma) (hb : JE X W b mb) : JE X W (.BinOp a op b pos) (e2 g ma mb) :=
  je_of (pe_op ho ha hb) fun _ _ _ h => t_e2 snd h
theorem je_un {op : UnaryOp} {r : V → Hp → VK → Prop} {g : D → Option D} (ho : UnR X (unaryOp op) r) (snd : Snd1 X.K X.mg r g) (ha : JE X W a ma) : JE X W (.UnaryOp op a pos) (e1 g ma) :=
  je_of (pe_un ho ha) fun _ _ _ h => t_e1 snd h
theorem je_cmp {op : CmpOp} {r : R2} {g : D → D → Option D} (ho : OpR X (compareOp op) r) (snd : Snd2 X.K X.mg r g) (ha : JE X W a ma) (hb : JE X W b mb) (hm : behindInMarks op b = false := by first | exact nomark _ | rfl) : JE X W (.Compare a [op] [b] pos) (e2 g ma mb) :=
  je_of (pe_cmpR ho ha hb hm) fun _ _ _ h => t_e2 snd h
end

/-! ### tests -/
def tT (K : PySem.W.Frag) (mg : Mg) (W : WX) (m : Ex) : TT := fun σ H Q => tE K mg W m σ H fun v H' => ∃ k, v = .bl k ∧ Q k H'
abbrev JT (X : Cx) (W : WX) (e : Expr) (m : Ex) : Prop := PT X e (tT X.K X.mg W m)
abbrev JW (X : Cx) (W : WX) (e : Expr) (m : Ex) : Prop := PW X e (tT X.K X.mg W m)
def eAnd (ma mb : Ex) : Ex := fun env => (ma env).bind fun t en => match rd en t with
  | some (.bl true) => mb en
  | some (.bl false) => .ok (.vl (.bl false)) en
  | _ => .no
def eOr (ma mb : Ex) : Ex := fun env => (ma env).bind fun t en => match rd en t with
  | some (.bl true) => .ok (.vl (.bl true)) en
  | some (.bl false) => mb en
  | _ => .no
def eNot (m : Ex) : Ex := fun env => (m env).bind fun t en => match rd en t with
  | some (.bl b) => .ok (.vl (.bl (!b))) en
  | _ => .no
def eIf (mc ma mb : Ex) : Ex := fun env => (mc env).bind fun t en => match rd en t with
  | some (.bl true) => ma en
  | some (.bl false) => mb en
  | _ => .no
theorem PT.imp {X : Cx} {e : Expr} {t t' : TT} (h : PT X e t) (i : ∀ σ H Q, t' σ H Q → t σ H Q) : PT X e t' := ⟨fun pins s σ H Q I hq => h.run pins s σ H Q I (i σ H Q hq)⟩
theorem PW.imp {X : Cx} {e : Expr} {t t' : TT} (h : PW X e t) (i : ∀ σ H Q, t' σ H Q → t σ H Q) : PW X e t' := ⟨fun wh pins s σ H Q I hq => h.run wh pins s σ H Q I (i σ H Q hq)⟩
theorem Rb.bl {K : PySem.W.Frag} {mg : Mg} {F H : Hp} {b : Bool} {v : V} (h : Rb K mg F H (.bl b) v) : v = .bl b := by
  obtain ⟨S, h⟩ := h
  cases h
  rfl
section
variable {K : PySem.W.Frag} {mg : Mg} {W : WX} {m ma mb mc : Ex} {σ : L2.St} {H : Hp}
theorem Cont.re {K : PySem.W.Frag} {mg : Mg} {W : WX} {F H F1 H1 : Hp} {S T S1 U1 : List Addr} {R : Lk} {r : Res Tm} {Q : VK} (h : Cont (RT K mg σ) K mg W σ F H S R T r Q) (g : Go F H S F1 H1 (S1 ++ U1)) : Cont (RT K mg σ) K mg W σ F1 H1 S1 R (U1 ++ T) r Q := by
  cases r with
  | ok t e =>
    exact fun v F' H' S' U a b c => h v F' H' S' U (a.temps (List.Sublist.append_left (List.sublist_append_right _ _) _)) ((g.trans (U1 := U1) b).weak fun a ha => List.mem_append_left _ ha) c
  | ex c e => exact fun cv F' H' S' a b e' => h cv F' H' S' a.drop ((g.trans (U1 := U1) b).weak fun a ha => List.mem_append_left _ ha) e'
  | no => exact h
/-- the answer of a test's part is known -/
theorem bool_part {Q : Bool → Hp → Prop} {f : Tm → Env → Res Tm} (h : tE K mg W (fun env => (m env).bind f) σ H fun v H' => ∃ k, v = .bl k ∧ Q k H') (hf : ∀ t en, (∀ b, rd en t ≠ some (.bl b)) → f t en = .no) :
    tT K mg W m σ H fun c H1 => ∃ env1 F1 S1 R1 T1, ∃ t, rd env1 t = some (.bl c) ∧ Sm K mg F1 H1 env1 σ S1 R1 T1 ∧ Cont (RT K mg σ) K mg W σ F1 H1 S1 R1 T1 (f t env1) fun v H' => ∃ k, v = .bl k ∧ Q k H' := by
  obtain ⟨env, F, S, R, T, sm, h⟩ := h
  refine ⟨env, F, S, R, T, sm, (Cont.bind h).imp fun v H1 ⟨t1, env1, F1, S1, U1, sm1, go1, rt1, h1⟩ => ?_⟩
  by_cases hb : ∃ b, rd env1 t1 = some (.bl b)
  · obtain ⟨b, e⟩ := hb
    exact ⟨b, (rt1.rb sm1 e).bl, env1, F1, S1, R, U1 ++ T, t1, e, sm1, h1.re go1⟩
  · rw [hf t1 env1 fun b e => hb ⟨b, e⟩] at h1
    exact h1.elim
theorem t_and {Q : Bool → Hp → Prop} (h : tT K mg W (eAnd ma mb) σ H Q) : tAnd (tT K mg W ma) (tT K mg W mb) σ H Q := by
  have z := bool_part (m := ma) h fun t en hn => by
    split
    · rename_i e; exact absurd e (hn _)
    · rename_i e; exact absurd e (hn _)
    · rfl
  obtain ⟨env, F, S, R, T, sm, z⟩ := z
  refine ⟨env, F, S, R, T, sm, z.imp fun v H1 ⟨c, ev, env1, F1, S1, R1, T1, t, e, sm1, h1⟩ => ⟨c, ev, ?_⟩⟩
  cases c with
  | true =>
    rw [if_pos rfl]
    rw [e] at h1
    exact ⟨env1, F1, S1, R1, T1, sm1, h1⟩
  | false =>
    rw [if_neg Bool.false_ne_true]
    rw [e] at h1
    obtain ⟨k, e1, q⟩ := h1 (.bl false) F1 H1 S1 [] sm1 Go.refl' (.bl false)
    cases e1
    exact q
theorem t_or {Q : Bool → Hp → Prop} (h : tT K mg W (eOr ma mb) σ H Q) : tOr (tT K mg W ma) (tT K mg W mb) σ H Q := by
  have z := bool_part (m := ma) h fun t en hn => by
    split
    · rename_i e; exact absurd e (hn _)
    · rename_i e; exact absurd e (hn _)
    · rfl
  obtain ⟨env, F, S, R, T, sm, z⟩ := z
  refine ⟨env, F, S, R, T, sm, z.imp fun v H1 ⟨c, ev, env1, F1, S1, R1, T1, t, e, sm1, h1⟩ => ⟨c, ev, ?_⟩⟩
  cases c with
  | false =>
    rw [if_neg Bool.false_ne_true]
    rw [e] at h1
    exact ⟨env1, F1, S1, R1, T1, sm1, h1⟩
  | true =>
    rw [if_pos rfl]
    rw [e] at h1
    obtain ⟨k, e1, q⟩ := h1 (.bl true) F1 H1 S1 [] sm1 Go.refl' (.bl true)
    cases e1
    exact q
theorem t_not {Q : Bool → Hp → Prop} (h : tT K mg W (eNot m) σ H Q) : tNot (tT K mg W m) σ H Q := by
  have z := bool_part (m := m) h fun t en hn => by
    split
    · rename_i e; exact absurd e (hn _)
    · rfl
  obtain ⟨env, F, S, R, T, sm, z⟩ := z
  refine ⟨env, F, S, R, T, sm, z.imp fun v H1 ⟨c, ev, env1, F1, S1, R1, T1, t, e, sm1, h1⟩ => ⟨c, ev, ?_⟩⟩
  rw [e] at h1
  obtain ⟨k, e1, q⟩ := h1 (.bl (!c)) F1 H1 S1 [] sm1 Go.refl' (.bl (!c))
  cases e1
  exact q
/-- .. by any end -/
theorem bool_partV {Q : VK} {f : Tm → Env → Res Tm} (h : tE K mg W (fun env => (m env).bind f) σ H Q) (hf : ∀ t en, (∀ b, rd en t ≠ some (.bl b)) → f t en = .no) :
    tT K mg W m σ H fun c H1 => ∃ env1 F1 S1 R1 T1, ∃ t, rd env1 t = some (.bl c) ∧ Sm K mg F1 H1 env1 σ S1 R1 T1 ∧ Cont (RT K mg σ) K mg W σ F1 H1 S1 R1 T1 (f t env1) Q := by
  obtain ⟨env, F, S, R, T, sm, h⟩ := h
  refine ⟨env, F, S, R, T, sm, (Cont.bind h).imp fun v H1 ⟨t1, env1, F1, S1, U1, sm1, go1, rt1, h1⟩ => ?_⟩
  by_cases hb : ∃ b, rd env1 t1 = some (.bl b)
  · obtain ⟨b, e⟩ := hb
    exact ⟨b, (rt1.rb sm1 e).bl, env1, F1, S1, R, U1 ++ T, t1, e, sm1, h1.re go1⟩
  · rw [hf t1 env1 fun b e => hb ⟨b, e⟩] at h1
    exact h1.elim
theorem t_if {Q : VK} (h : tE K mg W (eIf mc ma mb) σ H Q) : tIf (tT K mg W mc) (tE K mg W ma) (tE K mg W mb) σ H Q := by
  have z := bool_partV (m := mc) h fun t en hn => by
    split
    · rename_i e; exact absurd e (hn _)
    · rename_i e; exact absurd e (hn _)
    · rfl
  obtain ⟨env, F, S, R, T, sm, z⟩ := z
  refine ⟨env, F, S, R, T, sm, z.imp fun v H1 ⟨c, ev, env1, F1, S1, R1, T1, t, e, sm1, h1⟩ => ⟨c, ev, ?_⟩⟩
  cases c with
  | true => rw [if_pos rfl]; rw [e] at h1; exact ⟨env1, F1, S1, R1, T1, sm1, h1⟩
  | false => rw [if_neg Bool.false_ne_true]; rw [e] at h1; exact ⟨env1, F1, S1, R1, T1, sm1, h1⟩
theorem t_andV {Q : VK} (h : tE K mg W (eAnd ma mb) σ H Q) : tAndV (tE K mg W ma) (tE K mg W mb) σ H Q := by
  have z := bool_partV (m := ma) h fun t en hn => by
    split
    · rename_i e; exact absurd e (hn _)
    · rename_i e; exact absurd e (hn _)
    · rfl
  obtain ⟨env, F, S, R, T, sm, z⟩ := z
  refine ⟨env, F, S, R, T, sm, z.imp fun v H1 ⟨c, ev, env1, F1, S1, R1, T1, t, e, sm1, h1⟩ => ⟨c, ev, ?_⟩⟩
  cases c with
  | true => rw [if_pos rfl]; rw [e] at h1; exact ⟨env1, F1, S1, R1, T1, sm1, h1⟩
  | false => rw [if_neg Bool.false_ne_true]; rw [e] at h1; exact h1 (.bl false) F1 H1 S1 [] sm1 Go.refl' (.bl false)
theorem t_orV {Q : VK} (h : tE K mg W (eOr ma mb) σ H Q) : tOrV (tE K mg W ma) (tE K mg W mb) σ H Q := by
  have z := bool_partV (m := ma) h fun t en hn => by
    split
    · rename_i e; exact absurd e (hn _)
    · rename_i e; exact absurd e (hn _)
    · rfl
  obtain ⟨env, F, S, R, T, sm, z⟩ := z
  refine ⟨env, F, S, R, T, sm, z.imp fun v H1 ⟨c, ev, env1, F1, S1, R1, T1, t, e, sm1, h1⟩ => ⟨c, ev, ?_⟩⟩
  cases c with
  | false => rw [if_neg Bool.false_ne_true]; rw [e] at h1; exact ⟨env1, F1, S1, R1, T1, sm1, h1⟩
  | true => rw [if_pos rfl]; rw [e] at h1; exact h1 (.bl true) F1 H1 S1 [] sm1 Go.refl' (.bl true)
theorem t_notV {Q : VK} (h : tE K mg W (eNot m) σ H Q) : tNotV (tE K mg W m) σ H Q := by
  have z := bool_partV (m := m) h fun t en hn => by
    split
    · rename_i e; exact absurd e (hn _)
    · rfl
  obtain ⟨env, F, S, R, T, sm, z⟩ := z
  refine ⟨env, F, S, R, T, sm, z.imp fun v H1 ⟨c, ev, env1, F1, S1, R1, T1, t, e, sm1, h1⟩ => ⟨c, ev, ?_⟩⟩
  rw [e] at h1
  exact h1 (.bl (!c)) F1 H1 S1 [] sm1 Go.refl' (.bl (!c))
end
section
variable {X : Cx} {W : WX} {a b c e : Expr} {rest : List Expr} {pos : Pos} {ma mb mc m : Ex}
/-- an expression that tells a truth, as a test -/
theorem jt_val (h : JE X W e m) (he : ∀ whole, isTrue e X.env whole = (do let v ← whole; standAt e.pos; holding [v] (truthy v)) := by intro _; rfl) : JT X W e m := pt_val h he
theorem jt_cmp {op : CmpOp} {r : R2} {g : D → D → Option D} (ho : OpR X (compareOp op) r) (snd : Snd2 X.K X.mg r g) (ha : JE X W a ma) (hb : JE X W b mb) (hm : behindInMarks op b = false := by first | exact nomark _ | rfl) : JT X W (.Compare a [op] [b] pos) (e2 g ma mb) :=
  PT.imp (pt_cmpR ho ha hb hm) fun _ _ _ h => t_e2 snd h
theorem jw_and1 (ha : JT X W a ma) : JW X W (.BoolOp .And [a] pos) ma := pw_and1 ha
theorem jw_or1 (ha : JT X W a ma) : JW X W (.BoolOp .Or [a] pos) ma := pw_or1 ha
theorem jw_and (ha : JT X W a ma) (hb : JW X W (.BoolOp .And (b :: rest) pos) mb) : JW X W (.BoolOp .And (a :: b :: rest) pos) (eAnd ma mb) := PW.imp (pw_and ha hb) fun _ _ _ h => t_and h
theorem jw_or (ha : JT X W a ma) (hb : JW X W (.BoolOp .Or (b :: rest) pos) mb) : JW X W (.BoolOp .Or (a :: b :: rest) pos) (eOr ma mb) := PW.imp (pw_or ha hb) fun _ _ _ h => t_or h
theorem jt_bool (h : JW X W e m) : JT X W e m := h.pt
theorem jt_not (ha : JT X W a ma) : JT X W (.UnaryOp .Not a pos) (eNot ma) := PT.imp (pt_not ha) fun _ _ _ h => t_not h
theorem je_one {op} (h : JE X W a ma) : JE X W (.BoolOp op [a] pos) ma := pe_one h
theorem je_and (ha : JE X W a ma) (hb : JE X W (.BoolOp .And (b :: rest) pos) mb) : JE X W (.BoolOp .And (a :: b :: rest) pos) (eAnd ma mb) := je_of (pe_and ha hb) fun _ _ _ h => t_andV h
theorem je_or (ha : JE X W a ma) (hb : JE X W (.BoolOp .Or (b :: rest) pos) mb) : JE X W (.BoolOp .Or (a :: b :: rest) pos) (eOr ma mb) := je_of (pe_or ha hb) fun _ _ _ h => t_orV h
theorem je_not (ha : JE X W a ma) : JE X W (.UnaryOp .Not a pos) (eNot ma) := je_of (pe_not ha) fun _ _ _ h => t_notV h
theorem je_if (hc : JT X W c mc) (ha : JE X W a ma) (hb : JE X W b mb) : JE X W (.IfExp c a b pos) (eIf mc ma mb) := je_of (pe_ifExp hc ha hb) fun _ _ _ h => t_if h
end
end DL
/-! DLd: arguments, displays, statements, defs and their calls. -/
namespace DL
open PySem PySem.Spec PyProof.Rows L2

/-! ### several expressions -/
def evA : List Ex → Env → Res (List Tm)
  | [], env => .ok [] env
  | m :: ms, env => (m env).bind fun t e1 => (evA ms e1).bind fun ts e2 => .ok (t :: ts) e2
def rds (env : Env) : List Tm → Option (List D)
  | [] => some []
  | t :: ts => (rd env t).bind fun d => (rds env ts).bind fun ds => some (d :: ds)
def mvs (env : Env) : List Tm → Option (List D × Env)
  | [] => some ([], env)
  | t :: ts => (mv env t).bind fun p => (mvs p.2 ts).bind fun q => some (p.1 :: q.1, q.2)
def eN (g : List D → Option D) (ms : List Ex) : Ex := fun env => (evA ms env).bind fun ts en => opt en ((rds en ts).bind g)
def eTup (ms : List Ex) : Ex := fun env => (evA ms env).bind fun ts en => match mvs en ts with
  | some p => if p.1.length ≤ 16777216 then .ok (.vl (.tup p.1)) p.2 else .no
  | none => .no
def eLst (ms : List Ex) : Ex := fun env => (evA ms env).bind fun ts en => match mvs en ts with
  | some p => if p.1.length ≤ 16777216 then .ok (.vl (.lst true p.1)) p.2 else .no
  | none => .no
def tA (K : PySem.W.Frag) (mg : Mg) (W : WX) (ms : List Ex) : TA := fun σ H Q => ∃ env F S R T, Sm K mg F H env σ S R T ∧ Cont (RTs K mg σ) K mg W σ F H S R T (evA ms env) Q
abbrev JA (X : Cx) (W : WX) (es : List Expr) (ms : List Ex) : Prop := PA X es (tA X.K X.mg W ms)
def Rbs (K : PySem.W.Frag) (mg : Mg) (F H : Hp) : List D → List V → Prop
  | [], vs => vs = []
  | d :: ds, vs => ∃ v vr, vs = v :: vr ∧ Rb K mg F H d v ∧ Rbs K mg F H ds vr
def SndN (K : PySem.W.Frag) (mg : Mg) (r : List V → Hp → VK → Prop) (g : List D → Option D) : Prop :=
  ∀ (F H : Hp) (ds : List D) (vs : List V) (d' : D) (Q : VK), FzOk F H → Rbs K mg F H ds vs → g ds = some d' → (∀ v' F' H' U, Step F H F' H' U → Rp K mg F' (At H') d' v' U → Q v' H') → r vs H Q
section
variable {K : PySem.W.Frag} {mg : Mg} {W : WX} {F F' F1 F2 H H' H1 H2 : Hp} {env env' env1 : Env} {σ : L2.St} {S S' S1 T U U1 L : List Addr} {R : Lk}
theorem RTs.later : ∀ {T : List Addr} {ts : List Tm} {vs : List V} {U1 : List Addr}, RTs K mg σ F1 H1 ts vs U1 → Sm K mg F1 H1 env1 σ S1 R (U1 ++ T) → Go F1 H1 S1 F2 H2 L → RTs K mg σ F2 H2 ts vs U1
  | _, [], _, _, h, _, _ => h
  | T, t :: ts, _, _, h, s, g => by
    obtain ⟨v, vr, Ua, Ub, rfl, rfl, h1, h2⟩ := h
    refine ⟨v, vr, Ua, Ub, rfl, rfl, ?_, ?_⟩
    · refine RT.later h1 (T := Ub ++ T) (s.perm ?_) g
      rw [← List.append_assoc]
      exact List.Perm.append_right _ List.perm_append_comm
    · refine RTs.later h2 (T := Ua ++ T) ?_ g
      rw [← List.append_assoc]
      exact s
theorem RTs.rbs : ∀ {ts : List Tm} {vs : List V} {U1 : List Addr} {ds : List D}, RTs K mg σ F H ts vs U1 → Sm K mg F H env σ S R T → rds env ts = some ds → Rbs K mg F H ds vs
  | [], _, _, ds, h, _, e => by
    cases e
    exact h.1
  | t :: ts, _, _, ds, h, s, e => by
    obtain ⟨v, vr, Ua, Ub, rfl, rfl, h1, h2⟩ := h
    have e0 : rds env (t :: ts) = (rd env t).bind fun d => (rds env ts).bind fun ds => some (d :: ds) := rfl
    rw [e0] at e
    cases ea : rd env t with
    | none => rw [ea] at e; cases e
    | some d =>
      cases eb : rds env ts with
      | none => rw [ea, eb] at e; cases e
      | some dr =>
        rw [ea, eb] at e
        cases e
        exact ⟨v, vr, rfl, RT.rb h1 s ea, RTs.rbs h2 s eb⟩
/-- several are handed on -/
theorem mvs_ok : ∀ {T : List Addr} {ts : List Tm} {vs : List V} {U1 : List Addr} {ds : List D} {env env' : Env} {F : Hp} {S : List Addr}, Sm K mg F H env σ S R (U1 ++ T) → RTs K mg σ F H ts vs U1 → mvs env ts = some (ds, env') →
    ∃ F' S' U', Sm K mg F' H env' σ S' R (U' ++ T) ∧ Go F H S F' H S' ∧ Rps K mg F' (At H) ds vs U' ∧ U'.Perm U1
  | _, [], _, _, ds, env, env', F, S, s, h, e => by
    cases e
    obtain ⟨rfl, rfl⟩ := h
    exact ⟨F, S, [], s, Go.refl, .nil, .nil⟩
  | T, t :: ts, _, _, ds, env, env', F, S, s, h, e => by
    obtain ⟨v, vr, Ua, Ub, rfl, rfl, h1, h2⟩ := h
    have e0 : mvs env (t :: ts) = (mv env t).bind fun p => (mvs p.2 ts).bind fun q => some (p.1 :: q.1, q.2) := rfl
    rw [e0] at e
    cases ea : mv env t with
    | none => rw [ea] at e; cases e
    | some p =>
      obtain ⟨d, en1⟩ := p
      rw [ea, Option.bind_some] at e
      cases eb : mvs en1 ts with
      | none => rw [eb] at e; cases e
      | some q =>
        obtain ⟨dr, en2⟩ := q
        rw [eb] at e
        cases e
        have pm : ((Ub ++ Ua) ++ T).Perm (Ua ++ (Ub ++ T)) := by
          rw [← List.append_assoc]
          exact List.Perm.append_right _ List.perm_append_comm
        obtain ⟨F1, S1, s1, g1, r1⟩ := mv_ok (T := Ub ++ T) (s.perm pm) h1 ea
        have h2' : RTs K mg σ F1 H ts vr Ub := RTs.later h2 (T := Ua ++ T) (by rw [← List.append_assoc]; exact s) g1
        have s1' : Sm K mg F1 H en1 σ S1 R (Ub ++ (Ua ++ T)) := s1.perm (by
          rw [← List.append_assoc, ← List.append_assoc]
          exact List.Perm.append_right _ List.perm_append_comm)
        obtain ⟨F2, S2, U2, s2, g2, r2, p2⟩ := mvs_ok (T := Ua ++ T) s1' h2' eb
        refine ⟨F2, S2, Ua ++ U2, s2.perm ?_, ((g1.weak (L' := S1 ++ []) (by simp)).trans g2).weak (by simp), .cons (r1.mono g2.sub fun _ _ _ z => z) r2, ?_⟩
        · rw [← List.append_assoc]
          exact List.Perm.append_right _ List.perm_append_comm
        · exact List.perm_append_comm.trans (List.Perm.append_right _ p2)
theorem t_A_nil {σ : L2.St} {H : Hp} {Q : List V → Hp → Prop} (h : tA K mg W [] σ H Q) : tNil σ H Q := by
  obtain ⟨env, F, S, R, T, sm, h⟩ := h
  exact h [] F H S [] sm Go.refl' ⟨rfl, rfl⟩
theorem t_A_cons {m : Ex} {ms : List Ex} {σ : L2.St} {H : Hp} {Q : List V → Hp → Prop} (h : tA K mg W (m :: ms) σ H Q) : tCons (tE K mg W m) (tA K mg W ms) σ H Q := by
  obtain ⟨env, F, S, R, T, sm, h⟩ := h
  refine ⟨env, F, S, R, T, sm, (Cont.bind h).imp fun v1 H1 ⟨t1, env1, F1, S1, U1, sm1, go1, rt1, h1⟩ => ?_⟩
  refine ⟨env1, F1, S1, R, U1 ++ T, sm1, (h1.then go1).imp fun vs H2 ⟨ts, env2, F2, S2, U2, sm2, go2, go12, rts, h2⟩ => ?_⟩
  exact h2 (v1 :: vs) F2 H2 S2 (U2 ++ U1) sm2 go2 ⟨v1, vs, U1, U2, rfl, rfl, rt1.later sm1 go12, rts⟩
theorem t_N {ms : List Ex} {r : List V → Hp → VK → Prop} {g : List D → Option D} {Q : VK} (snd : SndN K mg r g) (h : tE K mg W (eN g ms) σ H Q) : tCB r (tA K mg W ms) σ H Q := by
  obtain ⟨env, F, S, R, T, sm, h⟩ := h
  refine ⟨env, F, S, R, T, sm, (Cont.bind h).imp fun vs H1 ⟨ts, env1, F1, S1, U1, sm1, go1, rts, h1⟩ => ?_⟩
  cases e : rds env1 ts with
  | none => rw [e] at h1; exact h1.elim
  | some ds =>
    rw [e] at h1
    cases eg : g ds with
    | none => rw [Option.bind_some, eg] at h1; exact h1.elim
    | some d' =>
      rw [Option.bind_some, eg] at h1
      exact snd F1 H1 ds vs d' Q sm1.fz (rts.rbs sm1 e) eg fun v' F' H' U st rp => h1.done0 sm1 go1 st rp
theorem sz : (sizeLine : Nat) = 16777216 := sizeLine_eq
theorem t_Tup {ms : List Ex} {Q : VK} (h : tE K mg W (eTup ms) σ H Q) : tTup (tA K mg W ms) σ H Q := by
  obtain ⟨env, F, S, R, T, sm, h⟩ := h
  refine ⟨env, F, S, R, T, sm, (Cont.bind h).imp fun vs H1 ⟨ts, env1, F1, S1, U1, sm1, go1, rts, h1⟩ => ?_⟩
  cases e : mvs env1 ts with
  | none => rw [e] at h1; exact h1.elim
  | some p =>
    obtain ⟨ds, env2⟩ := p
    rw [e] at h1
    obtain ⟨F2, S2, U2, s2, g2, r2, p2⟩ := mvs_ok sm1 rts e
    by_cases hl : ds.length ≤ 16777216
    · have h1' : Cont (RT K mg σ) K mg W σ F H S R T (.ok (.vl (.tup ds)) env2) Q := by
        have z : (if ds.length ≤ 16777216 then Res.ok (Tm.vl (D.tup ds)) env2 else Res.no) = Res.ok (Tm.vl (D.tup ds)) env2 := if_pos hl
        rw [← z]; exact h1
      refine ⟨by rw [sz, ← r2.length]; exact hl, fun p hp => ?_⟩
      refine h1'.done s2 (L := U2) (F1 := F2) (H1 := H1) ?_ (Step.fro s2.fz hp) (List.Sublist.refl _) (.tup upd_same (r2.mono (Sub.upd (s2.fz.gone hp)) fun a _ o eo => ?_))
      · exact (go1.trans (U1 := U1) g2).weak fun a ha => by
          simp only [List.mem_append] at ha ⊢
          exact ha.imp id fun z => p2.mem_iff.mp z
      · show upd H1 p _ a = some o
        rw [upd_ne (ne_of_none eo hp)]
        exact eo
    · have z : (if ds.length ≤ 16777216 then Res.ok (Tm.vl (D.tup ds)) env2 else Res.no) = Res.no := if_neg hl
      have h1' : Cont (RT K mg σ) K mg W σ F H S R T .no Q := by rw [← z]; exact h1
      exact h1'.elim
theorem t_Lst {ms : List Ex} {Q : VK} (h : tE K mg W (eLst ms) σ H Q) : tLst (tA K mg W ms) σ H Q := by
  obtain ⟨env, F, S, R, T, sm, h⟩ := h
  refine ⟨env, F, S, R, T, sm, (Cont.bind h).imp fun vs H1 ⟨ts, env1, F1, S1, U1, sm1, go1, rts, h1⟩ => ?_⟩
  cases e : mvs env1 ts with
  | none => rw [e] at h1; exact h1.elim
  | some p =>
    obtain ⟨ds, env2⟩ := p
    rw [e] at h1
    obtain ⟨F2, S2, U2, s2, g2, r2, p2⟩ := mvs_ok sm1 rts e
    by_cases hl : ds.length ≤ 16777216
    · have h1' : Cont (RT K mg σ) K mg W σ F H S R T (.ok (.vl (.lst true ds)) env2) Q := by
        have z : (if ds.length ≤ 16777216 then Res.ok (Tm.vl (D.lst true ds)) env2 else Res.no) = Res.ok (Tm.vl (D.lst true ds)) env2 := if_pos hl
        rw [← z]; exact h1
      refine ⟨by rw [sz, ← r2.length]; exact hl, fun p hp => ?_⟩
      refine h1'.done s2 (L := U2) (F1 := F2) (H1 := H1) ?_ (Step.own s2.fz hp) (List.Sublist.refl _) (.ol (by show upd H1 p _ p = _; rw [upd_same]) (r2.mono (Sub.refl _) fun a _ o eo => ?_))
      · exact (go1.trans (U1 := U1) g2).weak fun a ha => by
          simp only [List.mem_append] at ha ⊢
          exact ha.imp id fun z => p2.mem_iff.mp z
      · show upd H1 p _ a = some o
        rw [upd_ne (ne_of_none eo hp)]
        exact eo
    · have z : (if ds.length ≤ 16777216 then Res.ok (Tm.vl (D.lst true ds)) env2 else Res.no) = Res.no := if_neg hl
      have h1' : Cont (RT K mg σ) K mg W σ F H S R T .no Q := by rw [← z]; exact h1
      exact h1'.elim
end
section
variable {X : Cx} {W : WX} {e : Expr} {es : List Expr} {pos p : Pos} {m : Ex} {ms : List Ex} {x : Str}
theorem ja_nil : JA X W [] [] := ⟨fun pos pins s σ H Q I h => pa_nil.run pos pins s σ H Q I (t_A_nil h)⟩
theorem ja_cons (he : JE X W e m) (hes : JA X W es ms) (hs : starEach (e :: es) X.env = (false, eval e X.env) :: starEach es X.env := by rfl) : JA X W (e :: es) (m :: ms) := ⟨fun pos pins s σ H Q I h => (pa_cons he hes hs).run pos pins s σ H Q I (t_A_cons h)⟩
theorem je_tup {k} (h : JA X W es ms) : JE X W (.Tuple es k pos) (eTup ms) := je_of (pe_tup h) fun _ _ _ h => t_Tup h
theorem je_lst (h : JA X W es ms) : JE X W (.List es pos) (eLst ms) := je_of (pe_lst h) fun _ _ _ h => t_Lst h
/-- a built-in by its name -/
theorem je_callB {id : String} {r : List V → Hp → VK → Prop} {g : List D → Option D} (hc : CallR X (.builtin id) r) (snd : SndN X.K X.mg r g) (hg : Gl X x) (hm : X.mg x = none) (hv : bootBuiltins x = some (.builtin id)) (ha : JA X W (e :: es) ms) (hn : x ≠ "__name__" := by decide) (hdb : (x == ("__debug__" : Str)) = false := by decide)
    (he : starEach (e :: es) X.env = (false, eval e X.env) :: starEach es X.env := by rfl) (hpl : (backTo pos (starEach es X.env)).any (·.1) = false := by rfl) : JE X W (.Call (.Name x p) (e :: es) [] pos) (eN g ms) :=
  je_of (pe_callB hc hg hm hv ha hn hdb he hpl) fun _ _ _ h => t_N snd h
theorem je_callTy {id : String} {r : List V → Hp → VK → Prop} {g : List D → Option D} (hc : CallR X (.type id) r) (snd : SndN X.K X.mg r g) (hg : Gl X x) (hm : X.mg x = none) (hv : bootBuiltins x = some (.type id)) (ha : JA X W (e :: es) ms) (hn : x ≠ "__name__" := by decide) (hdb : (x == ("__debug__" : Str)) = false := by decide)
    (he : starEach (e :: es) X.env = (false, eval e X.env) :: starEach es X.env := by rfl) (hpl : (backTo pos (starEach es X.env)).any (·.1) = false := by rfl) : JE X W (.Call (.Name x p) (e :: es) [] pos) (eN g ms) :=
  je_of (pe_callTy hc hg hm hv ha hn hdb he hpl) fun _ _ _ h => t_N snd h
end
end DL
/-! DLe: slots taken and put, statements, defs. -/
namespace DL
open PySem PySem.Spec PyProof.Rows L2

section
variable {K : PySem.W.Frag} {mg : Mg} {W : WX} {F F' F1 F2 H H' H1 H2 : Hp} {env env' env1 : Env} {σ σ' : L2.St} {S S' S1 T U U1 L : List Addr} {R : Lk}
/-- the slot's own cells go to the temporaries -/
theorem Sm0.take {i : Nat} {k : Kd} {d : D} (s : Sm0 K mg F H env σ S R T) (e : env[i]? = some (.sl k d)) (hk : k ≠ .R) : ∃ v S1 S2, σ[i]? = some (some v) ∧ Rp K mg F (At H) d v S1 ∧ S.Perm (S1 ++ S2) ∧ Sm0 K mg F H (env.set i .un) σ S2 R (S1 ++ T) := by
  obtain ⟨v, S1, S2, e1, q1, p, q⟩ := s.re.take e hk
  have pm : (S2 ++ (S1 ++ T)).Perm (S ++ T) := List.perm_iff_count.mpr fun z => by
    have := p.count_eq z
    simp only [List.count_append] at this ⊢
    omega
  have pm2 : (S2 ++ (R.R ++ (S1 ++ T))).Perm (S ++ (R.R ++ T)) := List.perm_iff_count.mpr fun z => by
    have := p.count_eq z
    simp only [List.count_append] at this ⊢
    omega
  exact ⟨v, S1, S2, e1, q1, p, q, (List.Perm.nodup_iff pm).mpr s.nd, fun a ha z => s.rd a ha (pm.mem_iff.mp z), s.fz, fun a ha => s.nf a (pm2.mem_iff.mp ha), fun a ha => s.th a (pm2.mem_iff.mp ha)⟩
/-- a temporary goes to an empty slot -/
theorem Sm0.put {i : Nat} {k : Kd} {d : D} {v : V} (s : Sm0 K mg F H env σ S R (U ++ T)) (e : env[i]? = some .un) (hk : k ≠ .R) (h : Rp K mg F (At H) d v U) : ∃ S', S'.Perm (U ++ S) ∧ Sm0 K mg F H (env.set i (.sl k d)) (σ.set i (some v)) S' R T := by
  obtain ⟨S', p, q⟩ := s.re.put e k d v U hk h
  have pm : (S' ++ T).Perm (S ++ (U ++ T)) := List.perm_iff_count.mpr fun z => by
    have := p.count_eq z
    simp only [List.count_append] at this ⊢
    omega
  have pm2 : (S' ++ (R.R ++ T)).Perm (S ++ (R.R ++ (U ++ T))) := List.perm_iff_count.mpr fun z => by
    have := p.count_eq z
    simp only [List.count_append] at this ⊢
    omega
  exact ⟨S', p, q, (List.Perm.nodup_iff pm).mpr s.nd, fun a ha z => s.rd a ha (pm.mem_iff.mp z), s.fz, fun a ha => s.nf a (pm2.mem_iff.mp ha), fun a ha => s.th a (pm2.mem_iff.mp ha)⟩
/-- a slot that is neither lent nor locked is set -/
theorem Lok.set {i : Nat} {d : D} {s0 : Sl} {v : V} (l : Lok K mg F H env σ R) (hi : env[i]? = some s0) (hl : lentS s0 = false) : Lok K mg F H (env.set i (.sl .O d)) (σ.set i (some v)) R := by
  have z := l.bl i s0 hi
  rw [hl] at z
  refine ⟨fun j w ej => ?_, fun j s1 ej => ?_, fun j d1 ej => ?_, l.qr⟩
  · by_cases hj : j = i
    · subst hj
      rw [ej] at z
      cases z
    · rw [List.getElem?_set_ne (Ne.symm hj)]
      exact l.bd j w ej
  · by_cases hj : j = i
    · subst hj
      rw [List.getElem?_set_self (List.getElem?_eq_some_iff.mp hi).1] at ej
      cases ej
      exact z
    · rw [List.getElem?_set_ne (Ne.symm hj)] at ej
      exact l.bl j s1 ej
  · by_cases hj : j = i
    · subst hj
      rw [List.getElem?_set_self (List.getElem?_eq_some_iff.mp hi).1] at ej
      cases ej
    · rw [List.getElem?_set_ne (Ne.symm hj)] at ej
      exact l.rq j d1 ej
end

/-! ### statements -/
inductive Fl where
  | nx | bk | ct | rt (t : Tm)
  deriving Inhabited
abbrev Sta := Env → Res Fl
def ContS (K : PySem.W.Frag) (mg : Mg) (W : WX) (F H : Hp) (S : List Addr) (R : Lk) (T : List Addr) (r : Res Fl) (D : Ends) : Prop := match r with
  | .ok .nx env' => ∀ σ' F' H' S', Sm K mg F' H' env' σ' S' R T → Go F H S F' H' S' → D.nx σ' H'
  | .ok .bk env' => ∀ σ' F' H' S', Sm K mg F' H' env' σ' S' R T → Go F H S F' H' S' → D.bk σ' H'
  | .ok .ct env' => ∀ σ' F' H' S', Sm K mg F' H' env' σ' S' R T → Go F H S F' H' S' → D.ct σ' H'
  | .ok (.rt t) env' => ∀ v σ' F' H' S' U, Sm K mg F' H' env' σ' S' R (U ++ T) → Go F H S F' H' (S' ++ U) → RT K mg σ' F' H' t v U → D.rt v H'
  | .ex c env' => ∀ cv σ' F' H' S', Sm K mg F' H' env' σ' S' R T → Go F H S F' H' S' → mg c = some cv → W cv none σ' H'
  | .no => False
def tS (K : PySem.W.Frag) (mg : Mg) (W : WX) (m : Sta) : TS := fun D σ H => ∃ env F S R T, Sm K mg F H env σ S R T ∧ ContS K mg W F H S R T (m env) D
abbrev JS (X : Cx) (W : WX) (st : Stmt) (m : Sta) : Prop := PS X st (tS X.K X.mg W m)
abbrev JB (X : Cx) (W : WX) (st : List Stmt) (m : Sta) : Prop := PSs X st (tS X.K X.mg W m)
def sNil : Sta := fun env => .ok .nx env
def sSeq (a b : Sta) : Sta := fun env => (a env).bind fun fl en => match fl with
  | .nx => b en
  | fl => .ok fl en
def sExpr (m : Ex) : Sta := fun env => (m env).bind fun _ en => .ok .nx en
def sRet (m : Ex) : Sta := fun env => (m env).bind fun t en => .ok (.rt t) en
def sRetN : Sta := fun env => .ok (.rt (.vl .non)) env
def sBrk : Sta := fun env => .ok .bk env
def sCnt : Sta := fun env => .ok .ct env
def sIf (mc : Ex) (a b : Sta) : Sta := fun env => (mc env).bind fun t en => match rd en t with
  | some (.bl true) => a en
  | some (.bl false) => b en
  | _ => .no
/-- a name's slot is set -/
def setS (env : Env) (i : Nat) (d : D) : Option Env := match env[i]? with
  | some .un => some (env.set i (.sl .O d))
  | some (.sl .O _) => some (env.set i (.sl .O d))
  | _ => none
def sSet (i : Nat) (m : Ex) : Sta := fun env => (m env).bind fun t en => match mv en t with
  | some p => (match setS p.2 i p.1 with
    | some en' => .ok .nx en'
    | none => .no)
  | none => .no
section
variable {K : PySem.W.Frag} {mg : Mg} {W : WX} {F F' F1 F2 H H' H1 H2 : Hp} {env env' env1 : Env} {σ σ' : L2.St} {S S' S1 T U U1 L : List Addr} {R : Lk} {r : Res Fl} {D' : Ends}
theorem ContS.re (h : ContS K mg W F H S R T r D') (g : Go F H S F1 H1 (S1 ++ U1)) : ContS K mg W F1 H1 S1 R (U1 ++ T) r D' := by
  cases r with
  | ok t e =>
    cases t with
    | nx => exact fun σ' F' H' S' a b => h σ' F' H' S' a.drop ((g.trans (U1 := U1) b).weak fun a ha => List.mem_append_left _ ha)
    | bk => exact fun σ' F' H' S' a b => h σ' F' H' S' a.drop ((g.trans (U1 := U1) b).weak fun a ha => List.mem_append_left _ ha)
    | ct => exact fun σ' F' H' S' a b => h σ' F' H' S' a.drop ((g.trans (U1 := U1) b).weak fun a ha => List.mem_append_left _ ha)
    | rt t => exact fun v σ' F' H' S' U a b c => h v σ' F' H' S' U (a.temps (List.Sublist.append_left (List.sublist_append_right _ _) _)) ((g.trans (U1 := U1) b).weak fun a ha => List.mem_append_left _ ha) c
  | ex c e => exact fun cv σ' F' H' S' a b e' => h cv σ' F' H' S' a.drop ((g.trans (U1 := U1) b).weak fun a ha => List.mem_append_left _ ha) e'
  | no => exact h
theorem ContS.re0 (h : ContS K mg W F H S R T r D') (g : Go F H S F1 H1 S1) : ContS K mg W F1 H1 S1 R T r D' := ContS.re (U1 := []) h (by rw [List.append_nil]; exact g)
/-- an expression ahead of a statement's end -/
theorem ContS.bind {r : Res Tm} {f : Tm → Env → Res Fl} (h : ContS K mg W F H S R T (r.bind f) D') :
    Cont (RT K mg σ) K mg W σ F H S R T r fun v1 H1 => ∃ t1 env1 F1 S1 U1, Sm K mg F1 H1 env1 σ S1 R (U1 ++ T) ∧ Go F H S F1 H1 (S1 ++ U1) ∧ RT K mg σ F1 H1 t1 v1 U1 ∧ ContS K mg W F H S R T (f t1 env1) D' := by
  cases r with
  | ok t e => exact fun v F' H' S' U a b c => ⟨t, e, F', S', U, a, b, c, h⟩
  | ex c e => exact fun cv F' H' S' a b e' => h cv σ F' H' S' a b e'
  | no => exact h
theorem t_Nil {σ : L2.St} {H : Hp} (h : tS K mg W sNil D' σ H) : tNext D' σ H := by
  obtain ⟨env, F, S, R, T, sm, h⟩ := h
  exact h σ F H S sm Go.refl
theorem t_Seq {a b : Sta} {σ : L2.St} {H : Hp} (h : tS K mg W (sSeq a b) D' σ H) : tSeq (tS K mg W a) (tS K mg W b) D' σ H := by
  obtain ⟨env, F, S, R, T, sm, h⟩ := h
  refine ⟨env, F, S, R, T, sm, ?_⟩
  have e0 : sSeq a b env = (a env).bind fun fl en => match fl with
    | .nx => b en
    | fl => .ok fl en := rfl
  rw [e0] at h
  cases e : a env with
  | ok t en =>
    rw [e] at h
    cases t with
    | nx => exact fun σ' F' H' S' a b => ⟨en, F', S', R, T, a, h.re0 b⟩
    | bk => exact h
    | ct => exact h
    | rt t => exact h
  | ex c en => rw [e] at h; exact h
  | no => rw [e] at h; exact h.elim
theorem t_Expr {m : Ex} {σ : L2.St} {H : Hp} (h : tS K mg W (sExpr m) D' σ H) : tDrop (tE K mg W m) D' σ H := by
  obtain ⟨env, F, S, R, T, sm, h⟩ := h
  exact ⟨env, F, S, R, T, sm, (ContS.bind h).imp fun v H1 ⟨t1, env1, F1, S1, U1, sm1, go1, rt1, h1⟩ => h1 σ F1 H1 S1 sm1.drop (go1.weak fun a ha => List.mem_append_left _ ha)⟩
theorem t_Ret {m : Ex} {σ : L2.St} {H : Hp} (h : tS K mg W (sRet m) D' σ H) : tRet (tE K mg W m) D' σ H := by
  obtain ⟨env, F, S, R, T, sm, h⟩ := h
  exact ⟨env, F, S, R, T, sm, (ContS.bind h).imp fun v H1 ⟨t1, env1, F1, S1, U1, sm1, go1, rt1, h1⟩ => h1 v σ F1 H1 S1 U1 sm1 go1 rt1⟩
theorem t_RetN {σ : L2.St} {H : Hp} (h : tS K mg W sRetN D' σ H) : tRetN D' σ H := by
  obtain ⟨env, F, S, R, T, sm, h⟩ := h
  exact h .non σ F H S [] sm Go.refl' .non
theorem t_Brk {σ : L2.St} {H : Hp} (h : tS K mg W sBrk D' σ H) : tBreak D' σ H := by
  obtain ⟨env, F, S, R, T, sm, h⟩ := h
  exact h σ F H S sm Go.refl
theorem t_Cnt {σ : L2.St} {H : Hp} (h : tS K mg W sCnt D' σ H) : tCont D' σ H := by
  obtain ⟨env, F, S, R, T, sm, h⟩ := h
  exact h σ F H S sm Go.refl
theorem t_IfS {mc : Ex} {a b : Sta} {σ : L2.St} {H : Hp} (h : tS K mg W (sIf mc a b) D' σ H) : tIfS (tT K mg W mc) (tS K mg W a) (tS K mg W b) D' σ H := by
  obtain ⟨env, F, S, R, T, sm, h⟩ := h
  refine ⟨env, F, S, R, T, sm, (ContS.bind h).imp fun v H1 ⟨t1, env1, F1, S1, U1, sm1, go1, rt1, h1⟩ => ?_⟩
  by_cases hb : ∃ b, rd env1 t1 = some (.bl b)
  · obtain ⟨c, e⟩ := hb
    refine ⟨c, (rt1.rb sm1 e).bl, ?_⟩
    rw [e] at h1
    cases c with
    | true => rw [if_pos rfl]; exact ⟨env1, F1, S1, R, U1 ++ T, sm1, h1.re go1⟩
    | false => rw [if_neg Bool.false_ne_true]; exact ⟨env1, F1, S1, R, U1 ++ T, sm1, h1.re go1⟩
  · split at h1
    · rename_i e; exact absurd ⟨_, e⟩ hb
    · rename_i e; exact absurd ⟨_, e⟩ hb
    · exact h1.elim
/-- a slot is set -/
theorem setS_ok {i : Nat} {d : D} {v : V} (s : Sm K mg F H env σ S R (U ++ T)) (h : Rp K mg F (At H) d v U) (e : setS env i d = some env') : ∃ S', Sm K mg F H env' (σ.set i (some v)) S' R T ∧ ∀ a ∈ S', a ∈ S ∨ a ∈ U := by
  have fin : ∀ {s0 : Sl} {S' : List Addr}, env[i]? = some s0 → lentS s0 = false → Sm0 K mg F H (env.set i (.sl .O d)) (σ.set i (some v)) S' R T → Sm K mg F H (env.set i (.sl .O d)) (σ.set i (some v)) S' R T := fun {s0 S'} hi hl q => ⟨q, s.lk.set hi hl⟩
  unfold setS at e
  split at e
  · rename_i hi
    cases e
    obtain ⟨S', p, q⟩ := s.toSm0.put hi (k := .O) (by decide) h
    exact ⟨S', fin hi rfl q, fun a ha => by
      have z := p.mem_iff.mp ha
      rcases List.mem_append.mp z with z | z
      · exact .inr z
      · exact .inl z⟩
  · rename_i d0 hi
    cases e
    obtain ⟨v0, S1, S2, e1, q1, p1, q⟩ := s.toSm0.take hi (by decide)
    have hi2 : (env.set i Sl.un)[i]? = some .un := by
      rw [List.getElem?_set_self]
      exact (List.getElem?_eq_some_iff.mp hi).1
    obtain ⟨S', p, z⟩ := (q.temps (List.sublist_append_right _ _)).put hi2 (k := .O) (by decide) h
    rw [List.set_set] at z
    exact ⟨S', fin hi rfl z, fun a ha => by
      have z := p.mem_iff.mp ha
      rcases List.mem_append.mp z with z | z
      · exact .inr z
      · exact .inl (p1.mem_iff.mpr (List.mem_append_right _ z))⟩
  · cases e
theorem t_Set {i : Nat} {m : Ex} {σ : L2.St} {H : Hp} (h : tS K mg W (sSet i m) D' σ H) : tAsg (tE K mg W m) (gName i) D' σ H := by
  obtain ⟨env, F, S, R, T, sm, h⟩ := h
  refine ⟨env, F, S, R, T, sm, (ContS.bind h).imp fun v H1 ⟨t1, env1, F1, S1, U1, sm1, go1, rt1, h1⟩ => ?_⟩
  cases e : mv env1 t1 with
  | none => rw [e] at h1; exact h1.elim
  | some p =>
    obtain ⟨d, env2⟩ := p
    rw [e] at h1
    obtain ⟨F2, S2, s2, g2, r2⟩ := mv_ok sm1 rt1 e
    dsimp only at h1
    cases e2 : setS env2 i d with
    | none => rw [e2] at h1; exact h1.elim
    | some env3 =>
      rw [e2] at h1
      obtain ⟨S3, s3, hs⟩ := setS_ok s2 r2 e2
      refine h1 (σ.set i (some v)) F2 H1 S3 s3 ((go1.trans (U1 := U1) g2).weak fun a ha => ?_)
      exact List.mem_append.mpr (hs a ha)
end
section
variable {X : Cx} {W : WX} {st : Stmt} {rest : List Stmt} {e c : Expr} {es : List Expr} {pos p : Pos} {m mc : Ex} {a b : Sta} {x : Str}
theorem js_of {t : TS} {m : Sta} (h : PS X st t) (i : ∀ D σ H, tS X.K X.mg W m D σ H → t D σ H) : JS X W st m := ⟨fun pins s σ H D I hq => h.run pins s σ H D I (i D σ H hq)⟩
theorem jb_of {t : TS} {m : Sta} {st : List Stmt} (h : PSs X st t) (i : ∀ D σ H, tS X.K X.mg W m D σ H → t D σ H) : JB X W st m := ⟨fun pins s σ H D I hq => h.run pins s σ H D I (i D σ H hq)⟩
theorem jb_nil : JB X W [] sNil := jb_of pss_nil fun _ _ _ h => t_Nil h
theorem jb_cons (h1 : JS X W st a) (h2 : JB X W rest b) : JB X W (st :: rest) (sSeq a b) := jb_of (pss_cons h1 h2) fun _ _ _ h => t_Seq h
theorem jb_one (h1 : JS X W st a) : JB X W [st] a := pss_one h1
theorem js_pass : JS X W (.Pass pos) sNil := js_of ps_pass fun _ _ _ h => t_Nil h
theorem js_doc {x j pos pos'} : JS X W (.Expr (.Constant (.str x) j pos) pos') sNil := js_of ps_doc fun _ _ _ h => t_Nil h
theorem js_break : JS X W (.Break pos) sBrk := js_of ps_break fun _ _ _ h => t_Brk h
theorem js_continue : JS X W (.Continue pos) sCnt := js_of ps_continue fun _ _ _ h => t_Cnt h
theorem js_expr (he : JE X W e m) (hs : swapsWith e none pos.line X.env = pure false := by rfl) : JS X W (.Expr e pos) (sExpr m) := js_of (ps_expr he hs) fun _ _ _ h => t_Expr h
theorem js_ret (he : JE X W e m) : JS X W (.Return (some e) pos) (sRet m) := js_of (ps_ret he) fun _ _ _ h => t_Ret h
theorem js_retN : JS X W (.Return none pos) sRetN := js_of ps_retN fun _ _ _ h => t_RetN h
theorem js_if {sa sb : List Stmt} (hc : JT X W c mc) (ha : JB X W sa a) (hb : JB X W sb b) : JS X W (.If c sa sb pos) (sIf mc a b) := js_of (ps_if hc ha hb) fun _ _ _ h => t_IfS h
theorem js_set (i : Nat) {pos' : Pos} (he : JE X W e m) (hN : X.N.Nodup) (hi : X.N[i]? = some x := by rfl) (hx : Loc X.env.scope x := by first | exact Or.inl rfl | exact Or.inr rfl) (hs : swapsWith e (some (.Name x pos')) pos.line X.env = pure false := by rfl) (hf : X.fn x = true ∨ X.env.scope.names.lookup x = some .local := by first | exact .inl rfl | exact .inr rfl | assumption) :
    JS X W (.Assign [.Name x pos'] e pos) (sSet i m) := js_of (ps_set hN hi hx he hs hf) fun _ _ _ h => t_Set h
end

/-! ### defs -/
abbrev Fn := List Sl → Res D
/-- what is told, and the slots behind -/
def fin (en : Env) : Tm → Option (D × Env)
  | .vl d => some (d, en)
  | .loc i => match en[i]? with
    | some (.sl k d) => if d.cl then some (d, en) else (match k with
      | .O => some (d, en.set i .un)
      | .M => some (d.fz, en.set i (.sl .M d.fz))
      | .R => none)
    | _ => none
def out1 : Sl → Sl → Option Sl
  | .sl .M _, .sl .M d => some (.sl .M d)
  | .sl .M _, _ => none
  | _, _ => some .un
/-- the parameters' slots behind: those lent to be changed alone -/
def outs : List Sl → Env → Option (List Sl)
  | [], _ => some []
  | a :: as, env => match env with
    | [] => none
    | s :: en => (outs as en).bind fun r => (out1 a s).map fun s' => s' :: r
def mkFn (p n : Nat) (body : Sta) : Fn := fun args => if args.length = p then (match body (args ++ List.replicate (n - args.length) .un) with
  | .ok (.rt t) en => (match fin en t with
    | some p => (match outs args p.2 with
      | some o => .ok p.1 o
      | none => .no)
    | none => .no)
  | .ok .nx en => (match outs args en with
      | some o => .ok .non o
      | none => .no)
  | .ex c en => (match outs args en with
      | some o => .ex c o
      | none => .no)
  | _ => .no) else .no
def ContF (K : PySem.W.Frag) (mg : Mg) (vs : List V) (F H : Hp) (S : List Addr) (R : Lk) (r : Res D) (Q : VK) (E : XK) : Prop := match r with
  | .ok d o => ∀ v F' H' S' U, Sm0 K mg F' H' o (vs.map some) S' R U → Go F H S F' H' (S' ++ U) → Rp K mg F' (At H') d v U → Q v H'
  | .ex c o => ∀ cv F' H' S', Sm0 K mg F' H' o (vs.map some) S' R [] → Go F H S F' H' S' → mg c = some cv → E cv none H'
  | .no => False
def spF (K : PySem.W.Frag) (mg : Mg) (f : Fn) : Sp := fun vs H Q E => ∃ args F S R, Sm K mg F H args (vs.map some) S R [] ∧ ContF K mg vs F H S R (f args) Q E
section
variable {K : PySem.W.Frag} {mg : Mg} {W : WX} {F F' F1 F2 H H' H1 H2 : Hp} {env env' env1 : Env} {σ σ' : L2.St} {S S' S1 T U U1 L : List Addr} {R : Lk}
theorem fin_ok {t : Tm} {v : V} {d : D} (s : Sm K mg F H env σ S R (U ++ T)) (rt : RT K mg σ F H t v U) (e : fin env t = some (d, env')) :
    ∃ F' S' U', Sm0 K mg F' H env' σ S' R (U' ++ T) ∧ Rp K mg F' (At H) d v U' ∧ (∀ F0 H0 S0, Go F0 H0 S0 F H (S ++ U) → Go F0 H0 S0 F' H (S' ++ U')) := by
  have viaMv : mv env t = some (d, env') → ∃ F' S' U', Sm0 K mg F' H env' σ S' R (U' ++ T) ∧ Rp K mg F' (At H) d v U' ∧ (∀ F0 H0 S0, Go F0 H0 S0 F H (S ++ U) → Go F0 H0 S0 F' H (S' ++ U')) := fun q => by
    obtain ⟨F', S', s', g, r⟩ := mv_ok s rt q
    exact ⟨F', S', U, s'.toSm0, r, fun F0 H0 S0 g0 => g0.trans (U1 := U) g⟩
  cases t with
  | vl d' => exact viaMv e
  | loc i =>
    obtain ⟨rfl, ev⟩ := rt
    have e0 : fin env (.loc i) = (match env[i]? with
      | some (.sl k d) => if d.cl then some (d, env) else (match k with
        | .O => some (d, env.set i .un)
        | .M => some (d.fz, env.set i (.sl .M d.fz))
        | .R => none)
      | _ => none) := rfl
    have e1 : mv env (.loc i) = (match env[i]? with
      | some (.sl k d) => if d.cl then some (d, env) else if k = .R then none else some (d.fz, env.set i (.sl k d.fz))
      | _ => none) := rfl
    rw [e0] at e
    split at e
    · rename_i k d0 hi
      rw [hi] at e1
      by_cases hc : d0.cl = true
      · rw [if_pos hc] at e
        dsimp only at e1
        rw [if_pos hc] at e1
        exact viaMv (e1.trans e)
      · rw [if_neg hc] at e
        dsimp only at e1
        rw [if_neg hc] at e1
        cases k with
        | O =>
          cases e
          obtain ⟨v', S1, S2, e2, q1, p1, q⟩ := s.toSm0.take hi (by decide)
          rw [ev] at e2
          cases e2
          refine ⟨F, S2, S1, q, q1, fun F0 H0 S0 g0 => g0.weak fun a ha => ?_⟩
          refine List.mem_append_left _ (p1.mem_iff.mpr ?_)
          rcases List.mem_append.mp ha with z | z
          · exact List.mem_append_right _ z
          · exact List.mem_append_left _ z
        | M =>
          rw [if_neg (by decide)] at e1
          exact viaMv (e1.trans e)
        | R => cases e
    · cases e
end
end DL
/-! DLf: a def's body gives its promise; calls. -/
namespace DL
open PySem PySem.Spec PyProof.Rows L2

section
variable {K : PySem.W.Frag} {mg : Mg} {W : WX} {F F' F1 F2 H H' H1 H2 : Hp} {env env' env1 : Env} {σ σ' : L2.St} {S S' S1 T U U1 L : List Addr} {R : Lk}
theorem outs_ok : ∀ {args : List Sl} {env : Env} {σ : L2.St} {vs : List V} {S : List Addr} {o : List Sl}, RE K mg F H env σ S → outs args env = some o → args.length = vs.length →
    (∀ (j : Nat) (s : Sl), args[j]? = some s → lentS s = true → σ[j]? = (vs.map some)[j]?) → ∃ S', RE K mg F H o (vs.map some) S' ∧ List.Sublist S' S
  | [], env, σ, vs, S, o, h, e, hl, _ => by
    have e0 : outs [] env = some [] := by cases env <;> rfl
    rw [e0] at e
    cases e
    cases vs with
    | nil => exact ⟨[], .nil, List.nil_sublist _⟩
    | cons v vs => simp at hl
  | a :: as, [], σ, vs, S, o, h, e, hl, _ => by cases e
  | a :: as, s :: en, σ, vs, S, o, h, e, hl, hb => by
    cases vs with
    | nil => simp at hl
    | cons v vs =>
      have e0 : outs (a :: as) (s :: en) = (outs as en).bind fun r => (out1 a s).map fun s' => s' :: r := rfl
      rw [e0] at e
      cases ea : outs as en with
      | none => rw [ea] at e; cases e
      | some r =>
        rw [ea, Option.bind_some] at e
        have hl' : as.length = vs.length := by simpa using hl
        have tl : ∀ {σ0 : L2.St} {o0 : Option V} {S0 : List Addr}, σ = o0 :: σ0 → RE K mg F H en σ0 S0 → ∃ S', RE K mg F H r (vs.map some) S' ∧ List.Sublist S' S0 := fun {σ0 o0 S0} es hr => by
          subst es
          exact outs_ok hr ea hl' fun j s' e1 e2 => by
            have z := hb (j + 1) s' (by simpa using e1) e2
            simpa using z
        have un : ∀ {σ0 : L2.St} {o0 : Option V} {S0 : List Addr}, σ = o0 :: σ0 → RE K mg F H en σ0 S0 → List.Sublist S0 S → out1 a s = some .un → ∃ S', RE K mg F H o ((v :: vs).map some) S' ∧ List.Sublist S' S := fun {σ0 o0 S0} es hr hs eo => by
          rw [eo] at e
          cases e
          obtain ⟨S', q1, q2⟩ := tl es hr
          exact ⟨S', .un q1, q2.trans hs⟩
        have same : ∀ {σ0 : L2.St} {o0 : Option V}, σ = o0 :: σ0 → lentS a = true → o0 = some v := fun {σ0 o0} es hlent => by
          have z := hb 0 a rfl hlent
          rw [es] at z
          simpa using z
        have case : out1 a s = none ∨ out1 a s = some .un ∨ ∃ d d', a = .sl .M d ∧ s = .sl .M d' := by
          unfold out1
          split
          · exact .inr (.inr ⟨_, _, rfl, rfl⟩)
          · exact .inl rfl
          · exact .inr (.inl rfl)
        rcases case with c | c | ⟨d, d', rfl, rfl⟩
        · rw [c] at e; cases e
        · cases h with
          | un h => exact un rfl h (List.Sublist.refl _) c
          | ow hk hp hr => exact un rfl hr (List.sublist_append_right _ _) c
          | rd hr => exact un rfl hr (List.Sublist.refl _) c
        · cases e
          cases h with
          | @ow k d v0 env0 σ0 S1 S0 hk hp hr =>
            obtain ⟨S', q1, q2⟩ := tl rfl hr
            have ev := same rfl rfl
            cases ev
            exact ⟨S1 ++ S', .ow (by decide) hp q1, List.Sublist.append_left q2 _⟩
/-- what the def's end leaves of its parameters' slots -/
theorem outs_sm {args : List Sl} {vs : List V} {o : List Sl} (s : Sm0 K mg F H env σ S R T) (e : outs args env = some o) (hl : args.length = vs.length) (bd : ∀ (i : Nat) (v : V), R.B i = some v → σ[i]? = some (some v))
    (bd0 : ∀ (i : Nat) (v : V), R.B i = some v → (vs.map some)[i]? = some (some v)) (bl0 : ∀ (i : Nat) (s : Sl), args[i]? = some s → lentS s = (R.B i).isSome) : ∃ S', Sm0 K mg F H o (vs.map some) S' R T ∧ List.Sublist S' S := by
  obtain ⟨S', q1, q2⟩ := outs_ok s.re e hl fun j s' e1 e2 => by
    have z := bl0 j s' e1
    rw [e2] at z
    obtain ⟨v, hv⟩ := Option.isSome_iff_exists.mp z.symm
    rw [bd j v hv, bd0 j v hv]
  exact ⟨S', ⟨q1, s.nd.sublist (List.Sublist.append_right q2 _), fun a ha z => s.rd a ha ((List.Sublist.append_right q2 _).subset z), s.fz, fun a ha => s.nf a ((List.Sublist.append_right q2 _).subset ha), fun a ha => s.th a ((List.Sublist.append_right q2 _).subset ha)⟩, q2⟩
/-- a body's run is the def's -/
theorem fn_body {p : Nat} {N : List Str} {body : Sta} {vs : List V} {Q : VK} {E : XK} (h : spF K mg (mkFn p N.length body) vs H Q E) :
    tS K mg (fun cls d _ H => E cls d H) body { nx := fun _ H' => Q .non H', rt := Q } (start N vs) H := by
  obtain ⟨args, F, S, R, sm, h⟩ := h
  have hla : args.length = vs.length := by rw [sm.re.length, List.length_map]
  have smB : Sm K mg F H (args ++ List.replicate (N.length - args.length) .un) (start N vs) S R [] := by
    have old : ∀ (i : Nat) (s : Sl), (args ++ List.replicate (N.length - args.length) Sl.un)[i]? = some s → args[i]? = some s ∨ (s = .un ∧ args.length ≤ i) := fun i s e => by
      by_cases hi : i < args.length
      · rw [List.getElem?_append_left hi] at e
        exact .inl e
      · rw [List.getElem?_append_right (by omega)] at e
        exact .inr ⟨(List.mem_replicate.mp (List.mem_of_getElem? e)).2, by omega⟩
    refine ⟨⟨?_, sm.nd, sm.rd, sm.fz, sm.nf, sm.th⟩, fun i v e => ?_, fun i s e => ?_, fun i d e => ?_, sm.lk.qr⟩
    · unfold L2.start
      rw [hla]
      exact sm.re.pad
    · unfold L2.start
      have z := sm.lk.bd i v e
      rw [List.getElem?_append_left (List.getElem?_eq_some_iff.mp z).1]
      exact z
    · rcases old i s e with q | ⟨rfl, hi⟩
      · exact sm.lk.bl i s q
      · cases q : R.B i with
        | none => rfl
        | some v =>
          have z := sm.lk.bd i v q
          have y := (List.getElem?_eq_some_iff.mp z).1
          rw [List.length_map] at y
          omega
    · rcases old i _ e with q | ⟨q, _⟩
      · exact sm.lk.rq i d q
      · cases q
  refine ⟨_, F, S, R, [], smB, ?_⟩
  unfold mkFn at h
  split at h
  · have fin0 : ∀ {v : V} {σ' : L2.St} {F' H' : Hp} {S' U : List Addr} {en en2 : Env} {t : Tm} {d : D} {o : List Sl}, Sm K mg F' H' en σ' S' R (U ++ []) → Go F H S F' H' (S' ++ U) → RT K mg σ' F' H' t v U → fin en t = some (d, en2) → outs args en2 = some o →
        ContF K mg vs F H S R (.ok d o) Q E → Q v H' := fun {v σ' F' H' S' U en en2 t d o} s g rt e1 e2 h => by
      obtain ⟨F2, S2, U2, s2, r2, g2⟩ := fin_ok s rt e1
      obtain ⟨S3, s3, hs⟩ := outs_sm s2 e2 hla s.lk.bd sm.lk.bd sm.lk.bl
      refine h v F2 H' S3 U2 (by simpa using s3) ((g2 F H S g).weak fun a ha => ?_) r2
      rcases List.mem_append.mp ha with z | z
      · exact List.mem_append_left _ (hs.subset z)
      · exact List.mem_append_right _ z
    cases e : body (args ++ List.replicate (N.length - args.length) .un) with
    | ok fl en =>
      rw [e] at h
      cases fl with
      | nx =>
        dsimp only at h
        cases e2 : outs args en with
        | none => rw [e2] at h; exact h.elim
        | some o =>
          rw [e2] at h
          intro σ' F' H' S' s g
          exact fin0 (t := .vl .non) (U := []) s (by simpa using g) .non rfl e2 h
      | bk => exact h.elim
      | ct => exact h.elim
      | rt t =>
        dsimp only at h
        cases e1 : fin en t with
        | none => rw [e1] at h; exact h.elim
        | some p =>
          obtain ⟨d, en2⟩ := p
          rw [e1] at h
          dsimp only at h
          cases e2 : outs args en2 with
          | none => rw [e2] at h; exact h.elim
          | some o =>
            rw [e2] at h
            exact fun v σ' F' H' S' U s g rt => fin0 s g rt e1 e2 h
    | ex c en =>
      rw [e] at h
      dsimp only at h
      cases e2 : outs args en with
      | none => rw [e2] at h; exact h.elim
      | some o =>
        rw [e2] at h
        intro cv σ' F' H' S' s g ec
        obtain ⟨S3, s3, hs⟩ := outs_sm s.toSm0 e2 hla s.lk.bd sm.lk.bd sm.lk.bl
        exact h cv F' H' S3 s3 (g.weak fun a ha => hs.subset ha) ec
    | no => rw [e] at h; exact h.elim
  · exact h.elim
theorem fn_len {p n : Nat} {body : Sta} {vs : List V} {Q : VK} {E : XK} (h : spF K mg (mkFn p n body) vs H Q E) : vs.length = p := by
  obtain ⟨args, F, S, R, sm, h⟩ := h
  have hla : args.length = vs.length := by rw [sm.re.length, List.length_map]
  unfold mkFn at h
  split at h
  · omega
  · exact h.elim
end
/-- a def's promise by its body -/
theorem fn_ok {P : Program} {w : World} {K : PySem.W.Frag} {mg : Mg} {base : Heap} {x qual : Str} {st : Stmt} {f : Addr} {fd : FuncData} {N ps : List Str} {k : Nat} {body : Sta} (F : Fun K x qual st f fd) (Sc : FnScope N ps (defScope st))
    (hb : ∀ (cdv : Value) (A : Around) (outer : List PySem.Env) (s : Shared) (H : Hp) (E : XK), Room k (A.deeper (envOfC qual (defScope st) s.heap.objs.size f cdv)) →
      JB (cxOf (L2.CX P w) P w K mg base N qual (defScope st) f cdv A outer s H E) (fun cls d _ H => E cls d H) (defBody st) body) :
    FnOk P w K mg base (L2.CX P w) (k + 1) f fd ps (spF K mg (mkFn ps.length N.length body)) :=
  F.okX Sc (fun _ _ _ _ h => fn_len h) fun cdv A outer s H vs Q E hr hsp => ⟨_, hb cdv A outer s H E hr, fn_body hsp⟩
end DL
/-! DLg: calls of defs. -/
namespace DL
open PySem PySem.Spec PyProof.Rows L2

/-- arguments lent and given -/
def mkArgs : Env → List Tm → Option (List Sl × Env)
  | en, [] => some ([], en)
  | en, .vl d :: ts => (mkArgs en ts).bind fun p => some (.sl .O d :: p.1, p.2)
  | en, .loc i :: ts => match en[i]? with
    | some (.sl k d) => if d.cl then (mkArgs en ts).bind fun p => some (.sl .O d :: p.1, p.2)
      else if k = .R then (mkArgs en ts).bind fun p => some (.sl .R d :: p.1, p.2)
      else (mkArgs (en.set i .un) ts).bind fun p => some (.sl .M d :: p.1, p.2)
    | _ => none
/-- what was lent comes back -/
def put0 (en : Env) : Sl → Option Env
  | .sl .M _ => none
  | _ => some en
def put2 (en : Env) (i : Nat) : Option Sl → Option Sl → Sl → Option Env
  | some .un, some (.sl k _), .sl .M d' => if k = .R then none else some (en.set i (.sl k d'))
  | _, _, _ => none
def put1 (en e0 : Env) : Tm → Sl → Sl → Option Env
  | .loc i, .sl .M _, s => put2 en i (en[i]?) (e0[i]?) s
  | _, _, s => put0 en s
theorem put2_some {en en' : Env} {i : Nat} {o1 o2 : Option Sl} {s : Sl} (h : put2 en i o1 o2 s = some en') : ∃ k dk d', o1 = some .un ∧ o2 = some (.sl k dk) ∧ s = .sl .M d' ∧ k ≠ .R ∧ en' = en.set i (.sl k d') := by
  unfold put2 at h
  split at h
  · rename_i k dk d'
    split at h
    · cases h
    · rename_i hk
      exact ⟨k, dk, d', rfl, rfl, rfl, hk, (Option.some.inj h).symm⟩
  · cases h
def backs : List Tm → List Sl → List Sl → Env → Env → Option Env
  | [], _, _, en, _ => some en
  | t :: ts, as, ss, en, e0 => match as, ss with
    | a :: as, s :: ss => (put1 en e0 t a s).bind fun en' => backs ts as ss en' e0
    | _, _ => none
def eCall (f : Fn) (ms : List Ex) : Ex := fun env => (evA ms env).bind fun ts en => match mkArgs en ts with
  | some p => (match f p.1 with
    | .ok d o => (match backs ts p.1 o p.2 en with
      | some e' => .ok (.vl d) e'
      | none => .no)
    | .ex c o => (match backs ts p.1 o p.2 en with
      | some e' => .ex c e'
      | none => .no)
    | .no => .no)
  | none => .no
section
variable {K : PySem.W.Frag} {mg : Mg} {W : WX} {F F' F1 F2 H H' H1 H2 : Hp} {env env' env1 : Env} {σ σ' : L2.St} {S S' S1 T U U1 L : List Addr} {R : Lk}
theorem mkArgs_ok : ∀ {ts : List Tm} {vs : List V} {env env' : Env} {S U : List Addr} {args : List Sl}, RE K mg F H env σ S →
    (∀ (i : Nat) (d : D), env[i]? = some (.sl .R d) → ∃ v Ri, R.Q i = some (d, Ri) ∧ σ[i]? = some (some v) ∧ Rp K mg F (Rt H) d v Ri ∧ ∀ a ∈ Ri, a ∈ R.R) → RTs K mg σ F H ts vs U → mkArgs env ts = some (args, env') →
    ∃ Sa S', RE K mg F H args (vs.map some) Sa ∧ RE K mg F H env' σ S' ∧ (Sa ++ S').Perm (S ++ U) ∧ (∀ j, ((∃ d, (Tm.loc j, Sl.sl .M d) ∈ ts.zip args) ∧ ∀ d, env'[j]? ≠ some (.sl .R d)) ∨ env'[j]? = env[j]?) ∧
      ∀ (j : Nat) (d : D), args[j]? = some (.sl .R d) → ∃ i v Ri, ts[j]? = some (Tm.loc i) ∧ R.Q i = some (d, Ri) ∧ vs[j]? = some v ∧ Rp K mg F (Rt H) d v Ri ∧ ∀ a ∈ Ri, a ∈ R.R
  | [], vs, env, env', S, U, args, h, rq, ht, e => by
    obtain ⟨rfl, rfl⟩ := ht
    cases e
    exact ⟨[], S, .nil, h, by simp, fun _ => .inr rfl, fun j d e => by simp at e⟩
  | .vl d :: ts, vs, env, env', S, U, args, h, rq, ht, e => by
    obtain ⟨v, vr, Ua, Ub, rfl, rfl, h1, h2⟩ := ht
    have e0 : mkArgs env (.vl d :: ts) = (mkArgs env ts).bind fun p => some (.sl .O d :: p.1, p.2) := rfl
    rw [e0] at e
    cases ea : mkArgs env ts with
    | none => rw [ea] at e; cases e
    | some p =>
      obtain ⟨ar, en⟩ := p
      rw [ea] at e
      cases e
      obtain ⟨Sa, S', q1, q2, q3, q5, q6⟩ := mkArgs_ok h rq h2 ea
      refine ⟨Ua ++ Sa, S', .ow (by decide) h1 q1, q2, ?_, fun j => (q5 j).imp (fun ⟨⟨d', z⟩, y⟩ => ⟨⟨d', List.mem_cons_of_mem _ z⟩, y⟩) id, fun j d' e => ?_⟩
      · refine List.perm_iff_count.mpr fun z => ?_
        have := q3.count_eq z
        simp only [List.count_append] at this ⊢
        omega
      · cases j with
        | zero => simp at e
        | succ j => simpa using q6 j d' (by simpa using e)
  | .loc i :: ts, vs, env, env', S, U, args, h, rq, ht, e => by
    obtain ⟨v, vr, Ua, Ub, rfl, rfl, ⟨rfl, ev⟩, h2⟩ := ht
    have e0 : mkArgs env (.loc i :: ts) = (match env[i]? with
      | some (.sl k d) => if d.cl then (mkArgs env ts).bind fun p => some (.sl .O d :: p.1, p.2)
        else if k = .R then (mkArgs env ts).bind fun p => some (.sl .R d :: p.1, p.2)
        else (mkArgs (env.set i .un) ts).bind fun p => some (.sl .M d :: p.1, p.2)
      | _ => none) := rfl
    rw [e0] at e
    rw [List.append_nil]
    split at e
    · rename_i k d hi
      by_cases hc : d.cl = true
      · rw [if_pos hc] at e
        cases ea : mkArgs env ts with
        | none => rw [ea] at e; cases e
        | some p =>
          obtain ⟨ar, en⟩ := p
          rw [ea] at e
          cases e
          obtain ⟨Sa, S', q1, q2, q3, q5, q6⟩ := mkArgs_ok h rq h2 ea
          have r0 : Rp K mg F (At H) d v [] := by
            by_cases hk : k = .R
            · subst hk
              obtain ⟨v', Ri, _, y2, y3, _⟩ := rq i d hi
              rw [ev] at y2
              cases y2
              rw [y3.clean hc] at y3
              exact y3.any
            · obtain ⟨v', S1, S2, y2, y3, _⟩ := h.take hi hk
              rw [ev] at y2
              cases y2
              rw [y3.clean hc] at y3
              exact y3
          refine ⟨[] ++ Sa, S', .ow (by decide) r0 q1, q2, q3, fun j => (q5 j).imp (fun ⟨⟨d', z⟩, y⟩ => ⟨⟨d', List.mem_cons_of_mem _ z⟩, y⟩) id, fun j d' e => ?_⟩
          cases j with
          | zero => simp at e
          | succ j => simpa using q6 j d' (by simpa using e)
      · rw [if_neg hc] at e
        by_cases hk : k = .R
        · rw [if_pos hk] at e
          subst hk
          cases ea : mkArgs env ts with
          | none => rw [ea] at e; cases e
          | some p =>
            obtain ⟨ar, en⟩ := p
            rw [ea] at e
            cases e
            obtain ⟨Sa, S', q1, q2, q3, q5, q6⟩ := mkArgs_ok h rq h2 ea
            refine ⟨Sa, S', .rd q1, q2, q3, fun j => (q5 j).imp (fun ⟨⟨d', z⟩, y⟩ => ⟨⟨d', List.mem_cons_of_mem _ z⟩, y⟩) id, fun j d' e => ?_⟩
            cases j with
            | zero =>
              simp at e
              subst e
              obtain ⟨v', Ri, y1, y2, y3, y4⟩ := rq i d hi
              rw [ev] at y2
              cases y2
              exact ⟨i, v, Ri, rfl, y1, rfl, y3, y4⟩
            | succ j => simpa using q6 j d' (by simpa using e)
        · rw [if_neg hk] at e
          cases ea : mkArgs (env.set i .un) ts with
          | none => rw [ea] at e; cases e
          | some p =>
            obtain ⟨ar, en⟩ := p
            rw [ea] at e
            cases e
            obtain ⟨v', S1, S2, e2, r1, p1, h3⟩ := h.take hi hk
            rw [ev] at e2
            cases e2
            have back : ∀ (j : Nat) (d : D), (env.set i Sl.un)[j]? = some (.sl .R d) → env[j]? = some (.sl .R d) := fun j d ej => by
              by_cases hj : j = i
              · subst hj
                rw [List.getElem?_set_self (List.getElem?_eq_some_iff.mp hi).1] at ej
                cases ej
              · rw [List.getElem?_set_ne (Ne.symm hj)] at ej
                exact ej
            obtain ⟨Sa, S', q1, q2, q3, q5, q6⟩ := mkArgs_ok h3 (fun j d ej => rq j d (back j d ej)) h2 ea
            refine ⟨S1 ++ Sa, S', .ow (by decide) r1 q1, q2, ?_, fun j => ?_, fun j d' e => ?_⟩
            · refine List.perm_iff_count.mpr fun z => ?_
              have := q3.count_eq z
              have := p1.count_eq z
              simp only [List.count_append] at *
              omega
            · rcases q5 j with ⟨⟨d', z⟩, y⟩ | z
              · exact .inl ⟨⟨d', List.mem_cons_of_mem _ z⟩, y⟩
              · by_cases hj : j = i
                · subst hj
                  refine .inl ⟨⟨d, List.mem_cons_self⟩, fun d' y => ?_⟩
                  rw [z, List.getElem?_set_self (List.getElem?_eq_some_iff.mp hi).1] at y
                  cases y
                · rw [List.getElem?_set_ne (Ne.symm hj)] at z
                  exact .inr z
            · cases j with
              | zero => simp at e
              | succ j => simpa using q6 j d' (by simpa using e)
    · cases e
theorem put1_ok {t : Tm} {a s : Sl} {v : V} {vr : List V} {env e0 env' : Env} {S So U : List Addr} {ss : List Sl} {F0 H0 : Hp} (h : RE K mg F H env σ S) (ht : RT K mg σ F0 H0 t v U) (ho : RE K mg F H (s :: ss) (some v :: vr.map some) So) (e : put1 env e0 t a s = some env') :
    ∃ S' So', RE K mg F H env' σ S' ∧ RE K mg F H ss (vr.map some) So' ∧ ∀ z, S'.count z + So'.count z ≤ S.count z + So.count z := by
  have skip : put0 env s = some env' → ∃ S' So', RE K mg F H env' σ S' ∧ RE K mg F H ss (vr.map some) So' ∧ ∀ z, S'.count z + So'.count z ≤ S.count z + So.count z := fun e => by
    cases ho with
    | un hr => cases e; exact ⟨S, So, h, hr, fun z => Nat.le_refl _⟩
    | @ow k d _ _ _ So1 So2 hk hp hr =>
      cases k with
      | O =>
        cases e
        exact ⟨S, So2, h, hr, fun z => by rw [List.count_append]; omega⟩
      | M => cases e
      | R => exact absurd rfl hk
    | rd hr => cases e; exact ⟨S, So, h, hr, fun z => Nat.le_refl _⟩
  cases t with
  | vl d => exact skip e
  | loc i =>
    cases a with
    | un => exact skip e
    | sl ka da =>
      cases ka with
      | O => exact skip e
      | R => exact skip e
      | M =>
        have e1 : put2 env i (env[i]?) (e0[i]?) s = some env' := e
        obtain ⟨k, dk, d', ei, e0i, rfl, hk, rfl⟩ := put2_some e1
        cases ho with
        | @ow _ _ _ _ _ So1 So2 hk2 hp hr =>
          obtain ⟨S1, p1, q1⟩ := h.put ei k d' v So1 hk hp
          have ev : σ[i]? = some (some v) := ht.2
          rw [set_self ev] at q1
          exact ⟨S1, So2, q1, hr, fun z => by
            have := p1.count_eq z
            simp only [List.count_append] at this ⊢
            omega⟩
theorem backs_ok : ∀ {ts : List Tm} {vs : List V} {env e0 env' : Env} {S So U : List Addr} {args o : List Sl} {F0 H0 : Hp}, RE K mg F H env σ S → RTs K mg σ F0 H0 ts vs U → RE K mg F H o (vs.map some) So → backs ts args o env e0 = some env' →
    ∃ S', RE K mg F H env' σ S' ∧ ∀ z, S'.count z ≤ S.count z + So.count z
  | [], vs, env, e0, env', S, So, U, args, o, F0, H0, h, ht, ho, e => by
    cases e
    exact ⟨S, h, fun z => by omega⟩
  | t :: ts, vs, env, e0, env', S, So, U, args, o, F0, H0, h, ht, ho, e => by
    obtain ⟨v, vr, Ua, Ub, rfl, rfl, h1, h2⟩ := ht
    cases args with
    | nil => cases e
    | cons a as =>
      cases o with
      | nil => cases e
      | cons s ss =>
        have e1 : backs (t :: ts) (a :: as) (s :: ss) env e0 = (put1 env e0 t a s).bind fun en' => backs ts as ss en' e0 := rfl
        rw [e1] at e
        cases ep : put1 env e0 t a s with
        | none => rw [ep] at e; cases e
        | some en' =>
          rw [ep, Option.bind_some] at e
          obtain ⟨S1, So1, q1, q2, q3⟩ := put1_ok h h1 ho ep
          obtain ⟨S', z1, z2⟩ := backs_ok q1 h2 q2 e
          exact ⟨S', z1, fun z => by
            have := q3 z
            have := z2 z
            omega⟩
theorem put1_kinds {t : Tm} {a s : Sl} {env e0 env' : Env} (e : put1 env e0 t a s = some env') (j : Nat) : ((∃ d, (t, a) = (Tm.loc j, Sl.sl .M d)) → (env'[j]?).map lentS = (e0[j]?).map lentS) ∧ ((env[j]?).map lentS = (e0[j]?).map lentS → (env'[j]?).map lentS = (e0[j]?).map lentS) := by
  have skip : (∀ i d, (t, a) ≠ (Tm.loc i, Sl.sl .M d)) → put0 env s = some env' → ((∃ d, (t, a) = (Tm.loc j, Sl.sl .M d)) → (env'[j]?).map lentS = (e0[j]?).map lentS) ∧ ((env[j]?).map lentS = (e0[j]?).map lentS → (env'[j]?).map lentS = (e0[j]?).map lentS) := fun ne e => by
    have e' : env = env' := by
      unfold put0 at e
      split at e
      · cases e
      · exact Option.some.inj e
    subst e'
    exact ⟨fun ⟨d, z⟩ => absurd z (ne j d), id⟩
  cases t with
  | vl d => exact skip (fun i d e => by cases e) e
  | loc i =>
    cases a with
    | un => exact skip (fun i d e => by cases e) e
    | sl ka da =>
      cases ka with
      | O => exact skip (fun i d e => by cases e) e
      | R => exact skip (fun i d e => by cases e) e
      | M =>
        have e1 : put2 env i (env[i]?) (e0[i]?) s = some env' := e
        obtain ⟨k, dk, d', ei, e0i, rfl, hk, rfl⟩ := put2_some e1
        have same : ((env.set i (Sl.sl k d'))[i]?).map lentS = (e0[i]?).map lentS := by
          rw [List.getElem?_set_self (List.getElem?_eq_some_iff.mp ei).1, e0i]
          show some (lentS (.sl k d')) = some (lentS (.sl k dk))
          cases k <;> rfl
        refine ⟨fun ⟨d, z⟩ => ?_, fun z => ?_⟩
        · injection z with z1 z2
          cases z1
          exact same
        · by_cases hj : j = i
          · subst hj; exact same
          · rw [List.getElem?_set_ne (Ne.symm hj)]
            exact z
theorem backs_kinds : ∀ {ts : List Tm} {env e0 env' : Env} {args o : List Sl}, backs ts args o env e0 = some env' → (∀ j : Nat, (∃ d, (Tm.loc j, Sl.sl .M d) ∈ ts.zip args) ∨ (env[j]?).map lentS = (e0[j]?).map lentS) → ∀ j : Nat, (env'[j]?).map lentS = (e0[j]?).map lentS
  | [], env, e0, env', args, o, e, h, j => by
    cases e
    rcases h j with ⟨d, z⟩ | z
    · simp at z
    · exact z
  | t :: ts, env, e0, env', args, o, e, h, j => by
    cases args with
    | nil => cases e
    | cons a as =>
      cases o with
      | nil => cases e
      | cons s ss =>
        have e1 : backs (t :: ts) (a :: as) (s :: ss) env e0 = (put1 env e0 t a s).bind fun en' => backs ts as ss en' e0 := rfl
        rw [e1] at e
        cases ep : put1 env e0 t a s with
        | none => rw [ep] at e; cases e
        | some en' =>
          rw [ep, Option.bind_some] at e
          refine backs_kinds e (fun j => ?_) j
          obtain ⟨k1, k2⟩ := put1_kinds ep j
          rcases h j with ⟨d, z⟩ | z
          · rw [List.zip_cons_cons] at z
            rcases List.mem_cons.mp z with z | z
            · exact .inr (k1 ⟨d, z.symm⟩)
            · exact .inl ⟨d, z⟩
          · exact .inr (k2 z)
theorem put1_R {t : Tm} {a s : Sl} {env e0 env' : Env} (e : put1 env e0 t a s = some env') {j : Nat} {d : D} (h : env'[j]? = some (.sl .R d)) : env[j]? = some (.sl .R d) := by
  have skip : put0 env s = some env' → env[j]? = some (.sl .R d) := fun e => by
    unfold put0 at e
    split at e
    · cases e
    · cases e; exact h
  cases t with
  | vl d => exact skip e
  | loc i =>
    cases a with
    | un => exact skip e
    | sl ka da =>
      cases ka with
      | O => exact skip e
      | R => exact skip e
      | M =>
        have e1 : put2 env i (env[i]?) (e0[i]?) s = some env' := e
        obtain ⟨k, dk, d', ei, e0i, rfl, hk, rfl⟩ := put2_some e1
        by_cases hj : j = i
        · subst hj
          rw [List.getElem?_set_self (List.getElem?_eq_some_iff.mp ei).1] at h
          cases h
          exact absurd rfl hk
        · rw [List.getElem?_set_ne (Ne.symm hj)] at h
          exact h
theorem backs_R : ∀ {ts : List Tm} {env e0 env' : Env} {args o : List Sl}, backs ts args o env e0 = some env' → ∀ {j : Nat} {d : D}, env'[j]? = some (.sl .R d) → env[j]? = some (.sl .R d)
  | [], env, e0, env', args, o, e, j, d, h => by
    cases e
    exact h
  | t :: ts, env, e0, env', args, o, e, j, d, h => by
    cases args with
    | nil => cases e
    | cons a as =>
      cases o with
      | nil => cases e
      | cons s ss =>
        have e1 : backs (t :: ts) (a :: as) (s :: ss) env e0 = (put1 env e0 t a s).bind fun en' => backs ts as ss en' e0 := rfl
        rw [e1] at e
        cases ep : put1 env e0 t a s with
        | none => rw [ep] at e; cases e
        | some en' =>
          rw [ep, Option.bind_some] at e
          exact put1_R ep (backs_R e h)
theorem nodup_count {l : List Addr} : l.Nodup ↔ ∀ z, l.count z ≤ 1 := List.nodup_iff_count
/-- a call's reading -/
theorem t_Call {f : Fn} {ms : List Ex} {Q : VK} (h : tE K mg W (eCall f ms) σ H Q) : tCallS (spF K mg f) (fun σ cls d H => W cls d σ H) (tA K mg W ms) σ H Q := by
  obtain ⟨env, F, S, R, T, sm, h⟩ := h
  refine ⟨env, F, S, R, T, sm, (Cont.bind h).imp fun vs H1 ⟨ts, en, F1, S1, U1, sm1, go1, rts, h1⟩ => ?_⟩
  cases ea : mkArgs en ts with
  | none => rw [ea] at h1; exact h1.elim
  | some p =>
    obtain ⟨args, en'⟩ := p
    rw [ea] at h1
    dsimp only at h1
    obtain ⟨Sa, S', q1, q2, q3, q5, q6⟩ := mkArgs_ok (R := R) sm1.re (fun i d ei => by
      obtain ⟨v, Ri, y1, y2, y3, y4⟩ := sm1.lk.rq i d ei
      exact ⟨v, Ri, y1, sm1.lk.bd i v y2, y3, y4⟩) rts ea
    have cnt : ∀ z, Sa.count z + S'.count z = S1.count z + U1.count z := fun z => by
      have := q3.count_eq z
      simpa only [List.count_append] using this
    have nd1 : ∀ z, S1.count z + (U1.count z + T.count z) ≤ 1 := fun z => by
      have := nodup_count.mp sm1.nd z
      simpa only [List.count_append] using this
    have memA : ∀ a ∈ Sa, a ∈ S1 ∨ a ∈ U1 := fun a ha => by
      have := cnt a
      have h0 := List.count_pos_iff.mpr ha
      by_cases hs : a ∈ S1
      · exact .inl hs
      · refine .inr (List.count_pos_iff.mp ?_)
        have := List.count_eq_zero.mpr hs
        omega
    have memS : ∀ a ∈ S', a ∈ S1 ∨ a ∈ U1 := fun a ha => by
      have := cnt a
      have h0 := List.count_pos_iff.mpr ha
      by_cases hs : a ∈ S1
      · exact .inl hs
      · refine .inr (List.count_pos_iff.mp ?_)
        have := List.count_eq_zero.mpr hs
        omega
    have inAll : ∀ a, a ∈ S1 ∨ a ∈ U1 → a ∈ S1 ++ (R.R ++ (U1 ++ T)) := fun a ha => by
      simp only [List.mem_append]
      rcases ha with z | z
      · exact .inl z
      · exact .inr (.inr (.inl z))
    have rdA : ∀ a ∈ R.R, a ∉ Sa := fun a ha z => by
      refine sm1.rd a ha ?_
      simp only [List.mem_append]
      rcases memA a z with y | y
      · exact .inl y
      · exact .inr (.inl y)
    let B : Nat → Option V := fun j => match args[j]? with
      | some s => if lentS s = true then vs[j]? else none
      | none => none
    have hB : ∀ (j : Nat) (s : Sl), args[j]? = some s → B j = if lentS s = true then vs[j]? else none := fun j s e => by
      show (match args[j]? with
        | some s => if lentS s = true then vs[j]? else none
        | none => none) = _
      rw [e]
    have hla : args.length = vs.length := by rw [q1.length, List.length_map]
    let Qc : Nat → Option (D × List Addr) := fun j => match ts[j]? with
      | some (.loc i) => R.Q i
      | _ => none
    have hQ : ∀ (j i : Nat), ts[j]? = some (Tm.loc i) → Qc j = R.Q i := fun j i e => by
      show (match ts[j]? with
        | some (.loc i) => R.Q i
        | _ => none) = _
      rw [e]
    have smA : Sm K mg F1 H1 args (vs.map some) Sa ⟨R.R, B, Qc⟩ [] := by
      refine ⟨⟨q1, ?_, fun a ha z => ?_, sm1.fz, fun a ha => ?_, fun a ha => ?_⟩, fun j v e => ?_, fun j s e => ?_, fun j d e => ?_, fun j d Ri e => ?_⟩
      · rw [List.append_nil]
        exact nodup_count.mpr fun z => by
          have := cnt z
          have := nd1 z
          omega
      · rw [List.append_nil] at z
        exact rdA a ha z
      · simp only [List.append_nil, List.mem_append] at ha
        rcases ha with z | z
        · exact sm1.nf a (inAll a (memA a z))
        · exact sm1.nf a (List.mem_append_right _ (List.mem_append_left _ z))
      · simp only [List.append_nil, List.mem_append] at ha
        rcases ha with z | z
        · exact sm1.th a (inAll a (memA a z))
        · exact sm1.th a (List.mem_append_right _ (List.mem_append_left _ z))
      · have e' : B j = some v := e
        rw [List.getElem?_map]
        cases es : args[j]? with
        | none =>
          have : B j = none := by
            show (match args[j]? with
              | some s => if lentS s = true then vs[j]? else none
              | none => none) = _
            rw [es]
          rw [this] at e'
          cases e'
        | some s =>
          rw [hB j s es] at e'
          split at e'
          · rw [e']; rfl
          · cases e'
      · show lentS s = (B j).isSome
        rw [hB j s e]
        by_cases hs : lentS s = true
        · rw [if_pos hs, hs]
          have hj : j < vs.length := by rw [← hla]; exact (List.getElem?_eq_some_iff.mp e).1
          rw [List.getElem?_eq_getElem hj]
          rfl
        · rw [if_neg hs]
          simpa using hs
      · obtain ⟨i, v, Ri, y1, y2, y3, y4, y5⟩ := q6 j d e
        exact ⟨v, Ri, (hQ j i y1).trans y2, (hB j _ e).trans (by rw [if_pos (show lentS (Sl.sl .R d) = true from rfl)]; exact y3), y4, y5⟩
      · have e' : (match ts[j]? with
          | some (.loc i) => R.Q i
          | _ => none) = some (d, Ri) := e
        split at e'
        · rename_i i0 _
          exact sm1.lk.qr i0 d Ri e'
        · cases e'
    -- behind the call
    have after : ∀ {o : List Sl} {F' H' : Hp} {S'' U' : List Addr} {e' : Env}, Sm0 K mg F' H' o (vs.map some) S'' ⟨R.R, B, Qc⟩ U' → Go F1 H1 Sa F' H' (S'' ++ U') → backs ts args o en' en = some e' →
        ∃ S3, Sm K mg F' H' e' σ S3 R (U' ++ T) ∧ Go F H S F' H' (S3 ++ U') := fun {o F' H' S'' U' e'} smc goc eb => by
      have outA : ∀ a, a ∈ S' ∨ a ∈ R.R ∨ a ∈ T → a ∉ Sa := fun a ha z => by
        have c0 := List.count_pos_iff.mpr z
        have c1 := cnt a
        have c2 := nd1 a
        rcases ha with y | y | y
        · have := List.count_pos_iff.mpr y
          omega
        · exact rdA a y z
        · have := List.count_pos_iff.mpr y
          omega
      have isTh : ∀ a, a ∈ S' ∨ a ∈ R.R ∨ a ∈ T → H1 a ≠ none := fun a ha => by
        refine sm1.th a ?_
        simp only [List.mem_append]
        rcases ha with y | y | y
        · exact (memS a y).imp id fun z => .inr (.inl z)
        · exact .inr (.inl y)
        · exact .inr (.inr (.inr y))
      have isNf : ∀ a, a ∈ S' ∨ a ∈ R.R ∨ a ∈ T → F' a = none := fun a ha => by
        cases e : F' a with
        | none => rfl
        | some o =>
          rcases goc.nz a (by rw [e]; simp) with q | q | q
          · refine absurd (sm1.nf a ?_) q
            simp only [List.mem_append]
            rcases ha with y | y | y
            · exact (memS a y).imp id fun z => .inr (.inl z)
            · exact .inr (.inl y)
            · exact .inr (.inr (.inr y))
          · exact absurd q (outA a ha)
          · exact absurd q (isTh a ha)
      have r2 : RE K mg F' H' en' σ S' := q2.mono goc.sub fun a ha o e => goc.fr a o e (outA a (.inl ha))
      obtain ⟨S3, z1, z2⟩ := backs_ok r2 rts smc.re eb
      have mem3 : ∀ a ∈ S3, a ∈ S' ∨ a ∈ S'' := fun a ha => by
        have := z2 a
        have h0 := List.count_pos_iff.mpr ha
        by_cases hs : a ∈ S'
        · exact .inl hs
        · refine .inr (List.count_pos_iff.mp ?_)
          have := List.count_eq_zero.mpr hs
          omega
      -- the callee's own cells apart from ours
      have apart : ∀ a, a ∈ S'' ++ U' → ¬ (a ∈ S' ∨ a ∈ R.R ∨ a ∈ T) := fun a ha hb => by
        rcases goc.nw a ha with q | q
        · exact outA a hb q
        · exact isTh a hb q
      refine ⟨S3, ⟨⟨z1, nodup_count.mpr fun z => ?_, fun a ha z => ?_, smc.fz, fun a ha => ?_, fun a ha => ?_⟩, sm1.lk.bd, fun j s e => ?_, fun j d e => ?_, sm1.lk.qr⟩, ?_⟩
      · simp only [List.count_append]
        have c1 := z2 z
        have c2 := cnt z
        have c3 := nd1 z
        have c4 := nodup_count.mp smc.nd z
        simp only [List.count_append] at c4
        by_cases hz : z ∈ S'' ++ U'
        · have ap := apart z hz
          have n1 : S'.count z = 0 := List.count_eq_zero.mpr fun y => ap (.inl y)
          have n2 : T.count z = 0 := List.count_eq_zero.mpr fun y => ap (.inr (.inr y))
          omega
        · have n1 : S''.count z = 0 := List.count_eq_zero.mpr fun y => hz (List.mem_append_left _ y)
          have n2 : U'.count z = 0 := List.count_eq_zero.mpr fun y => hz (List.mem_append_right _ y)
          omega
      · simp only [List.mem_append] at z
        rcases z with z | z | z
        · rcases mem3 a z with y | y
          · refine sm1.rd a ha ?_
            simp only [List.mem_append]
            exact (memS a y).imp id .inl
          · exact apart a (List.mem_append_left _ y) (.inr (.inl ha))
        · exact apart a (List.mem_append_right _ z) (.inr (.inl ha))
        · refine sm1.rd a ha ?_
          simp only [List.mem_append]
          exact .inr (.inr z)
      · simp only [List.mem_append] at ha
        rcases ha with z | z | z | z
        · rcases mem3 a z with y | y
          · exact isNf a (.inl y)
          · exact smc.nf a (List.mem_append_left _ y)
        · exact isNf a (.inr (.inl z))
        · exact smc.nf a (List.mem_append_right _ (List.mem_append_right _ z))
        · exact isNf a (.inr (.inr z))
      · simp only [List.mem_append] at ha
        rcases ha with z | z | z | z
        · rcases mem3 a z with y | y
          · exact goc.gr a (isTh a (.inl y))
          · exact smc.th a (List.mem_append_left _ y)
        · exact goc.gr a (isTh a (.inr (.inl z)))
        · exact smc.th a (List.mem_append_right _ (List.mem_append_right _ z))
        · exact goc.gr a (isTh a (.inr (.inr z)))
      · have q := backs_kinds eb (fun j => (q5 j).imp (·.1) fun z => by rw [z]) j
        rw [e] at q
        cases e2 : en[j]? with
        | none => rw [e2] at q; cases q
        | some s2 =>
          rw [e2] at q
          have q' : lentS s = lentS s2 := Option.some.inj q
          rw [q']
          exact sm1.lk.bl j s2 e2
      · have y := backs_R eb e
        have e2 : en[j]? = some (.sl .R d) := by
          rcases q5 j with ⟨_, z⟩ | z
          · exact absurd y (z d)
          · rw [← z]; exact y
        obtain ⟨v, Ri, y1, y2, y3, y4⟩ := sm1.lk.rq j d e2
        exact ⟨v, Ri, y1, y2, y3.rt goc.sub fun a ha o eo => goc.fr a o eo (outA a (.inr (.inl (y4 a ha)))), y4⟩
      · have gA : Go F1 H1 (S1 ++ U1) F' H' (S3 ++ U') := by
          refine ⟨goc.sub, fun a o e n => goc.fr a o e fun z => n ?_, goc.gr, fun a ha => ?_, fun a e => ?_⟩
          · simp only [List.mem_append]; exact memA a z
          · simp only [List.mem_append] at ha ⊢
            rcases ha with z | z
            · rcases mem3 a z with y | y
              · exact .inl (memS a y)
              · exact (goc.nw a (List.mem_append_left _ y)).imp (memA a) id
            · exact (goc.nw a (List.mem_append_right _ z)).imp (memA a) id
          · simp only [List.mem_append]
            exact (goc.nz a e).imp id fun z => z.imp (memA a) id
        exact ((go1.weak (L' := (S1 ++ U1) ++ []) (by simp)).trans gA).weak (by simp)
    refine ⟨args, F1, Sa, ⟨R.R, B, Qc⟩, smA, ?_⟩
    cases ef : f args with
    | no => rw [ef] at h1; exact h1.elim
    | ok d o =>
      rw [ef] at h1
      dsimp only at h1
      cases eb : backs ts args o en' en with
      | none => rw [eb] at h1; exact h1.elim
      | some e' =>
        rw [eb] at h1
        intro v F' H' S'' U' smc goc rp
        obtain ⟨S3, s3, g3⟩ := after smc goc eb
        exact h1 v F' H' S3 U' s3 g3 rp
    | ex c o =>
      rw [ef] at h1
      dsimp only at h1
      cases eb : backs ts args o en' en with
      | none => rw [eb] at h1; exact h1.elim
      | some e' =>
        rw [eb] at h1
        intro cv F' H' S'' smc goc ec
        obtain ⟨S3, s3, g3⟩ := after smc (goc.weak (by simp)) eb
        exact h1 cv F' H' S3 s3 (g3.weak fun a ha => List.mem_append_left _ ha) ec
end
section
variable {X : Cx} {W : WX} {e : Expr} {es : List Expr} {pos p : Pos} {ms : List Ex} {x : Str} {k : Nat} {f : Addr} {fd : FuncData} {ps : List Str} {fn : Fn}
theorem je_call (G : FnOk X.prog X.w X.K X.mg X.base (L2.CX X.prog X.w) k f fd ps (spF X.K X.mg fn)) (tk : Takes X W) (hr : Room k X.A) (hg : Gl X x) (hm : X.mg x = some (.ref f)) (hk : PySem.W.keepIn X.K (.ref f) = true) (hb : Binds X.K fd ps []) (ha : JA X W (e :: es) ms)
    (hdb : (x == ("__debug__" : Str)) = false := by decide) (he : starEach (e :: es) X.env = (false, eval e X.env) :: starEach es X.env := by rfl) (hpl : (backTo pos (starEach es X.env)).any (·.1) = false := by rfl) : JE X W (.Call (.Name x p) (e :: es) [] pos) (eCall fn ms) :=
  je_of (pe_callS G hr hg hm hk hb (fun σ => passAt tk σ) ha hdb he hpl) fun _ _ _ h => t_Call h
end
end DL
/-! DLh: targets, loops. -/
namespace DL
open PySem PySem.Spec PyProof.Rows L2

/-! ### targets -/
inductive Tgt where
  | nm (i : Nat) | tp (is : List Nat)
  deriving Inhabited
def Tgt.ix : Tgt → List Nat
  | .nm i => [i]
  | .tp is => is
/-- no other name than these was stored -/
def OnlyAt (ix : List Nat) (σ σ' : L2.St) : Prop := σ'.length = σ.length ∧ ∀ j : Nat, j ∉ ix → σ'[j]? = σ[j]?
def setL : Env → List Nat → List D → Option Env
  | env, [], [] => some env
  | env, i :: is, d :: ds => (setS env i d).bind fun en => setL en is ds
  | _, _, _ => none
def asg : Tgt → Env → D → Option Env
  | .nm i, env, d => setS env i d
  | .tp is, env, .tup ds => setL env is ds
  | _, _, _ => none
section
variable {K : PySem.W.Frag} {mg : Mg} {W : WX} {F F' F1 F2 H H' H1 H2 : Hp} {env env' env1 : Env} {σ σ' : L2.St} {S S' S1 T U U1 L : List Addr} {R : Lk}
/-- a target's reading -/
def SndG (K : PySem.W.Frag) (mg : Mg) (g : TG) (tg : Tgt) : Prop :=
  ∀ (env : Env) (F H : Hp) (σ : L2.St) (S : List Addr) (R : Lk) (T U : List Addr) (d : D) (v : V) (env' : Env) (Q : L2.St → Hp → Prop), Sm K mg F H env σ S R (U ++ T) → Rp K mg F (At H) d v U → asg tg env d = some env' →
    (∀ σ' S', Sm K mg F H env' σ' S' R T → (∀ a ∈ S', a ∈ S ∨ a ∈ U) → OnlyAt tg.ix σ σ' → Q σ' H) → g v σ H Q
def SndGs (K : PySem.W.Frag) (mg : Mg) (g : TGs) (is : List Nat) : Prop :=
  ∀ (env : Env) (F H : Hp) (σ : L2.St) (S : List Addr) (R : Lk) (T U : List Addr) (ds : List D) (vs : List V) (env' : Env) (Q : L2.St → Hp → Prop), Sm K mg F H env σ S R (U ++ T) → Rps K mg F (At H) ds vs U → setL env is ds = some env' →
    (∀ σ' S', Sm K mg F H env' σ' S' R T → (∀ a ∈ S', a ∈ S ∨ a ∈ U) → OnlyAt is σ σ' → Q σ' H) → g vs σ H Q
theorem onlyAt_set {i : Nat} {v : V} : OnlyAt [i] σ (σ.set i (some v)) := ⟨List.length_set .., fun j hj => List.getElem?_set_ne fun e => hj (by simp [e])⟩
theorem sg_nm {i : Nat} : SndG K mg (gName i) (.nm i) := fun env F H σ S R T U d v env' Q s r e q => by
  obtain ⟨S', s', hs⟩ := setS_ok s r e
  exact q _ S' s' hs onlyAt_set
theorem sgs_nil : SndGs K mg gNil [] := fun env F H σ S R T U ds vs env' Q s r e q => by
  cases r with
  | nil =>
    cases e
    exact ⟨rfl, q σ S s (fun a ha => .inl ha) ⟨rfl, fun _ _ => rfl⟩⟩
  | cons _ _ => cases e
theorem sgs_cons {i : Nat} {is : List Nat} {t : TGs} (h : SndGs K mg t is) : SndGs K mg (gCons (gName i) t) (i :: is) := fun env F H σ S R T U ds vs env' Q s r e q => by
  cases r with
  | nil => cases e
  | @cons d ds v vs U1 U2 r1 r2 =>
    have e0 : setL env (i :: is) (d :: ds) = (setS env i d).bind fun en => setL en is ds := rfl
    rw [e0] at e
    cases ea : setS env i d with
    | none => rw [ea] at e; cases e
    | some en =>
      rw [ea, Option.bind_some] at e
      refine ⟨v, vs, rfl, ?_⟩
      obtain ⟨S', s', hs⟩ := setS_ok (T := U2 ++ T) (by rw [← List.append_assoc]; exact s) r1 ea
      exact h en F H _ S' R T U2 ds vs env' Q s' r2 e fun σ' S2 s2 hs2 ho => q σ' S2 s2 (fun a ha => by
        rcases hs2 a ha with z | z
        · exact (hs a z).imp id fun y => List.mem_append_left _ y
        · exact .inr (List.mem_append_right _ z)) ⟨ho.1.trans (List.length_set ..), fun j hj => (ho.2 j fun z => hj (List.mem_cons_of_mem _ z)).trans (List.getElem?_set_ne fun e => hj (by rw [e]; exact List.mem_cons_self))⟩
theorem FzT.at {a : Addr} {vs : List V} (fz : FzOk F H) (h : FzT K F a vs) : SqT K H a vs := .inl (fz.ok a _ h).rd
theorem FzT.ex {a : Addr} {vs : List V} (fz : FzOk F H) (h : FzT K F a vs) : H a = some (.tup vs) := by
  rcases fz.ok a _ h with q | ⟨nt, _⟩
  · exact q
  · exact absurd rfl (nt vs)
theorem FzL.rd {a : Addr} {vs : List V} (fz : FzOk F H) (h : FzL K F a vs) : RdL K H a vs := h.imp (fun h => (fz.ok a _ h).rd) id
theorem FzL.at {a : Addr} {vs : List V} (fz : FzOk F H) (h : FzL K F a vs) : SqL K H a vs := (h.rd fz).sq
theorem setL_len : ∀ {is : List Nat} {ds : List D} {env env' : Env}, setL env is ds = some env' → ds.length = is.length
  | [], [], _, _, _ => rfl
  | i :: is, d :: ds, env, env', e => by
    have e0 : setL env (i :: is) (d :: ds) = (setS env i d).bind fun en => setL en is ds := rfl
    rw [e0] at e
    cases ea : setS env i d with
    | none => rw [ea] at e; cases e
    | some en =>
      rw [ea, Option.bind_some] at e
      rw [List.length_cons, List.length_cons, setL_len e]
  | [], _ :: _, _, _, e => by cases e
  | _ :: _, [], _, _, e => by cases e
theorem sg_tp {is : List Nat} {t : TGs} {n : Nat} (h : SndGs K mg t is) (hn : is.length = n) : SndG K mg (gTup K n t) (.tp is) := fun env F H σ S R T U d v env' Q s r e q => by
  cases r with
  | tup hf hs =>
    have e' : setL env is _ = some env' := e
    exact ⟨_, _, rfl, hf.at s.fz, by rw [← hs.length, setL_len e', hn], h env F H σ S R T U _ _ env' Q s hs e' q⟩
  | _ => cases e
end

/-! ### loops over what is known -/
/-- what a loop goes over: data at hand, or the items of a slot's own list, locked -/
inductive Src where
  | vals (ds : List D) | lock (i : Nat) (ds : List D)
  deriving Inhabited
def forL (tg : Tgt) (body : Sta) : List D → Env → Res Fl
  | [], env => .ok .nx env
  | d :: r, env => match asg tg env d with
    | none => .no
    | some en => (body en).bind fun fl e => match fl with
      | .nx => forL tg body r e
      | .ct => forL tg body r e
      | .bk => .ok .nx e
      | .rt t => .ok (.rt t) e
def unl (i : Nat) (k : Kd) (env : Env) : Option Env := match env[i]? with
  | some (.sl .R d) => some (env.set i (.sl k d))
  | _ => none
def unlR (i : Nat) (k : Kd) (r : Res Fl) : Res Fl := match r with
  | .ok f env => (match unl i k env with
    | some e => .ok f e
    | none => .no)
  | .ex c env => (match unl i k env with
    | some e => .ex c e
    | none => .no)
  | .no => .no
def sFor (src : Env → Res Src) (tg : Tgt) (body : Sta) : Sta := fun env => (src env).bind fun s en => match s with
  | .vals ds => forL tg body ds en
  | .lock i ds => (match en[i]? with
    | some (.sl k d) => if k = .R then .no else unlR i k (forL tg body ds (en.set i (.sl .R d)))
    | _ => .no)
/-- the iterator J yields the data ds, as long as the cells Rl stay -/
def Walk (K : PySem.W.Frag) (mg : Mg) (F0 H0 : Hp) (Rl : List Addr) (J : It) (ds : List D) : Prop := ∀ (j : Nat) (Fj Hj : Hp), Sub F0 Fj → FzOk Fj Hj → (∀ a ∈ Rl, ∀ o, H0 a = some o → Hj a = some o) →
  (∀ d, ds[j]? = some d → J.go j Hj ∧ ∀ x H'', J.yld j Hj x H'' → ∃ F'', Step Fj Hj F'' H'' [] ∧ Rp K mg F'' (At H'') d x []) ∧ (ds.length ≤ j → J.stop j Hj)
def WalkS (K : PySem.W.Frag) (mg : Mg) (F0 H0 : Hp) (env : Env) (σ : L2.St) (R : Lk) (J : It) : Src → Prop
  | .vals ds => Walk K mg F0 H0 R.R J ds
  | .lock i ds => ∀ k d v S1, env[i]? = some (.sl k d) → k ≠ .R → σ[i]? = some (some v) → Rp K mg F0 (At H0) d v S1 → Walk K mg F0 H0 S1 J ds
def tI (K : PySem.W.Frag) (mg : Mg) (W : WX) (src : Env → Res Src) : TI := fun σ H Rr => ∃ env F S R T, Sm K mg F H env σ S R T ∧ match src env with
  | .ok s en => ∀ J F' H' S', Sm K mg F' H' en σ S' R T → Go F H S F' H' S' → WalkS K mg F' H' en σ R J s → Rr J H'
  | .ex c en => ∀ cv F' H' S', Sm K mg F' H' en σ S' R T → Go F H S F' H' S' → mg c = some cv → W cv none σ H'
  | .no => False
section
variable {K : PySem.W.Frag} {mg : Mg} {W : WX} {F F' F1 F2 H H' H1 H2 : Hp} {env env' env1 : Env} {σ σ' : L2.St} {S S' S1 T U U1 L : List Addr} {R : Lk} {tg : Tgt} {body : Sta} {g : TG} {D' : Ends}
/-- the loop, its source at hand -/
theorem for_core {J : It} {ds : List D} {Rl : List Addr} (sg : SndG K mg g tg) (s : Sm K mg F H env σ S R T) (hR : ∀ a ∈ Rl, a ∈ R.R) (w : Walk K mg F H Rl J ds) (h : ContS K mg W F H S R T (forL tg body ds env) D') :
    ∃ Wn : Nat → Nat → L2.St → Hp → Prop, (∃ m, Wn 0 m σ H) ∧ ∀ i m σ H, Wn i m σ H →
      (J.stop i H ∧ D'.nx σ H) ∨ (J.go i H ∧ ∃ N : L2.St → Hp → Prop, (∀ σ' H', N σ' H' → ∃ m', m' < m ∧ Wn (i + 1) m' σ' H') ∧ ∀ x H', J.yld i H x H' → g x σ H' fun σ2 H2 => tS K mg W body { D' with nx := N, ct := N, bk := D'.nx } σ2 H2) := by
  refine ⟨fun i m σ1 H1 => m = ds.length - i ∧ i ≤ ds.length ∧ ∃ env1 F1 S1, Sm K mg F1 H1 env1 σ1 S1 R T ∧ Go F H S F1 H1 S1 ∧ ContS K mg W F H S R T (forL tg body (ds.drop i) env1) D', ⟨ds.length, by simp, Nat.zero_le _, env, F, S, s, Go.refl, by simpa using h⟩, ?_⟩
  rintro i m σ1 H1 ⟨rfl, hi, env1, F1, S1, s1, g1, h1⟩
  have cells : ∀ a ∈ Rl, ∀ o, H a = some o → H1 a = some o := fun a ha o e => g1.fr a o e fun z => s.rd a (hR a ha) (List.mem_append_left _ z)
  obtain ⟨w1, w2⟩ := w i F1 H1 g1.sub s1.fz cells
  by_cases hlt : i < ds.length
  · obtain ⟨go, yl⟩ := w1 ds[i] (List.getElem?_eq_getElem hlt)
    have ed : ds.drop i = ds[i] :: ds.drop (i + 1) := List.drop_eq_getElem_cons hlt
    rw [ed] at h1
    refine .inr ⟨go, fun σ' H' => ∃ env2 F2 S2, Sm K mg F2 H' env2 σ' S2 R T ∧ Go F H S F2 H' S2 ∧ ContS K mg W F H S R T (forL tg body (ds.drop (i + 1)) env2) D', fun σ' H' hN => ⟨ds.length - (i + 1), by omega, rfl, hlt, hN⟩, fun x H' y => ?_⟩
    obtain ⟨F2, st, rp⟩ := yl x H' y
    have e0 : forL tg body (ds[i] :: ds.drop (i + 1)) env1 = (match asg tg env1 ds[i] with
      | none => .no
      | some en => (body en).bind fun fl e => match fl with
        | .nx => forL tg body (ds.drop (i + 1)) e
        | .ct => forL tg body (ds.drop (i + 1)) e
        | .bk => .ok .nx e
        | .rt t => .ok (.rt t) e) := rfl
    rw [e0] at h1
    cases ea : asg tg env1 ds[i] with
    | none => rw [ea] at h1; exact h1.elim
    | some en =>
      rw [ea] at h1
      dsimp only at h1
      have s2 : Sm K mg F2 H' env1 σ1 S1 R ([] ++ T) := st.sm s1
      have g2 : Go F H S F2 H' S1 := ((g1.weak (L' := S1 ++ []) (by simp)).trans (st.go (S := S1))).weak (by simp)
      refine sg env1 F2 H' σ1 S1 R T [] ds[i] x en _ s2 rp ea fun σ2 S2 s3 hs _ => ?_
      have g3 : Go F H S F2 H' S2 := g2.weak fun a ha => (hs a ha).elim id fun z => absurd z (by simp)
      refine ⟨en, F2, S2, R, T, s3, ?_⟩
      cases eb : body en with
      | no => rw [eb] at h1; exact h1.elim
      | ex c e2 =>
        rw [eb] at h1
        exact fun cv σ' F' H' S' a b ec => h1 cv σ' F' H' S' a ((g3.weak (L' := S2 ++ []) (by simp)).trans b |>.weak (by simp)) ec
      | ok fl e2 =>
        rw [eb] at h1
        have tr : ∀ {F' H' : Hp} {L : List Addr}, Go F2 _ S2 F' H' L → Go F H S F' H' L := fun b => ((g3.weak (L' := S2 ++ []) (by simp)).trans b).weak (by simp)
        cases fl with
        | nx => exact fun σ' F' H' S' a b => ⟨e2, F', S', a, tr b, h1⟩
        | ct => exact fun σ' F' H' S' a b => ⟨e2, F', S', a, tr b, h1⟩
        | bk => exact fun σ' F' H' S' a b => h1 σ' F' H' S' a (tr b)
        | rt t => exact fun v σ' F' H' S' U a b c => h1 v σ' F' H' S' U a (tr b) c
  · have e : i = ds.length := by omega
    subst e
    rw [List.drop_length] at h1
    exact .inl ⟨w2 (Nat.le_refl _), h1 σ1 F1 H1 S1 s1 g1⟩
/-- a slot's own data are locked -/
theorem Sm.lock {i : Nat} {k : Kd} {d : D} (s : Sm K mg F H env σ S R T) (e : env[i]? = some (.sl k d)) (hk : k ≠ .R) : ∃ v S1 S2, σ[i]? = some (some v) ∧ Rp K mg F (At H) d v S1 ∧ S.Perm (S1 ++ S2) ∧
    Sm K mg F H (env.set i (.sl .R d)) σ S2 ⟨S1 ++ R.R, fun j => if j = i then some v else R.B j, fun j => if j = i then some (d, S1) else R.Q j⟩ T := by
  obtain ⟨v, S1, S2, e1, q1, p, s0⟩ := s.toSm0.take e hk
  have hi := (List.getElem?_eq_some_iff.mp e).1
  have hi2 : (env.set i Sl.un)[i]? = some .un := by rw [List.getElem?_set_self hi]
  have re := s0.re.lock d hi2
  rw [List.set_set] at re
  refine ⟨v, S1, S2, e1, q1, p, ⟨re, ?_, fun a ha z => ?_, s.fz, fun a ha => ?_, fun a ha => ?_⟩, fun j w ej => ?_, fun j s1 ej => ?_, fun j d1 ej => ?_, fun j d1 Rj ej => ?_⟩
  · exact s0.nd.sublist (List.Sublist.append_left (List.sublist_append_right _ _) _)
  · rcases List.mem_append.mp ha with y | y
    · have nd := nodup_count.mp s0.nd a
      simp only [List.count_append] at nd
      have c1 := List.count_pos_iff.mpr y
      rcases List.mem_append.mp z with z | z
      · have := List.count_pos_iff.mpr z; omega
      · have := List.count_pos_iff.mpr z; omega
    · refine s.rd a y ?_
      rcases List.mem_append.mp z with z | z
      · exact List.mem_append_left _ (p.mem_iff.mpr (List.mem_append_right _ z))
      · exact List.mem_append_right _ z
  · refine s0.nf a ?_
    simp only [List.mem_append] at ha ⊢
    rcases ha with z | (z | z) | z
    · exact .inl z
    · exact .inr (.inr (.inl z))
    · exact .inr (.inl z)
    · exact .inr (.inr (.inr z))
  · refine s0.th a ?_
    simp only [List.mem_append] at ha ⊢
    rcases ha with z | (z | z) | z
    · exact .inl z
    · exact .inr (.inr (.inl z))
    · exact .inr (.inl z)
    · exact .inr (.inr (.inr z))
  · by_cases hj : j = i
    · subst hj
      have ej' : (if j = j then some v else R.B j) = some w := ej
      rw [if_pos rfl] at ej'
      rw [e1, ej']
    · have ej' : (if j = i then some v else R.B j) = some w := ej
      rw [if_neg hj] at ej'
      exact s.lk.bd j w ej'
  · show lentS s1 = (if j = i then some v else R.B j).isSome
    by_cases hj : j = i
    · subst hj
      rw [List.getElem?_set_self hi] at ej
      cases ej
      rw [if_pos rfl]
      rfl
    · rw [List.getElem?_set_ne (Ne.symm hj)] at ej
      rw [if_neg hj]
      exact s.lk.bl j s1 ej
  · by_cases hj : j = i
    · subst hj
      rw [List.getElem?_set_self hi] at ej
      cases ej
      exact ⟨v, S1, if_pos rfl, if_pos rfl, q1.mono (Sub.refl F) fun _ _ _ z => .inl z, fun a ha => List.mem_append_left _ ha⟩
    · rw [List.getElem?_set_ne (Ne.symm hj)] at ej
      obtain ⟨w, Ri, y1, y2, y3, y4⟩ := s.lk.rq j d1 ej
      exact ⟨w, Ri, (if_neg hj).trans y1, (if_neg hj).trans y2, y3, fun a ha => List.mem_append_right _ (y4 a ha)⟩
  · have ej' : (if j = i then some (d, S1) else R.Q j) = some (d1, Rj) := ej
    by_cases hj : j = i
    · rw [if_pos hj] at ej'
      cases ej'
      exact fun a ha => List.mem_append_left _ ha
    · rw [if_neg hj] at ej'
      exact fun a ha => List.mem_append_right _ (s.lk.qr j d1 Rj ej' a ha)
/-- .. and unlocked -/
theorem Sm.unlock {i : Nat} {k : Kd} {d : D} {v : V} {S1 : List Addr} (s : Sm K mg F H env σ S ⟨S1 ++ R.R, fun j => if j = i then some v else R.B j, fun j => if j = i then some (d, S1) else R.Q j⟩ T) (hk : k ≠ .R) (hkB : lentS (.sl k d) = (R.B i).isSome) (hB : ∀ w, R.B i = some w → w = v)
    (rp : Rp K mg F (At H) d v S1) (nd1 : S1.Nodup) (rd1 : ∀ a ∈ R.R, a ∉ S1) (qr : ∀ (i : Nat) (d : D) (Ri : List Addr), R.Q i = some (d, Ri) → ∀ a ∈ Ri, a ∈ R.R) (e : unl i k env = some env') : ∃ S', Sm K mg F H env' σ S' R T ∧ S'.Perm (S1 ++ S) := by
  unfold unl at e
  split at e
  · rename_i d0 hi
    cases e
    obtain ⟨v0, Ri, y1, y2, _, _⟩ := s.lk.rq i d0 hi
    have y1' : (if i = i then some (d, S1) else R.Q i) = some (d0, Ri) := y1
    rw [if_pos rfl] at y1'
    cases y1'
    have hl := (List.getElem?_eq_some_iff.mp hi).1
    have ev : σ[i]? = some (some v) := s.lk.bd i v (if_pos rfl)
    have re := s.re.unlock hi
    have hi2 : (env.set i Sl.un)[i]? = some .un := by rw [List.getElem?_set_self hl]
    obtain ⟨S', p, q⟩ := re.put hi2 k d v S1 hk rp
    rw [List.set_set, set_self ev] at q
    have cn : ∀ z, S'.count z = S1.count z + S.count z := fun z => by
      have := p.count_eq z
      simpa only [List.count_append] using this
    have mem' : ∀ a ∈ S', a ∈ S1 ∨ a ∈ S := fun a ha => List.mem_append.mp (p.mem_iff.mp ha)
    have apart : ∀ a ∈ S1, a ∉ S ++ T := fun a ha => s.rd a (List.mem_append_left _ ha)
    refine ⟨S', ⟨⟨q, nodup_count.mpr fun z => ?_, fun a ha z => ?_, s.fz, fun a ha => ?_, fun a ha => ?_⟩, fun j w ej => ?_, fun j s1 ej => ?_, fun j d1 ej => ?_, qr⟩, p⟩
    · simp only [List.count_append]
      have c1 := cn z
      have c2 := nodup_count.mp s.nd z
      simp only [List.count_append] at c2
      have c3 := nodup_count.mp nd1 z
      by_cases hz : z ∈ S1
      · have n1 : S.count z = 0 := List.count_eq_zero.mpr fun y => apart z hz (List.mem_append_left _ y)
        have n2 : T.count z = 0 := List.count_eq_zero.mpr fun y => apart z hz (List.mem_append_right _ y)
        omega
      · have := List.count_eq_zero.mpr hz
        omega
    · rcases List.mem_append.mp z with z | z
      · rcases mem' a z with y | y
        · exact rd1 a ha y
        · exact s.rd a (List.mem_append_right _ ha) (List.mem_append_left _ y)
      · exact s.rd a (List.mem_append_right _ ha) (List.mem_append_right _ z)
    · refine s.nf a ?_
      simp only [List.mem_append] at ha ⊢
      rcases ha with z | z | z
      · exact (mem' a z).elim (fun y => .inr (.inl (.inl y))) .inl
      · exact .inr (.inl (.inr z))
      · exact .inr (.inr z)
    · refine s.th a ?_
      simp only [List.mem_append] at ha ⊢
      rcases ha with z | z | z
      · exact (mem' a z).elim (fun y => .inr (.inl (.inl y))) .inl
      · exact .inr (.inl (.inr z))
      · exact .inr (.inr z)
    · by_cases hj : j = i
      · subst hj
        rw [hB w ej]
        exact ev
      · exact s.lk.bd j w ((if_neg hj).trans ej)
    · by_cases hj : j = i
      · subst hj
        rw [List.getElem?_set_self hl] at ej
        cases ej
        exact hkB
      · rw [List.getElem?_set_ne (Ne.symm hj)] at ej
        have z : lentS s1 = (if j = i then some v else R.B j).isSome := s.lk.bl j s1 ej
        rw [if_neg hj] at z
        exact z
    · by_cases hj : j = i
      · subst hj
        rw [List.getElem?_set_self hl] at ej
        cases ej
        exact absurd rfl hk
      · rw [List.getElem?_set_ne (Ne.symm hj)] at ej
        obtain ⟨w, Rj, z1, z2, z3, z4⟩ := s.lk.rq j d1 ej
        have z1' : (if j = i then some (d, S1) else R.Q j) = some (d1, Rj) := z1
        have z2' : (if j = i then some v else R.B j) = some w := z2
        rw [if_neg hj] at z1' z2'
        exact ⟨w, Rj, z1', z2', z3, qr j d1 Rj z1'⟩
  · cases e
/-- the loop's reading -/
theorem t_For {src : Env → Res Src} {wi : TI} (sg : SndG K mg g tg) (hi : ∀ σ H Rr, tI K mg W src σ H Rr → wi σ H Rr) {σ : L2.St} {H : Hp} (h : tS K mg W (sFor src tg body) D' σ H) : tFor wi g (tS K mg W body) D' σ H := by
  obtain ⟨env, F, S, R, T, sm, h⟩ := h
  refine hi σ H _ ⟨env, F, S, R, T, sm, ?_⟩
  have e0 : sFor src tg body env = (src env).bind fun s en => match s with
    | .vals ds => forL tg body ds en
    | .lock i ds => (match en[i]? with
      | some (.sl k d) => if k = .R then .no else unlR i k (forL tg body ds (en.set i (.sl .R d)))
      | _ => .no) := rfl
  rw [e0] at h
  cases e : src env with
  | no => rw [e] at h; exact h.elim
  | ex c en => rw [e] at h; exact fun cv F' H' S' a b ec => h cv σ F' H' S' a b ec
  | ok s en =>
    rw [e] at h
    dsimp only
    intro J F1 H1 S1 s1 g1 w
    cases s with
    | vals ds => exact for_core sg s1 (fun _ z => z) w (ContS.re0 h g1)
    | lock i ds =>
      have h1 : ContS K mg W F1 H1 S1 R T (match en[i]? with
        | some (.sl k d) => if k = .R then .no else unlR i k (forL tg body ds (en.set i (.sl .R d)))
        | _ => .no) D' := ContS.re0 h g1
      split at h1
      · rename_i k d hi2
        by_cases hk : k = .R
        · rw [if_pos hk] at h1
          exact h1.elim
        · rw [if_neg hk] at h1
          obtain ⟨v, Sa, Sb, ev, rp, p, s2⟩ := s1.lock hi2 hk
          have nd1 : ∀ z, Sa.count z + Sb.count z + T.count z ≤ 1 := fun z => by
            have c1 := p.count_eq z
            have c2 := nodup_count.mp s1.nd z
            simp only [List.count_append] at c1 c2
            omega
          have back : ∀ {env2 env3 : Env} {σ' : L2.St} {F' H' : Hp} {S' T' : List Addr}, Sm K mg F' H' env2 σ' S' ⟨Sa ++ R.R, fun j => if j = i then some v else R.B j, fun j => if j = i then some (d, Sa) else R.Q j⟩ T' → Go F1 H1 Sb F' H' S' → unl i k env2 = some env3 →
              ∃ S3, Sm K mg F' H' env3 σ' S3 R T' ∧ S3.Perm (Sa ++ S') := fun {env2 env3 σ' F' H' S' T'} a b eu => by
            refine a.unlock hk ?_ (fun w hw => ?_) (rp.mono b.sub fun c hc o eo => b.fr c o eo fun z => ?_) (nodup_count.mpr fun z => by have := nd1 z; omega) (fun c hc hd => ?_) s1.lk.qr eu
            · exact s1.lk.bl i _ hi2
            · have z := s1.lk.bd i w hw
              rw [ev] at z
              cases z
              rfl
            · have c0 := List.count_pos_iff.mpr hc
              have c1 := List.count_pos_iff.mpr z
              have := nd1 c
              omega
            · exact s1.rd c hc (List.mem_append_left _ (p.mem_iff.mpr (List.mem_append_left _ hd)))
          have goB : ∀ {F' H' : Hp} {S' S3 U : List Addr}, Go F1 H1 Sb F' H' (S' ++ U) → S3.Perm (Sa ++ S') → Go F1 H1 S1 F' H' (S3 ++ U) := fun {F' H' S' S3 U} b q => by
            have inb : ∀ c ∈ Sb, c ∈ S1 := fun c hc => p.mem_iff.mpr (List.mem_append_right _ hc)
            refine ⟨b.sub, fun c o eo n => b.fr c o eo fun z => n (inb c z), b.gr, fun c hc => ?_, fun c ec => (b.nz c ec).imp id fun z => z.imp (inb c) id⟩
            rcases List.mem_append.mp hc with z | z
            · rcases List.mem_append.mp (q.mem_iff.mp z) with y | y
              · exact .inl (p.mem_iff.mpr (List.mem_append_left _ y))
              · exact (b.nw c (List.mem_append_left _ y)).imp (inb c) id
            · exact (b.nw c (List.mem_append_right _ z)).imp (inb c) id
          have h2 : ContS K mg W F1 H1 Sb ⟨Sa ++ R.R, fun j => if j = i then some v else R.B j, fun j => if j = i then some (d, Sa) else R.Q j⟩ T (forL tg body ds (en.set i (.sl .R d))) D' := by
            cases er : forL tg body ds (en.set i (.sl .R d)) with
            | no => rw [er] at h1; exact h1.elim
            | ex c en2 =>
              rw [er] at h1
              have h1' : ContS K mg W F1 H1 S1 R T (match unl i k en2 with
                | some e => .ex c e
                | none => .no) D' := h1
              split at h1'
              · rename_i e3 eu
                intro cv σ' F' H' S' a b ec
                obtain ⟨S3, s3, q⟩ := back a b eu
                exact h1' cv σ' F' H' S3 s3 ((goB (U := []) (by simpa using b) q).weak (by simp)) ec
              · exact h1'.elim
            | ok fl en2 =>
              rw [er] at h1
              have h1' : ContS K mg W F1 H1 S1 R T (match unl i k en2 with
                | some e => .ok fl e
                | none => .no) D' := h1
              split at h1'
              · rename_i e3 eu
                cases fl with
                | nx =>
                  intro σ' F' H' S' a b
                  obtain ⟨S3, s3, q⟩ := back a b eu
                  exact h1' σ' F' H' S3 s3 ((goB (U := []) (by simpa using b) q).weak (by simp))
                | bk =>
                  intro σ' F' H' S' a b
                  obtain ⟨S3, s3, q⟩ := back a b eu
                  exact h1' σ' F' H' S3 s3 ((goB (U := []) (by simpa using b) q).weak (by simp))
                | ct =>
                  intro σ' F' H' S' a b
                  obtain ⟨S3, s3, q⟩ := back a b eu
                  exact h1' σ' F' H' S3 s3 ((goB (U := []) (by simpa using b) q).weak (by simp))
                | rt t =>
                  intro v' σ' F' H' S' U a b rt
                  have b' : Go F1 H1 Sb F' H' S' := b.weak fun c hc => List.mem_append_left _ hc
                  obtain ⟨S3, s3, q⟩ := back a b' eu
                  exact h1' v' σ' F' H' S3 U s3 (goB b q) rt
              · exact h1'.elim
          refine for_core (Rl := Sa) sg s2 (fun a ha => List.mem_append_left _ ha) (w k d v Sa hi2 hk ev rp) h2
      · exact h1.elim
end
section
variable {X : Cx} {W : WX} {iter tge : Expr} {st : List Stmt} {pos : Pos} {src : Env → Res Src} {tg : Tgt} {body : Sta} {g : TG} {wi : TI}
theorem js_for (hp : PassesOwn (model X.prog X.w) X.A X.env X.xe) (hc : X.calm = true) (hi : PI X tge iter wi) (hw : ∀ σ H Rr, tI X.K X.mg W src σ H Rr → wi σ H Rr) (hg : PG X tge g) (sg : SndG X.K X.mg g tg) (hb : JB X W st body)
    (hs : ∀ x, foldedSetIterable iter X.env x = pure x := by intro _; rfl) : JS X W (.For tge iter st [] pos) (sFor src tg body) :=
  js_of (ps_for hp hc hi hg hb hs) fun _ _ _ h => t_For sg hw h
end
end DL
/-! DLi: list comprehensions, while. -/
namespace DL
open PySem PySem.Spec PyProof.Rows L2

def noX {α : Type} : Res α → Res α
  | .ok a e => .ok a e
  | _ => .no
/-- the block's own names are emptied -/
def wp : List Nat → Env → Option Env
  | [], env => some env
  | i :: is, env => (wp is env).bind fun en => match en[i]? with
    | some .un => some en
    | some (.sl .O _) => some (en.set i .un)
    | _ => none
/-- .. if nothing of their own is lost -/
def wpC (own : List Nat) (env : Env) : Option Env := if own.all (fun i => match env[i]? with
    | some .un => true
    | some (.sl .O d) => d.cl
    | _ => false) = true then wp own env else none
/-- the names as they stood -/
def rst : List Nat → Env → Env → Option Env
  | [], _, env => some env
  | i :: is, en, env => match env[i]?, en[i]? with
    | some .un, some s => rst is en (env.set i s)
    | _, _ => none
def lcL (tg : Tgt) (own : List Nat) (cond elt : Ex) : List D → Env → List D → Res (List D)
  | [], env, acc => .ok acc env
  | d :: r, env, acc => match asg tg env d with
    | none => .no
    | some e1 => (noX (cond e1)).bind fun t e2 => match rd e2 t with
      | some (.bl true) => (noX (elt e2)).bind fun t e3 => match mv e3 t with
        | some p => if acc.length < 16777216 then (match wp own p.2 with
          | some e5 => lcL tg own cond elt r e5 (acc ++ [p.1])
          | none => .no) else .no
        | none => .no
      | some (.bl false) => (match wp own e2 with
          | some e5 => lcL tg own cond elt r e5 acc
          | none => .no)
      | _ => .no
def lcRun (tg : Tgt) (own : List Nat) (cond elt : Ex) (ds : List D) (en : Env) : Res Tm := match wpC own en with
  | none => .no
  | some ew => (lcL tg own cond elt ds ew []).bind fun acc e => match rst own en e with
    | some e' => .ok (.vl (.lst true acc)) e'
    | none => .no
def unlT (i : Nat) (k : Kd) (r : Res Tm) : Res Tm := match r with
  | .ok f env => (match unl i k env with
    | some e => .ok f e
    | none => .no)
  | .ex c env => (match unl i k env with
    | some e => .ex c e
    | none => .no)
  | .no => .no
def eLc (src : Env → Res Src) (tg : Tgt) (own : List Nat) (cond elt : Ex) : Ex := fun env => (src env).bind fun s en => match s with
  | .vals ds => lcRun tg own cond elt ds en
  | .lock i ds => (match en[i]? with
    | some (.sl k d) => if k = .R then .no else unlT i k (lcRun tg own cond elt ds (en.set i (.sl .R d)))
    | _ => .no)
section
variable {K : PySem.W.Frag} {mg : Mg} {W : WX} {F F' F1 F2 H H' H1 H2 : Hp} {env env' env1 : Env} {σ σ' : L2.St} {S S' S1 T U U1 L : List Addr} {R : Lk} {tg : Tgt} {g : TG} {own : List Nat} {cond elt : Ex}
theorem RE.blank : ∀ {env : Env} {σ : L2.St} {S : List Addr} {i : Nat} (o : Option V), RE K mg F H env σ S → env[i]? = some .un → RE K mg F H env (σ.set i o) S
  | _, _, _, i, _, .nil, e => by simp at e
  | _, _, _, 0, o, .un h, e => .un h
  | _, _, _, i + 1, o, .un h, e => .un (h.blank o (by simpa using e))
  | _, _, _, 0, o, .ow hk0 h hr0, e => by simp at e
  | _, _, _, i + 1, o, .ow hk0 h hr0, e => .ow hk0 h (hr0.blank o (by simpa using e))
  | _, _, _, 0, o, .rd hr0, e => by simp at e
  | _, _, _, i + 1, o, .rd hr0, e => .rd (hr0.blank o (by simpa using e))
theorem Sm.blank {i : Nat} (s : Sm K mg F H env σ S R T) (e : env[i]? = some .un) (o : Option V) : Sm K mg F H env (σ.set i o) S R T := by
  refine ⟨⟨s.re.blank o e, s.nd, s.rd, s.fz, s.nf, s.th⟩, fun j v ej => ?_, s.lk.bl, s.lk.rq, s.lk.qr⟩
  by_cases hj : j = i
  · subst hj
    have z := s.lk.bl j _ e
    rw [ej] at z
    cases z
  · rw [List.getElem?_set_ne (Ne.symm hj)]
    exact s.lk.bd j v ej
theorem Sm.empty {i : Nat} {d : D} (s : Sm K mg F H env σ S R T) (e : env[i]? = some (.sl .O d)) : ∃ S', Sm K mg F H (env.set i .un) σ S' R T ∧ ∀ a ∈ S', a ∈ S := by
  obtain ⟨v, S1, S2, e1, q1, p, s0⟩ := s.toSm0.take e (by decide)
  refine ⟨S2, ⟨s0.temps (List.sublist_append_right _ _), s.lk.bd, fun j s1 ej => ?_, fun j d1 ej => ?_, s.lk.qr⟩, fun a ha => p.mem_iff.mpr (List.mem_append_right _ ha)⟩
  · by_cases hj : j = i
    · subst hj
      rw [List.getElem?_set_self (List.getElem?_eq_some_iff.mp e).1] at ej
      cases ej
      have z := s.lk.bl j _ e
      exact z
    · rw [List.getElem?_set_ne (Ne.symm hj)] at ej
      exact s.lk.bl j _ ej
  · by_cases hj : j = i
    · subst hj
      rw [List.getElem?_set_self (List.getElem?_eq_some_iff.mp e).1] at ej
      cases ej
    · rw [List.getElem?_set_ne (Ne.symm hj)] at ej
      exact s.lk.rq j _ ej
theorem wp_ok : ∀ {own : List Nat} {env env' : Env} {S : List Addr}, Sm K mg F H env σ S R T → wp own env = some env' → ∃ S', Sm K mg F H env' (L2.wipe σ own) S' R T ∧ ∀ a ∈ S', a ∈ S
  | [], env, env', S, s, e => by
    cases e
    exact ⟨S, s, fun _ h => h⟩
  | i :: is, env, env', S, s, e => by
    have e0 : wp (i :: is) env = (wp is env).bind fun en => match en[i]? with
      | some .un => some en
      | some (.sl .O _) => some (en.set i .un)
      | _ => none := rfl
    rw [e0] at e
    cases ea : wp is env with
    | none => rw [ea] at e; cases e
    | some en =>
      rw [ea, Option.bind_some] at e
      obtain ⟨S1, s1, h1⟩ := wp_ok s ea
      split at e
      · rename_i hi
        cases e
        exact ⟨S1, s1.blank hi none, h1⟩
      · rename_i d hi
        cases e
        obtain ⟨S2, s2, h2⟩ := s1.empty hi
        exact ⟨S2, s2.blank (by rw [List.getElem?_set_self (List.getElem?_eq_some_iff.mp hi).1]) none, fun a ha => h1 a (h2 a ha)⟩
      · cases e
theorem wipe_ne {i : Nat} : ∀ {is : List Nat}, i ∉ is → (L2.wipe σ is)[i]? = σ[i]?
  | [], _ => rfl
  | j :: is, h => by
    show ((L2.wipe σ is).set j none)[i]? = σ[i]?
    rw [List.getElem?_set_ne fun e => h (by rw [e]; exact List.mem_cons_self)]
    exact wipe_ne fun z => h (List.mem_cons_of_mem _ z)
theorem wipe_eq {σ σ2 : L2.St} : ∀ {is : List Nat}, OnlyAt is (L2.wipe σ is) σ2 → L2.wipe σ2 is = L2.wipe σ is := fun {is} h => by
  have wn : ∀ {τ : L2.St} {is : List Nat} {j : Nat}, j ∈ is → j < τ.length → (L2.wipe τ is)[j]? = some none := by
    intro τ is
    induction is with
    | nil => intro j hj; exact absurd hj (by simp)
    | cons k is ih =>
      intro j hj hl
      show ((L2.wipe τ is).set k none)[j]? = some none
      by_cases e : k = j
      · subst e
        rw [List.getElem?_set_self (by rw [L2.wipe_length]; exact hl)]
      · rw [List.getElem?_set_ne e]
        rcases List.mem_cons.mp hj with z | z
        · exact absurd z.symm e
        · exact ih z hl
  have hl : σ2.length = σ.length := h.1.trans (L2.wipe_length σ is)
  apply List.ext_getElem?
  intro j
  by_cases hj : j ∈ is
  · by_cases hlt : j < σ.length
    · rw [wn hj hlt, wn hj (by rw [hl]; exact hlt)]
    · rw [List.getElem?_eq_none (by rw [L2.wipe_length]; omega), List.getElem?_eq_none (by rw [L2.wipe_length]; omega)]
  · rw [wipe_ne hj, h.2 j hj, wipe_ne hj]
theorem rst_ok : ∀ {own : List Nat} {en env env' : Env} {S : List Addr}, own.Nodup → Sm K mg F' H' env (L2.wipe σ own) S R T →
    (∀ (i : Nat) (s : Sl), i ∈ own → en[i]? = some s → s = .un ∨ ∃ d v, s = .sl .O d ∧ σ[i]? = some (some v) ∧ Rp K mg F' (At H') d v []) → rst own en env = some env' → ∃ S', Sm K mg F' H' env' σ S' R T ∧ ∀ a ∈ S', a ∈ S
  | [], en, env, env', S, hn, s, h, e => by
    cases e
    exact ⟨S, s, fun _ z => z⟩
  | i :: is, en, env, env', S, hn, s, h, e => by
    have hni := (List.nodup_cons.mp hn).1
    have hn' := (List.nodup_cons.mp hn).2
    have e0 : rst (i :: is) en env = (match env[i]?, en[i]? with
      | some .un, some s => rst is en (env.set i s)
      | _, _ => none) := rfl
    rw [e0] at e
    split at e
    · rename_i s1 hu hi
      have hlen : i < (L2.wipe σ is).length := by
        have z := (List.getElem?_eq_some_iff.mp hu).1
        have y := s.re.length
        rw [y] at z
        rw [L2.wipe_length] at z ⊢
        exact z
      have s' : Sm K mg F' H' env ((L2.wipe σ is).set i none) S R T := s
      have back : ∀ o, ((L2.wipe σ is).set i none).set i o = (L2.wipe σ is).set i o := fun o => List.set_set ..
      rcases h i s1 List.mem_cons_self hi with rfl | ⟨d, v, rfl, ev, rp⟩
      · have s2 := s'.blank hu ((L2.wipe σ is)[i]'hlen)
        rw [back, List.set_getElem_self] at s2
        rw [set_self hu] at e
        exact rst_ok hn' s2 (fun j s0 hj => h j s0 (List.mem_cons_of_mem _ hj)) e
      · obtain ⟨S', s2, hs2⟩ := setS_ok (U := []) (v := v) (i := i) (env' := env.set i (.sl .O d)) s' rp (by unfold setS; rw [hu])
        rw [back] at s2
        have ew : (L2.wipe σ is).set i (some v) = L2.wipe σ is := set_self (by rw [wipe_ne hni]; exact ev)
        rw [ew] at s2
        obtain ⟨S3, s3, hs3⟩ := rst_ok hn' s2 (fun j s0 hj => h j s0 (List.mem_cons_of_mem _ hj)) e
        exact ⟨S3, s3, fun a ha => (hs2 a (hs3 a ha)).elim id fun z => absurd z (by simp)⟩
    · cases e
/-- a temporary's cell is written -/
theorem Sm.updT {p : Addr} {o : HO} (s : Sm K mg F H env σ S R T) (hp : p ∈ T) (ho : ∀ vs, o ≠ .tup vs := by intro _ z; cases z) : Sm K mg F (upd H p o) env σ S R T := by
  have hS : ∀ a ∈ S, a ≠ p := fun a ha e => by
    subst e
    exact (List.nodup_append.mp s.nd).2.2 a ha a hp rfl
  have hR : ∀ a ∈ R.R, a ≠ p := fun a ha e => by
    subst e
    exact s.rd a ha (List.mem_append_right _ hp)
  refine ⟨⟨s.re.mono (Sub.refl F) fun a ha u e => by rw [upd_ne (hS a ha)]; exact e, s.nd, s.rd, s.fz.updN (s.nf _ (List.mem_append_right _ (List.mem_append_right _ hp))) ho, s.nf, fun a ha => ?_⟩, s.lk.mono (Sub.refl F) fun a ha u e => by rw [upd_ne (hR a ha)]; exact e⟩
  · by_cases e : a = p
    · subst e
      rw [upd_same]
      simp
    · rw [upd_ne e]
      exact s.th a ha
theorem Go.updT {F0 H0 : Hp} {S0 : List Addr} {p : Addr} {o : HO} (g : Go F0 H0 S0 F H L) (hp : H0 p = none ∨ p ∈ S0) : Go F0 H0 S0 F (upd H p o) L where
  sub := g.sub
  fr := fun a u e n => by
    have ne : a ≠ p := fun z => by
      subst z
      rcases hp with q | q
      · rw [q] at e; cases e
      · exact n q
    rw [upd_ne ne]
    exact g.fr a u e n
  gr := fun a h => by
    by_cases e : a = p
    · subst e; rw [upd_same]; simp
    · rw [upd_ne e]; exact g.gr a h
  nw := g.nw
  nz := g.nz
abbrev W0 : WX := fun _ _ _ _ => False
theorem lc_main {J : It} {ds : List D} {Rl : List Addr} {tt : TT} {D0 : Addr} {Q : VK} (sg : SndG K mg g tg) (hix : ∀ i ∈ tg.ix, i ∈ own) (hn : own.Nodup) (ht : ∀ σ H Q, tT K mg W0 cond σ H Q → tt σ H Q)
    (s : Sm K mg F H env σ S R T) (hR : ∀ a ∈ Rl, a ∈ R.R) (w : Walk K mg F H Rl J ds) (h : Cont (RT K mg σ) K mg W σ F H S R T (lcRun tg own cond elt ds env) Q) (hD : H D0 = none) :
    ∃ Wn : Nat → Nat → Hp → Prop, (∃ m, Wn 0 m (upd H D0 (.lst []))) ∧ ∀ i m H, Wn i m H →
      (J.stop i H ∧ Q (.ref D0) H) ∨ (J.go i H ∧ ∃ Nx : Hp → Prop, (∀ H', Nx H' → ∃ m', m' < m ∧ Wn (i + 1) m' H') ∧ ∀ x H', J.yld i H x H' → g x (L2.wipe σ own) H' fun σ2 H2 => L2.wipe σ2 own = L2.wipe σ own ∧ tt σ2 H2 fun b H3 =>
        if b = true then tE K mg W0 elt σ2 H3 fun y H4 => ∃ acc, H4 D0 = some (.lst acc) ∧ acc.length < sizeLine ∧ Nx (upd H4 D0 (.lst (acc ++ [y]))) else Nx H3) := by
  have e0 : lcRun tg own cond elt ds env = match wpC own env with
    | none => .no
    | some ew => (lcL tg own cond elt ds ew []).bind fun acc e => match rst own env e with
      | some e' => .ok (.vl (.lst true acc)) e'
      | none => .no := rfl
  rw [e0] at h
  cases ew0 : wpC own env with
  | none => rw [ew0] at h; exact h.elim
  | some ew =>
    rw [ew0] at h
    dsimp only at h
    unfold wpC at ew0
    split at ew0
    · rename_i hcl
      obtain ⟨S2, s2, h2⟩ := wp_ok s ew0
      have owned : ∀ (F' H' : Hp), Sub F F' → ∀ (i : Nat) (s0 : Sl), i ∈ own → env[i]? = some s0 → s0 = .un ∨ ∃ d v, s0 = .sl .O d ∧ σ[i]? = some (some v) ∧ Rp K mg F' (At H') d v [] := fun F' H' hs i s0 hi es => by
        have z := List.all_eq_true.mp hcl i hi
        rw [es] at z
        cases s0 with
        | un => exact .inl rfl
        | sl k d =>
          cases k with
          | O =>
            have z' : d.cl = true := z
            obtain ⟨v, e1⟩ := s.slot es
            obtain ⟨S1, q⟩ := RT.rb (t := .loc i) (U := []) ⟨rfl, e1⟩ s (rd_env es)
            rw [q.clean z'] at q
            exact .inr ⟨d, v, rfl, e1, (Rp.any (A' := At H') q).mono hs fun _ z => absurd z (by simp)⟩
          | M => cases z
          | R => cases z
      have st0 : Step F H F (upd H D0 (.lst [])) [D0] := Step.own s.fz hD
      have s3 := st0.sm s2
      refine ⟨fun i m H1 => m = ds.length - i ∧ i ≤ ds.length ∧ ∃ env1 F1 S1 acc vs Us, Sm K mg F1 H1 env1 (L2.wipe σ own) S1 R ((D0 :: Us) ++ T) ∧ H1 D0 = some (.lst vs) ∧ Rps K mg F1 (At H1) acc vs Us ∧ Go F H S F1 H1 (S1 ++ (D0 :: Us)) ∧
        Cont (RT K mg σ) K mg W σ F H S R T ((lcL tg own cond elt (ds.drop i) env1 acc).bind fun acc e => match rst own env e with
          | some e' => .ok (.vl (.lst true acc)) e'
          | none => .no) Q, ⟨ds.length, by simp, Nat.zero_le _, ew, F, S2, [], [], [], s3, upd_same, .nil, (st0.go (S := S)).weak fun a ha => ?_, by simpa using h⟩, ?_⟩
      · rcases List.mem_append.mp ha with z | z
        · exact List.mem_append_left _ (h2 a z)
        · exact List.mem_append_right _ z
      · rintro i m H1 ⟨rfl, hi, env1, F1, S1, acc, vs, Us, s1, hd1, r1, g1, h1⟩
        have cells : ∀ a ∈ Rl, ∀ o, H a = some o → H1 a = some o := fun a ha o e => g1.fr a o e fun z => s.rd a (hR a ha) (List.mem_append_left _ z)
        obtain ⟨w1, w2⟩ := w i F1 H1 g1.sub s1.fz cells
        by_cases hlt : i < ds.length
        · obtain ⟨go, yl⟩ := w1 ds[i] (List.getElem?_eq_getElem hlt)
          have ed : ds.drop i = ds[i] :: ds.drop (i + 1) := List.drop_eq_getElem_cons hlt
          rw [ed] at h1
          refine .inr ⟨go, fun H2 => ∃ env1 F1 S1 acc vs Us, Sm K mg F1 H2 env1 (L2.wipe σ own) S1 R ((D0 :: Us) ++ T) ∧ H2 D0 = some (.lst vs) ∧ Rps K mg F1 (At H2) acc vs Us ∧ Go F H S F1 H2 (S1 ++ (D0 :: Us)) ∧
            Cont (RT K mg σ) K mg W σ F H S R T ((lcL tg own cond elt (ds.drop (i + 1)) env1 acc).bind fun acc e => match rst own env e with
              | some e' => .ok (.vl (.lst true acc)) e'
              | none => .no) Q, fun H2 hN => ⟨ds.length - (i + 1), by omega, rfl, hlt, hN⟩, fun x H2 y => ?_⟩
          obtain ⟨F2, st, rp⟩ := yl x H2 y
          have e1 : lcL tg own cond elt (ds[i] :: ds.drop (i + 1)) env1 acc = (match asg tg env1 ds[i] with
            | none => .no
            | some e1 => (noX (cond e1)).bind fun t e2 => match rd e2 t with
              | some (.bl true) => (noX (elt e2)).bind fun t e3 => match mv e3 t with
                | some p => if acc.length < 16777216 then (match wp own p.2 with
                  | some e5 => lcL tg own cond elt (ds.drop (i + 1)) e5 (acc ++ [p.1])
                  | none => .no) else .no
                | none => .no
              | some (.bl false) => (match wp own e2 with
                  | some e5 => lcL tg own cond elt (ds.drop (i + 1)) e5 acc
                  | none => .no)
              | _ => .no) := rfl
          rw [e1] at h1
          cases ea : asg tg env1 ds[i] with
          | none => rw [ea] at h1; exact h1.elim
          | some en =>
            rw [ea] at h1
            dsimp only at h1
            have s2' : Sm K mg F2 H2 env1 (L2.wipe σ own) S1 R ([] ++ ((D0 :: Us) ++ T)) := st.sm s1
            have g2 : Go F H S F2 H2 (S1 ++ (D0 :: Us)) := (g1.trans (U1 := D0 :: Us) (st.go (S := S1))).weak (by simp)
            have r2 : Rps K mg F2 (At H2) acc vs Us := r1.mono st.sub fun a _ o e => st.fr a o e
            have hd2 : H2 D0 = some (.lst vs) := st.fr _ _ hd1
            refine sg env1 F2 H2 (L2.wipe σ own) S1 R ((D0 :: Us) ++ T) [] ds[i] x en _ s2' rp ea fun σ2 S3 s3 hs ho => ⟨wipe_eq ⟨ho.1, fun j hj => ho.2 j fun z => hj (hix j z)⟩, ht _ _ _ ?_⟩
            have ew2 : L2.wipe σ2 own = L2.wipe σ own := wipe_eq ⟨ho.1, fun j hj => ho.2 j fun z => hj (hix j z)⟩
            have g3 : Go F H S F2 H2 (S3 ++ (D0 :: Us)) := g2.weak fun a ha => by
              rcases List.mem_append.mp ha with z | z
              · exact List.mem_append_left _ ((hs a z).elim id fun z => absurd z (by simp))
              · exact List.mem_append_right _ z
            refine ⟨en, F2, S3, R, (D0 :: Us) ++ T, s3, ?_⟩
            cases ec : cond en with
            | no => rw [ec] at h1; exact h1.elim
            | ex c e2 => rw [ec] at h1; exact h1.elim
            | ok t e2 =>
              rw [ec] at h1
              intro v F4 H4 S4 U4 s4 g4 rt4
              have h1' : Cont (RT K mg σ) K mg W σ F H S R T (Res.bind (match rd e2 t with
                | some (.bl true) => (noX (elt e2)).bind fun t e3 => match mv e3 t with
                  | some p => if acc.length < 16777216 then (match wp own p.2 with
                    | some e5 => lcL tg own cond elt (ds.drop (i + 1)) e5 (acc ++ [p.1])
                    | none => .no) else .no
                  | none => .no
                | some (.bl false) => (match wp own e2 with
                    | some e5 => lcL tg own cond elt (ds.drop (i + 1)) e5 acc
                    | none => .no)
                | _ => .no) fun acc e => match rst own env e with
                | some e' => .ok (.vl (.lst true acc)) e'
                | none => .no) Q := h1
              have g4' : Go F H S F4 H4 ((S4 ++ U4) ++ (D0 :: Us)) := g3.trans (U1 := D0 :: Us) g4
              have nS3 : D0 ∉ S3 := fun z => (List.nodup_append.mp s3.nd).2.2 D0 z D0 (by simp) rfl
              have hd4 : H4 D0 = some (.lst vs) := g4.fr _ _ hd2 nS3
              have r4 : Rps K mg F4 (At H4) acc vs Us := r2.mono g4.sub fun a ha o e => g4.fr a o e fun z => (List.nodup_append.mp s3.nd).2.2 a z a (by simp [ha]) rfl
              cases er : rd e2 t with
              | none => rw [er] at h1'; exact h1'.elim
              | some db =>
                rw [er] at h1'
                cases db with
                | bl b =>
                  refine ⟨b, (rt4.rb s4 er).bl, ?_⟩
                  cases b with
                  | false =>
                    rw [if_neg Bool.false_ne_true]
                    dsimp only at h1'
                    cases e5 : wp own e2 with
                    | none => rw [e5] at h1'; exact h1'.elim
                    | some en5 =>
                      rw [e5] at h1'
                      obtain ⟨S5, s5, hs5⟩ := wp_ok s4 e5
                      rw [ew2] at s5
                      refine ⟨en5, F4, S5, acc, vs, Us, s5.drop, hd4, r4, g4'.weak fun a ha => ?_, h1'⟩
                      rcases List.mem_append.mp ha with z | z
                      · exact List.mem_append_left _ (List.mem_append_left _ (hs5 a z))
                      · exact List.mem_append_right _ z
                  | true =>
                    rw [if_pos rfl]
                    dsimp only at h1'
                    refine ⟨e2, F4, S4, R, U4 ++ ((D0 :: Us) ++ T), s4, ?_⟩
                    cases ee : elt e2 with
                    | no => rw [ee] at h1'; exact h1'.elim
                    | ex c e3 => rw [ee] at h1'; exact h1'.elim
                    | ok t3 e3 =>
                      rw [ee] at h1'
                      intro v5 F5 H5 S5 U5 s5 g5 rt5
                      have h2' : Cont (RT K mg σ) K mg W σ F H S R T (Res.bind (match mv e3 t3 with
                        | some p => if acc.length < 16777216 then (match wp own p.2 with
                          | some e5 => lcL tg own cond elt (ds.drop (i + 1)) e5 (acc ++ [p.1])
                          | none => .no) else .no
                        | none => .no) fun acc e => match rst own env e with
                        | some e' => .ok (.vl (.lst true acc)) e'
                        | none => .no) Q := h1'
                      cases em : mv e3 t3 with
                      | none => rw [em] at h2'; exact h2'.elim
                      | some p =>
                        obtain ⟨d5, e4⟩ := p
                        rw [em] at h2'
                        dsimp only at h2'
                        obtain ⟨F6, S6, s6, g6, r6⟩ := mv_ok s5 rt5 em
                        by_cases hlen : acc.length < 16777216
                        · rw [if_pos hlen] at h2'
                          cases e5 : wp own e4 with
                          | none => rw [e5] at h2'; exact h2'.elim
                          | some en5 =>
                            rw [e5] at h2'
                            obtain ⟨S7, s7, hs7⟩ := wp_ok s6 e5
                            rw [ew2] at s7
                            have nS4 : D0 ∉ S4 := fun z => (List.nodup_append.mp s4.nd).2.2 D0 z D0 (by simp) rfl
                            have hd5 : H5 D0 = some (.lst vs) := g5.fr _ _ hd4 nS4
                            have r5 : Rps K mg F6 (At H5) acc vs Us := r4.mono (g5.sub.trans g6.sub) fun a ha o e => g5.fr a o e fun z => (List.nodup_append.mp s4.nd).2.2 a z a (by simp [ha]) rfl
                            refine ⟨vs, hd5, by rw [sz, ← r5.length]; exact hlen, en5, F6, S7, acc ++ [d5], vs ++ [v5], Us ++ U5, ?_, upd_same, ?_, ?_, h2'⟩
                            · have s8 : Sm K mg F6 H5 en5 (L2.wipe σ own) S7 R (U4 ++ ((D0 :: (Us ++ U5)) ++ T)) := s7.perm (List.perm_iff_count.mpr fun z => by
                                simp only [List.count_append, List.count_cons]
                                omega)
                              exact s8.drop.updT (by simp)
                            · have r7 : Rps K mg F6 (At H5) [d5] [v5] (U5 ++ []) := .cons r6 .nil
                              rw [List.append_nil] at r7
                              refine (r5.append r7).mono (Sub.refl F6) fun a ha o e => ?_
                              have ne : a ≠ D0 := fun z => by
                                subst z
                                have nd := nodup_count.mp s6.nd a
                                simp only [List.count_append, List.cons_append, List.count_cons_self] at nd
                                have c1 := List.count_pos_iff.mpr ha
                                simp only [List.count_append] at c1
                                omega
                              show upd H5 D0 _ a = some o
                              rw [upd_ne ne]
                              exact e
                            · have g7 : Go F H S F6 H5 (S6 ++ (U5 ++ (U4 ++ (D0 :: Us)))) := by
                                have z1 : Go F H S F4 H4 (S4 ++ (U4 ++ (D0 :: Us))) := g4'.weak (by simp)
                                have z2 : Go F H S F5 H5 (S5 ++ (U5 ++ (U4 ++ (D0 :: Us)))) := (z1.trans (U1 := U4 ++ (D0 :: Us)) g5).weak (by simp)
                                exact z2.trans (U1 := U5 ++ (U4 ++ (D0 :: Us))) g6
                              refine (g7.updT (.inl hD)).weak fun a ha => ?_
                              simp only [List.mem_append, List.mem_cons] at ha ⊢
                              rcases ha with z | z | z | z
                              · exact .inl (hs7 a z)
                              · exact .inr (.inr (.inr (.inl z)))
                              · exact .inr (.inr (.inr (.inr z)))
                              · exact .inr (.inl z)
                        · rw [if_neg hlen] at h2'
                          exact h2'.elim
                | _ => exact h1'.elim
        · have e : i = ds.length := by omega
          subst e
          rw [List.drop_length] at h1
          refine .inl ⟨w2 (Nat.le_refl _), ?_⟩
          have h1' : Cont (RT K mg σ) K mg W σ F H S R T (match rst own env env1 with
            | some e' => .ok (.vl (.lst true acc)) e'
            | none => .no) Q := h1
          cases er : rst own env env1 with
          | none => rw [er] at h1'; exact h1'.elim
          | some e' =>
            rw [er] at h1'
            obtain ⟨S5, s5, hs5⟩ := rst_ok hn s1 (owned F1 H1 g1.sub) er
            refine h1' (.ref D0) F1 H1 S5 (D0 :: Us) s5 (g1.weak fun a ha => ?_) (.ol hd1 r1)
            rcases List.mem_append.mp ha with z | z
            · exact List.mem_append_left _ (hs5 a z)
            · exact List.mem_append_right _ z
    · cases ew0
theorem t_Lc {src : Env → Res Src} {wi : TI} {tt : TT} (sg : SndG K mg g tg) (hix : ∀ i ∈ tg.ix, i ∈ own) (hn : own.Nodup) (hi : ∀ σ H Rr, tI K mg W src σ H Rr → wi σ H Rr) (ht : ∀ σ H Q, tT K mg W0 cond σ H Q → tt σ H Q) {σ : L2.St} {H : Hp} {Q : VK}
    (h : tE K mg W (eLc src tg own cond elt) σ H Q) : tLc wi g tt (tE K mg W0 elt) own σ H Q := by
  obtain ⟨env, F, S, R, T, sm, h⟩ := h
  refine hi σ H _ ⟨env, F, S, R, T, sm, ?_⟩
  have e0 : eLc src tg own cond elt env = (src env).bind fun s en => match s with
    | .vals ds => lcRun tg own cond elt ds en
    | .lock i ds => (match en[i]? with
      | some (.sl k d) => if k = .R then .no else unlT i k (lcRun tg own cond elt ds (en.set i (.sl .R d)))
      | _ => .no) := rfl
  rw [e0] at h
  have cre : ∀ {r : Res Tm} {F1 H1 : Hp} {S1 : List Addr}, Cont (RT K mg σ) K mg W σ F H S R T r Q → Go F H S F1 H1 S1 → Cont (RT K mg σ) K mg W σ F1 H1 S1 R T r Q := fun hh g => Cont.re (U1 := []) hh (by simpa using g)
  cases e : src env with
  | no => rw [e] at h; exact h.elim
  | ex c en => rw [e] at h; exact fun cv F' H' S' a b ec => h cv F' H' S' a b ec
  | ok s en =>
    rw [e] at h
    dsimp only
    intro J F1 H1 S1 s1 g1 w D0 hD
    cases s with
    | vals ds => exact lc_main sg hix hn ht s1 (fun _ z => z) w (cre h g1) hD
    | lock i ds =>
      have h1 : Cont (RT K mg σ) K mg W σ F1 H1 S1 R T (match en[i]? with
        | some (.sl k d) => if k = .R then .no else unlT i k (lcRun tg own cond elt ds (en.set i (.sl .R d)))
        | _ => .no) Q := cre h g1
      split at h1
      · rename_i k d hi2
        by_cases hk : k = .R
        · rw [if_pos hk] at h1
          exact h1.elim
        · rw [if_neg hk] at h1
          obtain ⟨v, Sa, Sb, ev, rp, p, s2⟩ := s1.lock hi2 hk
          have nd1 : ∀ z, Sa.count z + Sb.count z + T.count z ≤ 1 := fun z => by
            have c1 := p.count_eq z
            have c2 := nodup_count.mp s1.nd z
            simp only [List.count_append] at c1 c2
            omega
          have h2 : Cont (RT K mg σ) K mg W σ F1 H1 Sb ⟨Sa ++ R.R, fun j => if j = i then some v else R.B j, fun j => if j = i then some (d, Sa) else R.Q j⟩ T (lcRun tg own cond elt ds (en.set i (.sl .R d))) Q := by
            have back : ∀ {env2 env3 : Env} {F' H' : Hp} {S' T' : List Addr}, Sm K mg F' H' env2 σ S' ⟨Sa ++ R.R, fun j => if j = i then some v else R.B j, fun j => if j = i then some (d, Sa) else R.Q j⟩ T' → Go F1 H1 Sb F' H' S' → unl i k env2 = some env3 →
                ∃ S3, Sm K mg F' H' env3 σ S3 R T' ∧ S3.Perm (Sa ++ S') := fun {env2 env3 F' H' S' T'} a b eu => by
              refine a.unlock hk ?_ (fun w hw => ?_) (rp.mono b.sub fun c hc o eo => b.fr c o eo fun z => ?_) (nodup_count.mpr fun z => by have := nd1 z; omega) (fun c hc hd => ?_) s1.lk.qr eu
              · exact s1.lk.bl i _ hi2
              · have z := s1.lk.bd i w hw
                rw [ev] at z
                cases z
                rfl
              · have c0 := List.count_pos_iff.mpr hc
                have c1 := List.count_pos_iff.mpr z
                have := nd1 c
                omega
              · exact s1.rd c hc (List.mem_append_left _ (p.mem_iff.mpr (List.mem_append_left _ hd)))
            have goB : ∀ {F' H' : Hp} {S' S3 U : List Addr}, Go F1 H1 Sb F' H' (S' ++ U) → S3.Perm (Sa ++ S') → Go F1 H1 S1 F' H' (S3 ++ U) := fun {F' H' S' S3 U} b q => by
              have inb : ∀ c ∈ Sb, c ∈ S1 := fun c hc => p.mem_iff.mpr (List.mem_append_right _ hc)
              refine ⟨b.sub, fun c o eo n => b.fr c o eo fun z => n (inb c z), b.gr, fun c hc => ?_, fun c ec => (b.nz c ec).imp id fun z => z.imp (inb c) id⟩
              rcases List.mem_append.mp hc with z | z
              · rcases List.mem_append.mp (q.mem_iff.mp z) with y | y
                · exact .inl (p.mem_iff.mpr (List.mem_append_left _ y))
                · exact (b.nw c (List.mem_append_left _ y)).imp (inb c) id
              · exact (b.nw c (List.mem_append_right _ z)).imp (inb c) id
            cases er : lcRun tg own cond elt ds (en.set i (.sl .R d)) with
            | no => rw [er] at h1; exact h1.elim
            | ex c en2 =>
              rw [er] at h1
              have h1' : Cont (RT K mg σ) K mg W σ F1 H1 S1 R T (match unl i k en2 with
                | some e => .ex c e
                | none => .no) Q := h1
              split at h1'
              · rename_i e3 eu
                intro cv F' H' S' a b ec
                obtain ⟨S3, s3, q⟩ := back a b eu
                exact h1' cv F' H' S3 s3 ((goB (U := []) (by simpa using b) q).weak (by simp)) ec
              · exact h1'.elim
            | ok t en2 =>
              rw [er] at h1
              have h1' : Cont (RT K mg σ) K mg W σ F1 H1 S1 R T (match unl i k en2 with
                | some e => .ok t e
                | none => .no) Q := h1
              split at h1'
              · rename_i e3 eu
                intro v' F' H' S' U a b rt
                have b' : Go F1 H1 Sb F' H' S' := b.weak fun c hc => List.mem_append_left _ hc
                obtain ⟨S3, s3, q⟩ := back a b' eu
                exact h1' v' F' H' S3 U s3 (goB b q) rt
              · exact h1'.elim
          exact lc_main (Rl := Sa) sg hix hn ht s2 (fun a ha => List.mem_append_left _ ha) (w k d v Sa hi2 hk ev rp) h2 hD
      · exact h1.elim
theorem t_yes {σ : L2.St} {H : Hp} {Q : Bool → Hp → Prop} (h : tT K mg W (eC (.bl true)) σ H Q) : tYes σ H Q := by
  obtain ⟨env, F, S, R, T, sm, h⟩ := h
  obtain ⟨k, e, q⟩ := h (.bl true) F H S [] sm Go.refl' (.bl true)
  cases e
  exact q
end
section
variable {X : Cx} {W : WX} {elt tge iter c : Expr} {ifs : List Expr} {scope : Scope} {own : List (Str × Nat)} {pos : Pos} {wi : TI} {g : TG} {src : Env → Res Src} {tg : Tgt} {mc me : Ex}
theorem je_lc (hc : X.calm = true) (hN : X.N.Nodup) (hi : PI X tge iter wi) (hw : ∀ σ H Rr, tI X.K X.mg W src σ H Rr → wi σ H Rr) (ok : BlkOk X.N X.env.scope scope own) (hix : ∀ i ∈ tg.ix, i ∈ own.map (·.2)) (hn : (own.map (·.2)).Nodup)
    (hg : ∀ (s : Shared) (H : Hp) (C : Addr) (cl : List (Str × Addr)) (fp : List Addr), PG (X.blk s H scope (compEnvC scope cl C X.env) fp) tge g) (sg : SndG X.K X.mg g tg)
    (he : ∀ (s : Shared) (H : Hp) (C : Addr) (cl : List (Str × Addr)) (fp : List Addr), JE (X.blk s H scope (compEnvC scope cl C X.env) fp) W0 elt me) (hs : ∀ x, foldedSetIterable iter X.env x = pure x := by intro _; rfl) :
    JE X W (.ListComp elt [⟨tge, iter, [], 0⟩] scope pos) (eLc src tg (own.map (·.2)) (eC (.bl true)) me) :=
  je_of (pe_lc hc hN hi ok hg (fun _ _ _ _ _ => pts_nil) he hs) fun _ _ _ h => t_Lc sg hix hn hw (fun _ _ _ h => t_yes h) h
theorem je_lcIf (hc : X.calm = true) (hN : X.N.Nodup) (hi : PI X tge iter wi) (hw : ∀ σ H Rr, tI X.K X.mg W src σ H Rr → wi σ H Rr) (ok : BlkOk X.N X.env.scope scope own) (hix : ∀ i ∈ tg.ix, i ∈ own.map (·.2)) (hn : (own.map (·.2)).Nodup)
    (hg : ∀ (s : Shared) (H : Hp) (C : Addr) (cl : List (Str × Addr)) (fp : List Addr), PG (X.blk s H scope (compEnvC scope cl C X.env) fp) tge g) (sg : SndG X.K X.mg g tg)
    (ht : ∀ (s : Shared) (H : Hp) (C : Addr) (cl : List (Str × Addr)) (fp : List Addr), JT (X.blk s H scope (compEnvC scope cl C X.env) fp) W0 c mc)
    (he : ∀ (s : Shared) (H : Hp) (C : Addr) (cl : List (Str × Addr)) (fp : List Addr), JE (X.blk s H scope (compEnvC scope cl C X.env) fp) W0 elt me) (hs : ∀ x, foldedSetIterable iter X.env x = pure x := by intro _; rfl) :
    JE X W (.ListComp elt [⟨tge, iter, [c], 0⟩] scope pos) (eLc src tg (own.map (·.2)) mc me) :=
  je_of (pe_lc hc hN hi ok hg (fun s H C cl fp => pts_one (ht s H C cl fp)) he hs) fun _ _ _ h => t_Lc sg hix hn hw (fun _ _ _ h => h) h
variable {i : Nat} {y : Str} {py spos : Pos}
theorem js_setLc (hc : X.calm = true) (hN : X.N.Nodup) (hi : PI X tge iter wi) (hw : ∀ σ H Rr, tI X.K X.mg W src σ H Rr → wi σ H Rr) (ok : BlkOk X.N X.env.scope scope own) (hix : ∀ i ∈ tg.ix, i ∈ own.map (·.2)) (hn : (own.map (·.2)).Nodup)
    (hg : ∀ (s : Shared) (H : Hp) (C : Addr) (cl : List (Str × Addr)) (fp : List Addr), PG (X.blk s H scope (compEnvC scope cl C X.env) fp) tge g) (sg : SndG X.K X.mg g tg)
    (he : ∀ (s : Shared) (H : Hp) (C : Addr) (cl : List (Str × Addr)) (fp : List Addr), JE (X.blk s H scope (compEnvC scope cl C X.env) fp) W0 elt me)
    (hsw : swapsWith (.ListComp elt [⟨tge, iter, [], 0⟩] scope pos) (some (.Name y py)) spos.line X.env = pure true) (hy : X.N[i]? = some y := by rfl) (hyl : X.env.scope.names.lookup y = some .local := by rfl) (hs : ∀ x, foldedSetIterable iter X.env x = pure x := by intro _; rfl) :
    JS X W (.Assign [.Name y py] (.ListComp elt [⟨tge, iter, [], 0⟩] scope pos) spos) (sSet i (eLc src tg (own.map (·.2)) (eC (.bl true)) me)) :=
  js_of (ps_setLc hc hN hy hyl hsw hi ok hg (fun _ _ _ _ _ => pts_nil) he hs) fun _ _ _ h => t_Lc sg hix hn hw (fun _ _ _ h => t_yes h) (t_Set h : tE X.K X.mg W _ _ _ _)
theorem js_setLcIf (hc : X.calm = true) (hN : X.N.Nodup) (hi : PI X tge iter wi) (hw : ∀ σ H Rr, tI X.K X.mg W src σ H Rr → wi σ H Rr) (ok : BlkOk X.N X.env.scope scope own) (hix : ∀ i ∈ tg.ix, i ∈ own.map (·.2)) (hn : (own.map (·.2)).Nodup)
    (hg : ∀ (s : Shared) (H : Hp) (C : Addr) (cl : List (Str × Addr)) (fp : List Addr), PG (X.blk s H scope (compEnvC scope cl C X.env) fp) tge g) (sg : SndG X.K X.mg g tg)
    (ht : ∀ (s : Shared) (H : Hp) (C : Addr) (cl : List (Str × Addr)) (fp : List Addr), JT (X.blk s H scope (compEnvC scope cl C X.env) fp) W0 c mc)
    (he : ∀ (s : Shared) (H : Hp) (C : Addr) (cl : List (Str × Addr)) (fp : List Addr), JE (X.blk s H scope (compEnvC scope cl C X.env) fp) W0 elt me)
    (hsw : swapsWith (.ListComp elt [⟨tge, iter, [c], 0⟩] scope pos) (some (.Name y py)) spos.line X.env = pure true) (hy : X.N[i]? = some y := by rfl) (hyl : X.env.scope.names.lookup y = some .local := by rfl) (hs : ∀ x, foldedSetIterable iter X.env x = pure x := by intro _; rfl) :
    JS X W (.Assign [.Name y py] (.ListComp elt [⟨tge, iter, [c], 0⟩] scope pos) spos) (sSet i (eLc src tg (own.map (·.2)) mc me)) :=
  js_of (ps_setLc hc hN hy hyl hsw hi ok hg (fun s H C cl fp => pts_one (ht s H C cl fp)) he hs) fun _ _ _ h => t_Lc sg hix hn hw (fun _ _ _ h => h) (t_Set h : tE X.K X.mg W _ _ _ _)
end
end DL
/-! DLj: while, targets stored to, what changes a list, raise. -/
namespace DL
open PySem PySem.Spec PyProof.Rows L2

def whL (cond : Ex) (body : Sta) : Nat → Env → Res Fl
  | 0, _ => .no
  | n + 1, env => (cond env).bind fun t e => match rd e t with
    | some (.bl true) => (body e).bind fun fl e2 => match fl with
      | .nx => whL cond body n e2
      | .ct => whL cond body n e2
      | .bk => .ok .nx e2
      | .rt t => .ok (.rt t) e2
    | some (.bl false) => .ok .nx e
    | _ => .no
def sWhile (n : Nat) (cond : Ex) (body : Sta) : Sta := whL cond body n
/-- any target -/
def sAsg (tg : Tgt) (m : Ex) : Sta := fun env => (m env).bind fun t en => match mv en t with
  | some p => (match asg tg p.2 p.1 with
    | some en' => .ok .nx en'
    | none => .no)
  | none => .no
/-- name op= e -/
def sAug (i : Nat) (g : D → D → Option D) (m : Ex) : Sta := fun env => match rd env (.loc i) with
  | some d1 => if d1.cl then (m env).bind fun t en => match (rd en t).bind (g d1) with
    | some d => (match setS en i d with
      | some en' => .ok .nx en'
      | none => .no)
    | none => .no else .no
  | none => .no
def sRaise (c : Str) : Sta := fun env => .ex c env
/-- what changes the list (or dict) of the slot i: g tells what is there behind, and what the call tells -/
def isL : D → Bool
  | .lst _ _ => true
  | _ => false
def eMut (i : Nat) (g : D → List D → Option (D × D)) (ms : List Ex) : Ex := fun env => if (rd env (.loc i)).any isL = true then (evA ms env).bind fun ts en => match mvs en ts with
  | some p => (match p.2[i]? with
    | some (.sl k d) => if k = .R then .no else (match g d p.1 with
      | some q => .ok (.vl q.2) (p.2.set i (.sl k q.1))
      | none => .no)
    | _ => .no)
  | none => .no else .no
def SndM (K : PySem.W.Frag) (mg : Mg) (r : V → List V → Hp → VK → Prop) (g : D → List D → Option (D × D)) : Prop :=
  ∀ (F H : Hp) (d : D) (x : V) (S1 : List Addr) (ds : List D) (vs : List V) (U : List Addr) (q : D × D) (Q : VK), FzOk F H → (∀ a ∈ S1 ++ U, F a = none) → (S1 ++ U).Nodup → Rp K mg F (At H) d x S1 → Rps K mg F (At H) ds vs U → g d ds = some q →
    (∀ v' a o S' U', a ∈ S1 → (∀ vs, o ≠ .tup vs) → Rp K mg F (At (upd H a o)) q.1 x S' → Rp K mg F (At (upd H a o)) q.2 v' U' → (∀ z, S'.count z + U'.count z ≤ S1.count z + U.count z) → Q v' (upd H a o)) → r x vs H Q
section
variable {K : PySem.W.Frag} {mg : Mg} {W : WX} {F F' F1 F2 H H' H1 H2 : Hp} {env env' env1 : Env} {σ σ' : L2.St} {S S' S1 T U U1 L : List Addr} {R : Lk} {tg : Tgt} {g : TG} {D' : Ends}
theorem t_While {n : Nat} {cond : Ex} {body : Sta} {σ : L2.St} {H : Hp} (h : tS K mg W (sWhile n cond body) D' σ H) : tWhile (tT K mg W cond) (tS K mg W body) D' σ H := by
  refine ⟨fun m σ H => tS K mg W (whL cond body m) D' σ H, ⟨n, h⟩, fun m σ H hw => ?_⟩
  obtain ⟨env, F, S, R, T, sm, h⟩ := hw
  cases m with
  | zero => exact h.elim
  | succ m =>
    refine ⟨env, F, S, R, T, sm, (ContS.bind h).imp fun v H1 ⟨t1, env1, F1, S1, U1, sm1, go1, rt1, h1⟩ => ?_⟩
    by_cases hb : ∃ b, rd env1 t1 = some (.bl b)
    · obtain ⟨c, e⟩ := hb
      refine ⟨c, (rt1.rb sm1 e).bl, ?_⟩
      rw [e] at h1
      cases c with
      | false =>
        rw [if_neg Bool.false_ne_true]
        exact h1 σ F1 H1 S1 sm1.drop (go1.weak fun a ha => List.mem_append_left _ ha)
      | true =>
        rw [if_pos rfl]
        refine ⟨fun σ' H' => tS K mg W (whL cond body m) D' σ' H', fun σ' H' hN => ⟨m, Nat.lt_succ_self m, hN⟩, env1, F1, S1, R, U1 ++ T, sm1, ?_⟩
        have h1' := h1.re go1
        dsimp only at h1'
        cases eb : body env1 with
        | no => rw [eb] at h1'; exact h1'.elim
        | ex c e2 => rw [eb] at h1'; exact h1'
        | ok fl e2 =>
          rw [eb] at h1'
          cases fl with
          | nx => exact fun σ' F' H' S' a b => ⟨e2, F', S', R, U1 ++ T, a, ContS.re0 h1' b⟩
          | ct => exact fun σ' F' H' S' a b => ⟨e2, F', S', R, U1 ++ T, a, ContS.re0 h1' b⟩
          | bk => exact h1'
          | rt t => exact h1'
    · split at h1
      · rename_i e; exact absurd ⟨_, e⟩ hb
      · rename_i e; exact absurd ⟨_, e⟩ hb
      · exact h1.elim
theorem t_Asg {m : Ex} {σ : L2.St} {H : Hp} (sg : SndG K mg g tg) (h : tS K mg W (sAsg tg m) D' σ H) : tAsg (tE K mg W m) g D' σ H := by
  obtain ⟨env, F, S, R, T, sm, h⟩ := h
  refine ⟨env, F, S, R, T, sm, (ContS.bind h).imp fun v H1 ⟨t1, env1, F1, S1, U1, sm1, go1, rt1, h1⟩ => ?_⟩
  cases e : mv env1 t1 with
  | none => rw [e] at h1; exact h1.elim
  | some p =>
    obtain ⟨d, env2⟩ := p
    rw [e] at h1
    obtain ⟨F2, S2, s2, g2, r2⟩ := mv_ok sm1 rt1 e
    dsimp only at h1
    cases e2 : asg tg env2 d with
    | none => rw [e2] at h1; exact h1.elim
    | some env3 =>
      rw [e2] at h1
      refine sg env2 F2 H1 σ S2 R T U1 d v env3 _ s2 r2 e2 fun σ' S3 s3 hs _ => ?_
      refine h1 σ' F2 H1 S3 s3 ((go1.trans (U1 := U1) g2).weak fun a ha => ?_)
      exact List.mem_append.mpr (hs a ha)
/-- name op= e: the operator's rule -/
theorem t_Aug {i : Nat} {r : R2} {f : D → D → Option D} {m : Ex} {σ : L2.St} {H : Hp} (snd : Snd2 K mg r f) (h : tS K mg W (sAug i f m) D' σ H) : tAug i (tE K mg W m) r D' σ H := by
  obtain ⟨env, F, S, R, T, sm, h⟩ := h
  unfold sAug at h
  cases e : rd env (.loc i) with
  | none => rw [e] at h; exact h.elim
  | some d1 =>
    rw [e] at h
    dsimp only at h
    by_cases hc : d1.cl = true
    · rw [if_pos hc] at h
      obtain ⟨k, ei⟩ := rd_loc e
      obtain ⟨x, ev⟩ := sm.slot ei
      obtain ⟨S0, r0⟩ := RT.rb (t := .loc i) (U := []) ⟨rfl, ev⟩ sm e
      rw [r0.clean hc] at r0
      refine ⟨x, ev, env, F, S, R, T, sm, (ContS.bind h).imp fun v H1 ⟨t1, env1, F1, S1, U1, sm1, go1, rt1, h1⟩ => ?_⟩
      cases er : rd env1 t1 with
      | none => rw [er] at h1; exact h1.elim
      | some d2 =>
        rw [er, Option.bind_some] at h1
        cases eg : f d1 d2 with
        | none => rw [eg] at h1; exact h1.elim
        | some d =>
          rw [eg] at h1
          dsimp only at h1
          cases es : setS env1 i d with
          | none => rw [es] at h1; exact h1.elim
          | some env2 =>
            rw [es] at h1
            have rb1 : Rb K mg F1 H1 d1 x := ⟨[], (Rp.any (A' := Rt H1) r0).mono go1.sub fun _ z => absurd z (by simp)⟩
            refine snd F1 H1 d1 d2 x v d _ sm1.fz rb1 (rt1.rb sm1 er) eg fun v' F' H' U st rp => ?_
            have s2 : Sm K mg F' H' env1 σ S1 R (U ++ T) := (st.sm sm1).temps (List.Sublist.append_left (List.sublist_append_right _ _) _)
            obtain ⟨S3, s3, hs⟩ := setS_ok s2 rp es
            refine h1 _ F' H' S3 s3 (((go1.trans (U1 := U1) (st.go (S := S1)))).weak fun a ha => ?_)
            rcases hs a ha with z | z
            · exact List.mem_append_left _ (List.mem_append_left _ z)
            · exact List.mem_append_left _ (List.mem_append_right _ z)
    · rw [if_neg hc] at h
      exact h.elim
theorem Rb.list {d : D} {v : V} (fz : FzOk F H) (h : Rb K mg F H d v) (hl : isL d = true) : ∃ a xs, v = .ref a ∧ SqL K H a xs := by
  obtain ⟨S, h⟩ := h
  cases h with
  | fl h1 _ => exact ⟨_, _, rfl, h1.at fz⟩
  | ol h1 _ => exact ⟨_, _, rfl, .inl h1⟩
  | _ => cases hl
/-- the slot i's own cells are written -/
theorem Sm.wr {i : Nat} {k : Kd} {d d' : D} {x : V} {a : Addr} {o : HO} {S1 U2 V1 V2 : List Addr} (s0 : Sm0 K mg F H (env.set i .un) σ S R (S1 ++ (U2 ++ T))) (l : Lok K mg F H env σ R) (hi : env[i]? = some (.sl k d)) (hk : k ≠ .R) (ev : σ[i]? = some (some x)) (ha : a ∈ S1) (ho : ∀ vs, o ≠ .tup vs)
    (r1 : Rp K mg F (At (upd H a o)) d' x V1) (cn : ∀ z, V1.count z + V2.count z ≤ S1.count z + U2.count z) : ∃ S', Sm K mg F (upd H a o) (env.set i (.sl k d')) σ S' R (V2 ++ T) ∧ S'.Perm (V1 ++ S) := by
  have hlen := (List.getElem?_eq_some_iff.mp hi).1
  have hi2 : (env.set i Sl.un)[i]? = some .un := by rw [List.getElem?_set_self hlen]
  have nd := nodup_count.mp s0.nd
  have aS : a ∉ S := fun z => by
    have := nd a
    simp only [List.count_append] at this
    have := List.count_pos_iff.mpr ha
    have := List.count_pos_iff.mpr z
    omega
  have aR : a ∉ R.R := fun z => s0.rd a z (by simp [ha])
  have nfa : F a = none := s0.nf a (by simp [ha])
  have re1 : RE K mg F (upd H a o) (env.set i .un) σ S := s0.re.mono (Sub.refl F) fun b hb u e => by
    rw [upd_ne fun z => aS (by rw [← z]; exact hb)]
    exact e
  obtain ⟨S', p, q⟩ := re1.put hi2 k d' x V1 hk r1
  rw [List.set_set, set_self ev] at q
  have cn' : ∀ z, S'.count z = V1.count z + S.count z := fun z => by
    have := p.count_eq z
    simpa only [List.count_append] using this
  have mem : ∀ b, b ∈ S' ++ (V2 ++ T) → b ∈ S ++ (S1 ++ (U2 ++ T)) := fun b hb => by
    have c1 := cn b
    have c2 := cn' b
    have c0 := List.count_pos_iff.mpr hb
    simp only [List.count_append] at c0
    refine List.count_pos_iff.mp ?_
    simp only [List.count_append]
    omega
  have memR : ∀ b, b ∈ S' ++ (R.R ++ (V2 ++ T)) → b ∈ S ++ (R.R ++ (S1 ++ (U2 ++ T))) := fun b hb => by
    rcases List.mem_append.mp hb with z | z
    · have := mem b (List.mem_append_left _ z)
      simp only [List.mem_append] at this ⊢
      exact this.imp id .inr
    · rcases List.mem_append.mp z with z | z
      · simp only [List.mem_append]; exact .inr (.inl z)
      · have := mem b (List.mem_append_right _ z)
        simp only [List.mem_append] at this ⊢
        exact this.imp id .inr
  refine ⟨S', ⟨⟨q, nodup_count.mpr fun z => ?_, fun b hb z => s0.rd b hb (mem b z), s0.fz.updN nfa ho, fun b hb => s0.nf b (memR b hb), fun b hb => ?_⟩, ?_⟩, p⟩
  · have c1 := cn z
    have c2 := cn' z
    have c3 := nd z
    simp only [List.count_append] at c3 ⊢
    omega
  · by_cases e : b = a
    · subst e; rw [upd_same]; simp
    · rw [upd_ne e]; exact s0.th b (memR b hb)
  · have l0 : Lok K mg F (upd H a o) env σ R := l.mono (Sub.refl F) fun b hb u e => by
      rw [upd_ne fun z => aR (by rw [← z]; exact hb)]
      exact e
    refine ⟨l0.bd, fun j s1 ej => ?_, fun j d1 ej => ?_, l0.qr⟩
    · by_cases hj : j = i
      · subst hj
        rw [List.getElem?_set_self hlen] at ej
        cases ej
        have z := l.bl j _ hi
        rw [← z]
        cases k <;> rfl
      · rw [List.getElem?_set_ne (Ne.symm hj)] at ej
        exact l0.bl j s1 ej
    · by_cases hj : j = i
      · subst hj
        rw [List.getElem?_set_self hlen] at ej
        cases ej
        exact absurd rfl hk
      · rw [List.getElem?_set_ne (Ne.symm hj)] at ej
        exact l0.rq j d1 ej
theorem t_Mut {i : Nat} {r : V → List V → Hp → VK → Prop} {f : D → List D → Option (D × D)} {ms : List Ex} {σ : L2.St} {H : Hp} {Q : VK} (snd : SndM K mg r f) (h : tE K mg W (eMut i f ms) σ H Q) :
    ∃ x, σ[i]? = some (some x) ∧ tyV K "list" x H ∧ tA K mg W ms σ H fun vs H2 => r x vs H2 Q := by
  obtain ⟨env, F, S, R, T, sm, h⟩ := h
  unfold eMut at h
  by_cases hl : (rd env (.loc i)).any isL = true
  · rw [if_pos hl] at h
    cases e : rd env (.loc i) with
    | none => rw [e] at hl; cases hl
    | some d0 =>
      rw [e] at hl
      obtain ⟨k0, ei0⟩ := rd_loc e
      obtain ⟨x, ev⟩ := sm.slot ei0
      obtain ⟨a0, xs0, rfl, hq⟩ := Rb.list sm.fz (RT.rb (t := .loc i) (U := []) ⟨rfl, ev⟩ sm e) hl
      refine ⟨.ref a0, ev, .inl ⟨rfl, xs0, hq⟩, env, F, S, R, T, sm, (Cont.bind h).imp fun vs H1 ⟨ts, env1, F1, S1, U1, sm1, go1, rts, h1⟩ => ?_⟩
      cases em : mvs env1 ts with
      | none => rw [em] at h1; exact h1.elim
      | some p =>
        obtain ⟨ds, env2⟩ := p
        rw [em] at h1
        obtain ⟨F2, S2, U2, s2, g2, r2, p2⟩ := mvs_ok sm1 rts em
        dsimp only at h1
        split at h1
        · rename_i k d ei
          by_cases hk : k = .R
          · rw [if_pos hk] at h1; exact h1.elim
          · rw [if_neg hk] at h1
            cases eg : f d ds with
            | none => rw [eg] at h1; exact h1.elim
            | some q =>
              rw [eg] at h1
              dsimp only at h1
              obtain ⟨x', Sa, Sb, ev', rp, pS, s0⟩ := s2.toSm0.take ei hk
              rw [ev] at ev'
              cases ev'
              have nd0 := nodup_count.mp s0.nd
              refine snd F2 H1 d (.ref a0) Sa ds vs U2 q Q s2.fz (fun a ha => ?_) (nodup_count.mpr fun z => ?_) rp r2 eg fun v' a o S' U' ha ho q1 q2 cn => ?_
              · refine s0.nf a ?_
                simp only [List.mem_append] at ha ⊢
                rcases ha with z | z
                · exact .inr (.inr (.inl z))
                · exact .inr (.inr (.inr (.inl z)))
              · have := nd0 z
                simp only [List.count_append] at this ⊢
                omega
              · obtain ⟨S3, s3, p3⟩ := Sm.wr s0 s2.lk ei hk ev ha ho q1 cn
                have gAll : Go F H S F2 H1 (S2 ++ U2) := (go1.trans (U1 := U1) g2).weak fun b hb => by
                  simp only [List.mem_append] at hb ⊢
                  exact hb.imp id fun z => p2.mem_iff.mp z
                refine h1 v' F2 (upd H1 a o) S3 U' s3 ?_ q2
                refine (gAll.updT ?_).weak fun b hb => ?_
                · have aS2 : a ∈ S2 := pS.mem_iff.mpr (List.mem_append_left _ ha)
                  rcases gAll.nw a (List.mem_append_left _ aS2) with z | z
                  · exact .inr z
                  · exact .inl z
                · have c0 := List.count_pos_iff.mpr hb
                  have c1 := cn b
                  have c2 := p3.count_eq b
                  have c3 := pS.count_eq b
                  refine List.count_pos_iff.mp ?_
                  simp only [List.count_append] at c0 c1 c2 c3 ⊢
                  omega
        · exact h1.elim
  · rw [if_neg hl] at h
    exact h.elim
end
section
variable {X : Cx} {W : WX} {e o c tge : Expr} {es : List Expr} {st : List Stmt} {pos pos' apos cpos : Pos} {m mc : Ex} {ms : List Ex} {body : Sta} {x name : Str} {tg : Tgt} {g : TG}
theorem js_while (n : Nat) (hp : PassesOwn (model X.prog X.w) X.A X.env X.xe) (hc : JT X W c mc) (hb : JB X W st body) : JS X W (.While c st [] pos) (sWhile n mc body) := js_of (ps_while hp hc hb) fun _ _ _ h => t_While h
theorem js_asg (he : JE X W e m) (hg : PG X tge g) (sg : SndG X.K X.mg g tg) (hs : swapsWithSole [tge] e pos.line X.env = pure false := by rfl) (hw : swappedStores [tge] e X.env = pure none := by rfl)
    (h1 : (assignEach [tge] X.env).map (·.2) = [assign tge X.env] := by rfl) : JS X W (.Assign [tge] e pos) (sAsg tg m) := js_of (ps_asg he hg hs hw h1) fun _ _ _ h => t_Asg sg h
/-- an operator's in-place rule by its plain one -/
theorem js_aug (i : Nat) {op : Operator} {r : R2} {f : D → D → Option D} (ho : OpR X (inplaceOp op) r) (snd : Snd2 X.K X.mg r f) (he : JE X W e m) (hN : X.N.Nodup) (hi : X.N[i]? = some x := by rfl) (hx : Loc X.env.scope x := by first | exact Or.inl rfl | exact Or.inr rfl) (hf : X.fn x = true ∨ X.env.scope.names.lookup x = some .local := by first | exact .inl rfl | exact .inr rfl | assumption) :
    JS X W (.AugAssign (.Name x pos') op e pos) (sAug i f m) := js_of (ps_aug hN hi hx he (fun pins s σ H x y v u Q I r1 r2 h => ho pins s σ H x y v u Q I r1 r2 h) hf) fun _ _ _ h => t_Aug snd h
theorem js_raise {cN msg : Str} {C : Addr} {j : Nat} {p p2 p3 : Pos} (hc : X.calm = true) (tk : Takes X W) (q : PySem.W.excIn X.K C [.type "ValueError", .type "Exception", .type "BaseException", .type "object"] "ValueError.__new__" = true) (gC : X.mg cN = some (.ref C)) (kC : PySem.W.keepIn X.K (.ref C) = true) (r : Raises X (.ref C)) (hg : Gl X cN)
    (hdb : (cN == ("__debug__" : Str)) = false := by decide) : JS X W (.Raise (some (.Call (.Name cN p) [.Constant (.str msg) j p2] [] p3)) none pos) (sRaise cN) :=
  js_of (ps_raise hc tk (pmk_own PySem.F.excBase_ValueError q gC kC r hg hdb)) fun _ σ H ⟨env, F, S, R, T, sm, h⟩ => h (.ref C) σ F H S sm Go.refl gC
theorem je_mut0 (i : Nat) {id : String} {r : V → List V → Hp → VK → Prop} {f : D → List D → Option (D × D)} {pn : Pos} (slot : Slot "list" name id) (hty : typeOf (.builtin id) = pure (.type "method_descriptor")) (hm : MtR X id r) (snd : SndM X.K X.mg r f)
    (hN : X.N[i]? = some x := by rfl) (hv : Vis X.env.scope x := by first | exact Or.inl rfl | exact Or.inr (Or.inl rfl) | exact Or.inr (Or.inr rfl)) (hd : (x == ("__debug__" : Str)) = false := by decide)
    (hcd : (x == ("__classdict__" : Str)) = false := by decide) (hbase : attributeBase (.Name x pn) name X.env (eval (.Name x pn) X.env) = eval (.Name x pn) X.env := by rfl) (hline : (apos.endLine == cpos.line) = true := by rfl) :
    JE X W (.Call (.Attribute (.Name x pn) name apos) [] [] cpos) (eMut i f []) :=
  je_of (pe_bm0 PySem.F.plainAttrs_list slot hty hm (pe_var (i := i) hN hv hd hcd) hbase hline) fun σ H Q h => by
    obtain ⟨v, ev, ty, ha⟩ := t_Mut snd h
    exact ⟨v, ev, ty, t_A_nil ha⟩
theorem je_mut (i : Nat) {id : String} {r : V → List V → Hp → VK → Prop} {f : D → List D → Option (D × D)} {pn : Pos} (slot : Slot "list" name id) (hty : typeOf (.builtin id) = pure (.type "method_descriptor")) (hm : MtR X id r) (snd : SndM X.K X.mg r f) (ha : JA X W (e :: es) ms)
    (hN : X.N[i]? = some x := by rfl) (hv : Vis X.env.scope x := by first | exact Or.inl rfl | exact Or.inr (Or.inl rfl) | exact Or.inr (Or.inr rfl)) (hd : (x == ("__debug__" : Str)) = false := by decide)
    (hcd : (x == ("__classdict__" : Str)) = false := by decide) (hbase : attributeBase (.Name x pn) name X.env (eval (.Name x pn) X.env) = eval (.Name x pn) X.env := by rfl)
    (hfew : ((backTo cpos (starEach (e :: es) X.env)).all (fun x => !x.1) && (backToKw cpos (keywordEach [] X.env)).all (fun x => x.1.isSome)
      && decide ((e :: es).length + ([] : List Keyword).length + (if ([] : List Keyword).isEmpty then 0 else 1) < 30)) = true := by rfl)
    (hline : (apos.endLine == cpos.line) = true := by rfl) (hs : starEach (e :: es) X.env = (false, eval e X.env) :: starEach es X.env := by rfl) (hplain : (backTo cpos (starEach es X.env)).any (·.1) = false := by rfl) :
    JE X W (.Call (.Attribute (.Name x pn) name apos) (e :: es) [] cpos) (eMut i f ms) :=
  je_of (pe_bm PySem.F.plainAttrs_list slot hty hm (pe_var (i := i) hN hv hd hcd) ha hbase hfew hline hs hplain) fun σ H Q h => by
    obtain ⟨v, ev, ty, ha⟩ := t_Mut snd h
    exact ⟨v, ev, ty, ha⟩
end
end DL
/-! DLk: the operators. -/
namespace DL
open PySem PySem.Spec PyProof.Rows L2

/-! ### what is handed on frozen -/
def eFz (m : Ex) : Ex := fun env => (m env).bind fun t en => match mv en t with
  | some p => .ok (.vl p.1.fz) p.2
  | none => .no
section
variable {K : PySem.W.Frag} {mg : Mg} {W : WX} {F F' F1 F2 H H' H1 H2 : Hp} {env env' env1 : Env} {σ σ' : L2.St} {S S' S1 T U U1 L : List Addr} {R : Lk}
theorem Go.frzT (g : Go F H S F1 H1 (S1 ++ U)) (nf : ∀ a ∈ U, F1 a = none) : Go F H S (DL.frz F1 H1 U) H1 S1 where
  sub := g.sub.trans (frz_sub nf)
  fr := g.fr
  gr := g.gr
  nw := fun a ha => g.nw a (List.mem_append_left _ ha)
  nz := fun a e => by
    by_cases z : a ∈ U
    · exact .inr (g.nw a (List.mem_append_right _ z))
    · rw [frz_out z] at e; exact g.nz a e
/-- a temporary is frozen -/
theorem Sm.frzT {d : D} {v : V} (s : Sm K mg F H env σ S R (U ++ T)) (h : Rp K mg F (At H) d v U) : Sm K mg (frz F H U) H env σ S R T ∧ Rp K mg (frz F H U) (At H) d.fz v [] := by
  have nf : ∀ a ∈ U, F a = none := fun a ha => s.nf a (by simp [ha])
  have nd := nodup_count.mp s.nd
  have sub : Sub F (frz F H U) := frz_sub nf
  have out : ∀ a ∈ S ++ (R.R ++ T), a ∉ U := fun a ha hb => by
    have c := nd a
    have cb := List.count_pos_iff.mpr hb
    simp only [List.count_append] at c
    simp only [List.mem_append] at ha
    rcases ha with z | z | z
    · have := List.count_pos_iff.mpr z; omega
    · exact s.rd a z (by simp [hb])
    · have := List.count_pos_iff.mpr z; omega
  have inn : ∀ a ∈ S ++ (R.R ++ T), a ∈ S ++ (R.R ++ (U ++ T)) := fun a ha => by
    simp only [List.mem_append] at ha ⊢
    rcases ha with z | z | z
    · exact .inl z
    · exact .inr (.inl z)
    · exact .inr (.inr (.inr z))
  refine ⟨⟨⟨s.re.mono sub fun _ _ _ e => e, ?_, fun a ha z => s.rd a ha ?_, frz_ok s.fz, fun a ha => ?_, fun a ha => s.th a (inn a ha)⟩, s.lk.mono sub fun _ _ _ e => e⟩, h.freeze sub fun a ha => frz_in ha⟩
  · exact s.nd.sublist (List.Sublist.append_left (List.sublist_append_right _ _) _)
  · simp only [List.mem_append] at z ⊢
    exact z.imp id .inr
  · rw [frz_out (out a ha)]
    exact s.nf a (inn a ha)
theorem t_Fz {m : Ex} {Q : VK} (h : tE K mg W (eFz m) σ H Q) : tE K mg W m σ H Q := by
  obtain ⟨env, F, S, R, T, sm, h⟩ := h
  refine ⟨env, F, S, R, T, sm, (Cont.bind (Rl := RT K mg σ) h).imp fun v H1 ⟨t1, env1, F1, S1, U1, sm1, go1, rt1, h1⟩ => ?_⟩
  cases e : mv env1 t1 with
  | none => rw [e] at h1; exact h1.elim
  | some p =>
    obtain ⟨d, env2⟩ := p
    rw [e] at h1
    obtain ⟨F2, S2, s2, g2, r2⟩ := mv_ok sm1 rt1 e
    obtain ⟨s3, r3⟩ := s2.frzT r2
    refine h1 v (frz F2 H1 U1) H1 S2 [] s3 ?_ r3
    rw [List.append_nil]
    exact ((go1.trans (U1 := U1) g2)).frzT fun a ha => s2.nf a (by simp [ha])
end
theorem je_fz {X : Cx} {W : WX} {e : Expr} {m : Ex} (h : JE X W e m) : JE X W e (eFz m) := je_of h fun _ _ _ h => t_Fz h

/-! ### readings -/
section
variable {K : PySem.W.Frag} {mg : Mg} {F F' H H' : Hp} {d : D} {v : V}
theorem Rb.int {i : Int} (h : Rb K mg F H (.int i) v) : v = .int i := by
  obtain ⟨S, h⟩ := h; cases h; rfl
theorem Rb.str {x : Str} (h : Rb K mg F H (.str x) v) : v = .str x := by
  obtain ⟨S, h⟩ := h; cases h; rfl
theorem Rb.non (h : Rb K mg F H .non v) : v = .non := by
  obtain ⟨S, h⟩ := h; cases h; rfl
theorem Rb.ty {n : String} (h : Rb K mg F H (.ty n) v) : v = .ty n := by
  obtain ⟨S, h⟩ := h; cases h; rfl
theorem Rb.lst {m : Bool} {ds : List D} (fz : FzOk F H) (h : Rb K mg F H (.lst m ds) v) : ∃ a vs S, v = .ref a ∧ RdL K H a vs ∧ Rps K mg F (Rt H) ds vs S := by
  obtain ⟨S, h⟩ := h
  cases h with
  | fl h1 h2 => exact ⟨_, _, _, rfl, h1.rd fz, h2⟩
  | ol h1 h2 => exact ⟨_, _, _, rfl, .inl h1, h2⟩
theorem Rb.tup {ds : List D} (fz : FzOk F H) (h : Rb K mg F H (.tup ds) v) : ∃ a vs S, v = .ref a ∧ SqT K H a vs ∧ Rps K mg F (Rt H) ds vs S := by
  obtain ⟨S, h⟩ := h
  cases h with
  | tup h1 h2 => exact ⟨_, _, _, rfl, h1.at fz, h2⟩
theorem Rb.tupF {ds : List D} (fz : FzOk F H) (h : Rb K mg F H (.tup ds) v) : ∃ a vs S, v = .ref a ∧ FzT K F a vs ∧ SqT K H a vs ∧ Rps K mg F (Rt H) ds vs S := by
  obtain ⟨S, h⟩ := h
  cases h with
  | tup h1 h2 => exact ⟨_, _, _, rfl, h1, h1.at fz, h2⟩
theorem Rps.rt0 {ds : List D} {vs : List V} {S : List Addr} (h : Rps K mg F (Rt H) ds vs S) (hc : clL ds = true) {A : Addr → HO → Prop} : Rps K mg F A ds vs [] := by
  rw [h.clean hc] at h
  exact h.any
/-- a new own list of clean items -/
theorem new_lst {ds : List D} {vs : List V} {p : Addr} (h : Rps K mg F (At H) ds vs []) : Rp K mg F (At (upd H p (.lst vs))) (.lst true ds) (.ref p) [p] := .ol (by show upd H p _ p = _; rw [upd_same]) h.any
theorem new_tup {ds : List D} {vs : List V} {p : Addr} (hp : F p = none) (h : Rps K mg F (At H) ds vs []) : Rp K mg (upd F p (.tup vs)) (At (upd H p (.tup vs))) (.tup ds) (.ref p) [] :=
  .tup upd_same (h.mono (Sub.upd hp) fun _ z => absurd z (by simp))
end

/-! ### arithmetic -/
theorem Inv.lstR {X : Cx} {pins : List (Addr × Obj)} {σ : L2.St} {H : Hp} {s : Shared} {l : Addr} {xs : List V} (I : L2.Inv X pins σ H s) (h : RdL X.K H l xs) :
    xs.length ≤ sizeLine ∧ ∃ its n, Vals xs its ∧ xs.length = its.length ∧ Heap.get? s.heap l = some { cls := .type "list", data := .seq (List.toArray its) n } := by
  rcases h with (h | ⟨o, h⟩) | ⟨its, n, e, z, r⟩
  rotate_left 2
  · refine ⟨?_, its.toList, n, r, Vals.length r, I.kIn _ _ e⟩
    rw [Vals.length r, Array.length_toList]
    exact z
  · exact Inv.lstM I h
  · have z := I.hok l _ h
    unfold ObjOk at z
    obtain ⟨_, z⟩ := z
    unfold ObjOk at z
    obtain ⟨z1, its, n, r, e⟩ := z
    exact ⟨z1, its, n, r, Vals.length r, e⟩
def rCatR (K : PySem.W.Frag) : R2 := fun x y H Q => ∃ l b xs zs, x = .ref l ∧ y = .ref b ∧ RdL K H l xs ∧ RdL K H b zs ∧ xs.length + zs.length ≤ 16777216 ∧ ∀ p, H p = none → Q (.ref p) (upd H p (.lst (xs ++ zs)))
theorem op_catR {X : Cx} : OpR X (binaryOp .Add) (rCatR X.K) := by
  rintro pins s σ H x y v u Q I rx ry ⟨l, b, xs, zs, rfl, rfl, hl, hb, hz, q⟩
  cases rx
  cases ry
  obtain ⟨z1, its, n, r, e1, e⟩ := Inv.lstR I hl
  obtain ⟨z2, its2, n2, r2, e2, e'⟩ := Inv.lstR I hb
  refine P.add_list e e' ?_ ?_
  · rw [List.append_toArray]
    refine ⟨V.ref _, upd H _ (.lst (xs ++ zs)), Inv.lnew I (Vals.append r r2) ?_, rfl, q _ (Inv.fresh I)⟩
    rw [List.length_append, sz]
    exact hz
  · rw [List.size_toArray, List.size_toArray, sz]
    omega
def rAdd1 (K : PySem.W.Frag) : R2 := fun x y H Q => rI0 (fun i j => V.int (i + j)) x y H Q ∨ (∃ i j, x = V.str i ∧ y = V.str j ∧ Str.length i + Str.length j ≤ sizeLine ∧ Q (V.str (i ++ j)) H) ∨ rCatR K x y H Q ∨ rCatA K x y H Q
theorem op_add1 {X : Cx} : OpR X (binaryOp .Add) (rAdd1 X.K) := OpR.or op_add (OpR.or op_add_str (OpR.or op_catR op_catA))
def gAdd : D → D → Option D
  | .int i, .int j => some (.int (i + j))
  | .str x, .str y => if x.length + y.length ≤ 16777216 then some (.str (x ++ y)) else none
  | .lst _ a, .lst _ b => if a.length + b.length ≤ 16777216 then (if clL a && clL b then some (.lst true (a ++ b)) else none) else none
  | .tup a, .tup b => if a.length + b.length ≤ 16777216 then (if clL a && clL b then some (.tup (a ++ b)) else none) else none
  | _, _ => none
theorem snd_add {K : PySem.W.Frag} {mg : Mg} : Snd2 K mg (rAdd1 K) gAdd := by
  intro F H d1 d2 v1 v2 d' Q fz r1 r2 e k
  unfold gAdd at e
  split at e
  · cases e
    rw [r1.int, r2.int]
    exact .inl ⟨_, _, rfl, rfl, k _ F H [] (Step.pure fz) (.int _)⟩
  · split at e
    · rename_i hl
      cases e
      rw [r1.str, r2.str]
      exact .inr (.inl ⟨_, _, rfl, rfl, by rw [sz]; exact hl, k _ F H [] (Step.pure fz) (.str _)⟩)
    · cases e
  · split at e
    · rename_i hl
      split at e
      · rename_i hc
        cases e
        rw [Bool.and_eq_true] at hc
        obtain ⟨a, vs, S, rfl, h1, h2⟩ := r1.lst fz
        obtain ⟨b, us, S', rfl, h3, h4⟩ := r2.lst fz
        refine .inr (.inr (.inl ⟨_, _, _, _, rfl, rfl, h1, h3, by rw [← h2.length, ← h4.length]; exact hl, fun p hp => ?_⟩))
        exact k _ F _ [p] (Step.own fz hp) (new_lst (Rps.append (S := []) (T := []) (h2.rt0 hc.1) (h4.rt0 hc.2)))
      · cases e
    · cases e
  · split at e
    · rename_i hl
      split at e
      · rename_i hc
        cases e
        rw [Bool.and_eq_true] at hc
        obtain ⟨a, vs, S, rfl, f1, h1, h2⟩ := r1.tupF fz
        obtain ⟨b, us, S', rfl, f3, h3, h4⟩ := r2.tupF fz
        have c2 := h2.rt0 hc.1 (A := At H)
        have c4 := h4.rt0 hc.2 (A := At H)
        refine .inr (.inr (.inr ⟨_, _, _, _, rfl, rfl, h1, h3, by rw [← h2.length, ← h4.length, sz]; exact hl, fun z => ?_, fun _ z => ?_, fun _ _ p hp => ?_⟩))
        · subst z
          cases c2
          exact k _ F H [] (Step.pure fz) (.tup f3 c4)
        · subst z
          cases c4
          rw [List.append_nil] at *
          exact k _ F H [] (Step.pure fz) (.tup f1 c2)
        · exact k _ _ _ [] (Step.fro fz hp) (new_tup (fz.gone hp) (Rps.append (S := []) (T := []) c2 c4))
      · cases e
    · cases e
  · cases e
/-- an operation of two whole numbers -/
def gI2 (c : Int → Int → Bool) (f : Int → Int → Int) : D → D → Option D
  | .int i, .int j => if c i j then some (.int (f i j)) else none
  | _, _ => none
theorem snd_I2 {K : PySem.W.Frag} {mg : Mg} {C : Int → Int → Prop} {c : Int → Int → Bool} {f : Int → Int → Int} (h : ∀ i j, c i j = true → C i j) : Snd2 K mg (rI C fun i j => .int (f i j)) (gI2 c f) := by
  intro F H d1 d2 v1 v2 d' Q fz r1 r2 e k
  unfold gI2 at e
  split at e
  · split at e
    · rename_i hc
      cases e
      rw [r1.int, r2.int]
      exact ⟨_, _, rfl, rfl, h _ _ hc, k _ F H [] (Step.pure fz) (.int _)⟩
    · cases e
  · cases e
theorem snd_I0 {K : PySem.W.Frag} {mg : Mg} {f : Int → Int → Int} : Snd2 K mg (rI0 fun i j => .int (f i j)) (gI2 (fun _ _ => true) f) := by
  intro F H d1 d2 v1 v2 d' Q fz r1 r2 e k
  unfold gI2 at e
  split at e
  · rw [if_pos rfl] at e
    cases e
    rw [r1.int, r2.int]
    exact ⟨_, _, rfl, rfl, k _ F H [] (Step.pure fz) (.int _)⟩
  · cases e
def gSub := gI2 (fun _ _ => true) (· - ·)
def gBand := gI2 (fun _ _ => true) Builtin.bitAnd
def gBor := gI2 (fun _ _ => true) Builtin.bitOr
def gMulI := gI2 (fun i j => decide (i.natAbs.log2 + j.natAbs.log2 < 1000000)) (· * ·)
def gFdiv := gI2 (fun _ j => decide (0 < j) && decide (j.natAbs.log2 < 9000)) (· / ·)
def gMod := gI2 (fun _ j => decide (0 < j)) (· % ·)
def gPow := gI2 (fun i j => decide (0 ≤ j) && decide (j.natAbs ≤ 1000000) && decide (i.natAbs < 2 ^ 64)) (fun i j => i ^ j.toNat)
def gShl := gI2 (fun i j => decide (0 ≤ j) && decide (j.natAbs ≤ 1000000) && decide (i.natAbs < 2 ^ 64)) (fun i j => i * 2 ^ j.toNat)
def gShr := gI2 (fun _ j => decide (0 ≤ j)) (fun i j => i / 2 ^ j.toNat)
/-- += of whole numbers -/
def gAddI := gI2 (fun _ _ => true) (· + ·)
theorem snd_sub {K : PySem.W.Frag} {mg : Mg} : Snd2 K mg (rI0 fun i j => .int (i - j)) gSub := snd_I0
theorem snd_addI {K : PySem.W.Frag} {mg : Mg} : Snd2 K mg (rI0 fun i j => .int (i + j)) gAddI := snd_I0
theorem snd_and {K : PySem.W.Frag} {mg : Mg} : Snd2 K mg (rI0 fun i j => .int (Builtin.bitAnd i j)) gBand := snd_I0
theorem snd_or {K : PySem.W.Frag} {mg : Mg} : Snd2 K mg (rI0 fun i j => .int (Builtin.bitOr i j)) gBor := snd_I0
theorem snd_mulI {K : PySem.W.Frag} {mg : Mg} : Snd2 K mg (rI CMulW fun i j => .int (i * j)) gMulI := snd_I2 fun i j h => (of_decide_eq_true h : i.natAbs.log2 + j.natAbs.log2 < 1000000)
theorem snd_fdiv {K : PySem.W.Frag} {mg : Mg} : Snd2 K mg (rI CDivW fun i j => .int (i / j)) gFdiv := snd_I2 fun i j h => by
  rw [Bool.and_eq_true] at h
  exact ⟨of_decide_eq_true h.1, of_decide_eq_true h.2⟩
theorem snd_mod {K : PySem.W.Frag} {mg : Mg} : Snd2 K mg (rI (fun _ j => 0 < j) fun i j => .int (i % j)) gMod := snd_I2 fun i j h => of_decide_eq_true h
theorem pow_ok {i j : Int} (h : (decide (0 ≤ j) && decide (j.natAbs ≤ 1000000) && decide (i.natAbs < 2 ^ 64)) = true) : CPow i j := by
  rw [Bool.and_eq_true, Bool.and_eq_true] at h
  have h2 := of_decide_eq_true h.1.2
  exact ⟨of_decide_eq_true h.1.1, by omega, of_decide_eq_true h.2⟩
theorem snd_pow {K : PySem.W.Frag} {mg : Mg} : Snd2 K mg (rI CPow fun i j => .int (i ^ j.toNat)) gPow := snd_I2 fun i j h => pow_ok h
theorem snd_shl {K : PySem.W.Frag} {mg : Mg} : Snd2 K mg (rI CPow fun i j => .int (i * 2 ^ j.toNat)) gShl := snd_I2 fun i j h => pow_ok h
theorem snd_shr {K : PySem.W.Frag} {mg : Mg} : Snd2 K mg (rI (fun _ j => 0 ≤ j) fun i j => .int (i / 2 ^ j.toNat)) gShr := snd_I2 fun i j h => of_decide_eq_true h
def gNeg : D → Option D
  | .int i => some (.int (-i))
  | _ => none
theorem snd_neg {K : PySem.W.Frag} {mg : Mg} : Snd1 K mg (rU fun i => .int (-i)) gNeg := by
  intro F H d v d' Q fz r e k
  unfold gNeg at e
  split at e
  · cases e
    rw [r.int]
    exact ⟨_, rfl, k _ F H [] (Step.pure fz) (.int _)⟩
  · cases e

/-! ### comparisons -/
def gC2 (f : Int → Int → Bool) : D → D → Option D
  | .int i, .int j => some (.bl (f i j))
  | _, _ => none
theorem snd_C2 {K : PySem.W.Frag} {mg : Mg} {f : Int → Int → Bool} : Snd2 K mg (rI0 fun i j => .bl (f i j)) (gC2 f) := by
  intro F H d1 d2 v1 v2 d' Q fz r1 r2 e k
  unfold gC2 at e
  split at e
  · cases e
    rw [r1.int, r2.int]
    exact ⟨_, _, rfl, rfl, k _ F H [] (Step.pure fz) (.bl _)⟩
  · cases e
def gLt := gC2 fun i j => decide (i < j)
def gLe := gC2 fun i j => decide (i ≤ j)
def gGt := gC2 fun i j => decide (j < i)
def gGe := gC2 fun i j => decide (j ≤ i)
theorem snd_lt {K : PySem.W.Frag} {mg : Mg} : Snd2 K mg (rI0 fun i j => .bl (decide (i < j))) gLt := snd_C2
theorem snd_le {K : PySem.W.Frag} {mg : Mg} : Snd2 K mg (rI0 fun i j => .bl (decide (i ≤ j))) gLe := snd_C2
theorem snd_gt {K : PySem.W.Frag} {mg : Mg} : Snd2 K mg (rI0 fun i j => .bl (decide (j < i))) gGt := snd_C2
theorem snd_ge {K : PySem.W.Frag} {mg : Mg} : Snd2 K mg (rI0 fun i j => .bl (decide (j ≤ i))) gGe := snd_C2
mutual
/-- plain data -/
def toPy : D → Option PyData
  | .non => some .none
  | .bl b => some (.bool b)
  | .int i => some (.int i)
  | .str x => some (.str x)
  | .lst _ l => (toPyL l).map .list
  | .tup l => (toPyL l).map .tuple
  | _ => none
def toPyL : List D → Option (List PyData)
  | [] => some []
  | d :: r => (toPy d).bind fun p => (toPyL r).map (p :: ·)
end
mutual
theorem toPy_dp {K : PySem.W.Frag} {mg : Mg} {F H : Hp} (fz : FzOk F H) : ∀ {d : D} {v : V} {S : List Addr} {p : PyData}, Rp K mg F (Rt H) d v S → toPy d = some p → Dp K H v p
  | _, _, _, _, .non, e => by cases e; exact .non
  | _, _, _, _, .bl b, e => by cases e; exact .bl b
  | _, _, _, _, .int i, e => by cases e; exact .int i
  | _, _, _, _, .str x, e => by cases e; exact .str x
  | _, _, _, _, .ty n, e => by cases e
  | _, _, _, _, .gl _, e => by cases e
  | _, _, _, _, .exc _ _, e => by cases e
  | _, _, _, _, .tup (ds := ds) h hs, e => by
    rw [toPy] at e
    cases el : toPyL ds with
    | none => rw [el] at e; cases e
    | some l => rw [el] at e; cases e; exact .tup (h.at fz) (toPy_dpL fz hs el)
  | _, _, _, _, .kt _ _, e => by cases e
  | _, _, _, _, .fl (ds := ds) h hs, e => by
    rw [toPy] at e
    cases el : toPyL ds with
    | none => rw [el] at e; cases e
    | some l => rw [el] at e; cases e; exact .lst (h.at fz) (toPy_dpL fz hs el)
  | _, _, _, _, .ol (ds := ds) h hs, e => by
    rw [toPy] at e
    cases el : toPyL ds with
    | none => rw [el] at e; cases e
    | some l => rw [el] at e; cases e; exact .lst (.inl h) (toPy_dpL fz hs el)
  | _, _, _, _, .fK _ _ _ _, e => by cases e
  | _, _, _, _, .oK _ _ _ _, e => by cases e
  | _, _, _, _, .fT _ _ _ _, e => by cases e
  | _, _, _, _, .oT _ _ _ _, e => by cases e
theorem toPy_dpL {K : PySem.W.Frag} {mg : Mg} {F H : Hp} (fz : FzOk F H) : ∀ {ds : List D} {vs : List V} {S : List Addr} {ps : List PyData}, Rps K mg F (Rt H) ds vs S → toPyL ds = some ps → DpAll K H vs ps
  | _, _, _, _, .nil, e => by cases e; exact .nil
  | _, _, _, _, .cons (d := d) (ds := ds) h hs, e => by
    rw [toPyL] at e
    cases ea : toPy d with
    | none => rw [ea] at e; cases e
    | some p =>
      cases eb : toPyL ds with
      | none => rw [ea, eb] at e; cases e
      | some ps => rw [ea, eb] at e; cases e; exact .cons (toPy_dp fz h ea) (toPy_dpL fz hs eb)
end
/-- equality of data -/
def eqD (d1 d2 : D) : Option Bool := match d1, d2 with
  | .int i, .int j => some (decide (i = j))
  | _, _ => (toPy d1).bind fun p => (toPy d2).bind fun q => if SeqAt.shaped p && SeqAt.shaped q then some (PyData.eqv p q) else none
def gEq (d1 d2 : D) : Option D := (eqD d1 d2).map .bl
def gNe (d1 d2 : D) : Option D := (eqD d1 d2).map fun b => .bl (!b)
def rEq1 (K : PySem.W.Frag) : R2 := fun x y H Q => rEq x y H Q ∨ rEqD K x y H Q
def rNe1 (K : PySem.W.Frag) : R2 := fun x y H Q => rNe x y H Q ∨ rNeD K x y H Q
theorem op_eq1 {X : Cx} (hu : X.A.units + 65 < cLine) : OpR X (compareOp .Eq) (rEq1 X.K) := OpR.or op_eq (op_eqD (by omega))
theorem op_ne1 {X : Cx} (hu : X.A.units + 65 < cLine) : OpR X (compareOp .NotEq) (rNe1 X.K) := OpR.or op_ne (op_neD (by omega))
theorem snd_eq {K : PySem.W.Frag} {mg : Mg} : Snd2 K mg (rEq1 K) gEq := by
  intro F H d1 d2 v1 v2 d' Q fz r1 r2 e k
  unfold gEq eqD at e
  split at e
  · cases e
    rw [r1.int, r2.int]
    refine .inl ⟨rfl, ?_⟩
    have z := fun b => k (.bl b) F H [] (Step.pure fz)
    rename_i i j
    have e : decide (V.int i = V.int j) = decide (i = j) := by
      by_cases h : i = j
      · simp [h]
      · simp [h]
    rw [e]
    exact z _ (.bl _)
  · cases ep : toPy d1 with
    | none => rw [ep] at e; cases e
    | some p =>
      cases eq : toPy d2 with
      | none => rw [ep, eq] at e; cases e
      | some q =>
        rw [ep, eq] at e
        simp only [Option.bind_some] at e
        split at e
        · rename_i hs
          cases e
          rw [Bool.and_eq_true] at hs
          obtain ⟨S1, h1⟩ := r1
          obtain ⟨S2, h2⟩ := r2
          exact .inr ⟨p, q, toPy_dp fz h1 ep, toPy_dp fz h2 eq, hs.1, hs.2, k _ F H [] (Step.pure fz) (.bl _)⟩
        · cases e
theorem snd_ne {K : PySem.W.Frag} {mg : Mg} : Snd2 K mg (rNe1 K) gNe := by
  intro F H d1 d2 v1 v2 d' Q fz r1 r2 e k
  unfold gNe eqD at e
  split at e
  · cases e
    rw [r1.int, r2.int]
    refine .inl ⟨rfl, ?_⟩
    have z := fun b => k (.bl b) F H [] (Step.pure fz)
    rename_i i j
    have e : decide (V.int i = V.int j) = decide (i = j) := by
      by_cases h : i = j
      · simp [h]
      · simp [h]
    rw [e]
    exact z _ (.bl _)
  · cases ep : toPy d1 with
    | none => rw [ep] at e; cases e
    | some p =>
      cases eq : toPy d2 with
      | none => rw [ep, eq] at e; cases e
      | some q =>
        rw [ep, eq] at e
        simp only [Option.bind_some] at e
        split at e
        · rename_i hs
          cases e
          rw [Bool.and_eq_true] at hs
          obtain ⟨S1, h1⟩ := r1
          obtain ⟨S2, h2⟩ := r2
          exact .inr ⟨p, q, toPy_dp fz h1 ep, toPy_dp fz h2 eq, hs.1, hs.2, k _ F H [] (Step.pure fz) (.bl _)⟩
        · cases e
/-- is None, is a truth -/
def isNonD : D → Bool
  | .non => true
  | _ => false
theorem isNonD_v {K : PySem.W.Frag} {mg : Mg} {F H : Hp} {d : D} {v : V} (h : Rb K mg F H d v) : decide (v = .non) = isNonD d := by
  obtain ⟨S, h⟩ := h
  cases h <;> rfl
def gIsN (d1 d2 : D) : Option D := match d2 with
  | .non => some (.bl (isNonD d1))
  | _ => none
def gNotN (d1 d2 : D) : Option D := match d2 with
  | .non => some (.bl (!isNonD d1))
  | _ => none
theorem snd_isN {K : PySem.W.Frag} {mg : Mg} : Snd2 K mg (fun x y H Q => y = .non ∧ Q (.bl (decide (x = .non))) H) gIsN := by
  intro F H d1 d2 v1 v2 d' Q fz r1 r2 e k
  unfold gIsN at e
  split at e
  · cases e
    rw [isNonD_v r1]
    exact ⟨r2.non, k _ F H [] (Step.pure fz) (.bl _)⟩
  · cases e
theorem snd_notN {K : PySem.W.Frag} {mg : Mg} : Snd2 K mg (fun x y H Q => y = .non ∧ Q (.bl (!decide (x = .non))) H) gNotN := by
  intro F H d1 d2 v1 v2 d' Q fz r1 r2 e k
  unfold gNotN at e
  split at e
  · cases e
    rw [isNonD_v r1]
    exact ⟨r2.non, k _ F H [] (Step.pure fz) (.bl _)⟩
  · cases e
/-- in a list -/
def inD (d : D) (ds : List D) : Option Bool := (toPy d).bind fun p => (toPyL ds).bind fun ps => if SeqAt.shaped p && SeqAt.shaped (.list ps) then some (ps.any fun z => PyData.eqv z p) else none
def gIn (d1 d2 : D) : Option D := match d2 with
  | .lst _ ds => (inD d1 ds).map .bl
  | _ => none
def gNotIn (d1 d2 : D) : Option D := match d2 with
  | .lst _ ds => (inD d1 ds).map fun b => .bl (!b)
  | _ => none
theorem inD_ok {K : PySem.W.Frag} {mg : Mg} {F H : Hp} (fz : FzOk F H) {d : D} {m : Bool} {ds : List D} {v w : V} {b : Bool} (r1 : Rb K mg F H d v) (r2 : Rb K mg F H (.lst m ds) w) (e : inD d ds = some b) :
    ∃ p ps, Dp K H v p ∧ Dp K H w (.list ps) ∧ SeqAt.shaped p = true ∧ SeqAt.shaped (.list ps) = true ∧ b = ps.any fun z => PyData.eqv z p := by
  unfold inD at e
  cases ep : toPy d with
  | none => rw [ep] at e; cases e
  | some p =>
    cases eq : toPyL ds with
    | none => rw [ep, eq] at e; cases e
    | some ps =>
      rw [ep, eq] at e
      simp only [Option.bind_some] at e
      split at e
      · rename_i hs
        cases e
        rw [Bool.and_eq_true] at hs
        obtain ⟨S1, h1⟩ := r1
        obtain ⟨S2, h2⟩ := r2
        exact ⟨p, ps, toPy_dp fz h1 ep, toPy_dp fz h2 (by rw [toPy, eq]; rfl), hs.1, hs.2, rfl⟩
      · cases e
theorem snd_in {K : PySem.W.Frag} {mg : Mg} : Snd2 K mg (rInD K) gIn := by
  intro F H d1 d2 v1 v2 d' Q fz r1 r2 e k
  unfold gIn at e
  split at e
  · rename_i m ds
    cases eb : inD d1 ds with
    | none => rw [eb] at e; cases e
    | some b =>
      rw [eb] at e
      cases e
      obtain ⟨p, ps, h1, h2, h3, h4, rfl⟩ := inD_ok fz r1 r2 eb
      exact ⟨p, ps, h1, h2, h3, h4, k _ F H [] (Step.pure fz) (.bl _)⟩
  · cases e
theorem snd_notIn {K : PySem.W.Frag} {mg : Mg} : Snd2 K mg (rNotInD K) gNotIn := by
  intro F H d1 d2 v1 v2 d' Q fz r1 r2 e k
  unfold gNotIn at e
  split at e
  · rename_i m ds
    cases eb : inD d1 ds with
    | none => rw [eb] at e; cases e
    | some b =>
      rw [eb] at e
      cases e
      obtain ⟨p, ps, h1, h2, h3, h4, rfl⟩ := inD_ok fz r1 r2 eb
      exact ⟨p, ps, h1, h2, h3, h4, k _ F H [] (Step.pure fz) (.bl _)⟩
  · cases e
/-- a room's units -/
theorem hu65 {A : Around} {k : Nat} (hr : Room k A) : A.units + 65 < cLine := by
  have := hr.un
  omega
end DL
/-! DLl: subscripts, slices, chains of comparisons, built-ins. -/
namespace DL
open PySem PySem.Spec PyProof.Rows L2

section
variable {K : PySem.W.Frag} {mg : Mg} {W : WX} {F F' F1 F2 H H' H1 H2 : Hp} {env env' env1 : Env} {σ σ' : L2.St} {S S' S1 T U U1 L : List Addr} {R : Lk} {A : Addr → HO → Prop}
theorem Rps.get0 {ds : List D} {vs : List V} {S : List Addr} {i : Nat} {d : D} (h : Rps K mg F A ds vs S) (e : ds[i]? = some d) (hc : d.cl = true) {A' : Addr → HO → Prop} : ∃ v, vs[i]? = some v ∧ Rp K mg F A' d v [] := by
  obtain ⟨v, S', e1, r, _⟩ := h.get e
  rw [r.clean hc] at r
  exact ⟨v, e1, r.any⟩
theorem Rps.take0 : ∀ {ds : List D} {vs : List V} (n : Nat), Rps K mg F A ds vs [] → Rps K mg F A (ds.take n) (vs.take n) []
  | _, _, 0, _ => by rw [List.take_zero, List.take_zero]; exact .nil
  | [], _, n + 1, h => by cases h; exact .nil
  | d :: ds, vs, n + 1, h => by
    obtain ⟨v, vs', rfl⟩ : ∃ v vs', vs = v :: vs' := by
      cases vs with
      | nil => have := h.length; simp at this
      | cons v vs => exact ⟨v, vs, rfl⟩
    have a : Rp K mg F A d v [] := h.at0 (i := 0) rfl rfl
    have b : Rps K mg F A ds vs' [] := Rps.nil_of (fun i v' d' e1 e2 => h.at0 (i := i + 1) (by simpa using e1) (by simpa using e2)) (by have := h.length; simpa using this)
    rw [List.take_succ_cons, List.take_succ_cons]
    exact .cons (S := []) (T := []) a (b.take0 n)
theorem Rps.drop0 {ds : List D} {vs : List V} (n : Nat) (h : Rps K mg F A ds vs []) : Rps K mg F A (ds.drop n) (vs.drop n) [] :=
  Rps.nil_of (fun i v d e1 e2 => h.at0 (i := n + i) (by rw [List.getElem?_drop] at e1; exact e1) (by rw [List.getElem?_drop] at e2; exact e2)) (by rw [List.length_drop, List.length_drop, h.length])
theorem Rps.rev0 {ds : List D} {vs : List V} (h : Rps K mg F A ds vs []) : Rps K mg F A ds.reverse vs.reverse [] := by
  induction ds generalizing vs with
  | nil => cases h; exact .nil
  | cons d ds ih =>
    obtain ⟨v, vs', rfl⟩ : ∃ v vs', vs = v :: vs' := by
      cases vs with
      | nil => have := h.length; simp at this
      | cons v vs => exact ⟨v, vs, rfl⟩
    have a : Rp K mg F A d v [] := h.at0 (i := 0) rfl rfl
    have b : Rps K mg F A ds vs' [] := Rps.nil_of (fun i v' d' e1 e2 => h.at0 (i := i + 1) (by simpa using e1) (by simpa using e2)) (by have := h.length; simpa using this)
    rw [List.reverse_cons, List.reverse_cons]
    exact Rps.append (S := []) (T := []) (ih b) (.cons (S := []) (T := []) a .nil)
end

/-! ### subscripts -/
def clO : D → Option D
  | d => if d.cl then some d else none
def gIx : D → D → Option D
  | .lst _ ds, .int i => (atI ds i).bind clO
  | .tup ds, .int i => (atI ds i).bind clO
  | .str z, .int i => if z.length ≤ 16777216 then (atI z.cps.toList i).map fun c => .str ⟨#[c]⟩ else none
  | _, _ => none
theorem atI_get {α : Type} {xs : List α} {i : Int} {a : α} (e : atI xs i = some a) : ∃ j, ixN xs.length i = some j ∧ xs[j]? = some a := by
  unfold atI at e
  cases q : ixN xs.length i with
  | none => rw [q] at e; cases e
  | some j => rw [q] at e; exact ⟨j, rfl, e⟩
theorem atI_rel {K : PySem.W.Frag} {mg : Mg} {F : Hp} {A A' : Addr → HO → Prop} {ds : List D} {vs : List V} {S : List Addr} {i : Int} {d : D} (h : Rps K mg F A ds vs S) (e : (atI ds i).bind clO = some d) : ∃ v, atI vs i = some v ∧ Rp K mg F A' d v [] := by
  cases q : atI ds i with
  | none => rw [q] at e; cases e
  | some d0 =>
    rw [q] at e
    have e' : (if d0.cl then some d0 else none) = some d := e
    split at e'
    · rename_i hc
      cases e'
      obtain ⟨j, e1, e2⟩ := atI_get q
      obtain ⟨v, e3, r⟩ := h.get0 (A' := A') e2 hc
      refine ⟨v, ?_, r⟩
      unfold atI
      rw [← h.length, e1]
      exact e3
    · cases e'
theorem snd_ix {K : PySem.W.Frag} {mg : Mg} : Snd2 K mg (rIx K) gIx := by
  intro F H d1 d2 v1 v2 d' Q fz r1 r2 e k
  unfold gIx at e
  split at e
  · obtain ⟨a, vs, S, rfl, h1, h2⟩ := r1.lst fz
    obtain ⟨v, e1, r⟩ := atI_rel (A' := At H) h2 e
    rw [r2.int]
    exact .inl ⟨a, vs, _, v, rfl, rfl, h1.sq, e1, k _ F H [] (Step.pure fz) r⟩
  · obtain ⟨a, vs, S, rfl, h1, h2⟩ := r1.tup fz
    obtain ⟨v, e1, r⟩ := atI_rel (A' := At H) h2 e
    rw [r2.int]
    exact .inr (.inl ⟨a, vs, _, v, rfl, rfl, h1, e1, k _ F H [] (Step.pure fz) r⟩)
  · split at e
    · rename_i z i hz
      cases q : atI z.cps.toList i with
      | none => rw [q] at e; cases e
      | some c =>
        rw [q] at e
        cases e
        rw [r1.str, r2.int]
        exact .inr (.inr ⟨z, i, c, rfl, rfl, by rw [sz]; exact hz, q, k _ F H [] (Step.pure fz) (.str _)⟩)
    · cases e
  · cases e
theorem je_ix {X : Cx} {W : WX} {a b : Expr} {pos : Pos} {ma mb : Ex} (ha : JE X W a ma) (hb : JE X W b mb) (hp : PlainIx b := by exact fun _ _ => rfl) : JE X W (.Subscript a b pos) (e2 gIx ma mb) :=
  je_of (pe_ix ix_seq ha hb hp) fun _ _ _ h => t_e2 snd_ix h

/-! ### slices -/
def evO : Option Ex → Env → Res (Option Int)
  | none, env => .ok none env
  | some m, env => (m env).bind fun t en => match rd en t with
    | some (.int i) => .ok (some i) en
    | _ => .no
def ROI : Hp → Hp → Option Int → Option Int → List Addr → Prop := fun _ _ a b U => a = b ∧ U = []
def tOO (K : PySem.W.Frag) (mg : Mg) (W : WX) (m : Option Ex) : TO := fun σ H Q => ∃ env F S R T, Sm K mg F H env σ S R T ∧ Cont ROI K mg W σ F H S R T (evO m env) Q
abbrev JO (X : Cx) (W : WX) (e : Option Expr) (m : Option Ex) : Prop := PO X e (tOO X.K X.mg W m)
theorem jo_none {X : Cx} {W : WX} : JO X W none none := ⟨fun pins s σ H Q I h => by
  obtain ⟨env, F, S, R, T, sm, h⟩ := h
  exact po_none.run pins s σ H Q I (h none F H S [] sm Go.refl' ⟨rfl, rfl⟩)⟩
theorem jo_some {X : Cx} {W : WX} {e : Expr} {m : Ex} (he : JE X W e m) : JO X W (some e) (some m) := ⟨fun pins s σ H Q I h => by
  obtain ⟨env, F, S, R, T, sm, h⟩ := h
  refine (po_some he).run pins s σ H Q I ⟨env, F, S, R, T, sm, (Cont.bind (Rl := RT X.K X.mg σ) h).imp fun v H1 ⟨t1, env1, F1, S1, U1, sm1, go1, rt1, h1⟩ => ?_⟩
  cases e : rd env1 t1 with
  | none => rw [e] at h1; exact h1.elim
  | some d =>
    rw [e] at h1
    cases d with
    | int i =>
      have q := (rt1.rb sm1 e).int
      exact ⟨i, q, h1 (some i) F1 H1 S1 [] sm1.drop (by rw [List.append_nil]; exact go1.weak fun a ha => List.mem_append_left _ ha) ⟨rfl, rfl⟩⟩
    | _ => exact h1.elim⟩
def cutL {α : Type} (xs : List α) (lo hi : Option Int) : List α := (xs.drop (HT.sIx xs.length 0 lo)).take (HT.sIx xs.length xs.length hi - HT.sIx xs.length 0 lo)
def gSl : D → Option Int → Option Int → Option D
  | .lst _ ds, lo, hi => if clL ds then some (.lst true (cutL ds lo hi)) else none
  | .tup ds, lo, hi => if clL ds then some (.tup (cutL ds lo hi)) else none
  | _, _, _ => none
def eSl (m : Ex) (ml mh : Option Ex) : Ex := fun env => (m env).bind fun t en => (evO ml en).bind fun lo en1 => (evO mh en1).bind fun hi en2 => opt en2 ((rd en2 t).bind fun d => gSl d lo hi)
def rSl1 (K : PySem.W.Frag) : V → Option Int → Option Int → Hp → VK → Prop := fun x lo hi H Q => rSlL K x lo hi H Q ∨ rSlA K x lo hi H Q
section
variable {K : PySem.W.Frag} {mg : Mg} {W : WX} {F F' F1 F2 H H' H1 H2 : Hp} {env env' env1 : Env} {σ σ' : L2.St} {S S' S1 T U U1 L : List Addr} {R : Lk} {A : Addr → HO → Prop}
theorem Rps.cut0 {ds : List D} {vs : List V} (h : Rps K mg F A ds vs []) (lo hi : Option Int) : Rps K mg F A (cutL ds lo hi) (cutV vs lo hi) [] := by
  unfold cutL cutV
  rw [h.length]
  exact (h.drop0 _).take0 _
theorem cut_whole {α : Type} {xs : List α} {lo hi : Option Int} (h : HT.sIx xs.length 0 lo = 0 ∧ HT.sIx xs.length xs.length hi = xs.length) : cutL xs lo hi = xs := by
  unfold cutL
  rw [h.1, h.2, Nat.sub_zero, List.drop_zero, List.take_length]
theorem snd_sl {d : D} {v : V} {lo hi : Option Int} {d' : D} {Q : VK} (fz : FzOk F H) (r : Rb K mg F H d v) (e : gSl d lo hi = some d') (k : ∀ v' F' H' U, Step F H F' H' U → Rp K mg F' (At H') d' v' U → Q v' H') : rSl1 K v lo hi H Q := by
  unfold gSl at e
  split at e
  · split at e
    · rename_i hc
      cases e
      obtain ⟨a, vs, S, rfl, h1, h2⟩ := r.lst fz
      exact .inl ⟨a, vs, rfl, h1.sq, fun p hp => k _ F _ [p] (Step.own fz hp) (new_lst ((h2.rt0 hc).cut0 _ _))⟩
    · cases e
  · split at e
    · rename_i hc
      cases e
      obtain ⟨a, vs, S, rfl, f1, h1, h2⟩ := r.tupF fz
      have c2 := h2.rt0 hc (A := At H)
      refine .inr ⟨a, vs, rfl, h1, fun z => ?_, fun z p hp => ?_⟩
      · rw [← c2.length] at z
        rw [cut_whole z] at k
        exact k _ F H [] (Step.pure fz) (.tup f1 c2)
      · exact k _ _ _ [] (Step.fro fz hp) (new_tup (fz.gone hp) (c2.cut0 _ _))
    · cases e
  · cases e
theorem t_Sl {m : Ex} {ml mh : Option Ex} {Q : VK} (h : tE K mg W (eSl m ml mh) σ H Q) : tSl (rSl1 K) (tE K mg W m) (tOO K mg W ml) (tOO K mg W mh) σ H Q := by
  obtain ⟨env, F, S, R, T, sm, h⟩ := h
  refine ⟨env, F, S, R, T, sm, (Cont.bind h).imp fun v1 H1 ⟨t1, env1, F1, S1, U1, sm1, go1, rt1, h1⟩ => ?_⟩
  refine ⟨env1, F1, S1, R, U1 ++ T, sm1, (h1.then (Rl := ROI) go1).imp fun lo H2 ⟨t2, env2, F2, S2, U2, sm2, go2, go12, rt2, h2⟩ => ?_⟩
  obtain ⟨rfl, rfl⟩ := rt2
  rw [List.nil_append] at sm2 go2
  refine ⟨env2, F2, S2, R, U1 ++ T, sm2, (h2.then (Rl := ROI) go2).imp fun hi H3 ⟨t3, env3, F3, S3, U3, sm3, go3, go23, rt3, h3⟩ => ?_⟩
  obtain ⟨rfl, rfl⟩ := rt3
  rw [List.nil_append] at sm3 go3
  have rt1' := (rt1.later sm1 go12).later sm2 go23
  cases e : rd env3 t1 with
  | none => rw [e] at h3; exact h3.elim
  | some d =>
    rw [e, Option.bind_some] at h3
    cases eg : gSl d t2 t3 with
    | none => rw [eg] at h3; exact h3.elim
    | some d' =>
      rw [eg] at h3
      exact snd_sl sm3.fz (rt1'.rb sm3 e) eg fun v' F' H' U st rp => h3.done0 sm3 go3 st rp
end
theorem je_sl {X : Cx} {W : WX} {e : Expr} {lo hi : Option Expr} {pos p2 : Pos} {m : Ex} {ml mh : Option Ex} (he : JE X W e m) (hl : JO X W lo ml) (hh : JO X W hi mh) : JE X W (.Subscript e (.Slice lo hi none p2) pos) (eSl m ml mh) :=
  je_of (pe_slice (r := rSl1 X.K) (SlR.or sl_list sl_tupA) he hl hh) fun _ _ _ h => t_Sl h

/-! ### a < b < c -/
def eChain (g g' : D → D → Option D) (ma mb mc : Ex) : Ex := fun env => (ma env).bind fun t1 en1 => (mb en1).bind fun t2 en2 => match (rd en2 t1).bind fun d1 => (rd en2 t2).bind fun d2 => g d1 d2 with
  | some (.bl true) => (mc en2).bind fun t3 en3 => opt en3 ((rd en3 t2).bind fun d2 => (rd en3 t3).bind fun d3 => g' d2 d3)
  | some (.bl false) => .ok (.vl (.bl false)) en2
  | _ => .no
/-- a comparison that makes nothing -/
def SndB (K : PySem.W.Frag) (mg : Mg) (r : R2) (g : D → D → Option D) : Prop :=
  ∀ (F H : Hp) (d1 d2 : D) (v1 v2 : V) (b : Bool) (Q : VK), FzOk F H → Rb K mg F H d1 v1 → Rb K mg F H d2 v2 → g d1 d2 = some (.bl b) → Q (.bl b) H → r v1 v2 H Q
theorem sb_C2 {K : PySem.W.Frag} {mg : Mg} {f : Int → Int → Bool} : SndB K mg (rI0 fun i j => .bl (f i j)) (gC2 f) := by
  intro F H d1 d2 v1 v2 b Q fz r1 r2 e k
  unfold gC2 at e
  split at e
  · cases e
    rw [r1.int, r2.int]
    exact ⟨_, _, rfl, rfl, k⟩
  · cases e
section
variable {K : PySem.W.Frag} {mg : Mg} {W : WX} {m ma mb mc : Ex} {σ : L2.St} {H : Hp} {Q : VK}
theorem t_Chain {r r' : R2} {g g' : D → D → Option D} (sb : SndB K mg r g) (snd : Snd2 K mg r' g') (h : tE K mg W (eChain g g' ma mb mc) σ H Q) : tChain r r' (tE K mg W ma) (tE K mg W mb) (tE K mg W mc) σ H Q := by
  obtain ⟨env, F, S, R, T, sm, h⟩ := h
  refine ⟨env, F, S, R, T, sm, (Cont.bind h).imp fun v1 H1 ⟨t1, env1, F1, S1, U1, sm1, go1, rt1, h1⟩ => ?_⟩
  refine ⟨env1, F1, S1, R, U1 ++ T, sm1, (h1.then go1).imp fun v2 H2 ⟨t2, env2, F2, S2, U2, sm2, go2, go12, rt2, h2⟩ => ?_⟩
  have rt1' := rt1.later sm1 go12
  cases ea : rd env2 t1 with
  | none => rw [ea] at h2; exact h2.elim
  | some d1 =>
    cases eb : rd env2 t2 with
    | none => rw [ea, eb] at h2; exact h2.elim
    | some d2 =>
      rw [ea, eb, Option.bind_some, Option.bind_some] at h2
      by_cases hb : ∃ b, g d1 d2 = some (.bl b)
      · obtain ⟨b, eg⟩ := hb
        refine sb F2 H2 d1 d2 v1 v2 b _ sm2.fz (rt1'.rb sm2 ea) (rt2.rb sm2 eb) eg ⟨b, rfl, ?_⟩
        rw [eg] at h2
        cases b with
        | false =>
          rw [if_neg Bool.false_ne_true]
          exact h2 (.bl false) F2 H2 S2 [] (sm2.temps (by simpa using List.sublist_append_right _ _)) (by rw [List.append_nil]; exact go2.weak fun a ha => List.mem_append_left _ ha) (.bl false)
        | true =>
          rw [if_pos rfl]
          refine ⟨env2, F2, S2, R, (U2 ++ U1) ++ T, sm2, (h2.then go2).imp fun v3 H3 ⟨t3, env3, F3, S3, U3, sm3, go3, go23, rt3, h3⟩ => ?_⟩
          have rt2' := RT.later (T := U1 ++ T) rt2 (by rw [← List.append_assoc]; exact sm2) go23
          cases ec : rd env3 t2 with
          | none => rw [ec] at h3; exact h3.elim
          | some d2' =>
            cases ed : rd env3 t3 with
            | none => rw [ec, ed] at h3; exact h3.elim
            | some d3 =>
              rw [ec, ed, Option.bind_some, Option.bind_some] at h3
              cases eg' : g' d2' d3 with
              | none => rw [eg'] at h3; exact h3.elim
              | some d' =>
                rw [eg'] at h3
                exact snd F3 H3 d2' d3 v2 v3 d' Q sm3.fz (rt2'.rb sm3 ec) (rt3.rb sm3 ed) eg' fun v' F' H' U st rp => h3.done0 sm3 go3 st rp
      · split at h2
        · rename_i e; exact absurd ⟨_, e⟩ hb
        · rename_i e; exact absurd ⟨_, e⟩ hb
        · exact h2.elim
end
theorem je_chain {X : Cx} {W : WX} {a b c : Expr} {pos : Pos} {op op' : CmpOp} {r r' : R2} {g g' : D → D → Option D} {ma mb mc : Ex} (ho : OpR X (compareOp op) r) (ho' : OpR X (compareOp op') r') (sb : SndB X.K X.mg r g) (snd : Snd2 X.K X.mg r' g') (ha : JE X W a ma) (hb : JE X W b mb) (hc : JE X W c mc)
    (hm : lastMarks [op, op'] [b, c] = false := by rfl) : JE X W (.Compare a [op, op'] [b, c] pos) (eChain g g' ma mb mc) := je_of (pe_chain ho ho' ha hb hc hm) fun _ _ _ h => t_Chain sb snd h
theorem jt_chain {X : Cx} {W : WX} {a b c : Expr} {pos : Pos} {op op' : CmpOp} {r r' : R2} {g g' : D → D → Option D} {ma mb mc : Ex} (ho : OpR X (compareOp op) r) (ho' : OpR X (compareOp op') r') (sb : SndB X.K X.mg r g) (snd : Snd2 X.K X.mg r' g') (ha : JE X W a ma) (hb : JE X W b mb) (hc : JE X W c mc)
    (hm : lastMarks [op, op'] [b, c] = false := by rfl) : JT X W (.Compare a [op, op'] [b, c] pos) (eChain g g' ma mb mc) := PT.imp (pt_chain ho ho' ha hb hc hm) fun _ _ _ h => t_Chain sb snd h
end DL
/-! DLm: built-ins. -/
namespace DL
open PySem PySem.Spec PyProof.Rows L2

theorem Rbs.one {K : PySem.W.Frag} {mg : Mg} {F H : Hp} {d : D} {vs : List V} (h : Rbs K mg F H [d] vs) : ∃ v, vs = [v] ∧ Rb K mg F H d v := by
  obtain ⟨v, vr, rfl, r, h2⟩ := h
  have e : vr = [] := h2
  subst e
  exact ⟨v, rfl, r⟩
theorem Rbs.two {K : PySem.W.Frag} {mg : Mg} {F H : Hp} {d d2 : D} {vs : List V} (h : Rbs K mg F H [d, d2] vs) : ∃ v v2, vs = [v, v2] ∧ Rb K mg F H d v ∧ Rb K mg F H d2 v2 := by
  obtain ⟨v, vr, rfl, r, h2⟩ := h
  obtain ⟨v2, rfl, r2⟩ := Rbs.one h2
  exact ⟨v, v2, rfl, r, r2⟩
def gLen : List D → Option D
  | [.lst _ ds] => some (.int ds.length)
  | [.tup ds] => some (.int ds.length)
  | [.str x] => if x.length ≤ 16777216 then some (.int x.length) else none
  | _ => none
abbrev rLen1 (K : PySem.W.Frag) : List V → Hp → VK → Prop := fun xs H Q => ∃ x n, xs = [x] ∧ LenV K x H n ∧ Q (.int (n : Int)) H
theorem snd_len {K : PySem.W.Frag} {mg : Mg} : SndN K mg (rLen1 K) gLen := by
  intro F H ds vs d' Q fz rs e k
  unfold gLen at e
  split at e
  · cases e
    obtain ⟨v, rfl, r⟩ := rs.one
    obtain ⟨a, vs, S, rfl, h1, h2⟩ := r.lst fz
    exact ⟨_, vs.length, rfl, .inl ⟨vs, h1.sq, rfl⟩, by rw [← h2.length]; exact k _ F H [] (Step.pure fz) (.int _)⟩
  · cases e
    obtain ⟨v, rfl, r⟩ := rs.one
    obtain ⟨a, vs, S, rfl, h1, h2⟩ := r.tup fz
    exact ⟨_, vs.length, rfl, .inr ⟨vs, h1, rfl⟩, by rw [← h2.length]; exact k _ F H [] (Step.pure fz) (.int _)⟩
  · split at e
    · rename_i hl
      cases e
      obtain ⟨v, rfl, r⟩ := rs.one
      rw [r.str]
      exact ⟨_, _, rfl, ⟨by rw [sz]; exact hl, rfl⟩, k _ F H [] (Step.pure fz) (.int _)⟩
    · cases e
  · cases e
def gInt : List D → Option D
  | [.int i] => some (.int i)
  | [.bl k] => some (.int (if k then 1 else 0))
  | _ => none
theorem snd_int {K : PySem.W.Frag} {mg : Mg} : SndN K mg (fun xs H Q => (∃ i, xs = [V.int i] ∧ Q (.int i) H) ∨ ∃ k, xs = [V.bl k] ∧ Q (.int (if k = true then 1 else 0)) H) gInt := by
  intro F H ds vs d' Q fz rs e k
  unfold gInt at e
  split at e
  · cases e
    obtain ⟨v, rfl, r⟩ := rs.one
    rw [r.int]
    exact .inl ⟨_, rfl, k _ F H [] (Step.pure fz) (.int _)⟩
  · cases e
    obtain ⟨v, rfl, r⟩ := rs.one
    rw [r.bl]
    exact .inr ⟨_, rfl, k _ F H [] (Step.pure fz) (.int _)⟩
  · cases e
def gAbs : List D → Option D
  | [.int i] => some (.int (if i < 0 then -i else i))
  | _ => none
theorem snd_abs {K : PySem.W.Frag} {mg : Mg} : SndN K mg (fun xs H Q => ∃ i, xs = [V.int i] ∧ Q (.int (if i < 0 then -i else i)) H) gAbs := by
  intro F H ds vs d' Q fz rs e k
  unfold gAbs at e
  split at e
  · cases e
    obtain ⟨v, rfl, r⟩ := rs.one
    rw [r.int]
    exact ⟨_, rfl, k _ F H [] (Step.pure fz) (.int _)⟩
  · cases e
def gMax2 : List D → Option D
  | [.int i, .int j] => some (.int (if j > i then j else i))
  | _ => none
def gMin2 : List D → Option D
  | [.int i, .int j] => some (.int (if j < i then j else i))
  | _ => none
theorem snd_max2 {K : PySem.W.Frag} {mg : Mg} : SndN K mg (fun xs H Q => ∃ i j, xs = [V.int i, V.int j] ∧ Q (.int (if j > i then j else i)) H) gMax2 := by
  intro F H ds vs d' Q fz rs e k
  unfold gMax2 at e
  split at e
  · cases e
    obtain ⟨v, v2, rfl, r, r2⟩ := rs.two
    rw [r.int, r2.int]
    exact ⟨_, _, rfl, k _ F H [] (Step.pure fz) (.int _)⟩
  · cases e
theorem snd_min2 {K : PySem.W.Frag} {mg : Mg} : SndN K mg (fun xs H Q => ∃ i j, xs = [V.int i, V.int j] ∧ Q (.int (if j < i then j else i)) H) gMin2 := by
  intro F H ds vs d' Q fz rs e k
  unfold gMin2 at e
  split at e
  · cases e
    obtain ⟨v, v2, rfl, r, r2⟩ := rs.two
    rw [r.int, r2.int]
    exact ⟨_, _, rfl, k _ F H [] (Step.pure fz) (.int _)⟩
  · cases e
/-- the whole numbers of a list -/
def intsD : List D → Option (List Int)
  | [] => some []
  | .int i :: r => (intsD r).map (i :: ·)
  | _ :: _ => none
theorem ints_vs {K : PySem.W.Frag} {mg : Mg} {F : Hp} {A : Addr → HO → Prop} : ∀ {ds : List D} {vs : List V} {S : List Addr} {ns : List Int}, Rps K mg F A ds vs S → intsD ds = some ns → vs = ns.map V.int
  | _, _, _, ns, .nil, e => by cases e; rfl
  | _, _, _, ns, .cons (d := d) (ds := ds) h hs, e => by
    cases d with
    | int i =>
      rw [intsD] at e
      cases q : intsD ds with
      | none => rw [q] at e; cases e
      | some ms =>
        rw [q] at e
        cases e
        cases h
        rw [ints_vs hs q]
        rfl
    | _ => cases e
theorem ints_rps {K : PySem.W.Frag} {mg : Mg} {F : Hp} {A : Addr → HO → Prop} : ∀ (ns : List Int), Rps K mg F A (ns.map D.int) (ns.map V.int) []
  | [] => .nil
  | n :: ns => .cons (S := []) (T := []) (.int n) (ints_rps ns)
def gSum : List D → Option D
  | [.lst _ ds] => (intsD ds).map fun ns => .int ns.sum
  | _ => none
theorem snd_sum {K : PySem.W.Frag} {mg : Mg} : SndN K mg (rSum K) gSum := by
  intro F H ds vs d' Q fz rs e k
  unfold gSum at e
  split at e
  · rename_i m ds
    cases q : intsD ds with
    | none => rw [q] at e; cases e
    | some ns =>
      rw [q] at e
      cases e
      obtain ⟨v, rfl, r⟩ := rs.one
      obtain ⟨a, vs, S, rfl, h1, h2⟩ := r.lst fz
      exact ⟨a, ns, rfl, (by rw [← ints_vs h2 q]; exact h1.sq), k _ F H [] (Step.pure fz) (.int _)⟩
  · cases e
def maxI : List Int → Int
  | [] => 0
  | [x] => x
  | x :: r => max x (maxI r)
def minI : List Int → Int
  | [] => 0
  | [x] => x
  | x :: r => min x (minI r)
theorem maxI_ge : ∀ (l : List Int) (y : Int), y ∈ l → y ≤ maxI l
  | [], _, h => absurd h (by simp)
  | [x], y, h => by simp at h; subst h; exact Int.le_refl _
  | x :: z :: r, y, h => by
    have e : maxI (x :: z :: r) = max x (maxI (z :: r)) := rfl
    rw [e]
    rcases List.mem_cons.mp h with h | h
    · subst h; exact Int.le_max_left _ _
    · exact Int.le_trans (maxI_ge (z :: r) y h) (Int.le_max_right _ _)
theorem maxI_mem : ∀ (l : List Int), l ≠ [] → maxI l ∈ l
  | [], h => absurd rfl h
  | [x], _ => by simp [maxI]
  | x :: z :: r, _ => by
    have e : maxI (x :: z :: r) = max x (maxI (z :: r)) := rfl
    have ih := maxI_mem (z :: r) (by simp)
    rw [e]
    rcases Int.le_total x (maxI (z :: r)) with h | h
    · rw [Int.max_eq_right h]; exact List.mem_cons_of_mem _ ih
    · rw [Int.max_eq_left h]; exact List.mem_cons_self
theorem minI_le : ∀ (l : List Int) (y : Int), y ∈ l → minI l ≤ y
  | [], _, h => absurd h (by simp)
  | [x], y, h => by simp at h; subst h; exact Int.le_refl _
  | x :: z :: r, y, h => by
    have e : minI (x :: z :: r) = min x (minI (z :: r)) := rfl
    rw [e]
    rcases List.mem_cons.mp h with h | h
    · subst h; exact Int.min_le_left _ _
    · exact Int.le_trans (Int.min_le_right _ _) (minI_le (z :: r) y h)
theorem minI_mem : ∀ (l : List Int), l ≠ [] → minI l ∈ l
  | [], h => absurd rfl h
  | [x], _ => by simp [minI]
  | x :: z :: r, _ => by
    have e : minI (x :: z :: r) = min x (minI (z :: r)) := rfl
    have ih := minI_mem (z :: r) (by simp)
    rw [e]
    rcases Int.le_total x (minI (z :: r)) with h | h
    · rw [Int.min_eq_left h]; exact List.mem_cons_self
    · rw [Int.min_eq_right h]; exact List.mem_cons_of_mem _ ih
def gMaxL : List D → Option D
  | [.lst _ ds] => (intsD ds).bind fun ns => if ns.isEmpty then none else some (.int (maxI ns))
  | _ => none
def gMinL : List D → Option D
  | [.lst _ ds] => (intsD ds).bind fun ns => if ns.isEmpty then none else some (.int (minI ns))
  | _ => none
theorem snd_maxL {K : PySem.W.Frag} {mg : Mg} : SndN K mg (rMax K) gMaxL := by
  intro F H ds vs d' Q fz rs e k
  unfold gMaxL at e
  split at e
  · rename_i m ds
    cases q : intsD ds with
    | none => rw [q] at e; cases e
    | some ns =>
      rw [q, Option.bind_some] at e
      split at e
      · cases e
      · rename_i hn
        cases e
        obtain ⟨v, rfl, r⟩ := rs.one
        obtain ⟨a, vs, S, rfl, h1, h2⟩ := r.lst fz
        have hne : ns ≠ [] := fun z => hn (by rw [z]; rfl)
        refine ⟨a, ns, rfl, (by rw [← ints_vs h2 q]; exact h1.sq), List.length_pos_iff.mpr hne, fun m hm hx => ?_⟩
        have e : m = maxI ns := Int.le_antisymm (maxI_ge ns m hm) (hx _ (maxI_mem ns hne))
        rw [e]
        exact k _ F H [] (Step.pure fz) (.int _)
  · cases e
theorem snd_minL {K : PySem.W.Frag} {mg : Mg} : SndN K mg (rMin K) gMinL := by
  intro F H ds vs d' Q fz rs e k
  unfold gMinL at e
  split at e
  · rename_i m ds
    cases q : intsD ds with
    | none => rw [q] at e; cases e
    | some ns =>
      rw [q, Option.bind_some] at e
      split at e
      · cases e
      · rename_i hn
        cases e
        obtain ⟨v, rfl, r⟩ := rs.one
        obtain ⟨a, vs, S, rfl, h1, h2⟩ := r.lst fz
        have hne : ns ≠ [] := fun z => hn (by rw [z]; rfl)
        refine ⟨a, ns, rfl, (by rw [← ints_vs h2 q]; exact h1.sq), List.length_pos_iff.mpr hne, fun m hm hx => ?_⟩
        have e : m = minI ns := Int.le_antisymm (hx _ (minI_mem ns hne)) (minI_le ns m hm)
        rw [e]
        exact k _ F H [] (Step.pure fz) (.int _)
  · cases e
/-- rising -/
def insI (x : Int) : List Int → List Int
  | [] => [x]
  | y :: r => if x ≤ y then x :: y :: r else y :: insI x r
def srtI : List Int → List Int
  | [] => []
  | x :: r => insI x (srtI r)
theorem insI_perm (x : Int) : ∀ l : List Int, (insI x l).Perm (x :: l)
  | [] => List.Perm.refl _
  | y :: r => by
    unfold insI
    split
    · exact List.Perm.refl _
    · exact ((insI_perm x r).cons y).trans (List.Perm.swap x y r)
theorem srtI_perm : ∀ l : List Int, (srtI l).Perm l
  | [] => List.Perm.refl _
  | x :: r => (insI_perm x (srtI r)).trans ((srtI_perm r).cons x)
theorem insI_sorted (x : Int) : ∀ l : List Int, l.Pairwise (· ≤ ·) → (insI x l).Pairwise (· ≤ ·)
  | [], _ => by simp [insI]
  | y :: r, h => by
    have h' := List.pairwise_cons.mp h
    unfold insI
    split
    · rename_i hx
      refine List.pairwise_cons.mpr ⟨fun z hz => ?_, h⟩
      rcases List.mem_cons.mp hz with hz | hz
      · subst hz; exact hx
      · exact Int.le_trans hx (h'.1 z hz)
    · rename_i hx
      refine List.pairwise_cons.mpr ⟨fun z hz => ?_, insI_sorted x r h'.2⟩
      rcases List.mem_cons.mp ((insI_perm x r).mem_iff.mp hz) with hz | hz
      · subst hz; omega
      · exact h'.1 z hz
theorem srtI_sorted : ∀ l : List Int, (srtI l).Pairwise (· ≤ ·)
  | [] => List.Pairwise.nil
  | x :: r => insI_sorted x _ (srtI_sorted r)
theorem sorted_unique : ∀ (l m : List Int), l.Perm m → l.Pairwise (· ≤ ·) → m.Pairwise (· ≤ ·) → l = m
  | [], m, p, _, _ => p.symm.eq_nil.symm
  | x :: l, m, p, h1, h2 => by
    cases m with
    | nil => exact absurd p.eq_nil (by simp)
    | cons y m =>
      have h1' := List.pairwise_cons.mp h1
      have h2' := List.pairwise_cons.mp h2
      have e : x = y := by
        have a : x ∈ y :: m := p.mem_iff.mp List.mem_cons_self
        have b : y ∈ x :: l := p.mem_iff.mpr List.mem_cons_self
        rcases List.mem_cons.mp a with a | a
        · exact a
        · rcases List.mem_cons.mp b with b | b
          · exact b.symm
          · exact Int.le_antisymm (h1'.1 y b) (h2'.1 x a)
      subst e
      rw [sorted_unique l m ((List.perm_cons x).mp p) h1'.2 h2'.2]
def gSortI : List D → Option D
  | [.lst _ ds] => (intsD ds).map fun ns => .lst true ((srtI ns).map D.int)
  | _ => none
theorem snd_sortI {K : PySem.W.Frag} {mg : Mg} : SndN K mg (rSortedI K) gSortI := by
  intro F H ds vs d' Q fz rs e k
  unfold gSortI at e
  split at e
  · rename_i m ds
    cases q : intsD ds with
    | none => rw [q] at e; cases e
    | some ns =>
      rw [q] at e
      cases e
      obtain ⟨v, rfl, r⟩ := rs.one
      obtain ⟨a, vs, S, rfl, h1, h2⟩ := r.lst fz
      refine ⟨a, ns, rfl, (by rw [← ints_vs h2 q]; exact h1.sq), fun ns' p hp hs hn => ?_⟩
      have e : ns' = srtI ns := sorted_unique _ _ (hp.trans (srtI_perm ns).symm) hs (srtI_sorted ns)
      rw [e]
      exact k _ F _ [p] (Step.own fz hn) (new_lst (ints_rps _))
  · cases e
def gList : List D → Option D
  | [.lst _ ds] => if clL ds then some (.lst true ds) else none
  | [.tup ds] => if clL ds then some (.lst true ds) else none
  | _ => none
theorem snd_list {K : PySem.W.Frag} {mg : Mg} : SndN K mg (fun xs H Q => ∃ p ys, xs = [V.ref p] ∧ (SqL K H p ys ∨ SqT K H p ys) ∧ ∀ l, H l = none → Q (.ref l) (upd H l (.lst ys))) gList := by
  intro F H ds vs d' Q fz rs e k
  unfold gList at e
  split at e
  · split at e
    · rename_i hc
      cases e
      obtain ⟨v, rfl, r⟩ := rs.one
      obtain ⟨a, vs, S, rfl, h1, h2⟩ := r.lst fz
      exact ⟨a, vs, rfl, .inl h1.sq, fun p hp => k _ F _ [p] (Step.own fz hp) (new_lst (h2.rt0 hc))⟩
    · cases e
  · split at e
    · rename_i hc
      cases e
      obtain ⟨v, rfl, r⟩ := rs.one
      obtain ⟨a, vs, S, rfl, h1, h2⟩ := r.tup fz
      exact ⟨a, vs, rfl, .inr h1, fun p hp => k _ F _ [p] (Step.own fz hp) (new_lst (h2.rt0 hc))⟩
    · cases e
  · cases e
def gTuple : List D → Option D
  | [.lst _ ds] => if clL ds then some (.tup ds) else none
  | [.tup ds] => if clL ds then some (.tup ds) else none
  | _ => none
theorem snd_tuple {K : PySem.W.Frag} {mg : Mg} : SndN K mg (fun xs H Q => ∃ p ys, xs = [V.ref p] ∧ ((SqL K H p ys ∧ ∀ l, H l = none → Q (.ref l) (upd H l (.tup ys))) ∨ (SqT K H p ys ∧ Q (.ref p) H))) gTuple := by
  intro F H ds vs d' Q fz rs e k
  unfold gTuple at e
  split at e
  · split at e
    · rename_i hc
      cases e
      obtain ⟨v, rfl, r⟩ := rs.one
      obtain ⟨a, vs, S, rfl, h1, h2⟩ := r.lst fz
      exact ⟨a, vs, rfl, .inl ⟨h1.sq, fun p hp => k _ _ _ [] (Step.fro fz hp) (new_tup (fz.gone hp) (h2.rt0 hc))⟩⟩
    · cases e
  · split at e
    · rename_i hc
      cases e
      obtain ⟨v, rfl, r⟩ := rs.one
      obtain ⟨a, vs, S, rfl, f1, h1, h2⟩ := r.tupF fz
      exact ⟨a, vs, rfl, .inr ⟨h1, k _ F H [] (Step.pure fz) (.tup f1 (h2.rt0 hc))⟩⟩
    · cases e
  · cases e
/-- a datum's type -/
def tyN : D → Option String
  | .non => some "NoneType"
  | .bl _ => some "bool"
  | .int _ => some "int"
  | .str _ => some "str"
  | .lst _ _ => some "list"
  | .tup _ => some "tuple"
  | .kt _ => some "tuple"
  | .dct _ .k _ => some "dict"
  | _ => none
theorem tyN_ok {K : PySem.W.Frag} {mg : Mg} {F H : Hp} {d : D} {v : V} {t : String} (fz : FzOk F H) (h : Rb K mg F H d v) (e : tyN d = some t) : TyX K H v (.type t) := by
  obtain ⟨S, h⟩ := h
  have rd : ∀ {a : Addr} {o : HO}, Rd H a o → H a = some o ∨ ∃ ob, H a = some (.frz ob o) := fun h => h
  cases h with
  | non => cases e; exact .base .non
  | bl b => cases e; exact .base (.bl b)
  | int i => cases e; exact .base (.int i)
  | str x => cases e; exact .base (.str x)
  | tup h1 h2 =>
    cases e
    exact .base (.tup (h1.ex fz))
  | kt h1 h2 =>
    cases e
    rcases h1 with h1 | ⟨o, its, n, q⟩
    · rcases h1 with h | ⟨o, h⟩ <;> cases h
    · exact .kTuple q.1 q.2.1
  | fl h1 h2 =>
    cases e
    rcases h1.rd fz with (q | ⟨ob, q⟩) | ⟨its, n, q, _⟩
    rotate_left 2
    · exact .kList q rfl
    · exact .base (.lst q)
    · exact .base (.frz q)
  | ol h1 h2 =>
    cases e
    rcases rd h1 with q | ⟨ob, q⟩
    · exact .base (.lst q)
    · exact .base (.frz q)
  | fK h1 h2 h3 h4 =>
    cases e
    rcases (fz.ok _ _ h1).rd with q | ⟨ob, q⟩
    · exact .base (.dK q)
    · exact .fDict q
  | oK h1 h2 h3 h4 =>
    cases e
    rcases rd h1 with q | ⟨ob, q⟩
    · exact .base (.dK q)
    · exact .fDict q
  | _ => cases e
def gIsi : List D → Option D
  | [d, .ty n] => (tyN d).bind fun t => (kitB t n).map .bl
  | _ => none
theorem snd_isi {K : PySem.W.Frag} {mg : Mg} : SndN K mg (rIsi K) gIsi := by
  intro F H ds vs d' Q fz rs e k
  unfold gIsi at e
  split at e
  · rename_i d n
    cases et : tyN d with
    | none => rw [et] at e; cases e
    | some t =>
      rw [et, Option.bind_some] at e
      cases ek : kitB t n with
      | none => rw [ek] at e; cases e
      | some b =>
        rw [ek] at e
        cases e
        obtain ⟨v, v2, rfl, r, r2⟩ := rs.two
        rw [r2.ty]
        exact ⟨_, _, _, _, b, rfl, .ty n, tyN_ok fz r et, kit_ty ek, k _ F H [] (Step.pure fz) (.bl b)⟩
  · cases e
def gStr : List D → Option D
  | [.int i] => if i.natAbs.log2 < 1920 then some (.str (Str.ofString (toString i))) else none
  | _ => none
theorem snd_str {K : PySem.W.Frag} {mg : Mg} : SndN K mg (fun xs H Q => ∃ i, xs = [V.int i] ∧ Nat.log2 (Int.natAbs i) < 1920 ∧ Q (.str (Str.ofString (toString i))) H) gStr := by
  intro F H ds vs d' Q fz rs e k
  unfold gStr at e
  split at e
  · split at e
    · rename_i hc
      cases e
      obtain ⟨v, rfl, r⟩ := rs.one
      rw [r.int]
      exact ⟨_, rfl, hc, k _ F H [] (Step.pure fz) (.str _)⟩
    · cases e
  · cases e
end DL
/-! DLn: what a loop goes over; ranges. -/
namespace DL
open PySem PySem.Spec PyProof.Rows L2

def lstOf : D → Option (List D)
  | .lst _ ds => some ds
  | _ => none
def tupOf : D → Option (List D)
  | .tup ds => some ds
  | .kt ds => some ds
  | _ => none
def strOf : D → Option (List D)
  | .str x => some (x.cps.toList.map fun c => .str ⟨#[c]⟩)
  | _ => none
/-- what a datum's walk yields -/
def itemsOf : D → Option (List D)
  | .lst _ ds => some ds
  | .tup ds => some ds
  | .kt ds => some ds
  | .str x => some (x.cps.toList.map fun c => .str ⟨#[c]⟩)
  | _ => none
/-- the datum of a term, walked: a temporary is frozen, a name's own list is locked -/
def srcV (it : D → Option (List D)) (en : Env) (d : D) : Res Src := match it d with
  | some ds => .ok (.vals ds) en
  | none => .no
def srcO (it : D → Option (List D)) (en : Env) (i : Nat) (k : Kd) : D → Res Src
  | .lst true l => if clL l then (match it (.lst true l) with
    | some ds => if k = Kd.R then .ok (.vals ds) en else .ok (.lock i ds) en
    | none => .no) else .no
  | _ => .no
def srcS (it : D → Option (List D)) (en : Env) (i : Nat) : Option Sl → Res Src
  | some (.sl k d) => if d.cl then srcV it en d else srcO it en i k d
  | _ => .no
def srcAt (it : D → Option (List D)) (en : Env) : Tm → Res Src
  | .vl d => srcV it en d.fz
  | .loc i => srcS it en i en[i]?
def sOf (it : D → Option (List D)) (m : Ex) : Env → Res Src := fun env => (m env).bind fun t en => srcAt it en t
section
variable {K : PySem.W.Frag} {mg : Mg} {W : WX} {F F' F1 F2 H H' H1 H2 : Hp} {env env' env1 : Env} {σ σ' : L2.St} {S S' S1 T U U1 L : List Addr} {R : Lk} {A : Addr → HO → Prop}
theorem Walk.wide {Rl Rm : List Addr} {J : It} {ds : List D} (w : Walk K mg F H Rl J ds) (h : ∀ a ∈ Rl, a ∈ Rm) : Walk K mg F H Rm J ds := fun j Fj Hj s fz c => w j Fj Hj s fz fun a ha => c a (h a ha)
/-- a datum with its own cells S is walked by J -/
def Wk (K : PySem.W.Frag) (mg : Mg) (it : D → Option (List D)) (G : V → Hp → (It → Hp → Prop) → Prop) : Prop :=
  ∀ (F H : Hp) (d : D) (v : V) (S : List Addr) (ds : List D), FzOk F H → Rp K mg F (Rt H) d v S → (d.cl = true ∨ ∃ l, d = .lst true l ∧ clL l = true) → it d = some ds → ∃ J, (∀ R : It → Hp → Prop, R J H → G v H R) ∧ Walk K mg F H S J ds
theorem t_Of {it : D → Option (List D)} {G : V → Hp → (It → Hp → Prop) → Prop} {m : Ex} {Rr : It → Hp → Prop} (wk : Wk K mg it G) (h : tI K mg W (sOf it m) σ H Rr) : tE K mg W m σ H fun v H1 => G v H1 Rr := by
  obtain ⟨env, F, S, R, T, sm, h⟩ := h
  refine ⟨env, F, S, R, T, sm, ?_⟩
  unfold sOf at h
  cases e : m env with
  | no => rw [e] at h; exact h.elim
  | ex c en => rw [e] at h; exact fun cv F' H' S' a b ec => h cv F' H' S' a b ec
  | ok t en =>
    rw [e] at h
    intro v F1 H1 S1 U1 sm1 go1 rt1
    have go0 : Go F H S F1 H1 S1 := go1.weak fun a ha => List.mem_append_left _ ha
    cases t with
    | vl d =>
      change match srcV it en d.fz with
        | .ok s en => ∀ J F' H' S', Sm K mg F' H' en σ S' R T → Go F H S F' H' S' → WalkS K mg F' H' en σ R J s → Rr J H'
        | .ex c en => ∀ cv F' H' S', Sm K mg F' H' en σ S' R T → Go F H S F' H' S' → mg c = some cv → W cv none σ H'
        | .no => False at h
      unfold srcV at h
      cases ei : it d.fz with
      | none => rw [ei] at h; exact h.elim
      | some ds =>
        rw [ei] at h
        obtain ⟨s2, r2⟩ := sm1.frzT rt1
        have go2 := go1.frzT fun a ha => sm1.nf a (by simp [ha])
        obtain ⟨J, g, w⟩ := wk _ _ d.fz v [] ds s2.fz r2.any (.inl d.cl_fz) ei
        exact g _ (h J _ H1 S1 s2 go2 (w.wide fun a ha => absurd ha (by simp)))
    | loc i =>
      change match srcS it en i en[i]? with
        | .ok s en => ∀ J F' H' S', Sm K mg F' H' en σ S' R T → Go F H S F' H' S' → WalkS K mg F' H' en σ R J s → Rr J H'
        | .ex c en => ∀ cv F' H' S', Sm K mg F' H' en σ S' R T → Go F H S F' H' S' → mg c = some cv → W cv none σ H'
        | .no => False at h
      have sm2 : Sm K mg F1 H1 en σ S1 R T := sm1.drop
      obtain ⟨ru, ev⟩ := rt1
      cases q : en[i]? with
      | none => rw [q] at h; exact h.elim
      | some s0 =>
        cases s0 with
        | un => rw [q] at h; exact h.elim
        | sl k d =>
          rw [q] at h
          unfold srcS at h
          dsimp only at h
          by_cases hc : d.cl = true
          · rw [if_pos hc] at h
            unfold srcV at h
            cases ei : it d with
            | none => rw [ei] at h; exact h.elim
            | some ds =>
              rw [ei] at h
              obtain ⟨S2, r2⟩ := RT.rb (t := .loc i) (U := []) ⟨rfl, ev⟩ sm2 (rd_env q)
              rw [r2.clean hc] at r2
              obtain ⟨J, g, w⟩ := wk _ _ d v [] ds sm2.fz r2 (.inl hc) ei
              exact g _ (h J _ H1 S1 sm2 go0 (w.wide fun a ha => absurd ha (by simp)))
          · rw [if_neg hc] at h
            by_cases hd : ∃ l, d = .lst true l
            rotate_left
            · have e0 : srcO it en i k d = .no := by
                unfold srcO
                split
                · exact absurd ⟨_, rfl⟩ hd
                · rfl
              rw [e0] at h
              exact h.elim
            · obtain ⟨l, rfl⟩ := hd
              unfold srcO at h
              dsimp only at h
              by_cases hl : clL l = true
              · rw [if_pos hl] at h
                cases ei : it (.lst true l) with
                | none => rw [ei] at h; exact h.elim
                | some ds =>
                  rw [ei] at h
                  dsimp only at h
                  by_cases hk : k = Kd.R
                  · rw [if_pos hk] at h
                    subst hk
                    obtain ⟨v', Ri, q1, q2, q3, q4⟩ := sm2.lk.rq i _ q
                    have e4 := sm2.lk.bd i v' q2
                    rw [ev] at e4
                    cases e4
                    obtain ⟨J, g, w⟩ := wk _ _ _ v Ri ds sm2.fz q3 (.inr ⟨l, rfl, hl⟩) ei
                    exact g _ (h J _ H1 S1 sm2 go0 (w.wide q4))
                  · rw [if_neg hk] at h
                    obtain ⟨v', Sa, Sb, ev', rp, p, _⟩ := sm2.re.take q hk
                    rw [ev] at ev'
                    cases ev'
                    obtain ⟨J, g, w⟩ := wk _ _ _ v Sa ds sm2.fz (rp.mono (Sub.refl _) fun _ _ _ z => .inl z) (.inr ⟨l, rfl, hl⟩) ei
                    refine g _ (h J _ H1 S1 sm2 go0 ?_)
                    intro k' d' v' S2 q' hk' ev2 rp'
                    rw [q] at q'
                    cases q'
                    rw [ev] at ev2
                    cases ev2
                    intro j Fj Hj sub fz cells
                    refine w j Fj Hj sub fz fun a ha o eo => ?_
                    refine cells a ?_ o eo
                    have r1 : a ∈ Sa := ha
                    cases rp with
                    | ol x1 x2 =>
                      cases rp' with
                      | ol y1 y2 =>
                        rw [x2.clean hl, List.mem_singleton] at r1
                        subst r1
                        exact List.mem_cons_self
              · rw [if_neg hl] at h
                exact h.elim
theorem walk_itl {a : Addr} {vs : List V} {ds : List D} {Rl : List Addr} (hq : ∀ Fj Hj, Sub F Fj → FzOk Fj Hj → (∀ b ∈ Rl, ∀ o, H b = some o → Hj b = some o) → SqL K Hj a vs) (hr : Rps K mg F A ds vs []) : Walk K mg F H Rl (Itl K a) ds := fun j Fj Hj sub fz cells => by
  have q := hq Fj Hj sub fz cells
  refine ⟨fun d ed => ?_, fun hl => ⟨vs, q, by rw [← hr.length]; exact hl⟩⟩
  obtain ⟨v, S', e1, _⟩ := hr.get ed
  refine ⟨⟨vs, v, q, e1⟩, fun x H'' ⟨eh, hx⟩ => ?_⟩
  subst eh
  have e2 := hx vs q
  rw [e1] at e2
  cases e2
  exact ⟨Fj, Step.pure fz, (hr.at0 e1 ed).mono sub fun _ z => absurd z (by simp)⟩
theorem walk_itt {a : Addr} {vs : List V} {ds : List D} {Rl : List Addr} (hq : ∀ Fj Hj, Sub F Fj → FzOk Fj Hj → SqT K Hj a vs) (hr : Rps K mg F A ds vs []) : Walk K mg F H Rl (Itt K a) ds := fun j Fj Hj sub fz cells => by
  have q := hq Fj Hj sub fz
  refine ⟨fun d ed => ?_, fun hl => ⟨vs, q, by rw [← hr.length]; exact hl⟩⟩
  obtain ⟨v, S', e1, _⟩ := hr.get ed
  refine ⟨⟨vs, v, q, e1⟩, fun x H'' ⟨eh, hx⟩ => ?_⟩
  subst eh
  have e2 := hx vs q
  rw [e1] at e2
  cases e2
  exact ⟨Fj, Step.pure fz, (hr.at0 e1 ed).mono sub fun _ z => absurd z (by simp)⟩
/-- a list's cells, as walked -/
theorem lst_cells {m : Bool} {l : List D} {v : V} (fz : FzOk F H) (r : Rp K mg F (Rt H) (.lst m l) v S) (hc : (D.lst m l).cl = true ∨ ∃ l', D.lst m l = .lst true l' ∧ clL l' = true) :
    ∃ a vs, v = .ref a ∧ SqL K H a vs ∧ Rps K mg F (Rt H) l vs [] ∧ ∀ Fj Hj, Sub F Fj → FzOk Fj Hj → (∀ b ∈ S, ∀ o, H b = some o → Hj b = some o) → SqL K Hj a vs := by
  have hl : clL l = true := by
    rcases hc with h | ⟨l', e, h⟩
    · rw [D.cl, Bool.and_eq_true] at h; exact h.2
    · cases e; exact h
  cases r with
  | @fl a vs _ h1 h2 => exact ⟨a, vs, rfl, h1.at fz, h2, fun Fj Hj sub fz' _ => (h1.mono sub).at fz'⟩
  | @ol a vs _ S0 h1 h2 =>
    refine ⟨a, vs, rfl, .inl h1, h2.rt0 hl, fun Fj Hj sub fz' cells => .inl ?_⟩
    rcases h1 with q | ⟨ob, q⟩
    · exact .inl (cells a List.mem_cons_self _ q)
    · exact .inr ⟨ob, cells a List.mem_cons_self _ q⟩
theorem sqT_k {a : Addr} {vs : List V} (h : SqT K (fun _ => none) a vs) : SqT K H a vs := by
  rcases h with h | h
  · rcases h with h | ⟨o, h⟩ <;> cases h
  · exact .inr h
abbrev GL (K : PySem.W.Frag) : V → Hp → (It → Hp → Prop) → Prop := fun x H1 R => ∃ a, x = .ref a ∧ (∃ xs, SqL K H1 a xs) ∧ R (Itl K a) H1
abbrev GT (K : PySem.W.Frag) : V → Hp → (It → Hp → Prop) → Prop := fun x H1 R => ∃ a, x = .ref a ∧ (∃ xs, SqT K H1 a xs) ∧ R (Itt K a) H1
abbrev GS : V → Hp → (It → Hp → Prop) → Prop := fun v H1 R => ∃ x, v = .str x ∧ R (Its x) H1
theorem wk_lst : Wk K mg lstOf (GL K) := by
  intro F H d v S ds fz r hc e
  cases d with
  | lst m l =>
    cases e
    obtain ⟨a, vs, rfl, q, hr, hq⟩ := lst_cells fz r hc
    exact ⟨Itl K a, fun R hR => ⟨a, rfl, ⟨vs, q⟩, hR⟩, walk_itl hq hr⟩
  | _ => cases e
theorem wk_tup : Wk K mg tupOf (GT K) := by
  intro F H d v S ds fz r hc e
  cases d with
  | tup l =>
    cases e
    have hl : clL ds = true := by
      rcases hc with h | ⟨l', e, h⟩
      · rw [D.cl] at h; exact h
      · cases e
    cases r with
    | tup h1 h2 => exact ⟨Itt K _, fun R hR => ⟨_, rfl, ⟨_, h1.at fz⟩, hR⟩, walk_itt (fun Fj Hj sub fz' => (h1.mono sub).at fz') (h2.rt0 hl (A := Rt H))⟩
  | kt l =>
    cases e
    cases r with
    | kt h1 h2 => exact ⟨Itt K _, fun R hR => ⟨_, rfl, ⟨_, sqT_k h1⟩, hR⟩, walk_itt (fun Fj Hj sub fz' => sqT_k h1) h2⟩
  | _ => cases e
theorem wk_str : Wk K mg strOf GS := by
  intro F H d v S ds fz r hc e
  cases d with
  | str x =>
    cases e
    cases r
    refine ⟨Its x, fun R hR => ⟨x, rfl, hR⟩, fun j Fj Hj sub fz cells => ⟨fun d ed => ?_, fun hl => ?_⟩⟩
    · rw [List.getElem?_map] at ed
      cases q : x.cps.toList[j]? with
      | none => rw [q] at ed; cases ed
      | some c =>
        rw [q] at ed
        cases ed
        have q' : x.cps[j]? = some c := by rw [← Array.getElem?_toList]; exact q
        refine ⟨(Array.getElem?_eq_some_iff.mp q').1, fun y H'' ⟨eh, c', ec, ey⟩ => ?_⟩
        subst eh ey
        rw [q'] at ec
        cases ec
        exact ⟨Fj, Step.pure fz, .str _⟩
    · rw [List.length_map, Array.length_toList] at hl
      exact hl
  | _ => cases e
abbrev iSeq (K : PySem.W.Frag) (te : TE) : TI := fun σ H R => iList K te σ H R ∨ iTup K te σ H R ∨ iStr te σ H R
theorem t_SeqI {m : Ex} {Rr : It → Hp → Prop} (h : tI K mg W (sOf itemsOf m) σ H Rr) : iSeq K (tE K mg W m) σ H Rr := by
  obtain ⟨env, F, S, R, T, sm, h⟩ := h
  have key : sOf itemsOf m env = sOf lstOf m env ∨ sOf itemsOf m env = sOf tupOf m env ∨ sOf itemsOf m env = sOf strOf m env := by
    unfold sOf
    cases m env with
    | no => exact .inl rfl
    | ex c en => exact .inl rfl
    | ok t en =>
      have kd : ∀ d : D, srcV itemsOf en d = srcV lstOf en d ∨ srcV itemsOf en d = srcV tupOf en d ∨ srcV itemsOf en d = srcV strOf en d := fun d => by
        cases d <;> first | exact .inl rfl | exact .inr (.inl rfl) | exact .inr (.inr rfl)
      cases t with
      | vl d => exact kd d.fz
      | loc i =>
        show srcS itemsOf en i en[i]? = srcS lstOf en i en[i]? ∨ srcS itemsOf en i en[i]? = srcS tupOf en i en[i]? ∨ srcS itemsOf en i en[i]? = srcS strOf en i en[i]?
        cases en[i]? with
        | none => exact .inl rfl
        | some s0 =>
          cases s0 with
          | un => exact .inl rfl
          | sl k d =>
            unfold srcS
            dsimp only
            by_cases hc : d.cl = true
            · rw [if_pos hc, if_pos hc, if_pos hc, if_pos hc]; exact kd d
            · rw [if_neg hc, if_neg hc]
              left
              unfold srcO
              split
              · rfl
              · rfl
  rcases key with e | e | e
  · exact .inl (t_Of wk_lst ⟨env, F, S, R, T, sm, by rw [← e]; exact h⟩)
  · exact .inr (.inl (t_Of wk_tup ⟨env, F, S, R, T, sm, by rw [← e]; exact h⟩))
  · exact .inr (.inr (t_Of wk_str ⟨env, F, S, R, T, sm, by rw [← e]; exact h⟩))
end
theorem pi_or {X : Cx} {tg e : Expr} {w w' : TI} (h : PI X tg e w) (h' : PI X tg e w') : PI X tg e fun σ H R => w σ H R ∨ w' σ H R := ⟨fun pins s σ H R I q => q.elim (h.run pins s σ H R I) (h'.run pins s σ H R I)⟩
theorem pi_seq {X : Cx} {tg e : Expr} {te : TE} (he : PE X e te) : PI X tg e (iSeq X.K te) := pi_or (pi_list he) (pi_or (pi_tup he) (pi_str he))
end DL
/-! DLo: ranges, enumerate, reversed. -/
namespace DL
open PySem PySem.Spec PyProof.Rows L2

def rngD (a : Int) (n : Nat) : List D := (List.range n).map fun i => .int (a + (i : Nat))
def rngC (a c : Int) (n : Nat) : List D := (List.range n).map fun i => .int (a + (i : Nat) * c)
def okB (a : Int) : Bool := decide (a.natAbs < 2 ^ 62)
theorem okB_of {a : Int} (h : okB a = true) : -(2 ^ 62) ≤ a ∧ a < 2 ^ 62 := by
  have h := of_decide_eq_true h
  omega
def rgItems : List D → Option (List D)
  | [.int j] => if okB j then some (rngD 0 j.toNat) else none
  | [.int i, .int j] => if okB i && okB j then some (rngD i (j - i).toNat) else none
  | [.int i, .int j, .int c] => if decide (c ≠ 0) && decide (c.natAbs < 1073741824) && Builtin.Range.small i j c && decide (0 ≤ Builtin.Range.rangeSize i j c) then some (rngC i c (Builtin.Range.rangeSize i j c).toNat) else none
  | _ => none
/-- for .. in range(..) -/
def sRg (ms : List Ex) : Env → Res Src := fun env => (evA ms env).bind fun ts en => match (rds en ts).bind rgItems with
  | some ds => .ok (.vals ds) en
  | none => .no
section
variable {K : PySem.W.Frag} {mg : Mg} {W : WX} {F F' F1 F2 H H' H1 H2 : Hp} {env env' env1 : Env} {σ σ' : L2.St} {S S' S1 T U U1 L : List Addr} {R : Lk} {A : Addr → HO → Prop}
theorem walk_itc {a c : Int} {n : Nat} {Rl : List Addr} : Walk K mg F H Rl (Itc a c n) (rngC a c n) := fun j Fj Hj sub fz cells => by
  refine ⟨fun d ed => ?_, fun hl => ?_⟩
  · unfold rngC at ed
    rw [List.getElem?_map] at ed
    cases q : (List.range n)[j]? with
    | none => rw [q] at ed; cases ed
    | some i =>
      rw [q] at ed
      cases ed
      obtain ⟨hj, e⟩ := List.getElem?_eq_some_iff.mp q
      rw [List.getElem_range] at e
      subst e
      rw [List.length_range] at hj
      refine ⟨hj, fun x H'' ⟨eh, ex⟩ => ?_⟩
      subst eh ex
      exact ⟨Fj, Step.pure fz, .int _⟩
  · unfold rngC at hl
    rw [List.length_map, List.length_range] at hl
    exact hl
theorem walk_itr {a : Int} {n : Nat} {Rl : List Addr} : Walk K mg F H Rl (Itr a n) (rngD a n) := fun j Fj Hj sub fz cells => by
  refine ⟨fun d ed => ?_, fun hl => ?_⟩
  · unfold rngD at ed
    rw [List.getElem?_map] at ed
    cases q : (List.range n)[j]? with
    | none => rw [q] at ed; cases ed
    | some i =>
      rw [q] at ed
      cases ed
      obtain ⟨hj, e⟩ := List.getElem?_eq_some_iff.mp q
      rw [List.getElem_range] at e
      subst e
      rw [List.length_range] at hj
      refine ⟨hj, fun x H'' ⟨eh, ex⟩ => ?_⟩
      subst eh ex
      exact ⟨Fj, Step.pure fz, .int _⟩
  · unfold rngD at hl
    rw [List.length_map, List.length_range] at hl
    exact hl
/-- the arguments of a walk are read -/
theorem t_SrcN {ms : List Ex} {f : List D → Option (List D)} {G : List V → Hp → (It → Hp → Prop) → Prop} {Rr : It → Hp → Prop}
    (hG : ∀ (F H : Hp) (ds : List D) (vs : List V) (xs : List D) (R : It → Hp → Prop), FzOk F H → Rbs K mg F H ds vs → f ds = some xs → (∀ J, (∀ Rl, Walk K mg F H Rl J xs) → R J H) → G vs H R)
    (h : tI K mg W (fun env => (evA ms env).bind fun ts en => match (rds en ts).bind f with
      | some ds => .ok (.vals ds) en
      | none => .no) σ H Rr) : tA K mg W ms σ H fun vs H1 => G vs H1 Rr := by
  obtain ⟨env, F, S, R, T, sm, h⟩ := h
  refine ⟨env, F, S, R, T, sm, ?_⟩
  simp only [] at h
  cases e : evA ms env with
  | no => rw [e] at h; exact h.elim
  | ex c en => rw [e] at h; exact fun cv F' H' S' a b ec => h cv F' H' S' a b ec
  | ok ts en =>
    rw [e] at h
    intro vs F1 H1 S1 U1 sm1 go1 rt1
    have h' : (match (match (rds en ts).bind f with
      | some ds => Res.ok (Src.vals ds) en
      | none => Res.no) with
      | .ok s en => ∀ J F' H' S', Sm K mg F' H' en σ S' R T → Go F H S F' H' S' → WalkS K mg F' H' en σ R J s → Rr J H'
      | .ex c en => ∀ cv F' H' S', Sm K mg F' H' en σ S' R T → Go F H S F' H' S' → mg c = some cv → W cv none σ H'
      | .no => False) := h
    cases er : rds en ts with
    | none => rw [er] at h'; exact h'.elim
    | some ds =>
      rw [er, Option.bind_some] at h'
      cases ef : f ds with
      | none => rw [ef] at h'; exact h'.elim
      | some xs =>
        rw [ef] at h'
        exact hG F1 H1 ds vs xs Rr sm1.fz (rt1.rbs sm1 er) ef fun J w => h' J F1 H1 S1 sm1.drop (go1.weak fun a ha => List.mem_append_left _ ha) (w R.R)
theorem Rbs.three {d d2 d3 : D} {vs : List V} (h : Rbs K mg F H [d, d2, d3] vs) : ∃ v v2 v3, vs = [v, v2, v3] ∧ Rb K mg F H d v ∧ Rb K mg F H d2 v2 ∧ Rb K mg F H d3 v3 := by
  obtain ⟨v, vr, rfl, r, h2⟩ := h
  obtain ⟨v2, v3, rfl, r2, r3⟩ := Rbs.two h2
  exact ⟨v, v2, v3, rfl, r, r2, r3⟩
def rg1 : List D → Option (List D)
  | [.int j] => if okB j then some (rngD 0 j.toNat) else none
  | _ => none
def rg2 : List D → Option (List D)
  | [.int i, .int j] => if okB i && okB j then some (rngD i (j - i).toNat) else none
  | _ => none
def rg3 : List D → Option (List D)
  | [.int i, .int j, .int c] => if decide (c ≠ 0) && decide (c.natAbs < 1073741824) && Builtin.Range.small i j c && decide (0 ≤ Builtin.Range.rangeSize i j c) then some (rngC i c (Builtin.Range.rangeSize i j c).toNat) else none
  | _ => none
def sRgF (f : List D → Option (List D)) (ms : List Ex) : Env → Res Src := fun env => (evA ms env).bind fun ts en => match (rds en ts).bind f with
  | some ds => .ok (.vals ds) en
  | none => .no
theorem t_Rg1 {ms : List Ex} {Rr : It → Hp → Prop} (h : tI K mg W (sRgF rg1 ms) σ H Rr) : iRng1 (tA K mg W ms) σ H Rr := by
  refine t_SrcN (G := fun vs H1 R => ∃ j : Int, vs = [.int j] ∧ -(2 ^ 62) ≤ j ∧ j < 2 ^ 62 ∧ R (Itr 0 j.toNat) H1) (fun F H ds vs xs R fz rs e k => ?_) h
  unfold rg1 at e
  split at e
  · split at e
    · rename_i j hj
      cases e
      obtain ⟨v, rfl, r⟩ := rs.one
      rw [r.int]
      exact ⟨j, rfl, (okB_of hj).1, (okB_of hj).2, k _ fun Rl => walk_itr⟩
    · cases e
  · cases e
theorem t_Rg2 {ms : List Ex} {Rr : It → Hp → Prop} (h : tI K mg W (sRgF rg2 ms) σ H Rr) : iRng2 (tA K mg W ms) σ H Rr := by
  refine t_SrcN (G := fun vs H1 R => ∃ i j : Int, vs = [.int i, .int j] ∧ (-(2 ^ 62) ≤ i ∧ i < 2 ^ 62 ∧ -(2 ^ 62) ≤ j ∧ j < 2 ^ 62) ∧ R (Itr i (j - i).toNat) H1) (fun F H ds vs xs R fz rs e k => ?_) h
  unfold rg2 at e
  split at e
  · split at e
    · rename_i i j hj
      rw [Bool.and_eq_true] at hj
      cases e
      obtain ⟨v, v2, rfl, r, r2⟩ := rs.two
      rw [r.int, r2.int]
      exact ⟨i, j, rfl, ⟨(okB_of hj.1).1, (okB_of hj.1).2, (okB_of hj.2).1, (okB_of hj.2).2⟩, k _ fun Rl => walk_itr⟩
    · cases e
  · cases e
theorem t_Rg3 {ms : List Ex} {Rr : It → Hp → Prop} (h : tI K mg W (sRgF rg3 ms) σ H Rr) : iRng3 (tA K mg W ms) σ H Rr := by
  refine t_SrcN (G := fun vs H1 R => ∃ (i j c : Int) (n : Nat), vs = [.int i, .int j, .int c] ∧ RgC i j c n ∧ R (Itc i c n) H1) (fun F H ds vs xs R fz rs e k => ?_) h
  unfold rg3 at e
  split at e
  · split at e
    · rename_i i j c hj
      rw [Bool.and_eq_true, Bool.and_eq_true, Bool.and_eq_true] at hj
      cases e
      obtain ⟨v, v2, v3, rfl, r, r2, r3⟩ := rs.three
      rw [r.int, r2.int, r3.int]
      have h4 := of_decide_eq_true hj.2
      exact ⟨i, j, c, _, rfl, ⟨of_decide_eq_true hj.1.1.1, of_decide_eq_true hj.1.1.2, hj.1.2, (Int.toNat_of_nonneg h4).symm⟩, k _ fun Rl => walk_itc⟩
    · cases e
  · cases e
end

/-! ### enumerate, reversed -/
def enumD (ds : List D) : List D := ds.zipIdx.map fun p => .tup [.int (p.2 : Nat), p.1]
def enOf : D → Option (List D)
  | .lst _ ds => some (enumD ds)
  | _ => none
def rvOf : D → Option (List D)
  | .lst _ ds => some ds.reverse
  | .tup ds => some ds.reverse
  | _ => none
section
variable {K : PySem.W.Frag} {mg : Mg} {W : WX} {F F' F1 F2 H H' H1 H2 : Hp} {env env' env1 : Env} {σ σ' : L2.St} {S S' S1 T U U1 L : List Addr} {R : Lk} {A : Addr → HO → Prop}
abbrev GE (K : PySem.W.Frag) : V → Hp → (It → Hp → Prop) → Prop := fun x H1 R => ∃ a xs, [x] = [V.ref a] ∧ SqL K H1 a xs ∧ R (Ite K a) H1
theorem wk_enum : Wk K mg enOf (GE K) := by
  intro F H d v S ds fz r hc e
  cases d with
  | lst m l =>
    cases e
    obtain ⟨a, vs, rfl, q, hr, hq⟩ := lst_cells fz r hc
    refine ⟨Ite K a, fun R hR => ⟨a, vs, rfl, q, hR⟩, fun j Fj Hj sub fz' cells => ?_⟩
    have qj := hq Fj Hj sub fz' cells
    refine ⟨fun d ed => ?_, fun hl => ⟨vs, qj, ?_⟩⟩
    · unfold enumD at ed
      rw [List.getElem?_map, List.getElem?_zipIdx] at ed
      cases el : l[j]? with
      | none => rw [el] at ed; cases ed
      | some d0 =>
        rw [el] at ed
        cases ed
        obtain ⟨v0, S', e1, _⟩ := hr.get el
        refine ⟨⟨vs, v0, qj, e1⟩, fun x H'' ⟨T, y, ex, hT, eh, hx⟩ => ?_⟩
        subst ex eh
        have e2 := hx vs qj
        rw [e1] at e2
        cases e2
        refine ⟨upd Fj T (.tup [.int j, v0]), Step.fro fz' hT, ?_⟩
        have r0 : Rps K mg Fj (At Hj) [.int ((0 + j : Nat) : Int), d0] [.int j, v0] [] := by
          rw [Nat.zero_add]
          exact .cons (S := []) (T := []) (.int _) (.cons (S := []) (T := []) ((hr.at0 e1 el).mono sub fun _ z => absurd z (by simp)) .nil)
        exact new_tup (fz'.gone hT) r0
    · unfold enumD at hl
      rw [List.length_map, List.length_zipIdx, hr.length] at hl
      exact hl
  | _ => cases e
abbrev GR (K : PySem.W.Frag) : V → Hp → (It → Hp → Prop) → Prop := fun v H1 R => ∃ (a : Addr) (xs : List V), v = .ref a ∧ ((SqL K H1 a xs ∧ R (Itv K a xs.length) H1) ∨ (SqT K H1 a xs ∧ R (_root_.RT.ItvT K a xs.length) H1))
theorem rev_at {α : Type} {l : List α} {j : Nat} {x : α} (h : l.reverse[j]? = some x) : j < l.length ∧ l[l.length - 1 - j]? = some x := by
  have hj : j < l.length := by
    have := (List.getElem?_eq_some_iff.mp h).1
    rwa [List.length_reverse] at this
  rw [List.getElem?_reverse hj] at h
  exact ⟨hj, h⟩
theorem wk_rev : Wk K mg rvOf (GR K) := by
  intro F H d v S ds fz r hc e
  cases d with
  | lst m l =>
    cases e
    obtain ⟨a, vs, rfl, q, hr, hq⟩ := lst_cells fz r hc
    refine ⟨Itv K a vs.length, fun R hR => ⟨a, vs, rfl, .inl ⟨q, hR⟩⟩, fun j Fj Hj sub fz' cells => ?_⟩
    have qj := hq Fj Hj sub fz' cells
    refine ⟨fun d ed => ?_, fun hl => ?_⟩
    · obtain ⟨hj, ed'⟩ := rev_at ed
      rw [hr.length] at hj ed'
      obtain ⟨v0, S', e1, _⟩ := hr.get ed'
      refine ⟨⟨hj, vs, v0, qj, e1⟩, fun x H'' ⟨eh, hx⟩ => ?_⟩
      subst eh
      have e2 := hx vs qj
      rw [e1] at e2
      cases e2
      exact ⟨Fj, Step.pure fz', (hr.at0 e1 ed').mono sub fun _ z => absurd z (by simp)⟩
    · rw [List.length_reverse, hr.length] at hl
      exact hl
  | tup l =>
    cases e
    have hl : clL l = true := by
      rcases hc with h | ⟨l', e, h⟩
      · rw [D.cl] at h; exact h
      · cases e
    cases r with
    | tup h1 h2 =>
      have hr := h2.rt0 hl (A := Rt H)
      refine ⟨_root_.RT.ItvT K _ _, fun R hR => ⟨_, _, rfl, .inr ⟨h1.at fz, hR⟩⟩, fun j Fj Hj sub fz' cells => ?_⟩
      have qj := (h1.mono sub).at fz'
      refine ⟨fun d ed => ?_, fun hl => ?_⟩
      · obtain ⟨hj, ed'⟩ := rev_at ed
        rw [hr.length] at hj ed'
        obtain ⟨v0, S', e1, _⟩ := hr.get ed'
        refine ⟨⟨hj, _, v0, qj, e1⟩, fun x H'' ⟨eh, hx⟩ => ?_⟩
        subst eh
        have e2 := hx _ qj
        rw [e1] at e2
        cases e2
        exact ⟨Fj, Step.pure fz', (hr.at0 e1 ed').mono sub fun _ z => absurd z (by simp)⟩
      · rw [List.length_reverse, hr.length] at hl
        exact hl
  | _ => cases e
theorem t_Enum {m : Ex} {Rr : It → Hp → Prop} (h : tI K mg W (sOf enOf m) σ H Rr) : iEnum K (tCons (tE K mg W m) tNil) σ H Rr := t_Of wk_enum h
theorem t_Rev {m : Ex} {Rr : It → Hp → Prop} (h : tI K mg W (sOf rvOf m) σ H Rr) : _root_.RT.iRevA K (tE K mg W m) σ H Rr := t_Of wk_rev h
end

/-! ### list(range(..)), tuple(range(..)) -/
def rgD (a b : Int) : List D := rngD a (b - a).toNat
def okR (a b : Int) : Bool := okB a && okB b && decide ((b - a).toNat ≤ 16777216)
theorem okR_of {a b : Int} (h : okR a b = true) : RgOk a b := by
  unfold okR at h
  rw [Bool.and_eq_true, Bool.and_eq_true] at h
  exact ⟨(okB_of h.1.1).1, (okB_of h.1.1).2, (okB_of h.1.2).1, (okB_of h.1.2).2, of_decide_eq_true h.2⟩
theorem rg_rps {K : PySem.W.Frag} {mg : Mg} {F : Hp} {A : Addr → HO → Prop} (a b : Int) : Rps K mg F A (rgD a b) (rgV a b) [] := by
  unfold rgD rngD rgV
  generalize List.range (b - a).toNat = l
  induction l with
  | nil => exact .nil
  | cons n l ih => exact .cons (S := []) (T := []) (.int _) ih
def gLRg1 : D → Option D
  | .int n => if okR 0 n then some (.lst true (rgD 0 n)) else none
  | _ => none
def gLRg2 : D → D → Option D
  | .int a, .int b => if okR a b then some (.lst true (rgD a b)) else none
  | _, _ => none
def gTRg1 : D → Option D
  | .int n => if okR 0 n then some (.tup (rgD 0 n)) else none
  | _ => none
section
variable {X : Cx} {W : WX} {a b : Expr} {ma mb : Ex} {p p2 pos pos2 : Pos}
theorem je_listRg1 (hc : X.calm = true) (hl : Gl X "list") (ml : X.mg "list" = none) (hg : Gl X "range") (hm : X.mg "range" = none) (ha : JE X W a ma) (hs : starEach [a] X.env = (false, eval a X.env) :: starEach [] X.env := by rfl) : JE X W (.Call (.Name "list" p) [.Call (.Name "range" p2) [a] [] pos2] [] pos) (e1 gLRg1 ma) :=
  je_of (pe_listRg hc hl ml (prg_1 hg hm ha hs)) fun σ H Q h => by
    refine t_e1 (r := fun x H1 Q => ∃ n, x = V.int n ∧ RgOk 0 n ∧ ∀ q, H1 q = none → Q (.ref q) (upd H1 q (.lst (rgV 0 n)))) (fun F H d v d' Q fz r e k => ?_) h
    unfold gLRg1 at e
    split at e
    · split at e
      · rename_i n hn
        cases e
        rw [r.int]
        exact ⟨n, rfl, okR_of hn, fun q hq => k _ F _ [q] (Step.own fz hq) (new_lst (rg_rps _ _))⟩
      · cases e
    · cases e
theorem je_tupRg1 (hc : X.calm = true) (hl : Gl X "tuple") (ml : X.mg "tuple" = none) (hg : Gl X "range") (hm : X.mg "range" = none) (ha : JE X W a ma) (hs : starEach [a] X.env = (false, eval a X.env) :: starEach [] X.env := by rfl) : JE X W (.Call (.Name "tuple" p) [.Call (.Name "range" p2) [a] [] pos2] [] pos) (e1 gTRg1 ma) :=
  je_of (pe_tupRg hc hl ml (prg_1 hg hm ha hs)) fun σ H Q h => by
    refine t_e1 (r := fun x H1 Q => ∃ n, x = V.int n ∧ RgOk 0 n ∧ ∀ q, H1 q = none → Q (.ref q) (upd H1 q (.tup (rgV 0 n)))) (fun F H d v d' Q fz r e k => ?_) h
    unfold gTRg1 at e
    split at e
    · split at e
      · rename_i n hn
        cases e
        rw [r.int]
        exact ⟨n, rfl, okR_of hn, fun q hq => k _ _ _ [] (Step.fro fz hq) (new_tup (fz.gone hq) (rg_rps _ _))⟩
      · cases e
    · cases e
theorem je_listRg2 (hc : X.calm = true) (hl : Gl X "list") (ml : X.mg "list" = none) (hg : Gl X "range") (hm : X.mg "range" = none) (ha : JE X W a ma) (hb : JE X W b mb) (hs : starEach [a, b] X.env = (false, eval a X.env) :: starEach [b] X.env := by rfl) (hs2 : starEach [b] X.env = (false, eval b X.env) :: starEach [] X.env := by rfl) (hp : ((backTo pos2 (starEach [b] X.env)).any fun x => x.1) = false := by rfl) : JE X W (.Call (.Name "list" p) [.Call (.Name "range" p2) [a, b] [] pos2] [] pos) (e2 gLRg2 ma mb) :=
  je_of (pe_listRg hc hl ml (prg_2 hg hm ha hb hs hs2 hp)) fun σ H Q h => by
    refine t_e2 (r := fun x y H1 Q => ∃ i j, x = V.int i ∧ y = V.int j ∧ RgOk i j ∧ ∀ q, H1 q = none → Q (.ref q) (upd H1 q (.lst (rgV i j)))) (fun F H d1 d2 v1 v2 d' Q fz r1 r2 e k => ?_) h
    unfold gLRg2 at e
    split at e
    · split at e
      · rename_i i j hn
        cases e
        rw [r1.int, r2.int]
        exact ⟨i, j, rfl, rfl, okR_of hn, fun q hq => k _ F _ [q] (Step.own fz hq) (new_lst (rg_rps _ _))⟩
      · cases e
    · cases e
end
end DL
/-! DLp: lists repeated, slices with a step, changes of lists. -/
namespace DL
open PySem PySem.Spec PyProof.Rows L2

def rRepR (K : PySem.W.Frag) : R2 := fun x y H Q => ∃ l k xs, x = .ref l ∧ y = .int k ∧ RdL K H l xs ∧ -(2 ^ 63) ≤ k ∧ k < 2 ^ 63 ∧ xs.length * k.toNat ≤ 16777216 ∧ ∀ p, H p = none → Q (.ref p) (upd H p (.lst (List.replicate k.toNat xs).flatten))
theorem rep_len {α : Type} (xs : List α) (n : Nat) : (List.replicate n xs).flatten.length = xs.length * n := by
  induction n with
  | zero => simp
  | succ n ih => rw [List.replicate_succ, List.flatten_cons, List.length_append, ih, Nat.mul_succ, Nat.add_comm]
theorem op_repR {X : Cx} : OpR X (binaryOp .Mult) (rRepR X.K) := by
  rintro pins s σ H x y v u Q I rx ry ⟨l, k, xs, rfl, rfl, hl, h1, h2, hz, q⟩
  cases rx
  obtain ⟨t, rfl⟩ := ry
  obtain ⟨z1, its, n, r, hl, e⟩ := Inv.lstR I hl
  have hlen : (List.toArray its).size * k.toNat ≤ sizeLine := by
    rw [List.size_toArray, ← hl, sz]
    exact hz
  have hcap : ¬ (List.toArray its).size * k.toNat > (2 ^ 63 - 1) / 8 := by
    rw [sz] at hlen
    omega
  have hfit : ¬ (!Builtin.List.listFitsIndex k) = true := by rw [fitsIndex_both h1 h2]; simp
  have hlong : ¬ Builtin.List.listTooLong ((List.toArray its).size * k.toNat) = true := by rw [notLongL hlen]; simp
  have hnew : List.foldl (fun x1 x2 => x1 ++ x2) #[] (List.replicate (if Array.isEmpty (List.toArray its) = true then 0 else k.toNat) (List.toArray its)) = List.toArray (List.replicate k.toNat its).flatten := by
    have f0 := fun m => L2.foldl_rep its m []
    simp only [List.nil_append] at f0
    refine (f0 _).trans ?_
    cases its with
    | nil =>
      have e1 : ∀ m, (List.replicate m ([] : List Value)).flatten = [] := fun m => by
        induction m with
        | zero => rfl
        | succ m ih => rw [List.replicate_succ, List.flatten_cons, ih]; rfl
      rw [e1, e1]
    | cons a r' => rfl
  refine wpAny_binaryOp_repeat_ref (by decide) ⟨_, e, rfl⟩ (fun s' => typeIs_int s' k t) noFill_list_mul F.fills_int_mul F.slot_int_rmul repeat_list F.slot_int_index.lookup
    (call_meets F.slot_int_rmul (typeIs_int s k t) F.entry_int_rmul (F.args_int_rmul_2 (Value.int k t) (Value.ref l)) (int___rmul___int_list k t l (List.toArray its) n) ⟨e, ⟨rfl, ⟨⟨_, e, rfl⟩,
      call_meets F.slot_list_mul ⟨_, e, rfl⟩ F.entry_list_mul (F.args_list_mul_2 (Value.ref l) (Value.int k t)) (AutoListH.list___mul___list_int_3 l (List.toArray its) n k t hfit hcap hlong) ⟨e, ?_⟩⟩⟩⟩)
  rw [hnew]
  refine ⟨V.ref _, upd H _ (.lst (List.replicate k.toNat xs).flatten), Inv.lnew I (Vals.rep r k.toNat) ?_, rfl, q _ (Inv.fresh I)⟩
  rw [rep_len, sz]
  exact hz
def rMul1 (K : PySem.W.Frag) : R2 := fun x y H Q => rI CMulX (fun i j => V.int (i * j)) x y H Q ∨ rRepR K x y H Q
theorem op_mul1 {X : Cx} : OpR X (binaryOp .Mult) (rMul1 X.K) := OpR.or op_mulX op_repR
def gMul : D → D → Option D
  | .int i, .int j => if Builtin.Int.intBits i + Builtin.Int.intBits j ≤ 134217728 then some (.int (i * j)) else none
  | .lst _ a, .int k => if k.natAbs < 2 ^ 63 ∧ a.length * k.toNat ≤ 16777216 ∧ clL a = true then some (.lst true (List.replicate k.toNat a).flatten) else none
  | _, _ => none
theorem rep_rps {K : PySem.W.Frag} {mg : Mg} {F : Hp} {A : Addr → HO → Prop} {ds : List D} {vs : List V} (h : Rps K mg F A ds vs []) : ∀ n : Nat, Rps K mg F A (List.replicate n ds).flatten (List.replicate n vs).flatten []
  | 0 => .nil
  | n + 1 => by
    rw [List.replicate_succ, List.flatten_cons, List.replicate_succ, List.flatten_cons]
    exact Rps.append (S := []) (T := []) h (rep_rps h n)
theorem snd_mul {K : PySem.W.Frag} {mg : Mg} : Snd2 K mg (rMul1 K) gMul := by
  intro F H d1 d2 v1 v2 d' Q fz r1 r2 e k
  unfold gMul at e
  split at e
  · split at e
    · rename_i hc
      cases e
      rw [r1.int, r2.int]
      refine .inl ⟨_, _, rfl, rfl, ?_, k _ F H [] (Step.pure fz) (.int _)⟩
      show (_ : Int) ≤ _
      omega
    · cases e
  · split at e
    · rename_i hc
      cases e
      obtain ⟨a, vs, S, rfl, h1, h2⟩ := r1.lst fz
      rw [r2.int]
      have hk := hc.1
      exact .inr ⟨a, _, vs, rfl, rfl, h1, by omega, by omega, by rw [← h2.length]; exact hc.2.1, fun p hp => k _ F _ [p] (Step.own fz hp) (new_lst (rep_rps (h2.rt0 hc.2.2) _))⟩
    · cases e
  · cases e
/-! ### a slice with a step -/
def tSl3 (r : V → Int → Hp → VK → Prop) (te ts : TE) : TE := fun σ H Q => te σ H fun x H1 => tPart ts σ H1 fun o H2 => ∃ k, o = some k ∧ r x k H2 Q
def rStL (K : PySem.W.Frag) : V → Int → Hp → VK → Prop := fun x k H Q => ∃ a xs, x = .ref a ∧ SqL K H a xs ∧ (k = 1 ∨ k = -1) ∧ ∀ p, H p = none → Q (.ref p) (upd H p (.lst (if k = 1 then xs else xs.reverse)))
theorem pick_one (its : List Value) : slicePick (List.toArray its) none none (some 1) = List.toArray its := by
  have h := slicePick_cut its none none
  have e : slicePick (List.toArray its) none none (some 1) = slicePick (List.toArray its) none none none := rfl
  rw [e, h]
  simp [HT.sIx]
theorem pe_sl3 {X : Cx} {e st : Expr} {te ts : TE} {pos p2 : Pos} (he : PE X e te) (hs : PE X st ts) : PE X (.Subscript e (.Slice none none (some st) p2) pos) (tSl3 (rStL X.K) te ts) := ⟨fun pins s σ H Q I h => by
  refine Subscript_ (thn (he.run pins s σ H _ I h) fun v s1 z => ?_)
  obtain ⟨x, H1, I1, r1, q1⟩ := z
  refine wpAny_Slice (thn (po_none.run pins s1 σ H1 (fun o H2 => o = none ∧ H2 = H1) I1 ⟨rfl, rfl⟩) fun vl s2 z => ?_)
  obtain ⟨l, H2, I2, pl, rfl, rfl⟩ := z
  refine thn (po_none.run pins s2 σ H2 (fun o H3 => o = none ∧ H3 = H2) I2 ⟨rfl, rfl⟩) fun vu s3 z => ?_
  obtain ⟨u, H3, I3, pu, rfl, rfl⟩ := z
  refine thn ((po_some hs).run pins s3 σ H3 _ I3 q1) fun vt s4 z => ?_
  obtain ⟨o, H4, I4, pt, k, rfl, a, xs, rfl, hx, hk, q⟩ := z
  cases r1
  have I5 := Inv.kept (t' := s4.toks) I4 fun b ob q => Heap.get?_push_of_some { cls := Value.type "slice", data := Data.fields #[vl, vu, vt] } q
  obtain ⟨its, r, ht, hz⟩ := Inv.list I5 hx
  have hlen := Vals.length r
  have hk0 : (some k : Option Int) ≠ some 0 := by
    rintro h
    cases h
    rcases hk with h | h <;> cases h
  have hp : slicePick (List.toArray its) none none (some k) = List.toArray (if k = 1 then its else its.reverse) := by
    rcases hk with rfl | rfl
    · rw [if_pos rfl]; exact pick_one its
    · rw [if_neg (by decide)]; exact PySem.W.krv_pick (List.toArray its)
  refine tail_any (Heap.IsList.typeIs (PlainL.isList ht)) F.slot_list_getitem.lookup (wpAny_getItem_list_slice (PlainL.isList ht) (Heap.IsSliceOf.new s4.heap vl vu vt) pl pu pt hk0 ?_ ?_) rfl
  · rw [hp]
    refine ⟨V.ref _, upd H4 _ (.lst (if k = 1 then xs else xs.reverse)), Inv.lnew I5 (t' := s4.toks) ?_ ?_, rfl, q _ (Inv.fresh I5)⟩
    · rcases hk with rfl | rfl
      · rw [if_pos rfl, if_pos rfl]; exact r
      · rw [if_neg (by decide), if_neg (by decide)]; exact Vals.reverse r
    · rcases hk with rfl | rfl
      · rw [if_pos rfl]; exact hz
      · rw [if_neg (by decide), List.length_reverse]; exact hz
  · rw [List.size_toArray, ← hlen]
    exact hz⟩
def gSt : D → D → Option D
  | .lst _ ds, .int k => if (k = 1 ∨ k = -1) ∧ clL ds = true then some (.lst true (if k = 1 then ds else ds.reverse)) else none
  | _, _ => none
theorem je_sl3 {X : Cx} {W : WX} {e st : Expr} {pos p2 : Pos} {m ms : Ex} (he : JE X W e m) (hs : JE X W st ms) : JE X W (.Subscript e (.Slice none none (some st) p2) pos) (e2 gSt m ms) :=
  je_of (pe_sl3 he hs) fun σ H Q h => by
    refine t_e2 (r := fun x y H2 Q => ∃ i, y = V.int i ∧ ∃ k, some i = some k ∧ rStL X.K x k H2 Q) (fun F H d1 d2 v1 v2 d' Q fz r1 r2 e k => ?_) h
    unfold gSt at e
    split at e
    · split at e
      · rename_i m ds i hc
        cases e
        obtain ⟨a, vs, S, rfl, h1, h2⟩ := r1.lst fz
        rw [r2.int]
        refine ⟨i, rfl, i, rfl, a, vs, rfl, h1.sq, hc.1, fun p hp => k _ F _ [p] (Step.own fz hp) (new_lst ?_)⟩
        have h3 := h2.rt0 hc.2 (A := At H)
        by_cases h : i = 1
        · rw [if_pos h, if_pos h]; exact h3
        · rw [if_neg h, if_neg h]; exact h3.rev0
      · cases e
    · cases e
end DL
/-! DLq: methods of lists, stores at subscripts. -/
namespace DL
open PySem PySem.Spec PyProof.Rows L2

section
variable {K : PySem.W.Frag} {mg : Mg} {W : WX} {F F' F1 F2 H H' H1 H2 : Hp} {env env' env1 : Env} {σ σ' : L2.St} {S S' S1 T U U1 L : List Addr} {R : Lk} {A : Addr → HO → Prop}
/-- one item is taken out -/
theorem Rps.erase : ∀ {ds : List D} {vs : List V} {S : List Addr} {i : Nat} {d : D}, Rps K mg F A ds vs S → ds[i]? = some d → ∃ v Sd S', vs[i]? = some v ∧ Rp K mg F A d v Sd ∧ Rps K mg F A (ds.eraseIdx i) (vs.eraseIdx i) S' ∧ ∀ z : Addr, Sd.count z + S'.count z = S.count z
  | _, _, _, _, _, .nil, e => by simp at e
  | _, _, _, 0, d, .cons (d := d0) h hs, e => by
    simp at e
    subst e
    exact ⟨_, _, _, rfl, h, hs, fun z => by rw [List.count_append]⟩
  | _, _, _, i + 1, d, .cons (S := S0) h hs, e => by
    obtain ⟨v, Sd, S', e1, r, rs, c⟩ := hs.erase (i := i) (d := d) (by simpa using e)
    refine ⟨v, Sd, S0 ++ S', by simpa using e1, r, ?_, fun z => ?_⟩
    · rw [List.eraseIdx_cons_succ, List.eraseIdx_cons_succ]
      exact .cons h rs
    · have := c z
      simp only [List.count_append]
      omega
/-- one item is put in another's place -/
theorem Rps.put : ∀ {ds : List D} {vs : List V} {S : List Addr} {i : Nat} {d : D} {v : V} {U : List Addr}, Rps K mg F A ds vs S → i < ds.length → Rp K mg F A d v U → ∃ S', Rps K mg F A (ds.set i d) (vs.set i v) S' ∧ ∀ z : Addr, S'.count z ≤ S.count z + U.count z
  | _, _, _, _, _, _, _, .nil, e, _ => by simp at e
  | _, _, _, 0, d, v, U, .cons (T := T0) h hs, e, r => ⟨U ++ T0, .cons r hs, fun z => by simp only [List.count_append]; omega⟩
  | _, _, _, i + 1, d, v, U, .cons (S := S0) (T := T0) h hs, e, r => by
    obtain ⟨S', rs, c⟩ := hs.put (i := i) (d := d) (by simpa using e) r
    refine ⟨S0 ++ S', .cons h rs, fun z => ?_⟩
    have := c z
    simp only [List.count_append]
    omega
end

/-! ### methods of lists -/
def mAppend : D → List D → Option (D × D)
  | .lst true l, [d] => if l.length < 16777216 then some (.lst true (l ++ [d]), .non) else none
  | _, _ => none
def mPop : D → List D → Option (D × D)
  | .lst true l, [] => match l[l.length - 1]? with
    | some d => some (.lst true l.dropLast, d)
    | none => none
  | _, _ => none
def mPopAt : D → List D → Option (D × D)
  | .lst true l, [.int i] => if i.natAbs < 2 ^ 63 then (match seqIndex? i l.length with
    | some k => (match l[k]? with
      | some d => some (.lst true (l.eraseIdx k), d)
      | none => none)
    | none => none) else none
  | _, _ => none
/-- the first place of a whole number -/
def findI (k : Int) : List Int → Option Nat
  | [] => none
  | x :: r => if x = k then some 0 else (findI k r).map (· + 1)
def mRemI : D → List D → Option (D × D)
  | .lst true l, [.int k] => (intsD l).bind fun ns => (findI k ns).map fun j => (.lst true (l.eraseIdx j), .non)
  | _, _ => none
def mClear : D → List D → Option (D × D)
  | .lst true _, [] => some (.lst true [], .non)
  | _, _ => none
theorem findI_ok : ∀ {k : Int} {ns : List Int} {j : Nat}, findI k ns = some j → ns[j]? = some k ∧ ∀ m, m < j → ns[m]? ≠ some k
  | k, [], j, e => by cases e
  | k, x :: r, j, e => by
    unfold findI at e
    by_cases h : x = k
    · rw [if_pos h] at e
      cases e
      exact ⟨by rw [h]; rfl, fun m hm => absurd hm (by omega)⟩
    · rw [if_neg h] at e
      cases q : findI k r with
      | none => rw [q] at e; cases e
      | some j0 =>
        rw [q] at e
        have e' : j0 + 1 = j := by simpa using e
        subst e'
        obtain ⟨h1, h2⟩ := findI_ok q
        refine ⟨by simpa using h1, fun m hm => ?_⟩
        cases m with
        | zero => simpa using h
        | succ m => simpa using h2 m (by omega)
section
variable {K : PySem.W.Frag} {mg : Mg} {F H : Hp}
theorem ne_cells {a : Addr} {S0 U : List Addr} (nd : ((a :: S0) ++ U).Nodup) {o : HO} : (∀ b ∈ S0, ∀ u, H b = some u → upd H a o b = some u) ∧ ∀ b ∈ U, ∀ u, H b = some u → upd H a o b = some u := by
  rw [List.cons_append] at nd
  have h := (List.nodup_cons.mp nd).1
  exact ⟨fun b hb u e => by rw [upd_ne fun z => h (by rw [← z]; exact List.mem_append_left _ hb)]; exact e, fun b hb u e => by rw [upd_ne fun z => h (by rw [← z]; exact List.mem_append_right _ hb)]; exact e⟩
theorem sm_append : SndM K mg rAppend mAppend := by
  intro F H d x S1 ds vs U q Q fz nf nd r rs e k
  unfold mAppend at e
  split at e
  · split at e
    · rename_i hl
      cases e
      cases r with
      | @ol a xs l S0 h1 h2 =>
        cases rs with
        | @cons d0 _ v0 _ Sa Sb r0 r1 =>
          cases r1
          rw [List.append_nil] at nd k
          obtain ⟨c1, c2⟩ := ne_cells (H := H) (o := .lst (xs ++ [v0])) nd
          refine ⟨a, xs, v0, rfl, rfl, h1, by rw [← h2.length, sz]; exact hl, ?_⟩
          refine k .non a _ (a :: (S0 ++ (Sa ++ []))) [] List.mem_cons_self (by intro _ z; cases z) (.ol (by show upd H a _ a = _; rw [upd_same]) ?_) .non fun z => ?_
          · exact Rps.append (h2.mono (Sub.refl F) c1) (.cons (r0.mono (Sub.refl F) c2) .nil)
          · simp only [List.count_cons, List.count_append, List.count_nil]
            omega
    · cases e
  · cases e
theorem sm_pop : SndM K mg rPop mPop := by
  intro F H d x S1 ds vs U q Q fz nf nd r rs e k
  unfold mPop at e
  split at e
  · rename_i l
    split at e
    · rename_i d0 hd
      cases e
      cases r with
      | @ol a xs _ S0 h1 h2 =>
        cases rs
        rw [List.append_nil] at nd
        obtain ⟨v0, Sd, S', e1, r0, r1, c⟩ := h2.erase hd
        have hlen : l.length - 1 + 1 = l.length := by
          have := (List.getElem?_eq_some_iff.mp hd).1
          omega
        rw [List.eraseIdx_eq_dropLast hlen, List.eraseIdx_eq_dropLast (by rw [← h2.length]; exact hlen)] at r1
        obtain ⟨c1, c2⟩ := ne_cells (H := H) (U := []) (o := .lst xs.dropLast) (by rw [List.append_nil]; exact nd)
        refine ⟨a, xs, v0, rfl, rfl, h1, by rw [← h2.length]; exact e1, ?_⟩
        have in1 : ∀ b ∈ Sd, b ∈ S0 := fun b hb => List.count_pos_iff.mp (by have := c b; have := List.count_pos_iff.mpr hb; omega)
        have in2 : ∀ b ∈ S', b ∈ S0 := fun b hb => List.count_pos_iff.mp (by have := c b; have := List.count_pos_iff.mpr hb; omega)
        refine k v0 a _ (a :: S') Sd List.mem_cons_self (by intro _ z; cases z) (.ol (by show upd H a _ a = _; rw [upd_same]) (r1.mono (Sub.refl F) fun b hb => c1 b (in2 b hb))) (r0.mono (Sub.refl F) fun b hb => c1 b (in1 b hb)) fun z => ?_
        have := c z
        simp only [List.count_cons, List.count_nil]
        omega
    · cases e
  · cases e
theorem sm_popAt : SndM K mg rPopAt mPopAt := by
  intro F H d x S1 ds vs U q Q fz nf nd r rs e k
  unfold mPopAt at e
  split at e
  · rename_i l i
    split at e
    · rename_i hi
      split at e
      · rename_i j hj
        split at e
        · rename_i d0 hd
          cases e
          cases r with
          | @ol a xs _ S0 h1 h2 =>
            cases rs with
            | @cons _ _ v1 _ Sa Sb r2 r3 =>
              cases r3
              cases r2
              rw [List.append_nil, List.append_nil] at nd
              obtain ⟨v0, Sd, S', e1, r0, r1, c⟩ := h2.erase hd
              obtain ⟨c1, c2⟩ := ne_cells (H := H) (U := []) (o := .lst (xs.eraseIdx j)) (by rw [List.append_nil]; exact nd)
              refine ⟨a, xs, i, j, v0, rfl, rfl, h1, by omega, by omega, by rw [← h2.length]; exact hj, e1, ?_⟩
              have in1 : ∀ b ∈ Sd, b ∈ S0 := fun b hb => List.count_pos_iff.mp (by have := c b; have := List.count_pos_iff.mpr hb; omega)
              have in2 : ∀ b ∈ S', b ∈ S0 := fun b hb => List.count_pos_iff.mp (by have := c b; have := List.count_pos_iff.mpr hb; omega)
              refine k v0 a _ (a :: S') Sd List.mem_cons_self (by intro _ z; cases z) (.ol (by show upd H a _ a = _; rw [upd_same]) (r1.mono (Sub.refl F) fun b hb => c1 b (in2 b hb))) (r0.mono (Sub.refl F) fun b hb => c1 b (in1 b hb)) fun z => ?_
              have := c z
              simp only [List.count_cons, List.count_append, List.count_nil]
              omega
        · cases e
      · cases e
    · cases e
  · cases e
theorem map_eraseIdx {α β : Type} (f : α → β) : ∀ (l : List α) (i : Nat), (l.eraseIdx i).map f = (l.map f).eraseIdx i
  | [], i => by simp
  | x :: r, 0 => by simp
  | x :: r, i + 1 => by simp [map_eraseIdx f r i]
theorem sm_remI : SndM K mg rRemI mRemI := by
  intro F H d x S1 ds vs U q Q fz nf nd r rs e k
  unfold mRemI at e
  split at e
  · rename_i l i
    cases ei : intsD l with
    | none => rw [ei] at e; cases e
    | some ns =>
      rw [ei, Option.bind_some] at e
      cases ej : findI i ns with
      | none => rw [ej] at e; cases e
      | some j =>
        rw [ej] at e
        cases e
        obtain ⟨g1, g2⟩ := findI_ok ej
        cases r with
        | @ol a xs _ S0 h1 h2 =>
          cases rs with
          | @cons _ _ v1 _ Sa Sb r2 r3 =>
            cases r3
            cases r2
            rw [List.append_nil, List.append_nil] at nd
            have ev := ints_vs h2 ei
            have hj : ∃ d0, l[j]? = some d0 := by
              have hlt : j < ns.length := (List.getElem?_eq_some_iff.mp g1).1
              have : l.length = ns.length := by rw [h2.length, ev, List.length_map]
              exact ⟨l[j]'(by omega), List.getElem?_eq_getElem _⟩
            obtain ⟨d0, hd⟩ := hj
            obtain ⟨v0, Sd, S', e1, r0, r1, c⟩ := h2.erase hd
            obtain ⟨c1, c2⟩ := ne_cells (H := H) (U := []) (o := .lst (xs.eraseIdx j)) (by rw [List.append_nil]; exact nd)
            have in2 : ∀ b ∈ S', b ∈ S0 := fun b hb => List.count_pos_iff.mp (by have := c b; have := List.count_pos_iff.mpr hb; omega)
            refine ⟨a, ns, i, j, rfl, rfl, by rw [← ev]; exact h1, g1, g2, ?_⟩
            rw [map_eraseIdx, ← ev]
            refine k .non a _ (a :: S') [] List.mem_cons_self (by intro _ z; cases z) (.ol (by show upd H a _ a = _; rw [upd_same]) (r1.mono (Sub.refl F) fun b hb => c1 b (in2 b hb))) .non fun z => ?_
            have := c z
            simp only [List.count_cons, List.count_append, List.count_nil]
            omega
  · cases e
theorem sm_clear : SndM K mg rClear mClear := by
  intro F H d x S1 ds vs U q Q fz nf nd r rs e k
  unfold mClear at e
  split at e
  · cases e
    cases r with
    | @ol a xs _ S0 h1 h2 =>
      cases rs
      refine ⟨a, xs, rfl, rfl, h1, ?_⟩
      refine k .non a _ [a] [] List.mem_cons_self (by intro _ z; cases z) (.ol (by show upd H a _ a = _; rw [upd_same]) .nil) .non fun z => ?_
      simp only [List.count_cons, List.count_nil]
      omega
  · cases e
end

/-! ### index, count -/
def gFind : D → List D → Option D
  | .lst _ l, [.int k] => (intsD l).bind fun ns => (findI k ns).map fun j => .int (j : Nat)
  | _, _ => none
/-- a method of a list that changes nothing -/
def eMeth (g : D → List D → Option D) (m : Ex) (ms : List Ex) : Ex := fun env => (m env).bind fun t en => if (rd en t).any isL = true then (evA ms en).bind fun ts en2 => opt en2 ((rd en2 t).bind fun d => (rds en2 ts).bind (g d)) else .no
def SndMR (K : PySem.W.Frag) (mg : Mg) (r : V → List V → Hp → VK → Prop) (g : D → List D → Option D) : Prop :=
  ∀ (F H : Hp) (d : D) (x : V) (ds : List D) (vs : List V) (d' : D) (Q : VK), FzOk F H → Rb K mg F H d x → Rbs K mg F H ds vs → g d ds = some d' → (∀ v' F' H' U, Step F H F' H' U → Rp K mg F' (At H') d' v' U → Q v' H') → r x vs H Q
section
variable {K : PySem.W.Frag} {mg : Mg} {W : WX} {m : Ex} {ms : List Ex} {σ : L2.St} {H : Hp} {Q : VK}
theorem t_Meth {r : V → List V → Hp → VK → Prop} {g : D → List D → Option D} (snd : SndMR K mg r g) (h : tE K mg W (eMeth g m ms) σ H Q) :
    tE K mg W m σ H fun x H1 => tyV K "list" x H1 ∧ tA K mg W ms σ H1 fun vs H2 => r x vs H2 Q := by
  obtain ⟨env, F, S, R, T, sm, h⟩ := h
  refine ⟨env, F, S, R, T, sm, (Cont.bind h).imp fun v1 H1 ⟨t1, env1, F1, S1, U1, sm1, go1, rt1, h1⟩ => ?_⟩
  by_cases hl : (rd env1 t1).any isL = true
  · rw [if_pos hl] at h1
    cases e : rd env1 t1 with
    | none => rw [e] at hl; cases hl
    | some d0 =>
      rw [e] at hl
      obtain ⟨a0, xs0, rfl, hq⟩ := Rb.list sm1.fz (rt1.rb sm1 e) hl
      refine ⟨.inl ⟨rfl, xs0, hq⟩, env1, F1, S1, R, U1 ++ T, sm1, (h1.then (Rl := RTs K mg σ) go1).imp fun vs H2 ⟨ts, env2, F2, S2, U2, sm2, go2, go12, rts, h2⟩ => ?_⟩
      have rt1' := rt1.later sm1 go12
      cases ea : rd env2 t1 with
      | none => rw [ea] at h2; exact h2.elim
      | some d =>
        cases eb : rds env2 ts with
        | none => rw [ea, eb] at h2; exact h2.elim
        | some ds =>
          rw [ea, eb, Option.bind_some, Option.bind_some] at h2
          cases eg : g d ds with
          | none => rw [eg] at h2; exact h2.elim
          | some d' =>
            rw [eg] at h2
            exact snd F2 H2 d _ ds vs d' Q sm2.fz (rt1'.rb sm2 ea) (rts.rbs sm2 eb) eg fun v' F' H' U st rp => h2.done0 sm2 go2 st rp
  · rw [if_neg hl] at h1
    exact h1.elim
theorem flat_ints (ns : List Int) : (ns.map V.int).all flatV = true := by
  induction ns with
  | nil => rfl
  | cons n ns ih => rw [List.map_cons, List.all_cons, ih]; rfl
theorem smr_find {mg : Mg} : SndMR K mg (rIndex K) gFind := by
  intro F H d x ds vs d' Q fz r rs e k
  unfold gFind at e
  split at e
  · rename_i m l i
    cases ei : intsD l with
    | none => rw [ei] at e; cases e
    | some ns =>
      rw [ei, Option.bind_some] at e
      cases ej : findI i ns with
      | none => rw [ej] at e; cases e
      | some j =>
        rw [ej] at e
        cases e
        obtain ⟨g1, g2⟩ := findI_ok ej
        obtain ⟨v, rfl, r1⟩ := rs.one
        rw [r1.int]
        obtain ⟨a, ys, S, rfl, h1, h2⟩ := r.lst fz
        have ev := ints_vs h2 ei
        subst ev
        refine ⟨a, _, _, j, .int i, rfl, rfl, h1.sq, rfl, flat_ints ns, by rw [List.getElem?_map, g1]; rfl, by simp [eqV], fun m z hm hz => ?_, k _ F H [] (Step.pure fz) (.int _)⟩
        rw [List.getElem?_map] at hz
        cases q : ns[m]? with
        | none => rw [q] at hz; cases hz
        | some n =>
          rw [q] at hz
          cases hz
          have : n ≠ i := fun h => g2 m hm (by rw [q, h])
          simp [eqV, this]
  · cases e
end
section
variable {X : Cx} {W : WX} {o e : Expr} {es : List Expr} {apos cpos : Pos} {m : Ex} {ms : List Ex} {name : Str}
theorem je_meth {id : String} {r : V → List V → Hp → VK → Prop} {g : D → List D → Option D} (slot : Slot "list" name id) (hty : typeOf (.builtin id) = pure (.type "method_descriptor")) (hm : MtR X id r) (snd : SndMR X.K X.mg r g) (ho : JE X W o m) (ha : JA X W (e :: es) ms)
    (hbase : attributeBase o name X.env (eval o X.env) = eval o X.env := by rfl)
    (hfew : ((backTo cpos (starEach (e :: es) X.env)).all (fun x => !x.1) && (backToKw cpos (keywordEach [] X.env)).all (fun x => x.1.isSome)
      && decide ((e :: es).length + ([] : List Keyword).length + (if ([] : List Keyword).isEmpty then 0 else 1) < 30)) = true := by rfl)
    (hline : (apos.endLine == cpos.line) = true := by rfl) (hs : starEach (e :: es) X.env = (false, eval e X.env) :: starEach es X.env := by rfl) (hplain : (backTo cpos (starEach es X.env)).any (·.1) = false := by rfl) :
    JE X W (.Call (.Attribute o name apos) (e :: es) [] cpos) (eMeth g m ms) :=
  je_of (pe_bm PySem.F.plainAttrs_list slot hty hm ho ha hbase hfew hline hs hplain) fun σ H Q h => t_Meth snd h
end

/-! ### stores at subscripts -/
abbrev Tg := Env → D → Res Unit
def tgNm (i : Nat) : Tg := fun env d => match setS env i d with
  | some e => .ok () e
  | none => .no
/-- the item j of the slot's own list -/
def putI (env : Env) (i : Nat) (k : Int) (d : D) : Res Unit := match env[i]? with
  | some (.sl kd (.lst true ds)) => if kd = Kd.R then .no else (match ixN ds.length k with
    | some j => .ok () (env.set i (.sl kd (.lst true (ds.set j d))))
    | none => .no)
  | _ => .no
def tgSb (i : Nat) (mi : Ex) : Tg := fun env d => (eV i env).bind fun _ en => (mi en).bind fun t en2 => match rd en2 t with
  | some (.int k) => putI en2 i k d
  | _ => .no
def tgL : List Tg → Env → List D → Res Unit
  | [], env, [] => .ok () env
  | g :: gs, env, d :: ds => (g env d).bind fun _ en => tgL gs en ds
  | _, _, _ => .no
def tgTp (gs : List Tg) : Tg := fun env d => match d with
  | .tup ds => tgL gs env ds
  | _ => .no
def ContG (K : PySem.W.Frag) (mg : Mg) (F H : Hp) (S R' : List Addr) (R : Lk) (T : List Addr) (r : Res Unit) (Q : L2.St → Hp → Prop) : Prop := match r with
  | .ok _ env' => ∀ σ' F' H' S', Sm K mg F' H' env' σ' S' R T → Go F H (S ++ R') F' H' S' → Q σ' H'
  | _ => False
def tG (K : PySem.W.Frag) (mg : Mg) (tg : Tg) : TG := fun v σ H Q => ∃ env F S R T U d, Sm K mg F H env σ S R (U ++ T) ∧ Rp K mg F (At H) d v U ∧ ContG K mg F H S U R T (tg env d) Q
def tGs (K : PySem.W.Frag) (mg : Mg) (tgs : List Tg) : TGs := fun vs σ H Q => ∃ env F S R T U ds, Sm K mg F H env σ S R (U ++ T) ∧ Rps K mg F (At H) ds vs U ∧ ContG K mg F H S U R T (tgL tgs env ds) Q
abbrev JG (X : Cx) (e : Expr) (tg : Tg) : Prop := PG X e (tG X.K X.mg tg)
abbrev JGs (X : Cx) (es : List Expr) (tgs : List Tg) : Prop := PGs X es (tGs X.K X.mg tgs)
theorem jg_of {X : Cx} {e : Expr} {t : TG} {tg : Tg} (h : PG X e t) (i : ∀ v σ H Q, tG X.K X.mg tg v σ H Q → t v σ H Q) : JG X e tg := ⟨fun pins s σ H v u Q I r hq => h.run pins s σ H v u Q I r (i v σ H Q hq)⟩
end DL
/-! DLr: targets with subscripts. -/
namespace DL
open PySem PySem.Spec PyProof.Rows L2

def sAsgG (tg : Tg) (m : Ex) : Sta := fun env => (m env).bind fun t en => match mv en t with
  | some p => (noX (tg p.2 p.1)).bind fun _ e => .ok .nx e
  | none => .no
section
variable {K : PySem.W.Frag} {mg : Mg} {W : WX} {F F' F1 F2 H H' H1 H2 : Hp} {env env' env1 : Env} {σ σ' : L2.St} {S S' S1 T U U1 L : List Addr} {R : Lk} {D' : Ends}
theorem t_gNm {i : Nat} {v : V} {Q : L2.St → Hp → Prop} (h : tG K mg (tgNm i) v σ H Q) : gName i v σ H Q := by
  obtain ⟨env, F, S, R, T, U, d, sm, r, h⟩ := h
  unfold tgNm at h
  cases e : setS env i d with
  | none => rw [e] at h; exact h.elim
  | some en =>
    rw [e] at h
    obtain ⟨S', s', hs⟩ := setS_ok sm r e
    exact h _ F H S' s' (Go.refl.weak fun a ha => List.mem_append.mpr (hs a ha))
theorem Go.widen {V1 : List Addr} (g : Go F H S F' H' L) : Go F H (S ++ V1) F' H' L :=
  ⟨g.sub, fun a o e n => g.fr a o e fun z => n (List.mem_append_left _ z), g.gr, fun a ha => (g.nw a ha).imp (List.mem_append_left _) id, fun a e => (g.nz a e).imp id fun z => z.imp (List.mem_append_left _) id⟩
theorem ContG.wrap {r : Res Unit} {Q : L2.St → Hp → Prop} {V1 : List Addr} (h : ContG K mg F H S U R T r Q) (g : Go F H S F1 H1 (S1 ++ U1)) (hU : ∀ a ∈ V1, a ∈ U ∨ a ∈ U1) : ContG K mg F1 H1 S1 V1 R T r Q := by
  cases r with
  | ok u e =>
    refine fun σ' F' H' S' a b => h σ' F' H' S' a ?_
    refine ⟨g.sub.trans b.sub, fun x o ex n => b.fr x o (g.fr x o ex fun z => n (List.mem_append_left _ z)) fun z => ?_, fun x e => b.gr x (g.gr x e), fun x hx => ?_, fun x e => ?_⟩
    · rcases List.mem_append.mp z with z | z
      · rcases g.nw x (List.mem_append_left _ z) with q | q
        · exact n (List.mem_append_left _ q)
        · rw [ex] at q; cases q
      · rcases hU x z with y | y
        · exact n (List.mem_append_right _ y)
        · rcases g.nw x (List.mem_append_right _ y) with q | q
          · exact n (List.mem_append_left _ q)
          · rw [ex] at q; cases q
    · rcases b.nw x hx with z | z
      · rcases List.mem_append.mp z with z | z
        · exact (g.nw x (List.mem_append_left _ z)).imp (List.mem_append_left _) id
        · rcases hU x z with y | y
          · exact .inl (List.mem_append_right _ y)
          · exact (g.nw x (List.mem_append_right _ y)).imp (List.mem_append_left _) id
      · exact .inr (g.old z)
    · rcases b.nz x e with z | z | z
      · exact (g.nz x z).imp id fun y => y.imp (List.mem_append_left _) id
      · rcases List.mem_append.mp z with z | z
        · exact .inr ((g.nw x (List.mem_append_left _ z)).imp (List.mem_append_left _) id)
        · rcases hU x z with y | y
          · exact .inr (.inl (List.mem_append_right _ y))
          · exact .inr ((g.nw x (List.mem_append_right _ y)).imp (List.mem_append_left _) id)
      · exact .inr (.inr (g.old z))
  | ex c e => exact h
  | no => exact h
/-- one item of the slot's own list is stored -/
theorem putI_ok {i : Nat} {k : Int} {d : D} {v x : V} (s : Sm K mg F H env σ S R (U ++ T)) (r : Rp K mg F (At H) d v U) (ev : σ[i]? = some (some x)) (e : putI env i k d = .ok () env') :
    ∃ p xs j, x = .ref p ∧ H p = some (.lst xs) ∧ ixN xs.length k = some j ∧ ∃ S', Sm K mg F (upd H p (.lst (xs.set j v))) env' σ S' R T ∧ Go F H (S ++ U) F (upd H p (.lst (xs.set j v))) S' := by
  unfold putI at e
  split at e
  · rename_i kd ds ei
    split at e
    · cases e
    · rename_i hk
      split at e
      · rename_i j hj
        cases e
        obtain ⟨x', Sa, Sb, ev', rp, pS, s0⟩ := s.toSm0.take ei hk
        rw [ev] at ev'
        cases ev'
        cases rp with
        | @ol a xs _ S0 h1 h2 =>
          have nd0 := nodup_count.mp s0.nd
          have hjl : j < ds.length := by
            unfold ixN at hj
            split at hj
            · split at hj
              · cases hj; omega
              · cases hj
            · split at hj
              · cases hj; omega
              · cases hj
          have nd1 : ((a :: S0) ++ U).Nodup := nodup_count.mpr fun z => by
            have := nd0 z
            simp only [List.count_append] at this ⊢
            omega
          obtain ⟨c1, c2⟩ := ne_cells (H := H) (o := .lst (xs.set j v)) nd1
          obtain ⟨S', rs, cn⟩ := (h2.mono (A' := At (upd H a (.lst (xs.set j v)))) (Sub.refl F) c1).put (i := j) hjl (r.mono (Sub.refl F) c2)
          refine ⟨a, xs, j, rfl, h1, by rw [← h2.length]; exact hj, ?_⟩
          obtain ⟨S3, s3, p3⟩ := Sm.wr (U2 := U) (V1 := a :: S') (V2 := []) s0 s.lk ei hk ev List.mem_cons_self (by intro _ z; cases z) (.ol (by show upd H a _ a = _; rw [upd_same]) rs) fun z => by
            have := cn z
            simp only [List.count_cons, List.count_nil]
            omega
          refine ⟨S3, s3, ?_⟩
          have aS : a ∈ S := pS.mem_iff.mpr (List.mem_append_left _ List.mem_cons_self)
          refine ((Go.refl (S := S ++ U)).updT (.inr (List.mem_append_left _ aS))).weak fun b hb => ?_
          have c0 := List.count_pos_iff.mpr hb
          have c4 := p3.count_eq b
          have c5 := pS.count_eq b
          have c6 := cn b
          refine List.count_pos_iff.mp ?_
          simp only [List.count_append, List.count_cons] at c0 c4 c5 c6 ⊢
          omega
      · cases e
  · cases e
theorem t_gSb {i : Nat} {mi : Ex} {v : V} {Q : L2.St → Hp → Prop} (h : tG K mg (tgSb i mi) v σ H Q) : L2.gSub (tE K mg W0 (eV i)) (tE K mg W0 mi) rSetL v σ H Q := by
  obtain ⟨env, F, S, R, T, U, d, sm, r, h⟩ := h
  unfold tgSb at h
  refine ⟨env, F, S, R, U ++ T, sm, ?_⟩
  have eV0 : eV i env = .no ∨ ∃ k0 d0, env[i]? = some (.sl k0 d0) ∧ eV i env = .ok (.loc i) env := by
    unfold eV
    cases q : env[i]? with
    | none => exact .inl rfl
    | some s0 =>
      cases s0 with
      | un => exact .inl rfl
      | sl k d => exact .inr ⟨k, d, rfl, rfl⟩
  rcases eV0 with e | ⟨k0, d0, _, e⟩
  · rw [e] at h; exact h.elim
  · rw [e] at h ⊢
    intro x F1 H1 S1 U1 s1 g1 rt1
    obtain ⟨ru, ex⟩ := rt1
    subst ru
    have keep : ∀ {F2 H2 : Hp} {L : List Addr}, Go F H S F2 H2 L → Rp K mg F2 (At H2) d v U := fun g => r.mono g.sub fun a ha o eo => g.fr a o eo fun z => by
      have nd := nodup_count.mp sm.nd a
      have := List.count_pos_iff.mpr ha
      have := List.count_pos_iff.mpr z
      simp only [List.count_append] at nd
      omega
    refine ⟨env, F1, S1, R, [] ++ (U ++ T), s1, ?_⟩
    have h' : ContG K mg F H S U R T ((mi env).bind fun t en2 => match rd en2 t with
      | some (.int k) => putI en2 i k d
      | _ => .no) Q := h
    cases em : mi env with
    | no => rw [em] at h'; exact h'.elim
    | ex c e2 => rw [em] at h'; exact h'.elim
    | ok t en2 =>
      rw [em] at h'
      intro y F2 H2 S2 U2 s2 g2 rt2
      have h2 : ContG K mg F H S U R T (match rd en2 t with
        | some (.int k) => putI en2 i k d
        | _ => .no) Q := h'
      cases er : rd en2 t with
      | none => rw [er] at h2; exact h2.elim
      | some dk =>
        rw [er] at h2
        cases dk with
        | int k =>
          have ey := (rt2.rb s2 er).int
          subst ey
          have g0 : Go F H S F2 H2 S2 := (Go.trans (U1 := []) g1 (g2.weak fun a ha => List.mem_append_left _ ha)).weak fun a ha => by simpa using ha
          have s2' : Sm K mg F2 H2 en2 σ S2 R (U ++ T) := s2.temps (by
            rw [List.nil_append]
            exact List.sublist_append_right _ _)
          have h3 : ContG K mg F H S U R T (putI en2 i k d) Q := h2
          cases ep : putI en2 i k d with
          | no => rw [ep] at h3; exact h3.elim
          | ex c e3 => rw [ep] at h3; exact h3.elim
          | ok u e3 =>
            rw [ep] at h3
            obtain ⟨p, xs, j, rfl, q1, q2, S3, s3, g3⟩ := putI_ok s2' (keep g0) ex ep
            refine ⟨p, xs, k, j, rfl, rfl, q1, q2, ?_⟩
            have h4 := ContG.wrap (V1 := U) (U1 := []) h3 (g0.weak fun a ha => by simpa using ha) fun a ha => .inl ha
            exact h4 σ F2 _ S3 s3 g3
        | _ => exact h2.elim
theorem t_gNil {vs : List V} {Q : L2.St → Hp → Prop} (h : tGs K mg [] vs σ H Q) : gNil vs σ H Q := by
  obtain ⟨env, F, S, R, T, U, ds, sm, r, h⟩ := h
  cases r with
  | nil => exact ⟨rfl, h σ F H S sm (by rw [List.append_nil]; exact Go.refl)⟩
  | cons _ _ => exact h.elim
theorem t_gCons {tg : Tg} {tgs : List Tg} {vs : List V} {Q : L2.St → Hp → Prop} (h : tGs K mg (tg :: tgs) vs σ H Q) : gCons (tG K mg tg) (tGs K mg tgs) vs σ H Q := by
  obtain ⟨env, F, S, R, T, U, ds, sm, r, h⟩ := h
  cases r with
  | nil => exact h.elim
  | @cons d dr v vr Ua Ub r1 r2 =>
    refine ⟨v, vr, rfl, env, F, S, R, Ub ++ T, Ua, d, by rw [← List.append_assoc]; exact sm, r1, ?_⟩
    have h' : ContG K mg F H S (Ua ++ Ub) R T ((tg env d).bind fun _ en => tgL tgs en dr) Q := h
    cases e : tg env d with
    | no => rw [e] at h'; exact h'.elim
    | ex c e2 => rw [e] at h'; exact h'.elim
    | ok u en =>
      rw [e] at h'
      intro σ1 F1 H1 S1 s1 g1
      refine ⟨en, F1, S1, R, T, Ub, dr, s1, ?_, ?_⟩
      · refine r2.mono g1.sub fun a ha o eo => g1.fr a o eo fun z => ?_
        have nd := nodup_count.mp sm.nd a
        have c1 := List.count_pos_iff.mpr ha
        simp only [List.count_append] at nd
        rcases List.mem_append.mp z with z | z
        · have := List.count_pos_iff.mpr z; omega
        · have := List.count_pos_iff.mpr z; omega
      · have h2 : ContG K mg F H S (Ua ++ Ub) R T (tgL tgs en dr) Q := h'
        cases e2 : tgL tgs en dr with
        | no => rw [e2] at h2; exact h2.elim
        | ex c e3 => rw [e2] at h2; exact h2.elim
        | ok u2 e3 =>
          rw [e2] at h2
          refine fun σ' F' H' S' a b => h2 σ' F' H' S' a ?_
          refine ⟨g1.sub.trans b.sub, fun x o ex n => b.fr x o (g1.fr x o ex fun z => n (by simp only [List.mem_append] at z ⊢; exact z.imp id .inl)) fun z => ?_, fun x e => b.gr x (g1.gr x e), fun x hx => ?_, fun x e => ?_⟩
          · rcases List.mem_append.mp z with z | z
            · rcases g1.nw x z with q | q
              · exact n (by simp only [List.mem_append] at q ⊢; exact q.imp id .inl)
              · rw [ex] at q; cases q
            · exact n (by simp [z])
          · rcases b.nw x hx with z | z
            · rcases List.mem_append.mp z with z | z
              · exact (g1.nw x z).imp (fun q => by simp only [List.mem_append] at q ⊢; exact q.imp id .inl) id
              · exact .inl (by simp [z])
            · refine .inr ?_
              cases q : H x with
              | none => rfl
              | some o => exact absurd z (g1.gr x (by rw [q]; simp))
          · rcases b.nz x e with z | z | z
            · exact (g1.nz x z).imp id fun y => y.imp (fun q => by simp only [List.mem_append] at q ⊢; exact q.imp id .inl) id
            · rcases List.mem_append.mp z with z | z
              · exact .inr ((g1.nw x z).imp (fun q => by simp only [List.mem_append] at q ⊢; exact q.imp id .inl) id)
              · exact .inr (.inl (by simp [z]))
            · refine .inr (.inr ?_)
              cases q : H x with
              | none => rfl
              | some o => exact absurd z (g1.gr x (by rw [q]; simp))
theorem tgL_len : ∀ {tgs : List Tg} {env : Env} {ds : List D} {u : Unit} {e : Env}, tgL tgs env ds = .ok u e → ds.length = tgs.length
  | [], env, [], _, _, _ => rfl
  | g :: gs, env, d :: ds, u, e, h => by
    have h' : ((g env d).bind fun _ en => tgL gs en ds) = .ok u e := h
    cases q : g env d with
    | no => rw [q] at h'; cases h'
    | ex c e2 => rw [q] at h'; cases h'
    | ok u2 en =>
      rw [q] at h'
      rw [List.length_cons, List.length_cons, tgL_len h']
  | [], _, _ :: _, _, _, h => by cases h
  | _ :: _, _, [], _, _, h => by cases h
theorem t_gTp {tgs : List Tg} {n : Nat} {v : V} {Q : L2.St → Hp → Prop} (hn : tgs.length = n) (h : tG K mg (tgTp tgs) v σ H Q) : gTup K n (tGs K mg tgs) v σ H Q := by
  obtain ⟨env, F, S, R, T, U, d, sm, r, h⟩ := h
  cases r with
  | @tup a vs ds _ hf hs =>
    have h' : ContG K mg F H S U R T (tgL tgs env ds) Q := h
    refine ⟨a, vs, rfl, hf.at sm.fz, ?_, env, F, S, R, T, U, ds, sm, hs, h'⟩
    cases e : tgL tgs env ds with
    | no => rw [e] at h'; exact h'.elim
    | ex c e2 => rw [e] at h'; exact h'.elim
    | ok u en => rw [← hs.length, tgL_len e, hn]
  | _ => exact h.elim
theorem t_AsgG {tg : Tg} {m : Ex} (h : tS K mg W (sAsgG tg m) D' σ H) : tAsg (tE K mg W m) (tG K mg tg) D' σ H := by
  obtain ⟨env, F, S, R, T, sm, h⟩ := h
  refine ⟨env, F, S, R, T, sm, (ContS.bind h).imp fun v H1 ⟨t1, env1, F1, S1, U1, sm1, go1, rt1, h1⟩ => ?_⟩
  cases e : mv env1 t1 with
  | none => rw [e] at h1; exact h1.elim
  | some p =>
    obtain ⟨d, env2⟩ := p
    rw [e] at h1
    obtain ⟨F2, S2, s2, g2, r2⟩ := mv_ok sm1 rt1 e
    refine ⟨env2, F2, S2, R, T, U1, d, s2, r2, ?_⟩
    have h2 : ContS K mg W F H S R T ((noX (tg env2 d)).bind fun _ e => .ok .nx e) D' := h1
    cases e2 : tg env2 d with
    | no => rw [e2] at h2; exact h2.elim
    | ex c e3 =>
      rw [e2] at h2
      exact h2.elim
    | ok u e3 =>
      rw [e2] at h2
      intro σ' F' H' S' a b
      refine h2 σ' F' H' S' a ?_
      have g3 := go1.trans (U1 := U1) g2
      refine ⟨g3.sub.trans b.sub, fun x o ex n => b.fr x o (g3.fr x o ex n) fun z => ?_, fun x e => b.gr x (g3.gr x e), fun x hx => ?_, fun x e => ?_⟩
      · rcases g3.nw x z with q | q
        · exact n q
        · rw [ex] at q; cases q
      · rcases b.nw x hx with z | z
        · exact g3.nw x z
        · exact .inr (g3.old z)
      · rcases b.nz x e with z | z | z
        · exact g3.nz x z
        · exact .inr (g3.nw x z)
        · exact .inr (.inr (g3.old z))
end
section
variable {X : Cx} {W : WX} {e : Expr} {es : List Expr} {pos pos' : Pos} {m mi : Ex} {x : Str} {tg : Tg} {tgs : List Tg} {k : Nat}
theorem jg_nm (i : Nat) (hN : X.N.Nodup) (hi : X.N[i]? = some x := by rfl) (hx : Loc X.env.scope x := by first | exact Or.inl rfl | exact Or.inr rfl) (hf : X.fn x = true ∨ X.env.scope.names.lookup x = some .local := by first | exact .inl rfl | exact .inr rfl | assumption) : JG X (.Name x pos) (tgNm i) :=
  jg_of (pg_name hN hi hx hf) fun _ _ _ _ h => t_gNm h
theorem jg_sb (i : Nat) {ix : Expr} {pn : Pos} (hi : JE X W0 ix mi) (hN : X.N[i]? = some x := by rfl) (hv : Vis X.env.scope x := by first | exact Or.inl rfl | exact Or.inr (Or.inl rfl) | exact Or.inr (Or.inr rfl)) (hd : (x == ("__debug__" : Str)) = false := by decide)
    (hcd : (x == ("__classdict__" : Str)) = false := by decide) (hs : ∀ (v : Value), assign (.Subscript (.Name x pn) ix pos) X.env v = (do
      let ov ← holding [v] (eval (.Name x pn) X.env)
      let iv ← holding [v, ov] (eval ix X.env)
      standAt pos
      holding [v, ov, iv] (setItem ov iv v)
      release [v, ov, iv] []) := by intro _; rfl) : JG X (.Subscript (.Name x pn) ix pos) (tgSb i mi) :=
  jg_of (pg_sub (je_var i hN hv hd hcd) hi set_list hs) fun _ _ _ _ h => t_gSb h
theorem jgs_nil : JGs X [] [] := ⟨fun pins s σ H v u Q I r hq => pgs_nil.run pins s σ H v u Q I r (t_gNil hq)⟩
theorem jgs_cons (h : JG X e tg) (hs : JGs X es tgs) (hh : (assignEach (e :: es) X.env).map (·.2) = assign e X.env :: (assignEach es X.env).map (·.2) := by rfl) : JGs X (e :: es) (tg :: tgs) :=
  ⟨fun pins s σ H v u Q I r hq => (pgs_cons h hs hh).run pins s σ H v u Q I r (t_gCons hq)⟩
theorem jg_tp (hc : X.calm = true) (h : JGs X es tgs) (hn : (assignEach es X.env).length = tgs.length := by rfl) (hf : (assignEach es X.env).findIdx? (·.1) = none := by rfl) : JG X (.Tuple es k pos) (tgTp tgs) :=
  jg_of (pg_tup hc h hn hf) fun _ _ _ _ h => t_gTp rfl h
theorem js_asgG {tge : Expr} (he : JE X W e m) (hg : JG X tge tg) (hs : swapsWithSole [tge] e pos.line X.env = pure false := by rfl) (hw : swappedStores [tge] e X.env = pure none := by rfl)
    (h1 : (assignEach [tge] X.env).map (·.2) = [assign tge X.env] := by rfl) : JS X W (.Assign [tge] e pos) (sAsgG tg m) := js_of (ps_asg he hg hs hw h1) fun _ _ _ h => t_AsgG h
end
/-- is True, is False -/
def gIsB : D → D → Option D
  | .bl a, .bl b => some (.bl (decide (a = b)))
  | _, _ => none
def gNotB : D → D → Option D
  | .bl a, .bl b => some (.bl (!decide (a = b)))
  | _, _ => none
theorem snd_isB {K : PySem.W.Frag} {mg : Mg} : Snd2 K mg (fun x y H Q => ∃ a b : Bool, x = V.bl a ∧ y = V.bl b ∧ Q (.bl (decide (a = b))) H) gIsB := by
  intro F H d1 d2 v1 v2 d' Q fz r1 r2 e k
  unfold gIsB at e
  split at e
  · cases e
    rw [r1.bl, r2.bl]
    exact ⟨_, _, rfl, rfl, k _ F H [] (Step.pure fz) (.bl _)⟩
  · cases e
theorem snd_notB {K : PySem.W.Frag} {mg : Mg} : Snd2 K mg (fun x y H Q => ∃ a b : Bool, x = V.bl a ∧ y = V.bl b ∧ Q (.bl (!decide (a = b))) H) gNotB := by
  intro F H d1 d2 v1 v2 d' Q fz r1 r2 e k
  unfold gNotB at e
  split at e
  · cases e
    rw [r1.bl, r2.bl]
    exact ⟨_, _, rfl, rfl, k _ F H [] (Step.pure fz) (.bl _)⟩
  · cases e
end DL
/-! DLs: a law's end. -/
namespace DL
open PySem PySem.Spec PyProof.Rows L2

/-- what is known of a script -/
structure Scr (ns : List Int) : Prop where
  len : ns.length ≤ 63
  bits : ∀ z ∈ ns, Builtin.Int.intBits z ≤ 1048576
abbrev scriptD (ns : List Int) : Sl := .sl .O (.lst false (ns.map D.int))
theorem cx_false {P : Program} {w : World} {H : Hp} {s s' : Shared} {e : Value} (h : L2.CX P w [] H s (fun _ _ _ => False) e s') : False := by
  obtain ⟨_, _, _, _, _, _, _, _, _, _, _, _, h⟩ := h
  exact h
/-- a law's promise, at a script's list at a -/
theorem law_spF {K : PySem.W.Frag} {mg : Mg} {f : Fn} {ns : List Int} {a : Addr} {H : Hp} (o : List Sl) (hf : f [scriptD ns] = .ok (.bl true) o) (hr : RdL K H a (ns.map V.int)) : spF K mg f [.ref a] H (fun v _ => v = .bl true) fun _ _ _ => False := by
  have r0 : ∀ (F : Hp), FzL K F a (ns.map V.int) → Rp K mg F (At H) (.lst false (ns.map D.int)) (.ref a) [] := fun F h => .fl h (ints_rps ns)
  have main : ∀ F : Hp, FzOk F H → FzL K F a (ns.map V.int) → spF K mg f [.ref a] H (fun v _ => v = .bl true) fun _ _ _ => False := fun F fz h => by
    refine ⟨[scriptD ns], F, [] ++ [], ⟨[], fun _ => none, fun _ => none⟩, ⟨⟨.ow (by decide) (r0 F h) .nil, by simp, fun _ z => absurd z (by simp), fz, fun _ z => absurd z (by simp), fun _ z => absurd z (by simp)⟩, ⟨fun _ _ e => (by cases e), fun i s e => ?_, fun i d e => ?_, fun _ _ _ e => (by cases e)⟩⟩, ?_⟩
    · cases i with
      | zero => cases e; rfl
      | succ i => simp at e
    · cases i with
      | zero => cases e
      | succ i => simp at e
    · rw [hf]
      intro v F' H' S' U _ _ rp
      cases rp
      rfl
  let T : Hp := fun b => match H b with
    | some (.tup vs) => some (.tup vs)
    | _ => none
  have hT : ∀ b o, T b = some o → H b = some o := fun b o e => by
    have e' : (match H b with
      | some (.tup vs) => some (HO.tup vs)
      | _ => none) = some o := e
    split at e'
    · rename_i q; rw [q]; exact e'
    · cases e'
  have hT2 : ∀ b vs, H b = some (.tup vs) → T b = some (.tup vs) := fun b vs e => by
    show (match H b with
      | some (.tup vs) => some (HO.tup vs)
      | _ => none) = some (.tup vs)
    rw [e]
  rcases hr with hr | hr
  · have na : ∀ vs, H a ≠ some (.tup vs) := fun vs e => by
      rcases hr with q | ⟨ob, q⟩ <;> rw [e] at q <;> cases q
    refine main (fun b => if b = a then some (.lst (ns.map V.int)) else T b) ⟨fun b o' e => ?_, fun b vs e => ?_⟩ (.inl (if_pos rfl))
    · by_cases hb : b = a
      · subst hb
        have e0 : (if b = b then some (HO.lst (ns.map V.int)) else T b) = some o' := e
        rw [if_pos rfl] at e0
        cases e0
        exact hr.imp id fun ⟨ob, q⟩ => ⟨fun vs z => (by cases z), ⟨ob, q⟩⟩
      · have e0 : (if b = a then some (HO.lst (ns.map V.int)) else T b) = some o' := e
        rw [if_neg hb] at e0
        exact .inl (hT b o' e0)
    · have hb : b ≠ a := fun z => na vs (z ▸ e)
      show (if b = a then some (HO.lst (ns.map V.int)) else T b) = some (.tup vs)
      rw [if_neg hb]
      exact hT2 b vs e
  · exact main T ⟨fun b o e => .inl (hT b o e), hT2⟩ (.inr hr)
theorem walk_D {l : PySem.W.OpenLaw} {n k : Nat} {q : Program} {loose : List Str} {XP : (Str → Option Value) → Heap → Prop} {YP : World → Heap → Prop} {d : DefRec} {K : Params → PySem.W.Frag} {f : Fn} {x : Str} (hn : l.most = some n) (hn2 : n ≤ 63) (hdf : d.params.defaults = []) (hr : Room k callerA)
    (hY : ∀ (w : World) (h : Heap), YP w h → (K w.params).In h)
    (F : ∀ (w : World) (mg : Str → Option Value) (fa : Addr) (h : Heap), (K w.params).In h → h.Ns mainGlobals mg → mg d.name = some (.ref fa) →
      ∃ fd, (∀ (s : Shared) (u : Value), BindsTo s fd { pos := [u] } [(x, u)]) ∧ ∀ (base : Heap), (K w.params).In base → base.Ns mainGlobals mg → FnOk l.prog w (K w.params) mg base (L2.CX l.prog w) k fa fd [x] (spF (K w.params) mg f))
    (hf : ∀ ns, Scr ns → ∃ o, f [scriptD ns] = .ok (.bl true) o) :
    PySem.W.WalkO q loose XP YP (PySem.W.OpenLaw.row l).toRowW d [] fun f vs => call f vs :=
  Att.attach_callB hn hdf fun w s₀ s₁ mg mb fa o pm cd doc a vs ns G Y ho hd hcd hmg hobj hints hlen hbits hg => by
    have KX := hY w s₁.heap Y
    obtain ⟨fd, hb, hF⟩ := F w mg fa s₁.heap KX G.T.g hmg
    obtain ⟨o2, e2⟩ := hf ns ⟨Nat.le_trans hlen hn2, hbits⟩
    refine law_call KX G.T.g G.T.b G.T.builtins G.T.nolimit hg hobj hints (Nat.le_trans hlen (Nat.le_trans hn2 (by rw [sz]; omega))) hr hF hb (fun H hO hS => law_spF o2 e2 ?_) fun H e s' h => cx_false h
    rcases hS with h | ⟨ob, its, m, hk, hc, hdt, hda, hsz, hv⟩
    · exact .inl h
    · have e := KX a ob hk
      rw [hobj] at e
      cases e
      cases hda
      exact .inr ⟨_, _, hk, hsz, hv⟩
end DL
/-! DLt: the plain side: operations at whole numbers, equal lists, loops by an invariant. -/
namespace DL
open PySem PySem.Spec PyProof.Rows L2

theorem bits_of {i : Int} {n : Nat} (h : i.natAbs < 2 ^ n) : Builtin.Int.intBits i ≤ n := by
  unfold Builtin.Int.intBits
  split
  · omega
  · rename_i h0
    have hne : i.natAbs ≠ 0 := by
      intro h1
      exact h0 (by simp [Int.natAbs_eq_zero.mp h1])
    have := (Nat.log2_lt hne).mpr h
    omega
theorem gMod_at {i j : Int} (h : 0 < j) : gMod (.int i) (.int j) = some (.int (i % j)) := by simp [gMod, gI2, h]
theorem gFdiv_at {i j : Int} (h : 0 < j) (h2 : j < 2 ^ 64) : gFdiv (.int i) (.int j) = some (.int (i / j)) := by
  have : j.natAbs.log2 < 9000 := Nat.lt_trans ((Nat.log2_lt (by omega)).mpr (show j.natAbs < 2 ^ 64 by omega)) (by omega)
  simp [gFdiv, gI2, h, this]
theorem gMul_at {i j : Int} (h : Builtin.Int.intBits i + Builtin.Int.intBits j ≤ 134217728) : gMul (.int i) (.int j) = some (.int (i * j)) := by simp [gMul, h]
theorem gMul_sm {i j : Int} (h1 : -(2 ^ 64) < i) (h2 : i < 2 ^ 64) (h3 : -(2 ^ 64) < j) (h4 : j < 2 ^ 64) : gMul (.int i) (.int j) = some (.int (i * j)) := gMul_at (by
  have := bits_of (i := i) (n := 64) (by omega)
  have := bits_of (i := j) (n := 64) (by omega)
  omega)
theorem gAdd_at {i j : Int} : gAdd (.int i) (.int j) = some (.int (i + j)) := rfl
theorem gSub_at {i j : Int} : gSub (.int i) (.int j) = some (.int (i - j)) := rfl
theorem gLt_at {i j : Int} : gLt (.int i) (.int j) = some (.bl (decide (i < j))) := rfl
theorem gLe_at {i j : Int} : gLe (.int i) (.int j) = some (.bl (decide (i ≤ j))) := rfl
theorem gGt_at {i j : Int} : gGt (.int i) (.int j) = some (.bl (decide (j < i))) := rfl
theorem gGe_at {i j : Int} : gGe (.int i) (.int j) = some (.bl (decide (j ≤ i))) := rfl
theorem gNeg_at {i : Int} : gNeg (.int i) = some (.int (-i)) := rfl
theorem gEq_at {i j : Int} : gEq (.int i) (.int j) = some (.bl (decide (i = j))) := rfl
theorem gNe_at {i j : Int} : gNe (.int i) (.int j) = some (.bl (!decide (i = j))) := rfl
/-! ### lists of whole numbers -/
def lI (ns : List Int) : List D := ns.map D.int
@[simp] theorem lI_len (ns : List Int) : (lI ns).length = ns.length := List.length_map _
theorem lI_cons (n : Int) (ns : List Int) : lI (n :: ns) = .int n :: lI ns := rfl
theorem mem_lI {d : D} {ns : List Int} : d ∈ lI ns ↔ ∃ x, x ∈ ns ∧ D.int x = d := List.mem_map
theorem lI_app (a b : List Int) : lI (a ++ b) = lI a ++ lI b := List.map_append
theorem clL_lI (ns : List Int) : clL (lI ns) = true := by
  induction ns with
  | nil => rfl
  | cons n ns ih => rw [lI_cons, clL, ih]; rfl
theorem fzL_lI (ns : List Int) : fzL (lI ns) = lI ns := fzL_cl _ (clL_lI ns)
theorem intsD_lI (ns : List Int) : intsD (lI ns) = some ns := by
  induction ns with
  | nil => rfl
  | cons n ns ih => rw [lI_cons, intsD, ih]; rfl
theorem toPyL_lI (ns : List Int) : toPyL (lI ns) = some (ns.map PyData.int) := by
  induction ns with
  | nil => rfl
  | cons n ns ih => rw [lI_cons, toPyL, ih]; rfl
theorem lay_ints (ns : List Int) : PyData.canLayAll0 (ns.map PyData.int) = true := by
  induction ns with
  | nil => rfl
  | cons n ns ih => simp [PyData.canLayAll0, PyData.canLay0, ih]
theorem depth_ints (ns : List Int) : PyData.depthAll (ns.map PyData.int) = 0 := by
  induction ns with
  | nil => rfl
  | cons n ns ih => simp [PyData.depthAll, PyData.depth, ih]
theorem shaped_list (ns : List Int) : SeqAt.shaped (.list (ns.map PyData.int)) = true := by
  simp [SeqAt.shaped, PyData.canLay0, PyData.depth, lay_ints, depth_ints]
theorem shaped_tup (ns : List Int) : SeqAt.shaped (.tuple (ns.map PyData.int)) = true := by
  simp [SeqAt.shaped, PyData.canLay0, PyData.depth, lay_ints, depth_ints]
theorem eqvAll_ints : ∀ (xs ys : List Int), PyData.eqvAll (xs.map PyData.int) (ys.map PyData.int) = decide (xs = ys)
  | [], [] => rfl
  | [], y :: ys => by simp [PyData.eqvAll]
  | x :: xs, [] => by simp [PyData.eqvAll]
  | x :: xs, y :: ys => by
    rw [List.map_cons, List.map_cons, PyData.eqvAll, eqvAll_ints xs ys, PyData.eqv]
    by_cases h : x = y <;> by_cases h2 : xs = ys <;> simp [h, h2]
theorem eqD_lst {m m' : Bool} {xs ys : List Int} : eqD (.lst m (lI xs)) (.lst m' (lI ys)) = some (decide (xs = ys)) := by
  simp only [eqD, toPy, toPyL_lI, Option.map_some, Option.bind_some, shaped_list, Bool.and_self, if_true, PyData.eqv, eqvAll_ints]
theorem eqD_tup {xs ys : List Int} : eqD (.tup (lI xs)) (.tup (lI ys)) = some (decide (xs = ys)) := by
  simp only [eqD, toPy, toPyL_lI, Option.map_some, Option.bind_some, shaped_tup, Bool.and_self, if_true, PyData.eqv, eqvAll_ints]
theorem gEq_lst {m m' : Bool} {xs ys : List Int} : gEq (.lst m (lI xs)) (.lst m' (lI ys)) = some (.bl (decide (xs = ys))) := by rw [gEq, eqD_lst]; rfl
theorem gNe_lst {m m' : Bool} {xs ys : List Int} : gNe (.lst m (lI xs)) (.lst m' (lI ys)) = some (.bl (!decide (xs = ys))) := by rw [gNe, eqD_lst]; rfl
theorem gEq_nil {m m' : Bool} {xs : List Int} : gEq (.lst m (lI xs)) (.lst m' []) = some (.bl (decide (xs = []))) := gEq_lst (ys := [])
theorem gNe_nil {m m' : Bool} {xs : List Int} : gNe (.lst m (lI xs)) (.lst m' []) = some (.bl (!decide (xs = []))) := gNe_lst (ys := [])
theorem gEq_nn {m m' : Bool} : gEq (.lst m []) (.lst m' []) = some (.bl true) := gEq_lst (xs := []) (ys := [])
theorem gNe_nn {m m' : Bool} : gNe (.lst m []) (.lst m' []) = some (.bl false) := gNe_lst (xs := []) (ys := [])
theorem gEq_tup {xs ys : List Int} : gEq (.tup (lI xs)) (.tup (lI ys)) = some (.bl (decide (xs = ys))) := by rw [gEq, eqD_tup]; rfl
theorem gNe_tup {xs ys : List Int} : gNe (.tup (lI xs)) (.tup (lI ys)) = some (.bl (!decide (xs = ys))) := by rw [gNe, eqD_tup]; rfl
theorem eqD_bl {a b : Bool} : eqD (.bl a) (.bl b) = some (decide (a = b)) := by cases a <;> cases b <;> rfl
theorem gEq_bl {a b : Bool} : gEq (.bl a) (.bl b) = some (.bl (decide (a = b))) := by rw [gEq, eqD_bl]; rfl
theorem gNe_bl {a b : Bool} : gNe (.bl a) (.bl b) = some (.bl (!decide (a = b))) := by rw [gNe, eqD_bl]; rfl
/-! ### kinds -/
theorem kit_ii : kitB "int" "int" = some true := by decide +kernel
theorem kit_bi : kitB "bool" "int" = some true := by decide +kernel
theorem kit_ib : kitB "int" "bool" = some false := by decide +kernel
theorem kit_bb : kitB "bool" "bool" = some true := by decide +kernel
theorem kit_ll : kitB "list" "list" = some true := by decide +kernel
theorem kit_lt : kitB "list" "tuple" = some false := by decide +kernel
theorem kit_tl : kitB "tuple" "list" = some false := by decide +kernel
theorem kit_tt : kitB "tuple" "tuple" = some true := by decide +kernel
theorem kit_li : kitB "list" "int" = some false := by decide +kernel
theorem kit_ti : kitB "tuple" "int" = some false := by decide +kernel
theorem gIsi_ii {i : Int} : gIsi [.int i, .ty "int"] = some (.bl true) := by simp [gIsi, tyN, kit_ii]
theorem gIsi_ib {i : Int} : gIsi [.int i, .ty "bool"] = some (.bl false) := by simp [gIsi, tyN, kit_ib]
theorem gIsi_bb {i : Bool} : gIsi [.bl i, .ty "bool"] = some (.bl true) := by simp [gIsi, tyN, kit_bb]
theorem gIsi_ll {m : Bool} {l : List D} : gIsi [.lst m l, .ty "list"] = some (.bl true) := by simp [gIsi, tyN, kit_ll]
theorem gIsi_tt {l : List D} : gIsi [.tup l, .ty "tuple"] = some (.bl true) := by simp [gIsi, tyN, kit_tt]
/-! ### loops -/
theorem forL_inv {tg : Tgt} {body : Sta} (P : Nat → Env → Prop) : ∀ (ds : List D) (n : Nat) (env : Env), (∀ (i : Nat) (d : D) (env : Env), ds[i]? = some d → P (n + i) env → ∃ e1 e2, asg tg env d = some e1 ∧ body e1 = .ok .nx e2 ∧ P (n + i + 1) e2) → P n env → ∃ e, forL tg body ds env = .ok .nx e ∧ P (n + ds.length) e
  | [], n, env, _, h => ⟨env, rfl, h⟩
  | d :: ds, n, env, st, h => by
    obtain ⟨e1, e2, h1, h2, h3⟩ := st 0 d env rfl h
    obtain ⟨e, h4, h5⟩ := forL_inv P ds (n + 1) e2 (fun i d env hi hp => by
      obtain ⟨e1, e2, q1, q2, q3⟩ := st (i + 1) d env (by simpa using hi) (by rw [show n + (i + 1) = n + 1 + i by omega]; exact hp)
      exact ⟨e1, e2, q1, q2, by rw [show n + 1 + i + 1 = n + (i + 1) + 1 by omega]; exact q3⟩) h3
    refine ⟨e, ?_, by rw [List.length_cons, show n + (ds.length + 1) = n + 1 + ds.length by omega]; exact h5⟩
    simp [forL, h1, h2, Res.bind, h4]
/-- one turn of a comprehension -/
def lcStep (tg : Tgt) (own : List Nat) (cond elt : Ex) (d : D) (env : Env) : Res (Option D) := match asg tg env d with
  | none => .no
  | some e1 => (noX (cond e1)).bind fun t e2 => match rd e2 t with
    | some (.bl true) => (noX (elt e2)).bind fun t e3 => match mv e3 t with
      | some p => (match wp own p.2 with
        | some e5 => .ok (some p.1) e5
        | none => .no)
      | none => .no
    | some (.bl false) => (match wp own e2 with
        | some e5 => .ok none e5
        | none => .no)
    | _ => .no
theorem lcL_cons {tg : Tgt} {own : List Nat} {cond elt : Ex} {d : D} {r acc : List D} {env e' : Env} {o : Option D} (h : lcStep tg own cond elt d env = .ok o e') (hl : acc.length < 16777216) :
    lcL tg own cond elt (d :: r) env acc = lcL tg own cond elt r e' (acc ++ o.toList) := by
  unfold lcStep at h
  rw [lcL]
  cases ea : asg tg env d with
  | none => rw [ea] at h; cases h
  | some e1 =>
    rw [ea] at h
    dsimp only at h ⊢
    cases ec : noX (cond e1) with
    | no => rw [ec] at h; cases h
    | ex c e2 => rw [ec] at h; cases h
    | ok t e2 =>
      rw [ec] at h
      simp only [Res.bind] at h ⊢
      split at h
      · rename_i hb
        cases ee : noX (elt e2) with
        | no => rw [ee] at h; cases h
        | ex c e3 => rw [ee] at h; cases h
        | ok t' e3 =>
          rw [ee] at h
          simp only at h ⊢
          cases em : mv e3 t' with
          | none => rw [em] at h; cases h
          | some p =>
            rw [em] at h
            simp only at h ⊢
            cases ew : wp own p.2 with
            | none => rw [ew] at h; cases h
            | some e5 =>
              rw [ew] at h
              cases h
              simp [hl, hb, ee, em, ew, Res.bind]
      · rename_i hb
        cases ew : wp own e2 with
        | none => rw [ew] at h; cases h
        | some e5 =>
          rw [ew] at h
          cases h
          simp [hb, ew]
      · cases h
theorem lcL_inv {tg : Tgt} {own : List Nat} {cond elt : Ex} (P : Nat → Env → List D → Prop) : ∀ (ds : List D) (n : Nat) (env : Env) (acc : List D), acc.length + ds.length ≤ 16777216 →
    (∀ (i : Nat) (d : D) (env : Env) (acc : List D), ds[i]? = some d → P (n + i) env acc → ∃ o e', lcStep tg own cond elt d env = .ok o e' ∧ P (n + i + 1) e' (acc ++ o.toList)) → P n env acc → ∃ acc' e', lcL tg own cond elt ds env acc = .ok acc' e' ∧ P (n + ds.length) e' acc'
  | [], n, env, acc, _, _, h => ⟨acc, env, rfl, h⟩
  | d :: ds, n, env, acc, hl, st, h => by
    rw [List.length_cons] at hl
    obtain ⟨o, e', h1, h2⟩ := st 0 d env acc rfl h
    have ho : o.toList.length ≤ 1 := by cases o <;> simp
    obtain ⟨acc', e2, h4, h5⟩ := lcL_inv P ds (n + 1) e' (acc ++ o.toList) (by rw [List.length_append]; omega) (fun i d env acc hi hp => by
      obtain ⟨o, e', q1, q2⟩ := st (i + 1) d env acc (by simpa using hi) (by rw [show n + (i + 1) = n + 1 + i by omega]; exact hp)
      exact ⟨o, e', q1, by rw [show n + 1 + i + 1 = n + (i + 1) + 1 by omega]; exact q2⟩) h2
    refine ⟨acc', e2, ?_, by rw [List.length_cons, show n + (ds.length + 1) = n + 1 + ds.length by omega]; exact h5⟩
    rw [lcL_cons h1 (by omega)]
    exact h4
theorem lcL_map {tg : Tgt} {own : List Nat} {cond elt : Ex} {env : Env} (f : D → Option D) : ∀ (ds acc : List D), acc.length + ds.length ≤ 16777216 → (∀ d ∈ ds, lcStep tg own cond elt d env = .ok (f d) env) → lcL tg own cond elt ds env acc = .ok (acc ++ ds.filterMap f) env
  | [], acc, _, _ => by simp [lcL]
  | d :: ds, acc, hl, h => by
    rw [List.length_cons] at hl
    have ho : (f d).toList.length ≤ 1 := by cases f d <;> simp
    rw [lcL_cons (h d List.mem_cons_self) (by omega), lcL_map f ds _ (by rw [List.length_append]; omega) fun d hd => h d (List.mem_cons_of_mem _ hd)]
    cases e : f d with
    | none => simp [e]
    | some x => simp [e]
end DL
/-! DLu: a call through a list of functions. -/
namespace DL
open PySem PySem.Spec PyProof.Rows L2

section
variable {M : Model} {A : Around} {E : Value → Shared → Prop} {s : Shared}
theorem arm_Call_Sub (a i : Expr) (p : Pos) (args : List Expr) (keywords : List Keyword) (pos : Pos) (env : PySem.Env) : eval (.Call (.Subscript a i p) args keywords pos) env = (do
    callWith pos (← eval (.Subscript a i p) env) [] (backTo pos (starEach args env)) (backToKw pos (keywordEach keywords env))) := rfl
theorem wpAny_Call_Sub {env : PySem.Env} {a i : Expr} {p pos : Pos} {args : List Expr} {keywords : List Keyword} {Q : Value → Shared → Prop}
    (h : wpAny M A (eval (.Subscript a i p) env) (fun f s₁ => wpAny M A (callWith pos f [] (backTo pos (starEach args env)) (backToKw pos (keywordEach keywords env))) Q E s₁) E s) :
    wpAny M A (eval (.Call (.Subscript a i p) args keywords pos) env) Q E s := by
  rw [arm_Call_Sub]
  exact wpAny_bind h
end
/-- a def that may be called from here -/
def CalOk (X : Cx) (x : Str) (fn : Fn) : Prop := ∃ k f fd ps, X.mg x = some (.ref f) ∧ FnOk X.prog X.w X.K X.mg X.base (L2.CX X.prog X.w) k f fd ps (spF X.K X.mg fn) ∧ Room k X.A ∧ PySem.W.keepIn X.K (.ref f) = true ∧ Binds X.K fd ps []
theorem cal_nil {X : Cx} : ∀ q ∈ ([] : List (Str × Fn)), CalOk X q.1 q.2 := fun q h => absurd h (by simp)
theorem cal_cons {X : Cx} {x : Str} {fn : Fn} {tab : List (Str × Fn)} (h : CalOk X x fn) (t : ∀ q ∈ tab, CalOk X q.1 q.2) : ∀ q ∈ (x, fn) :: tab, CalOk X q.1 q.2 := fun q hq => by
  rcases List.mem_cons.mp hq with rfl | hq
  · exact h
  · exact t q hq
/-- .. whichever of a table -/
def eCallD (tab : List (Str × Fn)) (mc : Ex) (ms : List Ex) : Ex := fun env => (mc env).bind fun t en => match rd en t with
  | some (.gl x) => (match tab.find? (fun p => p.1 == x) with
    | some p => eCall p.2 ms en
    | none => .no)
  | _ => .no
section
variable {X : Cx} {W : WX} {e a i : Expr} {es : List Expr} {pos p : Pos} {mc : Ex} {ms : List Ex} {tab : List (Str × Fn)} {tc : TE} {t : TA}
def tCallD (X : Cx) (W : WX) (tc : TE) (t : TA) : TE := fun σ H Q => tc σ H fun v H1 => ∃ x fn f, v = V.ref f ∧ X.mg x = some (.ref f) ∧ CalOk X x fn ∧ tCallS (spF X.K X.mg fn) (fun σ cls d H => W cls d σ H) t σ H1 Q
theorem pe_callD (hc : PE X (.Subscript a i p) tc) (hx : ∀ σ, PassesAt (L2.CX X.prog X.w) X σ (fun cls d H => W cls d σ H)) (ha : PA X (e :: es) t)
    (he : starEach (e :: es) X.env = (false, eval e X.env) :: starEach es X.env := by rfl) (hpl : (backTo pos (starEach es X.env)).any (·.1) = false := by rfl) : PE X (.Call (.Subscript a i p) (e :: es) [] pos) (tCallD X W tc t) := by
  refine ⟨fun pins s σ H Q I h => ?_⟩
  refine wpAny_Call_Sub (thn (hc.run pins s σ H _ I h) fun u s1 ⟨v, H1, I1, rv, x, fn, f, ev, hm, ⟨k, f', fd, ps, hm', F, hr, hk, hb⟩, q⟩ => ?_)
  rw [hm] at hm'
  cases hm'
  subst ev
  obtain rfl : u = Value.ref f := rv
  refine PySem.W.callWith_K (h₀ := X.base) I1.ok.mod.kin hk (thn (ha.run pos pins s1 σ H1 _ I1 q) fun us s2 ⟨vs, H2, I2, r, q⟩ => ⟨I2.kIn, ?_⟩) he hpl
  exact run_fnS (E := fun σ cls d H => W cls d σ H) F hr hb (hx σ) I2 r q
theorem je_callD (hc : JE X W (.Subscript a i p) mc) (tk : Takes X W) (ht : ∀ q ∈ tab, CalOk X q.1 q.2) (ha : JA X W (e :: es) ms)
    (he : starEach (e :: es) X.env = (false, eval e X.env) :: starEach es X.env := by rfl) (hpl : (backTo pos (starEach es X.env)).any (·.1) = false := by rfl) : JE X W (.Call (.Subscript a i p) (e :: es) [] pos) (eCallD tab mc ms) :=
  je_of (pe_callD hc (fun σ => passAt tk σ) ha he hpl) fun σ H Q h => by
    obtain ⟨env, F, S, R, T, sm, h⟩ := h
    refine ⟨env, F, S, R, T, sm, (Cont.bind h).imp fun v H1 ⟨t1, en, F1, S1, U1, sm1, go1, rt1, h1⟩ => ?_⟩
    cases er : rd en t1 with
    | none => rw [er] at h1; exact h1.elim
    | some d =>
      rw [er] at h1
      cases d with
      | gl x =>
        dsimp only at h1
        cases ef : tab.find? (fun p => p.1 == x) with
        | none => rw [ef] at h1; exact h1.elim
        | some q =>
          rw [ef] at h1
          dsimp only at h1
          obtain ⟨S0, rb⟩ := rt1.rb sm1 er
          cases rb with
          | @gl _ f hm =>
            have hq : q.1 = x := by simpa using List.find?_some ef
            refine ⟨x, q.2, f, rfl, hm, hq ▸ ht q (List.mem_of_find?_eq_some ef), ?_⟩
            exact t_Call ⟨en, F1, S1, R, U1 ++ T, sm1, Cont.re h1 go1⟩
      | _ => exact h1.elim
end
end DL
/-! DLv: dictionaries: keys, look-ups, stores. -/
namespace DL
open PySem PySem.Spec PyProof.Rows L2

def keyK : D → Option L2.Key
  | .int i => some (.inl i)
  | .str x => some (.inr x)
  | _ => none
def keyL : List D → Option (List L2.Key)
  | [] => some []
  | d :: r => (keyK d).bind fun k => (keyL r).map fun ks => k :: ks
def keyT : D → Option (List L2.Key)
  | .tup l => keyL l
  | _ => none
theorem keyK_kD (k : L2.Key) : keyK (kD k) = some k := by cases k <;> rfl
theorem keyK_eq {d : D} {k : L2.Key} (h : keyK d = some k) : d = kD k := by
  cases d <;> first | (cases h; rfl) | (cases h)
theorem keyL_map : ∀ ks : List L2.Key, keyL (ks.map kD) = some ks
  | [] => rfl
  | k :: ks => by rw [List.map_cons, keyL, keyK_kD, keyL_map ks]; rfl
theorem keyL_eq : ∀ {l : List D} {ks : List L2.Key}, keyL l = some ks → l = ks.map kD
  | [], ks, h => by cases h; rfl
  | d :: r, ks, h => by
    rw [keyL] at h
    cases e : keyK d with
    | none => rw [e] at h; cases h
    | some k =>
      rw [e, Option.bind_some] at h
      cases e2 : keyL r with
      | none => rw [e2] at h; cases h
      | some ks' =>
        rw [e2] at h
        cases h
        rw [List.map_cons, ← keyK_eq e, ← keyL_eq e2]
theorem keyT_tD (ks : List L2.Key) : keyT (tD ks) = some ks := keyL_map ks
theorem keyT_eq {d : D} {ks : List L2.Key} (h : keyT d = some ks) : d = tD ks := by
  cases d with
  | tup l => rw [tD, ← keyL_eq h]
  | _ => cases h
def kEq (t : Dk) (a b : D) : Bool := match t with
  | .k => (match keyK a, keyK b with
    | some x, some y => decide (x = y)
    | _, _ => false)
  | .t => (match keyT a, keyT b with
    | some x, some y => decide (x = y)
    | _, _ => false)
def isKey (t : Dk) (a : D) : Bool := match t with
  | .k => (keyK a).isSome
  | .t => (keyT a).isSome
def lkD (t : Dk) (l : List (D × D)) (k : D) : Option D := (l.find? fun p => kEq t p.1 k).map (·.2)
def ptD (t : Dk) (l : List (D × D)) (k v : D) : List (D × D) := if (l.any fun p => kEq t p.1 k) = true then l.map (fun p => if kEq t p.1 k = true then (p.1, v) else p) else l ++ [(k, v)]
theorem kEq_k (a b : L2.Key) : kEq .k (kD a) (kD b) = decide (a = b) := by
  unfold kEq
  simp only [keyK_kD]
theorem kEq_t (a b : List L2.Key) : kEq .t (tD a) (tD b) = decide (a = b) := by
  unfold kEq
  simp only [keyT_tD]
section
variable {K : PySem.W.Frag} {mg : Mg} {F F' H H' : Hp} {A A' : Addr → HO → Prop} {κ : Type} [DecidableEq κ] {enc : κ → D} {t : Dk}
/-- the data of a dict's cells -/
def zlD (enc : κ → D) (kvs : List (κ × V)) (ds : List D) : List (D × D) := (kvs.map fun p => enc p.1).zip ds
theorem zlD_cons (p : κ × V) (kvs : List (κ × V)) (d : D) (ds : List D) : zlD enc (p :: kvs) (d :: ds) = (enc p.1, d) :: zlD enc kvs ds := rfl
theorem any_rel (he : ∀ a b, kEq t (enc a) (enc b) = decide (a = b)) (k : κ) : ∀ {kvs : List (κ × V)} {ds : List D}, ds.length = kvs.length → (zlD enc kvs ds).any (fun p => kEq t p.1 (enc k)) = kvs.any fun p => decide (p.1 = k)
  | [], _, _ => rfl
  | p :: kvs, [], h => by simp at h
  | p :: kvs, d :: ds, h => by
    rw [zlD_cons, List.any_cons, List.any_cons, any_rel he k (by simpa using h), he]
theorem lk_some (he : ∀ a b, kEq t (enc a) (enc b) = decide (a = b)) (k : κ) : ∀ {kvs : List (κ × V)} {ds : List D}, Rps K mg F A ds (kvs.map (·.2)) [] → ∀ {d : D}, lkD t (zlD enc kvs ds) (enc k) = some d → ∃ v, valV kvs k = some v ∧ Rp K mg F A' d v []
  | [], _, _, _, h => by cases h
  | p :: kvs, ds, r, d, h => by
    rw [List.map_cons] at r
    cases ds with
    | nil => cases r
    | cons d0 ds =>
      have r0 : Rp K mg F A d0 p.2 [] := r.at0 (i := 0) rfl rfl
      have r1 : Rps K mg F A ds (kvs.map (·.2)) [] := Rps.nil_of (fun i v' d' e1 e2 => r.at0 (i := i + 1) (by simpa using e1) (by simpa using e2)) (by have := r.length; simpa using this)
      unfold lkD at h
      rw [zlD_cons, List.find?_cons, he] at h
      by_cases c : p.1 = k
      · rw [decide_eq_true c] at h
        cases h
        exact ⟨p.2, valV_pos c, r0.any⟩
      · rw [decide_eq_false c] at h
        rw [valV_neg c]
        exact lk_some he k r1 h
theorem lk_none (he : ∀ a b, kEq t (enc a) (enc b) = decide (a = b)) (k : κ) : ∀ {kvs : List (κ × V)} {ds : List D}, ds.length = kvs.length → lkD t (zlD enc kvs ds) (enc k) = none → valV kvs k = none
  | [], _, _, _ => rfl
  | p :: kvs, [], h, _ => by simp at h
  | p :: kvs, d :: ds, h, e => by
    unfold lkD at e
    rw [zlD_cons, List.find?_cons, he] at e
    by_cases c : p.1 = k
    · rw [decide_eq_true c] at e
      cases e
    · rw [decide_eq_false c] at e
      rw [valV_neg c]
      exact lk_none he k (by simpa using h) e
theorem pt_map (he : ∀ a b, kEq t (enc a) (enc b) = decide (a = b)) (k : κ) {d : D} {v : V} (rv : Rp K mg F A d v []) : ∀ {kvs : List (κ × V)} {ds : List D}, Rps K mg F A ds (kvs.map (·.2)) [] →
    ∃ ds', (zlD enc kvs ds).map (fun p => if kEq t p.1 (enc k) = true then (p.1, d) else p) = zlD enc (kvs.map fun kv => if kv.1 = k then (kv.1, v) else kv) ds' ∧ Rps K mg F A ds' ((kvs.map fun kv => if kv.1 = k then (kv.1, v) else kv).map (·.2)) []
  | [], ds, r => by
    cases r
    exact ⟨[], rfl, .nil⟩
  | p :: kvs, ds, r => by
    rw [List.map_cons] at r
    cases ds with
    | nil => cases r
    | cons d0 ds =>
      have r0 : Rp K mg F A d0 p.2 [] := r.at0 (i := 0) rfl rfl
      have r1 : Rps K mg F A ds (kvs.map (·.2)) [] := Rps.nil_of (fun i v' d' e1 e2 => r.at0 (i := i + 1) (by simpa using e1) (by simpa using e2)) (by have := r.length; simpa using this)
      obtain ⟨ds', e1, r2⟩ := pt_map he k rv r1
      by_cases c : p.1 = k
      · refine ⟨d :: ds', ?_, ?_⟩
        · rw [zlD_cons, List.map_cons, List.map_cons, e1, if_pos (by rw [he, decide_eq_true c]), if_pos c]
          rfl
        · rw [List.map_cons, if_pos c, List.map_cons]
          exact .cons (S := []) (T := []) rv r2
      · refine ⟨d0 :: ds', ?_, ?_⟩
        · rw [zlD_cons, List.map_cons, List.map_cons, e1, if_neg (by rw [he, decide_eq_false c]; simp), if_neg c]
          rfl
        · rw [List.map_cons, if_neg c, List.map_cons]
          exact .cons (S := []) (T := []) r0 r2
theorem pt_rel (he : ∀ a b, kEq t (enc a) (enc b) = decide (a = b)) (k : κ) {d : D} {v : V} (rv : Rp K mg F A d v []) {kvs : List (κ × V)} {ds : List D} (r : Rps K mg F A ds (kvs.map (·.2)) []) :
    ∃ ds', ptD t (zlD enc kvs ds) (enc k) d = zlD enc (putK kvs k v) ds' ∧ Rps K mg F A ds' ((putK kvs k v).map (·.2)) [] := by
  have hl : ds.length = kvs.length := by have := r.length; simpa using this
  unfold ptD putK
  rw [any_rel he k hl]
  by_cases c : (kvs.any fun p => decide (p.1 = k)) = true
  · rw [if_pos c, if_pos c]
    exact pt_map he k rv r
  · rw [if_neg c, if_neg c]
    refine ⟨ds ++ [d], ?_, ?_⟩
    · unfold zlD
      rw [List.map_append, List.zip_append (by rw [List.length_map, hl])]
      rfl
    · rw [List.map_append]
      exact Rps.append (S := []) (T := []) r (.cons (S := []) (T := []) rv .nil)
theorem zlD_len {kvs : List (κ × V)} {ds : List D} (h : ds.length = kvs.length) : (zlD enc kvs ds).length = kvs.length := by
  unfold zlD
  rw [List.length_zip, List.length_map, h, Nat.min_self]
theorem zlD_cl {kvs : List (κ × V)} {ds : List D} (h : ds.length = kvs.length) : clK (zlD enc kvs ds) = clL ds := by
  rw [clK_all, zlD, zip_snd (by rw [List.length_map, h])]
end
section
variable {K : PySem.W.Frag} {mg : Mg} {W : WX} {F F' F1 F2 H H' H1 H2 : Hp} {env env' env1 : Env} {σ σ' : L2.St} {S S' S1 T U U1 L : List Addr} {R : Lk} {A : Addr → HO → Prop}
/-- a dict's reading: of the one kind or the other -/
theorem Rb.dct {m : Bool} {t : Dk} {l : List (D × D)} {v : V} (fz : FzOk F H) (h : Rb K mg F H (.dct m t l) v) : ∃ a S, v = .ref a ∧
    ((t = .k ∧ ∃ kvs ds, l = zlD kD kvs ds ∧ Rd H a (.dK kvs) ∧ Rps K mg F (Rt H) ds (kvs.map (·.2)) S) ∨ (t = .t ∧ ∃ kvs ds, l = zlD tD kvs ds ∧ Rd H a (.dT kvs) ∧ Rps K mg F (Rt H) ds (kvs.map (·.2)) S)) := by
  obtain ⟨S, h⟩ := h
  cases h with
  | fK h1 h2 h3 h4 => subst h2 h3; exact ⟨_, _, rfl, .inl ⟨rfl, _, _, rfl, (fz.ok _ _ h1).rd, h4⟩⟩
  | oK h1 h2 h3 h4 => subst h2 h3; exact ⟨_, _, rfl, .inl ⟨rfl, _, _, rfl, h1, h4⟩⟩
  | fT h1 h2 h3 h4 => subst h2 h3; exact ⟨_, _, rfl, .inr ⟨rfl, _, _, rfl, (fz.ok _ _ h1).rd, h4⟩⟩
  | oT h1 h2 h3 h4 => subst h2 h3; exact ⟨_, _, rfl, .inr ⟨rfl, _, _, rfl, h1, h4⟩⟩
theorem Rps.keys : ∀ {ks : List L2.Key} {vs : List V} {S : List Addr}, Rps K mg F A (ks.map kD) vs S → vs = ks.map kV
  | [], _, _, h => by cases h; rfl
  | k :: ks, _, _, h => by
    cases h with
    | cons h1 h2 =>
      rw [List.map_cons, ← Rps.keys h2]
      cases k with
      | inl i => cases h1; rfl
      | inr x => cases h1; rfl
theorem Rb.keyK {d : D} {k : L2.Key} {v : V} (h : Rb K mg F H d v) (e : DL.keyK d = some k) : v = kV k := by
  rw [keyK_eq e] at h
  cases k with
  | inl i => exact h.int
  | inr x => exact h.str
theorem Rb.keyT {d : D} {ks : List L2.Key} {v : V} (fz : FzOk F H) (h : Rb K mg F H d v) (e : DL.keyT d = some ks) : ∃ b, v = .ref b ∧ H b = some (.tup (ks.map kV)) := by
  rw [keyT_eq e] at h
  obtain ⟨b, vs, S, rfl, h1, h2, h3⟩ := h.tupF fz
  exact ⟨b, rfl, by rw [← h3.keys]; exact h1.ex fz⟩
/-- what is found at a key, in the heap -/
theorem dget_of {m : Bool} {t : Dk} {l : List (D × D)} {v y : V} {k : D} (fz : FzOk F H) (h : Rb K mg F H (.dct m t l) v) (hk : Rb K mg F H k y) (ik : isKey t k = true) (hc : clK l = true) :
    ∃ a o, v = .ref a ∧ DGet H a y o ∧ (∀ d, lkD t l k = some d → ∃ w, o = some w ∧ Rp K mg F (At H) d w []) ∧ (lkD t l k = none → o = none) := by
  obtain ⟨a, S, rfl, q⟩ := h.dct fz
  rcases q with ⟨rfl, kvs, ds, rfl, h1, h2⟩ | ⟨rfl, kvs, ds, rfl, h1, h2⟩
  · have hl : ds.length = kvs.length := by have := h2.length; simpa using this
    rw [zlD_cl hl] at hc
    have h3 := h2.rt0 hc (A := At H)
    obtain ⟨j, ej⟩ := Option.isSome_iff_exists.mp (show (DL.keyK k).isSome = true from ik)
    have ey := hk.keyK ej
    have ek := keyK_eq ej
    subst ey ek
    refine ⟨a, valV kvs j, rfl, .inl ⟨kvs, j, h1, rfl, rfl⟩, fun d e => lk_some kEq_k j h3 e, fun e => lk_none kEq_k j hl e⟩
  · have hl : ds.length = kvs.length := by have := h2.length; simpa using this
    rw [zlD_cl hl] at hc
    have h3 := h2.rt0 hc (A := At H)
    obtain ⟨j, ej⟩ := Option.isSome_iff_exists.mp (show (DL.keyT k).isSome = true from ik)
    obtain ⟨b, rfl, eb⟩ := hk.keyT fz ej
    have ek := keyT_eq ej
    subst ek
    exact ⟨a, valV kvs j, rfl, .inr ⟨kvs, j, b, h1, rfl, eb, rfl⟩, fun d e => lk_some kEq_t j h3 e, fun e => lk_none kEq_t j hl e⟩
/-! ### d[k], k in d -/
def gDx : D → D → Option D
  | .dct _ t l, k => if isKey t k && clK l then lkD t l k else none
  | _, _ => none
def rDx : R2 := fun x y H Q => ∃ a v, x = .ref a ∧ DGet H a y (some v) ∧ Q v H
theorem snd_dx : Snd2 K mg rDx gDx := by
  intro F H d1 d2 v1 v2 d' Q fz r1 r2 e k
  cases d1 with
  | dct m t l =>
    have e' : (if (isKey t d2 && clK l) = true then lkD t l d2 else none) = some d' := e
    by_cases c : (isKey t d2 && clK l) = true
    · rw [if_pos c] at e'
      rw [Bool.and_eq_true] at c
      obtain ⟨a, o, rfl, g, h1, _⟩ := dget_of fz r1 r2 c.1 c.2
      obtain ⟨w, rfl, rw'⟩ := h1 d' e'
      exact ⟨a, w, rfl, g, k _ F H [] (Step.pure fz) rw'⟩
    · rw [if_neg c] at e'; cases e'
  | _ => cases e
/-- of a dict, or of a sequence -/
def gIxA : D → D → Option D
  | .dct m t l, k => gDx (.dct m t l) k
  | d, k => gIx d k
def gInA : D → D → Option D
  | k, .dct _ t l => if isKey t k && clK l then some (.bl (lkD t l k).isSome) else none
  | k, d => gIn k d
def gNotInA : D → D → Option D
  | k, .dct _ t l => if isKey t k && clK l then some (.bl (!(lkD t l k).isSome)) else none
  | k, d => gNotIn k d
end
end DL
/-! DLw: dictionaries: the rules. -/
namespace DL
open PySem PySem.Spec PyProof.Rows L2

theorem pe_or2 {X : Cx} {e : Expr} {t1 t2 : TE} (h1 : PE X e t1) (h2 : PE X e t2) : PE X e fun σ H Q => t1 σ H Q ∨ t2 σ H Q :=
  ⟨fun pins s σ H Q I h => h.elim (h1.run pins s σ H Q I) (h2.run pins s σ H Q I)⟩
theorem e2_ixA (ma mb : Ex) (env : Env) : e2 gIxA ma mb env = e2 gIx ma mb env ∨ e2 gIxA ma mb env = e2 gDx ma mb env := by
  unfold e2
  cases ma env with
  | no => exact .inl rfl
  | ex c e => exact .inl rfl
  | ok t1 en1 =>
    show ((mb en1).bind fun t2 en2 => opt en2 ((rd en2 t1).bind fun d1 => (rd en2 t2).bind fun d2 => gIxA d1 d2)) = ((mb en1).bind fun t2 en2 => opt en2 ((rd en2 t1).bind fun d1 => (rd en2 t2).bind fun d2 => gIx d1 d2)) ∨
      ((mb en1).bind fun t2 en2 => opt en2 ((rd en2 t1).bind fun d1 => (rd en2 t2).bind fun d2 => gIxA d1 d2)) = ((mb en1).bind fun t2 en2 => opt en2 ((rd en2 t1).bind fun d1 => (rd en2 t2).bind fun d2 => gDx d1 d2))
    cases mb en1 with
    | no => exact .inl rfl
    | ex c e => exact .inl rfl
    | ok t2 en2 =>
      show opt en2 ((rd en2 t1).bind fun d1 => (rd en2 t2).bind fun d2 => gIxA d1 d2) = opt en2 ((rd en2 t1).bind fun d1 => (rd en2 t2).bind fun d2 => gIx d1 d2) ∨ opt en2 ((rd en2 t1).bind fun d1 => (rd en2 t2).bind fun d2 => gIxA d1 d2) = opt en2 ((rd en2 t1).bind fun d1 => (rd en2 t2).bind fun d2 => gDx d1 d2)
      cases rd en2 t1 with
      | none => exact .inl rfl
      | some d1 =>
        cases d1 with
        | dct m t l => exact .inr rfl
        | _ => exact .inl rfl
theorem hu2 {A : Around} {k : Nat} (hr : Room k A) : A.units + 1 < cLine := by
  have := hu65 hr
  omega
section
variable {X : Cx} {W : WX} {a b c e : Expr} {pos apos cpos : Pos} {ma mb mc mo mk md m : Ex}
theorem je_ixA (hu : X.A.units + 1 < cLine) (ha : JE X W a ma) (hb : JE X W b mb) (hp : PlainIx b := by exact fun _ _ => rfl) (hs : NoSl b := by exact fun _ _ => rfl) : JE X W (.Subscript a b pos) (e2 gIxA ma mb) :=
  je_of (pe_or2 (pe_ix ix_seq ha hb hp) (pe_dget hu ha hb hs)) fun σ H Q h => by
    obtain ⟨env, F, S, R, T, sm, h⟩ := h
    rcases e2_ixA ma mb env with e | e
    · exact .inl (t_e2 snd_ix ⟨env, F, S, R, T, sm, by rw [← e]; exact h⟩)
    · exact .inr (t_e2 snd_dx ⟨env, F, S, R, T, sm, by rw [← e]; exact h⟩)
end
/-! ### in -/
def rDIn : R2 := fun x y H Q => ∃ a o, y = .ref a ∧ DGet H a x o ∧ Q (.bl o.isSome) H
def rDNotIn : R2 := fun x y H Q => ∃ a o, y = .ref a ∧ DGet H a x o ∧ Q (.bl (!o.isSome)) H
theorem op_dIn {X : Cx} (hu : X.A.units + 1 < cLine) : OpR X (compareOp .In) rDIn := by
  rintro pins s σ H x y v u Q I rx ry ⟨a, o, rfl, g, q⟩
  cases ry
  exact d_in hu I g rx fun s' I' => ⟨.bl o.isSome, H, I', rfl, q⟩
theorem op_dNotIn {X : Cx} (hu : X.A.units + 1 < cLine) : OpR X (compareOp .NotIn) rDNotIn := by
  rintro pins s σ H x y v u Q I rx ry ⟨a, o, rfl, g, q⟩
  cases ry
  exact d_notIn hu I g rx fun s' I' => ⟨.bl (!o.isSome), H, I', rfl, q⟩
theorem op_inA {X : Cx} {k : Nat} (hr : Room k X.A) : OpR X (compareOp .In) (fun x y H Q => rInD X.K x y H Q ∨ rDIn x y H Q) := OpR.or (op_inD (hu65 hr)) (op_dIn (hu2 hr))
theorem op_notInA {X : Cx} {k : Nat} (hr : Room k X.A) : OpR X (compareOp .NotIn) (fun x y H Q => rNotInD X.K x y H Q ∨ rDNotIn x y H Q) := OpR.or (op_notInD (hu65 hr)) (op_dNotIn (hu2 hr))
section
variable {K : PySem.W.Frag} {mg : Mg} {W : WX} {F F' F1 F2 H H' H1 H2 : Hp} {env env' env1 : Env} {σ σ' : L2.St} {S S' S1 T U U1 L : List Addr} {R : Lk} {A : Addr → HO → Prop}
theorem look_isSome {m : Bool} {t : Dk} {l : List (D × D)} {v y : V} {k : D} (fz : FzOk F H) (h : Rb K mg F H (.dct m t l) v) (hk : Rb K mg F H k y) (ik : isKey t k = true) (hc : clK l = true) : ∃ a o, v = .ref a ∧ DGet H a y o ∧ o.isSome = (lkD t l k).isSome := by
  obtain ⟨a, o, rfl, g, h1, h2⟩ := dget_of fz h hk ik hc
  refine ⟨a, o, rfl, g, ?_⟩
  cases e : lkD t l k with
  | none => rw [h2 e]; rfl
  | some d =>
    obtain ⟨w, rfl, _⟩ := h1 d e
    rfl
theorem snd_inA : Snd2 K mg (fun x y H Q => rInD K x y H Q ∨ rDIn x y H Q) gInA := by
  intro F H d1 d2 v1 v2 d' Q fz r1 r2 e k
  cases d2 with
  | dct m t l =>
    have e' : (if (isKey t d1 && clK l) = true then some (D.bl (lkD t l d1).isSome) else none) = some d' := e
    by_cases c : (isKey t d1 && clK l) = true
    · rw [if_pos c] at e'
      cases e'
      rw [Bool.and_eq_true] at c
      obtain ⟨a, o, rfl, g, h1⟩ := look_isSome fz r2 r1 c.1 c.2
      exact .inr ⟨a, o, rfl, g, by rw [h1]; exact k _ F H [] (Step.pure fz) (.bl _)⟩
    · rw [if_neg c] at e'; cases e'
  | _ => exact .inl (snd_in F H d1 _ v1 v2 d' Q fz r1 r2 e k)
theorem snd_notInA : Snd2 K mg (fun x y H Q => rNotInD K x y H Q ∨ rDNotIn x y H Q) gNotInA := by
  intro F H d1 d2 v1 v2 d' Q fz r1 r2 e k
  cases d2 with
  | dct m t l =>
    have e' : (if (isKey t d1 && clK l) = true then some (D.bl (!(lkD t l d1).isSome)) else none) = some d' := e
    by_cases c : (isKey t d1 && clK l) = true
    · rw [if_pos c] at e'
      cases e'
      rw [Bool.and_eq_true] at c
      obtain ⟨a, o, rfl, g, h1⟩ := look_isSome fz r2 r1 c.1 c.2
      exact .inr ⟨a, o, rfl, g, by rw [h1]; exact k _ F H [] (Step.pure fz) (.bl _)⟩
    · rw [if_neg c] at e'; cases e'
  | _ => exact .inl (snd_notIn F H d1 _ v1 v2 d' Q fz r1 r2 e k)
/-! ### d.get(k, x) -/
def gDGet : D → D → D → Option D
  | .dct _ t l, k, d => if isKey t k && clK l && d.cl then some ((lkD t l k).getD d) else none
  | _, _, _ => none
def isDc : Option D → Bool
  | some (.dct _ _ _) => true
  | _ => false
def eDGet (mo mk md : Ex) : Ex := fun env => (mo env).bind fun t1 e1 => if isDc (rd e1 t1) = true then (mk e1).bind fun t2 e2 => (md e2).bind fun t3 e3 => opt e3 ((rd e3 t1).bind fun d1 => (rd e3 t2).bind fun d2 => (rd e3 t3).bind fun d3 => gDGet d1 d2 d3) else .no
def eDGet1 (mo mk : Ex) : Ex := fun env => (mo env).bind fun t1 e1 => if isDc (rd e1 t1) = true then (mk e1).bind fun t2 e2 => opt e2 ((rd e2 t1).bind fun d1 => (rd e2 t2).bind fun d2 => gDGet d1 d2 .non) else .no
theorem isD_of {o : Option D} (h : isDc o = true) : ∃ m t l, o = some (.dct m t l) := by
  unfold isDc at h
  split at h
  · exact ⟨_, _, _, rfl⟩
  · cases h
theorem Rb.isD {m : Bool} {t : Dk} {l : List (D × D)} {v : V} (fz : FzOk F H) (h : Rb K mg F H (.dct m t l) v) : ∃ a, v = .ref a ∧ IsD H a := by
  obtain ⟨a, S, rfl, q⟩ := h.dct fz
  rcases q with ⟨_, kvs, ds, _, h1, _⟩ | ⟨_, kvs, ds, _, h1, _⟩
  · exact ⟨a, rfl, .inl ⟨kvs, h1⟩⟩
  · exact ⟨a, rfl, .inr ⟨kvs, h1⟩⟩
theorem Rb.cl0 {d : D} {v : V} (h : Rb K mg F H d v) (hc : d.cl = true) {A : Addr → HO → Prop} : Rp K mg F A d v [] := by
  obtain ⟨S, h⟩ := h
  rw [h.clean hc] at h
  exact h.any
theorem t_DGet {mo mk md : Ex} {Q : VK} (h : tE K mg W (eDGet mo mk md) σ H Q) : tDGet2 (tE K mg W mo) (tE K mg W mk) (tE K mg W md) σ H Q := by
  obtain ⟨env, F, S, R, T, sm, h⟩ := h
  refine ⟨env, F, S, R, T, sm, (Cont.bind h).imp fun v1 H1 ⟨t1, env1, F1, S1, U1, sm1, go1, rt1, h1⟩ => ?_⟩
  by_cases hd : isDc (rd env1 t1) = true
  · rw [if_pos hd] at h1
    obtain ⟨m, t, l, e⟩ := isD_of hd
    obtain ⟨a, rfl, hI⟩ := (rt1.rb sm1 e).isD sm1.fz
    refine ⟨a, rfl, hI, env1, F1, S1, R, U1 ++ T, sm1, (h1.then go1).imp fun v2 H2 ⟨t2, env2, F2, S2, U2, sm2, go2, go12, rt2, h2⟩ => ?_⟩
    refine ⟨env2, F2, S2, R, (U2 ++ U1) ++ T, sm2, (h2.then go2).imp fun v3 H3 ⟨t3, env3, F3, S3, U3, sm3, go3, go23, rt3, h3⟩ => ?_⟩
    have rt1' := (rt1.later sm1 go12).later (T := U2 ++ T) (sm2.perm (by
      rw [← List.append_assoc]
      exact List.Perm.append_right _ List.perm_append_comm)) go23
    have rt2' := rt2.later (T := U1 ++ T) (sm2.perm (by rw [List.append_assoc])) go23
    cases ea : rd env3 t1 with
    | none => rw [ea] at h3; exact h3.elim
    | some d1 =>
      cases eb : rd env3 t2 with
      | none => rw [ea, eb] at h3; exact h3.elim
      | some d2 =>
        cases ec : rd env3 t3 with
        | none => rw [ea, eb, ec] at h3; exact h3.elim
        | some d3 =>
          rw [ea, eb, ec, Option.bind_some, Option.bind_some, Option.bind_some] at h3
          cases eg : gDGet d1 d2 d3 with
          | none => rw [eg] at h3; exact h3.elim
          | some d' =>
            rw [eg] at h3
            cases d1 with
            | dct m' t' l' =>
              have e' : (if (isKey t' d2 && clK l' && d3.cl) = true then some ((lkD t' l' d2).getD d3) else none) = some d' := eg
              by_cases c : (isKey t' d2 && clK l' && d3.cl) = true
              · rw [if_pos c] at e'
                cases e'
                rw [Bool.and_eq_true, Bool.and_eq_true] at c
                obtain ⟨a', o, ea', g, q1, q2⟩ := dget_of sm3.fz (rt1'.rb sm3 ea) (rt2'.rb sm3 eb) c.1.1 c.1.2
                cases ea'
                refine ⟨o, g, ?_⟩
                have r3 := (rt3.rb sm3 ec).cl0 (A := At H3) c.2
                refine h3.done0 sm3 go3 (Step.pure sm3.fz) ?_
                cases el : lkD t' l' d2 with
                | none => rw [q2 el]; exact r3
                | some d0 =>
                  obtain ⟨w, rfl, rw'⟩ := q1 d0 el
                  exact rw'
              · rw [if_neg c] at e'; cases e'
            | _ => cases eg
  · rw [if_neg hd] at h1
    exact h1.elim
theorem t_DGet1 {mo mk : Ex} {Q : VK} (h : tE K mg W (eDGet1 mo mk) σ H Q) : tDGet1 (tE K mg W mo) (tE K mg W mk) σ H Q := by
  obtain ⟨env, F, S, R, T, sm, h⟩ := h
  refine ⟨env, F, S, R, T, sm, (Cont.bind h).imp fun v1 H1 ⟨t1, env1, F1, S1, U1, sm1, go1, rt1, h1⟩ => ?_⟩
  by_cases hd : isDc (rd env1 t1) = true
  · rw [if_pos hd] at h1
    obtain ⟨m, t, l, e⟩ := isD_of hd
    obtain ⟨a, rfl, hI⟩ := (rt1.rb sm1 e).isD sm1.fz
    refine ⟨a, rfl, hI, env1, F1, S1, R, U1 ++ T, sm1, (h1.then go1).imp fun v2 H2 ⟨t2, env2, F2, S2, U2, sm2, go2, go12, rt2, h2⟩ => ?_⟩
    have rt1' := rt1.later sm1 go12
    cases ea : rd env2 t1 with
    | none => rw [ea] at h2; exact h2.elim
    | some d1 =>
      cases eb : rd env2 t2 with
      | none => rw [ea, eb] at h2; exact h2.elim
      | some d2 =>
        rw [ea, eb, Option.bind_some, Option.bind_some] at h2
        cases eg : gDGet d1 d2 .non with
        | none => rw [eg] at h2; exact h2.elim
        | some d' =>
          rw [eg] at h2
          cases d1 with
          | dct m' t' l' =>
            have e' : (if (isKey t' d2 && clK l' && D.cl .non) = true then some ((lkD t' l' d2).getD .non) else none) = some d' := eg
            by_cases c : (isKey t' d2 && clK l' && D.cl .non) = true
            · rw [if_pos c] at e'
              cases e'
              rw [Bool.and_eq_true, Bool.and_eq_true] at c
              obtain ⟨a', o, ea', g, q1, q2⟩ := dget_of sm2.fz (rt1'.rb sm2 ea) (rt2.rb sm2 eb) c.1.1 c.1.2
              cases ea'
              refine ⟨o, g, ?_⟩
              refine h2.done0 sm2 go2 (Step.pure sm2.fz) ?_
              cases el : lkD t' l' d2 with
              | none => rw [q2 el]; exact .non
              | some d0 =>
                obtain ⟨w, rfl, rw'⟩ := q1 d0 el
                exact rw'
            · rw [if_neg c] at e'; cases e'
          | _ => cases eg
  · rw [if_neg hd] at h1
    exact h1.elim
/-! ### {} -/
def eDnew (t : Dk) : Ex := fun env => .ok (.vl (.dct true t [])) env
theorem t_DnewK {Q : VK} (h : tE K mg W (eDnew .k) σ H Q) : tDNewK σ H Q := by
  obtain ⟨env, F, S, R, T, sm, h⟩ := h
  intro p hp
  exact Cont.done0 (L := []) h sm Go.refl' (Step.own sm.fz hp) (.oK (kvs := []) (ds := []) (by show upd H p _ p = _; rw [upd_same]) rfl rfl .nil)
theorem t_DnewT {Q : VK} (h : tE K mg W (eDnew .t) σ H Q) : tDNewT σ H Q := by
  obtain ⟨env, F, S, R, T, sm, h⟩ := h
  intro p hp
  exact Cont.done0 (L := []) h sm Go.refl' (Step.own sm.fz hp) (.oT (kvs := []) (ds := []) (by show upd H p _ p = _; rw [upd_same]) rfl rfl .nil)
end
section
variable {X : Cx} {W : WX} {a b c o e f : Expr} {pos apos cpos : Pos} {ma mb mc mo mk md m : Ex}
theorem je_dget (hu : X.A.units + 1 < cLine) (ho : JE X W o mo) (he : JE X W e mk) (hf : JE X W f md) (m : M2 X o "get" apos e f cpos := by exact ⟨rfl, rfl, rfl, rfl⟩) : JE X W (.Call (.Attribute o "get" apos) [e, f] [] cpos) (eDGet mo mk md) :=
  je_of (pe_dget2 hu ho he hf m) fun _ _ _ h => t_DGet h
theorem je_dget1 (hu : X.A.units + 1 < cLine) (ho : JE X W o mo) (he : JE X W e mk) (m : M1 X o "get" apos e cpos := by exact ⟨rfl, rfl, rfl, rfl⟩) : JE X W (.Call (.Attribute o "get" apos) [e] [] cpos) (eDGet1 mo mk) :=
  je_of (pe_dget1 hu ho he m) fun _ _ _ h => t_DGet1 h
theorem je_dnewK : JE X W (.Dict [] [] pos) (eDnew .k) := je_of pe_dnewK fun _ _ _ h => t_DnewK h
theorem je_dnewT : JE X W (.Dict [] [] pos) (eDnew .t) := je_of pe_dnewT fun _ _ _ h => t_DnewT h
end
end DL
/-! DLx: dictionaries: displays, stores. -/
namespace DL
open PySem PySem.Spec PyProof.Rows L2

/-! ### a display, its keys tuples -/
def KPs (H : Hp) : List (List L2.Key × V) → List (V × V) → Prop := Paired fun q w => (∃ b, w.1 = V.ref b ∧ H b = some (.tup (q.1.map kV))) ∧ w.2 = q.2
def mergT (kvs more : List (List L2.Key × V)) : List (List L2.Key × V) := more.foldl (fun acc kv => putK acc kv.1 kv.2) kvs
def tDispT (trs : List (TE × TE)) : TE := fun σ H Q => ∀ p, H p = none → tPairs trs σ (upd H p (.dT [])) fun ps H2 => H2 p = some (.dT []) ∧ ∃ kvs : List (List L2.Key × V), KPs H2 kvs ps ∧ kvs.length ≤ 15 ∧ Q (.ref p) (upd H2 p (.dT (mergT [] kvs)))
section
variable {X : Cx} {pins : List (Addr × Obj)} {σ : L2.St} {H : Hp} {s : Shared} {a : Addr} {y v : V} {u r : Value} {A : Around} {E : Value → Shared → Prop}
theorem d_storeT {kvs : List (List L2.Key × V)} {k : List L2.Key} {b : Addr} {Q : Unit → Shared → Prop} (hu : A.units < cLine) (I : Inv X pins σ H s) (e : H a = some (.dT kvs)) (eb : H b = some (.tup (k.map kV))) (l : kvs.length < sizeLine) (rv : RelV v r)
    (h : ∀ s', Inv X pins σ (upd H a (.dT (putK kvs k v))) s' → Q () s') : wpAny (model X.prog X.w) A (dictSet a (.ref b) r) Q E s := by
  obtain ⟨z, hd, xs, rel, dd⟩ := dt_of I.hok e
  have hz : xs.length ≤ sizeLine := by rw [← Paired.length rel]; exact z
  have hl : (putK kvs k v).length ≤ sizeLine := by have := length_putK kvs k v; omega
  refine wpAny_dictSet_heap (hsz := hz) (knd := tupleKind (mixKind X.prog X.w)) hu (key_of I.hok eb) dd fun h' dd' hs => h _ ?_
  obtain ⟨q, es, ep, hq, h2, h3, h4, _, h5⟩ := dd'
  refine d_write I (by rw [e]; exact True.intro) hs ⟨q, hq⟩ ⟨hl, hd, _, (rel.put k eb rv).keeps fun c ys ec => ?_, q, es, ep, hq, h2, h3, h4, h5⟩
  rw [upd_ne (ne_of ec e (fun z => nomatch z))]
  exact ec
theorem upd_upd {H : Hp} {p : Addr} {o o' : HO} : upd (upd H p o) p o' = upd H p o' := by
  funext b
  by_cases h : b = p
  · subst h; rw [upd_same, upd_same]
  · rw [upd_ne h, upd_ne h, upd_ne h]
theorem d_storeAll {p : Addr} {Q : PUnit → Shared → Prop} (hu : A.units < cLine) : ∀ {ws : List (Value × Value)} {ps : List (V × V)} {kvs acc : List (List L2.Key × V)} {s : Shared}, Inv X pins σ (upd H p (.dT acc)) s → VV ps ws → KPs H kvs ps → H p = some (.dT []) → acc.length + kvs.length ≤ 15 →
    (∀ s', Inv X pins σ (upd H p (.dT (mergT acc kvs))) s' → Q PUnit.unit s') → wpAny (model X.prog X.w) A (storeAll p ws) Q E s
  | _, _, [], acc, s, I, vv, kp, hp, hl, h => by
    cases kp
    cases vv
    unfold storeAll
    rw [List.forIn_nil]
    exact wpAny_pure (h s I)
  | _, _, q :: kvs, acc, s, I, vv, kp, hp, hl, h => by
    cases kp with
    | @cons _ w _ ps hq kp =>
      obtain ⟨⟨b, e1, e2⟩, e3⟩ := hq
      cases vv with
      | @cons _ z _ ws hz vv =>
        obtain ⟨x, y⟩ := w
        obtain ⟨zx, zy⟩ := z
        dsimp only at e1 e3 hz
        subst e1 e3
        obtain rfl : zx = Value.ref b := hz.1
        have nb : b ≠ p := fun z => by
          subst z
          rw [hp] at e2
          cases e2
        rw [List.length_cons] at hl
        unfold storeAll
        rw [List.forIn_cons]
        refine wpAny_bind (wpAny_bind (d_storeT (kvs := acc) hu I upd_same (by rw [upd_ne nb]; exact e2) (by rw [sz]; omega) hz.2 fun s' I' => wpAny_pure ?_))
        rw [upd_upd] at I'
        exact d_storeAll hu I' vv kp hp (by have := length_putK acc q.1 q.2; omega) h
theorem pe_dispT {pos : Pos} {keys : List (Option Expr)} {values : List Expr} {trs : List (TE × TE)} (hu : X.A.units < cLine) (h : PPs X pos keys values trs) (hall : keys.all (·.isSome) = true) (hl : keys.length = values.length) (h0 : keys ≠ [])
    (h15 : keys.length ≤ 15) : PE X (.Dict keys values pos) (tDispT trs) := by
  refine ⟨fun pins s σ H Q I q => ?_⟩
  have hn := I.hok.fresh (Nat.le_refl s.heap.objs.size)
  have I1 := I.laid (a := s.heap.objs.size) (o := .dT []) (h' := s.heap.push { cls := .type "dict", data := .dict #[] }) (t' := s.toks) (fun _ _ q => Heap.get?_push_of_some _ q) (Nat.le_refl _) (dt_empty s.heap I.big)
  refine wpAny_Dict_any hall hl h0 h15 (thn (h.run pins _ σ _ _ I1 (q _ hn)) fun ws s2 ⟨ps, H2, I2, rel, e, kvs, kp, lk, q2⟩ => ?_)
  refine d_storeAll (kvs := kvs) (acc := []) (H := H2) hu ?_ rel kp e (by rw [List.length_nil]; omega) fun s' I' => ⟨.ref s.heap.objs.size, _, I', rfl, q2⟩
  have : upd H2 s.heap.objs.size (.dT []) = H2 := by
    funext b
    by_cases hb : b = s.heap.objs.size
    · subst hb; rw [upd_same, e]
    · rw [upd_ne hb]
  rw [this]
  exact I2
end
/-! ### the display's reading -/
def flatP : List (Ex × Ex) → List Ex
  | [] => []
  | p :: r => p.1 :: p.2 :: flatP r
def pairD : List D → Option (List (D × D))
  | [] => some []
  | k :: v :: r => (pairD r).map fun q => (k, v) :: q
  | _ => none
def pairV : List V → List (V × V)
  | k :: v :: r => (k, v) :: pairV r
  | _ => []
def eDisp (t : Dk) (ps : List (Ex × Ex)) : Ex := fun env => (evA (flatP ps) env).bind fun ts en => match mvs en ts with
  | some q => (match pairD q.1 with
    | some l => if (clL q.1 && l.all fun p => isKey t p.1) = true ∧ l.length ≤ 15 then .ok (.vl (.dct true t (l.foldl (fun acc p => ptD t acc p.1 p.2) []))) q.2 else .no
    | none => .no)
  | none => .no
section
variable {K : PySem.W.Frag} {mg : Mg} {W : WX} {F F' F1 F2 H H' H1 H2 : Hp} {env env' env1 : Env} {σ σ' : L2.St} {S S' S1 T U U1 L : List Addr} {R : Lk} {A : Addr → HO → Prop}
theorem tE_imp {m : Ex} {σ : L2.St} {H : Hp} {Q Q' : VK} (h : tE K mg W m σ H Q) (k : ∀ v H', Q v H' → Q' v H') : tE K mg W m σ H Q' := by
  obtain ⟨env, F, S, R, T, sm, h⟩ := h
  exact ⟨env, F, S, R, T, sm, h.imp k⟩
theorem t_pairs : ∀ {ps : List (Ex × Ex)} {σ : L2.St} {H : Hp} {Q : List (V × V) → Hp → Prop}, tA K mg W (flatP ps) σ H (fun vs H' => Q (pairV vs) H') → tPairs (ps.map fun p => (tE K mg W p.1, tE K mg W p.2)) σ H Q
  | [], σ, H, Q, h => t_A_nil h
  | p :: ps, σ, H, Q, h => tE_imp (t_A_cons h) fun x H1 hh => tE_imp (t_A_cons hh) fun y H2 hq => t_pairs (Q := fun qs H3 => Q ((x, y) :: qs) H3) hq
theorem Rps.cons0 {d : D} {ds : List D} {vs : List V} (h : Rps K mg F A (d :: ds) vs []) : ∃ v vr, vs = v :: vr ∧ Rp K mg F A d v [] ∧ Rps K mg F A ds vr [] := by
  cases vs with
  | nil => cases h
  | cons v vr => exact ⟨v, vr, rfl, h.at0 (i := 0) rfl rfl, Rps.nil_of (fun i v' d' e1 e2 => h.at0 (i := i + 1) (by simpa using e1) (by simpa using e2)) (by have := h.length; simpa using this)⟩
theorem pair_k : ∀ {l : List (D × D)} {ds : List D} {vs : List V}, pairD ds = some l → Rps K mg F A ds vs [] → l.all (fun p => isKey .k p.1) = true → ∃ (kvs : List (L2.Key × V)) (dm : List D), l = zlD kD kvs dm ∧ pairV vs = kvs.map (fun kv => (kV kv.1, kv.2)) ∧ Rps K mg F A dm (kvs.map (·.2)) []
  | l, [], vs, e, r, _ => by
    cases e; cases r
    exact ⟨[], [], rfl, rfl, .nil⟩
  | l, [d], vs, e, r, _ => by cases e
  | l, k :: v :: ds, vs, e, r, ha => by
    obtain ⟨y, vr, rfl, r1, r2⟩ := r.cons0
    obtain ⟨w, vr, rfl, r3, r4⟩ := r2.cons0
    have e' : ((pairD ds).map fun q => (k, v) :: q) = some l := e
    cases e2 : pairD ds with
    | none => rw [e2] at e'; cases e'
    | some l' =>
      rw [e2] at e'
      cases e'
      rw [List.all_cons, Bool.and_eq_true] at ha
      obtain ⟨kvs, dm, rfl, e4, r5⟩ := pair_k e2 r4 ha.2
      obtain ⟨j, ej⟩ := Option.isSome_iff_exists.mp (show (keyK k).isSome = true from ha.1)
      have ek := keyK_eq ej
      subst ek
      have ey : y = kV j := by
        cases j with
        | inl i => cases r1; rfl
        | inr x => cases r1; rfl
      subst ey
      exact ⟨(j, w) :: kvs, v :: dm, rfl, by rw [List.map_cons, ← e4]; rfl, .cons (S := []) (T := []) r3 r5⟩
theorem pair_t (fz : FzOk F H) : ∀ {l : List (D × D)} {ds : List D} {vs : List V}, pairD ds = some l → Rps K mg F (At H) ds vs [] → l.all (fun p => isKey .t p.1) = true → ∃ (kvs : List (List L2.Key × V)) (dm : List D), l = zlD tD kvs dm ∧ KPs H kvs (pairV vs) ∧ Rps K mg F (At H) dm (kvs.map (·.2)) []
  | l, [], vs, e, r, _ => by
    cases e; cases r
    exact ⟨[], [], rfl, .nil, .nil⟩
  | l, [d], vs, e, r, _ => by cases e
  | l, k :: v :: ds, vs, e, r, ha => by
    obtain ⟨y, vr, rfl, r1, r2⟩ := r.cons0
    obtain ⟨w, vr, rfl, r3, r4⟩ := r2.cons0
    have e' : ((pairD ds).map fun q => (k, v) :: q) = some l := e
    cases e2 : pairD ds with
    | none => rw [e2] at e'; cases e'
    | some l' =>
      rw [e2] at e'
      cases e'
      rw [List.all_cons, Bool.and_eq_true] at ha
      obtain ⟨kvs, dm, rfl, e4, r5⟩ := pair_t fz e2 r4 ha.2
      obtain ⟨j, ej⟩ := Option.isSome_iff_exists.mp (show (keyT k).isSome = true from ha.1)
      obtain ⟨b, rfl, eb⟩ := (Rp.rb r1).keyT fz ej
      have ek := keyT_eq ej
      subst ek
      exact ⟨(j, w) :: kvs, v :: dm, rfl, .cons ⟨⟨b, rfl, eb⟩, rfl⟩ e4, .cons (S := []) (T := []) r3 r5⟩
section
variable {κ : Type} [DecidableEq κ] {enc : κ → D} {t : Dk}
theorem merge_rel (he : ∀ a b, kEq t (enc a) (enc b) = decide (a = b)) : ∀ {more kvs : List (κ × V)} {dm ds : List D}, Rps K mg F A dm (more.map (·.2)) [] → Rps K mg F A ds (kvs.map (·.2)) [] →
    ∃ ds', (zlD enc more dm).foldl (fun acc p => ptD t acc p.1 p.2) (zlD enc kvs ds) = zlD enc (more.foldl (fun acc kv => putK acc kv.1 kv.2) kvs) ds' ∧ Rps K mg F A ds' ((more.foldl (fun acc kv => putK acc kv.1 kv.2) kvs).map (·.2)) []
  | [], kvs, dm, ds, rm, r => by
    cases rm
    exact ⟨ds, rfl, r⟩
  | p :: more, kvs, dm, ds, rm, r => by
    cases dm with
    | nil => cases rm
    | cons d dm =>
      obtain ⟨v, vr, e, r1, r2⟩ := rm.cons0
      rw [List.map_cons] at e
      cases e
      obtain ⟨ds1, e1, r3⟩ := pt_rel he p.1 r1 r
      obtain ⟨ds', e2, r4⟩ := merge_rel he (more := more) r2 r3
      refine ⟨ds', ?_, r4⟩
      rw [zlD_cons, List.foldl_cons, List.foldl_cons, e1, e2]
end
theorem t_Disp {ps : List (Ex × Ex)} {Q : VK} (h : tE K mg W (eDisp .k ps) σ H Q) : tDisp (ps.map fun p => (tE K mg W p.1, tE K mg W p.2)) σ H Q := by
  obtain ⟨env, F, S, R, T, sm, h⟩ := h
  intro p hp
  have pS : p ∉ S := fun z => sm.th p (List.mem_append_left _ z) hp
  have st : Step F H F (upd H p (.dK [])) [p] := Step.own sm.fz hp
  refine t_pairs ⟨env, F, S, R, [p] ++ T, st.sm sm, (h.then (st.go (S := S))).imp fun vs H2 ⟨ts, en2, F2, S2, U2, sm2, go2, go12, rts, h2⟩ => ?_⟩
  cases em : mvs en2 ts with
  | none => rw [em] at h2; exact h2.elim
  | some q =>
    rw [em] at h2
    dsimp only at h2
    obtain ⟨qd, en3⟩ := q
    obtain ⟨F3, S3, U3, s3, g3, r3, p3⟩ := mvs_ok (T := [p] ++ T) (by rw [← List.append_assoc]; exact sm2) rts em
    dsimp only at h2
    cases ed : pairD qd with
    | none => rw [ed] at h2; exact h2.elim
    | some l =>
      rw [ed] at h2
      dsimp only at h2
      by_cases c : (clL qd && l.all fun p => isKey .k p.1) = true ∧ l.length ≤ 15
      · rw [if_pos c] at h2
        obtain ⟨c1, c2⟩ := c
        rw [Bool.and_eq_true] at c1
        have eU := r3.clean c1.1
        subst eU
        have s3 : Sm K mg F3 H2 en3 σ S3 R ([p] ++ T) := s3
        obtain ⟨kvs, dm, rfl, e4, r5⟩ := pair_k ed r3 c1.2
        obtain ⟨ds', e6, r6⟩ := merge_rel kEq_k (kvs := []) (ds := []) r5 .nil
        have hl : dm.length = kvs.length := by have := r5.length; simpa using this
        rw [zlD_len hl] at c2
        refine ⟨go12.fr p _ (by rw [upd_same]) pS, kvs, e4, c2, ?_⟩
        have s4 : Sm K mg F3 (upd H2 p (.dK (mergeK [] kvs))) en3 σ S3 R ([p] ++ T) := Sm.updT (T := [p] ++ T) s3 (by simp)
        have g4 : Go F H S F3 (upd H2 p (.dK (mergeK [] kvs))) (S3 ++ [p]) := ((go2.trans (U1 := U2 ++ [p]) g3).weak fun a ha => by
          simp only [List.mem_append] at ha ⊢
          exact ha.imp id .inr).updT (.inl hp)
        refine h2 (.ref p) F3 _ S3 [p] s4 g4 ?_
        have e7 : (zlD kD kvs dm).foldl (fun acc p => ptD .k acc p.1 p.2) [] = zlD kD (mergeK [] kvs) ds' := e6
        show Rp K mg F3 _ (.dct true .k ((zlD kD kvs dm).foldl (fun acc p => ptD .k acc p.1 p.2) [])) (.ref p) [p]
        rw [e7]
        exact .oK (S := []) (kvs := mergeK [] kvs) (ds := ds') (by show upd H2 p _ p = _; rw [upd_same]) rfl rfl r6.any
      · rw [if_neg c] at h2
        exact h2.elim
theorem t_DispT {ps : List (Ex × Ex)} {Q : VK} (h : tE K mg W (eDisp .t ps) σ H Q) : tDispT (ps.map fun p => (tE K mg W p.1, tE K mg W p.2)) σ H Q := by
  obtain ⟨env, F, S, R, T, sm, h⟩ := h
  intro p hp
  have pS : p ∉ S := fun z => sm.th p (List.mem_append_left _ z) hp
  have st : Step F H F (upd H p (.dT [])) [p] := Step.own sm.fz hp
  refine t_pairs ⟨env, F, S, R, [p] ++ T, st.sm sm, (h.then (st.go (S := S))).imp fun vs H2 ⟨ts, en2, F2, S2, U2, sm2, go2, go12, rts, h2⟩ => ?_⟩
  cases em : mvs en2 ts with
  | none => rw [em] at h2; exact h2.elim
  | some q =>
    rw [em] at h2
    dsimp only at h2
    obtain ⟨qd, en3⟩ := q
    obtain ⟨F3, S3, U3, s3, g3, r3, p3⟩ := mvs_ok (T := [p] ++ T) (by rw [← List.append_assoc]; exact sm2) rts em
    dsimp only at h2
    cases ed : pairD qd with
    | none => rw [ed] at h2; exact h2.elim
    | some l =>
      rw [ed] at h2
      dsimp only at h2
      by_cases c : (clL qd && l.all fun p => isKey .t p.1) = true ∧ l.length ≤ 15
      · rw [if_pos c] at h2
        obtain ⟨c1, c2⟩ := c
        rw [Bool.and_eq_true] at c1
        have eU := r3.clean c1.1
        subst eU
        have s3 : Sm K mg F3 H2 en3 σ S3 R ([p] ++ T) := s3
        obtain ⟨kvs, dm, rfl, e4, r5⟩ := pair_t s3.fz ed r3 c1.2
        obtain ⟨ds', e6, r6⟩ := merge_rel kEq_t (kvs := []) (ds := []) r5 .nil
        have hl : dm.length = kvs.length := by have := r5.length; simpa using this
        rw [zlD_len hl] at c2
        refine ⟨go12.fr p _ (by rw [upd_same]) pS, kvs, e4, c2, ?_⟩
        have s4 : Sm K mg F3 (upd H2 p (.dT (mergT [] kvs))) en3 σ S3 R ([p] ++ T) := Sm.updT (T := [p] ++ T) s3 (by simp)
        have g4 : Go F H S F3 (upd H2 p (.dT (mergT [] kvs))) (S3 ++ [p]) := ((go2.trans (U1 := U2 ++ [p]) g3).weak fun a ha => by
          simp only [List.mem_append] at ha ⊢
          exact ha.imp id .inr).updT (.inl hp)
        refine h2 (.ref p) F3 _ S3 [p] s4 g4 ?_
        have e7 : (zlD tD kvs dm).foldl (fun acc p => ptD .t acc p.1 p.2) [] = zlD tD (mergT [] kvs) ds' := e6
        show Rp K mg F3 _ (.dct true .t ((zlD tD kvs dm).foldl (fun acc p => ptD .t acc p.1 p.2) [])) (.ref p) [p]
        rw [e7]
        exact .oT (S := []) (kvs := mergT [] kvs) (ds := ds') (by show upd H2 p _ p = _; rw [upd_same]) rfl rfl r6.any
      · rw [if_neg c] at h2
        exact h2.elim
end
section
variable {X : Cx} {W : WX} {pos : Pos} {k v : Expr} {keys : List (Option Expr)} {values : List Expr} {mk mv : Ex} {ps : List (Ex × Ex)}
abbrev JP (X : Cx) (W : WX) (pos : Pos) (keys : List (Option Expr)) (values : List Expr) (ps : List (Ex × Ex)) : Prop := PPs X pos keys values (ps.map fun p => (tE X.K X.mg W p.1, tE X.K X.mg W p.2))
theorem jp_nil : JP X W pos [] [] [] := pps_nil
theorem jp_cons (hk : JE X W k mk) (hv : JE X W v mv) (hr : JP X W pos keys values ps) : JP X W pos (some k :: keys) (v :: values) ((mk, mv) :: ps) := pps_cons hk hv hr
theorem je_dispK (h : JP X W pos keys values ps) (hall : keys.all (·.isSome) = true := by rfl) (hl : keys.length = values.length := by rfl) (h0 : keys ≠ [] := by simp) (h15 : keys.length ≤ 15 := by decide) : JE X W (.Dict keys values pos) (eDisp .k ps) :=
  je_of (pe_disp h hall hl h0 h15) fun _ _ _ h => t_Disp h
theorem je_dispT (hu : X.A.units + 1 < cLine) (h : JP X W pos keys values ps) (hall : keys.all (·.isSome) = true := by rfl) (hl : keys.length = values.length := by rfl) (h0 : keys ≠ [] := by simp) (h15 : keys.length ≤ 15 := by decide) : JE X W (.Dict keys values pos) (eDisp .t ps) :=
  je_of (pe_dispT (Nat.lt_of_succ_lt hu) h hall hl h0 h15) fun _ _ _ h => t_DispT h
end
/-! ### d[k] = v -/
def putDk (env : Env) (i : Nat) (k d : D) : Res Unit := match env[i]? with
  | some (.sl kd (.dct true t l)) => if kd = Kd.R then .no else if (d.cl && clK l && isKey t k) = true ∧ l.length < 16777216 then .ok () (env.set i (.sl kd (.dct true t (ptD t l k d)))) else .no
  | _ => .no
def tgDb (i : Nat) (mi : Ex) : Tg := fun env d => (eV i env).bind fun _ en => (mi en).bind fun t en2 => match rd en2 t with
  | some k => putDk en2 i k d
  | none => .no
section
variable {K : PySem.W.Frag} {mg : Mg} {W : WX} {F F' F1 F2 H H' H1 H2 : Hp} {env env' env1 : Env} {σ σ' : L2.St} {S S' S1 T U U1 L : List Addr} {R : Lk} {A : Addr → HO → Prop}
theorem putDk_ok {i : Nat} {k d : D} {v x y : V} (s : Sm K mg F H env σ S R (U ++ T)) (r : Rp K mg F (At H) d v U) (rk : Rb K mg F H k y) (ev : σ[i]? = some (some x)) (e : putDk env i k d = .ok () env') :
    ∃ p H', x = .ref p ∧ DPut H p y v H' ∧ ∃ S', Sm K mg F H' env' σ S' R T ∧ Go F H (S ++ U) F H' S' := by
  unfold putDk at e
  split at e
  · rename_i kd t l ei
    split at e
    · cases e
    · rename_i hk
      split at e
      · rename_i c
        cases e
        obtain ⟨c1, hlen⟩ := c
        rw [Bool.and_eq_true, Bool.and_eq_true] at c1
        obtain ⟨⟨cd, cl⟩, ik⟩ := c1
        have eU := r.clean cd
        subst eU
        obtain ⟨x', Sa, Sb, ev', rp, pS, s0⟩ := s.toSm0.take ei hk
        rw [ev] at ev'
        cases ev'
        have fin : ∀ {a : Addr} {o : HO} {l' : List (D × D)}, Sa = [a] → (∀ vs, o ≠ .tup vs) → Rp K mg F (At (upd H a o)) (.dct true t l') x [a] → ∃ S', Sm K mg F (upd H a o) (env.set i (.sl kd (.dct true t l'))) σ S' R T ∧ Go F H (S ++ []) F (upd H a o) S' := fun {a o l'} ea ho rq => by
          subst ea
          obtain ⟨S3, s3, p3⟩ := Sm.wr (U2 := []) (V1 := [a]) (V2 := []) (T := T) s0 s.lk ei hk ev (by simp) ho rq fun z => by simp
          refine ⟨S3, s3, ?_⟩
          have aS : a ∈ S := pS.mem_iff.mpr (List.mem_append_left _ (by simp))
          refine ((Go.refl (S := S ++ [])).updT (.inr (List.mem_append_left _ aS))).weak fun b hb => ?_
          refine List.mem_append_left _ (pS.mem_iff.mpr ?_)
          exact p3.mem_iff.mp hb
        cases rp with
        | @oK a kvs ks ds _ S0 h1 h2 h3 h4 =>
          subst h2 h3
          have hl : ds.length = kvs.length := by have := h4.length; simpa using this
          have el : clL ds = true := by rw [← zlD_cl (enc := kD) hl]; exact cl
          have eS := h4.clean el
          subst eS
          obtain ⟨j, ej⟩ := Option.isSome_iff_exists.mp (show (keyK k).isSome = true from ik)
          have ey := rk.keyK ej
          have ek := keyK_eq ej
          subst ey ek
          obtain ⟨ds', e1, r1⟩ := pt_rel kEq_k j r h4
          have hlen' : kvs.length < 16777216 := by rw [← zlD_len (enc := kD) hl]; exact hlen
          refine ⟨a, _, rfl, .inl ⟨kvs, j, h1, rfl, by rw [sz]; exact hlen', rfl⟩, fin rfl (fun vs z => by cases z) ?_⟩
          have e2 : ptD .k ((kvs.map fun p => kD p.1).zip ds) (kD j) d = zlD kD (putK kvs j v) ds' := e1
          rw [e2]
          exact .oK (S := []) (kvs := putK kvs j v) (ds := ds') (by show upd H a _ a = _; rw [upd_same]) rfl rfl r1.any
        | @oT a kvs ks ds _ S0 h1 h2 h3 h4 =>
          subst h2 h3
          have hl : ds.length = kvs.length := by have := h4.length; simpa using this
          have el : clL ds = true := by rw [← zlD_cl (enc := tD) hl]; exact cl
          have eS := h4.clean el
          subst eS
          obtain ⟨j, ej⟩ := Option.isSome_iff_exists.mp (show (keyT k).isSome = true from ik)
          obtain ⟨b, rfl, eb⟩ := rk.keyT s.fz ej
          have ek := keyT_eq ej
          subst ek
          obtain ⟨ds', e1, r1⟩ := pt_rel kEq_t j r h4
          have hlen' : kvs.length < 16777216 := by rw [← zlD_len (enc := tD) hl]; exact hlen
          refine ⟨a, _, rfl, .inr ⟨kvs, j, b, h1, rfl, eb, by rw [sz]; exact hlen', rfl⟩, fin rfl (fun vs z => by cases z) ?_⟩
          have e2 : ptD .t ((kvs.map fun p => tD p.1).zip ds) (tD j) d = zlD tD (putK kvs j v) ds' := e1
          rw [e2]
          exact .oT (S := []) (kvs := putK kvs j v) (ds := ds') (by show upd H a _ a = _; rw [upd_same]) rfl rfl r1.any
      · cases e
  · cases e
theorem t_gDb {i : Nat} {mi : Ex} {v : V} {Q : L2.St → Hp → Prop} (h : tG K mg (tgDb i mi) v σ H Q) : L2.gSub (tE K mg W0 (eV i)) (tE K mg W0 mi) rSetD v σ H Q := by
  obtain ⟨env, F, S, R, T, U, d, sm, r, h⟩ := h
  unfold tgDb at h
  refine ⟨env, F, S, R, U ++ T, sm, ?_⟩
  have eV0 : eV i env = .no ∨ ∃ k0 d0, env[i]? = some (.sl k0 d0) ∧ eV i env = .ok (.loc i) env := by
    unfold eV
    cases q : env[i]? with
    | none => exact .inl rfl
    | some s0 =>
      cases s0 with
      | un => exact .inl rfl
      | sl k d => exact .inr ⟨k, d, rfl, rfl⟩
  rcases eV0 with e | ⟨k0, d0, _, e⟩
  · rw [e] at h; exact h.elim
  · rw [e] at h ⊢
    intro x F1 H1 S1 U1 s1 g1 rt1
    obtain ⟨ru, ex⟩ := rt1
    subst ru
    have keep : ∀ {F2 H2 : Hp} {L : List Addr}, Go F H S F2 H2 L → Rp K mg F2 (At H2) d v U := fun g => r.mono g.sub fun a ha o eo => g.fr a o eo fun z => by
      have nd := nodup_count.mp sm.nd a
      have := List.count_pos_iff.mpr ha
      have := List.count_pos_iff.mpr z
      simp only [List.count_append] at nd
      omega
    refine ⟨env, F1, S1, R, [] ++ (U ++ T), s1, ?_⟩
    have h' : ContG K mg F H S U R T ((mi env).bind fun t en2 => match rd en2 t with
      | some k => putDk en2 i k d
      | none => .no) Q := h
    cases em : mi env with
    | no => rw [em] at h'; exact h'.elim
    | ex c e2 => rw [em] at h'; exact h'.elim
    | ok t en2 =>
      rw [em] at h'
      intro y F2 H2 S2 U2 s2 g2 rt2
      have h2 : ContG K mg F H S U R T (match rd en2 t with
        | some k => putDk en2 i k d
        | none => .no) Q := h'
      cases er : rd en2 t with
      | none => rw [er] at h2; exact h2.elim
      | some dk =>
        rw [er] at h2
        have g0 : Go F H S F2 H2 S2 := (Go.trans (U1 := []) g1 (g2.weak fun a ha => List.mem_append_left _ ha)).weak fun a ha => by simpa using ha
        have s2' : Sm K mg F2 H2 en2 σ S2 R (U ++ T) := s2.temps (by
          rw [List.nil_append]
          exact List.sublist_append_right _ _)
        have h3 : ContG K mg F H S U R T (putDk en2 i dk d) Q := h2
        cases ep : putDk en2 i dk d with
        | no => rw [ep] at h3; exact h3.elim
        | ex c e3 => rw [ep] at h3; exact h3.elim
        | ok u e3 =>
          rw [ep] at h3
          obtain ⟨p, H3, rfl, q1, S3, s3, g3⟩ := putDk_ok s2' (keep g0) (rt2.rb s2 er) ex ep
          refine ⟨p, H3, rfl, q1, ?_⟩
          have h4 := ContG.wrap (V1 := U) (U1 := []) h3 (g0.weak fun a ha => by simpa using ha) fun a ha => .inl ha
          exact h4 σ F2 _ S3 s3 g3
end
section
variable {X : Cx} {mi : Ex} {x : Str} {pos : Pos}
theorem jg_db (i : Nat) {ix : Expr} {pn : Pos} (hu : X.A.units + 1 < cLine) (hi : JE X W0 ix mi) (hN : X.N[i]? = some x := by rfl) (hv : Vis X.env.scope x := by first | exact Or.inl rfl | exact Or.inr (Or.inl rfl) | exact Or.inr (Or.inr rfl)) (hd : (x == ("__debug__" : Str)) = false := by decide)
    (hcd : (x == ("__classdict__" : Str)) = false := by decide) (hs : ∀ (v : Value), assign (.Subscript (.Name x pn) ix pos) X.env v = (do
      let ov ← holding [v] (eval (.Name x pn) X.env)
      let iv ← holding [v, ov] (eval ix X.env)
      standAt pos
      holding [v, ov, iv] (setItem ov iv v)
      release [v, ov, iv] []) := by intro _; rfl) : JG X (.Subscript (.Name x pn) ix pos) (tgDb i mi) :=
  jg_of (pg_sub (je_var i hN hv hd hcd) hi (set_dict hu) hs) fun _ _ _ _ h => t_gDb h
end
end DL
/-! DLy: loops over dictionaries. -/
namespace DL
open PySem PySem.Spec PyProof.Rows L2

/-! ### items of a dict with tuple keys -/
section
variable {X : Cx} {pins : List (Addr × Obj)} {σ : L2.St} {H : Hp} {s : Shared} {d : Addr} {o : Obj}
theorem frzT2 {kvs : List (List L2.Key × V)} (I : Inv X pins σ H s) (h : H d = some (.frz o (.dT kvs))) :
    (d == sysModules) = false ∧ s.heap.get? d = some o ∧ o.ExactDict ∧ ∃ (es : Array DictEntry) (ep : Nat), o.data = .dict es ep ∧ es.size = kvs.length ∧
      ∀ (i : Nat) (k : List L2.Key) (v : V), kvs[i]? = some (k, v) → ∃ (en : DictEntry) (q : Addr), es[i]? = some en ∧ en.key = .ref q ∧ H q = some (.tup (k.map kV)) ∧ RelV v en.val := by
  obtain ⟨hd, z, hs, xs, pr, o', es, ep, ho, hx, hdt, he, _⟩ := I.hok d _ h
  rw [hd] at ho
  cases ho
  refine ⟨hs, hd, hx, es, ep, hdt, ?_, fun i k v e => ?_⟩
  · have l1 : es.size = xs.length := size_of_entries he
    have l2 : kvs.length = xs.length := Paired.length pr
    omega
  · obtain ⟨b, hb, e1, e2, e3⟩ := paired_get pr e
    have q := entry_at he i
    rw [hb] at q
    exact ⟨_, b.2.1, q, rfl, e2, e3⟩
end
def Itit (d : Addr) (o : Obj) (kvs : List (List L2.Key × V)) : It :=
  ⟨fun i H => H d = some (.frz o (.dT kvs)) ∧ i < kvs.length, fun i H x H' => ∃ T k v q, kvs[i]? = some (k, v) ∧ H q = some (.tup (k.map kV)) ∧ x = .ref T ∧ H T = none ∧ H' = upd H T (.tup [.ref q, v]), fun i H => H d = some (.frz o (.dT kvs)) ∧ kvs.length ≤ i⟩
section
variable {P : Program} {w : World} {K : PySem.W.Frag} {tg : Expr} {d : Addr} {o : Obj} {es : Array DictEntry} {ep : Nat}
theorem turn_itemsT {kvs : List (List L2.Key × V)} {elts : List Expr} {kk : Nat} {tpos : Pos} (it : Addr) (hod : o.data = .dict es ep) :
    Turn P w K (.Tuple elts kk tpos) (Itit d o kvs) [it] it (fun i h => ∃ ok ov, IsItemIter h it d i kvs.length ep ok ov) where
  mem := by simp
  obj := fun i h st b hb => by
    have e : b = it := by simpa using hb
    subst e
    obtain ⟨ok, ov, e⟩ := st
    exact ⟨_, e, fun v z => nomatch z⟩
  keep := fun i h h' st k => let ⟨ok, ov, e⟩ := st; ⟨ok, ov, k it (by simp) _ e⟩
  item := by
    intro X hP hw hK hc i pins s σ H E I hf st hg
    subst hP hw hK
    obtain ⟨hd, hi⟩ := hg
    obtain ⟨hs, hgd, hx, es', ep', hdt, hsz, ent⟩ := frzT2 I hd
    obtain ⟨rfl, rfl⟩ := dict_ep hod hdt
    obtain ⟨⟨k, v⟩, hkv⟩ : ∃ p, kvs[i]? = some p := ⟨kvs[i], List.getElem?_eq_getElem hi⟩
    obtain ⟨en, q, hen, hkey, hq, rv⟩ := ent i k v hkv
    obtain ⟨ok, ov, he⟩ := st
    have hlt : it < s.heap.objs.size := Heap.lt_size he
    have hi' : i < es'.size := by omega
    have een : es'[i] = en := by
      have z := Array.getElem?_eq_getElem hi'
      rw [hen] at z
      exact (Option.some.inj z).symm
    refine DT.nextI (es := es') (by rw [hsz]; exact he) ⟨o, hgd, hx, hdt⟩ hi' fun h' ho hT hz hk => ?_
    rw [een] at ho hT
    refine ⟨_, rfl, wpAny_letOwnedTupleGo_items (s := { s with heap := h' }) ho fun h'' he' sb => ?_⟩
    have hT2 : h''.get? s.heap.objs.size = some { cls := .type "tuple", data := .seq #[en.key, en.val] } := (sb.2 _ (Nat.ne_of_gt hlt)).trans hT
    have new : ObjOk X.prog X.w (upd H s.heap.objs.size (.tup [.ref q, v])) h'' s.heap.objs.size (.tup [.ref q, v]) :=
      ⟨by show 2 ≤ sizeLine; decide, [en.key, en.val], .cons (show RelV (.ref q) en.key from hkey) (.cons rv .nil), ⟨_, hT2, rfl, _, rfl⟩⟩
    have I1 : Inv X pins σ (upd H s.heap.objs.size (.tup [.ref q, v])) { s with heap := h'' } :=
      I.turnedNew (t' := s.toks) (ch := [it]) (fun b ob hb e => (sb.2 b (by simpa using hb)).trans (hk b ob (by simpa using hb) e)) hf (Nat.le_refl _) new
    refine ⟨.ref s.heap.objs.size, _, I1, rfl, ⟨_, k, v, q, hkv, hq, rfl, I.hok.fresh (Nat.le_refl _), rfl⟩, ⟨en.key, en.val, ?_⟩, fun b hb => ?_⟩
    · rw [← hsz]; exact he'
    · have e : b = it := by simpa using hb
      rw [e, upd_ne (Nat.ne_of_lt hlt)]
      exact (hf it (by simp)).1
  done := by
    intro X hP hw hK hc i pins s σ H E I hf st hg
    subst hP hw hK
    obtain ⟨hd, hi⟩ := hg
    obtain ⟨f0, f1, f2, f3, f4, f5⟩ := hf it (by simp)
    obtain ⟨hs, hgd, hx, es', ep', hdt, hsz, ent⟩ := frzT2 I hd
    obtain ⟨rfl, rfl⟩ := dict_ep hod hdt
    obtain ⟨ok, ov, he⟩ := st
    exact DT.endI (es := es') (I.ok.hd hc) (by rw [hsz]; exact he) ⟨o, hgd, hx, hdt⟩ (by omega) fun h' eb => ⟨rfl, I.turned (t' := s.toks) (fun b ob hb e => eb b ob hb e) f0 f1 f3 f4 f5⟩
  self := fun A i s Q E st h => let ⟨_, _, e⟩ := st; PySem.W.kcp_self e h
end
def iItemsA (td : TE) : TI := fun σ H R => td σ H fun x H1 => ∃ d o, x = .ref d ∧ ((∃ kvs, H1 d = some (.frz o (.dK kvs)) ∧ R (Iti d o kvs) H1) ∨ ∃ kvs, H1 d = some (.frz o (.dT kvs)) ∧ R (Itit d o kvs) H1)
section
variable {X : Cx} {tg e : Expr} {td : TE} {apos cpos : Pos}
theorem pi_itemsA {elts : List Expr} {kk : Nat} {tpos : Pos} (he : PE X e td) (hbase : attributeBase e "items" X.env (eval e X.env) = eval e X.env := by rfl) (hline : (apos.endLine == cpos.line) = true := by rfl) :
    PI X (.Tuple elts kk tpos) (.Call (.Attribute e "items" apos) [] [] cpos) (iItemsA td) := by
  refine ⟨fun pins s σ H R I h => ?_⟩
  refine wpAny_Call_method (T := "dict") (id := "dict.items") hbase rfl hline PySem.F.plainAttrs_dict PySem.F.slot_dict_items PySem.F.type_dict_items (thn (he.run pins s σ H _ I h) fun u s1 ⟨x, H1, I1, rx, d, o, ex, q⟩ => ?_)
  subst ex
  obtain rfl : u = Value.ref d := rx
  have I2 : Inv X pins σ H1 { s1 with heap := s1.heap.push { cls := .type "dict_items", data := .fields #[.ref d] } } := I1.kept (t' := s1.toks) fun b ob q => Heap.get?_push_of_some _ q
  have raw : ∃ es ep, (d == sysModules) = false ∧ DT.Raw s1.heap d es ep ∧ s1.heap.get? d = some o ∧ o.data = .dict es ep ∧ ((∃ kvs, H1 d = some (.frz o (.dK kvs)) ∧ es.size = kvs.length ∧ R (Iti d o kvs) H1) ∨ ∃ kvs, H1 d = some (.frz o (.dT kvs)) ∧ es.size = kvs.length ∧ R (Itit d o kvs) H1) := by
    rcases q with ⟨kvs, hd, q⟩ | ⟨kvs, hd, q⟩
    · obtain ⟨hs, hgd, hx, es, ep, vs, hdt, hsz, kv, hm⟩ := I1.frzK hd
      exact ⟨es, ep, hs, ⟨o, hgd, hx, hdt⟩, hgd, hdt, .inl ⟨kvs, hd, hsz, q⟩⟩
    · obtain ⟨hs, hgd, hx, es, ep, hdt, hsz, ent⟩ := frzT2 I1 hd
      exact ⟨es, ep, hs, ⟨o, hgd, hx, hdt⟩, hgd, hdt, .inr ⟨kvs, hd, hsz, q⟩⟩
  obtain ⟨es, ep, hs, hr, hgd, hdt, q⟩ := raw
  refine ⟨hr.typeIs, fun b z => ?_, ?_⟩
  · cases z
    obtain ⟨ob, h1, h2, _⟩ := hr
    exact ⟨ob, h1, h2.2.1⟩
  have fin : wpAny (model X.prog X.w) X.A (pyIter (.ref s1.heap.objs.size)) (PIE X pins σ (.Tuple elts kk tpos) R) X.xe { s1 with heap := s1.heap.push { cls := .type "dict_items", data := .fields #[.ref d] } } := by
    refine DT.iterI (d := d) (es := es) (ep := ep) ⟨_, Heap.get?_push_size _ rfl, rfl, rfl⟩ (hr.push _) ?_
    rcases q with ⟨kvs, hd, hsz, q⟩ | ⟨kvs, hd, hsz, q⟩
    · refine pi_one (tk := s1.toks) I2 _ (turn_items _ hdt) ⟨.none, .none, ?_⟩ q
      rw [← hsz]
      exact Heap.get?_push_size _ rfl
    · refine pi_one (tk := s1.toks) I2 _ (turn_itemsT _ hdt) ⟨.none, .none, ?_⟩ q
      rw [← hsz]
      exact Heap.get?_push_size _ rfl
  show wpAny _ _ (callWith cpos (.builtin "dict.items") [.ref d] [] []) _ X.xe s1
  exact method_meetsIn PySem.F.slot_dict_items PySem.F.entry_dict_items rfl (PySem.evalArgs_none ⟨rfl, hr.typeIs, PySem.F.args_dict_items_1 _, _, DT.meetsItems (es := es) (ep := ep) hs, ⟨hr, fin⟩⟩)
end
section
variable {K : PySem.W.Frag} {mg : Mg} {W : WX} {F F' F1 F2 H H' H1 H2 : Hp} {env env' env1 : Env} {σ σ' : L2.St} {S S' S1 T U U1 L : List Addr} {R : Lk} {tg : Tgt} {body : Sta} {g : TG} {D' : Ends}
/-- the loop, its source at hand -/
theorem for_coreN {J : It} {ds : List D} {Rl : List Addr} (sg : SndG K mg g tg) (s : Sm K mg F H env σ S R T) (hR : ∀ a ∈ Rl, a ∉ S) (w : Walk K mg F H Rl J ds) (h : ContS K mg W F H S R T (forL tg body ds env) D') :
    ∃ Wn : Nat → Nat → L2.St → Hp → Prop, (∃ m, Wn 0 m σ H) ∧ ∀ i m σ H, Wn i m σ H →
      (J.stop i H ∧ D'.nx σ H) ∨ (J.go i H ∧ ∃ N : L2.St → Hp → Prop, (∀ σ' H', N σ' H' → ∃ m', m' < m ∧ Wn (i + 1) m' σ' H') ∧ ∀ x H', J.yld i H x H' → g x σ H' fun σ2 H2 => tS K mg W body { D' with nx := N, ct := N, bk := D'.nx } σ2 H2) := by
  refine ⟨fun i m σ1 H1 => m = ds.length - i ∧ i ≤ ds.length ∧ ∃ env1 F1 S1, Sm K mg F1 H1 env1 σ1 S1 R T ∧ Go F H S F1 H1 S1 ∧ ContS K mg W F H S R T (forL tg body (ds.drop i) env1) D', ⟨ds.length, by simp, Nat.zero_le _, env, F, S, s, Go.refl, by simpa using h⟩, ?_⟩
  rintro i m σ1 H1 ⟨rfl, hi, env1, F1, S1, s1, g1, h1⟩
  have cells : ∀ a ∈ Rl, ∀ o, H a = some o → H1 a = some o := fun a ha o e => g1.fr a o e fun z => hR a ha z
  obtain ⟨w1, w2⟩ := w i F1 H1 g1.sub s1.fz cells
  by_cases hlt : i < ds.length
  · obtain ⟨go, yl⟩ := w1 ds[i] (List.getElem?_eq_getElem hlt)
    have ed : ds.drop i = ds[i] :: ds.drop (i + 1) := List.drop_eq_getElem_cons hlt
    rw [ed] at h1
    refine .inr ⟨go, fun σ' H' => ∃ env2 F2 S2, Sm K mg F2 H' env2 σ' S2 R T ∧ Go F H S F2 H' S2 ∧ ContS K mg W F H S R T (forL tg body (ds.drop (i + 1)) env2) D', fun σ' H' hN => ⟨ds.length - (i + 1), by omega, rfl, hlt, hN⟩, fun x H' y => ?_⟩
    obtain ⟨F2, st, rp⟩ := yl x H' y
    have e0 : forL tg body (ds[i] :: ds.drop (i + 1)) env1 = (match asg tg env1 ds[i] with
      | none => .no
      | some en => (body en).bind fun fl e => match fl with
        | .nx => forL tg body (ds.drop (i + 1)) e
        | .ct => forL tg body (ds.drop (i + 1)) e
        | .bk => .ok .nx e
        | .rt t => .ok (.rt t) e) := rfl
    rw [e0] at h1
    cases ea : asg tg env1 ds[i] with
    | none => rw [ea] at h1; exact h1.elim
    | some en =>
      rw [ea] at h1
      dsimp only at h1
      have s2 : Sm K mg F2 H' env1 σ1 S1 R ([] ++ T) := st.sm s1
      have g2 : Go F H S F2 H' S1 := ((g1.weak (L' := S1 ++ []) (by simp)).trans (st.go (S := S1))).weak (by simp)
      refine sg env1 F2 H' σ1 S1 R T [] ds[i] x en _ s2 rp ea fun σ2 S2 s3 hs _ => ?_
      have g3 : Go F H S F2 H' S2 := g2.weak fun a ha => (hs a ha).elim id fun z => absurd z (by simp)
      refine ⟨en, F2, S2, R, T, s3, ?_⟩
      cases eb : body en with
      | no => rw [eb] at h1; exact h1.elim
      | ex c e2 =>
        rw [eb] at h1
        exact fun cv σ' F' H' S' a b ec => h1 cv σ' F' H' S' a ((g3.weak (L' := S2 ++ []) (by simp)).trans b |>.weak (by simp)) ec
      | ok fl e2 =>
        rw [eb] at h1
        have tr : ∀ {F' H' : Hp} {L : List Addr}, Go F2 _ S2 F' H' L → Go F H S F' H' L := fun b => ((g3.weak (L' := S2 ++ []) (by simp)).trans b).weak (by simp)
        cases fl with
        | nx => exact fun σ' F' H' S' a b => ⟨e2, F', S', a, tr b, h1⟩
        | ct => exact fun σ' F' H' S' a b => ⟨e2, F', S', a, tr b, h1⟩
        | bk => exact fun σ' F' H' S' a b => h1 σ' F' H' S' a (tr b)
        | rt t => exact fun v σ' F' H' S' U a b c => h1 v σ' F' H' S' U a (tr b) c
  · have e : i = ds.length := by omega
    subst e
    rw [List.drop_length] at h1
    exact .inl ⟨w2 (Nat.le_refl _), h1 σ1 F1 H1 S1 s1 g1⟩
end
end DL
/-! DLz: for over a dictionary. -/
namespace DL
open PySem PySem.Spec PyProof.Rows L2

section
variable {K : PySem.W.Frag} {mg : Mg} {W : WX} {F F' F1 F2 H H' H1 H2 : Hp} {env env' env1 : Env} {σ σ' : L2.St} {S S' S1 T U U1 L : List Addr} {R : Lk} {tg : Tgt} {body : Sta} {g : TG} {D' : Ends} {A : Addr → HO → Prop}
mutual
theorem Rp.nfz : ∀ {d : D} {v : V} {S : List Addr}, Rp K mg F A d v S → Rp K mg F (fun a o => A a o ∧ ∀ ob w, o ≠ .frz ob w) d v S
  | _, _, _, .non => .non
  | _, _, _, .bl b => .bl b
  | _, _, _, .int i => .int i
  | _, _, _, .str x => .str x
  | _, _, _, .ty x => .ty x
  | _, _, _, .gl h => .gl h
  | _, _, _, .exc h h' => .exc h h'
  | _, _, _, .tup h hs => .tup h (Rps.nfz hs)
  | _, _, _, .kt h hs => .kt h (Rps.nfz hs)
  | _, _, _, .fl h hs => .fl h (Rps.nfz hs)
  | _, _, _, .ol h hs => .ol ⟨h, fun _ _ z => by cases z⟩ (Rps.nfz hs)
  | _, _, _, .fK h e e' hs => .fK h e e' (Rps.nfz hs)
  | _, _, _, .oK h e e' hs => .oK ⟨h, fun _ _ z => by cases z⟩ e e' (Rps.nfz hs)
  | _, _, _, .fT h e e' hs => .fT h e e' (Rps.nfz hs)
  | _, _, _, .oT h e e' hs => .oT ⟨h, fun _ _ z => by cases z⟩ e e' (Rps.nfz hs)
theorem Rps.nfz : ∀ {ds : List D} {vs : List V} {S : List Addr}, Rps K mg F A ds vs S → Rps K mg F (fun a o => A a o ∧ ∀ ob w, o ≠ .frz ob w) ds vs S
  | _, _, _, .nil => .nil
  | _, _, _, .cons h hs => .cons (Rp.nfz h) (Rps.nfz hs)
end
variable {d : Addr} {u : HO} {od : Obj}
theorem Sm.lockH (s : Sm K mg F H env σ S R T) (eh : H d = some u) (nS : d ∉ S) (nu : ∀ ob w, u ≠ .frz ob w) (fz' : FzOk F (upd H d (.frz od u))) : Sm K mg F (upd H d (.frz od u)) env σ S R T := by
  refine ⟨⟨s.re.mono (Sub.refl F) fun a ha o e => ?_, s.nd, s.rd, fz', s.nf, fun a ha => ?_⟩, s.lk.bd, s.lk.bl, fun i d' e => ?_, s.lk.qr⟩
  · rw [upd_ne fun z => nS (by rw [← z]; exact ha)]
    exact e
  · by_cases z : a = d
    · subst z; rw [upd_same]; simp
    · rw [upd_ne z]; exact s.th a ha
  · obtain ⟨v, Ri, q1, q2, q3, q4⟩ := s.lk.rq i d' e
    refine ⟨v, Ri, q1, q2, q3.mono (Sub.refl F) fun a ha o e => ?_, q4⟩
    show Rd (upd H d (.frz od u)) a o
    by_cases z : a = d
    · subst z
      rcases (show Rd H a o from e) with e | ⟨ob, e⟩
      · rw [eh] at e
        cases e
        exact .inr ⟨od, upd_same⟩
      · rw [eh] at e
        exact absurd (Option.some.inj e) (nu ob o)
    · rcases (show Rd H a o from e) with e | ⟨ob, e⟩
      · exact .inl (by rw [upd_ne z]; exact e)
      · exact .inr ⟨ob, by rw [upd_ne z]; exact e⟩
theorem Sm.unlockH (s : Sm K mg F H env σ S R T) (eh : H d = some (.frz od u)) (nS : d ∉ S) (fz' : FzOk F (upd H d u)) : Sm K mg F (upd H d u) env σ S R T := by
  refine ⟨⟨s.re.mono (Sub.refl F) fun a ha o e => ?_, s.nd, s.rd, fz', s.nf, fun a ha => ?_⟩, s.lk.bd, s.lk.bl, fun i d' e => ?_, s.lk.qr⟩
  · rw [upd_ne fun z => nS (by rw [← z]; exact ha)]
    exact e
  · by_cases z : a = d
    · subst z; rw [upd_same]; simp
    · rw [upd_ne z]; exact s.th a ha
  · obtain ⟨v, Ri, q1, q2, q3, q4⟩ := s.lk.rq i d' e
    refine ⟨v, Ri, q1, q2, q3.nfz.mono (Sub.refl F) fun a ha o ⟨e, nf⟩ => ?_, q4⟩
    show Rd (upd H d u) a o
    by_cases z : a = d
    · subst z
      rcases (show Rd H a o from e) with e | ⟨ob, e⟩
      · rw [eh] at e
        exact absurd (Option.some.inj e).symm (nf od u)
      · rw [eh] at e
        cases e
        exact .inl upd_same
    · rcases (show Rd H a o from e) with e | ⟨ob, e⟩
      · exact .inl (by rw [upd_ne z]; exact e)
      · exact .inr ⟨ob, by rw [upd_ne z]; exact e⟩
theorem Go.frzAt (g : Go F (upd H d (.frz od u)) S F' H' L) (nS : d ∉ S) : H' d = some (.frz od u) := g.fr d _ upd_same nS
theorem Go.unlockH (g : Go F (upd H d (.frz od u)) S F' H' L) (eh : H d = some u) : Go F H S F' (upd H' d u) L where
  sub := g.sub
  fr := fun a o e n => by
    by_cases z : a = d
    · subst z
      rw [eh] at e
      cases e
      exact upd_same
    · rw [upd_ne z]
      exact g.fr a o (by rw [upd_ne z]; exact e) n
  gr := fun a e => by
    by_cases z : a = d
    · subst z; rw [upd_same]; simp
    · rw [upd_ne z]
      exact g.gr a (by rw [upd_ne z]; exact e)
  nw := fun a ha => (g.nw a ha).imp id fun e => by
    by_cases z : a = d
    · subst z; rw [upd_same] at e; cases e
    · rw [upd_ne z] at e; exact e
  nz := fun a e => (g.nz a e).imp id fun q => q.imp id fun e => by
    by_cases z : a = d
    · subst z; rw [upd_same] at e; cases e
    · rw [upd_ne z] at e; exact e
/-- d is frozen as u, or read alone -/
def Kept (F : Hp) (R : Lk) (d : Addr) (u : HO) : Prop := F d = some u ∨ d ∈ R.R
theorem fz_lock (fz : FzOk F H) (eh : H d = some u) (k : F d = some u ∨ F d = none) (nt : ∀ vs, u ≠ .tup vs) : FzOk F (upd H d (.frz od u)) := by
  rcases k with k | k
  · refine ⟨fun a o e => ?_, fun a vs e => ?_⟩
    · by_cases z : a = d
      · subst z
        rw [k] at e
        cases e
        exact .inr ⟨nt, od, upd_same⟩
      · rcases fz.ok a o e with q | ⟨n, ob, q⟩
        · exact .inl (by rw [upd_ne z]; exact q)
        · exact .inr ⟨n, ob, by rw [upd_ne z]; exact q⟩
    · by_cases z : a = d
      · subst z
        rw [upd_same] at e
        cases e
      · rw [upd_ne z] at e
        exact fz.tp a vs e
  · exact fz.updN k fun vs z => by cases z
theorem fz_unlock (fz : FzOk F H) (k : F d = some u ∨ F d = none) (nt : ∀ vs, u ≠ .tup vs) : FzOk F (upd H d u) := by
  rcases k with k | k
  · refine ⟨fun a o e => ?_, fun a vs e => ?_⟩
    · by_cases z : a = d
      · subst z
        rw [k] at e
        cases e
        exact .inl upd_same
      · rcases fz.ok a o e with q | ⟨n, ob, q⟩
        · exact .inl (by rw [upd_ne z]; exact q)
        · exact .inr ⟨n, ob, by rw [upd_ne z]; exact q⟩
    · by_cases z : a = d
      · subst z
        rw [upd_same] at e
        exact absurd (Option.some.inj e) (nt vs)
      · rw [upd_ne z] at e
        exact fz.tp a vs e
  · exact fz.updN k nt
/-! ### the loop -/
def noXs (r : Res Fl) : Res Fl := match r with
  | .ex _ _ => .no
  | r => r
def sForD (i : Nat) (it : D → Option (List D)) (tg : Tgt) (body : Sta) : Sta := fun env => match env[i]? with
  | some (.sl k (.dct m t l)) => if clK l = true then (match it (.dct m t l) with
    | some ds => if m = true ∧ k ≠ Kd.R then unlR i k (noXs (forL tg body ds (env.set i (.sl .R (.dct m t l))))) else noXs (forL tg body ds env)
    | none => .no) else .no
  | _ => .no
def keysOf : D → Option (List D)
  | .dct _ _ l => some (l.map (·.1))
  | _ => none
def prsOf : D → Option (List D)
  | .dct _ _ l => some (l.map fun p => .tup [p.1, p.2])
  | _ => none
/-- the dict's cell as data -/
def DctAt (K : PySem.W.Frag) (mg : Mg) (F : Hp) (u : HO) (t : Dk) (l : List (D × D)) : Prop :=
  (t = .k ∧ ∃ kvs dv, u = .dK kvs ∧ l = zlD kD kvs dv ∧ Rps K mg F (fun _ _ => False) dv (kvs.map (·.2)) []) ∨ (t = .t ∧ ∃ kvs dv, u = .dT kvs ∧ l = zlD tD kvs dv ∧ Rps K mg F (fun _ _ => False) dv (kvs.map (·.2)) [])
theorem DctAt.mono {t : Dk} {l : List (D × D)} (h : DctAt K mg F u t l) (s : Sub F F') : DctAt K mg F' u t l := by
  rcases h with ⟨e, kvs, dv, e1, e2, r⟩ | ⟨e, kvs, dv, e1, e2, r⟩
  · exact .inl ⟨e, kvs, dv, e1, e2, r.mono s fun _ z => absurd z (by simp)⟩
  · exact .inr ⟨e, kvs, dv, e1, e2, r.mono s fun _ z => absurd z (by simp)⟩
theorem DctAt.nt {t : Dk} {l : List (D × D)} (h : DctAt K mg F u t l) : ∀ vs, u ≠ .tup vs := by
  rcases h with ⟨e, kvs, dv, rfl, e2, r⟩ | ⟨e, kvs, dv, rfl, e2, r⟩ <;> exact fun _ z => by cases z
theorem DctAt.nf {t : Dk} {l : List (D × D)} (h : DctAt K mg F u t l) : ∀ ob w, u ≠ .frz ob w := by
  rcases h with ⟨e, kvs, dv, rfl, e2, r⟩ | ⟨e, kvs, dv, rfl, e2, r⟩ <;> exact fun _ _ z => by cases z
theorem DctAt.mu {t : Dk} {l : List (D × D)} (h : DctAt K mg F u t l) : Mut (some u) := by
  rcases h with ⟨e, kvs, dv, rfl, e2, r⟩ | ⟨e, kvs, dv, rfl, e2, r⟩ <;> exact True.intro
def WkD (K : PySem.W.Frag) (mg : Mg) (it : D → Option (List D)) (G : V → Hp → (It → Hp → Prop) → Prop) : Prop :=
  ∀ (F H : Hp) (d : Addr) (od : Obj) (u : HO) (m : Bool) (t : Dk) (l : List (D × D)) (ds : List D), FzOk F H → H d = some (.frz od u) → DctAt K mg F u t l → it (.dct m t l) = some ds → ∃ J, (∀ R : It → Hp → Prop, R J H → G (.ref d) H R) ∧ Walk K mg F H [d] J ds
abbrev tiD (K : PySem.W.Frag) (mg : Mg) (W : WX) (i : Nat) (G : V → Hp → (It → Hp → Prop) → Prop) : TI := fun σ H R => tE K mg W (eV i) σ H fun x H1 => G x H1 R
theorem forD_fin {i : Nat} {it : D → Option (List D)} {G : V → Hp → (It → Hp → Prop) → Prop} {m : Bool} {t : Dk} {l : List (D × D)} {ds : List D} {k1 : Kd} {dd : D} {D2 : Ends} (wk : WkD K mg it G) (sg : SndG K mg g tg)
    (s : Sm K mg F H env σ S R T) (hd : H d = some (.frz od u)) (nS : d ∉ S) (ev : σ[i]? = some (some (.ref d))) (ee : env[i]? = some (.sl k1 dd)) (da : DctAt K mg F u t l) (ei : it (.dct m t l) = some ds)
    (hc : ∀ F2 H2 S2, Sm K mg F2 H2 env σ S2 R T → Go F H S F2 H2 S2 → ContS K mg W F2 H2 S2 R T (forL tg body ds env) D2) : tFor (tiD K mg W i G) g (tS K mg W body) D2 σ H := by
  refine ⟨env, F, S, R, T, s, ?_⟩
  have e0 : eV i env = .ok (.loc i) env := by
    unfold eV
    rw [ee]
  rw [e0]
  intro x F2 H2 S2 U2 s2 g2 rt2
  obtain ⟨rfl, ex⟩ := rt2
  rw [ev] at ex
  cases ex
  have g3 : Go F H S F2 H2 S2 := g2.weak fun a ha => List.mem_append_left _ ha
  have hd2 := g3.fr d _ hd nS
  have nS2 : d ∉ S2 := fun z => by
    rcases g3.nw d z with q | q
    · exact nS q
    · rw [hd] at q; cases q
  obtain ⟨J, gJ, w⟩ := wk F2 H2 d od u m t l ds s2.fz hd2 (da.mono g3.sub) ei
  exact gJ _ (for_coreN sg (s2.temps (List.sublist_append_right _ _)) (fun a ha => by
    rw [List.mem_singleton] at ha
    subst ha
    exact nS2) w (hc F2 H2 S2 (s2.temps (List.sublist_append_right _ _)) g3))
abbrev LkE (d : Addr) (od : Obj) (u : HO) (D' : Ends) : Ends := ⟨fun σ' H' => H' d = some (.frz od u) ∧ D'.nx σ' (upd H' d u), fun v H' => H' d = some (.frz od u) ∧ D'.rt v (upd H' d u), fun σ' H' => H' d = some (.frz od u) ∧ D'.bk σ' (upd H' d u), fun σ' H' => H' d = some (.frz od u) ∧ D'.ct σ' (upd H' d u)⟩
theorem lockCont {r : Res Fl} (s : Sm K mg F H env σ S R T) (eh : H d = some u) (nS : d ∉ S) (k : Kept F R d u) (nt : ∀ vs, u ≠ .tup vs) (h : ContS K mg W F H S R T (noXs r) D') (od : Obj) (s2 : Sm K mg F2 H2 env σ S1 R T) (g2 : Go F (upd H d (.frz od u)) S F2 H2 S1) :
    ContS K mg W F2 H2 S1 R T r (LkE d od u D') := by
  have fin : ∀ {env' : Env} {σ' : L2.St} {F' H' : Hp} {S' U T' : List Addr}, Sm K mg F' H' env' σ' S' R (U ++ T) → Go F2 H2 S1 F' H' (S' ++ U) → H' d = some (.frz od u) ∧ Sm K mg F' (upd H' d u) env' σ' S' R (U ++ T) ∧ Go F H S F' (upd H' d u) (S' ++ U) ∧ d ∉ U := fun {env' σ' F' H' S' U T'} a b => by
    have g3 : Go F (upd H d (.frz od u)) S F' H' (S' ++ U) := (Go.trans (U1 := []) (by simpa using g2) b).weak fun x hx => by simpa using hx
    have hd' := g3.frzAt nS
    have nSU : d ∉ S' ++ U := fun z => by
      rcases g3.nw d z with q | q
      · exact nS q
      · rw [upd_same] at q; cases q
    have k' : F' d = some u ∨ F' d = none := by
      rcases k with k | k
      · exact .inl (g3.sub d u k)
      · exact .inr (a.nf d (List.mem_append_right _ (List.mem_append_left _ k)))
    exact ⟨hd', a.unlockH hd' (fun z => nSU (List.mem_append_left _ z)) (fz_unlock a.fz k' nt), g3.unlockH eh, fun z => nSU (List.mem_append_right _ z)⟩
  cases r with
  | no => exact h.elim
  | ex c e => exact h.elim
  | ok fl e =>
    cases fl with
    | nx =>
      intro σ' F' H' S' a b
      obtain ⟨q1, q2, q3, _⟩ := fin (U := []) (T' := []) a (by simpa using b)
      exact ⟨q1, h σ' F' _ S' q2 (by simpa using q3)⟩
    | bk =>
      intro σ' F' H' S' a b
      obtain ⟨q1, q2, q3, _⟩ := fin (U := []) (T' := []) a (by simpa using b)
      exact ⟨q1, h σ' F' _ S' q2 (by simpa using q3)⟩
    | ct =>
      intro σ' F' H' S' a b
      obtain ⟨q1, q2, q3, _⟩ := fin (U := []) (T' := []) a (by simpa using b)
      exact ⟨q1, h σ' F' _ S' q2 (by simpa using q3)⟩
    | rt t =>
      intro v σ' F' H' S' U a b rt
      obtain ⟨q1, q2, q3, q4⟩ := fin (U := U) (T' := []) a b
      refine ⟨q1, h v σ' F' _ S' U q2 q3 ?_⟩
      cases t with
      | loc j => exact rt
      | vl dv =>
        refine Rp.mono (Sub.refl F') rt fun x hx o e => ?_
        show upd H' d u x = some o
        rw [upd_ne fun z => q4 (by rw [← z]; exact hx)]
        exact e
theorem dctAt_of {m : Bool} {t : Dk} {l : List (D × D)} {v : V} {S0 : List Addr} (r : Rp K mg F A (.dct m t l) v S0) (hc : clK l = true) : ∃ d u, v = .ref d ∧ DctAt K mg F u t l ∧ ((m = false ∧ S0 = [] ∧ F d = some u) ∨ (m = true ∧ S0 = [d] ∧ A d u)) := by
  cases r with
  | @fK a kvs ks ds _ h1 h2 h3 h4 =>
    subst h2 h3
    exact ⟨a, _, rfl, .inl ⟨rfl, kvs, ds, rfl, rfl, h4.any⟩, .inl ⟨rfl, rfl, h1⟩⟩
  | @oK a kvs ks ds _ S0 h1 h2 h3 h4 =>
    subst h2 h3
    have hl : ds.length = kvs.length := by have := h4.length; simpa using this
    have e : S0 = [] := h4.clean (by rw [← zlD_cl (enc := kD) hl]; exact hc)
    subst e
    exact ⟨a, _, rfl, .inl ⟨rfl, kvs, ds, rfl, rfl, h4.any⟩, .inr ⟨rfl, rfl, h1⟩⟩
  | @fT a kvs ks ds _ h1 h2 h3 h4 =>
    subst h2 h3
    exact ⟨a, _, rfl, .inr ⟨rfl, kvs, ds, rfl, rfl, h4.any⟩, .inl ⟨rfl, rfl, h1⟩⟩
  | @oT a kvs ks ds _ S0 h1 h2 h3 h4 =>
    subst h2 h3
    have hl : ds.length = kvs.length := by have := h4.length; simpa using this
    have e : S0 = [] := h4.clean (by rw [← zlD_cl (enc := tD) hl]; exact hc)
    subst e
    exact ⟨a, _, rfl, .inr ⟨rfl, kvs, ds, rfl, rfl, h4.any⟩, .inr ⟨rfl, rfl, h1⟩⟩
/-- the loop over a dict that is not the slot's own -/
theorem forD_other {i : Nat} {it : D → Option (List D)} {G : V → Hp → (It → Hp → Prop) → Prop} {m : Bool} {t : Dk} {l : List (D × D)} {ds : List D} {k1 : Kd} {dd : D} (wk : WkD K mg it G) (sg : SndG K mg g tg)
    (s : Sm K mg F H env σ S R T) (hd : Rd H d u) (nS : d ∉ S) (kp : Kept F R d u) (ev : σ[i]? = some (some (.ref d))) (ee : env[i]? = some (.sl k1 dd)) (da : DctAt K mg F u t l) (ei : it (.dct m t l) = some ds)
    (h : ContS K mg W F H S R T (noXs (forL tg body ds env)) D') : tFor (tiD K mg W i G) g (tS K mg W body) D' σ H ∨ tLock (tFor (tiD K mg W i G) g (tS K mg W body)) D' σ H := by
  have kF : F d = some u ∨ F d = none := by
    rcases kp with k | k
    · exact .inl k
    · exact .inr (s.nf d (List.mem_append_right _ (List.mem_append_left _ k)))
  rcases hd with hd | ⟨ob, hd⟩
  · refine .inr ⟨d, u, hd, da.mu, fun od => ?_⟩
    exact forD_fin (D2 := LkE d od u D') wk sg (s.lockH hd nS da.nf (fz_lock s.fz hd kF da.nt)) upd_same nS ev ee da ei fun F2 H2 S2 s2 g2 => lockCont s hd nS kp da.nt h od s2 g2
  · refine .inl (forD_fin wk sg s hd nS ev ee da ei fun F2 H2 S2 s2 g2 => ?_)
    have h' := h.re0 g2
    cases e : forL tg body ds env with
    | no => rw [e] at h'; exact h'.elim
    | ex c e2 => rw [e] at h'; exact h'.elim
    | ok fl e2 => rw [e] at h'; exact h'
theorem t_ForD {i : Nat} {it : D → Option (List D)} {G : V → Hp → (It → Hp → Prop) → Prop} (wk : WkD K mg it G) (sg : SndG K mg g tg) (h : tS K mg W (sForD i it tg body) D' σ H) : tFor (tiD K mg W i G) g (tS K mg W body) D' σ H ∨ tLock (tFor (tiD K mg W i G) g (tS K mg W body)) D' σ H := by
  obtain ⟨en, F1, S1, R, T, s1, h1⟩ := h
  unfold sForD at h1
  split at h1
  · rename_i k m t l hi2
    split at h1
    · rename_i hc
      split at h1
      · rename_i ds ei
        split at h1
        · rename_i hm
          obtain ⟨rfl, hk⟩ := hm
          let d : D := .dct true t l
          let F1' := F1
          let H1 := H
          obtain ⟨v, Sa, Sb, ev, rp, p, s2⟩ := s1.lock hi2 hk
          have nd1 : ∀ z, Sa.count z + Sb.count z + T.count z ≤ 1 := fun z => by
            have c1 := p.count_eq z
            have c2 := nodup_count.mp s1.nd z
            simp only [List.count_append] at c1 c2
            omega
          have back : ∀ {env2 env3 : Env} {σ' : L2.St} {F' H' : Hp} {S' T' : List Addr}, Sm K mg F' H' env2 σ' S' ⟨Sa ++ R.R, fun j => if j = i then some v else R.B j, fun j => if j = i then some (d, Sa) else R.Q j⟩ T' → Go F1 H Sb F' H' S' → unl i k env2 = some env3 →
              ∃ S3, Sm K mg F' H' env3 σ' S3 R T' ∧ S3.Perm (Sa ++ S') := fun {env2 env3 σ' F' H' S' T'} a b eu => by
            refine a.unlock hk ?_ (fun w hw => ?_) (rp.mono b.sub fun c hc o eo => b.fr c o eo fun z => ?_) (nodup_count.mpr fun z => by have := nd1 z; omega) (fun c hc hd => ?_) s1.lk.qr eu
            · exact s1.lk.bl i _ hi2
            · have z := s1.lk.bd i w hw
              rw [ev] at z
              cases z
              rfl
            · have c0 := List.count_pos_iff.mpr hc
              have c1 := List.count_pos_iff.mpr z
              have := nd1 c
              omega
            · exact s1.rd c hc (List.mem_append_left _ (p.mem_iff.mpr (List.mem_append_left _ hd)))
          have goB : ∀ {F' H' : Hp} {S' S3 U : List Addr}, Go F1 H Sb F' H' (S' ++ U) → S3.Perm (Sa ++ S') → Go F1 H S1 F' H' (S3 ++ U) := fun {F' H' S' S3 U} b q => by
            have inb : ∀ c ∈ Sb, c ∈ S1 := fun c hc => p.mem_iff.mpr (List.mem_append_right _ hc)
            refine ⟨b.sub, fun c o eo n => b.fr c o eo fun z => n (inb c z), b.gr, fun c hc => ?_, fun c ec => (b.nz c ec).imp id fun z => z.imp (inb c) id⟩
            rcases List.mem_append.mp hc with z | z
            · rcases List.mem_append.mp (q.mem_iff.mp z) with y | y
              · exact .inl (p.mem_iff.mpr (List.mem_append_left _ y))
              · exact (b.nw c (List.mem_append_left _ y)).imp (inb c) id
            · exact (b.nw c (List.mem_append_right _ z)).imp (inb c) id
          have h2 : ContS K mg W F1 H Sb ⟨Sa ++ R.R, fun j => if j = i then some v else R.B j, fun j => if j = i then some (d, Sa) else R.Q j⟩ T (noXs (forL tg body ds (en.set i (.sl .R d)))) D' := by
            cases er : noXs (forL tg body ds (en.set i (.sl .R d))) with
            | no => rw [er] at h1; exact h1.elim
            | ex c en2 =>
              rw [er] at h1
              have h1' : ContS K mg W F1 H S1 R T (match unl i k en2 with
                | some e => .ex c e
                | none => .no) D' := h1
              split at h1'
              · rename_i e3 eu
                intro cv σ' F' H' S' a b ec
                obtain ⟨S3, s3, q⟩ := back a b eu
                exact h1' cv σ' F' H' S3 s3 ((goB (U := []) (by simpa using b) q).weak (by simp)) ec
              · exact h1'.elim
            | ok fl en2 =>
              rw [er] at h1
              have h1' : ContS K mg W F1 H S1 R T (match unl i k en2 with
                | some e => .ok fl e
                | none => .no) D' := h1
              split at h1'
              · rename_i e3 eu
                cases fl with
                | nx =>
                  intro σ' F' H' S' a b
                  obtain ⟨S3, s3, q⟩ := back a b eu
                  exact h1' σ' F' H' S3 s3 ((goB (U := []) (by simpa using b) q).weak (by simp))
                | bk =>
                  intro σ' F' H' S' a b
                  obtain ⟨S3, s3, q⟩ := back a b eu
                  exact h1' σ' F' H' S3 s3 ((goB (U := []) (by simpa using b) q).weak (by simp))
                | ct =>
                  intro σ' F' H' S' a b
                  obtain ⟨S3, s3, q⟩ := back a b eu
                  exact h1' σ' F' H' S3 s3 ((goB (U := []) (by simpa using b) q).weak (by simp))
                | rt t =>
                  intro v' σ' F' H' S' U a b rt
                  have b' : Go F1 H Sb F' H' S' := b.weak fun c hc => List.mem_append_left _ hc
                  obtain ⟨S3, s3, q⟩ := back a b' eu
                  exact h1' v' σ' F' H' S3 U s3 (goB b q) rt
              · exact h1'.elim
          obtain ⟨a, u, rfl, da, q⟩ := dctAt_of rp hc
          rcases q with ⟨z, _, _⟩ | ⟨_, eS, ea⟩
          · cases z
          · subst eS
            have hi3 : (en.set i (.sl .R d))[i]? = some (.sl .R d) := List.getElem?_set_self (List.getElem?_eq_some_iff.mp hi2).1
            refine forD_other wk sg s2 (.inl ea) (fun z => ?_) (.inr (List.mem_append_left _ (by simp))) ev hi3 da ei h2
            have := nd1 a
            have := List.count_pos_iff.mpr z
            simp only [List.count_cons_self] at *
            omega
        · rename_i hm
          have cd : m = false ∨ k = .R := by
            cases m with
            | false => exact .inl rfl
            | true =>
              refine .inr ?_
              by_cases hk : k = .R
              · exact hk
              · exact absurd ⟨rfl, hk⟩ hm
          by_cases hk : k = .R
          · subst hk
            obtain ⟨v, Ri, y1, y2, y3, y4⟩ := s1.lk.rq i _ hi2
            have ev := s1.lk.bd i v y2
            obtain ⟨a, u, rfl, da, q⟩ := dctAt_of y3 hc
            rcases q with ⟨_, _, hF⟩ | ⟨_, eS, ea⟩
            · exact forD_other wk sg s1 (s1.fz.ok a u hF).rd (fun z => by
                have := s1.nf a (List.mem_append_left _ z)
                rw [hF] at this
                cases this) (.inl hF) ev hi2 da ei h1
            · have aR : a ∈ R.R := y4 a (by rw [eS]; simp)
              exact forD_other wk sg s1 ea (fun z => s1.rd a aR (List.mem_append_left _ z)) (.inr aR) ev hi2 da ei h1
          · have em : m = false := cd.resolve_right hk
            subst em
            obtain ⟨v, Sa, Sb, ev, rp, p, _⟩ := s1.toSm0.take hi2 hk
            obtain ⟨a, u, rfl, da, q⟩ := dctAt_of rp hc
            rcases q with ⟨_, _, hF⟩ | ⟨z, _, _⟩
            · exact forD_other wk sg s1 (s1.fz.ok a u hF).rd (fun z => by
                have := s1.nf a (List.mem_append_left _ z)
                rw [hF] at this
                cases this) (.inl hF) ev hi2 da ei h1
            · cases z
      · exact h1.elim
    · exact h1.elim
  · exact h1.elim
end
end DL
/-! DLza: for over a dictionary's keys, its pairs. -/
namespace DL
open PySem PySem.Spec PyProof.Rows L2

section
variable {K : PySem.W.Frag} {mg : Mg} {F H : Hp} {A : Addr → HO → Prop}
abbrev GKy : V → Hp → (It → Hp → Prop) → Prop := fun x H1 R => ∃ d o, x = .ref d ∧ ((∃ kvs, H1 d = some (.frz o (.dK kvs)) ∧ R (Itk d o kvs) H1) ∨ ∃ kvs, H1 d = some (.frz o (.dT kvs)) ∧ R (Itkt d o kvs) H1)
abbrev GPr : V → Hp → (It → Hp → Prop) → Prop := fun x H1 R => ∃ d o, x = .ref d ∧ ((∃ kvs, H1 d = some (.frz o (.dK kvs)) ∧ R (Iti d o kvs) H1) ∨ ∃ kvs, H1 d = some (.frz o (.dT kvs)) ∧ R (Itit d o kvs) H1)
theorem key_rp (k : L2.Key) : Rp K mg F A (kD k) (kV k) [] := by
  cases k with
  | inl i => exact .int i
  | inr x => exact .str x
theorem keys_rps : ∀ ks : List L2.Key, Rps K mg F A (ks.map kD) (ks.map kV) []
  | [] => .nil
  | k :: ks => .cons (S := []) (T := []) (key_rp k) (keys_rps ks)
theorem zlD_fst {κ : Type} {enc : κ → D} {kvs : List (κ × V)} {dv : List D} (h : dv.length = kvs.length) : (zlD enc kvs dv).map (·.1) = kvs.map fun p => enc p.1 := by
  unfold zlD
  rw [zip_fst (by rw [List.length_map, h])]
theorem zlD_at {κ : Type} {enc : κ → D} : ∀ {kvs : List (κ × V)} {dv : List D} {j : Nat} {p : D × D}, (zlD enc kvs dv)[j]? = some p → ∃ q, kvs[j]? = some q ∧ p.1 = enc q.1 ∧ dv[j]? = some p.2
  | [], _, _, _, h => by simp [zlD] at h
  | q :: kvs, [], _, _, h => by simp [zlD] at h
  | q :: kvs, d :: dv, 0, p, h => by
    have h' : ((enc q.1, d) :: zlD enc kvs dv)[0]? = some p := h
    simp at h'
    subst h'
    exact ⟨q, rfl, rfl, rfl⟩
  | q :: kvs, d :: dv, j + 1, p, h => by
    have h' : ((enc q.1, d) :: zlD enc kvs dv)[j + 1]? = some p := h
    rw [List.getElem?_cons_succ] at h'
    exact zlD_at (kvs := kvs) (dv := dv) (j := j) h'
theorem wk_keys : WkD K mg keysOf GKy := by
  intro F H d od u m t l ds fz hd da ei
  cases ei
  rcases da with ⟨rfl, kvs, dv, rfl, rfl, r⟩ | ⟨rfl, kvs, dv, rfl, rfl, r⟩
  · have hl : dv.length = kvs.length := by have := r.length; simpa using this
    rw [zlD_fst hl]
    refine ⟨Itk d od kvs, fun R hR => ⟨d, od, rfl, .inl ⟨kvs, hd, hR⟩⟩, fun j Fj Hj sub fz' cells => ?_⟩
    have hj := cells d (by simp) _ hd
    refine ⟨fun x ex => ?_, fun hz => ⟨hj, by simpa using hz⟩⟩
    rw [List.getElem?_map] at ex
    cases ek : kvs[j]? with
    | none => rw [ek] at ex; cases ex
    | some p =>
      rw [ek] at ex
      cases ex
      refine ⟨⟨hj, (List.getElem?_eq_some_iff.mp ek).1⟩, fun y H'' ⟨eh, k, v, ek2, ey⟩ => ?_⟩
      subst eh ey
      rw [ek] at ek2
      cases ek2
      exact ⟨Fj, Step.pure fz', key_rp _⟩
  · have hl : dv.length = kvs.length := by have := r.length; simpa using this
    rw [zlD_fst hl]
    refine ⟨Itkt d od kvs, fun R hR => ⟨d, od, rfl, .inr ⟨kvs, hd, hR⟩⟩, fun j Fj Hj sub fz' cells => ?_⟩
    have hj := cells d (by simp) _ hd
    refine ⟨fun x ex => ?_, fun hz => ⟨hj, by simpa using hz⟩⟩
    rw [List.getElem?_map] at ex
    cases ek : kvs[j]? with
    | none => rw [ek] at ex; cases ex
    | some p =>
      rw [ek] at ex
      cases ex
      refine ⟨⟨hj, (List.getElem?_eq_some_iff.mp ek).1⟩, fun y H'' ⟨eh, k, v, q, ek2, ey, hq⟩ => ?_⟩
      subst eh ey
      rw [ek] at ek2
      cases ek2
      exact ⟨Fj, Step.pure fz', .tup (fz'.tp q _ hq) (keys_rps _)⟩
theorem wk_prs : WkD K mg prsOf GPr := by
  intro F H d od u m t l ds fz hd da ei
  cases ei
  rcases da with ⟨rfl, kvs, dv, rfl, rfl, r⟩ | ⟨rfl, kvs, dv, rfl, rfl, r⟩
  · have hl : dv.length = kvs.length := by have := r.length; simpa using this
    refine ⟨Iti d od kvs, fun R hR => ⟨d, od, rfl, .inl ⟨kvs, hd, hR⟩⟩, fun j Fj Hj sub fz' cells => ?_⟩
    have hj := cells d (by simp) _ hd
    refine ⟨fun x ex => ?_, fun hz => ⟨hj, by rw [List.length_map, zlD_len hl] at hz; exact hz⟩⟩
    rw [List.getElem?_map] at ex
    cases ez : (zlD kD kvs dv)[j]? with
    | none => rw [ez] at ex; cases ex
    | some p =>
      rw [ez] at ex
      cases ex
      obtain ⟨q, ek, e1, e2⟩ := zlD_at ez
      refine ⟨⟨hj, (List.getElem?_eq_some_iff.mp ek).1⟩, fun y H'' ⟨T, k, v, ek2, ey, hT, eh⟩ => ?_⟩
      subst eh ey
      rw [ek] at ek2
      cases ek2
      refine ⟨_, Step.fro fz' hT, new_tup (fz'.gone hT) ?_⟩
      rw [e1]
      exact .cons (S := []) (T := []) (key_rp _) (.cons (S := []) (T := []) ((r.at0 (i := j) (v := v) (d := p.2) (by rw [List.getElem?_map, ek]; rfl) e2).mono sub fun _ z => absurd z (by simp)) .nil)
  · have hl : dv.length = kvs.length := by have := r.length; simpa using this
    refine ⟨Itit d od kvs, fun R hR => ⟨d, od, rfl, .inr ⟨kvs, hd, hR⟩⟩, fun j Fj Hj sub fz' cells => ?_⟩
    have hj := cells d (by simp) _ hd
    refine ⟨fun x ex => ?_, fun hz => ⟨hj, by rw [List.length_map, zlD_len hl] at hz; exact hz⟩⟩
    rw [List.getElem?_map] at ex
    cases ez : (zlD tD kvs dv)[j]? with
    | none => rw [ez] at ex; cases ex
    | some p =>
      rw [ez] at ex
      cases ex
      obtain ⟨q, ek, e1, e2⟩ := zlD_at ez
      refine ⟨⟨hj, (List.getElem?_eq_some_iff.mp ek).1⟩, fun y H'' ⟨T, k, v, b, ek2, hb, ey, hT, eh⟩ => ?_⟩
      subst eh ey
      rw [ek] at ek2
      cases ek2
      refine ⟨_, Step.fro fz' hT, new_tup (fz'.gone hT) ?_⟩
      rw [e1]
      exact .cons (S := []) (T := []) (.tup (fz'.tp b _ hb) (keys_rps _)) (.cons (S := []) (T := []) ((r.at0 (i := j) (v := v) (d := p.2) (by rw [List.getElem?_map, ek]; rfl) e2).mono sub fun _ z => absurd z (by simp)) .nil)
end
theorem ps_or2 {X : Cx} {st : Stmt} {t1 t2 : TS} (h1 : PS X st t1) (h2 : PS X st t2) : PS X st fun D σ H => t1 D σ H ∨ t2 D σ H := ⟨fun pins s σ H D I h => h.elim (h1.run pins s σ H D I) (h2.run pins s σ H D I)⟩
section
variable {X : Cx} {W : WX} {tge : Expr} {st : List Stmt} {pos p apos cpos tpos : Pos} {tg : Tgt} {body : Sta} {g : TG} {x : Str} {elts : List Expr} {kk : Nat}
theorem js_forK (i : Nat) (hp : PassesOwn (model X.prog X.w) X.A X.env X.xe) (hc : X.calm = true) (hg : PG X tge g) (sg : SndG X.K X.mg g tg) (hb : JB X W st body)
    (hN : X.N[i]? = some x := by rfl) (hv : Vis X.env.scope x := by first | exact Or.inl rfl | exact Or.inr (Or.inl rfl) | exact Or.inr (Or.inr rfl)) (hd : (x == ("__debug__" : Str)) = false := by decide) (hcd : (x == ("__classdict__" : Str)) = false := by decide)
    (hs : ∀ y, foldedSetIterable (.Name x p) X.env y = pure y := by intro _; rfl) : JS X W (.For tge (.Name x p) st [] pos) (sForD i keysOf tg body) :=
  have h : PS X (.For tge (.Name x p) st [] pos) (tFor (tiD X.K X.mg W i GKy) g (tS X.K X.mg W body)) := ps_for hp hc (pi_keys (je_var (W := W) i hN hv hd hcd)) hg hb hs
  js_of (ps_or2 h (ps_lock h)) fun _ _ _ h => t_ForD wk_keys sg h
theorem js_forP (i : Nat) (hp : PassesOwn (model X.prog X.w) X.A X.env X.xe) (hc : X.calm = true) (hg : PG X (.Tuple elts kk tpos) g) (sg : SndG X.K X.mg g tg) (hb : JB X W st body)
    (hN : X.N[i]? = some x := by rfl) (hv : Vis X.env.scope x := by first | exact Or.inl rfl | exact Or.inr (Or.inl rfl) | exact Or.inr (Or.inr rfl)) (hd : (x == ("__debug__" : Str)) = false := by decide) (hcd : (x == ("__classdict__" : Str)) = false := by decide)
    (hbase : attributeBase (.Name x p) "items" X.env (eval (.Name x p) X.env) = eval (.Name x p) X.env := by rfl) (hline : (apos.endLine == cpos.line) = true := by rfl)
    (hs : ∀ y, foldedSetIterable (.Call (.Attribute (.Name x p) "items" apos) [] [] cpos) X.env y = pure y := by intro _; rfl) : JS X W (.For (.Tuple elts kk tpos) (.Call (.Attribute (.Name x p) "items" apos) [] [] cpos) st [] pos) (sForD i prsOf tg body) :=
  have h : PS X (.For (.Tuple elts kk tpos) (.Call (.Attribute (.Name x p) "items" apos) [] [] cpos) st [] pos) (tFor (tiD X.K X.mg W i GPr) g (tS X.K X.mg W body)) := ps_for hp hc (pi_itemsA (je_var (W := W) i hN hv hd hcd) hbase hline) hg hb hs
  js_of (ps_or2 h (ps_lock h)) fun _ _ _ h => t_ForD wk_prs sg h
end
end DL
/-! DLzb: a tuple from behind. -/
namespace HT
open PySem PySem.W PySem.Calls PyProof.Rows PyProof.V PySem.Spec
section
variable {prog : Program} {w : World} {A : Around} {E : Value → Shared → Prop} {s : Shared}
theorem sliceApplied_rev {sl : Addr} {t : Tok} {n : Nat} {Q : Int × Int × Nat → Shared → Prop} (hs : s.heap.IsSliceOf sl .none .none (.int (-1) t))
    (h : Q ((n : Int) - 1, -1, n) s) : wpAny (model prog w) A (Builtin.Slice.sliceApplied (.ref sl) (pure (n : Int))) Q E s := by
  obtain ⟨os, hos, hcs, hds⟩ := id hs
  unfold Builtin.Slice.sliceApplied Builtin.Slice.sliceFields
  refine wpAny_bind (wpAny_bind (wpAny_field hos hds (x := .none) rfl (wpAny_bind (wpAny_field hos hds (x := .none) rfl (wpAny_bind (wpAny_field hos hds (x := .int (-1) t) rfl (wpAny_pure ?_)))))))
  refine wpAny_bind (slicePart_int ?_)
  show wpAny _ _ (if ((-1 : Int) == 0) = true then _ else _) _ _ s
  rw [if_neg (by decide)]
  refine wpAny_bind (slicePart_none (wpAny_bind (slicePart_none (wpAny_bind (wpAny_pure ?_)))))
  show wpAny _ _ (match Builtin.Slice.sliceAdjust none none (-1) (n : Int) with | (lo, hi) => pure (lo, (-1 : Int), Builtin.Slice.slicePlaces lo hi (-1))) _ _ s
  have e1 : Builtin.Slice.sliceAdjust none none (-1) (n : Int) = ((n : Int) - 1, -1) := rfl
  have e2 : Builtin.Slice.slicePlaces ((n : Int) - 1) (-1) (-1) = n := by
    unfold Builtin.Slice.slicePlaces
    simp only [show ¬ ((-1 : Int) > 0) by omega, if_false, Int.neg_neg, Int.ediv_one]
    split <;> omega
  rw [e1]
  show wpAny _ _ (pure ((n : Int) - 1, (-1 : Int), Builtin.Slice.slicePlaces ((n : Int) - 1) (-1) (-1))) _ _ s
  rw [e2]
  exact wpAny_pure h
theorem fm_congr {α β : Type} {f g : α → Option β} : ∀ {l : List α}, (∀ x ∈ l, f x = g x) → l.filterMap f = l.filterMap g
  | [], _ => rfl
  | x :: l, h => by
    rw [List.filterMap_cons, List.filterMap_cons, h x List.mem_cons_self, fm_congr fun y hy => h y (List.mem_cons_of_mem _ hy)]
theorem pick_rev (xs : Array Value) : ((List.range xs.size).filterMap fun (m : Nat) => xs[((xs.size : Int) - 1 + (m : Int) * (-1)).toNat]?) = xs.toList.reverse := by
  have e : ∀ m ∈ List.range xs.size, xs[((xs.size : Int) - 1 + (m : Int) * (-1)).toNat]? = xs.toList.reverse[m]? := fun m hm => by
    have hm := List.mem_range.mp hm
    rw [List.getElem?_reverse (by rw [Array.length_toList]; exact hm), Array.length_toList, Array.getElem?_toList, show ((xs.size : Int) - 1 + (m : Int) * (-1)).toNat = xs.size - 1 - m by omega]
  rw [fm_congr e]
  have : ∀ l : List Value, ((List.range l.length).filterMap fun m => l[m]?) = l := fun l => by
    induction l with
    | nil => rfl
    | cons x l ih =>
      rw [List.length_cons, List.range_succ_eq_map, List.filterMap_cons]
      show x :: _ = _
      rw [List.filterMap_map]
      congr 1
  have q := this xs.toList.reverse
  rw [List.length_reverse, Array.length_toList] at q
  exact q
theorem getItem_tuple_rev {a sl : Addr} {t : Tok} {items : Array Value} {Q : Value → Shared → Prop} (ht : IsTup s.heap a items) (hs : s.heap.IsSliceOf sl .none .none (.int (-1) t))
    (h : Q (.ref s.heap.objs.size) { s with heap := s.heap.push { cls := .type "tuple", data := .seq items.toList.reverse.toArray } })
    (hsz : items.size ≤ sizeLine) : wpAny (model prog w) A (getItem (.ref a) (.ref sl)) Q E s := by
  have htake : sizeOk (.seq items.toList.reverse.toArray) := by
    show items.toList.reverse.toArray.size ≤ sizeLine
    rw [List.size_toArray, List.length_reverse, Array.length_toList]
    exact hsz
  obtain ⟨os, hos, hcs, hds⟩ := id hs
  have hTs : s.TypeIs (.ref sl) "slice" := ⟨os, hos, hcs⟩
  unfold getItem
  try with_reducible refine wpAny_holding ?_
  first | refine wpAny_bind (wpAny_pure ?_) | skip
  refine wpAny_bind (wpAny_sequenceKey ht.typeIs (by decide) ?_)
  refine wpAny_bind (wpAny_callSpecial?_slot (name := Str.ofString "__getitem__") ht.typeIs PyProof.Rows.slot_tuple_getitem
    (wpAny_call_entry PyProof.Rows.slot_tuple_getitem ht.typeIs entry_tuple_getitem ?_ (args_tuple_getitem _ _)))
  show wpAny _ _ (Builtin.Tuple.tupleItemsOf (.ref a) >>= _) _ _ s
  refine wpAny_bind (tupleItemsOf_ ht ?_)
  refine wpAny_bind (wpAny_typeOf hTs ?_)
  rw [if_pos (by decide)]
  refine wpAny_bind (sliceApplied_rev hs ?_)
  have hno : ¬ ((((items.size : Int) - 1) == 0 && (-1 : Int) == 1 && items.size == items.size) = true) := by
    intro q
    rw [Bool.and_eq_true, Bool.and_eq_true] at q
    exact absurd (eq_of_beq q.1.2) (by decide)
  show wpAny _ _ (if (((items.size : Int) - 1) == 0 && (-1 : Int) == 1 && items.size == items.size) = true then _ else _) _ _ s
  rw [if_neg hno, pick_rev]
  first
    | exact wpAny_bind (m := Builtin.Tuple.tupleExact _) (wpAny_newObj_type (wpAny_pure ⟨_, rfl, wpAny_pure h⟩) htake)
    | exact wpAny_bind (m := Builtin.Tuple.tupleExact _) (wpAny_newObj_type (wpAny_bind (wpAny_pure (wpAny_pure ⟨_, rfl, wpAny_pure h⟩))) htake)
    | exact wpAny_bind (wpAny_bind (m := Builtin.Tuple.tupleExact _) (wpAny_newObj_type (wpAny_pure (wpAny_pure ⟨_, rfl, wpAny_pure h⟩)) htake))
    | exact wpAny_bind (wpAny_bind (m := Builtin.Tuple.tupleExact _) (wpAny_newObj_type (wpAny_pure ⟨_, rfl, wpAny_pure h⟩) htake))
end
end HT
namespace DL
open PySem PySem.Spec PyProof.Rows L2
/-- t[::-1] -/
def rStT (K : PySem.W.Frag) : V → Int → Hp → VK → Prop := fun x k H Q => ∃ a xs, x = V.ref a ∧ SqT K H a xs ∧ k = -1 ∧ ∀ p, H p = none → Q (.ref p) (upd H p (.tup xs.reverse))
theorem pe_sl3T {X : Cx} {e st : Expr} {te ts : TE} {pos p2 : Pos} (he : PE X e te) (hs : PE X st ts) : PE X (.Subscript e (.Slice none none (some st) p2) pos) (tSl3 (rStT X.K) te ts) := ⟨fun pins s σ H Q I h => by
  refine Subscript_ (thn (he.run pins s σ H _ I h) fun v s1 z => ?_)
  obtain ⟨x, H1, I1, r1, q1⟩ := z
  refine wpAny_Slice (thn (po_none.run pins s1 σ H1 (fun o H2 => o = none ∧ H2 = H1) I1 ⟨rfl, rfl⟩) fun vl s2 z => ?_)
  obtain ⟨l, H2, I2, pl, rfl, rfl⟩ := z
  refine thn (po_none.run pins s2 σ H2 (fun o H3 => o = none ∧ H3 = H2) I2 ⟨rfl, rfl⟩) fun vu s3 z => ?_
  obtain ⟨u, H3, I3, pu, rfl, rfl⟩ := z
  refine thn ((po_some hs).run pins s3 σ H3 _ I3 q1) fun vt s4 z => ?_
  obtain ⟨o, H4, I4, pt, k, rfl, a, xs, rfl, hx, rfl, q⟩ := z
  cases r1
  cases pl
  cases pu
  cases pt with
  | int i tk =>
    have I5 := Inv.kept (t' := s4.toks) I4 fun b ob q => Heap.get?_push_of_some { cls := Value.type "slice", data := Data.fields #[.none, .none, .int (-1) tk] } q
    obtain ⟨its, r, ht, hz⟩ := Inv.tuple I5 hx
    have hlen := Vals.length r
    refine tail_any ht.typeIs PyProof.Rows.slot_tuple_getitem.lookup (HT.getItem_tuple_rev ht (Heap.IsSliceOf.new s4.heap .none .none (.int (-1) tk)) ?_ ?_) rfl
    · refine ⟨V.ref _, upd H4 _ (.tup xs.reverse), I5.laid (o := .tup xs.reverse) (t' := s4.toks) (fun _ _ q => Heap.get?_push_of_some _ q) (Nat.le_refl _) ⟨by rw [List.length_reverse]; exact hz, its.reverse, Vals.reverse r, ⟨_, Heap.get?_push_size _ rfl, rfl, _, rfl⟩⟩, rfl, q _ (I5.hok.fresh (Nat.le_refl _))⟩
    · rw [List.size_toArray, ← hlen]
      exact hz⟩

theorem e2_or {g g1 g2 : D → D → Option D} (hg : ∀ d1, (∀ d2, g d1 d2 = g1 d1 d2) ∨ ∀ d2, g d1 d2 = g2 d1 d2) (ma mb : Ex) (env : Env) : e2 g ma mb env = e2 g1 ma mb env ∨ e2 g ma mb env = e2 g2 ma mb env := by
  unfold e2
  cases ma env with
  | no => exact .inl rfl
  | ex c e => exact .inl rfl
  | ok t1 en1 =>
    show ((mb en1).bind fun t2 en2 => opt en2 ((rd en2 t1).bind fun d1 => (rd en2 t2).bind fun d2 => g d1 d2)) = ((mb en1).bind fun t2 en2 => opt en2 ((rd en2 t1).bind fun d1 => (rd en2 t2).bind fun d2 => g1 d1 d2)) ∨
      ((mb en1).bind fun t2 en2 => opt en2 ((rd en2 t1).bind fun d1 => (rd en2 t2).bind fun d2 => g d1 d2)) = ((mb en1).bind fun t2 en2 => opt en2 ((rd en2 t1).bind fun d1 => (rd en2 t2).bind fun d2 => g2 d1 d2))
    cases mb en1 with
    | no => exact .inl rfl
    | ex c e => exact .inl rfl
    | ok t2 en2 =>
      show opt en2 ((rd en2 t1).bind fun d1 => (rd en2 t2).bind fun d2 => g d1 d2) = opt en2 ((rd en2 t1).bind fun d1 => (rd en2 t2).bind fun d2 => g1 d1 d2) ∨ opt en2 ((rd en2 t1).bind fun d1 => (rd en2 t2).bind fun d2 => g d1 d2) = opt en2 ((rd en2 t1).bind fun d1 => (rd en2 t2).bind fun d2 => g2 d1 d2)
      cases rd en2 t1 with
      | none => exact .inl rfl
      | some d1 =>
        rcases hg d1 with h | h
        · left
          cases rd en2 t2 with
          | none => rfl
          | some d2 =>
            show opt en2 (g d1 d2) = opt en2 (g1 d1 d2)
            rw [h]
        · right
          cases rd en2 t2 with
          | none => rfl
          | some d2 =>
            show opt en2 (g d1 d2) = opt en2 (g2 d1 d2)
            rw [h]
def gStT : D → D → Option D
  | .tup ds, .int k => if k = -1 ∧ clL ds = true then some (.tup ds.reverse) else none
  | _, _ => none
def gStA : D → D → Option D
  | .tup ds, k => gStT (.tup ds) k
  | d, k => gSt d k
theorem je_sl3A {X : Cx} {W : WX} {e st : Expr} {pos p2 : Pos} {m ms : Ex} (he : JE X W e m) (hs : JE X W st ms) : JE X W (.Subscript e (.Slice none none (some st) p2) pos) (e2 gStA m ms) :=
  je_of (pe_or2 (pe_sl3 he hs) (pe_sl3T he hs)) fun σ H Q h => by
    obtain ⟨env, F, S, R, T, sm, h⟩ := h
    rcases e2_or (g := gStA) (g1 := gSt) (g2 := gStT) (fun d1 => by
      cases d1 with
      | tup l => exact .inr fun _ => rfl
      | _ => exact .inl fun _ => rfl) m ms env with e | e
    · rw [e] at h
      left
      refine t_e2 (r := fun x y H2 Q => ∃ i, y = V.int i ∧ ∃ k, some i = some k ∧ rStL X.K x k H2 Q) (fun F H d1 d2 v1 v2 d' Q fz r1 r2 e k => ?_) ⟨env, F, S, R, T, sm, h⟩
      unfold gSt at e
      split at e
      · split at e
        · rename_i m ds i hc
          cases e
          obtain ⟨a, vs, S, rfl, h1, h2⟩ := r1.lst fz
          rw [r2.int]
          refine ⟨i, rfl, i, rfl, a, vs, rfl, h1.sq, hc.1, fun p hp => k _ F _ [p] (Step.own fz hp) (new_lst ?_)⟩
          have h3 := h2.rt0 hc.2 (A := At H)
          by_cases h : i = 1
          · rw [if_pos h, if_pos h]; exact h3
          · rw [if_neg h, if_neg h]; exact h3.rev0
        · cases e
      · cases e
    · rw [e] at h
      right
      refine t_e2 (r := fun x y H2 Q => ∃ i, y = V.int i ∧ ∃ k, some i = some k ∧ rStT X.K x k H2 Q) (fun F H d1 d2 v1 v2 d' Q fz r1 r2 e k => ?_) ⟨env, F, S, R, T, sm, h⟩
      unfold gStT at e
      split at e
      · split at e
        · rename_i ds i hc
          cases e
          obtain ⟨a, vs, S, rfl, h1, h2⟩ := r1.tup fz
          rw [r2.int]
          refine ⟨i, rfl, i, rfl, a, vs, rfl, h1, hc.1, fun p hp => k _ _ _ [] (Step.fro fz hp) (new_tup (fz.gone hp) (h2.rt0 hc.2 (A := At H)).rev0)⟩
        · cases e
      · cases e
end DL
/-! DLzc: the plain side of dictionaries. -/
namespace DL
open PySem PySem.Spec PyProof.Rows L2

section
variable {κ β : Type} [DecidableEq κ]
def lkA (l : List (κ × β)) (k : κ) : Option β := (l.find? fun p => decide (p.1 = k)).map (·.2)
def ptA (l : List (κ × β)) (k : κ) (v : β) : List (κ × β) := if (l.any fun p => decide (p.1 = k)) = true then l.map (fun p => if p.1 = k then (p.1, v) else p) else l ++ [(k, v)]
/-- so much more at a key -/
def addA : List (κ × Nat) → κ → Nat → List (κ × Nat)
  | [], k, c => [(k, c)]
  | p :: r, k, c => if p.1 = k then (p.1, p.2 + c) :: r else p :: addA r k c
def getA : List (κ × Nat) → κ → Nat
  | [], _ => 0
  | p :: r, k => if p.1 = k then p.2 else getA r k
theorem get_lk : ∀ (l : List (κ × Nat)) (k : κ), (lkA l k).getD 0 = getA l k
  | [], _ => rfl
  | p :: r, k => by
    unfold lkA getA
    rw [List.find?_cons]
    by_cases h : p.1 = k
    · rw [decide_eq_true h, if_pos h]; rfl
    · rw [decide_eq_false h, if_neg h]; exact get_lk r k
theorem lk_none_of {l : List (κ × β)} {k : κ} (h : k ∉ l.map (·.1)) : lkA l k = none := by
  unfold lkA
  rw [List.find?_eq_none.mpr fun p hp => by
    simp only [decide_eq_true_eq]
    exact fun e => h (e ▸ List.mem_map_of_mem hp)]
  rfl
theorem lk_of_mem : ∀ {l : List (κ × β)} {p : κ × β}, (l.map (·.1)).Nodup → p ∈ l → lkA l p.1 = some p.2
  | q :: r, p, nd, h => by
    rw [List.map_cons, List.nodup_cons] at nd
    unfold lkA
    rw [List.find?_cons]
    rcases List.mem_cons.mp h with rfl | h
    · rw [decide_eq_true rfl]; rfl
    · have ne : ¬ q.1 = p.1 := fun e => nd.1 (e ▸ List.mem_map_of_mem h)
      rw [decide_eq_false ne]
      exact lk_of_mem nd.2 h
theorem get_of_mem {l : List (κ × Nat)} {p : κ × Nat} (nd : (l.map (·.1)).Nodup) (h : p ∈ l) : getA l p.1 = p.2 := by
  rw [← get_lk, lk_of_mem nd h]
  rfl
theorem map_same {l : List (κ × β)} {k : κ} {v : β} (h : k ∉ l.map (·.1)) : (l.map fun p => if p.1 = k then (p.1, v) else p) = l := by
  conv => rhs; rw [← List.map_id l]
  refine List.map_congr_left fun p hp => ?_
  have ne : ¬ p.1 = k := fun e => h (by rw [← e]; exact List.mem_map_of_mem hp)
  rw [if_neg ne]
  rfl
theorem pt_add : ∀ {l : List (κ × Nat)} (k : κ) (c : Nat), (l.map (·.1)).Nodup → ptA l k ((lkA l k).getD 0 + c) = addA l k c
  | [], k, c, _ => by
    show [(k, 0 + c)] = [(k, c)]
    rw [Nat.zero_add]
  | p :: r, k, c, nd => by
    rw [List.map_cons, List.nodup_cons] at nd
    unfold ptA lkA addA
    rw [List.any_cons, List.find?_cons]
    by_cases h : p.1 = k
    · rw [if_pos h, decide_eq_true h, Bool.true_or, if_pos rfl, List.map_cons, if_pos h, map_same (by rw [← h]; exact nd.1)]
      rfl
    · rw [if_neg h, decide_eq_false h, Bool.false_or, List.map_cons, if_neg h]
      have ih := pt_add k c nd.2
      unfold ptA lkA at ih
      rw [← ih]
      dsimp only
      split <;> rfl
theorem add_mem : ∀ {l : List (κ × Nat)} {k x : κ} {c : Nat}, x ∈ (addA l k c).map (·.1) ↔ x = k ∨ x ∈ l.map (·.1)
  | [], k, x, c => by simp [addA]
  | p :: r, k, x, c => by
    unfold addA
    by_cases h : p.1 = k
    · rw [if_pos h]
      subst h
      simp only [List.map_cons, List.mem_cons]
      exact ⟨.inr, fun z => z.elim .inl id⟩
    · rw [if_neg h]
      simp only [List.map_cons, List.mem_cons]
      rw [add_mem]
      exact ⟨fun z => z.elim (fun y => .inr (.inl y)) fun z => z.elim .inl fun y => .inr (.inr y), fun z => z.elim (fun y => .inr (.inl y)) fun z => z.elim .inl fun y => .inr (.inr y)⟩
theorem add_nodup : ∀ {l : List (κ × Nat)} {k : κ} {c : Nat}, (l.map (·.1)).Nodup → ((addA l k c).map (·.1)).Nodup
  | [], k, c, _ => by simp [addA]
  | p :: r, k, c, nd => by
    rw [List.map_cons, List.nodup_cons] at nd
    unfold addA
    by_cases h : p.1 = k
    · rw [if_pos h, List.map_cons, List.nodup_cons]
      exact nd
    · rw [if_neg h, List.map_cons, List.nodup_cons]
      exact ⟨fun z => (add_mem.mp z).elim h nd.1, add_nodup nd.2⟩
theorem add_len : ∀ (l : List (κ × Nat)) (k : κ) (c : Nat), l.length ≤ (addA l k c).length ∧ (addA l k c).length ≤ l.length + 1
  | [], k, c => by simp [addA]
  | p :: r, k, c => by
    unfold addA
    have := add_len r k c
    split <;> simp <;> omega
/-- an association list as a dict's data -/
def enD (enc : κ → D) (f : β → D) (l : List (κ × β)) : List (D × D) := l.map fun p => (enc p.1, f p.2)
structure EncOk (t : Dk) (enc : κ → D) : Prop where
  eq : ∀ a b, kEq t (enc a) (enc b) = decide (a = b)
  key : ∀ a, isKey t (enc a) = true
variable {t : Dk} {enc : κ → D} {f : β → D}
theorem enD_len (l : List (κ × β)) : (enD enc f l).length = l.length := List.length_map _
theorem lk_en (h : EncOk t enc) (l : List (κ × β)) (k : κ) : lkD t (enD enc f l) (enc k) = (lkA l k).map f := by
  induction l with
  | nil => rfl
  | cons p r ih =>
    unfold lkD lkA at ih ⊢
    rw [enD, List.map_cons, List.find?_cons, List.find?_cons, h.eq]
    by_cases c : p.1 = k
    · rw [decide_eq_true c]; rfl
    · rw [decide_eq_false c]; exact ih
theorem pt_en (h : EncOk t enc) (l : List (κ × β)) (k : κ) (v : β) : ptD t (enD enc f l) (enc k) (f v) = enD enc f (ptA l k v) := by
  unfold ptD ptA enD
  rw [List.any_map]
  have e : ((fun p : D × D => kEq t p.1 (enc k)) ∘ fun p : κ × β => (enc p.1, f p.2)) = fun p => decide (p.1 = k) := by
    funext p
    exact h.eq p.1 k
  rw [e]
  by_cases c : (l.any fun p => decide (p.1 = k)) = true
  · rw [if_pos c, if_pos c, List.map_map, List.map_map]
    refine List.map_congr_left fun p _ => ?_
    show (if kEq t (enc p.1) (enc k) = true then (enc p.1, f v) else (enc p.1, f p.2)) = _
    rw [h.eq]
    by_cases z : p.1 = k
    · rw [decide_eq_true z, if_pos rfl]
      simp [z]
    · rw [decide_eq_false z]
      simp [z]
  · rw [if_neg c, if_neg c, List.map_append]
    rfl
theorem clK_en (hf : ∀ b, (f b).cl = true) (l : List (κ × β)) : clK (enD enc f l) = true := by
  induction l with
  | nil => rfl
  | cons p r ih =>
    rw [enD, List.map_cons, clK, hf]
    exact ih
theorem keys_en (m : Bool) (l : List (κ × β)) : keysOf (.dct m t (enD enc f l)) = some (l.map fun p => enc p.1) := by
  show some ((enD enc f l).map (·.1)) = _
  rw [enD, List.map_map]
  rfl
theorem prs_en (m : Bool) (l : List (κ × β)) : prsOf (.dct m t (enD enc f l)) = some (l.map fun p => .tup [enc p.1, f p.2]) := by
  show some ((enD enc f l).map fun p => D.tup [p.1, p.2]) = _
  rw [enD, List.map_map]
  rfl
end
def fN (n : Nat) : D := .int n
theorem fN_cl (n : Nat) : (fN n).cl = true := rfl
def enS (l : List Int) : D := .tup (lI l)
def enI (i : Int) : D := .int i
theorem encI : EncOk .k enI := ⟨fun a b => (kEq_k (.inl a) (.inl b)).trans (by simp), fun _ => rfl⟩
theorem keyL_lI (l : List Int) : keyL (lI l) = some (l.map Sum.inl) := by
  induction l with
  | nil => rfl
  | cons x l ih => rw [lI_cons, keyL, ih]; rfl
theorem encS : EncOk .t enS := ⟨fun a b => by
  unfold kEq enS
  simp only [keyT, keyL_lI]
  refine decide_eq_decide.mpr ⟨fun h => ?_, fun h => by rw [h]⟩
  have q := congrArg (List.map fun z : L2.Key => match z with
    | .inl i => i
    | .inr _ => 0) h
  rw [List.map_map, List.map_map] at q
  simpa [Function.comp_def] using q, fun a => by
  unfold isKey enS
  simp [keyT, keyL_lI]⟩
/-! at the dict of counts -/
section
variable {κ : Type} [DecidableEq κ] {t : Dk} {enc : κ → D}
theorem gDGet_en (h : EncOk t enc) (m : Bool) (l : List (κ × Nat)) (k : κ) : gDGet (.dct m t (enD enc fN l)) (enc k) (.int 0) = some (.int (getA l k : Nat)) := by
  have c : (isKey t (enc k) && clK (enD enc fN l) && (D.int 0).cl) = true := by rw [h.key, clK_en fN_cl]; rfl
  rw [gDGet, if_pos c, lk_en h, ← get_lk]
  cases lkA l k <;> rfl
theorem gDx_en (h : EncOk t enc) (m : Bool) {l : List (κ × Nat)} (nd : (l.map (·.1)).Nodup) {p : κ × Nat} (hp : p ∈ l) : gIxA (.dct m t (enD enc fN l)) (enc p.1) = some (.int (p.2 : Nat)) := by
  have c : (isKey t (enc p.1) && clK (enD enc fN l)) = true := by rw [h.key, clK_en fN_cl]; rfl
  rw [gIxA, gDx, if_pos c, lk_en h, lk_of_mem nd hp]
  rfl
theorem putDk_en0 (h : EncOk t enc) {env : Env} {i : Nat} {kd : Kd} {l : List (κ × Nat)} (nd : (l.map (·.1)).Nodup) (k : κ) (c : Nat) (e : env[i]? = some (.sl kd (.dct true t (enD enc fN l)))) (hk : kd ≠ .R) (hl : l.length < 16777216) :
    putDk env i (enc k) (.int ((getA l k + c : Nat) : Int)) = .ok () (env.set i (.sl kd (.dct true t (enD enc fN (addA l k c))))) := by
  have c1 : (D.cl (.int ((getA l k + c : Nat) : Int)) && clK (enD enc fN l) && isKey t (enc k)) = true ∧ (enD enc fN l).length < 16777216 := ⟨by rw [h.key, clK_en fN_cl]; rfl, by rw [enD_len]; exact hl⟩
  unfold putDk
  rw [e]
  dsimp only
  rw [if_neg hk, if_pos c1]
  have q := pt_en (f := fN) h l k (getA l k + c)
  have q2 : ptD t (enD enc fN l) (enc k) (.int ((getA l k + c : Nat) : Int)) = enD enc fN (ptA l k (getA l k + c)) := q
  rw [q2, ← get_lk, pt_add k c nd]
theorem putDk_en (h : EncOk t enc) {env : Env} {i : Nat} {kd : Kd} {l : List (κ × Nat)} (nd : (l.map (·.1)).Nodup) (k : κ) (c : Nat) (e : env[i]? = some (.sl kd (.dct true t (enD enc fN l)))) (hk : kd ≠ .R) (hl : l.length < 16777216) :
    putDk env i (enc k) (.int ((getA l k : Int) + (c : Int))) = .ok () (env.set i (.sl kd (.dct true t (enD enc fN (addA l k c))))) := by
  have := putDk_en0 h nd k c e hk hl
  rw [show ((getA l k + c : Nat) : Int) = (getA l k : Int) + (c : Int) by omega] at this
  exact this
end
end DL
/-! DLzd: the plain side: ranges, lists of whole numbers. -/
namespace DL
open PySem PySem.Spec PyProof.Rows L2
def rgI (n : Nat) : List Int := (List.range n).map fun (i : Nat) => (i : Int)
theorem rgI_len (n : Nat) : (rgI n).length = n := by simp [rgI]
theorem mem_rgI {n : Nat} {x : Int} : x ∈ rgI n ↔ 0 ≤ x ∧ x < n := by
  simp only [rgI, List.mem_map, List.mem_range]
  constructor
  · rintro ⟨i, hi, rfl⟩; omega
  · rintro ⟨h1, h2⟩; exact ⟨x.toNat, by omega, by omega⟩
theorem rgI_sorted (n : Nat) : (rgI n).Pairwise (· ≤ ·) := by
  unfold rgI
  rw [List.pairwise_map]
  exact List.pairwise_lt_range.imp fun h => by omega
theorem rgI_nodup (n : Nat) : (rgI n).Nodup := by
  unfold rgI List.Nodup
  rw [List.pairwise_map]
  exact List.pairwise_lt_range.imp fun h => by omega
theorem rgD_at (n : Nat) : rgD 0 (n : Int) = lI (rgI n) := by
  simp [rgD, rngD, rgI, lI, List.map_map, Function.comp_def]
theorem rngD_at (n : Nat) : rngD 0 n = lI (rgI n) := by
  simp [rngD, rgI, lI, List.map_map, Function.comp_def]
theorem okR_at {n : Nat} (h : n ≤ 1000) : okR 0 (n : Int) = true := by
  simp only [okR, okB, Bool.and_eq_true, decide_eq_true_eq]
  omega
theorem gLRg1_at {n : Nat} (h : n ≤ 1000) : gLRg1 (.int (n : Int)) = some (.lst true (lI (rgI n))) := by
  rw [gLRg1, okR_at h, if_pos rfl, rgD_at]
theorem gSortI_at {m : Bool} {p : List Int} : gSortI [.lst m (lI p)] = some (.lst true (lI (srtI p))) := by
  rw [gSortI, intsD_lI]; rfl
theorem gLen_at {m : Bool} {p : List Int} : gLen [.lst m (lI p)] = some (.int (p.length : Int)) := by
  rw [gLen, lI_len]
theorem set_lI (l : List Int) (i : Nat) (x : Int) : (lI l).set i (.int x) = lI (l.set i x) := by
  rw [lI, lI, List.map_set]
theorem repl_lI (n : Nat) : (List.replicate n [D.int 0]).flatten = lI (List.replicate n 0) := by
  induction n with
  | zero => rfl
  | succ n ih => rw [List.replicate_succ, List.flatten_cons, ih, List.replicate_succ]; rfl
theorem ixN_at {n : Nat} {x : Int} (h1 : 0 ≤ x) (h2 : x < n) : ixN n x = some x.toNat := by
  rw [ixN, if_pos h1, if_pos h2]
theorem gMul_rep {n : Nat} (hn : n ≤ 1000) : gMul (.lst true [.int 0]) (.int (n : Int)) = some (.lst true (lI (List.replicate n 0))) := by
  have h1 : (n : Int).natAbs < 2 ^ 63 ∧ [D.int 0].length * (n : Int).toNat ≤ 16777216 ∧ clL [D.int 0] = true := ⟨by omega, by simp; omega, rfl⟩
  rw [gMul, if_pos h1, Int.toNat_natCast, repl_lI]
theorem rgI_at {n j : Nat} (hj : j < n) : (rgI n)[j]? = some (j : Int) := by
  unfold rgI
  rw [List.getElem?_map, List.getElem?_range hj]
  rfl
theorem gAdd_l1 {m m' : Bool} {a : List Int} {x : Int} (h : a.length ≤ 1000) : gAdd (.lst m (lI a)) (.lst m' [.int x]) = some (.lst true (lI (a ++ [x]))) := by
  have h1 : (lI a).length + [D.int x].length ≤ 16777216 := by simp; omega
  have h2 : (clL (lI a) && clL [D.int x]) = true := by rw [clL_lI]; rfl
  rw [gAdd, if_pos h1, if_pos h2, lI, lI, List.map_append]
  rfl
theorem gAdd_1l {m m' : Bool} {a : List Int} {x : Int} (h : a.length ≤ 1000) : gAdd (.lst m [.int x]) (.lst m' (lI a)) = some (.lst true (lI (x :: a))) := by
  have h1 : [D.int x].length + (lI a).length ≤ 16777216 := by simp; omega
  have h2 : (clL [D.int x] && clL (lI a)) = true := by rw [clL_lI]; rfl
  rw [gAdd, if_pos h1, if_pos h2]
  rfl
theorem gMinL_at {m : Bool} {l : List Int} (h : l ≠ []) : gMinL [.lst m (lI l)] = some (.int (minI l)) := by
  rw [gMinL, intsD_lI, Option.bind_some, if_neg (by simpa using h)]
theorem gMaxL_at {m : Bool} {l : List Int} (h : l ≠ []) : gMaxL [.lst m (lI l)] = some (.int (maxI l)) := by
  rw [gMaxL, intsD_lI, Option.bind_some, if_neg (by simpa using h)]
theorem maxI_eq {l : List Int} {m : Int} (h1 : m ∈ l) (h2 : ∀ y ∈ l, y ≤ m) : maxI l = m := Int.le_antisymm (h2 _ (maxI_mem l (List.ne_nil_of_mem h1))) (maxI_ge l m h1)
theorem minI_eq {l : List Int} {m : Int} (h1 : m ∈ l) (h2 : ∀ y ∈ l, m ≤ y) : minI l = m := Int.le_antisymm (minI_le l m h1) (h2 _ (minI_mem l (List.ne_nil_of_mem h1)))
theorem rg1_at {n : Nat} (h : n ≤ 1000) : rg1 [.int (n : Int)] = some (lI (rgI n)) := by
  have : okB (n : Int) = true := by simp only [okB, decide_eq_true_eq]; omega
  rw [rg1, if_pos this, Int.toNat_natCast, rngD_at]
def fI (f : Int → Int) : D → Option D
  | .int x => some (.int (f x))
  | _ => none
theorem fI_map (f : Int → Int) (l : List Int) : (lI l).filterMap (fI f) = lI (l.map f) := by
  induction l with
  | nil => rfl
  | cons x l ih => rw [lI_cons, List.filterMap_cons, fI, ih]; rfl
theorem maxI_le {l : List Int} {a : Int} (h : l ≠ []) : maxI l ≤ a ↔ ∀ y ∈ l, y ≤ a := ⟨fun h1 y hy => Int.le_trans (maxI_ge l y hy) h1, fun h1 => h1 _ (maxI_mem l h)⟩
def Stb (s : Sl) : Prop := s = .un ∨ ∃ d, s = .sl .O d
theorem mAppend_at {l : List Int} {x : Int} (h : l.length ≤ 1000) : mAppend (.lst true (lI l)) [.int x] = some (.lst true (lI (l ++ [x])), .non) := by
  have h1 : (lI l).length < 16777216 := by rw [lI_len]; omega
  rw [mAppend, if_pos h1, lI_app]
  rfl
theorem ixN_zero (n : Nat) : ixN (n + 1) 0 = some 0 := ixN_at (n := n + 1) (x := 0) (by omega) (by omega)
theorem rgI_mem_at {n i : Nat} {d : D} (h : (lI (rgI n))[i]? = some d) : d = .int i ∧ i < n := by
  rw [lI, List.getElem?_map] at h
  by_cases hi : i < n
  · rw [rgI_at hi] at h
    cases h
    exact ⟨rfl, hi⟩
  · rw [List.getElem?_eq_none (by rw [rgI_len]; omega)] at h
    cases h
theorem seqIndex_at {g : Int} {n : Nat} (h1 : 0 ≤ g) (h2 : g < n) : seqIndex? g n = some g.toNat := by
  unfold seqIndex?
  simp only [Int.not_lt.mpr h1, if_false]
  rw [if_pos (by simp [h1, h2])]
theorem lI_erase (l : List Int) (i : Nat) : (lI l).eraseIdx i = lI (l.eraseIdx i) := (map_eraseIdx D.int l i).symm
theorem mPopAt_at {l : List Int} {g : Int} {x : Int} (h1 : 0 ≤ g) (h2 : g < l.length) (hl : l.length ≤ 1000) (hx : l[g.toNat]? = some x) : mPopAt (.lst true (lI l)) [.int g] = some (.lst true (lI (l.eraseIdx g.toNat)), .int x) := by
  have e1 : (lI l)[g.toNat]? = some (.int x) := by rw [lI, List.getElem?_map, hx]; rfl
  have e2 : seqIndex? g (lI l).length = some g.toNat := seqIndex_at h1 (by rw [lI_len]; exact h2)
  rw [mPopAt, if_pos (by omega), e2]
  simp only [e1, lI_erase]
theorem perm_erase {l : List Int} {g : Nat} {x : Int} (h : l[g]? = some x) : (x :: l.eraseIdx g).Perm l := by
  induction l generalizing g with
  | nil => cases h
  | cons y l ih =>
    cases g with
    | zero => cases h; exact List.Perm.refl _
    | succ g =>
      have h' : l[g]? = some x := by simpa using h
      exact (List.Perm.swap y x _).trans ((ih h').cons y)
theorem gIx_lst {m : Bool} {l : List Int} {g : Int} {x : Int} (h1 : 0 ≤ g) (h2 : g < l.length) (hx : l[g.toNat]? = some x) : gIx (.lst m (lI l)) (.int g) = some (.int x) := by
  have e : (lI l)[g.toNat]? = some (.int x) := by rw [lI, List.getElem?_map, hx]; rfl
  rw [gIx, atI, ixN_at h1 (by rw [lI_len]; exact h2), Option.bind_some, e]
  rfl
theorem mRem_at {l : List Int} {x : Int} {j : Nat} (h : findI x l = some j) : mRemI (.lst true (lI l)) [.int x] = some (.lst true (lI (l.eraseIdx j)), .non) := by
  rw [mRemI, intsD_lI, Option.bind_some, h, Option.map_some, lI_erase]
def Sti (s : Sl) : Prop := s = .un ∨ ∃ k, s = .sl .O (.int k)
theorem rgI_lt (n : Nat) : (rgI n).Pairwise (· < ·) := by
  unfold rgI
  rw [List.pairwise_map]
  exact List.pairwise_lt_range.imp fun h => by omega
theorem gLRg2_at {b n : Nat} (h : b ≤ n) (hn : n ≤ 40) : gLRg2 (.int (b : Int)) (.int (n : Int)) = some (.lst true (lI ((rgI (n - b)).map fun x => (b : Int) + x))) := by
  have : okR (b : Int) (n : Int) = true := by
    simp only [okR, okB, Bool.and_eq_true, decide_eq_true_eq]
    omega
  rw [gLRg2, if_pos this, rgD, rngD, show ((n : Int) - (b : Int)).toNat = n - b by omega, rgI, lI, List.map_map, List.map_map]
  rfl
theorem gAdd_ll {m m' : Bool} {a b : List Int} (h : a.length ≤ 1000) (h' : b.length ≤ 1000) : gAdd (.lst m (lI a)) (.lst m' (lI b)) = some (.lst true (lI (a ++ b))) := by
  have h1 : (lI a).length + (lI b).length ≤ 16777216 := by rw [lI_len, lI_len]; omega
  have h2 : (clL (lI a) && clL (lI b)) = true := by rw [clL_lI, clL_lI]; rfl
  rw [gAdd, if_pos h1, if_pos h2, lI_app]
theorem gSt_1 {m : Bool} {a : List Int} : gSt (.lst m (lI a)) (.int 1) = some (.lst true (lI a)) := by
  rw [gSt, if_pos ⟨.inl rfl, clL_lI a⟩, if_pos rfl]
theorem gSt_m1 {m : Bool} {a : List Int} : gSt (.lst m (lI a)) (.int (-1)) = some (.lst true (lI a.reverse)) := by
  rw [gSt, if_pos ⟨.inr rfl, clL_lI a⟩, if_neg (by decide), lI, lI, List.map_reverse]
theorem cut_lI (ns : List Int) (lo hi : Option Int) : cutL (lI ns) lo hi = lI (cutL ns lo hi) := by
  unfold cutL
  rw [lI_len, lI, lI, List.map_take, List.map_drop]
theorem cut_mem {ns : List Int} {lo hi : Option Int} {x : Int} (h : x ∈ cutL ns lo hi) : x ∈ ns := List.mem_of_mem_drop (List.mem_of_mem_take h)
theorem cut_len (ns : List Int) (lo hi : Option Int) : (cutL ns lo hi).length ≤ ns.length := by
  unfold cutL
  rw [List.length_take, List.length_drop]
  omega
theorem gSl_lI {m : Bool} (ns : List Int) (lo hi : Option Int) : gSl (.lst m (lI ns)) lo hi = some (.lst true (lI (cutL ns lo hi))) := by
  rw [gSl, if_pos (clL_lI ns), cut_lI]

theorem cut1 {α : Type} (xs : List α) : cutL xs none (some 1) = xs.take 1 := by
  unfold cutL
  rw [HT.sIx_none, List.drop_zero, show (some (1 : Int)) = some ((1 : Nat) : Int) from rfl, HT.sIx_nat, Nat.sub_zero]
  cases xs with
  | nil => rfl
  | cons x r => rw [List.length_cons, Nat.min_eq_left (by omega)]
theorem gSl_tI (ns : List Int) (lo hi : Option Int) : gSl (.tup (lI ns)) lo hi = some (.tup (lI (cutL ns lo hi))) := by
  rw [gSl, if_pos (clL_lI ns), cut_lI]
theorem gAdd_tt {a b : List Int} (h : a.length ≤ 1000) (h' : b.length ≤ 1000) : gAdd (.tup (lI a)) (.tup (lI b)) = some (.tup (lI (a ++ b))) := by
  have h1 : (lI a).length + (lI b).length ≤ 16777216 := by rw [lI_len, lI_len]; omega
  have h2 : (clL (lI a) && clL (lI b)) = true := by rw [clL_lI, clL_lI]; rfl
  rw [gAdd, if_pos h1, if_pos h2, lI_app]
theorem gIx_tup {l : List Int} {g : Int} {x : Int} (h1 : 0 ≤ g) (h2 : g < l.length) (hx : l[g.toNat]? = some x) : gIx (.tup (lI l)) (.int g) = some (.int x) := by
  have e : (lI l)[g.toNat]? = some (.int x) := by rw [lI, List.getElem?_map, hx]; rfl
  rw [gIx, atI, ixN_at h1 (by rw [lI_len]; exact h2), Option.bind_some, e]
  rfl
theorem gTRg1_at {n : Nat} (h : n ≤ 1000) : gTRg1 (.int (n : Int)) = some (.tup (lI (rgI n))) := by
  rw [gTRg1, okR_at h, if_pos rfl, rgD_at]
theorem gList_tI (ns : List Int) : gList [.tup (lI ns)] = some (.lst true (lI ns)) := by rw [gList, if_pos (clL_lI ns)]
theorem gTuple_lI (m : Bool) (ns : List Int) : gTuple [.lst m (lI ns)] = some (.tup (lI ns)) := by rw [gTuple, if_pos (clL_lI ns)]
/-- the numbers from p on -/
def frI (p : Int) (n : Nat) : List Int := (List.range n).map fun i => p + (i : Nat)
theorem rngD_fr (p : Int) (n : Nat) : rngD p n = lI (frI p n) := by
  simp [rngD, frI, lI, List.map_map, Function.comp_def]
theorem frI_len (p : Int) (n : Nat) : (frI p n).length = n := by simp [frI]
theorem mem_frI {p x : Int} {n : Nat} : x ∈ frI p n ↔ p ≤ x ∧ x < p + n := by
  simp only [frI, List.mem_map, List.mem_range]
  constructor
  · rintro ⟨i, hi, rfl⟩; omega
  · rintro ⟨h1, h2⟩; exact ⟨(x - p).toNat, by omega, by omega⟩
theorem frI_zero (p : Int) : frI p 0 = [] := rfl
theorem frI_succ (p : Int) (n : Nat) : frI p (n + 1) = p :: frI (p + 1) n := by
  unfold frI
  rw [List.range_succ_eq_map, List.map_cons, List.map_map]
  congr 1
  · show p + ((0 : Nat) : Int) = p
    omega
  · refine List.map_congr_left fun i _ => ?_
    show p + ((i + 1 : Nat) : Int) = p + 1 + (i : Int)
    omega
theorem rg2_fr {i j : Int} (hi : i.natAbs < 1000000) (hj : j.natAbs < 1000000) : rg2 [.int i, .int j] = some (lI (frI i (j - i).toNat)) := by
  have : (okB i && okB j) = true := by simp only [okB, Bool.and_eq_true, decide_eq_true_eq]; omega
  rw [rg2, if_pos this, rngD_fr]

abbrev rchD (a b : Int) : D := .tup [.int a, .int b]
theorem forL_cons {tg : Tgt} {body : Sta} {d : D} {r : List D} {env e1 e2 : Env} (h1 : asg tg env d = some e1) (h2 : body e1 = .ok .nx e2) : forL tg body (d :: r) env = forL tg body r e2 := by
  simp [forL, h1, h2, Res.bind]
end DL
/-! DLze: sorted lists of tuples of whole numbers, of either sign; sorted dicts. -/
namespace TS
open PySem PyProof.Rows
def code2 (C B : Int) (ns : List Int) : Int := code B (ns.map fun x => x + C)
def Bd2 (C B : Int) (ns : List Int) : Prop := ∀ m, m ∈ ns → 0 ≤ m + C ∧ m + C < B
theorem Bd2.bd {C B : Int} {ns : List Int} (h : Bd2 C B ns) : Bd B (ns.map fun x => x + C) := fun m hm => by
  obtain ⟨x, hx, rfl⟩ := List.mem_map.mp hm
  exact h x hx
theorem Bd2.tail {C B d : Int} {r : List Int} (h : Bd2 C B (d :: r)) : Bd2 C B r := fun m hm => h m (List.mem_cons_of_mem _ hm)
section
variable {prog : Program} {w : World} {A : Around} {E : Value → Shared → Prop} {s : Shared} {Q : Bool → Shared → Prop}
theorem lex_ints2 {C B : Int} {b : Bool} {xs ys : List Value} {ns ms : List Int} (i : Nat) (hx : IntsAre xs ns) (hy : IntsAre ys ms) (hl : ns.length = ms.length) (h1 : Bd2 C B ns) (h2 : Bd2 C B ms)
    (h : Q (decide (code2 C B ns < code2 C B ms)) s) : PySem.W.KatLex prog w A b false Q (xs.zip ys) i s := by
  induction hx generalizing ys ms i with
  | nil =>
    cases hy with
    | nil =>
      have e : decide (code2 C B [] < code2 C B []) = false := decide_eq_false (Int.lt_irrefl _)
      rw [e] at h
      exact PySem.W.kat_nil h
    | cons q u hy => simp at hl
  | @cons p t xs ns hx ih =>
    cases hy with
    | nil => simp at hl
    | @cons q u ys ms hy =>
      have hl' : ns.length = ms.length := by simpa using hl
      have hl2 : (ns.map fun x => x + C).length = (ms.map fun x => x + C).length := by rw [List.length_map, List.length_map, hl']
      show PySem.W.KatLex prog w A b false Q ((Value.int p t, Value.int q u) :: xs.zip ys) i s
      refine PySem.W.kat_cons (wpAny_eqBool_int ?_)
      by_cases e : p = q
      · subst e
        rw [beq_self_eq_true]
        have d : decide (code2 C B (p :: ns) < code2 C B (p :: ms)) = decide (code2 C B ns < code2 C B ms) := decide_eq_decide.mpr (code_same hl2)
        rw [d] at h
        refine PySem.W.kat_yes ?_
        first
          | exact ih (i + 1) hy hl' h1.tail h2.tail h
          | exact ih _ _ (i + 1) hy hl' h1.tail h2.tail h
      · rw [show (p == q) = false from beq_eq_false_iff_ne.mpr e]
        refine PySem.W.kat_no (oneLt_ints _ ?_)
        have d : decide (code2 C B (p :: ns) < code2 C B (q :: ms)) = decide (p < q) := by
          refine decide_eq_decide.mpr ⟨fun x => ?_, fun x => ?_⟩
          · rcases Int.lt_trichotomy p q with y | y | y
            · exact y
            · exact absurd y e
            · have z : q + C < p + C := by omega
              have := code_lt hl2.symm h2.tail.bd h1.tail.bd z
              have x' : code B ((p + C) :: ns.map fun x => x + C) < code B ((q + C) :: ms.map fun x => x + C) := x
              omega
          · have z : p + C < q + C := by omega
            exact code_lt hl2 h1.tail.bd h2.tail.bd z
        rw [d] at h
        exact h
end
def TupsOk2 (h : Heap) (d : Nat) (C B : Int) (vs : List Value) : Prop := ∀ v, v ∈ vs → ∃ ns, TupInts h v ns ∧ ns.length = d ∧ Bd2 C B ns
theorem TupsOk2.keeps {h h' : Heap} {d : Nat} {C B : Int} {vs : List Value} (x : TupsOk2 h d C B vs) (k : ∀ b o, h.get? b = some o → o.cls = .type "tuple" → h'.get? b = some o) : TupsOk2 h' d C B vs := fun v hv =>
  let ⟨ns, t, r⟩ := x v hv; ⟨ns, t.keeps k, r⟩
theorem firsts_of2 {h : Heap} {d : Nat} {C B : Int} (hd : 1 ≤ d) : ∀ vs : List Value, TupsOk2 h d C B vs → ∃ fs, PySem.W.KatTups h vs fs ∧ fs.length = vs.length ∧ ∀ f, f ∈ fs → ∃ n t, f = Value.int n t
  | [], _ => ⟨[], PySem.W.KatTups.nil, rfl, fun f hf => by simp at hf⟩
  | v :: vs, x => by
    obtain ⟨fs, k, hl, hi⟩ := firsts_of2 hd vs fun u hu => x u (List.mem_cons_of_mem _ hu)
    obtain ⟨ns, ⟨a, xs, rfl, ⟨o, ho, hc, n, hdt⟩, i⟩, hn, _⟩ := x v (List.mem_cons_self ..)
    obtain ⟨y, ys, e⟩ : ∃ y ys, xs.toList = y :: ys := by
      cases q : xs.toList with
      | nil =>
        rw [q] at i
        have l := i.length
        rw [List.length_nil, hn] at l
        omega
      | cons y ys => exact ⟨y, ys, rfl⟩
    obtain ⟨m, t, hy⟩ := i.all y (by rw [e]; exact List.mem_cons_self ..)
    refine ⟨y :: fs, PySem.W.KatTups.cons ho hc hdt ?_ k, by simp [hl], ?_⟩
    · have z := congrArg (fun l : List Value => l[0]?) e
      simpa using z
    · intro f hf
      rcases List.mem_cons.mp hf with rfl | hf
      · exact ⟨m, t, hy⟩
      · exact hi f hf
section
variable {prog : Program} {w : World} {A : Around} {E : Value → Shared → Prop} {s : Shared}
theorem kind_tups2 {d : Nat} {C B : Int} {vs : List Value} (hd : 1 ≤ d) (h2 : 2 ≤ vs.length) (x : TupsOk2 s.heap d C B vs) (r : Value → Int) (hr : ∀ v, v ∈ vs → ∀ ns, TupInts s.heap v ns → r v = code2 C B ns) (Q : SortKind → Shared → Prop)
    (h : ∀ κ, Cmp prog w A s κ (pairsOf vs) r → Q κ s) : wpAny (model prog w) A (keyKind' vs.toArray) Q E s := by
  obtain ⟨fs, k, hl, hi⟩ := firsts_of2 hd vs x
  refine PySem.W.kat_kind (T := Value.type "int") k (by omega) (fun f hf => ?_) rfl (h _ ?_)
  · obtain ⟨n, t, rfl⟩ := hi f hf
    exact PySem.W.Looks.of_pure rfl
  · intro p q hp hq Q' E' hQ
    rw [pairsOf_toList] at hp hq
    obtain ⟨ns, tp, lp, bp⟩ := x _ (mem_zip_self hp).2
    obtain ⟨ms, tq, lq, bq⟩ := x _ (mem_zip_self hq).2
    have ep := hr _ (mem_zip_self hp).2 _ tp
    have eq2 := hr _ (mem_zip_self hq).2 _ tq
    have hQ' : Q' (decide (code2 C B ns < code2 C B ms)) s := by
      have z : decide (r p.1 < r q.1) = decide (code2 C B ns < code2 C B ms) := by rw [ep, eq2]
      rw [← z]; exact hQ
    obtain ⟨a, xs, e1, ⟨o, ho, hc, n, hdt⟩, i⟩ := tp
    obtain ⟨a', ys, e2, ⟨o', ho', hc', n', hdt'⟩, i'⟩ := tq
    rw [e1, e2]
    refine PySem.W.kat_lt ho hdt ho' hdt' ?_
    have sz : decide (xs.size < ys.size) = false := by
      have l1 := i.length
      have l2 := i'.length
      rw [Array.length_toList] at l1 l2
      exact decide_eq_false (by omega)
    rw [sz]
    exact lex_ints2 0 i i' (by omega) bp bq hQ'
theorem sort_tups2 {a : Addr} {vs : List Value} {n d : Nat} {C B : Int} {P : PySem.Fin → Shared → Prop} (ho : s.heap.get? a = some (seqObj "list" vs.toArray n)) (h64 : vs.length < 64) (hd : 1 ≤ d ∨ vs.length < 2) (x : TupsOk2 s.heap d C B vs)
    (r : Value → Int) (hr : ∀ v, v ∈ vs → ∀ ns, TupInts s.heap v ns → r v = code2 C B ns)
    (h : ∀ out : Array Value, out.toList.Perm vs → out.toList.Pairwise (fun u v => r u ≤ r v) → P (.done (.ret .none)) { s with heap := sortedHeap s.heap a vs out }) :
    wpAny (model prog w) A (Builtin.«list.sort» ⟨[.ref a], []⟩) P E s := by
  have keep : ∀ b o, s.heap.get? b = some o → o.cls = .type "tuple" → (midHeap s.heap a vs).get? b = some o := fun b o e hc => by
    refine midHeap_old ?_ e
    rintro rfl
    rw [ho] at e
    have e' : seqObj "list" vs.toArray n = o := Option.some.inj e
    rw [← e'] at hc
    have c' : Value.type "list" = Value.type "tuple" := hc
    injection c' with c''
    exact absurd c'' (by decide)
  refine SK.plain_sort (r := r) ho h64 (fun h2 Q hQ => ?_) fun ps out h1 h2 h3 => ?_
  · refine kind_tups2 (s := { s with heap := midHeap s.heap a vs }) (hd.resolve_right (by omega)) h2 (x.keeps keep) r (fun v hv ns t => ?_) Q hQ
    obtain ⟨ns0, t0, _⟩ := x v hv
    have e : ns = ns0 := t.ints.symm.trans (t0.keeps keep).ints
    rw [e]
    exact hr v hv ns0 t0
  · obtain ⟨p, o⟩ := out_rank h1 h2 h3
    exact h out p o
theorem sorted_tups2 {l : Addr} {vs : List Value} {d : Nat} {C B : Int} {Q : Value → Shared → Prop} (hl : s.heap.IsList l vs.toArray) (h64 : vs.length < 64) (hd : 1 ≤ d ∨ vs.length < 2) (x : TupsOk2 s.heap d C B vs)
    (h : ∀ out : Array Value, out.toList.Perm vs → out.toList.Pairwise (fun u v => code2 C B (intsOf s.heap u) ≤ code2 C B (intsOf s.heap v)) → Q (.ref (s.heap.objs.size + 1)) { s with heap := sortedAll s.heap vs out }) :
    wpAny (model prog w) A (call (.builtin "sorted") [.ref l]) Q E s := by
  refine Calls.call_function_entry kind_sorted plain_sorted entry_sorted (args_sorted1 _) ?_
  unfold Builtin.«sorted»
  refine wpAny_bind (m := checkCount "sorted" 1 1 _) (wpAny_pure ?_)
  refine wpAny_bind (collect_list hl ?_ (by rw [sizeLine_eq]; omega))
  refine wpAny_bind (wpAny_newList ?_ (by rw [sizeLine_eq]; omega))
  have hsz : ((s.heap.push (seqObj "list" #[] 0)).update s.heap.objs.size (Obj.mapSeq (· ++ vs.toArray))).objs.size = s.heap.objs.size + 1 := by
    rw [Heap.size_update, size_push']
  have hoL : (((s.heap.push (seqObj "list" #[] 0)).update s.heap.objs.size (Obj.mapSeq (· ++ vs.toArray))).push (seqObj "list" vs.toArray 0)).get? (s.heap.objs.size + 1) = some (seqObj "list" vs.toArray 0) := by
    rw [← hsz]; exact Heap.get?_push_size _ rfl
  have keep : ∀ b o, s.heap.get? b = some o → o.cls = .type "tuple" → (((s.heap.push (seqObj "list" #[] 0)).update s.heap.objs.size (Obj.mapSeq (· ++ vs.toArray))).push (seqObj "list" vs.toArray 0)).get? b = some o := fun b o q _ => by
    have hlt : b < s.heap.objs.size := Heap.lt_size q
    rw [Heap.get?_push_ne _ _ _ (by rw [hsz]; exact Nat.ne_of_lt (Nat.lt_succ_of_lt hlt)), Heap.get?_update_ne _ _ _ _ (Nat.ne_of_lt hlt), Heap.get?_push_ne _ _ _ (Nat.ne_of_lt hlt)]
    exact q
  show wpAny _ _ _ _ _ { s with heap := ((s.heap.push (seqObj "list" #[] 0)).update s.heap.objs.size (Obj.mapSeq (· ++ vs.toArray))).push (seqObj "list" vs.toArray 0) }
  rw [hsz]
  refine wpAny_bind (wpAny_holding (wpAny_call_entry slot_list_sort ⟨_, hoL, rfl⟩ entry_list_sort (sort_tups2 hoL h64 hd (x.keeps keep) (fun v => code2 C B (intsOf s.heap v)) (fun v hv ns t => ?_) fun out a1 a2 => ⟨_, rfl, ?_⟩) (args_list_sort _)))
  · obtain ⟨ns0, t0, _⟩ := x v hv
    have e : ns = ns0 := t.ints.symm.trans (t0.keeps keep).ints
    rw [e]
    show code2 C B (intsOf s.heap v) = code2 C B ns0
    rw [t0.ints]
  · exact wpAny_pure ⟨_, rfl, h out a1 a2⟩
end
end TS
namespace L2
open PySem PySem.Spec PyProof.Rows
section
variable {X : Cx}
def rSortU2 (K : PySem.W.Frag) : List V → Hp → VK → Prop := fun vs H Q => ∃ (a : Addr) (xs : List V) (d : Nat) (C B : Int), vs = [V.ref a] ∧ SqL K H a xs ∧ xs.length < 64 ∧ (1 ≤ d ∨ xs.length < 2) ∧ (∀ x ∈ xs, ∃ ns, TupI K H x ns ∧ ns.length = d ∧ TS.Bd2 C B ns) ∧
  ∀ (ys : List V) (p : Addr), ys.Perm xs → ys.Pairwise (fun x y => ∀ n m, TupI K H x n → TupI K H y m → TS.code2 C B n ≤ TS.code2 C B m) → H p = none → Q (.ref p) (upd H p (.lst ys))
theorem cr_sortT2 : CallR X (.builtin "sorted") (rSortU2 X.K) := by
  intro pins s σ H vs us Q I r h
  obtain ⟨a, xs, d, C, B, rfl, hs, h64, hd, hx, q⟩ := h
  obtain ⟨its, rv, hl, hz⟩ := I.list hs
  rw [Vals.ref1 r]
  obtain ⟨e1, e2⟩ := bkV_refs rv fun x m => by
    obtain ⟨ns, ⟨t, e, _⟩, _⟩ := hx x m
    exact ⟨t, e⟩
  refine TS.sorted_tups2 (d := d) (C := C) (B := B) hl.isList (by rw [← rv.length]; exact h64) (by rw [← rv.length]; exact hd) (fun v hv => ?_) fun out h1 h2 => ?_
  · obtain ⟨t, rfl⟩ := e2 v hv
    have hm : V.ref t ∈ xs := by
      rw [e1]
      exact List.mem_map.mpr ⟨_, hv, rfl⟩
    obtain ⟨ns, ⟨t', e, ht⟩, hn, hb⟩ := hx _ hm
    cases e
    exact ⟨ns, tupI_raw I ht, hn, hb⟩
  · obtain ⟨ep, he'⟩ := PyProof.Rows.sortedAll_at s.heap its out
    have h3 : ∀ u ∈ out.toList, ∃ a, u = Value.ref a := fun u hu => e2 u (h1.mem_iff.mp hu)
    have hp : (out.toList.map bkV).Perm xs := by
      rw [e1]
      exact h1.map bkV
    have hlen : (out.toList.map bkV).length ≤ sizeLine := by
      rw [hp.length_eq]
      exact hz
    refine ⟨.ref _, upd H (s.heap.objs.size + 1) (.lst (out.toList.map bkV)), I.laid (t' := s.toks) (fun _ _ => PyProof.Rows.sortedAll_old) (Nat.le_succ _) ⟨hlen, out.toList, ep, bkV_vals h3, he'⟩, rfl, q _ _ hp ?_ (I.hok.fresh (Nat.le_succ _))⟩
    rw [List.pairwise_map]
    refine List.Pairwise.imp (fun {u v} huv n m hn hm => ?_) h2
    obtain ⟨t, et, ht⟩ := hn
    obtain ⟨t', et', ht'⟩ := hm
    have eu := bkV_ref et
    have ev := bkV_ref et'
    have i1 : TS.intsOf s.heap u = n := by
      rw [eu]
      exact (tupI_raw I ht).ints
    have i2 : TS.intsOf s.heap v = m := by
      rw [ev]
      exact (tupI_raw I ht').ints
    rw [← i1, ← i2]
    exact huv
/-- sorted(d), the keys tuples of whole numbers -/
def rSortDT (K : PySem.W.Frag) : List V → Hp → VK → Prop := fun vs H Q => ∃ (a : Addr) (kvs : List (List Key × V)) (d : Nat) (C B : Int), vs = [V.ref a] ∧ Rd H a (.dT kvs) ∧ kvs.length < 64 ∧ (1 ≤ d ∨ kvs.length < 2) ∧ (∀ p ∈ kvs, ∃ ns, p.1 = ns.map Sum.inl ∧ ns.length = d ∧ TS.Bd2 C B ns) ∧
  ∀ (bs ys : List Addr) (p : Addr), IsKeys H kvs bs → ys.Perm bs → ys.Pairwise (fun x y => ∀ n m, TupI K H (.ref x) n → TupI K H (.ref y) m → TS.code2 C B n ≤ TS.code2 C B m) → H p = none → Q (.ref p) (upd H p (.lst (ys.map V.ref)))
theorem cr_sortDT (hcalm : X.calm = true) : CallR X (.builtin "sorted") (rSortDT X.K) := by
  intro pins s σ H vs us Q I r h
  obtain ⟨a, kvs, d, C, B, rfl, hd, h64, hd1, hk, q⟩ := h
  rw [Vals.ref1 r]
  obtain ⟨z, hs, ks, pr, o, es, ep, ho, hx, hdt, he, hn⟩ := (show ObjOk X.prog X.w H s.heap a (.dT kvs) from hd.ok I.hok)
  have l1 : es.size = ks.length := size_of_entries he
  have l2 : kvs.length = ks.length := Paired.length pr
  have h16 : es.size ≤ sizeLine := by rw [l1, sizeLine_eq]; omega
  refine Calls.call_function_entry PyProof.Rows.kind_sorted PyProof.Rows.plain_sorted PyProof.Rows.entry_sorted (PyProof.Rows.args_sorted1 _) ?_
  unfold Builtin.«sorted»
  refine wpAny_bind (m := checkCount "sorted" 1 1 _) (wpAny_pure ?_)
  refine wpAny_bind (PySem.W.kdu_collect (A := X.A.in1) (kdl_raw hs hx hdt) (I.ok.hd hcalm) ho h16 fun h' tk acc hk' hacc => ?_)
  have ea : acc.toList = ks.map fun x => Value.ref x.2.1 := by
    have hl : acc.toList.length = ks.length := by rw [Array.length_toList, hacc.1]; exact l1
    apply List.ext_getElem?
    intro j
    rw [List.getElem?_map]
    cases hj : acc.toList[j]? with
    | none =>
      have h1 := List.getElem?_eq_none_iff.mp hj
      rw [List.getElem?_eq_none (by omega)]
      all_goals rfl
    | some v =>
      obtain ⟨en, hen, hv⟩ := hacc.2 j v (by rw [← Array.getElem?_toList]; exact hj)
      have qe := entry_at he j
      rw [hen] at qe
      cases hb : ks[j]? with
      | none =>
        rw [hb] at qe
        exact nomatch (show some en = none from qe)
      | some b =>
        rw [hb] at qe
        have e2 : en = entryOfKey (tupleKind (mixKind X.prog X.w)) b := Option.some.inj qe
        rw [hv, e2]
        all_goals rfl
  have hal : acc.toList.length = kvs.length := by rw [ea, List.length_map, l2]
  have I1 : Inv X pins σ H { s with heap := h', toks := tk } := I.kept hk'
  have hok : TS.TupsOk2 h' d C B acc.toList := fun v hv => by
    rw [ea] at hv
    obtain ⟨x, hx, rfl⟩ := List.mem_map.mp hv
    obtain ⟨j, hj⟩ := List.getElem?_of_mem hx
    obtain ⟨p, hp⟩ : ∃ p, kvs[j]? = some p := ⟨_, List.getElem?_eq_getElem (by rw [l2]; exact (List.getElem?_eq_some_iff.mp hj).1)⟩
    obtain ⟨y, hy, e1, e2, _⟩ := paired_get pr hp
    rw [hj] at hy
    cases hy
    obtain ⟨ns, e3, e4, e5⟩ := hk p (List.mem_of_getElem? hp)
    refine ⟨ns, tupI_raw I1 (.inl (.inl ?_)), e4, e5⟩
    rw [e2, e3, List.map_map]
    rfl
  refine wpAny_bind (wpAny_newList ?_ (by rw [hal, sizeLine_eq]; omega))
  have hoL : (h'.push (seqObj "list" acc.toList.toArray 0)).get? h'.objs.size = some (seqObj "list" acc.toList.toArray 0) := Heap.get?_push_size _ rfl
  have keep : ∀ b o, h'.get? b = some o → o.cls = .type "tuple" → (h'.push (seqObj "list" acc.toList.toArray 0)).get? b = some o := fun b o e _ => Heap.get?_push_of_some _ e
  show wpAny _ _ _ _ _ { s with heap := h'.push (seqObj "list" acc.toList.toArray 0), toks := tk }
  refine wpAny_bind (wpAny_holding (wpAny_call_entry PyProof.Rows.slot_list_sort ⟨_, hoL, rfl⟩ PyProof.Rows.entry_list_sort
    (TS.sort_tups2 (s := { s with heap := h'.push (seqObj "list" acc.toList.toArray 0), toks := tk }) hoL (by rw [hal]; exact h64) (by rw [hal]; exact hd1) (hok.keeps keep) (fun v => TS.code2 C B (TS.intsOf h' v)) (fun v hv ns t => ?_) fun out g1 g2 => ⟨_, rfl, ?_⟩) (PyProof.Rows.args_list_sort _)))
  · obtain ⟨ns0, t0, _⟩ := hok v hv
    have e : ns = ns0 := t.ints.symm.trans (t0.keeps keep).ints
    rw [e]
    show TS.code2 C B (TS.intsOf h' v) = TS.code2 C B ns0
    rw [t0.ints]
  · obtain ⟨e', he'⟩ := PyProof.Rows.sortedHeap_at (vs := acc.toList) (out := out) hoL
    have h3 : ∀ u ∈ out.toList, ∃ b, u = Value.ref b := fun u hu => by
      have hu' := g1.mem_iff.mp hu
      rw [ea] at hu'
      obtain ⟨x, _, rfl⟩ := List.mem_map.mp hu'
      exact ⟨_, rfl⟩
    have e4 : ∀ l : List Value, (∀ u ∈ l, ∃ b, u = Value.ref b) → l.map bkV = (l.map fun u => match u with
        | .ref b => b
        | _ => 0).map V.ref := fun l hl => by
      rw [List.map_map]
      refine List.map_congr_left fun u hu => ?_
      obtain ⟨b, rfl⟩ := hl u hu
      rfl
    have e5 := e4 out.toList h3
    have hp0 : (out.toList.map fun u => match u with
        | .ref b => b
        | _ => 0).Perm (ks.map fun x => x.2.1) := by
      have z := g1.map fun u => match u with
        | .ref b => b
        | _ => 0
      rw [ea, List.map_map] at z
      exact z
    have hlen : (out.toList.map bkV).length ≤ sizeLine := by
      rw [List.length_map, g1.length_eq, hal, sizeLine_eq]
      omega
    refine wpAny_pure ⟨_, rfl, .ref h'.objs.size, upd H h'.objs.size (.lst (out.toList.map bkV)), I1.laid (t' := tk) (fun b u e => ?_) (Nat.le_refl _)
      (show ObjOk X.prog X.w _ _ _ (.lst (out.toList.map bkV)) from ⟨hlen, out.toList, e', bkV_vals h3, by rw [Array.toArray_toList]; exact he'⟩), rfl, ?_⟩
    · have hb : b < h'.objs.size := Heap.lt_size e
      rw [PyProof.Rows.sortedHeap_old (Nat.ne_of_lt hb) (by rw [size_push']; exact Nat.lt_succ_of_lt hb)]
      exact Heap.get?_push_of_some _ e
    · rw [e5]
      refine q _ _ _ (isKeys_of pr) hp0 ?_ (I1.hok.fresh (Nat.le_refl _))
      rw [List.pairwise_map]
      refine List.Pairwise.imp_of_mem (fun {u v} hu hv huv n m hn hm => ?_) g2
      obtain ⟨b, rfl⟩ := h3 u hu
      obtain ⟨b', rfl⟩ := h3 v hv
      obtain ⟨t, et, ht⟩ := hn
      obtain ⟨t', et', ht'⟩ := hm
      cases et
      cases et'
      have i1 : TS.intsOf h' (.ref b) = n := (tupI_raw I1 ht).ints
      have i2 : TS.intsOf h' (.ref b') = m := (tupI_raw I1 ht').ints
      rw [← i1, ← i2]
      exact huv
end
end L2
/-! DLzf: sorted, of data. -/
namespace DL
open PySem PySem.Spec PyProof.Rows L2

def leL : List Int → List Int → Bool
  | [], _ => true
  | _ :: _, [] => false
  | x :: r, y :: s => if x < y then true else if y < x then false else leL r s
def insL (x : List Int) : List (List Int) → List (List Int)
  | [] => [x]
  | y :: r => if leL x y then x :: y :: r else y :: insL x r
def srtL : List (List Int) → List (List Int)
  | [] => []
  | x :: r => insL x (srtL r)
theorem insL_perm (x : List Int) : ∀ l, (insL x l).Perm (x :: l)
  | [] => List.Perm.refl _
  | y :: r => by
    unfold insL
    split
    · exact List.Perm.refl _
    · exact ((insL_perm x r).cons y).trans (List.Perm.swap x y r)
theorem srtL_perm : ∀ l, (srtL l).Perm l
  | [] => List.Perm.refl _
  | x :: r => (insL_perm x (srtL r)).trans ((srtL_perm r).cons x)
/-- the class: so long, so bounded -/
structure Cls (d : Nat) (C B : Int) (n : List Int) : Prop where
  len : n.length = d
  bd : TS.Bd2 C B n
theorem le_code {C B : Int} : ∀ {n m : List Int}, n.length = m.length → TS.Bd2 C B n → TS.Bd2 C B m → (leL n m = true ↔ TS.code2 C B n ≤ TS.code2 C B m)
  | [], [], _, _, _ => ⟨fun _ => Int.le_refl _, fun _ => rfl⟩
  | [], _ :: _, h, _, _ => by simp at h
  | _ :: _, [], h, _, _ => by simp at h
  | x :: r, y :: s, h, h1, h2 => by
    have hl : r.length = s.length := by simpa using h
    have hl2 : (r.map fun x => x + C).length = (s.map fun x => x + C).length := by rw [List.length_map, List.length_map, hl]
    have ih := le_code hl h1.tail h2.tail
    unfold leL
    by_cases c : x < y
    · rw [if_pos c]
      have z : TS.code2 C B (x :: r) < TS.code2 C B (y :: s) := TS.code_lt hl2 h1.tail.bd h2.tail.bd (by show x + C < y + C; omega)
      exact ⟨fun _ => Int.le_of_lt z, fun _ => rfl⟩
    · rw [if_neg c]
      by_cases c2 : y < x
      · rw [if_pos c2]
        have z : TS.code2 C B (y :: s) < TS.code2 C B (x :: r) := TS.code_lt hl2.symm h2.tail.bd h1.tail.bd (by show y + C < x + C; omega)
        exact ⟨fun q => (by cases q), fun q => absurd z (by omega)⟩
      · rw [if_neg c2]
        have e : x = y := by omega
        subst e
        rw [ih]
        have z : ∀ a b : List Int, a.length = b.length → (TS.code2 C B (x :: a) < TS.code2 C B (x :: b) ↔ TS.code2 C B a < TS.code2 C B b) := fun a b hab => TS.code_same (by rw [List.length_map, List.length_map, hab])
        have z1 := z r s hl
        have z2 := z s r hl.symm
        omega
theorem leL_anti : ∀ {n m : List Int}, leL n m = true → leL m n = true → n = m
  | [], [], _, _ => rfl
  | [], _ :: _, _, h => by cases h
  | _ :: _, [], h, _ => by cases h
  | x :: r, y :: s, h1, h2 => by
    unfold leL at h1 h2
    by_cases c : x < y
    · rw [if_neg (by omega), if_pos c] at h2
      cases h2
    · rw [if_neg c] at h1
      by_cases c2 : y < x
      · rw [if_pos c2] at h1
        cases h1
      · rw [if_neg c2] at h1
        rw [if_neg c2, if_neg c] at h2
        rw [show x = y by omega, leL_anti h1 h2]
theorem code_inj {d : Nat} {C B : Int} {n m : List Int} (h1 : Cls d C B n) (h2 : Cls d C B m) (e : TS.code2 C B n = TS.code2 C B m) : n = m :=
  leL_anti ((le_code (h1.len.trans h2.len.symm) h1.bd h2.bd).mpr (by omega)) ((le_code (h2.len.trans h1.len.symm) h2.bd h1.bd).mpr (by omega))
theorem insL_srt {d : Nat} {C B : Int} {x : List Int} (hx : Cls d C B x) : ∀ {l : List (List Int)}, (∀ n ∈ l, Cls d C B n) → (l.map (TS.code2 C B)).Pairwise (· ≤ ·) → ((insL x l).map (TS.code2 C B)).Pairwise (· ≤ ·)
  | [], _, _ => by simp [insL]
  | y :: r, hc, h => by
    have hy := hc y List.mem_cons_self
    have lc := le_code (hx.len.trans hy.len.symm) hx.bd hy.bd
    have h' := List.pairwise_cons.mp h
    unfold insL
    by_cases c : leL x y = true
    · rw [if_pos c, List.map_cons]
      refine List.pairwise_cons.mpr ⟨fun z hz => ?_, h⟩
      rcases List.mem_cons.mp hz with rfl | hz
      · exact lc.mp c
      · exact Int.le_trans (lc.mp c) (h'.1 z hz)
    · rw [if_neg c, List.map_cons]
      refine List.pairwise_cons.mpr ⟨fun z hz => ?_, insL_srt hx (fun n hn => hc n (List.mem_cons_of_mem _ hn)) h'.2⟩
      obtain ⟨n, hn, rfl⟩ := List.mem_map.mp hz
      rcases List.mem_cons.mp ((insL_perm x r).mem_iff.mp hn) with rfl | hn
      · have := mt lc.mpr c
        omega
      · exact h'.1 _ (List.mem_map_of_mem hn)
theorem srtL_srt {d : Nat} {C B : Int} : ∀ {l : List (List Int)}, (∀ n ∈ l, Cls d C B n) → ((srtL l).map (TS.code2 C B)).Pairwise (· ≤ ·)
  | [], _ => by simp [srtL]
  | x :: r, hc => insL_srt (hc x List.mem_cons_self) (fun n hn => hc n (List.mem_cons_of_mem _ ((srtL_perm r).mem_iff.mp hn))) (srtL_srt fun n hn => hc n (List.mem_cons_of_mem _ hn))
theorem map_inj {α β : Type} {f : α → β} : ∀ {l m : List α}, (∀ x ∈ l, ∀ y ∈ m, f x = f y → x = y) → l.map f = m.map f → l = m
  | [], [], _, _ => rfl
  | [], _ :: _, _, h => by simp at h
  | _ :: _, [], _, h => by simp at h
  | x :: l, y :: m, hi, h => by
    rw [List.map_cons, List.map_cons] at h
    injection h with h1 h2
    rw [hi x List.mem_cons_self y List.mem_cons_self h1, map_inj (fun a ha b hb => hi a (List.mem_cons_of_mem _ ha) b (List.mem_cons_of_mem _ hb)) h2]
theorem srtL_unique {d : Nat} {C B : Int} {l m : List (List Int)} (hc : ∀ n ∈ l, Cls d C B n) (hp : m.Perm l) (hs : (m.map (TS.code2 C B)).Pairwise (· ≤ ·)) : m = srtL l := by
  have hp2 : m.Perm (srtL l) := hp.trans (srtL_perm l).symm
  refine map_inj (f := TS.code2 C B) (fun x hx y hy e => ?_) (sorted_unique _ _ (hp2.map _) hs (srtL_srt hc))
  exact code_inj (hc x (hp.mem_iff.mp hx)) (hc y ((srtL_perm l).mem_iff.mp hy)) e
/-! data -/
def tupI : D → Option (List Int)
  | .tup l => intsD l
  | _ => none
def tupsD : List D → Option (List (List Int))
  | [] => some []
  | d :: r => (tupI d).bind fun n => (tupsD r).map fun ns => n :: ns
theorem intsD_eq : ∀ {l : List D} {n : List Int}, intsD l = some n → l = lI n
  | [], n, h => by cases h; rfl
  | d :: r, n, h => by
    cases d with
    | int i =>
      have h' : (intsD r).map (fun is => i :: is) = some n := by
        rw [intsD] at h
        first
          | exact h
          | (cases q : intsD r with
            | none => rw [q] at h; cases h
            | some w => rw [q] at h; exact h)
      cases q : intsD r with
      | none => rw [q] at h'; cases h'
      | some w =>
        rw [q] at h'
        cases h'
        rw [lI_cons, ← intsD_eq q]
    | _ => cases h
theorem tupsD_eq : ∀ {ds : List D} {ns : List (List Int)}, tupsD ds = some ns → ds = ns.map enS
  | [], ns, h => by cases h; rfl
  | d :: r, ns, h => by
    rw [tupsD] at h
    cases e : tupI d with
    | none => rw [e] at h; cases h
    | some n =>
      rw [e, Option.bind_some] at h
      cases e2 : tupsD r with
      | none => rw [e2] at h; cases h
      | some ns' =>
        rw [e2] at h
        cases h
        rw [List.map_cons, ← tupsD_eq e2]
        cases d with
        | tup l => rw [show l = lI n from intsD_eq e]; rfl
        | _ => cases e
theorem tupsD_en (ns : List (List Int)) : tupsD (ns.map enS) = some ns := by
  induction ns with
  | nil => rfl
  | cons n ns ih =>
    rw [List.map_cons, tupsD, ih]
    show (intsD (lI n)).bind _ = _
    rw [intsD_lI]
    rfl
def okTups (ns : List (List Int)) : Bool := decide (ns.length < 64) && (ns.all fun n => decide (n.length = ((ns.head?).map List.length).getD 0)) && (decide (1 ≤ ((ns.head?).map List.length).getD 0) || decide (ns.length < 2)) && (ns.all fun n => n.all fun x => decide (x.natAbs < 1073741824))
theorem okTups_cls {ns : List (List Int)} (h : okTups ns = true) : ns.length < 64 ∧ ∃ d, (1 ≤ d ∨ ns.length < 2) ∧ ∀ n ∈ ns, Cls d 1073741824 2147483648 n := by
  unfold okTups at h
  simp only [Bool.and_eq_true, Bool.or_eq_true, decide_eq_true_eq, List.all_eq_true] at h
  obtain ⟨⟨⟨h1, h2⟩, h3⟩, h4⟩ := h
  exact ⟨h1, _, h3, fun n hn => ⟨h2 n hn, fun m hm => by have := h4 n hn m hm; omega⟩⟩
def gSortT : List D → Option D
  | [.lst _ ds] => (tupsD ds).bind fun ns => if okTups ns = true then some (.lst true ((srtL ns).map enS)) else none
  | _ => none
def gSortD : List D → Option D
  | [.dct _ .t l] => (tupsD (l.map (·.1))).bind fun ns => if okTups ns = true then some (.lst true ((srtL ns).map enS)) else none
  | _ => none
section
variable {K : PySem.W.Frag} {mg : Mg} {F H : Hp} {A : Addr → HO → Prop}
theorem int_vals : ∀ {n : List Int} {vs : List V} {S : List Addr}, Rps K mg F A (lI n) vs S → vs = n.map V.int
  | [], _, _, h => by cases h; rfl
  | x :: n, _, _, h => by
    cases h with
    | cons h1 h2 =>
      rw [List.map_cons, ← int_vals h2]
      cases h1
      rfl
theorem tup_at (fz : FzOk F H) {n : List Int} {x : V} {S : List Addr} (h : Rp K mg F A (enS n) x S) : TupI K H x n := by
  cases h with
  | tup h1 h2 => exact ⟨_, rfl, by rw [← int_vals h2]; exact h1.at fz⟩
theorem rps_perm {ys xs : List V} (p : ys.Perm xs) : ∀ {ns : List (List Int)}, Rps K mg F A (ns.map enS) xs [] → ∃ ms : List (List Int), ms.Perm ns ∧ Rps K mg F A (ms.map enS) ys [] := by
  induction p with
  | nil =>
    intro ns h
    have := h.length
    have : ns = [] := List.eq_nil_of_length_eq_zero (by simpa using this)
    subst this
    exact ⟨[], .nil, .nil⟩
  | @cons x l1 l2 p ih =>
    intro ns h
    cases ns with
    | nil => cases h
    | cons n ns =>
      obtain ⟨v, vr, e, r1, r2⟩ := Rps.cons0 (by rw [List.map_cons] at h; exact h)
      cases e
      obtain ⟨ms, p1, r3⟩ := ih r2
      exact ⟨n :: ms, p1.cons n, .cons (S := []) (T := []) r1 r3⟩
  | @swap x y l =>
    intro ns h
    cases ns with
    | nil => cases h
    | cons n ns =>
      obtain ⟨v, vr, e, r1, r2⟩ := Rps.cons0 (by rw [List.map_cons] at h; exact h)
      cases e
      cases ns with
      | nil => cases r2
      | cons m ns =>
        obtain ⟨v, vr, e, r3, r4⟩ := Rps.cons0 (by rw [List.map_cons] at r2; exact r2)
        cases e
        exact ⟨m :: n :: ns, List.Perm.swap n m ns, .cons (S := []) (T := []) r3 (.cons (S := []) (T := []) r1 r4)⟩
  | trans p1 p2 ih1 ih2 =>
    intro ns h
    obtain ⟨ms, q1, r1⟩ := ih2 h
    obtain ⟨ms', q2, r2⟩ := ih1 r1
    exact ⟨ms', q2.trans q1, r2⟩
theorem rps_pair {C B : Int} (fz : FzOk F H) : ∀ {ms : List (List Int)} {ys : List V}, Rps K mg F A (ms.map enS) ys [] → ys.Pairwise (fun x y => ∀ n m, TupI K H x n → TupI K H y m → TS.code2 C B n ≤ TS.code2 C B m) → (ms.map (TS.code2 C B)).Pairwise (· ≤ ·)
  | [], _, _, _ => by simp
  | n :: ms, ys, r, h => by
    obtain ⟨v, vr, rfl, r1, r2⟩ := Rps.cons0 (by rw [List.map_cons] at r; exact r)
    have h' := List.pairwise_cons.mp h
    rw [List.map_cons]
    refine List.pairwise_cons.mpr ⟨fun z hz => ?_, rps_pair fz r2 h'.2⟩
    obtain ⟨m, hm, rfl⟩ := List.mem_map.mp hz
    obtain ⟨j, hj⟩ := List.getElem?_of_mem hm
    obtain ⟨w, S', e1, r3, _⟩ := r2.get (i := j) (d := enS m) (by rw [List.getElem?_map, hj]; rfl)
    exact h'.1 w (List.mem_of_getElem? e1) n m (tup_at fz r1) (tup_at fz r3)
theorem clL_enS (ns : List (List Int)) : clL (ns.map enS) = true := by
  induction ns with
  | nil => rfl
  | cons n ns ih =>
    rw [List.map_cons, clL, ih]
    show (clL (lI n) && true) = true
    rw [clL_lI]
    rfl
theorem snd_sortT : SndN K mg (rSortU2 K) gSortT := by
  intro F H ds vs d' Q fz rs e k
  unfold gSortT at e
  split at e
  · rename_i m ds
    cases q : tupsD ds with
    | none => rw [q] at e; cases e
    | some ns =>
      rw [q, Option.bind_some] at e
      by_cases c : okTups ns = true
      · rw [if_pos c] at e
        cases e
        have eds := tupsD_eq q
        subst eds
        obtain ⟨v, rfl, r⟩ := rs.one
        obtain ⟨a, vs, S, rfl, h1, h2⟩ := r.lst fz
        obtain ⟨c1, d, c2, c3⟩ := okTups_cls c
        have hl : vs.length = ns.length := by have := h2.length; simpa using this.symm
        have hcl := clL_enS ns
        have h3 := h2.rt0 hcl (A := At H)
        refine ⟨a, vs, d, 1073741824, 2147483648, rfl, h1.sq, by omega, by rw [hl]; exact c2, fun x hx => ?_, fun ys p hp hs hn => ?_⟩
        · obtain ⟨j, hj⟩ := List.getElem?_of_mem hx
          obtain ⟨n, hn⟩ : ∃ n, ns[j]? = some n := ⟨_, List.getElem?_eq_getElem (by rw [← hl]; exact (List.getElem?_eq_some_iff.mp hj).1)⟩
          have r0 := h3.at0 hj (d := enS n) (by rw [List.getElem?_map, hn]; rfl)
          have cn := c3 n (List.mem_of_getElem? hn)
          exact ⟨n, tup_at fz r0, cn.len, cn.bd⟩
        · obtain ⟨ms, p1, r3⟩ := rps_perm hp h3
          rw [srtL_unique c3 p1 (rps_pair fz r3 hs)] at r3
          exact k _ F _ [p] (Step.own fz hn) (new_lst r3)
      · rw [if_neg c] at e; cases e
  · cases e
theorem snd_sortD : SndN K mg (rSortDT K) gSortD := by
  intro F H ds vs d' Q fz rs e k
  unfold gSortD at e
  split at e
  · rename_i m l
    cases q : tupsD (l.map (·.1)) with
    | none => rw [q] at e; cases e
    | some ns =>
      rw [q, Option.bind_some] at e
      by_cases c : okTups ns = true
      · rw [if_pos c] at e
        cases e
        have eds := tupsD_eq q
        obtain ⟨v, rfl, r⟩ := rs.one
        obtain ⟨a, S, rfl, z⟩ := r.dct fz
        rcases z with ⟨z, _⟩ | ⟨_, kvs, dv, rfl, h1, h2⟩
        · cases z
        · obtain ⟨c1, d, c2, c3⟩ := okTups_cls c
          have hl : dv.length = kvs.length := by have := h2.length; simpa using this
          rw [zlD_fst hl] at eds
          have hln : kvs.length = ns.length := by have := congrArg List.length eds; simpa using this
          have key : ∀ (j : Nat) (p : List L2.Key × V), kvs[j]? = some p → ∃ n, ns[j]? = some n ∧ p.1 = n.map Sum.inl := fun j p hj => by
            obtain ⟨n, hn⟩ : ∃ n, ns[j]? = some n := ⟨_, List.getElem?_eq_getElem (by rw [← hln]; exact (List.getElem?_eq_some_iff.mp hj).1)⟩
            refine ⟨n, hn, ?_⟩
            have z := congrArg (fun l : List D => l[j]?) eds
            simp only [List.getElem?_map, hj, hn, Option.map_some] at z
            have z2 := congrArg keyT (Option.some.inj z)
            rw [keyT_tD] at z2
            have z3 : keyT (enS n) = some (n.map Sum.inl) := keyL_lI n
            rw [z3] at z2
            exact Option.some.inj z2
          refine ⟨a, kvs, d, 1073741824, 2147483648, rfl, h1, by omega, by rw [hln]; exact c2, fun p hp => ?_, fun bs ys p hk hp hs hn => ?_⟩
          · obtain ⟨j, hj⟩ := List.getElem?_of_mem hp
            obtain ⟨n, hn, e1⟩ := key j p hj
            have cn := c3 n (List.mem_of_getElem? hn)
            exact ⟨n, e1, cn.len, cn.bd⟩
          · have hb : Rps K mg F (At H) (ns.map enS) (bs.map V.ref) [] := by
              refine Rps.nil_of (fun j v' d' e1 e2 => ?_) ?_
              · rw [List.getElem?_map] at e1 e2
                obtain ⟨b, hb, rfl⟩ := Option.map_eq_some_iff.mp e1
                obtain ⟨n, hn, rfl⟩ := Option.map_eq_some_iff.mp e2
                obtain ⟨p, hp⟩ : ∃ p, kvs[j]? = some p := ⟨_, List.getElem?_eq_getElem (by rw [hln]; exact (List.getElem?_eq_some_iff.mp hn).1)⟩
                obtain ⟨b', hb', hq⟩ := paired_get hk hp
                rw [hb] at hb'
                cases hb'
                obtain ⟨n', hn', e3⟩ := key j p hp
                rw [hn] at hn'
                cases hn'
                rw [e3, List.map_map] at hq
                exact .tup (fz.tp b _ hq) (ints_rps n)
              · rw [List.length_map, List.length_map, ← hln]
                exact Paired.length hk
            obtain ⟨ms, p1, r3⟩ := rps_perm (hp.map V.ref) hb
            rw [srtL_unique c3 p1 (rps_pair fz r3 (by rw [List.pairwise_map]; exact hs))] at r3
            exact k _ F _ [p] (Step.own fz hn) (new_lst r3)
      · rw [if_neg c] at e; cases e
  · cases e
/-- of whole numbers, of tuples, of a dict -/
def gSortA : List D → Option D
  | [.lst m ds] => (match intsD ds with
    | some _ => gSortI [.lst m ds]
    | none => gSortT [.lst m ds])
  | [.dct m t l] => gSortD [.dct m t l]
  | _ => none
theorem snd_sortA : SndN K mg (fun xs H Q => rSortedI K xs H Q ∨ (rSortU2 K xs H Q ∨ rSortDT K xs H Q)) gSortA := by
  intro F H ds vs d' Q fz rs e k
  unfold gSortA at e
  split at e
  · split at e
    · exact .inl (snd_sortI F H _ vs d' Q fz rs e k)
    · exact .inr (.inl (snd_sortT F H _ vs d' Q fz rs e k))
  · exact .inr (.inr (snd_sortD F H _ vs d' Q fz rs e k))
  · cases e
theorem cr_sortA {X : Cx} (hc : X.calm = true) : CallR X (.builtin "sorted") (fun xs H Q => rSortedI X.K xs H Q ∨ (rSortU2 X.K xs H Q ∨ rSortDT X.K xs H Q)) := CallR.or cr_sortedI (CallR.or cr_sortT2 (cr_sortDT hc))
end
end DL
/-! DLzg: len of a dict; a def that calls itself. -/
namespace DT
open PySem PySem.W PySem.Calls PyProof.Rows PyProof.V PySem.Spec
section
variable {prog : Program} {w : World} {A : Around} {E : Value → Shared → Prop} {s : Shared}
theorem meetsLen {d : Addr} {es : Array DictEntry} {ep : Nat} (hd : (d == sysModules) = false) :
    MeetsIn prog w (Builtin.«dict.__len__» ⟨[.ref d], []⟩) (fun _ R s => Raw s.heap d es ep ∧ R (.ok (.ret (.int es.size s.toks))) { s with toks := s.toks + 1 }) :=
  .of_wp fun A R s ⟨hm, h⟩ => by
    obtain ⟨o, ho, hc, hdat⟩ := hm
    show wpAny _ _ (dictSize d >>= _) _ _ s
    unfold dictSize
    refine wpAny_bind (wpAny_bind (wpAny_dictEntries ho hdat (wpAny_pure ?_)))
    show wpAny _ _ (Builtin.Dict.pendingCount d >>= _) _ _ s
    refine wpAny_bind (wpAny_pendingCount_other hd ?_)
    refine wpAny_ret_mkInt ?_
    rw [Nat.add_zero]; exact h
theorem callLen {d : Addr} {es : Array DictEntry} {ep : Nat} {Q : Value → Shared → Prop} (hd : (d == sysModules) = false) (hm : Raw s.heap d es ep) (hfit : (es.size : Int) < 2 ^ 63)
    (h : Q (.int es.size (s.toks + 1)) { s with toks := s.toks + 1 + 1 }) : wpAny (model prog w) A (call (.builtin "len") [.ref d]) Q E s := by
  refine Calls.call_function_entry kind_len plain_len entry_len (args_len1 _) ?_
  unfold Builtin.«len»
  refine wpAny_bind (m := oneArg "len" _) (wpAny_pure ?_)
  refine wpAny_bind (m := callSpecial? (.ref d) (Str.ofString "__len__")) (wpAny_callSpecial?_slot (name := Str.ofString "__len__") hm.typeIs PySem.F.slot_dict_len
    (call_meetsIn PySem.F.slot_dict_len hm.typeIs PySem.F.entry_dict_len (PySem.F.args_dict_len_1 _) (meetsLen (es := es) (ep := ep) hd) ⟨hm, ?_⟩))
  show wpAny _ _ _ _ _ { s with toks := s.toks + 1 }
  refine wpAny_bind (wpAny_holding (wpAny_pure ?_))
  refine wpAny_bind (wpAny_letGo ?_)
  show wpAny _ _ (if ((es.size : Nat) : Int) < 0 then _ else _) _ _ _
  rw [if_neg (by omega)]
  show wpAny _ _ (if ((es.size : Nat) : Int) ≥ 2 ^ 63 then _ else _) _ _ _
  rw [if_neg (by omega)]
  exact wpAny_bind (wpAny_mkInt (wpAny_pure ⟨_, rfl, h⟩))
end
end DT
namespace DL
open PySem PySem.Spec PyProof.Rows L2
def rLenD : List V → Hp → VK → Prop := fun xs H Q => ∃ (a : Addr) (n : Nat), xs = [V.ref a] ∧ ((∃ kvs, Rd H a (.dK kvs) ∧ n = kvs.length) ∨ ∃ kvs, Rd H a (.dT kvs) ∧ n = kvs.length) ∧ Q (.int (n : Int)) H
theorem call_lenD {X : Cx} : CallR X (.builtin "len") rLenD := by
  intro pins s σ H vs us Q I r h
  obtain ⟨a, n, rfl, hk, q⟩ := h
  rw [Vals.ref1 r]
  rcases hk with ⟨kvs, hd, rfl⟩ | ⟨kvs, hd, rfl⟩
  · exact d_len I hd fun t s' I' => ⟨.int (kvs.length : Int), H, I', ⟨t, rfl⟩, q⟩
  · obtain ⟨z, hs, ks, pr, o, es, ep, ho, hx, hdt, he, hn⟩ := (show ObjOk X.prog X.w H s.heap a (.dT kvs) from hd.ok I.hok)
    have l1 : es.size = ks.length := size_of_entries he
    have l2 : kvs.length = ks.length := Paired.length pr
    refine DT.callLen (es := es) (ep := ep) hs ⟨o, ho, hx, hdt⟩ (by rw [l1, ← l2]; rw [sizeLine_eq] at z; omega) ?_
    rw [l1, ← l2]
    exact ⟨.int (kvs.length : Int), H, I.tok _, ⟨_, rfl⟩, q⟩
def gLenA : List D → Option D
  | [.dct _ _ l] => some (.int l.length)
  | ds => gLen ds
theorem snd_lenA {K : PySem.W.Frag} {mg : Mg} : SndN K mg (fun xs H Q => rLen1 K xs H Q ∨ rLenD xs H Q) gLenA := by
  intro F H ds vs d' Q fz rs e k
  unfold gLenA at e
  split at e
  · cases e
    obtain ⟨v, rfl, r⟩ := rs.one
    obtain ⟨a, S, rfl, z⟩ := r.dct fz
    rcases z with ⟨_, kvs, dv, rfl, h1, h2⟩ | ⟨_, kvs, dv, rfl, h1, h2⟩
    · have hl : dv.length = kvs.length := by have := h2.length; simpa using this
      exact .inr ⟨a, kvs.length, rfl, .inl ⟨kvs, h1, rfl⟩, by rw [← zlD_len (enc := kD) hl]; exact k _ F H [] (Step.pure fz) (.int _)⟩
    · have hl : dv.length = kvs.length := by have := h2.length; simpa using this
      exact .inr ⟨a, kvs.length, rfl, .inr ⟨kvs, h1, rfl⟩, by rw [← zlD_len (enc := tD) hl]; exact k _ F H [] (Step.pure fz) (.int _)⟩
  · exact .inl (snd_len F H ds vs d' Q fz rs e k)
theorem call_lenA {X : Cx} : CallR X (.builtin "len") (fun xs H Q => rLen1 X.K xs H Q ∨ rLenD xs H Q) := CallR.or call_len call_lenD
/-- a def that is not entered -/
theorem fn_no {P : Program} {w : World} {K : PySem.W.Frag} {mg : Mg} {base : Heap} {k : Nat} {f : Addr} {fd : FuncData} {ps : List Str} : FnOk P w K mg base (L2.CX P w) k f fd ps (spF K mg fun _ => .no) :=
  ⟨fun vs H Q E h => by
    obtain ⟨_, _, _, _, _, h⟩ := h
    exact h.elim, fun A outer s H args us vs Q E hr he hb hv h => by
    obtain ⟨_, _, _, _, _, h⟩ := h
    exact h.elim⟩

def tysD : List D → Option (List String)
  | [] => some []
  | .ty n :: r => (tysD r).map fun ns => n :: ns
  | _ => none
def anyB (t : String) : List String → Option Bool
  | [] => some false
  | n :: r => match kitB t n with
    | some true => some true
    | some false => anyB t r
    | none => none
theorem any_kit {K : PySem.W.Frag} {t : String} : ∀ {ns : List String} {b : Bool}, anyB t ns = some b → PySem.W.kitAny K (.type t) (ns.map Value.type) = some b
  | [], b, h => by cases h; rfl
  | n :: r, b, h => by
    unfold anyB at h
    cases e : kitB t n with
    | none => rw [e] at h; cases h
    | some c =>
      rw [e] at h
      rw [List.map_cons, PySem.W.kitAny, kit_ty e]
      cases c with
      | true => exact h
      | false => exact any_kit h
theorem tys_cls {K : PySem.W.Frag} {mg : Mg} {F : Hp} {A : Addr → HO → Prop} : ∀ {cs : List D} {ns : List String} {vs : List V} {S : List Addr}, tysD cs = some ns → Rps K mg F A cs vs S → Paired ClsV vs (ns.map Value.type)
  | [], ns, vs, S, e, r => by
    cases e; cases r
    exact .nil
  | c :: cs, ns, vs, S, e, r => by
    cases r with
    | cons r1 r2 =>
      cases c with
      | ty n =>
        have e' : (tysD cs).map (fun ns => n :: ns) = some ns := e
        cases q : tysD cs with
        | none => rw [q] at e'; cases e'
        | some ms =>
          rw [q] at e'
          cases e'
          cases r1
          exact .cons (.ty n) (tys_cls q r2)
      | _ => cases e
def gIsiA : List D → Option D
  | [d, .tup cs] => (tysD cs).bind fun ns => (tyN d).bind fun t => (anyB t ns).map .bl
  | ds => gIsi ds
theorem snd_isiA {K : PySem.W.Frag} {mg : Mg} : SndN K mg (fun xs H Q => rIsi K xs H Q ∨ rIsiT K xs H Q) gIsiA := by
  intro F H ds vs d' Q fz rs e k
  unfold gIsiA at e
  split at e
  · rename_i d cs
    cases q : tysD cs with
    | none => rw [q] at e; cases e
    | some ns =>
      rw [q, Option.bind_some] at e
      cases et : tyN d with
      | none => rw [et] at e; cases e
      | some t =>
        rw [et, Option.bind_some] at e
        cases ek : anyB t ns with
        | none => rw [ek] at e; cases e
        | some b =>
          rw [ek] at e
          cases e
          obtain ⟨v, v2, rfl, r, r2⟩ := rs.two
          obtain ⟨a, ws, S, rfl, f1, h1, h2⟩ := r2.tupF fz
          exact .inr ⟨v, a, ws, _, _, b, rfl, f1.ex fz, tys_cls q h2, tyN_ok fz r et, any_kit ek, k _ F H [] (Step.pure fz) (.bl b)⟩
  · exact .inl (snd_isi F H ds vs d' Q fz rs e k)
theorem call_isiA {X : Cx} : CallR X (.builtin "isinstance") (fun xs H Q => rIsi X.K xs H Q ∨ rIsiT X.K xs H Q) := CallR.or call_isi call_isiT
end DL
/-! DLzh: list(range(i, j, c)). -/
namespace DL
open PySem PySem.Spec PyProof.Rows L2 PyProof
def rgVC (i c : Int) (n : Nat) : List V := (List.range n).map fun k => V.int (i + (k : Nat) * c)
theorem rgVC_length (i c : Int) (n : Nat) : (rgVC i c n).length = n := by unfold rgVC; rw [List.length_map, List.length_range]
theorem vals_rgC {i c : Int} {n : Nat} {acc : Array Value} (h : ItemsOf (fun k v => ∃ t, v = .int (i + k * c) t) acc n) : Vals (rgVC i c n) acc.toList := by
  have e : acc.toList.length = n := by rw [Array.length_toList]; exact h.1
  unfold rgVC
  rw [← e]
  refine vals_of_get acc.toList _ fun j u hj => ?_
  obtain ⟨t, rfl⟩ := h.2 j u (by rw [← hj, Array.getElem?_toList])
  exact ⟨t, rfl⟩
/-- the list of a range with a step -/
def rLstRg3 : List V → Hp → VK → Prop := fun vs H1 Q => ∃ (i j c : Int) (n : Nat), vs = [.int i, .int j, .int c] ∧ RgC i j c n ∧ n ≤ 16777216 ∧ ∀ q, H1 q = none → Q (.ref q) (upd H1 q (.lst (rgVC i c n)))
section
variable {X : Cx}
theorem pe_listRg3 {a b c : Expr} {ta : TA} {p p2 pos pos2 : Pos} (hc : X.calm = true) (hl : Gl X "list") (ml : X.mg "list" = none) (hg : Gl X "range") (hm : X.mg "range" = none) (ha : PA X [a, b, c] ta)
    (hs : starEach [a, b, c] X.env = (false, eval a X.env) :: starEach [b, c] X.env := by rfl) (hpl : (backTo pos2 (starEach [b, c] X.env)).any (·.1) = false := by rfl)
    (na : starEach [.Call (.Name "range" p2) [a, b, c] [] pos2] X.env = (false, eval (.Call (.Name "range" p2) [a, b, c] [] pos2) X.env) :: starEach [] X.env := by rfl) :
    PE X (.Call (.Name "list" p) [.Call (.Name "range" p2) [a, b, c] [] pos2] [] pos) (tCB rLstRg3 ta) := by
  refine ⟨fun pins s σ H Q I h => ?_⟩
  refine Call_ (ld_blt I hl ml boot_list (PyProof.Rows.callWith_type1 (args_cons (Q := fun us s' => wpAny (model X.prog X.w) X.A (call (.type "list") us) (EP X pins σ Q) X.xe s') ?_ na) na))
  refine Call_ (ld_blt I hg hm boot_range (PyProof.Rows.callWith_type1 (thn (ha.run pos2 pins s σ H _ I h) fun us s1 ⟨vs, H1, I1, r1, q1⟩ => ?_) hs hpl))
  obtain ⟨i, j, k, n, e, ⟨c0, c1, c2, c3⟩, hn, q⟩ := q1
  subst e
  cases r1 with
  | cons r rr =>
    cases rr with
    | cons r' rr =>
      cases rr with
      | cons r'' rr =>
        cases rr
        obtain ⟨t, rfl⟩ := r
        obtain ⟨t', rfl⟩ := r'
        obtain ⟨t'', rfl⟩ := r''
        refine call_range_3 c0 (args_nil ?_) (.inl (PyProof.noPylong_small c1))
        have I2 : Inv X pins σ H1 { s1 with heap := s1.heap.push { cls := .type "range", data := .fields #[.int i t, .int j t', .int k t''] } } := I1.kept (t' := s1.toks) fun b o e => Heap.get?_push_of_some _ e
        refine call_list_range (n := n) (I2.ok.hd hc) (IsRange.new ..) c2 c3 hn fun h' tk acc c' hk e' hi => ?_
        generalize hs2 : ({ s1 with heap := s1.heap.push { cls := .type "range", data := .fields #[.int i t, .int j t', .int k t''] } } : Shared) = s2 at *
        have hh : s1.heap.push { cls := .type "range", data := .fields #[.int i t, .int j t', .int k t''] } = s2.heap := by rw [← hs2]
        refine ⟨.ref s2.heap.objs.size, upd H1 s2.heap.objs.size (.lst (rgVC i k n)), I2.laid hk (Nat.le_refl _) (show ObjOk X.prog X.w _ _ _ (.lst (rgVC i k n)) from ⟨?_, acc.toList, c', vals_rgC hi, ?_⟩), rfl, q _ (I2.hok.fresh (Nat.le_refl _))⟩
        · rw [rgVC_length, sizeLine_eq]; omega
        · rw [Array.toArray_toList]; exact e'
end
theorem rgc_rps {K : PySem.W.Frag} {mg : Mg} {F : Hp} {A : Addr → HO → Prop} (i c : Int) (n : Nat) : Rps K mg F A (rngC i c n) (rgVC i c n) [] := by
  unfold rngC rgVC
  generalize List.range n = l
  induction l with
  | nil => exact .nil
  | cons n l ih => exact .cons (S := []) (T := []) (.int _) ih
def gLRg3 : List D → Option D
  | [.int i, .int j, .int c] => if decide (c ≠ 0) && decide (c.natAbs < 1073741824) && Builtin.Range.small i j c && decide (0 ≤ Builtin.Range.rangeSize i j c) && decide ((Builtin.Range.rangeSize i j c).toNat ≤ 16777216) then some (.lst true (rngC i c (Builtin.Range.rangeSize i j c).toNat)) else none
  | _ => none
theorem snd_LRg3 {K : PySem.W.Frag} {mg : Mg} : SndN K mg rLstRg3 gLRg3 := by
  intro F H ds vs d' Q fz rs e k
  unfold gLRg3 at e
  split at e
  · split at e
    · rename_i i j c hj
      rw [Bool.and_eq_true, Bool.and_eq_true, Bool.and_eq_true, Bool.and_eq_true] at hj
      cases e
      obtain ⟨v, v2, v3, rfl, r, r2, r3⟩ := rs.three
      rw [r.int, r2.int, r3.int]
      have h4 := of_decide_eq_true hj.1.2
      exact ⟨i, j, c, _, rfl, ⟨of_decide_eq_true hj.1.1.1.1, of_decide_eq_true hj.1.1.1.2, hj.1.1.2, (Int.toNat_of_nonneg h4).symm⟩, of_decide_eq_true hj.2, fun q hq => k _ F _ [q] (Step.own fz hq) (new_lst (rgc_rps _ _ _))⟩
    · cases e
  · cases e
section
variable {X : Cx} {W : WX} {a b c : Expr} {ms : List Ex} {p p2 pos pos2 : Pos}
theorem je_listRg3 (hc : X.calm = true) (hl : Gl X "list") (ml : X.mg "list" = none) (hg : Gl X "range") (hm : X.mg "range" = none) (ha : JA X W [a, b, c] ms)
    (hs : starEach [a, b, c] X.env = (false, eval a X.env) :: starEach [b, c] X.env := by rfl) (hpl : (backTo pos2 (starEach [b, c] X.env)).any (·.1) = false := by rfl) :
    JE X W (.Call (.Name "list" p) [.Call (.Name "range" p2) [a, b, c] [] pos2] [] pos) (eN gLRg3 ms) :=
  je_of (pe_listRg3 hc hl ml hg hm ha hs hpl) fun _ _ _ h => t_N snd_LRg3 h
end
end DL
/-! DLzi: l.index(x), l.count(x) of any data. -/
namespace DL
open PySem PySem.Spec PyProof.Rows L2 PyProof
def rCountD (K : PySem.W.Frag) : V → List V → Hp → VK → Prop := fun x xs H Q => ∃ (a : Addr) (y : V) (d : PyData) (ds : List PyData), x = V.ref a ∧ xs = [y] ∧ Dp K H (V.ref a) (.list ds) ∧ Dp K H y d ∧
  SeqAt.shaped (.list ds) = true ∧ SeqAt.shaped d = true ∧ Q (.int (ds.countP fun z => PyData.eqv z d : Nat)) H
section
variable {X : Cx}
theorem mt_countD (hu : X.A.units + 65 < cLine) : MtR X "list.count" (rCountD X.K) := by
  intro pins s σ H x xs v us Q I rx rxs h
  obtain ⟨a, y, d, ds, rfl, rfl, hl, hy, sl, sd, q⟩ := h
  cases rx
  cases rxs with
  | cons ry rt =>
    rename_i uy ut
    cases rt
    obtain ⟨bs, r1⟩ := Dp.reads I d y uy hy ry
    have hxs : PyData.canLayAll0 ds = true := SeqAt.canLay_of_shaped sl
    have hroom : X.A.units + 1 + min (PyData.depthAll ds) d.depth < cLine := room_in_shaped sd hu
    cases hl with
    | lst hs ha =>
      obtain ⟨its, rv, ⟨⟨cls, dd, data, sls⟩, n, ho, hc, hdn, hdt⟩, hlen⟩ := I.list hs
      simp only at hc hdt
      subst hc hdt
      obtain ⟨as, h4⟩ := Dp.readsAll I ds _ its ha rv
      have hmap : its.map (SeqAt.readOf s.heap) = ds := SeqAt.readsAll_map ds its as hxs h4
      refine call_meets PySem.F.slot_list_count ⟨_, ho, rfl⟩ PySem.F.entry_list_count (PySem.F.args_list_count_2 _ _)
        (SeqAt.list_countAt a its.toArray n dd sls uy (fun u => PyData.eqv (SeqAt.readOf s.heap u) d)) ⟨ho, SeqAt.items_eqAt (vs := its.toArray) (show ReadsAll s.heap its.toArray.toList ds as from h4) r1 hxs (SeqAt.canLay_of_shaped sd) hroom, ?_⟩
      have e : its.countP (fun u => PyData.eqv (SeqAt.readOf s.heap u) d) = ds.countP fun z => PyData.eqv z d := by
        rw [← hmap, List.countP_map]
        rfl
      show EP X pins σ Q (.int (its.countP (fun u => PyData.eqv (SeqAt.readOf s.heap u) d) : Nat) s.toks) _
      rw [e]
      exact ⟨.int _, H, I.tok _, ⟨_, rfl⟩, q⟩
theorem mt_indexA (hu : X.A.units + 65 < cLine) : MtR X "list.index" (fun x xs H Q => rIndex X.K x xs H Q ∨ rIndexD X.K x xs H Q) := by
  intro pins s σ H x xs v us Q I rx rxs h
  rcases h with h | h
  · exact mt_index pins s σ H x xs v us Q I rx rxs h
  · exact mt_indexD hu pins s σ H x xs v us Q I rx rxs h
end
def gFindD : D → List D → Option D
  | .lst _ l, [d] => (toPy d).bind fun p => (toPyL l).bind fun ps => if SeqAt.shaped (.list ps) && SeqAt.shaped p then (ps.findIdx? fun z => PyData.eqv z p).map fun j => .int (j : Nat) else none
  | _, _ => none
def gFindA (d : D) (ds : List D) : Option D := match gFind d ds with
  | some r => some r
  | none => gFindD d ds
def gCntD : D → List D → Option D
  | .lst _ l, [d] => (toPy d).bind fun p => (toPyL l).bind fun ps => if SeqAt.shaped (.list ps) && SeqAt.shaped p then some (.int (ps.countP fun z => PyData.eqv z p : Nat)) else none
  | _, _ => none
section
variable {K : PySem.W.Frag} {mg : Mg}
theorem smr_findD : SndMR K mg (rIndexD K) gFindD := by
  intro F H d x ds vs d' Q fz r rs e k
  unfold gFindD at e
  split at e
  · rename_i m l d1
    cases ep : toPy d1 with
    | none => rw [ep] at e; cases e
    | some p =>
      cases el : toPyL l with
      | none => rw [ep, el] at e; cases e
      | some ps =>
        rw [ep, el, Option.bind_some, Option.bind_some] at e
        split at e
        · rename_i hs
          rw [Bool.and_eq_true] at hs
          cases ej : ps.findIdx? fun z => PyData.eqv z p with
          | none => rw [ej] at e; cases e
          | some j =>
            rw [ej] at e
            cases e
            obtain ⟨hj, g1, g2⟩ := List.findIdx?_eq_some_iff_getElem.mp ej
            obtain ⟨v, rfl, r1⟩ := rs.one
            obtain ⟨S1, h1⟩ := r1
            obtain ⟨S2, h2⟩ := r
            have hd := toPy_dp fz h2 (show toPy (.lst m l) = some (.list ps) by rw [toPy, el]; rfl)
            have hx : ∃ a, x = V.ref a := by
              cases hd
              exact ⟨_, rfl⟩
            obtain ⟨a, rfl⟩ := hx
            refine ⟨a, v, p, ps, j, ps[j], rfl, rfl, hd, toPy_dp fz h1 ep, hs.1, hs.2, List.getElem?_eq_getElem hj, g1, fun m z' hm hz => ?_, k _ F H [] (Step.pure fz) (.int _)⟩
            obtain ⟨hml, rfl⟩ := List.getElem?_eq_some_iff.mp hz
            have := g2 m hm
            simpa using this
        · cases e
  · cases e
theorem smr_findA : SndMR K mg (fun x xs H Q => rIndex K x xs H Q ∨ rIndexD K x xs H Q) gFindA := by
  intro F H d x ds vs d' Q fz r rs e k
  unfold gFindA at e
  split at e
  · rename_i q hq
    cases e
    exact .inl (smr_find F H d x ds vs d' Q fz r rs hq k)
  · exact .inr (smr_findD F H d x ds vs d' Q fz r rs e k)
theorem smr_cntD : SndMR K mg (rCountD K) gCntD := by
  intro F H d x ds vs d' Q fz r rs e k
  unfold gCntD at e
  split at e
  · rename_i m l d1
    cases ep : toPy d1 with
    | none => rw [ep] at e; cases e
    | some p =>
      cases el : toPyL l with
      | none => rw [ep, el] at e; cases e
      | some ps =>
        rw [ep, el, Option.bind_some, Option.bind_some] at e
        split at e
        · rename_i hs
          rw [Bool.and_eq_true] at hs
          cases e
          obtain ⟨v, rfl, r1⟩ := rs.one
          obtain ⟨S1, h1⟩ := r1
          obtain ⟨S2, h2⟩ := r
          have hd := toPy_dp fz h2 (show toPy (.lst m l) = some (.list ps) by rw [toPy, el]; rfl)
          have hx : ∃ a, x = V.ref a := by
            cases hd
            exact ⟨_, rfl⟩
          obtain ⟨a, rfl⟩ := hx
          exact ⟨a, v, p, ps, rfl, rfl, hd, toPy_dp fz h1 ep, hs.1, hs.2, k _ F H [] (Step.pure fz) (.int _)⟩
        · cases e
  · cases e
end
end DL
/-! DLzj: try .. except X as e: caught = e, the exception held behind; isinstance of it. -/
namespace DL
open PySem PySem.Spec PyProof.Rows L2
theorem ExH.fresh {a : Addr} {cls : Value} {h : Heap} {oe : Obj} {vs : Array Value} (he : h.get? a = some oe) (hz : Zc cls none oe) (hd : oe.data = .fields vs) (P : Program) (w : World) (H : Hp) : ObjOk P w H h a (ExH cls a) :=
  ⟨⟨oe, vs, he, hz, hd⟩, ⟨oe, he⟩, fun h1 h2 ⟨o1, v1, q1, q2, q3⟩ k => ⟨o1, v1, k _ q1, q2, q3⟩⟩
theorem held_ok {X : Cx} {pins : List (Addr × Obj)} {σ : L2.St} {H : Hp} {s : Shared} {a : Addr} {cls : Value} {oe : Obj} {vs : Array Value} (I : Inv X pins σ H s) (he : s.heap.get? a = some oe) (hz : Zc cls none oe) (hd : oe.data = .fields vs)
    (na : H a = none) (nL : a ≠ X.env.locals) (np : ∀ p ∈ X.pn ++ pins, p.1 ≠ a) (n0 : X.s_0.heap.get? a = none) : Inv X pins σ (upd H a (ExH cls a)) s := by
  have ne : ∀ {b : Addr} {o : HO}, H b = some o → b ≠ a := fun {b o} e z => by subst z; rw [na] at e; cases e
  refine ⟨I.ok, I.os, I.bare, ⟨I.base.keep, I.base.slot, fun b o e n hx => ?_, I.base.there, fun b xs e => ?_, fun b o u e => ?_, fun b ps e => ?_⟩, I.loc, I.cell, ?_, fun x c e => ?_, fun p hp => ?_, fun b o e => ?_, I.len⟩
  · have : b ≠ a := fun z => by subst z; rw [n0] at e; cases e
    rw [upd_ne this]
    exact I.base.free b o e n hx
  · have q := I.base.tups b xs e
    rw [upd_ne (ne q)]
    exact q
  · have q := I.base.frzs b o u e
    rw [upd_ne (ne q)]
    exact q
  · obtain ⟨more, q⟩ := I.base.tbls b ps e
    exact ⟨more, by rw [upd_ne (ne q)]; exact q⟩
  · rw [upd_ne (Ne.symm nL)]
    exact I.free
  · obtain ⟨v, o, q, qd⟩ := I.cell x c e
    have : c ≠ a := fun z => by
      subst z
      rw [he] at q
      cases q
      rw [hd] at qd
      cases qd
    rw [upd_ne this]
    exact I.freeC x c e
  · obtain ⟨q1, q2, q3⟩ := I.pin p hp
    exact ⟨q1, by rw [upd_ne (np p hp)]; exact q2, q3⟩
  · by_cases hb : b = a
    · subst hb
      rw [upd_same] at e
      cases e
      exact ExH.fresh he hz hd _ _ _
    · rw [upd_ne hb] at e
      refine (I.hok b o e).stay (fun _ _ _ q => q) (fun c q => ?_) fun c xs q => ?_
      · rw [upd_ne (ne q)]; exact q
      · rw [upd_ne (ne q)]; exact q
/-- what the clause 'except x as n: m = n' wishes: slot i is n's, slot j m's -/
def wHeld (K : PySem.W.Frag) (c : Value) (i j : Nat) (Wout : WX) (D : Ends) : WX := fun cls d σ H =>
  ∃ b, PySem.W.exmOne K cls c = some b ∧ (b = true → d = none ∧ ∀ a, H a = none → D.nx (((σ.set i (some (.ref a))).set j (some (.ref a))).set i none) (upd H a (ExH cls a))) ∧ (b = false → Wout cls d σ H)
section
variable {X : Cx} {x n m : Str} {c : Value} {i j : Nat} {body : List Stmt} {np pos pos' p1 p2 p3 : Pos} {tb : WX → TS} {Wout : WX}
theorem ps_try_held (hs : X.stack = X.env :: X.outer) (hex : X.ex = []) (hf : X.env.frame = some X.env.locals) (hN : X.N.Nodup) (hi : X.N[i]? = some n) (hj : X.N[j]? = some m) (hln : X.env.kindOf n = some .local) (hlm : X.env.kindOf m = some .local) (hc : Names X x c) (tk : Takes X Wout)
    (hb : ∀ (W : WX) (pn : List (Addr × Obj)) (xe : Value → Shared → Prop), Takes (X.tr pn xe) W → PassesOwn (model X.prog X.w) X.A X.env xe → PSs (X.tr pn xe) body (tb W))
    (hsu : ∀ (a : Addr) (pn : List (Addr × Obj)), PS (X.suite a pn) (.Assign [.Name m p1] (.Name n p2) p3) (tAsg (tVar i) (gName j))) :
    PS X (.Try body [.ExceptHandler (some (.Name x np)) (some n) [.Assign [.Name m p1] (.Name n p2) p3] pos'] [] [] pos) (fun D σ H => tb (wHeld X.K c i j Wout D) D σ H) := by
  refine ⟨fun pins s σ H D I h => ?_⟩
  have ok := I.ok
  have hfr : X.A.frames = some (X.env :: X.outer) := by rw [ok.frames, hs]
  have hloc : Loc X.env.scope n := .inl hln
  refine wpAny_Try_except ?_
  refine wpAny_mono ((hb (wHeld X.K c i j Wout D) (X.pn ++ pins) (fun e s₁ => wpAny (model X.prog X.w) X.A (noteFrame e X.env) (fun _ s₂ => wpAny (model X.prog X.w) X.A (setFlight e none) (fun _ s₃ =>
    wpAny (model X.prog X.w) X.A (handleBy e X.env [.ExceptHandler (some (.Name x np)) (some n) [.Assign [.Name m p1] (.Name n p2) p3] pos']) (SP X pins D) X.xe s₃) X.xe s₂) X.xe s₁) (fun u s' xx => ?_) PassesOwn.looking).run [] s σ H D (I.toTry _) h) (fun f s1 hsp => ?_) (fun e s1 he => he)
  · -- the catch
    obtain ⟨a, B, sI, pins', σ', H', cls, d, rfl, J', nb, up, sky, na, os, ag, b, hb1, hyes, hno⟩ := xx
    have J : Inv X pins σ' H' sI := J'.ofTry ok
    have sky' : Sky B (X.env :: X.outer) a (Zc cls d) X.env.locals s'.heap := by rw [← hs]; exact sky
    show wpAny (model X.prog X.w) X.A (noteFrame (.ref a) X.env) _ _ _
    refine Sky.land Zc.steady hfr hf sky' fun h3 fl3 up3 => ?_
    have J3 : Inv X pins σ' H' { s' with heap := h3 } := J.landed nb fl3.1 (up.trans up3) os ag
    obtain ⟨oe3, vs3, he3, hz3, hd3⟩ := fl3.there
    have notFr : ∀ {h : Heap} {o : Obj} {vs : Array Value}, h.FunFrames B (X.env :: X.outer) → h.get? a = some o → o.data = .fields vs → a ∉ frs (X.env :: X.outer) := fun {h o vs} ff e dd hm => by
      obtain ⟨_, o', e', hnf⟩ := ff.mem hm
      rw [e] at e'; cases e'
      exact hnf _ dd
    have nfr := notFr fl3.2.2.1 he3 hd3
    have nL : a ≠ X.env.locals := fun z => nfr (List.mem_filterMap.mpr ⟨X.env, List.mem_cons_self, by rw [hf, z]⟩)
    have nF : a ∉ X.fs := fun hm => by
      obtain ⟨e, he, q⟩ := List.mem_filterMap.mp hm
      exact nfr (List.mem_filterMap.mpr ⟨e, List.mem_cons_of_mem _ he, q⟩)
    have S3 := J3.suite he3 hd3 na nL nF
    have nB : B.get? a = none := fl3.2.1
    have nfr' : a ∉ frs X.stack := by rw [hs]; exact nfr
    have nI : sI.heap.get? a = none := by
      cases e : sI.heap.get? a with
      | none => rfl
      | some o =>
        have := nb a o e nfr'
        rw [nB] at this
        cases this
    have np' : ∀ p ∈ X.pn ++ pins, p.1 ≠ a := fun p hp z => by
      have := (J.pin p hp).1
      rw [z, nI] at this
      cases this
    have n0 : X.s_0.heap.get? a = none := by
      cases e : X.s_0.heap.get? a with
      | none => rfl
      | some o =>
        exfalso
        obtain ⟨o', e'⟩ := J.base.there a o e (by rw [hex]; simp)
        rw [nI] at e'
        cases e'
    refine wpAny_handleBy_cons (codeAny_handlers_test ?_) (by intro q; cases q)
    have LT : PySem.W.Looks (model X.prog X.w) h3 (typeOf (.ref a)) cls := fun A Q E s k q => wpAny_typeOf_ref (k _ _ he3) (by rw [hz3.1]; exact q)
    have LM := PySem.W.exm_one (M := model X.prog X.w) (J3.kIn) LT hb1
    have test : ∀ {Q : Value → Shared → Prop} {E : Value → Shared → Prop}, Q c { s' with heap := h3 } → wpAny (model X.prog X.w) (X.A.mark (some (.ref a))) (eval (.Name x np) X.env) Q E { s' with heap := h3 } := fun {Q E} q => by
      obtain ⟨hg, hdbg, hm | ⟨hm, hv, hnn⟩⟩ := hc
      · exact ld_glob (X := X.suite a ((a, oe3) :: (X.pn ++ pins))) S3 hg hm q hdbg
      · exact ld_blt (X := X.suite a ((a, oe3) :: (X.pn ++ pins))) S3 hg hm hv q hnn hdbg
    refine test (LM.here ?_)
    cases b with
    | true =>
      obtain ⟨hdd, hyes2⟩ := hyes rfl
      subst hdd
      refine codeAny_handlers_suite_as ?_
      refine HandSPX.lands_againZ fl3 fun h4 fl4 up4 => ?_
      have J4 : Inv X pins σ' H' { s' with heap := h4 } := J.landed nb fl4.1 ((up.trans up3).trans up4) os ag
      obtain ⟨oe4, vs4, he4, hz4, hd4⟩ := fl4.there
      have S4 := J4.suite he4 hd4 na nL nF
      refine store_ok (X := X.suite a ((a, oe4) :: (X.pn ++ pins))) (v := .ref a) S4 hN hi hloc rfl (fun s5 S5 => ?_) (.inr hln)
      have hsuite := hsu a ((a, oe4) :: (X.pn ++ pins))
      refine wpAny_mono ((pss_one hsuite).run [] s5 _ H' { nx := fun σ6 H6 => σ6 = (σ'.set i (some (.ref a))).set j (some (.ref a)) ∧ H6 = H', rt := fun _ _ => False, bk := fun _ _ => False, ct := fun _ _ => False } S5 ?_) (fun f s6 hsp => ?_) (fun _ _ z => False.elim z)
      · exact ⟨.ref a, List.getElem?_set_self (by rw [J.len]; exact (List.getElem?_eq_some_iff.mp hi).1), rfl, rfl⟩
      cases f with
      | next =>
        obtain ⟨σ6, H6, S6, rfl, rfl⟩ := hsp
        refine gone_ok (X := X.suite a ((a, oe4) :: (X.pn ++ pins))) S6 hN hi hln fun s7 S7 => ?_
        have J7 := S7.unsuite ok
        have pa := (S7.pin (a, oe4) (List.mem_append_left _ List.mem_cons_self)).1
        exact ⟨_, _, held_ok J7 pa hz4 hd4 na nL np' n0, hyes2 a na⟩
      | brk =>
        obtain ⟨σ6, H6, S6, q6⟩ := hsp
        exact q6.elim
      | cont =>
        obtain ⟨σ6, H6, S6, q6⟩ := hsp
        exact q6.elim
      | ret u =>
        obtain ⟨v6, σ6, H6, S6, r6, q6⟩ := hsp
        exact q6.elim
    | false =>
      show wpAny _ X.A (handleBy (.ref a) X.env []) _ _ _
      refine wpAny_handleBy_nil ?_
      obtain ⟨k1, k2, k3, oe, vs, T, oT, ts', he, hz, hd, h1, hr⟩ := id fl3
      unfold PySem.passOn
      refine wpAny_bind (wpAny_field he hd h1 ?_)
      rw [if_neg (show ¬ ((Value.ref T == Value.none) = true) from by simp)]
      have fin : wpAny (model X.prog X.w) X.A (setFlight (.ref a) X.env.frame) (fun _ s4 => wpAny (model X.prog X.w) X.A (throw (.ref a) : Sem Flow) (SP X pins D) X.xe s4) X.xe { s' with heap := h3 } := by
        rw [hf]
        refine HandSPX.setFlight_upZ fl3 fun h4 hh4 up4 => wpAny_throw (tk _ _ ?_)
        exact ⟨a, B, sI, pins, σ', H', cls, d, rfl, J, nb, (up.trans up3).trans up4, .inr (.inr (by rw [hs]; exact hh4)), na, os, ag, hno rfl⟩
      first
        | exact wpAny_bind (wpAny_pure (wpAny_bind fin))
        | exact wpAny_bind fin
  · cases f with
    | next =>
      obtain ⟨σ', H', J', q⟩ := hsp
      exact wpAny_execs_nil ⟨σ', H', J'.ofTry ok, q⟩
    | brk =>
      obtain ⟨σ', H', J', q⟩ := hsp
      exact ⟨σ', H', J'.ofTry ok, q⟩
    | cont =>
      obtain ⟨σ', H', J', q⟩ := hsp
      exact ⟨σ', H', J'.ofTry ok, q⟩
    | ret u =>
      obtain ⟨v, σ', H', J', r, q⟩ := hsp
      exact ⟨v, σ', H', J'.ofTry ok, r, q⟩
end
/-- try: body / except .. as e: caught = e: the slot i is e's, j caught's; cs are the classes that the clause takes -/
def sTry (cs : List Str) (i j : Nat) (body : Sta) : Sta := fun env => match body env with
  | .ex c env' => if cs.contains c && decide (i ≠ j) then (match env'[i]? with
    | some .un => (match setS env' j (.exc c) with
      | some env2 => .ok .nx env2
      | none => .no)
    | _ => .no) else .no
  | r => r
theorem setS_at {env env' : Env} {i j : Nat} {d : D} (h : setS env j d = some env') (hi : env[i]? = some .un) (ne : i ≠ j) : env'[i]? = some .un := by
  unfold setS at h
  split at h
  · cases h
    rw [List.getElem?_set_ne (Ne.symm ne)]
    exact hi
  · cases h
    rw [List.getElem?_set_ne (Ne.symm ne)]
    exact hi
  · cases h
theorem t_Try {K : PySem.W.Frag} {mg : Mg} {W : WX} {c : Value} {i j : Nat} {cs : List Str} {body : Sta} {D : Ends} {σ : L2.St} {H : Hp} (hcs : ∀ x ∈ cs, ∀ cv, mg x = some cv → PySem.W.exmOne K cv c = some true) (h : tS K mg W (sTry cs i j body) D σ H) :
    tS K mg (wHeld K c i j W D) body D σ H := by
  obtain ⟨env, F, S, R, T, sm, h⟩ := h
  refine ⟨env, F, S, R, T, sm, ?_⟩
  unfold sTry at h
  cases e : body env with
  | ok t en =>
    rw [e] at h
    cases t <;> exact h
  | no => rw [e] at h; exact h.elim
  | ex x en =>
    rw [e] at h
    dsimp only at h
    by_cases hx : (cs.contains x && decide (i ≠ j)) = true
    · rw [if_pos hx] at h
      rw [Bool.and_eq_true] at hx
      have hne : i ≠ j := of_decide_eq_true hx.2
      have hm : x ∈ cs := by simpa using hx.1
      split at h
      · rename_i hi
        cases es : setS en j (.exc x) with
        | none => rw [es] at h; exact h.elim
        | some en2 =>
          rw [es] at h
          intro cv σ' F' H' S' sm' go' hcv
          refine ⟨true, hcs x hm cv hcv, fun _ => ⟨rfl, fun a na => ?_⟩, fun z => by cases z⟩
          have st : Step F' H' (upd F' a (ExH cv a)) (upd H' a (ExH cv a)) [] := Step.fro sm'.fz na
          have s1 := st.sm (sm'.blank hi (some (.ref a)))
          have rp : Rp K mg (upd F' a (ExH cv a)) (At (upd H' a (ExH cv a))) (.exc x) (.ref a) [] := .exc hcv (by rw [upd_same])
          obtain ⟨S3, s3, hs⟩ := setS_ok (U := []) (by simpa using s1) rp es
          have s4 := s3.blank (setS_at es hi hne) none
          refine h _ _ _ S3 s4 (((show Go F H S F' H' (S' ++ []) by rw [List.append_nil]; exact go').trans (U1 := []) (by simpa using (st.go (S := S')))).weak fun b hb => ?_)
          rcases hs b hb with z | z
          · simpa using z
          · simp at z
      · exact h.elim
    · rw [if_neg hx] at h
      exact h.elim
section
variable {X : Cx} {W : WX} {x n m : Str} {c : Value} {body : List Stmt} {np pos pos' p1 p2 p3 : Pos} {mb : Sta}
theorem js_try (cs : List Str) (i j : Nat) (hs : X.stack = X.env :: X.outer) (hex : X.ex = []) (hf : X.env.frame = some X.env.locals) (hN : X.N.Nodup) (hc : Names X x c) (tk : Takes X W) (hcs : ∀ x ∈ cs, ∀ cv, X.mg x = some cv → PySem.W.exmOne X.K cv c = some true)
    (hb : ∀ (W : WX) (pn : List (Addr × Obj)) (xe : Value → Shared → Prop), Takes (X.tr pn xe) W → PassesOwn (model X.prog X.w) X.A X.env xe → JB (X.tr pn xe) W body mb)
    (hsu : ∀ (a : Addr) (pn : List (Addr × Obj)), PS (X.suite a pn) (.Assign [.Name m p1] (.Name n p2) p3) (tAsg (tVar i) (gName j)))
    (hi : X.N[i]? = some n := by rfl) (hj : X.N[j]? = some m := by rfl) (hln : X.env.kindOf n = some .local := by rfl) (hlm : X.env.kindOf m = some .local := by rfl) :
    JS X W (.Try body [.ExceptHandler (some (.Name x np)) (some n) [.Assign [.Name m p1] (.Name n p2) p3] pos'] [] [] pos) (sTry cs i j mb) :=
  js_of (ps_try_held (i := i) (j := j) (c := c) (Wout := W) (tb := fun W => tS X.K X.mg W mb) hs hex hf hN hi hj hln hlm hc tk (fun W pn xe tk' pa => hb W pn xe tk' pa) hsu) fun _ _ _ h => t_Try hcs h
end
end DL
/-! DLzk: isinstance of an exception that is held. -/
namespace DL
open PySem PySem.Spec PyProof.Rows L2
def isC (c C : Str) : Bool := C == c || C == "PlaceError"
/-- the classes: raised ones, asked ones -/
structure ExF (K : PySem.W.Frag) (mg : Mg) (cs cls : List Str) : Prop where
  one : ∀ c ∈ cs, ∃ D, mg c = some (.ref D) ∧ ExcC K D ∧ PySem.W.kitOne K (.ref D) (.type "ValueError") = some true
  two : ∀ c ∈ cs, ∀ C ∈ cls, ∀ D E, mg c = some (.ref D) → mg C = some (.ref E) → PySem.W.kitOne K (.ref D) (.ref E) = some (isC c C)
  non : ∀ C ∈ cls, ∀ E, mg C = some (.ref E) → PySem.W.kitOne K (.type "NoneType") (.ref E) = some false
/-- isinstance(e, c), e held; isinstance(e, (c, ..)); isinstance(None, c) -/
def rIsX (K : PySem.W.Frag) : List V → Hp → VK → Prop := fun xs H Q => ∃ (a D : Addr) (c : V) (cv : Value) (b : Bool), xs = [.ref a, c] ∧ Rd H a (ExH (.ref D) a) ∧ ExcC K D ∧ ClsV c cv ∧ PySem.W.kitOne K (.ref D) cv = some b ∧ Q (.bl b) H
def rIsXT (K : PySem.W.Frag) : List V → Hp → VK → Prop := fun xs H Q => ∃ (a D tp : Addr) (cs : List V) (us : List Value) (b : Bool), xs = [.ref a, .ref tp] ∧ Rd H a (ExH (.ref D) a) ∧ ExcC K D ∧ H tp = some (.tup cs) ∧ Paired ClsV cs us ∧ PySem.W.kitAny K (.ref D) us = some b ∧ Q (.bl b) H
theorem exh_at {X : Cx} {pins : List (Addr × Obj)} {σ : L2.St} {H : Hp} {s : Shared} (I : Inv X pins σ H s) {a D : Addr} (h : Rd H a (ExH (.ref D) a)) : ∃ oe, PySem.W.InstAt s.heap a oe D none := by
  have fin : (∃ (oe : Obj) (vs : Array Value), s.heap.get? a = some oe ∧ Zc (.ref D) none oe ∧ oe.data = .fields vs) → ∃ oe, PySem.W.InstAt s.heap a oe D none := fun ⟨oe, vs, h1, h2, h3⟩ => by
    refine ⟨oe, ?_⟩
    obtain ⟨oc, od, oda, osl⟩ := oe
    obtain ⟨z1, z2⟩ := h2
    dsimp only at z1 z2 h3
    subst z1 z2 h3
    exact ⟨h1, rfl, rfl, trivial⟩
  rcases h with h | ⟨ob, h⟩
  · exact fin (I.hok a _ h).1
  · exact fin (I.hok a _ h).2.1
theorem call_isX {X : Cx} : CallR X (.builtin "isinstance") (rIsX X.K) := by
  intro pins s σ H xs us Q I r h
  obtain ⟨a, D, c, cv, b, rfl, ha, C, kc, e, q⟩ := h
  obtain ⟨u1, u2, rfl, r1, r2⟩ := vals2 r
  have e2 := kc.eq r2
  subst e2
  cases r1
  obtain ⟨oe, J⟩ := exh_at I ha
  exact PySem.W.kia_one (PySem.W.handS_kitx_exc C.hg C.hk C.hs C.hd C.ha C.hn C.ht C.hm) I.kIn J e (fun z => nomatch z) fun tk => ⟨.bl b, H, I.tok tk, rfl, q⟩
theorem call_isXT {X : Cx} : CallR X (.builtin "isinstance") (rIsXT X.K) := by
  intro pins s σ H xs us Q I r h
  obtain ⟨a, D, tp, cs, ws, b, rfl, ha, C, hT, kc, e, q⟩ := h
  obtain ⟨u1, u2, rfl, r1, r2⟩ := vals2 r
  cases r1
  cases (show u2 = Value.ref tp from r2)
  obtain ⟨oe, J⟩ := exh_at I ha
  obtain ⟨_, its, rv, o, h1, h2, n, h3⟩ := (show ObjOk X.prog X.w H s.heap tp (.tup cs) from I.hok tp _ hT)
  have e3 := ClsV.all kc rv
  subst e3
  obtain ⟨oc, od, dt, sl⟩ := o
  simp only at h2 h3
  subst h2 h3
  exact PySem.W.kia_tup (PySem.W.handS_kitx_exc C.hg C.hk C.hs C.hd C.ha C.hn C.ht C.hm) I.kIn J h1 e (fun z => nomatch z) fun tk => ⟨.bl b, H, I.tok tk, rfl, q⟩
def rIsA (K : PySem.W.Frag) : List V → Hp → VK → Prop := fun xs H Q => (rIsX K xs H Q ∨ rIsXT K xs H Q) ∨ (rIsi K xs H Q ∨ rIsiT K xs H Q)
theorem call_isXA {X : Cx} : CallR X (.builtin "isinstance") (rIsA X.K) := CallR.or (CallR.or call_isX call_isXT) call_isiA
def glsD : List D → Option (List Str)
  | [] => some []
  | .gl n :: r => (glsD r).map fun ns => n :: ns
  | _ => none
/-- isinstance, where a held exception may be asked -/
def gIsX (cs cls : List Str) : List D → Option D
  | [.exc c, .gl C] => if cs.contains c && cls.contains C then some (.bl (isC c C)) else none
  | [.exc c, .ty n] => if cs.contains c && (n == "ValueError") then some (.bl true) else none
  | [.exc c, .tup ds] => (glsD ds).bind fun ns => if cs.contains c && ns.all (cls.contains ·) then some (.bl (ns.any (isC c))) else none
  | [.non, .gl C] => if cls.contains C then some (.bl false) else none
  | [.non, .tup ds] => match glsD ds with
    | some ns => if ns.all (cls.contains ·) then some (.bl false) else none
    | none => gIsiA [.non, .tup ds]
  | ds => gIsiA ds
section
variable {K : PySem.W.Frag} {mg : Mg} {cs cls : List Str}
theorem gls_cls {F : Hp} {A : Addr → HO → Prop} : ∀ {ds : List D} {ns : List Str} {vs : List V} {S : List Addr}, glsD ds = some ns → Rps K mg F A ds vs S → ∃ Es : List Addr, vs = Es.map V.ref ∧ Paired (fun n E => mg n = some (.ref E)) ns Es
  | [], ns, vs, S, e, r => by
    cases e; cases r
    exact ⟨[], rfl, .nil⟩
  | c :: ds, ns, vs, S, e, r => by
    cases r with
    | cons r1 r2 =>
      cases c with
      | gl n =>
        have e' : (glsD ds).map (fun ns => n :: ns) = some ns := e
        cases q : glsD ds with
        | none => rw [q] at e'; cases e'
        | some ms =>
          rw [q] at e'
          cases e'
          cases r1
          rename_i E hE
          obtain ⟨Es, h1, h2⟩ := gls_cls q r2
          exact ⟨E :: Es, by rw [h1]; rfl, .cons hE h2⟩
      | _ => cases e
theorem cls_refs : ∀ (Es : List Addr), Paired ClsV (Es.map V.ref) (Es.map Value.ref)
  | [] => .nil
  | E :: Es => .cons (.own E) (cls_refs Es)
theorem any_exc {t : Value} {f : Str → Bool} : ∀ {ns : List Str} {Es : List Addr}, Paired (fun n E => mg n = some (.ref E)) ns Es → (∀ n ∈ ns, ∀ E, mg n = some (.ref E) → PySem.W.kitOne K t (.ref E) = some (f n)) → PySem.W.kitAny K t (Es.map Value.ref) = some (ns.any f)
  | _, _, .nil, _ => rfl
  | n :: ns, E :: Es, .cons h hs, k => by
    rw [List.map_cons, PySem.W.kitAny, k n List.mem_cons_self E h, List.any_cons]
    cases e : f n with
    | true => rfl
    | false =>
      rw [Bool.false_or]
      exact any_exc hs fun m hm => k m (List.mem_cons_of_mem _ hm)
theorem any_ff {ns : List Str} : (ns.any fun _ => false) = false := by induction ns <;> simp_all
theorem exc_rb {F H : Hp} {c : Str} {v : V} {D : Addr} (fz : FzOk F H) (r : Rb K mg F H (.exc c) v) (hm : mg c = some (.ref D)) : ∃ a, v = .ref a ∧ Rd H a (ExH (.ref D) a) := by
  obtain ⟨S, h⟩ := r
  cases h with
  | exc h1 h2 =>
    rename_i a cv
    rw [hm] at h1
    cases h1
    exact ⟨a, rfl, (fz.ok a _ h2).rd⟩
theorem snd_isX (E : ExF K mg cs cls) : SndN K mg (rIsA K) (gIsX cs cls) := by
  intro F H ds vs d' Q fz rs e k
  unfold gIsX at e
  split at e
  · rename_i c C
    split at e
    · rename_i hc
      cases e
      rw [Bool.and_eq_true] at hc
      obtain ⟨v, v2, rfl, r, r2⟩ := rs.two
      have mc : c ∈ cs := by simpa using hc.1
      have mC : C ∈ cls := by simpa using hc.2
      obtain ⟨D, hD, xD, _⟩ := E.one c mc
      obtain ⟨a, rfl, ha⟩ := exc_rb fz r hD
      obtain ⟨S2, h2⟩ := r2
      cases h2 with
      | gl hg =>
        rename_i E1
        exact .inl (.inl ⟨a, D, _, _, _, rfl, ha, xD, .own E1, E.two c mc C mC D E1 hD hg, k _ F H [] (Step.pure fz) (.bl _)⟩)
    · cases e
  · rename_i c n
    split at e
    · rename_i hc
      cases e
      rw [Bool.and_eq_true] at hc
      obtain ⟨v, v2, rfl, r, r2⟩ := rs.two
      have mc : c ∈ cs := by simpa using hc.1
      have hn : n = "ValueError" := by simpa using hc.2
      subst hn
      obtain ⟨D, hD, xD, xV⟩ := E.one c mc
      obtain ⟨a, rfl, ha⟩ := exc_rb fz r hD
      obtain ⟨S2, h2⟩ := r2
      cases h2
      exact .inl (.inl ⟨a, D, _, _, _, rfl, ha, xD, .ty _, xV, k _ F H [] (Step.pure fz) (.bl _)⟩)
    · cases e
  · rename_i c ds
    cases q : glsD ds with
    | none => rw [q] at e; cases e
    | some ns =>
      rw [q, Option.bind_some] at e
      split at e
      · rename_i hc
        cases e
        rw [Bool.and_eq_true] at hc
        obtain ⟨v, v2, rfl, r, r2⟩ := rs.two
        have mc : c ∈ cs := by simpa using hc.1
        obtain ⟨D, hD, xD, _⟩ := E.one c mc
        obtain ⟨a, rfl, ha⟩ := exc_rb fz r hD
        obtain ⟨tp, ws, S, rfl, f1, h1, h2⟩ := r2.tupF fz
        obtain ⟨Es, rfl, hp⟩ := gls_cls q h2
        exact .inl (.inr ⟨a, D, tp, _, _, _, rfl, ha, xD, f1.ex fz, cls_refs Es, any_exc hp fun n hn E' hE => E.two c mc n (by
          have := List.all_eq_true.mp hc.2 n hn
          simpa using this) D E' hD hE, k _ F H [] (Step.pure fz) (.bl _)⟩)
      · cases e
  · rename_i C
    split at e
    · rename_i hc
      cases e
      obtain ⟨v, v2, rfl, r, r2⟩ := rs.two
      have mC : C ∈ cls := by simpa using hc
      obtain ⟨S, h⟩ := r
      cases h
      obtain ⟨S2, h2⟩ := r2
      cases h2 with
      | gl hg =>
        rename_i E1
        exact .inr (.inl ⟨.non, _, _, _, _, rfl, .own E1, .base .non, E.non C mC E1 hg, k _ F H [] (Step.pure fz) (.bl _)⟩)
    · cases e
  · rename_i ds
    split at e
    · rename_i ns q
      split at e
      · rename_i hc
        cases e
        obtain ⟨v, v2, rfl, r, r2⟩ := rs.two
        obtain ⟨S, h⟩ := r
        cases h
        obtain ⟨tp, ws, S, rfl, f1, h1, h2⟩ := r2.tupF fz
        obtain ⟨Es, rfl, hp⟩ := gls_cls q h2
        refine .inr (.inr ⟨.non, tp, _, _, _, false, rfl, f1.ex fz, cls_refs Es, .base .non, ?_, k _ F H [] (Step.pure fz) (.bl _)⟩)
        have := any_exc (K := K) (t := .type "NoneType") (f := fun _ => false) hp fun n hn E' hE => E.non n (by
          have := List.all_eq_true.mp hc n hn
          simpa using this) E' hE
        rw [any_ff] at this
        exact this
      · cases e
    · exact .inr (snd_isiA F H _ vs d' Q fz rs e k)
  · exact .inr (snd_isiA F H _ vs d' Q fz rs e k)
end
end DL
/-! DLzl: plain lemmas, more. -/
namespace DL
open PySem PySem.Spec PyProof.Rows L2
theorem gSortA_at {m : Bool} {p : List Int} : gSortA [.lst m (lI p)] = some (.lst true (lI (srtI p))) := by
  simp only [gSortA, intsD_lI]
  exact gSortI_at
theorem inD_lI (x : Int) (row : List Int) : inD (.int x) (lI row) = some (row.any fun z => decide (z = x)) := by
  unfold inD
  rw [toPyL_lI]
  have h1 : toPy (.int x) = some (.int x) := rfl
  have h2 : SeqAt.shaped (.int x) = true := by simp [SeqAt.shaped, PyData.canLay0, PyData.depth]
  rw [h1, Option.bind_some, Option.bind_some, shaped_list, h2]
  simp only [Bool.and_self, if_true, List.any_map]
  congr 1
theorem gNotIn_at (m : Bool) (x : Int) (row : List Int) : gNotIn (.int x) (.lst m (lI row)) = some (.bl (!row.any fun z => decide (z = x))) := by
  rw [gNotIn, inD_lI]
  rfl
theorem gNotI_at (m : Bool) (x : Int) (row : List Int) : gNotIn (.int x) (.lst m (lI row)) = some (.bl (!decide (x ∈ row))) := by
  have e : (row.any fun z => decide (z = x)) = decide (x ∈ row) := by
    induction row with
    | nil => rfl
    | cons y r ih =>
      rw [List.any_cons, ih]
      by_cases h : y = x
      · subst h; simp
      · rw [decide_eq_false h, Bool.false_or]
        exact decide_eq_decide.mpr ⟨fun z => List.mem_cons_of_mem _ z, fun z => (List.mem_cons.mp z).elim (fun e => absurd e.symm h) id⟩
  rw [← e]
  exact gNotIn_at m x row
theorem gIx_D {m : Bool} {ds : List D} {g : Nat} {d : D} (hx : ds[g]? = some d) (hc : d.cl = true) : gIx (.lst m ds) (.int (g : Int)) = some d := by
  have hg : g < ds.length := (List.getElem?_eq_some_iff.mp hx).1
  rw [gIx, atI, ixN_at (by omega) (by omega), Option.bind_some, Int.toNat_natCast, hx, Option.bind_some, clO, if_pos hc]
theorem gIx_last {m : Bool} {ds : List D} {n : Nat} {d : D} (hl : ds.length = n + 1) (hx : ds[n]? = some d) (hc : d.cl = true) : gIx (.lst m ds) (.int (-1)) = some d := by
  have h1 : ixN ds.length (-1) = some n := by
    rw [hl, ixN, if_neg (by omega), if_pos (by omega)]
    congr 1
    omega
  rw [gIx, atI, h1, Option.bind_some, hx, Option.bind_some, clO, if_pos hc]
theorem gAddI_at {x y : Int} : gAddI (.int x) (.int y) = some (.int (x + y)) := rfl
theorem putI_at {env : Env} {i : Nat} {k x : Int} {q : List Int} (e : env[i]? = some (.sl .O (.lst true (lI q)))) (h1 : 0 ≤ k) (h2 : k < q.length) : putI env i k (.int x) = .ok () (env.set i (.sl .O (.lst true (lI (q.set k.toNat x))))) := by
  unfold putI
  rw [e]
  dsimp only
  rw [if_neg (by simp), ixN_at h1 (by rw [lI_len]; exact h2)]
  dsimp only
  rw [set_lI]
theorem clL_nat {l : Nat} : ∀ (ds : List D), (∀ d ∈ ds, ∃ j : Nat, d = .int j ∧ j < l) → clL ds = true
  | [], _ => rfl
  | d :: ds, h => by
    obtain ⟨j, rfl, _⟩ := h d List.mem_cons_self
    show (true && clL ds) = true
    rw [clL_nat ds fun x hx => h x (List.mem_cons_of_mem _ hx)]
    rfl
theorem clL_app (a b : List D) (h1 : clL a = true) (h2 : clL b = true) : clL (a ++ b) = true := by
  induction a with
  | nil => exact h2
  | cons x a ih =>
    rw [clL, Bool.and_eq_true] at h1
    rw [List.cons_append, clL, h1.1, ih h1.2]
    rfl
theorem forL_brk {tg : Tgt} {body : Sta} {d : D} {r : List D} {env en en2 : Env} (h1 : asg tg env d = some en) (h2 : body en = .ok .bk en2) : forL tg body (d :: r) env = .ok .nx en2 := by
  simp [forL, h1, h2, Res.bind]
theorem gEq_str (x : Str) (h : PyData.strOk x = true := by decide +kernel) : gEq (.str x) (.str x) = some (.bl true) := by
  simp [gEq, eqD, toPy, SeqAt.shaped, PyData.canLay0, PyData.depth, PyData.eqv, h]
end DL
/-! DLzm: < of lists of whole numbers. -/
namespace DL
open PySem PySem.Spec PyProof.Rows L2
def ltI : List Int → List Int → Bool
  | [], [] => false
  | [], _ :: _ => true
  | _ :: _, [] => false
  | x :: xs, y :: ys => if x = y then ltI xs ys else decide (x < y)
def gLtA : D → D → Option D
  | .lst _ a, .lst _ b => (intsD a).bind fun xs => (intsD b).map fun ys => .bl (ltI xs ys)
  | x, y => gLt x y
def rLtD (K : PySem.W.Frag) : R2 := fun x y H Q => ∃ d e, Dp K H x d ∧ Dp K H y e ∧ PySem.W.alike d e = true ∧ d ≠ .none ∧ min d.depth e.depth ≤ 60 ∧ Q (.bl (PySem.W.dataLt d e)) H
theorem op_ltD {X : Cx} (hu : X.A.units + 65 < cLine) : OpR X (compareOp .Lt) (rLtD X.K) := by
  intro pins s σ H x y v u Q I rx ry h
  obtain ⟨d, e, hd, he, sd, se, sz, q⟩ := h
  obtain ⟨as, r1⟩ := Dp.reads I d x v hd rx
  obtain ⟨bs, r2⟩ := Dp.reads I e y u he ry
  exact PySem.W.lt_data r1 r2 sd se (by omega) ⟨.bl _, H, I, rfl, q⟩
theorem alike_ints : ∀ xs ys : List Int, PySem.W.alikeAll (xs.map PyData.int) (ys.map PyData.int) = true
  | [], ys => by rw [List.map_nil, PySem.W.alikeAll]
  | x :: xs, [] => by rw [List.map_cons, List.map_nil, PySem.W.alikeAll]
  | x :: xs, y :: ys => by rw [List.map_cons, List.map_cons, PySem.W.alikeAll, alike_ints xs ys, PySem.W.alike]; rfl
theorem dataLt_ints : ∀ xs ys : List Int, PyProof.Rows.lexLt itemOrd (PySem.W.keyToksAll (xs.map PyData.int)) (PySem.W.keyToksAll (ys.map PyData.int)) = ltI xs ys
  | [], [] => rfl
  | [], y :: ys => by
    rw [List.map_nil, List.map_cons, PySem.W.toks_all_cons]
    rfl
  | x :: xs, [] => by
    rw [List.map_nil, List.map_cons, PySem.W.toks_all_cons]
    rfl
  | x :: xs, y :: ys => by
    rw [List.map_cons, List.map_cons, ltI]
    by_cases h : x = y
    · subst h
      rw [if_pos rfl, PySem.W.dataLt_all_yes (by rfl) (by simp [PyData.eqv]), dataLt_ints xs ys]
    · rw [if_neg h, PySem.W.dataLt_all_no (by rfl) (by simp [PyData.eqv, h]), PySem.W.dataLt_int]
def rLt1 (K : PySem.W.Frag) : R2 := fun x y H Q => rLtD K x y H Q ∨ rI0 (fun i j => .bl (decide (i < j))) x y H Q
theorem op_ltA {X : Cx} (hu : X.A.units + 65 < cLine) : OpR X (compareOp .Lt) (rLt1 X.K) := OpR.or (op_ltD hu) op_lt
theorem toPyL_ints : ∀ {ds : List D} {ns : List Int}, intsD ds = some ns → toPyL ds = some (ns.map PyData.int) := by
  intro ds
  induction ds with
  | nil => intro ns h; cases h; rfl
  | cons d ds ih =>
    intro ns h
    cases d with
    | int i =>
      rw [intsD] at h
      cases e : intsD ds with
      | none => rw [e] at h; cases h
      | some l =>
        rw [e] at h
        cases h
        rw [toPyL, ih e]
        rfl
    | _ => cases h
theorem snd_ltA {K : PySem.W.Frag} {mg : Mg} : Snd2 K mg (rLt1 K) gLtA := by
  intro F H d1 d2 v1 v2 d' Q fz r1 r2 e k
  unfold gLtA at e
  split at e
  · rename_i _ a _ b
    cases ea : intsD a with
    | none => rw [ea] at e; cases e
    | some xs =>
      cases eb : intsD b with
      | none => rw [ea, eb] at e; cases e
      | some ys =>
        rw [ea, eb] at e
        cases e
        obtain ⟨S1, h1⟩ := r1
        obtain ⟨S2, h2⟩ := r2
        refine .inl ⟨.list (xs.map .int), .list (ys.map .int), toPy_dp fz h1 (by rw [toPy, toPyL_ints ea]; rfl), toPy_dp fz h2 (by rw [toPy, toPyL_ints eb]; rfl), ?_, by simp, ?_, ?_⟩
        · rw [PySem.W.alike, alike_ints]
        · simp [PyData.depth, depth_ints]
        · rw [PySem.W.dataLt_list, dataLt_ints]
          exact k _ F H [] (Step.pure fz) (.bl _)
  · exact .inr (snd_lt F H d1 d2 v1 v2 d' Q fz r1 r2 e k)
theorem gLtA_at {m m' : Bool} {xs ys : List Int} : gLtA (.lst m (lI xs)) (.lst m' (lI ys)) = some (.bl (ltI xs ys)) := by
  simp only [gLtA, intsD_lI]
  rfl
end DL
/-! DLzn: texts: split, join, int(x), x in y, x[i:j], x * n, x or y. -/
namespace DL
open PySem PySem.Spec PyProof.Rows L2
def isS : D → Bool
  | .str _ => true
  | _ => false
/-- a text's method of one argument -/
def eM1 (g : D → D → Option D) (mo ma : Ex) : Ex := fun env => (mo env).bind fun t en => if (rd en t).any isS = true then (ma en).bind fun t2 en2 => opt en2 ((rd en2 t).bind fun d1 => (rd en2 t2).bind fun d2 => g d1 d2) else .no
section
variable {K : PySem.W.Frag} {mg : Mg} {W : WX} {mo ma : Ex} {σ : L2.St} {H : Hp} {Q : VK}
theorem t_M1 {r : V → List V → Hp → VK → Prop} {g : D → D → Option D} (snd : Snd2 K mg (fun x y H Q => r x [y] H Q) g) (h : tE K mg W (eM1 g mo ma) σ H Q) : tM1 r (tE K mg W mo) (tE K mg W ma) σ H Q := by
  obtain ⟨env, F, S, R, T, sm, h⟩ := h
  refine ⟨env, F, S, R, T, sm, (Cont.bind h).imp fun v1 H1 ⟨t1, env1, F1, S1, U1, sm1, go1, rt1, h1⟩ => ?_⟩
  by_cases hl : (rd env1 t1).any isS = true
  · rw [if_pos hl] at h1
    cases e : rd env1 t1 with
    | none => rw [e] at hl; cases hl
    | some d0 =>
      rw [e] at hl
      cases d0 with
      | str z =>
        have q0 := (rt1.rb sm1 e).str
        refine ⟨⟨z, q0⟩, env1, F1, S1, R, U1 ++ T, sm1, (h1.then go1).imp fun v2 H2 ⟨t2, env2, F2, S2, U2, sm2, go2, go12, rt2, h2⟩ => ?_⟩
        have rt1' := rt1.later sm1 go12
        cases ea : rd env2 t1 with
        | none => rw [ea] at h2; exact h2.elim
        | some d1 =>
          cases eb : rd env2 t2 with
          | none => rw [ea, eb] at h2; exact h2.elim
          | some d2 =>
            rw [ea, eb, Option.bind_some, Option.bind_some] at h2
            cases eg : g d1 d2 with
            | none => rw [eg] at h2; exact h2.elim
            | some d' =>
              rw [eg] at h2
              exact snd F2 H2 d1 d2 _ _ d' Q sm2.fz (rt1'.rb sm2 ea) (rt2.rb sm2 eb) eg fun v' F' H' U st rp => h2.done0 sm2 go2 st rp
      | _ => cases hl
  · rw [if_neg hl] at h1
    exact h1.elim
end
def rSpl : V → List V → Hp → VK → Prop := fun x xs H Q => ∃ a b, x = .str a ∧ xs = [.str b] ∧ (b.length == 0) = false ∧ a.length + 2 ≤ sizeLine ∧ rNewStrs (Txt.split a b) H Q
def rJoi (K : PySem.W.Frag) : V → List V → Hp → VK → Prop := fun x xs H Q => ∃ a p, ∃ ys : List Str, x = .str a ∧ xs = [.ref p] ∧ (SqL K H p (ys.map V.str) ∨ SqT K H p (ys.map V.str)) ∧
    (ys.map (·.length)).sum + ys.length * a.length ≤ 16777216 ∧ Q (.str (Txt.join a ys)) H
def strsD : List D → Option (List Str)
  | [] => some []
  | .str x :: r => (strsD r).map (x :: ·)
  | _ => none
def gSplit : D → D → Option D
  | .str a, .str b => if b.length ≠ 0 ∧ a.length + 2 ≤ 16777216 then some (.lst true ((Txt.split a b).map D.str)) else none
  | _, _ => none
def gJoin : D → D → Option D
  | .str a, .lst _ l => (strsD l).bind fun ys => if (ys.map (·.length)).sum + ys.length * a.length ≤ 16777216 then some (.str (Txt.join a ys)) else none
  | _, _ => none
section
variable {K : PySem.W.Frag} {mg : Mg} {F H : Hp} {A : Addr → HO → Prop}
theorem strs_rps : ∀ ys : List Str, Rps K mg F A (ys.map D.str) (ys.map V.str) []
  | [] => .nil
  | y :: ys => .cons (S := []) (T := []) (.str y) (strs_rps ys)
theorem strs_vs : ∀ {ds : List D} {vs : List V} {S : List Addr} {ys : List Str}, Rps K mg F A ds vs S → strsD ds = some ys → vs = ys.map V.str
  | [], _, _, _, h, e => by
    cases h
    cases e
    rfl
  | d :: ds, _, _, _, h, e => by
    cases h with
    | cons h1 h2 =>
      cases d with
      | str x =>
        rw [strsD] at e
        cases el : strsD ds with
        | none => rw [el] at e; cases e
        | some l =>
          rw [el] at e
          cases e
          rw [strs_vs h2 el]
          cases h1
          rfl
      | _ => cases e
theorem snd_split : Snd2 K mg (fun x y H Q => rSpl x [y] H Q) gSplit := by
  intro F H d1 d2 v1 v2 d' Q fz r1 r2 e k
  unfold gSplit at e
  split at e
  · split at e
    · rename_i a b hc
      cases e
      rw [r1.str, r2.str]
      refine ⟨a, b, rfl, rfl, by simpa using hc.1, by rw [sz]; exact hc.2, fun p hp => k _ F _ [p] (Step.own fz hp) (new_lst (strs_rps _))⟩
    · cases e
  · cases e
theorem snd_join : Snd2 K mg (fun x y H Q => rJoi K x [y] H Q) gJoin := by
  intro F H d1 d2 v1 v2 d' Q fz r1 r2 e k
  unfold gJoin at e
  split at e
  · rename_i a m l
    cases el : strsD l with
    | none => rw [el] at e; cases e
    | some ys =>
      rw [el, Option.bind_some] at e
      split at e
      · rename_i hc
        cases e
        rw [r1.str]
        obtain ⟨p, vs, S, rfl, h1, h2⟩ := r2.lst fz
        have ev := strs_vs h2 el
        subst ev
        exact ⟨a, p, ys, rfl, rfl, .inl h1.sq, hc, k _ F H [] (Step.pure fz) (.str _)⟩
      · cases e
  · cases e
end
section
variable {X : Cx} {W : WX} {o e : Expr} {apos pos : Pos} {mo ma : Ex}
theorem je_split (ho : JE X W o mo) (he : JE X W e ma) (hs : starEach [e] X.env = [(false, eval e X.env)] := by rfl) (hbase : attributeBase o "split" X.env (eval o X.env) = eval o X.env := by rfl) (hline : (apos.endLine == pos.line) = true := by rfl) :
    JE X W (.Call (.Attribute o "split" apos) [e] [] pos) (eM1 gSplit mo ma) :=
  je_of (pe_m1 (r := rSpl) F.slot_str_split F.type_str_split mt_split ho he hs hbase hline) fun _ _ _ h => t_M1 snd_split h
theorem je_join (ho : JE X W o mo) (he : JE X W e ma) (hs : starEach [e] X.env = [(false, eval e X.env)] := by rfl) (hbase : attributeBase o "join" X.env (eval o X.env) = eval o X.env := by rfl) (hline : (apos.endLine == pos.line) = true := by rfl) :
    JE X W (.Call (.Attribute o "join" apos) [e] [] pos) (eM1 gJoin mo ma) :=
  je_of (pe_m1 (r := rJoi X.K) F.slot_str_join F.type_str_join mt_join ho he hs hbase hline) fun _ _ _ h => t_M1 snd_join h
end
/-! ### int(text) -/
def gIntT : List D → Option D
  | [.str a] => (PySem.intText? a).bind fun n => if a.length ≤ 640 then some (.int n) else none
  | _ => none
theorem snd_intT {K : PySem.W.Frag} {mg : Mg} : SndN K mg (fun xs H Q => ∃ a n, xs = [V.str a] ∧ PySem.intText? a = some n ∧ a.length ≤ 640 ∧ Q (.int n) H) gIntT := by
  intro F H ds vs d' Q fz rs e k
  unfold gIntT at e
  split at e
  · rename_i a
    cases en : PySem.intText? a with
    | none => rw [en] at e; cases e
    | some n =>
      rw [en, Option.bind_some] at e
      split at e
      · rename_i hl
        cases e
        obtain ⟨v, rfl, r1⟩ := rs.one
        rw [r1.str]
        exact ⟨a, n, rfl, en, hl, k _ F H [] (Step.pure fz) (.int _)⟩
      · cases e
  · cases e
/-! ### x in y -/
def occS (i j : Str) : Bool := !(Builtin.Str.occurrences j i 0 j.length 1).isEmpty
def gInS : D → D → Option D
  | .str i, .str j => some (.bl (occS i j))
  | _, _ => none
def gNotInS : D → D → Option D
  | .str i, .str j => some (.bl (!occS i j))
  | _, _ => none
theorem snd_inS {K : PySem.W.Frag} {mg : Mg} : Snd2 K mg (fun x y H Q => ∃ i j, x = V.str i ∧ y = V.str j ∧ Q (.bl (!(Builtin.Str.occurrences j i 0 j.length 1).isEmpty)) H) gInS := by
  intro F H d1 d2 v1 v2 d' Q fz r1 r2 e k
  unfold gInS at e
  split at e
  · cases e
    rw [r1.str, r2.str]
    exact ⟨_, _, rfl, rfl, k _ F H [] (Step.pure fz) (.bl _)⟩
  · cases e
theorem snd_notInS {K : PySem.W.Frag} {mg : Mg} : Snd2 K mg (fun x y H Q => ∃ i j, x = V.str i ∧ y = V.str j ∧ Q (.bl (!(!(Builtin.Str.occurrences j i 0 j.length 1).isEmpty))) H) gNotInS := by
  intro F H d1 d2 v1 v2 d' Q fz r1 r2 e k
  unfold gNotInS at e
  split at e
  · cases e
    rw [r1.str, r2.str]
    exact ⟨_, _, rfl, rfl, k _ F H [] (Step.pure fz) (.bl _)⟩
  · cases e
/-! ### x[i:j] -/
def gSlS : D → Option Int → Option Int → Option D
  | .str z, lo, hi => if z.length ≤ 16777216 then some (.str (cutS z lo hi)) else none
  | _, _, _ => none
def eSlS (m : Ex) (ml mh : Option Ex) : Ex := fun env => (m env).bind fun t en => (evO ml en).bind fun lo en1 => (evO mh en1).bind fun hi en2 => opt en2 ((rd en2 t).bind fun d => gSlS d lo hi)
section
variable {K : PySem.W.Frag} {mg : Mg} {W : WX} {σ : L2.St} {F H : Hp}
theorem snd_slS {d : D} {v : V} {lo hi : Option Int} {d' : D} {Q : VK} (fz : FzOk F H) (r : Rb K mg F H d v) (e : gSlS d lo hi = some d') (k : ∀ v' F' H' U, Step F H F' H' U → Rp K mg F' (At H') d' v' U → Q v' H') : rSlS v lo hi H Q := by
  unfold gSlS at e
  split at e
  · split at e
    · rename_i hc
      cases e
      rw [r.str]
      exact ⟨_, rfl, by rw [sz]; exact hc, k _ F H [] (Step.pure fz) (.str _)⟩
    · cases e
  · cases e
theorem t_SlS {m : Ex} {ml mh : Option Ex} {Q : VK} (h : tE K mg W (eSlS m ml mh) σ H Q) : tSl rSlS (tE K mg W m) (tOO K mg W ml) (tOO K mg W mh) σ H Q := by
  obtain ⟨env, F, S, R, T, sm, h⟩ := h
  refine ⟨env, F, S, R, T, sm, (Cont.bind h).imp fun v1 H1 ⟨t1, env1, F1, S1, U1, sm1, go1, rt1, h1⟩ => ?_⟩
  refine ⟨env1, F1, S1, R, U1 ++ T, sm1, (h1.then (Rl := ROI) go1).imp fun lo H2 ⟨t2, env2, F2, S2, U2, sm2, go2, go12, rt2, h2⟩ => ?_⟩
  obtain ⟨rfl, rfl⟩ := rt2
  rw [List.nil_append] at sm2 go2
  refine ⟨env2, F2, S2, R, U1 ++ T, sm2, (h2.then (Rl := ROI) go2).imp fun hi H3 ⟨t3, env3, F3, S3, U3, sm3, go3, go23, rt3, h3⟩ => ?_⟩
  obtain ⟨rfl, rfl⟩ := rt3
  rw [List.nil_append] at sm3 go3
  have rt1' := (rt1.later sm1 go12).later sm2 go23
  cases e : rd env3 t1 with
  | none => rw [e] at h3; exact h3.elim
  | some d =>
    rw [e, Option.bind_some] at h3
    cases eg : gSlS d t2 t3 with
    | none => rw [eg] at h3; exact h3.elim
    | some d' =>
      rw [eg] at h3
      exact snd_slS sm3.fz (rt1'.rb sm3 e) eg fun v' F' H' U st rp => h3.done0 sm3 go3 st rp
end
theorem je_slS {X : Cx} {W : WX} {e : Expr} {lo hi : Option Expr} {pos p2 : Pos} {m : Ex} {ml mh : Option Ex} (he : JE X W e m) (hl : JO X W lo ml) (hh : JO X W hi mh) : JE X W (.Subscript e (.Slice lo hi none p2) pos) (eSlS m ml mh) :=
  je_of (pe_slice (r := rSlS) sl_str he hl hh) fun _ _ _ h => t_SlS h
/-! ### x * n, of none and one -/
def gMulS : D → D → Option D
  | .str x, .int n => if n = 0 then some (.str Str.empty) else if n = 1 then some (.str x) else none
  | _, _ => none
def rMulS : R2 := fun x y H Q => ∃ z n, x = V.str z ∧ y = V.int n ∧ ((n = 0 ∧ Q (.str Str.empty) H) ∨ (n = 1 ∧ Q (.str z) H))
theorem op_mulS {X : Cx} : OpR X (binaryOp .Mult) rMulS := by
  intro pins s σ H x y v u Q I rx ry h
  obtain ⟨z, n, rfl, rfl, h⟩ := h
  obtain ⟨t, rfl⟩ := rx
  obtain ⟨t', rfl⟩ := ry
  rcases h with ⟨rfl, q⟩ | ⟨rfl, q⟩
  · exact PySem.P.mul_str_none (by omega) (by omega) ⟨.str _, H, I.tok _, ⟨_, rfl⟩, q⟩
  · refine PySem.P.mul_str (by decide) (fun _ e => by cases e) (fun _ e => by cases e) ?_
    show (Made.val (.str z t)).post _ s
    exact ⟨.str _, H, I, ⟨_, rfl⟩, q⟩
theorem snd_mulS {K : PySem.W.Frag} {mg : Mg} : Snd2 K mg rMulS gMulS := by
  intro F H d1 d2 v1 v2 d' Q fz r1 r2 e k
  unfold gMulS at e
  split at e
  · rw [r1.str, r2.int]
    split at e
    · rename_i h
      cases e
      exact ⟨_, _, rfl, rfl, .inl ⟨h, k _ F H [] (Step.pure fz) (.str _)⟩⟩
    · split at e
      · rename_i h
        cases e
        exact ⟨_, _, rfl, rfl, .inr ⟨h, k _ F H [] (Step.pure fz) (.str _)⟩⟩
      · cases e
  · cases e
/-! ### x or y, x a text -/
def eOrS (ma mb : Ex) : Ex := fun env => (ma env).bind fun t en => match rd en t with
  | some (.str x) => if x.length ≤ 16777216 then (if x.length = 0 then mb en else .ok (.vl (.str x)) en) else .no
  | _ => .no
section
variable {K : PySem.W.Frag} {mg : Mg} {W : WX} {ma mb : Ex} {σ : L2.St} {H : Hp} {Q : VK}
theorem t_orS (h : tE K mg W (eOrS ma mb) σ H Q) : tOrT K (tE K mg W ma) (tE K mg W mb) σ H Q := by
  obtain ⟨env, F, S, R, T, sm, h⟩ := h
  refine ⟨env, F, S, R, T, sm, (Cont.bind h).imp fun v1 H1 ⟨t1, env1, F1, S1, U1, sm1, go1, rt1, h1⟩ => ?_⟩
  cases e : rd env1 t1 with
  | none => rw [e] at h1; exact h1.elim
  | some d =>
    rw [e] at h1
    cases d with
    | str x =>
      have q := (rt1.rb sm1 e).str
      subst q
      dsimp only at h1
      by_cases hz : x.length ≤ 16777216
      · rw [if_pos hz] at h1
        by_cases h0 : x.length = 0
        · rw [if_pos h0] at h1
          refine ⟨false, ⟨by rw [sz]; exact hz, by rw [h0]; rfl⟩, ?_⟩
          rw [if_neg Bool.false_ne_true]
          exact ⟨env1, F1, S1, R, U1 ++ T, sm1, h1.re go1⟩
        · rw [if_neg h0] at h1
          refine ⟨true, ⟨by rw [sz]; exact hz, ?_⟩, ?_⟩
          · have : (x.length : Int) ≠ 0 := by omega
            exact (bne_iff_ne.mpr this).symm
          · rw [if_pos rfl]
            exact (h1.re go1) (.str x) F1 H1 S1 [] sm1 Go.refl' (.str x)
      · rw [if_neg hz] at h1
        exact h1.elim
    | _ => exact h1.elim
end
theorem je_orS {X : Cx} {W : WX} {a b : Expr} {rest : List Expr} {pos : Pos} {ma mb : Ex} (ha : JE X W a ma) (hb : JE X W (.BoolOp .Or (b :: rest) pos) mb) : JE X W (.BoolOp .Or (a :: b :: rest) pos) (eOrS ma mb) := je_of (pe_orT ha hb) fun _ _ _ h => t_orS h
end DL
/-! DLzo: a tuple of texts that the module writes; x in it. -/
namespace DL
open PySem PySem.Spec PyProof.Rows L2
def gInW : D → D → Option D
  | .str x, .kt l => (strsD l).map fun ys => .bl (ys.any fun y => y == x)
  | _, _ => none
def gNotInW : D → D → Option D
  | .str x, .kt l => (strsD l).map fun ys => .bl (!ys.any fun y => y == x)
  | _, _ => none
theorem inV_strs (x : Str) (ys : List Str) : inV (.str x) (ys.map V.str) = ys.any fun y => y == x := by
  unfold inV
  rw [List.any_map]
  rfl
theorem flat_strV (ys : List Str) : (ys.map V.str).all flatV = true := by
  induction ys with
  | nil => rfl
  | cons y ys ih => rw [List.map_cons, List.all_cons, ih]; rfl
section
variable {K : PySem.W.Frag} {mg : Mg} {F H : Hp}
theorem Rb.ktS {ds : List D} {v : V} {ys : List Str} (r : Rb K mg F H (.kt ds) v) (e : strsD ds = some ys) : ∃ a, v = .ref a ∧ SqT K (fun _ => none) a (ys.map V.str) := by
  obtain ⟨S, h⟩ := r
  cases h with
  | kt h1 h2 =>
    have := strs_vs h2 e
    subst this
    exact ⟨_, rfl, h1⟩
theorem sqT_up {a : Addr} {xs : List V} (h : SqT K (fun _ => none) a xs) : SqT K H a xs := by
  rcases h with h | h
  · rcases h with h | ⟨o, h⟩ <;> cases h
  · exact .inr h
theorem snd_inW : Snd2 K mg (rIn K false) gInW := by
  intro F H d1 d2 v1 v2 d' Q fz r1 r2 e k
  unfold gInW at e
  split at e
  · rename_i x l
    cases el : strsD l with
    | none => rw [el] at e; cases e
    | some ys =>
      rw [el] at e
      cases e
      obtain ⟨a, rfl, h⟩ := r2.ktS el
      rw [r1.str]
      refine ⟨a, _, rfl, .inr (sqT_up h), rfl, flat_strV ys, ?_⟩
      rw [if_neg Bool.false_ne_true, inV_strs]
      exact k _ F H [] (Step.pure fz) (.bl _)
  · cases e
theorem snd_notInW : Snd2 K mg (rIn K true) gNotInW := by
  intro F H d1 d2 v1 v2 d' Q fz r1 r2 e k
  unfold gNotInW at e
  split at e
  · rename_i x l
    cases el : strsD l with
    | none => rw [el] at e; cases e
    | some ys =>
      rw [el] at e
      cases e
      obtain ⟨a, rfl, h⟩ := r2.ktS el
      rw [r1.str]
      refine ⟨a, _, rfl, .inr (sqT_up h), rfl, flat_strV ys, ?_⟩
      rw [if_pos rfl, inV_strs]
      exact k _ F H [] (Step.pure fz) (.bl _)
  · cases e
theorem kt_lk2 {a : Addr} {od : Option Addr} {x y : Str} {t u : Tok} {n : Nat} {sl : Array (Option Value)} (h : K.lookup a = some ⟨.type "tuple", od, .seq #[.str x t, .str y u] n, sl⟩) : SqT K (fun _ => none) a ([x, y].map V.str) :=
  .inr ⟨_, _, _, h, rfl, rfl, by show 2 ≤ sizeLine; decide, .cons ⟨_, rfl⟩ (.cons ⟨_, rfl⟩ .nil)⟩
end
theorem je_words {X : Cx} {W : WX} {x : Str} {a : Addr} {pos : Pos} {ys : List Str} (hg : Gl X x) (hm : X.mg x = some (.ref a)) (h : SqT X.K (fun _ => none) a (ys.map V.str)) (hd : (x == ("__debug__" : Str)) = false := by decide) : JE X W (.Name x pos) (eC (.kt (ys.map D.str))) :=
  je_glob (v := .ref a) hg hm rfl (fun _ _ => .kt h (strs_rps ys)) hd
/-! a list unpacked -/
def tgUn (gs : List Tg) : Tg := fun env d => match d with
  | .lst _ ds => if clL ds = true then tgL gs env ds else .no
  | _ => .no
theorem Go.more {F H F' H' : Hp} {S L U : List Addr} (g : Go F H S F' H' L) : Go F H (S ++ U) F' H' L :=
  ⟨g.sub, fun a o e n => g.fr a o e fun z => n (List.mem_append_left _ z), g.gr, fun a ha => (g.nw a ha).imp (List.mem_append_left _) id, fun a ha => (g.nz a ha).imp id fun z => z.imp (List.mem_append_left _) id⟩
section
variable {K : PySem.W.Frag} {mg : Mg} {σ : L2.St} {H : Hp}
theorem t_gUn {tgs : List Tg} {n : Nat} {v : V} {Q : L2.St → Hp → Prop} (hn : tgs.length = n) (h : tG K mg (tgUn tgs) v σ H Q) : gUnl K n (tGs K mg tgs) v σ H Q := by
  obtain ⟨env, F, S, R, T, U, d, sm, r, h⟩ := h
  have key : ∀ (m : Bool) (ds : List D) (vs : List V) (a : Addr), d = .lst m ds → v = .ref a → SqL K H a vs → (clL ds = true → Rps K mg F (At H) ds vs []) → gUnl K n (tGs K mg tgs) v σ H Q := by
    intro m ds vs a hd hv hq hr
    subst hd
    have h' : ContG K mg F H S U R T (if clL ds = true then tgL tgs env ds else .no) Q := h
    by_cases hc : clL ds = true
    · rw [if_pos hc] at h'
      have hs := hr hc
      refine ⟨a, vs, hv, hq, ?_, env, F, S, R, T, [], ds, sm.drop, hs, ?_⟩
      · cases e : tgL tgs env ds with
        | no => rw [e] at h'; exact h'.elim
        | ex c e2 => rw [e] at h'; exact h'.elim
        | ok u en => rw [← hs.length, tgL_len e, hn]
      · cases e : tgL tgs env ds with
        | no => rw [e] at h'; exact h'.elim
        | ex c e2 => rw [e] at h'; exact h'.elim
        | ok u en =>
          rw [e] at h'
          exact fun σ' F' H' S' s g => h' σ' F' H' S' s (by rw [List.append_nil] at g; exact g.more)
    · rw [if_neg hc] at h'
      exact h'.elim
  cases r with
  | @fl a vs ds hf hs => exact key false ds vs a rfl rfl (hf.at sm.fz) fun _ => hs.any
  | @ol a vs ds S0 h1 h2 => exact key true ds vs a rfl rfl (SqL.of h1) (fun hc => (h2.clean hc) ▸ h2)
  | _ => exact h.elim
end
theorem jg_un {X : Cx} {es : List Expr} {k : Nat} {pos : Pos} {tgs : List Tg} (hc : X.calm = true) (h : JGs X es tgs) (hn : (assignEach es X.env).length = tgs.length := by rfl) (hf : (assignEach es X.env).findIdx? (·.1) = none := by rfl) : JG X (.Tuple es k pos) (tgUn tgs) :=
  jg_of (pg_unl hc h hn hf) fun _ _ _ _ h => t_gUn rfl h
end DL
/-! DLzp: defs whose promise asks that no repr is under way (guards empty); repr. -/
namespace DL
open PySem PySem.Spec PyProof.Rows L2
/-- a def's promise, where no repr is under way -/
structure FnOkG (P : Program) (w : World) (K : PySem.W.Frag) (mg : Mg) (base : Heap) (C : CXT) (k : Nat) (f : Addr) (fd : FuncData) (ps : List Str) (sp : Sp) : Prop where
  lenG : ∀ vs H Q E, sp vs H Q E → vs.length = ps.length
  runG : ∀ (A : Around) (ou : List PySem.Env) (z : Shared) (H : Hp) (ar : Args) (us : List Value) (vs : List V) (Q : VK) (E : XK), Room k A → A.guards = some [] → Env0 P w K mg base A ou z H →
    BindsTo z fd ar (ps.zip us) → Vals vs us → sp vs H Q E → codeAny (model P w) A (.call (.ref f) ar) (CR C ou P w H z Q E) z
section
variable {P : Program} {w : World} {K : PySem.W.Frag} {mg : Mg} {base : Heap} {C : CXT} {k : Nat} {f : Addr} {fd : FuncData} {ps : List Str} {sp : Sp}
theorem FnOk.toG (F : FnOk P w K mg base C k f fd ps sp) : FnOkG P w K mg base C k f fd ps sp := ⟨F.len, fun A ou z H ar us vs Q E hr _ e0 hb hv hs => F.run A ou z H ar us vs Q E hr e0 hb hv hs⟩
theorem fn_bodyG {name qual : Str} {params : Arguments} {body : List Stmt} {sc : Scope} {dV kV doc pm cd ct oc : Value} {an od : Option Addr} {osl : Array (Option Value)} {N : List Str}
    (hk : K.lookup f = some ⟨oc, od, .func (PySem.W.fnOf name qual params body sc dV kV doc pm an cd ct), osl⟩) (hc : PySem.W.codeIn K cd qual = true) (Sc : FnScope N ps sc)
    (hl : ∀ vs H Q E, sp vs H Q E → vs.length = ps.length)
    (hb : ∀ (A : Around) (ou : List PySem.Env) (z : Shared) (H : Hp) (vs : List V) (Q : VK) (E : XK), Room k (A.deeper (envOfC qual sc z.heap.objs.size f cd)) → (A.deeper (envOfC qual sc z.heap.objs.size f cd)).guards = some [] → sp vs H Q E →
      ∃ t, PSs (cxOf C P w K mg base N qual sc f cd A ou z H E) body t ∧ t { nx := fun _ H' => Q .non H', rt := Q } (L2.start N vs) H) :
    FnOkG P w K mg base C (k + 1) f (PySem.W.fnOf name qual params body sc dV kV doc pm an cd ct) ps sp where
  lenG := hl
  runG := fun A ou z H ar us vs Q E hr hg e0 bnd rv hsp => by
    have keep : ∀ b o, base.get? b = some o → z.heap.get? b = some o := fun b o e => (e0.bs b o e).1
    have kin : K.In z.heap := e0.mod.kin.keeps keep
    have nol : z.heap.NoLimit := e0.mod.nolimit.keeps keep
    have kinds : ∀ y ∈ ps.zip us, sc.names.lookup y.1 = some .local ∨ (sc.names.lookup y.1 = some .cell ∧ ((cellsFrom (z.heap.objs.size + 1) sc.names []).lookup y.1).isSome = true) := by
      rintro ⟨n, v⟩ hy
      exact (Sc.par n (List.of_mem_zip hy).1).imp id fun q => ⟨q, PySem.W.cellsFrom_some _ _ _ (.inl q)⟩
    refine codeAny_call_function hr.depth (kin _ _ hk) rfl Sc.co Sc.gen rfl (PySem.W.codeRec_of kin hc) (bnd _ _ _ _ ?_)
    refine wpAny_newFunctionEnv_cells Sc.kind kinds fun en he z1 x => ?_
    cases he
    refine ⟨nol.keeps x.toInCall.keep, codeAny_func ?_⟩
    obtain ⟨t, ht, hq⟩ := hb A ou z H vs Q E (hr.deeper _) hg hsp
    have J := inv_start (P := P) (w := w) (CX := C) (E := E) (N := N) Sc hr.hd e0 (hl _ _ _ _ hsp) rv x
    have done : ∀ {σ' : L2.St} {H' : Hp} {v : V} {u : Value} {z' : Shared}, Inv (cxOf C P w K mg base N qual sc f cd A ou z H E) [] σ' H' z' → RelV v u → Q v H' → CE ou P w H z Q u z' :=
      fun {σ' H' v u z'} J' r q => ⟨v, H', J'.os, J'.bare, J'.base, J'.hok, r, q⟩
    refine wpAny_mono (ht.run [] z1 (L2.start N vs) H _ J hq) (fun fl z' hz => ?_) fun e z' hz => hz
    cases fl with
    | ret u => exact (let ⟨v, σ', H', J', r, q⟩ := hz; done J' r q)
    | next => exact (let ⟨σ', H', J', q⟩ := hz; done (v := V.non) (u := Value.none) J' rfl q)
    | brk => exact (let ⟨_, _, _, q⟩ := hz; q.elim)
    | cont => exact (let ⟨_, _, _, q⟩ := hz; q.elim)
end
theorem fn_okG {P : Program} {w : World} {K : PySem.W.Frag} {mg : Mg} {base : Heap} {x qual : Str} {st : Stmt} {f : Addr} {fd : FuncData} {N ps : List Str} {k : Nat} {body : Sta} (F : Fun K x qual st f fd) (Sc : FnScope N ps (defScope st))
    (hb : ∀ (cdv : Value) (A : Around) (outer : List PySem.Env) (s : Shared) (H : Hp) (E : XK), Room k (A.deeper (envOfC qual (defScope st) s.heap.objs.size f cdv)) → (A.deeper (envOfC qual (defScope st) s.heap.objs.size f cdv)).guards = some [] →
      JB (cxOf (L2.CX P w) P w K mg base N qual (defScope st) f cdv A outer s H E) (fun cls d _ H => E cls d H) (defBody st) body) :
    FnOkG P w K mg base (L2.CX P w) (k + 1) f fd ps (spF K mg (mkFn ps.length N.length body)) := by
  obtain ⟨oc, od, kV, doc, pm, an, cdv, ct, osl, rfl, lk, hcd⟩ := F.ex
  exact fn_bodyG lk hcd Sc (fun _ _ _ _ h => fn_len h) fun A outer s H vs Q E hr hg hsp => ⟨_, hb cdv A outer s H E hr hg, fn_body hsp⟩
section
variable {X : Cx} {W : WX} {k : Nat} {f : Addr} {fd : FuncData} {ps : List Str} {fn : Fn} {x : Str} {p pos : Pos} {e : Expr} {es : List Expr} {ms : List Ex}
theorem pe_callG0 {sp : Sp} {E : L2.St → XK} {t : TA} (F : FnOkG X.prog X.w X.K X.mg X.base (L2.CX X.prog X.w) k f fd ps sp) (hr : Room k X.A) (hgd : X.A.guards = some []) (hg : Gl X x) (hm : X.mg x = some (.ref f)) (hk : PySem.W.keepIn X.K (.ref f) = true)
    (hb : Binds X.K fd ps []) (hx : ∀ σ, PassesAt (L2.CX X.prog X.w) X σ (E σ)) (ha : PA X (e :: es) t) (hdb : (x == ("__debug__" : Str)) = false) (he : starEach (e :: es) X.env = (false, eval e X.env) :: starEach es X.env)
    (hpl : (backTo pos (starEach es X.env)).any (·.1) = false) : PE X (.Call (.Name x p) (e :: es) [] pos) (tCallS sp E t) where
  run := fun pins z σ H Q I h => by
    refine wpAny_Call_Name_kw (ld_glob I hg hm ?_ hdb)
    refine PySem.W.callWith_K (h₀ := X.base) I.ok.mod.kin hk (thn (ha.run pos pins z σ H _ I h) fun us z1 hz => ?_) he hpl
    obtain ⟨vs, H1, J, r, q⟩ := hz
    refine ⟨J.kIn, ?_⟩
    have n1 : us.length = ps.length := r.length ▸ F.lenG _ _ _ _ q
    have b1 := hb z1 us J.kIn (by simpa using n1)
    rw [List.append_nil] at b1
    refine wpAny_call (codeAny_mono (F.runG X.A X.stack z1 H1 ⟨us, []⟩ us vs Q (E σ) hr hgd J.env0 b1 r q) fun res z2 hq => ?_)
    match res, hq with
    | .error ev, hq => exact hx σ pins H1 z1 ev z2 J hq
    | .ok (.ret u), hq => exact J.after hq
    | .ok .next, hq => exact hq.elim
    | .ok .brk, hq => exact hq.elim
    | .ok .cont, hq => exact hq.elim
theorem je_callG (G : FnOkG X.prog X.w X.K X.mg X.base (L2.CX X.prog X.w) k f fd ps (spF X.K X.mg fn)) (tk : Takes X W) (hr : Room k X.A) (hgd : X.A.guards = some []) (hg : Gl X x) (hm : X.mg x = some (.ref f)) (hk : PySem.W.keepIn X.K (.ref f) = true) (hb : Binds X.K fd ps []) (ha : JA X W (e :: es) ms)
    (hdb : (x == ("__debug__" : Str)) = false := by decide) (he : starEach (e :: es) X.env = (false, eval e X.env) :: starEach es X.env := by rfl) (hpl : (backTo pos (starEach es X.env)).any (·.1) = false := by rfl) : JE X W (.Call (.Name x p) (e :: es) [] pos) (eCall fn ms) :=
  je_of (pe_callG0 G hr hgd hg hm hk hb (fun σ => passAt tk σ) ha hdb he hpl) fun _ _ _ h => t_Call h
end
/-- a law's call at the top, its def's promise being one of these -/
theorem law_topG {P : Program} {w : World} {K : PySem.W.Frag} {mg mb : Mg} {C : CXT} {k : Nat} {fa a : Addr} {fd : FuncData} {x : Str} {sp : Sp} {z : Shared} {us : List Value} {ns : List Int}
    (kin : K.In z.heap) (gns : z.heap.Ns mainGlobals mg) (bns : z.heap.Ns builtinsNs mb) (bbt : ∀ y : Str, y ≠ "__name__" → mb y = bootBuiltins y) (nol : z.heap.NoLimit) (gen0 : z.gens = #[])
    (la : z.heap.get? a = some { cls := .type "list", data := .seq us.toArray }) (ia : IntsAre us ns) (ll : ns.length ≤ sizeLine) (hr : Room k callerA)
    (F : ∀ base : Heap, K.In base → base.Ns mainGlobals mg → FnOkG P w K mg base C k fa fd [x] sp) (bnd : ∀ (s : Shared) (u : Value), BindsTo s fd ⟨[u], []⟩ [(x, u)])
    (want : ∀ H : Hp, Only H → SqL K H a (ns.map V.int) → sp [.ref a] H (fun v _ => v = .bl true) fun _ _ _ => False) (noex : ∀ H e z', C [] H z (fun _ _ _ => False) e z' → False) :
    codeAny (model P w) callerA (.call (.ref fa) ⟨[.ref a], []⟩) (fun r z' => r = .ok (.ret (.bool true)) ∧ OldK z.heap z'.heap ∧ z'.os = z.os ∧ AllBare z'.gens) z := by
  have rel := vals_ints ia
  have main : ∀ H : Hp, Only H → SqL K H a (ns.map V.int) → HOk P w H z.heap → (∀ b, b ≠ a → H b = none) → (H a = none ∨ K.lookup a = none) →
      codeAny (model P w) callerA (.call (.ref fa) ⟨[.ref a], []⟩) (fun r z' => r = .ok (.ret (.bool true)) ∧ OldK z.heap z'.heap ∧ z'.os = z.os ∧ AllBare z'.gens) z := by
    intro H only sq hok alone free
    have dictFree : ∀ {b : Addr} {o : Obj} {es : Array DictEntry} {n : Nat}, z.heap.get? b = some o → o.data = .dict es n → H b = none := by
      intro b o es n g d
      by_cases hb : b = a
      · subst hb
        have : o = { cls := .type "list", data := .seq us.toArray } := Option.some.inj (g.symm.trans la)
        rw [this] at d
        cases d
      · exact alone b hb
    have nsT : ∀ {b : Addr} {m : Mg}, z.heap.Ns b m → (hidT z.heap H).Ns b m := by
      rintro b m ⟨o, es, n, g, d, rest⟩
      exact ⟨o, es, n, hidT_get g (dictFree g d), d, rest⟩
    have kinT : K.In (hidT z.heap H) := by
      intro b o g
      refine hidT_get (kin b o g) ?_
      by_cases hb : b = a
      · subst hb
        exact free.resolve_right fun q => by rw [q] at g; cases g
      · exact alone b hb
    have modT : Mod K mg (hidT z.heap H) := by
      obtain ⟨mc, q1, q2⟩ := nol
      exact ⟨kinT, nsT gns, ⟨mb, nsT bns, bbt⟩, ⟨mc, nsT q1, q2⟩⟩
    have e0 : Env0 P w K mg (hidT z.heap H) callerA [] z H := {
      frames := rfl
      mod := modT
      bs := fun _ _ g => of_hidT g
      bsz := Nat.le_of_eq (hidT_size _ _)
      funs := trivial
      frf := fun b hb => by simp [frs] at hb
      hok := hok
      bare := .of_eq gen0 }
    have r1 : Vals [V.ref a] [Value.ref a] := .cons rfl .nil
    refine codeAny_mono ((F _ kinT (nsT gns)).runG callerA [] z H ⟨[.ref a], []⟩ [.ref a] [.ref a] _ _ hr rfl e0 (bnd z (.ref a)) r1 (want H only sq)) fun res z' hz => ?_
    match res, hz with
    | .error ev, hz => exact (noex H ev z' hz).elim
    | .ok .next, hz => exact hz.elim
    | .ok .brk, hz => exact hz.elim
    | .ok .cont, hz => exact hz.elim
    | .ok (.ret u), ⟨v, H2, os, bare, un, hok2, r2, q⟩ =>
      have q' : v = V.bl true := q
      subst q'
      have hu : u = Value.bool true := r2
      subst hu
      refine ⟨rfl, OldK.of_keep fun b o g => ?_, os, bare⟩
      cases hb : H b with
      | none => exact un.keep b o g hb (fun q => by simp [frs] at q) (by simp)
      | some u =>
        rcases only b with q | ⟨ob, xs, q⟩
        · rw [hb] at q
          cases q
        · have k1 := (hok b _ q).1
          have k2 := (hok2 b _ (un.frzs b ob _ q)).1
          rw [g] at k1
          cases k1
          exact k2
  cases hk : K.lookup a with
  | some o =>
    have g := kin a o hk
    rw [la] at g
    cases g
    have lu : us.toArray.size ≤ sizeLine := by
      rw [List.size_toArray, ia.length]
      exact ll
    exact main (fun _ => none) (fun _ => .inl rfl) (.inr ⟨_, us.toArray, _, hk, rfl, rfl, rfl, lu, by simpa using rel⟩) (fun b u q => by cases q) (fun _ _ => rfl) (.inl rfl)
  | none =>
    let H : Hp := fun b => if b = a then some (.frz { cls := .type "list", data := .seq us.toArray } (.lst (ns.map V.int))) else none
    have Ha : H a = some (.frz { cls := .type "list", data := .seq us.toArray } (.lst (ns.map V.int))) := if_pos rfl
    have Hn : ∀ b, b ≠ a → H b = none := fun b hb => if_neg hb
    refine main H (fun b => ?_) (.inl (.inr ⟨_, Ha⟩)) (fun b u q => ?_) Hn (.inr hk)
    · by_cases hb : b = a
      · subst hb
        exact .inr ⟨_, _, Ha⟩
      · exact .inl (Hn b hb)
    · by_cases hb : b = a
      · subst hb
        rw [Ha] at q
        cases q
        exact ⟨la, by rw [List.length_map]; exact ll, us, _, rel, la⟩
      · rw [Hn b hb] at q
        cases q
theorem walk_DG {l : PySem.W.OpenLaw} {n k : Nat} {q : Program} {loose : List Str} {XP : Mg → Heap → Prop} {YP : World → Heap → Prop} {d : DefRec} {K : Params → PySem.W.Frag} {f : Fn} {x : Str} (hn : l.most = some n) (hn2 : n ≤ 63) (hdf : d.params.defaults = []) (hr : Room k callerA)
    (hY : ∀ (w : World) (h : Heap), YP w h → (K w.params).In h)
    (F : ∀ (w : World) (mg : Mg) (fa : Addr) (h : Heap), (K w.params).In h → h.Ns mainGlobals mg → mg d.name = some (.ref fa) →
      ∃ fd, (∀ (s : Shared) (u : Value), BindsTo s fd { pos := [u] } [(x, u)]) ∧ ∀ (base : Heap), (K w.params).In base → base.Ns mainGlobals mg → FnOkG l.prog w (K w.params) mg base (L2.CX l.prog w) k fa fd [x] (spF (K w.params) mg f))
    (hf : ∀ ns, Scr ns → ∃ o, f [scriptD ns] = .ok (.bl true) o) :
    PySem.W.WalkO q loose XP YP (PySem.W.OpenLaw.row l).toRowW d [] fun f vs => call f vs :=
  Att.attach_callB hn hdf fun w s₀ s₁ mg mb fa o pm cd doc a vs ns G Y ho hd hcd hmg hobj hints hlen hbits hg => by
    have KX := hY w s₁.heap Y
    obtain ⟨fd, hb, hF⟩ := F w mg fa s₁.heap KX G.T.g hmg
    obtain ⟨o2, e2⟩ := hf ns ⟨Nat.le_trans hlen hn2, hbits⟩
    refine law_topG KX G.T.g G.T.b G.T.builtins G.T.nolimit hg hobj hints (Nat.le_trans hlen (Nat.le_trans hn2 (by rw [sz]; omega))) hr hF hb (fun H hO hS => law_spF o2 e2 ?_) fun H e s' h => cx_false h
    rcases hS with h | ⟨ob, its, m, hk, hc, hdt, hda, hsz, hv⟩
    · exact .inl h
    · have e := KX a ob hk
      rw [hobj] at e
      cases e
      cases hda
      exact .inr ⟨_, _, hk, hsz, hv⟩
end DL
/-! DLzq: repr of data: numbers, truths, texts, None, lists and tuples of these; a dict of these. -/
namespace DL
open PySem PySem.Spec PyProof.Rows L2
def atomP : D → Option PyData
  | .non => some .none
  | .bl b => some (.bool b)
  | .int i => some (.int i)
  | .str x => some (.str x)
  | _ => none
def kvP : List (D × D) → Option (List (PyData × PyData))
  | [] => some []
  | (k, v) :: r => (atomP k).bind fun a => (atomP v).bind fun b => (kvP r).map ((a, b) :: ·)
def toPyR : D → Option PyData
  | .dct _ .k l => (kvP l).map .dict
  | d => toPy d
def shownR (p : PyData) : Option D := if p.showable = true ∧ p.shown.length ≤ 16777216 ∧ p.depth ≤ 60 then some (.str p.shown) else none
def gRepr : List D → Option D
  | [d] => (toPyR d).bind shownR
  | _ => none
/-- a dict of atoms, read -/
def DkP (H : Hp) (v : V) (p : PyData) : Prop := ∃ (a : Addr) (kvs : List (L2.Key × V)) (ps : List (PyData × PyData)), v = .ref a ∧ Rd H a (.dK kvs) ∧ p = .dict ps ∧ ∀ (h : Heap) (es : List DictEntry) (us : List (L2.Key × Value)) (P : Program) (w : World), KV kvs us → Pairs (mixKind P w) es us → ReadsAll h (es.map (·.key)) (ps.map (·.1)) [] ∧ ReadsAll h (es.map (·.val)) (ps.map (·.2)) []
def rRepr (K : PySem.W.Frag) : List V → Hp → VK → Prop := fun xs H Q => ∃ v p, xs = [v] ∧ (Dp K H v p ∨ DkP H v p) ∧ p.showable = true ∧ p.shown.length ≤ sizeLine ∧ p.depth ≤ 60 ∧ Q (.str p.shown) H
section
variable {K : PySem.W.Frag} {H : Hp}
mutual
theorem Dp.noDict : ∀ {v : V} {p : PyData}, Dp K H v p → p.hasDict = false
  | _, _, .non => rfl
  | _, _, .bl _ => rfl
  | _, _, .int _ => rfl
  | _, _, .str _ => rfl
  | _, _, .lst _ h => by rw [PyData.hasDict]; exact DpAll.noDict h
  | _, _, .tup _ h => by rw [PyData.hasDict]; exact DpAll.noDict h
theorem DpAll.noDict : ∀ {vs : List V} {ps : List PyData}, DpAll K H vs ps → PyData.hasDictAll ps = false
  | _, _, .nil => rfl
  | _, _, .cons h hs => by rw [PyData.hasDictAll, Dp.noDict h, DpAll.noDict hs]; rfl
end
end
theorem call_reprG {X : Cx} (hgd : X.A.guards = some []) (hu : X.A.units + 65 < cLine) : CallR X (.builtin "repr") (rRepr X.K) := by
  intro pins s σ H vs us Q I rs h
  obtain ⟨v, p, rfl, hd, hs, hz, hdp, q⟩ := h
  cases rs with
  | cons r1 rt =>
    rename_i u ut
    cases rt
    have fin : ∀ (a : Addr) (as : List Addr), u = .ref a → Reads s.heap (.ref a) p as → (p.hasDict = true → sysModules ∉ as) → wpAny (model X.prog X.w) X.A (call (.builtin "repr") [u]) (EP X pins σ Q) X.xe s := fun a as hu2 rd hm => by
      subst hu2
      exact repr_of_reads' rd hs hm hgd (by omega) (fun _ _ e => e) (fun h' t tk hk => ⟨.str _, H, I.kept hk, ⟨t, rfl⟩, q⟩) hz
    rcases hd with hd | ⟨a, kvs, ps, rfl, hr, rfl, rdk⟩
    · have nd := Dp.noDict hd
      obtain ⟨as, rd⟩ := Dp.reads I p v u hd r1
      cases hd with
      | non =>
        cases r1
        exact P.repr_of_none ⟨.str _, H, I.tok _, ⟨_, rfl⟩, q⟩
      | bl b =>
        cases r1
        exact P.repr_of_bool ⟨.str _, H, I.tok _, ⟨_, rfl⟩, q⟩
      | int i =>
        obtain ⟨t, rfl⟩ := r1
        exact P.repr_of_int (of_decide_eq_true hs) ⟨.str _, H, I.tok _, ⟨_, rfl⟩, q⟩
      | str x =>
        obtain ⟨t, rfl⟩ := r1
        exact P.repr_of_str ⟨.str _, H, I.tok _, ⟨_, rfl⟩, q⟩ hz
      | lst h1 h2 =>
        cases r1
        exact fin _ as rfl rd (PyData.noDict_hsm nd)
      | tup h1 h2 =>
        cases r1
        exact fin _ as rfl rd (PyData.noDict_hsm nd)
    · obtain ⟨_, hsm, us, hkv, o, es, ep, g, ex, d, _, prs, _⟩ := hr.ok I.hok
      cases r1
      obtain ⟨k1, k2⟩ := rdk s.heap es.toList us _ _ hkv prs
      refine fin a _ rfl (.dict g ex.1 d k1 k2) fun _ hm => ?_
      have : sysModules = a := by simpa using hm
      rw [this] at hsm
      simp at hsm
section
variable {K : PySem.W.Frag} {mg : Mg} {F H : Hp}
theorem atomP_reads {d : D} {v : V} {u : Value} {p : PyData} {S : List Addr} (h : Rp K mg F (Rt H) d v S) (e : atomP d = some p) (r : RelV v u) (hp : Heap) : Reads hp u p [] := by
  cases h <;> first
    | (cases e; done)
    | (cases e; cases r; exact .none)
    | (cases e; cases r; exact .bool _)
    | (cases e; obtain ⟨t, rfl⟩ := r; exact .int _ _)
    | (cases e; obtain ⟨t, rfl⟩ := r; exact .str _ _)
theorem key_reads {k : L2.Key} {u : Value} {p : PyData} {P : Program} {w : World} (e : atomP (kD k) = some p) (h : (mixKind P w).is k u = true) (hp : Heap) : Reads hp u p [] := by
  rcases keyIs_shape h with ⟨i, t, rfl, rfl⟩ | ⟨x, t, rfl, rfl⟩
  · cases e
    exact .int _ _
  · cases e
    exact .str _ _
theorem kvP_reads : ∀ (kvs : List (L2.Key × V)) (ds : List D) (S : List Addr) (ps : List (PyData × PyData)), Rps K mg F (Rt H) ds (kvs.map (·.2)) S → kvP (zlD kD kvs ds) = some ps →
    ∀ (hp : Heap) (es : List DictEntry) (us : List (L2.Key × Value)) (P : Program) (w : World), KV kvs us → Pairs (mixKind P w) es us → ReadsAll hp (es.map (·.key)) (ps.map (·.1)) [] ∧ ReadsAll hp (es.map (·.val)) (ps.map (·.2)) []
  | [], ds, S, ps, h, e, hp, es, us, P, w, hkv, prs => by
    cases h
    cases e
    cases hkv
    cases prs
    exact ⟨.nil, .nil⟩
  | kv :: kvs, ds, S, ps, h, e, hp, es, us, P, w, hkv, prs => by
    cases h with
    | @cons d ds v vs S1 S2 h1 h2 =>
      have e' : ((atomP (kD kv.1)).bind fun a => (atomP d).bind fun b => (kvP (zlD kD kvs ds)).map ((a, b) :: ·)) = some ps := e
      cases ea : atomP (kD kv.1) with
      | none => rw [ea] at e'; cases e'
      | some a =>
        cases eb : atomP d with
        | none => rw [ea, eb] at e'; cases e'
        | some b =>
          cases er : kvP (zlD kD kvs ds) with
          | none => rw [ea, eb, er] at e'; cases e'
          | some qs =>
            rw [ea, eb, er] at e'
            cases e'
            cases hkv with
            | cons hq hkv =>
              cases prs with
              | cons p1 p2 prs =>
                obtain ⟨i1, i2⟩ := kvP_reads kvs ds _ qs h2 er hp _ _ P w hkv prs
                refine ⟨ReadsAll.cons (as := []) (bs := []) (key_reads ea (by rw [hq.1]; exact p1) hp) i1, ReadsAll.cons (as := []) (bs := []) (atomP_reads h1 eb (by have z := hq.2; rw [← p2] at z; exact z) hp) i2⟩
theorem snd_repr : SndN K mg (rRepr K) gRepr := by
  intro F H ds vs d' Q fz rs e k
  unfold gRepr at e
  split at e
  · rename_i d
    obtain ⟨v, rfl, r1⟩ := rs.one
    cases ep : toPyR d with
    | none => rw [ep] at e; cases e
    | some p =>
      rw [ep, Option.bind_some] at e
      unfold shownR at e
      split at e
      · rename_i hc
        cases e
        refine ⟨v, p, rfl, ?_, hc.1, by rw [sz]; exact hc.2.1, hc.2.2, k _ F H [] (Step.pure fz) (.str _)⟩
        unfold toPyR at ep
        split at ep
        · rename_i m l
          cases el : kvP l with
          | none => rw [el] at ep; cases ep
          | some ps =>
            rw [el] at ep
            cases ep
            obtain ⟨a, S, rfl, hh⟩ := r1.dct fz
            rcases hh with ⟨_, kvs, ds, rfl, hr, hs⟩ | ⟨ht, _⟩
            · exact .inr ⟨a, kvs, ps, rfl, hr, rfl, kvP_reads kvs ds S ps hs el⟩
            · cases ht
        · obtain ⟨S, h1⟩ := r1
          exact .inl (toPy_dp fz h1 ep)
      · cases e
  · cases e
end
end DL
/-! DLzr: dict(a list of pairs), the keys numbers or texts. -/
namespace DL
open PySem PySem.Spec PyProof.Rows L2
def prOf : D → Option (D × D)
  | .tup [k, v] => if (isKey .k k && v.cl) = true then some (k, v) else none
  | _ => none
def prsL : List D → Option (List (D × D))
  | [] => some []
  | d :: r => (prOf d).bind fun p => (prsL r).map (p :: ·)
def gDictP : List D → Option D
  | [.lst _ l] => (prsL l).map fun ps => .dct true .k (ps.foldl (fun acc p => ptD .k acc p.1 p.2) [])
  | _ => none
def rDictP (K : PySem.W.Frag) : List V → Hp → VK → Prop := fun xs H Q => ∃ (a : Addr) (ps : List Addr) (kvs : List (L2.Key × V)), xs = [.ref a] ∧ SqL K H a (ps.map V.ref) ∧ Paired (fun p kv => SqT K H p [kV kv.1, kv.2]) ps kvs ∧
    ∀ p, H p = none → Q (.ref p) (upd H p (.dK (mergeK [] kvs)))
section
variable {K : PySem.W.Frag} {mg : Mg} {F H : Hp}
theorem prs_rel (fz : FzOk F H) : ∀ {l : List D} {vs : List V} {S : List Addr} {ps : List (D × D)}, Rps K mg F (Rt H) l vs S → prsL l = some ps →
    ∃ (as : List Addr) (kvs : List (L2.Key × V)) (dm : List D), vs = as.map V.ref ∧ Paired (fun p kv => SqT K H p [kV kv.1, kv.2]) as kvs ∧ ps = zlD kD kvs dm ∧ Rps K mg F (At H) dm (kvs.map (·.2)) []
  | [], _, _, _, h, e => by
    cases h
    cases e
    exact ⟨[], [], [], rfl, .nil, rfl, .nil⟩
  | d :: l, _, _, _, h, e => by
    cases h with
    | cons h1 h2 =>
      rw [prsL] at e
      cases ep : prOf d with
      | none => rw [ep] at e; cases e
      | some q =>
        cases er : prsL l with
        | none => rw [ep, er] at e; cases e
        | some qs =>
          rw [ep, er] at e
          cases e
          obtain ⟨as, kvs, dm, rfl, pr, rfl, rm⟩ := prs_rel fz h2 er
          unfold prOf at ep
          split at ep
          · rename_i k v
            split at ep
            · rename_i hc
              cases ep
              rw [Bool.and_eq_true] at hc
              cases h1 with
              | tup hf hs =>
                cases hs with
                | @cons _ _ y _ _ _ r1 hs =>
                  cases hs with
                  | @cons _ _ w _ _ _ r2 hs =>
                    cases hs
                    obtain ⟨j, ej⟩ := Option.isSome_iff_exists.mp (show (keyK k).isSome = true from hc.1)
                    have ek := keyK_eq ej
                    subst ek
                    have e2 := r2.clean hc.2
                    subst e2
                    have ey : y = kV j := by
                      cases j with
                      | inl i => cases r1; rfl
                      | inr x => cases r1; rfl
                    subst ey
                    exact ⟨_ :: as, (j, w) :: kvs, v :: dm, rfl, .cons (hf.at fz) pr, rfl, .cons (S := []) (T := []) r2.any rm⟩
            · cases ep
          · cases ep
theorem snd_dictP : SndN K mg (rDictP K) gDictP := by
  intro F H ds vs d' Q fz rs e k
  unfold gDictP at e
  split at e
  · rename_i m l
    cases ep : prsL l with
    | none => rw [ep] at e; cases e
    | some ps =>
      rw [ep] at e
      cases e
      obtain ⟨v, rfl, r1⟩ := rs.one
      obtain ⟨a, xs, S, rfl, h1, h2⟩ := r1.lst fz
      obtain ⟨as, kvs, dm, rfl, pr, rfl, rm⟩ := prs_rel fz h2 ep
      obtain ⟨ds', e6, r6⟩ := merge_rel kEq_k (kvs := []) (ds := []) rm .nil
      refine ⟨a, as, kvs, rfl, h1.sq, pr, fun p hp => k _ F _ [p] (Step.own fz hp) ?_⟩
      have e7 : (zlD kD kvs dm).foldl (fun acc p => ptD .k acc p.1 p.2) [] = zlD kD (mergeK [] kvs) ds' := e6
      show Rp K mg F _ (.dct true .k ((zlD kD kvs dm).foldl (fun acc p => ptD .k acc p.1 p.2) [])) (.ref p) [p]
      rw [e7]
      exact .oK (S := []) (kvs := mergeK [] kvs) (ds := ds') (by show upd H p _ p = _; rw [upd_same]) rfl rfl r6.any
  · cases e
end
/-! == of texts -/
def gEqS : D → D → Option D
  | .str x, .str y => some (.bl (decide (x = y)))
  | _, _ => none
def gNeS : D → D → Option D
  | .str x, .str y => some (.bl (!decide (x = y)))
  | _, _ => none
theorem str_dec (x y : Str) : decide (V.str x = V.str y) = decide (x = y) := by
  by_cases h : x = y <;> simp [h]
theorem snd_eqS {K : PySem.W.Frag} {mg : Mg} : Snd2 K mg rEq gEqS := by
  intro F H d1 d2 v1 v2 d' Q fz r1 r2 e k
  unfold gEqS at e
  split at e
  · cases e
    rw [r1.str, r2.str]
    refine ⟨rfl, ?_⟩
    rw [str_dec]
    exact k _ F H [] (Step.pure fz) (.bl _)
  · cases e
theorem snd_neS {K : PySem.W.Frag} {mg : Mg} : Snd2 K mg rNe gNeS := by
  intro F H d1 d2 v1 v2 d' Q fz r1 r2 e k
  unfold gNeS at e
  split at e
  · cases e
    rw [r1.str, r2.str]
    refine ⟨rfl, ?_⟩
    rw [str_dec]
    exact k _ F H [] (Step.pure fz) (.bl _)
  · cases e
end DL
/-! DLzs: a dict looked for among tuples; a tuple repeated. -/
namespace DL
open PySem PySem.Spec PyProof.Rows L2
open PySem.SeqAt (EqAt RcAt)
/-! ### a dict is no tuple -/
section
open AutoSeq1 (wpAny_loadPart')
open MeetsSeq
theorem tuple_eq_no_dict (l b : Addr) (items : Array Value) (n : Nat) (dd : Option Addr) (sl : Array (Option Value)) (dd2 : Option Addr) (da : Data) (sl2 : Array (Option Value)) :
    Meets (Builtin.«tuple.__eq__» ⟨[.ref l, .ref b], []⟩) (fun _ R s => s.heap.get? l = some { cls := .type "tuple", dict := dd, data := .seq items n, slots := sl } ∧ s.heap.get? b = some { cls := .type "dict", dict := dd2, data := da, slots := sl2 } ∧ R (.ok (.ret .notImplemented)) s) :=
  .of_wp fun prog w A R s h => by
    obtain ⟨hp, g, d, tk, os⟩ := s
    obtain ⟨hl, hb, h⟩ := h
    have f1 := F.sub_dict_tuple
    wp_walk using wpAny_loadPart' hl, wpAny_loadPart' hb
    exact ⟨_, rfl, h⟩
theorem rc_tup_dict {A : Around} {s : Shared} {l b : Addr} {items : Array Value} {ob : Obj} (hl : s.heap.IsTuple l items) (hb : s.heap.get? b = some ob) (hc2 : ob.cls = .type "dict") (hu : A.units < cLine) : RcAt A s (.ref l) (.ref b) false := fun prog w E Q h => by
  obtain ⟨⟨cls, dd, data, sl⟩, ho, hc, n, hd⟩ := id hl
  obtain ⟨cls2, dd2, da, sl2⟩ := ob
  simp only at hc hd hc2
  subst hc hd hc2
  have hne : l ≠ b := fun e => by
    subst e
    rw [ho] at hb
    exact absurd (congrArg Obj.cls (Option.some.inj hb)) (by simp)
  have tb : s.TypeIs (.ref b) "dict" := ⟨_, hb, rfl⟩
  exact SeqAt.rc_eq_decline_or (k := false) ⟨_, ho, rfl⟩ tb (by decide) F.sub_dict_tuple F.slot_tuple_eq F.slot_dict_eq_refl
    (fun _ hq => call_meets F.slot_tuple_eq ⟨_, ho, rfl⟩ F.entry_tuple_eq (F.args_tuple_eq_2 _ _) (tuple_eq_no_dict l b items n dd sl dd2 da sl2) ⟨ho, hb, hq⟩)
    (fun _ hq => wpAny_call_entry F.slot_dict_eq_refl tb F.entry_dict_eq (by
      show wpAny _ _ (Builtin.Dict.dictSlotArgs "__eq__" ⟨[.ref b, .ref l], []⟩ >>= _) _ _ s
      refine wpAny_bind ?_
      unfold Builtin.Dict.dictSlotArgs
      refine wpAny_bind (wpAny_notOrdered_dict tb ?_)
      show wpAny _ _ (pure (Value.ref b, Value.ref l)) _ _ s
      refine wpAny_pure ?_
      refine wpAny_bind (wpAny_isInstance (T := "tuple") (b := false) ⟨_, ho, rfl⟩ PySem.F.sub_tuple_dict ?_)
      simp only [Bool.not_false, if_true]
      exact wpAny_bind (wpAny_rule (wpAny_pure ⟨_, rfl, hq⟩))) (F.args_dict_eq_2 _ _))
    (fun _ hq => SeqAt.wpAny_isSame_ref_other' hne ho hb (by simp) hq) (.inr hu) h
theorem eq_tup_dict {A : Around} {s : Shared} {l b : Addr} {items : Array Value} {ob : Obj} (hl : s.heap.IsTuple l items) (hb : s.heap.get? b = some ob) (hc2 : ob.cls = .type "dict") (hu : A.units < cLine) : EqAt A s (.ref l) (.ref b) false := .of_refs (fun e => by
  subst e
  obtain ⟨o, h1, h2, _⟩ := hl
  rw [hb] at h1
  cases h1
  rw [hc2] at h2
  exact absurd h2 (by simp)) (rc_tup_dict hl hb hc2 hu)
end
theorem vals_mem {xs : List V} {us : List Value} (h : Vals xs us) {u : Value} (hu : u ∈ us) : ∃ x ∈ xs, RelV x u := by
  unfold Vals at h
  induction h with
  | nil => cases hu
  | cons h1 _ k =>
    rcases List.mem_cons.mp hu with rfl | hu
    · exact ⟨_, List.mem_cons_self, h1⟩
    · obtain ⟨x, hx, r⟩ := k hu
      exact ⟨x, List.mem_cons_of_mem _ hx, r⟩
def rNotInDc (K : PySem.W.Frag) : R2 := fun x y H Q => ∃ (a : Addr) (kvs : List (L2.Key × V)) (b : Addr) (xs : List V), x = .ref a ∧ Rd H a (.dK kvs) ∧ y = .ref b ∧ SqL K H b xs ∧ (∀ v ∈ xs, ∃ p us, v = .ref p ∧ SqT K H p us) ∧ Q (.bl true) H
theorem op_notInDc {X : Cx} (hu : X.A.units + 1 < cLine) : OpR X (compareOp .NotIn) (rNotInDc X.K) := by
  intro pins s σ H x y v u Q I rx ry h
  obtain ⟨a, kvs, b, xs, rfl, hr, rfl, hl, ht, q⟩ := h
  cases rx
  cases ry
  obtain ⟨_, hsm, us, hkv, o, es, ep, g, ex, _⟩ := hr.ok I.hok
  obtain ⟨its, rv, ⟨⟨cls, dd, data, sls⟩, n, ho, hc, hdn, hdt⟩, hlen⟩ := I.list hl
  refine SeqAt.notIn_listAt (fun _ => false) ⟨_, ho, hc, n, hdt⟩ (fun y hy => ?_) ?_
  · have hy' : y ∈ its := by simpa using hy
    obtain ⟨x, hx, rxy⟩ := vals_mem rv hy'
    obtain ⟨p, us', rfl, hT⟩ := ht x hx
    cases rxy
    obtain ⟨its', r', hT', _⟩ := I.tuple hT
    exact eq_tup_dict hT' g ex.1 hu
  · refine ⟨.bl true, H, I, ?_, q⟩
    rw [show (its.toArray.any fun _ => false) = false from by simp]
    rfl
section
variable {K : PySem.W.Frag} {mg : Mg} {F H : Hp}
def isTup : D → Bool
  | .tup _ => true
  | _ => false
theorem tups_all (fz : FzOk F H) : ∀ {ds : List D} {vs : List V} {S : List Addr}, Rps K mg F (Rt H) ds vs S → ds.all isTup = true → ∀ v ∈ vs, ∃ p us, v = .ref p ∧ SqT K H p us
  | [], _, _, h, _, v, hv => by cases h; cases hv
  | d :: ds, _, _, h, e, v, hv => by
    rw [List.all_cons, Bool.and_eq_true] at e
    cases h with
    | cons h1 h2 =>
      rcases List.mem_cons.mp hv with rfl | hv
      · cases d with
        | tup l =>
          cases h1 with
          | tup hf hs => exact ⟨_, _, rfl, hf.at fz⟩
        | _ => exact absurd e.1 (by simp [isTup])
      · exact tups_all fz h2 e.2 v hv
def gNotInX : D → D → Option D
  | .dct m .k l, .lst m' ds => if ds.all isTup = true then some (.bl true) else none
  | d1, d2 => gNotInA d1 d2
theorem op_notInX {X : Cx} {k : Nat} (hr : Room k X.A) : OpR X (compareOp .NotIn) (fun x y H Q => (rNotInD X.K x y H Q ∨ rDNotIn x y H Q) ∨ rNotInDc X.K x y H Q) := OpR.or (op_notInA hr) (op_notInDc (hu2 hr))
theorem snd_notInX : Snd2 K mg (fun x y H Q => (rNotInD K x y H Q ∨ rDNotIn x y H Q) ∨ rNotInDc K x y H Q) gNotInX := by
  intro F H d1 d2 v1 v2 d' Q fz r1 r2 e k
  unfold gNotInX at e
  split at e
  · split at e
    · rename_i hc
      cases e
      obtain ⟨a, S, rfl, hh⟩ := r1.dct fz
      obtain ⟨b, vs, S', rfl, h1, h2⟩ := r2.lst fz
      rcases hh with ⟨_, kvs, ds, rfl, hr, hs⟩ | ⟨ht, _⟩
      · exact .inr ⟨a, kvs, b, vs, rfl, hr, rfl, h1.sq, tups_all fz h2 hc, k _ F H [] (Step.pure fz) (.bl _)⟩
      · cases ht
    · cases e
  · exact .inl (snd_notInA F H _ _ v1 v2 d' Q fz r1 r2 e k)
end
/-! ### a tuple repeated -/
section
open AutoSeq1 (wpAny_loadPart')
open MeetsSeq
theorem tup_mul_same (l : Addr) (items : Array Value) (n : Nat) (dd : Option Addr) (sl : Array (Option Value)) (x : Int) (u : Tok) (c0 : (decide (x < -(2 ^ 63)) || decide (x ≥ 2 ^ 63)) = false) (c1 : (items.isEmpty || x == 1) = true) :
    Meets (Builtin.«tuple.__mul__» ⟨[.ref l, .int x u], []⟩) (fun _ R s => s.heap.get? l = some { cls := .type "tuple", dict := dd, data := .seq items n, slots := sl } ∧ R (.ok (.ret (Value.ref l))) s) :=
  .of_wp fun prog w A R s h => by
    obtain ⟨hp, g, d, tk, os⟩ := s
    obtain ⟨hl, h⟩ := h
    have f1 := AutoSeq1.idx_int
    wp_walk using wpAny_loadPart' hl
    repeat (first
      | (refine wpAny_ite_false (decide_eq_false (by rw [c0]; exact Bool.false_ne_true)) ?_; wp_walk using wpAny_loadPart' hl)
      | (refine wpAny_ite_true (decide_eq_true c1) ?_; wp_walk using wpAny_loadPart' hl))
    exact ⟨_, rfl, h⟩
theorem tup_mul_none (l : Addr) (items : Array Value) (n : Nat) (dd : Option Addr) (sl : Array (Option Value)) (x : Int) (u : Tok) (c0 : (decide (x < -(2 ^ 63)) || decide (x ≥ 2 ^ 63)) = false) (c1 : (items.isEmpty || x == 1) = false) (c2 : (decide (x ≤ 0) || items.isEmpty) = true) :
    Meets (Builtin.«tuple.__mul__» ⟨[.ref l, .int x u], []⟩) (fun _ R s => s.heap.get? l = some { cls := .type "tuple", dict := dd, data := .seq items n, slots := sl } ∧
      R (.ok (.ret (Value.ref s.heap.objs.size))) { s with heap := s.heap.push { cls := Value.type "tuple", data := Data.seq #[] }, toks := s.toks }) :=
  .of_wp fun prog w A R s h => by
    obtain ⟨hp, g, d, tk, os⟩ := s
    obtain ⟨hl, h⟩ := h
    have f1 := AutoSeq1.idx_int
    wp_walk using wpAny_loadPart' hl
    repeat (first
      | (refine wpAny_ite_false (decide_eq_false (by rw [c0]; exact Bool.false_ne_true)) ?_; wp_walk using wpAny_loadPart' hl)
      | (refine wpAny_ite_false (decide_eq_false (by rw [c1]; exact Bool.false_ne_true)) ?_; wp_walk using wpAny_loadPart' hl)
      | (refine wpAny_ite_true (decide_eq_true c2) ?_; wp_walk using wpAny_loadPart' hl))
    exact ⟨_, rfl, h⟩
end
def rMulT0 (K : PySem.W.Frag) : R2 := fun x y H Q => ∃ l k xs, x = .ref l ∧ y = .int k ∧ SqT K H l xs ∧ -(2 ^ 63) ≤ k ∧ k < 2 ^ 63 ∧ (((xs = [] ∨ k = 1) ∧ Q x H) ∨ (xs ≠ [] ∧ k = 0 ∧ ∀ p, H p = none → Q (.ref p) (upd H p (.tup []))))
theorem op_mulT0 {X : Cx} : OpR X (binaryOp .Mult) (rMulT0 X.K) := by
  intro pins s σ H x y v u Q I rx ry h
  obtain ⟨l, k, xs, rfl, rfl, hT, h1, h2, h⟩ := h
  cases rx
  obtain ⟨t, rfl⟩ := ry
  obtain ⟨its, r, ⟨⟨cls, dd, data, sl⟩, ho, hc, n, hd⟩, hs⟩ := I.tuple hT
  simp only at hc hd
  subst hc hd
  have hle : its.length = xs.length := r.length.symm
  have c0 : (decide (k < -(2 ^ 63)) || decide (k ≥ 2 ^ 63)) = false := by
    rw [decide_eq_false (by omega), decide_eq_false (by omega)] <;> rfl
  rcases h with ⟨hk, q⟩ | ⟨hne, rfl, q⟩
  · have c1 : (its.toArray.isEmpty || k == 1) = true := by
      rcases hk with rfl | rfl
      · have : its = [] := List.eq_nil_of_length_eq_zero hle
        subst this
        rfl
      · simp
    refine wpAny_binaryOp_repeat_ref (T := "tuple") (U := "int") (by decide) ⟨_, ho, rfl⟩ (fun s' => typeIs_int s' k t) noFill_tuple_mul F.fills_int_mul F.slot_int_rmul repeat_tuple F.slot_int_index.lookup
      (call_meets F.slot_int_rmul (typeIs_int s k t) F.entry_int_rmul (F.args_int_rmul_2 _ _) (int_rmul_tuple k t l its.toArray n dd sl)
        ⟨ho, rfl, ⟨_, ho, rfl⟩, call_meets F.slot_tuple_mul ⟨_, ho, rfl⟩ F.entry_tuple_mul (F.args_tuple_mul_2 _ _) (tup_mul_same l its.toArray n dd sl k t c0 c1) ⟨ho, ?_⟩⟩)
    exact ⟨.ref l, H, I, rfl, q⟩
  · have hi : its.toArray.isEmpty = false := by
      cases its with
      | nil => exact absurd (List.eq_nil_of_length_eq_zero hle.symm) hne
      | cons a b => rfl
    have c1 : (its.toArray.isEmpty || (0 : Int) == 1) = false := by
      rw [hi]
      rfl
    have c2 : (decide ((0 : Int) ≤ 0) || its.toArray.isEmpty) = true := by simp
    refine wpAny_binaryOp_repeat_ref (T := "tuple") (U := "int") (by decide) ⟨_, ho, rfl⟩ (fun s' => typeIs_int s' 0 t) noFill_tuple_mul F.fills_int_mul F.slot_int_rmul repeat_tuple F.slot_int_index.lookup
      (call_meets F.slot_int_rmul (typeIs_int s 0 t) F.entry_int_rmul (F.args_int_rmul_2 _ _) (int_rmul_tuple 0 t l its.toArray n dd sl)
        ⟨ho, rfl, ⟨_, ho, rfl⟩, call_meets F.slot_tuple_mul ⟨_, ho, rfl⟩ F.entry_tuple_mul (F.args_tuple_mul_2 _ _) (tup_mul_none l its.toArray n dd sl 0 t c0 c1 c2) ⟨ho, ?_⟩⟩)
    refine ⟨.ref s.heap.objs.size, _, I.laid (t' := s.toks) (o := .tup []) (fun b ob q => Heap.get?_push_of_some _ q) (Nat.le_refl _) ?_, rfl, q _ (I.hok.fresh (Nat.le_refl _))⟩
    exact ⟨by simp, [], .nil, IsTup.new _ _⟩
def rMulT (K : PySem.W.Frag) : R2 := fun x y H Q => rMulT0 K x y H Q ∨ rRepT K x y H Q
theorem op_mulT {X : Cx} : OpR X (binaryOp .Mult) (rMulT X.K) := OpR.or op_mulT0 op_repT
def gMulT : D → D → Option D
  | .tup l, .int k => if clL l = true ∧ 0 ≤ k ∧ k ≤ 1000 ∧ l.length ≤ 1000 then some (.tup (List.replicate k.toNat l).flatten) else none
  | _, _ => none
theorem rep_nil {α : Type} : ∀ n : Nat, (List.replicate n ([] : List α)).flatten = []
  | 0 => rfl
  | n + 1 => by rw [List.replicate_succ, List.flatten_cons, rep_nil n]; rfl
theorem snd_mulT {K : PySem.W.Frag} {mg : Mg} : Snd2 K mg (rMulT K) gMulT := by
  intro F H d1 d2 v1 v2 d' Q fz r1 r2 e k
  unfold gMulT at e
  split at e
  · rename_i l j
    split at e
    · rename_i hc
      obtain ⟨hcl, h0, h1, hl⟩ := hc
      cases e
      obtain ⟨a, vs, S, rfl, f1, q1, q2⟩ := r1.tupF fz
      have c2 := q2.rt0 hcl (A := At H)
      have hlen : vs.length = l.length := q2.length.symm
      rw [r2.int]
      by_cases z : vs = [] ∨ j = 1
      · refine .inl ⟨a, j, vs, rfl, rfl, q1, by omega, by omega, .inl ⟨z, ?_⟩⟩
        have e1 : (List.replicate j.toNat l).flatten = l := by
          rcases z with rfl | rfl
          · have : l = [] := List.eq_nil_of_length_eq_zero (by simpa using hlen.symm)
            rw [this, rep_nil]
          · show (List.replicate 1 l).flatten = l
            simp
        exact k _ F H [] (Step.pure fz) (by rw [e1]; exact .tup f1 c2)
      · have z1 : vs ≠ [] := fun h => z (.inl h)
        have z2 : j ≠ 1 := fun h => z (.inr h)
        by_cases z3 : j = 0
        · subst z3
          refine .inl ⟨a, 0, vs, rfl, rfl, q1, by omega, by omega, .inr ⟨z1, rfl, fun p hp => ?_⟩⟩
          exact k _ _ _ [] (Step.fro fz hp) (new_tup (fz.gone hp) .nil)
        · refine .inr ⟨a, j, vs, rfl, rfl, q1, z1, by omega, h1, by omega, fun p hp => ?_⟩
          exact k _ _ _ [] (Step.fro fz hp) (new_tup (fz.gone hp) (rep_rps c2 _))
    · cases e
  · cases e
/-! ### a number in a tuple of numbers -/
def gInTi : D → D → Option D
  | .int x, .tup ds => (intsD ds).map fun ns => .bl (ns.any fun y => y == x)
  | _, _ => none
theorem inV_ints (x : Int) (ns : List Int) : inV (.int x) (ns.map V.int) = ns.any fun y => y == x := by
  unfold inV
  rw [List.any_map]
  rfl
theorem flat_intV (ns : List Int) : (ns.map V.int).all flatV = true := by
  induction ns with
  | nil => rfl
  | cons y ys ih => rw [List.map_cons, List.all_cons, ih]; rfl
theorem snd_inTi {K : PySem.W.Frag} {mg : Mg} : Snd2 K mg (rIn K false) gInTi := by
  intro F H d1 d2 v1 v2 d' Q fz r1 r2 e k
  unfold gInTi at e
  split at e
  · rename_i x l
    cases el : intsD l with
    | none => rw [el] at e; cases e
    | some ns =>
      rw [el] at e
      cases e
      obtain ⟨a, vs, S, rfl, f1, h1, h2⟩ := r2.tupF fz
      have := ints_vs h2 el
      subst this
      rw [r1.int]
      refine ⟨a, _, rfl, .inr h1, rfl, flat_intV ns, ?_⟩
      rw [if_neg Bool.false_ne_true, inV_ints]
      exact k _ F H [] (Step.pure fz) (.bl _)
  · cases e
end DL
/-! DLzt: repr of a dict whose keys are tuples; how long a shown thing is. -/
namespace DL
open PySem PySem.Spec PyProof.Rows L2
def atomsP : List D → Option (List PyData)
  | [] => some []
  | d :: r => (atomP d).bind fun p => (atomsP r).map (p :: ·)
def tupP : D → Option PyData
  | .tup ds => (atomsP ds).map .tuple
  | _ => none
def kvT : List (D × D) → Option (List (PyData × PyData))
  | [] => some []
  | (k, v) :: r => (tupP k).bind fun a => (atomP v).bind fun b => (kvT r).map ((a, b) :: ·)
def gReprT : List D → Option D
  | [.dct _ .t l] => (kvT l).bind fun ps => shownR (.dict ps)
  | ds => gRepr ds
def kP : L2.Key → PyData
  | .inl i => .int i
  | .inr x => .str x
theorem atomsP_k : ∀ k : List L2.Key, atomsP (k.map kD) = some (k.map kP)
  | [] => rfl
  | .inl i :: r => by
    rw [List.map_cons, atomsP, atomsP_k r]
    rfl
  | .inr x :: r => by
    rw [List.map_cons, atomsP, atomsP_k r]
    rfl
theorem keyV_reads {k : L2.Key} {u : Value} (r : RelV (kV k) u) (hp : Heap) : Reads hp u (kP k) [] := by
  cases k with
  | inl i =>
    obtain ⟨t, rfl⟩ := r
    exact .int _ _
  | inr x =>
    obtain ⟨t, rfl⟩ := r
    exact .str _ _
theorem keysV_reads (hp : Heap) : ∀ {k : List L2.Key} {us : List Value}, Vals (k.map kV) us → ReadsAll hp us (k.map kP) []
  | [], _, h => by cases h; exact .nil
  | k :: r, _, h => by
    cases h with
    | cons h1 h2 => exact ReadsAll.cons (as := []) (bs := []) (keyV_reads h1 hp) (keysV_reads hp h2)
abbrev PrT (H : Hp) : (List L2.Key × V) → (List L2.Key × Addr × Value) → Prop := fun p q => p.1 = q.1 ∧ H q.2.1 = some (.tup (p.1.map kV)) ∧ RelV p.2 q.2.2
def DkT (H : Hp) (kvs : List (List L2.Key × V)) (ps : List (PyData × PyData)) : Prop := ∀ (P : Program) (w : World) (h : Heap) (xs : List (List L2.Key × Addr × Value)), HOk P w H h → Paired (PrT H) kvs xs →
  ReadsAll h (xs.map fun x => Value.ref x.2.1) (ps.map (·.1)) [] ∧ ReadsAll h (xs.map (·.2.2)) (ps.map (·.2)) []
def rReprT : List V → Hp → VK → Prop := fun xs H Q => ∃ (a : Addr) (kvs : List (List L2.Key × V)) (ps : List (PyData × PyData)), xs = [.ref a] ∧ Rd H a (.dT kvs) ∧ DkT H kvs ps ∧ (PyData.dict ps).showable = true ∧ (PyData.dict ps).shown.length ≤ sizeLine ∧ (PyData.dict ps).depth ≤ 60 ∧ Q (.str (PyData.dict ps).shown) H
theorem call_reprT0 {X : Cx} (hgd : X.A.guards = some []) (hu : X.A.units + 65 < cLine) : CallR X (.builtin "repr") rReprT := by
  intro pins s σ H vs us Q I rs h
  obtain ⟨a, kvs, ps, rfl, hr, rdk, hs, hz, hdp, q⟩ := h
  cases rs with
  | cons r1 rt =>
    rename_i u ut
    cases rt
    cases r1
    obtain ⟨_, hsm, xs, prs, o, es, ep, g, ex, d, ee, _⟩ := hr.ok I.hok
    obtain ⟨k1, k2⟩ := rdk _ _ s.heap xs I.hok prs
    refine repr_of_reads' (Reads.dict (as := []) (bs := []) g ex.1 d ?_ ?_) hs (fun _ hm => ?_) hgd (by omega) (fun _ _ e => e) (fun h' t tk hk => ⟨.str _, H, I.kept hk, ⟨t, rfl⟩, q⟩) hz
    · rw [ee, List.map_map]
      exact k1
    · rw [ee, List.map_map]
      exact k2
    · have : sysModules = a := by simpa using hm
      rw [this] at hsm
      simp at hsm
def rReprA (K : PySem.W.Frag) : List V → Hp → VK → Prop := fun xs H Q => rReprT xs H Q ∨ rRepr K xs H Q
theorem call_reprA {X : Cx} (hgd : X.A.guards = some []) (hu : X.A.units + 65 < cLine) : CallR X (.builtin "repr") (rReprA X.K) := CallR.or (call_reprT0 hgd hu) (call_reprG hgd hu)
section
variable {K : PySem.W.Frag} {mg : Mg} {F H : Hp}
theorem kvT_reads : ∀ (kvs : List (List L2.Key × V)) (ds : List D) (S : List Addr) (ps : List (PyData × PyData)), Rps K mg F (Rt H) ds (kvs.map (·.2)) S → kvT (zlD tD kvs ds) = some ps → DkT H kvs ps
  | [], ds, S, ps, h, e, P, w, hp, xs, hok, prs => by
    cases h
    cases e
    cases prs
    exact ⟨.nil, .nil⟩
  | kv :: kvs, ds, S, ps, h, e, P, w, hp, xs, hok, prs => by
    cases h with
    | @cons d ds v vs S1 S2 h1 h2 =>
      have e' : ((tupP (tD kv.1)).bind fun a => (atomP d).bind fun b => (kvT (zlD tD kvs ds)).map ((a, b) :: ·)) = some ps := e
      have ea : tupP (tD kv.1) = some (.tuple (kv.1.map kP)) := by
        show (atomsP (kv.1.map kD)).map PyData.tuple = _
        rw [atomsP_k]
        rfl
      rw [ea, Option.bind_some] at e'
      cases eb : atomP d with
      | none => rw [eb] at e'; cases e'
      | some b =>
        cases er : kvT (zlD tD kvs ds) with
        | none => rw [eb, er] at e'; cases e'
        | some qs =>
          rw [eb, er] at e'
          cases e'
          cases prs with
          | cons hq prs =>
            obtain ⟨i1, i2⟩ := kvT_reads kvs ds _ qs h2 er P w hp _ hok prs
            obtain ⟨q1, q2, q3⟩ := hq
            obtain ⟨_, its, rv, o, ho, hc, n, hd⟩ := hok _ _ q2
            refine ⟨ReadsAll.cons (as := []) (bs := []) (.tuple ho hc hd (keysV_reads hp rv)) i1, ReadsAll.cons (as := []) (bs := []) (atomP_reads h1 eb q3 hp) i2⟩
theorem snd_reprT : SndN K mg (rReprA K) gReprT := by
  intro F H ds vs d' Q fz rs e k
  unfold gReprT at e
  split at e
  · rename_i m l
    obtain ⟨v, rfl, r1⟩ := rs.one
    cases el : kvT l with
    | none => rw [el] at e; cases e
    | some ps =>
      rw [el, Option.bind_some] at e
      unfold shownR at e
      split at e
      · rename_i hc
        cases e
        obtain ⟨a, S, rfl, hh⟩ := r1.dct fz
        rcases hh with ⟨ht, _⟩ | ⟨_, kvs, ds, rfl, hr, hs⟩
        · cases ht
        · exact .inl ⟨a, kvs, ps, rfl, hr, kvT_reads kvs ds S ps hs el, hc.1, by rw [sz]; exact hc.2.1, hc.2.2, k _ F H [] (Step.pure fz) (.str _)⟩
      · cases e
  · exact .inr (snd_repr F H _ vs d' Q fz rs e k)
end
/-! ### how long -/
theorem textFrom_le {n : Nat} : ∀ (ts : List Str) (k : Nat) (acc : Str), (∀ t ∈ ts, t.length ≤ n) → (textFrom k acc ts).length ≤ acc.length + ts.length * (n + 2)
  | [], k, acc, _ => by
    show acc.length ≤ _
    omega
  | t :: r, k, acc, h => by
    have ih := textFrom_le r (k + 1) (acc ++ (if k > 0 then ", " else "" : String) ++ t) fun x hx => h x (List.mem_cons_of_mem _ hx)
    have e : (acc ++ (if k > 0 then ", " else "" : String) ++ t).length = acc.length + (if k > 0 then 2 else 0) + t.length := by
      rw [strLen_append, strLen_append]
      congr 2
      split <;> rfl
    have ht := h t List.mem_cons_self
    have e2 : (textFrom k acc (t :: r)).length = (textFrom (k + 1) (acc ++ (if k > 0 then ", " else "" : String) ++ t) r).length := rfl
    rw [e2, List.length_cons, Nat.succ_mul]
    have e3 : (if k > 0 then 2 else 0) ≤ 2 := by split <;> omega
    omega
theorem listText_le {n : Nat} {ts : List Str} (h : ∀ t ∈ ts, t.length ≤ n) : (listText ts).length ≤ 2 + ts.length * (n + 2) := by
  have h1 := textFrom_le ts 0 "[" h
  have e : (listText ts).length = (textFrom 0 "[" ts).length + 1 := by
    unfold listText
    rw [strLen_append]
    rfl
  have e2 : (("[" : String) : Str).length = 1 := rfl
  omega
theorem piled_le {n : Nat} : ∀ {ts : List Str}, (∀ t ∈ ts, t.length ≤ n) → piled ts ≤ ts.length * (n + 2)
  | [], _ => by rw [piled_nil]; omega
  | t :: r, h => by
    have ih := piled_le fun x hx => h x (List.mem_cons_of_mem t hx)
    have ht := h t List.mem_cons_self
    rw [piled_cons, List.length_cons, Nat.succ_mul]
    omega
theorem tupleText_le {n : Nat} {ts : List Str} (h : ∀ t ∈ ts, t.length ≤ n) : (tupleText ts).length ≤ 3 + ts.length * (n + 2) := by
  have h1 := piled_le h
  have e : (tupleText ts).length = 1 + (Str.join ", " ts).length + (if ts.length == 1 then 2 else 1) := by
    unfold tupleText
    rw [strLen_append, strLen_append]
    congr 1
    split <;> rfl
  have e3 : (if ts.length == 1 then 2 else 1) ≤ 2 := by split <;> omega
  by_cases z : ts = []
  · subst z
    rw [e]
    have : (Str.join ", " ([] : List Str)).length = 0 := rfl
    omega
  · have h2 := join_length_add ts z
    omega
def ShT (n k : Nat) (d : D) : Prop := ∃ p, toPy d = some p ∧ p.showable = true ∧ p.shown.length ≤ n ∧ p.depth ≤ k ∧ p.canLay0 = true
def ShL (n k : Nat) (ds : List D) : Prop := ∃ ps, toPyL ds = some ps ∧ PyData.showableAll ps = true ∧ (PyData.shownAll ps).length = ds.length ∧ (∀ t ∈ PyData.shownAll ps, t.length ≤ n) ∧ PyData.depthAll ps ≤ k ∧ PyData.canLayAll0 ps = true
theorem shL_of {n k : Nat} : ∀ {ds : List D}, (∀ d ∈ ds, ShT n k d) → ShL n k ds
  | [], _ => ⟨[], rfl, rfl, rfl, fun t h => (by cases h), Nat.zero_le _, rfl⟩
  | d :: r, h => by
    obtain ⟨p, e1, e2, e3, e4, e5'⟩ := h d List.mem_cons_self
    obtain ⟨ps, f1, f2, f3, f4, f5, f6⟩ := shL_of fun x hx => h x (List.mem_cons_of_mem d hx)
    refine ⟨p :: ps, ?_, ?_, ?_, ?_, ?_, ?_⟩
    · rw [toPyL, e1, f1]
      rfl
    · rw [PyData.showableAll, e2, f2]
      rfl
    · rw [PyData.shownAll, List.length_cons, f3, List.length_cons]
    · intro t ht
      rw [PyData.shownAll] at ht
      rcases List.mem_cons.mp ht with rfl | ht
      · exact e3
      · exact f4 t ht
    · rw [PyData.depthAll]
      exact Nat.max_le.mpr ⟨e4, f5⟩
    · rw [PyData.canLayAll0, e5', f6]
      rfl
theorem shT_lst {n k : Nat} {m : Bool} {ds : List D} (h : ShL n k ds) : ShT (2 + ds.length * (n + 2)) (k + 1) (.lst m ds) := by
  obtain ⟨ps, f1, f2, f3, f4, f5, f6⟩ := h
  refine ⟨.list ps, by rw [toPy, f1]; rfl, by rw [PyData.showable]; exact f2, ?_, by rw [PyData.depth]; omega, by rw [PyData.canLay0]; exact f6⟩
  rw [PyData.shown, ← f3]
  exact listText_le f4
theorem shT_tup {n k : Nat} {ds : List D} (h : ShL n k ds) : ShT (3 + ds.length * (n + 2)) (k + 1) (.tup ds) := by
  obtain ⟨ps, f1, f2, f3, f4, f5, f6⟩ := h
  refine ⟨.tuple ps, by rw [toPy, f1]; rfl, by rw [PyData.showable]; exact f2, ?_, by rw [PyData.depth]; omega, by rw [PyData.canLay0]; exact f6⟩
  rw [PyData.shown, ← f3]
  exact tupleText_le f4
theorem ShT.mono {n k n' k' : Nat} {d : D} (h : ShT n k d) (h1 : n ≤ n') (h2 : k ≤ k') : ShT n' k' d := by
  obtain ⟨p, e1, e2, e3, e4, e5'⟩ := h
  exact ⟨p, e1, e2, by omega, by omega, e5'⟩
theorem shT_int {i : Int} (h : i.natAbs.log2 < 140) : ShT 150 0 (.int i) := by
  refine ⟨.int i, rfl, ?_, ?_, Nat.le_refl _, rfl⟩
  · show decide (i.natAbs.log2 < 1920) = true
    exact decide_eq_true (by omega)
  · have := int_text_length_le (a := i) (k := 140) (by omega) h
    show (Str.ofString (toString i)).length ≤ 150
    rw [PySem.ofString_length]
    omega
def shB (n k : Nat) (d : D) : Bool := match toPy d with
  | some p => p.showable && (Nat.ble p.shown.length n && (Nat.ble p.depth k && p.canLay0))
  | none => false
theorem shT_B {n k : Nat} {d : D} (h : shB n k d = true) : ShT n k d := by
  unfold shB at h
  split at h
  · rename_i p hp
    simp only [Bool.and_eq_true] at h
    exact ⟨p, hp, h.1, Nat.ble_eq.mp h.2.1, Nat.ble_eq.mp h.2.2.1, h.2.2.2⟩
  · cases h
theorem gRepr_sh {n k : Nat} {d : D} (h : ShT n k d) (h1 : n ≤ 16777216) (h2 : k ≤ 60) : ∃ x, gRepr [d] = some (.str x) := by
  obtain ⟨p, e1, e2, e3, e4, _⟩ := h
  have e : toPyR d = some p := by
    cases d with
    | dct m t l => cases e1
    | _ => exact e1
  refine ⟨p.shown, ?_⟩
  rw [gRepr, e, Option.bind_some, shownR, if_pos ⟨e2, by omega, by omega⟩]
/-- a list with something in it is not the empty one -/
theorem gNe_some {n k : Nat} {m m' : Bool} {ds : List D} (h : ShL n k ds) (hk : k ≤ 60) (hd : ds ≠ []) : gNe (.lst m ds) (.lst m' []) = some (.bl true) := by
  obtain ⟨ps, f1, f2, f3, f4, f5, f6⟩ := h
  have e1 : toPy (.lst m ds) = some (.list ps) := by rw [toPy, f1]; rfl
  have e2 : toPy (.lst m' []) = some (.list []) := rfl
  have s1 : SeqAt.shaped (.list ps) = true := by
    unfold SeqAt.shaped
    rw [Bool.and_eq_true, decide_eq_true_eq]
    exact ⟨by rw [PyData.canLay0]; exact f6, by rw [PyData.depth]; omega⟩
  have s2 : SeqAt.shaped (.list []) = true := by decide
  cases ps with
  | nil =>
    have : ds.length = 0 := by rw [← f3]; rfl
    exact absurd (List.eq_nil_of_length_eq_zero this) hd
  | cons p ps =>
    have q : eqD (.lst m ds) (.lst m' []) = some false := by
      show ((toPy (.lst m ds)).bind fun p => (toPy (.lst m' [])).bind fun q => if SeqAt.shaped p && SeqAt.shaped q then some (PyData.eqv p q) else none) = _
      rw [e1, e2, Option.bind_some, Option.bind_some, s1, s2]
      rfl
    rw [gNe, q]
    rfl
theorem ShL.sub {n k : Nat} {ds : List D} (h : ∀ d ∈ ds, ShT n k d) {f : D → Option D} (hf : ∀ d x, f d = some x → x = d) : ShL n k (ds.filterMap f) := shL_of fun x hx => by
  obtain ⟨d, hd, e⟩ := List.mem_filterMap.mp hx
  rw [hf d x e]
  exact h d hd
end DL
/-! DLzu: plain lemmas: lists of any data joined, statements one by one, cuts. -/
namespace DL
open PySem PySem.Spec PyProof.Rows L2
theorem addT {A B : List D} (h : A.length + B.length ≤ 1000) (ha : clL A = true) (hb : clL B = true) : gAdd (.tup A) (.tup B) = some (.tup (A ++ B)) := by
  rw [gAdd, if_pos (by omega), ha, hb]
  rfl
theorem addL {m m' : Bool} {A B : List D} (h : A.length + B.length ≤ 1000) (ha : clL A = true) (hb : clL B = true) : gAdd (.lst m A) (.lst m' B) = some (.lst true (A ++ B)) := by
  rw [gAdd, if_pos (by omega), ha, hb]
  rfl
theorem appL {l : List D} {d : D} (h : l.length ≤ 1000) : mAppend (.lst true l) [d] = some (.lst true (l ++ [d]), .non) := by rw [mAppend, if_pos (by omega)]
theorem clOf {A : List D} (h : ∀ d ∈ A, d.cl = true) : clL A = true := by
  rw [clL_all, List.all_eq_true]
  exact h
theorem clMem {A : List D} (h : clL A = true) : ∀ d ∈ A, d.cl = true := by
  rw [clL_all, List.all_eq_true] at h
  exact h
theorem clAp {A B : List D} (ha : clL A = true) (hb : clL B = true) : clL (A ++ B) = true := clOf fun d hd => by
  rcases List.mem_append.mp hd with hd | hd
  · exact clMem ha d hd
  · exact clMem hb d hd
theorem clOne {d : D} (h : d.cl = true) : clL [d] = true := clOf fun x hx => by
  rw [List.mem_singleton] at hx
  rw [hx]
  exact h
theorem clF {l : List D} (h : clL l = true) : (D.lst false l).cl = true := by
  show (!false && clL l) = true
  rw [h]
  rfl
theorem clT {l : List D} (h : clL l = true) : (D.tup l).cl = true := h
theorem sqN {a b : Sta} {env e1 : Env} {r : Res Fl} (h : a env = .ok .nx e1) (k : b e1 = r) : sSeq a b env = r := by
  unfold sSeq
  rw [h]
  exact k
theorem ifT {c : Ex} {a b : Sta} {env e1 : Env} {r : Res Fl} (h : c env = .ok (.vl (.bl true)) e1) (k : a e1 = r) : sIf c a b env = r := by
  unfold sIf
  rw [h]
  exact k
theorem ifF {c : Ex} {a b : Sta} {env e1 : Env} {r : Res Fl} (h : c env = .ok (.vl (.bl false)) e1) (k : b e1 = r) : sIf c a b env = r := by
  unfold sIf
  rw [h]
  exact k
theorem mkRt {p n : Nat} {body : Sta} {args : List Sl} {d : D} {en : Env} {o : List Sl} (hp : args.length = p) (h : body (args ++ List.replicate (n - args.length) .un) = .ok (.rt (.vl d)) en) (h3 : outs args en = some o) : mkFn p n body args = .ok d o := by
  unfold mkFn
  rw [if_pos hp, h]
  have h2 : fin en (.vl d) = some (d, en) := rfl
  dsimp only
  rw [h2]
  dsimp only
  rw [h3]
theorem cutTo {α : Type} {l : List α} {i : Nat} (h : i ≤ l.length) : cutL l none (some (i : Int)) = l.take i := by
  unfold cutL
  have e1 : HT.sIx l.length 0 none = 0 := rfl
  have e2' : HT.sIx l.length l.length (some (i : Int)) = i := by
    rw [HT.sIx_nat]
    omega
  rw [e1, e2', List.drop_zero, Nat.sub_zero]
theorem cutFrom {α : Type} {l : List α} {i : Nat} (h : i ≤ l.length) : cutL l (some (i : Int)) none = l.drop i := by
  unfold cutL
  have e1 : HT.sIx l.length l.length none = l.length := rfl
  have e2' : HT.sIx l.length 0 (some (i : Int)) = i := by
    rw [HT.sIx_nat]
    omega
  rw [e1, e2']
  exact List.take_of_length_le (by rw [List.length_drop]; omega)
/-! ### isinstance of a dict whose keys are tuples -/
def rIsiD (K : PySem.W.Frag) : List V → Hp → VK → Prop := fun xs H Q => ∃ (a : Addr) (kvs : List (List L2.Key × V)) (n : String) (b : Bool), xs = [.ref a, .ty n] ∧ Rd H a (.dT kvs) ∧ PySem.W.kitOne K (.type "dict") (.type n) = some b ∧ Q (.bl b) H
theorem call_isiD0 {X : Cx} : CallR X (.builtin "isinstance") (rIsiD X.K) := by
  intro pins s σ H xs us Q I r h
  obtain ⟨a, kvs, n, b, rfl, hr, he, q⟩ := h
  obtain ⟨u1, u2, rfl, r1, r2⟩ := vals2 r
  cases (show u1 = Value.ref a from r1)
  cases (show u2 = Value.type n from r2)
  obtain ⟨_, _, xs, prs, o, es, ep, h1, h2, _⟩ := hr.ok I.hok
  exact PySem.W.kia_one PySem.W.kitx_dict I.kIn ⟨o, h1, h2.1⟩ he (fun z => nomatch z) fun tk => ⟨.bl b, H, I.tok tk, rfl, q⟩
theorem call_isiD {X : Cx} : CallR X (.builtin "isinstance") (fun xs H Q => rIsi X.K xs H Q ∨ rIsiD X.K xs H Q) := CallR.or call_isi call_isiD0
def gIsiD : List D → Option D
  | [.dct _ .t _, .ty n] => (kitB "dict" n).map .bl
  | ds => gIsi ds
theorem snd_isiD {K : PySem.W.Frag} {mg : Mg} : SndN K mg (fun xs H Q => rIsi K xs H Q ∨ rIsiD K xs H Q) gIsiD := by
  intro F H ds vs d' Q fz rs e k
  unfold gIsiD at e
  split at e
  · rename_i m l n
    cases ek : kitB "dict" n with
    | none => rw [ek] at e; cases e
    | some b =>
      rw [ek] at e
      cases e
      obtain ⟨v, v2, rfl, r1, r2⟩ := rs.two
      obtain ⟨a, S, rfl, hh⟩ := r1.dct fz
      rcases hh with ⟨ht, _⟩ | ⟨_, kvs, ds, rfl, hr, hs⟩
      · cases ht
      · rw [r2.ty]
        exact .inr ⟨a, kvs, n, b, rfl, hr, kit_ty ek, k _ F H [] (Step.pure fz) (.bl b)⟩
  · exact .inl (snd_isi F H _ vs d' Q fz rs e k)
theorem gIsiD_l {m : Bool} {l : List D} {n : String} : gIsiD [.lst m l, .ty n] = gIsi [.lst m l, .ty n] := rfl
theorem gIsiD_t {l : List D} {n : String} : gIsiD [.tup l, .ty n] = gIsi [.tup l, .ty n] := rfl
end DL
/-! DLzv: dict(enumerate(a list)), str(a list). -/
namespace DL
open PySem PySem.Spec PyProof.Rows L2
def enK : Nat → List V → List (L2.Key × V)
  | _, [] => []
  | i, x :: xs => (.inl ((i : Nat) : Int), x) :: enK (i + 1) xs
def enU : Nat → List Value → List (L2.Key × Value)
  | _, [] => []
  | i, x :: xs => (.inl ((i : Nat) : Int), x) :: enU (i + 1) xs
def enXD : Nat → List D → List (D × D)
  | _, [] => []
  | i, x :: xs => (.int ((i : Nat) : Int), x) :: enXD (i + 1) xs
theorem enK_len : ∀ (xs : List V) (i : Nat), (enK i xs).length = xs.length
  | [], _ => rfl
  | _ :: xs, i => by rw [enK, List.length_cons, enK_len xs, List.length_cons]
theorem enU_len : ∀ (xs : List Value) (i : Nat), (enU i xs).length = xs.length
  | [], _ => rfl
  | _ :: xs, i => by rw [enU, List.length_cons, enU_len xs, List.length_cons]
theorem enK_snd : ∀ (xs : List V) (i : Nat), (enK i xs).map (·.2) = xs
  | [], _ => rfl
  | x :: xs, i => by rw [enK, List.map_cons, enK_snd xs]
theorem enU_at : ∀ (xs : List Value) (i j : Nat) (v : Value), xs[j]? = some v → (enU i xs)[j]? = some (.inl (((i + j : Nat)) : Int), v)
  | [], _, _, _, h => by simp at h
  | x :: xs, i, 0, v, h => by
    simp at h
    subst h
    rfl
  | x :: xs, i, j + 1, v, h => by
    rw [enU, List.getElem?_cons_succ, enU_at xs (i + 1) j v (by simpa using h)]
    rw [show i + 1 + j = i + (j + 1) by omega]
theorem enKU : ∀ {xs : List V} {us : List Value} (i : Nat), Vals xs us → KV (enK i xs) (enU i us)
  | _, _, i, .nil => .nil
  | _, _, i, .cons r t => .cons ⟨rfl, r⟩ (enKU (i + 1) t)
theorem enXD_zl : ∀ {xs : List V} {l : List D} (i : Nat), xs.length = l.length → enXD i l = zlD kD (enK i xs) l
  | [], [], i, _ => rfl
  | [], _ :: _, _, h => by simp at h
  | _ :: _, [], _, h => by simp at h
  | x :: xs, d :: l, i, h => by
    rw [enXD, enXD_zl (xs := xs) (i + 1) (by simpa using h)]
    rfl
section
variable {X : Cx} {e : Expr} {te : TE} {p p2 pos pos2 : Pos}
theorem pe_dictEn (hc : X.calm = true) (hl : Gl X "dict") (ml : X.mg "dict" = none) (hg : Gl X "enumerate") (hm : X.mg "enumerate" = none) (he : PE X e te)
    (hs : starEach [e] X.env = (false, eval e X.env) :: starEach [] X.env := by rfl)
    (ho : starEach [.Call (.Name "enumerate" p2) [e] [] pos2] X.env = (false, eval (.Call (.Name "enumerate" p2) [e] [] pos2) X.env) :: starEach [] X.env := by rfl) :
    PE X (.Call (.Name "dict" p) [.Call (.Name "enumerate" p2) [e] [] pos2] [] pos) (fun σ H Q => te σ H fun x H1 => ∃ a xs, x = .ref a ∧ SqL X.K H1 a xs ∧ ∀ q, H1 q = none → Q (.ref q) (upd H1 q (.dK (mergeK [] (enK 0 xs))))) := by
  refine ⟨fun pins s σ H Q I h => ?_⟩
  refine Call_ (ld_blt I hl ml PyProof.Rows.boot_dict (PyProof.Rows.callWith_type1 (args_cons ?_ ho) ho))
  refine Call_ (ld_blt I hg hm boot_enumerate (PyProof.Rows.callWith_type1 (args_cons (thn (he.run pins s σ H _ I h) fun u s1 ⟨x, H1, I1, r1, q1⟩ => args_nil ?_) hs) hs))
  obtain ⟨a, xs, rfl, hq, q⟩ := q1
  cases r1
  obtain ⟨its, rv, p', hz⟩ := I1.list hq
  refine call_enumerate_list p'.isList fun h' hen hit hsz hk => args_nil ?_
  have I2 : Inv X pins σ H1 { s1 with heap := h' } := I1.kept (t' := s1.toks) hk
  have hlt : a < s1.heap.objs.size := Heap.lt_size p'.isList.choose_spec.1
  refine call_dict_pairs (knd := mixKind X.prog X.w) (kvs := enU 0 its) (PairArg.enumerate (s1.heap.objs.size + 1) s1.heap.objs.size a (Nat.succ_ne_self _) (Nat.ne_of_lt (Nat.lt_succ_of_lt hlt)) (Nat.ne_of_lt hlt) its.toArray) (I2.ok.hd hc) ⟨⟨_, hen⟩, hit, p'.isList.at fun o z => hk _ o z⟩
    ⟨by rw [enU_len]; simp, fun i key v hkv => ?_⟩ (by rw [List.size_toArray, ← rv.length]; exact hz) fun h2 tk hd' k => ?_
  · obtain ⟨⟨t, rfl⟩, ev⟩ := hkv
    refine ⟨.inl ((i : Nat) : Int), ?_, keyIs_int _ t⟩
    have := enU_at its 0 i v (by simpa using ev)
    rw [Nat.zero_add] at this
    exact this
  · have hm : (h'.objs.size == sysModules) = false := beq_eq_false_iff_ne.mpr (Nat.ne_of_gt I2.big)
    have hlen : (mergeK [] (enK 0 xs)).length ≤ sizeLine := by
      refine Nat.le_trans (length_mergeK _ []) ?_
      rw [List.length_nil, Nat.zero_add, enK_len]
      exact hz
    have hge : s1.heap.objs.size ≤ h'.objs.size := by rw [hsz]; exact Nat.le_add_right _ 2
    have k2 : ∀ b o, s1.heap.get? b = some o → h2.get? b = some o := fun b o z => k b o (fun hb => by
      have hb' : b = s1.heap.objs.size + 1 ∨ b = s1.heap.objs.size := by simpa using hb
      have hlt2 := Heap.lt_size z
      rcases hb' with rfl | rfl
      · exact Nat.lt_irrefl _ (Nat.lt_of_succ_lt hlt2)
      · exact Nat.lt_irrefl _ hlt2) (hk b o z)
    exact ⟨.ref h'.objs.size, upd H1 h'.objs.size (.dK (mergeK [] (enK 0 xs))), I1.laid (t' := tk) k2 hge (show ObjOk X.prog X.w _ _ _ (.dK (mergeK [] (enK 0 xs))) from ⟨hlen, hm, merged [] (enU 0 its), KV.merge (enKU 0 rv) .nil, hd'⟩), rfl, q _ (I1.hok.fresh hge)⟩
end
def gDictE : D → Option D
  | .lst _ l => if clL l = true then some (.dct true .k ((enXD 0 l).foldl (fun acc p => ptD .k acc p.1 p.2) [])) else none
  | _ => none
theorem je_dictEn {X : Cx} {W : WX} {a : Expr} {ma : Ex} {p p2 pos pos2 : Pos} (hc : X.calm = true) (hl : Gl X "dict") (ml : X.mg "dict" = none) (hg : Gl X "enumerate") (hm : X.mg "enumerate" = none) (ha : JE X W a ma)
    (hs : starEach [a] X.env = (false, eval a X.env) :: starEach [] X.env := by rfl)
    (ho : starEach [.Call (.Name "enumerate" p2) [a] [] pos2] X.env = (false, eval (.Call (.Name "enumerate" p2) [a] [] pos2) X.env) :: starEach [] X.env := by rfl) :
    JE X W (.Call (.Name "dict" p) [.Call (.Name "enumerate" p2) [a] [] pos2] [] pos) (e1 gDictE ma) :=
  je_of (pe_dictEn hc hl ml hg hm ha hs ho) fun σ H Q h => by
    refine t_e1 (r := fun x H1 Q => ∃ a xs, x = V.ref a ∧ SqL X.K H1 a xs ∧ ∀ q, H1 q = none → Q (.ref q) (upd H1 q (.dK (mergeK [] (enK 0 xs))))) (fun F H d v d' Q fz r e k => ?_) h
    unfold gDictE at e
    split at e
    · split at e
      · rename_i m l hl
        cases e
        obtain ⟨a, xs, S, rfl, h1, h2⟩ := r.lst fz
        have r0 : Rps X.K X.mg F (At H) l ((enK 0 xs).map (·.2)) [] := by
          rw [enK_snd]
          exact h2.rt0 hl
        obtain ⟨ds', e6, r6⟩ := merge_rel kEq_k (kvs := []) (ds := []) r0 .nil
        refine ⟨a, xs, rfl, h1.sq, fun q hq => k _ F _ [q] (Step.own fz hq) ?_⟩
        have e7 : (zlD kD (enK 0 xs) l).foldl (fun acc p => ptD .k acc p.1 p.2) [] = zlD kD (mergeK [] (enK 0 xs)) ds' := e6
        rw [enXD_zl 0 h2.length.symm, e7]
        exact .oK (S := []) (kvs := mergeK [] (enK 0 xs)) (ds := ds') (by show upd H q _ q = _; rw [upd_same]) rfl rfl r6.any
      · cases e
    · cases e
/-! str(a list) -/
def gStrL : List D → Option D
  | [.lst m l] => (toPyR (.lst m l)).bind shownR
  | _ => none
def rStrL (K : PySem.W.Frag) : List V → Hp → VK → Prop := fun xs H Q => ∃ a p, xs = [.ref a] ∧ Dp K H (.ref a) p ∧ p.showable = true ∧ p.shown.length ≤ sizeLine ∧ p.depth ≤ 60 ∧ Q (.str p.shown) H
theorem call_strL {X : Cx} (hgd : X.A.guards = some []) (hu : X.A.units + 65 < cLine) : CallR X (.type "str") (rStrL X.K) := by
  intro pins s σ H vs us Q I rs h
  obtain ⟨a, p, rfl, hd, hs, hz, hdp, q⟩ := h
  cases rs with
  | cons r1 rt =>
    cases rt
    have nd := Dp.noDict hd
    obtain ⟨as, rd⟩ := Dp.reads I p _ _ hd r1
    cases r1
    exact str_of_reads rd hs (PyData.noDict_hsm nd) hgd (by omega) (fun _ _ e => e) (fun h' t tk hk => ⟨.str _, H, I.kept hk, ⟨t, rfl⟩, q⟩) hz
theorem snd_strL {K : PySem.W.Frag} {mg : Mg} : SndN K mg (rStrL K) gStrL := by
  intro F H ds vs d' Q fz rs e k
  unfold gStrL at e
  split at e
  · rename_i m l
    obtain ⟨v, rfl, r1⟩ := rs.one
    have e' : (toPy (.lst m l)).bind shownR = some d' := e
    cases ep : toPy (.lst m l) with
    | none => rw [ep] at e'; cases e'
    | some p =>
      rw [ep, Option.bind_some] at e'
      unfold shownR at e'
      split at e'
      · rename_i hc
        cases e'
        obtain ⟨a, xs, S0, rfl, _⟩ := r1.lst fz
        obtain ⟨S, h1⟩ := r1
        have hd := toPy_dp fz h1 ep
        exact ⟨a, p, rfl, hd, hc.1, by rw [sz]; exact hc.2.1, hc.2.2, k _ F H [] (Step.pure fz) (.str _)⟩
      · cases e'
  · cases e
end DL
/-! DLzw: repr of data in which dicts of atoms stand at any depth; != of a list and one of another length. -/
namespace DL
open PySem PySem.Spec PyProof.Rows L2
mutual
inductive DpX (K : PySem.W.Frag) (H : Hp) : V → PyData → Prop
  | non : DpX K H .non .none
  | bl (b : Bool) : DpX K H (.bl b) (.bool b)
  | int (i : Int) : DpX K H (.int i) (.int i)
  | str (x : Str) : DpX K H (.str x) (.str x)
  | lst {a : Addr} {xs : List V} {ds : List PyData} : SqL K H a xs → DpXs K H xs ds → DpX K H (.ref a) (.list ds)
  | tup {a : Addr} {xs : List V} {ds : List PyData} : SqT K H a xs → DpXs K H xs ds → DpX K H (.ref a) (.tuple ds)
  | dic {v : V} {p : PyData} : DkP H v p → DpX K H v p
inductive DpXs (K : PySem.W.Frag) (H : Hp) : List V → List PyData → Prop
  | nil : DpXs K H [] []
  | cons {v : V} {vs : List V} {d : PyData} {ds : List PyData} : DpX K H v d → DpXs K H vs ds → DpXs K H (v :: vs) (d :: ds)
end
section
variable {X : Cx} {pins : List (Addr × Obj)} {σ : L2.St} {H : Hp} {s : Shared}
theorem DkP.rd (I : Inv X pins σ H s) {v : V} {u : Value} {p : PyData} (h : DkP H v p) (r : RelV v u) : ∃ a, u = .ref a ∧ Reads s.heap (.ref a) p [a] ∧ (a == sysModules) = false := by
  obtain ⟨a, kvs, ps, rfl, hr, rfl, rdk⟩ := h
  obtain ⟨_, hsm, us, hkv, o, es, ep, g, ex, d, _, prs, _⟩ := hr.ok I.hok
  cases r
  obtain ⟨k1, k2⟩ := rdk s.heap es.toList us _ _ hkv prs
  exact ⟨a, rfl, .dict (as := []) (bs := []) g ex.1 d k1 k2, hsm⟩
theorem hsm_one {a : Addr} (h : (a == sysModules) = false) {p : PyData} : p.hasDict = true → sysModules ∉ [a] := fun _ hm => by
  have : sysModules = a := by simpa using hm
  rw [this] at h
  simp at h
mutual
theorem DpX.reads (I : Inv X pins σ H s) : ∀ {d : PyData} {v : V} {u : Value}, DpX X.K H v d → RelV v u → ∃ as, Reads s.heap u d as
  | _, _, _, .non, r => by cases r; exact ⟨_, Reads.none⟩
  | _, _, _, .bl b, r => by cases r; exact ⟨_, Reads.bool b⟩
  | _, _, _, .int i, r => by obtain ⟨t, rfl⟩ := r; exact ⟨_, Reads.int i t⟩
  | _, _, _, .str x, r => by obtain ⟨t, rfl⟩ := r; exact ⟨_, Reads.str x t⟩
  | _, _, _, .lst hs ha, r => by
    cases r
    obtain ⟨its, rv, ⟨o, n, ho, hc, _, hd⟩, _⟩ := I.list hs
    obtain ⟨as, hr⟩ := DpXs.reads I ha rv
    exact ⟨_, Reads.list ho hc hd hr⟩
  | _, _, _, .tup hs ha, r => by
    cases r
    obtain ⟨its, rv, ⟨o, ho, hc, n, hd⟩, _⟩ := I.tuple hs
    obtain ⟨as, hr⟩ := DpXs.reads I ha rv
    exact ⟨_, Reads.tuple ho hc hd hr⟩
  | _, _, _, .dic h, r => by
    obtain ⟨a, rfl, h1, _⟩ := h.rd I r
    exact ⟨_, h1⟩
theorem DpXs.reads (I : Inv X pins σ H s) : ∀ {ds : List PyData} {vs : List V} {us : List Value}, DpXs X.K H vs ds → Vals vs us → ∃ as, ReadsAll s.heap us ds as
  | _, _, _, .nil, r => by cases r; exact ⟨_, ReadsAll.nil⟩
  | _, _, _, .cons h1 h2, r => by
    cases r with
    | cons r1 r2 =>
      obtain ⟨as, q1⟩ := DpX.reads I h1 r1
      obtain ⟨bs, q2⟩ := DpXs.reads I h2 r2
      exact ⟨_, ReadsAll.cons q1 q2⟩
end
mutual
theorem DpX.reprK (I : Inv X pins σ H s) : ∀ {d : PyData} {v : V} {u : Value}, DpX X.K H v d → RelV v u → d.showable = true → d.shown.length ≤ sizeLine → ∃ bs, ReadAtMost s.heap d.depth bs ∧ ReprK X.prog X.w bs s.heap d.depth u d.shown
  | _, _, _, .non, r, hs, hz => by cases r; exact ReprK.of_reads Reads.none hs (PyData.noDict_hsm rfl) hz
  | _, _, _, .bl b, r, hs, hz => by cases r; exact ReprK.of_reads (Reads.bool b) hs (PyData.noDict_hsm rfl) hz
  | _, _, _, .int i, r, hs, hz => by obtain ⟨t, rfl⟩ := r; exact ReprK.of_reads (Reads.int i t) hs (PyData.noDict_hsm rfl) hz
  | _, _, _, .str x, r, hs, hz => by obtain ⟨t, rfl⟩ := r; exact ReprK.of_reads (Reads.str x t) hs (PyData.noDict_hsm rfl) hz
  | _, _, _, .lst (a := a) (ds := ds) hq ha, r, hs, hz => by
    cases r
    obtain ⟨its, rv, ⟨o, n, ho, hc, _, hd⟩, _⟩ := I.list hq
    have hz' : (listText (PyData.shownAll ds)).length ≤ sizeLine := by simpa only [PyData.shown] using hz
    obtain ⟨bs, hb, hk⟩ := DpXs.reprK I ha rv (by simpa [PyData.showable] using hs) (fun t ht => Nat.le_trans (listText_mem_le ht) hz')
    obtain ⟨as, rr⟩ := DpXs.reads I ha rv
    have r : Reads s.heap (.ref a) (.list ds) _ := .list ho hc hd rr
    have hna : a ∉ bs := not_mem_of_deeper r (by simp only [PyData.depth]; omega) hb
    refine ⟨a :: bs, ReadAtMost.cons r (by simp only [PyData.depth]; omega) hb, ?_⟩
    simp only [PyData.depth, PyData.shown]
    cases its with
    | nil =>
      cases rr
      simp only [PyData.shownAll, listText_nil]
      exact ReprK.listEmpty ho hc hd
    | cons x l => exact ReprK.list ho hc hd hna (by simpa using hk.length_eq) (fun i y e => hk.item i y (by simpa using e))
  | _, _, _, .tup (a := a) (ds := ds) hq ha, r, hs, hz => by
    cases r
    obtain ⟨its, rv, ⟨o, ho, hc, n, hd⟩, _⟩ := I.tuple hq
    have hz' : (tupleText (PyData.shownAll ds)).length ≤ sizeLine := by simpa only [PyData.shown] using hz
    obtain ⟨bs, hb, hk⟩ := DpXs.reprK I ha rv (by simpa [PyData.showable] using hs) (fun t ht => Nat.le_trans (tupleText_mem_le ht) hz')
    obtain ⟨as, rr⟩ := DpXs.reads I ha rv
    have r : Reads s.heap (.ref a) (.tuple ds) _ := .tuple ho hc hd rr
    have hna : a ∉ bs := not_mem_of_deeper r (by simp only [PyData.depth]; omega) hb
    refine ⟨a :: bs, ReadAtMost.cons r (by simp only [PyData.depth]; omega) hb, ?_⟩
    simp only [PyData.depth, PyData.shown]
    exact ReprK.tuple ho hc hd hna hk
  | _, _, _, .dic h, r, hs, hz => by
    obtain ⟨a, rfl, h1, h2⟩ := h.rd I r
    exact ReprK.of_reads h1 hs (hsm_one h2) hz
theorem DpXs.reprK (I : Inv X pins σ H s) : ∀ {ds : List PyData} {vs : List V} {us : List Value}, DpXs X.K H vs ds → Vals vs us → PyData.showableAll ds = true → (∀ t ∈ PyData.shownAll ds, t.length ≤ sizeLine) →
    ∃ bs, ReadAtMost s.heap (PyData.depthAll ds) bs ∧ ReprAllK X.prog X.w bs s.heap (PyData.depthAll ds) us (PyData.shownAll ds)
  | _, _, _, .nil, r, _, _ => by cases r; exact ⟨[], (fun _ h => nomatch h), by simp only [PyData.shownAll]; exact .nil⟩
  | _, _, _, .cons (d := d) (ds := ds) h1 h2, r, hs, hz => by
    cases r with
    | cons r1 r2 =>
      have hs' : d.showable = true ∧ PyData.showableAll ds = true := by simpa [PyData.showableAll] using hs
      obtain ⟨b1, hb1, k1⟩ := DpX.reprK I h1 r1 hs'.1 (hz _ (by simp only [PyData.shownAll]; exact List.mem_cons_self ..))
      obtain ⟨b2, hb2, k2⟩ := DpXs.reprK I h2 r2 hs'.2 (fun t ht => hz t (by simp only [PyData.shownAll]; exact List.mem_cons_of_mem _ ht))
      refine ⟨b1 ++ b2, ?_, ?_⟩
      · intro b hm
        simp only [PyData.depthAll]
        rcases List.mem_append.mp hm with hm | hm
        · obtain ⟨d', as', r', hd'⟩ := hb1 b hm
          exact ⟨d', as', r', Nat.le_trans hd' (Nat.le_max_left _ _)⟩
        · obtain ⟨d', as', r', hd'⟩ := hb2 b hm
          exact ⟨d', as', r', Nat.le_trans hd' (Nat.le_max_right _ _)⟩
      · simp only [PyData.depthAll, PyData.shownAll]
        exact .cons ((k1.more fun b hb => List.mem_append_left _ hb).level_le (Nat.le_max_left _ _)) (k2.more_le (fun b hb => List.mem_append_right _ hb) (Nat.le_max_right _ _))
end
theorem DpX.shows (I : Inv X pins σ H s) {d : PyData} {a : Addr} (h : DpX X.K H (.ref a) d) (hs : d.showable = true) (hz : d.shown.length ≤ sizeLine) : ∃ T idr, ShowsBy X.prog X.w s.heap a d T idr := by
  cases h with
  | @lst _ xs ds hq ha =>
    obtain ⟨its, rv, ⟨o, n, ho, hc, _, hd⟩, _⟩ := I.list hq
    have hz' : (listText (PyData.shownAll ds)).length ≤ sizeLine := by simpa only [PyData.shown] using hz
    obtain ⟨bs, hb, hk⟩ := DpXs.reprK I ha rv (by simpa [PyData.showable] using hs) (fun t ht => Nat.le_trans (listText_mem_le ht) hz')
    obtain ⟨as, rr⟩ := DpXs.reads I ha rv
    have r : Reads s.heap (.ref a) (.list ds) _ := .list ho hc hd rr
    have hna : a ∉ bs := not_mem_of_deeper r (by simp only [PyData.depth]; omega) hb
    refine ⟨"list", "list.__repr__", F.slot_list_repr.toG, F.slot_list_str, F.slot_list_format, fun s hk0 => ⟨o, hk0 _ _ ho, hc⟩, fun A E s Q hg hu hk0 hQ => ?_⟩
    simp only [PyData.depth] at hu
    simp only [PyData.shown] at hQ
    cases its with
    | nil =>
      cases rr
      simp only [PyData.shownAll, listText_nil] at hQ
      exact call_list_repr_empty ⟨o, hk0 _ _ ho, hc⟩ (hk0 _ _ ho) hd (hQ s.heap _ _ fun _ _ e => e)
    | cons x l =>
      exact call_list_reprK ho hc hd hna (by simpa using hk.length_eq) (fun i y e => hk.item i y (by simpa using e)) hg (fun b _ => Clear.nil b) hu hk0 hQ hz'
  | @tup _ xs ds hq ha =>
    obtain ⟨its, rv, ⟨o, ho, hc, n, hd⟩, _⟩ := I.tuple hq
    have hz' : (tupleText (PyData.shownAll ds)).length ≤ sizeLine := by simpa only [PyData.shown] using hz
    obtain ⟨bs, hb, hk⟩ := DpXs.reprK I ha rv (by simpa [PyData.showable] using hs) (fun t ht => Nat.le_trans (tupleText_mem_le ht) hz')
    obtain ⟨as, rr⟩ := DpXs.reads I ha rv
    have r : Reads s.heap (.ref a) (.tuple ds) _ := .tuple ho hc hd rr
    have hna : a ∉ bs := not_mem_of_deeper r (by simp only [PyData.depth]; omega) hb
    refine ⟨"tuple", "tuple.__repr__", F.slot_tuple_repr, F.slot_tuple_str, F.slot_tuple_format, fun s hk0 => ⟨o, hk0 _ _ ho, hc⟩, fun A E s Q hg hu hk0 hQ => ?_⟩
    simp only [PyData.depth] at hu
    simp only [PyData.shown] at hQ
    exact call_tuple_reprK ho hc hd hna hk hg (fun b _ => Clear.nil b) hu hk0 hQ hz'
  | dic h =>
    obtain ⟨a', e, h1, h2⟩ := h.rd I (u := .ref a) rfl
    cases e
    exact showsBy_of_reads h1 hs (hsm_one h2) hz
end
def rReprX (K : PySem.W.Frag) : List V → Hp → VK → Prop := fun xs H Q => ∃ v p, xs = [v] ∧ DpX K H v p ∧ p.showable = true ∧ p.shown.length ≤ sizeLine ∧ p.depth ≤ 60 ∧ Q (.str p.shown) H
theorem call_reprX {X : Cx} (hgd : X.A.guards = some []) (hu : X.A.units + 65 < cLine) : CallR X (.builtin "repr") (rReprX X.K) := by
  intro pins s σ H vs us Q I rs h
  obtain ⟨v, p, rfl, hd, hs, hz, hdp, q⟩ := h
  cases rs with
  | cons r1 rt =>
    rename_i u ut
    cases rt
    have fin : ∀ (a : Addr), v = .ref a → u = .ref a → wpAny (model X.prog X.w) X.A (call (.builtin "repr") [u]) (EP X pins σ Q) X.xe s := fun a e1 e2 => by
      subst e1 e2
      obtain ⟨T, idr, S⟩ := DpX.shows I hd hs hz
      exact call_repr_slot (by omega) (S.typeIs s fun _ _ e => e) S.slotRepr (S.call X.A.in1 X.xe s _ hgd (by show X.A.units + 1 + p.depth < cLine; omega) (fun _ _ e => e) fun h' t tk hk => ⟨_, _, rfl, ⟨.str _, H, I.kept hk, ⟨t, rfl⟩, q⟩⟩)
    cases hd with
    | non =>
      cases r1
      exact P.repr_of_none ⟨.str _, H, I.tok _, ⟨_, rfl⟩, q⟩
    | bl b =>
      cases r1
      exact P.repr_of_bool ⟨.str _, H, I.tok _, ⟨_, rfl⟩, q⟩
    | int i =>
      obtain ⟨t, rfl⟩ := r1
      exact P.repr_of_int (of_decide_eq_true hs) ⟨.str _, H, I.tok _, ⟨_, rfl⟩, q⟩
    | str x =>
      obtain ⟨t, rfl⟩ := r1
      exact P.repr_of_str ⟨.str _, H, I.tok _, ⟨_, rfl⟩, q⟩ hz
    | lst h1 h2 =>
      cases r1
      exact fin _ rfl rfl
    | tup h1 h2 =>
      cases r1
      exact fin _ rfl rfl
    | dic h =>
      obtain ⟨a, kvs, ps, rfl, _⟩ := id h
      cases r1
      exact fin _ rfl rfl
mutual
def toPyX : D → Option PyData
  | .non => some .none
  | .bl b => some (.bool b)
  | .int i => some (.int i)
  | .str x => some (.str x)
  | .lst _ l => (toPyXs l).map .list
  | .tup l => (toPyXs l).map .tuple
  | .dct _ .k l => (kvP l).map .dict
  | _ => none
def toPyXs : List D → Option (List PyData)
  | [] => some []
  | d :: r => (toPyX d).bind fun p => (toPyXs r).map (p :: ·)
end
def gReprX : List D → Option D
  | [d] => (toPyX d).bind shownR
  | _ => none
section
variable {K : PySem.W.Frag} {mg : Mg} {F H : Hp}
theorem dct_dkp (fz : FzOk F H) {m : Bool} {l : List (D × D)} {v : V} {S : List Addr} {p : PyData} (r : Rp K mg F (Rt H) (.dct m .k l) v S) (e : toPyX (.dct m .k l) = some p) : DkP H v p := by
  have e' : (kvP l).map PyData.dict = some p := e
  cases el : kvP l with
  | none => rw [el] at e'; cases e'
  | some ps =>
    rw [el] at e'
    cases e'
    have r1 : Rb K mg F H (.dct m .k l) v := ⟨S, r⟩
    obtain ⟨a, S, rfl, hh⟩ := r1.dct fz
    rcases hh with ⟨_, kvs, ds, rfl, hr, hs⟩ | ⟨ht, _⟩
    · exact ⟨a, kvs, ps, rfl, hr, rfl, kvP_reads kvs ds S ps hs el⟩
    · cases ht
mutual
theorem toPyX_dp (fz : FzOk F H) : ∀ {d : D} {v : V} {S : List Addr} {p : PyData}, Rp K mg F (Rt H) d v S → toPyX d = some p → DpX K H v p
  | _, _, _, _, .non, e => by cases e; exact .non
  | _, _, _, _, .bl b, e => by cases e; exact .bl b
  | _, _, _, _, .int i, e => by cases e; exact .int i
  | _, _, _, _, .str x, e => by cases e; exact .str x
  | _, _, _, _, .ty n, e => by cases e
  | _, _, _, _, .gl _, e => by cases e
  | _, _, _, _, .exc _ _, e => by cases e
  | _, _, _, _, .tup (ds := ds) h hs, e => by
    rw [toPyX] at e
    cases el : toPyXs ds with
    | none => rw [el] at e; cases e
    | some l => rw [el] at e; cases e; exact .tup (h.at fz) (toPyX_dpL fz hs el)
  | _, _, _, _, .kt _ _, e => by cases e
  | _, _, _, _, .fl (ds := ds) h hs, e => by
    rw [toPyX] at e
    cases el : toPyXs ds with
    | none => rw [el] at e; cases e
    | some l => rw [el] at e; cases e; exact .lst (h.at fz) (toPyX_dpL fz hs el)
  | _, _, _, _, .ol (ds := ds) h hs, e => by
    rw [toPyX] at e
    cases el : toPyXs ds with
    | none => rw [el] at e; cases e
    | some l => rw [el] at e; cases e; exact .lst (.inl h) (toPyX_dpL fz hs el)
  | _, _, _, _, .fK a b c d, e => .dic (dct_dkp fz (.fK a b c d) e)
  | _, _, _, _, .oK a b c d, e => .dic (dct_dkp fz (.oK a b c d) e)
  | _, _, _, _, .fT _ _ _ _, e => by cases e
  | _, _, _, _, .oT _ _ _ _, e => by cases e
theorem toPyX_dpL (fz : FzOk F H) : ∀ {ds : List D} {vs : List V} {S : List Addr} {ps : List PyData}, Rps K mg F (Rt H) ds vs S → toPyXs ds = some ps → DpXs K H vs ps
  | _, _, _, _, .nil, e => by cases e; exact .nil
  | _, _, _, _, .cons (d := d) (ds := ds) h hs, e => by
    rw [toPyXs] at e
    cases ea : toPyX d with
    | none => rw [ea] at e; cases e
    | some p =>
      cases eb : toPyXs ds with
      | none => rw [ea, eb] at e; cases e
      | some ps => rw [ea, eb] at e; cases e; exact .cons (toPyX_dp fz h ea) (toPyX_dpL fz hs eb)
end
theorem snd_reprX : SndN K mg (rReprX K) gReprX := by
  intro F H ds vs d' Q fz rs e k
  unfold gReprX at e
  split at e
  · rename_i d
    obtain ⟨v, rfl, r1⟩ := rs.one
    cases ep : toPyX d with
    | none => rw [ep] at e; cases e
    | some p =>
      rw [ep, Option.bind_some] at e
      unfold shownR at e
      split at e
      · rename_i hc
        cases e
        obtain ⟨S, h1⟩ := r1
        exact ⟨v, p, rfl, toPyX_dp fz h1 ep, hc.1, by rw [sz]; exact hc.2.1, hc.2.2, k _ F H [] (Step.pure fz) (.str _)⟩
      · cases e
  · cases e
end
/-! != of a list and one that is longer or shorter -/
def rNeLen (K : PySem.W.Frag) : R2 := fun x y H Q => ∃ a b xs ys, x = .ref a ∧ y = .ref b ∧ SqL K H a xs ∧ SqL K H b ys ∧ xs.length ≠ ys.length ∧ Q (.bl true) H
theorem op_neLen {X : Cx} (hu : X.A.units + 65 < cLine) : OpR X (compareOp .NotEq) (rNeLen X.K) := by
  intro pins s σ H x y v u Q I rx ry h
  obtain ⟨a, b, xs, ys, rfl, rfl, h1, h2, hn, q⟩ := h
  cases rx
  cases ry
  obtain ⟨its, rv, p1, _⟩ := I.list h1
  obtain ⟨its2, rv2, p2, _⟩ := I.list h2
  have e1 := rv.length
  have e2 := rv2.length
  exact SeqAt.RcNeAt.lists_lengths p1.isList p2.isList (by rw [List.size_toArray, List.size_toArray, ← e1, ← e2]; exact bne_iff_ne.mpr hn) (by omega) X.prog X.w _ _ ⟨.bl _, H, I, rfl, q⟩
/-- != where the other one is an empty list -/
def gNeL : D → D → Option D
  | .lst _ (_ :: _), .lst _ [] => some (.bl true)
  | d1, d2 => gNe d1 d2
def rNeX (K : PySem.W.Frag) : R2 := fun x y H Q => rNeLen K x y H Q ∨ rNe1 K x y H Q
theorem op_neX {X : Cx} (hu : X.A.units + 65 < cLine) : OpR X (compareOp .NotEq) (rNeX X.K) := OpR.or (op_neLen hu) (op_ne1 hu)
theorem snd_neX {K : PySem.W.Frag} {mg : Mg} : Snd2 K mg (rNeX K) gNeL := by
  intro F H d1 d2 v1 v2 d' Q fz r1 r2 e k
  unfold gNeL at e
  split at e
  · rename_i m x l m'
    cases e
    obtain ⟨a, xs, S, rfl, h1, h2⟩ := r1.lst fz
    obtain ⟨b, ys, S', rfl, h3, h4⟩ := r2.lst fz
    refine .inl ⟨a, b, xs, ys, rfl, rfl, h1.sq, h3.sq, ?_, k _ F H [] (Step.pure fz) (.bl _)⟩
    rw [← h2.length, ← h4.length]
    simp
  · exact .inr (snd_ne F H d1 d2 v1 v2 d' Q fz r1 r2 e k)
end DL
/-! DLzx: how long a shown thing is, dicts of atoms at any depth; dict(enumerate(..)) as data. -/
namespace DL
open PySem PySem.Spec PyProof.Rows L2
def ShX (n k : Nat) (d : D) : Prop := ∃ p, toPyX d = some p ∧ p.showable = true ∧ p.shown.length ≤ n ∧ p.depth ≤ k
def ShXs (n k : Nat) (ds : List D) : Prop := ∃ ps, toPyXs ds = some ps ∧ PyData.showableAll ps = true ∧ (PyData.shownAll ps).length = ds.length ∧ (∀ t ∈ PyData.shownAll ps, t.length ≤ n) ∧ PyData.depthAll ps ≤ k
theorem shXs_of {n k : Nat} : ∀ {ds : List D}, (∀ d ∈ ds, ShX n k d) → ShXs n k ds
  | [], _ => ⟨[], rfl, rfl, rfl, fun t h => (by cases h), Nat.zero_le _⟩
  | d :: r, h => by
    obtain ⟨p, e1, e2, e3, e4⟩ := h d List.mem_cons_self
    obtain ⟨ps, f1, f2, f3, f4, f5⟩ := shXs_of fun x hx => h x (List.mem_cons_of_mem d hx)
    refine ⟨p :: ps, ?_, ?_, ?_, ?_, ?_⟩
    · rw [toPyXs, e1, f1]
      rfl
    · rw [PyData.showableAll, e2, f2]
      rfl
    · rw [PyData.shownAll, List.length_cons, f3, List.length_cons]
    · intro t ht
      rw [PyData.shownAll] at ht
      rcases List.mem_cons.mp ht with rfl | ht
      · exact e3
      · exact f4 t ht
    · rw [PyData.depthAll]
      exact Nat.max_le.mpr ⟨e4, f5⟩
theorem shX_lst {n k : Nat} {m : Bool} {ds : List D} (h : ShXs n k ds) : ShX (2 + ds.length * (n + 2)) (k + 1) (.lst m ds) := by
  obtain ⟨ps, f1, f2, f3, f4, f5⟩ := h
  refine ⟨.list ps, by rw [toPyX, f1]; rfl, by rw [PyData.showable]; exact f2, ?_, by rw [PyData.depth]; omega⟩
  rw [PyData.shown, ← f3]
  exact listText_le f4
theorem shX_tup {n k : Nat} {ds : List D} (h : ShXs n k ds) : ShX (3 + ds.length * (n + 2)) (k + 1) (.tup ds) := by
  obtain ⟨ps, f1, f2, f3, f4, f5⟩ := h
  refine ⟨.tuple ps, by rw [toPyX, f1]; rfl, by rw [PyData.showable]; exact f2, ?_, by rw [PyData.depth]; omega⟩
  rw [PyData.shown, ← f3]
  exact tupleText_le f4
theorem ShX.mono {n k n' k' : Nat} {d : D} (h : ShX n k d) (h1 : n ≤ n') (h2 : k ≤ k') : ShX n' k' d := by
  obtain ⟨p, e1, e2, e3, e4⟩ := h
  exact ⟨p, e1, e2, by omega, by omega⟩
theorem int_show {i : Int} (h : i.natAbs.log2 < 140) : (PyData.int i).showable = true ∧ (PyData.int i).shown.length ≤ 150 := by
  refine ⟨decide_eq_true (by omega), ?_⟩
  have := int_text_length_le (a := i) (k := 140) (by omega) h
  show (Str.ofString (toString i)).length ≤ 150
  rw [PySem.ofString_length]
  omega
theorem shX_int {i : Int} (h : i.natAbs.log2 < 140) : ShX 150 0 (.int i) := ⟨.int i, rfl, (int_show h).1, (int_show h).2, Nat.le_refl _⟩
def shXB (n k : Nat) (d : D) : Bool := match toPyX d with
  | some p => p.showable && (Nat.ble p.shown.length n && Nat.ble p.depth k)
  | none => false
theorem shX_B {n k : Nat} {d : D} (h : shXB n k d = true) : ShX n k d := by
  unfold shXB at h
  split at h
  · rename_i p hp
    simp only [Bool.and_eq_true] at h
    exact ⟨p, hp, h.1, Nat.ble_eq.mp h.2.1, Nat.ble_eq.mp h.2.2⟩
  · cases h
theorem gReprX_sh {n k : Nat} {d : D} (h : ShX n k d) (h1 : n ≤ 16777216) (h2 : k ≤ 60) : ∃ x, gReprX [d] = some (.str x) := by
  obtain ⟨p, e1, e2, e3, e4⟩ := h
  exact ⟨p.shown, by rw [gReprX, e1, Option.bind_some, shownR, if_pos ⟨e2, by omega, by omega⟩]⟩
theorem gStrL_sh {n k : Nat} {m : Bool} {l : List D} (h : ShT n k (.lst m l)) (h1 : n ≤ 16777216) (h2 : k ≤ 60) : ∃ x : Str, gStrL [.lst m l] = some (.str x) ∧ x.length ≤ n := by
  obtain ⟨p, e1, e2, e3, e4, _⟩ := h
  have e : toPyR (.lst m l) = some p := e1
  exact ⟨p.shown, by rw [gStrL, e, Option.bind_some, shownR, if_pos ⟨e2, by omega, by omega⟩], e3⟩
/-! dicts -/
theorem dictText_le {n : Nat} {ts : List Str} (h : ∀ t ∈ ts, t.length ≤ n) : (dictText ts).length ≤ 2 + ts.length * (n + 2) := by
  have h1 := piled_le h
  have e : (dictText ts).length = 1 + (Str.join ", " ts).length + 1 := by
    unfold dictText
    rw [strLen_append, strLen_append]
    rfl
  by_cases z : ts = []
  · subst z
    rw [e]
    have : (Str.join ", " ([] : List Str)).length = 0 := rfl
    omega
  · have h2 := join_length_add ts z
    omega
def prI (l : List (Int × Int)) : List (D × D) := l.map fun p => (.int p.1, .int p.2)
def prP (l : List (Int × Int)) : List (PyData × PyData) := l.map fun p => (.int p.1, .int p.2)
theorem kvP_prI : ∀ l : List (Int × Int), kvP (prI l) = some (prP l)
  | [] => rfl
  | p :: l => by
    have ih : kvP (List.map (fun p => (D.int p.1, D.int p.2)) l) = some (prP l) := kvP_prI l
    unfold prI
    rw [List.map_cons, kvP, ih]
    rfl
theorem prP_ok : ∀ l : List (Int × Int), (∀ p ∈ l, p.1.natAbs.log2 < 140 ∧ p.2.natAbs.log2 < 140) → PyData.showableKv (prP l) = true ∧ (PyData.shownKv (prP l)).length = l.length ∧ (∀ t ∈ PyData.shownKv (prP l), t.length ≤ 302) ∧ PyData.depthKv (prP l) = 0
  | [], _ => ⟨rfl, rfl, fun t h => (by cases h), rfl⟩
  | p :: l, h => by
    obtain ⟨i1, i2, i3, i4⟩ := prP_ok l fun q hq => h q (List.mem_cons_of_mem _ hq)
    obtain ⟨a1, a2⟩ := h p List.mem_cons_self
    obtain ⟨b1, b2⟩ := int_show a1
    obtain ⟨c1, c2⟩ := int_show a2
    have e : prP (p :: l) = (.int p.1, .int p.2) :: prP l := rfl
    rw [e]
    refine ⟨?_, ?_, ?_, ?_⟩
    · rw [PyData.showableKv, b1, c1, i1]
      rfl
    · rw [PyData.shownKv, List.length_cons, i2, List.length_cons]
    · intro t ht
      rw [PyData.shownKv] at ht
      rcases List.mem_cons.mp ht with rfl | ht
      · rw [strLen_append, strLen_append]
        have : ((": " : String) : Str).length = 2 := rfl
        omega
      · exact i3 t ht
    · rw [PyData.depthKv, i4]
      rfl
theorem shX_prI {m : Bool} {l : List (Int × Int)} (h : ∀ p ∈ l, p.1.natAbs.log2 < 140 ∧ p.2.natAbs.log2 < 140) : ShX (2 + l.length * 304) 1 (.dct m .k (prI l)) := by
  obtain ⟨i1, i2, i3, i4⟩ := prP_ok l h
  refine ⟨.dict (prP l), by rw [toPyX, kvP_prI]; rfl, by rw [PyData.showable]; exact i1, ?_, by rw [PyData.depth, i4]; exact Nat.le_refl _⟩
  rw [PyData.shown, ← i2]
  exact dictText_le i3
theorem enXD_fold : ∀ (l : List D) (i : Nat) (acc : List (D × D)), (∀ p ∈ acc, ∃ j : Nat, p.1 = .int (j : Nat) ∧ j < i) → (enXD i l).foldl (fun acc p => ptD .k acc p.1 p.2) acc = acc ++ enXD i l
  | [], i, acc, _ => by rw [enXD, List.append_nil]; rfl
  | d :: l, i, acc, h => by
    have e : ptD .k acc (.int ((i : Nat) : Int)) d = acc ++ [(.int ((i : Nat) : Int), d)] := by
      unfold ptD
      rw [if_neg]
      intro z
      obtain ⟨p, hp, hk⟩ := List.any_eq_true.mp z
      obtain ⟨j, ej, hj⟩ := h p hp
      rw [ej] at hk
      have : kEq .k (kD (.inl ((j : Nat) : Int))) (kD (.inl ((i : Nat) : Int))) = true := hk
      rw [kEq_k, decide_eq_true_eq] at this
      have := Sum.inl.inj this
      omega
    rw [enXD, List.foldl_cons]
    show (enXD (i + 1) l).foldl (fun acc p => ptD .k acc p.1 p.2) (ptD .k acc (.int ((i : Nat) : Int)) d) = _
    rw [e]
    have q := enXD_fold l (i + 1) (acc ++ [(.int ((i : Nat) : Int), d)]) (fun p hp => by
      rcases List.mem_append.mp hp with hp | hp
      · obtain ⟨j, ej, hj⟩ := h p hp
        exact ⟨j, ej, by omega⟩
      · rw [List.mem_singleton.mp hp]
        exact ⟨i, rfl, by omega⟩)
    rw [List.append_assoc] at q
    exact q
def enIx : Nat → List Int → List (Int × Int)
  | _, [] => []
  | i, x :: xs => (((i : Nat) : Int), x) :: enIx (i + 1) xs
theorem enIx_len : ∀ (l : List Int) (i : Nat), (enIx i l).length = l.length
  | [], _ => rfl
  | _ :: l, i => by rw [enIx, List.length_cons, enIx_len l, List.length_cons]
theorem enXD_lI : ∀ (l : List Int) (i : Nat), enXD i (lI l) = prI (enIx i l)
  | [], _ => rfl
  | x :: l, i => by
    have := enXD_lI l (i + 1)
    rw [lI_cons, enXD, this]
    rfl
theorem enIx_mem : ∀ (l : List Int) (i : Nat) (p : Int × Int), p ∈ enIx i l → 0 ≤ p.1 ∧ p.1 < (i + l.length : Nat) ∧ p.2 ∈ l
  | [], _, _, h => by cases h
  | x :: l, i, p, h => by
    rw [enIx] at h
    rcases List.mem_cons.mp h with rfl | h
    · refine ⟨by show (0 : Int) ≤ (i : Int); omega, by rw [List.length_cons]; show (i : Int) < _; omega, List.mem_cons_self⟩
    · obtain ⟨a, b, c⟩ := enIx_mem l (i + 1) p h
      exact ⟨a, by rw [List.length_cons]; omega, List.mem_cons_of_mem _ c⟩
theorem gDictE_at {m : Bool} (l : List Int) : gDictE (.lst m (lI l)) = some (.dct true .k (prI (enIx 0 l))) := by
  have := enXD_fold (lI l) 0 [] (fun p hp => by cases hp)
  rw [List.nil_append, enXD_lI] at this
  rw [gDictE, if_pos (clL_lI l), enXD_lI, this]
end DL
/-! DLzy: dict(a list of pairs), the keys tuples; xs.extend(a new list). -/
namespace DL
open PySem PySem.Spec PyProof.Rows L2
abbrev TrQ := List L2.Key × Addr × V
abbrev TrP := List L2.Key × Addr × Value
def rDictT (K : PySem.W.Frag) : List V → Hp → VK → Prop := fun xs H Q => ∃ (a : Addr) (ps : List Addr) (qs : List TrQ), xs = [.ref a] ∧ SqL K H a (ps.map V.ref) ∧ Paired (fun p (q : TrQ) => SqT K H p [.ref q.2.1, q.2.2] ∧ H q.2.1 = some (.tup (q.1.map kV))) ps qs ∧
    ∀ p, H p = none → Q (.ref p) (upd H p (.dT (qs.foldl (fun acc q => putK acc q.1 q.2.2) [])))
def PrQ : TrQ → TrP → Prop := fun q pr => q.1 = pr.1 ∧ q.2.1 = pr.2.1 ∧ RelV q.2.2 pr.2.2
section
variable {X : Cx} {pins : List (Addr × Obj)} {σ : L2.St} {H : Hp} {s : Shared}
theorem pairsT_of (I : Inv X pins σ H s) : ∀ {ps : List Addr} {qs : List TrQ}, Paired (fun p (q : TrQ) => SqT X.K H p [.ref q.2.1, q.2.2] ∧ H q.2.1 = some (.tup (q.1.map kV))) ps qs →
    ∃ prs : List TrP, Paired PrQ qs prs ∧ prs.length = ps.length ∧ ∀ (j : Nat) (pr : TrP), prs[j]? = some pr → ∃ b, ps[j]? = some b ∧ s.heap.IsTuple b #[.ref pr.2.1, pr.2.2]
  | _, _, .nil => ⟨[], .nil, rfl, fun j q e => by simp at e⟩
  | _, _, .cons (a := p) (b := q) h t => by
    obtain ⟨prs, r, hl, hp⟩ := pairsT_of I t
    obtain ⟨its, rv, ht, _⟩ := I.tuple h.1
    obtain ⟨u, y, ei, ru, ry⟩ := vals2 rv
    subst ei
    cases ru
    refine ⟨(q.1, q.2.1, y) :: prs, .cons ⟨rfl, rfl, ry⟩ r, by rw [List.length_cons, List.length_cons, hl], fun j pr e => ?_⟩
    cases j with
    | zero =>
      have e' : (q.1, q.2.1, y) = pr := Option.some.inj e
      subst e'
      obtain ⟨o, ho, hc, n, hd⟩ := ht
      exact ⟨p, rfl, o, ho, hc, n, hd⟩
    | succ j =>
      obtain ⟨b, e1, e2⟩ := hp j pr (by simpa using e)
      exact ⟨b, by simpa using e1, e2⟩
theorem KT_all {H : Hp} {qs : List TrQ} {prs : List TrP} (h : Paired PrQ qs prs) : ∀ {kvs : List (List L2.Key × V)} {xs : List TrP}, (∀ q ∈ qs, H q.2.1 = some (.tup (q.1.map kV))) → KT H kvs xs → KT H (qs.foldl (fun acc q => putK acc q.1 q.2.2) kvs) (storedAllH xs prs) := by
  induction h with
  | nil => exact fun _ r => r
  | @cons q pr qs prs h t ih =>
    intro kvs xs hb r
    obtain ⟨h1, h2, h3⟩ := h
    have h4 := hb q List.mem_cons_self
    have e : storedAllH xs (pr :: prs) = storedAllH (storedH xs pr.1 pr.2.1 pr.2.2) prs := rfl
    rw [List.foldl_cons, e]
    refine ih (fun q hq => hb q (List.mem_cons_of_mem _ hq)) ?_
    rw [← h1, ← h2]
    exact r.put q.1 h4 h3
theorem pr_keys {H : Hp} {K : PySem.W.Frag} {ps : List Addr} {qs : List TrQ} (h : Paired (fun p (q : TrQ) => SqT K H p [.ref q.2.1, q.2.2] ∧ H q.2.1 = some (.tup (q.1.map kV))) ps qs) : ∀ q ∈ qs, H q.2.1 = some (.tup (q.1.map kV)) := by
  induction h with
  | nil => intro q h; cases h
  | cons h t ih =>
    intro q hm
    rcases List.mem_cons.mp hm with rfl | hm
    · exact h.2
    · exact ih q hm
theorem pr_is {H : Hp} {P : Program} {w : World} {h : Heap} (ok : HOk P w H h) {qs : List TrQ} {prs : List TrP} (r : Paired PrQ qs prs) : (∀ q ∈ qs, H q.2.1 = some (.tup (q.1.map kV))) → ∀ x ∈ prs, (tupleKind (mixKind P w)).is h x.1 x.2.1 := by
  induction r with
  | nil => intro _ x h; cases h
  | @cons q pr qs prs h t ih =>
    intro hb x hm
    rcases List.mem_cons.mp hm with rfl | hm
    · rw [← h.1, ← h.2.1]
      exact key_of ok (hb q List.mem_cons_self)
    · exact ih (fun q hq => hb q (List.mem_cons_of_mem _ hq)) x hm
theorem foldl_putK_len : ∀ (qs : List TrQ) (kvs : List (List L2.Key × V)), (qs.foldl (fun acc q => putK acc q.1 q.2.2) kvs).length ≤ kvs.length + qs.length
  | [], _ => Nat.le_refl _
  | q :: qs, kvs => by
    rw [List.foldl_cons, List.length_cons]
    have h1 := foldl_putK_len qs (putK kvs q.1 q.2.2)
    have h2 : (putK kvs q.1 q.2.2).length ≤ kvs.length + 1 := by
      unfold putK
      split <;> simp
    omega
theorem call_dictT {X : Cx} (hcalm : X.calm = true) (hu : X.A.units + 65 < cLine) : CallR X (.type "dict") (rDictT X.K) := by
  intro pins s σ H xs us Q I r q
  obtain ⟨a, ps, qs, ex, hq, hp, q⟩ := q
  subst ex
  obtain ⟨u, eu, rx⟩ := vals1 r
  subst eu
  cases rx
  obtain ⟨its, rv, pl, hz⟩ := I.list hq
  have ei := refs_at rv
  subst ei
  rw [List.length_map] at hz
  obtain ⟨prs, rel, hl, hpr⟩ := pairsT_of I hp
  have hb := pr_keys hp
  have hkey := pr_is I.hok rel hb
  have hn : qs.length = ps.length := by rw [← hl, rel.length]
  have pl' : PlainSeq "list" s.heap a (ps.map Value.ref).toArray := by
    obtain ⟨o, n, ho, hc, hd, hdat⟩ := pl
    exact ⟨o, n, ho, hc, hd, hdat⟩
  refine call_dict_pairsH (knd := tupleKind (mixKind X.prog X.w)) (ps := prs) (PairArg.list a (ps.map Value.ref).toArray (fun j => ps.getD j 0) (prs.map fun pr => (.ref pr.2.1, pr.2.2))) (I.ok.hd hcalm) (by show X.A.units + 1 + 1 < cLine; omega) ⟨pl', by simp [hl], fun j k v e => ?_⟩ ⟨by simp, fun i key v e => ?_⟩ (fun h' hk x hx => ?_) (by rw [List.length_map, hl]; exact hz) fun h' tk hd' k => ?_
  · rw [List.getElem?_map] at e
    cases e1 : prs[j]? with
    | none => rw [e1] at e; cases e
    | some pr =>
      rw [e1] at e
      cases e
      obtain ⟨b, e2, e3⟩ := hpr j pr e1
      have e4 : ps.getD j 0 = b := by rw [List.getD_eq_getElem?_getD, e2]; rfl
      show (List.map Value.ref ps).toArray[j]? = some (Value.ref (ps.getD j 0)) ∧ PairAt s.heap (ps.getD j 0) _ _
      rw [e4]
      exact ⟨by simp [e2], .inl e3⟩
  · have e' : (prs.map fun pr => (Value.ref pr.2.1, pr.2.2))[i]? = some (key, v) := e
    rw [List.getElem?_map] at e'
    cases e1 : prs[i]? with
    | none => rw [e1] at e'; cases e'
    | some pr =>
      rw [e1] at e'
      cases e'
      exact ⟨pr.1, pr.2.1, rfl, rfl⟩
  · exact tupleKind_stays.stays (fun b o vs n e _ => hk b o (Nat.ne_of_lt (Heap.lt_size e)) (by simp) e) (hkey x hx)
  · have hm : (s.heap.objs.size == sysModules) = false := beq_eq_false_iff_ne.mpr (Nat.ne_of_gt I.big)
    have hlen : (qs.foldl (fun acc q => putK acc q.1 q.2.2) ([] : List (List L2.Key × V))).length ≤ sizeLine := by
      refine Nat.le_trans (foldl_putK_len qs []) ?_
      rw [List.length_nil, Nat.zero_add, hn]
      exact hz
    obtain ⟨o, es, ep, h1, h2, h3, h4, _, h5⟩ := hd'
    have kt := KT_all (xs := []) rel hb .nil
    have kt' : KT (upd H s.heap.objs.size (.dT (qs.foldl (fun acc q => putK acc q.1 q.2.2) []))) (qs.foldl (fun acc q => putK acc q.1 q.2.2) []) (storedAllH [] prs) := kt.keeps fun b ys e => by rw [upd_ne (ne_of_none e (I.hok.fresh (Nat.le_refl _)))]; exact e
    exact ⟨.ref s.heap.objs.size, upd H s.heap.objs.size (.dT (qs.foldl (fun acc q => putK acc q.1 q.2.2) [])), I.laid (t' := tk) (fun b o e => k b o (by simp) e) (Nat.le_refl _) (show ObjOk X.prog X.w _ _ _ (.dT _) from ⟨hlen, hm, storedAllH [] prs, kt', o, es, ep, h1, h2, h3, h4, h5⟩), rfl, q _ (I.hok.fresh (Nat.le_refl _))⟩
end
def trOf : D → Option (D × D)
  | .tup [k, v] => if (isKey .t k && v.cl) = true then some (k, v) else none
  | _ => none
def trsL : List D → Option (List (D × D))
  | [] => some []
  | d :: r => (trOf d).bind fun p => (trsL r).map (p :: ·)
def gDictT : List D → Option D
  | [.lst _ l] => (trsL l).map fun ps => .dct true .t (ps.foldl (fun acc p => ptD .t acc p.1 p.2) [])
  | _ => none
section
variable {K : PySem.W.Frag} {mg : Mg} {F H : Hp}
theorem trs_rel (fz : FzOk F H) : ∀ {l : List D} {vs : List V} {S : List Addr} {ps : List (D × D)}, Rps K mg F (Rt H) l vs S → trsL l = some ps →
    ∃ (as : List Addr) (qs : List TrQ) (dm : List D), vs = as.map V.ref ∧ Paired (fun p (q : TrQ) => SqT K H p [.ref q.2.1, q.2.2] ∧ H q.2.1 = some (.tup (q.1.map kV))) as qs ∧ ps = zlD tD (qs.map fun q => (q.1, q.2.2)) dm ∧ Rps K mg F (At H) dm ((qs.map fun q => (q.1, q.2.2)).map (·.2)) []
  | [], _, _, _, h, e => by
    cases h
    cases e
    exact ⟨[], [], [], rfl, .nil, rfl, .nil⟩
  | d :: l, _, _, _, h, e => by
    cases h with
    | cons h1 h2 =>
      rw [trsL] at e
      cases ep : trOf d with
      | none => rw [ep] at e; cases e
      | some q =>
        cases er : trsL l with
        | none => rw [ep, er] at e; cases e
        | some qs =>
          rw [ep, er] at e
          cases e
          obtain ⟨as, kvs, dm, rfl, pr, rfl, rm⟩ := trs_rel fz h2 er
          unfold trOf at ep
          split at ep
          · rename_i k v
            split at ep
            · rename_i hc
              cases ep
              rw [Bool.and_eq_true] at hc
              cases h1 with
              | tup hf hs =>
                cases hs with
                | @cons _ _ y _ _ _ r1 hs =>
                  cases hs with
                  | @cons _ _ w _ _ _ r2 hs =>
                    cases hs
                    obtain ⟨j, ej⟩ := Option.isSome_iff_exists.mp (show (keyT k).isSome = true from hc.1)
                    obtain ⟨b, rfl, eb⟩ := Rb.keyT fz ⟨_, r1⟩ ej
                    have ek := keyT_eq ej
                    subst ek
                    have e2 := r2.clean hc.2
                    subst e2
                    exact ⟨_ :: as, (j, b, w) :: kvs, v :: dm, rfl, .cons ⟨hf.at fz, eb⟩ pr, rfl, .cons (S := []) (T := []) r2.any rm⟩
            · cases ep
          · cases ep
theorem fold_map (qs : List TrQ) : ∀ acc : List (List L2.Key × V), (qs.map fun q => (q.1, q.2.2)).foldl (fun acc kv => putK acc kv.1 kv.2) acc = qs.foldl (fun acc q => putK acc q.1 q.2.2) acc := by
  induction qs with
  | nil => exact fun _ => rfl
  | cons q qs ih =>
    intro acc
    rw [List.map_cons, List.foldl_cons, List.foldl_cons, ih]
theorem snd_dictT : SndN K mg (rDictT K) gDictT := by
  intro F H ds vs d' Q fz rs e k
  unfold gDictT at e
  split at e
  · rename_i m l
    cases ep : trsL l with
    | none => rw [ep] at e; cases e
    | some ps =>
      rw [ep] at e
      cases e
      obtain ⟨v, rfl, r1⟩ := rs.one
      obtain ⟨a, xs, S, rfl, h1, h2⟩ := r1.lst fz
      obtain ⟨as, qs, dm, rfl, pr, rfl, rm⟩ := trs_rel fz h2 ep
      obtain ⟨ds', e6, r6⟩ := merge_rel kEq_t (kvs := []) (ds := []) rm .nil
      rw [fold_map] at e6 r6
      refine ⟨a, as, qs, rfl, h1.sq, pr, fun p hp => k _ F _ [p] (Step.own fz hp) ?_⟩
      have e7 : (zlD tD (qs.map fun q => (q.1, q.2.2)) dm).foldl (fun acc p => ptD .t acc p.1 p.2) [] = zlD tD (qs.foldl (fun acc q => putK acc q.1 q.2.2) []) ds' := e6
      show Rp K mg F _ (.dct true .t ((zlD tD (qs.map fun q => (q.1, q.2.2)) dm).foldl (fun acc p => ptD .t acc p.1 p.2) [])) (.ref p) [p]
      rw [e7]
      exact .oT (S := []) (kvs := qs.foldl (fun acc q => putK acc q.1 q.2.2) []) (ds := ds') (by show upd H p _ p = _; rw [upd_same]) rfl rfl r6.any
  · cases e
end
/-! xs.extend(a new list) -/
def mExtend : D → List D → Option (D × D)
  | .lst true l, [.lst true m] => if l.length + m.length ≤ 16777216 then some (.lst true (l ++ m), .non) else none
  | _, _ => none
section
variable {K : PySem.W.Frag} {mg : Mg}
theorem sm_extend : SndM K mg rExtend mExtend := by
  intro F H d x S1 ds vs U q Q fz nf nd r rs e k
  unfold mExtend at e
  split at e
  · split at e
    · rename_i hl
      cases e
      cases r with
      | @ol a xs l S0 h1 h2 =>
        cases rs with
        | @cons d0 _ v0 _ Sa Sb r0 r1 =>
          cases r1
          cases r0 with
          | @ol b zs m S2 h3 h4 =>
            rw [List.append_nil] at nd k
            obtain ⟨c1, c2⟩ := ne_cells (H := H) (o := .lst (xs ++ zs)) nd
            refine ⟨a, b, xs, zs, rfl, rfl, h1, h3, by rw [← h2.length, ← h4.length, sz]; exact hl, ?_⟩
            refine k .non a _ (a :: (S0 ++ S2)) [] List.mem_cons_self (by intro _ z; cases z) (.ol (by show upd H a _ a = _; rw [upd_same]) ?_) .non fun z => ?_
            · exact Rps.append (h2.mono (Sub.refl F) c1) (h4.mono (Sub.refl F) fun y hy => c2 y (List.mem_cons_of_mem _ hy))
            · simp only [List.count_cons, List.count_append, List.count_nil]
              omega
    · cases e
  · cases e
end
end DL
namespace DL
open PySem PySem.Spec PyProof.Rows L2
/- _law_draw(well, many): slots 0 well, 1 many, 2 got, 3 stirred -/
def b_law_draw : Sta := (sSeq (sIf (e2 gGt (e2 gIx (eV 0) (eC (.int 0))) (eC (.int 0))) (sSeq (sSet 2 (e2 gMod (e2 gIx (eV 0) (eC (.int 0))) (eV 1)))
  (sSeq (sAsgG (tgSb 0 (eC (.int 0))) (e2 gFdiv (e2 gIx (eV 0) (eC (.int 0))) (eV 1)))
  (sRet (eV 2)))) sNil)
  (sSeq (sSet 3 (e2 gMod (e2 gAdd (e2 gMul (e2 gIx (eV 0) (eC (.int 1))) (eC (.int 48271))) (eC (.int 11))) (eC (.int 2147483647))))
  (sSeq (sSet 3 (e2 gMod (e2 gMul (eV 3) (eV 3)) (eC (.int 2147483587))))
  (sSeq (sAsgG (tgSb 0 (eC (.int 1))) (e2 gMod (e2 gAdd (e2 gMul (eV 3) (eC (.int 69621))) (eC (.int 40692))) (eC (.int 2147483629))))
  (sRet (e2 gMod (e2 gFdiv (e2 gIx (eV 0) (eC (.int 1))) (eC (.int 8))) (eV 1)))))))
def f_law_draw : Fn := mkFn 2 4 b_law_draw
/- _law_reach(well): slots 0 well -/
def b_law_reach : Sta := (sRet (eTup [(eFz (eCall f_law_draw [(eV 0), (eC (.int 4))])), (eFz (eCall f_law_draw [(eV 0), (eC (.int 4))]))]))
def f_law_reach : Fn := mkFn 1 1 b_law_reach
/- _law_steps(reach, stand): slots 0 reach, 1 stand, 2 place, 3 there, 4 some, 5 found, 6 thing, 7 one -/
def e_law_steps_0 : Ex := (eFz (e2 gAdd (eV 2) (eV 7)))
def e_law_steps_1 : Ex := (e2 gSub (e2 gSub (eV 7) (eV 2)) (eC (.int 1)))
def c_law_steps_2 : Ex := (e2 gNe (eV 7) (eV 6))
def l_law_steps_3 : Sta := (sExpr (eMut 5 mAppend [(eFz (eTup [(e2 gSub (eV 6) (eV 2)), (eFz (eN gTuple [(eLc (sOf itemsOf (eV 3)) (.nm 7) [7] c_law_steps_2 e_law_steps_1)]))]))]))
def b_law_steps : Sta := (sSeq (sSet 2 (eC (.int 100)))
  (sSeq (sSet 3 (e2 gAdd (eLc (sOf itemsOf (eV 1)) (.nm 7) [7] (eC (.bl true)) e_law_steps_0) (eLst [(eFz (e2 gAdd (eV 2) (e2 gIx (eV 0) (eC (.int 0)))))])))
  (sSeq (sSet 4 (eV 3))
  (sSeq (sIf (e2 gIn (e2 gSub (eV 2) (e2 gIx (eV 0) (eC (.int 1)))) (eSl (eV 3) none (some (e1 gNeg (eC (.int 1)))))) (sSet 4 (eLst [(e2 gSub (eV 2) (e2 gIx (eV 0) (eC (.int 1))))])) sNil)
  (sSeq (sSet 5 (eLst []))
  (sSeq (sFor (sOf itemsOf (eV 4)) (.nm 6) l_law_steps_3)
  (sRet (eV 5))))))))
def f_law_steps : Fn := mkFn 2 8 b_law_steps
/- _law_rows(reach, stand, steps): slots 0 reach, 1 stand, 2 steps, 3 ends, 4 turn, 5 later, 6 one, 7 put, 8 behind -/
def e_law_rows_0 : Ex := (eV 8)
def l_law_rows_1 : Sta := (sExpr (eMut 5 mExtend [(eLc (sOf itemsOf (eCall f_law_steps [(eV 0), (eV 6)])) (.tp [7, 8]) [7, 8] (eC (.bl true)) e_law_rows_0)]))
def l_law_rows_2 : Sta := (sSeq (sSet 5 (eLst []))
  (sSeq (sFor (sOf itemsOf (eV 3)) (.nm 6) l_law_rows_1)
  (sSet 3 (eV 5))))
def b_law_rows : Sta := (sSeq (sSet 3 (eLst [(eV 1)]))
  (sSeq (sFor (sRgF rg1 [(eV 2)]) (.nm 4) l_law_rows_2)
  (sRet (eV 3))))
def f_law_rows : Fn := mkFn 3 9 b_law_rows
/- _law_stands(reach): slots 0 reach, 1 rows, 2 turn, 3 longer, 4 row, 5 one -/
def l_law_stands_0 : Sta := (sExpr (eMut 3 mAppend [(eFz (e2 gAdd (eV 4) (eTup [(eV 5)])))]))
def l_law_stands_1 : Sta := (sFor (sRgF rg2 [(e2 gAdd (e2 gIx (e2 gAdd (eSl (eV 4) (some (e1 gNeg (eC (.int 1)))) none) (eTup [(e2 gSub (e2 gSub (eC (.int 0)) (e2 gIx (eV 0) (eC (.int 1)))) (eC (.int 1)))])) (eC (.int 0))) (eC (.int 1))), (e2 gIx (eV 0) (eC (.int 0)))]) (.nm 5) l_law_stands_0)
def l_law_stands_2 : Sta := (sSeq (sSet 3 (eLst []))
  (sSeq (sFor (sOf itemsOf (eV 1)) (.nm 4) l_law_stands_1)
  (sSet 1 (eV 3))))
def b_law_stands : Sta := (sSeq (sSet 1 (eLst [(eTup [])]))
  (sSeq (sFor (sRgF rg1 [(e2 gIx (eV 0) (eC (.int 0)))]) (.nm 2) l_law_stands_2)
  (sRet (eN gSortA [(eV 1)]))))
def f_law_stands : Fn := mkFn 1 6 b_law_stands
/- _law_table(reach, one, steps): slots 0 reach, 1 one, 2 steps, 3 stands, 4 ways, 5 turn, 6 later, 7 stand, 8 put, 9 behind -/
def e_law_table_0 : Ex := (eTup [(eV 7), (eN gInt [(e2 gEq (eV 7) (eV 1))])])
def e_law_table_1 : Ex := (e2 gIxA (eV 4) (eV 9))
def l_law_table_2 : Sta := (sAsgG (tgDb 6 (eV 7)) (eN gSum [(eLc (sOf itemsOf (eCall f_law_steps [(eV 0), (eV 7)])) (.tp [8, 9]) [8, 9] (eC (.bl true)) e_law_table_1)]))
def l_law_table_3 : Sta := (sSeq (sSet 6 (eDnew .t))
  (sSeq (sFor (sOf itemsOf (eV 3)) (.nm 7) l_law_table_2)
  (sSet 4 (eV 6))))
def b_law_table : Sta := (sSeq (sSet 3 (eCall f_law_stands [(eV 0)]))
  (sSeq (sSet 4 (eN gDictT [(eLc (sOf itemsOf (eV 3)) (.nm 7) [7] (eC (.bl true)) e_law_table_0)]))
  (sSeq (sFor (sRgF rg1 [(eV 2)]) (.nm 5) l_law_table_3)
  (sRet (eV 4)))))
def f_law_table : Fn := mkFn 3 10 b_law_table
/- _law_well(cell): slots 0 cell -/
def b_law_well : Sta := (sSeq (sIf (e2 gGe (eV 0) (e2 gPow (eC (.int 10)) (eC (.int 18)))) (sRet (eLst [(eV 0), (e2 gMod (eV 0) (eC (.int 2147483629)))])) sNil)
  (sRet (eLst [(eC (.int 0)), (e2 gMod (eV 0) (eC (.int 2147483629)))])))
def f_law_well : Fn := mkFn 1 1 b_law_well
/- is_whole_stands(thing, least, most): slots 0 thing, 1 least, 2 most -/
def b_is_whole_stands : Sta := (sRet (eAnd (eN gIsi [(eV 0), (eC (.ty "int"))]) (eAnd (eNot (eN gIsi [(eV 0), (eC (.ty "bool"))])) (eChain gLe gLe (eV 1) (eV 0) (eV 2)))))
def f_is_whole_stands : Fn := mkFn 3 3 b_is_whole_stands
/- need_many(many): slots 0 many -/
def b_need_many : Sta := (sIf (eNot (eCall f_is_whole_stands [(eV 0), (eC (.int 0)), (eC (.int 40))])) (sRaise "NoNumber") sNil)
def f_need_many : Fn := mkFn 1 1 b_need_many
/- is_whole(thing, low, high): slots 0 thing, 1 low, 2 high -/
def b_is_whole : Sta := (sRet (eAnd (eN gIsi [(eV 0), (eC (.ty "int"))]) (eAnd (eNot (eN gIsi [(eV 0), (eC (.ty "bool"))])) (eChain gLe gLe (eV 1) (eV 0) (eV 2)))))
def f_is_whole : Fn := mkFn 3 3 b_is_whole
/- is_reach(thing): slots 0 thing -/
def b_is_reach : Sta := (sSeq (sIf (eOr (eNot (eN gIsi [(eV 0), (eC (.ty "tuple"))])) (e2 gNe (eN gLen [(eV 0)]) (eC (.int 2)))) (sRet (eC (.bl false))) sNil)
  (sRet (eAnd (eCall f_is_whole [(e2 gIx (eV 0) (eC (.int 0))), (eC (.int 0)), (eC (.int 3))]) (eCall f_is_whole [(e2 gIx (eV 0) (eC (.int 1))), (eC (.int 0)), (eC (.int 3))]))))
def f_is_reach : Fn := mkFn 1 1 b_is_reach
/- need_reach(thing): slots 0 thing -/
def b_need_reach : Sta := (sIf (eNot (eCall f_is_reach [(eV 0)])) (sRaise "NoReach") sNil)
def f_need_reach : Fn := mkFn 1 1 b_need_reach
/- first_stand(reach): slots 0 reach -/
def b_first_stand : Sta := (sRet (e1 gTRg1 (e2 gIx (eV 0) (eC (.int 0)))))
def f_first_stand : Fn := mkFn 1 1 b_first_stand
/- puts_of(reach, stand): slots 0 reach, 1 stand, 2 left, 3 right -/
def b_puts_of : Sta := (sSeq (sAsgG (tgTp [(tgNm 2), (tgNm 3)]) (eV 0))
  (sSeq (sIf (e2 gEq (eSl (eV 1) none (some (eC (.int 1)))) (eTup [(e2 gSub (eC (.int 0)) (eV 3))])) (sRet (eLst [(e2 gIx (eV 1) (eC (.int 0)))])) sNil)
  (sRet (e2 gAdd (eN gList [(eV 1)]) (eLst [(eV 2)])))))
def f_puts_of : Fn := mkFn 2 4 b_puts_of
/- step_behind(reach, stand, put): slots 0 reach, 1 stand, 2 put, 3 one -/
def e_step_behind_0 : Ex := (e2 gSub (eV 3) (eC (.int 1)))
def c_step_behind_1 : Ex := (e2 gNe (eV 3) (eV 2))
def b_step_behind : Sta := (sRet (eN gTuple [(eLc (sOf itemsOf (e2 gAdd (eV 1) (eTup [(e2 gIx (eV 0) (eC (.int 0)))]))) (.nm 3) [3] c_step_behind_1 e_step_behind_0)]))
def f_step_behind : Fn := mkFn 3 4 b_step_behind
/- found_stands(reach): slots 0 reach, 1 known, 2 pile, 3 stand, 4 put, 5 behind -/
def l_found_stands_0 : Sta := (sSeq (sSet 5 (eCall f_step_behind [(eV 0), (eV 3), (eV 4)]))
  (sIf (e2 gNotInA (eV 5) (eV 1)) (sSeq (sAsgG (tgDb 1 (eV 5)) (eC (.bl true)))
  (sExpr (eMut 2 mAppend [(eV 5)]))) sNil))
def c_found_stands_1 : Ex := (e2 gNe (eV 2) (eLst []))
def l_found_stands_2 : Sta := (sSeq (sSet 3 (eMut 2 mPop []))
  (sFor (sOf itemsOf (eCall f_puts_of [(eV 0), (eV 3)])) (.nm 4) l_found_stands_0))
def b_found_stands : Sta := (sSeq (sSet 1 (eDisp .t [((eFz (eCall f_first_stand [(eV 0)])), (eC (.bl true)))]))
  (sSeq (sSet 2 (eLst [(eFz (eCall f_first_stand [(eV 0)]))]))
  (sSeq (sWhile 100000 c_found_stands_1 l_found_stands_2)
  (sRet (eN gSortA [(eV 1)])))))
def f_found_stands : Fn := mkFn 1 6 b_found_stands
/- need_stand(reach, stand): slots 0 reach, 1 stand, 2 left, 3 right, 4 one -/
def e_need_stand_0 : Ex := (eV 4)
def c_need_stand_1 : Ex := (eNot (eCall f_is_whole_stands [(eV 4), (e2 gSub (eC (.int 0)) (eV 3)), (e2 gSub (eV 2) (eC (.int 1)))]))
def b_need_stand : Sta := (sSeq (sAsgG (tgTp [(tgNm 2), (tgNm 3)]) (eV 0))
  (sSeq (sIf (eOr (eNot (eN gIsi [(eV 1), (eC (.ty "tuple"))])) (e2 gNe (eLc (sOf itemsOf (eV 1)) (.nm 4) [4] c_need_stand_1 e_need_stand_0) (eLst []))) (sRaise "NoStand") sNil)
  (sIf (e2 gNotIn (eV 1) (eCall f_found_stands [(eV 0)])) (sRaise "NoStand") sNil)))
def f_need_stand : Fn := mkFn 2 5 b_need_stand
/- ways_of(reach, one, steps): slots 0 reach, 1 one, 2 steps, 3 ways, 4 turn, 5 later, 6 stand, 7 many, 8 put, 9 behind -/
def l_ways_of_0 : Sta := (sSeq (sSet 9 (eCall f_step_behind [(eV 0), (eV 6), (eV 8)]))
  (sAsgG (tgDb 5 (eV 9)) (eFz (e2 gAdd (eDGet (eV 5) (eV 9) (eC (.int 0))) (eV 7)))))
def l_ways_of_1 : Sta := (sFor (sOf itemsOf (eCall f_puts_of [(eV 0), (eV 6)])) (.nm 8) l_ways_of_0)
def l_ways_of_2 : Sta := (sSeq (sSet 5 (eDnew .t))
  (sSeq (sForD 3 prsOf (.tp [6, 7]) l_ways_of_1)
  (sSet 3 (eV 5))))
def b_ways_of : Sta := (sSeq (sSet 3 (eDisp .t [((eV 1), (eC (.int 1)))]))
  (sSeq (sFor (sRgF rg1 [(eV 2)]) (.nm 4) l_ways_of_2)
  (sRet (eV 3))))
def f_ways_of : Fn := mkFn 3 10 b_ways_of
/- ways_between(reach, one, other, steps): slots 0 reach, 1 one, 2 other, 3 steps -/
def b_ways_between : Sta := (sSeq (sExpr (eCall f_need_reach [(eV 0)]))
  (sSeq (sExpr (eCall f_need_stand [(eV 0), (eV 1)]))
  (sSeq (sExpr (eCall f_need_stand [(eV 0), (eV 2)]))
  (sSeq (sExpr (eCall f_need_many [(eV 3)]))
  (sRet (eDGet (eCall f_ways_of [(eV 0), (eV 1), (eV 3)]) (eV 2) (eC (.int 0))))))))
def f_ways_between : Fn := mkFn 4 4 b_ways_between
/- law(script): slots 0 script, 1 cell, 2 well, 3 reach, 4 stands, 5 one, 6 other, 7 steps, 8 due, 9 turn, 10 found, 11 part, 12 parts, 13 stand, 14 k -/
def e_law_0 : Ex := (e2 gIxA (eV 4) (eCall f_law_draw [(eV 2), (eN gLenA [(eV 4)])]))
def l_law_1 : Sta := (sSeq (sSet 10 (eCall f_ways_between [(eV 3), (eV 5), (eV 6), (eV 7)]))
  (sIf (eOr (eNot (eN gIsi [(eV 10), (eC (.ty "int"))])) (eOr (eN gIsi [(eV 10), (eC (.ty "bool"))]) (e2 gNe (eV 10) (eV 8)))) (sRet (eC (.bl false))) sNil))
def l_law_2 : Sta := (sExpr (eMut 12 mAppend [(eFz (e2 gMul (eCall f_ways_between [(eV 3), (eV 5), (eV 13), (eV 11)]) (eCall f_ways_between [(eV 3), (eV 13), (eV 6), (e2 gSub (eV 7) (eV 11))])))]))
def l_law_3 : Sta := (sSeq (sSet 2 (eCall f_law_well [(eV 1)]))
  (sSeq (sSet 3 (eCall f_law_reach [(eV 2)]))
  (sSeq (sSet 4 (eCall f_law_stands [(eV 3)]))
  (sSeq (sAsgG (tgUn [(tgNm 5), (tgNm 6)]) (eLc (sRgF rg1 [(eC (.int 2))]) (.nm 14) [14] (eC (.bl true)) e_law_0))
  (sSeq (sSet 7 (e2 gIxA (eLst [(eFz (eCall f_law_draw [(eV 2), (eC (.int 5))])), (eFz (eCall f_law_draw [(eV 2), (eC (.int 41))])), (eC (.int 40))]) (eCall f_law_draw [(eV 2), (eC (.int 3))])))
  (sSeq (sSet 8 (e2 gIxA (eCall f_law_table [(eV 3), (eV 6), (eV 7)]) (eV 5)))
  (sSeq (sIf (eAnd (e2 gLt (eV 7) (eC (.int 5))) (e2 gNe (eMeth gCntD (eCall f_law_rows [(eV 3), (eV 5), (eV 7)]) [(eV 6)]) (eV 8))) (sRet (eC (.bl false))) sNil)
  (sSeq (sFor (sRgF rg1 [(eC (.int 2))]) (.nm 9) l_law_1)
  (sSeq (sSet 11 (eCall f_law_draw [(eV 2), (e2 gAdd (eV 7) (eC (.int 1)))]))
  (sSeq (sSet 12 (eLst []))
  (sSeq (sFor (sOf itemsOf (eV 4)) (.nm 13) l_law_2)
  (sIf (e2 gNe (eN gSum [(eV 12)]) (eV 8)) (sRet (eC (.bl false))) sNil))))))))))))
def b_law : Sta := (sSeq (sFor (sOf itemsOf (e2 gAdd (eLst [(eC (.int 0)), (eC (.int 5))]) (eSl (eV 0) none (some (eC (.int 10)))))) (.nm 1) l_law_3)
  (sRet (eC (.bl true))))
def f_law : Fn := mkFn 1 15 b_law
end DL
namespace DL
open PySem PySem.Spec PyProof.Rows L2
/-! stands, steps, ways -/
def putsI (a b : Int) (st : List Int) : List Int := if st.take 1 = [-b] then st.take 1 else st ++ [a]
def behI (a : Int) (st : List Int) (put : Int) : List Int := ((st ++ [a]).filter fun x => decide (x ≠ put)).map fun x => x - 1
theorem rchD_at (a b : Int) : gIx (rchD a b) (.int 0) = some (.int a) ∧ gIx (rchD a b) (.int 1) = some (.int b) := ⟨rfl, rfl⟩
theorem first_eq {a : Nat} (ha : a ≤ 3) (b : Int) : f_first_stand [.sl .O (rchD a b)] = .ok (.tup (lI (rgI a))) [.un] := by
  have h1 := gTRg1_at (n := a) (by omega)
  have h2 := (rchD_at a b).1
  simp (disch := first | omega | simp) [-List.map_replicate, mkFn, sSeq, sSet, sRet, sRetN, sIf, sNil, sExpr, sAsgG, sAug, sFor, tgSb, tgNm, tgTp, tgL, putI, noX, eV, eC, e1, e2, eN, eChain, eAnd, eOr, eNot, eIf, eFz, eTup, eLst, eSl, evO, eLc, lcRun, wpC, wp, rst, unlT, unlR, unl, eCall, eMut, eMeth, isL, evA, mkArgs, backs, put0, put1, put2, rd, rds, mv, mvs, setS, setL, asg, fin, outs, out1, opt, Res.bind, sOf, srcAt, srcS, srcV, srcO, itemsOf, D.cl, clL, clL_lI, D.fz, fzL, fzL_lI, gAdd_at, gSub_at, gMul_sm, gFdiv_at, gMod_at, gLt_at, gLe_at, gGt_at, gGe_at, gNeg_at, gEq_at, gNe_at, gEq_nn, gNe_nn, gEq_nil, gNe_nil, gEq_lst, gNe_lst, gEq_tup, gNe_tup, gEq_bl, gNe_bl, gIsi_ii, gIsi_ib, gIsi_bb, gIsi_ll, gIsi_tt, gIxA, gInA, gNotInA, gStA, gStT, sForD, noXs, unlR, tgDb, eDGet, eDGet1, eDnew, eDisp, flatP, pairD, isDc, f_first_stand, b_first_stand, h1, h2]
theorem puts_eq {a b : Int} {st : List Int} (hl : st.length ≤ 500) : f_puts_of [.sl .O (rchD a b), .sl .O (enS st)] = .ok (.lst true (lI (putsI a b st))) [.un, .un] := by
  have h1 : gSl (.tup (lI st)) none (some 1) = some (.tup (lI (st.take 1))) := by rw [gSl_tI, cut1]
  have h2 : gEq (.tup (lI (st.take 1))) (.tup [.int (-b)]) = some (.bl (decide (st.take 1 = [-b]))) := gEq_tup (ys := [-b])
  have h3 := gList_tI st
  have h4 := gAdd_l1 (m := true) (m' := true) (a := st) (x := a) (by omega)
  by_cases c : st.take 1 = [-b]
  · obtain ⟨x, r, rfl⟩ : ∃ x r, st = x :: r := by
      cases st with
      | nil => cases c
      | cons x r => exact ⟨x, r, rfl⟩
    have c' : x = -b := by simpa using c
    subst c'
    have h5 : gIx (.tup (lI (-b :: r))) (.int 0) = some (.int (-b)) := gIx_tup (by omega) (by rw [List.length_cons]; omega) rfl
    have e : putsI a b (-b :: r) = [-b] := by rw [putsI, if_pos c]; rfl
    have h6 : lI [-b] = [.int (-b)] := rfl
    have h2 : gEq (.tup [.int (-b)]) (.tup [.int (-b)]) = some (.bl true) := by
      rw [← h6, gEq_tup]
      simp
    have h1 : gSl (.tup (lI (-b :: r))) none (some 1) = some (.tup (lI [-b])) := h1
    rw [e]
    simp (disch := first | omega | simp) [-List.map_replicate, mkFn, sSeq, sSet, sRet, sRetN, sIf, sNil, sExpr, sAsgG, sAug, sFor, tgSb, tgNm, tgTp, tgL, putI, noX, eV, eC, e1, e2, eN, eChain, eAnd, eOr, eNot, eIf, eFz, eTup, eLst, eSl, evO, eLc, lcRun, wpC, wp, rst, unlT, unlR, unl, eCall, eMut, eMeth, isL, evA, mkArgs, backs, put0, put1, put2, rd, rds, mv, mvs, setS, setL, asg, fin, outs, out1, opt, Res.bind, sOf, srcAt, srcS, srcV, srcO, itemsOf, D.cl, clL, clL_lI, D.fz, fzL, fzL_lI, gAdd_at, gSub_at, gMul_sm, gFdiv_at, gMod_at, gLt_at, gLe_at, gGt_at, gGe_at, gNeg_at, gEq_at, gNe_at, gEq_nn, gNe_nn, gEq_nil, gNe_nil, gEq_lst, gNe_lst, gEq_tup, gNe_tup, gEq_bl, gNe_bl, gIsi_ii, gIsi_ib, gIsi_bb, gIsi_ll, gIsi_tt, gIxA, gInA, gNotInA, gStA, gStT, sForD, noXs, unlR, tgDb, eDGet, eDGet1, eDnew, eDisp, flatP, pairD, isDc, f_puts_of, b_puts_of, enS, h1, h2, h5, h6]
  · have e : putsI a b st = st ++ [a] := by rw [putsI, if_neg c]
    rw [e]
    simp (disch := first | omega | simp) [-List.map_replicate, mkFn, sSeq, sSet, sRet, sRetN, sIf, sNil, sExpr, sAsgG, sAug, sFor, tgSb, tgNm, tgTp, tgL, putI, noX, eV, eC, e1, e2, eN, eChain, eAnd, eOr, eNot, eIf, eFz, eTup, eLst, eSl, evO, eLc, lcRun, wpC, wp, rst, unlT, unlR, unl, eCall, eMut, eMeth, isL, evA, mkArgs, backs, put0, put1, put2, rd, rds, mv, mvs, setS, setL, asg, fin, outs, out1, opt, Res.bind, sOf, srcAt, srcS, srcV, srcO, itemsOf, D.cl, clL, clL_lI, D.fz, fzL, fzL_lI, gAdd_at, gSub_at, gMul_sm, gFdiv_at, gMod_at, gLt_at, gLe_at, gGt_at, gGe_at, gNeg_at, gEq_at, gNe_at, gEq_nn, gNe_nn, gEq_nil, gNe_nil, gEq_lst, gNe_lst, gEq_tup, gNe_tup, gEq_bl, gNe_bl, gIsi_ii, gIsi_ib, gIsi_bb, gIsi_ll, gIsi_tt, gIxA, gInA, gNotInA, gStA, gStT, sForD, noXs, unlR, tgDb, eDGet, eDGet1, eDnew, eDisp, flatP, pairD, isDc, f_puts_of, b_puts_of, enS, h1, h2, h3, h4, c]
def fBe (put : Int) : D → Option D
  | .int x => if decide (x ≠ put) = true then some (.int (x - 1)) else none
  | _ => none
theorem be_map (put : Int) (l : List Int) : (lI l).filterMap (fBe put) = lI ((l.filter fun x => decide (x ≠ put)).map fun x => x - 1) := by
  induction l with
  | nil => rfl
  | cons x l ih =>
    rw [lI_cons, List.filterMap_cons, List.filter_cons, fBe]
    by_cases h : decide (x ≠ put) = true
    · rw [if_pos h, if_pos h, List.map_cons, lI_cons, ← ih]
    · rw [if_neg h, if_neg h, ← ih]
theorem behind_lc {put : Int} (l : List Int) (hl : l.length ≤ 1000) (s0 s1 : Sl) : lcL (.nm 3) [3] c_step_behind_1 e_step_behind_0 (lI l) [s0, s1, .sl .O (.int put), .un] [] = .ok (lI ((l.filter fun x => decide (x ≠ put)).map fun x => x - 1)) [s0, s1, .sl .O (.int put), .un] := by
  have hs : ∀ d ∈ lI l, lcStep (.nm 3) [3] c_step_behind_1 e_step_behind_0 d [s0, s1, .sl .O (.int put), .un] = .ok (fBe put d) [s0, s1, .sl .O (.int put), .un] := by
    intro d hd
    obtain ⟨x, hx, rfl⟩ := mem_lI.mp hd
    by_cases h1 : x = put
    · simp (disch := first | omega | simp) [-List.map_replicate, mkFn, sSeq, sSet, sRet, sRetN, sIf, sNil, sExpr, sAsgG, sAug, sFor, tgSb, tgNm, tgTp, tgL, putI, noX, eV, eC, e1, e2, eN, eChain, eAnd, eOr, eNot, eIf, eFz, eTup, eLst, eSl, evO, eLc, lcRun, wpC, wp, rst, unlT, unlR, unl, eCall, eMut, eMeth, isL, evA, mkArgs, backs, put0, put1, put2, rd, rds, mv, mvs, setS, setL, asg, fin, outs, out1, opt, Res.bind, sOf, srcAt, srcS, srcV, srcO, itemsOf, D.cl, clL, clL_lI, D.fz, fzL, fzL_lI, gAdd_at, gSub_at, gMul_sm, gFdiv_at, gMod_at, gLt_at, gLe_at, gGt_at, gGe_at, gNeg_at, gEq_at, gNe_at, gEq_nn, gNe_nn, gEq_nil, gNe_nil, gEq_lst, gNe_lst, gEq_tup, gNe_tup, gEq_bl, gNe_bl, gIsi_ii, gIsi_ib, gIsi_bb, gIsi_ll, gIsi_tt, gIxA, gInA, gNotInA, gStA, gStT, sForD, noXs, unlR, tgDb, eDGet, eDGet1, eDnew, eDisp, flatP, pairD, isDc, lcStep, c_step_behind_1, e_step_behind_0, h1, fBe]
    · simp (disch := first | omega | simp) [-List.map_replicate, mkFn, sSeq, sSet, sRet, sRetN, sIf, sNil, sExpr, sAsgG, sAug, sFor, tgSb, tgNm, tgTp, tgL, putI, noX, eV, eC, e1, e2, eN, eChain, eAnd, eOr, eNot, eIf, eFz, eTup, eLst, eSl, evO, eLc, lcRun, wpC, wp, rst, unlT, unlR, unl, eCall, eMut, eMeth, isL, evA, mkArgs, backs, put0, put1, put2, rd, rds, mv, mvs, setS, setL, asg, fin, outs, out1, opt, Res.bind, sOf, srcAt, srcS, srcV, srcO, itemsOf, D.cl, clL, clL_lI, D.fz, fzL, fzL_lI, gAdd_at, gSub_at, gMul_sm, gFdiv_at, gMod_at, gLt_at, gLe_at, gGt_at, gGe_at, gNeg_at, gEq_at, gNe_at, gEq_nn, gNe_nn, gEq_nil, gNe_nil, gEq_lst, gNe_lst, gEq_tup, gNe_tup, gEq_bl, gNe_bl, gIsi_ii, gIsi_ib, gIsi_bb, gIsi_ll, gIsi_tt, gIxA, gInA, gNotInA, gStA, gStT, sForD, noXs, unlR, tgDb, eDGet, eDGet1, eDnew, eDisp, flatP, pairD, isDc, lcStep, c_step_behind_1, e_step_behind_0, h1, fBe]
  have q := lcL_map (fBe put) (lI l) [] (by rw [lI_len, List.length_nil]; omega) hs
  rw [q, be_map]
  rfl
theorem behind_eq {a b put : Int} {st : List Int} (hl : st.length ≤ 500) : f_step_behind [.sl .O (rchD a b), .sl .O (enS st), .sl .O (.int put)] = .ok (enS (behI a st put)) [.un, .un, .un] := by
  have h1 := (rchD_at a b).1
  have h2 : gAdd (.tup (lI st)) (.tup [.int a]) = some (.tup (lI (st ++ [a]))) := gAdd_tt (b := [a]) (by omega) (by simp)
  have h3 : ∀ s0 s1, lcL (.nm 3) [3] c_step_behind_1 e_step_behind_0 (lI (st ++ [a])) [s0, s1, .sl .O (.int put), .un] [] = .ok (lI (behI a st put)) [s0, s1, .sl .O (.int put), .un] := fun s0 s1 => behind_lc (put := put) (st ++ [a]) (by rw [List.length_append]; simp; omega) s0 s1
  have h4 := gTuple_lI true (behI a st put)
  simp (disch := first | omega | simp) [-List.map_replicate, mkFn, sSeq, sSet, sRet, sRetN, sIf, sNil, sExpr, sAsgG, sAug, sFor, tgSb, tgNm, tgTp, tgL, putI, noX, eV, eC, e1, e2, eN, eChain, eAnd, eOr, eNot, eIf, eFz, eTup, eLst, eSl, evO, eLc, lcRun, wpC, wp, rst, unlT, unlR, unl, eCall, eMut, eMeth, isL, evA, mkArgs, backs, put0, put1, put2, rd, rds, mv, mvs, setS, setL, asg, fin, outs, out1, opt, Res.bind, sOf, srcAt, srcS, srcV, srcO, itemsOf, D.cl, clL, clL_lI, D.fz, fzL, fzL_lI, gAdd_at, gSub_at, gMul_sm, gFdiv_at, gMod_at, gLt_at, gLe_at, gGt_at, gGe_at, gNeg_at, gEq_at, gNe_at, gEq_nn, gNe_nn, gEq_nil, gNe_nil, gEq_lst, gNe_lst, gEq_tup, gNe_tup, gEq_bl, gNe_bl, gIsi_ii, gIsi_ib, gIsi_bb, gIsi_ll, gIsi_tt, gIxA, gInA, gNotInA, gStA, gStT, sForD, noXs, unlR, tgDb, eDGet, eDGet1, eDnew, eDisp, flatP, pairD, isDc, f_step_behind, b_step_behind, enS, h1, h2, h3, h4]
theorem putsI_sub {a b put : Int} {st : List Int} (h : put ∈ putsI a b st) : put ∈ st ++ [a] := by
  unfold putsI at h
  split at h
  · exact List.mem_append_left _ (List.mem_of_mem_take h)
  · exact h
theorem behI_len {a put : Int} {st : List Int} (h : put ∈ st ++ [a]) : (behI a st put).length ≤ st.length := by
  have h1 : ((st ++ [a]).filter fun x => decide (x ≠ put)).length < (st ++ [a]).length := List.length_filter_lt_length_iff_exists.mpr ⟨put, h, by simp⟩
  rw [behI, List.length_map]
  rw [List.length_append] at h1
  have : [a].length = 1 := rfl
  omega
end DL
namespace DL
open PySem PySem.Spec PyProof.Rows L2
/-! the counts behind a step -/
def goQ (a : Int) (st : List Int) (n : Nat) : List Int → List (List Int × Nat) → List (List Int × Nat)
  | [], l => l
  | put :: r, l => goQ a st n r (addA l (behI a st put) n)
def goS (a b : Int) : List (List Int × Nat) → List (List Int × Nat) → List (List Int × Nat)
  | [], l => l
  | q :: r, l => goS a b r (goQ a q.1 q.2 (putsI a b q.1) l)
def waysI (a b : Int) : Nat → List (List Int × Nat) → List (List Int × Nat)
  | 0, w => w
  | k + 1, w => waysI a b k (goS a b w [])
theorem goQ_nodup (a : Int) (st : List Int) (n : Nat) : ∀ (ps : List Int) (l : List (List Int × Nat)), (l.map (·.1)).Nodup → ((goQ a st n ps l).map (·.1)).Nodup
  | [], l, h => h
  | put :: r, l, h => goQ_nodup a st n r _ (add_nodup h)
theorem goQ_len (a : Int) (st : List Int) (n : Nat) : ∀ (ps : List Int) (l : List (List Int × Nat)), l.length ≤ (goQ a st n ps l).length
  | [], l => Nat.le_refl _
  | put :: r, l => Nat.le_trans (add_len l _ n).1 (goQ_len a st n r _)
theorem goS_nodup (a b : Int) : ∀ (w l : List (List Int × Nat)), (l.map (·.1)).Nodup → ((goS a b w l).map (·.1)).Nodup
  | [], l, h => h
  | q :: r, l, h => goS_nodup a b r _ (goQ_nodup a q.1 q.2 _ l h)
theorem goS_len (a b : Int) : ∀ (w l : List (List Int × Nat)), l.length ≤ (goS a b w l).length
  | [], l => Nat.le_refl _
  | q :: r, l => Nat.le_trans (goQ_len a q.1 q.2 _ l) (goS_len a b r _)
theorem goQ_mem (a : Int) (st : List Int) (n : Nat) {x : List Int} : ∀ (ps : List Int) (l : List (List Int × Nat)), x ∈ (goQ a st n ps l).map (·.1) → x ∈ l.map (·.1) ∨ ∃ put ∈ ps, x = behI a st put
  | [], l, h => .inl h
  | put :: r, l, h => by
    rcases goQ_mem a st n r _ h with h | ⟨p, hp, e⟩
    · rcases add_mem.mp h with rfl | h
      · exact .inr ⟨put, List.mem_cons_self, rfl⟩
      · exact .inl h
    · exact .inr ⟨p, List.mem_cons_of_mem _ hp, e⟩
theorem goS_mem (a b : Int) {x : List Int} : ∀ (w l : List (List Int × Nat)), x ∈ (goS a b w l).map (·.1) → x ∈ l.map (·.1) ∨ ∃ q ∈ w, ∃ put ∈ putsI a b q.1, x = behI a q.1 put
  | [], l, h => .inl h
  | q :: r, l, h => by
    rcases goS_mem a b r _ h with h | ⟨p, hp, put, h1, e⟩
    · rcases goQ_mem a q.1 q.2 _ l h with h | ⟨put, h1, e⟩
      · exact .inl h
      · exact .inr ⟨q, List.mem_cons_self, put, h1, e⟩
    · exact .inr ⟨p, List.mem_cons_of_mem _ hp, put, h1, e⟩
/-- all stands are short -/
def Short (n : Nat) (l : List (List Int × Nat)) : Prop := ∀ x ∈ l.map (·.1), x.length ≤ n
theorem Short.goS {n : Nat} {a b : Int} {w : List (List Int × Nat)} (h : Short n w) : Short n (goS a b w []) := fun x hx => by
  rcases goS_mem a b w [] hx with h1 | ⟨q, hq, put, h1, rfl⟩
  · simp at h1
  · exact Nat.le_trans (behI_len (putsI_sub h1)) (h q.1 (List.mem_map_of_mem hq))
def SlI (s : Sl) : Prop := s = .un ∨ ∃ d, s = .sl .O d
def envW (a b : Int) (s1 s2 s4 : Sl) (s3 : Sl) (l : List (List Int × Nat)) (s6 s7 s8 s9 : Sl) : Env := [.sl .O (rchD a b), s1, s2, s3, s4, .sl .O (.dct true .t (enD enS fN l)), s6, s7, s8, s9]
theorem put_one {a b : Int} {s1 s2 s3 s4 : Sl} {l : List (List Int × Nat)} {st : List Int} {n : Nat} {put : Int} (hs : st.length ≤ 500) (nd : (l.map (·.1)).Nodup) (hl : l.length < 16777216) (s9 : Sl) (h9 : Stb s9) :
    l_ways_of_0 (envW a b s1 s2 s4 s3 l (.sl .O (enS st)) (.sl .O (.int n)) (.sl .O (.int put)) s9) = .ok .nx (envW a b s1 s2 s4 s3 (addA l (behI a st put) n) (.sl .O (enS st)) (.sl .O (.int n)) (.sl .O (.int put)) (.sl .O (enS (behI a st put)))) := by
  have h1 := behind_eq (a := a) (b := b) (put := put) (st := st) hs
  have h2 := gDGet_en encS true l (behI a st put)
  have c1 : (enS st).cl = true := clL_lI st
  have c2 : (enS (behI a st put)).cl = true := clL_lI _
  have c3 : (enS (behI a st put)).fz = enS (behI a st put) := D.fz_cl _ c2
  have h3 : putDk (envW a b s1 s2 s4 s3 l (.sl .O (enS st)) (.sl .O (.int n)) (.sl .O (.int put)) (.sl .O (enS (behI a st put)))) 5 (enS (behI a st put)) (.int ((getA l (behI a st put) : Int) + (n : Int))) = .ok () (envW a b s1 s2 s4 s3 (addA l (behI a st put) n) (.sl .O (enS st)) (.sl .O (.int n)) (.sl .O (.int put)) (.sl .O (enS (behI a st put)))) := putDk_en encS nd (behI a st put) n rfl (by decide) hl
  simp only [envW] at h3
  rcases h9 with rfl | ⟨d9, rfl⟩ <;> simp (disch := first | omega | simp) [-List.map_replicate, mkFn, sSeq, sSet, sRet, sRetN, sIf, sNil, sExpr, sAsgG, sAug, sFor, tgSb, tgNm, tgTp, tgL, putI, noX, eV, eC, e1, e2, eN, eChain, eAnd, eOr, eNot, eIf, eFz, eTup, eLst, eSl, evO, eLc, lcRun, wpC, wp, rst, unlT, unlR, unl, eCall, eMut, eMeth, isL, evA, mkArgs, backs, put0, put1, put2, rd, rds, mv, mvs, setS, setL, asg, fin, outs, out1, opt, Res.bind, sOf, srcAt, srcS, srcV, srcO, itemsOf, D.cl, clL, clL_lI, D.fz, fzL, fzL_lI, gAdd_at, gSub_at, gMul_sm, gFdiv_at, gMod_at, gLt_at, gLe_at, gGt_at, gGe_at, gNeg_at, gEq_at, gNe_at, gEq_nn, gNe_nn, gEq_nil, gNe_nil, gEq_lst, gNe_lst, gEq_tup, gNe_tup, gEq_bl, gNe_bl, gIsi_ii, gIsi_ib, gIsi_bb, gIsi_ll, gIsi_tt, gIxA, gInA, gNotInA, gStA, gStT, sForD, noXs, unlR, tgDb, eDGet, eDGet1, eDnew, eDisp, flatP, pairD, isDc, l_ways_of_0, envW, h1, h2, c1, c2, c3, h3]

theorem puts_loop {a b : Int} {s1 s2 s3 s4 : Sl} {st : List Int} {n : Nat} (hs : st.length ≤ 500) : ∀ (ps : List Int) (l : List (List Int × Nat)) (s8 s9 : Sl), Stb s8 → Stb s9 → (l.map (·.1)).Nodup → (goQ a st n ps l).length < 16777216 →
    ∃ t8 t9, Stb t8 ∧ Stb t9 ∧ forL (.nm 8) l_ways_of_0 (lI ps) (envW a b s1 s2 s4 s3 l (.sl .O (enS st)) (.sl .O (.int n)) s8 s9) = .ok .nx (envW a b s1 s2 s4 s3 (goQ a st n ps l) (.sl .O (enS st)) (.sl .O (.int n)) t8 t9)
  | [], l, s8, s9, h8, h9, nd, hl => ⟨s8, s9, h8, h9, rfl⟩
  | put :: ps, l, s8, s9, h8, h9, nd, hl => by
    have hl1 : l.length < 16777216 := Nat.lt_of_le_of_lt (goQ_len a st n (put :: ps) l) hl
    have e1 := put_one (a := a) (b := b) (s1 := s1) (s2 := s2) (s4 := s4) (s3 := s3) (st := st) (n := n) (put := put) hs nd hl1 s9 h9
    have e0 : asg (.nm 8) (envW a b s1 s2 s4 s3 l (.sl .O (enS st)) (.sl .O (.int n)) s8 s9) (.int put) = some (envW a b s1 s2 s4 s3 l (.sl .O (enS st)) (.sl .O (.int n)) (.sl .O (.int put)) s9) := by
      rcases h8 with rfl | ⟨d8, rfl⟩ <;> rfl
    obtain ⟨t8, t9, k8, k9, e⟩ := puts_loop hs ps (addA l (behI a st put) n) (.sl .O (.int put)) (.sl .O (enS (behI a st put))) (.inr ⟨_, rfl⟩) (.inr ⟨_, rfl⟩) (add_nodup nd) hl
    exact ⟨t8, t9, k8, k9, by rw [lI_cons, forL_cons e0 e1]; exact e⟩
theorem pair_one {a b : Int} {s1 s2 s3 s4 : Sl} {l : List (List Int × Nat)} {st : List Int} {n : Nat} (hs : st.length ≤ 500) (s8 s9 : Sl) (h8 : Stb s8) (h9 : Stb s9) (nd : (l.map (·.1)).Nodup) (hl : (goQ a st n (putsI a b st) l).length < 16777216) :
    ∃ t8 t9, Stb t8 ∧ Stb t9 ∧ l_ways_of_1 (envW a b s1 s2 s4 s3 l (.sl .O (enS st)) (.sl .O (.int n)) s8 s9) = .ok .nx (envW a b s1 s2 s4 s3 (goQ a st n (putsI a b st) l) (.sl .O (enS st)) (.sl .O (.int n)) t8 t9) := by
  obtain ⟨t8, t9, k8, k9, e⟩ := puts_loop (a := a) (b := b) (s1 := s1) (s2 := s2) (s4 := s4) (s3 := s3) (n := n) hs (putsI a b st) l s8 s9 h8 h9 nd hl
  refine ⟨t8, t9, k8, k9, ?_⟩
  have h1 := puts_eq (a := a) (b := b) (st := st) hs
  have c1 : (enS st).cl = true := clL_lI st
  simp only [envW] at e
  simp (disch := first | omega | simp) [-List.map_replicate, mkFn, sSeq, sSet, sRet, sRetN, sIf, sNil, sExpr, sAsgG, sAug, sFor, tgSb, tgNm, tgTp, tgL, putI, noX, eV, eC, e1, e2, eN, eChain, eAnd, eOr, eNot, eIf, eFz, eTup, eLst, eSl, evO, eLc, lcRun, wpC, wp, rst, unlT, unlR, unl, eCall, eMut, eMeth, isL, evA, mkArgs, backs, put0, put1, put2, rd, rds, mv, mvs, setS, setL, asg, fin, outs, out1, opt, Res.bind, sOf, srcAt, srcS, srcV, srcO, itemsOf, D.cl, clL, clL_lI, D.fz, fzL, fzL_lI, gAdd_at, gSub_at, gMul_sm, gFdiv_at, gMod_at, gLt_at, gLe_at, gGt_at, gGe_at, gNeg_at, gEq_at, gNe_at, gEq_nn, gNe_nn, gEq_nil, gNe_nil, gEq_lst, gNe_lst, gEq_tup, gNe_tup, gEq_bl, gNe_bl, gIsi_ii, gIsi_ib, gIsi_bb, gIsi_ll, gIsi_tt, gIxA, gInA, gNotInA, gStA, gStT, sForD, noXs, unlR, tgDb, eDGet, eDGet1, eDnew, eDisp, flatP, pairD, isDc, l_ways_of_1, envW, h1, c1, e]
theorem pairs_loop {a b : Int} {s1 s2 s3 s4 : Sl} : ∀ (w l : List (List Int × Nat)) (s6 s7 s8 s9 : Sl), Stb s6 → Stb s7 → Stb s8 → Stb s9 → Short 500 w → (l.map (·.1)).Nodup → (goS a b w l).length < 16777216 →
    ∃ t6 t7 t8 t9, Stb t6 ∧ Stb t7 ∧ Stb t8 ∧ Stb t9 ∧ forL (.tp [6, 7]) l_ways_of_1 (w.map fun p => .tup [enS p.1, fN p.2]) (envW a b s1 s2 s4 s3 l s6 s7 s8 s9) = .ok .nx (envW a b s1 s2 s4 s3 (goS a b w l) t6 t7 t8 t9)
  | [], l, s6, s7, s8, s9, h6, h7, h8, h9, _, nd, hl => ⟨s6, s7, s8, s9, h6, h7, h8, h9, rfl⟩
  | q :: w, l, s6, s7, s8, s9, h6, h7, h8, h9, sh, nd, hl => by
    have hl1 : (goQ a q.1 q.2 (putsI a b q.1) l).length < 16777216 := Nat.lt_of_le_of_lt (goS_len a b w _) hl
    obtain ⟨t8, t9, k8, k9, e1⟩ := pair_one (a := a) (b := b) (s1 := s1) (s2 := s2) (s4 := s4) (s3 := s3) (l := l) (st := q.1) (n := q.2) (sh q.1 (by simp)) s8 s9 h8 h9 nd hl1
    have e0 : asg (.tp [6, 7]) (envW a b s1 s2 s4 s3 l s6 s7 s8 s9) (.tup [enS q.1, fN q.2]) = some (envW a b s1 s2 s4 s3 l (.sl .O (enS q.1)) (.sl .O (.int q.2)) s8 s9) := by
      rcases h6 with rfl | ⟨d6, rfl⟩ <;> rcases h7 with rfl | ⟨d7, rfl⟩ <;> rfl
    obtain ⟨t6, t7, u8, u9, k6, k7, m8, m9, e⟩ := pairs_loop (a := a) (b := b) (s1 := s1) (s2 := s2) (s4 := s4) (s3 := s3) w (goQ a q.1 q.2 (putsI a b q.1) l) (.sl .O (enS q.1)) (.sl .O (.int q.2)) t8 t9 (.inr ⟨_, rfl⟩) (.inr ⟨_, rfl⟩) k8 k9 (fun x hx => sh x (by rw [List.map_cons]; exact List.mem_cons_of_mem _ hx)) (goQ_nodup _ _ _ _ _ nd) hl
    exact ⟨t6, t7, u8, u9, k6, k7, m8, m9, by rw [List.map_cons, forL_cons e0 e1]; exact e⟩
theorem fz_en (l : List (List Int × Nat)) : fzK (enD enS fN l) = enD enS fN l := fzK_cl _ (clK_en fN_cl l)
abbrev wD (m : Bool) (w : List (List Int × Nat)) : Sl := .sl .O (.dct m .t (enD enS fN w))
theorem turn_one {a b : Int} {s1 s2 s4 s5 : Sl} {m : Bool} {w : List (List Int × Nat)} (s6 s7 s8 s9 : Sl) (h5 : Stb s5) (h6 : Stb s6) (h7 : Stb s7) (h8 : Stb s8) (h9 : Stb s9) (sh : Short 500 w) (hl : (goS a b w []).length < 16777216) :
    ∃ t6 t7 t8 t9, Stb t6 ∧ Stb t7 ∧ Stb t8 ∧ Stb t9 ∧ l_ways_of_2 [.sl .O (rchD a b), s1, s2, wD m w, s4, s5, s6, s7, s8, s9] = .ok .nx [.sl .O (rchD a b), s1, s2, wD false (goS a b w []), s4, wD false (goS a b w []), t6, t7, t8, t9] := by
  have c1 := clK_en (enc := enS) fN_cl w
  have c3 := fz_en (goS a b w [])
  cases m with
  | true =>
    obtain ⟨t6, t7, t8, t9, k6, k7, k8, k9, e⟩ := pairs_loop (a := a) (b := b) (s1 := s1) (s2 := s2) (s3 := .sl .R (.dct true .t (enD enS fN w))) (s4 := s4) w [] s6 s7 s8 s9 h6 h7 h8 h9 sh (by simp) hl
    refine ⟨t6, t7, t8, t9, k6, k7, k8, k9, ?_⟩
    simp only [envW, show enD enS fN [] = [] from rfl] at e
    have c2 := prs_en (t := .t) (enc := enS) (f := fN) true w
    rcases h5 with rfl | ⟨d5, rfl⟩ <;> simp (disch := first | omega | simp) [-List.map_replicate, mkFn, sSeq, sSet, sRet, sRetN, sIf, sNil, sExpr, sAsgG, sAug, sFor, tgSb, tgNm, tgTp, tgL, putI, noX, eV, eC, e1, e2, eN, eChain, eAnd, eOr, eNot, eIf, eFz, eTup, eLst, eSl, evO, eLc, lcRun, wpC, wp, rst, unlT, unlR, unl, eCall, eMut, eMeth, isL, evA, mkArgs, backs, put0, put1, put2, rd, rds, mv, mvs, setS, setL, asg, fin, outs, out1, opt, Res.bind, sOf, srcAt, srcS, srcV, srcO, itemsOf, D.cl, clL, clL_lI, D.fz, fzL, fzL_lI, gAdd_at, gSub_at, gMul_sm, gFdiv_at, gMod_at, gLt_at, gLe_at, gGt_at, gGe_at, gNeg_at, gEq_at, gNe_at, gEq_nn, gNe_nn, gEq_nil, gNe_nil, gEq_lst, gNe_lst, gEq_tup, gNe_tup, gEq_bl, gNe_bl, gIsi_ii, gIsi_ib, gIsi_bb, gIsi_ll, gIsi_tt, gIxA, gInA, gNotInA, gStA, gStT, sForD, noXs, unlR, tgDb, eDGet, eDGet1, eDnew, eDisp, flatP, pairD, isDc, l_ways_of_2, c1, c2, c3, e]
  | false =>
    obtain ⟨t6, t7, t8, t9, k6, k7, k8, k9, e⟩ := pairs_loop (a := a) (b := b) (s1 := s1) (s2 := s2) (s3 := .sl .O (.dct false .t (enD enS fN w))) (s4 := s4) w [] s6 s7 s8 s9 h6 h7 h8 h9 sh (by simp) hl
    refine ⟨t6, t7, t8, t9, k6, k7, k8, k9, ?_⟩
    simp only [envW, show enD enS fN [] = [] from rfl] at e
    have c2 := prs_en (t := .t) (enc := enS) (f := fN) false w
    rcases h5 with rfl | ⟨d5, rfl⟩ <;> simp (disch := first | omega | simp) [-List.map_replicate, mkFn, sSeq, sSet, sRet, sRetN, sIf, sNil, sExpr, sAsgG, sAug, sFor, tgSb, tgNm, tgTp, tgL, putI, noX, eV, eC, e1, e2, eN, eChain, eAnd, eOr, eNot, eIf, eFz, eTup, eLst, eSl, evO, eLc, lcRun, wpC, wp, rst, unlT, unlR, unl, eCall, eMut, eMeth, isL, evA, mkArgs, backs, put0, put1, put2, rd, rds, mv, mvs, setS, setL, asg, fin, outs, out1, opt, Res.bind, sOf, srcAt, srcS, srcV, srcO, itemsOf, D.cl, clL, clL_lI, D.fz, fzL, fzL_lI, gAdd_at, gSub_at, gMul_sm, gFdiv_at, gMod_at, gLt_at, gLe_at, gGt_at, gGe_at, gNeg_at, gEq_at, gNe_at, gEq_nn, gNe_nn, gEq_nil, gNe_nil, gEq_lst, gNe_lst, gEq_tup, gNe_tup, gEq_bl, gNe_bl, gIsi_ii, gIsi_ib, gIsi_bb, gIsi_ll, gIsi_tt, gIxA, gInA, gNotInA, gStA, gStT, sForD, noXs, unlR, tgDb, eDGet, eDGet1, eDnew, eDisp, flatP, pairD, isDc, l_ways_of_2, c1, c2, c3, e]
theorem waysI_succ (a b : Int) : ∀ (k : Nat) (w : List (List Int × Nat)), waysI a b (k + 1) w = goS a b (waysI a b k w) []
  | 0, w => rfl
  | k + 1, w => waysI_succ a b k (goS a b w [])
theorem Short.ways {n : Nat} {a b : Int} : ∀ (k : Nat) {w : List (List Int × Nat)}, Short n w → Short n (waysI a b k w)
  | 0, _, h => h
  | k + 1, _, h => Short.ways k h.goS
/-- the ways of so many steps -/
theorem ways_eq {a b : Int} {one : List Int} (h1 : one.length ≤ 500) (k : Nat) (hk : k ≤ 1000) (hb : ∀ j, j ≤ k → (waysI a b j [(one, 1)]).length < 16777216) :
    ∃ m, f_ways_of [.sl .O (rchD a b), .sl .O (enS one), .sl .O (.int k)] = .ok (.dct m .t (enD enS fN (waysI a b k [(one, 1)]))) [.un, .un, .un] := by
  have sh : ∀ j, Short 500 (waysI a b j [(one, 1)]) := fun j => Short.ways j fun x hx => by
    simp only [List.map_cons, List.map_nil, List.mem_singleton] at hx
    subst hx
    exact h1
  obtain ⟨e, e1, m, s4, s5, s6, s7, s8, s9, k4, k5, k6, k7, k8, k9, rfl⟩ := forL_inv (tg := .nm 4) (body := l_ways_of_2) (fun i env => ∃ m s4 s5 s6 s7 s8 s9, Stb s4 ∧ Stb s5 ∧ Stb s6 ∧ Stb s7 ∧ Stb s8 ∧ Stb s9 ∧ env = [.sl .O (rchD a b), .sl .O (enS one), .sl .O (.int k), wD m (waysI a b i [(one, 1)]), s4, s5, s6, s7, s8, s9]) (lI (rgI k)) 0 [.sl .O (rchD a b), .sl .O (enS one), .sl .O (.int k), wD true [(one, 1)], .un, .un, .un, .un, .un, .un] (fun i d env hd hP => by
    rw [Nat.zero_add] at hP ⊢
    obtain ⟨m, s4, s5, s6, s7, s8, s9, k4, k5, k6, k7, k8, k9, rfl⟩ := hP
    obtain ⟨rfl, hi⟩ := rgI_mem_at hd
    obtain ⟨t6, t7, t8, t9, m6, m7, m8, m9, e1⟩ := turn_one (a := a) (b := b) (s1 := .sl .O (enS one)) (s2 := .sl .O (.int k)) (s4 := .sl .O (.int i)) (s5 := s5) (m := m) (w := waysI a b i [(one, 1)]) s6 s7 s8 s9 k5 k6 k7 k8 k9 (sh i) (by rw [← waysI_succ]; exact hb (i + 1) (by omega))
    refine ⟨[.sl .O (rchD a b), .sl .O (enS one), .sl .O (.int k), wD m (waysI a b i [(one, 1)]), .sl .O (.int i), s5, s6, s7, s8, s9], _, ?_, e1, false, .sl .O (.int i), wD false (waysI a b (i + 1) [(one, 1)]), t6, t7, t8, t9, .inr ⟨_, rfl⟩, .inr ⟨_, rfl⟩, m6, m7, m8, m9, by rw [waysI_succ]⟩
    rcases k4 with rfl | ⟨d4, rfl⟩ <;> simp [asg, setS]) ⟨true, .un, .un, .un, .un, .un, .un, .inl rfl, .inl rfl, .inl rfl, .inl rfl, .inl rfl, .inl rfl, rfl⟩
  rw [Nat.zero_add, lI_len, rgI_len] at e1
  refine ⟨m, ?_⟩
  have g1 := rg1_at (n := k) hk
  have c1 : (enS one).cl = true := clL_lI one
  have c2 : (enS one).fz = enS one := D.fz_cl _ c1
  have c3 : isKey .t (enS one) = true := encS.key one
  have c4 := clK_en (enc := enS) fN_cl (waysI a b k [(one, 1)])
  have c5 : ptD .t [] (enS one) (.int 1) = enD enS fN [(one, 1)] := rfl
  have c6 := fz_en (waysI a b k [(one, 1)])
  simp only [wD] at e1
  cases m <;> simp (disch := first | omega | simp) [-List.map_replicate, mkFn, sSeq, sSet, sRet, sRetN, sIf, sNil, sExpr, sAsgG, sAug, sFor, tgSb, tgNm, tgTp, tgL, putI, noX, eV, eC, e1, e2, eN, eChain, eAnd, eOr, eNot, eIf, eFz, eTup, eLst, eSl, evO, eLc, lcRun, wpC, wp, rst, unlT, unlR, unl, eCall, eMut, eMeth, isL, evA, mkArgs, backs, put0, put1, put2, rd, rds, mv, mvs, setS, setL, asg, fin, outs, out1, opt, Res.bind, sOf, srcAt, srcS, srcV, srcO, itemsOf, D.cl, clL, clL_lI, D.fz, fzL, fzL_lI, gAdd_at, gSub_at, gMul_sm, gFdiv_at, gMod_at, gLt_at, gLe_at, gGt_at, gGe_at, gNeg_at, gEq_at, gNe_at, gEq_nn, gNe_nn, gEq_nil, gNe_nil, gEq_lst, gNe_lst, gEq_tup, gNe_tup, gEq_bl, gNe_bl, gIsi_ii, gIsi_ib, gIsi_bb, gIsi_ll, gIsi_tt, gIxA, gInA, gNotInA, gStA, gStT, sForD, noXs, unlR, tgDb, eDGet, eDGet1, eDnew, eDisp, flatP, pairD, isDc, f_ways_of, b_ways_of, sRgF, g1, c1, c2, c3, c4, c5, c6, e1]
end DL
namespace DL
open PySem PySem.Spec PyProof.Rows L2
/-! how many rows of steps lead from a stand to a stand, in plain -/
def nxt (a b : Int) (s : List Int) : List (List Int) := (putsI a b s).map fun put => behI a s put
def NW (a b : Int) : Nat → List Int → List Int → Nat
  | 0, s, t => if s = t then 1 else 0
  | k + 1, s, t => ((nxt a b s).map fun u => NW a b k u t).sum
def sumW (f : List Int → Nat) (l : List (List Int × Nat)) : Nat := (l.map fun q => q.2 * f q.1).sum
theorem sumW_nil (f : List Int → Nat) : sumW f [] = 0 := rfl
theorem sumW_cons (f : List Int → Nat) (q : List Int × Nat) (l : List (List Int × Nat)) : sumW f (q :: l) = q.2 * f q.1 + sumW f l := by
  unfold sumW
  rw [List.map_cons, List.sum_cons]
theorem sumW_add (f : List Int → Nat) (k : List Int) (c : Nat) : ∀ l : List (List Int × Nat), sumW f (addA l k c) = sumW f l + c * f k
  | [] => by rw [addA, sumW_cons, sumW_nil, Nat.add_zero, Nat.zero_add]
  | p :: r => by
    rw [addA]
    by_cases h : p.1 = k
    · rw [if_pos h, sumW_cons, sumW_cons, h, Nat.add_mul]
      omega
    · rw [if_neg h, sumW_cons, sumW_cons, sumW_add f k c r]
      omega
theorem sumW_goQ (f : List Int → Nat) (a : Int) (st : List Int) (n : Nat) : ∀ (ps : List Int) (l : List (List Int × Nat)), sumW f (goQ a st n ps l) = sumW f l + n * (ps.map fun put => f (behI a st put)).sum
  | [], l => by rw [goQ, List.map_nil, List.sum_nil, Nat.mul_zero, Nat.add_zero]
  | put :: r, l => by
    rw [goQ, sumW_goQ f a st n r, sumW_add, List.map_cons, List.sum_cons, Nat.mul_add]
    omega
theorem sumW_goS (f : List Int → Nat) (a b : Int) : ∀ (w l : List (List Int × Nat)), sumW f (goS a b w l) = sumW f l + sumW (fun s => ((nxt a b s).map f).sum) w
  | [], l => by rw [goS, sumW_nil, Nat.add_zero]
  | q :: r, l => by
    rw [goS, sumW_goS f a b r, sumW_goQ, sumW_cons]
    unfold nxt
    rw [List.map_map]
    simp only [Function.comp_def]
    omega
theorem getA_sum (t : List Int) : ∀ {l : List (List Int × Nat)}, (l.map (·.1)).Nodup → getA l t = sumW (fun s => if s = t then 1 else 0) l
  | [], _ => rfl
  | p :: r, nd => by
    rw [List.map_cons, List.nodup_cons] at nd
    rw [getA, sumW_cons]
    by_cases h : p.1 = t
    · rw [if_pos h, if_pos h, ← getA_sum t nd.2]
      have : getA r t = 0 := by rw [← get_lk, lk_none_of (by rw [← h]; exact nd.1)]; rfl
      rw [this]
      omega
    · rw [if_neg h, if_neg h, getA_sum t nd.2]
      omega
theorem get_ways (a b : Int) (t : List Int) : ∀ (k : Nat) (w : List (List Int × Nat)), (w.map (·.1)).Nodup → getA (waysI a b k w) t = sumW (fun s => NW a b k s t) w
  | 0, w, nd => getA_sum t nd
  | k + 1, w, nd => by
    rw [waysI, get_ways a b t k _ (goS_nodup a b w [] List.nodup_nil), sumW_goS, sumW_nil, Nat.zero_add]
    rfl
theorem ways_NW (a b : Int) (s t : List Int) (k : Nat) : getA (waysI a b k [(s, 1)]) t = NW a b k s t := by
  rw [get_ways a b t k _ (by simp), sumW_cons, sumW_nil]
  show 1 * NW a b k s t + 0 = _
  omega
/-! rows -/
def rowsK (a b : Int) : Nat → List (List Int) → List (List Int)
  | 0, L => L
  | k + 1, L => rowsK a b k (L.flatMap (nxt a b))
theorem sum_flat (g : List Int → Nat) (h : List Int → List (List Int)) : ∀ L : List (List Int), ((L.flatMap h).map g).sum = (L.map fun s => ((h s).map g).sum).sum
  | [] => rfl
  | s :: L => by rw [List.flatMap_cons, List.map_append, List.sum_append, sum_flat g h L, List.map_cons, List.sum_cons]
theorem count_sum (t : List Int) : ∀ L : List (List Int), L.count t = (L.map fun s => if s = t then 1 else 0).sum
  | [] => rfl
  | s :: L => by
    rw [List.count_cons, count_sum t L, List.map_cons, List.sum_cons]
    by_cases h : s = t
    · simp [h]; omega
    · simp [h]
theorem rows_count (a b : Int) (t : List Int) : ∀ (k : Nat) (L : List (List Int)), (rowsK a b k L).count t = (L.map fun s => NW a b k s t).sum
  | 0, L => count_sum t L
  | k + 1, L => by
    rw [rowsK, rows_count a b t k, sum_flat]
    rfl
theorem rowsK_succ (a b : Int) : ∀ (k : Nat) (L : List (List Int)), rowsK a b (k + 1) L = (rowsK a b k L).flatMap (nxt a b)
  | 0, L => rfl
  | k + 1, L => rowsK_succ a b k (L.flatMap (nxt a b))
/-! closed sets of stands -/
structure Clo (a b : Int) (S : List (List Int)) : Prop where
  nd : S.Nodup
  cl : ∀ s ∈ S, ∀ u ∈ nxt a b s, u ∈ S
theorem sum_one (g : List Int → Nat) (s : List Int) : ∀ {S : List (List Int)}, S.Nodup → s ∈ S → (S.map fun u => (if s = u then 1 else 0) * g u).sum = g s
  | [], _, h => absurd h (by simp)
  | u :: S, nd, h => by
    rw [List.nodup_cons] at nd
    rw [List.map_cons, List.sum_cons]
    by_cases e : s = u
    · subst e
      have : (S.map fun u => (if s = u then 1 else 0) * g u).sum = 0 := by
        have z : ∀ L : List (List Int), s ∉ L → (L.map fun u => (if s = u then 1 else 0) * g u).sum = 0 := fun L => by
          induction L with
          | nil => exact fun _ => rfl
          | cons x L ih =>
            intro hx
            rw [List.map_cons, List.sum_cons, ih fun q => hx (List.mem_cons_of_mem _ q), if_neg fun q => hx (by rw [q]; exact List.mem_cons_self)]
            omega
        exact z S nd.1
      rw [if_pos rfl, this]
      omega
    · rw [if_neg e, sum_one g s nd.2 ((List.mem_cons.mp h).resolve_left e)]
      omega
theorem sum_add (f g : List Int → Nat) : ∀ S : List (List Int), (S.map fun u => f u + g u).sum = (S.map f).sum + (S.map g).sum
  | [] => rfl
  | u :: S => by
    rw [List.map_cons, List.sum_cons, sum_add f g S, List.map_cons, List.sum_cons, List.map_cons, List.sum_cons]
    omega
theorem sum_swap (F : List Int → List Int → Nat) (S : List (List Int)) : ∀ V : List (List Int), (V.map fun v => (S.map fun u => F v u).sum).sum = (S.map fun u => (V.map fun v => F v u).sum).sum
  | [] => by
    rw [List.map_nil, List.sum_nil]
    induction S with
    | nil => rfl
    | cons u S ih => rw [List.map_cons, List.sum_cons, ← ih]; rfl
  | v :: V => by
    rw [List.map_cons, List.sum_cons, sum_swap F S V, ← sum_add]
    rfl
theorem sum_mul (f : List Int → Nat) (c : Nat) : ∀ V : List (List Int), (V.map fun v => f v * c).sum = (V.map f).sum * c
  | [] => by simp
  | v :: V => by rw [List.map_cons, List.sum_cons, sum_mul f c V, List.map_cons, List.sum_cons, Nat.add_mul]
theorem NW_add {a b : Int} {S : List (List Int)} (h : Clo a b S) (t : List Int) (k : Nat) : ∀ (j : Nat) (s : List Int), s ∈ S → (S.map fun u => NW a b j s u * NW a b k u t).sum = NW a b (j + k) s t
  | 0, s, hs => by
    rw [Nat.zero_add]
    exact sum_one (fun u => NW a b k u t) s h.nd hs
  | j + 1, s, hs => by
    have e : (S.map fun u => NW a b (j + 1) s u * NW a b k u t).sum = (S.map fun u => ((nxt a b s).map fun v => NW a b j v u * NW a b k u t).sum).sum := by
      congr 1
      refine List.map_congr_left fun u _ => ?_
      rw [sum_mul]
      rfl
    rw [e, ← sum_swap, show j + 1 + k = (j + k) + 1 by omega]
    show _ = ((nxt a b s).map fun u => NW a b (j + k) u t).sum
    congr 1
    exact List.map_congr_left fun v hv => NW_add h t k j v (h.cl s hs v hv)
/-! how great -/
theorem sum_le (f : List Int → Nat) (c : Nat) : ∀ V : List (List Int), (∀ v ∈ V, f v ≤ c) → (V.map f).sum ≤ V.length * c
  | [], _ => by simp
  | v :: V, h => by
    have h1 := sum_le f c V fun x hx => h x (List.mem_cons_of_mem _ hx)
    have h2 := h v List.mem_cons_self
    rw [List.map_cons, List.sum_cons, List.length_cons, Nat.succ_mul]
    omega
theorem NW_le {a b : Int} {S : List (List Int)} (h : Clo a b S) (h4 : ∀ s ∈ S, (nxt a b s).length ≤ 4) (t : List Int) : ∀ (k : Nat) (s : List Int), s ∈ S → NW a b k s t ≤ 4 ^ k
  | 0, s, _ => by
    rw [NW]
    split <;> simp
  | k + 1, s, hs => by
    have h1 := sum_le (fun u => NW a b k u t) (4 ^ k) (nxt a b s) fun v hv => NW_le h h4 t k v (h.cl s hs v hv)
    have h2 := h4 s hs
    have h3 : (nxt a b s).length * 4 ^ k ≤ 4 * 4 ^ k := Nat.mul_le_mul_right _ h2
    rw [Nat.pow_succ, Nat.mul_comm]
    exact Nat.le_trans h1 h3
theorem rowsK_len {a b : Int} {S : List (List Int)} (h : Clo a b S) (h4 : ∀ s ∈ S, (nxt a b s).length ≤ 4) : ∀ (k : Nat) (L : List (List Int)), (∀ s ∈ L, s ∈ S) → (∀ s ∈ rowsK a b k L, s ∈ S) ∧ (rowsK a b k L).length ≤ L.length * 4 ^ k
  | 0, L, hL => ⟨hL, by rw [Nat.pow_zero, Nat.mul_one]; exact Nat.le_refl _⟩
  | k + 1, L, hL => by
    have hM : ∀ s ∈ L.flatMap (nxt a b), s ∈ S := fun s hs => by
      obtain ⟨u, hu, h2⟩ := List.mem_flatMap.mp hs
      exact h.cl u (hL u hu) s h2
    have hl : ∀ M : List (List Int), (∀ s ∈ M, s ∈ S) → (M.flatMap (nxt a b)).length ≤ M.length * 4 := fun M => by
      induction M with
      | nil => simp
      | cons x M ih =>
        intro hx
        have i1 := ih fun s hs => hx s (List.mem_cons_of_mem _ hs)
        have i2 := h4 x (hx x List.mem_cons_self)
        rw [List.flatMap_cons, List.length_append, List.length_cons]
        omega
    obtain ⟨i1, i2⟩ := rowsK_len h h4 k (L.flatMap (nxt a b)) hM
    refine ⟨i1, Nat.le_trans i2 ?_⟩
    rw [Nat.pow_succ, Nat.mul_comm (4 ^ k) 4, ← Nat.mul_assoc]
    exact Nat.mul_le_mul_right _ (hl L hL)
theorem nodup_len : ∀ {l S : List (List Int)}, l.Nodup → (∀ x ∈ l, x ∈ S) → l.length ≤ S.length
  | [], _, _, _ => Nat.zero_le _
  | x :: l, S, nd, h => by
    rw [List.nodup_cons] at nd
    have hx := h x List.mem_cons_self
    have h1 := nodup_len (S := S.erase x) nd.2 fun y hy => (List.mem_erase_of_ne (fun e => nd.1 (by rw [← e]; exact hy))).mpr (h y (List.mem_cons_of_mem _ hy))
    rw [List.length_erase_of_mem hx] at h1
    have : 0 < S.length := List.length_pos_of_mem hx
    rw [List.length_cons]
    omega
theorem ways_mem {a b : Int} {S : List (List Int)} (h : Clo a b S) : ∀ (k : Nat) (w : List (List Int × Nat)), (∀ x ∈ w.map (·.1), x ∈ S) → ∀ x ∈ (waysI a b k w).map (·.1), x ∈ S
  | 0, w, hw => hw
  | k + 1, w, hw => ways_mem h k _ fun x hx => by
    rcases goS_mem a b w [] hx with h1 | ⟨q, hq, put, h1, rfl⟩
    · simp at h1
    · exact h.cl q.1 (hw q.1 (List.mem_map_of_mem hq)) _ (List.mem_map.mpr ⟨put, h1, rfl⟩)
theorem ways_nd (a b : Int) : ∀ (k : Nat) (w : List (List Int × Nat)), (w.map (·.1)).Nodup → ((waysI a b k w).map (·.1)).Nodup
  | 0, w, h => h
  | k + 1, w, _ => ways_nd a b k _ (goS_nodup a b w [] List.nodup_nil)
theorem ways_len {a b : Int} {S : List (List Int)} (h : Clo a b S) {s : List Int} (hs : s ∈ S) (k : Nat) : (waysI a b k [(s, 1)]).length ≤ S.length := by
  have h1 := nodup_len (ways_nd a b k [(s, 1)] (by simp)) (ways_mem h k [(s, 1)] fun x hx => by
    have e : x = s := by simpa using hx
    rw [e]
    exact hs)
  rwa [List.length_map] at h1
end DL
namespace DL
open PySem PySem.Spec PyProof.Rows L2
/-! the stands that are come to -/
def kn (ks : List (List Int)) : List (List Int × Bool) := ks.map fun k => (k, true)
theorem kn_len (ks : List (List Int)) : (kn ks).length = ks.length := List.length_map _
theorem kn_lk (ks : List (List Int)) (k : List Int) : (lkA (kn ks) k).isSome = decide (k ∈ ks) := by
  induction ks with
  | nil => rfl
  | cons x ks ih =>
    unfold lkA kn at ih ⊢
    rw [List.map_cons, List.find?_cons]
    by_cases h : x = k
    · subst h; simp
    · rw [decide_eq_false h]
      simp only [List.mem_cons]
      rw [ih]
      refine decide_eq_decide.mpr ⟨.inr, fun z => z.elim (fun e => absurd e.symm h) id⟩
theorem kn_any (ks : List (List Int)) (k : List Int) : ((kn ks).any fun p => decide (p.1 = k)) = decide (k ∈ ks) := by
  induction ks with
  | nil => rfl
  | cons x ks ih =>
    rw [kn, List.map_cons, List.any_cons]
    show (decide (x = k) || (kn ks).any fun p => decide (p.1 = k)) = _
    rw [ih]
    by_cases h : x = k
    · subst h; simp
    · rw [decide_eq_false h, Bool.false_or]
      refine decide_eq_decide.mpr ⟨fun z => List.mem_cons_of_mem _ z, fun z => (List.mem_cons.mp z).elim (fun e => absurd e.symm h) id⟩
theorem kn_pt {ks : List (List Int)} {k : List Int} (h : k ∉ ks) : ptA (kn ks) k true = kn (ks ++ [k]) := by
  unfold ptA
  rw [kn_any, decide_eq_false h, if_neg (by simp), kn, kn, List.map_append]
  rfl
abbrev knD (ks : List (List Int)) : D := .dct true .t (enD enS D.bl (kn ks))
theorem bl_cl : ∀ b : Bool, (D.bl b).cl = true := fun _ => rfl
theorem gNotIn_kn (ks : List (List Int)) (k : List Int) : gNotInA (enS k) (knD ks) = some (.bl (!decide (k ∈ ks))) := by
  have c : (isKey .t (enS k) && clK (enD enS D.bl (kn ks))) = true := by rw [encS.key, clK_en bl_cl]; rfl
  show (if (isKey .t (enS k) && clK (enD enS D.bl (kn ks))) = true then some (D.bl (!(lkD .t (enD enS D.bl (kn ks)) (enS k)).isSome)) else none) = _
  rw [if_pos c, lk_en encS, Option.isSome_map, kn_lk]
theorem putDk_kn {env : Env} {i : Nat} {kd : Kd} {ks : List (List Int)} {k : List Int} (h : k ∉ ks) (e : env[i]? = some (.sl kd (knD ks))) (hk : kd ≠ .R) (hl : ks.length < 16777216) :
    putDk env i (enS k) (.bl true) = .ok () (env.set i (.sl kd (knD (ks ++ [k])))) := by
  have c1 : (D.cl (.bl true) && clK (enD enS D.bl (kn ks)) && isKey .t (enS k)) = true ∧ (enD enS D.bl (kn ks)).length < 16777216 := ⟨by rw [encS.key, clK_en bl_cl]; rfl, by rw [enD_len, kn_len]; exact hl⟩
  unfold putDk
  rw [e]
  dsimp only
  rw [if_neg hk, if_pos c1]
  have q : ptD .t (enD enS D.bl (kn ks)) (enS k) (D.bl true) = enD enS D.bl (ptA (kn ks) k true) := pt_en (f := D.bl) encS (kn ks) k true
  rw [q, kn_pt h]
def enP (ps : List (List Int)) : List D := ps.map enS
theorem enP_cl (ps : List (List Int)) : clL (enP ps) = true := clL_enS ps
theorem enP_app (ps : List (List Int)) (k : List Int) (h : ps.length < 16777216) : mAppend (.lst true (enP ps)) [enS k] = some (.lst true (enP (ps ++ [k])), .non) := by
  rw [mAppend, if_pos (by rw [enP, List.length_map]; exact h), enP, enP, List.map_append]
  rfl
theorem enP_pop (ps : List (List Int)) (k : List Int) : mPop (.lst true (enP (ps ++ [k]))) [] = some (.lst true (enP ps), enS k) := by
  have e : (enP (ps ++ [k])).length = ps.length + 1 := by simp [enP]
  have e2 : (enP (ps ++ [k]))[(enP (ps ++ [k])).length - 1]? = some (enS k) := by
    rw [e, Nat.add_sub_cancel, enP, List.map_append, List.getElem?_append_right (by simp)]
    simp
  rw [mPop]
  simp only [e2]
  congr 2
  congr 1
  rw [enP, List.map_append]
  exact List.dropLast_concat
/-! equal lists of tuples -/
def pyS (k : List Int) : PyData := .tuple (k.map PyData.int)
theorem toPy_enS (k : List Int) : toPy (enS k) = some (pyS k) := by
  show (toPyL (lI k)).map PyData.tuple = _
  rw [toPyL_lI]
  rfl
theorem toPyL_enP (ps : List (List Int)) : toPyL (enP ps) = some (ps.map pyS) := by
  induction ps with
  | nil => rfl
  | cons p ps ih =>
    show toPyL (enS p :: enP ps) = _
    rw [toPyL, toPy_enS, ih]
    rfl
theorem pyS_lay (k : List Int) : (pyS k).canLay0 = true := by
  unfold pyS
  rw [PyData.canLay0, lay_ints]
theorem pySs_lay (ps : List (List Int)) : PyData.canLayAll0 (ps.map pyS) = true := by
  induction ps with
  | nil => rfl
  | cons p ps ih => rw [List.map_cons, PyData.canLayAll0, pyS_lay, ih]; rfl
theorem pyS_depth (k : List Int) : (pyS k).depth = 1 := by
  unfold pyS
  rw [PyData.depth, depth_ints]
theorem pySs_depth (ps : List (List Int)) : PyData.depthAll (ps.map pyS) ≤ 1 := by
  induction ps with
  | nil => exact Nat.zero_le _
  | cons p ps ih =>
    rw [List.map_cons, PyData.depthAll, pyS_depth]
    omega
theorem shaped_ps (ps : List (List Int)) : SeqAt.shaped (.list (ps.map pyS)) = true := by
  have h1 := pySs_lay ps
  have h2 := pySs_depth ps
  have h3 : (PyData.list (ps.map pyS)).depth ≤ 2 := by rw [PyData.depth]; omega
  have h4 : (PyData.list (ps.map pyS)).canLay0 = true := by rw [PyData.canLay0]; exact h1
  unfold SeqAt.shaped
  rw [h4, Bool.true_and]
  exact decide_eq_true (Nat.le_trans h3 (by decide))
theorem eqv_pyS (a b : List Int) : PyData.eqv (pyS a) (pyS b) = decide (a = b) := by
  unfold pyS
  rw [PyData.eqv, eqvAll_ints]
theorem eqvAll_ps : ∀ (a b : List (List Int)), PyData.eqvAll (a.map pyS) (b.map pyS) = decide (a = b)
  | [], [] => rfl
  | [], y :: ys => by simp [PyData.eqvAll]
  | x :: xs, [] => by simp [PyData.eqvAll]
  | x :: xs, y :: ys => by
    rw [List.map_cons, List.map_cons, PyData.eqvAll, eqvAll_ps xs ys, eqv_pyS]
    by_cases h : x = y <;> by_cases h2 : xs = ys <;> simp [h, h2]
theorem eqD_ps (m m' : Bool) (a b : List (List Int)) : eqD (.lst m (enP a)) (.lst m' (enP b)) = some (decide (a = b)) := by
  simp only [eqD, toPy, toPyL_enP, Option.map_some, Option.bind_some, shaped_ps, Bool.and_self, if_true, PyData.eqv, eqvAll_ps]
theorem gNe_ps (m m' : Bool) (a b : List (List Int)) : gNe (.lst m (enP a)) (.lst m' (enP b)) = some (.bl (!decide (a = b))) := by rw [gNe, eqD_ps]; rfl
theorem gNotIn_ps (m : Bool) (k : List Int) (ps : List (List Int)) : gNotIn (enS k) (.lst m (enP ps)) = some (.bl (!decide (k ∈ ps))) := by
  have h1 : inD (enS k) (enP ps) = some (decide (k ∈ ps)) := by
    unfold inD
    rw [toPy_enS, toPyL_enP, Option.bind_some, Option.bind_some]
    have h2 : SeqAt.shaped (pyS k) = true := shaped_tup k
    rw [h2, shaped_ps]
    simp only [Bool.and_self, if_true]
    congr 1
    induction ps with
    | nil => rfl
    | cons p ps ih =>
      rw [List.map_cons, List.any_cons, ih, eqv_pyS]
      by_cases h : p = k
      · subst h; simp
      · rw [decide_eq_false h, Bool.false_or]
        refine decide_eq_decide.mpr ⟨fun z => List.mem_cons_of_mem _ z, fun z => (List.mem_cons.mp z).elim (fun e => absurd e.symm h) id⟩
  rw [gNotIn, h1]
  rfl
/-! the search -/
def vis (a : Int) (st : List Int) : List Int → List (List Int) → List (List Int) → List (List Int) × List (List Int)
  | [], ks, ps => (ks, ps)
  | put :: r, ks, ps => if behI a st put ∈ ks then vis a st r ks ps else vis a st r (ks ++ [behI a st put]) (ps ++ [behI a st put])
def dfs (a b : Int) : Nat → List (List Int) → List (List Int) → Option (List (List Int))
  | 0, _, _ => none
  | n + 1, ks, ps => match ps.reverse with
    | [] => some ks
    | st :: r => if ks.length ≤ 1000 ∧ ps.length ≤ 1000 ∧ st.length ≤ 100 then (let q := vis a st (putsI a b st) ks r.reverse; dfs a b n q.1 q.2) else none
def envF (a b : Int) (ks ps : List (List Int)) (s3 s4 s5 : Sl) : Env := [.sl .O (rchD a b), .sl .O (knD ks), .sl .O (.lst true (enP ps)), s3, s4, s5]
theorem vis_one {a b : Int} {st : List Int} {ks ps : List (List Int)} {put : Int} (hs : st.length ≤ 500) (hk : ks.length < 16777216) (hp : ps.length < 16777216) (s5 : Sl) (h5 : Stb s5) :
    l_found_stands_0 (envF a b ks ps (.sl .O (enS st)) (.sl .O (.int put)) s5) = .ok .nx (if behI a st put ∈ ks then envF a b ks ps (.sl .O (enS st)) (.sl .O (.int put)) (.sl .O (enS (behI a st put))) else envF a b (ks ++ [behI a st put]) (ps ++ [behI a st put]) (.sl .O (enS st)) (.sl .O (.int put)) (.sl .O (enS (behI a st put)))) := by
  have h1 := behind_eq (a := a) (b := b) (put := put) (st := st) hs
  have c1 : (enS st).cl = true := clL_lI st
  generalize hx : behI a st put = x at *
  have c2 : (enS x).cl = true := clL_lI _
  have c3 : (enS x).fz = enS x := D.fz_cl _ c2
  have h2 := gNotIn_kn ks x
  have h4 := enP_app ps x hp
  by_cases h : x ∈ ks
  · rw [if_pos h]
    rw [decide_eq_true h] at h2
    simp only [envF] at *
    generalize knD ks = K at *
    generalize enS x = X at *
    generalize enS st = S at *
    rcases h5 with rfl | ⟨d5, rfl⟩ <;> simp (disch := first | omega | simp) [-List.map_replicate, mkFn, sSeq, sSet, sRet, sRetN, sIf, sNil, sExpr, sAsgG, sAug, sFor, tgSb, tgNm, tgTp, tgL, putI, noX, eV, eC, e1, e2, eN, eChain, eAnd, eOr, eNot, eIf, eFz, eTup, eLst, eSl, evO, eLc, lcRun, wpC, wp, rst, unlT, unlR, unl, eCall, eMut, eMeth, isL, evA, mkArgs, backs, put0, put1, put2, rd, rds, mv, mvs, setS, setL, asg, fin, outs, out1, opt, Res.bind, sOf, srcAt, srcS, srcV, srcO, itemsOf, D.cl, clL, clL_lI, D.fz, fzL, fzL_lI, gAdd_at, gSub_at, gMul_sm, gFdiv_at, gMod_at, gLt_at, gLe_at, gGt_at, gGe_at, gNeg_at, gEq_at, gNe_at, gEq_nn, gNe_nn, gEq_nil, gNe_nil, gEq_lst, gNe_lst, gEq_tup, gNe_tup, gEq_bl, gNe_bl, gIsi_ii, gIsi_ib, gIsi_bb, gIsi_ll, gIsi_tt, gIxA, gInA, gNotInA, gStA, gStT, sForD, noXs, unlR, tgDb, eDGet, eDGet1, eDnew, eDisp, flatP, pairD, isDc, l_found_stands_0, h1, h2, c1, c2, -gNotInA]
  · rw [if_neg h]
    rw [decide_eq_false h] at h2
    have h3 : putDk (envF a b ks ps (.sl .O (enS st)) (.sl .O (.int put)) (.sl .O (enS x))) 1 (enS x) (.bl true) = .ok () (envF a b (ks ++ [x]) ps (.sl .O (enS st)) (.sl .O (.int put)) (.sl .O (enS x))) := putDk_kn h rfl (by decide) hk
    simp only [envF] at *
    generalize knD ks = K at *
    generalize knD (ks ++ [x]) = K' at *
    generalize enP ps = P at *
    generalize enP (ps ++ [x]) = P' at *
    generalize enS x = X at *
    generalize enS st = S at *
    rcases h5 with rfl | ⟨d5, rfl⟩ <;> simp (disch := first | omega | simp) [-List.map_replicate, mkFn, sSeq, sSet, sRet, sRetN, sIf, sNil, sExpr, sAsgG, sAug, sFor, tgSb, tgNm, tgTp, tgL, putI, noX, eV, eC, e1, e2, eN, eChain, eAnd, eOr, eNot, eIf, eFz, eTup, eLst, eSl, evO, eLc, lcRun, wpC, wp, rst, unlT, unlR, unl, eCall, eMut, eMeth, isL, evA, mkArgs, backs, put0, put1, put2, rd, rds, mv, mvs, setS, setL, asg, fin, outs, out1, opt, Res.bind, sOf, srcAt, srcS, srcV, srcO, itemsOf, D.cl, clL, clL_lI, D.fz, fzL, fzL_lI, gAdd_at, gSub_at, gMul_sm, gFdiv_at, gMod_at, gLt_at, gLe_at, gGt_at, gGe_at, gNeg_at, gEq_at, gNe_at, gEq_nn, gNe_nn, gEq_nil, gNe_nil, gEq_lst, gNe_lst, gEq_tup, gNe_tup, gEq_bl, gNe_bl, gIsi_ii, gIsi_ib, gIsi_bb, gIsi_ll, gIsi_tt, gIxA, gInA, gNotInA, gStA, gStT, sForD, noXs, unlR, tgDb, eDGet, eDGet1, eDnew, eDisp, flatP, pairD, isDc, l_found_stands_0, h1, h2, h3, h4, c1, c2, c3, -gNotInA]
theorem vis_len (a : Int) (st : List Int) : ∀ (r : List Int) (ks ps : List (List Int)), (vis a st r ks ps).1.length ≤ ks.length + r.length ∧ (vis a st r ks ps).2.length ≤ ps.length + r.length
  | [], ks, ps => ⟨Nat.le_refl _, Nat.le_refl _⟩
  | put :: r, ks, ps => by
    unfold vis
    split
    · have := vis_len a st r ks ps
      simp only [List.length_cons]
      omega
    · have := vis_len a st r (ks ++ [behI a st put]) (ps ++ [behI a st put])
      simp only [List.length_cons, List.length_append, List.length_nil] at *
      omega
theorem vis_loop {a b : Int} {st : List Int} (hs : st.length ≤ 500) : ∀ (r : List Int) (ks ps : List (List Int)) (s4 s5 : Sl), Stb s4 → Stb s5 → ks.length + r.length < 16777216 → ps.length + r.length < 16777216 →
    ∃ t4 t5, Stb t4 ∧ Stb t5 ∧ forL (.nm 4) l_found_stands_0 (lI r) (envF a b ks ps (.sl .O (enS st)) s4 s5) = .ok .nx (envF a b (vis a st r ks ps).1 (vis a st r ks ps).2 (.sl .O (enS st)) t4 t5)
  | [], ks, ps, s4, s5, h4, h5, _, _ => ⟨s4, s5, h4, h5, rfl⟩
  | put :: r, ks, ps, s4, s5, h4, h5, hk, hp => by
    rw [List.length_cons] at hk hp
    have p1 := vis_one (a := a) (b := b) (st := st) (ks := ks) (ps := ps) (put := put) hs (by omega) (by omega) s5 h5
    have p0 : asg (.nm 4) (envF a b ks ps (.sl .O (enS st)) s4 s5) (.int put) = some (envF a b ks ps (.sl .O (enS st)) (.sl .O (.int put)) s5) := by
      rcases h4 with rfl | ⟨d4, rfl⟩ <;> rfl
    unfold vis
    by_cases h : behI a st put ∈ ks
    · rw [if_pos h] at p1 ⊢
      obtain ⟨t4, t5, k4, k5, p⟩ := vis_loop (b := b) hs r ks ps (.sl .O (.int put)) (.sl .O (enS (behI a st put))) (.inr ⟨_, rfl⟩) (.inr ⟨_, rfl⟩) (by omega) (by omega)
      exact ⟨t4, t5, k4, k5, by rw [lI_cons, forL_cons p0 p1]; exact p⟩
    · rw [if_neg h] at p1 ⊢
      obtain ⟨t4, t5, k4, k5, p⟩ := vis_loop (b := b) hs r (ks ++ [behI a st put]) (ps ++ [behI a st put]) (.sl .O (.int put)) (.sl .O (enS (behI a st put))) (.inr ⟨_, rfl⟩) (.inr ⟨_, rfl⟩) (by simp only [List.length_append, List.length_cons, List.length_nil]; omega) (by simp only [List.length_append, List.length_cons, List.length_nil]; omega)
      exact ⟨t4, t5, k4, k5, by rw [lI_cons, forL_cons p0 p1]; exact p⟩
theorem putsI_len (a b : Int) (st : List Int) : (putsI a b st).length ≤ st.length + 1 := by
  unfold putsI
  split
  · rw [List.length_take]; omega
  · rw [List.length_append]; exact Nat.le_refl _
theorem body_one {a b : Int} {st : List Int} {ks ps : List (List Int)} (hs : st.length ≤ 100) (hk : ks.length ≤ 1000) (hp : ps.length ≤ 1000) (s3 s4 s5 : Sl) (h3 : Stb s3) (h4 : Stb s4) (h5 : Stb s5) :
    ∃ t4 t5, Stb t4 ∧ Stb t5 ∧ l_found_stands_2 (envF a b ks (ps ++ [st]) s3 s4 s5) = .ok .nx (envF a b (vis a st (putsI a b st) ks ps).1 (vis a st (putsI a b st) ks ps).2 (.sl .O (enS st)) t4 t5) := by
  have hpl := putsI_len a b st
  obtain ⟨t4, t5, k4, k5, p⟩ := vis_loop (a := a) (b := b) (st := st) (by omega) (putsI a b st) ks ps s4 s5 h4 h5 (by omega) (by omega)
  refine ⟨t4, t5, k4, k5, ?_⟩
  have g1 := enP_pop ps st
  have g2 := puts_eq (a := a) (b := b) (st := st) (by omega)
  have c1 : (enS st).cl = true := clL_lI st
  have c2 := enP_cl (ps ++ [st])
  have c3 := enP_cl ps
  simp only [envF] at p
  rcases h3 with rfl | ⟨d3, rfl⟩ <;> simp (disch := first | omega | simp) [-List.map_replicate, mkFn, sSeq, sSet, sRet, sRetN, sIf, sNil, sExpr, sAsgG, sAug, sFor, tgSb, tgNm, tgTp, tgL, putI, noX, eV, eC, e1, e2, eN, eChain, eAnd, eOr, eNot, eIf, eFz, eTup, eLst, eSl, evO, eLc, lcRun, wpC, wp, rst, unlT, unlR, unl, eCall, eMut, eMeth, isL, evA, mkArgs, backs, put0, put1, put2, rd, rds, mv, mvs, setS, setL, asg, fin, outs, out1, opt, Res.bind, sOf, srcAt, srcS, srcV, srcO, itemsOf, D.cl, clL, clL_lI, D.fz, fzL, fzL_lI, gAdd_at, gSub_at, gMul_sm, gFdiv_at, gMod_at, gLt_at, gLe_at, gGt_at, gGe_at, gNeg_at, gEq_at, gNe_at, gEq_nn, gNe_nn, gEq_nil, gNe_nil, gEq_lst, gNe_lst, gEq_tup, gNe_tup, gEq_bl, gNe_bl, gIsi_ii, gIsi_ib, gIsi_bb, gIsi_ll, gIsi_tt, gIxA, gInA, gNotInA, gStA, gStT, sForD, noXs, unlR, tgDb, eDGet, eDGet1, eDnew, eDisp, flatP, pairD, isDc, l_found_stands_2, envF, g1, g2, c1, c2, c3, p]
theorem whL_true {cond : Ex} {body : Sta} {n : Nat} {env e2 : Env} (h1 : cond env = .ok (.vl (.bl true)) env) (h2 : body env = .ok .nx e2) : whL cond body (n + 1) env = whL cond body n e2 := by
  simp [whL, h1, h2, Res.bind, rd]
theorem whL_false {cond : Ex} {body : Sta} {n : Nat} {env : Env} (h1 : cond env = .ok (.vl (.bl false)) env) : whL cond body (n + 1) env = .ok .nx env := by
  simp [whL, h1, Res.bind, rd]
theorem cond_eq {a b : Int} {ks ps : List (List Int)} (s3 s4 s5 : Sl) : c_found_stands_1 (envF a b ks ps s3 s4 s5) = .ok (.vl (.bl (!decide (ps = [])))) (envF a b ks ps s3 s4 s5) := by
  have h1 : gNe (.lst true (enP ps)) (.lst true []) = some (.bl (!decide (ps = []))) := gNe_ps true true ps []
  have c2 := enP_cl ps
  simp (disch := first | omega | simp) [-List.map_replicate, mkFn, sSeq, sSet, sRet, sRetN, sIf, sNil, sExpr, sAsgG, sAug, sFor, tgSb, tgNm, tgTp, tgL, putI, noX, eV, eC, e1, e2, eN, eChain, eAnd, eOr, eNot, eIf, eFz, eTup, eLst, eSl, evO, eLc, lcRun, wpC, wp, rst, unlT, unlR, unl, eCall, eMut, eMeth, isL, evA, mkArgs, backs, put0, put1, put2, rd, rds, mv, mvs, setS, setL, asg, fin, outs, out1, opt, Res.bind, sOf, srcAt, srcS, srcV, srcO, itemsOf, D.cl, clL, clL_lI, D.fz, fzL, fzL_lI, gAdd_at, gSub_at, gMul_sm, gFdiv_at, gMod_at, gLt_at, gLe_at, gGt_at, gGe_at, gNeg_at, gEq_at, gNe_at, gEq_nn, gNe_nn, gEq_nil, gNe_nil, gEq_lst, gNe_lst, gEq_tup, gNe_tup, gEq_bl, gNe_bl, gIsi_ii, gIsi_ib, gIsi_bb, gIsi_ll, gIsi_tt, gIxA, gInA, gNotInA, gStA, gStT, sForD, noXs, unlR, tgDb, eDGet, eDGet1, eDnew, eDisp, flatP, pairD, isDc, c_found_stands_1, envF, h1, c2]
theorem dfs_run {a b : Int} {res : List (List Int)} : ∀ (m n : Nat) (ks ps : List (List Int)) (s3 s4 s5 : Sl), Stb s3 → Stb s4 → Stb s5 → m ≤ n → dfs a b m ks ps = some res →
    ∃ t3 t4 t5, Stb t3 ∧ Stb t4 ∧ Stb t5 ∧ whL c_found_stands_1 l_found_stands_2 n (envF a b ks ps s3 s4 s5) = .ok .nx (envF a b res [] t3 t4 t5)
  | 0, n, ks, ps, s3, s4, s5, h3, h4, h5, hm, h => by cases h
  | m + 1, 0, ks, ps, s3, s4, s5, h3, h4, h5, hm, h => by omega
  | m + 1, n + 1, ks, ps, s3, s4, s5, h3, h4, h5, hm, h => by
    have q := cond_eq (a := a) (b := b) (ks := ks) (ps := ps) s3 s4 s5
    unfold dfs at h
    split at h
    · rename_i e
      cases h
      have : ps = [] := by simpa using e
      subst this
      exact ⟨s3, s4, s5, h3, h4, h5, whL_false q⟩
    · rename_i st r e
      have ep : ps = r.reverse ++ [st] := by
        have := congrArg List.reverse e
        simpa using this
      split at h
      · rename_i c
        obtain ⟨c1, c2, c3⟩ := c
        rw [decide_eq_false (by rw [ep]; simp)] at q
        subst ep
        rw [List.length_append] at c2
        obtain ⟨t4, t5, k4, k5, p1⟩ := body_one (a := a) (b := b) (st := st) (ks := ks) (ps := r.reverse) c3 c1 (by omega) s3 s4 s5 h3 h4 h5
        obtain ⟨u3, u4, u5, m3, m4, m5, p2⟩ := dfs_run m n _ _ (.sl .O (enS st)) t4 t5 (.inr ⟨_, rfl⟩) k4 k5 (by omega) h
        exact ⟨u3, u4, u5, m3, m4, m5, by rw [whL_true q p1]; exact p2⟩
      · cases h
theorem gSortA_kn {ks : List (List Int)} (h : okTups ks = true) : gSortA [knD ks] = some (.lst true (enP (srtL ks))) := by
  have e : (enD enS D.bl (kn ks)).map (·.1) = ks.map enS := by
    rw [enD, kn, List.map_map, List.map_map]
    rfl
  show (tupsD ((enD enS D.bl (kn ks)).map (·.1))).bind _ = _
  rw [e, tupsD_en, Option.bind_some, if_pos h]
  rfl
/-- all stands, found -/
theorem found_eq {a : Nat} {b : Int} (ha : a ≤ 3) {res : List (List Int)} (h : dfs a b 1000 [rgI a] [rgI a] = some res) (ho : okTups res = true) : f_found_stands [.sl .O (rchD a b)] = .ok (.lst true (enP (srtL res))) [.un] := by
  obtain ⟨t3, t4, t5, _, _, _, p⟩ := dfs_run 1000 100000 [rgI a] [rgI a] .un .un .un (.inl rfl) (.inl rfl) (.inl rfl) (by omega) h
  have g1 : f_first_stand [.sl .O (rchD a b)] = .ok (enS (rgI a)) [.un] := first_eq ha b
  have c1 : (enS (rgI a)).cl = true := clL_lI _
  have c2 : (enS (rgI a)).fz = enS (rgI a) := D.fz_cl _ c1
  have c3 : isKey .t (enS (rgI a)) = true := encS.key _
  have c5 : ptD .t [] (enS (rgI a)) (.bl true) = enD enS D.bl (kn [rgI a]) := rfl
  have c6 : enP [rgI a] = [enS (rgI a)] := rfl
  have c7 := gSortA_kn ho
  have c8 := clK_en (enc := enS) bl_cl (kn res)
  simp only [envF, c6] at p
  simp (disch := first | omega | simp) [-List.map_replicate, mkFn, sSeq, sSet, sRet, sRetN, sIf, sNil, sExpr, sAsgG, sAug, sFor, tgSb, tgNm, tgTp, tgL, putI, noX, eV, eC, e1, e2, eN, eChain, eAnd, eOr, eNot, eIf, eFz, eTup, eLst, eSl, evO, eLc, lcRun, wpC, wp, rst, unlT, unlR, unl, eCall, eMut, eMeth, isL, evA, mkArgs, backs, put0, put1, put2, rd, rds, mv, mvs, setS, setL, asg, fin, outs, out1, opt, Res.bind, sOf, srcAt, srcS, srcV, srcO, itemsOf, D.cl, clL, clL_lI, D.fz, fzL, fzL_lI, gAdd_at, gSub_at, gMul_sm, gFdiv_at, gMod_at, gLt_at, gLe_at, gGt_at, gGe_at, gNeg_at, gEq_at, gNe_at, gEq_nn, gNe_nn, gEq_nil, gNe_nil, gEq_lst, gNe_lst, gEq_tup, gNe_tup, gEq_bl, gNe_bl, gIsi_ii, gIsi_ib, gIsi_bb, gIsi_ll, gIsi_tt, gIxA, gInA, gNotInA, gStA, gStT, sForD, noXs, unlR, tgDb, eDGet, eDGet1, eDnew, eDisp, flatP, pairD, isDc, f_found_stands, b_found_stands, sWhile, g1, c1, c2, c3, c5, c7, c8, p]
end DL
namespace DL
open PySem PySem.Spec PyProof.Rows L2
/-! steps told -/
theorem wholeS_eq (x lo hi : Int) : f_is_whole_stands [.sl .O (.int x), .sl .O (.int lo), .sl .O (.int hi)] = .ok (.bl (decide (lo ≤ x ∧ x ≤ hi))) [.un, .un, .un] := by
  by_cases h1 : lo ≤ x <;> by_cases h2 : x ≤ hi <;> simp (disch := first | omega | simp) [-List.map_replicate, mkFn, sSeq, sSet, sRet, sRetN, sIf, sNil, sExpr, sAsgG, sAug, sFor, tgSb, tgNm, tgTp, tgL, putI, noX, eV, eC, e1, e2, eN, eChain, eAnd, eOr, eNot, eIf, eFz, eTup, eLst, eSl, evO, eLc, lcRun, wpC, wp, rst, unlT, unlR, unl, eCall, eMut, eMeth, isL, evA, mkArgs, backs, put0, put1, put2, rd, rds, mv, mvs, setS, setL, asg, fin, outs, out1, opt, Res.bind, sOf, srcAt, srcS, srcV, srcO, itemsOf, D.cl, clL, clL_lI, D.fz, fzL, fzL_lI, gAdd_at, gSub_at, gMul_sm, gFdiv_at, gMod_at, gLt_at, gLe_at, gGt_at, gGe_at, gNeg_at, gEq_at, gNe_at, gEq_nn, gNe_nn, gEq_nil, gNe_nil, gEq_lst, gNe_lst, gEq_tup, gNe_tup, gEq_bl, gNe_bl, gIsi_ii, gIsi_ib, gIsi_bb, gIsi_ll, gIsi_tt, gIxA, gInA, gNotInA, gStA, gStT, sForD, noXs, unlR, tgDb, eDGet, eDGet1, eDnew, eDisp, flatP, pairD, isDc, f_is_whole_stands, b_is_whole_stands, h1, h2]
def outS (a b : Int) (st : List Int) : List Int := st.filter fun x => !decide (-b ≤ x ∧ x ≤ a - 1)
def fNs (a b : Int) : D → Option D
  | .int x => if (!decide (-b ≤ x ∧ x ≤ a - 1)) = true then some (.int x) else none
  | _ => none
theorem ns_map (a b : Int) (l : List Int) : (lI l).filterMap (fNs a b) = lI (outS a b l) := by
  unfold outS
  induction l with
  | nil => rfl
  | cons x l ih =>
    rw [lI_cons, List.filterMap_cons, List.filter_cons, fNs]
    by_cases h : (!decide (-b ≤ x ∧ x ≤ a - 1)) = true
    · rw [if_pos h, if_pos h, lI_cons, ← ih]
    · rw [if_neg h, if_neg h, ← ih]
theorem ns_lc {a b : Int} (l : List Int) (hl : l.length ≤ 1000) (s0 s1 : Sl) : lcL (.nm 4) [4] c_need_stand_1 e_need_stand_0 (lI l) [s0, s1, .sl .O (.int a), .sl .O (.int b), .un] [] = .ok (lI (outS a b l)) [s0, s1, .sl .O (.int a), .sl .O (.int b), .un] := by
  have hs : ∀ d ∈ lI l, lcStep (.nm 4) [4] c_need_stand_1 e_need_stand_0 d [s0, s1, .sl .O (.int a), .sl .O (.int b), .un] = .ok (fNs a b d) [s0, s1, .sl .O (.int a), .sl .O (.int b), .un] := by
    intro d hd
    obtain ⟨x, hx, rfl⟩ := mem_lI.mp hd
    have h1 := wholeS_eq x (-b) (a - 1)
    unfold fNs
    cases hc : decide (-b ≤ x ∧ x ≤ a - 1) with
    | true =>
      rw [hc] at h1
      simp (disch := first | omega | simp) [-List.map_replicate, mkFn, sSeq, sSet, sRet, sRetN, sIf, sNil, sExpr, sAsgG, sAug, sFor, tgSb, tgNm, tgTp, tgL, putI, noX, eV, eC, e1, e2, eN, eChain, eAnd, eOr, eNot, eIf, eFz, eTup, eLst, eSl, evO, eLc, lcRun, wpC, wp, rst, unlT, unlR, unl, eCall, eMut, eMeth, isL, evA, mkArgs, backs, put0, put1, put2, rd, rds, mv, mvs, setS, setL, asg, fin, outs, out1, opt, Res.bind, sOf, srcAt, srcS, srcV, srcO, itemsOf, D.cl, clL, clL_lI, D.fz, fzL, fzL_lI, gAdd_at, gSub_at, gMul_sm, gFdiv_at, gMod_at, gLt_at, gLe_at, gGt_at, gGe_at, gNeg_at, gEq_at, gNe_at, gEq_nn, gNe_nn, gEq_nil, gNe_nil, gEq_lst, gNe_lst, gEq_tup, gNe_tup, gEq_bl, gNe_bl, gIsi_ii, gIsi_ib, gIsi_bb, gIsi_ll, gIsi_tt, gIxA, gInA, gNotInA, gStA, gStT, sForD, noXs, unlR, tgDb, eDGet, eDGet1, eDnew, eDisp, flatP, pairD, isDc, lcStep, c_need_stand_1, e_need_stand_0, h1]
      exact of_decide_eq_true hc
    | false =>
      rw [hc] at h1
      simp (disch := first | omega | simp) [-List.map_replicate, mkFn, sSeq, sSet, sRet, sRetN, sIf, sNil, sExpr, sAsgG, sAug, sFor, tgSb, tgNm, tgTp, tgL, putI, noX, eV, eC, e1, e2, eN, eChain, eAnd, eOr, eNot, eIf, eFz, eTup, eLst, eSl, evO, eLc, lcRun, wpC, wp, rst, unlT, unlR, unl, eCall, eMut, eMeth, isL, evA, mkArgs, backs, put0, put1, put2, rd, rds, mv, mvs, setS, setL, asg, fin, outs, out1, opt, Res.bind, sOf, srcAt, srcS, srcV, srcO, itemsOf, D.cl, clL, clL_lI, D.fz, fzL, fzL_lI, gAdd_at, gSub_at, gMul_sm, gFdiv_at, gMod_at, gLt_at, gLe_at, gGt_at, gGe_at, gNeg_at, gEq_at, gNe_at, gEq_nn, gNe_nn, gEq_nil, gNe_nil, gEq_lst, gNe_lst, gEq_tup, gNe_tup, gEq_bl, gNe_bl, gIsi_ii, gIsi_ib, gIsi_bb, gIsi_ll, gIsi_tt, gIxA, gInA, gNotInA, gStA, gStT, sForD, noXs, unlR, tgDb, eDGet, eDGet1, eDnew, eDisp, flatP, pairD, isDc, lcStep, c_need_stand_1, e_need_stand_0, h1]
      have := of_decide_eq_false hc
      omega
  have q := lcL_map (fNs a b) (lI l) [] (by rw [lI_len, List.length_nil]; omega) hs
  rw [q, ns_map]
  rfl
theorem need_eq {a b : Int} {st : List Int} {L : List (List Int)} (hl : st.length ≤ 500) (hf : f_found_stands [.sl .O (rchD a b)] = .ok (.lst true (enP L)) [.un]) (ho : outS a b st = []) (hm : st ∈ L) :
    f_need_stand [.sl .O (rchD a b), .sl .O (enS st)] = .ok .non [.un, .un] := by
  have h1 : ∀ s0 s1, lcL (.nm 4) [4] c_need_stand_1 e_need_stand_0 (lI st) [s0, s1, .sl .O (.int a), .sl .O (.int b), .un] [] = .ok [] [s0, s1, .sl .O (.int a), .sl .O (.int b), .un] := fun s0 s1 => by
    have := ns_lc (a := a) (b := b) st (by omega) s0 s1
    rw [ho] at this
    exact this
  have h2 := gNotIn_ps true st L
  rw [decide_eq_true hm] at h2
  have c := enP_cl L
  simp only [enS] at h2
  simp (disch := first | omega | simp) [-List.map_replicate, mkFn, sSeq, sSet, sRet, sRetN, sIf, sNil, sExpr, sAsgG, sAug, sFor, tgSb, tgNm, tgTp, tgL, putI, noX, eV, eC, e1, e2, eN, eChain, eAnd, eOr, eNot, eIf, eFz, eTup, eLst, eSl, evO, eLc, lcRun, wpC, wp, rst, unlT, unlR, unl, eCall, eMut, eMeth, isL, evA, mkArgs, backs, put0, put1, put2, rd, rds, mv, mvs, setS, setL, asg, fin, outs, out1, opt, Res.bind, sOf, srcAt, srcS, srcV, srcO, itemsOf, D.cl, clL, clL_lI, D.fz, fzL, fzL_lI, gAdd_at, gSub_at, gMul_sm, gFdiv_at, gMod_at, gLt_at, gLe_at, gGt_at, gGe_at, gNeg_at, gEq_at, gNe_at, gEq_nn, gNe_nn, gEq_nil, gNe_nil, gEq_lst, gNe_lst, gEq_tup, gNe_tup, gEq_bl, gNe_bl, gIsi_ii, gIsi_ib, gIsi_bb, gIsi_ll, gIsi_tt, gIxA, gInA, gNotInA, gStA, gStT, sForD, noXs, unlR, tgDb, eDGet, eDGet1, eDnew, eDisp, flatP, pairD, isDc, f_need_stand, b_need_stand, enS, h1, h2, hf, c]
theorem reach_is {a b : Nat} (ha : a ≤ 3) (hb : b ≤ 3) : f_need_reach [.sl .O (rchD a b)] = .ok .non [.un] := by
  have : a = 0 ∨ a = 1 ∨ a = 2 ∨ a = 3 := by omega
  have : b = 0 ∨ b = 1 ∨ b = 2 ∨ b = 3 := by omega
  rcases ‹a = 0 ∨ _› with rfl | rfl | rfl | rfl <;> rcases ‹b = 0 ∨ _› with rfl | rfl | rfl | rfl <;> rfl
def stpL (a : Int) (st : List Int) (r : List Int) : List D := r.map fun put => .tup [.int put, enS (behI a st put)]
theorem stpL_cl (a : Int) (st : List Int) : ∀ r, clL (stpL a st r) = true
  | [] => rfl
  | x :: r => by
    show ((clL (lI (behI a st x)) && true) && clL (stpL a st r)) = true
    rw [stpL_cl a st r, clL_lI]
    rfl
def fSt (a : Int) (st : List Int) : D → Option D
  | .int put => some (.tup [.int put, enS (behI a st put)])
  | _ => none
theorem stp_map (a : Int) (st l : List Int) : (lI l).filterMap (fSt a st) = stpL a st l := by
  induction l with
  | nil => rfl
  | cons x l ih => rw [lI_cons, List.filterMap_cons, fSt, ih]; rfl

end DL
namespace DL
open PySem PySem.Spec PyProof.Rows L2
mutual
def beqD : D → D → Bool
  | .non, .non => true
  | .bl a, .bl b => a == b
  | .int i, .int j => decide (i = j)
  | .tup a, .tup b => beqDs a b
  | .lst m a, .lst n b => (m == n) && beqDs a b
  | _, _ => false
def beqDs : List D → List D → Bool
  | [], [] => true
  | a :: r, b :: s => beqD a b && beqDs r s
  | _, _ => false
end
mutual
theorem beqD_eq : ∀ (a b : D), beqD a b = true → a = b
  | .non, .non, _ => rfl
  | .bl a, .bl b, h => by rw [beqD, beq_iff_eq] at h; rw [h]
  | .int i, .int j, h => by rw [beqD, decide_eq_true_eq] at h; rw [h]
  | .tup a, .tup b, h => by rw [beqD] at h; rw [beqDs_eq a b h]
  | .lst m a, .lst n b, h => by
    rw [beqD, Bool.and_eq_true, beq_iff_eq] at h
    rw [h.1, beqDs_eq a b h.2]
  | .non, .bl _, h | .non, .int _, h | .non, .str _, h | .non, .ty _, h | .non, .gl _, h | .non, .exc _, h | .non, .tup _, h | .non, .kt _, h | .non, .lst _ _, h | .non, .dct _ _ _, h => by simp [beqD] at h
  | .bl _, .non, h | .bl _, .int _, h | .bl _, .str _, h | .bl _, .ty _, h | .bl _, .gl _, h | .bl _, .exc _, h | .bl _, .tup _, h | .bl _, .kt _, h | .bl _, .lst _ _, h | .bl _, .dct _ _ _, h => by simp [beqD] at h
  | .int _, .non, h | .int _, .bl _, h | .int _, .str _, h | .int _, .ty _, h | .int _, .gl _, h | .int _, .exc _, h | .int _, .tup _, h | .int _, .kt _, h | .int _, .lst _ _, h | .int _, .dct _ _ _, h => by simp [beqD] at h
  | .tup _, .non, h | .tup _, .bl _, h | .tup _, .str _, h | .tup _, .ty _, h | .tup _, .gl _, h | .tup _, .exc _, h | .tup _, .int _, h | .tup _, .kt _, h | .tup _, .lst _ _, h | .tup _, .dct _ _ _, h => by simp [beqD] at h
  | .lst _ _, .non, h | .lst _ _, .bl _, h | .lst _ _, .str _, h | .lst _ _, .ty _, h | .lst _ _, .gl _, h | .lst _ _, .exc _, h | .lst _ _, .int _, h | .lst _ _, .kt _, h | .lst _ _, .tup _, h | .lst _ _, .dct _ _ _, h => by simp [beqD] at h
  | .str _, b, h => by cases b <;> simp [beqD] at h
  | .ty _, b, h => by cases b <;> simp [beqD] at h
  | .gl _, b, h => by cases b <;> simp [beqD] at h
  | .exc _, b, h => by cases b <;> simp [beqD] at h
  | .kt _, b, h => by cases b <;> simp [beqD] at h
  | .dct _ _ _, b, h => by cases b <;> simp [beqD] at h
theorem beqDs_eq : ∀ (a b : List D), beqDs a b = true → a = b
  | [], [], _ => rfl
  | a :: r, b :: s, h => by
    rw [beqDs, Bool.and_eq_true] at h
    rw [beqD_eq a b h.1, beqDs_eq r s h.2]
  | [], _ :: _, h => by simp [beqDs] at h
  | _ :: _, [], h => by simp [beqDs] at h
end
/-- what a call told: a list of its own -/
def lstR (r : Res D) : Option (List D) := match r with
  | .ok (.lst true l) [.un] => some l
  | _ => none
def lstR2 (r : Res D) : Option (List D) := match r with
  | .ok (.lst true l) [.un, .un] => some l
  | _ => none
theorem lstR_eq {r : Res D} {l : List D} (h : lstR r = some l) : r = .ok (.lst true l) [.un] := by
  unfold lstR at h
  split at h
  · cases h; rfl
  · cases h
theorem lstR2_eq {r : Res D} {l : List D} (h : lstR2 r = some l) : r = .ok (.lst true l) [.un, .un] := by
  unfold lstR2 at h
  split at h
  · cases h; rfl
  · cases h
/-- the stands of a reach -/
def stnS (a b : Nat) : List (List Int) := match dfs a b 1000 [rgI a] [rgI a] with
  | some res => srtL res
  | none => []
def chk7 (a b : Nat) : Bool := match lstR (f_law_stands [.sl .O (rchD a b)]), dfs a b 1000 [rgI a] [rgI a] with
  | some l, some res => okTups res && (beqDs l (enP (srtL res)) && (Nat.ble l.length 20 && Nat.blt 0 l.length))
  | _, _ => false
def stOk8 (a b : Nat) (S : List (List Int)) (st : List Int) : Bool := Nat.beq st.length a && (decide (outS a b st = []) && ((match lstR2 (f_law_steps [.sl .O (rchD a b), .sl .O (enS st)]) with
  | some due => beqDs due (stpL a st (putsI a b st))
  | none => false) && ((nxt a b st).all (fun u => S.any fun x => decide (x = u)) && Nat.ble (nxt a b st).length 4)))
def ndB : List (List Int) → Bool
  | [] => true
  | x :: l => !(l.any fun y => decide (y = x)) && ndB l
theorem ndB_nd : ∀ {l : List (List Int)}, ndB l = true → l.Nodup
  | [], _ => List.nodup_nil
  | x :: l, h => by
    rw [ndB, Bool.and_eq_true, Bool.not_eq_true'] at h
    refine List.nodup_cons.mpr ⟨fun hm => ?_, ndB_nd h.2⟩
    have := List.any_eq_false.mp h.1 x hm
    simp at this
def chk8 (a b : Nat) : Bool := chk7 a b && (ndB (stnS a b) && (stnS a b).all (stOk8 a b (stnS a b)))
set_option maxHeartbeats 0 in
theorem chk8_all : ∀ a, a < 4 → ∀ b, b < 4 → chk8 a b = true := by decide +kernel
structure St8 (a b : Nat) (S : List (List Int)) : Prop where
  ha : a < 4
  hb : b < 4
  fo : f_found_stands [.sl .O (rchD a b)] = .ok (.lst true (enP S)) [.un]
  ls : f_law_stands [.sl .O (rchD a b)] = .ok (.lst true (enP S)) [.un]
  l0 : 0 < S.length
  l1 : S.length ≤ 20
  cl : Clo a b S
  n4 : ∀ s ∈ S, (nxt a b s).length ≤ 4
  len : ∀ s ∈ S, s.length = a
  out : ∀ s ∈ S, outS a b s = []
  steps : ∀ s ∈ S, f_law_steps [.sl .O (rchD a b), .sl .O (enS s)] = .ok (.lst true (stpL a s (putsI a b s))) [.un, .un]
theorem enP_len (ps : List (List Int)) : (enP ps).length = ps.length := List.length_map _
theorem st8_of {a b : Nat} (ha : a < 4) (hb : b < 4) : ∃ S, St8 a b S := by
  have h := chk8_all a ha b hb
  unfold chk8 at h
  simp only [Bool.and_eq_true] at h
  obtain ⟨h, hnd, hall⟩ := h
  unfold chk7 at h
  split at h
  · rename_i l res h1 h2
    simp only [Bool.and_eq_true] at h
    obtain ⟨q1, q2, q3, q4⟩ := h
    have z1 := beqDs_eq _ _ q2
    have f1 := found_eq (by omega) h2 q1
    have hS : stnS a b = srtL res := by
      unfold stnS
      rw [h2]
    have z2 : l.length = (srtL res).length := by rw [z1, enP_len]
    rw [hS] at hnd hall
    have ok : ∀ s ∈ srtL res, stOk8 a b (srtL res) s = true := List.all_eq_true.mp hall
    have k : ∀ s ∈ srtL res, s.length = a ∧ outS a b s = [] ∧ f_law_steps [.sl .O (rchD a b), .sl .O (enS s)] = .ok (.lst true (stpL a s (putsI a b s))) [.un, .un] ∧ (∀ u ∈ nxt a b s, u ∈ srtL res) ∧ (nxt a b s).length ≤ 4 := fun s hs => by
      have o := ok s hs
      unfold stOk8 at o
      simp only [Bool.and_eq_true, decide_eq_true_eq] at o
      obtain ⟨o1, o2, o3, o4, o5⟩ := o
      refine ⟨Nat.eq_of_beq_eq_true o1, o2, ?_, fun u hu => ?_, Nat.ble_eq.mp o5⟩
      · split at o3
        · rename_i due e
          rw [lstR2_eq e, beqDs_eq _ _ o3]
        · cases o3
      · obtain ⟨x, hx, e⟩ := List.any_eq_true.mp (List.all_eq_true.mp o4 u hu)
        have : x = u := of_decide_eq_true e
        rw [← this]
        exact hx
    refine ⟨srtL res, ha, hb, f1, by rw [← z1]; exact lstR_eq h1, ?_, ?_, ⟨ndB_nd hnd, fun s hs => (k s hs).2.2.2.1⟩, fun s hs => (k s hs).2.2.2.2, fun s hs => (k s hs).1, fun s hs => (k s hs).2.1, fun s hs => (k s hs).2.2.1⟩
    · rw [← z2]; exact Nat.blt_eq.mp q4
    · rw [← z2]; exact Nat.ble_eq.mp q3
  · cases h
end DL
namespace DL
open PySem PySem.Spec PyProof.Rows L2
theorem many8 {n : Nat} (hn : n ≤ 40) : f_need_many [.sl .O (.int n)] = .ok .non [.un] := by
  have h := wholeS_eq (n : Int) 0 40
  have e : decide ((0 : Int) ≤ (n : Int) ∧ (n : Int) ≤ 40) = true := decide_eq_true (by omega)
  rw [e] at h
  simp (disch := first | omega | simp) [-List.map_replicate, mkFn, sSeq, sSet, sRet, sRetN, sIf, sNil, sExpr, sAsgG, sAug, sFor, tgSb, tgNm, tgTp, tgL, putI, noX, eV, eC, e1, e2, eN, eChain, eAnd, eOr, eNot, eIf, eFz, eTup, eLst, eSl, evO, eLc, lcRun, wpC, wp, rst, unlT, unlR, unl, eCall, eMut, eMeth, isL, evA, mkArgs, backs, put0, put1, put2, rd, rds, mv, mvs, setS, setL, asg, fin, outs, out1, opt, Res.bind, sOf, srcAt, srcS, srcV, srcO, itemsOf, D.cl, clL, clL_lI, D.fz, fzL, fzL_lI, gAdd_at, gSub_at, gMul_sm, gFdiv_at, gMod_at, gLt_at, gLe_at, gGt_at, gGe_at, gNeg_at, gEq_at, gNe_at, gEq_nn, gNe_nn, gEq_nil, gNe_nil, gEq_lst, gNe_lst, gEq_tup, gNe_tup, gEq_bl, gNe_bl, gIsi_ii, gIsi_ib, gIsi_bb, gIsi_ll, gIsi_tt, gIxA, gInA, gNotInA, gStA, gStT, sForD, noXs, unlR, tgDb, eDGet, eDGet1, eDnew, eDisp, flatP, pairD, isDc, f_need_many, b_need_many, h]
theorem between_eq {a b : Nat} {S : List (List Int)} (s : St8 a b S) {one other : List Int} (h1 : one ∈ S) (h2 : other ∈ S) {k : Nat} (hk : k ≤ 40) :
    f_ways_between [.sl .O (rchD a b), .sl .O (enS one), .sl .O (enS other), .sl .O (.int k)] = .ok (.int (NW a b k one other : Nat)) [.un, .un, .un, .un] := by
  have ha := s.ha
  have hb := s.hb
  have r := reach_is (a := a) (b := b) (by omega) (by omega)
  have l1 := s.len one h1
  have l2 := s.len other h2
  have n1 := need_eq (by omega) s.fo (s.out one h1) h1
  have n2 := need_eq (by omega) s.fo (s.out other h2) h2
  have m := many8 hk
  obtain ⟨md, w⟩ := ways_eq (a := a) (b := b) (one := one) (by omega) k (by omega) (fun j _ => by have := ways_len s.cl h1 j; have := s.l1; omega)
  have g := gDGet_en encS md (waysI a b k [(one, 1)]) other
  rw [ways_NW] at g
  have c1 : (enS one).cl = true := clL_lI one
  have c2 : (enS other).cl = true := clL_lI other
  have c3 : (rchD a b).cl = true := rfl
  have dc : ∀ x, isDc (some (.dct md .t x)) = true := fun _ => rfl
  generalize enD enS fN (waysI a b k [(one, 1)]) = W at *
  generalize enS one = E1 at *
  generalize enS other = E2 at *
  generalize rchD (a : Int) (b : Int) = R at *
  simp (disch := first | omega | simp) [-List.map_replicate, mkFn, sSeq, sSet, sRet, sRetN, sIf, sNil, sExpr, sAsgG, sAug, sFor, tgSb, tgNm, tgTp, tgL, putI, noX, eV, eC, e1, e2, eN, eChain, eAnd, eOr, eNot, eIf, eFz, eTup, eLst, eSl, evO, eLc, lcRun, wpC, wp, rst, unlT, unlR, unl, eCall, eMut, eMeth, isL, evA, mkArgs, backs, put0, put1, put2, rd, rds, mv, mvs, setS, setL, asg, fin, outs, out1, opt, Res.bind, sOf, srcAt, srcS, srcV, srcO, itemsOf, D.cl, clL, clL_lI, D.fz, fzL, fzL_lI, gAdd_at, gSub_at, gMul_sm, gFdiv_at, gMod_at, gLt_at, gLe_at, gGt_at, gGe_at, gNeg_at, gEq_at, gNe_at, gEq_nn, gNe_nn, gEq_nil, gNe_nil, gEq_lst, gNe_lst, gEq_tup, gNe_tup, gEq_bl, gNe_bl, gIsi_ii, gIsi_ib, gIsi_bb, gIsi_ll, gIsi_tt, gIxA, gInA, gNotInA, gStA, gStT, sForD, noXs, unlR, tgDb, eDGet, eDGet1, eDnew, eDisp, flatP, pairD, isDc, f_ways_between, b_ways_between, r, n1, n2, m, w, g, c1, c2, c3, dc, -isDc]
/-! rows -/
def fBh : D → Option D
  | .tup [_, y] => some y
  | _ => none
theorem bh_map (a : Int) (s : List Int) : ∀ r : List Int, (stpL a s r).filterMap fBh = enP (r.map fun put => behI a s put)
  | [] => rfl
  | p :: r => by
    have e : stpL a s (p :: r) = .tup [.int p, enS (behI a s p)] :: stpL a s r := rfl
    rw [e, List.filterMap_cons, fBh, bh_map a s r]
    rfl
theorem rows_lc {a : Int} {s : List Int} (r : List Int) (hr : r.length ≤ 1000) (s0 s1 s2 s3 s4 s5 s6 : Sl) : lcL (.tp [7, 8]) [7, 8] (eC (.bl true)) e_law_rows_0 (stpL a s r) [s0, s1, s2, s3, s4, s5, s6, .un, .un] [] = .ok (enP (r.map fun put => behI a s put)) [s0, s1, s2, s3, s4, s5, s6, .un, .un] := by
  have hs : ∀ d ∈ stpL a s r, lcStep (.tp [7, 8]) [7, 8] (eC (.bl true)) e_law_rows_0 d [s0, s1, s2, s3, s4, s5, s6, .un, .un] = .ok (fBh d) [s0, s1, s2, s3, s4, s5, s6, .un, .un] := by
    intro d hd
    obtain ⟨p, hp, rfl⟩ := List.mem_map.mp hd
    have c : (enS (behI a s p)).cl = true := clL_lI _
    generalize enS (behI a s p) = E at *
    simp (disch := first | omega | simp) [-List.map_replicate, mkFn, sSeq, sSet, sRet, sRetN, sIf, sNil, sExpr, sAsgG, sAug, sFor, tgSb, tgNm, tgTp, tgL, putI, noX, eV, eC, e1, e2, eN, eChain, eAnd, eOr, eNot, eIf, eFz, eTup, eLst, eSl, evO, eLc, lcRun, wpC, wp, rst, unlT, unlR, unl, eCall, eMut, eMeth, isL, evA, mkArgs, backs, put0, put1, put2, rd, rds, mv, mvs, setS, setL, asg, fin, outs, out1, opt, Res.bind, sOf, srcAt, srcS, srcV, srcO, itemsOf, D.cl, clL, clL_lI, D.fz, fzL, fzL_lI, gAdd_at, gSub_at, gMul_sm, gFdiv_at, gMod_at, gLt_at, gLe_at, gGt_at, gGe_at, gNeg_at, gEq_at, gNe_at, gEq_nn, gNe_nn, gEq_nil, gNe_nil, gEq_lst, gNe_lst, gEq_tup, gNe_tup, gEq_bl, gNe_bl, gIsi_ii, gIsi_ib, gIsi_bb, gIsi_ll, gIsi_tt, gIxA, gInA, gNotInA, gStA, gStT, sForD, noXs, unlR, tgDb, eDGet, eDGet1, eDnew, eDisp, flatP, pairD, isDc, lcStep, e_law_rows_0, fBh, c]
  have q := lcL_map fBh (stpL a s r) [] (by rw [stpL, List.length_map, List.length_nil]; omega) hs
  rw [q, bh_map]
  rfl
theorem row_one {a b : Nat} {S : List (List Int)} (st : St8 a b S) {s : List Int} (hs : s ∈ S) {L : List (List Int)} (hl : L.length ≤ 1000) (s1 s2 s3 s4 : Sl) :
    l_law_rows_1 [.sl .O (rchD a b), s1, s2, s3, s4, .sl .O (.lst true (enP L)), .sl .O (enS s), .un, .un] = .ok .nx [.sl .O (rchD a b), s1, s2, s3, s4, .sl .O (.lst true (enP (L ++ nxt a b s))), .sl .O (enS s), .un, .un] := by
  have h1 := st.steps s hs
  have h4 := st.n4 s hs
  have hp : (putsI a b s).length ≤ 1000 := by
    have : (nxt a b s).length = (putsI a b s).length := List.length_map _
    omega
  have h2 := fun s0 s1 s2 s3 s4 s5 s6 => rows_lc (a := a) (s := s) (putsI a b s) hp s0 s1 s2 s3 s4 s5 s6
  have e : enP ((putsI a b s).map fun put => behI a s put) = enP (nxt a b s) := rfl
  rw [e] at h2
  have h3 : mExtend (.lst true (enP L)) [.lst true (enP (nxt a b s))] = some (.lst true (enP (L ++ nxt a b s)), .non) := by
    have e2 : enP (L ++ nxt a b s) = enP L ++ enP (nxt a b s) := List.map_append
    rw [mExtend, if_pos (by rw [enP_len, enP_len]; omega), e2]
  have c1 : (enS s).cl = true := clL_lI s
  have c3 : (rchD a b).cl = true := rfl
  have c4 := enP_cl (nxt a b s)
  have c5 := stpL_cl a s (putsI a b s)
  have f5 := fzL_cl _ c5
  generalize stpL a s (putsI a b s) = T at *
  generalize enP (L ++ nxt a b s) = N2 at *
  generalize enP (nxt a b s) = N1 at *
  generalize enP L = N0 at *
  generalize enS s = E1 at *
  generalize rchD (a : Int) (b : Int) = R at *
  simp (disch := first | omega | simp) [-List.map_replicate, mkFn, sSeq, sSet, sRet, sRetN, sIf, sNil, sExpr, sAsgG, sAug, sFor, tgSb, tgNm, tgTp, tgL, putI, noX, eV, eC, e1, e2, eN, eChain, eAnd, eOr, eNot, eIf, eFz, eTup, eLst, eSl, evO, eLc, lcRun, wpC, wp, rst, unlT, unlR, unl, eCall, eMut, eMeth, isL, evA, mkArgs, backs, put0, put1, put2, rd, rds, mv, mvs, setS, setL, asg, fin, outs, out1, opt, Res.bind, sOf, srcAt, srcS, srcV, srcO, itemsOf, D.cl, clL, clL_lI, D.fz, fzL, fzL_lI, gAdd_at, gSub_at, gMul_sm, gFdiv_at, gMod_at, gLt_at, gLe_at, gGt_at, gGe_at, gNeg_at, gEq_at, gNe_at, gEq_nn, gNe_nn, gEq_nil, gNe_nil, gEq_lst, gNe_lst, gEq_tup, gNe_tup, gEq_bl, gNe_bl, gIsi_ii, gIsi_ib, gIsi_bb, gIsi_ll, gIsi_tt, gIxA, gInA, gNotInA, gStA, gStT, sForD, noXs, unlR, tgDb, eDGet, eDGet1, eDnew, eDisp, flatP, pairD, isDc, l_law_rows_1, h1, h2, h3, c1, c3, c4, c5, f5]
theorem row_loop {a b : Nat} {S : List (List Int)} (st : St8 a b S) (s1 s2 s3 s4 : Sl) : ∀ (M L : List (List Int)) (s6 : Sl), Stb s6 → (∀ s ∈ M, s ∈ S) → L.length + 4 * M.length ≤ 1000 →
    ∃ t6, Stb t6 ∧ forL (.nm 6) l_law_rows_1 (enP M) [.sl .O (rchD a b), s1, s2, s3, s4, .sl .O (.lst true (enP L)), s6, .un, .un] = .ok .nx [.sl .O (rchD a b), s1, s2, s3, s4, .sl .O (.lst true (enP (L ++ M.flatMap (nxt a b)))), t6, .un, .un]
  | [], L, s6, h6, _, _ => ⟨s6, h6, by rw [List.flatMap_nil, List.append_nil]; rfl⟩
  | s :: M, L, s6, h6, hM, hl => by
    have hs := hM s List.mem_cons_self
    have h4 := st.n4 s hs
    rw [List.length_cons] at hl
    obtain ⟨t6, k6, p⟩ := row_loop st s1 s2 s3 s4 M (L ++ nxt a b s) (.sl .O (enS s)) (.inr ⟨_, rfl⟩) (fun x hx => hM x (List.mem_cons_of_mem _ hx)) (by rw [List.length_append]; omega)
    refine ⟨t6, k6, ?_⟩
    rw [List.flatMap_cons, ← List.append_assoc, ← p]
    exact forL_cons (by rcases h6 with rfl | ⟨d, rfl⟩ <;> rfl) (row_one st hs (by omega) s1 s2 s3 s4)
theorem rows_turn {a b : Nat} {S : List (List Int)} (st : St8 a b S) {M : List (List Int)} (hM : ∀ s ∈ M, s ∈ S) (hl : 4 * M.length ≤ 1000) (m : Bool) (s1 s2 s4 s5 s6 : Sl) (h5 : Stb s5) (h6 : Stb s6) :
    ∃ t5 t6, Stb t5 ∧ Stb t6 ∧ l_law_rows_2 [.sl .O (rchD a b), s1, s2, .sl .O (.lst m (enP M)), s4, s5, s6, .un, .un] = .ok .nx [.sl .O (rchD a b), s1, s2, .sl .O (.lst false (enP (M.flatMap (nxt a b)))), s4, t5, t6, .un, .un] := by
  have cM := enP_cl M
  have cN := enP_cl (M.flatMap (nxt a b))
  have fN' := fzL_cl _ cN
  cases m with
  | true =>
    obtain ⟨t6, k6, p⟩ := row_loop st s1 s2 (.sl .R (.lst true (enP M))) s4 M [] s6 h6 hM (by simp; omega)
    rw [List.nil_append] at p
    have e0 : enP [] = [] := rfl
    rw [e0] at p
    refine ⟨.sl .O (.lst false (enP (M.flatMap (nxt a b)))), t6, .inr ⟨_, rfl⟩, k6, ?_⟩
    generalize enP (M.flatMap (nxt a b)) = N1 at *
    generalize enP M = N0 at *
    rcases h5 with rfl | ⟨d5, rfl⟩ <;> simp (disch := first | omega | simp) [-List.map_replicate, mkFn, sSeq, sSet, sRet, sRetN, sIf, sNil, sExpr, sAsgG, sAug, sFor, tgSb, tgNm, tgTp, tgL, putI, noX, eV, eC, e1, e2, eN, eChain, eAnd, eOr, eNot, eIf, eFz, eTup, eLst, eSl, evO, eLc, lcRun, wpC, wp, rst, unlT, unlR, unl, eCall, eMut, eMeth, isL, evA, mkArgs, backs, put0, put1, put2, rd, rds, mv, mvs, setS, setL, asg, fin, outs, out1, opt, Res.bind, sOf, srcAt, srcS, srcV, srcO, itemsOf, D.cl, clL, clL_lI, D.fz, fzL, fzL_lI, gAdd_at, gSub_at, gMul_sm, gFdiv_at, gMod_at, gLt_at, gLe_at, gGt_at, gGe_at, gNeg_at, gEq_at, gNe_at, gEq_nn, gNe_nn, gEq_nil, gNe_nil, gEq_lst, gNe_lst, gEq_tup, gNe_tup, gEq_bl, gNe_bl, gIsi_ii, gIsi_ib, gIsi_bb, gIsi_ll, gIsi_tt, gIxA, gInA, gNotInA, gStA, gStT, sForD, noXs, unlR, tgDb, eDGet, eDGet1, eDnew, eDisp, flatP, pairD, isDc, l_law_rows_2, p, cM, cN, fN']
  | false =>
    obtain ⟨t6, k6, p⟩ := row_loop st s1 s2 (.sl .O (.lst false (enP M))) s4 M [] s6 h6 hM (by simp; omega)
    rw [List.nil_append] at p
    have e0 : enP [] = [] := rfl
    rw [e0] at p
    refine ⟨.sl .O (.lst false (enP (M.flatMap (nxt a b)))), t6, .inr ⟨_, rfl⟩, k6, ?_⟩
    generalize enP (M.flatMap (nxt a b)) = N1 at *
    generalize enP M = N0 at *
    rcases h5 with rfl | ⟨d5, rfl⟩ <;> simp (disch := first | omega | simp) [-List.map_replicate, mkFn, sSeq, sSet, sRet, sRetN, sIf, sNil, sExpr, sAsgG, sAug, sFor, tgSb, tgNm, tgTp, tgL, putI, noX, eV, eC, e1, e2, eN, eChain, eAnd, eOr, eNot, eIf, eFz, eTup, eLst, eSl, evO, eLc, lcRun, wpC, wp, rst, unlT, unlR, unl, eCall, eMut, eMeth, isL, evA, mkArgs, backs, put0, put1, put2, rd, rds, mv, mvs, setS, setL, asg, fin, outs, out1, opt, Res.bind, sOf, srcAt, srcS, srcV, srcO, itemsOf, D.cl, clL, clL_lI, D.fz, fzL, fzL_lI, gAdd_at, gSub_at, gMul_sm, gFdiv_at, gMod_at, gLt_at, gLe_at, gGt_at, gGe_at, gNeg_at, gEq_at, gNe_at, gEq_nn, gNe_nn, gEq_nil, gNe_nil, gEq_lst, gNe_lst, gEq_tup, gNe_tup, gEq_bl, gNe_bl, gIsi_ii, gIsi_ib, gIsi_bb, gIsi_ll, gIsi_tt, gIxA, gInA, gNotInA, gStA, gStT, sForD, noXs, unlR, tgDb, eDGet, eDGet1, eDnew, eDisp, flatP, pairD, isDc, l_law_rows_2, p, cM, cN, fN']
theorem rows_eq {a b : Nat} {S : List (List Int)} (st : St8 a b S) {s : List Int} (hs : s ∈ S) {k : Nat} (hk : k ≤ 4) :
    ∃ m, f_law_rows [.sl .O (rchD a b), .sl .O (enS s), .sl .O (.int k)] = .ok (.lst m (enP (rowsK a b k [s]))) [.un, .un, .un] := by
  have hin : ∀ x ∈ [s], x ∈ S := fun x hx => by rw [List.mem_singleton.mp hx]; exact hs
  obtain ⟨e, e1, m, s4, s5, s6, k4, k5, k6, rfl⟩ := forL_inv (tg := .nm 4) (body := l_law_rows_2) (fun i env => ∃ m s4 s5 s6, Stb s4 ∧ Stb s5 ∧ Stb s6 ∧ env = [.sl .O (rchD a b), .sl .O (enS s), .sl .O (.int k), .sl .O (.lst m (enP (rowsK a b i [s]))), s4, s5, s6, .un, .un]) (lI (rgI k)) 0 [.sl .O (rchD a b), .sl .O (enS s), .sl .O (.int k), .sl .O (.lst true (enP [s])), .un, .un, .un, .un, .un] (fun i d env hd hP => by
    rw [Nat.zero_add] at hP ⊢
    obtain ⟨m, s4, s5, s6, k4, k5, k6, rfl⟩ := hP
    obtain ⟨rfl, hi⟩ := rgI_mem_at hd
    obtain ⟨r1, r2⟩ := rowsK_len st.cl st.n4 i [s] hin
    have r3 : 4 ^ i ≤ 4 ^ 3 := Nat.pow_le_pow_right (by omega) (by omega)
    have r4 : (4 : Nat) ^ 3 = 64 := by decide
    have r5 : [s].length * 4 ^ i = 4 ^ i := by rw [List.length_singleton, Nat.one_mul]
    obtain ⟨t5, t6, m5, m6, p⟩ := rows_turn st (M := rowsK a b i [s]) r1 (by omega) m (.sl .O (enS s)) (.sl .O (.int k)) (.sl .O (.int i)) s5 s6 k5 k6
    refine ⟨[.sl .O (rchD a b), .sl .O (enS s), .sl .O (.int k), .sl .O (.lst m (enP (rowsK a b i [s]))), .sl .O (.int i), s5, s6, .un, .un], _, ?_, p, false, _, t5, t6, .inr ⟨_, rfl⟩, m5, m6, by rw [rowsK_succ]⟩
    rcases k4 with rfl | ⟨d4, rfl⟩ <;> rfl) ⟨true, .un, .un, .un, .inl rfl, .inl rfl, .inl rfl, rfl⟩
  rw [Nat.zero_add, lI_len, rgI_len] at e1
  refine ⟨m, ?_⟩
  have g1 := rg1_at (n := k) (by omega)
  have c1 : (enS s).cl = true := clL_lI s
  have c2 := (enS s).fz_cl c1
  have e0 : enP [s] = [enS s] := rfl
  have c4 := enP_cl (rowsK a b k [s])
  have f4 := fzL_cl _ c4
  rw [e0] at e1
  generalize enP (rowsK a b k [s]) = N at *
  generalize enS s = E at *
  generalize lI (rgI k) = R5 at *
  generalize rchD (a : Int) (b : Int) = R at *
  cases m <;> simp (disch := first | omega | simp) [-List.map_replicate, mkFn, sSeq, sSet, sRet, sRetN, sIf, sNil, sExpr, sAsgG, sAug, sFor, tgSb, tgNm, tgTp, tgL, putI, noX, eV, eC, e1, e2, eN, eChain, eAnd, eOr, eNot, eIf, eFz, eTup, eLst, eSl, evO, eLc, lcRun, wpC, wp, rst, unlT, unlR, unl, eCall, eMut, eMeth, isL, evA, mkArgs, backs, put0, put1, put2, rd, rds, mv, mvs, setS, setL, asg, fin, outs, out1, opt, Res.bind, sOf, srcAt, srcS, srcV, srcO, itemsOf, D.cl, clL, clL_lI, D.fz, fzL, fzL_lI, gAdd_at, gSub_at, gMul_sm, gFdiv_at, gMod_at, gLt_at, gLe_at, gGt_at, gGe_at, gNeg_at, gEq_at, gNe_at, gEq_nn, gNe_nn, gEq_nil, gNe_nil, gEq_lst, gNe_lst, gEq_tup, gNe_tup, gEq_bl, gNe_bl, gIsi_ii, gIsi_ib, gIsi_bb, gIsi_ll, gIsi_tt, gIxA, gInA, gNotInA, gStA, gStT, sForD, noXs, unlR, tgDb, eDGet, eDGet1, eDnew, eDisp, flatP, pairD, isDc, f_law_rows, b_law_rows, sRgF, g1, c1, c2, c4, f4, e1]
theorem count_eq8 {m : Bool} (L : List (List Int)) (t : List Int) : gCntD (.lst m (enP L)) [enS t] = some (.int (L.count t : Nat)) := by
  have h1 := shaped_ps L
  have h2 : SeqAt.shaped (pyS t) = true := by
    unfold SeqAt.shaped
    rw [pyS_lay, pyS_depth]
    rfl
  rw [gCntD, toPy_enS, Option.bind_some, toPyL_enP, Option.bind_some, h1, h2]
  have e : (L.map pyS).countP (fun z => PyData.eqv z (pyS t)) = L.count t := by
    rw [List.countP_map, List.count]
    refine congrFun (congrArg List.countP ?_) L
    funext x
    show PyData.eqv (pyS x) (pyS t) = (x == t)
    rw [eqv_pyS]
    by_cases h : x = t
    · rw [decide_eq_true h, h]; exact (beq_self_eq_true t).symm
    · rw [decide_eq_false h]; exact (beq_eq_false_iff_ne.mpr h).symm
  rw [e]
  rfl
end DL
namespace DL
open PySem PySem.Spec PyProof.Rows L2
def tabL (a b : Int) (S : List (List Int)) (k : Nat) (t : List Int) : List (List Int × Nat) := S.map fun s => (s, NW a b k s t)
theorem tabL_fst (a b : Int) (S : List (List Int)) (k : Nat) (t : List Int) : (tabL a b S k t).map (·.1) = S := by
  unfold tabL
  rw [List.map_map]
  exact List.map_id' S
theorem tabL_mem {a b : Int} {S : List (List Int)} {k : Nat} {t s : List Int} (h : s ∈ S) : (s, NW a b k s t) ∈ tabL a b S k t := List.mem_map.mpr ⟨s, h, rfl⟩
def tri (q : List Int × Nat) : D := .tup [enS q.1, fN q.2]
theorem trs_map : ∀ l : List (List Int × Nat), trsL (l.map tri) = some (enD enS fN l)
  | [] => rfl
  | q :: l => by
    have k : (isKey .t (enS q.1) && (fN q.2).cl) = true := by rw [encS.key]; rfl
    have e : trOf (tri q) = some (enS q.1, fN q.2) := by rw [tri, trOf, if_pos k]
    rw [List.map_cons, trsL, e, trs_map l]
    rfl
theorem fold_en : ∀ (l acc : List (List Int × Nat)), ((acc ++ l).map (·.1)).Nodup → (enD enS fN l).foldl (fun acc p => ptD .t acc p.1 p.2) (enD enS fN acc) = enD enS fN (acc ++ l)
  | [], acc, _ => by rw [List.append_nil]; rfl
  | q :: l, acc, nd => by
    have e : enD enS fN (q :: l) = (enS q.1, fN q.2) :: enD enS fN l := rfl
    have hn : q.1 ∉ acc.map (·.1) := fun hm => by
      rw [List.map_append, List.map_cons] at nd
      exact (List.nodup_append.mp nd).2.2 q.1 hm q.1 List.mem_cons_self rfl
    have e2 : ptA acc q.1 q.2 = acc ++ [q] := by
      unfold ptA
      rw [if_neg fun z => ?_]
      obtain ⟨p, hp, e⟩ := List.any_eq_true.mp z
      exact hn (by rw [← of_decide_eq_true e]; exact List.mem_map_of_mem hp)
    rw [e, List.foldl_cons]
    show (enD enS fN l).foldl (fun acc p => ptD .t acc p.1 p.2) (ptD .t (enD enS fN acc) (enS q.1) (fN q.2)) = _
    rw [pt_en encS, e2, fold_en l (acc ++ [q]) (by rw [List.append_assoc]; exact nd), List.append_assoc]
    rfl
theorem dict_tab {m : Bool} {l : List (List Int × Nat)} (nd : (l.map (·.1)).Nodup) : gDictT [.lst m (l.map tri)] = some (.dct true .t (enD enS fN l)) := by
  have h := fold_en l [] (by rw [List.nil_append]; exact nd)
  rw [List.nil_append] at h
  rw [gDictT, trs_map]
  exact congrArg (fun x => some (D.dct true .t x)) h
def fT0 (t : List Int) : D → Option D
  | .tup ds => (intsD ds).map fun s => tri (s, if s = t then 1 else 0)
  | _ => none
theorem intsD_lI8 : ∀ l : List Int, intsD (lI l) = some l
  | [] => rfl
  | x :: l => by
    rw [lI_cons, intsD, intsD_lI8 l]
    rfl
theorem t0_map (t : List Int) : ∀ S : List (List Int), (enP S).filterMap (fT0 t) = (S.map fun s => (s, if s = t then 1 else 0)).map tri
  | [] => rfl
  | s :: S => by
    have e : enP (s :: S) = enS s :: enP S := rfl
    have e2 : fT0 t (enS s) = some (tri (s, if s = t then 1 else 0)) := by
      rw [enS, fT0, intsD_lI8]
      rfl
    rw [e, List.filterMap_cons, e2, t0_map t S]
    rfl
theorem tab_lc0 {t : List Int} (S : List (List Int)) (hl : S.length ≤ 1000) (s0 s2 s3 s4 s5 s6 s8 s9 : Sl) : lcL (.nm 7) [7] (eC (.bl true)) e_law_table_0 (enP S) [s0, .sl .O (enS t), s2, s3, s4, s5, s6, .un, s8, s9] [] = .ok ((S.map fun s => (s, if s = t then 1 else 0)).map tri) [s0, .sl .O (enS t), s2, s3, s4, s5, s6, .un, s8, s9] := by
  have hs : ∀ d ∈ enP S, lcStep (.nm 7) [7] (eC (.bl true)) e_law_table_0 d [s0, .sl .O (enS t), s2, s3, s4, s5, s6, .un, s8, s9] = .ok (fT0 t d) [s0, .sl .O (enS t), s2, s3, s4, s5, s6, .un, s8, s9] := by
    intro d hd
    obtain ⟨s, hs, rfl⟩ := List.mem_map.mp hd
    have q2 : fT0 t (enS s) = some (.tup [enS s, .int (if s = t then 1 else 0)]) := by
      rw [enS, fT0, intsD_lI8]
      show some (D.tup [D.tup (lI s), D.int (((if s = t then 1 else 0 : Nat)) : Int)]) = _
      split <;> rfl
    have q : gEq (enS s) (enS t) = some (.bl (decide (s = t))) := gEq_tup
    have gi : gInt [.bl (decide (s = t))] = some (.int (if s = t then 1 else 0)) := by
      by_cases h : s = t
      · rw [decide_eq_true h, if_pos h]; rfl
      · rw [decide_eq_false h, if_neg h]; rfl
    have c1 : (enS s).cl = true := clL_lI s
    have c2 : (enS t).cl = true := clL_lI t
    rw [q2]
    clear q2
    generalize (if s = t then (1 : Int) else 0) = v at *
    generalize decide (s = t) = bb at *
    generalize enS s = A at *
    generalize enS t = B at *
    simp (disch := first | omega | simp) [-List.map_replicate, mkFn, sSeq, sSet, sRet, sRetN, sIf, sNil, sExpr, sAsgG, sAug, sFor, tgSb, tgNm, tgTp, tgL, putI, noX, eV, eC, e1, e2, eN, eChain, eAnd, eOr, eNot, eIf, eFz, eTup, eLst, eSl, evO, eLc, lcRun, wpC, wp, rst, unlT, unlR, unl, eCall, eMut, eMeth, isL, evA, mkArgs, backs, put0, put1, put2, rd, rds, mv, mvs, setS, setL, asg, fin, outs, out1, opt, Res.bind, sOf, srcAt, srcS, srcV, srcO, itemsOf, D.cl, clL, clL_lI, D.fz, fzL, fzL_lI, gAdd_at, gSub_at, gMul_sm, gFdiv_at, gMod_at, gLt_at, gLe_at, gGt_at, gGe_at, gNeg_at, gEq_at, gNe_at, gEq_nn, gNe_nn, gEq_nil, gNe_nil, gEq_lst, gNe_lst, gEq_tup, gNe_tup, gEq_bl, gNe_bl, gIsi_ii, gIsi_ib, gIsi_bb, gIsi_ll, gIsi_tt, gIxA, gInA, gNotInA, gStA, gStT, sForD, noXs, unlR, tgDb, eDGet, eDGet1, eDnew, eDisp, flatP, pairD, isDc, lcStep, e_law_table_0, q, gi, c1, c2]
  have q := lcL_map (fT0 t) (enP S) [] (by rw [enP_len, List.length_nil]; omega) hs
  rw [q, t0_map]
  rfl
theorem tab_lc1 {a : Int} {s : List Int} {m : Bool} {w : List (List Int × Nat)} {F : List Int → Nat} (nd : (w.map (·.1)).Nodup) (s0 s1 s2 s3 s5 s6 s7 : Sl) : ∀ (r : List Int) (acc : List D), (∀ put ∈ r, (behI a s put, F (behI a s put)) ∈ w) → acc.length + r.length ≤ 1000 →
    lcL (.tp [8, 9]) [8, 9] (eC (.bl true)) e_law_table_1 (stpL a s r) [s0, s1, s2, s3, wD m w, s5, s6, s7, .un, .un] acc = .ok (acc ++ lI (r.map fun put => ((F (behI a s put) : Nat) : Int))) [s0, s1, s2, s3, wD m w, s5, s6, s7, .un, .un]
  | [], acc, _, _ => by rw [List.map_nil, show lI [] = [] from rfl, List.append_nil]; rfl
  | p :: r, acc, h, hl => by
    rw [List.length_cons] at hl
    have e : stpL a s (p :: r) = .tup [.int p, enS (behI a s p)] :: stpL a s r := rfl
    have g := gDx_en encS m nd (h p List.mem_cons_self)
    have st : lcStep (.tp [8, 9]) [8, 9] (eC (.bl true)) e_law_table_1 (.tup [.int p, enS (behI a s p)]) [s0, s1, s2, s3, wD m w, s5, s6, s7, .un, .un] = .ok (some (.int ((F (behI a s p) : Nat) : Int))) [s0, s1, s2, s3, wD m w, s5, s6, s7, .un, .un] := by
      have c : (enS (behI a s p)).cl = true := clL_lI _
      have g' : gIxA (.dct m .t (enD enS fN w)) (enS (behI a s p)) = some (.int ((F (behI a s p) : Nat) : Int)) := g
      unfold wD
      generalize enD enS fN w = W at *
      generalize ((F (behI a s p) : Nat) : Int) = v at *
      generalize enS (behI a s p) = E at *
      simp (disch := first | omega | simp) [-List.map_replicate, mkFn, sSeq, sSet, sRet, sRetN, sIf, sNil, sExpr, sAsgG, sAug, sFor, tgSb, tgNm, tgTp, tgL, putI, noX, eV, eC, e1, e2, eN, eChain, eAnd, eOr, eNot, eIf, eFz, eTup, eLst, eSl, evO, eLc, lcRun, wpC, wp, rst, unlT, unlR, unl, eCall, eMut, eMeth, isL, evA, mkArgs, backs, put0, put1, put2, rd, rds, mv, mvs, setS, setL, asg, fin, outs, out1, opt, Res.bind, sOf, srcAt, srcS, srcV, srcO, itemsOf, D.cl, clL, clL_lI, D.fz, fzL, fzL_lI, gAdd_at, gSub_at, gMul_sm, gFdiv_at, gMod_at, gLt_at, gLe_at, gGt_at, gGe_at, gNeg_at, gEq_at, gNe_at, gEq_nn, gNe_nn, gEq_nil, gNe_nil, gEq_lst, gNe_lst, gEq_tup, gNe_tup, gEq_bl, gNe_bl, gIsi_ii, gIsi_ib, gIsi_bb, gIsi_ll, gIsi_tt, gIxA, gInA, gNotInA, gStA, gStT, sForD, noXs, unlR, tgDb, eDGet, eDGet1, eDnew, eDisp, flatP, pairD, isDc, lcStep, e_law_table_1, g', c, -gIxA]
    have ih := tab_lc1 (a := a) (s := s) (m := m) (w := w) (F := F) nd s0 s1 s2 s3 s5 s6 s7 r (acc ++ [D.int ((F (behI a s p) : Nat) : Int)]) (fun q hq => h q (List.mem_cons_of_mem _ hq)) (by rw [List.length_append]; simp; omega)
    rw [e, lcL_cons st (by omega), Option.toList_some, ih, List.append_assoc]
    rfl
theorem sum_cast {α : Type} (f : α → Nat) : ∀ r : List α, (r.map fun x => ((f x : Nat) : Int)).sum = (((r.map f).sum : Nat) : Int)
  | [] => rfl
  | x :: r => by
    rw [List.map_cons, List.sum_cons, sum_cast f r, List.map_cons, List.sum_cons]
    omega
theorem addA_new {l : List (List Int × Nat)} {k : List Int} {c : Nat} (h : k ∉ l.map (·.1)) : addA l k c = l ++ [(k, c)] := by
  induction l with
  | nil => rfl
  | cons p r ih =>
    rw [List.map_cons, List.mem_cons, not_or] at h
    rw [addA, if_neg fun e => h.1 e.symm, ih h.2]
    rfl
theorem tab_one {a b : Nat} {S : List (List Int)} (st : St8 a b S) {t : List Int} {k : Nat} {m : Bool} {s : List Int} (hs : s ∈ S) {l : List (List Int × Nat)} (nd : (l.map (·.1)).Nodup) (hn : s ∉ l.map (·.1)) (hl : l.length ≤ 1000) (s1 s2 s3 s5 : Sl) :
    l_law_table_2 [.sl .O (rchD a b), s1, s2, s3, wD m (tabL a b S k t), s5, .sl .O (.dct true .t (enD enS fN l)), .sl .O (enS s), .un, .un] = .ok .nx [.sl .O (rchD a b), s1, s2, s3, wD m (tabL a b S k t), s5, .sl .O (.dct true .t (enD enS fN (l ++ [(s, NW a b (k + 1) s t)]))), .sl .O (enS s), .un, .un] := by
  have h1 := st.steps s hs
  have h4 := st.n4 s hs
  have hp : (putsI a b s).length ≤ 1000 := by
    have : (nxt a b s).length = (putsI a b s).length := List.length_map _
    omega
  have ndw : ((tabL a b S k t).map (·.1)).Nodup := by rw [tabL_fst]; exact st.cl.nd
  have h2 := fun s0 s6 s7 => tab_lc1 (a := a) (s := s) (m := m) (w := tabL a b S k t) (F := fun u => NW a b k u t) ndw s0 s1 s2 s3 s5 s6 s7 (putsI a b s) [] (fun put hput => tabL_mem (st.cl.cl s hs _ (List.mem_map.mpr ⟨put, hput, rfl⟩))) (by simp; omega)
  have h3 : gSum [.lst true (lI ((putsI a b s).map fun put => ((NW a b k (behI a s put) t : Nat) : Int)))] = some (.int ((NW a b (k + 1) s t : Nat) : Int)) := by
    rw [gSum, intsD_lI8]
    show some (D.int _) = _
    rw [sum_cast (fun put => NW a b k (behI a s put) t) (putsI a b s)]
    have e : NW a b (k + 1) s t = ((putsI a b s).map fun put => NW a b k (behI a s put) t).sum := by
      show ((nxt a b s).map fun u => NW a b k u t).sum = _
      unfold nxt
      rw [List.map_map]
      rfl
    rw [e]
  have g0 : getA l s = 0 := by rw [← get_lk, lk_none_of hn]; rfl
  have c1 : (enS s).cl = true := clL_lI s
  have c3 : (rchD a b).cl = true := rfl
  have c5 := stpL_cl a s (putsI a b s)
  have f5 := fzL_cl _ c5
  have c6 := clL_lI ((putsI a b s).map fun put => ((NW a b k (behI a s put) t : Nat) : Int))
  have pd := fun (e : Env) (he : e[6]? = some (.sl .O (.dct true .t (enD enS fN l)))) => putDk_en0 encS (env := e) (i := 6) (kd := .O) nd s (NW a b (k + 1) s t) he (by decide) (by omega)
  rw [g0, Nat.zero_add, addA_new hn] at pd
  simp only [List.nil_append] at h2
  unfold wD at *
  generalize enD enS fN (tabL a b S k t) = W at *
  generalize lI ((putsI a b s).map fun put => ((NW a b k (behI a s put) t : Nat) : Int)) = Z at *
  generalize ((NW a b (k + 1) s t : Nat) : Int) = v at *
  generalize stpL a s (putsI a b s) = T at *
  have pd' := pd [.sl .O (rchD a b), s1, s2, s3, .sl .O (.dct m .t W), s5, .sl .O (.dct true .t (enD enS fN l)), .sl .O (enS s), .un, .un] rfl
  generalize enD enS fN (l ++ [(s, NW a b (k + 1) s t)]) = L2' at *
  generalize enD enS fN l = L1' at *
  generalize enS s = E1 at *
  generalize rchD (a : Int) (b : Int) = R at *
  simp (disch := first | omega | simp) [-List.map_replicate, mkFn, sSeq, sSet, sRet, sRetN, sIf, sNil, sExpr, sAsgG, sAug, sFor, tgSb, tgNm, tgTp, tgL, putI, noX, eV, eC, e1, e2, eN, eChain, eAnd, eOr, eNot, eIf, eFz, eTup, eLst, eSl, evO, eLc, lcRun, wpC, wp, rst, unlT, unlR, unl, eCall, eMut, eMeth, isL, evA, mkArgs, backs, put0, put1, put2, rd, rds, mv, mvs, setS, setL, asg, fin, outs, out1, opt, Res.bind, sOf, srcAt, srcS, srcV, srcO, itemsOf, D.cl, clL, clL_lI, D.fz, fzL, fzL_lI, gAdd_at, gSub_at, gMul_sm, gFdiv_at, gMod_at, gLt_at, gLe_at, gGt_at, gGe_at, gNeg_at, gEq_at, gNe_at, gEq_nn, gNe_nn, gEq_nil, gNe_nil, gEq_lst, gNe_lst, gEq_tup, gNe_tup, gEq_bl, gNe_bl, gIsi_ii, gIsi_ib, gIsi_bb, gIsi_ll, gIsi_tt, gIxA, gInA, gNotInA, gStA, gStT, sForD, noXs, unlR, tgDb, eDGet, eDGet1, eDnew, eDisp, flatP, pairD, isDc, l_law_table_2, h1, h2, h3, c1, c3, c5, f5, c6, pd']
end DL
namespace DL
open PySem PySem.Spec PyProof.Rows L2
theorem tab_loop {a b : Nat} {S : List (List Int)} (st : St8 a b S) {t : List Int} {k : Nat} {m : Bool} (s1 s2 s3 s5 : Sl) : ∀ (V U : List (List Int)) (s7 : Sl), Stb s7 → (U ++ V).Nodup → (∀ s ∈ V, s ∈ S) → U.length + V.length ≤ 100 →
    ∃ t7, Stb t7 ∧ forL (.nm 7) l_law_table_2 (enP V) [.sl .O (rchD a b), s1, s2, s3, wD m (tabL a b S k t), s5, .sl .O (.dct true .t (enD enS fN (tabL a b U (k + 1) t))), s7, .un, .un] = .ok .nx [.sl .O (rchD a b), s1, s2, s3, wD m (tabL a b S k t), s5, .sl .O (.dct true .t (enD enS fN (tabL a b (U ++ V) (k + 1) t))), t7, .un, .un]
  | [], U, s7, h7, _, _, _ => ⟨s7, h7, by rw [List.append_nil]; rfl⟩
  | s :: V, U, s7, h7, nd, hV, hl => by
    rw [List.length_cons] at hl
    have hs := hV s List.mem_cons_self
    have nd' : (U ++ [s] ++ V).Nodup := by rw [List.append_assoc]; exact nd
    have hn : s ∉ U := fun hm => (List.nodup_append.mp nd).2.2 s hm s List.mem_cons_self rfl
    obtain ⟨t7, k7, p⟩ := tab_loop st (t := t) (k := k) (m := m) s1 s2 s3 s5 V (U ++ [s]) (.sl .O (enS s)) (.inr ⟨_, rfl⟩) nd' (fun x hx => hV x (List.mem_cons_of_mem _ hx)) (by rw [List.length_append]; simp; omega)
    have o := tab_one st (t := t) (k := k) (m := m) hs (l := tabL a b U (k + 1) t) (by rw [tabL_fst]; exact (List.nodup_append.mp nd).1) (by rw [tabL_fst]; exact hn) (by rw [tabL, List.length_map]; omega) s1 s2 s3 s5
    have e : tabL a b U (k + 1) t ++ [(s, NW a b (k + 1) s t)] = tabL a b (U ++ [s]) (k + 1) t := by
      unfold tabL
      rw [List.map_append]
      rfl
    rw [e] at o
    refine ⟨t7, k7, ?_⟩
    rw [show U ++ s :: V = U ++ [s] ++ V by rw [List.append_assoc]; rfl, ← p]
    exact forL_cons (by rcases h7 with rfl | ⟨d, rfl⟩ <;> rfl) o
theorem tab_turn {a b : Nat} {S : List (List Int)} (st : St8 a b S) {t : List Int} {k : Nat} {m : Bool} (s1 s2 s5 s6 s7 : Sl) (h6 : Stb s6) (h7 : Stb s7) :
    ∃ t6 t7, Stb t6 ∧ Stb t7 ∧ l_law_table_3 [.sl .O (rchD a b), s1, s2, .sl .O (.lst true (enP S)), wD m (tabL a b S k t), s5, s6, s7, .un, .un] = .ok .nx [.sl .O (rchD a b), s1, s2, .sl .O (.lst true (enP S)), wD false (tabL a b S (k + 1) t), s5, t6, t7, .un, .un] := by
  obtain ⟨t7, k7, p⟩ := tab_loop st (t := t) (k := k) (m := m) s1 s2 (.sl .R (.lst true (enP S))) s5 S [] s7 h7 st.cl.nd (fun _ h => h) (by have := st.l1; simp; omega)
  rw [List.nil_append] at p
  have e0 : enD enS fN (tabL a b [] (k + 1) t) = [] := rfl
  rw [e0] at p
  have cS := enP_cl S
  have c4 := clK_en (enc := enS) fN_cl (tabL a b S (k + 1) t)
  have f4 := fzK_cl _ c4
  refine ⟨.sl .O (.dct false .t (enD enS fN (tabL a b S (k + 1) t))), t7, .inr ⟨_, rfl⟩, k7, ?_⟩
  unfold wD at *
  generalize enD enS fN (tabL a b S (k + 1) t) = W2 at *
  generalize enD enS fN (tabL a b S k t) = W1 at *
  generalize enP S = P at *
  generalize rchD (a : Int) (b : Int) = R at *
  cases m <;> rcases h6 with rfl | ⟨d6, rfl⟩ <;> simp (disch := first | omega | simp) [-List.map_replicate, mkFn, sSeq, sSet, sRet, sRetN, sIf, sNil, sExpr, sAsgG, sAug, sFor, tgSb, tgNm, tgTp, tgL, putI, noX, eV, eC, e1, e2, eN, eChain, eAnd, eOr, eNot, eIf, eFz, eTup, eLst, eSl, evO, eLc, lcRun, wpC, wp, rst, unlT, unlR, unl, eCall, eMut, eMeth, isL, evA, mkArgs, backs, put0, put1, put2, rd, rds, mv, mvs, setS, setL, asg, fin, outs, out1, opt, Res.bind, sOf, srcAt, srcS, srcV, srcO, itemsOf, D.cl, clL, clL_lI, D.fz, fzL, fzL_lI, gAdd_at, gSub_at, gMul_sm, gFdiv_at, gMod_at, gLt_at, gLe_at, gGt_at, gGe_at, gNeg_at, gEq_at, gNe_at, gEq_nn, gNe_nn, gEq_nil, gNe_nil, gEq_lst, gNe_lst, gEq_tup, gNe_tup, gEq_bl, gNe_bl, gIsi_ii, gIsi_ib, gIsi_bb, gIsi_ll, gIsi_tt, gIxA, gInA, gNotInA, gStA, gStT, sForD, noXs, unlR, tgDb, eDGet, eDGet1, eDnew, eDisp, flatP, pairD, isDc, l_law_table_3, p, cS, c4, f4]
theorem table_eq {a b : Nat} {S : List (List Int)} (st : St8 a b S) {t : List Int} (ht : t ∈ S) {k : Nat} (hk : k ≤ 40) :
    ∃ m, f_law_table [.sl .O (rchD a b), .sl .O (enS t), .sl .O (.int k)] = .ok (.dct m .t (enD enS fN (tabL a b S k t))) [.un, .un, .un] := by
  obtain ⟨e, e1', m, s5, s6, s7, k5, k6, k7, rfl⟩ := forL_inv (tg := .nm 5) (body := l_law_table_3) (fun i env => ∃ m s5 s6 s7, Stb s5 ∧ Stb s6 ∧ Stb s7 ∧ env = [.sl .O (rchD a b), .sl .O (enS t), .sl .O (.int k), .sl .O (.lst true (enP S)), wD m (tabL a b S i t), s5, s6, s7, .un, .un]) (lI (rgI k)) 0 [.sl .O (rchD a b), .sl .O (enS t), .sl .O (.int k), .sl .O (.lst true (enP S)), wD true (tabL a b S 0 t), .un, .un, .un, .un, .un] (fun i d env hd hP => by
    rw [Nat.zero_add] at hP ⊢
    obtain ⟨m, s5, s6, s7, k5, k6, k7, rfl⟩ := hP
    obtain ⟨rfl, hi⟩ := rgI_mem_at hd
    obtain ⟨t6, t7, m6, m7, p⟩ := tab_turn st (t := t) (k := i) (m := m) (.sl .O (enS t)) (.sl .O (.int k)) (.sl .O (.int i)) s6 s7 k6 k7
    refine ⟨[.sl .O (rchD a b), .sl .O (enS t), .sl .O (.int k), .sl .O (.lst true (enP S)), wD m (tabL a b S i t), .sl .O (.int i), s6, s7, .un, .un], _, ?_, p, false, _, t6, t7, .inr ⟨_, rfl⟩, m6, m7, rfl⟩
    rcases k5 with rfl | ⟨d5, rfl⟩ <;> rfl) ⟨true, .un, .un, .un, .inl rfl, .inl rfl, .inl rfl, rfl⟩
  rw [Nat.zero_add, lI_len, rgI_len] at e1'
  refine ⟨m, ?_⟩
  have g1 := rg1_at (n := k) (by omega)
  have ls := st.ls
  have lc := fun s0 s2 s3 s4 s5 s6 s8 s9 => tab_lc0 (t := t) S (by have := st.l1; omega) s0 s2 s3 s4 s5 s6 s8 s9
  have tb : (S.map fun s => (s, if s = t then 1 else 0)) = tabL a b S 0 t := rfl
  rw [tb] at lc
  have dt := dict_tab (m := true) (l := tabL a b S 0 t) (by rw [tabL_fst]; exact st.cl.nd)
  have c1 : (enS t).cl = true := clL_lI t
  have c3 : (rchD a b).cl = true := rfl
  have cS := enP_cl S
  have c4 := clK_en (enc := enS) fN_cl (tabL a b S k t)
  have f4 := fzK_cl _ c4
  unfold wD at e1'
  generalize enD enS fN (tabL a b S k t) = W2 at *
  generalize enD enS fN (tabL a b S 0 t) = W1 at *
  generalize (tabL a b S 0 t).map tri = TT at *
  generalize lI (rgI k) = R5 at *
  generalize enP S = P at *
  generalize enS t = E at *
  generalize rchD (a : Int) (b : Int) = R at *
  cases m <;> simp (disch := first | omega | simp) [-List.map_replicate, mkFn, sSeq, sSet, sRet, sRetN, sIf, sNil, sExpr, sAsgG, sAug, sFor, tgSb, tgNm, tgTp, tgL, putI, noX, eV, eC, e1, e2, eN, eChain, eAnd, eOr, eNot, eIf, eFz, eTup, eLst, eSl, evO, eLc, lcRun, wpC, wp, rst, unlT, unlR, unl, eCall, eMut, eMeth, isL, evA, mkArgs, backs, put0, put1, put2, rd, rds, mv, mvs, setS, setL, asg, fin, outs, out1, opt, Res.bind, sOf, srcAt, srcS, srcV, srcO, itemsOf, D.cl, clL, clL_lI, D.fz, fzL, fzL_lI, gAdd_at, gSub_at, gMul_sm, gFdiv_at, gMod_at, gLt_at, gLe_at, gGt_at, gGe_at, gNeg_at, gEq_at, gNe_at, gEq_nn, gNe_nn, gEq_nil, gNe_nil, gEq_lst, gNe_lst, gEq_tup, gNe_tup, gEq_bl, gNe_bl, gIsi_ii, gIsi_ib, gIsi_bb, gIsi_ll, gIsi_tt, gIxA, gInA, gNotInA, gStA, gStT, sForD, noXs, unlR, tgDb, eDGet, eDGet1, eDnew, eDisp, flatP, pairD, isDc, f_law_table, b_law_table, ls, lc, dt, sRgF, g1, e1', c1, c3, cS, c4, f4]
end DL
namespace DL
open PySem PySem.Spec PyProof.Rows L2
/-! draws from a well of two numbers -/
abbrev wellD (a b : Int) : D := .lst true [.int a, .int b]
structure Well (d : D) : Prop where
  ok : ∃ a b, d = wellD a b ∧ 0 ≤ b ∧ b < 2147483629
theorem Well.cl {d : D} (w : Well d) : d.cl = false := by
  obtain ⟨a, b, rfl, _⟩ := w.ok
  rfl
def stirI (b : Int) : Int := (((b * 48271 + 11) % 2147483647 * ((b * 48271 + 11) % 2147483647) % 2147483587) * 69621 + 40692) % 2147483629
theorem draw_ok {d : D} (w : Well d) (m : Int) (hm : 0 < m) (hm2 : m < 2 ^ 64) : ∃ g d', f_law_draw [.sl .M d, .sl .O (.int m)] = .ok (.int g) [.sl .M d', .un] ∧ 0 ≤ g ∧ g < m ∧ Well d' := by
  obtain ⟨a, b, rfl, h1, h2⟩ := w.ok
  by_cases ha : 0 < a
  · refine ⟨a % m, wellD (a / m) b, ?_, Int.emod_nonneg _ (by omega), Int.emod_lt_of_pos _ hm, ⟨_, _, rfl, h1, h2⟩⟩
    simp (disch := first | omega | simp) [-List.map_replicate, mkFn, sSeq, sSet, sRet, sRetN, sIf, sNil, sExpr, sAsgG, sAug, sFor, tgSb, tgNm, tgTp, tgL, putI, noX, eV, eC, e1, e2, eN, eChain, eAnd, eOr, eNot, eIf, eFz, eTup, eLst, eSl, evO, eLc, lcRun, wpC, wp, rst, unlT, unlR, unl, eCall, eMut, eMeth, isL, evA, mkArgs, backs, put0, put1, put2, rd, rds, mv, mvs, setS, setL, asg, fin, outs, out1, opt, Res.bind, sOf, srcAt, srcS, srcV, srcO, itemsOf, D.cl, clL, clL_lI, D.fz, fzL, fzL_lI, gAdd_at, gSub_at, gMul_sm, gFdiv_at, gMod_at, gLt_at, gLe_at, gGt_at, gGe_at, gNeg_at, gEq_at, gNe_at, gEq_nn, gNe_nn, gEq_nil, gNe_nil, gEq_lst, gNe_lst, gEq_tup, gNe_tup, gEq_bl, gNe_bl, gIsi_ii, gIsi_ib, gIsi_bb, gIsi_ll, gIsi_tt, gIxA, gInA, gNotInA, gStA, gStT, sForD, noXs, unlR, tgDb, eDGet, eDGet1, eDnew, eDisp, flatP, pairD, isDc, f_law_draw, b_law_draw, gIx, atI, ixN, clO, ha, wellD]
  · have q1 : 0 ≤ (b * 48271 + 11) % 2147483647 ∧ (b * 48271 + 11) % 2147483647 < 2147483647 := ⟨Int.emod_nonneg _ (by omega), Int.emod_lt_of_pos _ (by omega)⟩
    have q2 : 0 ≤ stirI b ∧ stirI b < 2147483629 := ⟨Int.emod_nonneg _ (by omega), Int.emod_lt_of_pos _ (by omega)⟩
    refine ⟨stirI b / 8 % m, wellD a (stirI b), ?_, Int.emod_nonneg _ (by omega), Int.emod_lt_of_pos _ hm, ⟨_, _, rfl, q2.1, q2.2⟩⟩
    have e1 : gMul (.int b) (.int 48271) = some (.int (b * 48271)) := gMul_sm (by omega) (by omega) (by omega) (by omega)
    have f1 : gMod (.int (b * 48271 + 11)) (.int 2147483647) = some (.int ((b * 48271 + 11) % 2147483647)) := gMod_at (by omega)
    have e2 : stirI b = (((b * 48271 + 11) % 2147483647 * ((b * 48271 + 11) % 2147483647) % 2147483587) * 69621 + 40692) % 2147483629 := rfl
    generalize (b * 48271 + 11) % 2147483647 = x at *
    have e3 : gMul (.int x) (.int x) = some (.int (x * x)) := gMul_sm (by omega) (by omega) (by omega) (by omega)
    have f2 : gMod (.int (x * x)) (.int 2147483587) = some (.int (x * x % 2147483587)) := gMod_at (by omega)
    have q3 : 0 ≤ x * x % 2147483587 ∧ x * x % 2147483587 < 2147483587 := ⟨Int.emod_nonneg _ (by omega), Int.emod_lt_of_pos _ (by omega)⟩
    generalize x * x % 2147483587 = y at *
    have e4 : gMul (.int y) (.int 69621) = some (.int (y * 69621)) := gMul_sm (by omega) (by omega) (by omega) (by omega)
    have f3 : gMod (.int (y * 69621 + 40692)) (.int 2147483629) = some (.int (stirI b)) := by rw [e2]; exact gMod_at (by omega)
    generalize stirI b = z at *
    have f4 : gMod (.int (z / 8)) (.int m) = some (.int (z / 8 % m)) := gMod_at hm
    clear e2
    simp (disch := first | omega | simp) [-List.map_replicate, mkFn, sSeq, sSet, sRet, sRetN, sIf, sNil, sExpr, sAsgG, sAug, sFor, tgSb, tgNm, tgTp, tgL, putI, noX, eV, eC, e1, e2, eN, eChain, eAnd, eOr, eNot, eIf, eFz, eTup, eLst, eSl, evO, eLc, lcRun, wpC, wp, rst, unlT, unlR, unl, eCall, eMut, eMeth, isL, evA, mkArgs, backs, put0, put1, put2, rd, rds, mv, mvs, setS, setL, asg, fin, outs, out1, opt, Res.bind, sOf, srcAt, srcS, srcV, srcO, itemsOf, D.cl, clL, clL_lI, D.fz, fzL, fzL_lI, gAdd_at, gSub_at, gMul_sm, gFdiv_at, gMod_at, gLt_at, gLe_at, gGt_at, gGe_at, gNeg_at, gEq_at, gNe_at, gEq_nn, gNe_nn, gEq_nil, gNe_nil, gEq_lst, gNe_lst, gEq_tup, gNe_tup, gEq_bl, gNe_bl, gIsi_ii, gIsi_ib, gIsi_bb, gIsi_ll, gIsi_tt, gIxA, gInA, gNotInA, gStA, gStT, sForD, noXs, unlR, tgDb, eDGet, eDGet1, eDnew, eDisp, flatP, pairD, isDc, f_law_draw, b_law_draw, gIx, atI, ixN, clO, ha, wellD, e1, e3, e4, f1, f2, f3, f4, -gMod_at, -gMul_sm]
theorem well_ok (c : Int) : ∃ d, f_law_well [.sl .O (.int c)] = .ok d [.un] ∧ Well d := by
  have hp : gPow (.int 10) (.int 18) = some (.int 1000000000000000000) := by rfl
  have q : 0 ≤ c % 2147483629 ∧ c % 2147483629 < 2147483629 := ⟨Int.emod_nonneg _ (by omega), Int.emod_lt_of_pos _ (by omega)⟩
  by_cases h : 1000000000000000000 ≤ c
  · refine ⟨wellD c (c % 2147483629), ?_, ⟨_, _, rfl, q.1, q.2⟩⟩
    simp (disch := first | omega | simp) [-List.map_replicate, mkFn, sSeq, sSet, sRet, sRetN, sIf, sNil, sExpr, sAsgG, sAug, sFor, tgSb, tgNm, tgTp, tgL, putI, noX, eV, eC, e1, e2, eN, eChain, eAnd, eOr, eNot, eIf, eFz, eTup, eLst, eSl, evO, eLc, lcRun, wpC, wp, rst, unlT, unlR, unl, eCall, eMut, eMeth, isL, evA, mkArgs, backs, put0, put1, put2, rd, rds, mv, mvs, setS, setL, asg, fin, outs, out1, opt, Res.bind, sOf, srcAt, srcS, srcV, srcO, itemsOf, D.cl, clL, clL_lI, D.fz, fzL, fzL_lI, gAdd_at, gSub_at, gMul_sm, gFdiv_at, gMod_at, gLt_at, gLe_at, gGt_at, gGe_at, gNeg_at, gEq_at, gNe_at, gEq_nn, gNe_nn, gEq_nil, gNe_nil, gEq_lst, gNe_lst, gEq_tup, gNe_tup, gEq_bl, gNe_bl, gIsi_ii, gIsi_ib, gIsi_bb, gIsi_ll, gIsi_tt, gIxA, gInA, gNotInA, gStA, gStT, sForD, noXs, unlR, tgDb, eDGet, eDGet1, eDnew, eDisp, flatP, pairD, isDc, f_law_well, b_law_well, hp, h, wellD]
  · refine ⟨wellD 0 (c % 2147483629), ?_, ⟨_, _, rfl, q.1, q.2⟩⟩
    simp (disch := first | omega | simp) [-List.map_replicate, mkFn, sSeq, sSet, sRet, sRetN, sIf, sNil, sExpr, sAsgG, sAug, sFor, tgSb, tgNm, tgTp, tgL, putI, noX, eV, eC, e1, e2, eN, eChain, eAnd, eOr, eNot, eIf, eFz, eTup, eLst, eSl, evO, eLc, lcRun, wpC, wp, rst, unlT, unlR, unl, eCall, eMut, eMeth, isL, evA, mkArgs, backs, put0, put1, put2, rd, rds, mv, mvs, setS, setL, asg, fin, outs, out1, opt, Res.bind, sOf, srcAt, srcS, srcV, srcO, itemsOf, D.cl, clL, clL_lI, D.fz, fzL, fzL_lI, gAdd_at, gSub_at, gMul_sm, gFdiv_at, gMod_at, gLt_at, gLe_at, gGt_at, gGe_at, gNeg_at, gEq_at, gNe_at, gEq_nn, gNe_nn, gEq_nil, gNe_nil, gEq_lst, gNe_lst, gEq_tup, gNe_tup, gEq_bl, gNe_bl, gIsi_ii, gIsi_ib, gIsi_bb, gIsi_ll, gIsi_tt, gIxA, gInA, gNotInA, gStA, gStT, sForD, noXs, unlR, tgDb, eDGet, eDGet1, eDnew, eDisp, flatP, pairD, isDc, f_law_well, b_law_well, hp, h, wellD]
end DL
namespace DL
open PySem PySem.Spec PyProof.Rows L2
theorem reach_ok {w : D} (hw : Well w) : ∃ a b w', f_law_reach [.sl .M w] = .ok (rchD (a : Nat) (b : Nat)) [.sl .M w'] ∧ a ≤ 3 ∧ b ≤ 3 ∧ Well w' := by
  obtain ⟨a, w1, a1, a2, a3, W1⟩ := draw_ok hw 4 (by omega) (by omega)
  obtain ⟨b, w2, b1, b2, b3, W2⟩ := draw_ok W1 4 (by omega) (by omega)
  obtain ⟨a', rfl⟩ : ∃ a' : Nat, a = a' := ⟨a.toNat, by omega⟩
  obtain ⟨b', rfl⟩ : ∃ b' : Nat, b = b' := ⟨b.toNat, by omega⟩
  have u := hw.cl
  have u1 := W1.cl
  refine ⟨a', b', w2, ?_, by omega, by omega, W2⟩
  simp (disch := first | omega | simp) [-List.map_replicate, mkFn, sSeq, sSet, sRet, sRetN, sIf, sNil, sExpr, sAsgG, sAug, sFor, tgSb, tgNm, tgTp, tgL, putI, noX, eV, eC, e1, e2, eN, eChain, eAnd, eOr, eNot, eIf, eFz, eTup, eLst, eSl, evO, eLc, lcRun, wpC, wp, rst, unlT, unlR, unl, eCall, eMut, eMeth, isL, evA, mkArgs, backs, put0, put1, put2, rd, rds, mv, mvs, setS, setL, asg, fin, outs, out1, opt, Res.bind, sOf, srcAt, srcS, srcV, srcO, itemsOf, D.cl, clL, clL_lI, D.fz, fzL, fzL_lI, gAdd_at, gSub_at, gMul_sm, gFdiv_at, gMod_at, gLt_at, gLe_at, gGt_at, gGe_at, gNeg_at, gEq_at, gNe_at, gEq_nn, gNe_nn, gEq_nil, gNe_nil, gEq_lst, gNe_lst, gEq_tup, gNe_tup, gEq_bl, gNe_bl, gIsi_ii, gIsi_ib, gIsi_bb, gIsi_ll, gIsi_tt, gIxA, gInA, gNotInA, gStA, gStT, sForD, noXs, unlR, tgDb, eDGet, eDGet1, eDnew, eDisp, flatP, pairD, isDc, f_law_reach, b_law_reach, a1, b1, u, u1, rchD]
theorem ix_enP {S : List (List Int)} {g : Int} (h0 : 0 ≤ g) (h1 : g < S.length) : ∃ s ∈ S, gIx (.lst true (enP S)) (.int g) = some (enS s) := by
  have hx : S[g.toNat]? = some (S[g.toNat]'(by omega)) := List.getElem?_eq_getElem (by omega)
  have hm : S[g.toNat]'(by omega) ∈ S := List.getElem_mem _
  refine ⟨_, hm, ?_⟩
  generalize S[g.toNat]'(by omega) = s at *
  have hi : ixN (enP S).length g = some g.toNat := ixN_at h0 (by rw [enP_len]; exact h1)
  have hx2 : (enP S)[g.toNat]? = some (enS s) := by
    unfold enP
    rw [List.getElem?_map, hx]
    rfl
  have c : (enS s).cl = true := clL_lI s
  rw [gIx, atI, hi]
  simp [hx2, clO, c]
theorem two_lc {a b : Nat} {S : List (List Int)} (st : St8 a b S) {w : D} (hw : Well w) (s0 s1 s5 s6 s7 s8 s9 s10 s11 s12 s13 : Sl) : ∃ x y w', x ∈ S ∧ y ∈ S ∧ Well w' ∧
    lcL (.nm 14) [14] (eC (.bl true)) e_law_0 (lI (rgI 2)) [s0, s1, .sl .O w, .sl .O (rchD a b), .sl .O (.lst true (enP S)), s5, s6, s7, s8, s9, s10, s11, s12, s13, .un] [] = .ok [enS x, enS y] [s0, s1, .sl .O w', .sl .O (rchD a b), .sl .O (.lst true (enP S)), s5, s6, s7, s8, s9, s10, s11, s12, s13, .un] := by
  have l0 := st.l0
  have l1 := st.l1
  obtain ⟨g, w1, g1, g2, g3, W1⟩ := draw_ok hw (S.length : Int) (by omega) (by omega)
  obtain ⟨h, w2, h1, h2, h3, W2⟩ := draw_ok W1 (S.length : Int) (by omega) (by omega)
  obtain ⟨x, hx, f1⟩ := ix_enP g2 g3
  obtain ⟨y, hy, f2⟩ := ix_enP h2 h3
  have gl : gLenA [.lst true (enP S)] = some (.int (S.length : Int)) := by
    show some (D.int ((enP S).length : Int)) = _
    rw [enP_len]
  have u := hw.cl
  have u1 := W1.cl
  have u2 := W2.cl
  have cx : (enS x).cl = true := clL_lI x
  have cy : (enS y).cl = true := clL_lI y
  have cS := enP_cl S
  refine ⟨x, y, w2, hx, hy, W2, ?_⟩
  have e2' : lI (rgI 2) = [.int 0, .int 1] := rfl
  rw [e2']
  generalize enS x = X at *
  generalize enS y = Y at *
  generalize enP S = P at *
  generalize (S.length : Int) = n at *
  have p1 : lcStep (.nm 14) [14] (eC (.bl true)) e_law_0 (.int 0) [s0, s1, .sl .O w, .sl .O (rchD a b), .sl .O (.lst true P), s5, s6, s7, s8, s9, s10, s11, s12, s13, .un] = .ok (some X) [s0, s1, .sl .O w1, .sl .O (rchD a b), .sl .O (.lst true P), s5, s6, s7, s8, s9, s10, s11, s12, s13, .un] := by
    simp (disch := first | omega | simp) [-List.map_replicate, mkFn, sSeq, sSet, sRet, sRetN, sIf, sNil, sExpr, sAsgG, sAug, sFor, tgSb, tgNm, tgTp, tgL, putI, noX, eV, eC, e1, e2, eN, eChain, eAnd, eOr, eNot, eIf, eFz, eTup, eLst, eSl, evO, eLc, lcRun, wpC, wp, rst, unlT, unlR, unl, eCall, eMut, eMeth, isL, evA, mkArgs, backs, put0, put1, put2, rd, rds, mv, mvs, setS, setL, asg, fin, outs, out1, opt, Res.bind, sOf, srcAt, srcS, srcV, srcO, itemsOf, D.cl, clL, clL_lI, D.fz, fzL, fzL_lI, gAdd_at, gSub_at, gMul_sm, gFdiv_at, gMod_at, gLt_at, gLe_at, gGt_at, gGe_at, gNeg_at, gEq_at, gNe_at, gEq_nn, gNe_nn, gEq_nil, gNe_nil, gEq_lst, gNe_lst, gEq_tup, gNe_tup, gEq_bl, gNe_bl, gIsi_ii, gIsi_ib, gIsi_bb, gIsi_ll, gIsi_tt, gIxA, gInA, gNotInA, gStA, gStT, sForD, noXs, unlR, tgDb, eDGet, eDGet1, eDnew, eDisp, flatP, pairD, isDc, lcStep, e_law_0, gl, g1, f1, u, u1, cx, cS]
  have p2 : lcStep (.nm 14) [14] (eC (.bl true)) e_law_0 (.int 1) [s0, s1, .sl .O w1, .sl .O (rchD a b), .sl .O (.lst true P), s5, s6, s7, s8, s9, s10, s11, s12, s13, .un] = .ok (some Y) [s0, s1, .sl .O w2, .sl .O (rchD a b), .sl .O (.lst true P), s5, s6, s7, s8, s9, s10, s11, s12, s13, .un] := by
    simp (disch := first | omega | simp) [-List.map_replicate, mkFn, sSeq, sSet, sRet, sRetN, sIf, sNil, sExpr, sAsgG, sAug, sFor, tgSb, tgNm, tgTp, tgL, putI, noX, eV, eC, e1, e2, eN, eChain, eAnd, eOr, eNot, eIf, eFz, eTup, eLst, eSl, evO, eLc, lcRun, wpC, wp, rst, unlT, unlR, unl, eCall, eMut, eMeth, isL, evA, mkArgs, backs, put0, put1, put2, rd, rds, mv, mvs, setS, setL, asg, fin, outs, out1, opt, Res.bind, sOf, srcAt, srcS, srcV, srcO, itemsOf, D.cl, clL, clL_lI, D.fz, fzL, fzL_lI, gAdd_at, gSub_at, gMul_sm, gFdiv_at, gMod_at, gLt_at, gLe_at, gGt_at, gGe_at, gNeg_at, gEq_at, gNe_at, gEq_nn, gNe_nn, gEq_nil, gNe_nil, gEq_lst, gNe_lst, gEq_tup, gNe_tup, gEq_bl, gNe_bl, gIsi_ii, gIsi_ib, gIsi_bb, gIsi_ll, gIsi_tt, gIxA, gInA, gNotInA, gStA, gStT, sForD, noXs, unlR, tgDb, eDGet, eDGet1, eDnew, eDisp, flatP, pairD, isDc, lcStep, e_law_0, gl, h1, f2, u1, u2, cy, cS]
  rw [lcL_cons p1 (by simp), lcL_cons p2 (by simp)]
  rfl
theorem four_bits {n : Nat} {k : Nat} (h : n ≤ 4 ^ k) (hk : k ≤ 40) : Builtin.Int.intBits ((n : Nat) : Int) ≤ 100 := bits_of (by
  have h1 : 4 ^ k ≤ 4 ^ 40 := Nat.pow_le_pow_right (by omega) hk
  have h2 : (4 : Nat) ^ 40 < 2 ^ 100 := by decide
  rw [Int.natAbs_natCast]
  omega)
def lawE (s0 s1 W R P X Y K V s9 s10 Pt Q s13 : Sl) : Env := [s0, s1, W, R, P, X, Y, K, V, s9, s10, Pt, Q, s13, .un]
theorem part_one {a b : Nat} {S : List (List Int)} (st : St8 a b S) {x y u : List Int} (hx : x ∈ S) (hy : y ∈ S) (hu : u ∈ S) {k p : Nat} (hk : k ≤ 40) (hp : p ≤ k) {q : List Int} (hq : q.length ≤ 100) (s0 s1 W P V s9 s10 : Sl) :
    l_law_2 (lawE s0 s1 W (.sl .O (rchD a b)) P (.sl .O (enS x)) (.sl .O (enS y)) (.sl .O (.int k)) V s9 s10 (.sl .O (.int p)) (.sl .O (.lst true (lI q))) (.sl .O (enS u))) =
      .ok .nx (lawE s0 s1 W (.sl .O (rchD a b)) P (.sl .O (enS x)) (.sl .O (enS y)) (.sl .O (.int k)) V s9 s10 (.sl .O (.int p)) (.sl .O (.lst true (lI (q ++ [((NW a b p x u * NW a b (k - p) u y : Nat) : Int)])))) (.sl .O (enS u))) := by
  have b1 := between_eq st hx hu (k := p) (by omega)
  have b2 := between_eq st hu hy (k := k - p) (by omega)
  rw [show ((k - p : Nat) : Int) = (k : Int) - (p : Int) by omega] at b2
  have n1 := four_bits (NW_le st.cl st.n4 u p x hx) (by omega)
  have n2 := four_bits (NW_le st.cl st.n4 y (k - p) u hu) (by omega)
  have m : gMul (.int (NW a b p x u : Nat)) (.int (NW a b (k - p) u y : Nat)) = some (.int ((NW a b p x u * NW a b (k - p) u y : Nat) : Int)) := by
    rw [gMul_at (by omega)]
    rw [Int.natCast_mul]
  have ap := mAppend_at (l := q) (x := ((NW a b p x u * NW a b (k - p) u y : Nat) : Int)) (by omega)
  have cx : (enS x).cl = true := clL_lI x
  have cy : (enS y).cl = true := clL_lI y
  have cu : (enS u).cl = true := clL_lI u
  have cR : (rchD a b).cl = true := rfl
  unfold lawE
  generalize lI (q ++ [((NW a b p x u * NW a b (k - p) u y : Nat) : Int)]) = Q2 at *
  generalize lI q = Q1 at *
  generalize ((NW a b p x u * NW a b (k - p) u y : Nat) : Int) = v3 at *
  generalize ((NW a b p x u : Nat) : Int) = v1 at *
  generalize ((NW a b (k - p) u y : Nat) : Int) = v2 at *
  generalize enS x = X at *
  generalize enS y = Y at *
  generalize enS u = U at *
  generalize rchD (a : Int) (b : Int) = R at *
  simp (disch := first | omega | simp) [-List.map_replicate, mkFn, sSeq, sSet, sRet, sRetN, sIf, sNil, sExpr, sAsgG, sAug, sFor, tgSb, tgNm, tgTp, tgL, putI, noX, eV, eC, e1, e2, eN, eChain, eAnd, eOr, eNot, eIf, eFz, eTup, eLst, eSl, evO, eLc, lcRun, wpC, wp, rst, unlT, unlR, unl, eCall, eMut, eMeth, isL, evA, mkArgs, backs, put0, put1, put2, rd, rds, mv, mvs, setS, setL, asg, fin, outs, out1, opt, Res.bind, sOf, srcAt, srcS, srcV, srcO, itemsOf, D.cl, clL, clL_lI, D.fz, fzL, fzL_lI, gAdd_at, gSub_at, gMul_sm, gFdiv_at, gMod_at, gLt_at, gLe_at, gGt_at, gGe_at, gNeg_at, gEq_at, gNe_at, gEq_nn, gNe_nn, gEq_nil, gNe_nil, gEq_lst, gNe_lst, gEq_tup, gNe_tup, gEq_bl, gNe_bl, gIsi_ii, gIsi_ib, gIsi_bb, gIsi_ll, gIsi_tt, gIxA, gInA, gNotInA, gStA, gStT, sForD, noXs, unlR, tgDb, eDGet, eDGet1, eDnew, eDisp, flatP, pairD, isDc, l_law_2, b1, b2, m, ap, cx, cy, cu, cR, -gMul_sm]
theorem part_loop {a b : Nat} {S : List (List Int)} (st : St8 a b S) {x y : List Int} (hx : x ∈ S) (hy : y ∈ S) {k p : Nat} (hk : k ≤ 40) (hp : p ≤ k) (s0 s1 W P V s9 s10 : Sl) : ∀ (U : List (List Int)) (q : List Int) (s13 : Sl), Stb s13 → (∀ u ∈ U, u ∈ S) → q.length + U.length ≤ 100 →
    ∃ t13, Stb t13 ∧ forL (.nm 13) l_law_2 (enP U) (lawE s0 s1 W (.sl .O (rchD a b)) P (.sl .O (enS x)) (.sl .O (enS y)) (.sl .O (.int k)) V s9 s10 (.sl .O (.int p)) (.sl .O (.lst true (lI q))) s13) =
      .ok .nx (lawE s0 s1 W (.sl .O (rchD a b)) P (.sl .O (enS x)) (.sl .O (enS y)) (.sl .O (.int k)) V s9 s10 (.sl .O (.int p)) (.sl .O (.lst true (lI (q ++ U.map fun u => ((NW a b p x u * NW a b (k - p) u y : Nat) : Int))))) t13)
  | [], q, s13, h, _, _ => ⟨s13, h, by rw [List.map_nil, List.append_nil]; rfl⟩
  | u :: U, q, s13, h, hU, hl => by
    rw [List.length_cons] at hl
    obtain ⟨t13, k13, pp⟩ := part_loop st hx hy hk hp s0 s1 W P V s9 s10 U (q ++ [((NW a b p x u * NW a b (k - p) u y : Nat) : Int)]) (.sl .O (enS u)) (.inr ⟨_, rfl⟩) (fun z hz => hU z (List.mem_cons_of_mem _ hz)) (by rw [List.length_append]; simp; omega)
    refine ⟨t13, k13, ?_⟩
    rw [List.map_cons, show ∀ (q : List Int) (v : Int) (r : List Int), q ++ v :: r = (q ++ [v]) ++ r from fun q v r => by rw [List.append_assoc]; rfl, ← pp]
    exact forL_cons (by rcases h with rfl | ⟨d, rfl⟩ <;> rfl) (part_one st hx hy (hU u List.mem_cons_self) hk hp (by omega) s0 s1 W P V s9 s10)
theorem found_loop {a b : Nat} {S : List (List Int)} (st : St8 a b S) {x y : List Int} (hx : x ∈ S) (hy : y ∈ S) {k : Nat} (hk : k ≤ 40) (s0 s1 W P s9 s10 s11 s12 s13 : Sl) (h9 : Stb s9) (h10 : Stb s10) :
    ∃ t9 t10, Stb t9 ∧ Stb t10 ∧ forL (.nm 9) l_law_1 (lI (rgI 2)) (lawE s0 s1 W (.sl .O (rchD a b)) P (.sl .O (enS x)) (.sl .O (enS y)) (.sl .O (.int k)) (.sl .O (.int (NW a b k x y : Nat))) s9 s10 s11 s12 s13) =
      .ok .nx (lawE s0 s1 W (.sl .O (rchD a b)) P (.sl .O (enS x)) (.sl .O (enS y)) (.sl .O (.int k)) (.sl .O (.int (NW a b k x y : Nat))) t9 t10 s11 s12 s13) := by
  obtain ⟨e, h1, t9, t10, k9, k10, rfl⟩ := forL_inv (tg := .nm 9) (body := l_law_1) (fun _ env => ∃ t9 t10, Stb t9 ∧ Stb t10 ∧ env = lawE s0 s1 W (.sl .O (rchD a b)) P (.sl .O (enS x)) (.sl .O (enS y)) (.sl .O (.int k)) (.sl .O (.int (NW a b k x y : Nat))) t9 t10 s11 s12 s13) (lI (rgI 2)) 0 (lawE s0 s1 W (.sl .O (rchD a b)) P (.sl .O (enS x)) (.sl .O (enS y)) (.sl .O (.int k)) (.sl .O (.int (NW a b k x y : Nat))) s9 s10 s11 s12 s13) (fun i d env hd hP => by
    obtain ⟨t9, t10, k9, k10, rfl⟩ := hP
    obtain ⟨rfl, hi⟩ := rgI_mem_at hd
    have b1 := between_eq st hx hy hk
    have cx : (enS x).cl = true := clL_lI x
    have cy : (enS y).cl = true := clL_lI y
    have cR : (rchD a b).cl = true := rfl
    refine ⟨lawE s0 s1 W (.sl .O (rchD a b)) P (.sl .O (enS x)) (.sl .O (enS y)) (.sl .O (.int k)) (.sl .O (.int (NW a b k x y : Nat))) (.sl .O (.int i)) t10 s11 s12 s13, lawE s0 s1 W (.sl .O (rchD a b)) P (.sl .O (enS x)) (.sl .O (enS y)) (.sl .O (.int k)) (.sl .O (.int (NW a b k x y : Nat))) (.sl .O (.int i)) (.sl .O (.int (NW a b k x y : Nat))) s11 s12 s13, ?_, ?_, _, _, .inr ⟨_, rfl⟩, .inr ⟨_, rfl⟩, rfl⟩
    · rcases k9 with rfl | ⟨z, rfl⟩ <;> rfl
    · unfold lawE
      generalize ((NW a b k x y : Nat) : Int) = v at *
      generalize enS x = X at *
      generalize enS y = Y at *
      generalize rchD (a : Int) (b : Int) = R at *
      rcases k10 with rfl | ⟨z, rfl⟩ <;> simp (disch := first | omega | simp) [-List.map_replicate, mkFn, sSeq, sSet, sRet, sRetN, sIf, sNil, sExpr, sAsgG, sAug, sFor, tgSb, tgNm, tgTp, tgL, putI, noX, eV, eC, e1, e2, eN, eChain, eAnd, eOr, eNot, eIf, eFz, eTup, eLst, eSl, evO, eLc, lcRun, wpC, wp, rst, unlT, unlR, unl, eCall, eMut, eMeth, isL, evA, mkArgs, backs, put0, put1, put2, rd, rds, mv, mvs, setS, setL, asg, fin, outs, out1, opt, Res.bind, sOf, srcAt, srcS, srcV, srcO, itemsOf, D.cl, clL, clL_lI, D.fz, fzL, fzL_lI, gAdd_at, gSub_at, gMul_sm, gFdiv_at, gMod_at, gLt_at, gLe_at, gGt_at, gGe_at, gNeg_at, gEq_at, gNe_at, gEq_nn, gNe_nn, gEq_nil, gNe_nil, gEq_lst, gNe_lst, gEq_tup, gNe_tup, gEq_bl, gNe_bl, gIsi_ii, gIsi_ib, gIsi_bb, gIsi_ll, gIsi_tt, gIxA, gInA, gNotInA, gStA, gStT, sForD, noXs, unlR, tgDb, eDGet, eDGet1, eDnew, eDisp, flatP, pairD, isDc, l_law_1, b1, cx, cy, cR]) ⟨_, _, h9, h10, rfl⟩
  exact ⟨t9, t10, k9, k10, h1⟩
theorem pick3n (a b : Nat) (ha : a < 5) (hb : b ≤ 40) (g : Int) (h1 : 0 ≤ g) (h2 : g < 3) : ∃ k : Nat, k ≤ 40 ∧ gIx (.lst true [.int a, .int b, .int 40]) (.int g) = some (.int (k : Int)) := by
  have hg : g = 0 ∨ g = 1 ∨ g = 2 := by omega
  rcases hg with rfl | rfl | rfl
  · exact ⟨a, by omega, rfl⟩
  · exact ⟨b, hb, rfl⟩
  · exact ⟨40, Nat.le_refl _, rfl⟩
end DL
namespace DL
open PySem PySem.Spec PyProof.Rows L2
theorem cell_ok (c : Int) (s0 s2 s3 s4 s5 s6 s7 s8 s9 s10 s11 s12 s13 : Sl) (k2 : Stb s2) (k3 : Stb s3) (k4 : Stb s4) (k5 : Stb s5) (k6 : Stb s6) (k7 : Stb s7) (k8 : Stb s8) (k9 : Stb s9) (k10 : Stb s10) (k11 : Stb s11) (k12 : Stb s12) (k13 : Stb s13) :
    ∃ t2 t3 t4 t5 t6 t7 t8 t9 t10 t11 t12 t13, Stb t2 ∧ Stb t3 ∧ Stb t4 ∧ Stb t5 ∧ Stb t6 ∧ Stb t7 ∧ Stb t8 ∧ Stb t9 ∧ Stb t10 ∧ Stb t11 ∧ Stb t12 ∧ Stb t13 ∧
      l_law_3 (lawE s0 (.sl .O (.int c)) s2 s3 s4 s5 s6 s7 s8 s9 s10 s11 s12 s13) = .ok .nx (lawE s0 (.sl .O (.int c)) t2 t3 t4 t5 t6 t7 t8 t9 t10 t11 t12 t13) := by
  obtain ⟨w, b1, W⟩ := well_ok c
  obtain ⟨a, b, w1, r1, ha, hb, W1⟩ := reach_ok W
  obtain ⟨S, st⟩ := st8_of (a := a) (b := b) (by omega) (by omega)
  obtain ⟨x, y, w2, hx, hy, W2, lc⟩ := two_lc st W1 s0 (.sl .O (.int c)) s5 s6 s7 s8 s9 s10 s11 s12 s13
  obtain ⟨d1, w3, e1', e2', e3', W3⟩ := draw_ok W2 5 (by omega) (by omega)
  obtain ⟨d2, w4, f1, f2, f3, W4⟩ := draw_ok W3 41 (by omega) (by omega)
  obtain ⟨d3, w5, g1, g2, g3, W5⟩ := draw_ok W4 3 (by omega) (by omega)
  obtain ⟨d1, rfl⟩ : ∃ n : Nat, d1 = n := ⟨d1.toNat, by omega⟩
  obtain ⟨d2, rfl⟩ : ∃ n : Nat, d2 = n := ⟨d2.toNat, by omega⟩
  obtain ⟨k, hk, pk⟩ := pick3n d1 d2 (by omega) (by omega) d3 g2 g3
  obtain ⟨p, w6, p1, p2, p3, W6⟩ := draw_ok W5 ((k : Int) + 1) (by omega) (by omega)
  obtain ⟨p, rfl⟩ : ∃ n : Nat, p = n := ⟨p.toNat, by omega⟩
  obtain ⟨tm, tab⟩ := table_eq st hy hk
  have ls := st.ls
  have nd : ((tabL a b S k y).map (·.1)).Nodup := by rw [tabL_fst]; exact st.cl.nd
  have due : gIxA (.dct tm .t (enD enS fN (tabL a b S k y))) (enS x) = some (.int (NW a b k x y : Nat)) := gDx_en encS tm nd (tabL_mem hx)
  obtain ⟨t9, t10, m9, m10, fl⟩ := found_loop st hx hy hk s0 (.sl .O (.int c)) (.sl .O w5) (.sl .O (.lst true (enP S))) s9 s10 s11 s12 s13 k9 k10
  obtain ⟨t13, m13, pl⟩ := part_loop st hx hy hk (p := p) (by omega) s0 (.sl .O (.int c)) (.sl .O w6) (.sl .R (.lst true (enP S))) (.sl .O (.int (NW a b k x y : Nat))) t9 t10 S [] s13 k13 (fun _ h => h) (by have := st.l1; simp; omega)
  rw [List.nil_append] at pl
  have sm : gSum [.lst true (lI (S.map fun u => ((NW a b p x u * NW a b (k - p) u y : Nat) : Int)))] = some (.int (NW a b k x y : Nat)) := by
    rw [gSum, intsD_lI]
    show some (D.int _) = _
    rw [sum_cast (fun u => NW a b p x u * NW a b (k - p) u y) S, NW_add st.cl y (k - p) p x hx, show p + (k - p) = k by omega]
  have rw5 : k < 5 → ∃ m, f_law_rows [.sl .O (rchD a b), .sl .O (enS x), .sl .O (.int k)] = .ok (.lst m (enP (rowsK a b k [x]))) [.un, .un, .un] ∧ gCntD (.lst m (enP (rowsK a b k [x]))) [enS y] = some (.int (NW a b k x y : Nat)) := fun h => by
    obtain ⟨m, q⟩ := rows_eq st hx (k := k) (by omega)
    refine ⟨m, q, ?_⟩
    rw [count_eq8, rows_count]
    show some (D.int ((([x].map fun s => NW a b k s y).sum : Nat) : Int)) = _
    rw [List.map_cons, List.map_nil, List.sum_cons, List.sum_nil, Nat.add_zero]
  have u := W.cl
  have u1 := W1.cl
  have u2 := W2.cl
  have u3 := W3.cl
  have u4 := W4.cl
  have u5 := W5.cl
  have u6 := W6.cl
  have cx : (enS x).cl = true := clL_lI x
  have cy : (enS y).cl = true := clL_lI y
  have cR : (rchD a b).cl = true := rfl
  have cS := enP_cl S
  have rg2' : rg1 [.int 2] = some (lI (rgI 2)) := rg1_at (n := 2) (by omega)
  have cT := clK_en (enc := enS) fN_cl (tabL a b S k y)
  refine ⟨.sl .O w6, .sl .O (rchD a b), .sl .O (.lst true (enP S)), .sl .O (enS x), .sl .O (enS y), .sl .O (.int k), .sl .O (.int (NW a b k x y : Nat)), t9, t10, .sl .O (.int p), .sl .O (.lst true (lI (S.map fun u => ((NW a b p x u * NW a b (k - p) u y : Nat) : Int)))), t13, .inr ⟨_, rfl⟩, .inr ⟨_, rfl⟩, .inr ⟨_, rfl⟩, .inr ⟨_, rfl⟩, .inr ⟨_, rfl⟩, .inr ⟨_, rfl⟩, .inr ⟨_, rfl⟩, m9, m10, .inr ⟨_, rfl⟩, .inr ⟨_, rfl⟩, m13, ?_⟩
  have hk5 : k < 5 ∨ ¬ k < 5 := by omega
  have e0 : lI [] = [] := rfl
  rw [e0] at pl
  generalize lI (S.map fun u => ((NW a b p x u * NW a b (k - p) u y : Nat) : Int)) = Z at *
  generalize ((NW a b k x y : Nat) : Int) = v at *
  generalize enD enS fN (tabL a b S k y) = TT at *
  generalize enP (rowsK a b k [x]) = RW at *
  generalize lI (rgI 2) = R2 at *
  generalize enP S = P at *
  generalize enS x = X at *
  generalize enS y = Y at *
  generalize rchD (a : Int) (b : Int) = R at *
  unfold lawE at *
  unfold l_law_3
  refine sqN (e1 := [s0, .sl .O (.int c), .sl .O w, s3, s4, s5, s6, s7, s8, s9, s10, s11, s12, s13, .un]) (by clear lc fl pl rw5; rcases k2 with rfl | ⟨d2, rfl⟩ <;> simp (disch := first | omega | simp) [-List.map_replicate, mkFn, sSeq, sSet, sRet, sRetN, sIf, sNil, sExpr, sAsgG, sAug, sFor, tgSb, tgNm, tgTp, tgL, putI, noX, eV, eC, e1, e2, eN, eChain, eAnd, eOr, eNot, eIf, eFz, eTup, eLst, eSl, evO, eLc, lcRun, wpC, wp, rst, unlT, unlR, unl, eCall, eMut, eMeth, isL, evA, mkArgs, backs, put0, put1, put2, rd, rds, mv, mvs, setS, setL, asg, fin, outs, out1, opt, Res.bind, sOf, srcAt, srcS, srcV, srcO, itemsOf, D.cl, clL, clL_lI, D.fz, fzL, fzL_lI, gAdd_at, gSub_at, gMul_sm, gFdiv_at, gMod_at, gLt_at, gLe_at, gGt_at, gGe_at, gNeg_at, gEq_at, gNe_at, gEq_nn, gNe_nn, gEq_nil, gNe_nil, gEq_lst, gNe_lst, gEq_tup, gNe_tup, gEq_bl, gNe_bl, gIsi_ii, gIsi_ib, gIsi_bb, gIsi_ll, gIsi_tt, gIxA, gInA, gNotInA, gStA, gStT, sForD, noXs, unlR, tgDb, eDGet, eDGet1, eDnew, eDisp, flatP, pairD, isDc, b1, u]) ?_
  refine sqN (e1 := [s0, .sl .O (.int c), .sl .O w1, .sl .O R, s4, s5, s6, s7, s8, s9, s10, s11, s12, s13, .un]) (by clear lc fl pl rw5; rcases k3 with rfl | ⟨d2, rfl⟩ <;> simp (disch := first | omega | simp) [-List.map_replicate, mkFn, sSeq, sSet, sRet, sRetN, sIf, sNil, sExpr, sAsgG, sAug, sFor, tgSb, tgNm, tgTp, tgL, putI, noX, eV, eC, e1, e2, eN, eChain, eAnd, eOr, eNot, eIf, eFz, eTup, eLst, eSl, evO, eLc, lcRun, wpC, wp, rst, unlT, unlR, unl, eCall, eMut, eMeth, isL, evA, mkArgs, backs, put0, put1, put2, rd, rds, mv, mvs, setS, setL, asg, fin, outs, out1, opt, Res.bind, sOf, srcAt, srcS, srcV, srcO, itemsOf, D.cl, clL, clL_lI, D.fz, fzL, fzL_lI, gAdd_at, gSub_at, gMul_sm, gFdiv_at, gMod_at, gLt_at, gLe_at, gGt_at, gGe_at, gNeg_at, gEq_at, gNe_at, gEq_nn, gNe_nn, gEq_nil, gNe_nil, gEq_lst, gNe_lst, gEq_tup, gNe_tup, gEq_bl, gNe_bl, gIsi_ii, gIsi_ib, gIsi_bb, gIsi_ll, gIsi_tt, gIxA, gInA, gNotInA, gStA, gStT, sForD, noXs, unlR, tgDb, eDGet, eDGet1, eDnew, eDisp, flatP, pairD, isDc, r1, u, u1, cR]) ?_
  refine sqN (e1 := [s0, .sl .O (.int c), .sl .O w1, .sl .O R, .sl .O (.lst true P), s5, s6, s7, s8, s9, s10, s11, s12, s13, .un]) (by clear lc fl pl rw5; rcases k4 with rfl | ⟨d2, rfl⟩ <;> simp (disch := first | omega | simp) [-List.map_replicate, mkFn, sSeq, sSet, sRet, sRetN, sIf, sNil, sExpr, sAsgG, sAug, sFor, tgSb, tgNm, tgTp, tgL, putI, noX, eV, eC, e1, e2, eN, eChain, eAnd, eOr, eNot, eIf, eFz, eTup, eLst, eSl, evO, eLc, lcRun, wpC, wp, rst, unlT, unlR, unl, eCall, eMut, eMeth, isL, evA, mkArgs, backs, put0, put1, put2, rd, rds, mv, mvs, setS, setL, asg, fin, outs, out1, opt, Res.bind, sOf, srcAt, srcS, srcV, srcO, itemsOf, D.cl, clL, clL_lI, D.fz, fzL, fzL_lI, gAdd_at, gSub_at, gMul_sm, gFdiv_at, gMod_at, gLt_at, gLe_at, gGt_at, gGe_at, gNeg_at, gEq_at, gNe_at, gEq_nn, gNe_nn, gEq_nil, gNe_nil, gEq_lst, gNe_lst, gEq_tup, gNe_tup, gEq_bl, gNe_bl, gIsi_ii, gIsi_ib, gIsi_bb, gIsi_ll, gIsi_tt, gIxA, gInA, gNotInA, gStA, gStT, sForD, noXs, unlR, tgDb, eDGet, eDGet1, eDnew, eDisp, flatP, pairD, isDc, ls, cR, cS]) ?_
  refine sqN (e1 := [s0, .sl .O (.int c), .sl .O w2, .sl .O R, .sl .O (.lst true P), .sl .O X, .sl .O Y, s7, s8, s9, s10, s11, s12, s13, .un]) (by clear fl pl rw5; rcases k5 with rfl | ⟨d5, rfl⟩ <;> rcases k6 with rfl | ⟨d6, rfl⟩ <;> simp (disch := first | omega | simp) [-List.map_replicate, mkFn, sSeq, sSet, sRet, sRetN, sIf, sNil, sExpr, sAsgG, sAug, sFor, tgSb, tgNm, tgTp, tgL, putI, noX, eV, eC, e1, e2, eN, eChain, eAnd, eOr, eNot, eIf, eFz, eTup, eLst, eSl, evO, eLc, lcRun, wpC, wp, rst, unlT, unlR, unl, eCall, eMut, eMeth, isL, evA, mkArgs, backs, put0, put1, put2, rd, rds, mv, mvs, setS, setL, asg, fin, outs, out1, opt, Res.bind, sOf, srcAt, srcS, srcV, srcO, itemsOf, D.cl, clL, clL_lI, D.fz, fzL, fzL_lI, gAdd_at, gSub_at, gMul_sm, gFdiv_at, gMod_at, gLt_at, gLe_at, gGt_at, gGe_at, gNeg_at, gEq_at, gNe_at, gEq_nn, gNe_nn, gEq_nil, gNe_nil, gEq_lst, gNe_lst, gEq_tup, gNe_tup, gEq_bl, gNe_bl, gIsi_ii, gIsi_ib, gIsi_bb, gIsi_ll, gIsi_tt, gIxA, gInA, gNotInA, gStA, gStT, sForD, noXs, unlR, tgDb, eDGet, eDGet1, eDnew, eDisp, flatP, pairD, isDc, sRgF, rg2', tgUn, lc, cx, cy]) ?_
  refine sqN (e1 := [s0, .sl .O (.int c), .sl .O w5, .sl .O R, .sl .O (.lst true P), .sl .O X, .sl .O Y, .sl .O (.int k), s8, s9, s10, s11, s12, s13, .un]) (by clear lc fl pl rw5; rcases k7 with rfl | ⟨d7, rfl⟩ <;> simp (disch := first | omega | simp) [-List.map_replicate, mkFn, sSeq, sSet, sRet, sRetN, sIf, sNil, sExpr, sAsgG, sAug, sFor, tgSb, tgNm, tgTp, tgL, putI, noX, eV, eC, e1, e2, eN, eChain, eAnd, eOr, eNot, eIf, eFz, eTup, eLst, eSl, evO, eLc, lcRun, wpC, wp, rst, unlT, unlR, unl, eCall, eMut, eMeth, isL, evA, mkArgs, backs, put0, put1, put2, rd, rds, mv, mvs, setS, setL, asg, fin, outs, out1, opt, Res.bind, sOf, srcAt, srcS, srcV, srcO, itemsOf, D.cl, clL, clL_lI, D.fz, fzL, fzL_lI, gAdd_at, gSub_at, gMul_sm, gFdiv_at, gMod_at, gLt_at, gLe_at, gGt_at, gGe_at, gNeg_at, gEq_at, gNe_at, gEq_nn, gNe_nn, gEq_nil, gNe_nil, gEq_lst, gNe_lst, gEq_tup, gNe_tup, gEq_bl, gNe_bl, gIsi_ii, gIsi_ib, gIsi_bb, gIsi_ll, gIsi_tt, gIxA, gInA, gNotInA, gStA, gStT, sForD, noXs, unlR, tgDb, eDGet, eDGet1, eDnew, eDisp, flatP, pairD, isDc, e1', f1, g1, pk, u2, u3, u4, u5]) ?_
  refine sqN (e1 := [s0, .sl .O (.int c), .sl .O w5, .sl .O R, .sl .O (.lst true P), .sl .O X, .sl .O Y, .sl .O (.int k), .sl .O (.int v), s9, s10, s11, s12, s13, .un]) (by clear lc fl pl rw5; rcases k8 with rfl | ⟨d8, rfl⟩ <;> simp (disch := first | omega | simp) [-List.map_replicate, mkFn, sSeq, sSet, sRet, sRetN, sIf, sNil, sExpr, sAsgG, sAug, sFor, tgSb, tgNm, tgTp, tgL, putI, noX, eV, eC, e1, e2, eN, eChain, eAnd, eOr, eNot, eIf, eFz, eTup, eLst, eSl, evO, eLc, lcRun, wpC, wp, rst, unlT, unlR, unl, eCall, eMut, eMeth, isL, evA, mkArgs, backs, put0, put1, put2, rd, rds, mv, mvs, setS, setL, asg, fin, outs, out1, opt, Res.bind, sOf, srcAt, srcS, srcV, srcO, itemsOf, D.cl, clL, clL_lI, D.fz, fzL, fzL_lI, gAdd_at, gSub_at, gMul_sm, gFdiv_at, gMod_at, gLt_at, gLe_at, gGt_at, gGe_at, gNeg_at, gEq_at, gNe_at, gEq_nn, gNe_nn, gEq_nil, gNe_nil, gEq_lst, gNe_lst, gEq_tup, gNe_tup, gEq_bl, gNe_bl, gIsi_ii, gIsi_ib, gIsi_bb, gIsi_ll, gIsi_tt, gIxA, gInA, gNotInA, gStA, gStT, sForD, noXs, unlR, tgDb, eDGet, eDGet1, eDnew, eDisp, flatP, pairD, isDc, tab, due, cx, cy, cR, -gIxA]) ?_
  refine sqN (e1 := [s0, .sl .O (.int c), .sl .O w5, .sl .O R, .sl .O (.lst true P), .sl .O X, .sl .O Y, .sl .O (.int k), .sl .O (.int v), s9, s10, s11, s12, s13, .un]) (by
    clear lc fl pl
    rcases hk5 with h5 | h5
    · obtain ⟨m, q1, q2⟩ := rw5 h5
      have h5' : (k : Int) < 5 := by omega
      simp (disch := first | omega | simp) [-List.map_replicate, mkFn, sSeq, sSet, sRet, sRetN, sIf, sNil, sExpr, sAsgG, sAug, sFor, tgSb, tgNm, tgTp, tgL, putI, noX, eV, eC, e1, e2, eN, eChain, eAnd, eOr, eNot, eIf, eFz, eTup, eLst, eSl, evO, eLc, lcRun, wpC, wp, rst, unlT, unlR, unl, eCall, eMut, eMeth, isL, evA, mkArgs, backs, put0, put1, put2, rd, rds, mv, mvs, setS, setL, asg, fin, outs, out1, opt, Res.bind, sOf, srcAt, srcS, srcV, srcO, itemsOf, D.cl, clL, clL_lI, D.fz, fzL, fzL_lI, gAdd_at, gSub_at, gMul_sm, gFdiv_at, gMod_at, gLt_at, gLe_at, gGt_at, gGe_at, gNeg_at, gEq_at, gNe_at, gEq_nn, gNe_nn, gEq_nil, gNe_nil, gEq_lst, gNe_lst, gEq_tup, gNe_tup, gEq_bl, gNe_bl, gIsi_ii, gIsi_ib, gIsi_bb, gIsi_ll, gIsi_tt, gIxA, gInA, gNotInA, gStA, gStT, sForD, noXs, unlR, tgDb, eDGet, eDGet1, eDnew, eDisp, flatP, pairD, isDc, h5', q1, q2, cx, cy, cR]
    · have h5' : ¬ (k : Int) < 5 := by omega
      simp (disch := first | omega | simp) [-List.map_replicate, mkFn, sSeq, sSet, sRet, sRetN, sIf, sNil, sExpr, sAsgG, sAug, sFor, tgSb, tgNm, tgTp, tgL, putI, noX, eV, eC, e1, e2, eN, eChain, eAnd, eOr, eNot, eIf, eFz, eTup, eLst, eSl, evO, eLc, lcRun, wpC, wp, rst, unlT, unlR, unl, eCall, eMut, eMeth, isL, evA, mkArgs, backs, put0, put1, put2, rd, rds, mv, mvs, setS, setL, asg, fin, outs, out1, opt, Res.bind, sOf, srcAt, srcS, srcV, srcO, itemsOf, D.cl, clL, clL_lI, D.fz, fzL, fzL_lI, gAdd_at, gSub_at, gMul_sm, gFdiv_at, gMod_at, gLt_at, gLe_at, gGt_at, gGe_at, gNeg_at, gEq_at, gNe_at, gEq_nn, gNe_nn, gEq_nil, gNe_nil, gEq_lst, gNe_lst, gEq_tup, gNe_tup, gEq_bl, gNe_bl, gIsi_ii, gIsi_ib, gIsi_bb, gIsi_ll, gIsi_tt, gIxA, gInA, gNotInA, gStA, gStT, sForD, noXs, unlR, tgDb, eDGet, eDGet1, eDnew, eDisp, flatP, pairD, isDc, h5']) ?_
  refine sqN (e1 := [s0, .sl .O (.int c), .sl .O w5, .sl .O R, .sl .O (.lst true P), .sl .O X, .sl .O Y, .sl .O (.int k), .sl .O (.int v), t9, t10, s11, s12, s13, .un]) (by clear lc pl rw5; simp (disch := first | omega | simp) [-List.map_replicate, mkFn, sSeq, sSet, sRet, sRetN, sIf, sNil, sExpr, sAsgG, sAug, sFor, tgSb, tgNm, tgTp, tgL, putI, noX, eV, eC, e1, e2, eN, eChain, eAnd, eOr, eNot, eIf, eFz, eTup, eLst, eSl, evO, eLc, lcRun, wpC, wp, rst, unlT, unlR, unl, eCall, eMut, eMeth, isL, evA, mkArgs, backs, put0, put1, put2, rd, rds, mv, mvs, setS, setL, asg, fin, outs, out1, opt, Res.bind, sOf, srcAt, srcS, srcV, srcO, itemsOf, D.cl, clL, clL_lI, D.fz, fzL, fzL_lI, gAdd_at, gSub_at, gMul_sm, gFdiv_at, gMod_at, gLt_at, gLe_at, gGt_at, gGe_at, gNeg_at, gEq_at, gNe_at, gEq_nn, gNe_nn, gEq_nil, gNe_nil, gEq_lst, gNe_lst, gEq_tup, gNe_tup, gEq_bl, gNe_bl, gIsi_ii, gIsi_ib, gIsi_bb, gIsi_ll, gIsi_tt, gIxA, gInA, gNotInA, gStA, gStT, sForD, noXs, unlR, tgDb, eDGet, eDGet1, eDnew, eDisp, flatP, pairD, isDc, sRgF, rg2', fl]) ?_
  refine sqN (e1 := [s0, .sl .O (.int c), .sl .O w6, .sl .O R, .sl .O (.lst true P), .sl .O X, .sl .O Y, .sl .O (.int k), .sl .O (.int v), t9, t10, .sl .O (.int p), s12, s13, .un]) (by clear lc fl pl rw5; rcases k11 with rfl | ⟨d11, rfl⟩ <;> simp (disch := first | omega | simp) [-List.map_replicate, mkFn, sSeq, sSet, sRet, sRetN, sIf, sNil, sExpr, sAsgG, sAug, sFor, tgSb, tgNm, tgTp, tgL, putI, noX, eV, eC, e1, e2, eN, eChain, eAnd, eOr, eNot, eIf, eFz, eTup, eLst, eSl, evO, eLc, lcRun, wpC, wp, rst, unlT, unlR, unl, eCall, eMut, eMeth, isL, evA, mkArgs, backs, put0, put1, put2, rd, rds, mv, mvs, setS, setL, asg, fin, outs, out1, opt, Res.bind, sOf, srcAt, srcS, srcV, srcO, itemsOf, D.cl, clL, clL_lI, D.fz, fzL, fzL_lI, gAdd_at, gSub_at, gMul_sm, gFdiv_at, gMod_at, gLt_at, gLe_at, gGt_at, gGe_at, gNeg_at, gEq_at, gNe_at, gEq_nn, gNe_nn, gEq_nil, gNe_nil, gEq_lst, gNe_lst, gEq_tup, gNe_tup, gEq_bl, gNe_bl, gIsi_ii, gIsi_ib, gIsi_bb, gIsi_ll, gIsi_tt, gIxA, gInA, gNotInA, gStA, gStT, sForD, noXs, unlR, tgDb, eDGet, eDGet1, eDnew, eDisp, flatP, pairD, isDc, p1, u5, u6]) ?_
  refine sqN (e1 := [s0, .sl .O (.int c), .sl .O w6, .sl .O R, .sl .O (.lst true P), .sl .O X, .sl .O Y, .sl .O (.int k), .sl .O (.int v), t9, t10, .sl .O (.int p), .sl .O (.lst true []), s13, .un]) (by clear lc fl pl rw5; rcases k12 with rfl | ⟨d12, rfl⟩ <;> simp (disch := first | omega | simp) [-List.map_replicate, mkFn, sSeq, sSet, sRet, sRetN, sIf, sNil, sExpr, sAsgG, sAug, sFor, tgSb, tgNm, tgTp, tgL, putI, noX, eV, eC, e1, e2, eN, eChain, eAnd, eOr, eNot, eIf, eFz, eTup, eLst, eSl, evO, eLc, lcRun, wpC, wp, rst, unlT, unlR, unl, eCall, eMut, eMeth, isL, evA, mkArgs, backs, put0, put1, put2, rd, rds, mv, mvs, setS, setL, asg, fin, outs, out1, opt, Res.bind, sOf, srcAt, srcS, srcV, srcO, itemsOf, D.cl, clL, clL_lI, D.fz, fzL, fzL_lI, gAdd_at, gSub_at, gMul_sm, gFdiv_at, gMod_at, gLt_at, gLe_at, gGt_at, gGe_at, gNeg_at, gEq_at, gNe_at, gEq_nn, gNe_nn, gEq_nil, gNe_nil, gEq_lst, gNe_lst, gEq_tup, gNe_tup, gEq_bl, gNe_bl, gIsi_ii, gIsi_ib, gIsi_bb, gIsi_ll, gIsi_tt, gIxA, gInA, gNotInA, gStA, gStT, sForD, noXs, unlR, tgDb, eDGet, eDGet1, eDnew, eDisp, flatP, pairD, isDc, ]) ?_
  refine sqN (e1 := [s0, .sl .O (.int c), .sl .O w6, .sl .O R, .sl .O (.lst true P), .sl .O X, .sl .O Y, .sl .O (.int k), .sl .O (.int v), t9, t10, .sl .O (.int p), .sl .O (.lst true Z), t13, .un]) (by clear lc fl rw5; simp (disch := first | omega | simp) [-List.map_replicate, mkFn, sSeq, sSet, sRet, sRetN, sIf, sNil, sExpr, sAsgG, sAug, sFor, tgSb, tgNm, tgTp, tgL, putI, noX, eV, eC, e1, e2, eN, eChain, eAnd, eOr, eNot, eIf, eFz, eTup, eLst, eSl, evO, eLc, lcRun, wpC, wp, rst, unlT, unlR, unl, eCall, eMut, eMeth, isL, evA, mkArgs, backs, put0, put1, put2, rd, rds, mv, mvs, setS, setL, asg, fin, outs, out1, opt, Res.bind, sOf, srcAt, srcS, srcV, srcO, itemsOf, D.cl, clL, clL_lI, D.fz, fzL, fzL_lI, gAdd_at, gSub_at, gMul_sm, gFdiv_at, gMod_at, gLt_at, gLe_at, gGt_at, gGe_at, gNeg_at, gEq_at, gNe_at, gEq_nn, gNe_nn, gEq_nil, gNe_nil, gEq_lst, gNe_lst, gEq_tup, gNe_tup, gEq_bl, gNe_bl, gIsi_ii, gIsi_ib, gIsi_bb, gIsi_ll, gIsi_tt, gIxA, gInA, gNotInA, gStA, gStT, sForD, noXs, unlR, tgDb, eDGet, eDGet1, eDnew, eDisp, flatP, pairD, isDc, pl, cS]) ?_
  clear lc fl pl rw5
  simp (disch := first | omega | simp) [-List.map_replicate, mkFn, sSeq, sSet, sRet, sRetN, sIf, sNil, sExpr, sAsgG, sAug, sFor, tgSb, tgNm, tgTp, tgL, putI, noX, eV, eC, e1, e2, eN, eChain, eAnd, eOr, eNot, eIf, eFz, eTup, eLst, eSl, evO, eLc, lcRun, wpC, wp, rst, unlT, unlR, unl, eCall, eMut, eMeth, isL, evA, mkArgs, backs, put0, put1, put2, rd, rds, mv, mvs, setS, setL, asg, fin, outs, out1, opt, Res.bind, sOf, srcAt, srcS, srcV, srcO, itemsOf, D.cl, clL, clL_lI, D.fz, fzL, fzL_lI, gAdd_at, gSub_at, gMul_sm, gFdiv_at, gMod_at, gLt_at, gLe_at, gGt_at, gGe_at, gNeg_at, gEq_at, gNe_at, gEq_nn, gNe_nn, gEq_nil, gNe_nil, gEq_lst, gNe_lst, gEq_tup, gNe_tup, gEq_bl, gNe_bl, gIsi_ii, gIsi_ib, gIsi_bb, gIsi_ll, gIsi_tt, gIxA, gInA, gNotInA, gStA, gStT, sForD, noXs, unlR, tgDb, eDGet, eDGet1, eDnew, eDisp, flatP, pairD, isDc, sm]
theorem law_loop (cs : List Int) (s0 : Sl) : ∃ s1 s2 s3 s4 s5 s6 s7 s8 s9 s10 s11 s12 s13, forL (.nm 1) l_law_3 (lI cs) (lawE s0 .un .un .un .un .un .un .un .un .un .un .un .un .un) = .ok .nx (lawE s0 s1 s2 s3 s4 s5 s6 s7 s8 s9 s10 s11 s12 s13) := by
  obtain ⟨e, h1, s1, s2, s3, s4, s5, s6, s7, s8, s9, s10, s11, s12, s13, _, _, _, _, _, _, _, _, _, _, _, _, _, rfl⟩ := forL_inv (tg := .nm 1) (body := l_law_3) (fun _ env => ∃ s1 s2 s3 s4 s5 s6 s7 s8 s9 s10 s11 s12 s13, Stb s1 ∧ Stb s2 ∧ Stb s3 ∧ Stb s4 ∧ Stb s5 ∧ Stb s6 ∧ Stb s7 ∧ Stb s8 ∧ Stb s9 ∧ Stb s10 ∧ Stb s11 ∧ Stb s12 ∧ Stb s13 ∧ env = lawE s0 s1 s2 s3 s4 s5 s6 s7 s8 s9 s10 s11 s12 s13) (lI cs) 0 (lawE s0 .un .un .un .un .un .un .un .un .un .un .un .un .un) (fun i d env hd hP => by
    obtain ⟨s1, s2, s3, s4, s5, s6, s7, s8, s9, s10, s11, s12, s13, k1, k2, k3, k4, k5, k6, k7, k8, k9, k10, k11, k12, k13, rfl⟩ := hP
    obtain ⟨c, hm, rfl⟩ := mem_lI.mp (List.mem_of_getElem? hd)
    obtain ⟨t2, t3, t4, t5, t6, t7, t8, t9, t10, t11, t12, t13, m2, m3, m4, m5, m6, m7, m8, m9, m10, m11, m12, m13, p⟩ := cell_ok c s0 s2 s3 s4 s5 s6 s7 s8 s9 s10 s11 s12 s13 k2 k3 k4 k5 k6 k7 k8 k9 k10 k11 k12 k13
    refine ⟨lawE s0 (.sl .O (.int c)) s2 s3 s4 s5 s6 s7 s8 s9 s10 s11 s12 s13, _, ?_, p, _, _, _, _, _, _, _, _, _, _, _, _, _, .inr ⟨_, rfl⟩, m2, m3, m4, m5, m6, m7, m8, m9, m10, m11, m12, m13, rfl⟩
    rcases k1 with rfl | ⟨k, rfl⟩ <;> rfl) ⟨_, _, _, _, _, _, _, _, _, _, _, _, _, .inl rfl, .inl rfl, .inl rfl, .inl rfl, .inl rfl, .inl rfl, .inl rfl, .inl rfl, .inl rfl, .inl rfl, .inl rfl, .inl rfl, .inl rfl, rfl⟩
  exact ⟨s1, s2, s3, s4, s5, s6, s7, s8, s9, s10, s11, s12, s13, h1⟩
theorem law_plain (ns : List Int) (h : Scr ns) : ∃ o, f_law [scriptD ns] = .ok (.bl true) o := by
  show ∃ o, f_law [.sl .O (.lst false (lI ns))] = .ok (.bl true) o
  have hl := h.len
  have hc := cut_len ns none (some 10)
  obtain ⟨s1, s2, s3, s4, s5, s6, s7, s8, s9, s10, s11, s12, s13, p1⟩ := law_loop ([0, 5] ++ cutL ns none (some 10)) (.sl .O (.lst false (lI ns)))
  have a1 : gSl (.lst false (lI ns)) none (some 10) = some (.lst true (lI (cutL ns none (some 10)))) := gSl_lI ns none (some 10)
  have a2 : gAdd (.lst true [.int 0, .int 5]) (.lst true (lI (cutL ns none (some 10)))) = some (.lst true (lI ([0, 5] ++ cutL ns none (some 10)))) := gAdd_ll (m := true) (m' := true) (a := [0, 5]) (by simp) (by omega)
  generalize [0, 5] ++ cutL ns none (some 10) = cs at *
  generalize cutL ns none (some 10) = cu at *
  unfold lawE at p1
  refine ⟨[.un], ?_⟩
  simp (disch := first | omega | simp) [-List.map_replicate, mkFn, sSeq, sSet, sRet, sRetN, sIf, sNil, sExpr, sAsgG, sAug, sFor, tgSb, tgNm, tgTp, tgL, putI, noX, eV, eC, e1, e2, eN, eChain, eAnd, eOr, eNot, eIf, eFz, eTup, eLst, eSl, evO, eLc, lcRun, wpC, wp, rst, unlT, unlR, unl, eCall, eMut, eMeth, isL, evA, mkArgs, backs, put0, put1, put2, rd, rds, mv, mvs, setS, setL, asg, fin, outs, out1, opt, Res.bind, sOf, srcAt, srcS, srcV, srcO, itemsOf, D.cl, clL, clL_lI, D.fz, fzL, fzL_lI, gAdd_at, gSub_at, gMul_sm, gFdiv_at, gMod_at, gLt_at, gLe_at, gGt_at, gGe_at, gNeg_at, gEq_at, gNe_at, gEq_nn, gNe_nn, gEq_nil, gNe_nil, gEq_lst, gNe_lst, gEq_tup, gNe_tup, gEq_bl, gNe_bl, gIsi_ii, gIsi_ib, gIsi_bb, gIsi_ll, gIsi_tt, gIxA, gInA, gNotInA, gStA, gStT, sForD, noXs, unlR, tgDb, eDGet, eDGet1, eDnew, eDisp, flatP, pairD, isDc, f_law, b_law, a1, a2, p1]
end DL
namespace DL
open PySem PySem.Spec PyProof.Rows L2
def topS (i : Nat) : Stmt := PySem.Challenge.pw_nearplace_k08_ways_between.main.body.getD i (.Pass ⟨0, 0, 0, 0⟩)
abbrev s__law_draw : Stmt := topS 25
abbrev N__law_draw : List Str := ["well", "many", "got", "stirred"]
abbrev P__law_draw : List Str := ["well", "many"]
theorem sc__law_draw : FnScope N__law_draw P__law_draw (defScope s__law_draw) := ⟨rfl, rfl, rfl, by decide +kernel, rfl, by decide +kernel, by decide +kernel⟩
abbrev s__law_reach : Stmt := topS 28
abbrev N__law_reach : List Str := ["well"]
abbrev P__law_reach : List Str := ["well"]
theorem sc__law_reach : FnScope N__law_reach P__law_reach (defScope s__law_reach) := ⟨rfl, rfl, rfl, by decide +kernel, rfl, by decide +kernel, by decide +kernel⟩
abbrev s__law_steps : Stmt := topS 27
abbrev N__law_steps : List Str := ["reach", "stand", "place", "there", "some", "found", "thing", "one"]
abbrev P__law_steps : List Str := ["reach", "stand"]
theorem sc__law_steps : FnScope N__law_steps P__law_steps (defScope s__law_steps) := ⟨rfl, rfl, rfl, by decide +kernel, rfl, by decide +kernel, by decide +kernel⟩
abbrev s__law_rows : Stmt := topS 30
abbrev N__law_rows : List Str := ["reach", "stand", "steps", "ends", "turn", "later", "one", "put", "behind"]
abbrev P__law_rows : List Str := ["reach", "stand", "steps"]
theorem sc__law_rows : FnScope N__law_rows P__law_rows (defScope s__law_rows) := ⟨rfl, rfl, rfl, by decide +kernel, rfl, by decide +kernel, by decide +kernel⟩
abbrev s__law_stands : Stmt := topS 26
abbrev N__law_stands : List Str := ["reach", "rows", "turn", "longer", "row", "one"]
abbrev P__law_stands : List Str := ["reach"]
theorem sc__law_stands : FnScope N__law_stands P__law_stands (defScope s__law_stands) := ⟨rfl, rfl, rfl, by decide +kernel, rfl, by decide +kernel, by decide +kernel⟩
abbrev s__law_table : Stmt := topS 31
abbrev N__law_table : List Str := ["reach", "one", "steps", "stands", "ways", "turn", "later", "stand", "put", "behind"]
abbrev P__law_table : List Str := ["reach", "one", "steps"]
theorem sc__law_table : FnScope N__law_table P__law_table (defScope s__law_table) := ⟨rfl, rfl, rfl, by decide +kernel, rfl, by decide +kernel, by decide +kernel⟩
abbrev s__law_well : Stmt := topS 24
abbrev N__law_well : List Str := ["cell"]
abbrev P__law_well : List Str := ["cell"]
theorem sc__law_well : FnScope N__law_well P__law_well (defScope s__law_well) := ⟨rfl, rfl, rfl, by decide +kernel, rfl, by decide +kernel, by decide +kernel⟩
abbrev s_is_whole_stands : Stmt := topS 13
abbrev N_is_whole_stands : List Str := ["thing", "least", "most"]
abbrev P_is_whole_stands : List Str := ["thing", "least", "most"]
theorem sc_is_whole_stands : FnScope N_is_whole_stands P_is_whole_stands (defScope s_is_whole_stands) := ⟨rfl, rfl, rfl, by decide +kernel, rfl, by decide +kernel, by decide +kernel⟩
abbrev s_need_many : Stmt := topS 15
abbrev N_need_many : List Str := ["many"]
abbrev P_need_many : List Str := ["many"]
theorem sc_need_many : FnScope N_need_many P_need_many (defScope s_need_many) := ⟨rfl, rfl, rfl, by decide +kernel, rfl, by decide +kernel, by decide +kernel⟩
abbrev s_is_whole : Stmt := topS 7
abbrev N_is_whole : List Str := ["thing", "low", "high"]
abbrev P_is_whole : List Str := ["thing", "low", "high"]
theorem sc_is_whole : FnScope N_is_whole P_is_whole (defScope s_is_whole) := ⟨rfl, rfl, rfl, by decide +kernel, rfl, by decide +kernel, by decide +kernel⟩
abbrev s_is_reach : Stmt := topS 9
abbrev N_is_reach : List Str := ["thing"]
abbrev P_is_reach : List Str := ["thing"]
theorem sc_is_reach : FnScope N_is_reach P_is_reach (defScope s_is_reach) := ⟨rfl, rfl, rfl, by decide +kernel, rfl, by decide +kernel, by decide +kernel⟩
abbrev s_need_reach : Stmt := topS 10
abbrev N_need_reach : List Str := ["thing"]
abbrev P_need_reach : List Str := ["thing"]
theorem sc_need_reach : FnScope N_need_reach P_need_reach (defScope s_need_reach) := ⟨rfl, rfl, rfl, by decide +kernel, rfl, by decide +kernel, by decide +kernel⟩
abbrev s_first_stand : Stmt := topS 16
abbrev N_first_stand : List Str := ["reach"]
abbrev P_first_stand : List Str := ["reach"]
theorem sc_first_stand : FnScope N_first_stand P_first_stand (defScope s_first_stand) := ⟨rfl, rfl, rfl, by decide +kernel, rfl, by decide +kernel, by decide +kernel⟩
abbrev s_puts_of : Stmt := topS 17
abbrev N_puts_of : List Str := ["reach", "stand", "left", "right"]
abbrev P_puts_of : List Str := ["reach", "stand"]
theorem sc_puts_of : FnScope N_puts_of P_puts_of (defScope s_puts_of) := ⟨rfl, rfl, rfl, by decide +kernel, rfl, by decide +kernel, by decide +kernel⟩
abbrev s_step_behind : Stmt := topS 18
abbrev N_step_behind : List Str := ["reach", "stand", "put", "one"]
abbrev P_step_behind : List Str := ["reach", "stand", "put"]
theorem sc_step_behind : FnScope N_step_behind P_step_behind (defScope s_step_behind) := ⟨rfl, rfl, rfl, by decide +kernel, rfl, by decide +kernel, by decide +kernel⟩
abbrev s_found_stands : Stmt := topS 19
abbrev N_found_stands : List Str := ["reach", "known", "pile", "stand", "put", "behind"]
abbrev P_found_stands : List Str := ["reach"]
theorem sc_found_stands : FnScope N_found_stands P_found_stands (defScope s_found_stands) := ⟨rfl, rfl, rfl, by decide +kernel, rfl, by decide +kernel, by decide +kernel⟩
abbrev s_need_stand : Stmt := topS 20
abbrev N_need_stand : List Str := ["reach", "stand", "left", "right", "one"]
abbrev P_need_stand : List Str := ["reach", "stand"]
theorem sc_need_stand : FnScope N_need_stand P_need_stand (defScope s_need_stand) := ⟨rfl, rfl, rfl, by decide +kernel, rfl, by decide +kernel, by decide +kernel⟩
abbrev s_ways_of : Stmt := topS 21
abbrev N_ways_of : List Str := ["reach", "one", "steps", "ways", "turn", "later", "stand", "many", "put", "behind"]
abbrev P_ways_of : List Str := ["reach", "one", "steps"]
theorem sc_ways_of : FnScope N_ways_of P_ways_of (defScope s_ways_of) := ⟨rfl, rfl, rfl, by decide +kernel, rfl, by decide +kernel, by decide +kernel⟩
abbrev s_ways_between : Stmt := topS 22
abbrev N_ways_between : List Str := ["reach", "one", "other", "steps"]
abbrev P_ways_between : List Str := ["reach", "one", "other", "steps"]
theorem sc_ways_between : FnScope N_ways_between P_ways_between (defScope s_ways_between) := ⟨rfl, rfl, rfl, by decide +kernel, rfl, by decide +kernel, by decide +kernel⟩
abbrev s_law : Stmt := topS 32
abbrev N_law : List Str := ["script", "cell", "well", "reach", "stands", "one", "other", "steps", "due", "turn", "found", "part", "parts", "stand", "k"]
abbrev P_law : List Str := ["script"]
theorem sc_law : FnScope N_law P_law (defScope s_law) := ⟨rfl, rfl, rfl, by decide +kernel, rfl, by decide +kernel, by decide +kernel⟩
structure Txt (K : PySem.W.Frag) (mg : Mg) where
  a__law_draw : Addr
  d__law_draw : FuncData
  F__law_draw : Fun K "_law_draw" "_law_draw" s__law_draw a__law_draw d__law_draw
  b__law_draw : Binds K d__law_draw P__law_draw []
  a__law_reach : Addr
  d__law_reach : FuncData
  F__law_reach : Fun K "_law_reach" "_law_reach" s__law_reach a__law_reach d__law_reach
  b__law_reach : Binds K d__law_reach P__law_reach []
  a__law_steps : Addr
  d__law_steps : FuncData
  F__law_steps : Fun K "_law_steps" "_law_steps" s__law_steps a__law_steps d__law_steps
  b__law_steps : Binds K d__law_steps P__law_steps []
  a__law_rows : Addr
  d__law_rows : FuncData
  F__law_rows : Fun K "_law_rows" "_law_rows" s__law_rows a__law_rows d__law_rows
  b__law_rows : Binds K d__law_rows P__law_rows []
  a__law_stands : Addr
  d__law_stands : FuncData
  F__law_stands : Fun K "_law_stands" "_law_stands" s__law_stands a__law_stands d__law_stands
  b__law_stands : Binds K d__law_stands P__law_stands []
  a__law_table : Addr
  d__law_table : FuncData
  F__law_table : Fun K "_law_table" "_law_table" s__law_table a__law_table d__law_table
  b__law_table : Binds K d__law_table P__law_table []
  a__law_well : Addr
  d__law_well : FuncData
  F__law_well : Fun K "_law_well" "_law_well" s__law_well a__law_well d__law_well
  b__law_well : Binds K d__law_well P__law_well []
  a_is_whole_stands : Addr
  d_is_whole_stands : FuncData
  F_is_whole_stands : Fun K "is_whole" "is_whole" s_is_whole_stands a_is_whole_stands d_is_whole_stands
  b_is_whole_stands : Binds K d_is_whole_stands P_is_whole_stands []
  a_need_many : Addr
  d_need_many : FuncData
  F_need_many : Fun K "need_many" "need_many" s_need_many a_need_many d_need_many
  b_need_many : Binds K d_need_many P_need_many []
  a_is_whole : Addr
  d_is_whole : FuncData
  F_is_whole : Fun K "is_whole" "is_whole" s_is_whole a_is_whole d_is_whole
  b_is_whole : Binds K d_is_whole P_is_whole []
  a_is_reach : Addr
  d_is_reach : FuncData
  F_is_reach : Fun K "is_reach" "is_reach" s_is_reach a_is_reach d_is_reach
  b_is_reach : Binds K d_is_reach P_is_reach []
  a_need_reach : Addr
  d_need_reach : FuncData
  F_need_reach : Fun K "need_reach" "need_reach" s_need_reach a_need_reach d_need_reach
  b_need_reach : Binds K d_need_reach P_need_reach []
  a_first_stand : Addr
  d_first_stand : FuncData
  F_first_stand : Fun K "first_stand" "first_stand" s_first_stand a_first_stand d_first_stand
  b_first_stand : Binds K d_first_stand P_first_stand []
  a_puts_of : Addr
  d_puts_of : FuncData
  F_puts_of : Fun K "puts_of" "puts_of" s_puts_of a_puts_of d_puts_of
  b_puts_of : Binds K d_puts_of P_puts_of []
  a_step_behind : Addr
  d_step_behind : FuncData
  F_step_behind : Fun K "step_behind" "step_behind" s_step_behind a_step_behind d_step_behind
  b_step_behind : Binds K d_step_behind P_step_behind []
  a_found_stands : Addr
  d_found_stands : FuncData
  F_found_stands : Fun K "found_stands" "found_stands" s_found_stands a_found_stands d_found_stands
  b_found_stands : Binds K d_found_stands P_found_stands []
  a_need_stand : Addr
  d_need_stand : FuncData
  F_need_stand : Fun K "need_stand" "need_stand" s_need_stand a_need_stand d_need_stand
  b_need_stand : Binds K d_need_stand P_need_stand []
  a_ways_of : Addr
  d_ways_of : FuncData
  F_ways_of : Fun K "ways_of" "ways_of" s_ways_of a_ways_of d_ways_of
  b_ways_of : Binds K d_ways_of P_ways_of []
  a_ways_between : Addr
  d_ways_between : FuncData
  F_ways_between : Fun K "ways_between" "ways_between" s_ways_between a_ways_between d_ways_between
  b_ways_between : Binds K d_ways_between P_ways_between []
  a_law : Addr
  d_law : FuncData
  F_law : Fun K "law" "law" s_law a_law d_law
  b_law : Binds K d_law P_law []
  g__law_draw : mg "_law_draw" = some (.ref a__law_draw)
  g__law_reach : mg "_law_reach" = some (.ref a__law_reach)
  g__law_rows : mg "_law_rows" = some (.ref a__law_rows)
  g__law_stands : mg "_law_stands" = some (.ref a__law_stands)
  g__law_steps : mg "_law_steps" = some (.ref a__law_steps)
  g__law_table : mg "_law_table" = some (.ref a__law_table)
  g__law_well : mg "_law_well" = some (.ref a__law_well)
  g_first_stand : mg "first_stand" = some (.ref a_first_stand)
  g_found_stands : mg "found_stands" = some (.ref a_found_stands)
  g_is_reach : mg "is_reach" = some (.ref a_is_reach)
  g_is_whole_orders : mg "is_whole_orders" = some (.ref a_is_whole)
  g_is_whole_stands : mg "is_whole_stands" = some (.ref a_is_whole_stands)
  g_need_many : mg "need_many" = some (.ref a_need_many)
  g_need_reach : mg "need_reach" = some (.ref a_need_reach)
  g_need_stand : mg "need_stand" = some (.ref a_need_stand)
  g_puts_of : mg "puts_of" = some (.ref a_puts_of)
  g_step_behind : mg "step_behind" = some (.ref a_step_behind)
  g_ways_between : mg "ways_between" = some (.ref a_ways_between)
  g_ways_of : mg "ways_of" = some (.ref a_ways_of)
  C_NoNumber : Addr
  g_NoNumber : mg "NoNumber" = some (.ref C_NoNumber)
  C_NoReach : Addr
  g_NoReach : mg "NoReach" = some (.ref C_NoReach)
  C_NoStand : Addr
  g_NoStand : mg "NoStand" = some (.ref C_NoStand)
  x_NoNumber : PySem.W.excIn K C_NoNumber [.type "ValueError", .type "Exception", .type "BaseException", .type "object"] "ValueError.__new__" = true
  p_NoNumber : PySem.W.keepIn K (.ref C_NoNumber) = true
  r_NoNumber : PySem.W.subIn K (.ref C_NoNumber) (.type "BaseException") = some true
  y_NoNumber : PySem.W.typeIn K (.ref C_NoNumber) = some (.type "type")
  x_NoReach : PySem.W.excIn K C_NoReach [.type "ValueError", .type "Exception", .type "BaseException", .type "object"] "ValueError.__new__" = true
  p_NoReach : PySem.W.keepIn K (.ref C_NoReach) = true
  r_NoReach : PySem.W.subIn K (.ref C_NoReach) (.type "BaseException") = some true
  y_NoReach : PySem.W.typeIn K (.ref C_NoReach) = some (.type "type")
  x_NoStand : PySem.W.excIn K C_NoStand [.type "ValueError", .type "Exception", .type "BaseException", .type "object"] "ValueError.__new__" = true
  p_NoStand : PySem.W.keepIn K (.ref C_NoStand) = true
  r_NoStand : PySem.W.subIn K (.ref C_NoStand) (.type "BaseException") = some true
  y_NoStand : PySem.W.typeIn K (.ref C_NoStand) = some (.type "type")
  t_MOST_REACH : Tok
  k_MOST_REACH : mg "MOST_REACH" = some (.int 3 t_MOST_REACH)
  t_MOST_THINGS : Tok
  k_MOST_THINGS : mg "MOST_THINGS" = some (.int 40 t_MOST_THINGS)
  m_bool : mg "bool" = none
  m_dict : mg "dict" = none
  m_int : mg "int" = none
  m_isinstance : mg "isinstance" = none
  m_len : mg "len" = none
  m_list : mg "list" = none
  m_range : mg "range" = none
  m_sorted : mg "sorted" = none
  m_sum : mg "sum" = none
  m_tuple : mg "tuple" = none
section
variable {P : Program} {w : World} {K : PySem.W.Frag} {mg : Mg} {base : Heap}
theorem ok__law_draw (T : Txt K mg) : FnOk P w K mg base (L2.CX P w) 1 T.a__law_draw T.d__law_draw P__law_draw (spF K mg f_law_draw) := by
  refine fn_ok T.F__law_draw sc__law_draw fun cdv A outer s H E hr => ?_
  exact (jb_cons (js_if (jt_cmp op_gt snd_gt (je_ix (je_var 0) je_int) je_int) (jb_cons (js_set 2 (je_bin op_mod snd_mod (je_ix (je_var 0) je_int) (je_var 1)) sc__law_draw.nd)
  (jb_cons (js_asgG (je_bin op_fdivW snd_fdiv (je_ix (je_var 0) je_int) (je_var 1)) (jg_sb 0 je_int))
  (jb_one (js_ret (je_var 2))))) jb_nil)
  (jb_cons (js_set 3 (je_bin op_mod snd_mod (je_bin op_add1 snd_add (je_bin op_mul1 snd_mul (je_ix (je_var 0) je_int) je_int) je_int) je_int) sc__law_draw.nd)
  (jb_cons (js_set 3 (je_bin op_mod snd_mod (je_bin op_mul1 snd_mul (je_var 3) (je_var 3)) je_int) sc__law_draw.nd)
  (jb_cons (js_asgG (je_bin op_mod snd_mod (je_bin op_add1 snd_add (je_bin op_mul1 snd_mul (je_var 3) je_int) je_int) je_int) (jg_sb 0 je_int))
  (jb_one (js_ret (je_bin op_mod snd_mod (je_bin op_fdivW snd_fdiv (je_ix (je_var 0) je_int) je_int) (je_var 1))))))))
theorem ok__law_reach (T : Txt K mg) : FnOk P w K mg base (L2.CX P w) 2 T.a__law_reach T.d__law_reach P__law_reach (spF K mg f_law_reach) := by
  refine fn_ok T.F__law_reach sc__law_reach fun cdv A outer s H E hr => ?_
  exact (jb_one (js_ret (je_tup (ja_cons (je_fz (je_call (ok__law_draw T) (takes_of rfl rfl rfl rfl) (hr.mono (by decide)) rfl T.g__law_draw T.F__law_draw.kp T.b__law_draw (ja_cons (je_var 0) (ja_cons je_int ja_nil)))) (ja_cons (je_fz (je_call (ok__law_draw T) (takes_of rfl rfl rfl rfl) (hr.mono (by decide)) rfl T.g__law_draw T.F__law_draw.kp T.b__law_draw (ja_cons (je_var 0) (ja_cons je_int ja_nil)))) ja_nil)))))
theorem ok__law_steps (T : Txt K mg) : FnOk P w K mg base (L2.CX P w) 1 T.a__law_steps T.d__law_steps P__law_steps (spF K mg f_law_steps) := by
  refine fn_ok T.F__law_steps sc__law_steps fun cdv A outer s H E hr => ?_
  exact (jb_cons (js_set 2 je_int sc__law_steps.nd)
  (jb_cons (js_set 3 (je_bin op_add1 snd_add (je_lc (own := [("one", 7)]) rfl sc__law_steps.nd (pi_seq (je_var 1)) (fun _ _ _ h => t_SeqI h) (blkOk_by (N := N__law_steps) (sc := defScope s__law_steps) (own := [("one", 7)]) (by decide +kernel)) (by decide) (by decide) (fun _ _ _ _ _ => (pg_name (i := 7) sc__law_steps.nd rfl (by first | exact Or.inl rfl | exact Or.inr rfl) (by first | exact .inl rfl | exact .inr rfl))) sg_nm (fun _ _ _ _ _ => (je_fz (je_bin op_add1 snd_add (je_var 2) (je_var 7))))) (je_lst (ja_cons (je_fz (je_bin op_add1 snd_add (je_var 2) (je_ix (je_var 0) je_int))) ja_nil))) sc__law_steps.nd)
  (jb_cons (js_set 4 (je_var 3) sc__law_steps.nd)
  (jb_cons (js_if (jt_cmp (op_inD (hu65 hr)) snd_in (je_bin op_sub snd_sub (je_var 2) (je_ix (je_var 0) je_int)) (je_sl (je_var 3) jo_none (jo_some (je_un un_neg snd_neg je_int)))) (jb_one (js_set 4 (je_lst (ja_cons (je_bin op_sub snd_sub (je_var 2) (je_ix (je_var 0) je_int)) ja_nil)) sc__law_steps.nd)) jb_nil)
  (jb_cons (js_set 5 (je_lst ja_nil) sc__law_steps.nd)
  (jb_cons (js_for (passes_of rfl) rfl (pi_seq (je_var 4)) (fun _ _ _ h => t_SeqI h) (pg_name (i := 6) sc__law_steps.nd rfl (by first | exact Or.inl rfl | exact Or.inr rfl) (by first | exact .inl rfl | exact .inr rfl)) sg_nm (jb_one (js_expr (je_mut 5 PySem.F.slot_list_append PySem.F.type_list_append mt_append sm_append (ja_cons (je_fz (je_tup (ja_cons (je_bin op_sub snd_sub (je_var 6) (je_var 2)) (ja_cons (je_fz (je_callTy call_tuple_of snd_tuple rfl T.m_tuple rfl (ja_cons (je_lcIf (own := [("one", 7)]) rfl sc__law_steps.nd (pi_seq (je_var 3)) (fun _ _ _ h => t_SeqI h) (blkOk_by (N := N__law_steps) (sc := defScope s__law_steps) (own := [("one", 7)]) (by decide +kernel)) (by decide) (by decide) (fun _ _ _ _ _ => (pg_name (i := 7) sc__law_steps.nd rfl (by first | exact Or.inl rfl | exact Or.inr rfl) (by first | exact .inl rfl | exact .inr rfl))) sg_nm (fun _ _ _ _ _ => (jt_cmp (op_ne1 (hu65 hr)) snd_ne (je_var 7) (je_var 6))) (fun _ _ _ _ _ => (je_bin op_sub snd_sub (je_bin op_sub snd_sub (je_var 7) (je_var 2)) je_int))) ja_nil))) ja_nil)))) ja_nil)))))
  (jb_one (js_ret (je_var 5)))))))))
theorem ok__law_rows (T : Txt K mg) : FnOk P w K mg base (L2.CX P w) 2 T.a__law_rows T.d__law_rows P__law_rows (spF K mg f_law_rows) := by
  refine fn_ok T.F__law_rows sc__law_rows fun cdv A outer s H E hr => ?_
  exact (jb_cons (js_set 3 (je_lst (ja_cons (je_var 1) ja_nil)) sc__law_rows.nd)
  (jb_cons (js_for (passes_of rfl) rfl (pi_range1 rfl T.m_range (ja_cons (je_var 2) ja_nil)) (fun _ _ _ h => t_Rg1 h) (pg_name (i := 4) sc__law_rows.nd rfl (by first | exact Or.inl rfl | exact Or.inr rfl) (by first | exact .inl rfl | exact .inr rfl)) sg_nm (jb_cons (js_set 5 (je_lst ja_nil) sc__law_rows.nd)
  (jb_cons (js_for (passes_of rfl) rfl (pi_seq (je_var 3)) (fun _ _ _ h => t_SeqI h) (pg_name (i := 6) sc__law_rows.nd rfl (by first | exact Or.inl rfl | exact Or.inr rfl) (by first | exact .inl rfl | exact .inr rfl)) sg_nm (jb_one (js_expr (je_mut 5 PySem.F.slot_list_extend PySem.F.type_list_extend mt_extend sm_extend (ja_cons (je_lc (own := [("put", 7), ("behind", 8)]) rfl sc__law_rows.nd (pi_seq (je_call (ok__law_steps T) (takes_of rfl rfl rfl rfl) (hr.mono (by decide)) rfl T.g__law_steps T.F__law_steps.kp T.b__law_steps (ja_cons (je_var 0) (ja_cons (je_var 6) ja_nil)))) (fun _ _ _ h => t_SeqI h) (blkOk_by (N := N__law_rows) (sc := defScope s__law_rows) (own := [("put", 7), ("behind", 8)]) (by decide +kernel)) (by decide) (by decide) (fun _ _ _ _ _ => (pg_tup rfl (pgs_cons (pg_name (i := 7) sc__law_rows.nd rfl (by first | exact Or.inl rfl | exact Or.inr rfl) (by first | exact .inl rfl | exact .inr rfl)) (pgs_cons (pg_name (i := 8) sc__law_rows.nd rfl (by first | exact Or.inl rfl | exact Or.inr rfl) (by first | exact .inl rfl | exact .inr rfl)) pgs_nil)))) (sg_tp (sgs_cons (sgs_cons sgs_nil)) rfl) (fun _ _ _ _ _ => (je_var 8))) ja_nil)))))
  (jb_one (js_set 3 (je_var 5) sc__law_rows.nd)))))
  (jb_one (js_ret (je_var 3)))))
theorem ok__law_stands (T : Txt K mg) : FnOk P w K mg base (L2.CX P w) 1 T.a__law_stands T.d__law_stands P__law_stands (spF K mg f_law_stands) := by
  refine fn_ok T.F__law_stands sc__law_stands fun cdv A outer s H E hr => ?_
  exact (jb_cons (js_set 1 (je_lst (ja_cons (je_tup ja_nil) ja_nil)) sc__law_stands.nd)
  (jb_cons (js_for (passes_of rfl) rfl (pi_range1 rfl T.m_range (ja_cons (je_ix (je_var 0) je_int) ja_nil)) (fun _ _ _ h => t_Rg1 h) (pg_name (i := 2) sc__law_stands.nd rfl (by first | exact Or.inl rfl | exact Or.inr rfl) (by first | exact .inl rfl | exact .inr rfl)) sg_nm (jb_cons (js_set 3 (je_lst ja_nil) sc__law_stands.nd)
  (jb_cons (js_for (passes_of rfl) rfl (pi_seq (je_var 1)) (fun _ _ _ h => t_SeqI h) (pg_name (i := 4) sc__law_stands.nd rfl (by first | exact Or.inl rfl | exact Or.inr rfl) (by first | exact .inl rfl | exact .inr rfl)) sg_nm (jb_one (js_for (passes_of rfl) rfl (pi_range2 rfl T.m_range (ja_cons (je_bin op_add1 snd_add (je_ix (je_bin op_add1 snd_add (je_sl (je_var 4) (jo_some (je_un un_neg snd_neg je_int)) jo_none) (je_tup (ja_cons (je_bin op_sub snd_sub (je_bin op_sub snd_sub je_int (je_ix (je_var 0) je_int)) je_int) ja_nil))) je_int) je_int) (ja_cons (je_ix (je_var 0) je_int) ja_nil))) (fun _ _ _ h => t_Rg2 h) (pg_name (i := 5) sc__law_stands.nd rfl (by first | exact Or.inl rfl | exact Or.inr rfl) (by first | exact .inl rfl | exact .inr rfl)) sg_nm (jb_one (js_expr (je_mut 3 PySem.F.slot_list_append PySem.F.type_list_append mt_append sm_append (ja_cons (je_fz (je_bin op_add1 snd_add (je_var 4) (je_tup (ja_cons (je_var 5) ja_nil)))) ja_nil)))))))
  (jb_one (js_set 1 (je_var 3) sc__law_stands.nd)))))
  (jb_one (js_ret (je_callB (cr_sortA rfl) snd_sortA rfl T.m_sorted rfl (ja_cons (je_var 1) ja_nil))))))
theorem ok__law_table (T : Txt K mg) : FnOk P w K mg base (L2.CX P w) 2 T.a__law_table T.d__law_table P__law_table (spF K mg f_law_table) := by
  refine fn_ok T.F__law_table sc__law_table fun cdv A outer s H E hr => ?_
  exact (jb_cons (js_set 3 (je_call (ok__law_stands T) (takes_of rfl rfl rfl rfl) (hr.mono (by decide)) rfl T.g__law_stands T.F__law_stands.kp T.b__law_stands (ja_cons (je_var 0) ja_nil)) sc__law_table.nd)
  (jb_cons (js_set 4 (je_callTy (call_dictT rfl (hu65 hr)) snd_dictT rfl T.m_dict rfl (ja_cons (je_lc (own := [("stand", 7)]) rfl sc__law_table.nd (pi_seq (je_var 3)) (fun _ _ _ h => t_SeqI h) (blkOk_by (N := N__law_table) (sc := defScope s__law_table) (own := [("stand", 7)]) (by decide +kernel)) (by decide) (by decide) (fun _ _ _ _ _ => (pg_name (i := 7) sc__law_table.nd rfl (by first | exact Or.inl rfl | exact Or.inr rfl) (by first | exact .inl rfl | exact .inr rfl))) sg_nm (fun _ _ _ _ _ => (je_tup (ja_cons (je_var 7) (ja_cons (je_callTy call_int1 snd_int rfl T.m_int rfl (ja_cons (je_cmp (op_eq1 (hu65 hr)) snd_eq (je_var 7) (je_var 1)) ja_nil)) ja_nil))))) ja_nil)) sc__law_table.nd)
  (jb_cons (js_for (passes_of rfl) rfl (pi_range1 rfl T.m_range (ja_cons (je_var 2) ja_nil)) (fun _ _ _ h => t_Rg1 h) (pg_name (i := 5) sc__law_table.nd rfl (by first | exact Or.inl rfl | exact Or.inr rfl) (by first | exact .inl rfl | exact .inr rfl)) sg_nm (jb_cons (js_set 6 je_dnewT sc__law_table.nd)
  (jb_cons (js_for (passes_of rfl) rfl (pi_seq (je_var 3)) (fun _ _ _ h => t_SeqI h) (pg_name (i := 7) sc__law_table.nd rfl (by first | exact Or.inl rfl | exact Or.inr rfl) (by first | exact .inl rfl | exact .inr rfl)) sg_nm (jb_one (js_asgG (je_callB (cr_sum rfl) snd_sum rfl T.m_sum rfl (ja_cons (je_lc (own := [("put", 8), ("behind", 9)]) rfl sc__law_table.nd (pi_seq (je_call (ok__law_steps T) (takes_of rfl rfl rfl rfl) (hr.mono (by decide)) rfl T.g__law_steps T.F__law_steps.kp T.b__law_steps (ja_cons (je_var 0) (ja_cons (je_var 7) ja_nil)))) (fun _ _ _ h => t_SeqI h) (blkOk_by (N := N__law_table) (sc := defScope s__law_table) (own := [("put", 8), ("behind", 9)]) (by decide +kernel)) (by decide) (by decide) (fun _ _ _ _ _ => (pg_tup rfl (pgs_cons (pg_name (i := 8) sc__law_table.nd rfl (by first | exact Or.inl rfl | exact Or.inr rfl) (by first | exact .inl rfl | exact .inr rfl)) (pgs_cons (pg_name (i := 9) sc__law_table.nd rfl (by first | exact Or.inl rfl | exact Or.inr rfl) (by first | exact .inl rfl | exact .inr rfl)) pgs_nil)))) (sg_tp (sgs_cons (sgs_cons sgs_nil)) rfl) (fun _ _ _ _ _ => (je_ixA (hu2 hr) (je_var 4) (je_var 9)))) ja_nil)) (jg_db 6 (hu2 hr) (je_var 7)))))
  (jb_one (js_set 4 (je_var 6) sc__law_table.nd)))))
  (jb_one (js_ret (je_var 4))))))
theorem ok__law_well (T : Txt K mg) : FnOk P w K mg base (L2.CX P w) 1 T.a__law_well T.d__law_well P__law_well (spF K mg f_law_well) := by
  refine fn_ok T.F__law_well sc__law_well fun cdv A outer s H E hr => ?_
  exact (jb_cons (js_if (jt_cmp op_ge snd_ge (je_var 0) (je_bin op_pow snd_pow je_int je_int)) (jb_one (js_ret (je_lst (ja_cons (je_var 0) (ja_cons (je_bin op_mod snd_mod (je_var 0) je_int) ja_nil))))) jb_nil)
  (jb_one (js_ret (je_lst (ja_cons je_int (ja_cons (je_bin op_mod snd_mod (je_var 0) je_int) ja_nil))))))
theorem ok_is_whole_stands (T : Txt K mg) : FnOk P w K mg base (L2.CX P w) 1 T.a_is_whole_stands T.d_is_whole_stands P_is_whole_stands (spF K mg f_is_whole_stands) := by
  refine fn_ok T.F_is_whole_stands sc_is_whole_stands fun cdv A outer s H E hr => ?_
  exact (jb_one (js_ret (je_and (je_callB call_isi snd_isi rfl T.m_isinstance rfl (ja_cons (je_var 0) (ja_cons (je_bltn rfl T.m_int rfl) ja_nil))) (je_and (je_not (je_callB call_isi snd_isi rfl T.m_isinstance rfl (ja_cons (je_var 0) (ja_cons (je_bltn rfl T.m_bool rfl) ja_nil)))) (je_one (je_chain op_le op_le sb_C2 snd_le (je_var 1) (je_var 0) (je_var 2)))))))
theorem ok_need_many (T : Txt K mg) : FnOk P w K mg base (L2.CX P w) 2 T.a_need_many T.d_need_many P_need_many (spF K mg f_need_many) := by
  refine fn_ok T.F_need_many sc_need_many fun cdv A outer s H E hr => ?_
  exact (jb_one (js_if (jt_not (jt_val (je_call (ok_is_whole_stands T) (takes_of rfl rfl rfl rfl) (hr.mono (by decide)) rfl T.g_is_whole_stands T.F_is_whole_stands.kp T.b_is_whole_stands (ja_cons (je_var 0) (ja_cons je_int (ja_cons (je_glob (v := .int 40) rfl T.k_MOST_THINGS ⟨_, rfl⟩ fun _ _ => .int _) ja_nil)))))) (jb_one (js_raise rfl (takes_of rfl rfl rfl rfl) T.x_NoNumber T.g_NoNumber T.p_NoNumber (raises_own T.r_NoNumber T.y_NoNumber) rfl)) jb_nil))
theorem ok_is_whole (T : Txt K mg) : FnOk P w K mg base (L2.CX P w) 1 T.a_is_whole T.d_is_whole P_is_whole (spF K mg f_is_whole) := by
  refine fn_ok T.F_is_whole sc_is_whole fun cdv A outer s H E hr => ?_
  exact (jb_one (js_ret (je_and (je_callB call_isi snd_isi rfl T.m_isinstance rfl (ja_cons (je_var 0) (ja_cons (je_bltn rfl T.m_int rfl) ja_nil))) (je_and (je_not (je_callB call_isi snd_isi rfl T.m_isinstance rfl (ja_cons (je_var 0) (ja_cons (je_bltn rfl T.m_bool rfl) ja_nil)))) (je_one (je_chain op_le op_le sb_C2 snd_le (je_var 1) (je_var 0) (je_var 2)))))))
theorem ok_is_reach (T : Txt K mg) : FnOk P w K mg base (L2.CX P w) 2 T.a_is_reach T.d_is_reach P_is_reach (spF K mg f_is_reach) := by
  refine fn_ok T.F_is_reach sc_is_reach fun cdv A outer s H E hr => ?_
  exact (jb_cons (js_if (jt_bool (jw_or (jt_not (jt_val (je_callB call_isi snd_isi rfl T.m_isinstance rfl (ja_cons (je_var 0) (ja_cons (je_bltn rfl T.m_tuple rfl) ja_nil))))) (jw_or1 (jt_cmp (op_ne1 (hu65 hr)) snd_ne (je_callB call_len snd_len rfl T.m_len rfl (ja_cons (je_var 0) ja_nil)) je_int)))) (jb_one (js_ret je_bl)) jb_nil)
  (jb_one (js_ret (je_and (je_call (ok_is_whole T) (takes_of rfl rfl rfl rfl) (hr.mono (by decide)) rfl T.g_is_whole_orders T.F_is_whole.kp T.b_is_whole (ja_cons (je_ix (je_var 0) je_int) (ja_cons je_int (ja_cons (je_glob (v := .int 3) rfl T.k_MOST_REACH ⟨_, rfl⟩ fun _ _ => .int _) ja_nil)))) (je_one (je_call (ok_is_whole T) (takes_of rfl rfl rfl rfl) (hr.mono (by decide)) rfl T.g_is_whole_orders T.F_is_whole.kp T.b_is_whole (ja_cons (je_ix (je_var 0) je_int) (ja_cons je_int (ja_cons (je_glob (v := .int 3) rfl T.k_MOST_REACH ⟨_, rfl⟩ fun _ _ => .int _) ja_nil)))))))))
theorem ok_need_reach (T : Txt K mg) : FnOk P w K mg base (L2.CX P w) 3 T.a_need_reach T.d_need_reach P_need_reach (spF K mg f_need_reach) := by
  refine fn_ok T.F_need_reach sc_need_reach fun cdv A outer s H E hr => ?_
  exact (jb_one (js_if (jt_not (jt_val (je_call (ok_is_reach T) (takes_of rfl rfl rfl rfl) (hr.mono (by decide)) rfl T.g_is_reach T.F_is_reach.kp T.b_is_reach (ja_cons (je_var 0) ja_nil)))) (jb_one (js_raise rfl (takes_of rfl rfl rfl rfl) T.x_NoReach T.g_NoReach T.p_NoReach (raises_own T.r_NoReach T.y_NoReach) rfl)) jb_nil))
theorem ok_first_stand (T : Txt K mg) : FnOk P w K mg base (L2.CX P w) 1 T.a_first_stand T.d_first_stand P_first_stand (spF K mg f_first_stand) := by
  refine fn_ok T.F_first_stand sc_first_stand fun cdv A outer s H E hr => ?_
  exact (jb_one (js_ret (je_tupRg1 rfl rfl T.m_tuple rfl T.m_range (je_ix (je_var 0) je_int))))
theorem ok_puts_of (T : Txt K mg) : FnOk P w K mg base (L2.CX P w) 1 T.a_puts_of T.d_puts_of P_puts_of (spF K mg f_puts_of) := by
  refine fn_ok T.F_puts_of sc_puts_of fun cdv A outer s H E hr => ?_
  exact (jb_cons (js_asgG (je_var 0) (jg_tp rfl (jgs_cons (jg_nm 2 sc_puts_of.nd) (jgs_cons (jg_nm 3 sc_puts_of.nd) jgs_nil))))
  (jb_cons (js_if (jt_cmp (op_eq1 (hu65 hr)) snd_eq (je_sl (je_var 1) jo_none (jo_some je_int)) (je_tup (ja_cons (je_bin op_sub snd_sub je_int (je_var 3)) ja_nil))) (jb_one (js_ret (je_lst (ja_cons (je_ix (je_var 1) je_int) ja_nil)))) jb_nil)
  (jb_one (js_ret (je_bin op_add1 snd_add (je_callTy call_list_of snd_list rfl T.m_list rfl (ja_cons (je_var 1) ja_nil)) (je_lst (ja_cons (je_var 2) ja_nil)))))))
theorem ok_step_behind (T : Txt K mg) : FnOk P w K mg base (L2.CX P w) 1 T.a_step_behind T.d_step_behind P_step_behind (spF K mg f_step_behind) := by
  refine fn_ok T.F_step_behind sc_step_behind fun cdv A outer s H E hr => ?_
  exact (jb_one (js_ret (je_callTy call_tuple_of snd_tuple rfl T.m_tuple rfl (ja_cons (je_lcIf (own := [("one", 3)]) rfl sc_step_behind.nd (pi_seq (je_bin op_add1 snd_add (je_var 1) (je_tup (ja_cons (je_ix (je_var 0) je_int) ja_nil)))) (fun _ _ _ h => t_SeqI h) (blkOk_by (N := N_step_behind) (sc := defScope s_step_behind) (own := [("one", 3)]) (by decide +kernel)) (by decide) (by decide) (fun _ _ _ _ _ => (pg_name (i := 3) sc_step_behind.nd rfl (by first | exact Or.inl rfl | exact Or.inr rfl) (by first | exact .inl rfl | exact .inr rfl))) sg_nm (fun _ _ _ _ _ => (jt_cmp (op_ne1 (hu65 hr)) snd_ne (je_var 3) (je_var 2))) (fun _ _ _ _ _ => (je_bin op_sub snd_sub (je_var 3) je_int))) ja_nil))))
theorem ok_found_stands (T : Txt K mg) : FnOk P w K mg base (L2.CX P w) 2 T.a_found_stands T.d_found_stands P_found_stands (spF K mg f_found_stands) := by
  refine fn_ok T.F_found_stands sc_found_stands fun cdv A outer s H E hr => ?_
  exact (jb_cons (js_set 1 (je_dispT (hu2 hr) (jp_cons (je_fz (je_call (ok_first_stand T) (takes_of rfl rfl rfl rfl) (hr.mono (by decide)) rfl T.g_first_stand T.F_first_stand.kp T.b_first_stand (ja_cons (je_var 0) ja_nil))) je_bl jp_nil)) sc_found_stands.nd)
  (jb_cons (js_set 2 (je_lst (ja_cons (je_fz (je_call (ok_first_stand T) (takes_of rfl rfl rfl rfl) (hr.mono (by decide)) rfl T.g_first_stand T.F_first_stand.kp T.b_first_stand (ja_cons (je_var 0) ja_nil))) ja_nil)) sc_found_stands.nd)
  (jb_cons (js_while 100000 (passes_of rfl) (jt_cmp (op_ne1 (hu65 hr)) snd_ne (je_var 2) (je_lst ja_nil)) (jb_cons (js_set 3 (je_mut0 2 PySem.F.slot_list_pop PySem.F.type_list_pop mt_pop sm_pop) sc_found_stands.nd)
  (jb_one (js_for (passes_of rfl) rfl (pi_seq (je_call (ok_puts_of T) (takes_of rfl rfl rfl rfl) (hr.mono (by decide)) rfl T.g_puts_of T.F_puts_of.kp T.b_puts_of (ja_cons (je_var 0) (ja_cons (je_var 3) ja_nil)))) (fun _ _ _ h => t_SeqI h) (pg_name (i := 4) sc_found_stands.nd rfl (by first | exact Or.inl rfl | exact Or.inr rfl) (by first | exact .inl rfl | exact .inr rfl)) sg_nm (jb_cons (js_set 5 (je_call (ok_step_behind T) (takes_of rfl rfl rfl rfl) (hr.mono (by decide)) rfl T.g_step_behind T.F_step_behind.kp T.b_step_behind (ja_cons (je_var 0) (ja_cons (je_var 3) (ja_cons (je_var 4) ja_nil)))) sc_found_stands.nd)
  (jb_one (js_if (jt_cmp (op_notInA hr) snd_notInA (je_var 5) (je_var 1)) (jb_cons (js_asgG je_bl (jg_db 1 (hu2 hr) (je_var 5)))
  (jb_one (js_expr (je_mut 2 PySem.F.slot_list_append PySem.F.type_list_append mt_append sm_append (ja_cons (je_var 5) ja_nil))))) jb_nil)))))))
  (jb_one (js_ret (je_callB (cr_sortA rfl) snd_sortA rfl T.m_sorted rfl (ja_cons (je_var 1) ja_nil)))))))
theorem ok_need_stand (T : Txt K mg) : FnOk P w K mg base (L2.CX P w) 3 T.a_need_stand T.d_need_stand P_need_stand (spF K mg f_need_stand) := by
  refine fn_ok T.F_need_stand sc_need_stand fun cdv A outer s H E hr => ?_
  exact (jb_cons (js_asgG (je_var 0) (jg_tp rfl (jgs_cons (jg_nm 2 sc_need_stand.nd) (jgs_cons (jg_nm 3 sc_need_stand.nd) jgs_nil))))
  (jb_cons (js_if (jt_bool (jw_or (jt_not (jt_val (je_callB call_isi snd_isi rfl T.m_isinstance rfl (ja_cons (je_var 1) (ja_cons (je_bltn rfl T.m_tuple rfl) ja_nil))))) (jw_or1 (jt_cmp (op_ne1 (hu65 hr)) snd_ne (je_lcIf (own := [("one", 4)]) rfl sc_need_stand.nd (pi_seq (je_var 1)) (fun _ _ _ h => t_SeqI h) (blkOk_by (N := N_need_stand) (sc := defScope s_need_stand) (own := [("one", 4)]) (by decide +kernel)) (by decide) (by decide) (fun _ _ _ _ _ => (pg_name (i := 4) sc_need_stand.nd rfl (by first | exact Or.inl rfl | exact Or.inr rfl) (by first | exact .inl rfl | exact .inr rfl))) sg_nm (fun _ _ _ _ _ => (jt_not (jt_val (je_call (ok_is_whole_stands T) takes0 (hr.mono (by decide)) rfl T.g_is_whole_stands T.F_is_whole_stands.kp T.b_is_whole_stands (ja_cons (je_var 4) (ja_cons (je_bin op_sub snd_sub je_int (je_var 3)) (ja_cons (je_bin op_sub snd_sub (je_var 2) je_int) ja_nil))))))) (fun _ _ _ _ _ => (je_var 4))) (je_lst ja_nil))))) (jb_one (js_raise rfl (takes_of rfl rfl rfl rfl) T.x_NoStand T.g_NoStand T.p_NoStand (raises_own T.r_NoStand T.y_NoStand) rfl)) jb_nil)
  (jb_one (js_if (jt_cmp (op_notInD (hu65 hr)) snd_notIn (je_var 1) (je_call (ok_found_stands T) (takes_of rfl rfl rfl rfl) (hr.mono (by decide)) rfl T.g_found_stands T.F_found_stands.kp T.b_found_stands (ja_cons (je_var 0) ja_nil))) (jb_one (js_raise rfl (takes_of rfl rfl rfl rfl) T.x_NoStand T.g_NoStand T.p_NoStand (raises_own T.r_NoStand T.y_NoStand) rfl)) jb_nil))))
theorem ok_ways_of (T : Txt K mg) : FnOk P w K mg base (L2.CX P w) 2 T.a_ways_of T.d_ways_of P_ways_of (spF K mg f_ways_of) := by
  refine fn_ok T.F_ways_of sc_ways_of fun cdv A outer s H E hr => ?_
  exact (jb_cons (js_set 3 (je_dispT (hu2 hr) (jp_cons (je_var 1) je_int jp_nil)) sc_ways_of.nd)
  (jb_cons (js_for (passes_of rfl) rfl (pi_range1 rfl T.m_range (ja_cons (je_var 2) ja_nil)) (fun _ _ _ h => t_Rg1 h) (pg_name (i := 4) sc_ways_of.nd rfl (by first | exact Or.inl rfl | exact Or.inr rfl) (by first | exact .inl rfl | exact .inr rfl)) sg_nm (jb_cons (js_set 5 je_dnewT sc_ways_of.nd)
  (jb_cons (js_forP 3 (passes_of rfl) rfl (pg_tup rfl (pgs_cons (pg_name (i := 6) sc_ways_of.nd rfl (by first | exact Or.inl rfl | exact Or.inr rfl) (by first | exact .inl rfl | exact .inr rfl)) (pgs_cons (pg_name (i := 7) sc_ways_of.nd rfl (by first | exact Or.inl rfl | exact Or.inr rfl) (by first | exact .inl rfl | exact .inr rfl)) pgs_nil))) (sg_tp (sgs_cons (sgs_cons sgs_nil)) rfl) (jb_one (js_for (passes_of rfl) rfl (pi_seq (je_call (ok_puts_of T) (takes_of rfl rfl rfl rfl) (hr.mono (by decide)) rfl T.g_puts_of T.F_puts_of.kp T.b_puts_of (ja_cons (je_var 0) (ja_cons (je_var 6) ja_nil)))) (fun _ _ _ h => t_SeqI h) (pg_name (i := 8) sc_ways_of.nd rfl (by first | exact Or.inl rfl | exact Or.inr rfl) (by first | exact .inl rfl | exact .inr rfl)) sg_nm (jb_cons (js_set 9 (je_call (ok_step_behind T) (takes_of rfl rfl rfl rfl) (hr.mono (by decide)) rfl T.g_step_behind T.F_step_behind.kp T.b_step_behind (ja_cons (je_var 0) (ja_cons (je_var 6) (ja_cons (je_var 8) ja_nil)))) sc_ways_of.nd)
  (jb_one (js_asgG (je_fz (je_bin op_add1 snd_add (je_dget (hu2 hr) (je_var 5) (je_var 9) je_int) (je_var 7))) (jg_db 5 (hu2 hr) (je_var 9))))))))
  (jb_one (js_set 3 (je_var 5) sc_ways_of.nd)))))
  (jb_one (js_ret (je_var 3)))))
theorem ok_ways_between (T : Txt K mg) : FnOk P w K mg base (L2.CX P w) 4 T.a_ways_between T.d_ways_between P_ways_between (spF K mg f_ways_between) := by
  refine fn_ok T.F_ways_between sc_ways_between fun cdv A outer s H E hr => ?_
  exact (jb_cons (js_expr (je_call (ok_need_reach T) (takes_of rfl rfl rfl rfl) (hr.mono (by decide)) rfl T.g_need_reach T.F_need_reach.kp T.b_need_reach (ja_cons (je_var 0) ja_nil)))
  (jb_cons (js_expr (je_call (ok_need_stand T) (takes_of rfl rfl rfl rfl) (hr.mono (by decide)) rfl T.g_need_stand T.F_need_stand.kp T.b_need_stand (ja_cons (je_var 0) (ja_cons (je_var 1) ja_nil))))
  (jb_cons (js_expr (je_call (ok_need_stand T) (takes_of rfl rfl rfl rfl) (hr.mono (by decide)) rfl T.g_need_stand T.F_need_stand.kp T.b_need_stand (ja_cons (je_var 0) (ja_cons (je_var 2) ja_nil))))
  (jb_cons (js_expr (je_call (ok_need_many T) (takes_of rfl rfl rfl rfl) (hr.mono (by decide)) rfl T.g_need_many T.F_need_many.kp T.b_need_many (ja_cons (je_var 3) ja_nil)))
  (jb_one (js_ret (je_dget (hu2 hr) (je_call (ok_ways_of T) (takes_of rfl rfl rfl rfl) (hr.mono (by decide)) rfl T.g_ways_of T.F_ways_of.kp T.b_ways_of (ja_cons (je_var 0) (ja_cons (je_var 1) (ja_cons (je_var 3) ja_nil)))) (je_var 2) je_int)))))))
theorem ok_law (T : Txt K mg) : FnOk P w K mg base (L2.CX P w) 5 T.a_law T.d_law P_law (spF K mg f_law) := by
  refine fn_ok T.F_law sc_law fun cdv A outer s H E hr => ?_
  exact (jb_cons (js_for (passes_of rfl) rfl (pi_seq (je_bin op_add1 snd_add (je_lst (ja_cons je_int (ja_cons je_int ja_nil))) (je_sl (je_var 0) jo_none (jo_some je_int)))) (fun _ _ _ h => t_SeqI h) (pg_name (i := 1) sc_law.nd rfl (by first | exact Or.inl rfl | exact Or.inr rfl) (by first | exact .inl rfl | exact .inr rfl)) sg_nm (jb_cons (js_set 2 (je_call (ok__law_well T) (takes_of rfl rfl rfl rfl) (hr.mono (by decide)) rfl T.g__law_well T.F__law_well.kp T.b__law_well (ja_cons (je_var 1) ja_nil)) sc_law.nd)
  (jb_cons (js_set 3 (je_call (ok__law_reach T) (takes_of rfl rfl rfl rfl) (hr.mono (by decide)) rfl T.g__law_reach T.F__law_reach.kp T.b__law_reach (ja_cons (je_var 2) ja_nil)) sc_law.nd)
  (jb_cons (js_set 4 (je_call (ok__law_stands T) (takes_of rfl rfl rfl rfl) (hr.mono (by decide)) rfl T.g__law_stands T.F__law_stands.kp T.b__law_stands (ja_cons (je_var 3) ja_nil)) sc_law.nd)
  (jb_cons (js_asgG (je_lc (own := [("k", 14)]) rfl sc_law.nd (pi_range1 rfl T.m_range (ja_cons je_int ja_nil)) (fun _ _ _ h => t_Rg1 h) (blkOk_by (N := N_law) (sc := defScope s_law) (own := [("k", 14)]) (by decide +kernel)) (by decide) (by decide) (fun _ _ _ _ _ => (pg_name (i := 14) sc_law.nd rfl (by first | exact Or.inl rfl | exact Or.inr rfl) (by first | exact .inl rfl | exact .inr rfl))) sg_nm (fun _ _ _ _ _ => (je_ixA (hu2 hr) (je_var 4) (je_call (ok__law_draw T) takes0 (hr.mono (by decide)) rfl T.g__law_draw T.F__law_draw.kp T.b__law_draw (ja_cons (je_var 2) (ja_cons (je_callB call_lenA snd_lenA rfl T.m_len rfl (ja_cons (je_var 4) ja_nil)) ja_nil)))))) (jg_un rfl (jgs_cons (jg_nm 5 sc_law.nd) (jgs_cons (jg_nm 6 sc_law.nd) jgs_nil))))
  (jb_cons (js_set 7 (je_ixA (hu2 hr) (je_lst (ja_cons (je_fz (je_call (ok__law_draw T) (takes_of rfl rfl rfl rfl) (hr.mono (by decide)) rfl T.g__law_draw T.F__law_draw.kp T.b__law_draw (ja_cons (je_var 2) (ja_cons je_int ja_nil)))) (ja_cons (je_fz (je_call (ok__law_draw T) (takes_of rfl rfl rfl rfl) (hr.mono (by decide)) rfl T.g__law_draw T.F__law_draw.kp T.b__law_draw (ja_cons (je_var 2) (ja_cons je_int ja_nil)))) (ja_cons je_int ja_nil)))) (je_call (ok__law_draw T) (takes_of rfl rfl rfl rfl) (hr.mono (by decide)) rfl T.g__law_draw T.F__law_draw.kp T.b__law_draw (ja_cons (je_var 2) (ja_cons je_int ja_nil)))) sc_law.nd)
  (jb_cons (js_set 8 (je_ixA (hu2 hr) (je_call (ok__law_table T) (takes_of rfl rfl rfl rfl) (hr.mono (by decide)) rfl T.g__law_table T.F__law_table.kp T.b__law_table (ja_cons (je_var 3) (ja_cons (je_var 6) (ja_cons (je_var 7) ja_nil)))) (je_var 5)) sc_law.nd)
  (jb_cons (js_if (jt_bool (jw_and (jt_cmp op_lt snd_lt (je_var 7) je_int) (jw_and1 (jt_cmp (op_ne1 (hu65 hr)) snd_ne (je_meth PySem.F.slot_list_count PySem.F.type_list_count (mt_countD (hu65 hr)) smr_cntD (je_call (ok__law_rows T) (takes_of rfl rfl rfl rfl) (hr.mono (by decide)) rfl T.g__law_rows T.F__law_rows.kp T.b__law_rows (ja_cons (je_var 3) (ja_cons (je_var 5) (ja_cons (je_var 7) ja_nil)))) (ja_cons (je_var 6) ja_nil)) (je_var 8))))) (jb_one (js_ret je_bl)) jb_nil)
  (jb_cons (js_for (passes_of rfl) rfl (pi_range1 rfl T.m_range (ja_cons je_int ja_nil)) (fun _ _ _ h => t_Rg1 h) (pg_name (i := 9) sc_law.nd rfl (by first | exact Or.inl rfl | exact Or.inr rfl) (by first | exact .inl rfl | exact .inr rfl)) sg_nm (jb_cons (js_set 10 (je_call (ok_ways_between T) (takes_of rfl rfl rfl rfl) (hr.mono (by decide)) rfl T.g_ways_between T.F_ways_between.kp T.b_ways_between (ja_cons (je_var 3) (ja_cons (je_var 5) (ja_cons (je_var 6) (ja_cons (je_var 7) ja_nil))))) sc_law.nd)
  (jb_one (js_if (jt_bool (jw_or (jt_not (jt_val (je_callB call_isi snd_isi rfl T.m_isinstance rfl (ja_cons (je_var 10) (ja_cons (je_bltn rfl T.m_int rfl) ja_nil))))) (jw_or (jt_val (je_callB call_isi snd_isi rfl T.m_isinstance rfl (ja_cons (je_var 10) (ja_cons (je_bltn rfl T.m_bool rfl) ja_nil)))) (jw_or1 (jt_cmp (op_ne1 (hu65 hr)) snd_ne (je_var 10) (je_var 8)))))) (jb_one (js_ret je_bl)) jb_nil))))
  (jb_cons (js_set 11 (je_call (ok__law_draw T) (takes_of rfl rfl rfl rfl) (hr.mono (by decide)) rfl T.g__law_draw T.F__law_draw.kp T.b__law_draw (ja_cons (je_var 2) (ja_cons (je_bin op_add1 snd_add (je_var 7) je_int) ja_nil))) sc_law.nd)
  (jb_cons (js_set 12 (je_lst ja_nil) sc_law.nd)
  (jb_cons (js_for (passes_of rfl) rfl (pi_seq (je_var 4)) (fun _ _ _ h => t_SeqI h) (pg_name (i := 13) sc_law.nd rfl (by first | exact Or.inl rfl | exact Or.inr rfl) (by first | exact .inl rfl | exact .inr rfl)) sg_nm (jb_one (js_expr (je_mut 12 PySem.F.slot_list_append PySem.F.type_list_append mt_append sm_append (ja_cons (je_fz (je_bin op_mul1 snd_mul (je_call (ok_ways_between T) (takes_of rfl rfl rfl rfl) (hr.mono (by decide)) rfl T.g_ways_between T.F_ways_between.kp T.b_ways_between (ja_cons (je_var 3) (ja_cons (je_var 5) (ja_cons (je_var 13) (ja_cons (je_var 11) ja_nil))))) (je_call (ok_ways_between T) (takes_of rfl rfl rfl rfl) (hr.mono (by decide)) rfl T.g_ways_between T.F_ways_between.kp T.b_ways_between (ja_cons (je_var 3) (ja_cons (je_var 13) (ja_cons (je_var 6) (ja_cons (je_bin op_sub snd_sub (je_var 7) (je_var 11)) ja_nil))))))) ja_nil)))))
  (jb_one (js_if (jt_cmp (op_ne1 (hu65 hr)) snd_ne (je_callB (cr_sum rfl) snd_sum rfl T.m_sum rfl (ja_cons (je_var 12) ja_nil)) (je_var 8)) (jb_one (js_ret je_bl)) jb_nil))))))))))))))
  (jb_one (js_ret je_bl)))
end
theorem all_mk {P : Program} {w : World} {K : PySem.W.Frag} {h : Heap} {mg : Mg} {fa : Addr} (X : K.In h) (G : h.Ns mainGlobals mg) (hfa : mg "law" = some (.ref fa))
    {f__law_draw_ f__law_reach_ f__law_steps_ f__law_rows_ f__law_stands_ f__law_table_ f__law_well_ f_is_whole_stands_ f_need_many_ f_is_whole_ f_is_reach_ f_need_reach_ f_first_stand_ f_puts_of_ f_step_behind_ f_found_stands_ f_need_stand_ f_ways_of_ f_ways_between_ f_law_ : Addr}
    {od0 an0 : Option Addr} {sl0 : Array (Option Value)} {oc0 kV0 dc0 pm0 cd0 ct0 : Value}
    {od1 an1 : Option Addr} {sl1 : Array (Option Value)} {oc1 kV1 dc1 pm1 cd1 ct1 : Value}
    {od2 an2 : Option Addr} {sl2 : Array (Option Value)} {oc2 kV2 dc2 pm2 cd2 ct2 : Value}
    {od3 an3 : Option Addr} {sl3 : Array (Option Value)} {oc3 kV3 dc3 pm3 cd3 ct3 : Value}
    {od4 an4 : Option Addr} {sl4 : Array (Option Value)} {oc4 kV4 dc4 pm4 cd4 ct4 : Value}
    {od5 an5 : Option Addr} {sl5 : Array (Option Value)} {oc5 kV5 dc5 pm5 cd5 ct5 : Value}
    {od6 an6 : Option Addr} {sl6 : Array (Option Value)} {oc6 kV6 dc6 pm6 cd6 ct6 : Value}
    {od7 an7 : Option Addr} {sl7 : Array (Option Value)} {oc7 kV7 dc7 pm7 cd7 ct7 : Value}
    {od8 an8 : Option Addr} {sl8 : Array (Option Value)} {oc8 kV8 dc8 pm8 cd8 ct8 : Value}
    {od9 an9 : Option Addr} {sl9 : Array (Option Value)} {oc9 kV9 dc9 pm9 cd9 ct9 : Value}
    {od10 an10 : Option Addr} {sl10 : Array (Option Value)} {oc10 kV10 dc10 pm10 cd10 ct10 : Value}
    {od11 an11 : Option Addr} {sl11 : Array (Option Value)} {oc11 kV11 dc11 pm11 cd11 ct11 : Value}
    {od12 an12 : Option Addr} {sl12 : Array (Option Value)} {oc12 kV12 dc12 pm12 cd12 ct12 : Value}
    {od13 an13 : Option Addr} {sl13 : Array (Option Value)} {oc13 kV13 dc13 pm13 cd13 ct13 : Value}
    {od14 an14 : Option Addr} {sl14 : Array (Option Value)} {oc14 kV14 dc14 pm14 cd14 ct14 : Value}
    {od15 an15 : Option Addr} {sl15 : Array (Option Value)} {oc15 kV15 dc15 pm15 cd15 ct15 : Value}
    {od16 an16 : Option Addr} {sl16 : Array (Option Value)} {oc16 kV16 dc16 pm16 cd16 ct16 : Value}
    {od17 an17 : Option Addr} {sl17 : Array (Option Value)} {oc17 kV17 dc17 pm17 cd17 ct17 : Value}
    {od18 an18 : Option Addr} {sl18 : Array (Option Value)} {oc18 kV18 dc18 pm18 cd18 ct18 : Value}
    {od19 an19 : Option Addr} {sl19 : Array (Option Value)} {oc19 kV19 dc19 pm19 cd19 ct19 : Value}
    (a__law_draw : PySem.W.nsIn K mainGlobals "_law_draw" = some (some (.ref f__law_draw_)))
    (a__law_reach : PySem.W.nsIn K mainGlobals "_law_reach" = some (some (.ref f__law_reach_)))
    (a__law_rows : PySem.W.nsIn K mainGlobals "_law_rows" = some (some (.ref f__law_rows_)))
    (a__law_stands : PySem.W.nsIn K mainGlobals "_law_stands" = some (some (.ref f__law_stands_)))
    (a__law_steps : PySem.W.nsIn K mainGlobals "_law_steps" = some (some (.ref f__law_steps_)))
    (a__law_table : PySem.W.nsIn K mainGlobals "_law_table" = some (some (.ref f__law_table_)))
    (a__law_well : PySem.W.nsIn K mainGlobals "_law_well" = some (some (.ref f__law_well_)))
    (a_first_stand : PySem.W.nsIn K mainGlobals "first_stand" = some (some (.ref f_first_stand_)))
    (a_found_stands : PySem.W.nsIn K mainGlobals "found_stands" = some (some (.ref f_found_stands_)))
    (a_is_reach : PySem.W.nsIn K mainGlobals "is_reach" = some (some (.ref f_is_reach_)))
    (a_is_whole_orders : PySem.W.nsIn K mainGlobals "is_whole_orders" = some (some (.ref f_is_whole_)))
    (a_is_whole_stands : PySem.W.nsIn K mainGlobals "is_whole_stands" = some (some (.ref f_is_whole_stands_)))
    (a_law : PySem.W.nsIn K mainGlobals "law" = some (some (.ref f_law_)))
    (a_need_many : PySem.W.nsIn K mainGlobals "need_many" = some (some (.ref f_need_many_)))
    (a_need_reach : PySem.W.nsIn K mainGlobals "need_reach" = some (some (.ref f_need_reach_)))
    (a_need_stand : PySem.W.nsIn K mainGlobals "need_stand" = some (some (.ref f_need_stand_)))
    (a_puts_of : PySem.W.nsIn K mainGlobals "puts_of" = some (some (.ref f_puts_of_)))
    (a_step_behind : PySem.W.nsIn K mainGlobals "step_behind" = some (some (.ref f_step_behind_)))
    (a_ways_between : PySem.W.nsIn K mainGlobals "ways_between" = some (some (.ref f_ways_between_)))
    (a_ways_of : PySem.W.nsIn K mainGlobals "ways_of" = some (some (.ref f_ways_of_)))
    (l__law_draw : K.lookup f__law_draw_ = some ⟨oc0, od0, .func (PySem.W.fnOf "_law_draw" "_law_draw" (defArgs s__law_draw) (defBody s__law_draw) (defScope s__law_draw) .none kV0 dc0 pm0 an0 cd0 ct0), sl0⟩) (c__law_draw : PySem.W.codeIn K cd0 "_law_draw" = true) (k__law_draw : PySem.W.keepIn K (.ref f__law_draw_) = true)
    (l__law_reach : K.lookup f__law_reach_ = some ⟨oc1, od1, .func (PySem.W.fnOf "_law_reach" "_law_reach" (defArgs s__law_reach) (defBody s__law_reach) (defScope s__law_reach) .none kV1 dc1 pm1 an1 cd1 ct1), sl1⟩) (c__law_reach : PySem.W.codeIn K cd1 "_law_reach" = true) (k__law_reach : PySem.W.keepIn K (.ref f__law_reach_) = true)
    (l__law_steps : K.lookup f__law_steps_ = some ⟨oc2, od2, .func (PySem.W.fnOf "_law_steps" "_law_steps" (defArgs s__law_steps) (defBody s__law_steps) (defScope s__law_steps) .none kV2 dc2 pm2 an2 cd2 ct2), sl2⟩) (c__law_steps : PySem.W.codeIn K cd2 "_law_steps" = true) (k__law_steps : PySem.W.keepIn K (.ref f__law_steps_) = true)
    (l__law_rows : K.lookup f__law_rows_ = some ⟨oc3, od3, .func (PySem.W.fnOf "_law_rows" "_law_rows" (defArgs s__law_rows) (defBody s__law_rows) (defScope s__law_rows) .none kV3 dc3 pm3 an3 cd3 ct3), sl3⟩) (c__law_rows : PySem.W.codeIn K cd3 "_law_rows" = true) (k__law_rows : PySem.W.keepIn K (.ref f__law_rows_) = true)
    (l__law_stands : K.lookup f__law_stands_ = some ⟨oc4, od4, .func (PySem.W.fnOf "_law_stands" "_law_stands" (defArgs s__law_stands) (defBody s__law_stands) (defScope s__law_stands) .none kV4 dc4 pm4 an4 cd4 ct4), sl4⟩) (c__law_stands : PySem.W.codeIn K cd4 "_law_stands" = true) (k__law_stands : PySem.W.keepIn K (.ref f__law_stands_) = true)
    (l__law_table : K.lookup f__law_table_ = some ⟨oc5, od5, .func (PySem.W.fnOf "_law_table" "_law_table" (defArgs s__law_table) (defBody s__law_table) (defScope s__law_table) .none kV5 dc5 pm5 an5 cd5 ct5), sl5⟩) (c__law_table : PySem.W.codeIn K cd5 "_law_table" = true) (k__law_table : PySem.W.keepIn K (.ref f__law_table_) = true)
    (l__law_well : K.lookup f__law_well_ = some ⟨oc6, od6, .func (PySem.W.fnOf "_law_well" "_law_well" (defArgs s__law_well) (defBody s__law_well) (defScope s__law_well) .none kV6 dc6 pm6 an6 cd6 ct6), sl6⟩) (c__law_well : PySem.W.codeIn K cd6 "_law_well" = true) (k__law_well : PySem.W.keepIn K (.ref f__law_well_) = true)
    (l_is_whole_stands : K.lookup f_is_whole_stands_ = some ⟨oc7, od7, .func (PySem.W.fnOf "is_whole" "is_whole" (defArgs s_is_whole_stands) (defBody s_is_whole_stands) (defScope s_is_whole_stands) .none kV7 dc7 pm7 an7 cd7 ct7), sl7⟩) (c_is_whole_stands : PySem.W.codeIn K cd7 "is_whole" = true) (k_is_whole_stands : PySem.W.keepIn K (.ref f_is_whole_stands_) = true)
    (l_need_many : K.lookup f_need_many_ = some ⟨oc8, od8, .func (PySem.W.fnOf "need_many" "need_many" (defArgs s_need_many) (defBody s_need_many) (defScope s_need_many) .none kV8 dc8 pm8 an8 cd8 ct8), sl8⟩) (c_need_many : PySem.W.codeIn K cd8 "need_many" = true) (k_need_many : PySem.W.keepIn K (.ref f_need_many_) = true)
    (l_is_whole : K.lookup f_is_whole_ = some ⟨oc9, od9, .func (PySem.W.fnOf "is_whole" "is_whole" (defArgs s_is_whole) (defBody s_is_whole) (defScope s_is_whole) .none kV9 dc9 pm9 an9 cd9 ct9), sl9⟩) (c_is_whole : PySem.W.codeIn K cd9 "is_whole" = true) (k_is_whole : PySem.W.keepIn K (.ref f_is_whole_) = true)
    (l_is_reach : K.lookup f_is_reach_ = some ⟨oc10, od10, .func (PySem.W.fnOf "is_reach" "is_reach" (defArgs s_is_reach) (defBody s_is_reach) (defScope s_is_reach) .none kV10 dc10 pm10 an10 cd10 ct10), sl10⟩) (c_is_reach : PySem.W.codeIn K cd10 "is_reach" = true) (k_is_reach : PySem.W.keepIn K (.ref f_is_reach_) = true)
    (l_need_reach : K.lookup f_need_reach_ = some ⟨oc11, od11, .func (PySem.W.fnOf "need_reach" "need_reach" (defArgs s_need_reach) (defBody s_need_reach) (defScope s_need_reach) .none kV11 dc11 pm11 an11 cd11 ct11), sl11⟩) (c_need_reach : PySem.W.codeIn K cd11 "need_reach" = true) (k_need_reach : PySem.W.keepIn K (.ref f_need_reach_) = true)
    (l_first_stand : K.lookup f_first_stand_ = some ⟨oc12, od12, .func (PySem.W.fnOf "first_stand" "first_stand" (defArgs s_first_stand) (defBody s_first_stand) (defScope s_first_stand) .none kV12 dc12 pm12 an12 cd12 ct12), sl12⟩) (c_first_stand : PySem.W.codeIn K cd12 "first_stand" = true) (k_first_stand : PySem.W.keepIn K (.ref f_first_stand_) = true)
    (l_puts_of : K.lookup f_puts_of_ = some ⟨oc13, od13, .func (PySem.W.fnOf "puts_of" "puts_of" (defArgs s_puts_of) (defBody s_puts_of) (defScope s_puts_of) .none kV13 dc13 pm13 an13 cd13 ct13), sl13⟩) (c_puts_of : PySem.W.codeIn K cd13 "puts_of" = true) (k_puts_of : PySem.W.keepIn K (.ref f_puts_of_) = true)
    (l_step_behind : K.lookup f_step_behind_ = some ⟨oc14, od14, .func (PySem.W.fnOf "step_behind" "step_behind" (defArgs s_step_behind) (defBody s_step_behind) (defScope s_step_behind) .none kV14 dc14 pm14 an14 cd14 ct14), sl14⟩) (c_step_behind : PySem.W.codeIn K cd14 "step_behind" = true) (k_step_behind : PySem.W.keepIn K (.ref f_step_behind_) = true)
    (l_found_stands : K.lookup f_found_stands_ = some ⟨oc15, od15, .func (PySem.W.fnOf "found_stands" "found_stands" (defArgs s_found_stands) (defBody s_found_stands) (defScope s_found_stands) .none kV15 dc15 pm15 an15 cd15 ct15), sl15⟩) (c_found_stands : PySem.W.codeIn K cd15 "found_stands" = true) (k_found_stands : PySem.W.keepIn K (.ref f_found_stands_) = true)
    (l_need_stand : K.lookup f_need_stand_ = some ⟨oc16, od16, .func (PySem.W.fnOf "need_stand" "need_stand" (defArgs s_need_stand) (defBody s_need_stand) (defScope s_need_stand) .none kV16 dc16 pm16 an16 cd16 ct16), sl16⟩) (c_need_stand : PySem.W.codeIn K cd16 "need_stand" = true) (k_need_stand : PySem.W.keepIn K (.ref f_need_stand_) = true)
    (l_ways_of : K.lookup f_ways_of_ = some ⟨oc17, od17, .func (PySem.W.fnOf "ways_of" "ways_of" (defArgs s_ways_of) (defBody s_ways_of) (defScope s_ways_of) .none kV17 dc17 pm17 an17 cd17 ct17), sl17⟩) (c_ways_of : PySem.W.codeIn K cd17 "ways_of" = true) (k_ways_of : PySem.W.keepIn K (.ref f_ways_of_) = true)
    (l_ways_between : K.lookup f_ways_between_ = some ⟨oc18, od18, .func (PySem.W.fnOf "ways_between" "ways_between" (defArgs s_ways_between) (defBody s_ways_between) (defScope s_ways_between) .none kV18 dc18 pm18 an18 cd18 ct18), sl18⟩) (c_ways_between : PySem.W.codeIn K cd18 "ways_between" = true) (k_ways_between : PySem.W.keepIn K (.ref f_ways_between_) = true)
    (l_law : K.lookup f_law_ = some ⟨oc19, od19, .func (PySem.W.fnOf "law" "law" (defArgs s_law) (defBody s_law) (defScope s_law) .none kV19 dc19 pm19 an19 cd19 ct19), sl19⟩) (c_law : PySem.W.codeIn K cd19 "law" = true) (k_law : PySem.W.keepIn K (.ref f_law_) = true)
    {C_NoNumber : Addr} (a_NoNumber : PySem.W.nsIn K mainGlobals "NoNumber" = some (some (.ref C_NoNumber)))
    {C_NoReach : Addr} (a_NoReach : PySem.W.nsIn K mainGlobals "NoReach" = some (some (.ref C_NoReach)))
    {C_NoStand : Addr} (a_NoStand : PySem.W.nsIn K mainGlobals "NoStand" = some (some (.ref C_NoStand)))
    (x_NoNumber : PySem.W.excIn K C_NoNumber [.type "ValueError", .type "Exception", .type "BaseException", .type "object"] "ValueError.__new__" = true) (p_NoNumber : PySem.W.keepIn K (.ref C_NoNumber) = true) (r_NoNumber : PySem.W.subIn K (.ref C_NoNumber) (.type "BaseException") = some true) (y_NoNumber : PySem.W.typeIn K (.ref C_NoNumber) = some (.type "type"))
    (x_NoReach : PySem.W.excIn K C_NoReach [.type "ValueError", .type "Exception", .type "BaseException", .type "object"] "ValueError.__new__" = true) (p_NoReach : PySem.W.keepIn K (.ref C_NoReach) = true) (r_NoReach : PySem.W.subIn K (.ref C_NoReach) (.type "BaseException") = some true) (y_NoReach : PySem.W.typeIn K (.ref C_NoReach) = some (.type "type"))
    (x_NoStand : PySem.W.excIn K C_NoStand [.type "ValueError", .type "Exception", .type "BaseException", .type "object"] "ValueError.__new__" = true) (p_NoStand : PySem.W.keepIn K (.ref C_NoStand) = true) (r_NoStand : PySem.W.subIn K (.ref C_NoStand) (.type "BaseException") = some true) (y_NoStand : PySem.W.typeIn K (.ref C_NoStand) = some (.type "type"))
    {t_MOST_REACH : Tok} (a_MOST_REACH : PySem.W.nsIn K mainGlobals "MOST_REACH" = some (some (.int 3 t_MOST_REACH)))
    {t_MOST_THINGS : Tok} (a_MOST_THINGS : PySem.W.nsIn K mainGlobals "MOST_THINGS" = some (some (.int 40 t_MOST_THINGS)))
    (z_bool : PySem.W.nsIn K mainGlobals "bool" = some none)
    (z_dict : PySem.W.nsIn K mainGlobals "dict" = some none)
    (z_int : PySem.W.nsIn K mainGlobals "int" = some none)
    (z_isinstance : PySem.W.nsIn K mainGlobals "isinstance" = some none)
    (z_len : PySem.W.nsIn K mainGlobals "len" = some none)
    (z_list : PySem.W.nsIn K mainGlobals "list" = some none)
    (z_range : PySem.W.nsIn K mainGlobals "range" = some none)
    (z_sorted : PySem.W.nsIn K mainGlobals "sorted" = some none)
    (z_sum : PySem.W.nsIn K mainGlobals "sum" = some none)
    (z_tuple : PySem.W.nsIn K mainGlobals "tuple" = some none)
    : ∃ fd : FuncData, (∀ (s : Shared) (v : Value), BindsTo s fd ⟨[v], []⟩ [("script", v)]) ∧ ∀ base : Heap, K.In base → base.Ns mainGlobals mg → FnOk P w K mg base (L2.CX P w) 5 fa fd ["script"] (spF K mg f_law) := by
  have e := hfa.symm.trans (PySem.W.mg_of X G a_law)
  cases e
  have F__law_draw := fun_mk (st := s__law_draw) l__law_draw c__law_draw k__law_draw
  have b__law_draw := F__law_draw.binds (ps := P__law_draw) fun _ _ _ _ _ _ us hl => match us, hl with | [_, _], _ => rfl
  have F__law_reach := fun_mk (st := s__law_reach) l__law_reach c__law_reach k__law_reach
  have b__law_reach := F__law_reach.binds (ps := P__law_reach) fun _ _ _ _ _ _ us hl => match us, hl with | [_], _ => rfl
  have F__law_steps := fun_mk (st := s__law_steps) l__law_steps c__law_steps k__law_steps
  have b__law_steps := F__law_steps.binds (ps := P__law_steps) fun _ _ _ _ _ _ us hl => match us, hl with | [_, _], _ => rfl
  have F__law_rows := fun_mk (st := s__law_rows) l__law_rows c__law_rows k__law_rows
  have b__law_rows := F__law_rows.binds (ps := P__law_rows) fun _ _ _ _ _ _ us hl => match us, hl with | [_, _, _], _ => rfl
  have F__law_stands := fun_mk (st := s__law_stands) l__law_stands c__law_stands k__law_stands
  have b__law_stands := F__law_stands.binds (ps := P__law_stands) fun _ _ _ _ _ _ us hl => match us, hl with | [_], _ => rfl
  have F__law_table := fun_mk (st := s__law_table) l__law_table c__law_table k__law_table
  have b__law_table := F__law_table.binds (ps := P__law_table) fun _ _ _ _ _ _ us hl => match us, hl with | [_, _, _], _ => rfl
  have F__law_well := fun_mk (st := s__law_well) l__law_well c__law_well k__law_well
  have b__law_well := F__law_well.binds (ps := P__law_well) fun _ _ _ _ _ _ us hl => match us, hl with | [_], _ => rfl
  have F_is_whole_stands := fun_mk (st := s_is_whole_stands) l_is_whole_stands c_is_whole_stands k_is_whole_stands
  have b_is_whole_stands := F_is_whole_stands.binds (ps := P_is_whole_stands) fun _ _ _ _ _ _ us hl => match us, hl with | [_, _, _], _ => rfl
  have F_need_many := fun_mk (st := s_need_many) l_need_many c_need_many k_need_many
  have b_need_many := F_need_many.binds (ps := P_need_many) fun _ _ _ _ _ _ us hl => match us, hl with | [_], _ => rfl
  have F_is_whole := fun_mk (st := s_is_whole) l_is_whole c_is_whole k_is_whole
  have b_is_whole := F_is_whole.binds (ps := P_is_whole) fun _ _ _ _ _ _ us hl => match us, hl with | [_, _, _], _ => rfl
  have F_is_reach := fun_mk (st := s_is_reach) l_is_reach c_is_reach k_is_reach
  have b_is_reach := F_is_reach.binds (ps := P_is_reach) fun _ _ _ _ _ _ us hl => match us, hl with | [_], _ => rfl
  have F_need_reach := fun_mk (st := s_need_reach) l_need_reach c_need_reach k_need_reach
  have b_need_reach := F_need_reach.binds (ps := P_need_reach) fun _ _ _ _ _ _ us hl => match us, hl with | [_], _ => rfl
  have F_first_stand := fun_mk (st := s_first_stand) l_first_stand c_first_stand k_first_stand
  have b_first_stand := F_first_stand.binds (ps := P_first_stand) fun _ _ _ _ _ _ us hl => match us, hl with | [_], _ => rfl
  have F_puts_of := fun_mk (st := s_puts_of) l_puts_of c_puts_of k_puts_of
  have b_puts_of := F_puts_of.binds (ps := P_puts_of) fun _ _ _ _ _ _ us hl => match us, hl with | [_, _], _ => rfl
  have F_step_behind := fun_mk (st := s_step_behind) l_step_behind c_step_behind k_step_behind
  have b_step_behind := F_step_behind.binds (ps := P_step_behind) fun _ _ _ _ _ _ us hl => match us, hl with | [_, _, _], _ => rfl
  have F_found_stands := fun_mk (st := s_found_stands) l_found_stands c_found_stands k_found_stands
  have b_found_stands := F_found_stands.binds (ps := P_found_stands) fun _ _ _ _ _ _ us hl => match us, hl with | [_], _ => rfl
  have F_need_stand := fun_mk (st := s_need_stand) l_need_stand c_need_stand k_need_stand
  have b_need_stand := F_need_stand.binds (ps := P_need_stand) fun _ _ _ _ _ _ us hl => match us, hl with | [_, _], _ => rfl
  have F_ways_of := fun_mk (st := s_ways_of) l_ways_of c_ways_of k_ways_of
  have b_ways_of := F_ways_of.binds (ps := P_ways_of) fun _ _ _ _ _ _ us hl => match us, hl with | [_, _, _], _ => rfl
  have F_ways_between := fun_mk (st := s_ways_between) l_ways_between c_ways_between k_ways_between
  have b_ways_between := F_ways_between.binds (ps := P_ways_between) fun _ _ _ _ _ _ us hl => match us, hl with | [_, _, _, _], _ => rfl
  have F_law := fun_mk (st := s_law) l_law c_law k_law
  have b_law := F_law.binds (ps := P_law) fun _ _ _ _ _ _ us hl => match us, hl with | [_], _ => rfl
  let T : Txt K mg := {
    a__law_draw := _, d__law_draw := _, F__law_draw := F__law_draw, b__law_draw := b__law_draw, a__law_reach := _, d__law_reach := _, F__law_reach := F__law_reach, b__law_reach := b__law_reach, a__law_steps := _, d__law_steps := _, F__law_steps := F__law_steps, b__law_steps := b__law_steps, a__law_rows := _, d__law_rows := _, F__law_rows := F__law_rows, b__law_rows := b__law_rows, a__law_stands := _, d__law_stands := _, F__law_stands := F__law_stands, b__law_stands := b__law_stands, a__law_table := _, d__law_table := _, F__law_table := F__law_table, b__law_table := b__law_table, a__law_well := _, d__law_well := _, F__law_well := F__law_well, b__law_well := b__law_well, a_is_whole_stands := _, d_is_whole_stands := _, F_is_whole_stands := F_is_whole_stands, b_is_whole_stands := b_is_whole_stands, a_need_many := _, d_need_many := _, F_need_many := F_need_many, b_need_many := b_need_many, a_is_whole := _, d_is_whole := _, F_is_whole := F_is_whole, b_is_whole := b_is_whole, a_is_reach := _, d_is_reach := _, F_is_reach := F_is_reach, b_is_reach := b_is_reach, a_need_reach := _, d_need_reach := _, F_need_reach := F_need_reach, b_need_reach := b_need_reach, a_first_stand := _, d_first_stand := _, F_first_stand := F_first_stand, b_first_stand := b_first_stand, a_puts_of := _, d_puts_of := _, F_puts_of := F_puts_of, b_puts_of := b_puts_of, a_step_behind := _, d_step_behind := _, F_step_behind := F_step_behind, b_step_behind := b_step_behind, a_found_stands := _, d_found_stands := _, F_found_stands := F_found_stands, b_found_stands := b_found_stands, a_need_stand := _, d_need_stand := _, F_need_stand := F_need_stand, b_need_stand := b_need_stand, a_ways_of := _, d_ways_of := _, F_ways_of := F_ways_of, b_ways_of := b_ways_of, a_ways_between := _, d_ways_between := _, F_ways_between := F_ways_between, b_ways_between := b_ways_between, a_law := _, d_law := _, F_law := F_law, b_law := b_law, g__law_draw := PySem.W.mg_of X G a__law_draw, g__law_reach := PySem.W.mg_of X G a__law_reach, g__law_rows := PySem.W.mg_of X G a__law_rows, g__law_stands := PySem.W.mg_of X G a__law_stands, g__law_steps := PySem.W.mg_of X G a__law_steps, g__law_table := PySem.W.mg_of X G a__law_table, g__law_well := PySem.W.mg_of X G a__law_well, g_first_stand := PySem.W.mg_of X G a_first_stand, g_found_stands := PySem.W.mg_of X G a_found_stands, g_is_reach := PySem.W.mg_of X G a_is_reach, g_is_whole_orders := PySem.W.mg_of X G a_is_whole_orders, g_is_whole_stands := PySem.W.mg_of X G a_is_whole_stands, g_need_many := PySem.W.mg_of X G a_need_many, g_need_reach := PySem.W.mg_of X G a_need_reach, g_need_stand := PySem.W.mg_of X G a_need_stand, g_puts_of := PySem.W.mg_of X G a_puts_of, g_step_behind := PySem.W.mg_of X G a_step_behind, g_ways_between := PySem.W.mg_of X G a_ways_between, g_ways_of := PySem.W.mg_of X G a_ways_of, C_NoNumber := C_NoNumber, g_NoNumber := PySem.W.mg_of X G a_NoNumber, C_NoReach := C_NoReach, g_NoReach := PySem.W.mg_of X G a_NoReach, C_NoStand := C_NoStand, g_NoStand := PySem.W.mg_of X G a_NoStand, x_NoNumber := x_NoNumber, p_NoNumber := p_NoNumber, r_NoNumber := r_NoNumber, y_NoNumber := y_NoNumber, x_NoReach := x_NoReach, p_NoReach := p_NoReach, r_NoReach := r_NoReach, y_NoReach := y_NoReach, x_NoStand := x_NoStand, p_NoStand := p_NoStand, r_NoStand := r_NoStand, y_NoStand := y_NoStand, t_MOST_REACH := t_MOST_REACH, k_MOST_REACH := PySem.W.mg_of X G a_MOST_REACH, t_MOST_THINGS := t_MOST_THINGS, k_MOST_THINGS := PySem.W.mg_of X G a_MOST_THINGS, m_bool := PySem.W.mg_none_of X G z_bool, m_dict := PySem.W.mg_none_of X G z_dict, m_int := PySem.W.mg_none_of X G z_int, m_isinstance := PySem.W.mg_none_of X G z_isinstance, m_len := PySem.W.mg_none_of X G z_len, m_list := PySem.W.mg_none_of X G z_list, m_range := PySem.W.mg_none_of X G z_range, m_sorted := PySem.W.mg_none_of X G z_sorted, m_sum := PySem.W.mg_none_of X G z_sum, m_tuple := PySem.W.mg_none_of X G z_tuple }
  exact ⟨PySem.W.fnOf "law" "law" (defArgs s_law) (defBody s_law) (defScope s_law) .none kV19 dc19 pm19 an19 cd19 ct19, fun s v => .of_eq rfl, fun base _ _ => ok_law T⟩
end DL
open PySem PySem.W PyProof.Rows
set_option maxHeartbeats 0 in
theorem PySem.Challenge.cw_nearplace_k08_ways_between_holds : PySem.Challenge.rw_nearplace_k08_ways_between.Holds := by
  w_on; o_law; k_head; (case hw => w_witness2)
  k_fill
  refine DL.walk_D (l := PySem.Challenge.rw_nearplace_k08_ways_between) (n := 63) (k := 5) (x := "script") (f := DL.f_law) rfl (by decide) rfl ⟨rfl, by decide, by decide⟩ (fun w h Y => PySem.W.kIn_of Y) ?F DL.law_plain
  case F =>
    intro w mg fa h KX G hmg
    refine' DL.all_mk KX G hmg ?a__law_draw ?a__law_reach ?a__law_rows ?a__law_stands ?a__law_steps ?a__law_table ?a__law_well ?a_first_stand ?a_found_stands ?a_is_reach ?a_is_whole_orders ?a_is_whole_stands ?a_law ?a_need_many ?a_need_reach ?a_need_stand ?a_puts_of ?a_step_behind ?a_ways_between ?a_ways_of ?l__law_draw ?c__law_draw ?k__law_draw ?l__law_reach ?c__law_reach ?k__law_reach ?l__law_steps ?c__law_steps ?k__law_steps ?l__law_rows ?c__law_rows ?k__law_rows ?l__law_stands ?c__law_stands ?k__law_stands ?l__law_table ?c__law_table ?k__law_table ?l__law_well ?c__law_well ?k__law_well ?l_is_whole_stands ?c_is_whole_stands ?k_is_whole_stands ?l_need_many ?c_need_many ?k_need_many ?l_is_whole ?c_is_whole ?k_is_whole ?l_is_reach ?c_is_reach ?k_is_reach ?l_need_reach ?c_need_reach ?k_need_reach ?l_first_stand ?c_first_stand ?k_first_stand ?l_puts_of ?c_puts_of ?k_puts_of ?l_step_behind ?c_step_behind ?k_step_behind ?l_found_stands ?c_found_stands ?k_found_stands ?l_need_stand ?c_need_stand ?k_need_stand ?l_ways_of ?c_ways_of ?k_ways_of ?l_ways_between ?c_ways_between ?k_ways_between ?l_law ?c_law ?k_law ?a_NoNumber ?a_NoReach ?a_NoStand ?x_NoNumber ?p_NoNumber ?r_NoNumber ?y_NoNumber ?x_NoReach ?p_NoReach ?r_NoReach ?y_NoReach ?x_NoStand ?p_NoStand ?r_NoStand ?y_NoStand ?a_MOST_REACH ?a_MOST_THINGS ?z_bool ?z_dict ?z_int ?z_isinstance ?z_len ?z_list ?z_range ?z_sorted ?z_sum ?z_tuple
    (case a__law_draw => first | k_is | k_exc | kit_is)
    (case a__law_reach => first | k_is | k_exc | kit_is)
    (case a__law_rows => first | k_is | k_exc | kit_is)
    (case a__law_stands => first | k_is | k_exc | kit_is)
    (case a__law_steps => first | k_is | k_exc | kit_is)
    (case a__law_table => first | k_is | k_exc | kit_is)
    (case a__law_well => first | k_is | k_exc | kit_is)
    (case a_first_stand => first | k_is | k_exc | kit_is)
    (case a_found_stands => first | k_is | k_exc | kit_is)
    (case a_is_reach => first | k_is | k_exc | kit_is)
    (case a_is_whole_orders => first | k_is | k_exc | kit_is)
    (case a_is_whole_stands => first | k_is | k_exc | kit_is)
    (case a_law => first | k_is | k_exc | kit_is)
    (case a_need_many => first | k_is | k_exc | kit_is)
    (case a_need_reach => first | k_is | k_exc | kit_is)
    (case a_need_stand => first | k_is | k_exc | kit_is)
    (case a_puts_of => first | k_is | k_exc | kit_is)
    (case a_step_behind => first | k_is | k_exc | kit_is)
    (case a_ways_between => first | k_is | k_exc | kit_is)
    (case a_ways_of => first | k_is | k_exc | kit_is)
    (case l__law_draw => first | k_is | k_exc | kit_is)
    (case c__law_draw => first | k_is | k_exc | kit_is)
    (case k__law_draw => first | k_is | k_exc | kit_is)
    (case l__law_reach => first | k_is | k_exc | kit_is)
    (case c__law_reach => first | k_is | k_exc | kit_is)
    (case k__law_reach => first | k_is | k_exc | kit_is)
    (case l__law_steps => first | k_is | k_exc | kit_is)
    (case c__law_steps => first | k_is | k_exc | kit_is)
    (case k__law_steps => first | k_is | k_exc | kit_is)
    (case l__law_rows => first | k_is | k_exc | kit_is)
    (case c__law_rows => first | k_is | k_exc | kit_is)
    (case k__law_rows => first | k_is | k_exc | kit_is)
    (case l__law_stands => first | k_is | k_exc | kit_is)
    (case c__law_stands => first | k_is | k_exc | kit_is)
    (case k__law_stands => first | k_is | k_exc | kit_is)
    (case l__law_table => first | k_is | k_exc | kit_is)
    (case c__law_table => first | k_is | k_exc | kit_is)
    (case k__law_table => first | k_is | k_exc | kit_is)
    (case l__law_well => first | k_is | k_exc | kit_is)
    (case c__law_well => first | k_is | k_exc | kit_is)
    (case k__law_well => first | k_is | k_exc | kit_is)
    (case l_is_whole_stands => first | k_is | k_exc | kit_is)
    (case c_is_whole_stands => first | k_is | k_exc | kit_is)
    (case k_is_whole_stands => first | k_is | k_exc | kit_is)
    (case l_need_many => first | k_is | k_exc | kit_is)
    (case c_need_many => first | k_is | k_exc | kit_is)
    (case k_need_many => first | k_is | k_exc | kit_is)
    (case l_is_whole => first | k_is | k_exc | kit_is)
    (case c_is_whole => first | k_is | k_exc | kit_is)
    (case k_is_whole => first | k_is | k_exc | kit_is)
    (case l_is_reach => first | k_is | k_exc | kit_is)
    (case c_is_reach => first | k_is | k_exc | kit_is)
    (case k_is_reach => first | k_is | k_exc | kit_is)
    (case l_need_reach => first | k_is | k_exc | kit_is)
    (case c_need_reach => first | k_is | k_exc | kit_is)
    (case k_need_reach => first | k_is | k_exc | kit_is)
    (case l_first_stand => first | k_is | k_exc | kit_is)
    (case c_first_stand => first | k_is | k_exc | kit_is)
    (case k_first_stand => first | k_is | k_exc | kit_is)
    (case l_puts_of => first | k_is | k_exc | kit_is)
    (case c_puts_of => first | k_is | k_exc | kit_is)
    (case k_puts_of => first | k_is | k_exc | kit_is)
    (case l_step_behind => first | k_is | k_exc | kit_is)
    (case c_step_behind => first | k_is | k_exc | kit_is)
    (case k_step_behind => first | k_is | k_exc | kit_is)
    (case l_found_stands => first | k_is | k_exc | kit_is)
    (case c_found_stands => first | k_is | k_exc | kit_is)
    (case k_found_stands => first | k_is | k_exc | kit_is)
    (case l_need_stand => first | k_is | k_exc | kit_is)
    (case c_need_stand => first | k_is | k_exc | kit_is)
    (case k_need_stand => first | k_is | k_exc | kit_is)
    (case l_ways_of => first | k_is | k_exc | kit_is)
    (case c_ways_of => first | k_is | k_exc | kit_is)
    (case k_ways_of => first | k_is | k_exc | kit_is)
    (case l_ways_between => first | k_is | k_exc | kit_is)
    (case c_ways_between => first | k_is | k_exc | kit_is)
    (case k_ways_between => first | k_is | k_exc | kit_is)
    (case l_law => first | k_is | k_exc | kit_is)
    (case c_law => first | k_is | k_exc | kit_is)
    (case k_law => first | k_is | k_exc | kit_is)
    (case a_NoNumber => first | k_is | k_exc | kit_is)
    (case a_NoReach => first | k_is | k_exc | kit_is)
    (case a_NoStand => first | k_is | k_exc | kit_is)
    (case x_NoNumber => first | k_is | k_exc | kit_is)
    (case p_NoNumber => first | k_is | k_exc | kit_is)
    (case r_NoNumber => first | k_is | k_exc | kit_is)
    (case y_NoNumber => first | k_is | k_exc | kit_is)
    (case x_NoReach => first | k_is | k_exc | kit_is)
    (case p_NoReach => first | k_is | k_exc | kit_is)
    (case r_NoReach => first | k_is | k_exc | kit_is)
    (case y_NoReach => first | k_is | k_exc | kit_is)
    (case x_NoStand => first | k_is | k_exc | kit_is)
    (case p_NoStand => first | k_is | k_exc | kit_is)
    (case r_NoStand => first | k_is | k_exc | kit_is)
    (case y_NoStand => first | k_is | k_exc | kit_is)
    (case a_MOST_REACH => first | k_is | k_exc | kit_is)
    (case a_MOST_THINGS => first | k_is | k_exc | kit_is)
    (case z_bool => first | k_is | k_exc | kit_is)
    (case z_dict => first | k_is | k_exc | kit_is)
    (case z_int => first | k_is | k_exc | kit_is)
    (case z_isinstance => first | k_is | k_exc | kit_is)
    (case z_len => first | k_is | k_exc | kit_is)
    (case z_list => first | k_is | k_exc | kit_is)
    (case z_range => first | k_is | k_exc | kit_is)
    (case z_sorted => first | k_is | k_exc | kit_is)
    (case z_sum => first | k_is | k_exc | kit_is)
    (case z_tuple => first | k_is | k_exc | kit_is)
